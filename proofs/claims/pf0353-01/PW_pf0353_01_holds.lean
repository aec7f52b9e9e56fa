import PyProof.Rows.All
import Wide.All
import OpenK.AllK
import Wide.FinOn
import PySem.Challenge.RW_pf0353_01
set_option Elab.async false
set_option tactic.hygienic false
set_option maxRecDepth 1000000
set_option linter.all false
open And renaming intro->Ab
open Array renaming length_toList->Bh,mem_toList_iff->Do,getElem?_eq_some_iff->DY,getElem?_toList->ES,isEmpty_iff_size_eq_zero->Hh,toList_append->H7,getElem_toList->Mn,toList_push->Pc,any_toList->P6
open Bool renaming and_eq_true_iff->Aq,and_eq_true->Av,noConfusion->Br,false_ne_true->BM,or_eq_true->BX,casesOn->B5,not_eq_true'->Cw,false_eq_true->CI,eq_iff_iff->CX,not_eq_true->EB,or_true->Fp,and_true->FQ,and_false->GO,true_and->Ht,false_and->IS,eq_false_iff->Js,not_true->JD,false_or->JE,or_eq_true_iff->M6,or_false->Nw,not_false->TH,and_self->Ue
open Char renaming toNat->bR
open Classical renaming choose_spec->ER,choose->Hg
open False renaming elim->Ad
open ForInStep renaming yield->Dv
open Int renaming toNat_of_nonneg->Aw,fmod_nonneg_of_pos->Bv,fmod_lt_of_pos->BN,fdiv_eq_ediv_of_nonneg->Cp,natCast_nonneg->C6,ofNat_le->DE,pow_pos->Ed,le_trans->Fl,add_zero->GH,mul_zero->GI,le_of_lt->GP,pow_succ->GS,not_lt->Hf,zero_add->Ig,lt_of_le_of_lt->IV,one_mul->Jn,eq_ofNat_of_zero_le->J1,zero_mul->KQ,mul_add->Mg,le_refl->Mh,mul_nonneg->Mi,mul_one->Mv,not_le->Oa,add_nonneg->Tr,mul_assoc->T8,ofNat_sub->T9,toNat_lt->WK,toNat_le->WM,ne_of_gt->WS,pow_zero->WU,add_mul->Y7
open List renaming length_append->Ah,mem_singleton->Ai,length_map->Aj,getElem?_eq_some_iff->Ak,length_cons->Al,mem_append->An,append_assoc->Ao,getElem?_eq_getElem->Ap,length_nil->Ar,mem_cons->Au,all_eq_true->Az,mem_append_left->AD,mem_append_right->AG,casesOn->AI,cons_append->AM,nil_append->AP,not_mem_nil->AU,map_cons->AW,length->AX,forall_mem_cons->AZ,append_nil->A7,map_append->Bg,length_filter_le->Bm,zip_cons_cons->Bp,foldl_cons->Bu,length_take->Bx,getElem?_append_left->BD,getElem?_append_right->BE,getElem?_map->BK,mem_filter->BL,mem_of_getElem?->BR,length_range->BS,mem_of_mem_take->BU,range->BZ,flatten_cons->B2,getElem?_modify->B4,length_drop->B7,mem_of_mem_drop->Cm,map_nil->Ct,mem_map_of_mem->Cu,getElem_mem->CL,getElem?_concat_length->CO,all_cons->CP,ext_getElem?->CS,nodup_cons->CY,lookup_cons->C7,filter_cons->C8,mem_filterMap->C9,filter_append->De,eq_nil_of_length_eq_zero->Dn,take_of_length_le->DG,getD_eq_getElem?_getD->DX,getElem?_eq_none->D0,all_append->D4,mem_map->D9,reverse_cons->Eb,filterMap_cons->Er,any_eq_true->Ez,filter_eq_nil_iff->EI,length_pos_of_mem->EJ,take_add_one->EY,flatMap_cons->EZ,foldl_nil->Fc,flatMap_nil->Fs,drop_eq_getElem_cons->Fy,length_reverse->FK,map->FW,length_modify->Gh,zip_nil_right->Gj,replicate->GJ,take_append_drop->G5,isEmpty_iff->Hi,reverse_nil->Ho,map_take->Hu,getElem?_set_ne->HD,forIn_cons->HU,filter_nil->HZ,getElem?_range->H9,map_map->Ii,mem_range->IW,filter_filter->I2,append_cancel_left_eq->I5,getElem?_inj->Jo,nodup_append->Jp,getElem?_set->Jv,foldl_append->Jw,filter_congr->Jx,rec->J0,pairwise_singleton->J2,length_eq_zero_iff->J3,drop_length->J7,mem_flatten->Ka,getElem?_set_self->KY,drop_of_length_le->KZ,getElem?_reverse->LB,eq_nil_or_concat->LC,getElem?_of_mem->Ml,nodup_nil->Mo,getElem_of_mem->MZ,map_congr_left->M3,take_nil->Ny,drop_nil->Nz,any_cons->NA,map_drop->NC,getElem_range->Oc,contains_cons->Og,find?_toArray->Oj,all_map->O5,size_toArray->O8,zip_nil_left->Pi,all_nil->Pj,take->P7,take_length->Qf,mem_flatMap->Qg,of_mem_zip->Q4,range_succ->Q7,drop_zero->Tu
open List.cons renaming inj->DM,injEq->F9
open Nat renaming sub_add_cancel->AE,le_refl->AL,le_trans->AS,zero_add->BO,lt_of_le_of_lt->CH,add_sub_cancel_left->CK,min_eq_left->CW,casesOn->Dm,lt_irrefl->DL,le_add_right->DN,lt_of_lt_of_le->DW,ne_of_lt->Ea,add_assoc->Ei,reduceAdd->Ej,min_le_right->Ey,min_le_left->EM,sub_self->Fn,succ_add_eq_add_succ->FU,le_add_left->F0,sub_le->Gf,exists_eq_add_of_le->Gr,lt_add_of_pos_right->Gx,lt_of_succ_lt_succ->GN,sub_eq_zero_of_le->GZ,min_eq_right->He,lt_succ_self->Hl,pow_le_pow_right->HK,succ_eq_add_one->H6,add_comm->Ih,le_succ->Jr,le_of_not_le->J4,le_of_lt->KW,add_le_add->Mj,add_le_add_right->MB,mul_le_mul_left->MY,one_le_two_pow->Ol,le_of_lt_succ->O2,sub_pos_of_lt->O3,lt_succ_of_lt->Pe,succ_pos->Pf,succ_le_succ->Qb,mod_eq_of_lt->Qd,not_lt_zero->Q0,mul_le_mul->TI,min_self->WJ,sub_zero->WN,le_of_eq->WO,ne_of_gt->WR,zero_le->Y8,log2_lt->Zi,pow_mul->Zk,rec->hV,beq->hX
open Nat.succ renaming inj->O4
open Ne renaming symm->BV
open OfNat renaming ofNat->Y6
open Option renaming some_ne_none->Ay,casesOn->AH,eq_none_iff_forall_ne_some->A9,map_some->Bt,isSome_none->Cn,isSome_some->Dc,map->Dd,map_none->Dw,map_eq_some_iff->DF,getD_some->Fq,toList->FY,getD_none->J9,isSome_map->Pk
open Option.some renaming inj->BB,injEq->Cx
open Prod renaming fst->Bk,snd->CC,ext->Pn
open Prod.mk renaming inj->Co,injEq->FX
open PyProof.Rows renaming bitOr_and->K7,bitAnd_pp->K8,iadd_int->LA,isnot_int_none->RE,isnot_str_none->RF,isnot_ref_none->RG,floordiv_int->TP,is_int_none->Ua,is_str_none->Ub,is_ref_none->Uc,lshift_int->Vh,rshift_int->Vi,len_tuple->WP,isub_int->W3,add_int->Y9,add_str->Za,sub_int->Zb,mul_int->Zc,mod_int->Zd,pow_int->Ze,xor_int->Zf,and_int->Zg,or_int->Zw,lt_int->Zx,gt_int->Zy
open PyProof.Rows.IntsAre renaming length->Mp
open PySem renaming wpAny_bind->Ag,wpAny_pure->Ax,wpAny_holding->Bb,wpAny_standAt->BP,wpAny_loadPart_at->B1,wpAny_mono->Cb,wpAny_isSubtype_exc->CU,getMethod_builtin->Du,wpAny_execs_cons->EA,call_meets->EG,isSubtype_type->E9,strKind_is->Fb,wpAny_Assign_stores->FJ,typeIs_str->Gg,wpAny_truthy_bool->GM,codeAny_mono->GQ,intKind_is->Hj,wpAny_items_cons->Hk,wpAny_loadName_local->HF,arm_assign_Attribute->HI,codeAny_call_builtin->HJ,codeAny_of_tree->HV,wpAny_execs_nil->HW,exec_Assign_arm->HY,compTurn->IY,wpAny_call->I1,wpAny_of_eq->Jq,wpAny_field->Jt,wpAny_Return_some->Ju,wpAny_release->JJ,wpAny_lookBehind->J5,pastItsLine_dict->J6,call_meetsIn->K0,wpAny_items_nil->Ln,wpAny_storeName_local->Ly,wpAny_setField->Mz,wpAt_of_wpAny->M8,wpAny_UnaryOp->NB,wpAny_rule->N7,arm_eval_Attribute->Oe,wpAny_mkText->O9,wpAny_pyIter_list->Pa,list_append->Pb,wpAny_newObj_type->Pg,noFill_tuple_add->P4,wpAny_askSetting->Qc,wpAny_madeBy_exc->Qe,sizeLine_eq->QT,wpAt_bind->Q6,typeIs_int->Tt,wpAny_Name->Tz
open PySem.Around renaming in1_units->P3
open PySem.AutoSeq1 renaming list_insert_list_int_val_1->Lm,list_extend_list_list_0->Mu
open PySem.Builtin renaming bitAnd->E8,bitXor->GL,bitOr->Nx
open PySem.Builtin.Int renaming intBits->Bw
open PySem.Builtin.List renaming listFitsIndex->Tw,listTooLong->Ud
open PySem.Builtin.ObjectAttr renaming storeInDict->Da,storeInOwnDict->GB,newKeyGuard->Hn
open PySem.Builtin.Range renaming rangeSize->CM,small->DA,rangeFitsLong->EX
open PySem.Builtin.Str renaming strSliceIndices->BI,strKind->FG,occurrences->Gs
open PySem.Calls renaming Name_function_global->HG,evalArgs_plain->Mw,call_len_list->M4,loadGlobal_builtin->Od
open PySem.Challenge renaming pw_pf0353_01->EF,rw_pf0353_01->EL
open PySem.Code renaming quiet_builtin->Of
open PySem.DictEntry renaming refKey->P9
open PySem.EntryCells renaming newEntry->M7
open PySem.F renaming excBase_Exception->C1,slot_str_split->EH,slot_dict_get->ET,slot_list_append->FS,args_str_split_2->FT,plainAttrs_list->Gu,plainAttrs_dict->Gv,entry_str_split->Gw,slot_tuple_eq_refl->HE,slot_int_eq_refl->IT,slot_str_eq_refl->IU,args_list_append_2->IX,slot_dict_delitem->Jc,entry_list_append->Jd,slot_list_extend->JG,slot_list_insert->JH,slot_dict_update->JI,slot_tuple_iter->J8,entry_dict_get->K5,type_dict_get->Lx,args_tuple_add_2->N9,entry_tuple_add->O6,slot_tuple_add->P5
open PySem.Heap renaming get?_push_of_some->Ba,get?_push_size->Bi,get?_update_self->CA,get?_update_other->DH,lt_size->D8,SameBut->Fk,size_push->Mx,SlotsOnly->My,get?_update_ne->M9
open PySem.Heap.DictOf renaming new->Lo
open PySem.Heap.IsSliceOf renaming new->bO
open PySem.Heap.IsTuple renaming typeIs->M5
open PySem.Heap.SameBut renaming update->FI
open PySem.Keeper renaming boundFrame->Pd,machine->Tx,frame->WQ
open PySem.NameKind renaming free->Cq,cell->Hr
open PySem.Obj renaming mapFields->FV,data_mapFields->Gi,mapSeq->K4,isFreed_of_fields->Lz,putName->Zh
open PySem.P renaming neg_int->Q3
open PySem.PyData renaming keyHash->Mt,weightAll->Qh,weight->Ug,int->bS
open PySem.SeqAt renaming rc_eq_decline_or->P2
open PySem.Shared renaming heap->HH
open PySem.Str renaming ofString->Aa,ofString_eq_toList->K6,length->TJ
open PySem.Value renaming noConfusion->AR,ref->B0,isStrOf_shape->FH,builtin->Hs,none->IZ,str->MN,type->N8,onHeap->WI,bool->bP
open PySem.Value.type renaming inj->Mm
open PySem.W renaming findIn->A6,Frag->Bj,Looks->CQ,looks_findIn->Dp,nsIn->Ec,keepIn->Ew,clsIn->EN,putL->Fo,typeIn->GR,typeIs_bytes->GW,callWith_of->H8,ownOf->JF,findObj->Ll,keeps_K->Lq,aWorld->Mk,InstAt->Mq,handedOut_of->MA,check_slot->Oh,looks_hook->Oi,plainOver->O7,emptyDict->Ph,isStr_of->P8,handedIn->Qa,makesIn->Q1,takerIn->Q2,bind_fn->Q5,codeIn->Ts,dictOf->Tv,lookIn->TF
open PySem.W.Looks renaming of_pure->G0,ld->Hm
open PySem.Walks renaming list->bQ
open PySem.Within renaming cons->QS,nil->TC
open String renaming reduceEq->F8
namespace Mine
open PySem.Str (ofString)
set_option genSizeOf false
set_option genInjectivity false
section
open PySem
namespace A
inductive Tm|v (i:Nat)|w (i:Nat)|n (c:Nat)|add (a b:Tm)|mul (a b:Tm)|sub (a b:Tm)|cast (a:Tm)|neg (a:Tm)
inductive Pm|le (s:Bool) (a b:Tm)|lt (s:Bool) (a b:Tm)|eq (s:Bool) (a b:Tm)|ne (s d:Bool) (a b:Tm)|nle (s:Bool) (a b:Tm)|nlt (s:Bool) (a b:Tm)|fal
structure Lf where
 k:Int
 x:List Int
 y:List Int
section
noncomputable def gt{α:Type}(d:α)(l:List α):Nat->α:=J0 (λx=>d) (λa x ih i=>Dm i a ih) l
variable(X:List Nat)(Y:List Int)
noncomputable def ZD(t:Tm):Nat:=Tm.rec (λi=>gt 0 X i) (λx=>0) (λc=>Y6 c) (λx x a b=>a+b) (λx x a b=>a*b) (λx x x x=>0) (λx x=>0) (λx x=>0) t
noncomputable def Zu(t:Tm):Int:=Tm.rec (λx=>0) (λi=>gt 0 Y i) (λc=>Y6 c) (λx x a b=>a+b) (λx x a b=>a*b) (λx x a b=>a-b) (λa x=>((ZD X a:Nat):Int)) (λx a=> -a) t
def W8(p:Pm):Prop:=Pm.casesOn p (λs a b=>B5 s (ZD X a<=ZD X b) (Zu X Y a<=Zu X Y b)) (λs a b=>B5 s (ZD X a<ZD X b) (Zu X Y a<Zu X Y b)) (λs a b=>B5 s (ZD X a=ZD X b) (Zu X Y a=Zu X Y b))
 (λs x a b=>B5 s (ZD X a≠ZD X b) (Zu X Y a≠Zu X Y b)) (λs a b=>B5 s (¬ZD X a<=ZD X b) (¬Zu X Y a<=Zu X Y b)) (λs a b=>B5 s (¬ZD X a<ZD X b) (¬Zu X Y a<Zu X Y b)) False
def imp(l:List (Int×Pm))(g:Prop):Prop:=J0 g (λh a r=>W8 X Y h.2->r) l
end
noncomputable def W9(a:List Int):List Int->List Int:=J0 (λb=>b) (λx r ih b=>AI b (x::r) λy s=>(x+y)::ih s) a
noncomputable def zsc(c:Int)(a:List Int):List Int:=J0 [] (λx h r=>(c*x)::r) a
noncomputable def Xa(i:Nat):List Int:=hV [1] (λa r=>0::r) i
noncomputable def Lf.add(a b:Lf):Lf:=⟨a.k+b.k,W9 a.x b.x,W9 a.y b.y⟩
noncomputable def Lf.sc(c:Int)(a:Lf):Lf:=⟨c*a.k,zsc c a.x,zsc c a.y⟩
noncomputable def Lf.sub(a b:Lf):Lf:=a.add (b.sc (-1))
noncomputable def Lf.cst(c:Int):Lf:=⟨c,[],[]⟩
noncomputable def o2{α β:Type}(a b:Option α)(f:α->α->Option β):Option β:=AH a none λx=>AH b none λy=>f x y
noncomputable def o1{α β:Type}(a:Option α)(f:α->Option β):Option β:=AH a none f
noncomputable def wA(t:Tm):Option Lf:=Tm.rec (λi=>some ⟨0,Xa i,[]⟩) (λx=>none) (λc=>some (.cst c)) (λx x a b=>o2 a b λa b=>some (a.add b)) (λp q a b=>Tm.casesOn p (λx=>none) (λx=>none) (λc=>o1 b λb=>some (b.sc c)) (λx x=>none) (λx x=>none) (λx x=>none) (λx=>none) (λx=>none)) (λx x x x=>none) (λx x=>none) (λx x=>none) t
noncomputable def cC(t:Tm):Option Lf:=Tm.rec (λx=>none) (λi=>some ⟨0,[],Xa i⟩) (λc=>some (.cst c)) (λx x a b=>o2 a b λa b=>some (a.add b)) (λp q a b=>Tm.casesOn p (λx=>none) (λx=>none) (λc=>o1 b λb=>some (b.sc c)) (λx x=>none) (λx x=>none) (λx x=>none) (λx=>none) (λx=>none)) (λx x a b=>o2 a b λa b=>some (a.sub b)) (λa x=>wA a) (λx a=>o1 a λa=>some (a.sc (-1))) t
noncomputable def lfS(s:Bool)(t:Tm):Option Lf:=B5 s (wA t) (cC t)
section
variable(X:List Nat)(Y:List Int)
noncomputable def QX(a:List Int):List Nat->Int:=J0 (λh=>0) (λc h ih X=>AI X 0 λx X=>c*(x:Int)+ih X) a
noncomputable def Re(a:List Int):List Int->Int:=J0 (λh=>0) (λc h ih X=>AI X 0 λx X=>c*x+ih X) a
noncomputable def Lf.val(l:Lf):Int:=l.k+QX l.x X+Re l.y Y
theorem lZ(a:List Int):∀(b:List Int)(X:List Nat),QX (W9 a b) X=QX a X+QX b X:=by
 induction a with
 |nil=>intro b X;exact(Ig _).symm
 |cons x r ih=>
  intro b X;cases b with
  |nil=>exact(GH _).symm
  |cons y s=>
   cases X with
   |nil=>rfl
   |cons z Z=>
    show(x+y)*(z:Int)+QX (W9 r s) Z=x*(z:Int)+QX r Z+(y*(z:Int)+QX s Z)
    rw[ih,Y7];lia
theorem l8(a:List Int):∀(b X:List Int),Re (W9 a b) X=Re a X+Re b X:=by
 induction a with
 |nil=>intro b X;exact(Ig _).symm
 |cons x r ih=>
  intro b X;cases b with
  |nil=>exact(GH _).symm
  |cons y s=>
   cases X with
   |nil=>rfl
   |cons z Z=>
    show(x+y)*z+Re (W9 r s) Z=x*z+Re r Z+(y*z+Re s Z)
    rw[ih,Y7];lia
theorem Qby(c:Int)(a:List Int):∀X:List Nat,QX (zsc c a) X=c*QX a X:=by
 induction a with
 |nil=>intro X;exact(GI _).symm
 |cons x r ih=>
  intro X;cases X with
  |nil=>exact(GI _).symm
  |cons z Z=>
   show(c*x)*(z:Int)+QX (zsc c r) Z=c*(x*(z:Int)+QX r Z);rw[ih,Mg,T8]
theorem Qbz(c:Int)(a:List Int):∀X:List Int,Re (zsc c a) X=c*Re a X:=by
 induction a with
 |nil=>intro X;exact(GI _).symm
 |cons x r ih=>
  intro X;cases X with
  |nil=>exact(GI _).symm
  |cons z Z=>
   show(c*x)*z+Re (zsc c r) Z=c*(x*z+Re r Z);rw[ih,Mg,T8]
theorem wB(i:Nat):∀X:List Nat,QX (Xa i) X=(gt 0 X i:Nat):=by
 induction i with
 |zero=>
  intro X;cases X with
  |nil=>rfl
  |cons x r=>show(1:Int)*(x:Int)+QX [] r=(x:Int);rw[Jn];exact GH _
 |succ i ih=>
  intro X;cases X with
  |nil=>rfl
  |cons x r=>show(0:Int)*(x:Int)+QX (Xa i) r=_;rw[KQ,Ig];exact ih r
theorem wC(i:Nat):∀X:List Int,Re (Xa i) X=gt 0 X i:=by
 induction i with
 |zero=>
  intro X;cases X with
  |nil=>rfl
  |cons x r=>show(1:Int)*x+Re [] r=x;rw[Jn];exact GH _
 |succ i ih=>
  intro X;cases X with
  |nil=>rfl
  |cons x r=>show(0:Int)*x+Re (Xa i) r=_;rw[KQ,Ig];exact ih r
theorem Lf.val_add(a b:Lf):(a.add b).val X Y=a.val X Y+b.val X Y:=by
 show a.k+b.k+QX (W9 a.x b.x) X+Re (W9 a.y b.y) Y=a.k+QX a.x X+Re a.y Y+(b.k+QX b.x X+Re b.y Y)
 rw[lZ,l8];lia
theorem Lf.TK(c:Int)(a:Lf):(a.sc c).val X Y=c*a.val X Y:=by
 show c*a.k+QX (zsc c a.x) X+Re (zsc c a.y) Y=c*(a.k+QX a.x X+Re a.y Y);rw[Qby,Qbz,Mg,Mg]
theorem Lf.val_sub(a b:Lf):(a.sub b).val X Y=a.val X Y-b.val X Y:=by
 unfold Lf.sub;rw[Lf.val_add,Lf.TK];lia
theorem Lf.MO(c:Int):(Lf.cst c).val X Y=c:=by
 show c+0+0=c;lia
theorem l9(t:Tm):∀l,wA t=some l->l.val X Y=(ZD X t:Nat):=by
 induction t with
 |v i=>
  intro l h;cases h;show 0+QX (Xa i) X+0=((gt 0 X i:Nat):Int)
  rw[wB];lia
 |w i=>intro l h;cases h
 |n c=>intro l h;cases h;exact Lf.MO X Y _
 |add a b zI zJ=>
  intro l h;have h:(o2 (wA a) (wA b) λa b=>some (a.add b))=some l:=h;cases ea:wA a with
  |none=>rw[ea]at h;cases h
  |some p=>
   cases eb:wA b with
   |none=>rw[ea,eb]at h;cases h
   |some q=>
    rw[ea,eb]at h;cases h;rw[Lf.val_add,zI p ea,zJ q eb];exact(Int.natCast_add ..).symm
 |mul a b zI zJ=>
  intro l h;cases a with
  |n c=>
   have h:(o1 (wA b) λb=>some (b.sc c))=some l:=h;cases eb:wA b with
   |none=>rw[eb]at h;cases h
   |some q=>
    rw[eb]at h;cases h;rw[Lf.TK,zJ q eb];exact(Int.natCast_mul ..).symm
  |_=>cases h
 |sub a b=>intro l h;cases h
 |cast a=>intro l h;cases h
 |neg a=>intro l h;cases h
theorem QbA(t:Tm):∀l,cC t=some l->l.val X Y=Zu X Y t:=by
 induction t with
 |v i=>intro l h;cases h
 |w i=>
  intro l h;cases h;show 0+0+Re (Xa i) Y=gt 0 Y i;rw[wC];lia
 |n c=>intro l h;cases h;exact Lf.MO X Y _
 |add a b zI zJ=>
  intro l h;have h:(o2 (cC a) (cC b) λa b=>some (a.add b))=some l:=h;cases ea:cC a with
  |none=>rw[ea]at h;cases h
  |some p=>
   cases eb:cC b with
   |none=>rw[ea,eb]at h;cases h
   |some q=>rw[ea,eb]at h;cases h;rw[Lf.val_add,zI p ea,zJ q eb];rfl
 |mul a b zI zJ=>
  intro l h;cases a with
  |n c=>
   have h:(o1 (cC b) λb=>some (b.sc c))=some l:=h;cases eb:cC b with
   |none=>rw[eb]at h;cases h
   |some q=>rw[eb]at h;cases h;rw[Lf.TK,zJ q eb];rfl
  |_=>cases h
 |sub a b zI zJ=>
  intro l h;have h:(o2 (cC a) (cC b) λa b=>some (a.sub b))=some l:=h;cases ea:cC a with
  |none=>rw[ea]at h;cases h
  |some p=>
   cases eb:cC b with
   |none=>rw[ea,eb]at h;cases h
   |some q=>rw[ea,eb]at h;cases h;rw[Lf.val_sub,zI p ea,zJ q eb];rfl
 |cast a=>intro l h;exact l9 X Y a l h
 |neg a zI=>
  intro l h;have h:(o1 (cC a) λa=>some (a.sc (-1)))=some l:=h;cases ea:cC a with
  |none=>rw[ea]at h;cases h
  |some p=>rw[ea]at h;cases h;rw[Lf.TK,zI p ea];show -1*Zu X Y a= -Zu X Y a;lia
noncomputable def wt(s:Bool)(t:Tm):Int:=B5 s ((ZD X t:Nat):Int) (Zu X Y t)
theorem mB(s:Bool)(t:Tm)(l:Lf)(h:lfS s t=some l):l.val X Y=wt X Y s t:=by
 cases s with
 |false=>exact l9 X Y t l h
 |true=>exact QbA X Y t l h
end
noncomputable def Xb(p:Pm):Bool:=Pm.casesOn p (λa a a=>false) (λa a a=>false) (λa a a=>true) (λa a a a=>false) (λa a a=>false) (λa a a=>false) false
noncomputable def df(s:Bool)(a b:Tm)(c:Int):Option Lf:=o2 (lfS s a) (lfS s b) λa b=>some ((a.sub b).add (.cst c))
noncomputable def dH(p:Pm):Option Lf:=Pm.casesOn p (λs a b=>df s b a 0) (λs a b=>df s b a (-1)) (λs a b=>df s b a 0) (λx x x x=>none) (λs a b=>df s a b (-1)) (λs a b=>df s a b 0) none
noncomputable def dG(p:Pm):Option Lf:=Pm.casesOn p (λs a b=>df s b a 0) (λs a b=>df s b a (-1)) (λs a b=>df s b a 0) (λs d a b=>B5 d (df s b a (-1)) (df s a b (-1))) (λs a b=>df s a b (-1)) (λs a b=>df s a b 0) (some (.cst (-1)))
noncomputable def okC(E:Bool)(c:Int)(p:Pm):Bool:=Xb p||(!E&&decide (0<=c))
noncomputable def sm(E:Bool)(l:List (Int×Pm)):Option Lf:=J0 (some (.cst 0)) (λh a r=>B5 (decide (h.1=0)) (B5 (okC E h.1 h.2) none (o2 (dH h.2) r λd s=>some ((d.sc h.1).add s))) r) l
noncomputable def okL(l:Lf):Bool:=decide (0<=l.k)&&(l.x.all (λc=>decide (0<=c))&&l.y.all λc=>decide (c=0))
noncomputable def noL(l:Lf):Bool:=decide (l.k=0)&&(l.x.all (λc=>decide (c=0))&&l.y.all λc=>decide (c=0))
noncomputable def cD{α:Type}(o:Option α)(f:α->Bool):Bool:=AH o false f
noncomputable def chk(hs:List (Int×Pm))(g:Pm):Bool:=cD (dG g) λd=>cD (sm (Xb g) hs) λs=>B5 (Xb g) (okL (d.sub s)) (noL (d.sub s))
section
variable(X:List Nat)(Y:List Int)
theorem wD(a:List Int)(h:a.all (λc=>decide (0<=c))=true):∀X:List Nat,0<=QX a X:=by
 induction a with
 |nil=>intro X;exact Mh 0
 |cons c r ih=>
  intro X;rw[CP,Av]at h;cases X with
  |nil=>exact Mh 0
  |cons x X=>exact Tr (Mi (of_decide_eq_true h.1) (C6 x)) (ih h.2 X)
theorem QbB(a:List Int)(h:a.all (λc=>decide (c=0))=true):∀X:List Nat,QX a X=0:=by
 induction a with
 |nil=>intro X;rfl
 |cons c r ih=>
  intro X;rw[CP,Av]at h;cases X with
  |nil=>rfl
  |cons x X=>
   show c*(x:Int)+QX r X=0;rw[of_decide_eq_true h.1,ih h.2,KQ];rfl
theorem mC(a:List Int)(h:a.all (λc=>decide (c=0))=true):∀X:List Int,Re a X=0:=by
 induction a with
 |nil=>intro X;rfl
 |cons c r ih=>
  intro X;rw[CP,Av]at h;cases X with
  |nil=>rfl
  |cons x X=>
   show c*x+Re r X=0;rw[of_decide_eq_true h.1,ih h.2,KQ];rfl
theorem QbC{l:Lf}(h:okL l=true):0<=l.val X Y:=by
 unfold okL at h;rw[Av,Av]at h;show 0<=l.k+QX l.x X+Re l.y Y;rw[mC _ h.2.2];have:=wD _ h.2.1 X;have:=of_decide_eq_true h.1;lia
theorem mD{l:Lf}(h:noL l=true):l.val X Y=0:=by
 unfold noL at h;rw[Av,Av]at h;show l.k+QX l.x X+Re l.y Y=0;rw[mC _ h.2.2,QbB _ h.2.1,of_decide_eq_true h.1];rfl
theorem LG{s:Bool}{a b:Tm}{c:Int}{l:Lf}(h:df s a b c=some l):l.val X Y=wt X Y s a-wt X Y s b+c:=by
 unfold df at h;cases ea:lfS s a with
 |none=>rw[ea]at h;cases h
 |some p=>
  cases eb:lfS s b with
  |none=>rw[ea,eb]at h;cases h
  |some q=>
   rw[ea,eb]at h;cases h;rw[Lf.val_add,Lf.val_sub,Lf.MO,mB X Y s a p ea,mB X Y s b q eb]
theorem Qc1{p:Pm}{l:Lf}(h:dH p=some l)(e:W8 X Y p):0<=l.val X Y/\(Xb p=true->l.val X Y=0):=by
 cases p with
 |le s a b=>rw[LG X Y h];refine⟨?_,λh=>nomatch h⟩;cases s<;>(simp only[W8]at e;simp only[wt];lia)
 |lt s a b=>rw[LG X Y h];refine⟨?_,λh=>nomatch h⟩;cases s<;>(simp only[W8]at e;simp only[wt];lia)
 |eq s a b=>rw[LG X Y h];cases s<;>(simp only[W8]at e;simp only[wt];lia)
 |ne s d a b=>cases h
 |nle s a b=>rw[LG X Y h];refine⟨?_,λh=>nomatch h⟩;cases s<;>(simp only[W8]at e;simp only[wt];lia)
 |nlt s a b=>rw[LG X Y h];refine⟨?_,λh=>nomatch h⟩;cases s<;>(simp only[W8]at e;simp only[wt];lia)
 |fal=>cases h
theorem Qc2{p:Pm}{l:Lf}(h:dG p=some l)(e:0<=l.val X Y)(e0:Xb p=true->l.val X Y=0):W8 X Y p:=by
 cases p with
 |le s a b=>rw[LG X Y h]at e;cases s<;>(simp only[W8];simp only[wt]at e;lia)
 |lt s a b=>rw[LG X Y h]at e;cases s<;>(simp only[W8];simp only[wt]at e;lia)
 |eq s a b=>have e0:=e0 rfl;rw[LG X Y h]at e0;cases s<;>(simp only[W8];simp only[wt]at e0;lia)
 |ne s d a b=>cases d<;>(rw[LG X Y h]at e;cases s<;>(simp only[W8];simp only[wt]at e;lia))
 |nle s a b=>rw[LG X Y h]at e;cases s<;>(simp only[W8];simp only[wt]at e;lia)
 |nlt s a b=>rw[LG X Y h]at e;cases s<;>(simp only[W8];simp only[wt]at e;lia)
 |fal=>cases h;rw[Lf.MO]at e;exact absurd e (by decide)
theorem Qc3{E:Bool}{G:Prop}:∀(hs:List (Int×Pm))(S:Lf),sm E hs=some S->(0<=S.val X Y->(E=true->S.val X Y=0)->G)->imp X Y hs G:=by
 intro hs;induction hs with
 |nil=>intro S h k;cases h;exact k (by rw[Lf.MO];exact Mh 0) λa=>Lf.MO X Y 0
 |cons q r ih=>
  intro S h k;obtain⟨c,p⟩:=q;show W8 X Y p->imp X Y r G;intro e;have h:B5 (decide (c=0)) (B5 (okC E c p) none (o2 (dH p) (sm E r) λd s=>some ((d.sc c).add s))) (sm E r)=some S:=h;cases hc:decide (c=0)with
  |true=>rw[hc]at h;exact ih S h k
  |false=>
   rw[hc]at h;cases hk:okC E c p with
   |false=>rw[hk]at h;cases h
   |true=>
    rw[hk]at h;cases ed:dH p with
    |none=>rw[ed]at h;cases h
    |some d=>
     cases es:sm E r with
     |none=>rw[ed,es]at h;cases h
     |some s=>
      rw[ed,es]at h;cases h;obtain⟨h1,h2⟩:=Qc1 X Y ed e;refine ih s es λh3 h4=>k ?_ λhE=>?_
      all_goals rw[Lf.val_add,Lf.TK]
      .unfold okC at hk;rw[BX,Av]at hk;rcases hk with hk|⟨_,hk⟩
       .rw[h2 hk,GI,Ig];exact h3
       .exact Tr (Mi (of_decide_eq_true hk) h1) h3
      .unfold okC at hk;rw[hE,JD,IS,Nw]at hk;rw[h2 hk,h4 hE,GI];rfl
theorem QbD{hs:List (Int×Pm)}{g:Pm}(h:chk hs g=true):imp X Y hs (W8 X Y g):=by
 unfold chk at h;cases eg:dG g with
 |none=>rw[eg]at h;cases h
 |some d=>
  cases es:sm (Xb g) hs with
  |none=>rw[eg,es]at h;cases h
  |some s=>
   rw[eg,es]at h;have h:B5 (Xb g) (okL (d.sub s)) (noL (d.sub s))=true:=h;refine Qc3 X Y hs s es λh1 h2=>Qc2 X Y eg ?_ λq=>?_
   .cases q:Xb g with
    |false=>
     rw[q]at h;have:=QbC X Y h;rw[Lf.val_sub]at this;lia
    |true=>
     rw[q]at h;have:=mD X Y h;rw[Lf.val_sub]at this;lia
   .rw[q]at h;have:=mD X Y h;rw[Lf.val_sub,h2 q]at this;lia
end
def sel(d:Nat)(a b c e f g h i:Prop):Prop:=Dm d a λd=>Dm d b λd=>Dm d c λd=>Dm d e λd=>Dm d f λd=>Dm d g λd=>Dm d h λx=>i
def dT(f:Nat):Nat->(Tm->Nat->Prop)->Prop:=hV (λn k=>k (.n 0) n) (λx ih n k=>sel (n%16) (k (.v (n/16%16)) (n/256)) (k (.w (n/16%16)) (n/256)) (k (.n (n/256%16^(n/16%16))) (n/256/16^(n/16%16)))
 (ih (n/16) λa m=>ih m λb m=>k (.add a b) m) (ih (n/16) λa m=>ih m λb m=>k (.mul a b) m) (ih (n/16) λa m=>ih m λb m=>k (.sub a b) m) (ih (n/16) λa m=>k (.cast a) m) (ih (n/16) λa m=>k (.neg a) m)) f
noncomputable def bt(n:Nat):Bool:=Dm n false λa=>true
def dP(n:Nat)(k:Pm->Nat->Prop):Prop:=sel (n%8) (dT 99 (n/16) λa m=>dT 99 m λb m=>k (.le (bt (n/8%2)) a b) m) (dT 99 (n/16) λa m=>dT 99 m λb m=>k (.lt (bt (n/8%2)) a b) m) (dT 99 (n/16) λa m=>dT 99 m λb m=>k (.eq (bt (n/8%2)) a b) m)
 (dT 99 (n/16) λa m=>dT 99 m λb m=>k (.ne (bt (n/8%2)) false a b) m) (dT 99 (n/16) λa m=>dT 99 m λb m=>k (.nle (bt (n/8%2)) a b) m) (dT 99 (n/16) λa m=>dT 99 m λb m=>k (.nlt (bt (n/8%2)) a b) m) (k .fal (n/16)) (dT 99 (n/16) λa m=>dT 99 m λb m=>k (.ne (bt (n/8%2)) true a b) m)
noncomputable def sg(n:Nat):Int:=(n%8:Int)*(1-2*(n/8:Int))
def dL(c:Nat):Nat->(List (Int×Pm)->Nat->Prop)->Prop:=hV (λn k=>k [] n) (λa ih n k=>dP (n/16) λp m=>ih m λr m=>k ((sg (n%16),p)::r) m) c
def Dr(N:Nat)(X:List Nat)(Y:List Int):Prop:=dL (N%16) (N/16) λhs m=>dP m λg a=>B5 (chk hs g) True (imp X Y hs (W8 X Y g))
theorem cE{d:Nat}{a b c e f g h i:Prop}(ha:a)(hb:b)(hc:c)(he:e)(hf:f)(hg:g)(hh:h)(hi:i):sel d a b c e f g h i:=
 match d with
 |0=>ha|1=>hb|2=>hc|3=>he|4=>hf|5=>hg|6=>hh|_+7=>hi
theorem GD(f:Nat):∀(n:Nat)(k:Tm->Nat->Prop),(∀t m,k t m)->dT f n k:=by
 induction f with
 |zero=>exactλn k h=>h _ _
 |succ f ih=>exactλn k h=>cE (h _ _) (h _ _) (h _ _) (ih _ _ λa m=>ih _ _ λb m=>h _ _) (ih _ _ λa m=>ih _ _ λb m=>h _ _) (ih _ _ λa m=>ih _ _ λb m=>h _ _) (ih _ _ λa m=>h _ _) (ih _ _ λa m=>h _ _)
theorem mE(n:Nat)(k:Pm->Nat->Prop)(h:∀p m,k p m):dP n k:=
 cE (GD _ _ _ λa m=>GD _ _ _ λb m=>h _ _) (GD _ _ _ λa m=>GD _ _ _ λb m=>h _ _) (GD _ _ _ λa m=>GD _ _ _ λb m=>h _ _) (GD _ _ _ λa m=>GD _ _ _ λb m=>h _ _) (GD _ _ _ λa m=>GD _ _ _ λb m=>h _ _) (GD _ _ _ λa m=>GD _ _ _ λb m=>h _ _) (h _ _) (GD _ _ _ λa m=>GD _ _ _ λb m=>h _ _)
theorem QbE(c:Nat):∀(n:Nat)(k:List (Int×Pm)->Nat->Prop),(∀l m,k l m)->dL c n k:=by
 induction c with
 |zero=>exactλn k h=>h _ _
 |succ c ih=>
  intro n k h;show dP (n/16) (λp m=>dL c m λr m=>k ((sg (n%16),p)::r) m);exact mE _ _ λp m=>ih _ _ λr m=>h _ _
theorem Zz(N:Nat)(X:List Nat)(Y:List Int):Dr N X Y:=QbE _ _ _ λhs m=>mE _ _ λg a=>by
 cases h:chk hs g with
 |false=>trivial
 |true=>exact QbD X Y h
end A
theorem B8(N:Nat):A.Dr N [] []:=A.Zz N _ _
theorem D1(N:Nat){y0:Int}:A.Dr N [] [y0]:=A.Zz N _ _
theorem MR(N:Nat){y0 y1:Int}:A.Dr N [] [y0,y1]:=A.Zz N _ _
theorem wF(N:Nat){y0 y1 y2:Int}:A.Dr N [] [y0,y1,y2]:=A.Zz N _ _
theorem AA(N:Nat){x0:Nat}:A.Dr N [x0] []:=A.Zz N _ _
theorem E3(N:Nat){x0:Nat}{y0:Int}:A.Dr N [x0] [y0]:=A.Zz N _ _
theorem Xc(N:Nat){x0:Nat}{y0 y1:Int}:A.Dr N [x0] [y0,y1]:=A.Zz N _ _
theorem AQ(N:Nat){x0 x1:Nat}:A.Dr N [x0,x1] []:=A.Zz N _ _
theorem Xd(N:Nat){x0 x1:Nat}{y0:Int}:A.Dr N [x0,x1] [y0]:=A.Zz N _ _
theorem mG(N:Nat){x0 x1:Nat}{y0 y1:Int}:A.Dr N [x0,x1] [y0,y1]:=A.Zz N _ _
theorem ZE(N:Nat){x0 x1:Nat}{y0 y1 y2:Int}:A.Dr N [x0,x1] [y0,y1,y2]:=A.Zz N _ _
theorem BC(N:Nat){x0 x1 x2:Nat}:A.Dr N [x0,x1,x2] []:=A.Zz N _ _
theorem Qel(N:Nat){x0 x1 x2:Nat}{y0:Int}:A.Dr N [x0,x1,x2] [y0]:=A.Zz N _ _
theorem Df(N:Nat){x0 x1 x2 x3:Nat}:A.Dr N [x0,x1,x2,x3] []:=A.Zz N _ _
theorem RL(N:Nat){x0 x1 x2 x3 x4:Nat}:A.Dr N [x0,x1,x2,x3,x4] []:=A.Zz N _ _
theorem Qem(N:Nat){x0 x1 x2 x3 x4 x5 x6:Nat}:A.Dr N [x0,x1,x2,x3,x4,x5,x6] []:=A.Zz N _ _
end
section
@[elab_as_elim] theorem Ae.{u} {α:Sort u} {a b:α} {P:α->Prop} (h:a=b) (m:P b):P a:=h▸m
@[elab_as_elim] theorem CV.{u} {α:Sort u} {a b:α} {P:α->Prop} (h:b=a) (m:P b):P a:=h▸m
theorem lts{P:Nat->Prop}{i n:Nat}(h:i<n+1)(a:i<n->P i)(b:P n):P i:=(Nat.lt_or_eq_of_le (O2 h)).elim a λe=>e▸b
@[elab_as_elim] theorem lt2 {P:Nat->Prop} {i:Nat} (h:i<2) (a:P 0) (b:P 1):P i:=lts h (λh=>lts h (λh=>absurd h (Q0 _)) a) b
@[elab_as_elim] theorem lt3 {P:Nat->Prop} {i:Nat} (h:i<3) (a:P 0) (b:P 1) (c:P 2):P i:=lts h (λh=>lt2 h a b) c
@[elab_as_elim] theorem lt4 {P:Nat->Prop} {i:Nat} (h:i<4) (a:P 0) (b:P 1) (c:P 2) (d:P 3):P i:=lts h (λh=>lt3 h a b c) d
@[elab_as_elim] theorem lt6 {P:Nat->Prop} {i:Nat} (h:i<6) (a:P 0) (b:P 1) (c:P 2) (d:P 3) (e:P 4) (f:P 5):P i:=lts h (λh=>lts h (λh=>lt4 h a b c d) e) f
theorem z1{x n:Nat}(h:x<n):n-x=n-x-1+1:=(AE (O3 h)).symm
theorem z2{p n:Nat}(h:p<n):min p n+(n-(p+1))+1=n:=by
 rw[CW (KW h),Ei];exact(congrArg (p+ ·) (z1 h).symm).trans (Nat.add_sub_of_le (KW h))
theorem z3(n l:Nat):min n l+(l-n+1)=l+1:=congrArg (λa=>a+1) ((Ih ..).trans (by rw[Nat.min_comm];exact Nat.sub_add_min_cancel l n))
theorem z4{ix n p p':Nat}(hix:ix<n)(ne:p≠ix)(hp:p<n)(h:p'=p+1\/(p'=0/\p+1=n)):(if p<=ix then ix-p else ix+n-p)=(if p'<=ix then ix-p' else ix+n-p')+1:=by
 rcases h with rfl|⟨rfl,rfl⟩
 .by_cases c:p<=ix
  .have d:=Nat.lt_of_le_of_ne c ne;rw[if_pos c,if_pos (c:=p+1<=ix) d];exact z1 d
  .rw[if_neg c,if_neg (λd=>c (Nat.le_of_succ_le d))];exact z1 (DW hp (F0 ..))
 .have c:¬p<=ix:=λc=>ne (Nat.le_antisymm c (O2 hix));rw[if_neg c,if_pos (Y8 _),Ih p,<-Ei,Nat.add_sub_cancel];rfl
theorem z5{k st d p s K D:Nat}(h:k+st+d+3*p<=150)(a:K<=k+(p-s))(b:D=d+(p-s)):K+st+D+3*min s p<=150:=by
 subst b;rcases Nat.le_total s p with c|c
 .obtain⟨q,rfl⟩:=Gr c;rw[CK]at a;rw[CK,CW c];lia
 .rw[GZ c]at a;rw[GZ c,He c];lia
theorem z6{f:Int}(h:f<9)(a:¬f<2)(b:¬f=2):∃i:Nat,f-3=i/\i<6:=by
 obtain⟨i,e⟩:=Int.le.dest (show(3:Int)<=f from Int.lt_iff_le_and_ne.mpr ⟨Hf.mp a,BV b⟩);subst e;exact⟨i,by rw[Int.add_comm];exact Int.add_sub_cancel _ _,Int.ofNat_lt.mp (Int.lt_of_add_lt_add_left (a:=3) h)⟩
theorem z7(s m:Nat):((s:Int)-1-m).toNat=s-1-m:=by rw[Int.sub_sub,Nat.sub_sub];exact Int.toNat_sub s (1+m)
theorem z8{f d:Int}{P:Nat}(h:0<=f)(g:f<=1000)(a:d.natAbs<P)(b:1000<=P):(f+d).natAbs<P*2:=by
 obtain⟨n,rfl⟩:=J1 h;rw[Nat.mul_two];exact CH (Int.natAbs_add_le ..) (Nat.add_lt_add_of_le_of_lt (AS (DE.mp g) b) a)
theorem z9{n m d:Nat}(h:n+1<=8*m-d)(g:m<=16):n+1<=128:=AS h (AS (Gf ..) (MY 8 g))
theorem z10{m d:Nat}(h:d<=8*m)(g:m<=16):d<=128:=AS h (MY 8 g)
theorem z11{m d n:Nat}(h:n+1<=8*m-d)(k:d<=8*m)(g:m<=16):(d:Int)+((n+1:Nat):Int)-1<=1000:=
 Int.sub_right_le_of_le_add ((DE (n:=1001)).mpr (AS (Mj (z10 k g) (z9 h g)) (by decide)))
theorem z12{s m:Nat}(h:m<s):(s:Int)-1-m=((s-1-m:Nat):Int):=by rw[T9 (Nat.le_sub_one_of_lt h),T9 (Nat.one_le_of_lt h)];rfl
theorem z13{i:Int}(h: -1000000<=i)(g:i<=1000000):i.natAbs<2^20:=by
 cases i with
 |ofNat n=>exact CH (DE.mp g) (by decide)
 |negSucc n=>exact CH (DE.mp (Int.neg_le_neg_iff.mp h)) (by decide)
theorem z14{L b p i:Nat}(hb:b=L)(h:p=b+5\/b+8<=p)(hi:i<L):¬i=p:=by
 subst hb;rintro rfl;rcases h with h|h
 .exact absurd (h▸DN b 5:b<=i) (Nat.not_le.mpr hi)
 .exact absurd (AS (DN ..) h) (Nat.not_le.mpr hi)
theorem z15{k st dr n A sp t D F:Nat}(hA:A<=5)(h1:sp<=A)(h2:t<=sp)(h3:k+st+dr<=15*n)(h4:D<=F)(h5:F<=k+(A-sp+(sp-t)+min t sp)):D+(st+min t sp+1)+(dr+(A-sp)+(sp-t))<=15*(n+1):=by
 obtain⟨r,rfl⟩:=Gr h2;obtain⟨q,rfl⟩:=Gr h1;rw[CW h2,CK,CK]at h5;rw[CW h2,CK,CK];lia
theorem z16{m k:Nat}(h:k<m):m+1-1-k=m-1-k+1:=(z1 h).trans (congrArg (λa=>a+1) (Nat.sub_right_comm ..))
theorem z17{a:Int}(h:0<=a):(a*256).toNat=2^8*a.toNat:=by
 obtain⟨n,rfl⟩:=J1 h;exact Nat.mul_comm n 256
theorem dr{α:Type}(n:Nonempty α)(P:α->Prop):∃a,P a->∀x,P x:=
 (Classical.em (∃x,¬P x)).elim (λ⟨x,h⟩=>⟨x,λg=>absurd g h⟩) λh=>n.elim λa=>⟨a,λy x=>Classical.not_not.mp λg=>h ⟨x,g⟩⟩
theorem np{α β:Type}(n:Nonempty α)(m:Nonempty β):Nonempty (α×β):=n.elim λa=>m.elim λb=>⟨(a,b)⟩
noncomputable def ZF{α:Type}(n:Nonempty α)(P:α->Prop):α:=Hg (dr n P)
theorem MS{α:Type}(n:Nonempty α){P:α->Prop}(h:P (ZF n P)):∀a,P a:=ER (dr n P) h
theorem nL{α:Type}:Nonempty (List α):=⟨[]⟩
theorem nN:Nonempty Nat:=⟨0⟩
theorem nI:Nonempty Int:=⟨0⟩
theorem nB:Nonempty Bool:=⟨true⟩
theorem nQ{α β:Type}:Nonempty (α->β->Prop):=⟨λa a=>True⟩
theorem nSg:Nonempty String:=⟨""⟩
theorem nQ3{α β γ:Type}:Nonempty (α->β->γ->Prop):=⟨λa a a=>True⟩
theorem nA{α:Type}:Nonempty (Array α):=⟨#[]⟩
open PySem in
theorem Os:Nonempty Value:=⟨.none⟩
open PySem in
theorem nH:Nonempty Heap:=⟨{}⟩
open PySem in
theorem nSh:Nonempty Shared:=⟨{}⟩
open PySem in
theorem Ja:Nonempty Around:=⟨{}⟩
open PySem in
theorem nDr:Nonempty Drawn:=⟨{}⟩
open PySem in
theorem nOs:Nonempty OsState:=⟨{}⟩
open PySem in
theorem Qk:Nonempty Expr:=inferInstance
open PySem in
theorem E4:Nonempty Pos:=⟨⟨0,0,0,0⟩⟩
open PySem in
theorem Kb:Nonempty Scope:=inferInstance
open PySem in
theorem NF:Nonempty Env:=inferInstance
open PySem in
theorem hY:Nonempty Program:=inferInstance
open PySem in
theorem nOb:Nonempty Obj:=inferInstance
open PySem in
theorem nSt:Nonempty Stmt:=inferInstance
open PySem in
theorem nFd:Nonempty FuncData:=inferInstance
theorem vR:Nonempty Bj:=⟨[]⟩
open PySem in
theorem lM:Nonempty World:=⟨Mk 1⟩
open PySem in
theorem nMo:Nonempty Model:=hY.elim λp=>⟨⟨λa=>pure (.done (.ret .none)),p,Mk 1⟩⟩
open PySem in
theorem Vn{α β:Type}:Nonempty (α->Option β):=⟨λa=>none⟩
theorem nO{α:Type}:Nonempty (Option α):=⟨none⟩
theorem nq{α:Type}:Nonempty (α->Prop):=⟨λa=>True⟩
theorem A8:Nonempty PySem.Str:=⟨Aa ""⟩
noncomputable def Uj{α0 α1:Type}(n0:Nonempty α0)(n1:Nonempty α1)(P:α0->α1->Prop):α0×α1:=ZF (np n0 n1) λx=>P x.1 x.2
theorem MT{α0 α1:Type}(n0:Nonempty α0)(n1:Nonempty α1){P:α0->α1->Prop}(h:P (Uj n0 n1 P).1 (Uj n0 n1 P).2):∀x0 x1,P x0 x1:=λx0 x1=>MS (np n0 n1) (P:=λx=>P x.1 x.2) h (x0,x1)
noncomputable def W1{α0 α1 α2:Type}(n0:Nonempty α0)(n1:Nonempty α1)(n2:Nonempty α2)(P:α0->α1->α2->Prop):α0×α1×α2:=ZF (np n0 (np n1 n2)) λx=>P x.1 x.2.1 x.2.2
theorem TN{α0 α1 α2:Type}(n0:Nonempty α0)(n1:Nonempty α1)(n2:Nonempty α2){P:α0->α1->α2->Prop}(h:P (W1 n0 n1 n2 P).1 (W1 n0 n1 n2 P).2.1 (W1 n0 n1 n2 P).2.2):∀x0 x1 x2,P x0 x1 x2:=λx0 x1 x2=>MS (np n0 (np n1 n2)) (P:=λx=>P x.1 x.2.1 x.2.2) h (x0,x1,x2)
noncomputable def cG{α0 α1 α2 α3:Type}(n0:Nonempty α0)(n1:Nonempty α1)(n2:Nonempty α2)(n3:Nonempty α3)(P:α0->α1->α2->α3->Prop):α0×α1×α2×α3:=ZF (np n0 (np n1 (np n2 n3))) λx=>P x.1 x.2.1 x.2.2.1 x.2.2.2
theorem ZG{α0 α1 α2 α3:Type}(n0:Nonempty α0)(n1:Nonempty α1)(n2:Nonempty α2)(n3:Nonempty α3){P:α0->α1->α2->α3->Prop}(h:P (cG n0 n1 n2 n3 P).1 (cG n0 n1 n2 n3 P).2.1 (cG n0 n1 n2 n3 P).2.2.1 (cG n0 n1 n2 n3 P).2.2.2):∀x0 x1 x2 x3,P x0 x1 x2 x3:=λx0 x1 x2 x3=>MS (np n0 (np n1 (np n2 n3))) (P:=λx=>P x.1 x.2.1 x.2.2.1 x.2.2.2) h (x0,x1,x2,x3)
noncomputable def Ke{α0 α1 α2 α3 α4:Type}(n0:Nonempty α0)(n1:Nonempty α1)(n2:Nonempty α2)(n3:Nonempty α3)(n4:Nonempty α4)(P:α0->α1->α2->α3->α4->Prop):α0×α1×α2×α3×α4:=ZF (np n0 (np n1 (np n2 (np n3 n4)))) λx=>P x.1 x.2.1 x.2.2.1 x.2.2.2.1 x.2.2.2.2
theorem I8{α0 α1 α2 α3 α4:Type}(n0:Nonempty α0)(n1:Nonempty α1)(n2:Nonempty α2)(n3:Nonempty α3)(n4:Nonempty α4){P:α0->α1->α2->α3->α4->Prop}(h:P (Ke n0 n1 n2 n3 n4 P).1 (Ke n0 n1 n2 n3 n4 P).2.1 (Ke n0 n1 n2 n3 n4 P).2.2.1 (Ke n0 n1 n2 n3 n4 P).2.2.2.1 (Ke n0 n1 n2 n3 n4 P).2.2.2.2):∀x0 x1 x2 x3 x4,P x0 x1 x2 x3 x4:=λx0 x1 x2 x3 x4=>MS (np n0 (np n1 (np n2 (np n3 n4)))) (P:=λx=>P x.1 x.2.1 x.2.2.1 x.2.2.2.1 x.2.2.2.2) h (x0,x1,x2,x3,x4)
noncomputable def E2{α0 α1 α2 α3 α4 α5:Type}(n0:Nonempty α0)(n1:Nonempty α1)(n2:Nonempty α2)(n3:Nonempty α3)(n4:Nonempty α4)(n5:Nonempty α5)(P:α0->α1->α2->α3->α4->α5->Prop):α0×α1×α2×α3×α4×α5:=ZF (np n0 (np n1 (np n2 (np n3 (np n4 n5))))) λx=>P x.1 x.2.1 x.2.2.1 x.2.2.2.1 x.2.2.2.2.1 x.2.2.2.2.2
theorem Fd{α0 α1 α2 α3 α4 α5:Type}(n0:Nonempty α0)(n1:Nonempty α1)(n2:Nonempty α2)(n3:Nonempty α3)(n4:Nonempty α4)(n5:Nonempty α5){P:α0->α1->α2->α3->α4->α5->Prop}(h:P (E2 n0 n1 n2 n3 n4 n5 P).1 (E2 n0 n1 n2 n3 n4 n5 P).2.1 (E2 n0 n1 n2 n3 n4 n5 P).2.2.1 (E2 n0 n1 n2 n3 n4 n5 P).2.2.2.1 (E2 n0 n1 n2 n3 n4 n5 P).2.2.2.2.1 (E2 n0 n1 n2 n3 n4 n5 P).2.2.2.2.2):∀x0 x1 x2 x3 x4 x5,P x0 x1 x2 x3 x4 x5:=λx0 x1 x2 x3 x4 x5=>MS (np n0 (np n1 (np n2 (np n3 (np n4 n5))))) (P:=λx=>P x.1 x.2.1 x.2.2.1 x.2.2.2.1 x.2.2.2.2.1 x.2.2.2.2.2) h (x0,x1,x2,x3,x4,x5)
noncomputable def GE{α0 α1 α2 α3 α4 α5 α6:Type}(n0:Nonempty α0)(n1:Nonempty α1)(n2:Nonempty α2)(n3:Nonempty α3)(n4:Nonempty α4)(n5:Nonempty α5)(n6:Nonempty α6)(P:α0->α1->α2->α3->α4->α5->α6->Prop):α0×α1×α2×α3×α4×α5×α6:=ZF (np n0 (np n1 (np n2 (np n3 (np n4 (np n5 n6)))))) λx=>P x.1 x.2.1 x.2.2.1 x.2.2.2.1 x.2.2.2.2.1 x.2.2.2.2.2.1 x.2.2.2.2.2.2
theorem Hp{α0 α1 α2 α3 α4 α5 α6:Type}(n0:Nonempty α0)(n1:Nonempty α1)(n2:Nonempty α2)(n3:Nonempty α3)(n4:Nonempty α4)(n5:Nonempty α5)(n6:Nonempty α6){P:α0->α1->α2->α3->α4->α5->α6->Prop}(h:P (GE n0 n1 n2 n3 n4 n5 n6 P).1 (GE n0 n1 n2 n3 n4 n5 n6 P).2.1 (GE n0 n1 n2 n3 n4 n5 n6 P).2.2.1 (GE n0 n1 n2 n3 n4 n5 n6 P).2.2.2.1 (GE n0 n1 n2 n3 n4 n5 n6 P).2.2.2.2.1 (GE n0 n1 n2 n3 n4 n5 n6 P).2.2.2.2.2.1 (GE n0 n1 n2 n3 n4 n5 n6 P).2.2.2.2.2.2):∀x0 x1 x2 x3 x4 x5 x6,P x0 x1 x2 x3 x4 x5 x6:=λx0 x1 x2 x3 x4 x5 x6=>MS (np n0 (np n1 (np n2 (np n3 (np n4 (np n5 n6)))))) (P:=λx=>P x.1 x.2.1 x.2.2.1 x.2.2.2.1 x.2.2.2.2.1 x.2.2.2.2.2.1 x.2.2.2.2.2.2) h (x0,x1,x2,x3,x4,x5,x6)
noncomputable def G8{α0 α1 α2 α3 α4 α5 α6 α7:Type}(n0:Nonempty α0)(n1:Nonempty α1)(n2:Nonempty α2)(n3:Nonempty α3)(n4:Nonempty α4)(n5:Nonempty α5)(n6:Nonempty α6)(n7:Nonempty α7)(P:α0->α1->α2->α3->α4->α5->α6->α7->Prop):α0×α1×α2×α3×α4×α5×α6×α7:=ZF (np n0 (np n1 (np n2 (np n3 (np n4 (np n5 (np n6 n7))))))) λx=>P x.1 x.2.1 x.2.2.1 x.2.2.2.1 x.2.2.2.2.1 x.2.2.2.2.2.1 x.2.2.2.2.2.2.1 x.2.2.2.2.2.2.2
theorem Ir{α0 α1 α2 α3 α4 α5 α6 α7:Type}(n0:Nonempty α0)(n1:Nonempty α1)(n2:Nonempty α2)(n3:Nonempty α3)(n4:Nonempty α4)(n5:Nonempty α5)(n6:Nonempty α6)(n7:Nonempty α7){P:α0->α1->α2->α3->α4->α5->α6->α7->Prop}(h:P (G8 n0 n1 n2 n3 n4 n5 n6 n7 P).1 (G8 n0 n1 n2 n3 n4 n5 n6 n7 P).2.1 (G8 n0 n1 n2 n3 n4 n5 n6 n7 P).2.2.1 (G8 n0 n1 n2 n3 n4 n5 n6 n7 P).2.2.2.1 (G8 n0 n1 n2 n3 n4 n5 n6 n7 P).2.2.2.2.1 (G8 n0 n1 n2 n3 n4 n5 n6 n7 P).2.2.2.2.2.1 (G8 n0 n1 n2 n3 n4 n5 n6 n7 P).2.2.2.2.2.2.1 (G8 n0 n1 n2 n3 n4 n5 n6 n7 P).2.2.2.2.2.2.2):∀x0 x1 x2 x3 x4 x5 x6 x7,P x0 x1 x2 x3 x4 x5 x6 x7:=λx0 x1 x2 x3 x4 x5 x6 x7=>MS (np n0 (np n1 (np n2 (np n3 (np n4 (np n5 (np n6 n7))))))) (P:=λx=>P x.1 x.2.1 x.2.2.1 x.2.2.2.1 x.2.2.2.2.1 x.2.2.2.2.2.1 x.2.2.2.2.2.2.1 x.2.2.2.2.2.2.2) h (x0,x1,x2,x3,x4,x5,x6,x7)
noncomputable def Ql{α0 α1 α2 α3 α4 α5 α6 α7 α8:Type}(n0:Nonempty α0)(n1:Nonempty α1)(n2:Nonempty α2)(n3:Nonempty α3)(n4:Nonempty α4)(n5:Nonempty α5)(n6:Nonempty α6)(n7:Nonempty α7)(n8:Nonempty α8)(P:α0->α1->α2->α3->α4->α5->α6->α7->α8->Prop):α0×α1×α2×α3×α4×α5×α6×α7×α8:=ZF (np n0 (np n1 (np n2 (np n3 (np n4 (np n5 (np n6 (np n7 n8)))))))) λx=>P x.1 x.2.1 x.2.2.1 x.2.2.2.1 x.2.2.2.2.1 x.2.2.2.2.2.1 x.2.2.2.2.2.2.1 x.2.2.2.2.2.2.2.1 x.2.2.2.2.2.2.2.2
theorem Xe{α0 α1 α2 α3 α4 α5 α6 α7 α8:Type}(n0:Nonempty α0)(n1:Nonempty α1)(n2:Nonempty α2)(n3:Nonempty α3)(n4:Nonempty α4)(n5:Nonempty α5)(n6:Nonempty α6)(n7:Nonempty α7)(n8:Nonempty α8){P:α0->α1->α2->α3->α4->α5->α6->α7->α8->Prop}(h:P (Ql n0 n1 n2 n3 n4 n5 n6 n7 n8 P).1 (Ql n0 n1 n2 n3 n4 n5 n6 n7 n8 P).2.1 (Ql n0 n1 n2 n3 n4 n5 n6 n7 n8 P).2.2.1 (Ql n0 n1 n2 n3 n4 n5 n6 n7 n8 P).2.2.2.1 (Ql n0 n1 n2 n3 n4 n5 n6 n7 n8 P).2.2.2.2.1 (Ql n0 n1 n2 n3 n4 n5 n6 n7 n8 P).2.2.2.2.2.1 (Ql n0 n1 n2 n3 n4 n5 n6 n7 n8 P).2.2.2.2.2.2.1 (Ql n0 n1 n2 n3 n4 n5 n6 n7 n8 P).2.2.2.2.2.2.2.1 (Ql n0 n1 n2 n3 n4 n5 n6 n7 n8 P).2.2.2.2.2.2.2.2):∀x0 x1 x2 x3 x4 x5 x6 x7 x8,P x0 x1 x2 x3 x4 x5 x6 x7 x8:=λx0 x1 x2 x3 x4 x5 x6 x7 x8=>MS (np n0 (np n1 (np n2 (np n3 (np n4 (np n5 (np n6 (np n7 n8)))))))) (P:=λx=>P x.1 x.2.1 x.2.2.1 x.2.2.2.1 x.2.2.2.2.1 x.2.2.2.2.2.1 x.2.2.2.2.2.2.1 x.2.2.2.2.2.2.2.1 x.2.2.2.2.2.2.2.2) h (x0,x1,x2,x3,x4,x5,x6,x7,x8)
section
open PySem
noncomputable def BJ:List (Str×NameKind)->Str->Option NameKind
 |[],_=>none
 |p::r,x=>if p.1=x then some p.2 else BJ r x
noncomputable def Ft:List Str:=["fields","family","sets","order","cells","at","slots","known","pending","dropped","statements"]
noncomputable def stC.{u} {α:Sort u}(s:Stmt)(fn_:Str->Arguments->List Stmt->Scope->α)(cls_:Str->List Stmt->α)(ret_:Option Expr->α)(del_:List Expr->α)(asn_:List Expr->Expr->α)(aug_:Expr->Operator->Expr->α)(fr_:Expr->Expr->List Stmt->List Stmt->α)(wh_:Expr->List Stmt->List Stmt->α)(ite_:Expr->List Stmt->List Stmt->α)(rai_:Option Expr->Option Expr->α)(tr_:List Stmt->List ExceptHandler->List Stmt->List Stmt->α)(expr_:Expr->α)(pass_:α)(cont_:α)(other:α):α:=match s with
 | .FunctionDef a b c _ _ _ d _ _ _=>fn_ a b c d
 | .ClassDef a _ _ b _ _ _ _ _ _ _=>cls_ a b
 | .Return a _=>ret_ a
 | .Delete a _=>del_ a
 | .Assign a b _=>asn_ a b
 | .AugAssign a b c _=>aug_ a b c
 | .For a b c d _=>fr_ a b c d
 | .While a b c _=>wh_ a b c
 | .If a b c _=>ite_ a b c
 | .Raise a b _=>rai_ a b
 | .Try a b c d _=>tr_ a b c d
 | .Expr a _=>expr_ a
 | .Pass _=>pass_
 | .Continue _=>cont_
 |_=>other
noncomputable def ZH(s:Stmt):Option Str:=stC s (λname a a a=>some name) (λa a=>none) (λa=>none) (λa=>none) (λa a=>none) (λa a a=>none) (λa a a a=>none) (λa a a=>none) (λa a a=>none) (λa a=>none) (λa a a a=>none) (λa=>none) none none none
noncomputable def I6:List Str:=EF.main.body.filterMap ZH
noncomputable def JN(a:Arguments):List Str:=a.args.map (λx=>x.arg)
noncomputable def Ls:List Stmt->Nat->Option Stmt
 |[],_=>none
 |s::r,n=>match n with
  |0=>some s
  |n+1=>Ls r n
noncomputable def body:List Stmt:=EF.main.body
end
section
open PySem PySem.Calls PyProof.Rows
abbrev NE:String:="Exception.__new__"
abbrev Px(cW:Addr):List Value:=[.ref cW,.type "Exception",.type "BaseException",.type "object"]
structure lO where
 body:FuncBody
 scope:Scope
 globals:Addr
 closure:List (Str×Addr)
 builtins:Addr
 params:Arguments
noncomputable def dF(d:Data):Option FuncData:=match d with
 | .func fd=>some fd
 |_=>none
noncomputable def dS(d:Data):Bool:=match d with
 | .seq _ _=>true
 |_=>false
noncomputable def zK(K:Bj)(a:Addr):Option FuncData:=AH (K.lookup a) none λo=>dF o.data
noncomputable def ffF(fd:FuncData):lO:=⟨fd.body,fd.scope,fd.globals,fd.closure,fd.builtins,fd.params⟩
noncomputable def ZA(K:Bj)(a:Addr):Option lO:=AH (zK K a) none λfd=>some (ffF fd)
noncomputable def wG(s:Stmt):Option lO:=stC s (λa args body scope=>some ⟨.stmts body,scope,mainGlobals,[],builtinsNs,args⟩) (λa a=>none) (λa=>none) (λa=>none) (λa a=>none) (λa a a=>none) (λa a a a=>none) (λa a a=>none) (λa a a=>none) (λa a=>none) (λa a a a=>none) (λa=>none) none none none
noncomputable def zL(s:Stmt):Option lO:=stC s (λa a a a=>none) (λa b=>AI b none λs r=>AI r (wG s) λa a=>none) (λa=>none) (λa=>none) (λa a=>none) (λa a a=>none) (λa a a a=>none) (λa a a=>none) (λa a a=>none) (λa a=>none) (λa a a a=>none) (λa=>none) none none none
noncomputable def Uk(a:Arguments):Bool:=a.posonlyargs.isEmpty&&a.vararg.isNone&&a.kwonlyargs.isEmpty&&a.kwarg.isNone&&decide (JN a).Nodup
noncomputable def mH(sc:Scope)(x:Str):Bool:=BJ sc.names x==some .local||BJ sc.names x==some .cell
noncomputable def dfK(K:Bj)(v:Value):Bool:=match v with
 | .none=>true
 | .ref T=>AH (K.lookup T) false λo=>dS o.data
 |_=>false
noncomputable def okD(K:Bj)(fd:FuncData):Bool:=Ts K fd.code fd.qualname&&Uk fd.params&& !fd.scope.isCoroutine&& !fd.scope.isGenerator&&(JN fd.params).all (mH fd.scope)&&dfK K fd.defaults
noncomputable def lQ(K:Bj)(a:Addr):Bool:=AH (zK K a) false (okD K)
noncomputable def bT:List (Nat×Addr):=[(4,53),(5,60),(6,67),(7,74),(8,81),(9,88),(10,95),(11,102),(12,109),(13,116),(14,123),(15,130),(16,137),(17,144),(18,151),(19,158),(20,165),(21,172),(25,223),(27,230),(28,235),(29,242),(30,249),(32,256),(35,284),(36,291),(37,298),(38,305),(39,312),(40,319),(41,326),(42,333),(43,338),(44,345),(45,352),(46,359),(47,366),(48,373),(49,380),(50,387),(51,394),(52,401),(53,408),(54,415),(55,422),(56,429),(57,436),(58,443),(59,450),(60,457),(61,464),(62,471),(63,478),(64,485),(65,492),(66,499),(67,506),(68,513),(69,520),(70,527),(71,534),(72,541),(73,548),(74,555),(75,562),(76,569),(77,576),(78,583),(79,590),(81,597),(82,604),(83,611),(84,616),(85,621),(86,626),(87,633),(88,640),(89,647),(90,654),(91,661),(92,668),(93,675),(94,682),(95,687),(96,692),(97,699),(98,706),(99,711),(100,716)]
noncomputable def Iq:List Str:=["len","tuple","list","bytes","str","any","range","Exception"]
end
section
set_option maxHeartbeats 0
open PySem PySem.W PyProof.Rows
noncomputable def hq:Program:=view EF [100]
noncomputable def u7:List Str:=(body.take 100).filterMap λs=>stC s (λn a a a=>some n) (λn a=>some n) (λa=>none) (λa=>none) (λa a=>none) (λa a a=>none) (λa a a a=>none) (λa a a=>none) (λa a a=>none) (λa a=>none) (λa a a a=>none) (λa=>none) none none none
noncomputable def Qen:List Nat:=[3,27,28,30,31,43,44]++(bT.take 24).flatMap (λp=>[p.2-1,p.2])++[269,270,272,273]++(bT.drop 24).flatMap λp=>if p.2=590 then[585,589,590]else[p.2-1,p.2]
noncomputable def nf(o:Obj):Bool:=match o.data with
 | .freed=>false
 |_=>true
theorem QbF{h:Heap}{d:Nat}{o:Obj}(e:h.objs[d]? =some o)(q:nf o=true):h.get? d=some o:=by
 obtain⟨c,x,da,sl⟩:=o;unfold Heap.get?;rw[e];cases da with
 |freed=>cases q
 |_=>rfl
noncomputable def ZI:List Obj->Nat->List Nat->Frag
 |[],_,_=>[]
 |o::os,i,ns=>AI ns [] λn ns=>cond (hX i n&&nf o) ((i,o)::ZI os (i+1) ns) (ZI os (i+1) (n::ns))
noncomputable def Kof(h:Heap):Frag:=ZI h.objs.toList 0 Qen
theorem cH:∀(l:List Obj)(i:Nat)(ns:List Nat)(a:Addr)(o:Obj),(ZI l i ns).lookup a=some o->∃d,a=i+d/\l[d]? =some o/\nf o=true
 |[],_,_,_,_,e=>nomatch e
 |x::l,i,ns,a,o,e=>by
  cases ns with
  |nil=>exact nomatch e
  |cons n ns=>
   replace e:(cond (hX i n&&nf x) ((i,x)::ZI l (i+1) ns) (ZI l (i+1) (n::ns))).lookup a=some o:=e;have st:∀ns,(ZI l (i+1) ns).lookup a=some o->∃d,a=i+d/\(x::l)[d]? =some o/\nf o=true:=λns e=>(cH l (i+1) ns a o e).elim λd h=>⟨d+1,by rw[h.1,Ei,Ih 1],h.2⟩
   cases c:hX i n&&nf x with
   |false=>rw[c]at e;exact st _ e
   |true=>
    rw[c]at e;by_cases q:a=i
    .subst q;rw[cond_true,List.lookup_cons_self]at e;cases e;exact⟨0,rfl,rfl,(Aq.mp c).2⟩
    .rw[cond_true,C7,beq_eq_false_iff_ne.mpr q]at e;exact st _ e
theorem Kof_in(h:Heap):(Kof h).In h:=λa o e=>by
 obtain⟨d,rfl,h2,q⟩:=cH _ _ _ _ _ e;rw[BO];exact QbF (by rw[<-ES];exact h2) q
noncomputable def Ob:Type:=List (Option lO)×Bool×List (Option (Option Value))×Bool×List (Option (Option Value))×(Option (Option Value)×Option (Option Value))×List (Option (Option Value))×(Option (Option Value)×Option (Option Value)×Option (Option Value))×
 (Option Bool×Bool×Bool×Bool×Option Value)×(Option lO×Bool)×(Option (Option Value)×Option (Option Value)×Option (Option Value)×Option (Option Value)×Option (Option Value)×Option (Option Value))×(Option Bool×Bool×Option Value)×(Option lO×Bool)×Option Obj
noncomputable def obK(K:Frag):Ob:=(bT.map λp=>ZA K p.2,bT.all λp=>lQ K p.2,I6.map λx=>nsIn K mainGlobals x,bT.all λp=>keepIn K (.ref p.2),Iq.map λx=>nsIn K mainGlobals x,(nsIn K mainGlobals "Reading",nsIn K mainGlobals "Misused"),
 Ft.map λx=>findIn K (.ref 273) x,(findIn K (.ref 273) "__getattribute__",findIn K (.ref 273) "__setattr__",findIn K (.ref 273) "__init__"),
 ((clsIn K 273).map (λa=>a.hasDict),plainOver K 273,makesIn K 273,keepIn K (.ref 273),typeIn K (.ref 270)),(ZA K 270,lQ K 270),
 (findIn K (.ref 44) "__getattribute__",findIn K (.ref 44) "__setattr__",findIn K (.ref 44) "__init__",findIn K (.ref 44) "__getattr__",findIn K (.ref 44) "why",findIn K (.ref 44) "at"),
 ((clsIn K 44).map (λa=>a.hasDict),keepIn K (.ref 44),typeIn K (.ref 28)),(ZA K 28,lQ K 28),K.lookup 44)
noncomputable def obV:Ob:=(bT.map λp=>(Ls body p.1).bind wG,true,bT.map λp=>some (some (.ref p.2)),true,GJ 8 (some none),(some (some (.ref 273)),some (some (.ref 44))),
 GJ 11 (some none),(some (some (.builtin "object.__getattribute__")),some (some (.builtin "object.__setattr__")),some (some (.ref 270))),
 (some true,true,true,true,some (.type "function")),((Ls body 34).bind zL,true),
 (some (some (.builtin "BaseException.__getattribute__")),some (some (.builtin "object.__setattr__")),some (some (.ref 28)),some none,some none,some none),
 (some true,true,some (.type "function")),((Ls body 1).bind zL,true),some (excClassObj "Misused" "Misused" 44 43 [.ref 31] (Px 31) true [] [] false none none (some (.ref 35)) none (some (.str "Misused" 219)) (some (.str "Misused" 227)) (some (.bool true)) NE))
theorem hl:LeftO EF hq u7 (λs=>xlAt hq [] s&&recOk [] s) (λs=>obK (Kof s.heap)) (λa=>obV) 16500:=by
 intro w;unfold openEnds fencedOpening topFrom staticsOk namesBound gensDone laidKept;rw[Fast.te14364793385576792824,Fast.te10274390034422433532,Fast.te1435165496053646825,Fast.te14289696077712309145,Fast.te14082659384304107361,Fast.te8920871248978507458,Fast.te18344453789297297638];rw[Fast.te5923862056798008813];rw[Fast.te4187177175401517315];rw[Fast.sDec_eq];kernel_rfl
theorem said1:EL.wellSaid=true:=
 (congrFun Fast.te9446332074065402090 _).trans (by kernel_rfl:Fast.tw9446332074065402090 EL=true)
end
end
section
open PySem
section
inductive AV where
 |none
 |bool (b:Bool)
 |int (i:Int)
 |str (s:Str)
 |bytes (b:List Int)
 |tup (xs:List AV)
 |ref (i:Nat)
 |fn (x:Str)
 |W4 (ns:List Int)
theorem iF{α:Type}{a:α}{G:Prop}(h:none=some a):G:=nomatch h
theorem W2:Nonempty AV:=⟨.none⟩
inductive AO where
 |list (fz:Bool) (xs:List AV)
 |sd (fz:Bool) (kvs:List (Str×AV))
 |RH (fz:Bool) (kvs:List (Int×AV))
 |inst (d:Nat)
abbrev St:=List AO
abbrev Fm:=List (Str×AV)
noncomputable def AO.fz(o:AO):Bool:=AO.casesOn o (λb a=>b) (λb a=>b) (λb a=>b) (λa=>true)
noncomputable def AO.El(b:Bool)(o:AO):AO:=AO.casesOn o (λa xs=> .list b xs) (λa k=> .sd b k) (λa k=> .RH b k) .inst
noncomputable def Dj:Fm->Str->Option AV
 |[],_=>none
 |p::r,x=>if p.1=x then some p.2 else Dj r x
noncomputable def Kf:Fm->Str->AV->Fm
 |[],x,v=>[(x,v)]
 |p::r,x,v=>if p.1=x then(p.1,v)::r else p::Kf r x v
noncomputable def EP{K:Type}[DecidableEq K]:List (K×AV)->K->Option AV
 |[],_=>none
 |p::r,x=>if p.1=x then some p.2 else EP r x
noncomputable def Ib{K:Type}[DecidableEq K]:List (K×AV)->K->AV->List (K×AV)
 |[],x,v=>[(x,v)]
 |p::r,x,v=>if p.1=x then(p.1,v)::r else p::Ib r x v
noncomputable def Xf{K:Type}[DecidableEq K]:List (K×AV)->K->List (K×AV)
 |[],_=>[]
 |p::r,x=>if p.1=x then r else p::Xf r x
theorem Vo{K:Type}[DecidableEq K] {x:K}:EP [] x=none:=rfl
theorem Vp{K:Type}[DecidableEq K] {p:K×AV}{r:List (K×AV)}{x:K}:EP (p::r) x=if p.1=x then some p.2 else EP r x:=rfl
theorem ZJ{K:Type}[DecidableEq K] {x:K}{v:AV}:Ib [] x v=[(x,v)]:=rfl
theorem ZK{K:Type}[DecidableEq K] {p:K×AV}{r:List (K×AV)}{x:K}{v:AV}:Ib (p::r) x v=if p.1=x then(p.1,v)::r else p::Ib r x v:=rfl
noncomputable def It{K:Type}[DecidableEq K] (a b:List (K×AV)):List (K×AV):=b.foldl (λacc p=>Ib acc p.1 p.2) a
noncomputable def Rf{α:Type}(xs:List α)(k:Int):Option α:=
 if 0<=k then(if k<=1000000 then xs[k.toNat]? else none)else if -1000000<=k/\0<=k+xs.length then xs[(k+xs.length).toNat]? else none
noncomputable def Ce:Nat:=1000000
noncomputable def fits(i:Int):Bool:=decide (Bw i<=2097152)
def Bn{α:Type}(x:Option α)(Q:α->Prop):Prop:=AH x False Q
abbrev Ok{α β:Type}(x:Option (α×β))(Q:α->β->Prop):Prop:=Bn x λp=>Q p.1 p.2
section
variable{α:Type}
noncomputable def GV(v:AV)(f:Int->Option α):Option α:=AV.casesOn v none (λa=>none) f (λa=>none) (λa=>none) (λa=>none) (λa=>none) (λa=>none) (λa=>none)
noncomputable def QU(v:AV)(f:Str->Option α):Option α:=AV.casesOn v none (λa=>none) (λa=>none) f (λa=>none) (λa=>none) (λa=>none) (λa=>none) (λa=>none)
noncomputable def vV(v:AV)(f:List AV->Option α):Option α:=AV.casesOn v none (λa=>none) (λa=>none) (λa=>none) (λa=>none) f (λa=>none) (λa=>none) (λa=>none)
noncomputable def MP(v:AV)(f:Nat->Option α):Option α:=AV.casesOn v none (λa=>none) (λa=>none) (λa=>none) (λa=>none) (λa=>none) f (λa=>none) (λa=>none)
noncomputable def onB(v:AV)(f:Bool->Option α):Option α:=AV.casesOn v none f (λa=>none) (λa=>none) (λa=>none) (λa=>none) (λa=>none) (λa=>none) (λa=>none)
variable(σ:St)(i:Nat)
noncomputable def RM(i:Nat)(l:Bool->List AV->Option α)(d:Bool->List (Str×AV)->Option α)(n:Bool->List (Int×AV)->Option α)(s:Nat->Option α):Option α:=
 AH σ[i]? none λo=>AO.casesOn o l d n s
noncomputable def TS(f:Bool->List AV->Option α):Option α:=RM σ i f (λa a=>none) (λa a=>none) (λa=>none)
noncomputable def atD(f:Bool->List (Str×AV)->Option α):Option α:=RM σ i (λa a=>none) f (λa a=>none) (λa=>none)
noncomputable def one(as:List AV)(f:AV->Option α):Option α:=AI as none λa r=>AI r (f a) λx x=>none
noncomputable def two(as:List AV)(f:AV->AV->Option α):Option α:=AI as none λa r=>one r (f a)
end
noncomputable def Qeo(c:Const):Option AV:=match c with
 | .none=>some .none
 | .bool b=>some (.bool b)
 | .int i=>some (.int i)
 | .str s=>some (.str s)
 |_=>none
section
variable(σ:St)
noncomputable def TQ(a b:AV)(f:Int->Int->Option Int):Option (AV×St):=GV a λx=>GV b λy=>(f x y).map λz=>(.int z,σ)
noncomputable def QbG(a b:AV):Option (AV×St):=AV.casesOn a none (λh=>none) (λx=>GV b λy=>some (.int (x+y),σ))
 (λx=>QU b λy=>if x.length+y.length<=Ce then some (.str (x++y),σ)else none) (λh=>none)
 (λx=>vV b λy=>if x.length+y.length<=Ce then some (.tup (x++y),σ)else none)
 (λi=>MP b λj=>TS σ i λh x=>TS σ j λh y=>if x.length+y.length<=Ce then some (.ref σ.length,σ++[.list false (x++y)])else none) (λh=>none) (λh=>none)
noncomputable def Gz(op:Operator)(a b:AV):Option (AV×St):=match op with
 | .Add=>QbG σ a b
 | .Sub=>TQ σ a b λa b=>some (a-b)
 | .Mult=>TQ σ a b λa b=>if fits a=true/\fits b=true then some (a*b)else none
 | .FloorDiv=>TQ σ a b λa b=>if b≠0/\b.natAbs.log2<9000 then some (a.fdiv b)else none
 | .Mod=>TQ σ a b λa b=>if b≠0 then some (a.fmod b)else none
 | .Pow=>TQ σ a b λa b=>if 0<=b/\b<=1000/\a.natAbs<=65536 then some (a^b.toNat)else none
 | .LShift=>TQ σ a b λa b=>if 0<=b/\b<=1000/\fits a=true then some (a*2^b.toNat)else none
 | .RShift=>TQ σ a b λa b=>if 0<=b/\b<=1000 then some (a.fdiv (2^b.toNat))else none
 | .BitOr=>TQ σ a b λa b=>some (Nx a b)
 | .BitXor=>TQ σ a b λa b=>some (GL a b)
 | .BitAnd=>TQ σ a b λa b=>some (E8 a b)
 |_=>none
noncomputable def Py(f:AV->AV->Option Bool):List AV->List AV->Option Bool
 |[],ys=>some ys.isEmpty
 |x::xs,ys=>AI ys (some false) λy ys=>(f x y).bind λp=>(Py f xs ys).map λq=>p&&q
noncomputable def Pw:Nat->AV->AV->Option Bool
 |0,_,_=>none
 |n+1,a,b=>AV.casesOn a
   (AV.casesOn b (some true) (λh=>none) (λh=>some false) (λh=>none) (λh=>none) (λh=>none) (λh=>none) (λh=>none) (λh=>none))
   (λh=>none)
   (λx=>AV.casesOn b none (λh=>none) (λy=>some (x==y)) (λh=>some false) (λh=>some false) (λh=>some false) (λh=>none) (λh=>none) (λh=>none))
   (λx=>AV.casesOn b none (λh=>none) (λh=>some false) (λy=>some (x==y)) (λh=>some false) (λh=>some false) (λh=>none) (λh=>none) (λh=>none))
   (λx=>AV.casesOn b none (λh=>none) (λh=>some false) (λh=>some false) (λy=>some (x==y)) (λh=>some false) (λh=>none) (λh=>none) (λh=>none))
   (λx=>AV.casesOn b none (λh=>none) (λh=>some false) (λh=>some false) (λh=>some false) (λy=>Py (Pw n) x y) (λh=>none) (λh=>none) (λh=>none))
   (λi=>MP b λj=>TS σ i λh x=>TS σ j λh y=>Py (Pw n) x y)
   (λh=>none) (λh=>none)
noncomputable def NG:List AV->Option (List Str)
 |[]=>some []
 |x::r=>QU x λs=>(NG r).map (s:: ·)
noncomputable def inL(v:AV)(xs:List AV):Option Bool:=QU v λs=>(NG xs).map λl=>decide (s∈l)
noncomputable def inD(kvs:List (Str×AV))(v:AV):Option Bool:=AV.casesOn v none (λa=>none) (λa=>if kvs.isEmpty=true then some false else none) (λx=>some (EP kvs x).isSome) (λa=>none) (λa=>none) (λa=>none) (λa=>none) (λa=>none)
noncomputable def lR(v c:AV):Option Bool:=AV.casesOn c none (λa=>none) (λa=>none) (λa=>none) (λa=>none) (λxs=>inL v xs)
 (λi=>RM σ i (λa xs=>inL v xs) (λa kvs=>inD kvs v)
  (λa kvs=>GV v λx=>some (EP kvs x).isSome) (λa=>none))
 (λa=>none) (λa=>none)
noncomputable def neV(a b:AV):Option Bool:=AV.casesOn a (GV b λh=>some true) (λh=>none) (λx=>GV b λy=>some (!(x==y))) (λx=>QU b λy=>some (!(x==y))) (λh=>none)
 (λx=>vV b λy=>(Py (Pw σ 19) x y).map not) (λi=>MP b λj=>TS σ i λh x=>TS σ j λh y=>(Py (Pw σ 19) x y).map not) (λh=>none) (λh=>none)
noncomputable def bU(v:AV):Option Bool:=AV.casesOn v (some true) (λa=>none) (λa=>some false) (λa=>some false) (λa=>none) (λa=>some false) (λa=>some false) (λa=>none) (λa=>none)
noncomputable def zM{α:Type}(v:AV)(x:Option α):Option α:=AV.casesOn v x (λa=>none) (λa=>none) (λa=>none) (λa=>none) (λa=>none) (λa=>none) (λa=>none) (λa=>none)
noncomputable def EC(op:CmpOp)(a b:AV):Option Bool:=match op with
 | .Eq=>Pw σ 20 a b
 | .NotEq=>neV σ a b
 | .Lt=>GV a λx=>GV b λy=>some (decide (x<y))
 | .Gt=>GV a λx=>GV b λy=>some (decide (y<x))
 | .In=>lR σ a b
 | .NotIn=>(lR σ a b).map not
 | .Is=>zM b (bU a)
 | .IsNot=>zM b ((bU a).map not)
 |_=>none
noncomputable def Nc(v:AV):Option Bool:=AV.casesOn v none some (λa=>none) (λa=>none) (λa=>none) (λa=>none)
 (λi=>TS σ i λa xs=>if xs.length<=Ce then some (!xs.isEmpty)else none) (λa=>none) (λa=>none)
noncomputable def Jb(a k:AV):Option AV:=AV.casesOn a none (λh=>none) (λh=>none) (λh=>none)
 (λb=>GV k λk=>if 0<=k/\b.length<=Ce then(Rf b k).map .int else none)
 (λxs=>GV k λk=>Rf xs k)
 (λi=>RM σ i (λh xs=>GV k λk=>Rf xs k) (λh kvs=>QU k λx=>EP kvs x) (λh kvs=>GV k λx=>EP kvs x) (λh=>none))
 (λh=>none) (λns=>GV k λk=>(Rf ns k).map .int)
noncomputable def Zl{α:Type}(xs:List α)(lo hi:Option Int):Option (List α):=AH lo
 (AH hi none λk=>if 0<=k then some (xs.take k.toNat)else none)
 λk=>AH hi (if 0<=k then some (xs.drop k.toNat)else none) λa=>none
noncomputable def LH(a:AV)(lo hi:Option Int):Option (AV×St):=AV.casesOn a none (λx=>none) (λx=>none)
 (λs=>if s.length<=Ce then(Zl s.cps.toList lo hi).map λys=>(.str ⟨ys.toArray⟩,σ)else none) (λx=>none) (λx=>none)
 (λi=>TS σ i λx xs=>if xs.length<=Ce then(Zl xs lo hi).map λys=>(.ref σ.length,σ++[.list false ys])else none) (λx=>none) (λx=>none)
noncomputable def Om{α:Type}(a:AV)(f:Nat->Bool->List (Str×AV)->Option α):Option α:=
 MP a λi=>RM σ i (λx x=>none) (λx x=>none) (λx x=>none) λd=>atD σ d (f d)
noncomputable def H0(x:Str)(a:AV):Option AV:=Om σ a λh h kvs=>if x∈Ft then EP kvs x else none
noncomputable def FN(x:Str)(v a:AV):Option St:=Om σ a λd z kvs=>if z=false/\x∈Ft/\kvs.length<=1000 then some (σ.set d (.sd false (Ib kvs x v)))else none
noncomputable def mI(i:Nat)(v:AV)(z:Bool)(kvs:List (Str×AV))(k:AV):Option St:=AV.casesOn k none (λa=>none) (λx=>if z=false/\kvs.isEmpty=true then some (σ.set i (.RH false [(x,v)]))else none)
  (λx=>if z=false/\kvs.length<=Ce then some (σ.set i (.sd false (Ib kvs x v)))else none) (λa=>none) (λa=>none) (λa=>none) (λa=>none) (λa=>none)
noncomputable def Hv(k v a:AV):Option St:=MP a λi=>RM σ i (λh h=>none)
 (λz kvs=>mI σ i v z kvs k)
 (λz kvs=>GV k λx=>if z=false/\kvs.length<=Ce then some (σ.set i (.RH false (Ib kvs x v)))else none) (λh=>none)
noncomputable def LI(k a:AV):Option St:=MP a λi=>atD σ i λz kvs=>QU k λx=>
 if z=false/\(EP kvs x).isSome=true/\kvs.length<=Ce then some (σ.set i (.sd false (Xf kvs x)))else none
noncomputable def intsOf:List AV->Option (List Int)
 |[]=>some []
 |x::r=>GV x λs=>(intsOf r).map (s:: ·)
noncomputable def boolsOf:List AV->Option (List Bool)
 |[]=>some []
 |x::r=>onB x λs=>(boolsOf r).map (s:: ·)
noncomputable def E5:List (AV×AV)->Option (List (Str×AV))
 |[]=>some []
 |p::r=>QU p.1 λx=>(E5 r).map ((x,p.2):: ·)
noncomputable def Kh:List (AV×AV)->Option (List (Int×AV))
 |[]=>some []
 |p::r=>GV p.1 λx=>(Kh r).map ((x,p.2):: ·)
noncomputable def Hw(ps:List (AV×AV)):Option (AV×St):=AH (E5 ps)
 ((Kh ps).map λl=>(.ref σ.length,σ++[.RH false (It [] l)])) λl=>some (.ref σ.length,σ++[.sd false (It [] l)])
noncomputable def JO(n:Int):Str:=Aa (toString n)
inductive Vq|len|tuple|list|bytes|str|any
inductive GK|fn|prim (p:Vq)|cls
noncomputable def lenOf{α:Type}(xs:List α):Option (AV×St):=if xs.length<=Ce then some (.int xs.length,σ)else none
noncomputable def QbH(a:AV):Option (AV×St):=AV.casesOn a none (λx=>none) (λx=>none) (λx=>none) (lenOf σ) (lenOf σ) (λi=>TS σ i λx xs=>lenOf σ xs) (λx=>none) (lenOf σ)
noncomputable def QbI(a:AV):Option (AV×St):=AV.casesOn a none (λx=>none) (λx=>none) (λx=>none) (λx=>none) (λxs=>some (.tup xs,σ))
  (λi=>TS σ i λx xs=>if xs.length<=Ce then some (.tup xs,σ)else none) (λx=>none) (λx=>none)
noncomputable def H3(p:Vq)(as:List AV):Option (AV×St):=one as λa=>match p with
 | .len=>QbH σ a
 | .tuple=>QbI σ a
 | .list=>MP a λi=>atD σ i λx kvs=>if kvs.length<=Ce then some (.ref σ.length,σ++[.list false (kvs.map λp=> .str p.1)])else none
 | .bytes=>MP a λi=>TS σ i λx xs=>(intsOf xs).bind λns=>if(ns.all λn=>decide (0<=n/\n<256))=true/\ns.length<=Ce then some (.bytes ns,σ)else none
 | .str=>GV a λn=>if 0<=n/\n<10000 then some (.str (JO n),σ)else none
 | .any=>MP a λi=>TS σ i λx xs=>(boolsOf xs).bind λbs=>if bs.length<=Ce then some (.bool (bs.any id),σ)else none
inductive Meth|append|extend|insert|get|update|split
noncomputable def Qaa(x:Str):Option Meth:=if x="append" then some .append else if x="extend" then some .extend else if x="insert" then some .insert else none
noncomputable def Qab(x:Str):Option Meth:=if x="get" then some .get else if x="update" then some .update else none
noncomputable def HN(x:Str)(a:AV):Option Meth:=AV.casesOn a none (λh=>none) (λh=>none) (λh=>if x="split" then some .split else none) (λh=>none) (λh=>none)
 (λi=>RM σ i (λh h=>Qaa x) (λh h=>Qab x) (λh h=>if x="get" then some .get else none) (λh=>none)) (λh=>none) (λh=>none)
noncomputable def Lc{α:Type}(xs:List α)(k:Nat)(v:α):List α:=xs.take k++v::xs.drop k
noncomputable def Gc(x y:Str):List Str:=
 if decide (x.length<y.length)||decide (FG x<FG y)then[x]
 else if(Gs x y 0 x.length (x.length+1)).isEmpty then[x]
 else Builtin.Str.partsBetween x (Gs x y 0 x.length (x.length+1)) y.length
noncomputable def mJ(kvs:List (Str×AV))(x:Str)(r:List AV):Option (AV×St):=AI r (some ((EP kvs x).getD .none,σ)) λd r=>AI r (some ((EP kvs x).getD d,σ)) λa a=>none
noncomputable def QbJ(kvs:List (Str×AV))(as:List AV):Option (AV×St):=AI as none λk r=>QU k λx=>mJ σ kvs x r
noncomputable def Lg(m:Meth)(a:AV)(as:List AV):Option (AV×St):=match m with
 | .append=>MP a λi=>TS σ i λz xs=>one as λv=>if z=false/\xs.length<=Ce then some (.none,σ.set i (.list false (xs++[v])))else none
 | .extend=>MP a λi=>TS σ i λz xs=>one as λb=>MP b λj=>TS σ j λh ys=>if z=false/\i≠j/\xs.length+ys.length<=Ce then some (.none,σ.set i (.list false (xs++ys)))else none
 | .insert=>MP a λi=>TS σ i λz xs=>two as λk v=>GV k λk=>if z=false/\0<=k/\k<=xs.length/\xs.length<=Ce then some (.none,σ.set i (.list false (Lc xs k.toNat v)))else none
 | .get=>MP a λi=>RM σ i (λh h=>none)
  (λh kvs=>QbJ σ kvs as)
  (λh kvs=>two as λk d=>GV k λx=>some ((EP kvs x).getD d,σ)) (λh=>none)
 | .update=>MP a λi=>atD σ i λz x=>one as λb=>MP b λj=>atD σ j λh y=>if z=false/\i≠j/\x.length+y.length<=Ce then some (.none,σ.set i (.sd false (It x y)))else none
 | .split=>QU a λs=>one as λb=>QU b λt=>if t.length≠0/\s.length<=1000/\(Gc s t).length<=1000 then some (.ref σ.length,σ++[.list false ((Gc s t).map .str)])else none
noncomputable def items(v:AV):Option (List AV×Option Nat):=AV.casesOn v none (λa=>none) (λa=>none) (λa=>none) (λb=>some (b.map .int,none)) (λxs=>some (xs,none))
 (λi=>RM σ i (λa xs=>some (xs,some i)) (λa kvs=>some (kvs.map (λp=> .str p.1),some i)) (λa a=>none) λa=>none) (λa=>none) (λa=>none)
noncomputable def GA(h:Option Nat):St:=AH h σ λi=>σ.modify i (AO.El true)
noncomputable def D2(h:Option Nat):Bool:=AH h true λi=>AH σ[i]? true AO.fz
end
noncomputable def G9(b:Bool)(σ:St)(h:Option Nat):St:=AH h σ λi=>σ.modify i (AO.El b)
noncomputable def HO(a b:Int):List AV:=(BZ (b-a).toNat).map λ(k:Nat)=> .int (a+(k:Int))
noncomputable def JP(a b:Int):List AV:=(BZ (a-b).toNat).map λ(k:Nat)=> .int (a-(k:Int))
noncomputable def Rg(a b:Int)(r:List AV):Option (List AV):=AI r (if -1000000<=a/\a<=1000000/\b<=1000000/\ -1000000<=b then some (HO a b)else none)
 λc r=>AI r (GV c λc=>if c= -1/\ -1000000<=a/\a<=1000000/\b<=1000000/\ -1000000<=b then some (JP a b)else none) λx x=>none
noncomputable def Vr(a:Int)(r:List AV):Option (List AV):=AI r (if -1000000<=a/\a<=1000000 then some (HO 0 a)else none) λb r=>GV b λb=>Rg a b r
noncomputable def Ha(as:List AV):Option (List AV):=AI as none λa r=>GV a λa=>Vr a r
noncomputable def RN(x:Str):Option GK:=
 if x="len" then some (.prim .len)else if x="tuple" then some (.prim .tuple)else if x="list" then some (.prim .list)
 else if x="bytes" then some (.prim .bytes)else if x="str" then some (.prim .str)else if x="any" then some (.prim .any)
 else if x="Reading" then some .cls
 else if x∈I6 then some .fn else none
end
section
inductive AF|next|cont|ret (v:AV)|exc (w:Str)
inductive Res|val (v:AV)|exc (w:Str)
abbrev Cl:=Str->List AV->St->(Res->St->Prop)->Prop
theorem nCl:Nonempty Cl:=⟨λa a a a=>True⟩
def PV(Q:AV->St->Prop)(r:Res)(σ:St):Prop:=match r with
 | .val v=>Q v σ
 | .exc _=>False
noncomputable def hZ.{u} {α:Sort u}(e:Expr)(const:Const->α)(name:Str->Pos->α)(bin:Expr->Operator->Expr->α)(un:UnaryOp->Expr->α)(ifexp:Expr->Expr->Expr->α)(boolop:BoolOp->List Expr->α)(cmp:Expr->List CmpOp->List Expr->α)(tup:List Expr->α)(list:List Expr->α)(dict:List (Option Expr)->List Expr->α)(sub:Expr->Expr->α)(attr:Expr->Str->Pos->α)(call:Expr->List Expr->List Keyword->Pos->α)(comp:Expr->List Comprehension->Scope->α)(star:Expr->α)(slice:Option Expr->Option Expr->Option Expr->Pos->α)(other:α):α:=match e with
 | .Constant a _ _=>const a
 | .Name a b=>name a b
 | .BinOp a b c _=>bin a b c
 | .UnaryOp a b _=>un a b
 | .IfExp a b c _=>ifexp a b c
 | .BoolOp a b _=>boolop a b
 | .Compare a b c _=>cmp a b c
 | .Tuple a _ _=>tup a
 | .List a _=>list a
 | .Dict a b _=>dict a b
 | .Subscript a b _=>sub a b
 | .Attribute a b c=>attr a b c
 | .Call a b c d=>call a b c d
 | .ListComp a b c _=>comp a b c
 | .Starred a _=>star a
 | .Slice a b c d=>slice a b c d
 |_=>other
noncomputable def Dg(e:Expr):Bool:=hZ e (λa=>true) (λa a=>true) (λa a a=>true) (λa a=>true) (λa a a=>true) (λa a=>true) (λa a a=>true) (λa=>true) (λa=>true) (λa a=>true) (λa a=>true) (λa a a=>true) (λa a a a=>false) (λa a a=>true) (λa=>true) (λa a a a=>true) true
noncomputable def sliceOf(e:Expr):Option (Option Expr×Option Expr×Pos):=hZ e (λa=>none) (λa a=>none) (λa a a=>none) (λa a=>none) (λa a a=>none) (λa a=>none) (λa a a=>none) (λa=>none) (λa=>none) (λa a=>none) (λa a=>none) (λa a a=>none) (λa a a a=>none) (λa a a=>none) (λa=>none) (λlo hi c p=>AH c (some (lo,hi,p)) λa=>none) none
noncomputable def E6(e:Expr):Bool:=hZ e (λa=>true) (λa a=>true) (λa a a=>true) (λa a=>true) (λa a a=>true) (λa a=>true) (λa a a=>true) (λa=>true) (λa=>true) (λa a=>true) (λa a=>true) (λa a a=>true) (λa a a a=>true) (λa a a=>false) (λa=>true) (λa a a a=>true) false
noncomputable def Iu(e:Expr):Bool:=hZ e (λa=>false) (λa a=>false) (λa a a=>false) (λa a=>false) (λa a a=>false) (λa a=>false) (λa a a=>false) (λa=>false) (λa=>false) (λa a=>false) (λa a=>false) (λa a a=>false) (λa a a a=>false) (λa a a=>false) (λa=>true) (λa a a a=>false) false
noncomputable def I9(e:Expr):Bool:=hZ e (λa=>true) (λa a=>true) (λa a a=>true) (λa a=>true) (λa a a=>true) (λa a=>true) (λa a a=>true) (λa=>true) (λa=>true) (λa a=>true) (λa a=>true) (λa a a=>true) (λa a a a=>true) (λa a a=>true) (λa=>false) (λa a a a=>false) false
noncomputable def plainCall(apos pos:Pos)(args:List Expr):Bool:=apos.endLine==pos.line&&decide (args.length<29)
noncomputable def Di(sc:Scope):Bool:=sc.kind== .function&&sc.names.all λp=>p.1 != "__debug__"&&p.1 != "__classdict__"
noncomputable def JK(sc scope:Scope):Bool:=
 Di scope&&scope.names.all λp=>p.2 != .cell&&(p.2 != .local||BJ scope.names p.1==some .local)&&(p.2 != .free||(BJ sc.names p.1==some .cell&&BJ scope.names p.1==some .free))
noncomputable def mK(sc:Scope)(line:Nat)(e:Expr):Option Str:=hZ e (λa=>none) (λid pos=>if BJ sc.names id==some .local&&pos.line==line then some id else none) (λa a a=>none) (λa a=>none) (λa a a=>none) (λa a=>none) (λa a a=>none) (λa=>none) (λa=>none) (λa a=>none) (λa a=>none) (λa a a=>none) (λa a a a=>none) (λa a a=>none) (λa=>none) (λa a a a=>none) none
noncomputable def Lh(sc:Scope)(ts vs:List Expr):Option (Option (List Str)):=
 if !(ts.length==2||ts.length==3)||vs.length != ts.length then some none
 else if vs.any Iu then some none
 else
  let names:=ts.filterMap (mK sc ((ts.head?.map (λa=>a.pos.line)).getD 0))
  if names.length != ts.length||names.eraseDups.length != names.length then some none
  else if vs.all (foldedForSure 8)then some none
  else if vs.all (constantsAlone 8)then none
  else some (some names)
noncomputable def LJ(sc:Scope)(fr:Fm)(e:Expr):Option (List Expr):=hZ e (λa=>none) (λa a=>none) (λa a a=>none) (λa a=>none) (λa a a=>none) (λa a=>none) (λa a a=>none) (λa=>none) (λa=>none) (λa a=>none) (λa a=>none) (λa a a=>none) (λf args zN a=>hZ f (λa=>none) (λf a=>AI zN (if f="range"/\BJ sc.names f=some .globalImplicit/\Dj fr f=none then some args else none) λa a=>none) (λa a a=>none) (λa a=>none) (λa a a=>none) (λa a=>none) (λa a a=>none) (λa=>none) (λa=>none) (λa a=>none) (λa a=>none) (λa a a=>none) (λa a a a=>none) (λa a a=>none) (λa=>none) (λa a a a=>none) none) (λa a a=>none) (λa=>none) (λa a a a=>none) none
noncomputable def B3(fr:Fm):List (Str×NameKind)->Fm
 |[]=>[]
 |p::r=>match p.2 with
  | .free=>AH (Dj fr p.1) (B3 fr r) λv=>(p.1,v)::B3 fr r
  |_=>B3 fr r
noncomputable def E0:Fm->Fm->Fm
 |[],_=>[]
 |p::r,w=>AH (Dj w p.1) (E0 r w) λv=>(p.1,v)::E0 r w
def DI(c:Bool)(P:Prop):Prop:=match c with
 |true=>P
 |false=>False
theorem DI.el{c:Bool}{P:Prop}(h:DI c P):c=true/\P:=match c,h with
 |true,h=>⟨rfl,h⟩
def Nm(x:Option AV)(P:AV->Prop)(G:Prop):Prop:=match x with
 |some v=>P v
 |none=>G
def iG(v:AV)(P:Int->Prop):Prop:=Bn (GV v some) P
def isS(v:AV)(P:Str->Prop):Prop:=Bn (QU v some) P
def isT(v:AV)(P:List AV->Prop):Prop:=Bn (vV v some) P
noncomputable def onF{α:Type}(v:AV)(f:Str->Option α):Option α:=AV.casesOn v none (λa=>none) (λa=>none) (λa=>none) (λa=>none) (λa=>none) (λa=>none) f (λa=>none)
def isF(v:AV)(P:Str->Prop):Prop:=Bn (onF v some) P
def isN(v:AV)(P:Prop):Prop:=Bn (zM v (some ())) λa=>P
def NH(c:Const)(Q:AV->Prop):Prop:=Bn (Qeo c) Q
noncomputable def mL(vs:List AV):Option (List AV):=Hg (⟨Ha vs,rfl⟩:∃x,x=Ha vs)
theorem Vs(vs:List AV):mL vs=Ha vs:=ER (⟨Ha vs,rfl⟩:∃x,x=Ha vs)
noncomputable def swp(sc:Scope)(t e:List Expr):Option (Option (List Str)):=Hg (⟨Lh sc t e,rfl⟩:∃x,x=Lh sc t e)
theorem RO(sc:Scope)(t e:List Expr):swp sc t e=Lh sc t e:=ER (⟨Lh sc t e,rfl⟩:∃x,x=Lh sc t e)
noncomputable def Vt:Nat:=Hg (⟨200,rfl⟩:∃x,x=200)
theorem Rh:Vt=200:=ER (⟨200,rfl⟩:∃x,x=200)
def tI(a b:AV)(d:Prop)(i:Int->Int->Prop)(s:Str->Str->Prop):Prop:=AV.casesOn a d (λh=>d) (λx=>AV.casesOn b d (λh=>d) (i x) (λh=>d) (λh=>d) (λh=>d) (λh=>d) (λh=>d) (λh=>d))
 (λx=>AV.casesOn b d (λh=>d) (λh=>d) (s x) (λh=>d) (λh=>d) (λh=>d) (λh=>d) (λh=>d)) (λh=>d) (λh=>d) (λh=>d) (λh=>d) (λh=>d)
def Je(σ:St)(op:CmpOp)(a b:AV)(T:Bool->Prop):Prop:=match op with
 | .Eq=>tI a b (Bn (EC σ .Eq a b) T) (λx y=>if x=y then T true else T false) λx y=>if x=y then T true else T false
 | .NotEq=>tI a b (Bn (EC σ .NotEq a b) T) (λx y=>if x=y then T false else T true) λx y=>if x=y then T false else T true
 | .Lt=>tI a b False (λx y=>if x<y then T true else T false) λh h=>False
 | .Gt=>tI a b False (λx y=>if y<x then T true else T false) λh h=>False
 |op=>Bn (EC σ op a b) T
end
structure I where
 ev:Expr->Fm->St->(AV->St->Prop)->Prop
 Na:List Expr->Fm->St->(List AV->St->Prop)->Prop
 opt:Option Expr->Fm->St->(Option Int->St->Prop)->Prop
 pairs:List (Option Expr)->List Expr->Fm->St->(List (AV×AV)->St->Prop)->Prop
 bool:BoolOp->List Expr->Fm->St->(AV->St->Prop)->Prop
 Po:Expr->Fm->St->(Bool->St->Prop)->Prop
 LD:BoolOp->List Expr->Fm->St->(Bool->St->Prop)->Prop
 items:Expr->Fm->St->(List AV×Option Nat->St->Prop)->Prop
 asg:Expr->AV->Fm->St->(Fm->St->Prop)->Prop
 Uh:List Expr->List AV->Fm->St->(Fm->St->Prop)->Prop
 ex:Stmt->Fm->St->(AF->Fm×St->Prop)->Prop
 Pq:List Stmt->Fm->St->(AF->Fm×St->Prop)->Prop
theorem Xg:Nonempty I:=⟨⟨λa a a a=>True,λa a a a=>True,λa a a a=>True,λa a a a a=>True,λa a a a a=>True,λa a a a=>True,λa a a a a=>True,λa a a a=>True,λa a a a a=>True,λa a a a a=>True,λa a a a=>True,λa a a a=>True⟩⟩
section
variable(i:I)
def KV(Q:AV->St->Prop)(σ:St)(v:AV):Prop:=Q v σ
def KV1(Q:AV->St->Prop)(σ:St)(b:Bool):Prop:=Q (.bool b) σ
def KT(T:Bool->St->Prop)(σ:St)(b:Bool):Prop:=T b σ
def KR(R:(List AV×Option Nat)->St->Prop)(σ:St)(r:List AV×Option Nat):Prop:=R r σ
def Vu(op:Operator)(a:AV)(Q:AV->St->Prop)(b:AV)(σ:St):Prop:=Ok (Gz σ op a b) Q
def Vv(r:Expr)(fr:Fm)(op:Operator)(Q:AV->St->Prop)(a:AV)(σ:St):Prop:=i.ev r fr σ (Vu op a Q)
def Vw(Q:AV->St->Prop)(σ:St)(b:Bool):Prop:=Q (.bool (!b)) σ
def ZL(Q:AV->St->Prop)(v:AV)(σ:St):Prop:=Bn (Nc σ v) (Vw Q σ)
def Vx(Q:AV->St->Prop)(σ:St)(k:Int):Prop:=Q (.int (-k)) σ
def ZM(Q:AV->St->Prop)(v:AV)(σ:St):Prop:=iG v (Vx Q σ)
def Ot(a:Expr)(fr:Fm)(Q:AV->St->Prop)(b:Expr)(c:Bool)(σ:St):Prop:=if c=true then i.ev a fr σ Q else i.ev b fr σ Q
def LK(op:CmpOp)(a:AV)(Q:AV->St->Prop)(b:AV)(σ:St):Prop:=Bn (EC σ op a b) (KV1 Q σ)
def Ki(r:Expr)(fr:Fm)(op:CmpOp)(Q:AV->St->Prop)(a:AV)(σ:St):Prop:=i.ev r fr σ (LK op a Q)
def Ou(Q:AV->St->Prop)(vs:List AV)(σ:St):Prop:=Q (.tup vs) σ
def Ri(Q:AV->St->Prop)(vs:List AV)(σ:St):Prop:=Q (.ref σ.length) (σ++[.list false vs])
def Rj(Q:AV->St->Prop)(ps:List (AV×AV))(σ:St):Prop:=Ok (Hw σ ps) Q
def Pz(a:AV)(l:Option Int)(Q:AV->St->Prop)(h:Option Int)(σ:St):Prop:=Ok (LH σ a l h) Q
def PA(hi:Option Expr)(fr:Fm)(a:AV)(Q:AV->St->Prop)(l:Option Int)(σ:St):Prop:=i.opt hi fr σ (Pz a l Q)
def RP(lo:Option Expr)(fr:Fm)(hi:Option Expr)(Q:AV->St->Prop)(a:AV)(σ:St):Prop:=i.opt lo fr σ (PA i hi fr a Q)
def Vy(v:AV)(Q:AV->St->Prop)(w:AV)(σ:St):Prop:=Bn (Jb σ v w) (KV Q σ)
def Kj(x:Expr)(fr:Fm)(Q:AV->St->Prop)(v:AV)(σ:St):Prop:=i.ev x fr σ (Vy v Q)
def Rl(x:Str)(Q:AV->St->Prop)(a:AV)(σ:St):Prop:=Bn (H0 σ x a) (KV Q σ)
def RQ(mm:Meth)(a:AV)(Q:AV->St->Prop)(vs:List AV)(σ:St):Prop:=Ok (Lg σ mm a vs) Q
def Ov(args:List Expr)(fr:Fm)(σ:St)(a:AV)(Q:AV->St->Prop)(mm:Meth):Prop:=i.Na args fr σ (RQ mm a Q)
def Rm(m:Str)(args:List Expr)(fr:Fm)(Q:AV->St->Prop)(a:AV)(σ:St):Prop:=Bn (HN σ m a) (Ov i args fr σ a Q)
def Hx(C:Cl)(g:Str)(Q:AV->St->Prop)(vs:List AV)(σ:St):Prop:=C g vs σ (PV Q)
def RS(args:List Expr)(fr:Fm)(σ:St)(C:Cl)(Q:AV->St->Prop)(g:Str):Prop:=i.Na args fr σ (Hx C g Q)
def Rn(args:List Expr)(fr:Fm)(σ:St)(C:Cl)(Q:AV->St->Prop)(v:AV):Prop:=isF v (RS i args fr σ C Q)
def Ro(p:Vq)(Q:AV->St->Prop)(vs:List AV)(σ:St):Prop:=Ok (H3 σ p vs) Q
def RT(Q:List AV->St->Prop)(v:AV)(vs:List AV)(σ:St):Prop:=Q (v::vs) σ
def Vz(es:List Expr)(fr:Fm)(Q:List AV->St->Prop)(v:AV)(σ:St):Prop:=i.Na es fr σ (RT Q v)
def VA(Q:Option Int->St->Prop)(σ:St)(k:Int):Prop:=Q (some k) σ
def ZN(Q:Option Int->St->Prop)(v:AV)(σ:St):Prop:=iG v (VA Q σ)
def PB(Q:List (AV×AV)->St->Prop)(kv vv:AV)(ps:List (AV×AV))(σ:St):Prop:=Q ((kv,vv)::ps) σ
def PC(ks:List (Option Expr))(vs:List Expr)(fr:Fm)(Q:List (AV×AV)->St->Prop)(kv vv:AV)(σ:St):Prop:=i.pairs ks vs fr σ (PB Q kv vv)
def RU(v:Expr)(fr:Fm)(ks:List (Option Expr))(vs:List Expr)(Q:List (AV×AV)->St->Prop)(kv:AV)(σ:St):Prop:=i.ev v fr σ (PC i ks vs fr Q kv)
def Ow(op:BoolOp)(es:List Expr)(fr:Fm)(σ:St)(Q:AV->St->Prop)(v:AV)(b:Bool):Prop:=match op with
 | .And=>if b=true then i.bool .And es fr σ Q else Q v σ
 | .Or=>if b=true then Q v σ else i.bool .Or es fr σ Q
def VB(op:BoolOp)(es:List Expr)(fr:Fm)(Q:AV->St->Prop)(v:AV)(σ:St):Prop:=Bn (Nc σ v) (Ow i op es fr σ Q v)
def VC(T:Bool->St->Prop)(b:Bool)(σ:St):Prop:=T (!b) σ
def LL(op:CmpOp)(a:AV)(T:Bool->St->Prop)(b:AV)(σ:St):Prop:=Je σ op a b (KT T σ)
def NI(r:Expr)(fr:Fm)(op:CmpOp)(T:Bool->St->Prop)(a:AV)(σ:St):Prop:=i.ev r fr σ (LL op a T)
def NJ(T:Bool->St->Prop)(v:AV)(σ:St):Prop:=Bn (Nc σ v) (KT T σ)
def Rq(op:BoolOp)(es:List Expr)(fr:Fm)(T:Bool->St->Prop)(b:Bool)(σ:St):Prop:=match op with
 | .And=>if b=true then i.LD .And es fr σ T else T false σ
 | .Or=>if b=true then T true σ else i.LD .Or es fr σ T
def Zj(R:(List AV×Option Nat)->St->Prop)(v:AV)(σ:St):Prop:=Bn (items σ v) (KR R σ)
def TT(R:(List AV×Option Nat)->St->Prop)(σ:St)(xs:List AV):Prop:=R (xs,none) σ
def JcR(R:(List AV×Option Nat)->St->Prop)(vs:List AV)(σ:St):Prop:=Bn (mL vs) (TT R σ)
def JcF(o:Option (List Expr))(e:Expr)(fr:Fm)(σ:St)(R:(List AV×Option Nat)->St->Prop):Prop:=match o with
 |some args=>DI (args.all I9) (i.Na args fr σ (JcR R))
 |none=>DI (I9 e) (i.ev e fr σ (Zj R))
def RV(F:Fm->St->Prop)(fr:Fm)(σ:St):Prop:=F fr σ
def VD(x:Str)(v:AV)(F:Fm->St->Prop)(fr:Fm)(a:AV)(σ:St):Prop:=Bn (FN σ x v a) (RV F fr)
def VE(v a:AV)(F:Fm->St->Prop)(fr:Fm)(k:AV)(σ:St):Prop:=Bn (Hv σ k v a) (RV F fr)
def ZO(x:Expr)(fr:Fm)(v:AV)(F:Fm->St->Prop)(a:AV)(σ:St):Prop:=i.ev x fr σ (VE v a F fr)
def VF(ts:List Expr)(xs:List AV)(F:Fm->St->Prop)(fr:Fm)(σ:St):Prop:=i.Uh ts xs fr σ F
def PD(ts:List Expr)(fr:Fm)(σ:St)(F:Fm->St->Prop)(xs:List AV):Prop:=DI (decide (ts.length=xs.length)&&ts.all λt=> !Iu t) (i.Uh ts xs fr σ F)
def mM(σ:St)(r:Nat)(P:List AV->Prop):Prop:=Bn (TS σ r λa xs=>some xs) P
def GcT(C:Cl)(g:Option GK)(f:Str)(args:List Expr)(fr:Fm)(σ:St)(Q:AV->St->Prop):Prop:=match g with
 |some .fn=>i.Na args fr σ (Hx C f Q)
 |some .cls=>i.Na args fr σ (Hx C f Q)
 |some (.prim p)=>i.Na args fr σ (Ro p Q)
 |none=>False
def Kg(g:Option GK)(x:Str)(Q:AV->St->Prop)(σ:St):Prop:=match g with
 |some .fn=>Q (.fn x) σ
 |_=>False
def Lp(K:Fm->St->Prop)(S:AF->(Fm×St)->Prop)(f:AF)(q:Fm×St):Prop:=AF.casesOn f (K q.1 q.2) (K q.1 q.2) (λv=>S (.ret v) q) λw=>S (.exc w) q
def TnK(b:List Stmt)(S:AF->(Fm×St)->Prop)(w:Fm)(σ:St):Prop:=i.Pq b w σ S
def mN(w₀:Fm)(K:Fm->St->Prop)(w:Fm)(σ:St):Prop:=K (E0 w₀ w) σ
def MU(t:Expr)(b:List Stmt)(w₀:Fm)(S:AF->(Fm×St)->Prop):List AV->Fm->St->Prop
 |[],w,σ=>S .next (w,σ)
 |v::r,w,σ=>i.asg t v w σ (TnK i b (Lp (mN w₀ (MU t b w₀ S r)) S))
def Xh(S:AF->(Fm×St)->Prop)(σ:St)(h:Option Nat)(f:AF)(q:Fm×St):Prop:=S f (q.1,G9 (D2 σ h) q.2 h)
def Xi(t:Expr)(b:List Stmt)(w:Fm)(S:AF->(Fm×St)->Prop)(r:List AV×Option Nat)(σ:St):Prop:=MU i t b w (Xh S σ r.2) r.1 w (GA σ r.2)
def WhK(b:List Stmt)(L S:AF->(Fm×St)->Prop)(w:Fm)(c:Bool)(σ:St):Prop:=if c=true then i.Pq b w σ L else S .next (w,σ)
def whP(t:Expr)(b:List Stmt)(w₀:Fm)(S:AF->(Fm×St)->Prop):Nat->Fm->St->Prop
 |0,_,_=>False
 |n+1,w,σ=>i.Po t w σ (WhK i b (Lp (mN w₀ (whP t b w₀ S n)) S) S w)
def CKe(acc:List AV)(K:Fm->List AV->St->Prop)(w:Fm)(v:AV)(σ:St):Prop:=acc.length<=Ce/\K w (acc++[v]) σ
def CKt(elt:Expr)(acc:List AV)(K:Fm->List AV->St->Prop)(w:Fm)(c:Bool)(σ:St):Prop:=if c=true then i.ev elt w σ (CKe acc K w)else K w acc σ
def wH(ifs:List Expr)(elt:Expr)(acc:List AV)(K:Fm->List AV->St->Prop)(w:Fm)(σ:St):Prop:=i.LD .And ifs w σ (CKt i elt acc K w)
def Rc(w₀:Fm)(K:Fm->List AV->St->Prop)(w:Fm)(acc:List AV)(σ:St):Prop:=K (E0 w₀ w) acc σ
def TU(t:Expr)(ifs:List Expr)(elt:Expr)(w₀:Fm)(K:Fm->List AV->St->Prop):List AV->Fm->List AV->St->Prop
 |[],w,acc,σ=>K w acc σ
 |v::r,w,acc,σ=>i.asg t v w σ (wH i ifs elt acc (Rc w₀ (TU t ifs elt w₀ K r)))
def mO(K:Fm->List AV->St->Prop)(σ:St)(h:Option Nat)(w:Fm)(acc:List AV)(τ:St):Prop:=K w acc (G9 (D2 σ h) τ h)
def wI(t:Expr)(ifs:List Expr)(elt:Expr)(acc:List AV)(K:Fm->List AV->St->Prop)(w:Fm)(r:List AV×Option Nat)(σ:St):Prop:=TU i t ifs elt w (mO K σ r.2) r.1 w acc (GA σ r.2)
def wJ(On t':Expr)(GC:List Expr)(elt:Expr)(acc:List AV)(K:Fm->List AV->St->Prop)(w:Fm)(c:Bool)(σ:St):Prop:=if c=true then i.items On w σ (wI i t' GC elt acc K w)else K w acc σ
def mP(ifs:List Expr)(On t':Expr)(GC:List Expr)(elt:Expr)(acc:List AV)(K:Fm->List AV->St->Prop)(w:Fm)(σ:St):Prop:=i.LD .And ifs w σ (wJ i On t' GC elt acc K w)
def Ul(t:Expr)(ifs:List Expr)(On t':Expr)(GC:List Expr)(elt:Expr)(w₀:Fm)(K:Fm->List AV->St->Prop):List AV->Fm->List AV->St->Prop
 |[],w,acc,σ=>K w acc σ
 |v::r,w,acc,σ=>i.asg t v w σ (mP i ifs On t' GC elt acc (Rc w₀ (Ul t ifs On t' GC elt w₀ K r)))
def GX(Q:AV->St->Prop)(σ:St)(h:Option Nat)(_:Fm)(acc:List AV)(τ:St):Prop:=acc.length<=Ce/\Q (.ref (G9 (D2 σ h) τ h).length) (G9 (D2 σ h) τ h++[.list false acc])
def RW(t:Expr)(ifs:List Expr)(gs:List Comprehension)(elt:Expr)(w:Fm)(Q:AV->St->Prop)(r:List AV×Option Nat)(σ:St):Prop:=match gs with
 |[]=>TU i t ifs elt w (GX Q σ r.2) r.1 w [] (GA σ r.2)
 |[g]=>DI (decide (g.is_async=0)) (Ul i t ifs g.iter g.target g.ifs elt w (GX Q σ r.2) r.1 w [] (GA σ r.2))
 |_=>False
def Bo(S:AF->(Fm×St)->Prop)(fr:Fm)(σ:St):Prop:=S .next (fr,σ)
def Rr(S:AF->(Fm×St)->Prop)(fr:Fm)(v:AV)(σ:St):Prop:=isN v (S .next (fr,σ))
noncomputable def cI(op:Operator)(a b:Int):Option Int:=match op with
 | .Add=>some (a+b)
 | .Sub=>some (a-b)
 |_=>none
def Rt(S:AF->(Fm×St)->Prop)(fr:Fm)(x:Str)(σ:St)(c:Int):Prop:=S .next (Kf fr x (.int c),σ)
def VG(S:AF->(Fm×St)->Prop)(fr:Fm)(x:Str)(op:Operator)(a:Int)(σ:St)(b:Int):Prop:=Bn (cI op a b) (Rt S fr x σ)
def VH(S:AF->(Fm×St)->Prop)(fr:Fm)(x:Str)(op:Operator)(a:Int)(w:AV)(σ:St):Prop:=iG w (VG S fr x op a σ)
def VI(e:Expr)(fr:Fm)(σ:St)(S:AF->(Fm×St)->Prop)(x:Str)(op:Operator)(a:Int):Prop:=i.ev e fr σ (VH S fr x op a)
def ZP(e:Expr)(fr:Fm)(σ:St)(S:AF->(Fm×St)->Prop)(x:Str)(op:Operator)(v:AV):Prop:=iG v (VI i e fr σ S x op)
def LM(σ:St)(x:Str)(k:Int)(a:AV)(S:AF->(Fm×St)->Prop)(fr:Fm)(j:Int):Prop:=Bn (FN σ x (.int (k+j)) a) (Bo S fr)
def LN(x:Str)(k:Int)(a:AV)(S:AF->(Fm×St)->Prop)(fr:Fm)(w:AV)(σ:St):Prop:=iG w (LM σ x k a S fr)
def LO(e:Expr)(fr:Fm)(σ:St)(x:Str)(a:AV)(S:AF->(Fm×St)->Prop)(k:Int):Prop:=i.ev e fr σ (LN x k a S fr)
def Jg(e:Expr)(fr:Fm)(σ:St)(x:Str)(a:AV)(S:AF->(Fm×St)->Prop)(w:AV):Prop:=iG w (LO i e fr σ x a S)
def NK(x:Str)(e:Expr)(fr:Fm)(S:AF->(Fm×St)->Prop)(a:AV)(σ:St):Prop:=Bn (H0 σ x a) (Jg i e fr σ x a S)
def VJ(S:AF->(Fm×St)->Prop)(fr:Fm)(v:AV)(σ:St):Prop:=S (.ret v) (fr,σ)
def cJ(b:List Stmt)(fr:Fm)(S:AF->(Fm×St)->Prop)(o:List Stmt)(c:Bool)(σ:St):Prop:=if c=true then i.Pq b fr σ S else i.Pq o fr σ S
def VK(a:AV)(S:AF->(Fm×St)->Prop)(fr:Fm)(k:AV)(σ:St):Prop:=Bn (LI σ k a) (Bo S fr)
def ZQ(x:Expr)(fr:Fm)(S:AF->(Fm×St)->Prop)(a:AV)(σ:St):Prop:=i.ev x fr σ (VK a S fr)
def PE(S:AF->(Fm×St)->Prop)(fr:Fm)(σ:St)(m:Str):Prop:=S (.exc m) (fr,σ)
def RX(S:AF->(Fm×St)->Prop)(fr:Fm)(v:AV)(σ:St):Prop:=isS v (PE S fr σ)
def VL(S:AF->(Fm×St)->Prop)(fr:Fm)(r:Res)(σ:St):Prop:=Res.casesOn r (λv=>S (.ret v) (fr,σ)) λw=>S (.ret (.str w)) ([],σ)
def ZR(C:Cl)(g:Str)(S:AF->(Fm×St)->Prop)(fr:Fm)(vs:List AV)(σ:St):Prop:=C g vs σ (VL S fr)
def TV(sc:Scope)(t:Expr)(ts vs:List Expr)(fr:Fm)(S:AF->(Fm×St)->Prop)(v:AV)(σ:St):Prop:=match swp sc ts vs with
 |none=>False
 |some none=>i.asg t v fr σ (Bo S)
 |some (some names)=>isT v λxs=>DI (decide (names.length=xs.length)) (S .next ((names.reverse.zip xs.reverse).foldl (λf p=>Kf f p.1 p.2) fr,σ))
def LP(sc:Scope)(t e:Expr)(fr:Fm)(S:AF->(Fm×St)->Prop)(v:AV)(σ:St):Prop:=hZ t (λa=>(i.asg t v fr σ (Bo S))) (λa a=>(i.asg t v fr σ (Bo S))) (λa a a=>(i.asg t v fr σ (Bo S))) (λa a=>(i.asg t v fr σ (Bo S))) (λa a a=>(i.asg t v fr σ (Bo S))) (λa a=>(i.asg t v fr σ (Bo S))) (λa a a=>(i.asg t v fr σ (Bo S))) (λts=>hZ e (λa=>(i.asg t v fr σ (Bo S))) (λa a=>(i.asg t v fr σ (Bo S))) (λa a a=>(i.asg t v fr σ (Bo S))) (λa a=>(i.asg t v fr σ (Bo S))) (λa a a=>(i.asg t v fr σ (Bo S))) (λa a=>(i.asg t v fr σ (Bo S))) (λa a a=>(i.asg t v fr σ (Bo S))) (λvs=>TV i sc t ts vs fr S v σ) (λa=>(i.asg t v fr σ (Bo S))) (λa a=>(i.asg t v fr σ (Bo S))) (λa a=>(i.asg t v fr σ (Bo S))) (λa a a=>(i.asg t v fr σ (Bo S))) (λa a a a=>(i.asg t v fr σ (Bo S))) (λa a a=>(i.asg t v fr σ (Bo S))) (λa=>(i.asg t v fr σ (Bo S))) (λa a a a=>(i.asg t v fr σ (Bo S))) (i.asg t v fr σ (Bo S))) (λa=>False) (λa a=>(i.asg t v fr σ (Bo S))) (λa a=>(i.asg t v fr σ (Bo S))) (λa a a=>(i.asg t v fr σ (Bo S))) (λa a a a=>(i.asg t v fr σ (Bo S))) (λa a a=>(i.asg t v fr σ (Bo S))) (λa=>False) (λa a a a=>(i.asg t v fr σ (Bo S))) (i.asg t v fr σ (Bo S))
def goF(ss:List Stmt)(S:AF->(Fm×St)->Prop)(f:AF)(p:Fm×St):Prop:=AF.casesOn f (i.Pq ss p.1 p.2 S) (S .cont p) (λv=>S (.ret v) p) λw=>S (.exc w) p
end
section
variable(C:Cl)(sc:Scope)(j:Scope->I)(i:I)
noncomputable def gf(x:Str):Str×GK:=(x,.fn)
noncomputable def bV:List (Str×GK):=[gf "payload_group",gf "link_fields",gf "ip_fields",gf "ip6_fields",gf "tcp_fields",gf "udp_fields",gf "th_fields",gf "icmp_fields",gf "meta_fields",gf "ct_fields",gf "needs_of",gf "needs_in",gf "number_of",gf "turned",gf "host_number",gf "host_order",gf "slots_of",gf "put_row",gf "note",gf "need_match",gf "flush",gf "emit",gf "known_with",gf "asked_of",gf "split_at",gf "field_at",gf "settle",gf "cut",gf "slot_of",gf "held",gf "number_in",gf "joined",gf "key_at",gf "elements_told",gf "where_of",gf "back_payload",gf "back_meta",gf "ct_name",gf "back_ct",gf "back_immediate",gf "back_bitwise",gf "back_shift",gf "back_byteorder",gf "back_cmp",gf "back_range",gf "back_lookup",gf "back_map",gf "back_vmap",gf "back_same",gf "back_core",gf "back_meter",gf "back_dynset",gf "back_meters",gf "put_set",gf "back_payload_set",gf "back_meta_set",gf "back_ct_set",gf "back_acts",gf "statements_of",gf "_law_digit",gf "_law_number",gf "_law_table",gf "_law_wants",gf "_law_parted",gf "_law_octets",gf "_law_port",gf "_law_ask",gf "_law_ask_all",gf "_law_fetch",gf "_law_value",gf "_law_put",gf "_law_pen",gf "_law_least",gf "_law_source",gf "_law_act",gf "_law_statements",gf "_law_read",gf "_law_rule_holds",gf "law",(Aa "Reading",GK.cls),(Aa "len",GK.prim .len),(Aa "tuple",GK.prim .tuple),(Aa "list",GK.prim .list),(Aa "bytes",GK.prim .bytes),(Aa "str",GK.prim .str),(Aa "any",GK.prim .any),gf "back_hash"]
noncomputable def gkL:List (Str×GK)->Str->Option GK
 |[],_=>none
 |p::r,x=>if p.1=x then some p.2 else gkL r x
theorem Qep{x:Str}:gkL [] x=none:=rfl
theorem Qeq{p:Str×GK}{r:List (Str×GK)}{x:Str}:gkL (p::r) x=if p.1=x then some p.2 else gkL r x:=rfl
noncomputable def mQ(x:Str):Option GK:=gkL bV x
theorem wK:bV.map (λp=>RN p.1)=bV.map λp=>some p.2:=by kernel_rfl
def Glob(x:Str)(Q:AV->St->Prop)(σ:St):Prop:=DI (decide (BJ sc.names x=some .globalImplicit)) (Kg (mQ x) x Q σ)
def Xj(f:Str)(args:List Expr)(fr:Fm)(σ:St)(Q:AV->St->Prop):Prop:=DI (decide (BJ sc.names f=some .globalImplicit)) (GcT i C (mQ f) f args fr σ Q)
def QbK(o ix:Expr)(fr:Fm)(σ:St)(Q:AV->St->Prop):Prop:=AH (sliceOf ix) (DI (I9 ix) (i.ev o fr σ (Kj i ix fr Q))) λp=>i.ev o fr σ (RP i p.1 fr p.2.1 Q)
def Qc4(f:Expr)(args:List Expr)(zN:List Keyword)(p:Pos)(fr:Fm)(σ:St)(Q:AV->St->Prop):Prop:=AI zN (hZ f (λa=>False) (λf a=>DI (args.all I9) (Nm (Dj fr f) (Rn i args fr σ C Q) (Xj C sc i f args fr σ Q))) (λa a a=>False) (λa a=>False) (λa a a=>False) (λa a=>False) (λa a a=>False) (λa=>False) (λa=>False) (λa a=>False) (λa a=>False) (λo m ap=>DI (plainCall ap p args&&Dg o&&args.all I9) (i.ev o fr σ (Rm i m args fr Q))) (λa a a a=>False) (λa a a=>False) (λa=>False) (λa a a a=>False) False) λa a=>False
def mR(elt:Expr)(gs:List Comprehension)(scope:Scope)(fr:Fm)(σ:St)(Q:AV->St->Prop):Prop:=AI gs False λg gs=>
 DI (decide (g.is_async=0)&&JK sc scope) (i.items g.iter fr σ (RW (j scope) g.target g.ifs gs elt (B3 fr scope.names) Q))
def unF(op:UnaryOp)(x:Expr)(fr:Fm)(σ:St)(Q:AV->St->Prop):Prop:=match op with
 | .Not=>i.ev x fr σ (ZL Q)
 | .USub=>i.ev x fr σ (ZM Q)
 |_=>False
def bW{α β:Type}(as:List α)(bs:List β)(P:α->β->Prop):Prop:=AI as False λa r=>AI r (AI bs False λb s=>AI s (P a b) λx x=>False) λx x=>False
def evF(e:Expr)(fr:Fm)(σ:St)(Q:AV->St->Prop):Prop:=hZ e (λc=>NH c (KV Q σ)) (λx h=>Nm (Dj fr x) (KV Q σ) (Glob sc x Q σ)) (λl op r=>i.ev l fr σ (Vv i r fr op Q)) (λop x=>unF i op x fr σ Q) (λt a b=>i.Po t fr σ (Ot i a fr Q b)) (λop es=>i.bool op es fr σ Q) (λl ops rs=>bW ops rs λop r=>DI (I9 r) (i.ev l fr σ (Ki i r fr op Q))) (λes=>DI (decide (es.length<=Ce)) (i.Na es fr σ (Ou Q))) (λes=>DI (decide (es.length<=Ce)) (i.Na es fr σ (Ri Q))) (λks vs=>AI ks (AI vs (Q (.ref σ.length) (σ++[.sd false []])) λh h=>False) λk ks=>DI (decide (ks.length+1<=15)&&(k::ks).all (λh=>h.isSome)&&((k::ks).length==vs.length)) (i.pairs (k::ks) vs fr σ (Rj Q))) (λo ix=>QbK i o ix fr σ Q) (λo x h=>DI (Dg o) (i.ev o fr σ (Rl x Q))) (λf args zN p=>Qc4 C sc i f args zN p fr σ Q) (λelt gs scope=>mR sc j i elt gs scope fr σ Q) (λh=>False) (λh h h h=>False) False
def Qc5(es:List Expr)(fr:Fm)(σ:St)(Q:List AV->St->Prop):Prop:=AI es (Q [] σ) λe es=>DI (I9 e) (i.ev e fr σ (Vz i es fr Q))
def Qc6(e:Option Expr)(fr:Fm)(σ:St)(Q:Option Int->St->Prop):Prop:=AH e (Q none σ) λe=>i.ev e fr σ (ZN Q)
def mS(ks:List (Option Expr))(vs:List Expr)(fr:Fm)(σ:St)(Q:List (AV×AV)->St->Prop):Prop:=AI ks (AI vs (Q [] σ) λa a=>False)
 λk ks=>AH k False λk=>AI vs False λv vs=>i.ev k fr σ (RU i v fr ks vs Q)
def Qac(op:BoolOp)(es:List Expr)(fr:Fm)(σ:St)(Q:AV->St->Prop):Prop:=AI es False λe es=>AI es (i.ev e fr σ Q) λe' es=>i.ev e fr σ (VB i op (e'::es) fr Q)
def wL(e:Expr)(fr:Fm)(σ:St)(T:Bool->St->Prop):Prop:=i.ev e fr σ (NJ T)
def Qer(op:UnaryOp)(x:Expr)(fr:Fm)(σ:St)(T:Bool->St->Prop):Prop:=match op with
 | .Not=>i.Po x fr σ (VC T)
 |_=>False
def Qc7(e:Expr)(fr:Fm)(σ:St)(T:Bool->St->Prop):Prop:=hZ e (λa=>False) (λa a=>wL i e fr σ T) (λa a a=>False) (λop x=>Qer i op x fr σ T) (λa a a=>False) (λop es=>i.LD op es fr σ T) (λl ops rs=>bW ops rs λop r=>DI (I9 r) (i.ev l fr σ (NI i r fr op T))) (λa=>False) (λa=>False) (λa a=>False) (λa a=>wL i e fr σ T) (λa a a=>wL i e fr σ T) (λa a a a=>wL i e fr σ T) (λa a a=>False) (λa=>False) (λa a a a=>False) False
def mT(op:BoolOp)(es:List Expr)(fr:Fm)(σ:St)(T:Bool->St->Prop):Prop:=AI es (T (op== .And) σ) λe es=>i.Po e fr σ (Rq i op es fr T)
def ZS(e:Expr)(fr:Fm)(σ:St)(R:List AV×Option Nat->St->Prop):Prop:=JcF i (LJ sc fr e) e fr σ R
def QbL(t:Expr)(v:AV)(fr:Fm)(σ:St)(F:Fm->St->Prop):Prop:=hZ t (λa=>False) (λx a=>DI (decide (BJ sc.names x=some .local\/BJ sc.names x=some .cell)) (F (Kf fr x v) σ)) (λa a a=>False) (λa a=>False) (λa a a=>False) (λa a=>False) (λa a a=>False) (λts=>AV.casesOn v False (λa=>False) (λa=>False) (λa=>False) (λa=>False) (λxs=>PD i ts fr σ F xs) (λr=>mM σ r (PD i ts fr σ F)) (λa=>False) (λa=>False)) (λa=>False) (λa a=>False) (λo ix=>i.ev o fr σ (ZO i ix fr v F)) (λo x a=>i.ev o fr σ (VD x v F fr)) (λa a a a=>False) (λa a a=>False) (λa=>False) (λa a a a=>False) False
def Qad(ts:List Expr)(xs:List AV)(fr:Fm)(σ:St)(F:Fm->St->Prop):Prop:=AI ts (AI xs (F fr σ) λa a=>False) λt ts=>AI xs False λx xs=>i.asg t x fr σ (VF i ts xs F)
def Qc8(t:Expr)(op:Operator)(e:Expr)(fr:Fm)(σ:St)(S:AF->(Fm×St)->Prop):Prop:=(∃(x:Str)(p:Pos),t= .Name x p/\DI (decide (BJ sc.names x=some .local\/BJ sc.names x=some .cell)) (Nm (Dj fr x) (ZP i e fr σ S x op) False))\/∃(o:Expr)(x:Str)(p:Pos),t= .Attribute o x p/\op= .Add/\i.ev o fr σ (NK i x e fr S)
def Qc9(ts:List Expr)(fr:Fm)(σ:St)(S:AF->(Fm×St)->Prop):Prop:=∃(o x:Expr)(p:Pos),ts=[.Subscript o x p]/\i.ev o fr σ (ZQ i x fr S)
def Qda(x y:Option Expr)(fr:Fm)(σ:St)(S:AF->(Fm×St)->Prop):Prop:=∃(n:Str)(p1 p2:Pos)(e:Expr),x=some (.Call (.Name n p1) [e] [] p2)/\y=none/\DI (decide (n="Misused"/\Dj fr n=none/\BJ sc.names n=some .globalImplicit)&&I9 e) (i.ev e fr σ (RX S fr))
def hdC{α:Type}(l:List α)(P:α->Prop):Prop:=AI l False λa r=>AI r (P a) λx x=>False
def Qae(fr:Fm)(g x f f' y:Str):Prop:=x="Misused"/\y="why"/\f'=f/\Dj fr x=none/\Dj fr g=none/\BJ sc.names x=some .globalImplicit/\BJ sc.names g=some .globalImplicit/\BJ sc.names f=some .local/\Dj fr f=none/\mQ g=some .fn
def Qdb(b:List Stmt)(h:List ExceptHandler)(o f:List Stmt)(fr:Fm)(σ:St)(S:AF->(Fm×St)->Prop):Prop:=
 ∃(g x f₁ f' y:Str)(args:List Expr)(p1 p2 p3 p4 p5 p6 p7 p8:Pos),b=[.Return (some (.Call (.Name g p1) args [] p2)) p3]/\h=[.ExceptHandler (some (.Name x p4)) (some f₁) [.Return (some (.Attribute (.Name f' p5) y p6)) p7] p8]/\o=[]/\f=[]/\Qae sc fr g x f₁ f' y/\DI (args.all I9) (i.Na args fr σ (ZR C g S fr))
def exF(s:Stmt)(fr:Fm)(σ:St)(S:AF->(Fm×St)->Prop):Prop:=stC s (λa a a a=>False) (λa a=>False) (λe=>AH e (S (.ret .none) (fr,σ)) λe=>i.ev e fr σ (VJ S fr)) (λts=>Qc9 i ts fr σ S) (λts e=>hdC ts λt=>DI (I9 e) (i.ev e fr σ (LP i sc t e fr S))) (λt op e=>Qc8 sc i t op e fr σ S) (λt it b o=>AI o (i.items it fr σ (Xi i t b fr S)) λa a=>False) (λt b o=>AI o (whP i t b fr S Vt fr σ) λa a=>False) (λt b o=>i.Po t fr σ (cJ i b fr S o)) (λx y=>Qda sc i x y fr σ S) (λb h o f=>Qdb C sc i b h o f fr σ S) (λe=>DI (E6 e) (i.ev e fr σ (Rr S fr))) (S .next (fr,σ)) (S .cont (fr,σ)) False
def mU(ss:List Stmt)(fr:Fm)(σ:St)(S:AF->(Fm×St)->Prop):Prop:=AI ss (S .next (fr,σ)) λs ss=>i.ex s fr σ (goF i ss S)
noncomputable def I.step:I:=⟨evF C sc j i,Qc5 i,Qc6 i,mS i,Qac i,Qc7 i,mT i,ZS sc i,QbL sc i,Qad i,exF C sc i,mU i⟩
noncomputable def I.bot:I:=⟨λa a a a=>False,λa a a a=>False,λa a a a=>False,λa a a a a=>False,λa a a a a=>False,λa a a a=>False,λa a a a a=>False,λa a a a=>False,λa a a a a=>False,λa a a a a=>False,λa a a a=>False,λa a a a=>False⟩
noncomputable def I.aux:Nat->Scope->I
 |0,_=>I.bot
 |n+1,sc=>I.step C sc (I.aux n) (I.aux n sc)
noncomputable def I.at(n:Nat):I:=I.aux C n sc
end
structure Oo where
 params:List Str
 scope:Scope
 body:List Stmt
theorem wM:Nonempty Oo:=Kb.elim λs=>⟨⟨[],s,[]⟩⟩
noncomputable def Nf(s:Stmt):Option Oo:=stC s (λa args body scope=>some ⟨JN args,scope,body⟩) (λa a=>none) (λa=>none) (λa=>none) (λa a=>none) (λa a a=>none) (λa a a a=>none) (λa a a=>none) (λa a a=>none) (λa a=>none) (λa a a a=>none) (λa=>none) none none none
noncomputable def Ox(s:Stmt):Option Oo:=stC s (λa a a a=>none) (λa b=>AI b none λs r=>AI r (Nf s) λa a=>none) (λa=>none) (λa=>none) (λa a=>none) (λa a a=>none) (λa a a a=>none) (λa a a=>none) (λa a a=>none) (λa a=>none) (λa a a a=>none) (λa=>none) none none none
noncomputable def PF(s:Stmt):Option Str:=stC s (λy a a a=>some y) (λy a=>some y) (λa=>none) (λa=>none) (λa a=>none) (λa a a=>none) (λa a a a=>none) (λa a a=>none) (λa a a=>none) (λa a=>none) (λa a a a=>none) (λa=>none) none none none
noncomputable def Um(x:Str):Nat->List Stmt->Option Nat
 |_,[]=>none
 |i,s::r=>if PF s=some x then some i else Um x (i+1) r
noncomputable def Iv(x:Str):Option Nat:=Um x 0 body
noncomputable def JQ(i:Nat):Option Oo:=(Ls body i).bind Nf
noncomputable def PG(i:Nat):Option Oo:=(Ls body i).bind Ox
def Qm(Q:Res->St->Prop)(f:AF)(p:Fm×St):Prop:=AF.casesOn f (Q (.val .none) p.2) False (λv=>Q (.val v) p.2) λw=>Q (.exc w) p.2
def iH(C:Cl)(d:Oo)(args:List AV)(σ:St)(Q:Res->St->Prop):Prop:=
 (d.params.length==args.length&&Di d.scope)=true/\(I.at C d.scope 1000).Pq d.body (d.params.zip args) σ (Qm Q)
def cK(b:Nat)(Q:Res->St->Prop)(r:Res)(σ:St):Prop:=match r with
 | .val .none=>Q (.val (.ref b)) σ
 |_=>False
noncomputable def By:Nat->Cl
 |0,_,_,_,_=>False
 |k+1,x,args,σ,Q=>if x="Reading" then Bn ((Iv x).bind PG) λd=>iH (By k) d (.ref (σ.length+1)::args) (σ++[.sd false [],.inst σ.length]) (cK (σ.length+1) Q)
  else Bn ((Iv x).bind JQ) λd=>iH (By k) d args σ Q
theorem VM{k:Nat}{x:Str}{args:List AV}{σ:St}{Q:Res->St->Prop}:By (k+1) x args σ Q=if x="Reading" then Bn ((Iv x).bind PG) λd=>iH (By k) d (.ref (σ.length+1)::args) (σ++[.sd false [],.inst σ.length]) (cK (σ.length+1) Q)
  else Bn ((Iv x).bind JQ) λd=>iH (By k) d args σ Q:=rfl
end
section
set_option autoImplicit false
open PySem PySem.Calls PyProof.Rows
structure Wd where
 prog:Program
 w:World
 h₀:Heap
 mg:Str->Option Value
 mb:Str->Option Value
 cR:Addr
 K:Bj
theorem DO:Nonempty Wd:=hY.elim λp=>⟨⟨p,Mk 1,{},λa=>none,λa=>none,0,[]⟩⟩
abbrev bot:Value->Shared->Prop:=λa a=>False
abbrev Lu(vs:Array Value)(n:Nat):Obj:={cls:= .type "tuple",dict:=none,data:= .seq vs n,slots:= #[]}
abbrev JA(vs:Array Value)(n:Nat):Obj:={cls:= .type "list",dict:=none,data:= .seq vs n,slots:= #[]}
inductive A2{α β:Type}(R:α->β->Prop):List α->List β->Prop
 |nil:A2 R [] []
 |cons {a:α} {b:β} {as:List α} {bs:List β}:R a b->A2 R as bs->A2 R (a::as) (b::bs)
section
variable{α β:Type}{R S:α->β->Prop}{as as':List α}{bs bs':List β}
theorem A2.mono(f:∀a b,R a b->S a b)(q:A2 R as bs):A2 S as bs:=by
 induction q with
 |nil=>exact .nil
 |cons p _ ih=>exact .cons (f _ _ p) ih
theorem A2.length(q:A2 R as bs):bs.length=as.length:=by
 induction q with
 |nil=>rfl
 |cons p _ ih=>exact congrArg Nat.succ ih
theorem A2.size{v:Array β}(q:A2 R as v.toList):v.size=as.length:=Bh.symm.trans q.length
theorem A2.get(q:A2 R as bs):∀{i:Nat}{x:α},as[i]? =some x->∃y,bs[i]? =some y/\R x y:=by
 induction q with
 |nil=>exactλe=>nomatch e
 |cons p _ ih=>
  intro i x e;cases i with
  |zero=>cases e;exact⟨_,rfl,p⟩
  |succ i=>exact ih e
theorem A2.append(q:A2 R as bs)(r:A2 R as' bs'):A2 R (as++as') (bs++bs'):=by
 induction q with
 |nil=>exact r
 |cons p _ ih=>exact .cons p ih
theorem A2.take(q:A2 R as bs):∀n,A2 R (as.take n) (bs.take n):=by
 induction q with
 |nil=>intro n;refine Ae Ny (Ae Ny ?_);exact .nil
 |cons p _ ih=>exactλn=>Dm n .nil λn=> .cons p (ih n)
theorem A2.drop(q:A2 R as bs):∀n,A2 R (as.drop n) (bs.drop n):=by
 induction q with
 |nil=>intro n;refine Ae Nz (Ae Nz ?_);exact .nil
 |cons p r ih=>exactλn=>Dm n (.cons p r) ih
end
inductive Rep(B:Wd)(μ:List Addr)(h:Heap):AV->Value->Prop
 |none:Rep B μ h .none .none
 |bool (b:Bool):Rep B μ h (.bool b) (.bool b)
 |int (i:Int) (t:Tok):Rep B μ h (.int i) (.int i t)
 |str (x:Str) (t:Tok):Rep B μ h (.str x) (.str x t)
 |bytes (b:Array UInt8) (t:Tok) (l:List Int) (e:l=b.toList.map λu=>(u.toNat:Int)):Rep B μ h (.bytes l) (.bytes b t)
 |tup {a:Addr} {vs:Array Value} {n:Nat} {xs:List AV}:h.get? a=some (Lu vs n)->A2 (Rep B μ h) xs vs.toList->Rep B μ h (.tup xs) (.ref a)
 |ref {i:Nat} {a:Addr}:μ[i]? =some a->Rep B μ h (.ref i) (.ref a)
 |fn {x:Str} {a:Addr}:B.mg x=some (.ref a)->RN x=some .fn->Rep B μ h (.fn x) (.ref a)
 |W4 {a:Addr} {vs:Array Value} {ns:List Int}:B.h₀.IsList a vs->IntsAre vs.toList ns->Rep B μ h (.W4 ns) (.ref a)
abbrev Qi(B:Wd)(μ:List Addr)(h:Heap):List AV->List Value->Prop:=A2 (Rep B μ h)
def KVr{K:Type}(B:Wd)(μ:List Addr)(h:Heap)(p:K×AV)(q:K×Value):Prop:=q.1=p.1/\Rep B μ h p.2 q.2
abbrev HM{K:Type}(B:Wd)(μ:List Addr)(h:Heap):List (K×AV)->List (K×Value)->Prop:=A2 (KVr B μ h)
section
variable{B:Wd}{μ μ':List Addr}{h h':Heap}{K:Type}
structure NM(μ μ':List Addr)(h h':Heap):Prop where
 mu:∀(i:Nat)(a:Addr),μ[i]? =some a->μ'[i]? =some a
 tup:∀a vs n,h.get? a=some (Lu vs n)->h'.get? a=some (Lu vs n)
theorem Rep.mono(x:NM μ μ' h h'){v:AV}{c:Value}(q:Rep B μ h v c):Rep B μ' h' v c:=
 Rep.rec (motive_1:=λv c a=>Rep B μ' h' v c) (motive_2:=λv c a=>Qi B μ' h' v c) .none .bool .int .str .bytes (λe a r=> .tup (x.tup _ _ _ e) r) (λe=> .ref (x.mu _ _ e)) .fn .W4 .nil (λa a p r=> .cons p r) q
theorem Qi.mono(x:NM μ μ' h h'){v:List AV}{c:List Value}(q:Qi B μ h v c):Qi B μ' h' v c:=A2.mono (λa a=>Rep.mono x) q
theorem HM.mono(x:NM μ μ' h h'){v:List (K×AV)}{c:List (K×Value)}(q:HM B μ h v c):HM B μ' h' v c:=A2.mono (λa a p=>⟨p.1,p.2.mono x⟩) q
theorem VN [DecidableEq K] (p:K×Value)(c:List (K×Value))(k:K):valueAt (p::c) k=if p.1=k then some p.2 else valueAt c k:=by
 unfold valueAt;refine Ae List.find?_cons ?_;by_cases e:p.1=k
 .refine Ae (if_pos e) (Ae (decide_eq_true e) ?_);rfl
 .exact Ae (if_neg e) (Ae (decide_eq_false e) rfl)
theorem HM.at [DecidableEq K] {v:List (K×AV)}{c:List (K×Value)}(q:HM B μ h v c)(k:K){P:Option AV->Option Value->Prop}(h1:∀x y,Rep B μ h x y->P (some x) (some y))(h0:P none none):P (EP v k) (valueAt c k):=by
 induction q with
 |nil=>exact h0
 |@cons a b as bs p _ ih=>
  refine Ae (VN ..) (Ae p.1 ?_);show P (if a.1=k then some a.2 else EP as k) _;by_cases e:a.1=k
  .refine Ae (if_pos e) (Ae (if_pos e) ?_);exact h1 _ _ p.2
  .refine Ae (if_neg e) (Ae (if_neg e) ?_);exact ih
theorem HM.get [DecidableEq K] {v:List (K×AV)}{c:List (K×Value)}(q:HM B μ h v c){k:K}{x:AV}(e:EP v k=some x):∃y,valueAt c k=some y/\Rep B μ h x y:=
 q.at k (P:=λa b=>a=some x->∃y,b=some y/\Rep B μ h x y) (λz y r e=>⟨y,rfl,BB e▸r⟩) (λe=>nomatch e) e
theorem HM.has [DecidableEq K] {v:List (K×AV)}{c:List (K×Value)}(q:HM B μ h v c)(k:K):(valueAt c k).isSome=(EP v k).isSome:=
 q.at k (P:=λa b=>b.isSome=a.isSome) (λx x x=>rfl) rfl
inductive Ij(B:Wd)(μ:List Addr)(h:Heap):AO->Addr->Prop
 |list {fz:Bool} {xs:List AV} {a:Addr} {vs:Array Value} {n:Nat}:h.get? a=some (JA vs n)->Qi B μ h xs vs.toList->Ij B μ h (.list fz xs) a
 |sd {fz:Bool} {kvs:List (Str×AV)} {a:Addr} {DB:List (Str×Value)}:h.DictOf (strKind B.prog B.w) a DB->HM B μ h kvs DB->Ij B μ h (.sd fz kvs) a
 |RH {fz:Bool} {kvs:List (Int×AV)} {a:Addr} {DB:List (Int×Value)}:h.DictOf (intKind B.prog B.w) a DB->HM B μ h kvs DB->Ij B μ h (.RH fz kvs) a
 |inst {d:Nat} {a dx:Addr} {sl:Array (Option Value)}:h.get? a=some ⟨.ref B.cR,some dx,.plain,sl⟩->μ[d]? =some dx->Ij B μ h (.inst d) a
theorem PH{K:Type}[DecidableEq K] {prog:Program}{w:World}{knd:KeyKind prog w K}{a:Addr}{kvs:List (K×Value)}(x:h.DictOf knd a kvs)(k:∀o,h.get? a=some o->h'.get? a=some o):h'.DictOf knd a kvs:=by
 obtain⟨o,es,ep,ho,r⟩:=x;exact⟨o,es,ep,k o ho,r⟩
theorem Fh{K:Type}[DecidableEq K] {prog:Program}{w:World}{knd:KeyKind prog w K}{a:Addr}{kvs:List (K×Value)}(x:h.DictOf knd a kvs):∃ob es ep,h.get? a=some ob/\ob.cls= .type "dict"/\ob.data= .dict es ep:=by
 obtain⟨o,es,ep,ho,hc,hd,_⟩:=x;exact⟨o,es,ep,ho,hc.1,hd⟩
theorem Ij.mono(x:NM μ μ' h h'){o:AO}{a:Addr}(k:∀o,h.get? a=some o->h'.get? a=some o)(q:Ij B μ h o a):Ij B μ' h' o a:=by
 cases q with
 |list h1 h2=>exact .list (k _ h1) (h2.mono x)
 |sd h1 h2=>exact .sd (PH h1 k) (h2.mono x)
 |RH h1 h2=>exact .RH (PH h1 k) (h2.mono x)
 |inst h1 h2=>exact .inst (k _ h1) (x.mu _ _ h2)
theorem Ij.El{o:AO}{a:Addr}{b:Bool}(q:Ij B μ h o a):Ij B μ h (o.El b) a:=by
 cases q with
 |list h1 h2=>exact .list h1 h2
 |sd h1 h2=>exact .sd h1 h2
 |RH h1 h2=>exact .RH h1 h2
 |inst h1 h2=>exact .inst h1 h2
def Shp(o:Obj):Prop:=o.cls= .type "list"/\(∃vs n,o.data= .seq vs n)\/o.cls= .type "dict"/\(∃es ep,o.data= .dict es ep)\/o.data= .plain
theorem Ij.iA{o:AO}{a:Addr}(q:Ij B μ h o a):∃ob,h.get? a=some ob/\Shp ob:=by
 cases q with
 |list h1 _=>exact⟨_,h1,.inl ⟨rfl,_,_,rfl⟩⟩
 |sd h1 _=>obtain⟨ob,es,ep,e,c,d⟩:=Fh h1;exact⟨ob,e,.inr (.inl ⟨c,es,ep,d⟩)⟩
 |RH h1 _=>obtain⟨ob,es,ep,e,c,d⟩:=Fh h1;exact⟨ob,e,.inr (.inl ⟨c,es,ep,d⟩)⟩
 |inst h1 _=>exact⟨_,h1,.inr (.inr rfl)⟩
end
noncomputable def Fu(fs:List Env):List Addr:=fs.filterMap (λa=>a.frame)
structure Inv(B:Wd)(fs:List Env)(σ:St)(μ:List Addr)(h:Heap):Prop where
 len:μ.length=σ.length
 nd:μ.Nodup
 obj:∀(i:Nat)(o:AO)(a:Addr),σ[i]? =some o->μ[i]? =some a->Ij B μ h o a
 base:∀b o,B.h₀.get? b=some o->h.get? b=some o
 fresh:∀a∈μ,B.h₀.get? a=none
 W5:∀a∈Fu fs,a∉μ/\B.h₀.get? a=none/\∃o es ep,h.get? a=some o/\o.data= .dict es ep
noncomputable def HP(σ:St)(i:Nat):Bool:=AH σ[i]? true AO.fz
structure Wl(B:Wd)(fs:List Env)where
 σ:St
 μ:List Addr
 s:Shared
 inv:Inv B fs σ μ s.heap
section
variable{B:Wd}{fs:List Env}{ω ω' ω₁ ω₂ ω₃:Wl B fs}{own:List Addr}
abbrev Wl.h(ω:Wl B fs):Heap:=ω.s.heap
abbrev Rp(ω:Wl B fs):AV->Value->Prop:=Rep B ω.μ ω.s.heap
abbrev GY(ω:Wl B fs):List AV->List Value->Prop:=Qi B ω.μ ω.s.heap
def Wr(ω:Wl B fs)(b:Addr):Prop:=∃i:Nat,ω.μ[i]? =some b/\HP ω.σ i=false
structure Le(own:List Addr)(ω ω':Wl B fs):Prop where
 mu:∀(i:Nat)(a:Addr),ω.μ[i]? =some a->ω'.μ[i]? =some a
 new:∀a,a∈ω'.μ->a∈ω.μ\/ω.s.heap.get? a=none/\a∉own
 keep:∀b o,¬Wr ω b->b∉own->b∉Fu fs->ω.s.heap.get? b=some o->ω'.s.heap.get? b=some o
 WV:∀b o,¬Wr ω b->b∉own->ω.s.heap.get? b=some o->∃sl,ω'.s.heap.get? b=some {o with slots:=sl}
 flag:∀(i:Nat)(a:Addr),ω.μ[i]? =some a->HP ω'.σ i=HP ω.σ i
 live:∀b o,b∉own->ω.s.heap.get? b=some o->∃o',ω'.s.heap.get? b=some o'
 same:∃h tk,ω'.s={ω.s with heap:=h,toks:=tk}
theorem Le.refl:Le own ω ω:=⟨λa a e=>e,λa e=> .inl e,λa a a a a e=>e,λa o a a e=>⟨o.slots,e⟩,λa a a=>rfl,λa o a e=>⟨o,e⟩,⟨_,_,rfl⟩⟩
theorem Le.nw(x:Le own ω ω'){b:Addr}{o:Obj}(hb:¬Wr ω b)(hl:ω.s.heap.get? b=some o):¬Wr ω' b:=by
 rintro⟨i,hi,hf⟩;rcases x.new b (BR hi)with hm|⟨hn,_⟩
 .obtain⟨j,hj⟩:=Ml hm;have e:=x.mu j b hj;have Pr:i=j:=(Jo (Ak.mp hi).1 ω'.inv.nd).mp (hi.trans e.symm);subst Pr;exact hb ⟨i,hj,(x.flag i b hj).symm.trans hf⟩
 .rw[hl]at hn;cases hn
theorem Le.trans(x:Le own ω₁ ω₂)(y:Le own ω₂ ω₃):Le own ω₁ ω₃ where
 mu i a e:=y.mu i a (x.mu i a e)
 new a e:=(y.new a e).elim (x.new a) λh=> .inr ⟨A9.mpr λo hq=>(x.live a o h.2 hq).elim (λo' e'=>by rw[h.1]at e';cases e'),h.2⟩
 keep b o hb ho hf e:=y.keep b o (x.nw hb e) ho hf (x.keep b o hb ho hf e)
 WV b o hb ho e:=by
  obtain⟨sl,e1⟩:=x.WV b o hb ho e;obtain⟨sl',e2⟩:=y.WV b _ (x.nw hb e) ho e1;exact⟨sl',e2⟩
 flag i a e:=(y.flag i a (x.mu i a e)).trans (x.flag i a e)
 live b o ho e:=(x.live b o ho e).elim λo' e'=>y.live b o' ho e'
 same:=by
  obtain⟨h1,t1,e1⟩:=x.same;obtain⟨h2,t2,e2⟩:=y.same;exact⟨h2,t2,by exact Ae e2 (Ae e1 rfl)⟩
theorem Le.own'(x:Le [] ω ω')(hl:∀a∈own,∃o,ω.s.heap.get? a=some o):Le own ω ω':=
 ⟨x.mu,λa e=>(x.new a e).imp id λh=>⟨h.1,λhm=>(hl a hm).elim (λo e=>by rw[h.1]at e;cases e)⟩,λb o hb y=>x.keep b o hb AU,λb o hb y=>x.WV b o hb AU,x.flag,λb o y=>x.live b o AU,x.same⟩
theorem Le.less{own':List Addr}(x:Le own' ω ω')(hs:∀a∈own,a∈own')(hl:∀a∈own',a∉own->ω.s.heap.get? a=none):Le own ω ω':=by
 have zO:∀b o,b∉own->ω.s.heap.get? b=some o->b∉own':=λb o hb e hm=>by rw[hl b hm hb]at e;cases e
 exact⟨x.mu,λa e=>(x.new a e).imp id λh=>⟨h.1,λhm=>h.2 (hs a hm)⟩,λb o hb ho hf e=>x.keep b o hb (zO b o ho e) hf e,λb o hb ho e=>x.WV b o hb (zO b o ho e) e,x.flag,λb o ho e=>x.live b o (zO b o ho e) e,x.same⟩
theorem Wl.lt(ω:Wl B fs){i:Nat}{o:AO}(hi:ω.σ[i]? =some o):∃a,ω.μ[i]? =some a/\Ij B ω.μ ω.s.heap o a:=by
 have h2:i<ω.μ.length:=ω.inv.len.symm▸(Ak.mp hi).1;exact⟨_,Ap h2,ω.inv.obj i o _ hi (Ap h2)⟩
theorem Wl.iA(ω:Wl B fs){b:Addr}(hb:b∈ω.μ):∃ob,ω.s.heap.get? b=some ob/\Shp ob:=by
 obtain⟨i,hi⟩:=Ml hb;have h2:i<ω.σ.length:=ω.inv.len▸(Ak.mp hi).1;exact(ω.inv.obj i _ b (Ap h2) hi).iA
theorem Wl.live(ω:Wl B fs){b:Addr}(hb:b∈ω.μ):b<ω.s.heap.objs.size:=by obtain⟨_,e,_⟩:=ω.iA hb;exact D8 e
theorem Wr.mem{b:Addr}(hw:Wr ω b):b∈ω.μ:=by obtain⟨_,hi,_⟩:=hw;exact BR hi
theorem Qaf{b:Addr}{ob:Obj}(e:ω.s.heap.get? b=some ob)(hs:¬Shp ob):¬Wr ω b:=λhw=>by
 obtain⟨o,ho,q⟩:=ω.iA hw.mem;rw[e]at ho;cases ho;exact hs q
theorem VO{vs:Array Value}{n:Nat}:¬Shp (Lu vs n)
 | .inl ⟨e,_⟩=>absurd (Mm e) (by decide)
 | .inr (.inl ⟨e,_⟩)=>absurd (Mm e) (by decide)
 | .inr (.inr e)=>nomatch e
theorem DP{h:Heap}{a:Addr}(ha:h.objs.size<=a):h.get? a=none:=by
 cases hq:h.get? a with
 |none=>rfl
 |some o=>exact absurd (D8 hq) (Nat.not_lt.mpr ha)
theorem Xk{b:Addr}{o:Obj}(hb:ω.s.heap.get? b=some o)(hd:∀es ep,o.data≠ .dict es ep):b∉Fu fs:=λhm=>by
 obtain⟨_,_,o',es,ep,e,e'⟩:=ω.inv.W5 b hm;rw[hb]at e;cases e;exact hd _ _ e'
theorem Qag{b:Addr}(hb:b∈ω.μ):b∉Fu fs:=λhm=>(ω.inv.W5 b hm).1 hb
theorem Iw{b:Addr}(hb:ω.s.heap.get? b=none):b∉Fu fs:=λhm=>by
 obtain⟨_,_,o',es,ep,e,e'⟩:=ω.inv.W5 b hm;rw[hb]at e;cases e
theorem D3{a:Addr}(ha:ω.s.heap.get? a=none):B.h₀.get? a=none:=by
 cases hq:B.h₀.get? a with
 |none=>rfl
 |some o=>rw[ω.inv.base a o hq]at ha;cases ha
theorem Xl{i j:Nat}{a b:Addr}(hi:ω.μ[i]? =some a)(hj:ω.μ[j]? =some b)(hn:i≠j):a≠b:=λe=>
 hn ((Jo (Ak.mp hi).1 ω.inv.nd).mp (hi.trans (e▸hj.symm)))
def Fz(h:Heap)(a:Addr):Prop:=∀o vs n,h.get? a=some o->o.data= .seq vs n->o.cls≠ .type "tuple"
theorem Le.TL(x:Le own ω ω')(hn:∀a∈own,Fz ω.s.heap a):NM ω.μ ω'.μ ω.s.heap ω'.s.heap:=
 ⟨x.mu,λa vs n e=>x.keep a _ (Qaf e VO) (λhm=>hn a hm _ vs n e rfl rfl) (Xk e λh h e=>nomatch e) e⟩
theorem Le.bX(x:Le [] ω ω'):NM ω.μ ω'.μ ω.s.heap ω'.s.heap:=x.TL λa h=>nomatch h
theorem Rep.step(x:Le [] ω ω'){v:AV}{c:Value}(q:Rp ω v c):Rp ω' v c:=q.mono x.bX
theorem Qi.step(x:Le [] ω ω'){v:List AV}{c:List Value}(q:GY ω v c):GY ω' v c:=Qi.mono x.bX q
theorem ME{h h':Heap}{μ:List Addr}(hk:∀b o,h.get? b=some o->h'.get? b=some o):NM μ μ h h':=⟨λa a e=>e,λa a a e=>hk _ _ e⟩
noncomputable def Wl.grow(ω:Wl B fs)(h':Heap)(tk:Nat)(hk:∀b o,ω.s.heap.get? b=some o->h'.get? b=some o):Wl B fs:=
 ⟨ω.σ,ω.μ,{ω.s with heap:=h',toks:=tk},⟨ω.inv.len,ω.inv.nd,λi o a h1 h2=>(ω.inv.obj i o a h1 h2).mono (ME hk) (hk a),λb o e=>hk b o (ω.inv.base b o e),ω.inv.fresh,λa ha=>by
  obtain⟨h1,h2,o,es,ep,h3,h4⟩:=ω.inv.W5 a ha;exact⟨h1,h2,o,es,ep,hk _ _ h3,h4⟩⟩⟩
theorem Le.grow{h':Heap}{tk:Nat}{hk:∀b o,ω.s.heap.get? b=some o->h'.get? b=some o}:Le own ω (ω.grow h' tk hk):=
 ⟨λa a e=>e,λa e=> .inl e,λb o a a a e=>hk b o e,λb o a a e=>⟨o.slots,hk b o e⟩,λa a a=>rfl,λb o a e=>⟨o,hk b o e⟩,⟨_,_,rfl⟩⟩
theorem RY{α:Type}{l:List α}{y x:α}{i:Nat}(e:(l++[y])[i]? =some x):l[i]? =some x\/i=l.length/\x=y:=by
 rcases Nat.lt_trichotomy i l.length with h|h|h
 .rw[BD h]at e;exact .inl e
 .subst h;rw[CO]at e;exact .inr ⟨rfl,(BB e).symm⟩
 .rw[BE (KW h),D0 (O3 h)]at e;cases e
theorem JR{α:Type}{l:List α}{y x:α}{i:Nat}(e:l[i]? =some x):(l++[y])[i]? =some x:=by refine Ae (BD (Ak.mp e).1) ?_;exact e
theorem Gm{α:Type}{l:List α}{x:α}{i:Nat}(e:l[i]? =some x):i<l.length:=(Ak.mp e).1
noncomputable def Wl.add(ω:Wl B fs)(o:AO)(a:Addr)(hn:a∉ω.μ)(hb:B.h₀.get? a=none)(hf:a∉Fu fs)(hq:Ij B (ω.μ++[a]) ω.s.heap o a):Wl B fs:=
 ⟨ω.σ++[o],ω.μ++[a],ω.s,⟨by refine Ae Ah (Ae Ah (Ae (ω.inv.len) ?_));rfl,Jp.mpr ⟨ω.inv.nd,J2 _ _,λx hx y hy e=>hn (Ai.mp hy▸e▸hx)⟩,
  λi o' b h1 h2=>(RY h2).elim (λh2=>(RY h1).elim (λh1=>(ω.inv.obj i o' b h1 h2).mono ⟨λz z e=>JR e,λz z z e=>e⟩ λz e=>e)
    λh1=>absurd (Gm h2) (by refine Ae h1.1 (Ae (ω.inv.len) ?_);exact DL _))
   λh2=>(RY h1).elim (λh1=>absurd (Gm h1) (by refine Ae h2.1 (Ae (ω.inv.len) ?_);exact DL _)) λh1=>by refine Ae h1.2 (Ae h2.2 ?_);exact hq,
  ω.inv.base,λb hm=>(An.mp hm).elim (ω.inv.fresh b) λh=>Ai.mp h▸hb,
  λb vW=>⟨λhm=>(An.mp hm).elim (ω.inv.W5 b vW).1 λh=>hf (Ai.mp h▸vW),(ω.inv.W5 b vW).2⟩⟩⟩
theorem mV{σ:St}{o:AO}{i:Nat}(hi:i<σ.length):HP (σ++[o]) i=HP σ i:=by unfold HP;exact Ae (BD hi) rfl
theorem Le.add(x:Le own ω₁ ω){o:AO}{a:Addr}{hn:a∉ω.μ}{hb:B.h₀.get? a=none}{hf:a∉Fu fs}{hq:Ij B (ω.μ++[a]) ω.s.heap o a}(ha:ω₁.s.heap.get? a=none)(ho:a∉own):Le own ω₁ (ω.add o a hn hb hf hq):=
 ⟨λi b e=>JR (x.mu i b e),λb hm=>(An.mp hm).elim (x.new b) λh=> .inr (by refine Ae (Ai.mp h) ?_;exact⟨ha,ho⟩),x.keep,x.WV,
  λi b e=>(mV (ω.inv.len▸Gm (x.mu i b e))).trans (x.flag i b e),x.live,x.same⟩
noncomputable def Wl.put(ω:Wl B fs){i:Nat}{o o':AO}{a:Addr}(h':Heap)(tk:Nat)(hi:ω.σ[i]? =some o)(ha:ω.μ[i]? =some a)(Pt:Fk a ω.s.heap h')(hq:Ij B ω.μ h' o' a)
  (st:NM ω.μ ω.μ ω.s.heap h'):Wl B fs:=
 ⟨ω.σ.set i o',ω.μ,{ω.s with heap:=h',toks:=tk},⟨by refine Ae List.length_set ?_;exact ω.inv.len,ω.inv.nd,λj x b h1 h2=>by
   by_cases Pr:i=j
   .subst Pr;rw[KY (Gm hi)]at h1;cases h1;rw[ha]at h2;cases h2;exact hq
   .rw[HD Pr]at h1;exact(ω.inv.obj j x b h1 h2).mono st λob e=>(Pt.2 b (Xl h2 ha (BV Pr))).trans e,
  λb ob e=>(Pt.2 b λe'=>by rw[e',ω.inv.fresh a (BR ha)]at e;cases e).trans (ω.inv.base b ob e),ω.inv.fresh,λb hb=>by
   obtain⟨h1,h2,o,es,ep,h3,h4⟩:=ω.inv.W5 b hb;exact⟨h1,h2,o,es,ep,(Pt.2 b λe'=>h1 (e'▸BR ha)).trans h3,h4⟩⟩⟩
theorem mW{i:Nat}{o:AO}{a:Addr}{h':Heap}(hi:ω.σ[i]? =some o)(ha:ω.μ[i]? =some a)(Pt:Fk a ω.s.heap h'):NM ω.μ ω.μ ω.s.heap h':=
 ⟨λx x e=>e,λb vs n e=>(Pt.2 b λe'=>by
  subst e';obtain⟨_,e1,q⟩:=(ω.inv.obj i o b hi ha).iA;rw[e]at e1;cases e1;exact VO q).trans e⟩
theorem mX{σ:St}{i:Nat}{o o':AO}(hi:σ[i]? =some o)(h:o'.fz=o.fz)(j:Nat):HP (σ.set i o') j=HP σ j:=by
 unfold HP;by_cases Pr:i=j
 .subst Pr;refine Ae (KY (Gm hi)) (Ae hi ?_);exact h
 .exact Ae (HD Pr) rfl
theorem Le.put{i:Nat}{o o':AO}{a:Addr}{h':Heap}{tk:Nat}{hi:ω.σ[i]? =some o}{ha:ω.μ[i]? =some a}{Pt:Fk a ω.s.heap h'}{hq:Ij B ω.μ h' o' a}{st:NM ω.μ ω.μ ω.s.heap h'}(hf:o.fz=false)(hf':o'.fz=false):
  Le own ω (ω.put h' tk hi ha Pt hq st):=by
 have Gk:∀b,¬Wr ω b->b≠a:=λb hb e'=>hb ⟨i,e'▸ha,by unfold HP;refine Ae hi ?_;exact hf⟩;exact⟨λx x e=>e,λx e=> .inl e,λb ob hb x x e=>(Pt.2 b (Gk b hb)).trans e,λb ob hb x e=>⟨ob.slots,(Pt.2 b (Gk b hb)).trans e⟩,λj b e=>mX hi (hf'.trans hf.symm) j,λb ob x e=>by
  by_cases hb:b=a
  .subst hb;obtain⟨o,e,_⟩:=hq.iA;exact⟨o,e⟩
  .exact⟨ob,(Pt.2 b hb).trans e⟩,⟨_,_,rfl⟩⟩
def KE(ω:Wl B fs)(Q:AV->St->Prop)(R:Value->Shared->Prop):Prop:=∀v c(ω':Wl B fs),Q v ω'.σ->Le [] ω ω'->Rp ω' v c->R c ω'.s
def KS(own:List Addr)(ω:Wl B fs)(Q:St->Prop)(R:Shared->Prop):Prop:=∀ω':Wl B fs,Q ω'.σ->Le own ω ω'->R ω'.s
variable{Q:AV->St->Prop}{R:Value->Shared->Prop}{v:AV}{c:Value}
theorem KE.pure(k:KE ω Q R)(q:Q v ω.σ)(r:Rp ω v c):R c ω.s:=k v c ω q .refl r
theorem KE.after(x:Le [] ω₁ ω)(k:KE ω₁ Q R):KE ω Q R:=λv c ω' q l r=>k v c ω' q (x.trans l) r
theorem KE.grow(k:KE ω Q R){h':Heap}{tk:Nat}(hk:∀b o,ω.s.heap.get? b=some o->h'.get? b=some o)(q:Q v ω.σ)(r:Rep B ω.μ h' v c):R c {ω.s with heap:=h',toks:=tk}:=k v c (ω.grow h' tk hk) q .grow r
theorem KE.tok(k:KE ω Q R){tk:Nat}(q:Q v ω.σ)(r:Rp ω v c):R c {ω.s with toks:=tk}:=k.grow (λa a e=>e) q r
theorem KE.new(k:KE ω Q R){o:AO}{a:Addr}{h':Heap}{tk:Nat}(hk:∀b o,ω.s.heap.get? b=some o->h'.get? b=some o)(ha:ω.s.heap.get? a=none)(q:Q (.ref ω.σ.length) (ω.σ++[o]))(hq:Ij B (ω.μ++[a]) h' o a):R (.ref a) {ω.s with heap:=h',toks:=tk}:=
 k _ _ ((ω.grow h' tk hk).add o a (λhm=>by obtain⟨ob,e,_⟩:=ω.iA hm;rw[ha]at e;cases e) (D3 ha) (Iw ha) hq) q (Le.grow.add ha AU) (.ref (by refine CV (ω.inv.len) ?_;exact CO))
theorem Cg{h:Heap}{ob:Obj}:∀b o,h.get? b=some o->(h.push ob).get? b=some o:=λa a e=>Ba _ e
theorem KE.newList(k:KE ω Q R){xs:List AV}{a:Addr}{h':Heap}{tk:Nat}{vs:Array Value}{n:Nat}(hk:∀b o,ω.s.heap.get? b=some o->h'.get? b=some o)(ha:ω.s.heap.get? a=none)(e:h'.get? a=some (JA vs n))(q:Q (.ref ω.σ.length) (ω.σ++[.list false xs]))(r:GY ω xs vs.toList):R (.ref a) {ω.s with heap:=h',toks:=tk}:=
 k.new hk ha q (.list e (r.mono ⟨λx x e=>JR e,λx x x e=>hk _ _ e⟩))
theorem KE.list(k:KE ω Q R){xs:List AV}{vs:Array Value}{tk:Nat}(q:Q (.ref ω.σ.length) (ω.σ++[.list false xs]))(r:GY ω xs vs.toList):R (.ref ω.s.heap.objs.size) {ω.s with heap:=ω.s.heap.push (JA vs 0),toks:=tk}:=
 k.newList Cg (DP (AL _)) (Bi _ rfl) q r
theorem KE.u9(k:KE ω Q R){xs:List AV}{a:Addr}{h':Heap}{tk:Nat}{vs:Array Value}{n:Nat}(hk:∀b o,ω.s.heap.get? b=some o->h'.get? b=some o)(e:h'.get? a=some (Lu vs n))(q:Q (.tup xs) ω.σ)(r:GY ω xs vs.toList):R (.ref a) {ω.s with heap:=h',toks:=tk}:=
 k.grow hk q (.tup e (r.mono (ME hk)))
theorem KE.tup(k:KE ω Q R){xs:List AV}{vs:Array Value}{tk:Nat}(q:Q (.tup xs) ω.σ)(r:GY ω xs vs.toList):R (.ref ω.s.heap.objs.size) {ω.s with heap:=ω.s.heap.push (Lu vs 0),toks:=tk}:=
 k.u9 Cg (Bi _ rfl) q r
theorem KS.put{Q:St->Prop}{R:Shared->Prop}(k:KS own ω Q R){i:Nat}{o o':AO}{a:Addr}{h':Heap}{tk:Nat}(hi:ω.σ[i]? =some o)(ha:ω.μ[i]? =some a)(hf:o.fz=false)(hf':o'.fz=false)(Pt:Fk a ω.s.heap h')
  (q:Q (ω.σ.set i o')) (hq:NM ω.μ ω.μ ω.s.heap h'->Ij B ω.μ h' o' a):R {ω.s with heap:=h',toks:=tk}:=
 have st:=mW hi ha Pt
 k (ω.put h' tk hi ha Pt (hq st) st) q (.put hf hf')
end
section
open PySem.SeqAt PySem.MeetsSeq
open AutoSeq1 (wpAny_loadPart')
open PySem.W (typeIs_bytes)
open PySem.W.FB (slot_bytes_eq entry_bytes_eq args_bytes_eq_2)
theorem sub_int_bytes:isSubtype (.type "int") (.type "bytes")=pure false:=by refine Ae (E9 ..) ?_;kernel_rfl
theorem TX:isSubtype (.type "bytes") (.type "int")=pure false:=by refine Ae (E9 ..) ?_;kernel_rfl
theorem Ng:isSubtype (.type "str") (.type "bytes")=pure false:=by refine Ae (E9 ..) ?_;kernel_rfl
theorem TY:isSubtype (.type "bytes") (.type "str")=pure false:=by refine Ae (E9 ..) ?_;kernel_rfl
theorem Li:isSubtype (.type "tuple") (.type "bytes")=pure false:=by refine Ae (E9 ..) ?_;kernel_rfl
theorem Lj:isSubtype (.type "bytes") (.type "tuple")=pure false:=by refine Ae (E9 ..) ?_;kernel_rfl
noncomputable def Qes(v:Value)(T:String):PySem.Spec:=λa R s=>s.TypeIs v T/\R (.ok (.ret .notImplemented)) s
theorem LQ{b:Array UInt8}{t:Tok}{v:Value}{T:String}(hs:isSubtype (.type T) (.type "bytes")=pure false):Meets (Builtin.«bytes.__eq__» ⟨[.bytes b t,v],[]⟩) (Qes v T):=
 .of_wp λprog w A R s h=>by
  show wpAny _ _ (isInstance v (.type "bytes")>>=λr=>_) _ _ s;refine Ag (wpAny_isInstance h.1 hs ?_);show wpAny _ _ (rule _>>=λa=>ret .notImplemented) _ _ s;exact Ag (N7 (Ax ⟨_,rfl,h.2⟩))
theorem VP(a:Int)(t:Tok)(b:Array UInt8)(u:Tok):Gives (Builtin.«int.__eq__» ⟨[.int a t,.bytes b u],[]⟩) (.val .notImplemented):=
 .of_wp λM A E s Q h=>by obtain⟨hp,g,d,tk,os⟩:=s;wp_walk;exact⟨_,rfl,h⟩
theorem VQ(a:Str)(t:Tok)(b:Array UInt8)(u:Tok):Gives (Builtin.«str.__eq__» ⟨[.str a t,.bytes b u],[]⟩) (.val .notImplemented):=
 .of_wp λM A E s Q h=>by obtain⟨hp,g,d,tk,os⟩:=s;wp_walk;exact⟨_,rfl,h⟩
theorem RZ(l:Addr)(items:Array Value)(n:Nat)(b:Array UInt8)(u:Tok):
  Meets (Builtin.«tuple.__eq__» ⟨[.ref l,.bytes b u],[]⟩) (λa R s=>s.heap.get? l=some (Lu items n)/\R (.ok (.ret .notImplemented)) s):=
 .of_wp λprog w A R s h=>by obtain⟨hp,g,d,tk,os⟩:=s;obtain⟨hl,h⟩:=h;have f:=Lj;wp_walk using wpAny_loadPart' hl;exact⟨_,rfl,h⟩
section
variable{A:Around}{s:Shared}(b:Array UInt8)(t:Tok)
theorem Iy{v:Value}{T id:String}(hT:s.TypeIs v T)(h1:(N8 "bytes" != N8 T)=true)(h2:isSubtype (.type T) (.type "bytes")=pure false)(hs:Slot T (cmpInfo .Eq).2.2 id)
  (hd:∀(prog:Program)(w:World)(E:Value->Shared->Prop)(Q:Value->Shared->Prop),Q .notImplemented s->wpAny (model prog w) A (call (.builtin id) [v,.bytes b t]) Q E s) (hm:isSame (.bytes b t) v=pure false) (hr:[.bytes b t,v].any WI=false\/A.units<cLine):RcAt A s (.bytes b t) v false:=λprog w E Q h=>
 P2 (k:=false) (GW s b t) hT h1 h2 slot_bytes_eq hs
  (λa hq=>EG slot_bytes_eq (GW s b t) entry_bytes_eq (args_bytes_eq_2 _ _) (LQ h2) ⟨hT,hq⟩) (hd prog w E) (λa hq=>Jq hm hq) hr h
theorem Iz{v:Value}{T id:String}(hT:s.TypeIs v T)(h1:(N8 T != N8 "bytes")=true)(h2:isSubtype (.type "bytes") (.type T)=pure false)(h3:isSubtype (.type T) (.type "bytes")=pure false)(hs:Slot T (cmpInfo .Eq).2.1 id)
  (hd:∀(prog:Program)(w:World)(E:Value->Shared->Prop)(Q:Value->Shared->Prop),Q .notImplemented s->wpAny (model prog w) A (call (.builtin id) [v,.bytes b t]) Q E s) (hm:isSame v (.bytes b t)=pure false) (hr:[v,.bytes b t].any WI=false\/A.units<cLine):RcAt A s v (.bytes b t) false:=λprog w E Q h=>
 P2 (k:=false) hT (GW s b t) h1 h2 hs slot_bytes_eq (hd prog w E)
  (λa hq=>EG slot_bytes_eq (GW s b t) entry_bytes_eq (args_bytes_eq_2 _ _) (LQ h3) ⟨hT,hq⟩) (λa hq=>Jq hm hq) hr h
theorem cL(i:Int)(u:Tok)(prog:Program)(w:World)(E:Value->Shared->Prop)(Q:Value->Shared->Prop)(h:Q .notImplemented s):wpAny (model prog w) A (call (.builtin "int.__eq__") [.int i u,.bytes b t]) Q E s:=
 call_gives IT (Tt s i u) F.entry_int_eq (F.args_int_eq_2 _ _) (VP i u b t) h
theorem cN(i:Str)(u:Tok)(prog:Program)(w:World)(E:Value->Shared->Prop)(Q:Value->Shared->Prop)(h:Q .notImplemented s):wpAny (model prog w) A (call (.builtin "str.__eq__") [.str i u,.bytes b t]) Q E s:=
 call_gives IU (Gg s i u) F.entry_str_eq (F.args_str_eq_2 _ _) (VQ i u b t) h
theorem cO{l:Addr}{vs:Array Value}{n:Nat}(ho:s.heap.get? l=some (Lu vs n))(prog:Program)(w:World)(E:Value->Shared->Prop)(Q:Value->Shared->Prop)(h:Q .notImplemented s):wpAny (model prog w) A (call (.builtin "tuple.__eq__") [.ref l,.bytes b t]) Q E s:=
 EG HE ⟨_,ho,rfl⟩ F.entry_tuple_eq (F.args_tuple_eq_2 _ _) (RZ l vs n b t) ⟨ho,h⟩
end
theorem ZT{b c:Array UInt8}:((b.toList.map λu=>(u.toNat:Int))==(c.toList.map λu=>(u.toNat:Int)))=(b.toList==c.toList):=by
 (refine(CX).mpr ?_;rw[beq_iff_eq,beq_iff_eq])
 exact⟨λh=>(List.map_inj_right λx y e=>UInt8.toNat_inj.mp (Int.ofNat.inj e)).mp h,λh=>h▸rfl⟩
structure EqR(A:Around)(s:Shared)(va vb:Value)(r:Bool):Prop where
 rc:RcAt A s va vb r
 same:va=vb->r=true
theorem EqR.eq{A:Around}{s:Shared}{va vb:Value}{r:Bool}(x:EqR A s va vb r)(hf:∀b t,va≠ .float b t):EqAt A s va vb r:=λprog w E Q h=>by
 unfold eqBool;refine Bb (wpAny_ite_split (λhab=>Ag (N7 (Ax ?_))) λa=>?_)
 .rw[x.same (eq_of_beq hab)]at h;exact h
 .cases va with
  |float b t=>exact absurd rfl (hf b t)
  |_=>exact Ag (x.rc prog w E _ (GM h))
theorem QbM{B:Wd}{μ:List Addr}{h:Heap}{a:AV}{v:Value}(q:Rep B μ h a v)(b:UInt64)(t:Tok):v≠ .float b t:=
 @Rep.casesOn B μ h (λx v x=>v≠ .float b t) a v q (λh=>AR h) (λx h=>AR h) (λx x h=>AR h) (λx x h=>AR h) (λx x x x h=>AR h) (λx x h=>AR h) (λx h=>AR h) (λx x h=>AR h) (λx x h=>AR h)
theorem mY{a b:Nat}:(a.succ==b.succ)=(a==b):=by
 (refine(CX).mpr ?_;rw[beq_iff_eq,beq_iff_eq]);exact⟨O4,congrArg _⟩
structure lT(A:Around)(s:Shared)(vs ws:List Value)(r:Bool):Prop where
 eq:∃e:Nat->Bool,(∀j(h1:j<vs.length)(h2:j<ws.length),EqAt A s vs[j] ws[j] (e j))/\r=((BZ (min vs.length ws.length)).all e&&vs.length==ws.length)
 same:vs=ws->r=true
theorem lT.nil{A:Around}{s:Shared}(ws:List Value):lT A s [] ws ws.isEmpty:=⟨⟨λa=>true,(λa h=>nomatch h),(by cases ws<;>rfl)⟩,(λe=>e▸rfl)⟩
theorem lT.no{A:Around}{s:Shared}{v:Value}{vs:List Value}:lT A s (v::vs) [] false:=⟨⟨λa=>true,(λa a h=>nomatch h),rfl⟩,(λe=>nomatch e)⟩
theorem lT.cons{A:Around}{s:Shared}{v w:Value}{vs ws:List Value}{p q:Bool}(x:EqR A s v w p)(hf:∀b t,v≠ .float b t)(y:lT A s vs ws q):lT A s (v::vs) (w::ws) (p&&q):=by
 obtain⟨e,h1,h2⟩:=y.eq;refine⟨⟨λj=>Dm j p e,λj j1 j2=>?_,?_⟩,λz=>?_⟩
 .cases j with
  |zero=>exact x.eq hf
  |succ j=>exact h1 j (GN j1) (GN j2)
 .refine Ae h2 (Ae Al (Ae Al (CV (H6 ..) (CV (H6 ..) (Ae (Nat.succ_min_succ ..) (Ae (H6 ..) (Ae List.range_succ_eq_map (Ae CP (Ae O5 (Ae (Bool.and_assoc ..) (Ae (show(vs.length.succ==ws.length.succ)=(vs.length==ws.length)from mY) ?_)))))))))));rfl
 .refine Ae (x.same (DM z).1) (Ae (y.same (DM z).2) ?_);rfl
section
variable{B:Wd}{fs:List Env}{ω:Wl B fs}{A:Around}
def cP(A:Around)(s:Shared)(va vb:Value)(P:Bool->Prop):Prop:=∃r,P r/\EqR A s va vb r
theorem Bn.bind{α β:Type}{x:Option α}{f:α->Option β}{P:β->Prop}(h:Bn (x.bind f) P):Bn x λa=>Bn (f a) P:=by
 cases x with
 |none=>exact h
 |some _=>exact h
theorem Bn.map{α β:Type}{x:Option α}{f:α->β}{P:β->Prop}(h:Bn (x.map f) P):Bn x λa=>P (f a):=by
 cases x with
 |none=>exact h
 |some _=>exact h
theorem Bn.ite{α:Type}{c:Prop}{_:Decidable c}{x:Option α}{P:α->Prop}(h:Bn (if c then x else none) P):c/\Bn x P:=by
 by_cases e:c
 .rw[if_pos e]at h;exact⟨e,h⟩
 .rw[if_neg e]at h;exact h.elim
theorem Bn.Em{α:Type}{c:Prop}{_:Decidable c}{x:Option α}{P:α->Prop}{G:Prop}(h:Bn (if c then x else none) P)(k:c->Bn x P->G):G:=k (Bn.ite h).1 (Bn.ite h).2
theorem Bn.some{α:Type}{x:Option α}{P:α->Prop}(h:Bn x P):∃a,x= .some a/\P a:=by
 cases x with
 |none=>exact h.elim
 |some a=>exact⟨a,rfl,h⟩
abbrev Eqs(ω:Wl B fs)(A:Around)(f:AV->AV->Option Bool):Prop:=∀a b va vb P,Rp ω a va->Rp ω b vb->Bn (f a b) P->cP A ω.s va vb P
theorem VR{f:AV->AV->Option Bool}(hf:Eqs ω A f){xs:List AV}{vs:List Value}(p:GY ω xs vs):∀{ys:List AV}{ws:List Value}{P:Bool->Prop},GY ω ys ws->Bn (Py f xs ys) P->∃r,P r/\lT A ω.s vs ws r:=by
 induction p with
 |nil=>exactλ{ys ws P} q e=>@A2.casesOn _ _ _ (λys ws h=>Bn (Py f [] ys) P->∃r,P r/\lT A ω.s [] ws r) ys ws q (λe=>⟨_,e,.nil _⟩) (λh h e=>⟨_,e,.nil _⟩) e
 |@cons a v xs vs p _ ih=>
  exactλ{ys ws P} q e=>@A2.casesOn _ _ _ (λys ws h=>Bn (Py f (a::xs) ys) P->∃r,P r/\lT A ω.s (v::vs) ws r) ys ws q (λe=>⟨_,e,.no⟩) (λq1 q2 e=>
   have⟨_,e,x⟩:=hf _ _ _ _ _ p q1 (Bn.bind e);have⟨_,e,y⟩:=ih q2 (Bn.map e)
   ⟨_,e,.cons x (QbM p) y⟩) e
theorem Oy{i:Nat}{l:Addr}(h1:ω.μ[i]? =some l){α:Type}{fl:Bool->List AV->Option α}{fd:Bool->List (Str×AV)->Option α}{fn:Bool->List (Int×AV)->Option α}{fi:Nat->Option α}{P:α->Prop}{G:Prop}
  (kl:∀z xs vs n,ω.σ[i]? =some (.list z xs)->ω.s.heap.get? l=some (JA vs n)->GY ω xs vs.toList->Bn (fl z xs) P->G)
  (kd:∀z xs DB,ω.σ[i]? =some (.sd z xs)->ω.s.heap.DictOf (strKind B.prog B.w) l DB->HM B ω.μ ω.s.heap xs DB->Bn (fd z xs) P->G)
  (kn:∀z xs DB,ω.σ[i]? =some (.RH z xs)->ω.s.heap.DictOf (intKind B.prog B.w) l DB->HM B ω.μ ω.s.heap xs DB->Bn (fn z xs) P->G)
  (ki:∀d dx sl,ω.σ[i]? =some (.inst d)->ω.s.heap.get? l=some ⟨.ref B.cR,some dx,.plain,sl⟩->ω.μ[d]? =some dx->Bn (fi d) P->G)
  (e:Bn (RM ω.σ i fl fd fn fi) P):G:=by
 unfold RM at e;cases h:ω.σ[i]? with
 |none=>rw[h]at e;exact e.elim
 |some o=>
  rw[h]at e;cases ω.inv.obj i o l h h1 with
  |list k1 k2=>exact kl _ _ _ _ h k1 k2 e
  |sd k1 k2=>exact kd _ _ _ h k1 k2 e
  |RH k1 k2=>exact kn _ _ _ h k1 k2 e
  |inst k1 k2=>exact ki _ _ _ h k1 k2 e
theorem FA{i:Nat}{l:Addr}(h1:ω.μ[i]? =some l){α:Type}{f:Bool->List AV->Option α}{P:α->Prop}{G:Prop}(e:Bn (TS ω.σ i f) P)
  (kl:∀z xs vs n,ω.σ[i]? =some (.list z xs)->ω.s.heap.get? l=some (JA vs n)->GY ω xs vs.toList->Bn (f z xs) P->G):G:=
 Oy (fl:=f) (fd:=λa a=>none) (fn:=λa a=>none) (fi:=λa=>none) h1 kl (λa a a a a a e=>Ad e) (λa a a a a a e=>Ad e) (λa a a a a a e=>Ad e) e
theorem R0{i:Nat}{l:Addr}(h1:ω.μ[i]? =some l){α:Type}{f:Bool->List (Str×AV)->Option α}{P:α->Prop}{G:Prop}(e:Bn (atD ω.σ i f) P)
  (kd:∀z xs DB,ω.σ[i]? =some (.sd z xs)->ω.s.heap.DictOf (strKind B.prog B.w) l DB->HM B ω.μ ω.s.heap xs DB->Bn (f z xs) P->G):G:=
 Oy (fd:=f) (fl:=λa a=>none) (fn:=λa a=>none) (fi:=λa=>none) h1 (λa a a a a a a e=>Ad e) kd (λa a a a a a e=>Ad e) (λa a a a a a e=>Ad e) e
theorem DQ{h:Heap}{l:Addr}{vs:Array Value}{n:Nat}(e:h.get? l=some (JA vs n)):h.IsList l vs:=⟨_,e,rfl,_,rfl⟩
theorem IB{h:Heap}{l:Addr}{vs:Array Value}{n:Nat}(e:h.get? l=some (Lu vs n)):h.IsTuple l vs:=⟨_,e,rfl,_,rfl⟩
theorem cQ{h:Heap}{l:Addr}{vs ws:Array Value}{n m:Nat}{o:Array Value->Nat->Obj}(e:h.get? l=some (o vs n))(e':h.get? l=some (o ws m))(k:∀{vs ws n m},o vs n=o ws m->vs=ws):vs=ws:=k (BB (e.symm.trans e'))
theorem cS{c:Value}{vs ws:Array Value}{n m:Nat}(e:(⟨c,none,.seq vs n,#[]⟩:Obj)=⟨c,none,.seq ws m,#[]⟩):vs=ws:=by cases e;rfl
theorem Xm{l l':Addr}{vs ws:Array Value}{n m:Nat}{r:Bool}(e1:ω.s.heap.get? l=some (JA vs n))(e2:ω.s.heap.get? l'=some (JA ws m))(x:lT A.in1 ω.s vs.toList ws.toList r)(hu:A.units<cLine):EqR A ω.s (.ref l) (.ref l') r/\RcNeAt A ω.s (.ref l) (.ref l') (!r):=by
 obtain⟨⟨e,h1,rfl⟩,hs⟩:=x;have sm:B0 l= .ref l'->vs.toList=ws.toList:=λh=>by cases h;exact congrArg _ (cQ e1 e2 cS)
 simp only[Bh,Mn]at h1 hs⊢;by_cases hz:vs.size=ws.size
 .rw[hz,WJ,beq_self_eq_true,FQ,<-hz]at hs⊢;exact⟨⟨RcAt.lists (DQ e1) (DQ e2) hz hu h1,λh=>hs (sm h)⟩,RcNeAt.lists (DQ e1) (DQ e2) hz hu h1⟩
 .rw[beq_eq_false_iff_ne.mpr hz,GO]at hs⊢;exact⟨⟨RcAt.lists_lengths (DQ e1) (DQ e2) (bne_iff_ne.mpr hz) hu,λh=>hs (sm h)⟩,RcNeAt.lists_lengths (DQ e1) (DQ e2) (bne_iff_ne.mpr hz) hu⟩
theorem cT{l l':Addr}{vs ws:Array Value}{n m:Nat}{r:Bool}(e1:ω.s.heap.get? l=some (Lu vs n))(e2:ω.s.heap.get? l'=some (Lu ws m))(x:lT A.in1 ω.s vs.toList ws.toList r)(hu:A.units<cLine):EqR A ω.s (.ref l) (.ref l') r/\RcNeAt A ω.s (.ref l) (.ref l') (!r):=by
 obtain⟨⟨e,h1,rfl⟩,hs⟩:=x;have sm:B0 l= .ref l'->vs.toList=ws.toList:=λh=>by cases h;exact congrArg _ (cQ e1 e2 cS)
 simp only[Bh,Mn]at h1 hs⊢;exact⟨⟨RcAt.tuples (IB e1) (IB e2) hu h1,λh=>hs (sm h)⟩,RcNeAt.tuples (IB e1) (IB e2) hu h1⟩
variable{n:Nat}{P:Bool->Prop}(hu:A.units<cLine)
theorem QbN{b:AV}{vb:Value}(q:Rp ω b vb)(e:Bn (Pw ω.σ (n+1) .none b) P):cP A ω.s .none vb P:=
 @Rep.casesOn B ω.μ ω.s.heap (λb vb a=>Bn (Pw ω.σ (n+1) .none b) P->cP A ω.s .none vb P) b vb q (λe=>⟨_,e,RcAt.none_none,λa=>rfl⟩) (λa e=>Ad e) (λy u e=>⟨_,e,RcAt.none_int y u,λh=>AR h⟩) (λa a e=>Ad e) (λa a a a e=>Ad e) (λa a e=>Ad e) (λa e=>Ad e) (λa a e=>Ad e) (λa a e=>Ad e) e
include hu
theorem Qdc(x:Int)(t:Tok){b:AV}{vb:Value}(q:Rp ω b vb)(e:Bn (Pw ω.σ (n+1) (.int x) b) P):cP A ω.s (.int x t) vb P:=
 @Rep.casesOn B ω.μ ω.s.heap (λb vb a=>Bn (Pw ω.σ (n+1) (.int x) b) P->cP A ω.s (.int x t) vb P) b vb q (λe=>Ad e) (λa e=>Ad e) (λy u e=>⟨_,e,RcAt.int_int x t y u,λh=>by cases h;exact beq_self_eq_true _⟩) (λy u e=>⟨_,e,RcAt.int_str x t y u,λh=>AR h⟩) (λy u a a e=>⟨_,e,Iz y u (Tt _ x t) (by decide) TX sub_int_bytes IT (cL y u x t) rfl (.inl rfl),λh=>AR h⟩) (λk a e=>⟨_,e,RcAt.int_tuple x t (IB k) hu,λh=>AR h⟩) (λa e=>Ad e) (λa a e=>Ad e) (λa a e=>Ad e) e
theorem Qdd(x:Str)(t:Tok){b:AV}{vb:Value}(q:Rp ω b vb)(e:Bn (Pw ω.σ (n+1) (.str x) b) P):cP A ω.s (.str x t) vb P:=
 @Rep.casesOn B ω.μ ω.s.heap (λb vb a=>Bn (Pw ω.σ (n+1) (.str x) b) P->cP A ω.s (.str x t) vb P) b vb q (λe=>Ad e) (λa e=>Ad e) (λy u e=>⟨_,e,RcAt.str_int x t y u,λh=>AR h⟩) (λy u e=>⟨_,e,RcAt.str_str x t y u,λh=>by cases h;exact beq_self_eq_true _⟩) (λy u a a e=>⟨_,e,Iz y u (Gg _ x t) (by decide) TY Ng IU (cN y u x t) rfl (.inl rfl),λh=>AR h⟩) (λk a e=>⟨_,e,RcAt.str_tuple x t (IB k) hu,λh=>AR h⟩) (λa e=>Ad e) (λa a e=>Ad e) (λa a e=>Ad e) e
theorem wN(x:Array UInt8)(t:Tok)(l:List Int)(k:l=x.toList.map λu=>(u.toNat:Int)){b:AV}{vb:Value}(q:Rp ω b vb)(e:Bn (Pw ω.σ (n+1) (.bytes l) b) P):cP A ω.s (.bytes x t) vb P:=
 @Rep.casesOn B ω.μ ω.s.heap (λb vb a=>Bn (Pw ω.σ (n+1) (.bytes l) b) P->cP A ω.s (.bytes x t) vb P) b vb q (λe=>Ad e) (λa e=>Ad e) (λy u e=>⟨_,e,Iy x t (Tt _ y u) (by decide) sub_int_bytes IT (cL x t y u) rfl (.inl rfl),λh=>AR h⟩) (λy u e=>⟨_,e,Iy x t (Gg _ y u) (by decide) Ng IU (cN x t y u) rfl (.inl rfl),λh=>AR h⟩) (λy u l' k' e=>⟨_,e,by refine Ae k (Ae k' (Ae ZT ?_));exact⟨λa a a a h=>PySem.W.eq_bytes h,λh=>by cases h;exact beq_self_eq_true _⟩⟩) (λh a e=>⟨_,e,Iy x t ⟨_,h,rfl⟩ (by decide) Li HE (cO x t h) rfl (.inr hu),λh=>AR h⟩) (λa e=>Ad e) (λa a e=>Ad e) (λa a e=>Ad e) e
variable(ih:Eqs ω A.in1 (Pw ω.σ n))
include ih
theorem Qde{l:Addr}{vs:Array Value}{m:Nat}{xs:List AV}(h1:ω.s.heap.get? l=some (Lu vs m))(h2:GY ω xs vs.toList){b:AV}{vb:Value}(q:Rp ω b vb)(e:Bn (Pw ω.σ (n+1) (.tup xs) b) P):cP A ω.s (.ref l) vb P:=
 @Rep.casesOn B ω.μ ω.s.heap (λb vb a=>Bn (Pw ω.σ (n+1) (.tup xs) b) P->cP A ω.s (.ref l) vb P) b vb q (λe=>Ad e) (λa e=>Ad e) (λy u e=>⟨_,e,RcAt.tuple_int y u (IB h1) hu,λh=>AR h⟩) (λy u e=>⟨_,e,RcAt.tuple_str y u (IB h1) hu,λh=>AR h⟩) (λy u a a e=>⟨_,e,Iz y u ⟨_,h1,rfl⟩ (by decide) Lj Li HE (cO y u h1) rfl (.inr hu),λh=>AR h⟩) (λk1 k2 e=>have⟨_,e,x⟩:=VR ih h2 k2 e;⟨_,e,(cT h1 k1 x hu).1⟩) (λa e=>Ad e) (λa a e=>Ad e) (λa a e=>Ad e) e
theorem Qdf{i:Nat}{l:Addr}(h1:ω.μ[i]? =some l){b:AV}{vb:Value}(q:Rp ω b vb)(e:Bn (Pw ω.σ (n+1) (.ref i) b) P):cP A ω.s (.ref l) vb P:=
 @Rep.casesOn B ω.μ ω.s.heap (λb vb a=>Bn (Pw ω.σ (n+1) (.ref i) b) P->cP A ω.s (.ref l) vb P) b vb q (λe=>Ad e) (λa e=>Ad e) (λa a e=>Ad e) (λa a e=>Ad e) (λa a a a e=>Ad e) (λa a e=>Ad e) (λk1 e=>FA h1 e λa a a a a g1 g2 e=>FA k1 e λa a a a a g3 g4 e=>have⟨_,e,x⟩:=VR ih g2 g4 e;⟨_,e,(Xm g1 g3 x hu).1⟩) (λa a e=>Ad e) (λa a e=>Ad e) e
omit ih hu
theorem mZ:∀(n:Nat)(A:Around),A.units+n<cLine->Eqs ω A (Pw ω.σ n)
 |0,_,_=>λa b va vb P h h e=>e.elim
 |n+1,A,hu=>λa b va vb P p q e=>
  have hu0:A.units<cLine:=CH (DN _ _) hu;have ih:Eqs ω A.in1 (Pw ω.σ n):=mZ n A.in1 (by refine Ae (P3 ..) (Ae (Ei ..) (Ae (Ih 1 ..) ?_));exact hu)
  @Rep.casesOn B ω.μ ω.s.heap (λa va h=>Bn (Pw ω.σ (n+1) a b) P->cP A ω.s va vb P) a va p (QbN q) (λh e=>Ad e) (λx t=>Qdc hu0 x t q) (λx t=>Qdd hu0 x t q) (λx t l k=>wN hu0 x t l k q) (λh1 h2=>Qde hu0 ih h1 h2 q) (λh1=>Qdf hu0 ih h1 q) (λh h e=>Ad e) (λh h e=>Ad e) e
end
section
variable{B:Wd}{fs:List Env}{ω:Wl B fs}{v:AV}{c:Value}{α:Type}{P:α->Prop}{G:Value->Prop}
@[elab_as_elim] theorem GV.el {f:Int->Option α} (q:Rp ω v c) (e:Bn (GV v f) P) (k:∀i t,Bn (f i) P->G (.int i t)):G c:=
 @Rep.casesOn B ω.μ ω.s.heap (λv c a=>Bn (GV v f) P->G c) v c q (λe=>Ad e) (λa e=>Ad e) (λi t e=>k i t e) (λa a e=>Ad e) (λa a a a e=>Ad e) (λa a e=>Ad e) (λa e=>Ad e) (λa a e=>Ad e) (λa a e=>Ad e) e
@[elab_as_elim] theorem QU.el {f:Str->Option α} (q:Rp ω v c) (e:Bn (QU v f) P) (k:∀i t,Bn (f i) P->G (.str i t)):G c:=
 @Rep.casesOn B ω.μ ω.s.heap (λv c a=>Bn (QU v f) P->G c) v c q (λe=>Ad e) (λa e=>Ad e) (λa a e=>Ad e) (λi t e=>k i t e) (λa a a a e=>Ad e) (λa a e=>Ad e) (λa e=>Ad e) (λa a e=>Ad e) (λa a e=>Ad e) e
@[elab_as_elim] theorem vV.el {f:List AV->Option α} (q:Rp ω v c) (e:Bn (vV v f) P) (k:∀xs vs a n,ω.s.heap.get? a=some (Lu vs n)->GY ω xs vs.toList->Bn (f xs) P->G (.ref a)):G c:=
 @Rep.casesOn B ω.μ ω.s.heap (λv c x=>Bn (vV v f) P->G c) v c q (λe=>Ad e) (λx e=>Ad e) (λx x e=>Ad e) (λx x e=>Ad e) (λx x x x e=>Ad e) (λh1 h2 e=>k _ _ _ _ h1 h2 e) (λx e=>Ad e) (λx x e=>Ad e) (λx x e=>Ad e) e
@[elab_as_elim] theorem MP.el {f:Nat->Option α} (q:Rp ω v c) (e:Bn (MP v f) P) (k:∀i a,ω.μ[i]? =some a->Bn (f i) P->G (.ref a)):G c:=
 @Rep.casesOn B ω.μ ω.s.heap (λv c x=>Bn (MP v f) P->G c) v c q (λe=>Ad e) (λx e=>Ad e) (λx x e=>Ad e) (λx x e=>Ad e) (λx x x x e=>Ad e) (λx x e=>Ad e) (λh e=>k _ _ h e) (λx x e=>Ad e) (λx x e=>Ad e) e
@[elab_as_elim] theorem onB.el {f:Bool->Option α} (q:Rp ω v c) (e:Bn (onB v f) P) (k:∀b,Bn (f b) P->G (.bool b)):G c:=
 @Rep.casesOn B ω.μ ω.s.heap (λv c a=>Bn (onB v f) P->G c) v c q (λe=>Ad e) (λb e=>k b e) (λa a e=>Ad e) (λa a e=>Ad e) (λa a a a e=>Ad e) (λa a e=>Ad e) (λa e=>Ad e) (λa a e=>Ad e) (λa a e=>Ad e) e
@[elab_as_elim] theorem onF.el {f:Str->Option α} (q:Rp ω v c) (e:Bn (onF v f) P) (k:∀x a,B.mg x=some (.ref a)->RN x=some .fn->Bn (f x) P->G (.ref a)):G c:=
 @Rep.casesOn B ω.μ ω.s.heap (λv c h=>Bn (onF v f) P->G c) v c q (λe=>Ad e) (λh e=>Ad e) (λh h e=>Ad e) (λh h e=>Ad e) (λh h h h e=>Ad e) (λh h e=>Ad e) (λh e=>Ad e) (λh1 h2 e=>k _ _ h1 h2 e) (λh h e=>Ad e) e
@[elab_as_elim] theorem zM.el {f:Option α} (q:Rp ω v c) (e:Bn (zM v f) P) (k:Bn f P->G .none):G c:=
 @Rep.casesOn B ω.μ ω.s.heap (λv c a=>Bn (zM v f) P->G c) v c q (λe=>k e) (λa e=>Ad e) (λa a e=>Ad e) (λa a e=>Ad e) (λa a a a e=>Ad e) (λa a e=>Ad e) (λa e=>Ad e) (λa a e=>Ad e) (λa a e=>Ad e) e
end
section
variable{B:Wd}{fs:List Env}{ω:Wl B fs}{A:Around}{a b:AV}{va vb:Value}{P:Bool->Prop}
def NeS(A:Around)(s:Shared)(va vb:Value)(P:Bool->Prop):Prop:=∃r,P r/\RcNeAt A s va vb r
theorem Qdg(hu:A.units+20<cLine)(p:Rp ω a va)(q:Rp ω b vb)(e:Bn (neV ω.σ a b) P):NeS A ω.s va vb P:=
 have hu0:A.units<cLine:=CH (DN _ _) hu;have ih:Eqs ω A.in1 (Pw ω.σ 19):=mZ 19 A.in1 (by refine Ae (P3 ..) (Ae (Ei ..) ?_);exact hu)
 @Rep.casesOn B ω.μ ω.s.heap (λa va h=>Bn (neV ω.σ a b) P->NeS A ω.s va vb P) a va p (λe=>GV.el q e λi t e=>⟨_,e,RcNeAt.none_int i t⟩) (λh e=>Ad e)
  (λx t e=>GV.el q e λy u e=>⟨_,e,RcNeAt.int_int x t y u⟩) (λx t e=>QU.el q e λy u e=>⟨_,e,RcNeAt.str_str x t y u⟩) (λh h h h e=>Ad e)
  (λh1 h2 e=>vV.el q e λh h h h k1 k2 e=>have⟨_,e,x⟩:=VR ih h2 k2 (Bn.map e);⟨_,e,(cT h1 k1 x hu0).2⟩)
  (λh1 e=>MP.el q e λh h k1 e=>FA h1 e λh h h h h g1 g2 e=>FA k1 e λh h h h h g3 g4 e=>have⟨_,e,x⟩:=VR ih g2 g4 (Bn.map e);⟨_,e,(Xm g1 g3 x hu0).2⟩) (λh h e=>Ad e) (λh h e=>Ad e) e
end
end
section
open PySem.SeqAt PySem.MeetsSeq
structure Ga(fs:List Env)(k:Nat)(A:Around):Prop where
 all:∀e∈fs,e.scope.kind≠ .module/\∃L,e.frame=some L
 hd:A.handled=none
 fs:A.frames=some fs
 dp:A.depth+2*k+5<recursionLimit
 un:A.units+20*k+200<cLine
theorem Ga.u{fs:List Env}{k:Nat}{A:Around}(o:Ga fs k A){n:Nat}(h:n<=200):A.units+n<cLine:=CH (Mj (DN _ _) h) o.un
theorem VS{i:Int}(h:fits i=true):Bw i<=2097152:=of_decide_eq_true h
theorem Qdh{a b:Int}(ha:fits a=true)(hb:fits b=true):IntMulOk a b:=λh=>
 absurd (of_decide_eq_true (Aq.mp h).2) (Hf.mpr (DE.mpr (AS (Mj (VS ha) (VS hb)) (by decide))))
theorem Qdi{a b:Int}(h0:0<=b)(h1:b<=1000)(h2:a.natAbs<=65536):(Bw a:Int)*b<=2^27:=by
 have:Bw a<=64:=intBits_le_64 (by omega) (by omega);exact Fl (Int.mul_le_mul (DE.mpr this) h1 h0 (by decide)) (by decide)
theorem Qdj{m:Nat}{b:Int}(h1:m<=2097152)(h2:b<=1000):(m:Int)+b<=2^27:=Fl (Int.add_le_add (DE.mpr h1) h2) (by decide)
section
variable{B:Wd}{fs:List Env}{ω:Wl B fs}{A:Around}{a b:AV}{va vb:Value}{Q:AV->St->Prop}{R:Value->Shared->Prop}
abbrev Wp(ω:Wl B fs)(A:Around)(t:Sem Value)(R:Value->Shared->Prop):Prop:=wpAny (model B.prog B.w) A t R bot ω.s
@[elab_as_elim] theorem TQ.el {f:Int->Int->Option Int} {G:Value->Value->Prop} (p:Rp ω a va) (q:Rp ω b vb) (e:Ok (TQ ω.σ a b f) Q) (k:∀i t j u,Bn (f i j) (λz=>Q (.int z) ω.σ)->G (.int i t) (.int j u)):G va vb:=
 GV.el (G:=λva=>G va vb) p e λi t e=>GV.el (G:=λvb=>G (.int i t) vb) q e λj u e=>k i t j u (Bn.map e)
theorem IC{n:Nat}(h:n<=Ce):n<=sizeLine:=AS h (by decide)
theorem ZU{α β γ δ:Type}{R:α->β->Prop}{S:γ->δ->Prop}{xs:List α}{vs:Array β}{ys:List γ}{ws:Array δ}(p:A2 R xs vs.toList)(q:A2 S ys ws.toList)(h:xs.length+ys.length<=Ce):vs.size+ws.size<=sizeLine:=by refine Ae p.size (Ae q.size ?_);exact IC h
theorem Qn{α β:Type}{R:α->β->Prop}{xs:List α}{vs:Array β}(p:A2 R xs vs.toList)(h:vs.isEmpty=true):xs=[]:=Dn (p.size.symm.trans (Hh.mp h))
theorem m3{xs ys:List AV}{vs ws:Array Value}{l l':Addr}{n m:Nat}(h1:ω.s.heap.get? l=some (Lu vs n))(h2:GY ω xs vs.toList)(k1:ω.s.heap.get? l'=some (Lu ws m))(k2:GY ω ys ws.toList)(hl:xs.length+ys.length<=Ce)(k:KE ω Q R)(e:Q (.tup (xs++ys)) ω.σ):
  Wp ω A (binaryOp .Add (.ref l) (.ref l')) R:=by
 by_cases z1:vs.isEmpty=true
 .rw[Qn h2 z1]at e;exact concat_meets ⟨_,h1,rfl⟩ ⟨_,k1,rfl⟩ P4 seq_tuple_add P5 O6 (N9 _ _) (AutoSeq1.tuple___add___tuple_tuple_0 l vs n l' ws m z1) ⟨h1,k1,k.pure e (.tup k1 k2)⟩
 .by_cases z2:ws.isEmpty=true
  .rw[Qn k2 z2,A7]at e;exact concat_meets ⟨_,h1,rfl⟩ ⟨_,k1,rfl⟩ P4 seq_tuple_add P5 O6 (N9 _ _) (AutoSeq1.tuple___add___tuple_tuple_1 l vs n l' ws m z1 z2) ⟨h1,k1,k.pure e (.tup h1 h2)⟩
  .exact PySem.P.add_tuple h1 k1 z1 z2 (k.tup (tk:=ω.s.toks) e (by refine Ae H7 ?_;exact h2.append k2)) (ZU h2 k2 hl)
theorem QbO(p:Rp ω a va)(q:Rp ω b vb)(e:Ok (QbG ω.σ a b) Q)(k:KE ω Q R):Wp ω A (binaryOp .Add va vb) R:=
 @Rep.casesOn B ω.μ ω.s.heap (λa va h=>Ok (QbG ω.σ a b) Q->Wp ω A (binaryOp .Add va vb) R) a va p (λe=>Ad e) (λh e=>Ad e)
  (λx t e=>GV.el q e λy u e=>Y9 (k.tok e (.int _ _)))
  (λx t e=>QU.el q e λy u e=>Bn.Em e λhl e=>Za (λt' tk=>k.tok e (.str _ _)) (IC hl)) (λh h h h e=>Ad e)
  (λh1 h2 e=>vV.el q e λh h h h k1 k2 e=>Bn.Em e λhl e=>m3 h1 h2 k1 k2 hl k e)
  (λh1 e=>MP.el q e λh h k1 e=>FA h1 e λh h h h h g1 g2 e=>FA k1 e λh h h h h g3 g4 e=>Bn.Em e λhl e=>PySem.P.add_list g1 g3 (k.list (tk:=ω.s.toks) e (by refine Ae H7 ?_;exact g2.append g4)) (ZU g2 g4 hl)) (λh h e=>Ad e) (λh h e=>Ad e) e
theorem QbP(op:Operator)(p:Rp ω a va)(q:Rp ω b vb)(e:Ok (Gz ω.σ op a b) Q)(k:KE ω Q R):Wp ω A (binaryOp op va vb) R:=by
 cases op with
 |Add=>exact QbO p q e k
 |Sub=>exact TQ.el p q e λx x x x e=>Zb (k.tok e (.int _ _))
 |Mult=>exact TQ.el p q e λx x x x e=>Bn.Em e λh e=>Zc (k.tok e (.int _ _)) (Qdh h.1 h.2)
 |FloorDiv=>exact TQ.el p q e λx x x x e=>Bn.Em e λh e=>TP h.1 (k.tok e (.int _ _)) (.inl (PyProof.noPylong_of_log2 h.2))
 |Mod=>exact TQ.el p q e λx x x x e=>Bn.Em e λh e=>Zd h (k.tok e (.int _ _))
 |Pow=>exact TQ.el p q e λx x x x e=>Bn.Em e λh e=>Ze h.1 (Qdi h.1 h.2.1 h.2.2) (k.tok e (.int _ _))
 |LShift=>exact TQ.el p q e λx x x x e=>Bn.Em e λh e=>Vh h.1 (Qdj (VS h.2.2) h.2.1) (k.tok e (.int _ _))
 |RShift=>exact TQ.el p q e λx x x x e=>Bn.Em e λh e=>Vi h.1 (k.tok e (.int _ _))
 |BitOr=>exact TQ.el p q e λx x x x e=>Zw (k.tok e (.int _ _))
 |BitXor=>exact TQ.el p q e λx x x x e=>Zf (k.tok e (.int _ _))
 |BitAnd=>exact TQ.el p q e λx x x x e=>Zg (k.tok e (.int _ _))
 |_=>exact Ad e
end
end
section
open PySem.SeqAt PySem.MeetsSeq
structure Bs(B:Wd):Prop where
 sysm:∃o,B.h₀.get? sysModules=some o
 g:B.h₀.Ns mainGlobals B.mg
 b:B.h₀.Ns builtinsNs B.mb
 nolimit:B.h₀.NoLimit
 builtins:∀x:Str,x≠"__name__"->B.mb x=bootBuiltins x
 X:B.K.In B.h₀
 hga:A6 B.K (.ref B.cR) "__getattribute__"=some (some (.builtin "object.__getattribute__"))
 hsa:A6 B.K (.ref B.cR) "__setattr__"=some (some (.builtin "object.__setattr__"))
 no:∀x∈Ft,A6 B.K (.ref B.cR) x=some none
 cls:∃cd,EN B.K B.cR=some cd/\cd.hasDict=true
 over:O7 B.K B.cR=true
 makes:Q1 B.K B.cR=true
 fns:∀x,RN x=some .fn->∃a,B.mg x=some (.ref a)/\Ew B.K (.ref a)=true
 rd:B.mg "Reading"=some (.ref B.cR)/\Ew B.K (.ref B.cR)=true
 bare:∀x∈(["len","tuple","list","bytes","str","any","range"]:List Str),B.mg x=none
section
variable{B:Wd}{fs:List Env}{ω:Wl B fs}{A:Around}{a b:AV}{va vb:Value}{Q:AV->St->Prop}{R:Value->Shared->Prop}{n:Nat}
theorem Jh(Z:Bs B){i:Nat}{a:Addr}(hi:ω.μ[i]? =some a):(a==sysModules)=false:=beq_eq_false_iff_ne.mpr λe=>by
 obtain⟨o,ho⟩:=Z.sysm;rw[<-e,ω.inv.fresh a (BR hi)]at ho;cases ho
theorem cU{l:List AV}{vs:List Value}(q:GY ω l vs):∀{P:List Str->Prop},Bn (NG l) P->∃ys,P ys/\(∀y∈vs,∃x t,y=MN x t)/\ys=vs.map λv=>match v with| .str x _=>x|_=>default:=by
 induction q with
 |nil=>exactλe=>⟨_,e,λa h=>(nomatch h),rfl⟩
 |cons p _ ih=>
  exactλ{P} e=>QU.el p e λx t e=>by
   obtain⟨ys,e,h1,h2⟩:=ih (Bn.map e);exact⟨_,e,λy hy=>(Au.mp hy).elim (λe=>⟨x,t,e⟩) (h1 y),by refine Ae h2 ?_;rfl⟩
theorem cV{s:Shared}(x:Str)(t:Tok){vs:List Value}(h:∀y∈vs,∃x t,y=MN x t):∃e:Value->Bool,(∀y∈vs,EqAt A s y (.str x t) (e y))/\vs.any e=decide (x∈vs.map λv=>match v with| .str x _=>x|_=>default):=by
 refine⟨λv=>match v with| .str y _=>y==x|_=>false,λy hy=>?_,?_⟩
 .obtain⟨z,u,rfl⟩:=h y hy;exact EqAt.str_str z u x t
 .induction vs with
  |nil=>rfl
  |cons y r ih=>
   obtain⟨z,u,rfl⟩:=h y (.head _)
   (refine Ae NA (Ae (ih λy hy=>h y (.tail _ hy)) (Ae AW ((CX).mpr (Ae (BX ..) ?_))));rw[beq_iff_eq];refine Ae decide_eq_true_eq (Ae decide_eq_true_eq ?_);rw[Au,eq_comm])
def InS(ω:Wl B fs)(A:Around)(va vc:Value)(P:Bool->Prop):Prop:=∃r,P r/\(∀R:Value->Shared->Prop,(∀tk,R (.bool r) {ω.s with toks:=tk})->Wp ω A (compareOp .In va vc) R)/\∀R:Value->Shared->Prop,(∀tk,R (.bool !r) {ω.s with toks:=tk})->Wp ω A (compareOp .NotIn va vc) R
variable{P:Bool->Prop}
theorem wO{l:Addr}{vs:Array Value}{xs:List AV}(hl:ω.s.heap.IsTuple l vs)(h2:GY ω xs vs.toList)(p:Rp ω a va)(e:Bn (inL a xs) P):InS ω A va (.ref l) P:=
 QU.el p e λx t e=>by
  obtain⟨ys,e,h1,rfl⟩:=cU h2 (Bn.map e);obtain⟨f,hf,hr⟩:=cV (A:=A.in1) (s:=ω.s) x t h1;rw[<-hr,P6]at e;exact⟨_,e,λR k=>in_tupleAt f hl (λy hy=>hf y (Do.mpr hy)) (k ω.s.toks),λR k=>notIn_tupleAt f hl (λy hy=>hf y (Do.mpr hy)) (k ω.s.toks)⟩
theorem wQ{l:Addr}{vs:Array Value}{xs:List AV}(hl:ω.s.heap.IsList l vs)(h2:GY ω xs vs.toList)(p:Rp ω a va)(e:Bn (inL a xs) P):InS ω A va (.ref l) P:=
 QU.el p e λx t e=>by
  obtain⟨ys,e,h1,rfl⟩:=cU h2 (Bn.map e);obtain⟨f,hf,hr⟩:=cV (A:=A.in1) (s:=ω.s) x t h1;rw[<-hr,P6]at e;exact⟨_,e,λR k=>in_listAt f hl (λy hy=>hf y (Do.mpr hy)) (k ω.s.toks),λR k=>notIn_listAt f hl (λy hy=>hf y (Do.mpr hy)) (k ω.s.toks)⟩
theorem in_dict{K:Type}[DecidableEq K] {knd:KeyKind B.prog B.w K}{l:Addr}{xs:List (K×AV)}{DB:List (K×Value)}(hk:∃x:K,knd.is x va=true/\P (EP xs x).isSome)(hs:(l==sysModules)=false)(k1:ω.s.heap.DictOf knd l DB)(k2:HM B ω.μ ω.s.heap xs DB):InS ω A va (.ref l) P:=by
 obtain⟨x,h1,e⟩:=hk;rw[<-k2.has x]at e;exact⟨_,e,λR k=>wpAny_in_of h1 hs k1.mapOf (k _),λR k=>wpAny_notIn_of h1 hs k1.mapOf (k _)⟩
theorem R1{h:Heap}{K K':Type}[DecidableEq K] [DecidableEq K'] {prog:Program}{w:World}{knd:KeyKind prog w K}{knd':KeyKind prog w K'}{a:Addr}(x:h.DictOf knd a []):h.DictOf knd' a []:=by
 obtain⟨o,es,ep,ho,hx,hd,hn,hp,_⟩:=x;have:es.toList=[]:=Dn hp.length;have h0:es= #[]:=Array.toList_eq_nil_iff.mp this;subst h0;exact⟨o,_,ep,ho,hx,hd,(λe he=>absurd he (Array.not_mem_empty e)),.nil,Mo⟩
theorem QbQ(Z:Bs B){i:Nat}{l:Addr}(h1:ω.μ[i]? =some l)(p:Rp ω a va){xs:List (Str×AV)}{DB:List (Str×Value)}(k1:ω.s.heap.DictOf (strKind B.prog B.w) l DB)(k2:HM B ω.μ ω.s.heap xs DB)(e:Bn (inD xs a) P):InS ω A va (.ref l) P:=
 @Rep.casesOn B ω.μ ω.s.heap (λa va h=>Bn (inD xs a) P->InS ω A va (.ref l) P) a va p (λe=>Ad e) (λh e=>Ad e) (λi t e=>Bn.Em e λhz e=>by
   have:=Hi.mp hz;subst this;cases k2;exact in_dict (xs:=[]) ⟨i,Hj B.prog B.w i t,e⟩ (Jh Z h1) (R1 k1) .nil)
  (λx t e=>in_dict ⟨x,Fb B.prog B.w x t,e⟩ (Jh Z h1) k1 k2) (λh h h h e=>Ad e) (λh h e=>Ad e) (λh e=>Ad e) (λh h e=>Ad e) (λh h e=>Ad e) e
theorem m6(Z:Bs B)(p:Rp ω a va)(q:Rp ω b vb)(e:Bn (lR ω.σ a b) P):InS ω A va vb P:=
 @Rep.casesOn B ω.μ ω.s.heap (λb vb x=>Bn (lR ω.σ a b) P->InS ω A va vb P) b vb q (λe=>Ad e) (λx e=>Ad e) (λx x e=>Ad e) (λx x e=>Ad e) (λx x x x e=>Ad e)
  (λh1 h2 e=>wO (IB h1) h2 p e)
  (λh1 e=>Oy (fi:=λx=>none) h1 (λx x x x x g1 g2 e=>wQ (DQ g1) g2 p e)
   (λz xs DB x k1 k2 e=>QbQ Z h1 p k1 k2 e)
   (λz xs DB x k1 k2 e=>GV.el p e λi t e=>in_dict ⟨i,Hj B.prog B.w i t,e⟩ (Jh Z h1) k1 k2) (λx x x x x x e=>Ad e) e)
  (λx x e=>Ad e) (λx x e=>Ad e) e
@[elab_as_elim] theorem bU.el {G:Value->Prop} {P:Bool->Prop} (p:Rp ω a va) (e:Bn (bU a) P) (k0:P true->G .none) (ki:∀i t,P false->G (.int i t)) (ks:∀i t,P false->G (.str i t)) (kr:∀i,P false->G (.ref i)):G va:=
 @Rep.casesOn B ω.μ ω.s.heap (λa va x=>Bn (bU a) P->G va) a va p k0 (λx e=>Ad e) ki ks (λx x x x e=>Ad e) (λx x=>kr _) (λx=>kr _) (λx x e=>Ad e) (λx x e=>Ad e) e
theorem cX(Z:Bs B){k:Nat}(O:Ga fs k A)(op:CmpOp)(p:Rp ω a va)(q:Rp ω b vb)(e:Bn (EC ω.σ op a b) (KV1 Q ω.σ))(k:KE ω Q R):Wp ω A (compareOp op va vb) R:=by
 cases op with
 |Eq=>exact(mZ 20 A (O.u (by decide)) _ _ _ _ _ p q e).elim λr x=>x.2.rc _ _ _ _ (k.pure x.1 (.bool _))
 |NotEq=>exact(Qdg (O.u (by decide)) p q e).elim λr x=>x.2 _ _ _ _ (k.pure x.1 (.bool _))
 |In=>exact(m6 (A:=A) Z p q e).elim λr x=>x.2.1 _ λtk=>k.tok x.1 (.bool _)
 |NotIn=>exact(m6 (A:=A) Z p q (Bn.map e)).elim λr x=>x.2.2 _ λtk=>k.tok x.1 (.bool _)
 |Lt=>exact GV.el p e λh h e=>GV.el q e λh h e=>Zx (k.pure e (.bool _))
 |Gt=>exact GV.el p e λh h e=>GV.el q e λh h e=>Zy (k.pure e (.bool _))
 |Is=>exact zM.el q e λe=>bU.el p e (λe=>wpAny_is_self (by decide) (k.pure e (.bool _))) (λh h e=>Ua (k.pure e (.bool _))) (λh h e=>Ub (k.pure e (.bool _))) λh e=>Uc (k.pure e (.bool _))
 |IsNot=>exact zM.el q e λe=>bU.el p (Bn.map e) (λe=>wpAny_isNot_self (by decide) (k.pure e (.bool _))) (λh h e=>RE (k.pure e (.bool _))) (λh h e=>RF (k.pure e (.bool _))) λh e=>RG (k.pure e (.bool _))
 |_=>exact Ad e
theorem R2{n:Nat}(h:n<=Ce):(n:Int)<2^63:=IV (DE.mpr h) (by decide)
def KB(ω:Wl B fs)(T:Bool->St->Prop)(R:Bool->Shared->Prop):Prop:=∀b(ω':Wl B fs),T b ω'.σ->Le [] ω ω'->R b ω'.s
theorem R3{P:Bool->Prop}{R:Bool->Shared->Prop}(p:Rp ω a va)(e:Bn (Nc ω.σ a) P)(k:∀b tk,P b->R b {ω.s with toks:=tk}):wpAny (model B.prog B.w) A (truthy va) R bot ω.s:=
 @Rep.casesOn B ω.μ ω.s.heap (λa va x=>Bn (Nc ω.σ a) P->wpAny (model B.prog B.w) A (truthy va) R bot ω.s) a va p (λe=>Ad e) (λb e=>GM (k b ω.s.toks e)) (λx x e=>Ad e) (λx x e=>Ad e) (λx x x x e=>Ad e) (λx x e=>Ad e)
  (λh1 e=>FA h1 e λx xs vs x x g1 g2 e=>Bn.Em e λhl e=>wpAny_truthy_list (DQ g1) (by refine Ae g2.size ?_;exact R2 hl) (by
   have z:(!vs.isEmpty)= !xs.isEmpty:=congrArg not (by(refine(CX).mpr ?_;rw[Hh];refine Ae g2.size ?_;rw[Hi,J3]));refine Ae z ?_;exact k _ _ e)) (λx x e=>Ad e) (λx x e=>Ad e) e
end
end
section
open PySem.SeqAt PySem.MeetsSeq
section
variable{B:Wd}{fs:List Env}{ω:Wl B fs}{A:Around}{a b:AV}{va vb:Value}{Q:AV->St->Prop}{R:Value->Shared->Prop}
structure Nth{α:Type}(xs:List α)(k:Int)(x:α):Prop where
 lo: -(2^63)<=k
 hi:k<2^63
 ix:∃j,seqIndex? k xs.length=some j/\xs[j]? =some x/\(0<=k->j=k.toNat)/\(k<0-> -(xs.length:Int)<=k/\j=(k+xs.length).toNat)
theorem VT{α:Type}{xs:List α}{k:Int}{P:α->Prop}(e:Bn (Rf xs k) P):∃x,P x/\Nth xs k x:=by
 have e63:(2:Int)^63=9223372036854775808:=by decide
 unfold Rf at e;by_cases h0:0<=k
 .rw[if_pos h0]at e;obtain⟨h1,e⟩:=Bn.ite e;obtain⟨x,e,p⟩:=Bn.some e;have hl:k.toNat<xs.length:=(Ak.mp e).1;refine⟨x,p,by lia,by lia,k.toNat,?_,e,λa=>rfl,λh=>absurd h (Hf.mpr h0)⟩;simp only[seqIndex?,if_neg (Hf.mpr h0)];exact Ae (if_pos (by simp;lia)) rfl
 .rw[if_neg h0]at e;obtain⟨h1,e⟩:=Bn.ite e;obtain⟨x,e,p⟩:=Bn.some e;have hl:=(Ak.mp e).1;refine⟨x,p,by lia,by lia,(k+xs.length).toNat,?_,e,λh=>absurd h h0,λa=>⟨by exact E3 0x10067800601302811 h1.2,rfl⟩⟩;simp only[seqIndex?,if_pos (Oa.mp h0)];exact Ae (if_pos (by simp;lia)) rfl
theorem IntsAre.get'{vs:List Value}{ns:List Int}(q:IntsAre vs ns):∀{j:Nat}{n:Int},ns[j]? =some n->∃t,vs[j]? =some (.int n t):=by
 induction q with
 |nil=>exactλe=>nomatch e
 |cons m t _ ih=>
  intro j n e;cases j with
  |zero=>cases e;exact⟨t,rfl⟩
  |succ j=>exact ih e
theorem JS{l:Addr}{items:Array Value}{n:Nat}{k:Int}{t:Tok}{x:Value}{j:Nat}(hl:ω.s.heap.IsList l items)(hz:items.size=n)
  (hlo: -(2^63)<=k) (hhi:k<2^63) (hx:items[j]? =some x) (h1:0<=k->j=k.toNat) (h2:k<0-> -(n:Int)<=k/\j=(k+n).toNat) (h:R x ω.s):
  Wp ω A (getItem (.ref l) (.int k t)) R:=by
 subst hz;by_cases h0:0<=k
 .exact wpAny_getItem_list hl h0 hhi (by refine CV (h1 h0) ?_;exact hx) h
 .obtain⟨h3,h4⟩:=h2 (Oa.mp h0);exact wpAny_getItem_list_neg hl (Oa.mp h0) h3 hlo (by refine CV h4 ?_;exact hx) h
theorem toL{α:Type}{v:Array α}{j:Nat}{y:α}(h:v.toList[j]? =some y):v[j]? =some y:=ES.symm.trans h
variable{value i:Expr}(hi:∀o k,subscripted i false o k=operate [o,k] (getItem o k))
include hi
theorem m8{l:Addr}{vs:Array Value}{n:Nat}{xs:List AV}{j:Int}{t:Tok}(g1:ω.s.heap.get? l=some (JA vs n))(g2:GY ω xs vs.toList)(e:Bn (Rf xs j) (KV Q ω.σ))(k:KE ω Q R):Wp ω A (subscriptTail value i (.ref l) (.int j t)) R:=by
 obtain⟨x,e,N⟩:=VT e;obtain⟨jj,_,h2,h3,h4⟩:=N.ix;obtain⟨y,hy,ry⟩:=g2.get h2;exact tail_any (DQ g1).typeIs slot_list_getitem.lookup (JS (DQ g1) g2.size N.lo N.hi (toL hy) h3 h4 (k.pure e ry)) (hi _ _)
theorem wR{l:Addr}{vs:Array Value}{n:Nat}{xs:List AV}{j:Int}{t:Tok}(g1:ω.s.heap.get? l=some (Lu vs n))(g2:GY ω xs vs.toList)(e:Bn (Rf xs j) (KV Q ω.σ))(k:KE ω Q R):Wp ω A (subscriptTail value i (.ref l) (.int j t)) R:=by
 obtain⟨x,e,N⟩:=VT e;obtain⟨jj,h1,h2,_⟩:=N.ix;obtain⟨y,hy,ry⟩:=g2.get h2;have ht:IsTup ω.s.heap l vs:=⟨_,g1,rfl,_,rfl⟩
 exact tail_any ht.typeIs slot_tuple_getitem.lookup (getItem_tuple ht N.lo N.hi (by refine Ae g2.size ?_;exact h1) (toL hy) (k.pure e ry)) (hi _ _)
theorem wU{l:Addr}{vs:Array Value}{ns:List Int}{j:Int}{t:Tok}(h1:B.h₀.IsList l vs)(h2:IntsAre vs.toList ns)(e:Bn (Rf ns j) λn=>Q (.int n) ω.σ)(k:KE ω Q R):Wp ω A (subscriptTail value i (.ref l) (.int j t)) R:=by
 obtain⟨x,e,N⟩:=VT e;obtain⟨jj,_,g2,g3,g4⟩:=N.ix;obtain⟨tk,hy⟩:=IntsAre.get' h2 g2;obtain⟨o,ho,r⟩:=h1;have hl:ω.s.heap.IsList l vs:=⟨o,ω.inv.base _ _ ho,r⟩
 exact tail_any hl.typeIs slot_list_getitem.lookup (JS hl (Bh.symm.trans (Mp h2)) N.lo N.hi (toL hy) g3 g4 (k.pure e (.int _ _))) (hi _ _)
theorem iI{b:Array UInt8}{t u:Tok}{l:List Int}{j:Int}(hl:l=b.toList.map λu=>(u.toNat:Int))(h0:0<=j/\l.length<=Ce)(e:Bn (Rf l j) λn=>Q (.int n) ω.σ)(k:KE ω Q R):Wp ω A (subscriptTail value i (.bytes b t) (.int j u)) R:=by
 obtain⟨m,e,N⟩:=VT e;obtain⟨jj,_,g2,g3,_⟩:=N.ix;rw[g3 h0.1]at g2;have hlen:b.toList.length=l.length:=by exact Ae hl (Ae (Aj ..) rfl)
 have hz:=(Ak.mp g2).1;rw[hl,BK]at g2;obtain⟨c,hc,hm⟩:=DF.mp g2;have hb:b=b.toList.toArray:=by simp
 refine Ae hb ?_;refine tail_any (GW ω.s _ t) PySem.W.FB.slot_bytes_getitem.lookup (PySem.W.getItem_bytes (by refine Ae hlen ?_;exact AS h0.2 (by decide)) h0.1 (by refine Ae hlen ?_;exact(WK h0.1).mp hz) ?_) (hi _ _);refine Ae DX (Ae hc ?_);show R (.int (c.toNat:Int) _) _;refine Ae hm ?_;exact k.tok e (.int _ _)
theorem Xn{K:Type}[DecidableEq K] {knd:KeyKind B.prog B.w K}{l:Addr}{xs:List (K×AV)}{DB:List (K×Value)}{x:K}(h1:knd.is x vb=true)(k1:ω.s.heap.DictOf knd l DB)(k2:HM B ω.μ ω.s.heap xs DB)(e:Bn (EP xs x) (KV Q ω.σ))(k:KE ω Q R):Wp ω A (subscriptTail value i (.ref l) vb) R:=by
 obtain⟨v,e1,e⟩:=Bn.some e;obtain⟨y,hy,ry⟩:=k2.get e1;exact tail_any k1.typeIs slot_dict_getitem.lookup (wpAny_getItem_of h1 k1.mapOf hy (k.tok e ry)) (hi _ _)
theorem wV(p:Rp ω a va)(q:Rp ω b vb)(e:Bn (Jb ω.σ a b) (KV Q ω.σ))(k:KE ω Q R):Wp ω A (subscriptTail value i va vb) R:=
 @Rep.casesOn B ω.μ ω.s.heap (λa va h=>Bn (Jb ω.σ a b) (KV Q ω.σ)->Wp ω A (subscriptTail value i va vb) R) a va p (λe=>Ad e) (λh e=>Ad e) (λh h e=>Ad e) (λh h e=>Ad e)
  (λb t l hl e=>GV.el q e λj u e=>Bn.Em e λh0 e=>iI hi hl h0 (Bn.map e) k)
  (λh1 h2 e=>GV.el q e λj t e=>wR hi h1 h2 e k)
  (λh1 e=>Oy (fi:=λh=>none) h1 (λh h h h h g1 g2 e=>GV.el q e λj t e=>m8 hi g1 g2 e k) (λh h h h k1 k2 e=>QU.el q e λx t e=>Xn hi (Fb B.prog B.w x t) k1 k2 e k) (λh h h h k1 k2 e=>GV.el q e λx t e=>Xn hi (Hj B.prog B.w x t) k1 k2 e k) (λh h h h h h e=>Ad e) e)
  (λh h e=>Ad e) (λh1 h2 e=>GV.el q e λj t e=>wU hi h1 h2 (Bn.map e) k) e
end
theorem Zl.el{α:Type}{xs:List α}{lo hi:Option Int}{P:List α->Prop}{G:Option Int->Option Int->Prop}(e:Bn (Zl xs lo hi) P)(k1:∀k:Int,0<=k->P (xs.take k.toNat)->G none (some k))(k2:∀k:Int,0<=k->P (xs.drop k.toNat)->G (some k) none):G lo hi:=by
 cases lo with
 |none=>cases hi with
  |none=>exact Ad e
  |some k=>exact k1 k (Bn.ite e).1 (Bn.ite e).2
 |some k=>cases hi with
  |none=>exact k2 k (Bn.ite e).1 (Bn.ite e).2
  |some _=>exact Ad e
structure QbR(x:Str)(lo hi:Option Int)(ys:List Nat):Prop where
 pk:∀l u:Option (Int×Tok),l.map (λa=>a.1)=lo->u.map (λa=>a.1)=hi->(slicePicked x l u none).filterMap (x.cps[·]?)=ys/\(slicePicked x l u none).length=ys.length
 all:ys.length=x.length->ys=x.cps.toList
 le:ys.length<=x.length
theorem Qah{k:Int}(h0:0<=k)(n:Nat):max 0 (min k (n:Int))=((min k.toNat n:Nat):Int):=by
 refine Ae (Int.max_eq_right (Int.le_min.mpr ⟨h0,C6 n⟩)) ?_;by_cases h:k<=n
 .exact Ae (Int.min_eq_left h) (Ae (CW (WM.mpr h)) (Ae (Aw h0) rfl))
 .have h:=GP (Oa.mp h);exact Ae (Int.min_eq_right h) (Ae (He ((Int.le_toNat h0).mpr h)) rfl)
theorem m9{a n:Nat}:n-min a n=n-a:=by
 by_cases h:a<=n
 .exact Ae (CW h) rfl
 .have h:=J4 h;exact Ae (He h) (Ae (Fn ..) (Ae (GZ h) rfl))
theorem iJ(x:Str)(k:Int)(h0:0<=k):QbR x none (some k) (x.cps.toList.take k.toNat):=by
 have JM:x.length=x.cps.size:=rfl;have e1:BI none (some k) 1 x.cps.size=sliceRange ((0:Nat):Int) ((min k.toNat x.cps.size:Nat):Int) 1:=by
  unfold BI;simp only[show((1:Int)>0)from by decide,if_true,if_neg (Hf.mpr h0)];refine Ae (Qah h0 ..) ?_;rfl
 have e2:P7 (min k.toNat x.cps.size) x.cps.toList=P7 k.toNat x.cps.toList:=by exact CV Bh ((List.take_eq_take_iff).mpr (Ae (Nat.min_assoc ..) (Ae (WJ ..) rfl)))
 refine⟨λl u hl hu=>?_,λh=>DG ?_,?_⟩
 .unfold slicePicked;refine Ae hl (Ae hu (Ae JM ?_));show(BI none (some k) 1 x.cps.size).filterMap _=_/\(BI none (some k) 1 x.cps.size).length=_;refine Ae e1 (Ae (sliceRange_one ..) (Ae (pick_run ..) (Ae Tu (Ae (WN ..) (Ae (Aj ..) (Ae BS (Ae Bx (Ae Bh ?_))))))));exact⟨e2,rfl⟩
 .rw[Bx]at h;rw[Bh]at h⊢;rw[JM]at h;exact h▸EM _ _
 .refine Ae Bx ?_;exact Ey _ _
theorem iK(x:Str)(k:Int)(h0:0<=k):QbR x (some k) none (x.cps.toList.drop k.toNat):=by
 have JM:x.length=x.cps.size:=rfl;have e1:BI (some k) none 1 x.cps.size=sliceRange ((min k.toNat x.cps.size:Nat):Int) ((x.cps.size:Nat):Int) 1:=by
  unfold BI;simp only[show((1:Int)>0)from by decide,if_true,if_neg (Hf.mpr h0)];exact Ae (Qah h0 ..) rfl
 have hle:(x.cps.toList.drop k.toNat).length<=x.length:=by refine Ae B7 ?_;exact Gf _ _
 refine⟨λl u hl hu=>?_,λh=>?_,hle⟩
 .unfold slicePicked;refine Ae hl (Ae hu (Ae JM ?_));show(BI (some k) none 1 x.cps.size).filterMap _=_/\(BI (some k) none 1 x.cps.size).length=_;refine Ae e1 (Ae (sliceRange_one ..) (Ae (pick_run ..) (Ae (Aj ..) (Ae BS (Ae B7 (Ae Bh ?_))))));refine⟨?_,m9⟩;by_cases hk:k.toNat<=x.cps.size
  .refine Ae (CW hk) ?_;exact DG (by simp)
  .rw[He (J4 hk),KZ (WO Bh),KZ (by rw[Bh];exact J4 hk)];exact Ny
 .rw[B7]at h;by_cases hk:k.toNat=0
  .refine Ae hk ?_;rfl
  .have:x.cps.toList=[]:=Dn (by rw[Bh]at h⊢;rw[JM]at h;lia);refine Ae this ?_;exact Nz
theorem Qo{v:Value}{k:Option Int}(p:IsPart v k):∃l:Option (Int×Tok),v=partValue l/\l.map (λa=>a.1)=k:=by
 cases p with
 |none=>exact⟨none,rfl,rfl⟩
 |int i t=>exact⟨some (i,t),rfl,rfl⟩
section
variable{B:Wd}{fs:List Env}{ω:Wl B fs}{A:Around}{a:AV}{va vl vu:Value}{Q:AV->St->Prop}{R:Value->Shared->Prop}{value:Expr}{elo ehi:Option Expr}{pp:Pos}{lo hi:Option Int}
abbrev slO(vl vu:Value):Obj:={cls:= .type "slice",data:= .fields #[vl,vu,.none]}
noncomputable def Wl.sl(ω:Wl B fs)(vl vu:Value):Wl B fs:=ω.grow (ω.s.heap.push (slO vl vu)) ω.s.toks Cg
theorem slice_list{l:Addr}{vs:Array Value}{n:Nat}{xs ys:List AV}(g1:ω.s.heap.get? l=some (JA vs n))(g2:GY ω xs vs.toList)(hl:xs.length<=Ce)(pl:IsPart vl lo)(pu:IsPart vu hi)(hys:GY ω ys (slicePick vs lo hi none).toList)(e:Q (.ref ω.σ.length) (ω.σ++[.list false ys]))(k:KE ω Q R):
  Wp (ω.sl vl vu) A (subscriptTail value (.Slice elo ehi none pp) (.ref l) (.ref ω.s.heap.objs.size)) R:=by
 have hs:(ω.sl vl vu).s.heap.IsList l vs:=(DQ g1).push _;have st:Le [] ω (ω.sl vl vu):= .grow;exact tail_any hs.typeIs list_getitem_lookup (wpAny_getItem_list_slice hs (bO ..) pl pu .none (by simp) (KE.list (ω:=ω.sl vl vu) (tk:=ω.s.toks) (k.after st) e (hys.step st)) (by refine Ae g2.size ?_;exact IC hl)) rfl
theorem Un{x:Str}{t:Tok}{ys:List Nat}(N:QbR x lo hi ys)(hl:x.length<=Ce)(pl:IsPart vl lo)(pu:IsPart vu hi)(e:Q (.str ⟨ys.toArray⟩) ω.σ)(k:KE ω Q R):
  Wp (ω.sl vl vu) A (subscriptTail value (.Slice elo ehi none pp) (.str x t) (.ref ω.s.heap.objs.size)) R:=by
 obtain⟨l,rfl,el⟩:=Qo pl;obtain⟨u,rfl,eu⟩:=Qo pu;obtain⟨hp,hlen⟩:=N.pk l u el eu;refine tail_any (Gg _ x t) F.slot_str_getitem.lookup (wpAny_getItem_str_slice (l:=l) (u:=u) (st:=none) ⟨_,Bi _ rfl,rfl,rfl⟩ rfl ?_) rfl;unfold sliceMade;refine Ae hp (Ae hlen ?_);show Made.post (if(ys.length==x.length)=true then _ else _) _ _;by_cases hb:(ys.length==x.length)=true
 .refine Ae (if_pos hb) ?_;rw[N.all (beq_iff_eq.mp hb)]at e;exact KE.pure (ω:=ω.sl (partValue l) (partValue u)) (k.after .grow) e (.str _ _)
 .refine Ae (if_neg hb) ?_;exact⟨by show ys.toArray.size<=2^24;refine Ae O8 ?_;exact IC (AS N.le hl),KE.tok (ω:=ω.sl (partValue l) (partValue u)) (k.after .grow) e (.str _ _)⟩
theorem Qdk{vs:Array Value}{j:Int}(h0:0<=j):(slicePick vs none (some j) none).toList=vs.toList.take j.toNat:=by
 have:=slicePick_upto' vs j.toNat;rw[Aw h0]at this;exact Ae this rfl
theorem Qdl{vs:Array Value}{j:Int}(h0:0<=j):(slicePick vs (some j) none none).toList=vs.toList.drop j.toNat:=by
 have:=slicePick_from' vs j.toNat;rw[Aw h0]at this;exact Ae this rfl
theorem iL(p:Rp ω a va)(pl:IsPart vl lo)(pu:IsPart vu hi)(e:Ok (LH ω.σ a lo hi) Q)(k:KE ω Q R):Wp (ω.sl vl vu) A (subscriptTail value (.Slice elo ehi none pp) va (.ref ω.s.heap.objs.size)) R:=
 @Rep.casesOn B ω.μ ω.s.heap (λa va h=>Ok (LH ω.σ a lo hi) Q->Wp (ω.sl vl vu) A (subscriptTail value (.Slice elo ehi none pp) va (.ref ω.s.heap.objs.size)) R) a va p (λe=>Ad e) (λh e=>Ad e) (λh h e=>Ad e)
  (λx t e=>Bn.Em e λhl e=>Zl.el (G:=λlo hi=>IsPart vl lo->IsPart vu hi->_) (Bn.map e) (λj h0 e pl pu=>Un (iJ x j h0) hl pl pu e k) (λj h0 e pl pu=>Un (iK x j h0) hl pl pu e k) pl pu)
  (λh h h h e=>Ad e) (λh h e=>Ad e)
  (λh1 e=>FA h1 e λh xs vs h h g1 g2 e=>Bn.Em e λhl e=>Zl.el (G:=λlo hi=>IsPart vl lo->IsPart vu hi->_) (Bn.map e)
   (λj h0 e pl pu=>slice_list g1 g2 hl pl pu (by refine Ae (Qdk h0) ?_;exact g2.take _) e k)
   (λj h0 e pl pu=>slice_list g1 g2 hl pl pu (by refine Ae (Qdl h0) ?_;exact g2.drop _) e k) pl pu) (λh h e=>Ad e) (λh h e=>Ad e) e
end
end
section
open PySem.SeqAt PySem.MeetsSeq
section
variable{B:Wd}{μ:List Addr}{h:Heap}{K:Type}[DecidableEq K]
theorem Qp(p:K×Value)(kvs:List (K×Value))(k:K)(v:Value)(hn:p.1∉kvs.map (λa=>a.1)):stored (p::kvs) k v=if p.1=k then(p.1,v)::kvs else p::stored kvs k v:=by
 unfold stored;by_cases e:p.1=k
 .exact Ae (if_pos e) (Ae NA (Ae (decide_eq_true e) (Ae (Bool.true_or ..) (Ae (if_pos rfl) (Ae AW (Ae (if_pos e) (Ae (map_store_of_not_mem _ _ _ (e▸hn)) rfl)))))))
 .refine Ae (if_neg e) (Ae NA (Ae (decide_eq_false e) (Ae (JE ..) (Ae AW (Ae (if_neg e) (Ae AM ?_))))));split<;>rfl
theorem HM.set{k:K}{x:AV}{c:Value}(q:Rep B μ h x c){v:List (K×AV)}{w:List (K×Value)}(r:HM B μ h v w):(w.map (λy=>y.1)).Nodup->HM B μ h (Ib v k x) (stored w k c):=by
 induction r with
 |nil=>exactλy=> .cons ⟨rfl,q⟩ .nil
 |@cons a b as bs p r ih=>
  intro hn;have hn:=CY.mp hn;refine Ae (Qp b bs k c hn.1) (Ae p.1 ?_);show HM B μ h (if a.1=k then(a.1,x)::as else a::Ib as k x) _;by_cases e:a.1=k
  .refine Ae (if_pos e) (Ae (if_pos e) ?_);exact .cons ⟨rfl,q⟩ r
  .refine Ae (if_neg e) (Ae (if_neg e) ?_);exact .cons p (ih hn.2)
theorem HM.del{k:K}{v:List (K×AV)}{w:List (K×Value)}(r:HM B μ h v w):(w.map (λx=>x.1)).Nodup->HM B μ h (Xf v k) (without w k):=by
 induction r with
 |nil=>exactλx=> .nil
 |@cons a b as bs p r ih=>
  intro hn;have hn:=CY.mp hn;have hw:without (b::bs) k=if a.1=k then without bs k else b::without bs k:=by
   unfold without;refine Ae C8 (Ae p.1 ?_);by_cases e:a.1=k
   .rw[if_pos e,if_neg (by rw[decide_eq_true_eq];exact not_not_intro e)]
   .exact Ae (if_neg e) (Ae (if_pos (decide_eq_true e)) rfl)
  refine Ae hw ?_;show HM B μ h (if a.1=k then as else a::Xf as k) _;by_cases e:a.1=k
  .refine Ae (if_pos e) (Ae (if_pos e) (Ae (without_of_not_mem bs k (e▸p.1▸hn.1)) ?_));exact r
  .refine Ae (if_neg e) (Ae (if_neg e) ?_);exact .cons p (ih hn.2)
theorem Kk{prog:Program}{w:World}{knd:KeyKind prog w K}{a:Addr}{kvs:List (K×Value)}(x:h.DictOf knd a kvs):(kvs.map (λy=>y.1)).Nodup:=x.elim λy x=>x.elim λy x=>x.elim λy x=>x.2.2.2.2.2
end
section
variable{B:Wd}{fs:List Env}{ω:Wl B fs}{A:Around}{a b v:AV}{va vb vv:Value}{P:St->Prop}{R:Shared->Prop}
structure DK{K:Type}[DecidableEq K] (B:Wd)(knd:KeyKind B.prog B.w K)(mk:List (K×AV)->AO):Prop where
 fz:∀kvs,(mk kvs).fz=false
 rep:∀{μ:List Addr}{h:Heap}{kvs:List (K×AV)}{l:Addr}{DB:List (K×Value)},h.DictOf knd l DB->HM B μ h kvs DB->Ij B μ h (mk kvs) l
theorem dkS:DK B (strKind B.prog B.w) (AO.sd false):=⟨λa=>rfl,.sd⟩
theorem dkN:DK B (intKind B.prog B.w) (AO.RH false):=⟨λa=>rfl,.RH⟩
theorem set_dict{K:Type}[DecidableEq K] {knd:KeyKind B.prog B.w K}{mk:List (K×AV)->AO}(D:DK B knd mk){i:Nat}{l:Addr}{o:AO}{xs:List (K×AV)}{DB:List (K×Value)}{x:K}(g:ω.σ[i]? =some o)(hf:o.fz=false)(h1:ω.μ[i]? =some l)(hk:knd.is x vb=true)(k1:ω.s.heap.DictOf knd l DB)(k2:HM B ω.μ ω.s.heap xs DB)
  (r:Rp ω v vv) (hl:xs.length<=Ce) (e:P (ω.σ.set i (mk (Ib xs x v)))) (k:KS [] ω P R):wpAny (model B.prog B.w) A (setItem (.ref l) vb vv) (λa s'=>R s') bot ω.s:=
 wpAny_setItem_pairs hk k1 (λh' hd Pt=>k.put g h1 hf (D.fz _) Pt e λst=>D.rep hd ((k2.mono st).set (r.mono st) (Kk k1))) (by refine Ae k2.length ?_;exact IC hl)
theorem iM{i:Nat}{l:Addr}{z:Bool}{xs:List (Str×AV)}{DB:List (Str×Value)}{x:Int}{t:Tok}(g:ω.σ[i]? =some (.sd z xs))(h1:ω.μ[i]? =some l)(k1:ω.s.heap.DictOf (strKind B.prog B.w) l DB)(k2:HM B ω.μ ω.s.heap xs DB)(r:Rp ω v vv)(k:KS [] ω P R)(hz:z=false)(he:xs=[])
  (e:P (ω.σ.set i (.RH false [(x,v)]))):wpAny (model B.prog B.w) A (setItem (.ref l) (.int x t) vv) (λa s'=>R s') bot ω.s:=by
 subst he;cases k2;exact set_dict (xs:=[]) dkN g hz h1 (Hj B.prog B.w x t) (R1 k1) .nil r (Y8 _) e k
theorem nF{i:Nat}{l:Addr}{z:Bool}{xs:List (Str×AV)}{DB:List (Str×Value)}(g:ω.σ[i]? =some (.sd z xs))(h1:ω.μ[i]? =some l)(k1:ω.s.heap.DictOf (strKind B.prog B.w) l DB)(k2:HM B ω.μ ω.s.heap xs DB)(q:Rp ω b vb)(r:Rp ω v vv)(k:KS [] ω P R)
  (e:Bn (mI ω.σ i v z xs b) P):wpAny (model B.prog B.w) A (setItem (.ref l) vb vv) (λa s'=>R s') bot ω.s:=
 @Rep.casesOn B ω.μ ω.s.heap (λb vb a=>Bn (mI ω.σ i v z xs b) P->wpAny (model B.prog B.w) A (setItem (.ref l) vb vv) (λa s'=>R s') bot ω.s) b vb q (λe=>Ad e) (λa e=>Ad e)
  (λx t e=>Bn.Em e λc e=>iM g h1 k1 k2 r k c.1 (Hi.mp c.2) e)
  (λx t e=>Bn.Em e λc e=>set_dict dkS g c.1 h1 (Fb B.prog B.w x t) k1 k2 r c.2 e k) (λa a a a e=>Ad e) (λa a e=>Ad e) (λa e=>Ad e) (λa a e=>Ad e) (λa a e=>Ad e) e
theorem Xo(p:Rp ω a va)(q:Rp ω b vb)(r:Rp ω v vv)(e:Bn (Hv ω.σ b v a) P)(k:KS [] ω P R):wpAny (model B.prog B.w) A (setItem va vb vv) (λh s'=>R s') bot ω.s:=
 MP.el p e λi l h1 e=>Oy (fl:=λh h=>none) (fi:=λh=>none) h1 (λh h h h h h h e=>Ad e) (λz xs DB g k1 k2 e=>nF g h1 k1 k2 q r k e)
  (λz xs DB g k1 k2 e=>GV.el q e λx t e=>Bn.Em e λc e=>set_dict dkN g c.1 h1 (Hj B.prog B.w x t) k1 k2 r c.2 e k) (λh h h h h h e=>Ad e) e
theorem nG{i:Nat}{l:Addr}{z:Bool}{xs:List (Str×AV)}{DB:List (Str×Value)}{x:Str}{t:Tok}(g:ω.σ[i]? =some (.sd z xs))(h1:ω.μ[i]? =some l)(k1:ω.s.heap.DictOf (strKind B.prog B.w) l DB)(k2:HM B ω.μ ω.s.heap xs DB)(c:z=false/\(EP xs x).isSome=true/\xs.length<=Ce)
  (e:P (ω.σ.set i (.sd false (Xf xs x)))) (k:KS [] ω P R):wpAny (model B.prog B.w) A (delItem (.ref l) (.str x t)) (λa s'=>R s') bot ω.s:=by
 unfold delItem
 try with_reducible refine Bb ?_
 refine Ag (wpAny_sequenceKey k1.typeIs (by decide) ?_);refine Ag (wpAny_callSpecial?_slot (name:=Aa "__delitem__") k1.typeIs Jc
  (K0 Jc k1.typeIs PySem.F.entry_dict_delitem (PySem.F.args_dict_delitem_2 _ _) (meets_dict_delitem_pairs (strKind B.prog B.w) l (Fb B.prog B.w x t))
   ⟨DB,k1,by refine Ae k2.length ?_;exact IC c.2.2,by refine Ae (k2.has ..) ?_;exact c.2.1,λh' Zm Pt=>Ax (k.put g h1 c.1 rfl Pt e λst=> .sd Zm ((k2.mono st).del (Kk k1)))⟩))
theorem Xp(p:Rp ω a va)(q:Rp ω b vb)(e:Bn (LI ω.σ b a) P)(k:KS [] ω P R):wpAny (model B.prog B.w) A (delItem va vb) (λh s'=>R s') bot ω.s:=
 MP.el p e λi l h1 e=>R0 h1 e λz xs DB g k1 k2 e=>QU.el q e λx t e=>Bn.Em e λc e=>nG g h1 k1 k2 c e k
open PySem.W in
theorem R4:∀{h:Heap}{prog:Program}{w:World}{a:Addr}{DB:List (Str×Value)}{x:Str}(k1:h.DictOf (strKind prog w) a DB),∃od,h.get? a=some od/\lookIn x od=some (valueAt DB x):=by
 refine@(Fd nH hY lM nN nL A8 ?_);generalize E2 .. =c;generalize c.1=h,c.2.1=prog,c.2.2.1=w,c.2.2.2.1=a,c.2.2.2.2.1=DB,c.2.2.2.2.2=x;intro k1;obtain⟨o,es,ep,ho,hx,hd,hk,hp,hn⟩:=k1;refine⟨o,ho,?_⟩;unfold lookIn;refine Ae hd ?_;have e1:=hp.find x;have e2:(λe:DictEntry=>(strKind prog w).is x e.key)=λe=>e.key.isStr x:=funext λe=>(P8 x e.key).symm;rw[e2]at e1;dsimp only;cases hf:es.toList.find? (λe=>e.key.isStr x)with
 |some e=>rw[hf]at e1;refine CV e1 ?_;rfl
 |none=>
  rw[hf]at e1;refine CV e1 ?_;have:es.toList.any (λy=>y.refKey)=false:=List.any_eq_false.mpr λe he=>by
   obtain⟨k,MS,_⟩:=hk e (Do.mp he);obtain⟨t,ht⟩:=FH MS
   (rw[P9];refine Ae ht ?_);exact nofun
  simp only[this];rfl
theorem ZV{μ:List Addr}{h:Heap}(q:Rep B μ h a va):Qa va=true:=
 @Rep.casesOn B μ h (λx v x=>Qa v=true) a va q rfl (λx=>rfl) (λx x=>rfl) (λx x=>rfl) (λx x x x=>rfl) (λx x=>rfl) (λx=>rfl) (λx x=>rfl) (λx x=>rfl)
structure Qai(ω:Wl B fs)(l:Addr)(d:Nat)(z:Bool)(kvs:List (Str×AV))(dx:Addr)(sl:Array (Option Value))(DB:List (Str×Value)):Prop where
 obj:ω.s.heap.get? l=some ⟨.ref B.cR,some dx,.plain,sl⟩
 mu:ω.μ[d]? =some dx
 st:ω.σ[d]? =some (.sd z kvs)
 dic:ω.s.heap.DictOf (strKind B.prog B.w) dx DB
 kv:HM B ω.μ ω.s.heap kvs DB
@[elab_as_elim] theorem Om.el {α:Type} {f:Nat->Bool->List (Str×AV)->Option α} {P:α->Prop} {G:Value->Prop} (p:Rp ω a va) (e:Bn (Om ω.σ a f) P) (k:∀l d z kvs dx sl DB,Qai ω l d z kvs dx sl DB->Bn (f d z kvs) P->G (.ref l)):G va:=
 MP.el p e λi l h1 e=>Oy (fl:=λx x=>none) (fd:=λx x=>none) (fn:=λx x=>none) (fi:=λd=>atD ω.σ d (f d)) h1 (λx x x x x x x e=>Ad e) (λx x x x x x e=>Ad e) (λx x x x x x e=>Ad e) (λd dx sl g k1 k2 e=>R0 k2 e λz kvs DB g m1 m2 e=>k _ _ _ _ _ _ _ ⟨k1,k2,g,m1,m2⟩ e) e
theorem Xq{K:Bj}{C:Addr}{od:Option Obj}{x:Str}{cd:ClassData}{v:Value}(hc:EN K C=some cd)(hf:A6 K (.ref C) x=some none)(ho:JF cd od x=some (some v)):Ll K C od x=some (.value v):=by
 unfold Ll;rw[hc];show(A6 K (.ref C) x).bind _=_;rw[hf];show(JF cd od x).bind _=_;rw[ho];rfl
theorem Xr(Z:Bs B){x:Str}{ex:Bool}{Q:AV->St->Prop}{R:Value->Shared->Prop}(p:Rp ω a va)(e:Bn (H0 ω.σ x a) (KV Q ω.σ))(k:KE ω Q R):Wp ω A (getAttr va x ex) R:=
 Om.el p e λl d z kvs dx sl DB I e=>Bn.Em e λhx e=>by
  obtain⟨v,e1,e⟩:=Bn.some e;obtain⟨od,hod,hlook⟩:=R4 (x:=x) I.dic;obtain⟨y,hy,ry⟩:=I.kv.get e1;rw[hy]at hlook;refine PySem.W.get_value (Z.X.keeps ω.inv.base) (⟨I.obj,rfl,rfl,hod⟩:Mq ω.s.heap l _ B.cR (some od)) Z.hga (v:=y) ?_ (ZV ry) (k.tok e ry);obtain⟨cd,hc,hd⟩:=Z.cls;refine Xq hc (Z.no x hx) ?_;unfold JF;refine Ae (if_pos hd) ?_;exact hlook
theorem ZW{prog:Program}{w:World}{x:Str}{t:Tok}{v:Value}{hs:Int}{es:List DictEntry}{DB:List (Str×Value)}(q:Pairs (strKind prog w) es DB):(DB.map (λa=>a.1)).Nodup->Pairs (strKind prog w) (Fo x hs (.str x t) v es) (stored DB x v):=by
 induction q with
 |nil=>exactλa=> .cons (Fb prog w x t) rfl .nil
 |@cons e kv es kvs p1 p2 r ih=>
  intro hn;have hn:=CY.mp hn;unfold Fo;refine Ae (P8 ..) (Ae (Qp _ _ _ _ hn.1) ?_);by_cases hk:kv.1=x
  .refine Ae (if_pos hk) (Ae (if_pos (hk▸p1)) ?_);exact .cons p1 rfl r
  .refine Ae (if_neg hk) (Ae (if_neg λh=>hk (Value.isStrOf_inj _ _ _ p1 h)) ?_);exact .cons p1 p2 (ih hn.2)
theorem iN:∀{prog:Program}{w:World}{x:Str}{t:Tok}{v:Value}{es:List DictEntry},(∀e∈es,∃k,(strKind prog w).is k e.key=true/\e.hash=(strKind prog w).hash k)->
  ∀e∈Fo x (hashStr w x) (.str x t) v es,∃k,(strKind prog w).is k e.key=true/\e.hash=(strKind prog w).hash k:=by
 refine@(Fd hY lM A8 nN Os nL ?_);generalize E2 .. =c;generalize c.1=prog,c.2.1=w,c.2.2.1=x,c.2.2.2.1=t,c.2.2.2.2.1=v,c.2.2.2.2.2=es;induction es with
 |nil=>exactλa e he=>Ai.mp he▸⟨x,Fb prog w x t,rfl⟩
 |cons d r ih=>
  intro hk;unfold Fo;by_cases hd:d.key.isStr x=true
  .refine Ae (if_pos hd) ?_;exact AZ.mpr ⟨hk d (.head _),λe he=>hk e (.tail _ he)⟩
  .refine Ae (if_neg hd) ?_;exact AZ.mpr ⟨hk d (.head _),ih λe he=>hk e (.tail _ he)⟩
theorem Oz{K:Type}[DecidableEq K] {kvs:List (K×Value)}{k:K}{v:Value}(hn:(kvs.map (λx=>x.1)).Nodup):((stored kvs k v).map (λx=>x.1)).Nodup:=by
 unfold stored;by_cases h:kvs.any (λkv=>kv.1=k)=true
 .refine Ae (if_pos h) (Ae (keys_map_store ..) ?_);exact hn
 .refine Ae (if_neg h) (Ae Bg ((Jp).mpr ?_));exact⟨hn,J2 _ _,λa ha b hb e=>(D9.mp ha).elim λkv q=>h (Ez.mpr ⟨kv,q.1,decide_eq_true (q.2.trans (e.trans (Ai.mp hb)))⟩)⟩
theorem Xs{x:Str}{hs:Int}{k v:Value}(es:List DictEntry):(Fo x hs k v es).length<=es.length+1:=by
 induction es with
 |nil=>exact AL _
 |cons d r ih=>
  unfold Fo;split
  .exact Jr _
  .exact Qb ih
theorem QbS{prog:Program}{w:World}{es:Array DictEntry}(hk:∀e∈es,∃k,(strKind prog w).is k e.key=true/\e.hash=(strKind prog w).hash k):es.any (λa=>a.refKey)=false:=by
 refine(Array.any_eq_false').mpr ?_;intro e he;obtain⟨k,MS,_⟩:=hk e he;obtain⟨t,ht⟩:=FH MS
 (rw[P9];refine Ae ht ?_);exact nofun
theorem nJ{od:Obj}{es:Array DictEntry}{ep:Nat}(hex:od.ExactDict)(hd:od.data= .dict es ep):od=Tv es.toList ep:=by
 obtain⟨c,dd,dt,sl'⟩:=od;obtain⟨q1,q2,q3⟩:=hex;dsimp only at q1 q2 q3 hd;subst q1 q2 q3 hd;rfl
theorem nK:∀{B:Wd}{fs:List Env}{A:Around}{v:AV}{vv:Value}{P:St->Prop}{R:Shared->Prop}{x:Str}{l:Addr}{d:Nat}{z:Bool}{kvs:List (Str×AV)}{dx:Addr}{sl:Array (Option Value)}{DB:List (Str×Value)}{ω:Wl B fs}(Z:Bs B)(I:Qai ω l d z kvs dx sl DB)(hx:z=false/\x∈Ft/\kvs.length<=1000)(r:Rp ω v vv)(e:P (ω.σ.set d (.sd false (Ib kvs x v))))(k:KS [] ω P R),wpAny (model B.prog B.w) A (setAttr (.ref l) x vv) (λh s'=>R s') bot ω.s:=by
 refine@(Ir DO nL Ja W2 Os nq nq A8 ?_);generalize G8 .. =c;generalize c.1=B,c.2.1=fs,c.2.2.1=A,c.2.2.2.1=v,c.2.2.2.2.1=vv,c.2.2.2.2.2.1=P,c.2.2.2.2.2.2.1=R,c.2.2.2.2.2.2.2=x;refine@(Hp nN nN nB nL nN nA nL ?_);generalize GE .. =c;generalize c.1=l,c.2.1=d,c.2.2.1=z,c.2.2.2.1=kvs,c.2.2.2.2.1=dx,c.2.2.2.2.2.1=sl,c.2.2.2.2.2.2=DB;intro ω Z I hx r e k;have XK:B.K.In ω.s.heap:=Z.X.keeps ω.inv.base;obtain⟨od,es,ep,ho,hex,hd,hk,hp,hn⟩:=id I.dic;have IA:Mq ω.s.heap l ⟨.ref B.cR,some dx,.plain,sl⟩ B.cR (some od):=⟨I.obj,rfl,rfl,ho⟩
 refine PySem.W.set_plain XK IA Z.hsa ?_;have ht:Q2 B.K B.cR x=some none:=by unfold Q2;refine Ae (Z.no x hx.2.1) ?_;rfl
 refine PySem.W.osa_open (s:={ω.s with toks:=ω.s.toks+1}) XK IA Z.over ht λb=>?_;obtain⟨cd,hc,Pu⟩:=Z.cls;refine Ag (Ax (Ag (Ag (wpAny_loadPart I.obj (Ag ((PySem.W.looks_clsIn XK hc) _ _ _ {ω.s with toks:=ω.s.toks+1} (λh h e=>e) ?_))))));refine Ae Pu ?_;refine Ax (a:=some dx) (Ag (Ax (Ag ?_)));unfold nsSet;refine Ag (Ag (Qc (Ax (Ag (O9 (Ag (wpAny_loadPart ho ?_)))))));refine Ae hd ?_;dsimp only;refine Ae (aRefKeyMayBeTheName_at ..) (Ae (QbS hk) (Ae (GO ..) ?_));refine wpAny_updatePart ho ?_;have hput:Zh x (Mt B.w.params x) (.str x (ω.s.toks+1)) vv od=Tv (Fo x (Mt B.w.params x) (.str x (ω.s.toks+1)) vv es.toList) (PySem.W.putN x es.toList ep):=by
  exact Ae (nJ hex hd) (Ae (PySem.W.putName_dict ..) rfl)
 have lC:=CA (Zh x (Mt B.w.params x) (.str x (ω.s.toks+1)) vv) ho (by refine Ae hput ?_;rfl);rw[hput]at lC;refine Ag (J5 lC (J6 ?_) ?_)
 .refine Ae O8 ?_;exact AS (Xs es.toList) (Qb (AS (AS (WO (hp.length.trans I.kv.length)) hx.2.2) (by decide)))
 .refine Ax (k.put I.st I.mu hx.1 rfl (FI ..) e λst=> .sd (DB:=stored DB x vv) ⟨_,_,_,lC,⟨rfl,rfl,rfl⟩,rfl,λe he=>?_,ZW hp hn,Oz hn⟩ ((I.kv.mono st).set (r.mono st) hn));exact iN (prog:=B.prog) (w:=B.w) (es:=es.toList) (λe he=>hk e (Do.mp he)) e (List.mem_toArray.mp he)
theorem Qq(Z:Bs B){x:Str}(p:Rp ω a va)(r:Rp ω v vv)(e:Bn (FN ω.σ x v a) P)(k:KS [] ω P R):wpAny (model B.prog B.w) A (setAttr va x vv) (λh s'=>R s') bot ω.s:=
 Om.el (G:=λva=>wpAny (model B.prog B.w) A (setAttr va x vv) (λh s'=>R s') bot ω.s) p e λh h h h h h h I e=>Bn.Em e λhx e=>nK Z I hx r e k
end
end
section
open PySem.SeqAt PySem.MeetsSeq
section
variable{B:Wd}{fs:List Env}{ω:Wl B fs}{A:Around}{a b v:AV}{va vb vv:Value}{Q:AV->St->Prop}{R:Value->Shared->Prop}{as:List AV}{vs:List Value}
@[elab_as_elim] theorem one.el {α:Type} {f:AV->Option α} {P:α->Prop} {G:List Value->Prop} (q:GY ω as vs) (e:Bn (one as f) P) (k:∀a va,Rp ω a va->Bn (f a) P->G [va]):G vs:=
 @A2.casesOn _ _ _ (λas vs x=>Bn (one as f) P->G vs) as vs q (λe=>Ad e) (λ{a va as vs} p q e=>@A2.casesOn _ _ _ (λas vs x=>Bn (one (a::as) f) P->G (va::vs)) as vs q (λe=>k _ _ p e) (λx x e=>Ad e) e) e
@[elab_as_elim] theorem two.el {α:Type} {f:AV->AV->Option α} {P:α->Prop} {G:List Value->Prop} (q:GY ω as vs) (e:Bn (two as f) P) (k:∀a va b vb,Rp ω a va->Rp ω b vb->Bn (f a b) P->G [va,vb]):G vs:=
 @A2.casesOn _ _ _ (λas vs x=>Bn (two as f) P->G vs) as vs q (λe=>Ad e) (λ{a va as vs} p q e=>one.el (G:=λvs=>G (va::vs)) q e λx x r e=>k _ _ _ _ p r e) e
theorem intsOf.el{xs:List AV}{vs:List Value}(q:GY ω xs vs):∀{P:List Int->Prop},Bn (intsOf xs) P->∃ns,P ns/\IntsAre vs ns:=by
 induction q with
 |nil=>exactλe=>⟨_,e,.nil⟩
 |cons p _ ih=>exactλ{P} e=>GV.el p e λi t e=>(ih (Bn.map e)).elim λns h=>⟨_,h.1,.cons i t h.2⟩
theorem boolsOf.el{xs:List AV}{vs:List Value}(q:GY ω xs vs):∀{P:List Bool->Prop},Bn (boolsOf xs) P->∃bs,P bs/\vs=bs.map bP:=by
 induction q with
 |nil=>exactλe=>⟨_,e,rfl⟩
 |cons p _ ih=>exactλ{P} e=>onB.el p e λi e=>(ih (Bn.map e)).elim λns h=>⟨_,h.1,congrArg _ h.2⟩
noncomputable def Xu(p:Vq):Value:=match p with
 | .len=> .builtin "len"
 | .tuple=> .type "tuple"
 | .list=> .type "list"
 | .bytes=> .type "bytes"
 | .str=> .type "str"
 | .any=> .builtin "any"
theorem any_range:∀{bs:List Bool},(BZ bs.length).any (λi=>bs.getD i false)=bs.any id:=by
 refine@(MS nL ?_);generalize ZF .. =bs
 (refine(CX).mpr ?_;rw[Ez,Ez])
 constructor
 .rintro⟨i,hi,e⟩;rw[IW]at hi;rw[DX,Ap hi]at e;exact⟨_,CL hi,e⟩
 .rintro⟨x,hx,e⟩;obtain⟨i,hi,he⟩:=MZ hx;refine⟨i,IW.mpr hi,?_⟩;refine Ae DX (Ae (Ap hi) (Ae he ?_));exact e
theorem lenOf.el{α β:Type}{S:α->β->Prop}{xs:List α}{w:Array β}(g:A2 S xs w.toList)(k:KE ω Q R)(e:Ok (lenOf ω.σ xs) Q){t tk:Nat}(h:xs.length<=Ce->R (.int w.size t) {ω.s with toks:=tk}->Wp ω A (call va vs) R):Wp ω A (call va vs) R:=
 Bn.Em e λhl e=>h hl (k.tok e (by refine Ae g.size ?_;exact .int _ _))
theorem nM:∀{B:Wd}{fs:List Env}{A:Around}{Q:AV->St->Prop}{R:Value->Shared->Prop}{l:Addr}{w:Array Value}{n:Nat}{bs:List Bool}{ω:Wl B fs}(hh:A.in1.handled=none)(g1:ω.s.heap.get? l=some (JA w n))(hi:w.toList=bs.map bP)(k:KE ω Q R)(e:Q (.bool (bs.any id)) ω.σ),Wp ω A (call (.builtin "any") [.ref l]) R:=by
 refine@(Xe DO nL Ja nQ nQ nN nA nN nL ?_);generalize Ql .. =c;generalize c.1=B,c.2.1=fs,c.2.2.1=A,c.2.2.2.1=Q,c.2.2.2.2.1=R,c.2.2.2.2.2.1=l,c.2.2.2.2.2.2.1=w,c.2.2.2.2.2.2.2.1=n,c.2.2.2.2.2.2.2.2=bs;intro ω hh g1 hi k e;refine call_any_walk (Pa (DQ g1) ?_);refine⟨_,_,_,_,_,_,(λi=>bs.getD i false),rfl,bQ hh ω.s.heap.objs.size l (Ea (D8 g1)) w,⟨⟨_,Bi _ rfl,rfl,rfl⟩,(DQ g1).push _⟩,?_,λh' tk hk=>?_⟩
 .intro j v s' Q E hP hQ;have hv:v= .bool (bs.getD j false):=by
   have:w.toList[j]? =some v:=ES.trans hP;rw[hi,BK]at this;obtain⟨b,hb,hv⟩:=DF.mp this;refine Ae DX (Ae hb ?_);exact hv.symm
  subst hv;exact GM hQ
 .have hn:w.size=bs.length:=by exact CV Bh (Ae hi (Ae (Aj ..) rfl))
  refine Ae hn (Ae any_range ?_);exact k.grow (λb o e=>hk b o (λh=>Ea (D8 e) (Ai.mp h)) (Ba _ e)) e (.bool _)
theorem ZX{ns:List Int}(hz:(ns.all λn=>decide (0<=n/\n<256))=true):ns=(byteArr ns).toList.map λu=>(u.toNat:Int):=by
 unfold byteArr;refine Ae Ii ?_;refine(List.map_id'' (f:=_) (λm=>rfl) ns).symm.trans (M3 λm hm=>?_);obtain⟨h0,h1⟩:=of_decide_eq_true (Az.mp hz m hm);show m=(((m.toNat.toUInt8).toNat:Nat):Int)
 (rw[Nat.toUInt8];exact Ae UInt8.toNat_ofNat' (Ae (Qd ((WK h0).mpr h1)) (Ae (Aw h0) rfl)))
theorem nP{kvs:List (Str×AV)}{DB:List (Str×Value)}(k2:HM B ω.μ ω.s.heap kvs DB):∀{ys:List Value},ys.length=DB.length->(∀(j:Nat)(v:Value),ys[j]? =some v->∃k x,DB[j]? =some (k,x)/\(strKind B.prog B.w).is k v=true)->GY ω (kvs.map λp=>AV.str p.1) ys:=by
 induction k2 with
 |nil=>intro ys h _;refine Ae (Dn h) ?_;exact .nil
 |@cons a b as bs p _ ih=>
  intro ys hl RI;cases ys with
  |nil=>exact absurd hl.symm (Nat.succ_ne_zero _)
  |cons y ys=>
   obtain⟨k',x',e1,e2⟩:=RI 0 y rfl;cases e1;obtain⟨t,rfl⟩:=FH e2;have p1:k'=a.1:=p.1;exact .cons (p1▸ .str _ _) (ih (O4 hl) λj v e=>RI (j+1) v e)
theorem iO(Z:Bs B)(hh:A.handled=none){i:Nat}{l:Addr}{kvs:List (Str×AV)}{DB:List (Str×Value)}(h1:ω.μ[i]? =some l)(k1:ω.s.heap.DictOf (strKind B.prog B.w) l DB)(k2:HM B ω.μ ω.s.heap kvs DB)(hl:kvs.length<=Ce)(k:KE ω Q R)(e:Q (.ref ω.σ.length) (ω.σ++[.list false (kvs.map λp=> .str p.1)])):Wp ω A (call (.type "list") [.ref l]) R:=by
 obtain⟨ep,RI⟩:=k1.dictAt;exact PySem.W.kdl_call (PySem.W.kdl_dict (knd:=strKind B.prog B.w) (kvs:=DB) (ep:=ep) (Jh Z h1)) hh RI (by refine Ae k2.length ?_;exact IC hl) λh' tk acc' c' hk hD hacc=>
  k.newList hk (DP (AL _)) hD e (nP k2 (Bh.trans hacc.1) λj v e=>hacc.2 j v (toL e))
theorem iP{n:Int}(h:0<=n/\n<10000):n.natAbs.log2<1920:=by
 rcases Nat.eq_zero_or_pos n.natAbs with h0|h0
 .refine Ae h0 ?_;decide
 .exact Nat.lt_trans ((Zi (k:=14) (by exact AA 0x20070002111 h0)).mpr (by lia)) (by decide)
theorem QbT(p:Rp ω a va)(k:KE ω Q R)(e:Ok (QbH ω.σ a) Q):Wp ω A (call (.builtin "len") [va]) R:=
 @Rep.casesOn B ω.μ ω.s.heap (λa va y=>Ok (QbH ω.σ a) Q->Wp ω A (call (.builtin "len") [va]) R) a va p (λe=>Ad e) (λy e=>Ad e) (λy y e=>Ad e) (λy y e=>Ad e)
  (λb t l hl e=>Bn.Em e λh e=>have n1:b.size=l.length:=by exact Ae hl (Ae (Aj ..) (Ae Bh rfl))
   PySem.W.len_bytes (by refine Ae n1 ?_;exact AS h (by decide)) (k.tok e (by refine Ae n1 ?_;exact .int _ _)))
  (λh1 h2 e=>Bn.Em e λh e=>WP ⟨_,h1,rfl,_,rfl⟩ (by refine Ae h2.size ?_;exact R2 h) (k.tok e (by refine Ae h2.size ?_;exact .int _ _)))
  (λh1 e=>FA h1 e λy xs vs y y g1 g2 e=>Bn.Em e λh e=>M4 (DQ g1) (by refine Ae g2.size ?_;exact R2 h) (k.tok e (by refine Ae g2.size ?_;exact .int _ _)))
  (λy y e=>Ad e)
  (λ{_ vs ns} h1 h2 e=>Bn.Em e λh e=>have n1:vs.size=ns.length:=Bh.symm.trans (Mp h2)
   have hl:ω.s.heap.IsList _ vs:=h1.elim λo x=>⟨o,ω.inv.base _ _ x.1,x.2⟩
   M4 hl (by refine Ae n1 ?_;exact R2 h) (k.tok e (by refine Ae n1 ?_;exact .int _ _))) e
theorem QbU(p:Rp ω a va)(k:KE ω Q R)(e:Ok (QbI ω.σ a) Q):Wp ω A (call (.type "tuple") [va]) R:=
 @Rep.casesOn B ω.μ ω.s.heap (λa va x=>Ok (QbI ω.σ a) Q->Wp ω A (call (.type "tuple") [va]) R) a va p (λe=>Ad e) (λx e=>Ad e) (λx x e=>Ad e) (λx x e=>Ad e) (λx x x x e=>Ad e)
  (λh1 h2 e=>call_tuple_same ⟨_,h1,rfl,_,rfl⟩ (k.pure e (.tup h1 h2)))
  (λh1 e=>FA h1 e λx xs vs x x g1 g2 e=>Bn.Em e λh e=>call_tuple_list (DQ g1) (λh' hk=>k.u9 (tk:=ω.s.toks) (λb o e=>Ba _ (hk b o e)) (Bi _ rfl) e g2) (by refine Ae g2.size ?_;exact IC h))
  (λx x e=>Ad e) (λx x e=>Ad e) e
theorem nS:∀{B:Wd}{fs:List Env}{A:Around}{Q:AV->St->Prop}{R:Value->Shared->Prop}{as:List AV}{vs:List Value}{n:Nat}{ω:Wl B fs}(Z:Bs B)(O:Ga fs n A)(p:Vq)(q:GY ω as vs)(e:Ok (H3 ω.σ p as) Q)(k:KE ω Q R),Wp ω A (call (Xu p) vs) R:=by
 refine@(Ir DO nL Ja nQ nQ nL nL nN ?_);generalize G8 .. =c;generalize c.1=B,c.2.1=fs,c.2.2.1=A,c.2.2.2.1=Q,c.2.2.2.2.1=R,c.2.2.2.2.2.1=as,c.2.2.2.2.2.2.1=vs,c.2.2.2.2.2.2.2=n;intro ω Z O p q e k;exact one.el (G:=λvs=>Wp ω A (call (Xu p) vs) R) q e λa va q e=>by
  cases p with
  |len=>exact QbT q k e
  |tuple=>exact QbU q k e
  |list=>exact MP.el q e λi l h1 e=>R0 h1 e λy kvs DB y k1 k2 e=>Bn.Em e λh e=>iO Z O.hd h1 k1 k2 h k e
  |bytes=>exact MP.el q e λi l h1 e=>FA h1 e λy xs vs y y g1 g2 e=>(intsOf.el g2 (Bn.bind e)).elim λns x=>Bn.Em x.1 λh e=>
    call_bytes_ints (DQ g1) x.2 (λm hm=>of_decide_eq_true (Az.mp h.1 m hm)) (by refine Ae (Mp x.2) ?_;exact IC h.2) O.hd λh' t ek hk=>k.grow hk e (.bytes _ _ _ (ZX h.1))
  |str=>exact GV.el q e λi t e=>Bn.Em e λh e=>PySem.P.str_of_int (iP h) (k.tok e (.str _ _))
  |any=>exact MP.el q e λi l h1 e=>FA h1 e λy xs vs y y g1 g2 e=>(boolsOf.el g2 (Bn.bind e)).elim λbs x=>Bn.Em x.1 λh e=>nM O.hd g1 x.2 k e
end
end
section
open PySem.SeqAt PySem.MeetsSeq
section
variable{B:Wd}{fs:List Env}{ω:Wl B fs}{A:Around}{a b v:AV}{va vb vv:Value}{Q:AV->St->Prop}{R:Value->Shared->Prop}{as:List AV}{vs:List Value}
noncomputable def NO(m:Meth):String:=match m with
 | .append=>"list.append"
 | .extend=>"list.extend"
 | .insert=>"list.insert"
 | .get=>"dict.get"
 | .update=>"dict.update"
 | .split=>"str.split"
theorem Bn.ite2{α:Type}{c:Prop}{_:Decidable c}{x y:Option α}{P:α->Prop}{G:Prop}(h:Bn (if c then x else y) P)(k1:c->Bn x P->G)(k2:Bn y P->G):G:=by
 by_cases e:c
 .rw[if_pos e]at h;exact k1 e h
 .rw[if_neg e]at h;exact k2 h
section
variable{m:Str}{pl:Sem Bool}{W:Value×List Value->Shared->Prop}{P:Meth->Prop}{l:Addr}
theorem nU{ws:Array Value}{n:Nat}(g1:ω.s.heap.get? l=some (JA ws n))(h:∀mm,P mm->W (.builtin (NO mm),[.ref l]) ω.s)(e:Bn (Qaa m) P):wpAny (model B.prog B.w) A (getMethod (.ref l) m pl) W bot ω.s:=
 have nd:∀a',B0 l= .ref a'->∃o,ω.s.heap.get? a'=some o/\o.dict=none:=λa' e=>Value.ref.inj e▸⟨_,g1,rfl⟩
 Bn.ite2 e (λem e=>em▸Du (DQ g1).typeIs Gu FS PySem.F.type_list_append nd (h _ e)) λe=>
 Bn.ite2 e (λem e=>em▸Du (DQ g1).typeIs Gu JG PySem.F.type_list_extend nd (h _ e)) λe=>
 Bn.Em e λem e=>em▸Du (DQ g1).typeIs Gu JH PySem.F.type_list_insert nd (h _ e)
theorem nV{K:Type}[DecidableEq K] {knd:KeyKind B.prog B.w K}{DB:List (K×Value)}(k1:ω.s.heap.DictOf knd l DB)(h:∀mm,P mm->W (.builtin (NO mm),[.ref l]) ω.s)(e:Bn (Qab m) P):wpAny (model B.prog B.w) A (getMethod (.ref l) m pl) W bot ω.s:=
 Bn.ite2 e (λem e=>em▸Du k1.typeIs Gv ET Lx k1.mapOf.noDict (h _ e)) λe=>
 Bn.Em e λem e=>em▸Du k1.typeIs Gv JI PySem.F.type_dict_update k1.mapOf.noDict (h _ e)
theorem nW{K:Type}[DecidableEq K] {knd:KeyKind B.prog B.w K}{DB:List (K×Value)}(k1:ω.s.heap.DictOf knd l DB)(h:∀mm,P mm->W (.builtin (NO mm),[.ref l]) ω.s)(em:m="get")(e:Bn (some Meth.get) P):wpAny (model B.prog B.w) A (getMethod (.ref l) m pl) W bot ω.s:=
 em▸Du k1.typeIs Gv ET Lx k1.mapOf.noDict (h _ e)
end
theorem VU{m:Str}{pl:Sem Bool}{W:Value×List Value->Shared->Prop}{P:Meth->Prop}(p:Rp ω a va)(e:Bn (HN ω.σ m a) P)(h:∀mm,P mm->W (.builtin (NO mm),[va]) ω.s):wpAny (model B.prog B.w) A (getMethod va m pl) W bot ω.s:=
 @Rep.casesOn B ω.μ ω.s.heap (λa va y=>(∀mm,P mm->W (.builtin (NO mm),[va]) ω.s)->Bn (HN ω.σ m a) P->wpAny (model B.prog B.w) A (getMethod va m pl) W bot ω.s) a va p (λy e=>Ad e) (λy y e=>Ad e) (λy y y e=>Ad e)
  (λx t h e=>Bn.Em e λem e=>em▸Du (Gg _ _ _) PySem.F.plainAttrs_str EH PySem.F.type_str_split (λy e=>AR e) (h _ e)) (λy y y y y e=>Ad e) (λy y y e=>Ad e)
  (λh1 h e=>Oy (fi:=λy=>none) h1
   (λy y y y y g1 y e=>nU g1 h e) (λy y y y k1 y e=>nV k1 h e) (λy y y y k1 y e=>Bn.Em e λem e=>nW k1 h em e) (λy y y y y y e=>Ad e) e)
  (λy y y e=>Ad e) (λy y y e=>Ad e) h e
theorem HM.puts{μ:List Addr}{h:Heap}{K:Type}[DecidableEq K] {x:List (K×AV)}{w:List (K×Value)}(q:HM B μ h x w):∀{v₀:List (K×AV)}{w₀:List (K×Value)},HM B μ h v₀ w₀->(w₀.map (λy=>y.1)).Nodup->HM B μ h (It v₀ x) (merged w₀ w):=by
 induction q with
 |nil=>exactλq y=>q
 |@cons a b as bs p _ ih=>
  intro v₀ w₀ q hn;show HM B μ h (It (Ib v₀ a.1 a.2) as) (merged (stored w₀ b.1 b.2) bs);refine Ae p.1 ?_;exact ih (HM.set p.2 q hn) (Oz hn)
theorem Nh{μ:List Addr}{h:Heap}:∀(l:List Str)(t:Nat),Qi B μ h (l.map .str) (strsFrom t l)
 |[],_=> .nil
 |x::l,t=> .cons (.str _ _) (Nh l (t+1))
theorem nY{x y:Str}{t u:Tok}(hy:(y.length==0)=false)(hx:x.length<=sizeLine)(hn:(Gc x y).length<=sizeLine)(k:KE ω Q R)(e:Q (.ref ω.σ.length) (ω.σ++[.list false ((Gc x y).map .str)])):Wp ω A (call (.builtin "str.split") [.str x t,.str y u]) R:=by
 unfold Gc at hn e;by_cases h1:(decide (x.length<y.length)||decide (FG x<FG y))=true
 .rw[if_pos h1]at hn e;exact EG EH (Gg _ _ _) Gw (FT _ _) (meets_str_split_cannot_occur x y t u h1) (k.list (vs:=[MN x t].toArray) (tk:=ω.s.toks) e (.cons (.str _ _) .nil))
 .rw[if_neg h1]at hn e;have h1:=Js.mpr h1;by_cases h2:(Gs x y 0 x.length (x.length+1)).isEmpty=true
  .rw[if_pos h2]at hn e;exact EG EH (Gg _ _ _) Gw (FT _ _) (meets_str_split_not_found x y t u h1 hy h2) (k.list (vs:=[MN x t].toArray) (tk:=ω.s.toks) e (.cons (.str _ _) .nil))
  .rw[if_neg h2]at hn e;exact EG EH (Gg _ _ _) Gw (FT _ _) (meets_str_split_sep x y t u h1 hy (Js.mpr h2) hx hn) (k.list e (by simpa using Nh _ _))
theorem KE.WW(k:KE ω Q R){i:Nat}{l:Addr}{xs ys:List AV}{ws:Array Value}{n m:Nat}{tk:Nat}{h':Heap}(g:ω.σ[i]? =some (.list false xs))(h1:ω.μ[i]? =some l)(hu:h'.get? l=some (JA ws m))(Pt:Fk l ω.s.heap h')(e:Q .none (ω.σ.set i (.list false ys)))(r:GY ω ys ws.toList):R .none {ω.s with heap:=h',toks:=tk}:=
 KS.put (own:=[]) (R:=λs=>R .none s) (Q:=λσ=>Q .none σ) (λω' q l=>k .none .none ω' q l .none) g h1 rfl rfl Pt e λst=> .list hu (r.mono st)
theorem VV{h:Heap}{l:Addr}{o:Obj}(f:Obj->Obj)(e:h.get? l=some o)(hf:(f o).isFreed=false):(h.update l f).get? l=some (f o):=CA f e hf
theorem iQ{i:Nat}{l:Addr}{xs:List AV}{ws:Array Value}{n:Nat}{y:Value}(g:ω.σ[i]? =some (.list false xs))(h1:ω.μ[i]? =some l)(g1:ω.s.heap.get? l=some (JA ws n))(g2:GY ω xs ws.toList)(r:Rp ω v y)(hl:xs.length<=Ce)(k:KE ω Q R)(e:Q .none (ω.σ.set i (.list false (xs++[v])))):Wp ω A (call (.builtin "list.append") [.ref l,y]) R:=
 EG FS ⟨_,g1,rfl⟩ Jd (IX _ _) (Pb l ws n y (by refine Ae g2.size ?_;exact IC hl)) ⟨g1,
  k.WW (n:=n) (tk:=ω.s.toks) g h1 (VV (K4 λx=>x.push y) g1 rfl) (FI ..) e (by refine Ae Pc ?_;exact g2.append (.cons r .nil))⟩
theorem iR{i j:Nat}{l l2:Addr}{xs ys:List AV}{ws us:Array Value}{n m:Nat}{z:Bool}(g:ω.σ[i]? =some (.list false xs))(h1:ω.μ[i]? =some l)(g1:ω.s.heap.get? l=some (JA ws n))(g2:GY ω xs ws.toList)(j1:ω.s.heap.get? l2=some (JA us m))(j2:GY ω ys us.toList)(hl:xs.length+ys.length<=Ce)(k:KE ω Q R)(e:Q .none (ω.σ.set i (.list false (xs++ys)))):
  Wp ω A (call (.builtin "list.extend") [.ref l,.ref l2]) R:=by
 have hz:=ZU g2 j2 hl;refine EG JG ⟨_,g1,rfl⟩ PySem.F.entry_list_extend (PySem.F.args_list_extend_2 _ _) (Mu l ws n l2 us m ?_ (AS (DN _ us.size) hz) (AS hz (Jr _))) ⟨g1,j1,?_⟩
 .unfold Ud;refine Ae (show decide (ws.size+us.size>sizeLine)=false from decide_eq_false (Nat.not_lt.mpr hz)) ?_;simp
 .exact k.WW (n:=n) (tk:=ω.s.toks) g h1 (VV (K4 λx=>x++us) g1 rfl) (FI ..) e (by refine Ae H7 ?_;exact g2.append j2)
theorem iS{i:Nat}{l:Addr}{xs:List AV}{ws:Array Value}{n:Nat}{j:Int}{t:Tok}{y:Value}(g:ω.σ[i]? =some (.list false xs))(h1:ω.μ[i]? =some l)(g1:ω.s.heap.get? l=some (JA ws n))(g2:GY ω xs ws.toList)(r:Rp ω v y)(h0:0<=j)(hj:j<=xs.length)(hl:xs.length<=Ce)(k:KE ω Q R)
  (e:Q .none (ω.σ.set i (.list false (Lc xs j.toNat v)))):Wp ω A (call (.builtin "list.insert") [.ref l,.int j t,y]) R:=by
 have n1:=g2.size;have JM:sizeLine=16777216:=by decide
 refine EG JH ⟨_,g1,rfl⟩ PySem.F.entry_list_insert (PySem.F.args_list_insert_3 _ _ _) (Lm l ws n j t y ?_ (by refine Ae n1 ?_;exact IC hl)) ⟨g1,?_⟩
 .unfold Tw;rw[show decide (-(2^63:Int)<=j)=true from decide_eq_true (Fl (by decide) h0),show decide (j<(2^63:Int))=true from decide_eq_true (IV hj (R2 hl))];simp
 .refine k.WW (n:=n) (tk:=ω.s.toks) g h1 (VV (K4 λxs=>have k:=if j<0 then(j+(xs.size:Int)).toNat else min j.toNat xs.size;(xs.extract 0 k).push y++xs.extract k) g1 rfl) (FI ..) e ?_;have hk:(if j<0 then(j+(ws.size:Int)).toNat else min j.toNat ws.size)=j.toNat:=by
   rw[if_neg (Hf.mpr h0),CW (by rw[n1];exact WM.mpr hj)]
  show GY ω _ ((ws.extract 0 (if j<0 then(j+(ws.size:Int)).toNat else min j.toNat ws.size)).push y++ws.extract (if j<0 then(j+(ws.size:Int)).toNat else min j.toNat ws.size)).toList;refine Ae hk ?_;have:=(g2.take j.toNat).append (.cons r (g2.drop j.toNat));have hd:P7 (ws.size-j.toNat) (List.drop j.toNat ws.toList)=List.drop j.toNat ws.toList:=DG (by simp);simpa[Lc,hd]using this
theorem Xv{K:Type}[DecidableEq K] {xs:List (K×AV)}{DB:List (K×Value)}(k2:HM B ω.μ ω.s.heap xs DB){x:K}{d:AV}{dv:Value}(r:Rp ω d dv):Rp ω ((EP xs x).getD d) ((valueAt DB x).getD dv):=k2.at x (P:=λa b=>Rp ω (a.getD d) (b.getD dv)) (λh h r=>r) r
theorem cY(Z:Bs B){K:Type}[DecidableEq K] {knd:KeyKind B.prog B.w K}{i:Nat}{l:Addr}{xs:List (K×AV)}{DB:List (K×Value)}{x:K}(h1:ω.μ[i]? =some l)(hk:knd.is x va=true)(k1:ω.s.heap.DictOf knd l DB)(k2:HM B ω.μ ω.s.heap xs DB)(r:Rp ω v vv)(k:KE ω Q R)(e:Q ((EP xs x).getD v) ω.σ):Wp ω A (call (.builtin "dict.get") [.ref l,va,vv]) R:=
 K0 ET k1.typeIs K5 (PySem.F.args_dict_get_3 _ _ _) (meets_dict_get_default knd l hk (Jh Z h1) vv) ⟨_,k1.mapOf,k.tok e (Xv k2 r)⟩
theorem wW(Z:Bs B){K:Type}[DecidableEq K] {knd:KeyKind B.prog B.w K}{i:Nat}{l:Addr}{xs:List (K×AV)}{DB:List (K×Value)}{x:K}(h1:ω.μ[i]? =some l)(hk:knd.is x va=true)(k1:ω.s.heap.DictOf knd l DB)(k2:HM B ω.μ ω.s.heap xs DB)(k:KE ω Q R)(e:Q ((EP xs x).getD .none) ω.σ):Wp ω A (call (.builtin "dict.get") [.ref l,va]) R:=
 K0 ET k1.typeIs K5 (PySem.F.args_dict_get_2 _ _) (meets_dict_get knd l hk (Jh Z h1)) ⟨_,k1.mapOf,k.tok e (Xv k2 .none)⟩
theorem wX(Z:Bs B){i:Nat}{l:Addr}{xs:List (Str×AV)}{DB:List (Str×Value)}(h1:ω.μ[i]? =some l)(k1:ω.s.heap.DictOf (strKind B.prog B.w) l DB)(k2:HM B ω.μ ω.s.heap xs DB)(q:GY ω as vs)(e:Ok (QbJ ω.σ xs as) Q)(k:KE ω Q R):Wp ω A (call (.builtin "dict.get") (.ref l::vs)) R:=
 @A2.casesOn _ _ _ (λas vs h=>Ok (QbJ ω.σ xs as) Q->Wp ω A (call (.builtin "dict.get") (.ref l::vs)) R) as vs q (λe=>Ad e) (λ{a va as vs} p q e=>QU.el (G:=λva=>Wp ω A (call (.builtin "dict.get") (.ref l::va::vs)) R) p e λx t e=>
  @A2.casesOn _ _ _ (λas vs h=>Ok (mJ ω.σ xs x as) Q->Wp ω A (call (.builtin "dict.get") (.ref l:: .str x t::vs)) R) as vs q (λe=>wW Z h1 (Fb B.prog B.w x t) k1 k2 k e)
   (λ{d dv as vs} r q e=>@A2.casesOn _ _ _ (λas vs h=>Ok (mJ ω.σ xs x (d::as)) Q->Wp ω A (call (.builtin "dict.get") (.ref l:: .str x t::dv::vs)) R) as vs q (λe=>cY Z h1 (Fb B.prog B.w x t) k1 k2 r k e) (λh h e=>Ad e) e) e) e
theorem iT(Z:Bs B){i j:Nat}{l l2:Addr}{xs ys:List (Str×AV)}{DB dvs:List (Str×Value)}(g:ω.σ[i]? =some (.sd false xs))(h1:ω.μ[i]? =some l)(k1:ω.s.heap.DictOf (strKind B.prog B.w) l DB)(k2:HM B ω.μ ω.s.heap xs DB)(h2:ω.μ[j]? =some l2)(j1:ω.s.heap.DictOf (strKind B.prog B.w) l2 dvs)(j2:HM B ω.μ ω.s.heap ys dvs)
  (Pr:i≠j) (hl:xs.length+ys.length<=Ce) (k:KE ω Q R) (e:Q .none (ω.σ.set i (.sd false (It xs ys)))):Wp ω A (call (.builtin "dict.update") [.ref l,.ref l2]) R:=
 K0 JI k1.typeIs PySem.F.entry_dict_update (PySem.F.args_dict_update_2 _ _) (meets_dict_update (strKind B.prog B.w) l l2 (Xl h1 h2 Pr) (Jh Z h2)) ⟨_,_,k1,j1,by refine Ae k2.length (Ae j2.length ?_);exact IC hl,λh' d1 d2 Pt=>
  KS.put (own:=[]) (Q:=λσ=>Q .none σ) (R:=λs=>R .none s) (λω' q l=>k .none .none ω' q l .none) g h1 rfl rfl Pt e λst=> .sd d1 ((j2.mono st).puts (k2.mono st) (Kk k1))⟩
theorem nZ(Z:Bs B)(m:Meth)(p:Rp ω a va)(q:GY ω as vs)(e:Ok (Lg ω.σ m a as) Q)(k:KE ω Q R):Wp ω A (call (.builtin (NO m)) (va::vs)) R:=by
 cases m with
 |append=>exact MP.el p e λi l h1 e=>FA h1 e λz xs ws n g g1 g2 e=>one.el q e λv y r e=>Bn.Em e λc e=>iQ (c.1▸g) h1 g1 g2 r c.2 k e
 |extend=>exact MP.el p e λi l h1 e=>FA h1 e λz xs ws n g g1 g2 e=>one.el q e λv y r e=>MP.el r e λj l2 h2 e=>FA h2 e λh ys us m h j1 j2 e=>Bn.Em e λc e=>iR (i:=i) (j:=j) (z:=z) (c.1▸g) h1 g1 g2 j1 j2 c.2.2 k e
 |insert=>exact MP.el p e λi l h1 e=>FA h1 e λz xs ws n g g1 g2 e=>two.el q e λb vb v y q r e=>GV.el q e λj t e=>Bn.Em e λc e=>iS (c.1▸g) h1 g1 g2 r c.2.1 c.2.2.1 c.2.2.2 k e
 |get=>exact MP.el p e λi l h1 e=>Oy (fl:=λh h=>none) (fi:=λh=>none) h1 (λh h h h h h h e=>Ad e) (λh h h h k1 k2 e=>wX Z h1 k1 k2 q e k) (λh h h h k1 k2 e=>two.el q e λb vb v y q r e=>GV.el q e λx t e=>cY Z h1 (Hj B.prog B.w x t) k1 k2 r k e) (λh h h h h h e=>Ad e) e
 |update=>exact MP.el p e λi l h1 e=>R0 h1 e λz xs DB g k1 k2 e=>one.el q e λv y r e=>MP.el r e λj l2 h2 e=>R0 h2 e λh ys dvs h j1 j2 e=>Bn.Em e λc e=>iT Z (c.1▸g) h1 k1 k2 h2 j1 j2 c.2.1 c.2.2 k e
 |split=>exact QU.el p e λx t e=>one.el q e λv y r e=>QU.el r e λy u e=>Bn.Em e λc e=>nY (beq_eq_false_iff_ne.mpr c.1) (AS c.2.1 (by decide)) (AS c.2.2 (by decide)) k e
end
end
def Ik(h h':Heap)(a:Addr):Prop:=(∃o es ep,h.get? a=some o/\o.data= .dict es ep)->∃o es ep,h'.get? a=some o/\o.data= .dict es ep
section
variable{B:Wd}{fs:List Env}{ω ω':Wl B fs}{own:List Addr}{a:Addr}{h h':Heap}{tk:Nat}
theorem ID(ht:Fz ω.s.heap a)(hk:∀b o,b≠a->ω.s.heap.get? b=some o->h'.get? b=some o):NM ω.μ ω.μ ω.s.heap h':=⟨λx x e=>e,λb vs n e=>hk b _ (λe'=>ht _ vs n (e'▸e) rfl rfl) e⟩
noncomputable def Wl.mut(ω:Wl B fs)(a:Addr)(h':Heap)(tk:Nat)(hm:a∉ω.μ)(hb:B.h₀.get? a=none)(ht:Fz ω.s.heap a)(hd:a∈Fu fs->Ik ω.s.heap h' a)(hk:∀b o,b≠a->ω.s.heap.get? b=some o->h'.get? b=some o):Wl B fs:=
 ⟨ω.σ,ω.μ,{ω.s with heap:=h',toks:=tk},⟨ω.inv.len,ω.inv.nd,λi o b h1 h2=>(ω.inv.obj i o b h1 h2).mono (ID ht hk) λob e=>hk b ob (λe'=>hm (e'▸BR h2)) e,
  λb o e=>hk b o (λe'=>by rw[e',hb]at e;cases e) (ω.inv.base b o e),ω.inv.fresh,λb hbf=>⟨(ω.inv.W5 b hbf).1,(ω.inv.W5 b hbf).2.1,by
   obtain⟨_,_,o,es,ep,h3,h4⟩:=ω.inv.W5 b hbf;by_cases Zn:b=a
   .subst Zn;exact hd hbf ⟨o,es,ep,h3,h4⟩
   .exact⟨o,es,ep,hk _ _ Zn h3,h4⟩⟩⟩⟩
theorem Le.mut{hm:a∉ω.μ}{hb:B.h₀.get? a=none}{ht:Fz ω.s.heap a}{hd:a∈Fu fs->Ik ω.s.heap h' a}{hk:∀b o,b≠a->ω.s.heap.get? b=some o->h'.get? b=some o}(ha:a∈own):Le own ω (ω.mut a h' tk hm hb ht hd hk):=
 ⟨λx x e=>e,λx e=> .inl e,λb o x hb x e=>hk b o (λe'=>hb (e'▸ha)) e,λb o x hb e=>⟨o.slots,hk b o (λe'=>hb (e'▸ha)) e⟩,λx x x=>rfl,λb o hb e=>⟨o,hk b o (λe'=>hb (e'▸ha)) e⟩,⟨_,_,rfl⟩⟩
theorem Gd{o:Obj}(e:h.get? a=some o)(hd:∀vs n,o.data≠ .seq vs n):Fz h a:=λo' vs n e' d=>by rw[e]at e';cases e';exact absurd d (hd vs n)
theorem Qr{v:Option Value}(x:h.IsCell a v):Fz h a:=x.elim λo x=>Gd x.1 λy y e=>by rw[x.2]at e;cases e
theorem Hb{m:Str->Option Value}(y:h.Ns a m):∃o es ep,h.get? a=some o/\o.data= .dict es ep:=y.elim λo y=>y.elim λes y=>y.elim λep y=>⟨o,es,ep,y.1,y.2.1⟩
theorem Gn{m:Str->Option Value}(y:h.Ns a m):Fz h a:=(Hb y).elim λo y=>y.elim λes y=>y.elim λep y=>Gd y.1 λx x e=>by rw[y.2]at e;cases e
theorem Xw{v:Option Value}(x:h.IsCell a v):Ik h h' a:=λ⟨o,es,ep,e,e'⟩=>x.elim λo' x=>by rw[x.1]at e;cases e;rw[x.2]at e';cases e'
theorem cZ{m:Str->Option Value}(y:h.Ns a m)(e:∀o,h.get? a=some o->∃sl,h'.get? a=some {o with slots:=sl}):h'.Ns a m:=by
 obtain⟨o',es,ep,ho',r⟩:=y;obtain⟨sl,e'⟩:=e _ ho';exact⟨_,es,ep,e',r⟩
theorem wY{v:Option Value}(x:h.IsCell a v)(e:∀o,h.get? a=some o->∃sl,h'.get? a=some {o with slots:=sl}):h'.IsCell a v:=by
 obtain⟨o,ho,hd⟩:=x;obtain⟨sl,e'⟩:=e o ho;exact⟨_,e',hd⟩
theorem wZ{v:Option Value}(x:ω.s.heap.IsCell a v):a∉ω.μ:=λhm=>by
 obtain⟨o,ho,hd⟩:=x;obtain⟨o',e,q⟩:=ω.iA hm;rw[ho]at e;cases e;rcases q with⟨_,_,_,q⟩|⟨_,_,_,q⟩|q<;>(rw[hd]at q;cases q)
end
theorem DC(l:List (Str×NameKind))(x:Str):BJ l x=l.lookup x:=by
 induction l with
 |nil=>rfl
 |cons p r ih=>
  obtain⟨y,k⟩:=p;show(if y=x then some k else BJ r x)=_;refine Ae C7 (Ae ih ?_);by_cases h:y=x
  .exact Ae (if_pos h) (Ae (beq_iff_eq.mpr h.symm) rfl)
  .exact Ae (if_neg h) (Ae (beq_eq_false_iff_ne.mpr (BV h)) rfl)
theorem PI{l:List (Str×NameKind)}{x:Str}{k:NameKind}(h:BJ l x=some k):(x,k)∈l:=mem_of_lookup (DC l x▸h)
theorem Di.name{sc:Scope}(o:Di sc=true){x:Str}{k:NameKind}(h:BJ sc.names x=some k):(x==("__debug__":Str))=false/\(x==("__classdict__":Str))=false:=by
 have:=Az.mp (Aq.mp o).2 _ (PI h);have:=Aq.mp this;exact⟨beq_eq_false_iff_ne.mpr (bne_iff_ne.mp this.1),beq_eq_false_iff_ne.mpr (bne_iff_ne.mp this.2)⟩
def QV(h:Heap)(env:Env)(m:Str->Option Value)(x:Str)(c:Value):Prop:=
 (env.kindOf x=some .local/\m x=some c)\/((env.kindOf x=some .cell\/env.kindOf x=some .free)/\∃a,env.cells.lookup x=some a/\h.IsCell a (some c)/\a≠env.locals)
structure QbV(sc:Scope)(env:Env):Prop where
 ok:Di sc=true
 kind:env.scope.kind= .function
 glob:env.globals=mainGlobals
 blt:env.builtins=builtinsNs
 names:∀x k,BJ sc.names x=some k->k≠ .free->env.kindOf x=some k
 apart:∀x y c,env.cells.lookup x=some c->env.cells.lookup y=some c->x=y
structure Dq{B:Wd}{fs:List Env}(ω:Wl B fs)(a:Addr):Prop where
 mu:a∉ω.μ
 base:B.h₀.get? a=none
 nt:Fz ω.s.heap a
 live:∃o,ω.s.heap.get? a=some o
structure Bf{B:Wd}{fs:List Env}(sc:Scope)(ω:Wl B fs)(env:Env)(own:List Addr)(fr:Fm):Prop where
 MC:QbV sc env
 loc:env.locals∈own
 cell:∀x,BJ sc.names x=some .cell->∃c v,env.cells.lookup x=some c/\c∈own/\c≠env.locals/\ω.s.heap.IsCell c v
 val:∃m,ω.s.heap.Ns env.locals m/\∀x v,Dj fr x=some v->(∃k,BJ sc.names x=some k)/\∃c,Rp ω v c/\QV ω.s.heap env m x c
 own:∀a∈own,Dq ω a
section
variable{B:Wd}{fs:List Env}{ω ω':Wl B fs}{sc:Scope}{env:Env}{own own':List Addr}{fr fr':Fm}{A:Around}
theorem QV.at{h h':Heap}{m:Str->Option Value}{x:Str}{c:Value}(hc:∀a v,h.IsCell a v->h'.IsCell a v)(q:QV h env m x c):QV h' env m x c:=q.imp id λq=>⟨q.1,q.2.elim λa q=>⟨a,q.1,hc _ _ q.2.1,q.2.2⟩⟩
theorem Bf.to(F:Bf sc ω env own fr)(st:NM ω.μ ω'.μ ω.s.heap ω'.s.heap)(hl:∀o,ω.s.heap.get? env.locals=some o->∃sl,ω'.s.heap.get? env.locals=some {o with slots:=sl})(hc:∀a v,ω.s.heap.IsCell a v->ω'.s.heap.IsCell a v)(ho:∀a∈own,Dq ω' a):Bf sc ω' env own fr:=
 ⟨F.MC,F.loc,λy hy=>(F.cell y hy).elim λc q=>q.elim λv q=>⟨c,v,q.1,q.2.1,q.2.2.1,hc _ _ q.2.2.2⟩,
  F.val.elim λm q=>⟨m,cZ q.1 hl,λy v hy=>⟨(q.2 y v hy).1,(q.2 y v hy).2.elim λc r=>⟨c,r.1.mono st,r.2.at hc⟩⟩⟩,ho⟩
theorem Bf.step(F:Bf sc ω env own fr)(x:Le [] ω ω'):Bf sc ω' env own fr:=
 have hk:∀a,a∉ω.μ->∀o,ω.s.heap.get? a=some o->∃sl,ω'.s.heap.get? a=some {o with slots:=sl}:=λa ha o e=>x.WV a o (λhw=>ha hw.mem) AU e
 F.to x.bX (hk _ (F.own _ F.loc).mu) (λa v q=>wY q (hk a (wZ q))) λa ha=>
  have q:=F.own a ha
  q.live.elim λo e=>(hk a q.mu o e).elim λsl e'=>⟨λhm=>(x.new a hm).elim q.mu λh=>(Ay _ (e.symm.trans h.1)).elim,q.base,(λo2 vs n e2=>by rw[e']at e2;cases e2;exact q.nt o vs n e),_,e'⟩
theorem Bf.other(F:Bf sc ω env own fr){a:Addr}(Gk:a≠env.locals)(hnc:∀v,¬ω.s.heap.IsCell a v)(hmu:ω'.μ=ω.μ)(ht:Fz ω.s.heap a)
  (hk:∀b o,b≠a->ω.s.heap.get? b=some o->ω'.s.heap.get? b=some o) (hal:∃o,ω'.s.heap.get? a=some o) (hnt:Fz ω'.s.heap a):Bf sc ω' env own fr:=
 F.to ⟨λh h e=>hmu▸e,λb vs n e=>hk b _ (λe'=>ht _ vs n (e'▸e) rfl rfl) e⟩ (λo e=>⟨o.slots,hk _ o (BV Gk) e⟩) (λb v x=>x.elim λo x=>⟨o,hk b o (λe=>hnc v (e▸⟨o,x⟩)) x.1,x.2⟩) λb hb=>by
  have q:=F.own b hb;by_cases Zn:b=a
  .subst Zn;exact⟨hmu▸q.mu,q.base,hnt,hal⟩
  .exact q.live.elim λo e=>⟨hmu▸q.mu,q.base,(λo2 vs n e2=>by rw[hk b o Zn e]at e2;cases e2;exact q.nt o vs n e),o,hk b o Zn e⟩
theorem Bf.more(F:Bf sc ω env own fr){a:Addr}(q:Dq ω a):Bf sc ω env (a::own) fr:=
 ⟨F.MC,.tail _ F.loc,λy hy=>(F.cell y hy).elim λc q=>q.elim λv q=>⟨c,v,q.1,.tail _ q.2.1,q.2.2⟩,F.val,AZ.mpr ⟨q,F.own⟩⟩
theorem Bf.less(F:Bf sc ω env own' fr)(hs:∀a∈own,a∈own')(hl:env.locals∈own)(hc:∀x c,BJ sc.names x=some .cell->env.cells.lookup x=some c->c∈own):Bf sc ω env own fr:=
 ⟨F.MC,hl,λy hy=>(F.cell y hy).elim λc q=>q.elim λv q=>⟨c,v,q.1,hc y c hy q.1,q.2.2⟩,F.val,λb hb=>F.own b (hs b hb)⟩
theorem Bf.weak(F:Bf sc ω env own fr)(h:∀x v,Dj fr' x=some v->Dj fr x=some v):Bf sc ω env own fr':=⟨F.MC,F.loc,F.cell,F.val.elim λm q=>⟨m,q.1,λx v e=>q.2 x v (h x v e)⟩,F.own⟩
theorem Gy(p:Str×AV)(r:Fm)(x:Str):Dj (p::r) x=if p.1=x then some p.2 else Dj r x:=rfl
theorem iU{w₀ w:Fm}:∀x v,Dj (E0 w₀ w) x=some v->Dj w x=some v:=by
 induction w₀ with
 |nil=>exactλa a e=>nomatch e
 |cons p r ih=>
  intro x v e;have hd:E0 (p::r) w=AH (motive:=λa=>Fm) (Dj w p.1) (E0 r w) λv=>(p.1,v)::E0 r w:=rfl;rw[hd]at e;cases hp:Dj w p.1 with
  |none=>rw[hp]at e;exact ih x v e
  |some u=>
   rw[hp]at e;replace e:(if p.1=x then some u else Dj (E0 r w) x)=some v:=e;by_cases hx:p.1=x
   .rw[if_pos hx]at e;refine CV hx (Ae hp ?_);exact e
   .rw[if_neg hx]at e;exact ih x v e
theorem Bf.E0(F:Bf sc ω env own fr)(w₀:Fm):Bf sc ω env own (Mine.E0 w₀ fr):=F.weak iU
theorem Bf.name:∀{B:Wd}{fs:List Env}{sc:Scope}{env:Env}{own:List Addr}{fr:Fm}{A:Around}{Q E:Value->Shared->Prop}{x:Str}{v:AV}{ω:Wl B fs}(F:Bf sc ω env own fr)(e:Dj fr x=some v)(h:∀c,Rp ω v c->Q c ω.s),wpAny (model B.prog B.w) A (loadName env x) Q E ω.s:=by
 refine@(Fd DO nL Kb NF nL nL ?_);generalize E2 .. =z;generalize z.1=B,z.2.1=fs,z.2.2.1=sc,z.2.2.2.1=env,z.2.2.2.2.1=own,z.2.2.2.2.2=fr;refine@(I8 Ja nQ nQ A8 W2 ?_);generalize Ke .. =z;generalize z.1=A,z.2.1=Q,z.2.2.1=E,z.2.2.2.1=x,z.2.2.2.2=v;intro ω F e h;obtain⟨m,hm,hv⟩:=F.val;obtain⟨⟨k,hk⟩,c,h1,h2⟩:=hv x v e;rcases h2 with⟨h2,h3⟩|⟨h2,a,h3,h4,_⟩
 .exact HF F.MC.kind h2 hm h3 (h c h1)
 .rcases h2 with h2|h2
  .exact wpAny_loadName_cell F.MC.kind h2 h3 h4 (h c h1)
  .exact wpAny_loadName_free F.MC.kind h2 h3 h4 (h c h1) (Di.name F.MC.ok hk).2
theorem iV{fr:Fm}{x y:Str}{v:AV}:Dj (Kf fr x v) y=if x=y then some v else Dj fr y:=by
 induction fr with
 |nil=>rfl
 |cons p r ih=>
  have hd:Kf (p::r) x v=if p.1=x then(p.1,v)::r else p::Kf r x v:=rfl
  refine Ae hd ?_;by_cases hz:p.1=x
  .refine Ae (if_pos hz) (Ae (Gy ..) (Ae (Gy ..) (Ae hz ?_)));by_cases h:x=y
   .exact Ae (if_pos h) (Ae (if_pos h) rfl)
   .exact Ae (if_neg h) (Ae (if_neg h) (Ae (if_neg h) rfl))
  .refine Ae (if_neg hz) (Ae (Gy ..) (Ae (Gy ..) (Ae ih ?_)));by_cases h:p.1=y
   .exact Ae (if_pos h) (Ae (if_pos h) (Ae (if_neg λe=>hz (h.trans e.symm)) rfl))
   .exact Ae (if_neg h) (Ae (if_neg h) rfl)
theorem Bf.put:∀{B:Wd}{fs:List Env}{sc:Scope}{env:Env}{own:List Addr}{fr:Fm}{x:Str}{v:AV}{c:Value}{a:Addr}{m m':Str->Option Value}{ω ω':Wl B fs}(F:Bf sc ω env own fr)(hx:∃k,BJ sc.names x=some k)(r:Rp ω v c)(hmu:ω'.μ=ω.μ)(st:NM ω.μ ω.μ ω.s.heap ω'.s.heap)(Nb:ω'.s.heap.Ns env.locals m')(hc:∀b v,ω.s.heap.IsCell b v->∃v',ω'.s.heap.IsCell b v')(lC:QV ω'.s.heap env m' x c)(GA:∀y c,x≠y->QV ω.s.heap env m y c->QV ω'.s.heap env m' y c)(hk:∀b o,b≠a->ω.s.heap.get? b=some o->ω'.s.heap.get? b=some o)(ha:Fz ω'.s.heap a/\∃o,ω'.s.heap.get? a=some o)(hv:∀x v,Dj fr x=some v->(∃k,BJ sc.names x=some k)/\∃c,Rp ω v c/\QV ω.s.heap env m x c),Bf sc ω' env own (Kf fr x v):=by
 refine@(Fd DO nL Kb NF nL nL ?_);generalize E2 .. =z;generalize z.1=B,z.2.1=fs,z.2.2.1=sc,z.2.2.2.1=env,z.2.2.2.2.1=own,z.2.2.2.2.2=fr;refine@(Fd A8 W2 Os nN Vn Vn ?_);generalize E2 .. =z;generalize z.1=x,z.2.1=v,z.2.2.1=c,z.2.2.2.1=a,z.2.2.2.2.1=m,z.2.2.2.2.2=m';intro ω ω' F hx r hmu st Nb hc lC GA hk ha hv;have st':NM ω.μ ω'.μ ω.s.heap ω'.s.heap:=hmu.symm▸st;refine⟨F.MC,F.loc,λy hy=>?_,⟨m',Nb,λy w hy=>?_⟩,λb hb=>?_⟩
 .obtain⟨b,v,h1,h2,h3,h4⟩:=F.cell y hy;exact(hc b v h4).elim λv' h=>⟨b,v',h1,h2,h3,h⟩
 .rw[iV]at hy;by_cases ZC:x=y
  .rw[if_pos ZC]at hy;cases hy;subst ZC;exact⟨hx,c,r.mono st',lC⟩
  .rw[if_neg ZC]at hy;exact⟨(hv y w hy).1,(hv y w hy).2.elim λc q=>⟨c,q.1.mono st',GA y c ZC q.2⟩⟩
 .have q:=F.own b hb;by_cases Zn:b=a
  .subst Zn;exact⟨hmu▸q.mu,q.base,ha.1,ha.2⟩
  .exact q.live.elim λo e=>⟨hmu▸q.mu,q.base,(λo2 vs n e2=>by rw[hk b o Zn e]at e2;cases e2;exact q.nt o vs n e),o,hk b o Zn e⟩
theorem Bf.store:∀{B:Wd}{fs:List Env}{sc:Scope}{env:Env}{own:List Addr}{fr:Fm}{A:Around}{Q:Unit->Shared->Prop}{E:Value->Shared->Prop}{x:Str}{v:AV}{c:Value}{ω:Wl B fs}(F:Bf sc ω env own fr)(hx:BJ sc.names x=some .local\/BJ sc.names x=some .cell)(r:Rp ω v c)(h:∀ω':Wl B fs,ω'.σ=ω.σ->Le own ω ω'->Bf sc ω' env own (Kf fr x v)->Q () ω'.s),wpAny (model B.prog B.w) A (storeName env x c) Q E ω.s:=by
 refine@(Fd DO nL Kb NF nL nL ?_);generalize E2 .. =u;generalize u.1=B,u.2.1=fs,u.2.2.1=sc,u.2.2.2.1=env,u.2.2.2.2.1=own,u.2.2.2.2.2=fr;refine@(Fd Ja nQ nQ A8 W2 Os ?_);generalize E2 .. =u;generalize u.1=A,u.2.1=Q,u.2.2.1=E,u.2.2.2.1=x,u.2.2.2.2.1=v,u.2.2.2.2.2=c;intro ω F hx r h;have hp:(env.scope.kind== .class||(env.scope.kind== .module&&env.locals != env.globals))=false:=by refine Ae F.MC.kind ?_;rfl
 obtain⟨m,hm,hv⟩:=F.val;rcases hx with hx|hx
 .have hl:env.kindOf x=some .local:=F.MC.names x _ hx (by decide);refine Ly hl hm (λh' bY hs'=>?_) hp;have hk:∀b o,b≠env.locals->ω.s.heap.get? b=some o->h'.get? b=some o:=λb o hb e=>(hs'.2 b hb).trans e;have q:=F.own _ F.loc;have hc:∀b v,ω.s.heap.IsCell b v->h'.IsCell b v:=λb v y=>y.elim λo z=>⟨o,hk b o (λe=>by
   subst e;obtain⟨o',es,ep,e1,e2⟩:=Hb hm;rw[z.1]at e1;cases e1;rw[z.2]at e2;cases e2) z.1,z.2⟩
  refine h (ω.mut _ h' _ q.mu q.base q.nt (λd d=>Hb bY) hk) rfl (.mut F.loc) (F.put (a:=env.locals) ⟨_,hx⟩ r rfl (ID q.nt hk) bY (λb v y=>⟨v,hc b v y⟩) (.inl ⟨hl,if_pos rfl⟩) (λy c ZC z=>?_) hk ⟨Gn bY,(Hb bY).elim λo y=>y.elim λd y=>y.elim λd y=>⟨o,y.1⟩⟩ hv);exact z.imp (λz=>⟨z.1,(if_neg (BV ZC)).trans z.2⟩) λz=>⟨z.1,z.2.elim λa z=>⟨a,z.1,hc _ _ z.2.1,z.2.2⟩⟩
 .have hl:env.kindOf x=some .cell:=F.MC.names x _ hx (by decide);obtain⟨cx,v₀,k1,k2,k3,k4⟩:=F.cell x hx;refine wpAny_storeName_cell F.MC.kind hl k1 k4 (λh' bY hs'=>?_);have hk:∀b o,b≠cx->ω.s.heap.get? b=some o->h'.get? b=some o:=λb o hb e=>(hs'.2 b hb).trans e;have q:=F.own _ k2;have hc:∀b v,b≠cx->ω.s.heap.IsCell b v->h'.IsCell b v:=λb v hb y=>y.elim λo z=>⟨o,hk b o hb z.1,z.2⟩
  refine h (ω.mut cx h' ω.s.toks q.mu q.base q.nt (λd=>Xw k4) hk) rfl (.mut k2) (F.put (a:=cx) ⟨_,hx⟩ r rfl (ID q.nt hk) (cZ hm λo e=>⟨o.slots,hk _ o (BV k3) e⟩) (λb v y=>?_) (.inr ⟨.inl hl,cx,k1,bY,k3⟩) (λy c ZC z=>?_) hk ⟨Qr bY,bY.elim λo y=>⟨o,y.1⟩⟩ hv)
  .by_cases hb:b=cx
   .subst hb;exact⟨_,bY⟩
   .exact⟨v,hc b v hb y⟩
  .exact z.imp id λz=>⟨z.1,z.2.elim λa z=>⟨a,z.1,hc _ _ (λe=>ZC (F.MC.apart x y cx k1 (e▸z.1))) z.2.1,z.2.2⟩⟩
end
noncomputable def R5:List String:=["enumerate","zip","dict_itemiterator","dict_reverseitemiterator","odict_iterator","itertools.zip_longest","itertools.pairwise"]
structure Ia(h:Heap)(J:Addr):Prop where
 is:∃o nm vs,h.get? J=some o/\o.cls= .type nm/\nm∉R5/\o.data= .fields vs
section
variable{B:Wd}{fs:List Env}{ω ω' ω'' ω₃:Wl B fs}{own W:List Addr}{A:Around}{a:AV}{va:Value}{h h':Heap}{J b:Addr}
theorem Ia.mk'{o:Obj}{nm:String}{vs:Array Value}(h1:h.get? J=some o)(h2:o.cls= .type nm)(h3:nm∉R5)(h4:o.data= .fields vs):Ia h J:=⟨⟨o,nm,vs,h1,h2,h3,h4⟩⟩
theorem Ia.bZ(x:Ia h J):Fz h J:=x.is.elim λo x=>x.elim λnm x=>x.elim λvs x=>Gd x.1 λa a e=>by rw[x.2.2.2]at e;cases e
theorem Ia.alive(x:Ia h J):∃o,h.get? J=some o:=x.is.elim λo x=>x.elim λnm x=>x.elim λvs x=>⟨o,x.1⟩
theorem Ia.noDict(x:Ia h J):¬∃o es ep,h.get? J=some o/\o.data= .dict es ep:=λ⟨o',es,ep,e,e'⟩=>x.is.elim λo x=>x.elim λnm x=>x.elim λvs x=>by rw[x.1]at e;cases e;rw[x.2.2.2]at e';cases e'
theorem Ia.zP(x:Ia h J)(v:Option Value):¬h.IsCell J v:=λ⟨o,h1,h2⟩=>x.is.elim λo x=>x.elim λnm x=>x.elim λvs x=>by rw[h1]at x;cases x.1;rw[x.2.2.2]at h2;cases h2
def Fix(ω:Wl B fs)(b:Addr):Prop:=(∃vs n,ω.s.heap.get? b=some (Lu vs n))\/∃i:Nat,ω.μ[i]? =some b/\HP ω.σ i=true/\∃o,ω.s.heap.get? b=some o
theorem Fix.keep(x:Le W ω ω')(hW:∀a∈W,Dq ω a)(f:Fix ω b):∀o,ω.s.heap.get? b=some o->ω'.s.heap.get? b=some o:=by
 intro o e;rcases f with⟨vs,n,e'⟩|⟨i,h1,h2,_⟩
 .exact x.keep b o (Qaf e' VO) (λhm=>(hW b hm).nt _ vs n e' rfl rfl) (Xk e' λh h e=>nomatch e) e
 .refine x.keep b o (λ⟨j,hj,hf⟩=>?_) (λhm=>(hW b hm).mu (BR h1)) (Qag (BR h1)) e;have Pr:i=j:=(Jo (Gm h1) ω.inv.nd).mp (h1.trans hj.symm);subst Pr;rw[h2]at hf;cases hf
theorem Fix.step(x:Le W ω ω')(hW:∀a∈W,Dq ω a)(f:Fix ω b):Fix ω' b:=by
 have k:=f.keep x hW;rcases f with⟨vs,n,e⟩|⟨i,h1,h2,o,e⟩
 .exact .inl ⟨vs,n,k _ e⟩
 .exact .inr ⟨i,x.mu i b h1,(x.flag i b h1).trans h2,o,k _ e⟩
theorem Dq.step(x:Le W ω ω')(q:Dq ω b)(ht:Fz ω'.s.heap b)(hl:∃o,ω'.s.heap.get? b=some o):Dq ω' b:=
 ⟨λhm=>(x.new b hm).elim q.mu λh=>q.live.elim λo e=>Ay _ (e.symm.trans h.1),q.base,ht,hl⟩
structure Zo(A:Around)(ω:Wl B fs)(xs:List AV)(J:Addr)(fp:List Addr)(P:Nat->Value->Prop)(St:Nat->Heap->Prop):Prop where
 walks:Walks B.prog B.w A J fp [J] xs.length P St
 obj:∀i h,St i h->Ia h J
 fix:∀b∈fp,b≠J->Fix ω b
 rep:∀(i:Nat)x c,xs[i]? =some x->P i c->Rp ω x c
variable{xs:List AV}{fp:List Addr}{P:Nat->Value->Prop}{LF:Nat->Heap->Prop}
theorem Zo.step(G:Zo A ω xs J fp P LF)(x:Le W ω ω')(hW:∀a∈W,Dq ω a):Zo A ω' xs J fp P LF:=
 ⟨G.walks,G.obj,λb hb hj=>(G.fix b hb hj).step x hW,λi y c e p=>(G.rep i y c e p).mono (x.TL λa ha=>(hW a ha).nt)⟩
theorem Zo.bX(G:Zo A ω xs J fp P LF)(x:Le W ω ω')(hW:∀a∈W,Dq ω a)(hJ:∀o,ω.s.heap.get? J=some o->ω'.s.heap.get? J=some o){i:Nat}(st:LF i ω.s.heap):LF i ω'.s.heap:=
 G.walks.frame _ _ _ st λb hb o e=>by
  by_cases hj:b=J
  .subst hj;exact hJ o e
  .exact(G.fix b hb hj).keep x hW o e
theorem OA{σ:St}{i j:Nat}{b:Bool}:HP (σ.modify i (AO.El b)) j=if i=j then AH σ[j]? true λo=>(o.El b).fz else HP σ j:=by
 unfold HP;refine Ae (B4 ..) ?_;by_cases Pr:i=j
 .refine Ae (if_pos Pr) ?_;cases σ[j]? <;>simp[Pr]
 .refine Ae (if_neg Pr) ?_;cases σ[j]? <;>simp[Pr]
noncomputable def Wl.El(ω:Wl B fs)(b:Bool)(hd:Option Nat):Wl B fs:=⟨G9 b ω.σ hd,ω.μ,ω.s,by
 cases hd with
 |none=>exact ω.inv
 |some i=>
  refine⟨by show _=(ω.σ.modify i (AO.El b)).length;refine Ae (Gh ..) ?_;exact ω.inv.len,ω.inv.nd,λj o a h1 h2=>?_,ω.inv.base,ω.inv.fresh,ω.inv.W5⟩;replace h1:(ω.σ.modify i (AO.El b))[j]? =some o:=h1;rw[B4]at h1;obtain⟨o',e1,e2⟩:=DF.mp h1;have q:=ω.inv.obj j o' a e1 h2;by_cases Pr:i=j
  .rw[if_pos Pr]at e2;exact e2▸q.El
  .rw[if_neg Pr]at e2;exact e2▸q⟩
structure JL(ω ω':Wl B fs)(hd:Option Nat)(J:Addr):Prop where
 σ:ω'.σ=GA ω.σ hd
 μ:ω'.μ=ω.μ
 keep:∀b o,ω.s.heap.get? b=some o->ω'.s.heap.get? b=some o
 same:∃h tk,ω'.s={ω.s with heap:=h,toks:=tk}
 new:ω.s.heap.get? J=none
 own:Dq ω' J
 hd:∀i,hd=some i->∃o,ω.σ[i]? =some o/\(∀b,(o.El b).fz=b)/\∀d,o≠ .inst d
theorem w6{hd:Option Nat}(H:∀i,hd=some i->∃o,ω.σ[i]? =some o/\(∀b,(o.El b).fz=b)/\∀d,o≠ .inst d){j:Nat}(h:HP (GA ω.σ hd) j=false):HP ω.σ j=false:=by
 cases hd with
 |none=>exact h
 |some i=>
  replace h:HP (ω.σ.modify i (AO.El true)) j=false:=h;rw[OA]at h;by_cases Pr:i=j
  .subst Pr;obtain⟨o,e,hf,_⟩:=H i rfl;rw[if_pos rfl,e]at h;exact absurd ((hf true).symm.trans h) Br
  .rw[if_neg Pr]at h;exact h
theorem JL.wr{hd:Option Nat}(H:JL ω ω' hd J):¬Wr ω b->¬Wr ω' b:=λhb ⟨j,hj,hf⟩=>hb ⟨j,H.μ▸hj,w6 H.hd (H.σ▸hf)⟩
theorem QbW:∀{B:Wd}{h h':Heap}{b:Addr}{μ μ':List Addr}{d:Nat}{o:AO}(q:Ij B μ h o b)(q':Ij B μ' h' (.inst d) b)(hn:∀d,o≠ .inst d)(k:∀ob,h.get? b=some ob->h'.get? b=some ob),False:=by
 refine@(Hp DO nH nH nN nL nL nN ?_);generalize GE .. =c;generalize c.1=B,c.2.1=h,c.2.2.1=h',c.2.2.2.1=b,c.2.2.2.2.1=μ,c.2.2.2.2.2.1=μ',c.2.2.2.2.2.2=d;intro o q q' hn k;cases q' with
 |inst e _=>
  cases q with
  |list h1 _=>have:=k _ h1;rw[e]at this;cases this
  |sd h1 _=>obtain⟨ob,es,ep,h1,_,h2⟩:=Fh h1;have:=k _ h1;rw[e]at this;cases this;cases h2
  |RH h1 _=>obtain⟨ob,es,ep,h1,_,h2⟩:=Fh h1;have:=k _ h1;rw[e]at this;cases this;cases h2
  |inst _ _=>exact hn _ rfl
theorem JL.fix{i:Nat}(H:JL ω ω' (some i) J){a:Addr}(e:ω.μ[i]? =some a):Fix ω' a:=by
 obtain⟨o,eo,hf,_⟩:=H.hd i rfl;obtain⟨ob,e1,_⟩:=(ω.inv.obj i o a eo e).iA;refine .inr ⟨i,H.μ▸e,?_,ob,H.keep a ob e1⟩;refine Ae (H.σ) ?_;show HP (ω.σ.modify i (AO.El true)) i=true;refine Ae OA (Ae (if_pos rfl) (Ae eo ?_));exact hf true
theorem JL.back:∀{B:Wd}{fs:List Env}{own:List Addr}{J:Addr}{hd:Option Nat}{ω ω' ω₃:Wl B fs}(H:JL ω ω' hd J)(hW:∀a∈J::own,Dq ω' a)(x:Le (J::own) ω' ω₃),Le own ω (ω₃.El (D2 ω.σ hd) hd):=by
 refine@(I8 DO nL nL nN nO ?_);generalize Ke .. =c;generalize c.1=B,c.2.1=fs,c.2.2.1=own,c.2.2.2.1=J,c.2.2.2.2=hd;intro ω ω' ω₃ H hW x;have hJ:∀b o,ω.s.heap.get? b=some o->b∉own->b∉J::own:=λb o e ho hm=>(Au.mp hm).elim (λe'=>by rw[e',H.new]at e;cases e) ho;refine⟨λi a e=>x.mu i a (H.μ▸e),λa e=>(x.new a e).imp (λh=>H.μ▸h) λh=>⟨?_,λhm=>h.2 (.tail _ hm)⟩,λb o hb ho hf e=>x.keep b o (H.wr hb) (hJ b o e ho) hf (H.keep b o e),λb o hb ho e=>x.WV b o (H.wr hb) (hJ b o e ho) (H.keep b o e),λj a e=>?_,
  λb o ho e=>x.live b o (hJ b o e ho) (H.keep b o e),?_⟩
 .cases hq:ω.s.heap.get? a with
  |none=>rfl
  |some o=>rw[H.keep a o hq]at h;cases h.1
 .have hx:=x.flag j a (H.μ▸e);rw[H.σ]at hx;cases hd with
  |none=>exact hx
  |some i=>
   show HP (ω₃.σ.modify i (AO.El (D2 ω.σ (some i)))) j=_;replace hx:HP ω₃.σ j=HP (ω.σ.modify i (AO.El true)) j:=hx;rw[OA]at hx⊢;by_cases Pr:i=j
   .subst Pr;obtain⟨o,eo,_,hn⟩:=H.hd i rfl;refine Ae (if_pos rfl) ?_;have hm3:ω₃.μ[i]? =some a:=x.mu i a (H.μ▸e);have hl3:i<ω₃.σ.length:=ω₃.inv.len▸Gm hm3;have h3:=Ap hl3;refine Ae h3 ?_;have q3:=ω₃.inv.obj i _ a h3 hm3;show(AO.El (HP ω.σ i) ω₃.σ[i]).fz=_;generalize ω₃.σ[i]=o3 at q3;cases o3 with
    |inst d=>exact(QbW (ω.inv.obj i o a eo e) q3 hn λob e'=>(H.fix e).keep x hW ob (H.keep a ob e')).elim
    |_=>rfl
   .rw[if_neg Pr]at hx⊢;exact hx
 .obtain⟨h1,t1,e1⟩:=H.same;obtain⟨h2,t2,e2⟩:=x.same;exact⟨h2,t2,by show ω₃.s=_;exact Ae e2 (Ae e1 rfl)⟩
end
section
variable{B:Wd}{fs:List Env}{ω ω':Wl B fs}{A:Around}{a:AV}{va:Value}{R':List AV×Option Nat->St->Prop}{Rc:Value->Shared->Prop}
def KI(A:Around)(ω:Wl B fs)(R':List AV×Option Nat->St->Prop)(Rc:Value->Shared->Prop):Prop:=
 ∀xs hd J fp P St(ω₁ ω₂:Wl B fs),R' (xs,hd) ω₁.σ->Le [] ω ω₁->JL ω₁ ω₂ hd J->Zo A ω₂ xs J fp P St->St 0 ω₂.s.heap->Rc (.ref J) ω₂.s
theorem KI.after{ω₁:Wl B fs}(x:Le [] ω₁ ω)(k:KI A ω₁ R' Rc):KI A ω R' Rc:=λxs hd J fp P St ω₁ ω₂ e l=>k xs hd J fp P St ω₁ ω₂ e (x.trans l)
noncomputable def Wl.it(ω:Wl B fs)(ob:Obj)(hd:Option Nat):Wl B fs:=(ω.grow (ω.s.heap.push ob) ω.s.toks Cg).El true hd
theorem JL.make{hd:Option Nat}{nm:String}{vs:Array Value}(H:∀i,hd=some i->∃o,ω.σ[i]? =some o/\(∀b,(o.El b).fz=b)/\∀d,o≠ .inst d):JL ω (ω.it {cls:= .type nm,data:= .fields vs} hd) hd ω.s.heap.objs.size:=
 have hf:=DP (h:=ω.s.heap) (AL _);have e:(ω.s.heap.push {cls:= .type nm,data:= .fields vs}).get? ω.s.heap.objs.size=some {cls:= .type nm,data:= .fields vs}:=Bi _ rfl
 ⟨rfl,rfl,Cg,⟨_,_,rfl⟩,hf,⟨λhm=>DL _ (ω.live hm),D3 hf,Gd e (λa a e=>nomatch e),_,e⟩,H⟩
theorem Qaj{ob:Obj}{hd:Option Nat}{v:AV}{c:Value}(r:Rp ω v c):Rp (ω.it ob hd) v c:=r.mono (ME Cg)
theorem ZY{h:Heap}{l J b:Addr}{P:Prop}(hb:b∈[J,l])(Gk:b≠J)(k:b=l->P):P:=(Au.mp hb).elim (λe=>absurd e Gk) λh=>k (Ai.mp h)
theorem c4{xs:List AV}{vs:Array Value}(g2:GY ω xs vs.toList){i:Nat}{x:AV}{c:Value}(hx:xs[i]? =some x)(hP:vs[i]? =some c):Rp ω x c:=(g2.get hx).elim λy q=>by
 have:=toL q.1;rw[hP]at this;cases this;exact q.2
theorem R6(hh:A.handled=none){l:Addr}{vs:Array Value}{n:Nat}{xs:List AV}(h1:ω.s.heap.get? l=some (Lu vs n))(h2:GY ω xs vs.toList)(e:R' (xs,none) ω.σ)(k:KI A ω R' Rc):wpAny (model B.prog B.w) A (pyIter (.ref l)) Rc bot ω.s:=
 wpAny_pyIter_tuple (IB h1) (k xs none _ _ _ _ ω (ω.it _ none) e .refl (.make λa h=>nomatch h)
  ⟨h2.size▸Walks.tuple hh _ l (Ea (D8 h1)) vs,λi h st=>st.1.elim λo x=> .mk' x.1 x.2.1 (by decide) x.2.2,λb hb Gk=>ZY (h:=ω.s.heap) hb Gk λe=>e▸ .inl ⟨_,_,Cg _ _ h1⟩,λi x c hx hP=>Qaj (c4 h2 hx hP)⟩
  ⟨⟨_,Bi _ rfl,rfl,rfl⟩,(IB h1).at λo e=>Ba _ e⟩)
theorem ZZ:∀{B:Wd}{fs:List Env}{A:Around}{R':List AV×Option Nat->St->Prop}{Rc:Value->Shared->Prop}{b:Array UInt8}{t:Tok}{l:List Int}{ω:Wl B fs}(hh:A.handled=none)(hl:l=b.toList.map λu=>(u.toNat:Int))(e:R' (l.map .int,none) ω.σ)(k:KI A ω R' Rc),wpAny (model B.prog B.w) A (pyIter (.bytes b t)) Rc bot ω.s:=by
 refine@(Ir DO nL Ja nQ nQ nA nN nL ?_);generalize G8 .. =z;generalize z.1=B,z.2.1=fs,z.2.2.1=A,z.2.2.2.1=R',z.2.2.2.2.1=Rc,z.2.2.2.2.2.1=b,z.2.2.2.2.2.2.1=t,z.2.2.2.2.2.2.2=l;intro ω hh hl e k;have n1:b.size=(l.map AV.int).length:=by exact Ae hl (Ae (Aj ..) (Ae (Aj ..) (Ae Bh rfl)))
 refine PySem.W.KBw.pyIter_bytes (k (l.map .int) none _ _ _ _ ω (ω.it _ none) e .refl (.make λa h=>nomatch h) ⟨n1▸PySem.W.KBw.walks hh _ b t,λi h st=>st.elim λo x=> .mk' x.1 x.2.1 (by decide) x.2.2,λb hb Gk=>absurd (Ai.mp hb) Gk,λi x c hx hP=>?_⟩ ⟨_,Bi _ rfl,rfl,rfl⟩);obtain⟨d,u,hd,rfl⟩:=hP;rw[hl,Ii,BK,show b.toList[i]? =some d from ES.trans hd]at hx;cases hx;exact .int _ _
theorem c5{i:Nat}{o:AO}(g:ω.σ[i]? =some o)(hf:∀b,(o.El b).fz=b)(hn:∀d,o≠ .inst d):∀j,some i=some j->∃o,ω.σ[j]? =some o/\(∀b,(o.El b).fz=b)/\∀d,o≠ .inst d:=λj e=>BB e▸⟨o,g,hf,hn⟩
theorem n9{i:Nat}{o:AO}{l:Addr}{ob ob':Obj}(g:ω.σ[i]? =some o)(h1:ω.μ[i]? =some l)(hf:∀b,(o.El b).fz=b)(e:ω.s.heap.get? l=some ob'):Fix (ω.it ob (some i)) l:=by
 refine .inr ⟨i,h1,?_,ob',Cg _ _ e⟩;show HP (ω.σ.modify i (AO.El true)) i=true;refine Ae OA (Ae (if_pos rfl) (Ae g ?_));exact hf true
theorem Uo(hh:A.handled=none){i:Nat}{l:Addr}{z:Bool}{vs:Array Value}{n:Nat}{xs:List AV}(g:ω.σ[i]? =some (.list z xs))(h1:ω.μ[i]? =some l)(g1:ω.s.heap.get? l=some (JA vs n))(g2:GY ω xs vs.toList)(e:R' (xs,some i) ω.σ)(k:KI A ω R' Rc):wpAny (model B.prog B.w) A (pyIter (.ref l)) Rc bot ω.s:=
 Pa (DQ g1) (k xs (some i) _ _ _ _ ω (ω.it _ (some i)) e .refl (.make (c5 g (λa=>rfl) λd e=>nomatch e))
  ⟨g2.size▸bQ hh _ l (Ea (D8 g1)) vs,λi h st=>st.1.elim λo x=> .mk' x.1 x.2.1 (by decide) x.2.2,λb hb Gk=>ZY (h:=ω.s.heap) hb Gk λe=>e▸n9 g h1 (λa=>rfl) g1,λi x c hx hP=>Qaj (c4 g2 hx hP)⟩
  ⟨⟨_,Bi _ rfl,rfl,rfl⟩,(DQ g1).push _⟩)
theorem iW:∀{B:Wd}{fs:List Env}{A:Around}{R':List AV×Option Nat->St->Prop}{Rc:Value->Shared->Prop}{i:Nat}{l:Addr}{z:Bool}{ys:List (Str×AV)}{DB:List (Str×Value)}{ω:Wl B fs}(Z:Bs B)(hh:A.handled=none)(g:ω.σ[i]? =some (.sd z ys))(h1:ω.μ[i]? =some l)(k1:ω.s.heap.DictOf (strKind B.prog B.w) l DB)(k2:HM B ω.μ ω.s.heap ys DB)(e:R' (ys.map (λp=> .str p.1),some i) ω.σ)(k:KI A ω R' Rc),wpAny (model B.prog B.w) A (pyIter (.ref l)) Rc bot ω.s:=by
 refine@(I8 DO nL Ja nQ nQ ?_);generalize Ke .. =v;generalize v.1=B,v.2.1=fs,v.2.2.1=A,v.2.2.2.1=R',v.2.2.2.2=Rc;refine@(I8 nN nN nB nL nL ?_);generalize Ke .. =v;generalize v.1=i,v.2.1=l,v.2.2.1=z,v.2.2.2.1=ys,v.2.2.2.2=DB;intro ω Z hh g h1 k1 k2 e k;obtain⟨ep,RI⟩:=k1.dictAt;obtain⟨ob,_,_,ho,_⟩:=Fh k1;have n1:DB.length=(ys.map λp=>AV.str p.1).length:=by exact Ae k2.length (Ae (Aj ..) rfl)
 refine wpAny_pyIter_dict (Jh Z h1) RI (k _ (some i) _ _ _ (λi h=>h.IsKeyIter ω.s.heap.objs.size l i DB.length ep/\h.DictAt (strKind B.prog B.w) l DB ep) ω (ω.it _ (some i)) e .refl (.make (c5 g (λa=>rfl) λd e=>nomatch e))
  ⟨by refine CV n1 ?_;exact Walks.dictKeys hh _ l (Ea RI.lt_size) DB ep,λi h st=>st.1.elim λo x=> .mk' x.1 x.2.1 (by decide) x.2.2,λb hb Gk=>ZY (h:=ω.s.heap) hb Gk λe=>e▸n9 g h1 (λa=>rfl) ho,λj x c hx hP=>?_⟩ ⟨⟨_,Bi _ rfl,rfl,rfl⟩,RI.push _⟩)
 obtain⟨k,y,hk,MT⟩:=hP;obtain⟨t,rfl⟩:=FH MT;rw[BK]at hx;obtain⟨p,hp,rfl⟩:=DF.mp hx;obtain⟨q,hq,e1,_⟩:=A2.get k2 hp;rw[hk]at hq;cases hq;have e1:k=p.1:=e1;exact e1▸ .str _ _
theorem w7(Z:Bs B)(hh:A.handled=none)(p:Rp ω a va)(e:Bn (items ω.σ a) (KR R' ω.σ))(k:KI A ω R' Rc):wpAny (model B.prog B.w) A (pyIter va) Rc bot ω.s:=
 @Rep.casesOn B ω.μ ω.s.heap (λa va x=>Bn (items ω.σ a) (KR R' ω.σ)->wpAny (model B.prog B.w) A (pyIter va) Rc bot ω.s) a va p (λe=>Ad e) (λx e=>Ad e) (λx x e=>Ad e) (λx x e=>Ad e)
  (λb t l hl e=>ZZ hh hl e k) (λh1 h2 e=>R6 hh h1 h2 e k)
  (λh1 e=>Oy (fn:=λx x=>none) (fi:=λx=>none) h1 (λx x x x g g1 g2 e=>Uo hh g h1 g1 g2 e k) (λx x x g k1 k2 e=>iW Z hh g h1 k1 k2 e k) (λx x x x x x e=>Ad e) (λx x x x x x e=>Ad e) e)
  (λx x e=>Ad e) (λx x e=>Ad e) e
theorem Kl(x y:Int):CM x y 1=((y-x).toNat:Int):=by
 unfold CM;simp only[show(1:Int)>0 from by decide,if_true];split<;>lia
theorem rangeSize_down(x y:Int):CM x y (-1)=((x-y).toNat:Int):=by
 unfold CM;simp only[show¬(-1:Int)>0 from by decide,if_false,Int.neg_neg,Int.ediv_one];split<;>lia
theorem OB{x:Int}(h1: -4000000<=x)(h2:x<=4000000):EX x=true:=Aq.mpr ⟨decide_eq_true (Fl (by decide) h1),decide_eq_true (IV h2 (by decide))⟩
theorem Up{x:Int}(h: -1000000<=x/\x<=1000000):EX x=true:=OB (Fl (by decide) h.1) (Fl h.2 (by decide))
theorem Qak{x y:Int}(h: -1000000<=x/\x<=1000000)(h2: -1000000<=y/\y<=1000000):EX ((y-x).toNat:Int)=true:=OB (Fl (by decide) (C6 _)) (by lia)
theorem Xx{x y:Int}(h1: -1000000<=x/\x<=1000000)(h2: -1000000<=y/\y<=1000000):DA x y 1=true:=by
 unfold DA
 (refine Ae (Kl ..) ?_;rw[Up h1,Up h2,OB (x:=1) (by decide) (by decide),Qak h1 h2];refine Ae (show y+(1-1)=y from GH y) (Ae (Up h2) ?_))
 exact Fp _
theorem small_down{x y:Int}(h1: -1000000<=x/\x<=1000000)(h2: -1000000<=y/\y<=1000000):DA x y (-1)=true:=by
 unfold DA
 (refine Ae (rangeSize_down ..) ?_;rw[Up h1,Up h2,OB (x:= -1) (by decide) (by decide),Qak h2 h1];refine Ae (show y+(-1+1)=y from GH y) (Ae (Up h2) ?_))
 exact Fp _
theorem Z0:∀{B:Wd}{fs:List Env}{A:Around}{R':List AV×Option Nat->St->Prop}{Rc:Value->Shared->Prop}{rg:Addr}{x y c:Int}{t u v:Tok}{m:Nat}{ω:Wl B fs}(hh:A.handled=none)(hr:IsRange ω.s.heap rg x y c t u v)(hsm:DA x y c=true)(hm:CM x y c=(m:Int)){f:Nat->AV}(hx:∀i:Nat,f i= .int (x+i*c))(e:R' ((BZ m).map f,none) ω.σ)(k:KI A ω R' Rc),wpAny (model B.prog B.w) A (pyIter (.ref rg)) Rc bot ω.s:=by
 refine@(Hp DO nL Ja nQ nQ nN nI ?_);generalize GE .. =z;generalize z.1=B,z.2.1=fs,z.2.2.1=A,z.2.2.2.1=R',z.2.2.2.2.1=Rc,z.2.2.2.2.2.1=rg,z.2.2.2.2.2.2=x;refine@(Fd nI nI nN nN nN nN ?_);generalize E2 .. =z;generalize z.1=y,z.2.1=c,z.2.2.1=t,z.2.2.2.1=u,z.2.2.2.2.1=v,z.2.2.2.2.2=m;intro ω hh hr hsm hm f hx e k;have hl:((BZ m).map f).length=m:=by exact Ae (Aj ..) (Ae BS rfl)
 refine wpAny_pyIter_range hr hsm ?_;refine Ae hm ?_;refine k _ none ω.s.heap.objs.size _ _ _ ω (ω.it _ none) e .refl (.make λa h=>nomatch h) ⟨hl.symm▸Walks.range hh ω.s.heap.objs.size x c m,λi h st=> .mk' st rfl (by decide) rfl,λb hb Gk=>absurd (Ai.mp hb) Gk,λi w d hw hP=>?_⟩ ?_
 .obtain⟨t,rfl⟩:=hP;rw[BK]at hw;obtain⟨j,hj,rfl⟩:=DF.mp hw;obtain⟨_,hj⟩:=Ak.mp hj;rw[Oc]at hj;subst hj;refine Ae (hx ..) ?_;exact .int _ _
 .show IsRangeIter (ω.s.heap.push _) _ _ _ _;have:IsRangeIter (ω.s.heap.push {cls:= .type "range_iterator",data:= .fields #[rawInt x,rawInt (m:Int),rawInt c]}) ω.s.heap.objs.size x (m:Int) c:=Bi _ rfl;simpa[hl]using this
abbrev rgO(x y c:Int)(t u v:Tok):Obj:={cls:= .type "range",data:= .fields #[.int x t,.int y u,.int c v]}
noncomputable def Wl.rg(ω:Wl B fs)(tk:Nat)(x y c:Int)(t u v:Tok):Wl B fs:=ω.grow (ω.s.heap.push (rgO x y c t u v)) tk Cg
theorem PJ(hh:A.handled=none){x y c:Int}{t u v:Tok}{tk m:Nat}{f:Nat->AV}(h1:DA x y c=true)(h2:CM x y c=(m:Int))(h3:∀i:Nat,f i= .int (x+i*c))(k:KI A ω R' Rc)(e:R' ((BZ m).map f,none) ω.σ):
  wpAny (model B.prog B.w) A (pyIter (.ref ω.s.heap.objs.size)) Rc bot {ω.s with heap:=ω.s.heap.push (rgO x y c t u v),toks:=tk}:=
 Z0 (ω:=ω.rg tk x y c t u v) hh (IsRange.new ..) h1 h2 h3 e (k.after .grow)
theorem QbX(hh:A.handled=none){x y z:Int}{t u v:Tok}(h:z= -1/\ -1000000<=x/\x<=1000000/\y<=1000000/\ -1000000<=y)(k:KI A ω R' Rc)(e:R' (JP x y,none) ω.σ):wpAny (model B.prog B.w) A (call (.type "range") [.int x t,.int y u,.int z v]) (λx s₁=>wpAny (model B.prog B.w) A (pyIter x) Rc bot s₁) bot ω.s:=by
 obtain⟨rfl,h⟩:=h;exact call_range_3 (by decide) (PJ hh (small_down ⟨h.1,h.2.1⟩ ⟨h.2.2.2,h.2.2.1⟩) (rangeSize_down _ _) (λi=>by refine Ae (Int.mul_neg ..) (Ae (Mv ..) ?_);rfl) k e) (.inl (PyProof.noPylong_small (by lia)))
abbrev vS(A:Around)(ω:Wl B fs)(Rc:Value->Shared->Prop)(vs:List Value):Prop:=wpAny (model B.prog B.w) A (call (.type "range") vs) (λx s₁=>wpAny (model B.prog B.w) A (pyIter x) Rc bot s₁) bot ω.s
theorem iX(hh:A.handled=none){x y:Int}{t u:Tok}{as:List AV}{vs:List Value}(q:GY ω as vs)(k:KI A ω R' Rc)(e:Bn (Rg x y as) (TT R' ω.σ)):vS A ω Rc (.int x t:: .int y u::vs):=
 @A2.casesOn _ _ _ (λas vs a=>Bn (Rg x y as) (TT R' ω.σ)->vS A ω Rc (.int x t:: .int y u::vs)) as vs q
  (λe=>Bn.Em e λh e=>call_range_2 (PJ hh (Xx ⟨h.1,h.2.1⟩ ⟨h.2.2.2,h.2.2.1⟩) (Kl _ _) (λi=>by exact Ae (Mv ..) rfl) k e))
  (λ{c cv as vs} p q e=>@A2.casesOn _ _ _ (λas vs a=>Bn (Rg x y (c::as)) (TT R' ω.σ)->vS A ω Rc (.int x t:: .int y u::cv::vs)) as vs q (λe=>GV.el (G:=λcv=>vS A ω Rc [.int x t,.int y u,cv]) p e λz v e=>Bn.Em e λh e=>QbX hh h k e) (λa a e=>Ad e) e) e
theorem iY(hh:A.handled=none){x:Int}{t:Tok}{as:List AV}{vs:List Value}(q:GY ω as vs)(k:KI A ω R' Rc)(e:Bn (Vr x as) (TT R' ω.σ)):vS A ω Rc (.int x t::vs):=
 @A2.casesOn _ _ _ (λas vs a=>Bn (Vr x as) (TT R' ω.σ)->vS A ω Rc (.int x t::vs)) as vs q
  (λe=>Bn.Em e λh e=>call_range_1 (PJ hh (Xx (by decide) h) (Kl _ _) (λi=>by exact Ae (Mv ..) rfl) k e))
  (λ{c cv as vs} p q e=>GV.el (G:=λcv=>vS A ω Rc (.int x t::cv::vs)) p e λy u e=>iX hh q k e) e
theorem oA(hh:A.handled=none){as:List AV}{vs:List Value}(q:GY ω as vs)(e:Bn (mL as) (TT R' ω.σ))(k:KI A ω R' Rc):vS A ω Rc vs:=
 @A2.casesOn _ _ _ (λas vs h=>Bn (Ha as) (TT R' ω.σ)->vS A ω Rc vs) as vs q (λe=>Ad e) (λ{a va as vs} p q e=>GV.el (G:=λva=>vS A ω Rc (va::vs)) p e λx t e=>iY hh q k e) (Vs as▸e)
end
section
variable{B:Wd}{fs:List Env}
def KL(n:Nat)(ω:Wl B fs)(Q:List AV->St->Prop)(R:List Value->Shared->Prop):Prop:=∀vs cs(ω':Wl B fs),vs.length=n->Q vs ω'.σ->Le [] ω ω'->GY ω' vs cs->R cs ω'.s
def KP(ω:Wl B fs)(Q:Option Int->St->Prop)(R:Value->Shared->Prop):Prop:=∀p v(ω':Wl B fs),Q p ω'.σ->Le [] ω ω'->IsPart v p->R v ω'.s
def PRp(ω:Wl B fs)(p:AV×AV)(c:Value×Value):Prop:=Rp ω p.1 c.1/\Rp ω p.2 c.2
def KD(ω:Wl B fs)(Q:List (AV×AV)->St->Prop)(R:List (Value×Value)->Shared->Prop):Prop:=∀ps cs(ω':Wl B fs),Q ps ω'.σ->Le [] ω ω'->A2 (PRp ω') ps cs->R cs ω'.s
structure Pl(e:Expr):Prop where
 set:∀op,behindInMarks op e=false
 fold:∀env x,foldedSetIterable e env x=pure x
 star:∀es env,starEach (e::es) env=(false,eval e env)::starEach es env
 sub:∀o k,subscripted e false o k=operate [o,k] (getItem o k)
theorem Ni{e:Expr}(h:I9 e=true):Pl e:=by
 cases e<;>first|exact⟨λa=>rfl,λa a=>rfl,λa a=>rfl,λa a=>rfl⟩|exact Br h
theorem oB{es:List Expr}(h:es.all I9=true)(env:Env)(pos:Pos):(starEach es env).all (λa=> !a.1)=true/\(backTo pos (starEach es env)).any (λa=>a.1)=false:=by
 induction es with
 |nil=>exact⟨rfl,rfl⟩
 |cons e es ih=>
  obtain⟨h1,h2⟩:=Aq.mp h;refine Ae ((Ni h1).star ..) ?_;exact ih h2
def PK(B:Wd)(C:Cl)(k:Nat):Prop:=
 ∀{fs:List Env}{ω:Wl B fs}{g:Str}{vs:List AV}{Q:AV->St->Prop}{A:Around}{fv:Value}{cs:List Value}{R:Value->Shared->Prop},C g vs ω.σ (PV Q)->Ga fs k A->B.mg g=some fv->GY ω vs cs->KE ω Q R->Wp ω A (call fv cs) R
abbrev TW(ω:Wl B fs)(A:Around){α:Type}(t:Sem α)(R:α->Shared->Prop):Prop:=wpAny (model B.prog B.w) A t R bot ω.s
abbrev QbY(es:List Expr)(env:Env):Sem Bool:=forIn es true λc r=>if r=true then do let ok<-isTrue c env (eval c env);pure (Dv ok)else pure (Dv r)
structure NP(B:Wd)(k:Nat)(sc:Scope)(i:I):Prop where
 ev:∀{fs} {ω:Wl B fs}{e w Q A env own R},i.ev e w ω.σ Q->Ga fs k A->Bf sc ω env own w->KE ω Q R->TW ω A (eval e env) R
 Na:∀{fs} {ω:Wl B fs}{es w Q A env own R pos},i.Na es w ω.σ Q->Ga fs k A->Bf sc ω env own w->KL es.length ω Q R->TW ω A (spliced (backTo pos (starEach es env))) R
 opt:∀{fs} {ω:Wl B fs}{e w Q A env own R},i.opt e w ω.σ Q->Ga fs k A->Bf sc ω env own w->KP ω Q R->TW ω A (evalPart e env) R
 pairs:∀{fs} {ω:Wl B fs}{ks vs w Q A env own R pos},i.pairs ks vs w ω.σ Q->Ga fs k A->Bf sc ω env own w->KD ω Q R->TW ω A (evalPairs (pairTrees ks vs env pos)) R
 bool:∀{fs} {ω:Wl B fs}{op es w Q A env own R pos},i.bool op es w ω.σ Q->Ga fs k A->Bf sc ω env own w->KE ω Q R->TW ω A (boolOp pos op (evalEach es env)) R
 Po:∀{fs} {ω:Wl B fs}{e w T A env own R},i.Po e w ω.σ T->Ga fs k A->Bf sc ω env own w->KB ω T R->TW ω A (isTrue e env (eval e env)) R
 LD:∀{fs} {ω:Wl B fs}{op es w T A env own R},i.LD op es w ω.σ T->Ga fs k A->Bf sc ω env own w->KB ω T R->TW ω A (allTrue op es env) R
 ifs:∀{fs} {ω:Wl B fs}{es w T A env own R},i.LD .And es w ω.σ T->Ga fs k A->Bf sc ω env own w->KB ω T R->TW ω A (QbY es env) R
 items:∀{fs} {ω:Wl B fs}{e w R' A env own Rc},i.items e w ω.σ R'->Ga fs k A->Bf sc ω env own w->KI A ω R' Rc->(∀x,foldedSetIterable e env x=pure x)/\TW ω A (eval e env) (λx s₁=>wpAny (model B.prog B.w) A (pyIter x) Rc bot s₁)
end
section
variable{B:Wd}{fs:List Env}{ω ω₁:Wl B fs}{A:Around}{C:Cl}{k:Nat}{sc:Scope}{i:I}{w:Fm}{env:Env}{own:List Addr}{Q:AV->St->Prop}{R:Value->Shared->Prop}{pos:Pos}
theorem KL.after{n:Nat}{Q:List AV->St->Prop}{R:List Value->Shared->Prop}(x:Le [] ω₁ ω)(k:KL n ω₁ Q R):KL n ω Q R:=λv c ω' n q l r=>k v c ω' n q (x.trans l) r
theorem KD.after{Q:List (AV×AV)->St->Prop}{R:List (Value×Value)->Shared->Prop}(x:Le [] ω₁ ω)(k:KD ω₁ Q R):KD ω Q R:=λv c ω' q l r=>k v c ω' q (x.trans l) r
theorem KB.after{T:Bool->St->Prop}{R:Bool->Shared->Prop}(x:Le [] ω₁ ω)(k:KB ω₁ T R):KB ω T R:=λb ω' q l=>k b ω' q (x.trans l)
theorem KB.tok{T:Bool->St->Prop}{R:Bool->Shared->Prop}(k:KB ω T R){b:Bool}{tk:Nat}(q:T b ω.σ):R b {ω.s with toks:=tk}:=k b (ω.grow ω.s.heap tk λa a e=>e) q .grow
theorem KB.pure{T:Bool->St->Prop}{R:Bool->Shared->Prop}(k:KB ω T R){b:Bool}(q:T b ω.σ):R b ω.s:=k b ω q .refl
theorem TZ{M:Model}{f:Value}{E:Value->Shared->Prop}{s:Shared}{Q:Args->Shared->Prop}(h:wpAny M A (spliced []) (λvs s'=>Q ⟨vs,[]⟩ s') E s):wpAny M A (evalArgs f true [] []) Q E s:=by
 unfold evalArgs;show wpAny M A (spliced []>>=_) Q E s;refine Ag (Cb h (λvs s' h'=>?_) λa a x=>x);exact Ag (Ax (Bb (Ag (Ax (Ag (Ax (Ax h')))))))
theorem Qdm{M:Model}{α:Type}{m:Sem α}{Q:α->Shared->Prop}{E:Value->Shared->Prop}{s:Shared}(h:wpAny M A m Q bot s):wpAny M A m Q E s:=Cb h (λa a x=>x) λa a x=>x.elim
theorem JT(S:NP B k sc i){f:Value}{es:List Expr}{P:Heap->Prop}{Q:List AV->St->Prop}(hp:es.all I9=true)(h:i.Na es w ω.σ Q)(O:Ga fs k A)(F:Bf sc ω env own w)(hk:∀h,P h->∃k,(k=WQ\/k=Tx\/k=Pd)/\CQ (model B.prog B.w) h (keeperOf f) k)
  {first:List Value} {E:Value->Shared->Prop} (K:KL es.length ω Q λvs s₁=>P s₁.heap/\wpAny (model B.prog B.w) A (call f (first++vs)) R E s₁):wpAny (model B.prog B.w) A (callWith pos f first (backTo pos (starEach es env)) []) R E ω.s:=by
 refine H8 (by show(_||false)=false;refine Ae ((oB hp env pos).2) ?_;rfl) hk ?_;have y:=Qdm (E:=E) (S.Na (pos:=pos) h O F K);cases es with
 |nil=>exact TZ y
 |cons e es=>
  rw[(Ni (Aq.mp hp).1).star]at y⊢;exact Mw y
theorem Ji{f:Value}(hf:∀a,f≠ .ref a)(h:Heap)(_:True):∃k,(k=WQ\/k=Tx\/k=Pd)/\CQ (model B.prog B.w) h (keeperOf f) k:=by
 refine⟨.machine,.inr (.inl rfl),G0 ?_⟩;cases f with
 |ref a=>exact absurd rfl (hf a)
 |_=>rfl
theorem oC{c:Const}{k':Nat}(h:NH c (KV Q ω.σ))(K:KE ω Q R):TW ω A (eval (.Constant c k' pos) env) R:=by
 cases c with
 |none=>exact wpAny_Constant_none (K.pure h .none)
 |bool b=>exact wpAny_Constant_bool (K.pure h (.bool _))
 |int i=>exactλa a a=>K.tok h (.int _ _)
 |str s=>exact wpAny_Constant_str (K.tok h (.str _ _))
 |_=>exact Ad h
theorem Il(Z:Bs B){x:Str}{v:Value}(F:Bf sc ω env own w)(hk:BJ sc.names x=some .globalImplicit)(hg:B.mg x=some v)(h:R v ω.s):TW ω A (eval (.Name x pos) env) R:=
 HG F.MC.kind (F.MC.names x _ hk (by decide)) (loadGlobal_global (mg:=B.mg) (by refine Ae F.MC.glob ?_;exact Z.g.keeps ω.inv.base) hg h) (Di.name F.MC.ok hk).1
theorem Xy(Z:Bs B){x:Str}{v:Value}(F:Bf sc ω env own w)(hk:BJ sc.names x=some .globalImplicit)(h1:x∈(["len","tuple","list","bytes","str","any","range"]:List Str))(h2:x≠"__name__")(h3:bootBuiltins x=some v)(h:R v ω.s):TW ω A (eval (.Name x pos) env) R:=
 HG F.MC.kind (F.MC.names x _ hk (by decide)) (Od (mg:=B.mg) (mb:=B.mb) (by refine Ae F.MC.glob ?_;exact Z.g.keeps ω.inv.base) (Z.bare x h1) (by refine Ae F.MC.blt ?_;exact Z.b.keeps ω.inv.base) ((Z.builtins x h2).trans h3) h) (Di.name F.MC.ok hk).1
theorem Xz{x:Str}{v:AV}(F:Bf sc ω env own w)(e:Dj w x=some v)(h:∀c,Rp ω v c->R c ω.s):TW ω A (eval (.Name x pos) env) R:=by
 obtain⟨m,hm,hval⟩:=F.val;obtain⟨⟨kd,hk⟩,_⟩:=hval x _ e;exact Tz (F.name e h) (Di.name F.MC.ok hk).1
theorem VW{x:Str}{k:GK}(h:mQ x=some k):RN x=some k:=by
 have ok:=wK;unfold mQ at h;generalize bV=l at h ok;induction l with
 |nil=>cases h
 |cons p r ih=>
  obtain⟨e1,e2⟩:=DM ok;replace h:(if p.1=x then some p.2 else gkL r x)=some k:=h;by_cases c:p.1=x
  .rw[if_pos c]at h;exact c▸e1.trans h
  .rw[if_neg c]at h;exact ih h e2
theorem Kg.el{g:Option GK}{x:Str}{σ:St}(h:Kg g x Q σ):g=some .fn/\Q (.fn x) σ:=by
 cases g with
 |none=>exact Ad h
 |some g=>cases g with
  |fn=>exact⟨rfl,h⟩
  |_=>exact Ad h
theorem w8(Z:Bs B){x:Str}(F:Bf sc ω env own w)(h:Nm (Dj w x) (KV Q ω.σ) (Glob sc x Q ω.σ))(K:KE ω Q R):TW ω A (eval (.Name x pos) env) R:=by
 cases e:Dj w x with
 |some v=>rw[e]at h;exact Xz F e λc r=>K.pure h r
 |none=>
  rw[e]at h;obtain⟨hk,h⟩:=DI.el h;obtain⟨hg,h⟩:=h.el;obtain⟨a,ha,_⟩:=Z.fns x (VW hg);exact Il Z F (of_decide_eq_true hk) ha (K.pure h (.fn ha (VW hg)))
theorem bW.el{α β:Type}{as:List α}{bs:List β}{P:α->β->Prop}{G:List α->List β->Prop}(h:bW as bs P)(k:∀a b,P a b->G [a] [b]):G as bs:=by
 cases as with
 |nil=>exact Ad h
 |cons a r=>cases r with
  |cons _ _=>exact Ad h
  |nil=>cases bs with
   |nil=>exact Ad h
   |cons b s=>cases s with
    |cons _ _=>exact Ad h
    |nil=>exact k a b h
theorem sliceOf.el{ix:Expr}{p:Option Expr×Option Expr×Pos}(h:sliceOf ix=some p):ix= .Slice p.1 p.2.1 none p.2.2:=by
 cases ix with
 |Slice a b c d=>cases c with
  |none=>cases h;rfl
  |some _=>exact iF h
 |_=>exact iF h
theorem Ep{o:Expr}(ho:Dg o=true)(x:Str)(env:Env)(whole:Sem Value):attributeBase o x env whole=whole:=by
 cases o<;>first|rfl|exact Br ho
variable(S:NP B k sc i)(O:Ga fs k A)(F:Bf sc ω env own w)
include S O F
theorem oE{l:Expr}{op:Operator}{r:Expr}(h:i.ev l w ω.σ (Vv i r w op Q))(K:KE ω Q R):TW ω A (eval (.BinOp l op r pos) env) R:=
 wpAny_BinOp (S.ev h O F λa a a h l r=>S.ev h O (F.step l) λa a a h l2 r2=>QbP op (r.step l2) r2 h (K.after (l.trans l2)))
theorem w9{op:UnaryOp}{x:Expr}(h:unF i op x w ω.σ Q)(K:KE ω Q R):TW ω A (eval (.UnaryOp op x pos) env) R:=by
 cases op with
 |Not=>exact NB (S.ev h O F λa a ω1 h l r=>not_value (R3 r h λb tk e=>(K.after l).tok e (.bool _)))
 |USub=>exact NB (S.ev h O F λa a a h l r=>GV.el (G:=λc=>wpAny _ _ (unaryOp .USub c) _ _ _) r h λa a e=>Q3 ((K.after l).tok e (.int _ _)))
 |_=>exact Ad h
theorem oF{t a b:Expr}(h:i.Po t w ω.σ (Ot i a w Q b))(K:KE ω Q R):TW ω A (eval (.IfExp t a b pos) env) R:=
 wpAny_IfExp (S.Po h O F λc ω1 h l=>by
  cases c with
  |true=>exact S.ev h O (F.step l) (K.after l)
  |false=>exact S.ev h O (F.step l) (K.after l))
theorem Z1(Z:Bs B){l:Expr}{ops:List CmpOp}{rs:List Expr}(h:bW ops rs λop r=>DI (I9 r) (i.ev l w ω.σ (Ki i r w op Q)))(K:KE ω Q R):TW ω A (eval (.Compare l ops rs pos) env) R:=
 bW.el (G:=λops rs=>TW ω A (eval (.Compare l ops rs pos) env) R) h λop r h=>wpAny_Compare1 (S.ev (DI.el h).2 O F λa a a h l r=>S.ev h O (F.step l) λa a a h l2 r2=>cX Z O op (r.step l2) r2 h (K.after (l.trans l2))) ((Ni (DI.el h).1).set op)
theorem oG{es:List Expr}{x:Nat}(h:DI (decide (es.length<=Ce)) (i.Na es w ω.σ (Ou Q)))(K:KE ω Q R):TW ω A (eval (.Tuple es x pos) env) R:=
 wpAny_Tuple (S.Na (DI.el h).2 O F λvs cs ω1 n e l r=>⟨by refine Ae r.length (Ae n ?_);exact IC (of_decide_eq_true (DI.el h).1),(K.after l).tup (tk:=ω1.s.toks) e r⟩)
theorem xA{es:List Expr}(h:DI (decide (es.length<=Ce)) (i.Na es w ω.σ (Ri Q)))(K:KE ω Q R):TW ω A (eval (.List es pos) env) R:=
 wpAny_List (S.Na (DI.el h).2 O F λvs cs ω1 n e l r=>⟨by refine Ae r.length (Ae n ?_);exact IC (of_decide_eq_true (DI.el h).1),(K.after l).list (tk:=ω1.s.toks) e r⟩)
theorem QbZ{o ix:Expr}(h:QbK i o ix w ω.σ Q)(K:KE ω Q R):TW ω A (eval (.Subscript o ix pos) env) R:=by
 unfold QbK at h;cases hs:sliceOf ix with
 |none=>
  rw[hs]at h;exact Subscript_ (S.ev (DI.el h).2 O F λa a a h2 l r=>S.ev h2 O (F.step l) λa a a h3 l2 r2=>wV (Ni (DI.el h).1).sub (r.step l2) r2 h3 (K.after (l.trans l2)))
 |some p=>
  rw[hs]at h;refine Ae (sliceOf.el hs) ?_;exact Subscript_ (S.ev h O F λa a a h l r=>wpAny_Slice (S.opt h O (F.step l) λa a a h l2 pl=>S.opt h O ((F.step l).step l2) λa a ω3 h l3 pu=>Ax (iL (ω:=ω3) ((r.step l2).step l3) pl pu h (K.after ((l.trans l2).trans l3)))))
theorem xB(Z:Bs B){o:Expr}{x:Str}(h:DI (Dg o) (i.ev o w ω.σ (Rl x Q)))(K:KE ω Q R):TW ω A (eval (.Attribute o x pos) env) R:=
 Attribute_any_ (S.ev (DI.el h).2 O F λa a a h l r=>Xr Z r h (K.after l)) (by exact Ae (Oe ..) (Ae (Ep (DI.el h).1 ..) rfl))
omit S O F
theorem Qb0(S:NP B k sc i)(O:Ga fs k A)(F:Bf sc ω env own w){es:List Expr}{Q:List AV->St->Prop}{R:List Value->Shared->Prop}(h:Qc5 i es w ω.σ Q)(K:KL es.length ω Q R):TW ω A (spliced (backTo pos (starEach es env))) R:=by
 cases es with
 |nil=>exact Ln (K [] [] ω rfl h .refl .nil)
 |cons e es=>exact Hk (S.ev (DI.el h).2 O F λv c ω1 h l r=>S.Na h O (F.step l) λvs cs ω2 n h l2 r2=>K (v::vs) (c::cs) ω2 (congrArg Nat.succ n) h (l.trans l2) (.cons (r.step l2) r2)) ((Ni (DI.el h).1).star es env)
theorem Qb1(S:NP B k sc i)(O:Ga fs k A)(F:Bf sc ω env own w){x:Option Expr}{Q:Option Int->St->Prop}{R:Value->Shared->Prop}(h:Qc6 i x w ω.σ Q)(K:KP ω Q R):TW ω A (evalPart x env) R:=by
 cases x with
 |none=>exact Ax (K none .none ω h .refl .none)
 |some x=>refine Ae (evalPart_some ..) ?_;exact S.ev h O F λv c ω1 h l r=>GV.el (G:=λc=>R c ω1.s) r h λj t e=>K (some j) (.int j t) ω1 e l (.int j t)
theorem PRp.step{ω':Wl B fs}{p:AV×AV}{c:Value×Value}(l:Le [] ω ω')(q:PRp ω p c):PRp ω' p c:=⟨q.1.step l,q.2.step l⟩
theorem oH(S:NP B k sc i)(O:Ga fs k A)(F:Bf sc ω env own w){ks:List (Option Expr)}{vs:List Expr}{Q:List (AV×AV)->St->Prop}{R:List (Value×Value)->Shared->Prop}(h:mS i ks vs w ω.σ Q)(K:KD ω Q R):TW ω A (evalPairs (pairTrees ks vs env pos)) R:=by
 cases ks with
 |nil=>cases vs with
  |nil=>exact pairTrees_nil_walk (K [] [] ω h .refl .nil)
  |cons _ _=>exact Ad h
 |cons x ks=>cases x with
  |none=>exact Ad h
  |some x=>cases vs with
   |nil=>exact Ad h
   |cons y vs=>exact pairTrees_cons_walk (S.ev h O F λv1 c1 ω1 h l1 r1=>S.ev h O (F.step l1) λv2 c2 ω2 h l2 r2=>S.pairs h O ((F.step l1).step l2) λps cs ω3 h l3 r3=>K ((v1,v2)::ps) ((c1,c2)::cs) ω3 h ((l1.trans l2).trans l3) (.cons ⟨(r1.step l2).step l3,r2.step l3⟩ r3))
theorem xC(S:NP B k sc i)(O:Ga fs k A)(F:Bf sc ω env own w){op:BoolOp}{es:List Expr}(h:Qac i op es w ω.σ Q)(K:KE ω Q R):TW ω A (boolOp pos op (evalEach es env)) R:=by
 cases es with
 |nil=>exact Ad h
 |cons x es=>cases es with
  |nil=>exact S.ev h O F K
  |cons y es=>
   show wpAny _ _ (do
    let v<-eval x env
    standAt pos
    let t<-holding [v] (truthy v)
    match op,t with
    | .And,false| .Or,true=>pure v
    |_,_=>boolOp pos op (evalEach (y::es) env)) _ _ ω.s
   refine Ag (S.ev h O F λv c ω1 h l r=>Ag (BP (Ag (Bb (R3 r h λb tk e=>?_)))));have l2:Le [] ω1 (ω1.grow ω1.s.heap tk λa a e=>e):= .grow;have st:=l.trans l2;cases op with
   |And=>cases b with
    |false=>exact Ax ((K.after l).tok e r)
    |true=>exact S.bool (ω:=ω1.grow ω1.s.heap tk λa a e=>e) e O (F.step st) (K.after st)
   |Or=>cases b with
    |true=>exact Ax ((K.after l).tok e r)
    |false=>exact S.bool (ω:=ω1.grow ω1.s.heap tk λa a e=>e) e O (F.step st) (K.after st)
end
section
variable{B:Wd}{fs:List Env}{ω ω₁:Wl B fs}{A:Around}{C:Cl}{k:Nat}{sc:Scope}{j:Scope->I}{i:I}{w:Fm}{env:Env}{own:List Addr}{Q:AV->St->Prop}{R:Value->Shared->Prop}{pos:Pos}{T:Bool->St->Prop}{RB:Bool->Shared->Prop}
theorem xD{ps:List (AV×AV)}{cs:List (Value×Value)}(q:A2 (PRp ω) ps cs):∀{P:List (Str×AV)->Prop},Bn (E5 ps) P->∃l kvs,P l/\Carries (strKind B.prog B.w) cs kvs/\HM B ω.μ ω.s.heap l kvs:=by
 induction q with
 |nil=>exactλe=>⟨_,[],e,trivial,.nil⟩
 |@cons a b as bs p _ ih=>
  obtain⟨bk,bv⟩:=b;exactλ{P} e=>QU.el (G:=λbk=>∃l kvs,P l/\Carries (strKind B.prog B.w) ((bk,bv)::bs) kvs/\HM B ω.μ ω.s.heap l kvs) p.1 e λx t e=>(ih (Bn.map e)).elim λl h=>h.elim λkvs h=>⟨_,(x,bv)::kvs,h.1,⟨Fb B.prog B.w x t,rfl,h.2.1⟩,.cons ⟨rfl,p.2⟩ h.2.2⟩
theorem xE{ps:List (AV×AV)}{cs:List (Value×Value)}(q:A2 (PRp ω) ps cs):∀{P:List (Int×AV)->Prop},Bn (Kh ps) P->∃l kvs,P l/\Carries (intKind B.prog B.w) cs kvs/\HM B ω.μ ω.s.heap l kvs:=by
 induction q with
 |nil=>exactλe=>⟨_,[],e,trivial,.nil⟩
 |@cons a b as bs p _ ih=>
  obtain⟨bk,bv⟩:=b;exactλ{P} e=>GV.el (G:=λbk=>∃l kvs,P l/\Carries (intKind B.prog B.w) ((bk,bv)::bs) kvs/\HM B ω.μ ω.s.heap l kvs) p.1 e λx t e=>(ih (Bn.map e)).elim λl h=>h.elim λkvs h=>⟨_,(x,bv)::kvs,h.1,⟨Hj B.prog B.w x t,rfl,h.2.1⟩,.cons ⟨rfl,p.2⟩ h.2.2⟩
noncomputable def Wl.dct(ω:Wl B fs):Wl B fs:=ω.grow (ω.s.heap.push {cls:= .type "dict",data:= .dict #[]}) ω.s.toks Cg
theorem XA{K:Type}[DecidableEq K] {knd:KeyKind B.prog B.w K}(l:Le [] ω.dct ω₁):ω₁.s.heap.DictOf knd ω.s.heap.objs.size []:=
 b6 (Lo (knd:=knd) ω.s.heap) λo e=>l.keep _ o (λhw=>DL _ (ω.live hw.mem)) AU (Iw (DP (AL _))) e
where b6 {K:Type} [DecidableEq K] {knd:KeyKind B.prog B.w K} {h h':Heap} {a:Addr} {kvs:List (K×Value)} (x:h.DictOf knd a kvs) (k:∀o,h.get? a=some o->h'.get? a=some o):h'.DictOf knd a kvs:=PH x k
theorem oI{K:Type}[DecidableEq K] {knd:KeyKind B.prog B.w K}{mk:List (K×AV)->AO}(D:DK B knd mk){h':Heap}{tk:Nat}{x:List (K×AV)}{kvs:List (K×Value)}(l:Le [] ω.dct ω₁)(q:HM B ω₁.μ ω₁.s.heap x kvs)(hd:h'.DictOf knd ω.s.heap.objs.size (merged [] kvs))(Pt:Fk ω.s.heap.objs.size ω₁.s.heap h')
  (k:KE ω Q R) (e:Q (.ref ω₁.σ.length) (ω₁.σ++[mk (It [] x)])):R (.ref ω.s.heap.objs.size) {ω₁.s with heap:=h',toks:=tk}:=by
 have hf:ω.s.heap.get? ω.s.heap.objs.size=none:=DP (AL _);have lv:∃o,ω.dct.s.heap.get? ω.s.heap.objs.size=some o:=⟨_,Bi _ rfl⟩
 have hm:ω.s.heap.objs.size∉ω₁.μ:=λhm=>(l.new _ hm).elim (λhm=>DL _ (ω.live hm)) λh=>lv.elim λo e=>(Ay _ (e.symm.trans h.1)).elim;have hb:=D3 hf;have hk:∀b o,b≠ω.s.heap.objs.size->ω₁.s.heap.get? b=some o->h'.get? b=some o:=λb o hb e=>(Pt.2 b hb).trans e;have hnt:Fz ω₁.s.heap ω.s.heap.objs.size:=(Fh (XA (knd:=knd) l)).elim λo x=>x.elim λy x=>x.elim λy x=>Gd x.1 λy y e=>by rw[x.2.2]at e;cases e
 have l2:Le [] ω (ω₁.mut _ h' tk hm hb hnt (λh=>absurd h (Iw hf)) hk):=((Le.grow.trans (l.own' λa ha=>Ai.mp ha▸lv)).trans (.mut (.head _))).less (own':=[ω.s.heap.objs.size]) (λy h=>nomatch h) λa ha y=>Ai.mp ha▸hf;refine k _ _ ((ω₁.mut _ h' tk hm hb hnt (λh=>absurd h (Iw hf)) hk).add (mk (It [] x)) ω.s.heap.objs.size hm hb (Iw hf) (D.rep hd ?_)) e (l2.add hf AU) (.ref (by refine CV (ω₁.inv.len) ?_;exact CO));exact(q.mono ⟨λy y e=>JR e,(ID (h':=h') hnt hk).tup⟩).puts .nil Mo
theorem xF:∀{B:Wd}{fs:List Env}{A:Around}{k:Nat}{sc:Scope}{i:I}{w:Fm}{env:Env}{own:List Addr}{Q:AV->St->Prop}{R:Value->Shared->Prop}{pos:Pos}{x:Option Expr}{ks:List (Option Expr)}{vs:List Expr}{ω:Wl B fs}(S:NP B k sc i)(O:Ga fs k A)(F:Bf sc ω env own w)(h:DI (decide (ks.length+1<=15)&&(x::ks).all (λy=>y.isSome)&&((x::ks).length==vs.length)) (i.pairs (x::ks) vs w ω.σ (Rj Q)))(K:KE ω Q R),TW ω A (eval (.Dict (x::ks) vs pos) env) R:=by
 refine@(Ir DO nL Ja nN Kb Xg nL NF ?_);generalize G8 .. =z;generalize z.1=B,z.2.1=fs,z.2.2.1=A,z.2.2.2.1=k,z.2.2.2.2.1=sc,z.2.2.2.2.2.1=i,z.2.2.2.2.2.2.1=w,z.2.2.2.2.2.2.2=env;refine@(Hp nL nQ nQ E4 nO nL nL ?_);generalize GE .. =z;generalize z.1=own,z.2.1=Q,z.2.2.1=R,z.2.2.2.1=pos,z.2.2.2.2.1=x,z.2.2.2.2.2.1=ks,z.2.2.2.2.2.2=vs;intro ω S O F h K;obtain⟨c,h⟩:=DI.el h;obtain⟨c,c3⟩:=Aq.mp c;obtain⟨c1,c2⟩:=Aq.mp c;have hn:=pairTrees_length (x::ks) vs env pos c2 (beq_iff_eq.mp c3);have hl:(pairTrees (x::ks) vs env pos).length<=15:=by refine Ae hn ?_;exact of_decide_eq_true c1
 refine Ae (arm_eval_Dict ..) (Ae (zip_pairTrees _ vs env pos c2 (beq_iff_eq.mp c3)) (Ae (dictDisplay_pairs _ (λe=>by rw[e]at hn;cases hn) (CH hl (by decide))) ?_));refine Ag (BP (Ag ?_));unfold subDict;refine Ag (wpAny_alloc (Ag (Bb ?_)));refine Ae (if_pos hl) ?_;refine Ag (Cb (wpAny_evalPairs_len (S.pairs (pos:=pos) (R:=λus s₁=>us.length<=15->wpAny (model B.prog B.w) A (do for (a,b) in us do dictSet ω.s.heap.objs.size a b) (λy s₁=>R (.ref ω.s.heap.objs.size) s₁) bot s₁) (ω:=ω.dct) h O (F.step .grow) λps us ω1 h l q hus=>?_)) (λus s₁ h₁=>Bb (Cb (h₁.2 (h₁.1▸hl)) (λd s₂ h=>Ax (Ax h)) λy y e=>e)) λy y e=>e);have fin:∀{K:Type}[DecidableEq K] {knd:KeyKind B.prog B.w K}{mk:List (K×AV)->AO}(D:DK B knd mk){x:List (K×AV)}{kvs:List (K×Value)},Carries knd us kvs->HM B ω1.μ ω1.s.heap x kvs->Q (.ref ω1.σ.length) (ω1.σ++[mk (It [] x)])->wpAny (model B.prog B.w) A (do for (a,b) in us do dictSet ω.s.heap.objs.size a b) (λy s₁=>R (.ref ω.s.heap.objs.size) s₁) bot ω1.s:=λ{_} y {knd mk} D {x kvs} c q e=>by
  refine Ag (wpAny_storeAll (knd:=knd) us kvs [] ω1.s _ c (XA l) ?_ λh' hd Pt=>Ax (oI D l q hd Pt K e));refine Ae Ar (Ae (BO ..) (Ae c.length ?_));exact AS hus (by decide)
 replace h:Ok (Hw ω1.σ ps) Q:=h;unfold Hw at h;cases hs:E5 ps with
 |some l=>
  rw[hs]at h;obtain⟨l',kvs,rfl,c,q⟩:=xD q (P:=λl'=>l'=l) (by refine Ae hs ?_;rfl);exact fin dkS c q h
 |none=>
  rw[hs]at h;obtain⟨l',kvs,e,c,q⟩:=xE q (Bn.map h);exact fin dkN c q e
end
noncomputable def Qdn(q:Str×GK):Bool:=GK.casesOn q.2 true (λp=>decide (q.1∈(["len","tuple","list","bytes","str","any","range"]:List Str))&&q.1 != "__name__"&&decide (bootBuiltins q.1=some (Xu p))) (q.1=="Reading")
theorem xG:bV.all Qdn=true:=by kernel_rfl
theorem c6{x:Str}{k:GK}(h:mQ x=some k):Qdn (x,k)=true:=by
 have ok:=xG;unfold mQ at h;generalize bV=l at h ok;induction l with
 |nil=>cases h
 |cons p r ih=>
  obtain⟨e1,e2⟩:=Aq.mp ok;replace h:(if p.1=x then some p.2 else gkL r x)=some k:=h;by_cases c:p.1=x
  .rw[if_pos c]at h;cases c;cases h;exact e1
  .rw[if_neg c]at h;exact ih h e2
theorem XB(p:Vq):∀a,Xu p≠ .ref a:=λa h=>by cases p<;>cases h
section
variable{B:Wd}{fs:List Env}{ω ω₁:Wl B fs}{A:Around}{C:Cl}{k:Nat}{sc:Scope}{j:Scope->I}{i:I}{w:Fm}{env:Env}{own:List Addr}{Q:AV->St->Prop}{R:Value->Shared->Prop}{pos:Pos}{T:Bool->St->Prop}{RB:Bool->Shared->Prop}
section
variable(Z:Bs B)(S:NP B k sc i)(O:Ga fs k A)(F:Bf sc ω env own w)
include Z S O F
theorem R7(HC:PK B C k){g:Str}{es:List Expr}{fv:Value}(hp:es.all I9=true)(h:i.Na es w ω.σ (Hx C g Q))(K:KE ω Q R)(hg:B.mg g=some fv)(hk:Ew B.K fv=true):TW ω A (callWith pos fv [] (backTo pos (starEach es env)) []) R:=
 JT (P:=B.K.In) S hp h O F (λh hP=>Lq hk h hP) λvs cs ω1 n h l r=>⟨Z.X.keeps ω1.inv.base,HC h O hg r (K.after l)⟩
theorem iZ{p:Vq}{es:List Expr}(hp:es.all I9=true)(h:i.Na es w ω.σ (Ro p Q))(K:KE ω Q R):TW ω A (callWith pos (Xu p) [] (backTo pos (starEach es env)) []) R:=
 JT (P:=λa=>True) S hp h O F (λh hP=>Ji (XB p) h hP) λvs cs ω1 n h l r=>⟨trivial,nS Z O p r h (K.after l)⟩
omit Z S O F in
theorem xH:∀{B:Wd}{fs:List Env}{A:Around}{C:Cl}{k:Nat}{sc:Scope}{i:I}{w:Fm}{env:Env}{own:List Addr}{Q:AV->St->Prop}{R:Value->Shared->Prop}{pos:Pos}{f:Str}{es:List Expr}{np:Pos}{ω:Wl B fs}(Z:Bs B)(S:NP B k sc i)(O:Ga fs k A)(F:Bf sc ω env own w)(HC:PK B C k)(hp:es.all I9=true)(h:Xj C sc i f es w ω.σ Q)(K:KE ω Q R),TW ω A (eval (.Call (.Name f np) es [] pos) env) R:=by
 refine@(Ir DO nL Ja nCl nN Kb Xg nL ?_);generalize G8 .. =z;generalize z.1=B,z.2.1=fs,z.2.2.1=A,z.2.2.2.1=C,z.2.2.2.2.1=k,z.2.2.2.2.2.1=sc,z.2.2.2.2.2.2.1=i,z.2.2.2.2.2.2.2=w;refine@(Ir NF nL nQ nQ E4 A8 nL E4 ?_);generalize G8 .. =z;generalize z.1=env,z.2.1=own,z.2.2.1=Q,z.2.2.2.1=R,z.2.2.2.2.1=pos,z.2.2.2.2.2.1=f,z.2.2.2.2.2.2.1=es,z.2.2.2.2.2.2.2=np;intro ω Z S O F HC hp h K;obtain⟨hk,h⟩:=DI.el h;have hk:=of_decide_eq_true hk;cases hg:mQ f with
 |none=>rw[hg]at h;exact Ad h
 |some g=>
  rw[hg]at h;cases g with
  |fn=>
   obtain⟨a,ha,hkp⟩:=Z.fns f (VW hg);exact Call_ (Il Z F hk ha (R7 Z S O F HC hp h K ha hkp))
  |cls=>
   cases beq_iff_eq.mp (c6 hg);exact Call_ (Il Z F hk Z.rd.1 (R7 Z S O F HC hp h K Z.rd.1 Z.rd.2))
  |prim p=>
   obtain⟨c,c3⟩:=Aq.mp (c6 hg);obtain⟨c1,c2⟩:=Aq.mp c;exact Call_ (Xy Z F hk (of_decide_eq_true c1) (bne_iff_ne.mp c2) (of_decide_eq_true c3) (iZ Z S O F hp h K))
omit Z S O F in
theorem i4:∀{B:Wd}{fs:List Env}{A:Around}{C:Cl}{k:Nat}{sc:Scope}{i:I}{w:Fm}{env:Env}{own:List Addr}{Q:AV->St->Prop}{R:Value->Shared->Prop}{pos:Pos}{f:Str}{es:List Expr}{np:Pos}{ω:Wl B fs}(Z:Bs B)(S:NP B k sc i)(O:Ga fs k A)(F:Bf sc ω env own w)(HC:PK B C k)(h:DI (es.all I9) (Nm (Dj w f) (Rn i es w ω.σ C Q) (Xj C sc i f es w ω.σ Q)))(K:KE ω Q R),TW ω A (eval (.Call (.Name f np) es [] pos) env) R:=by
 refine@(Ir DO nL Ja nCl nN Kb Xg nL ?_);generalize G8 .. =z;generalize z.1=B,z.2.1=fs,z.2.2.1=A,z.2.2.2.1=C,z.2.2.2.2.1=k,z.2.2.2.2.2.1=sc,z.2.2.2.2.2.2.1=i,z.2.2.2.2.2.2.2=w;refine@(Ir NF nL nQ nQ E4 A8 nL E4 ?_);generalize G8 .. =z;generalize z.1=env,z.2.1=own,z.2.2.1=Q,z.2.2.2.1=R,z.2.2.2.2.1=pos,z.2.2.2.2.2.1=f,z.2.2.2.2.2.2.1=es,z.2.2.2.2.2.2.2=np;intro ω Z S O F HC h K;obtain⟨hp,h⟩:=DI.el h;cases e:Dj w f with
 |none=>rw[e]at h;exact xH Z S O F HC hp h K
 |some v=>
  rw[e]at h;refine Call_ (Xz F e λc r=>?_);exact onF.el (G:=λc=>wpAny (model B.prog B.w) A (callWith pos c [] (backTo pos (starEach es env)) []) R bot ω.s) r h λg a ha hgk h=>by
   obtain⟨a',ha',vA⟩:=Z.fns g hgk;rw[ha]at ha';cases ha';exact R7 Z S O F HC hp h K ha vA
omit Z S O F in
theorem i5:∀{B:Wd}{fs:List Env}{A:Around}{k:Nat}{sc:Scope}{i:I}{w:Fm}{env:Env}{own:List Addr}{Q:AV->St->Prop}{R:Value->Shared->Prop}{pos:Pos}{o:Expr}{m:Str}{ap:Pos}{es:List Expr}{ω:Wl B fs}(Z:Bs B)(S:NP B k sc i)(O:Ga fs k A)(F:Bf sc ω env own w)(h:DI (plainCall ap pos es&&Dg o&&es.all I9) (i.ev o w ω.σ (Rm i m es w Q)))(K:KE ω Q R),TW ω A (eval (.Call (.Attribute o m ap) es [] pos) env) R:=by
 refine@(Ir DO nL Ja nN Kb Xg nL NF ?_);generalize G8 .. =z;generalize z.1=B,z.2.1=fs,z.2.2.1=A,z.2.2.2.1=k,z.2.2.2.2.1=sc,z.2.2.2.2.2.1=i,z.2.2.2.2.2.2.1=w,z.2.2.2.2.2.2.2=env;refine@(Ir nL nQ nQ E4 Qk A8 E4 nL ?_);generalize G8 .. =z;generalize z.1=own,z.2.1=Q,z.2.2.1=R,z.2.2.2.1=pos,z.2.2.2.2.1=o,z.2.2.2.2.2.1=m,z.2.2.2.2.2.2.1=ap,z.2.2.2.2.2.2.2=es;intro ω Z S O F h K;obtain⟨c,h⟩:=DI.el h;obtain⟨c,c3⟩:=Aq.mp c;obtain⟨c1,c2⟩:=Aq.mp c;obtain⟨c0,c1⟩:=Aq.mp c1;refine MethodCall_ (pl:=(do return (<-importBound o env).getD true)) (S.ev h O F λv cv ω1 h l r=>VU (P:=Ov i es w ω1.σ v Q) r h λmm h=>JT (P:=λa=>True) S c3 h O (F.step l) (λh hP=>Ji (f:= .builtin (NO mm)) (λa h=>AR h) h hP) λvs cs ω2 n h l2 r2=>⟨trivial,nZ Z mm (r.step l2) r2 h (K.after (l.trans l2))⟩) ?_;refine Ae (arm_eval_Call ..) (Ae (Ep c2 ..) ?_);have hform:methodCallForm (es.length+([]:List Keyword).length) (backTo pos (starEach es env)) (backToKw pos (keywordEach [] env))=true:=by
  have e1:(backTo pos (starEach es env)).all (λa=> !a.1)=true:=by
   unfold backTo;refine Ae O5 ?_;exact(oB c3 env pos).1
  unfold methodCallForm;refine Ae e1 ?_;exact decide_eq_true (Pe (of_decide_eq_true c1))
 unfold methodCall calleeOf methodCallPos;refine Ae hform (Ae c0 ?_);rfl
end
end
theorem Ru{c:Prop}{d:Decidable c}{T:Bool->Prop}(h:if c then T true else T false):T (decide c):=by
 by_cases e:c
 .rw[if_pos e]at h;refine Ae (decide_eq_true e) ?_;exact h
 .rw[if_neg e]at h;refine Ae (decide_eq_false e) ?_;exact h
theorem c9{α:Type}[DecidableEq α] {x y:α}{T:Bool->Prop}(h:if x=y then T true else T false):T (x==y):=Ru (T:=T) h
theorem dA{α:Type}[DecidableEq α] {x y:α}{T:Bool->Prop}(h:if x=y then T false else T true):T (!(x==y)):=Ru (T:=λb=>T (!b)) h
theorem tI.el{a b:AV}{d:Prop}{i:Int->Int->Prop}{s:Str->Str->Prop}(h:tI a b d i s):d\/(∃x y,a= .int x/\b= .int y/\i x y)\/∃x y,a= .str x/\b= .str y/\s x y:=by
 cases a with
 |int x=>cases b with
  |int y=>exact .inr (.inl ⟨x,y,rfl,rfl,h⟩)
  |_=>exact .inl h
 |str x=>cases b with
  |str y=>exact .inr (.inr ⟨x,y,rfl,rfl,h⟩)
  |_=>exact .inl h
 |_=>exact .inl h
theorem Je.el:∀{σ:St}{a b:AV}{T:Bool->Prop}{op:CmpOp}(h:Je σ op a b T),Bn (EC σ op a b) T:=by
 refine@(ZG nL W2 W2 nq ?_);generalize cG .. =c;generalize c.1=σ,c.2.1=a,c.2.2.1=b,c.2.2.2=T;intro op h;cases op with
 |Eq=>
  rcases tI.el h with h|⟨x,y,rfl,rfl,h⟩|⟨x,y,rfl,rfl,h⟩
  .exact h
  .exact c9 h
  .exact c9 h
 |NotEq=>
  rcases tI.el h with h|⟨x,y,rfl,rfl,h⟩|⟨x,y,rfl,rfl,h⟩
  .exact h
  .exact dA h
  .exact dA h
 |Lt=>
  rcases tI.el h with h|⟨x,y,rfl,rfl,h⟩|⟨_,_,_,_,h⟩
  .exact Ad h
  .exact Ru h
  .exact Ad h
 |Gt=>
  rcases tI.el h with h|⟨x,y,rfl,rfl,h⟩|⟨_,_,_,_,h⟩
  .exact Ad h
  .exact Ru h
  .exact Ad h
 |_=>exact h
theorem zQ.el:∀{sc:Scope}{w:Fm}{e:Expr}{args:List Expr}(h:LJ sc w e=some args),∃np pos,e= .Call (.Name "range" np) args [] pos/\BJ sc.names "range"=some .globalImplicit/\Dj w "range"=none:=by
 refine@(ZG Kb nL Qk nL ?_);generalize cG .. =z;generalize z.1=sc,z.2.1=w,z.2.2.1=e,z.2.2.2=args;intro h;cases e with
 |Call f as zN p=>cases f with
  |Name f np=>cases zN with
   |nil=>
    replace h:(if f="range"/\BJ sc.names f=some .globalImplicit/\Dj w f=none then some as else none)=some args:=h;by_cases c:f="range"/\BJ sc.names f=some .globalImplicit/\Dj w f=none
    .rw[if_pos c]at h;cases h;obtain⟨rfl,h1,h2⟩:=c;exact⟨_,_,rfl,h1,h2⟩
    .rw[if_neg c]at h;cases h
   |cons _ _=>exact iF h
  |_=>exact iF h
 |_=>exact iF h
section
variable{B:Wd}{fs:List Env}{ω ω₁:Wl B fs}{A:Around}{C:Cl}{k:Nat}{sc:Scope}{j:Scope->I}{i:I}{w:Fm}{env:Env}{own:List Addr}{Q:AV->St->Prop}{R:Value->Shared->Prop}{pos:Pos}{T:Bool->St->Prop}{RB:Bool->Shared->Prop}
def Qdo(T:Bool->St->Prop)(v:AV)(σ:St):Prop:=AV.casesOn v False (λb=>T b σ) (λa=>False) (λa=>False) (λa=>False) (λa=>False) (λa=>False) (λa=>False) (λa=>False)
theorem xI(Z:Bs B)(O:Ga fs k A){op:CmpOp}{a b:AV}{va vb:Value}(p:Rp ω a va)(q:Rp ω b vb)(e:Je ω.σ op a b (KT T ω.σ))(K:KB ω T RB):Wp ω A (compareOp op va vb) λc s₁=>wpAny (model B.prog B.w) A (truthy c) RB bot s₁:=
 cX (Q:=Qdo T) Z O op p q (Je.el e) λv c ω1 q l r=>@Rep.casesOn B ω1.μ ω1.s.heap (λv c x=>Qdo T v ω1.σ->wpAny (model B.prog B.w) A (truthy c) RB bot ω1.s) v c r (λe=>Ad e) (λb e=>GM (K b ω1 e l)) (λx x e=>Ad e) (λx x e=>Ad e) (λx x x x e=>Ad e) (λx x e=>Ad e) (λx e=>Ad e) (λx x e=>Ad e) (λx x e=>Ad e) q
section
variable(S:NP B k sc i)(O:Ga fs k A)(F:Bf sc ω env own w)
include S O F
theorem Rv{e:Expr}(h:i.ev e w ω.σ (NJ T))(K:KB ω T RB)(he:isTrue e env (eval e env)=(do let v<-eval e env;standAt e.pos;holding [v] (truthy v))):TW ω A (isTrue e env (eval e env)) RB:=
 wpAny_isTrue_value (S.ev h O F λv c ω1 h l r=>R3 r h λb tk e=>(K.after l).tok e) he
theorem Qb2(Z:Bs B){e:Expr}(h:Qc7 i e w ω.σ T)(K:KB ω T RB):TW ω A (isTrue e env (eval e env)) RB:=by
 cases e with
 |UnaryOp op x pos=>cases op with
  |Not=>exact wpAny_isTrue_Not (S.Po (show i.Po x w ω.σ (VC T)from h) O F λb ω1 t l=>K (!b) ω1 t l)
  |_=>exact Ad h
 |BoolOp op es pos=>exact wpAny_isTrue_BoolOp (S.LD h O F K)
 |Compare l ops rs pos=>exact bW.el (G:=λops rs=>TW ω A (isTrue (.Compare l ops rs pos) env (eval (.Compare l ops rs pos) env)) RB) h λop r h=>wpAny_isTrue_Compare1 (S.ev (DI.el h).2 O F λy y y h l r=>S.ev h O (F.step l) λy y y h l2 r2=>xI Z O (r.step l2) r2 h (K.after (l.trans l2))) ((Ni (DI.el h).1).set op)
 |Name x p=>exact Rv S O F h K rfl
 |Subscript a b p=>exact Rv S O F h K rfl
 |Attribute a b p=>exact Rv S O F h K rfl
 |Call a b c p=>exact Rv S O F h K rfl
 |_=>exact Ad h
theorem xJ{op:BoolOp}{es:List Expr}(h:mT i op es w ω.σ T)(K:KB ω T RB):TW ω A (allTrue op es env) RB:=by
 cases es with
 |nil=>cases op with
  |And=>exact wpAny_allTrue_And_nil (K.pure h)
  |Or=>exact wpAny_allTrue_Or_nil (K.pure h)
 |cons e es=>cases op with
  |And=>exact wpAny_allTrue_And_cons (S.Po h O F λb ω1 t l=>by
    cases b with
    |true=>exact S.LD t O (F.step l) (K.after l)
    |false=>exact K false ω1 t l)
  |Or=>exact wpAny_allTrue_Or_cons (S.Po h O F λb ω1 t l=>by
    cases b with
    |true=>exact K true ω1 t l
    |false=>exact S.LD t O (F.step l) (K.after l))
omit S O F in
theorem Uq:∀(es:List Expr),(forIn es false λc r=>if r=true then do let ok<-isTrue c env (eval c env);pure (Dv ok)else pure (Dv r):Sem Bool)=pure false
 |[]=>rfl
 |e::es=>by
  refine Ae (HU ..) (Ae (if_neg BM) (Ae (pure_bind ..) ?_));exact Uq es
theorem Qb3{es:List Expr}(h:mT i .And es w ω.σ T)(K:KB ω T RB):TW ω A (QbY es env) RB:=by
 cases es with
 |nil=>exact Ax (K.pure h)
 |cons e es=>
  unfold TW QbY;refine Ae (HU ..) (Ae (if_pos rfl) ?_);exact Ag (Ag (S.Po h O F λb ω1 t l=>Ax (by
   cases b with
   |true=>exact S.ifs t O (F.step l) (K.after l)
   |false=>exact Jq (Uq (env:=env) es) (K false ω1 t l))))
theorem oK(Z:Bs B){e:Expr}{R':List AV×Option Nat->St->Prop}(h:ZS sc i e w ω.σ R')(K:KI A ω R' R):(∀x,foldedSetIterable e env x=pure x)/\TW ω A (eval e env) (λx s₁=>wpAny (model B.prog B.w) A (pyIter x) R bot s₁):=by
 unfold ZS at h;cases hr:LJ sc w e with
 |none=>
  rw[hr]at h;obtain⟨hp,h⟩:=DI.el h;exact⟨(Ni hp).fold env,S.ev h O F λv c ω1 h l r=>w7 Z O.hd r h (K.after l)⟩
 |some args=>
  rw[hr]at h;obtain⟨np,pos,rfl,hk,hf⟩:=zQ.el hr;obtain⟨hp,h⟩:=DI.el h;exact⟨λa=>rfl,Call_ (Xy (v:= .type "range") Z F hk (by decide) (by decide) (by decide +kernel) (JT (P:=λa=>True) S hp h O F (λh hP=>Ji (f:= .type "range") (λa h=>AR h) h hP) λvs cs ω1 n h l r=>⟨trivial,oA O.hd r h (K.after l)⟩))⟩
end
end
section
variable{B:Wd}{fs:List Env}{ω ω' ω₁:Wl B fs}{A:Around}{k:Nat}{sc:Scope}{i:I}{w:Fm}{env:Env}{own:List Addr}{J:Addr}{xs:List AV}{fp:List Addr}{P:Nat->Value->Prop}{LF:Nat->Heap->Prop}
theorem Le.more(x:Le own ω ω')(hl:∃o,ω.s.heap.get? J=some o):Le (J::own) ω ω':=
 ⟨x.mu,λa e=>(x.new a e).imp id λh=>⟨h.1,λhm=>(Au.mp hm).elim (λe'=>hl.elim λo e=>by rw[e',e]at h;cases h.1) h.2⟩,λb o hb ho=>x.keep b o hb λhm=>ho (.tail _ hm),λb o hb ho=>x.WV b o hb λhm=>ho (.tail _ hm),x.flag,λb o ho=>x.live b o λhm=>ho (.tail _ hm),x.same⟩
theorem Bf.live(F:Bf sc ω env own w):∀a∈own,∃o,ω.s.heap.get? a=some o:=λa ha=>(F.own a ha).live
structure Nxt(ω ω':Wl B fs)(J:Addr):Prop where
 σ:ω'.σ=ω.σ
 le:Le [J] ω ω'
 keep:∀b o,b≠J->ω.s.heap.get? b=some o->ω'.s.heap.get? b=some o
 WV:∀{sc:Scope}{env:Env}{own:List Addr}{w:Fm},J∉own->Bf sc ω env own w->Bf sc ω' env own w
theorem Bf.out{h':Heap}{tk:Nat}{hd:J∈Fu fs->Ik ω.s.heap h' J}(F:Bf sc ω env own w)(q:Dq ω J)(nc:∀v,¬ω.s.heap.IsCell J v)(hJ:J∉own)(hk:∀b o,b≠J->ω.s.heap.get? b=some o->h'.get? b=some o):Bf sc (ω.mut J h' tk q.mu q.base q.nt hd hk) env own w:=
 F.to (ID q.nt hk) (λo e=>⟨o.slots,hk _ o (λe=>hJ (e▸F.loc)) e⟩) (λa v y=>y.elim λo z=>⟨o,hk a o (λe=>nc v (e▸⟨o,z⟩)) z.1,z.2⟩) λa ha=>
  have r:=F.own a ha
  r.live.elim λo e=>have e':=hk a o (λe=>hJ (e▸ha)) e;⟨r.mu,r.base,λo2 vs n e2=>r.nt o2 vs n (e.trans (e'.symm.trans e2)),o,e'⟩
theorem oM{h':Heap}{tk:Nat}(q:Dq ω J)(x:Ia ω.s.heap J)(hk:∀b o,b∉[J]->ω.s.heap.get? b=some o->h'.get? b=some o):∃ω':Wl B fs,ω'.s={ω.s with heap:=h',toks:=tk}/\ω'.μ=ω.μ/\Nxt ω ω' J:=
 have hk':∀b o,b≠J->ω.s.heap.get? b=some o->h'.get? b=some o:=λb o hb=>hk b o λhm=>hb (Ai.mp hm)
 ⟨ω.mut J h' tk q.mu q.base q.nt (λa y=>(x.noDict y).elim) hk',rfl,rfl,rfl,.mut (.head _),hk',λhJ F=>F.out q x.zP hJ hk'⟩
theorem VX(G:Zo A ω xs J fp P LF){n:Nat}{x:AV}(hx:xs[n]? =some x)(st:LF n ω.s.heap)(q:Dq ω J){Q:Option Value->Shared->Prop}(hQ:∀c(ω':Wl B fs),Nxt ω ω' J->Dq ω' J->Zo A ω' xs J fp P LF->LF (n+1) ω'.s.heap->Rp ω' x c->Q (some c) ω'.s):wpAny (model B.prog B.w) A (pyNext (.ref J)) Q bot ω.s:=
 G.walks.item n ω.s _ _ (Gm hx) st λc h' tk hP st' hk=>by
  obtain⟨ω',e,em,X⟩:=oM (tk:=tk) q (G.obj _ _ st) hk;have e2:ω'.s.heap=h':=congrArg HH e;have G':=G.step X.le λa ha=>Ai.mp ha▸q;have x':Ia ω'.s.heap J:=G.obj _ _ (e2▸st');refine CV e ?_;exact hQ c ω' X ⟨em▸q.mu,q.base,x'.bZ,x'.alive⟩ G' (e2▸st') (G'.rep n x c hx hP)
theorem VY(G:Zo A ω xs J fp P LF)(st:LF xs.length ω.s.heap)(q:Dq ω J){Q:Option Value->Shared->Prop}(hQ:∀ω':Wl B fs,Nxt ω ω' J->Q none ω'.s):wpAny (model B.prog B.w) A (pyNext (.ref J)) Q bot ω.s:=
 G.walks.done ω.s _ _ st λh' tk hk=>by
  obtain⟨ω',e,_,X⟩:=oM (tk:=tk) q (G.obj _ _ st) hk;refine CV e ?_;exact hQ ω' X
theorem dB:∀(n i:Nat)(ω:Wl B fs),i+n=xs.length->Zo A ω xs J fp P LF->LF i ω.s.heap->Dq ω J->∀{Q:List Value->Shared->Prop},(∀cs(ω':Wl B fs),ω'.σ=ω.σ->Le [J] ω ω'->Dq ω' J->Zo A ω' xs J fp P LF->LF xs.length ω'.s.heap->GY ω' (xs.drop i) cs->Q cs ω'.s)->wpAny (model B.prog B.w) A (draw (.ref J) n) Q bot ω.s
 |0,i,ω,hi,G,st,q,Q,hQ=>by
  have hi:i=xs.length:=hi;exact Ax (hQ [] ω rfl .refl q G (hi▸st) (by refine Ae hi (Ae J7 ?_);exact .nil))
 |n+1,i,ω,hi,G,st,q,Q,hQ=>by
  have hl:i<xs.length:=hi▸Gx (Pf n);show wpAny _ A (pyNext (.ref J)>>=_) Q bot ω.s;refine Ag (VX G (Ap hl) st q λc ω1 X q1 G1 st1 r1=>Ag (Bb (dB n (i+1) ω1 ((FU i n).trans hi) G1 st1 q1 λcs ω2 e l q2 G2 st2 r2=>?_)));refine Ax (hQ (c::cs) ω2 (e.trans X.σ) (X.le.trans l) q2 G2 st2 ?_);refine Ae (Fy hl) ?_;exact .cons (r1.mono (l.TL λa ha=>Ai.mp ha▸q1.nt)) r2
theorem XC{σ:St}{hd:Option Nat}:G9 (D2 σ hd) (GA σ hd) hd=σ:=by
 cases hd with
 |none=>rfl
 |some i=>
  show(σ.modify i (AO.El true)).modify i (AO.El (HP σ i))=σ;refine CS λj=>?_;refine Ae (B4 ..) (Ae (B4 ..) ?_);by_cases Pr:i=j
  .subst Pr;unfold HP;cases σ[i]? with
   |none=>simp
   |some o=>cases o<;>simp[AO.El,AO.fz]
  .cases σ[j]? <;>simp[Pr]
theorem oN{σ:St}{r:Nat}{P:List AV->Prop}(h:mM σ r P):∃xs,P xs/\∃z,σ[r]? =some (.list z xs):=by
 have h:Bn (TS σ r λa xs=>some xs) P:=h;unfold TS RM at h;cases e:σ[r]? with
 |none=>rw[e]at h;exact Ad h
 |some o=>
  rw[e]at h;cases o with
  |list z xs=>exact⟨xs,h,z,rfl⟩
  |_=>exact Ad h
theorem Ur:∀{B:Wd}{fs:List Env}{A:Around}{xs:List AV}{va:Value}{T itf:String}{R:List Value->Shared->Prop}{ω:Wl B fs}(hT:ω.s.TypeIs va T)(hs:typeLookup (.type T) "__iter__"=pure (some (.builtin itf)))(h:∀{Rc:Value->Shared->Prop},KI A ω (λr σ=>r.1=xs/\σ=ω.σ) Rc->wpAny (model B.prog B.w) A (pyIter va) Rc bot ω.s)(K:∀cs(ω':Wl B fs),ω'.σ=ω.σ->Le [] ω ω'->GY ω' xs cs->R cs ω'.s),wpAny (model B.prog B.w) A (unpackItems va xs.length none) R bot ω.s:=by
 refine@(Ir DO nL Ja nL Os nSg nSg nQ ?_);generalize G8 .. =c;generalize c.1=B,c.2.1=fs,c.2.2.1=A,c.2.2.2.1=xs,c.2.2.2.2.1=va,c.2.2.2.2.2.1=T,c.2.2.2.2.2.2.1=itf,c.2.2.2.2.2.2.2=R;intro ω hT hs h K;unfold unpackItems;refine Ag ?_;unfold notIterableAtAll;refine Ag (wpAny_specialOf hT hs (Ax ?_));refine Ag (Bb (h λys hd J fp P LF ω₁ ω₂ e l H G st=>?_));obtain⟨rfl,e⟩:=e;refine Ag (Bb (dB ys.length 0 ω₂ (BO _) G st H.own λcs ω₃ e3 l3 q3 G3 lU r3=>?_));rw[Tu]at r3;rw[if_neg (by rw[r3.length];exact DL _)];refine Ag (Bb (VY G3 lU q3 λω₄ X=>Ax ?_));have l4:=l3.trans X.le;have L:=H.back (own:=[]) (λa ha=>Ai.mp ha▸H.own) l4;refine K cs (ω₄.El (D2 ω₁.σ hd) hd) ?_ (l.trans L) (r3.mono (X.le.TL λa ha=>Ai.mp ha▸q3.nt));show G9 (D2 ω₁.σ hd) ω₄.σ hd=ω.σ;exact Ae (X.σ) (Ae e3 (Ae (H.σ) (Ae XC (Ae e rfl))))
def KA(sc:Scope)(env:Env)(own:List Addr)(ω:Wl B fs)(F:Fm->St->Prop)(R:Shared->Prop):Prop:=∀w(ω':Wl B fs),F w ω'.σ->Le own ω ω'->Bf sc ω' env own w->R ω'.s
theorem KA.after{F:Fm->St->Prop}{R:Shared->Prop}(x:Le own ω₁ ω)(k:KA sc env own ω₁ F R):KA sc env own ω F R:=λw ω' q l f=>k w ω' q (x.trans l) f
structure NQ(B:Wd)(k:Nat)(sc:Scope)(i:I):Prop where
 asg:∀{fs} {ω:Wl B fs}{t v w F A env own c R},i.asg t v w ω.σ F->Ga fs k A->Bf sc ω env own w->Rp ω v c->KA sc env own ω F R->wpAny (model B.prog B.w) A (assign t env c) (λa s=>R s) bot ω.s
 Uh:∀{fs} {ω:Wl B fs}{ts xs w F A env own cs R},i.Uh ts xs w ω.σ F->Ga fs k A->Bf sc ω env own w->GY ω xs cs->ts.all (λt=> !Iu t)=true->KA sc env own ω F R->wpAny (model B.prog B.w) A (assignInOrder ((assignEach ts env).map (λa=>a.2)) cs) (λa s=>R s) bot ω.s
end
section
variable{B:Wd}{fs:List Env}{ω ω' ω₁:Wl B fs}{A:Around}{k:Nat}{sc:Scope}{i:I}{w:Fm}{env:Env}{own:List Addr}{F':Fm->St->Prop}{R:Shared->Prop}
theorem R8{ts:List Expr}(h:ts.all (λt=> !Iu t)=true)(env:Env):(assignEach ts env).length=ts.length/\(assignEach ts env).findIdx? (λa=>a.1)=none/\∀t r,ts=t::r->assignEach ts env=(false,assign t env)::assignEach r env:=by
 induction ts with
 |nil=>exact⟨rfl,rfl,λa a e=>nomatch e⟩
 |cons t r ih=>
  obtain⟨h1,h2⟩:=Aq.mp h;have e:assignEach (t::r) env=(false,assign t env)::assignEach r env:=by
   cases t<;>first|rfl|exact Br h1
  refine⟨by refine Ae e (Ae Al (Ae ((ih h2).1) ?_));rfl,?_,λt' r' e'=>by cases e';exact e⟩;refine Ae e (Ae List.findIdx?_cons (Ae ((ih h2).2.1) ?_));rfl
theorem xK:∀{B:Wd}{fs:List Env}{A:Around}{k:Nat}{sc:Scope}{i:I}{w:Fm}{env:Env}{own:List Addr}{F':Fm->St->Prop}{R:Shared->Prop}{ts:List Expr}{xs:List AV}{cs:List Value}{ω:Wl B fs}(T:NQ B k sc i)(h:Qad i ts xs w ω.σ F')(O:Ga fs k A)(F:Bf sc ω env own w)(q:GY ω xs cs)(hp:ts.all (λt=> !Iu t)=true)(K:KA sc env own ω F' R),wpAny (model B.prog B.w) A (assignInOrder ((assignEach ts env).map (λx=>x.2)) cs) (λx s=>R s) bot ω.s:=by
 refine@(Hp DO nL Ja nN Kb Xg nL ?_);generalize GE .. =c;generalize c.1=B,c.2.1=fs,c.2.2.1=A,c.2.2.2.1=k,c.2.2.2.2.1=sc,c.2.2.2.2.2.1=i,c.2.2.2.2.2.2=w;refine@(Hp NF nL nQ nq nL nL nL ?_);generalize GE .. =c;generalize c.1=env,c.2.1=own,c.2.2.1=F',c.2.2.2.1=R,c.2.2.2.2.1=ts,c.2.2.2.2.2.1=xs,c.2.2.2.2.2.2=cs;intro ω T h O F q hp K;cases ts with
 |nil=>cases q with
  |nil=>exact Ax (K w ω h .refl F)
  |cons _ _=>exact Ad h
 |cons t ts=>cases q with
  |nil=>exact Ad h
  |cons p q=>
   refine Ae ((R8 hp env).2.2 t ts rfl) ?_;obtain⟨_,hp⟩:=Aq.mp hp;exact Ag (Bb (T.asg h O F p λw1 ω1 h l F1=>T.Uh h O F1 (Qi.mono (l.TL λa ha=>(F.own a ha).nt) q) hp (K.after l)))
theorem dC(T:NQ B k sc i){ts:List Expr}{xs:List AV}{c:Value}{ty itf:String}(h:PD i ts w ω.σ F' xs)(O:Ga fs k A)(F:Bf sc ω env own w)(K:KA sc env own ω F' R)(hT:ω.s.TypeIs c ty)(hs:typeLookup (.type ty) "__iter__"=pure (some (.builtin itf)))(hi:∀{Rc:Value->Shared->Prop},KI A ω (λr σ=>r.1=xs/\σ=ω.σ) Rc->wpAny (model B.prog B.w) A (pyIter c) Rc bot ω.s):
  wpAny (model B.prog B.w) A (unpack c (assignEach ts env)) (λa s=>R s) bot ω.s:=by
 obtain⟨hc,h⟩:=DI.el h;obtain⟨hl,hp⟩:=Aq.mp hc;obtain⟨p1,p2,_⟩:=R8 hp env;unfold unpack;refine Ae p1 (Ae p2 (Ae (of_decide_eq_true hl) ?_));exact Ag (Bb (Ur hT hs hi λcs ω1 e l r=>T.Uh (e▸h) O (F.step l) r hp (K.after (l.own' F.live))))
theorem Qb4(Z:Bs B)(S:NP B k sc i)(T:NQ B k sc i){t:Expr}{v:AV}{c:Value}(h:QbL sc i t v w ω.σ F')(O:Ga fs k A)(F:Bf sc ω env own w)(q:Rp ω v c)(K:KA sc env own ω F' R):wpAny (model B.prog B.w) A (assign t env c) (λy s=>R s) bot ω.s:=by
 cases t with
 |Name x pos=>exact wpAny_assign_Name (F.store (of_decide_eq_true (DI.el h).1) q λω' e l Fr=>K _ ω' (e▸(DI.el h).2) l Fr)
 |Attribute o x pos=>
  refine Ae (HI ..) ?_;exact Ag (Bb (S.ev h O F λa co ω1 h l r=>Ag (BP (Ag (Bb (Cb (Qq (P:=RV F' w) (R:=R) Z r (q.step l) h λω2 h l2=>K w ω2 h ((l.own' F.live).trans (l2.own' (F.step l).live)) ((F.step l).step l2)) (λy s2 p2=>JJ p2) λy y x=>x))))))
 |Subscript o ix pos=>
  refine Ae (arm_assign_Subscript ..) ?_;exact Ag (Bb (S.ev h O F λa co ω1 h l r=>Ag (Bb (S.ev h O (F.step l) λb cb ω2 h l2 r2=>Ag (BP (Ag (Bb (Cb (Xo (P:=RV F' w) (R:=R) (r.step l2) r2 (q.step (l.trans l2)) h λω3 h l3=>K w ω3 h (((l.trans l2).trans l3).own' F.live) (F.step ((l.trans l2).trans l3))) (λy s2 p2=>JJ p2) λy y x=>x))))))))
 |Tuple ts x1 pos=>
  refine Ae (arm_assign_Tuple ..) ?_;refine Ag (BP ?_);exact@Rep.casesOn B ω.μ ω.s.heap (λv c y=>QbL sc i (.Tuple ts x1 pos) v w ω.σ F'->wpAny (model B.prog B.w) A (unpack c (assignEach ts env)) (λy s=>R s) bot ω.s) v c q (λe=>Ad e) (λy e=>Ad e) (λy y e=>Ad e) (λy y e=>Ad e) (λy y y y e=>Ad e)
   (λ{l vs n xs} h1 h2 e=>dC (xs:=xs) T e O F K (M5 ⟨_,h1,rfl,_,rfl⟩) J8.lookup λk=>R6 O.hd h1 h2 ⟨rfl,rfl⟩ k)
   (λ{j l} h1 e=>by
    obtain⟨xs,e,z,g⟩:=oN e;have o:=ω.inv.obj j _ l g h1;cases o with
    |list g1 g2=>exact dC (xs:=xs) T e O F K (Heap.IsList.typeIs ⟨_,g1,rfl,_,rfl⟩) slot_list_iter.lookup λk=>Uo O.hd g h1 g1 g2 ⟨rfl,rfl⟩ k)
   (λy y e=>Ad e) (λy y e=>Ad e) h
 |_=>exact Ad h
end
section
variable{B:Wd}{fs:List Env}{ω ω' ω₁:Wl B fs}{A:Around}{k:Nat}{sc:Scope}{i:I}{w:Fm}{env:Env}{own own':List Addr}{J D:Addr}{xs acc:List AV}{fp:List Addr}{P:Nat->Value->Prop}{LF:Nat->Heap->Prop}{hd:Option Nat}
theorem Le.wide(x:Le own ω ω')(hs:∀a∈own,a∈own')(hl:∀a∈own',∃o,ω.s.heap.get? a=some o):Le own' ω ω':=
 ⟨x.mu,λa e=>(x.new a e).imp id λh=>⟨h.1,λhm=>(hl a hm).elim λo e=>Ay _ (e.symm.trans h.1)⟩,λb o hb ho=>x.keep b o hb λhm=>ho (hs b hm),λb o hb ho=>x.WV b o hb λhm=>ho (hs b hm),x.flag,λb o ho=>x.live b o λhm=>ho (hs b hm),x.same⟩
theorem Ia.nf(x:Ia ω.s.heap J):J∉Fu fs:=x.is.elim λo x=>x.elim λnm x=>x.elim λvs x=>Xk x.1 λa a e=>by rw[x.2.2.2]at e;cases e
theorem Hy{α:Type}{m:Sem α}{Q:α->Shared->Prop}{E:Value->Shared->Prop}{s:Shared}(h:wpAny (model B.prog B.w) A m Q bot s):wpAny (model B.prog B.w) A m Q E s:=Cb h (λa a x=>x) λa a x=>x.elim
theorem Qt:∀{B:Wd}{fs:List Env}{A:Around}{J:Addr}{t:Expr}{v:Value}{Q:Unit->Shared->Prop}{ω:Wl B fs}(x:Ia ω.s.heap J)(hQ:Q () ω.s),wpAny (model B.prog B.w) A (letOwnedTupleGo t (.ref J) v) Q bot ω.s:=by
 refine@(Hp DO nL Ja nN Qk Os nQ ?_);generalize GE .. =c;generalize c.1=B,c.2.1=fs,c.2.2.1=A,c.2.2.2.1=J,c.2.2.2.2.1=t,c.2.2.2.2.2.1=v,c.2.2.2.2.2.2=Q;intro ω x hQ;obtain⟨o,nm,vs,h1,h2,h3,h4⟩:=x.is;have go:∀a:Addr,wpAny (model B.prog B.w) A (letOwnedTupleGo (.Tuple [] 0 default) (.ref J) (.ref a)) Q bot ω.s:=λa=>by
  unfold letOwnedTupleGo;refine Ag (wpAny_load h1 ?_);refine Ae h2 (Ae h4 ?_);dsimp only;exact Jq (if_neg λe=>h3 (List.contains_iff_mem.mp (Aq.mp e).1)) hQ
 cases t with
 |Tuple _ _ _=>cases v with
  |ref a=>exact go a
  |_=>exact Ax hQ
 |List _ _=>cases v with
  |ref a=>exact go a
  |_=>exact Ax hQ
 |_=>exact Ax hQ
theorem Dq.held{b:Addr}(H:JL ω ω' hd J)(q:Dq ω b):Dq ω' b:=q.live.elim λo e=>⟨H.μ▸q.mu,q.base,λo2 vs n e2=>q.nt o2 vs n (e.trans ((H.keep b o e).symm.trans e2)),o,H.keep b o e⟩
theorem Bf.held(H:JL ω ω' hd J)(F:Bf sc ω env own w):Bf sc ω' env own w:=
 F.to ⟨λx x e=>H.μ▸e,λx x x e=>H.keep _ _ e⟩ (λo e=>⟨o.slots,H.keep _ o e⟩) (λa v y=>y.elim λo z=>⟨o,H.keep a o z.1,z.2⟩) λa ha=>(F.own a ha).held H
structure Acc(ω:Wl B fs)(D:Addr)(acc:List AV):Prop where
 own:Dq ω D
 at_:∃vs n,ω.s.heap.get? D=some (JA vs n)/\GY ω acc vs.toList
theorem Z2{vs:Array Value}{n:Nat}{h:Heap}(e:h.get? D=some (JA vs n)):Fz h D:=λo' a a e' a=>by rw[e]at e';cases e';exactλe=>absurd (Mm e) (by decide)
theorem Acc.le(q:Acc ω D acc)(x:Le own ω ω')(hW:∀a∈own,Dq ω a)(hD:D∉own):Acc ω' D acc:=
 q.at_.elim λvs y=>y.elim λn y=>have e:=x.keep D _ (λhw=>q.own.mu hw.mem) hD (Xk y.1 λh h e=>nomatch e) y.1;⟨q.own.step x (Z2 e) ⟨_,e⟩,vs,n,e,y.2.mono (x.TL λa ha=>(hW a ha).nt)⟩
theorem Acc.step(q:Acc ω D acc)(x:Le [] ω ω'):Acc ω' D acc:=q.le x (λa h=>nomatch h) AU
theorem Acc.held(H:JL ω ω' hd J)(q:Acc ω D acc):Acc ω' D acc:=q.at_.elim λvs y=>y.elim λn y=>⟨q.own.held H,vs,n,H.keep _ _ y.1,y.2.mono ⟨λa a e=>H.μ▸e,λa a a e=>H.keep _ _ e⟩⟩
theorem OC(F:Bf sc ω env own w)(q:Acc ω D acc):∀a∈D::own,Dq ω a:=AZ.mpr ⟨q.own,F.own⟩
def KC(sc:Scope)(env:Env)(own:List Addr)(ω:Wl B fs)(D:Addr)(K:Fm->List AV->St->Prop)(R:Shared->Prop):Prop:=∀w acc(ω':Wl B fs),K w acc ω'.σ->Le (D::own) ω ω'->Bf sc ω' env own w->Acc ω' D acc->R ω'.s
variable{K:Fm->List AV->St->Prop}{R:Shared->Prop}{v:AV}{c:Value}
theorem Z3:∀{B:Wd}{fs:List Env}{A:Around}{sc:Scope}{w:Fm}{env:Env}{own:List Addr}{D:Addr}{acc:List AV}{K:Fm->List AV->St->Prop}{R:Shared->Prop}{v:AV}{y:Value}{ω:Wl B fs}(F:Bf sc ω env own w)(Ac:Acc ω D acc)(hD:D∉own)(r:Rp ω v y)(h:acc.length<=Ce/\K w (acc++[v]) ω.σ)(k:KC sc env own ω D K R),wpAny (model B.prog B.w) A (call (.builtin "list.append") [.ref D,y]) (λa s=>R s) bot ω.s:=by
 refine@(Hp DO nL Ja Kb nL NF nL ?_);generalize GE .. =c;generalize c.1=B,c.2.1=fs,c.2.2.1=A,c.2.2.2.1=sc,c.2.2.2.2.1=w,c.2.2.2.2.2.1=env,c.2.2.2.2.2.2=own;refine@(Fd nN nL nQ3 nq W2 Os ?_);generalize E2 .. =c;generalize c.1=D,c.2.1=acc,c.2.2.1=K,c.2.2.2.1=R,c.2.2.2.2.1=v,c.2.2.2.2.2=y;intro ω F Ac hD r h k;obtain⟨vs,n,e,q⟩:=Ac.at_;have hu:=VV (K4 λx=>x.push y) e rfl;have hk:∀b o,b≠D->ω.s.heap.get? b=some o->(ω.s.heap.update D (K4 λx=>x.push y)).get? b=some o:=λb o hb e=>(DH _ _ (BV hb)).trans e;have st:=ID Ac.own.nt hk;refine EG FS ⟨_,e,rfl⟩ Jd (IX _ _) (Pb D vs n y (by refine Ae q.size ?_;exact IC h.1)) ⟨e,k w _ (ω.mut D _ ω.s.toks Ac.own.mu Ac.own.base Ac.own.nt (λa y=>(show False from y.elim λo y=>y.elim λes y=>y.elim λep y=>by rw[e]at y;cases y.1;cases y.2).elim) hk) h.2 (.mut (.head _))
  (F.out Ac.own (λv y=>y.elim λo z=>by rw[e]at z;cases z.1;cases z.2) hD hk) ⟨⟨Ac.own.mu,Ac.own.base,Z2 hu,_,hu⟩,_,_,hu,?_⟩⟩
 show Qi B ω.μ _ _ (vs.push y).toList;refine Ae Pc ?_;exact(q.mono st).append (.cons (r.mono st) .nil)
noncomputable def LR(e:Expr)(elt:Expr)(gens:List Comprehension)(d:Nat)(t:Expr)(ifs:List Expr)(acc:Value)(env:Env)(v:Value)(fin:Sem Fin):Sem Fin:=do
 assign t env v
 let ok<-forIn ifs true (λc r=>if r=true then do let ok<-isTrue c env (eval c env);pure (Dv ok)else pure (Dv r))
 if ok=true then
  match gens[d+1]? with
  |some g'=>do
   let x<-eval g'.iter env
   standAt g'.iter.pos
   if(g'.is_async != 0)=true then do
    let x<-foldedIterable g'.iter x
    let i<-holding [x] (if(g'.is_async != 0)=true then asyncIter x else pyIter x)
    let _<-runOwn (.compStart e (d+1) i acc env) env
    fin
   else do
    let x<-foldedSetIterable g'.iter env x
    let i<-holding [x] (if(g'.is_async != 0)=true then asyncIter x else pyIter x)
    let _<-runOwn (.compStart e (d+1) i acc env) env
    fin
  |none=>do
   (do let y<-eval elt env;let _<-call (.builtin "list.append") [acc,y];pure ())
   fin
 else fin
variable{elt:Expr}{gens:List Comprehension}{scope:Scope}{pos:Pos}{d:Nat}{t:Expr}{ifs:List Expr}{Q:Fin->Shared->Prop}{fin:Sem Fin}
theorem XD:∀{elt:Expr}{gens:List Comprehension}{scope:Scope}{pos:Pos}{d:Nat}{t:Expr}{ifs:List Expr}{iter:Expr}(hg:gens[d]? =some ⟨t,iter,ifs,0⟩)(it acc:Value)(env:Env),IY (.ListComp elt gens scope pos) d it acc env=(do
   standAt iter.pos
   match<-pyNext it with
   |none=>pure (.done .next)
   |some v=>do
    letOwnedTupleGo t it v
    LR (.ListComp elt gens scope pos) elt gens d t ifs acc env v (again (.compLoop (.ListComp elt gens scope pos) d it acc env))):=by
 refine@(Ir Qk nL Kb E4 nN Qk nL Qk ?_);generalize G8 .. =c;generalize c.1=elt,c.2.1=gens,c.2.2.1=scope,c.2.2.2.1=pos,c.2.2.2.2.1=d,c.2.2.2.2.2.1=t,c.2.2.2.2.2.2.1=ifs,c.2.2.2.2.2.2.2=iter;intro hg it acc env;unfold IY LR;simp only[hg,show((0:Int) != 0)=false from rfl,CI,if_false];rfl
abbrev TurnOk(B:Wd)(fs:List Env)(A:Around)(sc:Scope)(env:Env)(own:List Addr)(D:Addr)(i:I)(Y:List AV->(Fm->List AV->St->Prop)->Fm->St->Prop)(elt:Expr)(gens:List Comprehension)(scope:Scope)(pos:Pos)(d:Nat)(t:Expr)(ifs:List Expr):Prop:=
 ∀{ω:Wl B fs}{v w acc c K fin Q},i.asg t v w ω.σ (Y acc K)->Bf sc ω env own w->Rp ω v c->Acc ω D acc->KC sc env own ω D K (λs=>wpAny (model B.prog B.w) A fin Q bot s)->wpAny (model B.prog B.w) A (LR (.ListComp elt gens scope pos) elt gens d t ifs (.ref D) env c fin) Q bot ω.s
theorem Us:∀{B:Wd}{fs:List Env}{A:Around}{k:Nat}{sc:Scope}{i:I}{env:Env}{own:List Addr}{D:Addr}{elt:Expr}{gens:List Comprehension}{scope:Scope}{pos:Pos}{d:Nat}{t:Expr}{ifs:List Expr}(S:NP B k sc i)(T:NQ B k sc i)(O:Ga fs k A)(hD:D∉own)(hg:gens[d+1]? =none),TurnOk B fs A sc env own D i (wH i ifs elt) elt gens scope pos d t ifs:=by
 refine@(Ir DO nL Ja nN Kb Xg NF nL ?_);generalize G8 .. =z;generalize z.1=B,z.2.1=fs,z.2.2.1=A,z.2.2.2.1=k,z.2.2.2.2.1=sc,z.2.2.2.2.2.1=i,z.2.2.2.2.2.2.1=env,z.2.2.2.2.2.2.2=own;refine@(Ir nN Qk nL Kb E4 nN Qk nL ?_);generalize G8 .. =z;generalize z.1=D,z.2.1=elt,z.2.2.1=gens,z.2.2.2.1=scope,z.2.2.2.2.1=pos,z.2.2.2.2.2.1=d,z.2.2.2.2.2.2.1=t,z.2.2.2.2.2.2.2=ifs;intro S T O hD hg;intro ω v w acc c K fin Q h F q Ac hK;unfold LR;refine Ag (T.asg h O F q λw1 ω1 h l1 F1=>Ag (S.ifs (T:=CKt i elt acc K w1) h O F1 λb ω2 h l2=>?_));have Ac2:=(Ac.le l1 F.own hD).step l2;have l:=(l1.trans (l2.own' F1.live)).wide (own':=D::own) (λx h=> .tail _ h) λa ha=>(OC F Ac a ha).live;have F2:=F1.step l2;cases b with
 |false=>exact hK w1 acc ω2 h l F2 Ac2
 |true=>
  refine Ae hg ?_;refine Ag (Ag (S.ev h O F2 λy yc ω3 h l3 r3=>Ag (Z3 (F2.step l3) (Ac2.step l3) hD r3 h λw4 acc4 ω4 h l4 F4 A4=>Ax (hK w4 acc4 ω4 h ((l.trans (l3.own' λa ha=>(OC F2 Ac2 a ha).live)).trans l4) F4 A4))))
theorem PL:∀{B:Wd}{fs:List Env}{A:Around}{sc:Scope}{i:I}{env:Env}{own:List Addr}{J D:Addr}{xs:List AV}{fp:List Addr}{P:Nat->Value->Prop}{LF:Nat->Heap->Prop}{K:Fm->List AV->St->Prop}{elt:Expr}{gens:List Comprehension}{scope:Scope}{pos:Pos}{d:Nat}{t:Expr}{ifs:List Expr}{w₀:Fm}{iter:Expr}{R:Result->Shared->Prop}{Y:List AV->(Fm->List AV->St->Prop)->Fm->St->Prop}{Pp:List AV->Fm->List AV->St->Prop}(hn:∀w acc σ,Pp [] w acc σ->K w acc σ)(hc:∀v r w acc σ,Pp (v::r) w acc σ->i.asg t v w σ (Y acc (Rc w₀ (Pp r))))(T:TurnOk B fs A sc env own D i Y elt gens scope pos d t ifs)(hg:gens[d]? =some ⟨t,iter,ifs,0⟩)(hJD:J≠D)(hJ:J∉own),∀(q n:Nat){w:Fm}{acc:List AV}{ω:Wl B fs},n+q=xs.length->Pp (xs.drop n) w acc ω.σ->Zo A ω xs J fp P LF->LF n ω.s.heap->Dq ω J->Bf sc ω env own w->Acc ω D acc->
   (∀w acc(ω':Wl B fs),K w acc ω'.σ->Le (J::D::own) ω ω'->Bf sc ω' env own w->Acc ω' D acc->R (.ok .next) ω'.s)->codeAny (model B.prog B.w) A (.compLoop (.ListComp elt gens scope pos) d (.ref J) (.ref D) env) R ω.s:=by
 refine@(Fd DO nL Ja Kb Xg NF ?_);generalize E2 .. =z;generalize z.1=B,z.2.1=fs,z.2.2.1=A,z.2.2.2.1=sc,z.2.2.2.2.1=i,z.2.2.2.2.2=env;refine@(Fd nL nN nN nL nL nQ ?_);generalize E2 .. =z;generalize z.1=own,z.2.1=J,z.2.2.1=D,z.2.2.2.1=xs,z.2.2.2.2.1=fp,z.2.2.2.2.2=P;refine@(Fd nQ nQ3 Qk nL Kb E4 ?_);generalize E2 .. =z;generalize z.1=LF,z.2.1=K,z.2.2.1=elt,z.2.2.2.1=gens,z.2.2.2.2.1=scope,z.2.2.2.2.2=pos;refine@(Fd nN Qk nL nL Qk nQ ?_);generalize E2 .. =z;generalize z.1=d,z.2.1=t,z.2.2.1=ifs,z.2.2.2.1=w₀,z.2.2.2.2.1=iter,z.2.2.2.2.2=R;intro Y Pp hn hc T hg hJD hJ;intro q;have hD1:D∉[J]:=λhm=>hJD (Ai.mp hm).symm;induction q with
 |zero=>
  intro n w acc ω hq h G st oJ F Ac hR;have hq:n=xs.length:=hq;subst hq;refine HV ?_;show wpAny _ A ((IY (.ListComp elt gens scope pos) d (.ref J) (.ref D) env).onRaise (λx=>do noteFrame x env;theTreesLotGoes x)) _ _ ω.s;refine wpAny_noted (Hy ?_);refine Ae (XD hg ..) ?_;rw[J7]at h;exact Ag (BP (Ag (VY G st oJ λω1 X=>Ax (hR w acc ω1 (hn w acc _ (X.σ▸h)) (X.le.wide (λa ha=>Ai.mp ha▸ .head _) (AZ.mpr ⟨oJ.live,λa ha=>(OC F Ac a ha).live⟩)) (X.WV hJ F) (Ac.le X.le (λa ha=>Ai.mp ha▸oJ) hD1)))))
 |succ q ih=>
  intro n w acc ω hq h G st oJ F Ac hR;have hl:n<xs.length:=hq▸Gx (Pf q);rw[Fy hl]at h;replace h:=hc _ _ _ _ _ h;refine HV ?_;show wpAny _ A ((IY (.ListComp elt gens scope pos) d (.ref J) (.ref D) env).onRaise (λx=>do noteFrame x env;theTreesLotGoes x)) _ _ ω.s;refine wpAny_noted (Hy ?_);refine Ae (XD hg ..) ?_;refine Ag (BP (Ag (VX G (Ap hl) st oJ λc ω1 X q1 G1 st1 r1=>Ag (Qt (G.obj _ _ st1) ?_))));have F1:=X.WV hJ F;have A1:=Ac.le X.le (λa ha=>Ai.mp ha▸oJ) hD1;refine T (X.σ▸h) F1 r1 A1 λw2 acc2 ω2 h2 l2 F2 A2=>Ax ⟨rfl,?_⟩;have hW:=OC F1 A1;have x1:=G.obj _ _ st1;have hJk:∀o,ω1.s.heap.get? J=some o->ω2.s.heap.get? J=some o:=λo e=>l2.keep J o (λhw=>q1.mu hw.mem) (λhm=>(Au.mp hm).elim hJD hJ) x1.nf e;have st2:=G1.bX l2 hW hJk st1;have x2:=G.obj _ _ st2;exact ih (n+1) ((FU n q).trans hq) h2 (G1.step l2 hW) st2 (q1.step l2 x2.bZ x2.alive) (F2.E0 w₀) A2 λw acc ω3 h l3 F3 A3=>hR w acc ω3 h ((X.le.wide (λa ha=>Ai.mp ha▸ .head _) (AZ.mpr ⟨oJ.live,λa ha=>(OC F Ac a ha).live⟩)).trans ((l2.more q1.live).trans l3)) F3 A3
end
section
variable{B:Wd}{fs:List Env}{ω ω' ω₁:Wl B fs}{A:Around}{k:Nat}{sc:Scope}{i:I}{w:Fm}{env:Env}{own own':List Addr}{J D:Addr}{xs acc:List AV}{fp:List Addr}{P:Nat->Value->Prop}{LF:Nat->Heap->Prop}{hd:Option Nat}
variable{elt:Expr}{gens:List Comprehension}{scope:Scope}{pos:Pos}{d:Nat}{t:Expr}{ifs:List Expr}
theorem Bf.El{b:Bool}(F:Bf sc ω env own w):Bf sc (ω.El b hd) env own w:=⟨F.MC,F.loc,F.cell,F.val,λa ha=>have q:=F.own a ha;⟨q.mu,q.base,q.nt,q.live⟩⟩
theorem Acc.El{b:Bool}(q:Acc ω D acc):Acc (ω.El b hd) D acc:=⟨⟨q.own.mu,q.own.base,q.own.nt,q.own.live⟩,q.at_⟩
theorem JL.vB(H:JL ω ω' hd J)(F:Bf sc ω env own w):J∉own:=λhm=>(F.live J hm).elim λo e=>Ay _ (e.symm.trans H.new)
theorem PM:∀{B:Wd}{A:Around}{env:Env}{elt:Expr}{gens:List Comprehension}{scope:Scope}{pos:Pos}{d:Nat}{t:Expr}{ifs:List Expr}{R:Result->Shared->Prop}{iter:Expr}{it acc:Value}{s:Shared}(hg:gens[d]? =some ⟨t,iter,ifs,0⟩)(h0:codeAny (model B.prog B.w) A (.compLoop (.ListComp elt gens scope pos) d it acc env) R s)(h:wpAny (model B.prog B.w) A (pyIter it) (λOn s'=>codeAny (model B.prog B.w) A (.compLoop (.ListComp elt gens scope pos) d On acc env) R s') bot s),codeAny (model B.prog B.w) A (.compStart (.ListComp elt gens scope pos) d it acc env) R s:=by
 refine@(Ir DO Ja NF Qk nL Kb E4 nN ?_);generalize G8 .. =c;generalize c.1=B,c.2.1=A,c.2.2.1=env,c.2.2.2.1=elt,c.2.2.2.2.1=gens,c.2.2.2.2.2.1=scope,c.2.2.2.2.2.2.1=pos,c.2.2.2.2.2.2.2=d;refine@(Hp Qk nL nQ Qk Os Os nSh ?_);generalize GE .. =c;generalize c.1=t,c.2.1=ifs,c.2.2.1=R,c.2.2.2.1=iter,c.2.2.2.2.1=it,c.2.2.2.2.2.1=acc,c.2.2.2.2.2.2=s;intro hg h0 h;refine HV ?_;show wpAny _ A ((compStart (.ListComp elt gens scope pos) d it acc env).onRaise (λx=>do noteFrame x env;standAt theWindowsPlace)) _ _ s;refine wpAny_notedAt ?_;have e:compStart (.ListComp elt gens scope pos) d it acc env=(do
   if(<-ask).params.followText "comprehension-iter-twice" then return<-again (.compLoop (.ListComp elt gens scope pos) d it acc env)
   rule "comprehension.iter-twice"
   standAt iter.pos
   again (.compLoop (.ListComp elt gens scope pos) d (<-pyIter it) acc env)):=by
  unfold compStart;refine Ae (show(clausesOf (.ListComp elt gens scope pos))[d]? =_ from hg) ?_;rfl
 refine Ae e ?_;refine Ag (Qc (wpAny_ite ?_));split
 .first
   |exact Ag (Ax (Ax (Ab rfl h0)))
   |exact Ax (Ab rfl h0)
 .exact Ag (N7 (Ag (BP (Ag (Cb h (λOn s' h'=>Ax (Ab rfl h')) λa a x=>x.elim)))))
theorem oO:∀{B:Wd}{fs:List Env}{A:Around}{k:Nat}{sc:Scope}{i:I}{env:Env}{own:List Addr}{D:Addr}{elt:Expr}{gens:List Comprehension}{scope:Scope}{pos:Pos}{d:Nat}{t:Expr}{ifs:List Expr}{t' On:Expr}{GC:List Expr}(S:NP B k sc i)(T:NQ B k sc i)(O:Ga fs k A)(hD:D∉own)(hg:gens[d+1]? =some ⟨t',On,GC,0⟩)(hg2:gens[d+1+1]? =none),TurnOk B fs A sc env own D i (mP i ifs On t' GC elt) elt gens scope pos d t ifs:=by
 refine@(I8 DO nL Ja nN Kb ?_);generalize Ke .. =z;generalize z.1=B,z.2.1=fs,z.2.2.1=A,z.2.2.2.1=k,z.2.2.2.2=sc;refine@(I8 Xg NF nL nN Qk ?_);generalize Ke .. =z;generalize z.1=i,z.2.1=env,z.2.2.1=own,z.2.2.2.1=D,z.2.2.2.2=elt;refine@(Xe nL Kb E4 nN Qk nL Qk Qk nL ?_);generalize Ql .. =z;generalize z.1=gens,z.2.1=scope,z.2.2.1=pos,z.2.2.2.1=d,z.2.2.2.2.1=t,z.2.2.2.2.2.1=ifs,z.2.2.2.2.2.2.1=t',z.2.2.2.2.2.2.2.1=On,z.2.2.2.2.2.2.2.2=GC;intro S T O hD hg hg2;intro ω v w acc c K fin Q h F q Ac hK;unfold LR;refine Ag (T.asg h O F q λw1 ω1 h l1 F1=>Ag (S.ifs (T:=wJ i On t' GC elt acc K w1) h O F1 λb ω2 h l2=>?_));have Ac2:=(Ac.le l1 F.own hD).step l2;have l:=(l1.trans (l2.own' F1.live)).wide (own':=D::own) (λy h=> .tail _ h) λa ha=>(OC F Ac a ha).live;have F2:=F1.step l2;cases b with
 |false=>exact hK w1 acc ω2 h l F2 Ac2
 |true=>
  refine Ae hg ?_;replace h:i.items On w1 ω2.σ (wI i t' GC elt acc K w1):=h;have it:=S.items (Rc:=λitv s=>wpAny (model B.prog B.w) A (do let _<-runOwn (.compStart (.ListComp elt gens scope pos) (d+1) itv (.ref D) env) env;fin) Q bot s) h O F2 λxs hd J fp P St ω3 ω4 h l3 H G st=>by
   have F3:=F2.step l3;have A3:=Ac2.step l3;have hJD:J≠D:=λe=>A3.own.live.elim λo e'=>Ay _ (e'.symm.trans (e▸H.new));have F4:=F3.held H;have A4:=A3.held H;have loop:codeAny (model B.prog B.w) A (.compLoop (.ListComp elt gens scope pos) (d+1) (.ref J) (.ref D) env) (λr s'=>match r with| .ok f=>wpAny (model B.prog B.w) A fin Q bot s'| .error e=>False) ω4.s:=
    PL (K:=mO K ω3.σ hd) (Y:=wH i GC elt) (w₀:=w1) (Pp:=TU i t' GC elt w1 (mO K ω3.σ hd)) (λy y y h=>h) (λy y y y y h=>h) (Us S T O hD hg2) hg hJD (H.vB F3) xs.length 0 (BO _) (H.σ▸h) G st H.own F4 A4 λw5 acc5 ω5 h l5 F5 A5=>
     hK w5 acc5 (ω5.El (D2 ω3.σ hd) hd) h ((l.trans (l3.own' λa ha=>(OC F2 Ac2 a ha).live)).trans (H.back (own:=D::own) (AZ.mpr ⟨H.own,OC F4 A4⟩) l5)) F5.El A5.El
   exact Ag (wpAny_runOwn (GQ (PM hg loop (G.walks.self 0 _ _ _ st loop)) λr s' hr=>by
    cases r with
    |ok f=>exact hr
    |error e=>exact hr.elim))
  refine Ag (Cb it.2 (λx s3 p3=>Ag (BP ?_)) λy y x=>x);simp only[show((0:Int) != 0)=false from rfl,CI,if_false];exact Ag (Jq (it.1 x) (Ag (Bb p3)))
noncomputable def VZ(cells:List (Str×Addr))(p:Str×NameKind)(acc:List (Str×Addr)):List (Str×Addr):=if(p.2== .free)=true then AH (cells.lookup p.1) acc λa=>(p.1,a)::acc else acc
noncomputable def IE(cells:List (Str×Addr)):List (Str×NameKind)->List (Str×Addr)->List (Str×Addr)
 |[],acc=>acc
 |p::r,acc=>IE cells r (VZ cells p acc)
theorem Ut(names:List (Str×NameKind)):∀acc:List (Str×Addr),(∀p∈names,p.2= .free->∃a,env.cells.lookup p.1=some a)->
   (forIn names acc (λ(x:Str×NameKind)(cs:List (Str×Addr))=>if(x.2==Cq)=true then do let a<-cellOf env x.1;pure (Dv ((x.1,a)::cs))else pure (Dv cs)):Sem (List (Str×Addr)))=pure (IE env.cells names acc):=by
 induction names with
 |nil=>exactλacc h=>rfl
 |cons p r ih=>
  intro acc hp;refine Ae (HU ..) ?_;have ih':=ih (VZ env.cells p acc) λq hq=>hp q (.tail _ hq);show _=pure (IE env.cells r (VZ env.cells p acc));refine CV ih' ?_;unfold VZ;by_cases hk:(p.2==Cq)=true
  .obtain⟨a,ha⟩:=hp p (.head _) (beq_iff_eq.mp hk);refine Ae (if_pos hk) (Ae (if_pos hk) (Ae ha ?_));unfold cellOf;refine Ae ha ?_;rfl
  .refine Ae (if_neg hk) (Ae (if_neg hk) ?_);rfl
theorem Z4{scope:Scope}(hf:∀p∈scope.names,p.2= .free->∃a,env.cells.lookup p.1=some a):closureFor scope env=pure (IE env.cells scope.names []):=by
 unfold closureFor
 first
  |exact Ut scope.names [] hf
  |(simp only[bind_pure];exact Ut scope.names [] hf)
theorem oP:∀{cells acc:List (Str×Addr)}{p:Str×NameKind}{q:Str×Addr}(h:q∈VZ cells p acc),q∈acc\/cells.lookup q.1=some q.2:=by
 refine@(MT nL nL ?_);generalize Uj .. =c;generalize c.1=cells,c.2=acc;intro p q h;unfold VZ at h;by_cases hk:(p.2==Cq)=true
 .rw[if_pos hk]at h;cases e:cells.lookup p.1 with
  |none=>rw[e]at h;exact .inl h
  |some a=>rw[e]at h;exact(Au.mp h).elim (λh=> .inr (by refine Ae h ?_;exact e)) .inl
 .rw[if_neg hk]at h;exact .inl h
theorem oQ{cells:List (Str×Addr)}{p:Str×NameKind}{acc:List (Str×Addr)}{q:Str×Addr}(h:q∈acc):q∈VZ cells p acc:=by
 unfold VZ;by_cases hk:(p.2==Cq)=true
 .refine Ae (if_pos hk) ?_;cases cells.lookup p.1 with
  |none=>exact h
  |some a=>exact .tail _ h
 .refine Ae (if_neg hk) ?_;exact h
theorem i6{cells:List (Str×Addr)}{names:List (Str×NameKind)}:∀{acc:List (Str×Addr)}{q:Str×Addr},q∈IE cells names acc->q∈acc\/cells.lookup q.1=some q.2:=by
 induction names with
 |nil=>exact .inl
 |cons p r ih=>exactλh=>(ih h).elim oP .inr
theorem i7{cells:List (Str×Addr)}{names:List (Str×NameKind)}:∀{acc:List (Str×Addr)}{q:Str×Addr},q∈acc->q∈IE cells names acc:=by
 induction names with
 |nil=>exact id
 |cons p r ih=>exactλh=>ih (oQ h)
theorem i8{cells:List (Str×Addr)}{names:List (Str×NameKind)}{x:Str}{a:Addr}(ha:cells.lookup x=some a):∀{acc:List (Str×Addr)},(x,Cq)∈names->(x,a)∈IE cells names acc:=by
 induction names with
 |nil=>exactλh=>nomatch h
 |cons p r ih=>
  intro acc h;cases h with
  |head=>exact i7 (acc:=VZ cells (x,.free) acc) (by show(x,a)∈(if(Cq==Cq)=true then AH (motive:=λy=>List (Str×Addr)) (cells.lookup x) acc λa=>(x,a)::acc else acc);refine Ae (if_pos (beq_self_eq_true _)) (Ae ha ?_);exact .head _)
  |tail _ h=>exact ih h
theorem Qu:∀{x:Str}{α:Type}{l:List (Str×α)}{a:α}(h:(x,a)∈l),∃b,l.lookup x=some b:=by
 refine@(MS A8 ?_);generalize ZF .. =x;intro α l a h;induction l with
 |nil=>cases h
 |cons p r ih=>
  obtain⟨y,b⟩:=p;refine Ae C7 ?_;cases hb:x==y with
  |true=>exact⟨b,rfl⟩
  |false=>cases h with
   |head=>rw[beq_self_eq_true]at hb;cases hb
   |tail _ h=>exact ih h
theorem R9{cells:List (Str×Addr)}{names:List (Str×NameKind)}{x:Str}{a:Addr}(h:(IE cells names []).lookup x=some a):cells.lookup x=some a:=(i6 (mem_of_lookup h)).elim (λh=>nomatch h) id
theorem V0{cells:List (Str×Addr)}{names:List (Str×NameKind)}{x:Str}{a:Addr}(h:(x,Cq)∈names)(ha:cells.lookup x=some a):(IE cells names []).lookup x=some a:=by
 obtain⟨b,hb⟩:=Qu (i8 (acc:=[]) ha h);rw[R9 hb]at ha;cases ha;exact hb
theorem LS:∀{env:Env}{names:List (Str×NameKind)}{x:Str}{kd:NameKind}(h:names.lookup x=some kd),(names.map λ(n,k)=>if(k==Cq&&env.scope.kind== .function&&env.kindOf n==some .cell)=true then(n,Hr)else(n,k)).lookup x=some (if(kd==Cq&&env.scope.kind== .function&&env.kindOf x==some .cell)=true then .cell else kd):=by
 refine@(TN NF nL A8 ?_);generalize W1 .. =z;generalize z.1=env,z.2.1=names,z.2.2=x;intro kd h;induction names with
 |nil=>cases h
 |cons p r ih=>
  obtain⟨y,k'⟩:=p;have e:∀(c:Prop)[Decidable c],(if c then(y,Hr)else(y,k'))=(y,if c then .cell else k'):=λc a=>by by_cases h:c<;>simp[h]
  rw[C7]at h;refine Ae AW ?_;dsimp only;refine Ae (e ..) (Ae C7 ?_);cases hb:x==y with
  |true=>rw[hb]at h;cases h;exact Ae (beq_iff_eq.mp hb) rfl
  |false=>rw[hb]at h;exact ih h
theorem V1{names:List (Str×NameKind)}{x:Str}{v:AV}(h:Dj (B3 w names) x=some v):(x,Cq)∈names/\Dj w x=some v:=by
 induction names with
 |nil=>cases h
 |cons p r ih=>
  obtain⟨y,kd⟩:=p;have go:Dj (B3 w r) x=some v->(x,Cq)∈(y,kd)::r/\Dj w x=some v:=λh=>⟨.tail _ (ih h).1,(ih h).2⟩
  cases kd with
  |free=>
   replace h:Dj (AH (motive:=λa=>Fm) (Dj w y) (B3 w r) λv=>(y,v)::B3 w r) x=some v:=h;cases e:Dj w y with
   |none=>rw[e]at h;exact go h
   |some u=>
    rw[e]at h;replace h:(if y=x then some u else Dj (B3 w r) x)=some v:=h;by_cases hx:y=x
    .rw[if_pos hx]at h;subst hx;exact⟨.head _,e.trans h⟩
    .rw[if_neg hx]at h;exact go h
  |_=>exact go h
structure Qb5(sc scope:Scope)(p:Str×NameKind):Prop where
 cell:p.2≠ .cell
 loc:p.2= .local->scope.names.lookup p.1=some .local
 free:p.2= .free->BJ sc.names p.1=some .cell/\BJ scope.names p.1=some .free
theorem JK.at{scope:Scope}(hc:JK sc scope=true):Di scope=true/\∀p∈scope.names,Qb5 sc scope p:=by
 obtain⟨h0,hc⟩:=Aq.mp hc;refine⟨h0,λp hp=>?_⟩;obtain⟨h1,h3⟩:=Aq.mp (Az.mp hc p hp);obtain⟨h1,h2⟩:=Aq.mp h1;refine⟨bne_iff_ne.mp h1,λe=>?_,λe=>?_⟩
 .refine CV (DC ..) ?_;exact(M6.mp h2).elim (λh=>absurd e (bne_iff_ne.mp h)) beq_iff_eq.mp
 .exact(M6.mp h3).elim (λh=>absurd e (bne_iff_ne.mp h)) λh=>⟨beq_iff_eq.mp (Aq.mp h).1,beq_iff_eq.mp (Aq.mp h).2⟩
theorem Di.fn{scope:Scope}(c:Di scope=true):scope.kind= .function:=beq_iff_eq.mp (Aq.mp c).1
theorem oR{scope:Scope}{L:Addr}(F:QbV sc env)(hc:JK sc scope=true):QbV scope (compEnvC scope (IE env.cells scope.names []) L env):=
 ⟨(JK.at hc).1,show scope.kind= .function from Di.fn (JK.at hc).1,F.glob,F.blt,λx kd hx Gk=>by
  show(relabel scope env).names.lookup x=some kd;unfold relabel;refine Ae (LS (DC _ _▸hx)) (Ae (show(kd==Cq)=false from beq_eq_false_iff_ne.mpr Gk) ?_);rfl,λx y c hx hy=>F.apart x y c (R9 hx) (R9 hy)⟩
theorem Z5:∀{B:Wd}{fs:List Env}{sc:Scope}{w:Fm}{env:Env}{own:List Addr}{scope:Scope}{L:Addr}{ω ω':Wl B fs}(F:Bf sc ω env own w)(hc:JK sc scope=true)(x:Le [] ω ω')(hn:ω'.s.heap.Ns L (λu=>none))(hf:ω.s.heap.get? L=none)(o:Dq ω' L),Bf scope ω' (compEnvC scope (IE env.cells scope.names []) L env) [L] (B3 w scope.names):=by
 refine@(Ir DO nL Kb nL NF nL Kb nN ?_);generalize G8 .. =z;generalize z.1=B,z.2.1=fs,z.2.2.1=sc,z.2.2.2.1=w,z.2.2.2.2.1=env,z.2.2.2.2.2.1=own,z.2.2.2.2.2.2.1=scope,z.2.2.2.2.2.2.2=L;intro ω ω' F hc x hn hf o;obtain⟨c1,c2⟩:=JK.at hc;have F':=F.step x;refine⟨oR F.MC hc,.head _,λy hy=>absurd rfl (c2 _ (PI hy)).cell,⟨_,hn,λy v hy=>?_⟩,λb hb=>Ai.mp hb▸o⟩;obtain⟨h1,h2⟩:=V1 hy;obtain⟨h3,h4⟩:=(c2 _ h1).free rfl;obtain⟨m,hm',hv⟩:=F'.val;obtain⟨_,c,h5,h6⟩:=hv y v h2;have hkc:env.kindOf y=some .cell:=F.MC.names y _ h3 (by decide);refine⟨⟨_,h4⟩,c,h5,h6.elim (λh=>?_) λh=>?_⟩
 .rw[hkc]at h;cases h.1
 .obtain⟨_,a,h7,h8,h9⟩:=h;refine .inr ⟨.inl ?_,a,V0 h1 h7,h8,λe=>?_⟩
  .show(relabel scope env).names.lookup y=some .cell;unfold relabel;refine Ae (LS (DC _ _▸h4)) (Ae hkc (Ae F.MC.kind ?_));rfl
  .obtain⟨cx,v,k1,k2,k3,k4⟩:=F.cell y h3;rw[h7]at k1;cases k1;obtain⟨q,hq,_⟩:=k4;rw[show a=L from e,hf]at hq;cases hq
end
section
variable{B:Wd}{fs:List Env}{ω ω' ω₁:Wl B fs}{A:Around}{k:Nat}{sc:Scope}{j:Scope->I}{i:I}{w:Fm}{env:Env}{own own':List Addr}{J D:Addr}{xs acc:List AV}{fp:List Addr}{P:Nat->Value->Prop}{LF:Nat->Heap->Prop}{hd:Option Nat}{Q:AV->St->Prop}{R:Value->Shared->Prop}
variable{elt:Expr}{gs:List Comprehension}{scope:Scope}{pos:Pos}
theorem JL.grow(H:JL ω₁ ω hd J){h':Heap}{tk:Nat}{hk:∀b o,ω.s.heap.get? b=some o->h'.get? b=some o}:JL ω₁ (ω.grow h' tk hk) hd J:=
 ⟨H.σ,H.μ,λb o e=>hk b o (H.keep b o e),H.same.elim λh y=>y.elim λt e=>⟨h',tk,by show{ω.s with heap:=h',toks:=tk}=_;exact Ae e rfl⟩,H.new,H.own.step (W:=[]) .grow (H.own.live.elim λo e=>λo2 vs n e2=>H.own.nt o2 vs n (e.trans ((hk J o e).symm.trans e2))) (H.own.live.elim λo e=>⟨o,hk J o e⟩),H.hd⟩
theorem dD{a:Addr}(x:Le [] ω ω')(e:ω'.s.heap.get? a=none):ω.s.heap.get? a=none:=A9.mpr λo h=>(x.live a o AU h).elim λo' e'=>Ay _ (e'.symm.trans e)
theorem JL.none(H:JL ω ω' hd J){a:Addr}(e:ω'.s.heap.get? a=none):ω.s.heap.get? a=none:=A9.mpr λo h=>Ay _ ((H.keep a o h).symm.trans e)
structure Qal(sc scope:Scope)(ω₁ ω:Wl B fs)(hd:Option Nat)(J D L:Addr)(WX:Env)(w:Fm):Prop where
 H:JL ω₁ ω hd J
 nD:ω₁.s.heap.get? D=none
 nL:ω₁.s.heap.get? L=none
 ne:D≠L
 F:Bf scope ω WX [L] w
 A:Acc ω D []
 loc:WX.locals=L
theorem oS:∀{B:Wd}{fs:List Env}{sc:Scope}{J D:Addr}{acc:List AV}{hd:Option Nat}{Q:AV->St->Prop}{scope:Scope}{L:Addr}{WX:Env}{w0 w:Fm}{ω ω' ω₁ ω₃:Wl B fs}(W:Qal sc scope ω₁ ω' hd J D L WX w0)(l:Le [] ω ω₁)(h:GX Q ω₁.σ hd w acc ω₃.σ)(l3:Le (J::D::[L]) ω' ω₃)(F:Bf scope ω₃ WX [L] w)(Ac:Acc ω₃ D acc),∃(v:AV)(ω₄:Wl B fs),ω₄.s=ω₃.s/\Q v ω₄.σ/\Le [] ω ω₄/\Rp ω₄ v (.ref D)/\L∉ω₄.μ/\ω.s.heap.get? L=none/\B.h₀.get? L=none/\∃m,ω₄.s.heap.Ns L m:=by
 refine@(Hp DO nL Kb nN nN nL nO ?_);generalize GE .. =c;generalize c.1=B,c.2.1=fs,c.2.2.1=sc,c.2.2.2.1=J,c.2.2.2.2.1=D,c.2.2.2.2.2.1=acc,c.2.2.2.2.2.2=hd;refine@(Fd nQ Kb nN NF nL nL ?_);generalize E2 .. =c;generalize c.1=Q,c.2.1=scope,c.2.2.1=L,c.2.2.2.1=WX,c.2.2.2.2.1=w0,c.2.2.2.2.2=w;intro ω ω' ω₁ ω₃ W l h l3 F Ac;have b:=W.H.back (own:=[D,L]) (AZ.mpr ⟨W.H.own,OC W.F W.A⟩) l3;have b:=l.trans (b.less (own:=[]) (λx h=>nomatch h) λa ha x=>(Au.mp ha).elim (λe=>e▸W.nD) λh=>Ai.mp h▸W.nL);have nD:=dD l W.nD;obtain⟨vs,n,e,r⟩:=Ac.at_;obtain⟨m,Nb,_⟩:=F.val;have hL:=(F.own L (.head _)).mu;refine⟨_,(ω₃.El (D2 ω₁.σ hd) hd).add (.list false acc) D Ac.own.mu Ac.own.base (Iw (ω:=ω) nD) (.list e (r.mono ⟨λx x e=>JR e,λx x x e=>e⟩)),rfl,h.2,b.add nD AU,.ref ?_,λhm=>(An.mp hm).elim hL λh=>W.ne (Ai.mp h).symm,dD l W.nL,(F.own L (.head _)).base,m,W.loc▸Nb⟩;show(ω₃.μ++[D])[(ω₃.El (D2 ω₁.σ hd) hd).σ.length]? =some D;refine CV ((ω₃.El (D2 ω₁.σ hd) hd).inv.len) ?_;exact CO
def KU(ω:Wl B fs)(A:Around)(use:Option (Value->Sem Unit))(Q:AV->St->Prop)(R:Value->Shared->Prop):Prop:=∀D L v(ω':Wl B fs)m,ω.s.heap.get? L=none->B.h₀.get? L=none->ω'.s.heap.Ns L m->L∉ω'.μ->Q v ω'.σ->Le [] ω ω'->Rp ω' v (.ref D)->compPost (model B.prog B.w) A bot use R (.ref D) L (.ok .next) ω'.s
theorem i9:∀{B:Wd}{fs:List Env}{A:Around}{k:Nat}{sc:Scope}{i:I}{w:Fm}{env:Env}{own:List Addr}{Q:AV->St->Prop}{R:Value->Shared->Prop}{elt:Expr}{gs:List Comprehension}{scope:Scope}{pos pp:Pos}{use:Option (Value->Sem Unit)}{ω:Wl B fs}{j:Scope->I}(S:NP B k sc i)(Sj:NP B k scope (j scope))(Tj:NQ B k scope (j scope)){g:Comprehension}(h:mR sc j i elt (g::gs) scope w ω.σ Q)(O:Ga fs k A)(F:Bf sc ω env own w)(K:KU ω A use Q R),wpAny (model B.prog B.w) A (comprehension (.ListComp elt (g::gs) scope pos) scope env pp (newList []) false (eval g.iter env) use) R bot ω.s:=by
 refine@(Xe DO nL Ja nN Kb Xg nL NF nL ?_);generalize Ql .. =z;generalize z.1=B,z.2.1=fs,z.2.2.1=A,z.2.2.2.1=k,z.2.2.2.2.1=sc,z.2.2.2.2.2.1=i,z.2.2.2.2.2.2.1=w,z.2.2.2.2.2.2.2.1=env,z.2.2.2.2.2.2.2.2=own;refine@(Ir nQ nQ Qk nL Kb E4 E4 nO ?_);generalize G8 .. =z;generalize z.1=Q,z.2.1=R,z.2.2.1=elt,z.2.2.2.1=gs,z.2.2.2.2.1=scope,z.2.2.2.2.2.1=pos,z.2.2.2.2.2.2.1=pp,z.2.2.2.2.2.2.2=use;intro ω j S Sj Tj g h O F K;obtain⟨t,it,ifs,asy⟩:=g;obtain rfl:asy=0:=of_decide_eq_true (Aq.mp (DI.el h).1).1;obtain⟨hc,h⟩:=DI.el h;replace hc:=(Aq.mp hc).2;obtain⟨c1,c2⟩:=JK.at hc;have hfun:=Di.fn c1;have hclo:closureFor scope env=pure (IE env.cells scope.names []):=Z4 λp hp vX=>(F.cell p.1 ((c2 p hp).free vX).1).elim λc y=>y.elim λv y=>⟨c,y.1⟩
 have itm:=S.items (Rc:=λitv s=>wpAny (model B.prog B.w) A (newList []) (λacc s₃=>wpAny (model B.prog B.w) A (newFunctionEnv scope env.globals (IE env.cells scope.names []) [] env.qual none .none (some env)) (λWX s₄=>
    codeAny (model B.prog B.w) A (.compStart (.ListComp elt (⟨t,it,ifs,0⟩::gs) scope pos) 0 itv acc {WX with scope:=relabel scope env}) (compPost (model B.prog B.w) A bot use R acc WX.locals) s₄) bot s₃) bot s) h O F λxs hd J fp P St ω1 ω2 h l H G st=>by
  refine Pg (wpAny_newFunctionEnv (λp hp=>(c2 p hp).cell) (λy hy=>nomatch hy) (λh₁ hns₁ zT=>?_) hfun);dsimp only at hns₁ zT⊢;generalize hH2:ω2.s.heap.push {cls:= .type "list",dict:=none,data:= .seq ([]:List Value).toArray}=H2 at hns₁ zT⊢;have hL:H2.objs.size=ω2.s.heap.objs.size+1:=by exact CV hH2 (Ae (Mx ..) rfl)
  have hDL:ω2.s.heap.objs.size≠H2.objs.size:=hL▸Ea (Hl _);have old:∀b o,ω2.s.heap.get? b=some o->h₁.get? b=some o:=λb o e=>zT.extBut b o (hL▸Ea (Pe (D8 e))) (Ba _ (hH2▸Ba _ e));have hDat:h₁.get? ω2.s.heap.objs.size=some (JA #[] 0):=zT.extBut _ _ hDL (Ba _ (hH2▸Bi _ rfl));have nD:ω2.s.heap.get? ω2.s.heap.objs.size=none:=DP (AL _);have nL:ω2.s.heap.get? H2.objs.size=none:=DP (hL▸Jr _);have Nb:h₁.Ns H2.objs.size (λa=>none):=hns₁;have gr:Le [] ω2 (ω2.grow h₁ (ω2.s.toks+([]:List (Str×Value)).length) old):= .grow;have F2:=(F.step l).held H;have W:Qal sc scope ω1 (ω2.grow h₁ (ω2.s.toks+([]:List (Str×Value)).length) old) hd J ω2.s.heap.objs.size H2.objs.size (compEnvC scope (IE env.cells scope.names []) H2.objs.size env) (B3 w scope.names):=
   ⟨H.grow,H.none nD,H.none nL,hDL,Z5 F2 hc gr Nb nL ⟨λhm=>(ω2.iA hm).elim λo y=>Ay _ (y.1.symm.trans nL),D3 nL,Gn Nb,(Hb Nb).elim λo y=>y.elim λa y=>y.elim λa y=>⟨o,y.1⟩⟩,⟨⟨λhm=>DL _ (ω2.live hm),D3 nD,Z2 hDat,_,hDat⟩,_,_,hDat,.nil⟩,rfl⟩
  have fin:∀w acc(ω4:Wl B fs),GX Q ω1.σ hd w acc ω4.σ->Le (J::ω2.s.heap.objs.size::[H2.objs.size]) (ω2.grow h₁ (ω2.s.toks+([]:List (Str×Value)).length) old) ω4->Bf scope ω4 (compEnvC scope (IE env.cells scope.names []) H2.objs.size env) [H2.objs.size] w->Acc ω4 ω2.s.heap.objs.size acc->compPost (model B.prog B.w) A bot use R (.ref ω2.s.heap.objs.size) H2.objs.size (.ok .next) ω4.s:=λw acc ω4 e l4 F4 A4=>by
   obtain⟨v,ω5,es,q,l5,r,hm,n1,n2,m,Nb⟩:=oS W l e l4 F4 A4;refine CV es ?_;exact K _ _ v ω5 m n1 n2 Nb hm q l5 r
  have G3:=G.step gr λa h=>nomatch h
  have lU:=G.bX gr (λa h=>nomatch h) (λo e=>old J o e) st;have hJD:J≠ω2.s.heap.objs.size:=λe=>H.own.live.elim λo e'=>Ay _ (e'.symm.trans (e▸nD));have hJL:J∉[H2.objs.size]:=λe=>H.own.live.elim λo e'=>Ay _ (e'.symm.trans (Ai.mp e▸nL));have hDL':ω2.s.heap.objs.size∉[H2.objs.size]:=λe=>hDL (Ai.mp e);have h3:RW (j scope) t ifs gs elt (B3 w scope.names) Q (xs,hd) ω1.σ:=h;cases gs with
  |nil=>
   have loop:=PL (d:=0) (scope:=scope) (K:=GX Q ω1.σ hd) (Y:=wH (j scope) ifs elt) (w₀:=B3 w scope.names) (Pp:=TU (j scope) t ifs elt (B3 w scope.names) (GX Q ω1.σ hd)) (pos:=pos) (gens:=[⟨t,it,ifs,0⟩]) (λa a a h=>h) (λa a a a a h=>h) (Us Sj Tj O hDL' rfl) rfl hJD hJL xs.length 0 (BO _) (W.H.σ▸h3) G3 lU W.H.own W.F W.A fin;exact PM (d:=0) rfl loop (G.walks.self 0 _ _ _ lU loop)
  |cons g gs=>
   cases gs with
   |cons _ _=>exact Ad h3
   |nil=>
    obtain⟨t',On,GC,asy⟩:=g;replace h3:DI (decide (asy=0)) (Ul (j scope) t ifs On t' GC elt (B3 w scope.names) (GX Q ω1.σ hd) xs (B3 w scope.names) [] (GA ω1.σ hd)):=h3;obtain rfl:asy=0:=of_decide_eq_true (DI.el h3).1;replace h3:=(DI.el h3).2;have loop:=PL (d:=0) (scope:=scope) (K:=GX Q ω1.σ hd) (Y:=mP (j scope) ifs On t' GC elt) (w₀:=B3 w scope.names) (Pp:=Ul (j scope) t ifs On t' GC elt (B3 w scope.names) (GX Q ω1.σ hd)) (pos:=pos) (gens:=[⟨t,it,ifs,0⟩,⟨t',On,GC,0⟩]) (λa a a h=>h) (λa a a a a h=>h) (oO Sj Tj O hDL' rfl rfl) rfl hJD hJL xs.length 0 (BO _) (W.H.σ▸h3) G3 lU W.H.own W.F W.A fin;exact PM (d:=0) rfl loop (G.walks.self 0 _ _ _ lU loop)
 exact wpAny_comprehension_free (g:=⟨t,it,ifs,0⟩) (gs:=gs) rfl itm.1 hclo hfun (λp hp=>(c2 p hp).loc) itm.2
end
section
variable{B:Wd}{fs:List Env}{ω ω':Wl B fs}{A:Around}{C:Cl}{k:Nat}{sc:Scope}{j:Scope->I}{i:I}{w:Fm}{env:Env}{own:List Addr}{Q:AV->St->Prop}{R:Value->Shared->Prop}{pos:Pos}{L:Addr}{h':Heap}{tk:Nat}
theorem Le.b7(x:Le own ω ω')(hf:ω.s.heap.get? L=none){hm:L∉ω'.μ}{hb:B.h₀.get? L=none}{ht:Fz ω'.s.heap L}{hd:L∈Fu fs->Ik ω'.s.heap h' L}{hk:∀b o,b≠L->ω'.s.heap.get? b=some o->h'.get? b=some o}:Le own ω (ω'.mut L h' tk hm hb ht hd hk):=
 have ne:∀{b o},ω.s.heap.get? b=some o->b≠L:=λe e'=>Ay _ (e.symm.trans (e'▸hf))
 ⟨x.mu,x.new,λb o h1 h2 h3 e=>hk b o (ne e) (x.keep b o h1 h2 h3 e),λb o h1 h2 e=>(x.WV b o h1 h2 e).elim λsl e'=>⟨sl,hk b _ (ne e) e'⟩,x.flag,λb o h2 e=>(x.live b o h2 e).elim λo' e'=>⟨o',hk b _ (ne e) e'⟩,x.same.elim λh y=>y.elim λt e=>⟨h',tk,by show{ω'.s with heap:=h',toks:=tk}=_;exact Ae e rfl⟩⟩
theorem KE.ku(K:KE ω Q R):KU ω A none Q R:=λD L v ω' m nL bL Nb hm q l r=>
 ⟨m,Nb,λh' Pt=>have hk:∀b o,b≠L->ω'.s.heap.get? b=some o->h'.get? b=some o:=λb o hb e=>(Pt.2 b hb).trans e
  K v _ (ω'.mut L h' ω'.s.toks hm bL (Gn Nb) (λh=>absurd h (Iw nL)) hk) q (l.b7 nL) (r.mono (ID (Gn Nb) hk))⟩
theorem Uu{h:Heap}{m:Str->Option Value}(y:h.Ns L m)(v:Option Value):¬h.IsCell L v:=λ⟨o',z1,z2⟩=>by
 obtain⟨o,es,ep,e1,e2⟩:=Hb y;rw[e1]at z1;cases z1;rw[e2]at z2;cases z2
structure Qb6(B:Wd)(k:Nat)(sc:Scope)(i:I):Prop where
 comp:∀{fs} {ω:Wl B fs}{elt gens scope pos w Q A env own use R pp},i.ev (.ListComp elt gens scope pos) w ω.σ Q->Ga fs k A->Bf sc ω env own w->KU ω A use Q R->∃t it ifs gs,gens=⟨t,it,ifs,0⟩::gs/\TW ω A (comprehension (.ListComp elt gens scope pos) scope env pp (newList []) false (eval it env) use) R
theorem RJ(S:NP B k sc i)(Sj:∀sc,NP B k sc (j sc))(Tj:∀sc,NQ B k sc (j sc)){elt:Expr}{gens:List Comprehension}{scope:Scope}{pp:Pos}{use:Option (Value->Sem Unit)}(h:mR sc j i elt gens scope w ω.σ Q)(O:Ga fs k A)(F:Bf sc ω env own w)(K:KU ω A use Q R):
  ∃t it ifs gs,gens=⟨t,it,ifs,0⟩::gs/\TW ω A (comprehension (.ListComp elt gens scope pos) scope env pp (newList []) false (eval it env) use) R:=by
 cases gens with
 |nil=>exact Ad h
 |cons g gs=>
  obtain⟨t,it,ifs,asy⟩:=g;obtain rfl:asy=0:=of_decide_eq_true (Aq.mp (DI.el h).1).1;exact⟨t,it,ifs,gs,rfl,i9 S (Sj scope) (Tj scope) h O F K⟩
theorem Qdp(Z:Bs B)(HC:PK B C k)(S:NP B k sc i)(Sj:∀sc,NP B k sc (j sc))(Tj:∀sc,NQ B k sc (j sc)){e:Expr}(h:evF C sc j i e w ω.σ Q)(O:Ga fs k A)(F:Bf sc ω env own w)(K:KE ω Q R):TW ω A (eval e env) R:=by
 cases e with
 |Constant c k' pos=>exact oC h K
 |Name x pos=>exact w8 Z F h K
 |BinOp l op rr pos=>exact oE S O F h K
 |UnaryOp op x pos=>exact w9 S O F h K
 |IfExp t b o pos=>exact oF S O F h K
 |BoolOp op es pos=>refine Ae (arm_eval_BoolOp ..) ?_;exact S.bool h O F K
 |Compare l ops rs pos=>exact Z1 S O F Z h K
 |Tuple es x1 pos=>exact oG S O F h K
 |List es pos=>exact xA S O F h K
 |Dict ks vs pos=>cases ks with
  |nil=>cases vs with
   |nil=>exact wpAny_Dict_empty (K.new (tk:=ω.s.toks) Cg (DP (AL _)) h (.sd (Lo _) .nil))
   |cons _ _=>exact Ad h
  |cons x ks=>exact xF S O F h K
 |Subscript o i pos=>exact QbZ S O F h K
 |Attribute o x pos=>exact xB S O F Z h K
 |Call f args zN pos=>cases zN with
  |cons _ _=>exact Ad h
  |nil=>cases f with
   |Name f np=>exact i4 Z S O F HC h K
   |Attribute o m ap=>exact i5 Z S O F h K
   |_=>exact Ad h
 |ListComp elt gens scope pos=>
  obtain⟨t,it,ifs,gs,rfl,y⟩:=RJ (pos:=pos) (pp:=firstIterPos gens pos) S Sj Tj h O F K.ku;refine Ae (arm_eval_ListComp ..) ?_;exact y
 |_=>exact Ad h
structure Qdq(B:Wd)(k:Nat)(sc:Scope)(i:I):Prop where
 S:NP B k sc i
 T:NQ B k sc i
 U:Qb6 B k sc i
theorem snd(Z:Bs B)(HC:PK B C k):∀n sc,Qdq B k sc (I.aux C n sc)
 |0,_=>⟨⟨λh=>Ad h,λh=>Ad h,λh=>Ad h,λh=>Ad h,λh=>Ad h,λh=>Ad h,λh=>Ad h,λh=>Ad h,λh=>Ad h⟩,⟨λh=>Ad h,λh=>Ad h⟩,⟨λh=>Ad h⟩⟩
 |n+1,sc=>
  have s:=snd Z HC n
  ⟨⟨λh O F K=>Qdp Z HC (s sc).S (λsc=>(s sc).S) (λsc=>(s sc).T) h O F K,λh O F K=>Qb0 (s sc).S O F h K,λh O F K=>Qb1 (s sc).S O F h K,λh O F K=>oH (s sc).S O F h K,λh O F K=>xC (s sc).S O F h K,λh O F K=>Qb2 (s sc).S O F Z h K,λh O F K=>xJ (s sc).S O F h K,λh O F K=>Qb3 (s sc).S O F h K,λh O F K=>oK (s sc).S O F Z h K⟩,
   ⟨λh O F q K=>Qb4 Z (s sc).S (s sc).T h O F q K,λh O F q hp K=>xK (s sc).T h O F q hp K⟩,⟨λh O F K=>RJ (s sc).S (λsc=>(s sc).S) (λsc=>(s sc).T) h O F K⟩⟩
end
structure Exc(B:Wd)(h:Heap)(x d:Addr)(vs:Array Value)(X:List Addr)(m:Str):Prop where
 cM:∃cM sl,B.mg "Misused"=some (.ref cM)/\h.get? x=some ⟨.ref cM,some d,.fields vs,sl⟩
 hx:x∈X
 hd:d∈X
 ne:x≠d
 why:∃f t,h.Ns d f/\f "why"=some (.str m t)
structure Qet(h:Heap)(x d:Addr)(vs:Array Value)(X:List Addr)(T:Addr)(fl:Value):Prop where
 at_:vs[1]? =some (.ref T)
 mem:T∈X
 nx:T≠x
 nd:T≠d
 tb:∃oT ts,h.get? T=some oT/\oT.data= .fields ts/\ts[3]? =some fl
structure XO{B:Wd}{fs:List Env}(ω₀ ω:Wl B fs)(own X:List Addr):Prop where
 at_:∀a∈X,Dq ω a
 nw:∀a∈X,ω₀.s.heap.get? a=none
 no:∀a∈X,a∉own
 nc:∀a∈X,∀v,¬ω.s.heap.IsCell a v
def Oq{B:Wd}{fs:List Env}(ω₀ ω:Wl B fs)(own:List Addr)(x:Addr)(m:Str)(tr:Option Value->Prop):Prop:=
 ∃X d vs,XO ω₀ ω own X/\Exc B ω.s.heap x d vs X m/\(vs[1]? =some .none/\tr none\/∃T fl,Qet ω.s.heap x d vs X T fl/\tr (some fl))
structure V2(fs:List Env)(env:Env):Prop where
 top:∃rest,fs=env::rest
 fr:env.frame=some env.locals
section
variable{B:Wd}{fs:List Env}{ω₀ ω ω':Wl B fs}{A:Around}{k:Nat}{sc:Scope}{w:Fm}{env:Env}{own own' X:List Addr}{x d T a:Addr}{h h':Heap}{vs:Array Value}{m:Str}{tr tr':Option Value->Prop}{fl:Value}
theorem Oq.weak(q:Oq ω₀ ω own x m tr)(h:∀o,tr o->tr' o):Oq ω₀ ω own x m tr':=q.elim λX y=>y.elim λd y=>y.elim λvs y=>⟨X,d,vs,y.1,y.2.1,y.2.2.imp (λz=>⟨z.1,h _ z.2⟩) λz=>z.elim λT z=>z.elim λfl z=>⟨T,fl,z.1,h _ z.2⟩⟩
theorem XO.step(q:XO ω₀ ω own X)(l:Le [] ω ω')(hk:∀a∈X,∀o,ω.s.heap.get? a=some o->ω'.s.heap.get? a=some o):XO ω₀ ω' own X:=
 ⟨λa ha=>have r:=q.at_ a ha;r.live.elim λo e=>have e':=hk a ha o e;r.step l (λo2 vs n e2=>r.nt o2 vs n (e.trans (e'.symm.trans e2))) ⟨o,e'⟩,q.nw,q.no,λa ha v y=>(q.at_ a ha).live.elim λo e=>y.elim λo2 z=>q.nc a ha v ⟨o2,e.trans ((hk a ha o e).symm.trans z.1),z.2⟩⟩
theorem XO.write:∀{B:Wd}{fs:List Env}{sc:Scope}{w:Fm}{env:Env}{own X:List Addr}{a:Addr}{h':Heap}{o o':Obj}{us us':Array Value}{ω₀ ω:Wl B fs}(q:XO ω₀ ω own X)(l:Le own ω₀ ω)(F:Bf sc ω env own w)(ha:a∈X)(e:ω.s.heap.get? a=some o)(hd:o.data= .fields us)(hu:h'.get? a=some o')(Pu:o'.data= .fields us')(hk:∀b o,b≠a->ω.s.heap.get? b=some o->h'.get? b=some o),∃ω':Wl B fs,ω'.s={ω.s with heap:=h'}/\ω'.σ=ω.σ/\XO ω₀ ω' own X/\Le own ω₀ ω'/\Bf sc ω' env own w:=by
 refine@(Hp DO nL Kb nL NF nL nL ?_);generalize GE .. =c;generalize c.1=B,c.2.1=fs,c.2.2.1=sc,c.2.2.2.1=w,c.2.2.2.2.1=env,c.2.2.2.2.2.1=own,c.2.2.2.2.2.2=X;refine@(Fd nN nH nOb nOb nA nA ?_);generalize E2 .. =c;generalize c.1=a,c.2.1=h',c.2.2.1=o,c.2.2.2.1=o',c.2.2.2.2.1=us,c.2.2.2.2.2=us';intro ω₀ ω q l F ha e hd hu Pu hk;have r:=q.at_ a ha;have zO:a∈Fu fs->Ik ω.s.heap h' a:=λhm=>absurd hm (Iw (q.nw a ha));refine⟨ω.mut a h' ω.s.toks r.mu r.base r.nt zO hk,rfl,rfl,⟨λb hb=>?_,q.nw,q.no,λb hb v y=>?_⟩,l.b7 (q.nw a ha),F.out r (q.nc a ha) (q.no a ha) hk⟩
 .have s:=q.at_ b hb;by_cases Zn:b=a
  .subst Zn;exact⟨s.mu,s.base,λo2 vs n e2 d2=>(by rw[show h'.get? b=some o2 from e2]at hu;cases hu;rw[Pu]at d2;cases d2),o',hu⟩
  .exact s.live.elim λo e=>⟨s.mu,s.base,λo2 vs n e2=>s.nt o2 vs n (e.trans ((hk b o Zn e).symm.trans e2)),o,hk b o Zn e⟩
 .obtain⟨o2,z1,z2⟩:=y;replace z1:h'.get? b=some o2:=z1;by_cases Zn:b=a
  .subst Zn;rw[hu]at z1;cases z1;rw[Pu]at z2;cases z2
  .exact(q.at_ b hb).live.elim λo e=>q.nc b hb v ⟨o2,e.trans ((hk b o Zn e).symm.trans z1),z2⟩
theorem Uv(ω:Wl B fs):∀{l:List Env},(∀e∈l,e∈fs)->(∀e∈fs,e.scope.kind≠ .module/\∃L,e.frame=some L)->ω.s.heap.FunFrames B.h₀ l
 |[],_,_=>trivial
 |e::l,hs,ha=>by
  obtain⟨h1,L,h2⟩:=ha e (hs e (.head _));obtain⟨_,h4,o,es,ep,h5,h6⟩:=ω.inv.W5 L (C9.mpr ⟨e,hs e (.head _),h2⟩);exact⟨h1,⟨L,o,h2,h4,h5,λvs e=>by rw[h6]at e;cases e⟩,Uv ω (λe' he=>hs e' (.tail _ he)) ha⟩
noncomputable def Wl.slots(ω:Wl B fs)(h':Heap)(x:My (Fu fs) ω.s.heap h'):Wl B fs:=
 ⟨ω.σ,ω.μ,{ω.s with heap:=h'},⟨ω.inv.len,ω.inv.nd,λi o b h1 h2=>(ω.inv.obj i o b h1 h2).mono ⟨λh h e=>e,λa vs n e=>(x.2.1 a (Xk e λh h e=>nomatch e)).trans e⟩ λob e=>(x.2.1 b (Qag (BR h2))).trans e,
  λb o e=>(x.2.1 b λhm=>by rw[(ω.inv.W5 b hm).2.1]at e;cases e).trans (ω.inv.base b o e),ω.inv.fresh,λb hb=>⟨(ω.inv.W5 b hb).1,(ω.inv.W5 b hb).2.1,by
   obtain⟨_,_,o,es,ep,h3,h4⟩:=ω.inv.W5 b hb;exact(x.2.2 b o h3).elim λsl e=>⟨_,es,ep,e,h4⟩⟩⟩⟩
theorem Le.slots{y:My (Fu fs) ω.s.heap h'}:Le own ω (ω.slots h' y):=
 ⟨λa a e=>e,λa e=> .inl e,λb o a a hf e=>(y.2.1 b hf).trans e,λb o a a e=>y.2.2 b o e,λa a a=>rfl,λb o a e=>(y.2.2 b o e).elim λsl e=>⟨_,e⟩,⟨h',ω.s.toks,rfl⟩⟩
theorem Exc.keep(q:Exc B h x d vs X m)(hk:∀a∈X,∀o,h.get? a=some o->h'.get? a=some o):Exc B h' x d vs X m:=
 ⟨q.cM.elim λc y=>y.elim λsl y=>⟨c,sl,y.1,hk x q.hx _ y.2⟩,q.hx,q.hd,q.ne,q.why.elim λf y=>y.elim λt y=>⟨f,t,y.1.at' λo e=>hk d q.hd o e,y.2⟩⟩
theorem Qdr{v:Value}{i:Nat}(h:i<vs.size):(vs.setIfInBounds i v)[i]? =some v:=by exact Ae (Array.getElem?_setIfInBounds_self_of_lt h) rfl
theorem V3:∀{B:Wd}{fs:List Env}{A:Around}{k:Nat}{sc:Scope}{w:Fm}{env:Env}{own:List Addr}{x:Addr}{m:Str}{tr:Option Value->Prop}{Q:Unit->Shared->Prop}{E:Value->Shared->Prop}{ω₀ ω:Wl B fs}(O:Ga fs k A)(Te:V2 fs env)(l:Le own ω₀ ω)(F:Bf sc ω env own w)(q:Oq ω₀ ω own x m tr)(hQ:∀ω':Wl B fs,ω'.σ=ω.σ->Le own ω₀ ω'->Bf sc ω' env own w->Oq ω₀ ω' own x m (· =some (rawInt env.locals))->Q () ω'.s),wpAny (model B.prog B.w) A (noteFrame (.ref x) env) Q E ω.s:=by
 refine@(Hp DO nL Ja nN Kb nL NF ?_);generalize GE .. =c;generalize c.1=B,c.2.1=fs,c.2.2.1=A,c.2.2.2.1=k,c.2.2.2.2.1=sc,c.2.2.2.2.2.1=w,c.2.2.2.2.2.2=env;refine@(Fd nL nN A8 nq nQ nQ ?_);generalize E2 .. =c;generalize c.1=own,c.2.1=x,c.2.2.1=m,c.2.2.2.1=tr,c.2.2.2.2.1=Q,c.2.2.2.2.2=E;intro ω₀ ω O Te l F q hQ;obtain⟨X,d,vs,o,q,q8⟩:=q;obtain⟨rest,hfs⟩:=Te.top;have hL:=Te.fr;have fin:∀(ω₂:Wl B fs)(head:Value)(iB:Bool),ω₂.σ=ω.σ->Le own ω₀ ω₂->Bf sc ω₂ env own w->XO ω₀ ω₂ own X->Exc B ω₂.s.heap x d vs X m->1<vs.size->
   wpAny (model B.prog B.w) A (do let a<-frameOf env;let pl<-entryPlaceOf env.locals iB;let b<-M7 head a .none (rawInt env.locals) .none pl;setField (.ref x) 1 b) Q E ω₂.s:=by
  intro ω₂ head iB es l2 F2 o2 q2 JM;refine Ag (wpAny_frameOf_fun (outer:=rest) (base:=B.h₀) (by exact Ae O.fs (Ae hfs rfl)) (Uv ω₂ (λe he=>by refine Ae hfs ?_;exact he) O.all) hL λh3 iC=>?_);have iC:My (Fu fs) ω₂.s.heap h3:=by refine Ae (show Fu fs=(env::rest).filterMap (λh=>h.frame)from congrArg Fu hfs) ?_;exact iC
  refine Ag (wpAny_entryPlaceOf λpl Qj=>?_);unfold M7 newFields;refine Ag (Pg ?_ (Qj.sizeOk5 _ _ _ _ _));generalize hob:({cls:= .type "traceback",dict:=none,data:= .fields ([head,.ref env.locals,.none,rawInt env.locals,.none]++(if pl.isEmpty then GJ 6 IZ else pl)).toArray}:Obj)=ob;have k3:∀b∈X,∀o,ω₂.s.heap.get? b=some o->h3.get? b=some o:=λb hb o e=>(iC.2.1 b (Iw (o2.nw b hb))).trans e;have lg:Le [] ω₂ ((ω₂.slots h3 iC).grow (h3.push ob) ω₂.s.toks Cg):=Le.slots.trans .grow;have k4:∀b∈X,∀o,ω₂.s.heap.get? b=some o->(h3.push ob).get? b=some o:=λb hb o e=>Cg b o (k3 b hb o e);have o4:=o2.step lg k4;have q4:=q2.keep k4;obtain⟨cM,sl,e1,e2⟩:=q4.cM;have nT:h3.get? h3.objs.size=none:=DP (AL _);have nT2:ω₂.s.heap.get? h3.objs.size=none:=A9.mpr λo e=>(iC.2.2 _ _ e).elim λsl e'=>Ay _ (e'.symm.trans nT);have nX:∀a∈X,h3.objs.size≠a:=λa ha e=>(o2.at_ a ha).live.elim λo e'=>Ay _ (e'.symm.trans (e▸nT2));have nO:h3.objs.size∉own:=λhm=>(F2.live _ hm).elim λo e=>Ay _ (e.symm.trans nT2);have nT0:ω₀.s.heap.get? h3.objs.size=none:=A9.mpr λo e=>(l2.live _ _ nO e).elim λo' e'=>Ay _ (e'.symm.trans nT2);have vC:(h3.push ob).get? h3.objs.size=some ob:=Bi _ (by refine CV hob ?_;rfl);have l4:Le own ω₀ ((ω₂.slots h3 iC).grow (h3.push ob) ω₂.s.toks Cg):=l2.trans (lg.own' F2.live);have hu:=CA (FV (·.setIfInBounds 1 (B0 h3.objs.size))) e2 rfl;have I8:∀b o,b≠x->(h3.push ob).get? b=some o->((h3.push ob).update x (FV (·.setIfInBounds 1 (B0 h3.objs.size)))).get? b=some o:=λb o hb e=>(DH _ _ (BV hb)).trans e;have oT:XO ω₀ ((ω₂.slots h3 iC).grow (h3.push ob) ω₂.s.toks Cg) own (h3.objs.size::X):=
   ⟨AZ.mpr ⟨⟨λhm=>DL _ ((ω₂.slots h3 iC).live hm),D3 (ω:=ω₂) nT2,Gd vC λz z e=>(by rw[<-hob]at e;cases e),_,vC⟩,o4.at_⟩,AZ.mpr ⟨nT0,o4.nw⟩,AZ.mpr ⟨nO,o4.no⟩,AZ.mpr ⟨λv y=>(by obtain⟨o,z1,z2⟩:=y;rw[show(h3.push ob).get? h3.objs.size=some o from z1]at vC;cases vC;rw[<-hob]at z2;cases z2),o4.nc⟩⟩
  obtain⟨ω5,e5,s5,o5,l5,F5⟩:=oT.write l4 (F2.step lg) (.tail _ q.hx) e2 rfl hu rfl I8;refine Mz e2 rfl JM ?_;have y5:=congrArg HH e5;have go:=hQ ω5 (s5.trans es) l5 F5 ⟨h3.objs.size::X,d,_,o5,⟨⟨cM,sl,e1,y5▸hu⟩,.tail _ q.hx,.tail _ q.hd,q.ne,q4.why.elim λf y=>y.elim λt y=>⟨f,t,y5▸y.1.at' λo e=>I8 d o (BV q.ne) e,y.2⟩⟩,.inr ⟨h3.objs.size,rawInt env.locals,⟨Qdr JM,.head _,nX x q.hx,nX d q.hd,ob,_,y5▸I8 _ _ (nX x q.hx) vC,by exact CV hob rfl,by simp⟩,rfl⟩⟩;rw[e5]at go;exact go
 obtain⟨cM,sl,e1,e2⟩:=q.cM;unfold noteFrame;refine Ae hL ?_;rcases q8 with⟨q8,_⟩|⟨T,fl,t,ht⟩
 .refine Ag (Jt e2 rfl q8 ?_);exact fin ω .none _ rfl l F o q (DY.mp q8).1
 .refine Ag (Jt e2 rfl t.at_ ?_);obtain⟨oT,ts,q9,vY,q11⟩:=t.tb;refine Ae (if_pos (show(B0 T != IZ)=true from rfl)) ?_;refine Ag (Jt q9 vY q11 ?_);by_cases WY:fl=rawInt env.locals
  .subst WY;refine Ae (if_pos (beq_self_eq_true _)) ?_;exact Ax (hQ ω rfl l F ⟨X,d,vs,o,q,.inr ⟨T,_,t,rfl⟩⟩)
  .refine Ae (if_neg λe=>WY (beq_iff_eq.mp e)) ?_;refine Ag (Mz q9 vY (DY.mp q11).1 ?_);have hu:=CA (FV (λz=>z.setIfInBounds 3 IZ)) q9 (Lz (Gi vY _));have I8:∀b o,b≠T->ω.s.heap.get? b=some o->(ω.s.heap.update T (FV (λz=>z.setIfInBounds 3 IZ))).get? b=some o:=λb o hb e=>(DH _ _ (BV hb)).trans e;obtain⟨ω5,e5,s5,o5,l5,F5⟩:=o.write l F t.mem q9 vY hu (Gi vY _) I8;have y5:=congrArg HH e5;refine CV e5 ?_;exact fin ω5 _ _ s5 l5 F5 o5 ⟨⟨cM,sl,e1,y5▸I8 _ _ (BV t.nx) e2⟩,q.hx,q.hd,q.ne,q.why.elim λf y=>y.elim λt' y=>⟨f,t',y5▸y.1.at' λo e=>I8 d o (BV t.nd) e,y.2⟩⟩ (DY.mp t.at_).1
theorem MF:∀{B:Wd}{fs:List Env}{A:Around}{sc:Scope}{w:Fm}{env:Env}{own:List Addr}{x:Addr}{m:Str}{fl:Value}{Q:Unit->Shared->Prop}{E:Value->Shared->Prop}{f:Option Addr}{ω₀ ω:Wl B fs}(l:Le own ω₀ ω)(F:Bf sc ω env own w)(q:Oq ω₀ ω own x m (λa=>a=some fl))(hQ:∀ω':Wl B fs,ω'.σ=ω.σ->Le own ω₀ ω'->Bf sc ω' env own w->Oq ω₀ ω' own x m (· =some (f.elim .none λf=>rawInt f))->Q () ω'.s),wpAny (model B.prog B.w) A (setFlight (.ref x) f) Q E ω.s:=by
 refine@(Hp DO nL Ja Kb nL NF nL ?_);generalize GE .. =c;generalize c.1=B,c.2.1=fs,c.2.2.1=A,c.2.2.2.1=sc,c.2.2.2.2.1=w,c.2.2.2.2.2.1=env,c.2.2.2.2.2.2=own;refine@(Fd nN A8 Os nQ nQ nO ?_);generalize E2 .. =c;generalize c.1=x,c.2.1=m,c.2.2.1=fl,c.2.2.2.1=Q,c.2.2.2.2.1=E,c.2.2.2.2.2=f;intro ω₀ ω l F q hQ;obtain⟨X,d,vs,o,q,⟨_,h⟩|⟨T,fl',t,h⟩⟩:=q
 .cases h
 .obtain⟨cM,sl,e1,e2⟩:=q.cM;obtain⟨oT,ts,q9,vY,q11⟩:=t.tb;have JM:=(DY.mp q11).1;unfold setFlight;refine Ag (Jt e2 rfl t.at_ ?_);refine Ae (if_pos (show(B0 T != IZ)=true from rfl)) ?_;refine Mz q9 vY JM ?_;generalize WY:(f.elim IZ λf=>rawInt f)=fl2;rw[WY]at hQ;have hdd:=Gi vY (λa=>a.setIfInBounds 3 fl2);have hu:=CA (FV (λa=>a.setIfInBounds 3 fl2)) q9 (Lz (Gi vY _));have I8:∀b o,b≠T->ω.s.heap.get? b=some o->(ω.s.heap.update T (FV (λa=>a.setIfInBounds 3 fl2))).get? b=some o:=λb o hb e=>(DH _ _ (BV hb)).trans e;obtain⟨ω5,e5,s5,o5,l5,F5⟩:=o.write l F t.mem q9 vY hu hdd I8;have y5:=congrArg HH e5;have go:=hQ ω5 s5 l5 F5 ⟨X,d,vs,o5,⟨⟨cM,sl,e1,y5▸I8 _ _ (BV t.nx) e2⟩,q.hx,q.hd,q.ne,q.why.elim λf y=>y.elim λt' y=>⟨f,t',y5▸y.1.at' λo e=>I8 d o (BV t.nd) e,y.2⟩⟩,.inr ⟨T,fl2,⟨t.at_,t.mem,t.nx,t.nd,_,_,y5▸hu,hdd,Qdr JM⟩,rfl⟩⟩;rw[e5]at go;exact go
end
abbrev Qds(_:Option Value):Prop:=True
structure Vj{B:Wd}{fs:List Env}(sc:Scope)(env:Env)(own:List Addr)(ω:Wl B fs)(S:AF->(Fm×St)->Prop)(R:Flow->Shared->Prop)(E:Value->Shared->Prop):Prop where
 nx:∀w(ω':Wl B fs),S .next (w,ω'.σ)->Le own ω ω'->Bf sc ω' env own w->R .next ω'.s
 ct:∀w(ω':Wl B fs),S .cont (w,ω'.σ)->Le own ω ω'->Bf sc ω' env own w->R .cont ω'.s
 rt:∀v c w(ω':Wl B fs),S (.ret v) (w,ω'.σ)->Le own ω ω'->Bf sc ω' env own w->Rp ω' v c->R (.ret c) ω'.s
 ex:∀m x w(ω':Wl B fs),S (.exc m) (w,ω'.σ)->Le own ω ω'->Bf sc ω' env own w->Oq ω ω' own x m Qds->E (.ref x) ω'.s
structure En(fs:List Env)(sc:Scope)(env:Env):Prop where
 sc:env.scope=sc
 te:V2 fs env
structure V4(B:Wd)(k:Nat)(sc:Scope)(i:I):Prop where
 ex:∀{fs} {ω:Wl B fs}{st w S A env own R E},i.ex st w ω.σ S->Ga fs k A->Bf sc ω env own w->En fs sc env->Vj sc env own ω S R E->wpAny (model B.prog B.w) A (exec st env) R E ω.s
 Pq:∀{fs} {ω:Wl B fs}{ss w S A env own R E},i.Pq ss w ω.σ S->Ga fs k A->Bf sc ω env own w->En fs sc env->Vj sc env own ω S R E->wpAny (model B.prog B.w) A (execs ss env) R E ω.s
section
variable{B:Wd}{fs:List Env}{ω ω' ω₁:Wl B fs}{A:Around}{k:Nat}{sc:Scope}{i:I}{w:Fm}{env:Env}{own:List Addr}{S:AF->(Fm×St)->Prop}{R:Flow->Shared->Prop}{E:Value->Shared->Prop}{pos:Pos}{x:Addr}{m:Str}{tr:Option Value->Prop}
theorem Oq.from(l:Le own ω₁ ω)(q:Oq ω ω' own x m tr):Oq ω₁ ω' own x m tr:=
 q.elim λX y=>⟨X,y.elim λd y=>y.elim λvs y=>⟨d,vs,⟨y.1.at_,λa ha=>A9.mpr λo e=>(l.live a o (y.1.no a ha) e).elim λo' e'=>Ay _ (e'.symm.trans (y.1.nw a ha)),y.1.no,y.1.nc⟩,y.2⟩⟩
theorem Vj.after(l:Le own ω₁ ω)(K:Vj sc env own ω₁ S R E):Vj sc env own ω S R E:=
 ⟨λw ω' s x f=>K.nx w ω' s (l.trans x) f,λw ω' s x f=>K.ct w ω' s (l.trans x) f,λv c w ω' s x f r=>K.rt v c w ω' s (l.trans x) f r,λm e w ω' s x f q=>K.ex m e w ω' s (l.trans x) f (q.from l)⟩
theorem hdC.el{α:Type}{l:List α}{P:α->Prop}{G:List α->Prop}(h:hdC l P)(k:∀a,P a->G [a]):G l:=by
 cases l with
 |nil=>exact Ad h
 |cons a r=>cases r with
  |nil=>exact k a h
  |cons _ _=>exact Ad h
theorem isN.el{v:AV}{P:Prop}{c:Value}{G:Value->Prop}(r:Rp ω v c)(h:isN v P)(k:P->G .none):G c:=zM.el (G:=G) (P:=λa=>P) r h k
theorem XE(F:Bf sc ω env own w):interactive env=false:=by unfold interactive;refine Ae F.MC.kind ?_;rfl
variable(T:NP B k sc i)(O:Ga fs k A)(F:Bf sc ω env own w)
include T O F
theorem xM{e:Expr}(h:DI (E6 e) (i.ev e w ω.σ (Rr S w)))(K:Vj sc env own ω S R E):wpAny (model B.prog B.w) A (exec (.Expr e pos) env) R E ω.s:=by
 obtain⟨hc,h⟩:=DI.el h;have hs:swapsWith e none pos.line env=pure false:=by cases e<;>first|rfl|exact Br hc
 exact wpAny_Expr (Hy (T.ev h O F λv c ω1 h l r=>isN.el (G:=λv=>match v with| .ref _=>False|_=>R .next ω1.s) r h λh=>K.nx w ω1 h (l.own' F.live) (F.step l))) (XE F) hs
theorem jA{e:Option Expr}(h:AH (motive:=λa=>Prop) e (S (.ret .none) (w,ω.σ)) λe=>i.ev e w ω.σ (VJ S w))(K:Vj sc env own ω S R E):wpAny (model B.prog B.w) A (exec (.Return e pos) env) R E ω.s:=by
 cases e with
 |none=>exact wpAny_Return_none (K.rt .none .none w ω h .refl F .none)
 |some e=>exact Ju (Hy (T.ev h O F λv c ω1 h l r=>K.rt v c w ω1 h (l.own' F.live) (F.step l) r))
theorem Qdt(V:V4 B k sc i)(N:En fs sc env){t:Expr}{b o:List Stmt}(h:i.Po t w ω.σ (cJ i b w S o))(K:Vj sc env own ω S R E):wpAny (model B.prog B.w) A (exec (.If t b o pos) env) R E ω.s:=
 wpAny_If (Hy (T.Po h O F λc ω1 h l=>by
  cases c with
  |true=>exact V.Pq h O (F.step l) N (K.after (l.own' F.live))
  |false=>exact V.Pq h O (F.step l) N (K.after (l.own' F.live))))
theorem Qb7{o ix:Expr}{px:Pos}(h:i.ev o w ω.σ (ZQ i ix w S))(K:Vj sc env own ω S R E):wpAny (model B.prog B.w) A (exec (.Delete [.Subscript o ix px] pos) env) R E ω.s:=
 Hy (wpAny_Delete (wpAny_deleteEach_cons (wpAny_delete_Subscript (T.ev h O F λa ca ω1 h l r=>T.ev h O (F.step l) λb cb ω2 h l2 r2=>Cb (Xp (P:=Bo S w) (R:=λs=>R .next s) (r.step l2) r2 h λω3 h l3=>K.nx w ω3 h (((l.trans l2).trans l3).own' F.live) (F.step ((l.trans l2).trans l3))) (λy s3 p3=>wpAny_deleteEach_nil p3) λy y x=>x))))
omit T O F in
theorem Qb8:∀{B:Wd}{fs:List Env}{A:Around}{k:Nat}{sc:Scope}{i:I}{w:Fm}{env:Env}{own:List Addr}{S:AF->(Fm×St)->Prop}{R:Flow->Shared->Prop}{E:Value->Shared->Prop}{pos:Pos}{x:Str}{px:Pos}{e:Expr}{ω:Wl B fs}(T:NP B k sc i)(O:Ga fs k A)(F:Bf sc ω env own w){op:Operator}(h:DI (decide (BJ sc.names x=some .local\/BJ sc.names x=some .cell)) (Nm (Dj w x) (ZP i e w ω.σ S x op) False))(K:Vj sc env own ω S R E),wpAny (model B.prog B.w) A (exec (.AugAssign (.Name x px) op e pos) env) R E ω.s:=by
 refine@(Ir DO nL Ja nN Kb Xg nL NF ?_);generalize G8 .. =z;generalize z.1=B,z.2.1=fs,z.2.2.1=A,z.2.2.2.1=k,z.2.2.2.2.1=sc,z.2.2.2.2.2.1=i,z.2.2.2.2.2.2.1=w,z.2.2.2.2.2.2.2=env;refine@(Ir nL nQ nQ nQ E4 A8 E4 Qk ?_);generalize G8 .. =z;generalize z.1=own,z.2.1=S,z.2.2.1=R,z.2.2.2.1=E,z.2.2.2.2.1=pos,z.2.2.2.2.2.1=x,z.2.2.2.2.2.2.1=px,z.2.2.2.2.2.2.2=e;intro ω T O F op h K;obtain⟨hx,h⟩:=DI.el h;cases hg:Dj w x with
 |none=>rw[hg]at h;exact Ad h
 |some v=>
  rw[hg]at h;refine Hy (wpAny_AugAssign_Name (F.name hg λc1 r1=>GV.el (G:=λc1=>wpAny (model B.prog B.w) A (eval e env) (λv s₂=>wpAny (model B.prog B.w) A (inplaceOp op c1 v) (λr s₃=>wpAny (model B.prog B.w) A (storeName env x r) (λy=>R .next) bot s₃) bot s₂) bot ω.s) r1 h λa t h=>
   T.ev h O F λu c2 ω2 h l r2=>GV.el (G:=λc2=>wpAny (model B.prog B.w) A (inplaceOp op (.int a t) c2) (λr s₃=>wpAny (model B.prog B.w) A (storeName env x r) (λy=>R .next) bot s₃) bot ω2.s) r2 h λb u h=>?_))
  have go:∀{c:Int},Rt S w x ω2.σ c->wpAny (model B.prog B.w) A (storeName env x (.int c ω2.s.toks)) (λy=>R .next) bot {ω2.s with toks:=ω2.s.toks+1}:=λ{c} h=>
   have lt:Le [] ω2 (ω2.grow ω2.s.heap (ω2.s.toks+1) λy y e=>e):= .grow
   (F.step (l.trans lt)).store (ω:=ω2.grow ω2.s.heap (ω2.s.toks+1) λy y e=>e) (v:= .int c) (of_decide_eq_true hx) (.int _ _) λω3 e l3 F3=>K.nx _ ω3 (by refine Ae e ?_;exact h) (((l.trans lt).own' F.live).trans l3) F3
  cases op with
  |Add=>exact LA (go h)
  |Sub=>exact W3 (go h)
  |_=>exact Ad h
theorem Z6(Z:Bs B){x:Str}{o:Expr}{px:Pos}{e:Expr}(h:i.ev o w ω.σ (NK i x e w S))(K:Vj sc env own ω S R E):wpAny (model B.prog B.w) A (exec (.AugAssign (.Attribute o x px) .Add e pos) env) R E ω.s:=
 Hy (wpAny_AugAssign_AttributeAny (T.ev h O F λa ca ω1 h l1 r1=>Xr (Q:=λv σ=>Jg i e w σ x a S v) Z r1 h λv cv ω2 h l2 r2=>GV.el (G:=λcv=>wpAny (model B.prog B.w) A (eval e env) (λu s₃=>wpAny (model B.prog B.w) A (inplaceOp .Add cv u) (λr s₄=>wpAny (model B.prog B.w) A (setAttr ca x r) (λy=>R .next) bot s₄) bot s₃) bot ω2.s) r2 h λa' t h=>
  T.ev h O ((F.step l1).step l2) λu cu ω3 h l3 r3=>GV.el (G:=λcu=>wpAny (model B.prog B.w) A (inplaceOp .Add (.int a' t) cu) (λr s₄=>wpAny (model B.prog B.w) A (setAttr ca x r) (λy=>R .next) bot s₄) bot ω3.s) r3 h λb u h=>
   have lt:Le [] ω3 (ω3.grow ω3.s.heap (ω3.s.toks+1) λy y e=>e):= .grow;have l:=(((l1.trans l2).trans l3).trans lt)
   LA (Qq (ω:=ω3.grow ω3.s.heap (ω3.s.toks+1) λy y e=>e) (P:=Bo S w) (R:=λs=>R .next s) Z (((r1.step l2).step l3).step lt) (.int _ _) h λω5 h l5=>K.nx w ω5 h ((l.trans l5).own' F.live) (F.step (l.trans l5)))))
omit T in
theorem Qb9(V:V4 B k sc i)(N:En fs sc env){ss:List Stmt}(h:mU i ss w ω.σ S)(K:Vj sc env own ω S R E):wpAny (model B.prog B.w) A (execs ss env) R E ω.s:=by
 cases ss with
 |nil=>exact HW (K.nx w ω h .refl F)
 |cons st ss=>exact EA (V.ex h O F N ⟨λw1 ω1 h l F1=>V.Pq h O F1 N (K.after l),K.ct,K.rt,K.ex⟩)
end
section
variable{B:Wd}{fs:List Env}{ω ω' ω₁:Wl B fs}{A:Around}{k:Nat}{sc:Scope}{i:I}{w:Fm}{env:Env}{own:List Addr}{S:AF->(Fm×St)->Prop}{R:Flow->Shared->Prop}{E:Value->Shared->Prop}{pos:Pos}
noncomputable def swG(env:Env)(ts vs:List Expr)(f:Expr->Bool)(g:Expr->Option Str):Sem (Option (List Str)):=
 if(!(ts.length==2||ts.length==3)||vs.length != ts.length||env.blockKind != .function)=true then pure none
 else if vs.any f=true then pure none
 else if((ts.filterMap g).length != ts.length||(ts.filterMap g).eraseDups.length != (ts.filterMap g).length)=true then pure none
 else if vs.all (foldedForSure 8)=true then pure none
 else if vs.all (constantsAlone 8)=true then do unsupported "assign.tuple-of-constant-expressions:order-of-the-stores";pure (some (ts.filterMap g))
 else pure (some (ts.filterMap g))
theorem XF:∀{B:Wd}{fs:List Env}{sc:Scope}{w:Fm}{env:Env}{own:List Addr}{ts vs:List Expr}{a c:Nat}{b d:Pos}{r:Option (List Str)}{ω:Wl B fs}(vZ:env.scope=sc)(F:Bf sc ω env own w)(hs:Lh sc ts vs=some r),swappedStores [.Tuple ts a b] (.Tuple vs c d) env=pure r:=by
 refine@(Hp DO nL Kb nL NF nL nL ?_);generalize GE .. =z;generalize z.1=B,z.2.1=fs,z.2.2.1=sc,z.2.2.2.1=w,z.2.2.2.2.1=env,z.2.2.2.2.2.1=own,z.2.2.2.2.2.2=ts;refine@(Fd nL nN nN E4 E4 nO ?_);generalize E2 .. =z;generalize z.1=vs,z.2.1=a,z.2.2.1=c,z.2.2.2.1=b,z.2.2.2.2.1=d,z.2.2.2.2.2=r;intro ω vZ F hs;have hb:env.blockKind= .function:=by unfold Env.blockKind;refine Ae F.MC.kind ?_;rfl
 have hn:∀line,(λ(e:Expr)=>match e with
  | .Name id pos=>if(env.kindOf id==some .local&&pos.line==line)=true then some id else none
  |_=>none)=mK sc line:=λline=>funext λe=>by
  cases e with
  |Name id pos=>
   have:env.kindOf id=BJ sc.names id:=by unfold Env.kindOf;exact Ae vZ (Ae (DC ..) rfl)
   show(if(env.kindOf id==some .local&&pos.line==line)=true then some id else none)=if(BJ sc.names id==some .local&&pos.line==line)=true then some id else none
   exact Ae this rfl
  |_=>rfl
 have iD:(λ(e:Expr)=>match e with
  | .Starred .. =>true
  |_=>false)=Iu:=funext λe=>by cases e<;>rfl
 have e:swappedStores [.Tuple ts a b] (.Tuple vs c d) env=swG env ts vs (λ(e:Expr)=>match e with
  | .Starred .. =>true
  |_=>false) (λ(e:Expr)=>match e with
  | .Name id pos=>if(env.kindOf id==some .local&&pos.line==((ts.head?.map (λu=>u.pos.line)).getD 0))=true then some id else none
  |_=>none):=rfl
 refine Ae e (Ae iD (Ae (hn ..) ?_));unfold swG;unfold Lh at hs;refine Ae hb (Ae (bne_self_eq_false ..) (Ae (Nw ..) ?_));have go:∀{c:Bool}{x:Option (Option (List Str))}{y:Sem (Option (List Str))},(if c=true then some none else x)=some r->(x=some r->y=pure r)->(if c=true then pure none else y)=pure r:=λ{c x y} h k=>by
  cases c with
  |true=>cases h;rfl
  |false=>exact k h
 refine go hs λhs=>go hs λhs=>go hs λhs=>go hs λhs=>?_;generalize vs.all (constantsAlone 8)=c at hs;cases c with
 |true=>cases hs
 |false=>cases hs;rfl
theorem XG:∀{sc:Scope}{ts vs:List Expr}{names:List Str}(hs:Lh sc ts vs=some (some names)),∀x∈names,BJ sc.names x=some .local:=by
 refine@(ZG Kb nL nL nL ?_);generalize cG .. =z;generalize z.1=sc,z.2.1=ts,z.2.2.1=vs,z.2.2.2=names;intro hs;have go:∀{c:Bool}{x:Option (Option (List Str))},(if c=true then some none else x)=some (some names)->x=some (some names):=λ{c x} h=>by
  cases c with
  |true=>cases h
  |false=>exact h
 unfold Lh at hs;replace hs:=go (go (go (go hs)));generalize vs.all (constantsAlone 8)=c at hs;cases c with
 |true=>cases hs
 |false=>
  cases hs;intro x hx;obtain⟨y,hy,ZC⟩:=C9.mp hx;cases y with
  |Name id pos=>
   replace ZC:(if(BJ sc.names id==some .local&&pos.line==((ts.head?.map (λa=>a.pos.line)).getD 0))=true then some id else none)=some x:=ZC;by_cases hc:(BJ sc.names id==some .local&&pos.line==((ts.head?.map (λa=>a.pos.line)).getD 0))=true
   .rw[if_pos hc]at ZC;cases ZC;exact beq_iff_eq.mp (Aq.mp hc).1
   .rw[if_neg hc]at ZC;cases ZC
  |_=>exact(Ay _ ZC.symm).elim
theorem T1:∀{B:Wd}{fs:List Env}{A:Around}{sc:Scope}{env:Env}{own:List Addr}{names:List Str},∀{xs:List AV}{cs:List Value}{w:Fm}{ω:Wl B fs}{R:Shared->Prop},(∀x∈names,BJ sc.names x=some .local)->names.length=xs.length->GY ω xs cs->Bf sc ω env own w->(∀ω':Wl B fs,ω'.σ=ω.σ->Le own ω ω'->Bf sc ω' env own ((names.zip xs).foldl (λf p=>Kf f p.1 p.2) w)->R ω'.s)->
  wpAny (model B.prog B.w) A (assignInOrder (names.map λn=>bindName env n) cs) (λh s=>R s) bot ω.s:=by
 refine@(Hp DO nL Ja Kb NF nL nL ?_);generalize GE .. =c;generalize c.1=B,c.2.1=fs,c.2.2.1=A,c.2.2.2.1=sc,c.2.2.2.2.1=env,c.2.2.2.2.2.1=own,c.2.2.2.2.2.2=names;induction names with
 |nil=>
  intro xs cs w ω R hn hl q F hR;cases q with
  |nil=>exact Ax (hR ω rfl .refl F)
  |cons _ _=>cases hl
 |cons x names ih=>
  intro xs cs w ω R hn hl q F hR;cases q with
  |nil=>cases hl
  |cons p q=>exact Ag (Bb (wpAny_bindName (F.store (.inl (hn x (.head _))) p λω1 e l F1=>ih (λy hy=>hn y (.tail _ hy)) (O4 hl) (Qi.mono (l.TL λa ha=>(F.own a ha).nt) q) F1 λω2 e2 l2 F2=>hR ω2 (e2.trans e) (l.trans l2) F2)))
theorem A2.reverse{α β:Type}{R:α->β->Prop}{as:List α}{bs:List β}(q:A2 R as bs):A2 R as.reverse bs.reverse:=by
 induction q with
 |nil=>exact .nil
 |cons p _ ih=>refine Ae Eb (Ae Eb ?_);exact ih.append (.cons p .nil)
def AK(sc:Scope)(i:I)(t e:Expr)(w:Fm)(S:AF->(Fm×St)->Prop):Prop:=(∃ts a b vs c d,t= .Tuple ts a b/\e= .Tuple vs c d)\/(∀v σ,¬LP i sc t e w S v σ)\/
  ((∀env,swappedStores [t] e env=pure none)/\(∀env,(assignEach [t] env).map (λx=>x.2)=[assign t env])/\∀v σ,LP i sc t e w S v σ->i.asg t v w σ (Bo S))
theorem Qdu{sc:Scope}{i:I}{t e:Expr}{w:Fm}{S:AF->(Fm×St)->Prop}(h:∀v σ,¬LP i sc t e w S v σ):AK sc i t e w S:= .inr (.inl h)
theorem Qdv{sc:Scope}{i:I}{t e:Expr}{w:Fm}{S:AF->(Fm×St)->Prop}(h1:∀env,swappedStores [t] e env=pure none)(h2:∀env,(assignEach [t] env).map (λa=>a.2)=[assign t env])(h3:∀v σ,LP i sc t e w S v σ->i.asg t v w σ (Bo S)):AK sc i t e w S:= .inr (.inr ⟨h1,h2,h3⟩)
theorem jB{sc:Scope}{i:I}{t e:Expr}{w:Fm}{S:AF->(Fm×St)->Prop}:AK sc i t e w S:=by
 cases t with
 |Tuple ts a b=>cases e with
  |Tuple vs c d=>exact .inl ⟨_,_,_,_,_,_,rfl,rfl⟩
  |_=>exact Qdv (λx=>rfl) (λx=>rfl) λx x h=>h
 |List _ _=>exact Qdu λx x h=>h
 |Starred _ _=>exact Qdu λx x h=>h
 |_=>exact Qdv (λx=>rfl) (λx=>rfl) λx x h=>h
section
variable(T:NP B k sc i)(TA:NQ B k sc i)(O:Ga fs k A)(F:Bf sc ω env own w){t e:Expr}
include T O F
omit T O F in
theorem jC:∀{B:Wd}{fs:List Env}{A:Around}{k:Nat}{sc:Scope}{i:I}{w:Fm}{env:Env}{own:List Addr}{S:AF->(Fm×St)->Prop}{R:Flow->Shared->Prop}{E:Value->Shared->Prop}{pos:Pos}{t e:Expr}{ω:Wl B fs}(T:NP B k sc i)(O:Ga fs k A)(F:Bf sc ω env own w)(h:i.ev e w ω.σ (LP i sc t e w S))(W6:swapsWithSole [t] e pos.line env=pure false)(TA:NQ B k sc i)(vZ:env.scope=sc)(K:Vj sc env own ω S R E),wpAny (model B.prog B.w) A (exec (.Assign [t] e pos) env) R E ω.s:=by
 refine@(Ir DO nL Ja nN Kb Xg nL NF ?_);generalize G8 .. =z;generalize z.1=B,z.2.1=fs,z.2.2.1=A,z.2.2.2.1=k,z.2.2.2.2.1=sc,z.2.2.2.2.2.1=i,z.2.2.2.2.2.2.1=w,z.2.2.2.2.2.2.2=env;refine@(Hp nL nQ nQ nQ E4 Qk Qk ?_);generalize GE .. =z;generalize z.1=own,z.2.1=S,z.2.2.1=R,z.2.2.2.1=E,z.2.2.2.2.1=pos,z.2.2.2.2.2.1=t,z.2.2.2.2.2.2=e;intro ω T O F h W6 TA vZ K;have fin:∀{v:AV}{c:Value}{ω1:Wl B fs},i.asg t v w ω1.σ (Bo S)->Le [] ω ω1->Rp ω1 v c->wpAny (model B.prog B.w) A (assign t env c) (λy s=>R .next s) bot ω1.s:=λ{v c ω1} h l r=>
  TA.asg h O (F.step l) r λw2 ω2 h l2 F2=>K.nx w2 ω2 h ((l.own' F.live).trans l2) F2
 rcases jB (i:=i) (sc:=sc) (t:=t) (e:=e) (w:=w) (S:=S)with⟨ts,a,b,vs,c,d,rfl,rfl⟩|hd|⟨h1,h2,h3⟩
 .replace h:i.ev (.Tuple vs c d) w ω.σ (TV i sc (.Tuple ts a b) ts vs w S):=h;have eq:(assignEach [.Tuple ts a b] env).map (λy=>y.2)=[assign (.Tuple ts a b) env]:=rfl;cases hs:Lh sc ts vs with
  |none=>
   refine Ae (HY ..) ?_;refine Ag (BP ?_);refine Ae W6 ?_;refine Ag (Ax ?_);refine Ae (if_neg BM) ?_;exact Ag (Hy (T.ev h O F λv c ω1 h l r=>(show False by unfold TV at h;rw[RO,hs]at h;exact h).elim))
  |some o=>cases o with
   |none=>exact FJ (Hy (T.ev h O F λv c ω1 h l r=>Hy (fin (by unfold TV at h;rw[RO,hs]at h;exact h) l r))) W6 (XF vZ F hs)
   |some names=>
    refine Ae (HY ..) ?_;refine Ag (BP ?_);refine Ae W6 ?_;refine Ag (Ax ?_);refine Ae (if_neg BM) ?_;refine Ag (Hy (T.ev h O F λv c ω1 h l r=>?_));unfold TV at h;rw[RO,hs]at h;replace h:Bn (vV v some) λxs=>DI (decide (names.length=xs.length)) (S .next ((names.reverse.zip xs.reverse).foldl (λf p=>Kf f p.1 p.2) w,ω1.σ)):=h;refine Ae (XF vZ F hs) ?_;refine Ag (Ax ?_);unfold assignStores;refine Ag (N7 ?_);refine Hy (vV.el (f:=some) (P:=λxs=>DI (decide (names.length=xs.length)) (S .next ((names.reverse.zip xs.reverse).foldl (λf p=>Kf f p.1 p.2) w,ω1.σ))) (G:=λc=>wpAny (model B.prog B.w) A (do
      let items<-unpackItems c names.length none
      assignInOrder (names.reverse.map λn=>bindName env n) items.reverse
      pure .next) R bot ω1.s) r h λxs us l' n k1 k2 h=>?_)
    obtain⟨hl,h⟩:=DI.el (show DI (decide (names.length=xs.length)) (S .next ((names.reverse.zip xs.reverse).foldl (λf p=>Kf f p.1 p.2) w,ω1.σ))from h);have hl:=of_decide_eq_true hl;refine Ae hl ?_;exact Ag (Ur (xs:=xs) (M5 ⟨_,k1,rfl,_,rfl⟩) J8.lookup (λk=>R6 O.hd k1 k2 ⟨rfl,rfl⟩ k) λcs ω2 e2 l2 r2=>
     Ag (T1 (names:=names.reverse) (xs:=xs.reverse) (λx hx=>XG hs x (List.mem_reverse.mp hx)) (by exact Ae FK (Ae FK (Ae hl rfl))) r2.reverse (F.step (l.trans l2)) λω3 e3 l3 F3=>Ax (K.nx _ ω3 (by refine Ae e3 (Ae e2 ?_);exact h) (((l.trans l2).own' F.live).trans l3) F3)))
 .refine Ae (HY ..) ?_;refine Ag (BP ?_);refine Ae W6 ?_;refine Ag (Ax ?_);refine Ae (if_neg BM) ?_;exact Ag (Hy (T.ev h O F λv c ω1 h l r=>(hd _ _ h).elim))
 .exact FJ (Hy (T.ev h O F λv c ω1 h l r=>by refine Ae (h2 ..) ?_;exact Hy (fin (h3 _ _ h) l r))) W6 (h1 env)
end
end
section
variable{B:Wd}{fs:List Env}{ω₀ ω ω' ω₁:Wl B fs}{A:Around}{k:Nat}{sc:Scope}{i:I}{w:Fm}{env:Env}{own:List Addr}{S:AF->(Fm×St)->Prop}{R:Flow->Shared->Prop}{E:Value->Shared->Prop}{pos:Pos}
def SK(env:Env)(t e:Expr)(line:Nat):Prop:=swapsWithSole [t] e line env=pure false\/∃x px elt gens scope cp,t= .Name x px/\e= .ListComp elt gens scope cp/\swapsWithSole [t] e line env=pure true
theorem sk_{t e:Expr}{line:Nat}(h:swapsWithSole [t] e line env=pure false):SK env t e line:= .inl h
theorem Z7{t e:Expr}{line:Nat}(hp:I9 e=true):SK env t e line:=by
 cases e with
 |ListComp elt gens scope cp=>cases t with
  |Name x px=>
   have h:∃b,swapsWithSole [.Name x px] (.ListComp elt gens scope cp) line env=pure b:=⟨_,rfl⟩
   obtain⟨b,h⟩:=h;cases b with
   |false=>exact .inl h
   |true=>exact .inr ⟨x,px,elt,gens,scope,cp,rfl,rfl,h⟩
  |_=>exact sk_ rfl
 |SetComp _ _ _ _=>exact Br hp
 |DictComp _ _ _ _ _=>exact Br hp
 |_=>exact sk_ rfl
section
variable(T:NP B k sc i)(TA:NQ B k sc i)(U:Qb6 B k sc i)(O:Ga fs k A)(F:Bf sc ω env own w)
include T TA U O F
omit T in
omit TA U O F in
theorem oU:∀{B:Wd}{fs:List Env}{A:Around}{k:Nat}{sc:Scope}{i:I}{w:Fm}{env:Env}{own:List Addr}{S:AF->(Fm×St)->Prop}{R:Flow->Shared->Prop}{E:Value->Shared->Prop}{pos:Pos}{x:Str}{px cp:Pos}{elt:Expr}{gens:List Comprehension}{scope:Scope}{ω:Wl B fs}(TA:NQ B k sc i)(U:Qb6 B k sc i)(O:Ga fs k A)(F:Bf sc ω env own w)(h:i.ev (.ListComp elt gens scope cp) w ω.σ λv σ=>i.asg (.Name x px) v w σ (Bo S))(W6:swapsWithSole [.Name x px] (.ListComp elt gens scope cp) pos.line env=pure true)(K:Vj sc env own ω S R E),wpAny (model B.prog B.w) A (exec (.Assign [.Name x px] (.ListComp elt gens scope cp) pos) env) R E ω.s:=by
 refine@(I8 DO nL Ja nN Kb ?_);generalize Ke .. =c;generalize c.1=B,c.2.1=fs,c.2.2.1=A,c.2.2.2.1=k,c.2.2.2.2=sc;refine@(I8 Xg nL NF nL nQ ?_);generalize Ke .. =c;generalize c.1=i,c.2.1=w,c.2.2.1=env,c.2.2.2.1=own,c.2.2.2.2=S;refine@(Xe nQ nQ E4 A8 E4 E4 Qk nL Kb ?_);generalize Ql .. =c;generalize c.1=R,c.2.1=E,c.2.2.1=pos,c.2.2.2.1=x,c.2.2.2.2.1=px,c.2.2.2.2.2.1=cp,c.2.2.2.2.2.2.1=elt,c.2.2.2.2.2.2.2.1=gens,c.2.2.2.2.2.2.2.2=scope;intro ω TA U O F h W6 K;obtain⟨t,it,ifs,gs,rfl,y⟩:=U.comp (pos:=cp) (pp:=firstIterPos gens cp) (use:=some λv=>assignAll v ((assignEach [.Name x px] env).map (λa=>a.2))) (R:=λa s=>R .next s) h O F λD L v ω' m nL bL Nb hm q l r=>by
  show wpAny _ A (assign (.Name x px) env (.ref D)) _ _ ω'.s;have nLo:L∉own:=λZm=>(F.live _ Zm).elim λo e=>Ay _ (e.symm.trans nL);have hL:∃o,ω'.s.heap.get? L=some o:=(Hb Nb).elim λo y=>y.elim λa y=>y.elim λa y=>⟨o,y.1⟩
  refine TA.asg (R:=λlV=>∃m,lV.heap.Ns L m/\∀h',Fk L lV.heap h'->R .next {lV with heap:=h'}) q O (F.step l) r λw2 ω2 h l2 F2=>?_;have Zp:ω2.s.heap.Ns L m:=cZ Nb λo e=>l2.WV L o (λhw=>hm hw.mem) nLo e;have oL:Dq ω2 L:=⟨λhm2=>(l2.new L hm2).elim hm λh=>hL.elim λo e=>Ay _ (e.symm.trans h.1),bL,Gn Zp,(Hb Zp).elim λo y=>y.elim λa y=>y.elim λa y=>⟨o,y.1⟩⟩
  refine⟨m,Zp,λh' Pt=>?_⟩;have hk:∀b o,b≠L->ω2.s.heap.get? b=some o->h'.get? b=some o:=λb o hb e=>(Pt.2 b hb).trans e;exact K.nx w2 (ω2.mut L h' ω2.s.toks oL.mu oL.base oL.nt (λh=>absurd h (Iw nL)) hk) h (((l.own' F.live).trans l2).b7 nL) (F2.out oL (Uu Zp) nLo hk)
 refine Ae (HY ..) ?_;refine Ag (BP ?_);refine Ae W6 ?_;refine Ag (Ax ?_);refine Ae (if_pos rfl) ?_;unfold evalThenUse;exact Ag (Ag (Cb y (λa lV p=>Ax (Ax p)) λa a x=>x.elim))
theorem jD{ts:List Expr}{e:Expr}(h:hdC ts λt=>DI (I9 e) (i.ev e w ω.σ (LP i sc t e w S)))(vZ:env.scope=sc)(K:Vj sc env own ω S R E):wpAny (model B.prog B.w) A (exec (.Assign ts e pos) env) R E ω.s:=
 hdC.el (G:=λts=>wpAny (model B.prog B.w) A (exec (.Assign ts e pos) env) R E ω.s) h λt h=>by
  obtain⟨hp,h⟩:=DI.el h;rcases Z7 (t:=t) (line:=pos.line) (env:=env) hp with W6|⟨x,px,elt,gens,scope,cp,rfl,rfl,W6⟩
  .exact jC T O F h W6 TA vZ K
  .exact oU TA U O F h W6 K
end
theorem XH{m:Str}{x:Addr}{tr:Option Value->Prop}{K:Value->Shared->Prop}(O:Ga fs k A)(Te:V2 fs env)(l:Le own ω₀ ω)(F:Bf sc ω env own w)(q:Oq ω₀ ω own x m tr)(hK:∀ω':Wl B fs,ω'.σ=ω.σ->Le own ω₀ ω'->Bf sc ω' env own w->Oq ω₀ ω' own x m (· =some (rawInt env.locals))->K (.ref x) ω'.s):
  notedBy (model B.prog B.w) A env K (.ref x) ω.s:=V3 O Te l F q hK
theorem dE{m:Str}{x:Addr}{K:Value->Shared->Prop}(Te:V2 fs env)(l:Le own ω₀ ω)(F:Bf sc ω env own w){fl:Value}(q:Oq ω₀ ω own x m (λa=>a=some fl))(hK:∀ω':Wl B fs,ω'.σ=ω.σ->Le own ω₀ ω'->Bf sc ω' env own w->Oq ω₀ ω' own x m Qds->K (.ref x) ω'.s):
  cameBackBy (model B.prog B.w) A env K (.ref x) ω.s:=by
 have q0:=q;obtain⟨X,d,vs,o,q,⟨_,h⟩|⟨T,fl',t,h⟩⟩:=q
 .cases h
 .obtain⟨cM,sl,e1,e2⟩:=q.cM;unfold cameBackBy;refine Ag (Jt e2 rfl t.at_ ?_);refine Ae (if_neg (by simp)) ?_;exact MF l F q0 λω' e l' F' q'=>hK ω' e l' F' (q'.weak λa a=>trivial)
theorem oV:∀{B:Wd}{fs:List Env}{A:Around}{k:Nat}{sc:Scope}{i:I}{w:Fm}{env:Env}{own:List Addr}{S:AF->(Fm×St)->Prop}{R:Flow->Shared->Prop}{E:Value->Shared->Prop}{pos:Pos}{t:Expr}{b:List Stmt}{ω:Wl B fs}(T:NP B k sc i)(V:V4 B k sc i)(O:Ga fs k A)(F:Bf sc ω env own w)(N:En fs sc env)(h:whP i t b w S Vt w ω.σ)(K:Vj sc env own ω S R E),wpAny (model B.prog B.w) A (exec (.While t b [] pos) env) R E ω.s:=by
 refine@(Ir DO nL Ja nN Kb Xg nL NF ?_);generalize G8 .. =z;generalize z.1=B,z.2.1=fs,z.2.2.1=A,z.2.2.2.1=k,z.2.2.2.2.1=sc,z.2.2.2.2.2.1=i,z.2.2.2.2.2.2.1=w,z.2.2.2.2.2.2.2=env;refine@(Hp nL nQ nQ nQ E4 Qk nL ?_);generalize GE .. =z;generalize z.1=own,z.2.1=S,z.2.2.1=R,z.2.2.2.1=E,z.2.2.2.2.1=pos,z.2.2.2.2.2.1=t,z.2.2.2.2.2.2=b;intro ω T V O F N h K;refine wpAny_While (codeAny_whileLoop (λm s1=>∃(w1:Fm)(ω1:Wl B fs),ω1.s=s1/\whP i t b w S m w1 ω1.σ/\Le own ω ω1/\Bf sc ω1 env own w1) (λm s1 hI=>?_) Vt ⟨w,ω,rfl,h,.refl,F⟩);obtain⟨w1,ω1,rfl,h,l1,F1⟩:=hI;cases m with
 |zero=>exact Ad h
 |succ m=>
  refine Hy (T.Po h O F1 λc ω2 h l2=>?_);have l:=l1.trans (l2.own' F1.live);have F2:=F1.step l2;cases c with
  |false=>refine Ae (if_neg BM) ?_;exact HW (K.nx w1 ω2 h l F2)
  |true=>
   refine Ae (if_pos rfl) ?_;exact V.Pq (S:=Lp (mN w (whP i t b w S m)) S) h O F2 N ⟨λw3 ω3 h l3 F3=>⟨m,Hl m,E0 w w3,ω3,rfl,h,l.trans l3,F3.E0 w⟩,λw3 ω3 h l3 F3=>⟨m,Hl m,E0 w w3,ω3,rfl,h,l.trans l3,F3.E0 w⟩,λv c w3 ω3 h l3 F3 r=>K.rt v c w3 ω3 h (l.trans l3) F3 r,
    λm' x w3 ω3 h l3 F3 q=>XH O N.te (l.trans l3) F3 (q.from l) λω4 e4 l4 F4 q4=>dE N.te l4 F4 q4 λω5 e5 l5 F5 q5=>K.ex m' x w3 ω5 (by refine Ae e5 (Ae e4 ?_);exact h) l5 F5 q5⟩
theorem Oq.held{hd:Option Nat}{J x:Addr}{m:Str}{tr:Option Value->Prop}{b:Bool}{ω₂:Wl B fs}(H:JL ω₁ ω₂ hd J)(q:Oq ω₂ ω' (J::own) x m tr):Oq ω₁ (ω'.El b hd) own x m tr:=
 q.elim λX y=>⟨X,y.elim λd y=>y.elim λvs y=>⟨d,vs,⟨λa ha=>have q:=y.1.at_ a ha;⟨q.mu,q.base,q.nt,q.live⟩,λa ha=>H.none (y.1.nw a ha),λa ha hm=>y.1.no a ha (.tail _ hm),y.1.nc⟩,y.2⟩⟩
theorem Oq.more{J x:Addr}{m:Str}{tr:Option Value->Prop}(hl:∃o,ω.s.heap.get? J=some o)(q:Oq ω ω' own x m tr):Oq ω ω' (J::own) x m tr:=
 q.elim λX y=>⟨X,y.elim λd y=>y.elim λvs y=>⟨d,vs,⟨y.1.at_,y.1.nw,λa ha hm=>(Au.mp hm).elim (λe=>hl.elim λo e'=>Ay _ (e'.symm.trans (e▸y.1.nw a ha))) (y.1.no a ha),y.1.nc⟩,y.2⟩⟩
theorem Bf.zU(F:Bf sc ω env own w):∀x c,BJ sc.names x=some .cell->env.cells.lookup x=some c->c∈own:=λx c hx hc=>(F.cell x hx).elim λc' y=>y.elim λv y=>BB (hc.symm.trans y.1)▸y.2.1
theorem oW:∀{B:Wd}{fs:List Env}{A:Around}{k:Nat}{sc:Scope}{i:I}{w:Fm}{env:Env}{own:List Addr}{S:AF->(Fm×St)->Prop}{t:Expr}{b:List Stmt}{xs:List AV}{J:Addr}{fp:List Addr}{P:Nat->Value->Prop}{LF:Nat->Heap->Prop}{R:Result->Shared->Prop}{ω:Wl B fs}(TA:NQ B k sc i)(V:V4 B k sc i)(O:Ga fs k A)(N:En fs sc env)(hJ:J∉own)(F:Bf sc ω env own w)(G:Zo A ω xs J fp P LF)(st:LF 0 ω.s.heap)(oJ:Dq ω J)(h:MU i t b w S xs w ω.σ)(hn:∀w'(ω':Wl B fs),S .next (w',ω'.σ)->Le (J::own) ω ω'->Bf sc ω' env own w'->R (.ok .next) ω'.s)(hr:∀v c w'(ω':Wl B fs),S (.ret v) (w',ω'.σ)->Le (J::own) ω ω'->Bf sc ω' env own w'->Rp ω' v c->R (.ok (.ret c)) ω'.s)(he:∀m x w'(ω':Wl B fs),S (.exc m) (w',ω'.σ)->Le (J::own) ω ω'->Bf sc ω' env (J::own) w'->Oq ω ω' (J::own) x m (· =some (rawInt env.locals))->R (.error (.ref x)) ω'.s),codeAny (model B.prog B.w) A (.forLoop t (.ref J) b [] env) R ω.s:=by
 refine@(Xe DO nL Ja nN Kb Xg nL NF nL ?_);generalize Ql .. =z;generalize z.1=B,z.2.1=fs,z.2.2.1=A,z.2.2.2.1=k,z.2.2.2.2.1=sc,z.2.2.2.2.2.1=i,z.2.2.2.2.2.2.1=w,z.2.2.2.2.2.2.2.1=env,z.2.2.2.2.2.2.2.2=own;refine@(Xe nQ Qk nL nL nN nL nQ nQ nQ ?_);generalize Ql .. =z;generalize z.1=S,z.2.1=t,z.2.2.1=b,z.2.2.2.1=xs,z.2.2.2.2.1=J,z.2.2.2.2.2.1=fp,z.2.2.2.2.2.2.1=P,z.2.2.2.2.2.2.2.1=LF,z.2.2.2.2.2.2.2.2=R;intro ω TA V O N hJ F G st oJ h hn hr he;have al:∀a∈J::own,∃o,ω.s.heap.get? a=some o:=AZ.mpr ⟨oJ.live,F.live⟩;refine codeAny_forLoop_any (λm s=>∃(n:Nat)(w1:Fm)(ω1:Wl B fs),ω1.s=s/\n+m=xs.length/\MU i t b w S (xs.drop n) w1 ω1.σ/\Le (J::own) ω ω1/\Zo A ω1 xs J fp P LF/\LF n ω1.s.heap/\Dq ω1 J/\Bf sc ω1 env own w1) (λm s hI=>?_) xs.length ⟨0,w,ω,rfl,BO _,h,.refl,G,st,oJ,F⟩;obtain⟨n,w1,ω1,rfl,hm,h,l1,G1,st1,o1,F1⟩:=hI;have al1:∀a∈J::own,∃o,ω1.s.heap.get? a=some o:=AZ.mpr ⟨o1.live,F1.live⟩;have wide:∀{ω2:Wl B fs},Le [J] ω1 ω2->Le (J::own) ω ω2:=λl=>l1.trans (l.wide (λa ha=>Ai.mp ha▸ .head _) al1);cases m with
 |zero=>
  have hm:n=xs.length:=hm;subst hm;rw[J7]at h;exact Hy (VY G1 st1 o1 λω2 X=>HW (hn w1 ω2 (show S .next (w1,ω2.σ) by refine Ae (X.σ) ?_;exact h) (wide X.le) (X.WV hJ F1)))
 |succ m=>
  have hlt:n<xs.length:=hm▸Gx (Pf m);rw[Fy hlt]at h;refine Hy (VX G1 (Ap hlt) st1 o1 λc ω2 X o2 G2 st2 r2=>?_);refine Hy (Qt (G1.obj _ _ st2) (Hy (TA.asg (F:=TnK i b (Lp (mN w (MU i t b w S (xs.drop (n+1)))) S)) (by refine Ae (X.σ) ?_;exact h) O (X.WV hJ F1) r2 λw3 ω3 h l3 F3=>?_)));have step:∀{ω3 ω4:Wl B fs}{w3:Fm},Zo A ω3 xs J fp P LF->LF (n+1) ω3.s.heap->Dq ω3 J->Bf sc ω3 env own w3->Le own ω3 ω4->Zo A ω4 xs J fp P LF/\LF (n+1) ω4.s.heap/\Dq ω4 J:=λ{ω3 ω4 w3} G3 lU o3 F3 l=>by
   have x3:=G3.obj _ _ lU;have st4:=G3.bX l F3.own (λo e=>l.keep J o (λhw=>o3.mu hw.mem) hJ x3.nf e) lU;exact⟨G3.step l F3.own,st4,o3.step l (G3.obj _ _ st4).bZ (G3.obj _ _ st4).alive⟩
  obtain⟨G3,lU,o3⟩:=step G2 st2 o2 (X.WV hJ F1) l3;have l23:=(wide X.le).trans (l3.more o2.live);have nx:∀w4(ω4:Wl B fs),MU i t b w S (xs.drop (n+1)) (E0 w w4) ω4.σ->Le own ω3 ω4->Bf sc ω4 env own w4->∃m',m'<m+1/\∃(n:Nat)(w1:Fm)(ω1:Wl B fs),ω1.s=ω4.s/\n+m'=xs.length/\MU i t b w S (xs.drop n) w1 ω1.σ/\Le (J::own) ω ω1/\Zo A ω1 xs J fp P LF/\LF n ω1.s.heap/\Dq ω1 J/\Bf sc ω1 env own w1:=λw4 ω4 h l4 F4=>by
   obtain⟨G4,st4,o4⟩:=step G3 lU o3 F3 l4;exact⟨m,Hl m,n+1,E0 w w4,ω4,rfl,(FU n m).trans hm,h,l23.trans (l4.more o3.live),G4,st4,o4,F4.E0 w⟩
  exact V.Pq h O F3 N ⟨λw4 ω4 h l4 F4=>nx w4 ω4 h l4 F4,λw4 ω4 h l4 F4=>nx w4 ω4 h l4 F4,λv c w4 ω4 h l4 F4 r=>hr v c w4 ω4 h (l23.trans (l4.more o3.live)) F4 r,λm' x w4 ω4 h l4 F4 q=>by
   obtain⟨_,_,o4⟩:=step G3 lU o3 F3 l4;exact XH O N.te (l23.trans (l4.more o3.live)) (F4.more o4) ((q.more o3.live).from l23) λω5 e5 l5 F5 q5=>he m' x w4 ω5 (by refine Ae e5 ?_;exact h) l5 F5 q5⟩
theorem Qca(Z:Bs B)(T:NP B k sc i)(TA:NQ B k sc i)(V:V4 B k sc i)(O:Ga fs k A)(F:Bf sc ω env own w)(N:En fs sc env){t it:Expr}{b:List Stmt}(h:i.items it w ω.σ (Xi i t b w S))(K:Vj sc env own ω S R E):wpAny (model B.prog B.w) A (exec (.For t it b [] pos) env) R E ω.s:=by
 have y:=T.items (Rc:=λitv s=>codeAny (model B.prog B.w) A (.forLoop t itv b [] env) (λr s'=>match r with| .ok f=>R f s'| .error e=>cameBackBy (model B.prog B.w) A env E e s') s) h O F λxs hd J fp P LF ω1 ω2 h l H G st=>by
  have F1:=F.step l;have F2:=F1.held H;have hJ:=H.vB F1;have bk:∀{ω':Wl B fs},Le (J::own) ω2 ω'->Le own ω (ω'.El (D2 ω1.σ hd) hd):=λl'=>(l.own' F.live).trans (H.back (AZ.mpr ⟨H.own,F2.own⟩) l');exact oW (S:=Xh S ω1.σ hd) TA V O N hJ F2 G st H.own (H.σ▸h) (λw' ω' h l' F'=>K.nx w' (ω'.El (D2 ω1.σ hd) hd) h (bk l') F'.El) (λv c w' ω' h l' F' r=>K.rt v c w' (ω'.El (D2 ω1.σ hd) hd) h (bk l') F'.El r)
   λm x w' ω' h l' F' q=>dE N.te l' F' q λω5 e5 l5 F5 q5=>K.ex m x w' (ω5.El (D2 ω1.σ hd) hd) (by show Xh S ω1.σ hd (.exc m) (w',ω5.σ);refine Ae e5 ?_;exact h) (bk l5) (F5.less (λa ha=> .tail _ ha) F.loc F.zU).El ((q5.held H).from (l.own' F.live))
 exact wpAny_For (Hy (Cb y.2 (λx s3 p3=>Hy p3) λz z x=>x)) y.1
end
structure Sa(B:Wd)(d:Oo)(a:Addr):Prop where
 it:∃o fd,B.h₀.get? a=some o/\o.data= .func fd/\fd.body= .stmts d.body/\fd.scope=d.scope/\fd.globals=mainGlobals/\fd.closure=[]/\fd.builtins=builtinsNs/\B.h₀.CodeRec fd.code fd.qualname/\
  (∀s vals,(∀b o,B.h₀.get? b=some o->s.heap.get? b=some o)->vals.length=d.params.length->BindsTo s fd ⟨vals,[]⟩ (d.params.zip vals))
 co:d.scope.isCoroutine=false
 gen:d.scope.isGenerator=false
 nd:d.params.Nodup
 kinds:∀x∈d.params,BJ d.scope.names x=some .local\/BJ d.scope.names x=some .cell
structure KR2{B:Wd}{fs:List Env}(ω:Wl B fs)(Q:Res->St->Prop)(R E:Value->Shared->Prop):Prop where
 val:∀v c(ω':Wl B fs),Q (.val v) ω'.σ->Le [] ω ω'->Rp ω' v c->R c ω'.s
 exc:∀m x(ω':Wl B fs),Q (.exc m) ω'.σ->Le [] ω ω'->Oq ω ω' [] x m (λa=>a=some .none)->E (.ref x) ω'.s
def RR(R E:Value->Shared->Prop)(r:Result)(s:Shared):Prop:=match r with
 | .ok (.ret c)=>R c s
 | .ok _=>False
 | .error e=>E e s
def QW(B:Wd)(C:Cl)(k:Nat):Prop:=
 ∀{fs:List Env}{ω:Wl B fs}{g:Str}{vs:List AV}{Q:Res->St->Prop}{A:Around}{fv:Value}{cs:List Value}{R E:Value->Shared->Prop},C g vs ω.σ Q->Ga fs k A->B.mg g=some fv->GY ω vs cs->KR2 ω Q R E->wpAny (model B.prog B.w) A (call fv cs) R E ω.s
section
variable{B:Wd}{fs:List Env}{ω ω':Wl B fs}{A:Around}{C:Cl}{k:Nat}{sc:Scope}{env:Env}{own:List Addr}{L:Addr}
theorem Sb(he:env.frame=some L):Fu (env::fs)=L::Fu fs:=by unfold Fu;exact Ae Er (Ae he rfl)
theorem Inv.on{fs':List Env}{σ:St}{μ:List Addr}{h:Heap}(I:Inv B fs σ μ h)(hf:∀a∈Fu fs',a∉μ/\B.h₀.get? a=none/\∃o es ep,h.get? a=some o/\o.data= .dict es ep):Inv B fs' σ μ h:=⟨I.len,I.nd,I.obj,I.base,I.fresh,hf⟩
noncomputable def Wl.off(ω:Wl B (env::fs))(he:env.frame=some L):Wl B fs:=⟨ω.σ,ω.μ,ω.s,ω.inv.on λa ha=>ω.inv.W5 a (by refine Ae (Sb he) ?_;exact .tail _ ha)⟩
noncomputable def Wl.enter(ω:Wl B fs)(env:Env)(s:Shared){m:Str->Option Value}(he:env.frame=some L)(hk:∀b o,ω.s.heap.get? b=some o->s.heap.get? b=some o)(nL:ω.s.heap.get? L=none)(hn:s.heap.Ns L m):Wl B (env::fs):=
 ⟨ω.σ,ω.μ,s,(ω.grow s.heap s.toks hk).inv.on λa ha=>by
  rw[Sb he]at ha;rcases Au.mp ha with h|h
  .subst h;exact⟨λhm=>(ω.iA hm).elim λo y=>Ay _ (y.1.symm.trans nL),D3 nL,Hb hn⟩
  .exact(ω.grow s.heap s.toks hk).inv.W5 a h⟩
theorem Le.leave{ω₁ ω₂:Wl B (env::fs)}(he:env.frame=some L)(hσ:ω₁.σ=ω.σ)(hμ:ω₁.μ=ω.μ)(hk:∀b o,ω.s.heap.get? b=some o->ω₁.s.heap.get? b=some o)(hs:∃h tk,ω₁.s={ω.s with heap:=h,toks:=tk})(nL:ω.s.heap.get? L=none)(no:∀a∈own,ω.s.heap.get? a=none)(x:Le own ω₁ ω₂):Le [] ω (ω₂.off he):=by
 have hw:∀{b},¬Wr ω b->¬Wr ω₁ b:=λhb ⟨j,hj,hf⟩=>hb ⟨j,hμ▸hj,hσ▸hf⟩;have ho:∀{b o},ω.s.heap.get? b=some o->b∉own:=λe hm=>Ay _ (e.symm.trans (no _ hm));refine⟨λi a e=>x.mu i a (hμ▸e),λa e=>(x.new a e).imp (λh=>hμ▸h) λh=>⟨?_,AU⟩,λb o hb y hf e=>x.keep b o (hw hb) (ho e) (λhm=>?_) (hk b o e),λb o hb y e=>x.WV b o (hw hb) (ho e) (hk b o e),λi a e=>?_,λb o y e=>x.live b o (ho e) (hk b o e),?_⟩
 .exact A9.mpr λo e=>Ay _ ((hk a o e).symm.trans h.1)
 .rw[Sb he]at hm;exact(Au.mp hm).elim (λe'=>Ay _ (e.symm.trans (e'▸nL))) hf
 .exact(x.flag i a (hμ▸e)).trans (by exact Ae (hσ) rfl)
 .obtain⟨h1,t1,e1⟩:=hs;obtain⟨h2,t2,e2⟩:=x.same;exact⟨h2,t2,by show ω₂.s=_;exact Ae e2 (Ae e1 rfl)⟩
theorem Oq.leave{ω₁ ω₂:Wl B (env::fs)}{x:Addr}{m:Str}{tr:Option Value->Prop}(he:env.frame=some L)(hk:∀b o,ω.s.heap.get? b=some o->ω₁.s.heap.get? b=some o)(q:Oq ω₁ ω₂ own x m tr):Oq ω (ω₂.off he) [] x m tr:=
 q.elim λX y=>⟨X,y.elim λd y=>y.elim λvs y=>⟨d,vs,⟨λa ha=>have q:=y.1.at_ a ha;⟨q.mu,q.base,q.nt,q.live⟩,λa ha=>A9.mpr λo e=>Ay _ ((hk a o e).symm.trans (y.1.nw a ha)),λh h=>AU,y.1.nc⟩,y.2⟩⟩
structure AIn(fs:List Env)(k:Nat)(A:Around):Prop where
 all:∀e∈fs,e.scope.kind≠ .module/\∃L,e.frame=some L
 hd:A.handled=none
 fs:A.frames=some fs
 dp:A.depth+(2*k+1)+5<recursionLimit
 un:A.units+3+20*k+200<cLine
theorem Ga.aIn(O:Ga fs (k+1) A):AIn fs k A:=⟨O.all,O.hd,O.fs,by have:=O.dp;exact BC 0x205121121021243003312051211210321240033111 this,by have:=O.un;exact BC 0x20c822101422431200333120c822112103142240033111 this⟩
theorem AIn.deep(O:AIn fs k A)(h:env.scope.kind≠ .module/\∃L,env.frame=some L):Ga (env::fs) k (A.deeper env) where
 all:=AZ.mpr ⟨h,O.all⟩
 hd:=O.hd
 fs:=by show A.frames.map (env:: ·)=_;refine Ae O.fs ?_;rfl
 dp:=by show A.depth+1+2*k+5<_;have:=O.dp;exact BC 0x205121021241120033312051211210212430033111 this
 un:=by refine Ae (Around.deeper_units ..) ?_;have:=O.un;exact BC 0x20c822101422431200333120c822101422431200333111 this
theorem T2{x:Str}{names:List (Str×NameKind)}:∀{i:Nat}{acc:List (Str×Addr)},(x,Hr)∈names\/(∃c,(x,c)∈acc)->∃c,(x,c)∈cellsFrom i names acc:=by
 induction names with
 |nil=>exactλh=>h.elim (λh=>nomatch h) id
 |cons p r ih=>
  obtain⟨y,kd⟩:=p;intro i acc h;show∃c,(x,c)∈(if(kd==Hr)=true then cellsFrom (i+1) r ((y,i)::acc)else cellsFrom i r acc);by_cases hk:(kd==Hr)=true
  .refine Ae (if_pos hk) ?_;exact ih (h.elim (λh=>(Au.mp h).elim (λh=>(by cases h;exact .inr ⟨i,.head _⟩)) .inl) λh=> .inr (h.elim λc h=>⟨c,.tail _ h⟩))
  .refine Ae (if_neg hk) ?_;exact ih (h.elim (λh=>(Au.mp h).elim (λh=>(by cases h;exact absurd rfl hk)) .inl) .inr)
theorem jE{kd:Str->Option NameKind}{x:Str}{ps:List Str}:∀{vs:List Value}{m:Str->Option Value},x∉ps->bindL kd (ps.zip vs) m x=m x:=by
 induction ps with
 |nil=>exactλa=>rfl
 |cons p ps ih=>
  intro vs m h;cases vs with
  |nil=>rfl
  |cons v vs=>
   (refine Ae Bp ?_;rw[bindL];refine Ae (ih λhm=>h (.tail _ hm)) ?_)
   by_cases hk:kd p=some .local
   .rw[if_pos hk];exact if_neg λe=>h (Au.mpr (.inl e))
   .exact Ae (if_neg hk) rfl
theorem jF{kd:Str->Option NameKind}{x:Str}{ps:List Str}:∀{vs:List Value}{m:Str->Option Value},x∉ps->bindC kd (ps.zip vs) m x=m x:=by
 induction ps with
 |nil=>exactλa=>rfl
 |cons p ps ih=>
  intro vs m h;cases vs with
  |nil=>rfl
  |cons v vs=>
   (refine Ae Bp ?_;rw[bindC];refine Ae (ih λhm=>h (.tail _ hm)) ?_)
   by_cases hk:kd p=some .local
   .exact Ae (if_pos hk) rfl
   .rw[if_neg hk];exact if_neg λe=>h (Au.mpr (.inl e))
theorem jG:∀{kd:Str->Option NameKind}{x:Str}{v:AV}{R:AV->Value->Prop}{as:List AV}{vs:List Value}(q:A2 R as vs),∀{ps:List Str}{ml mc:Str->Option Value},ps.Nodup->Dj (ps.zip as) x=some v->
  x∈ps/\∃c,R v c/\(kd x=some .local->bindL kd (ps.zip vs) ml x=some c)/\(kd x≠some .local->bindC kd (ps.zip vs) mc x=some c):=by
 refine@(Fd Vn A8 W2 nQ nL nL ?_);generalize E2 .. =z;generalize z.1=kd,z.2.1=x,z.2.2.1=v,z.2.2.2.1=R,z.2.2.2.2.1=as,z.2.2.2.2.2=vs;intro q;induction q with
 |nil=>intro ps ml mc _ e;rw[Gj]at e;cases e
 |@cons a c as vs p _ ih=>
  intro ps ml mc nd e;cases ps with
  |nil=>cases e
  |cons y ps=>
   obtain⟨n1,n2⟩:=CY.mp nd;rw[Bp,Gy]at e
   (refine Ae Bp ?_;rw[bindL,bindC])
   by_cases hx:y=x
   .subst hx;rw[if_pos rfl]at e;cases e;refine⟨.head _,c,p,λhk=>?_,λhk=>?_⟩
    ·(refine Ae (jE n1) ?_;rw[if_pos hk];exact Ae (if_pos rfl) rfl)
    ·(refine Ae (jF n1) ?_;rw[if_neg hk];exact Ae (if_pos rfl) rfl)
   .rw[if_neg hx]at e;obtain⟨h1,h2⟩:=ih n2 e;exact⟨.tail _ h1,h2⟩
theorem Qv{prog:Program}{w:World}{R:Result->Shared->Prop}{s:Shared}{a:Addr}{o:Obj}{fd:FuncData}{body:List Stmt}{vals:List Value}{binds:List (Str×Value)}
  (hroom:A.depth<recursionLimit) (ho:s.heap.get? a=some o) (hdata:o.data= .func fd) (zV:s.heap.NoLimit) (hcd:s.heap.CodeRec fd.code fd.qualname)
  (vD:fd.body= .stmts body) (hbind:BindsTo s fd ⟨vals,[]⟩ binds) (hclo:fd.closure=[])
  (hkind:∀x∈binds,fd.scope.names.lookup x.1=some .local\/(fd.scope.names.lookup x.1=some .cell/\((cellsFrom (s.heap.objs.size+1) fd.scope.names []).lookup x.1).isSome=true))
  (h:∀s₁,InCallC s (callEnvC fd s.heap.objs.size a).locals (bindL (callEnvC fd s.heap.objs.size a).kindOf binds λy=>none) (callEnvC fd s.heap.objs.size a).cells
    (bindC (callEnvC fd s.heap.objs.size a).kindOf binds λy=>none) s₁->
   wpAny (model prog w) (A.deeper (callEnvC fd s.heap.objs.size a)) (execs body (callEnvC fd s.heap.objs.size a)) (λf s'=>R (.ok (.ret (match f with| .ret v=>v|_=> .none))) s')
    (λe s'=>wpAny (model prog w) (A.deeper (callEnvC fd s.heap.objs.size a)) (leaving (callEnvC fd s.heap.objs.size a) e) (λy lV=>R (.error e) lV) (λe' lV=>R (.error e') lV) s') s₁)
  (hco:fd.scope.isCoroutine=false) (hgen:fd.scope.isGenerator=false) (hk:fd.scope.kind= .function):
  codeAny (model prog w) A (.call (.ref a) ⟨vals,[]⟩) R s:=by
 refine codeAny_call_function hroom ho hdata hco hgen vD hcd (hbind _ _ _ _ ?_);refine Ae hclo ?_;refine wpAny_newFunctionEnv_cells hk hkind λenv he s' x=>?_;subst he;exact⟨zV.keeps x.toInCall.keep,codeAny_func (h s' x)⟩
theorem oX:∀{B:Wd}{fs:List Env}{A:Around}{C:Cl}{k:Nat}{d:Oo}{fa:Addr}{args:List AV}{cs:List Value}{Q:Res->St->Prop}{R E:Value->Shared->Prop}{ω:Wl B fs}(Z:Bs B)(V:V4 B k d.scope (I.at C d.scope 1000))(D:Sa B d fa)(hr:iH C d args ω.σ Q)(O:AIn fs k A)(q:GY ω args cs)(K:KR2 ω Q R E),codeAny (model B.prog B.w) A (.call (.ref fa) ⟨cs,[]⟩) (RR R E) ω.s:=by
 refine@(Fd DO nL Ja nCl nN wM ?_);generalize E2 .. =z;generalize z.1=B,z.2.1=fs,z.2.2.1=A,z.2.2.2.1=C,z.2.2.2.2.1=k,z.2.2.2.2.2=d;refine@(Fd nN nL nL nQ nQ nQ ?_);generalize E2 .. =z;generalize z.1=fa,z.2.1=args,z.2.2.1=cs,z.2.2.2.1=Q,z.2.2.2.2.1=R,z.2.2.2.2.2=E;intro ω Z V D hr O q K;obtain⟨hc,hr⟩:=hr;obtain⟨hlen,HL⟩:=Aq.mp hc;obtain⟨o,fd,d1,d2,d3,d4,d5,d6,d7,d8,d9⟩:=D.it;have v0:fd.scope.kind= .function:=d4▸Di.fn HL;have cells:∀{x},BJ d.scope.names x=some .cell->∃b,(cellsFrom (ω.s.heap.objs.size+1) d.scope.names []).lookup x=some b:=λh=>(T2 (acc:=[]) (.inl (PI h))).elim λc hc=>Qu hc;refine Qv (binds:=d.params.zip cs) (by have:=O.dp;exact BC 0x200012051211210212430033111 this) (ω.inv.base _ _ d1) d2 (Z.nolimit.keeps ω.inv.base) (d8.keeps ω.inv.base) d3 (d9 ω.s cs ω.inv.base (q.length.trans (beq_iff_eq.mp hlen).symm)) d6 (λx hx=>?_) (λs1 ic=>?_) (d4▸D.co) (d4▸D.gen) v0
 .refine Ae d4 (CV (DC ..) ?_);exact(D.kinds _ (Q4 hx).1).imp id λh=>⟨h,(cells h).elim λb hb=>by refine Ae hb ?_;rfl⟩
 .generalize TM:callEnvC fd ω.s.heap.objs.size fa=env at ic⊢;have eL:env.locals=ω.s.heap.objs.size:=by refine CV TM ?_;rfl
  have eC:env.cells=cellsFrom (ω.s.heap.objs.size+1) d.scope.names []:=by refine CV TM (CV d4 ?_);rfl
  have eS:env.scope=d.scope:=by refine CV TM (CV d4 ?_);rfl
  have eF:env.frame=some env.locals:=by refine CV TM ?_;rfl
  have eG:env.globals=mainGlobals:=by refine CV TM (CV d5 ?_);rfl
  have eB:env.builtins=builtinsNs:=by refine CV TM (CV d7 ?_);rfl
  have eK:∀x,env.kindOf x=BJ d.scope.names x:=λx=>by unfold Env.kindOf;exact Ae eS (Ae (DC ..) rfl)
  have ekf:env.scope.kind= .function:=by refine Ae eS (CV d4 ?_);exact v0
  have Nb:=ic.toInCall.ns;have nL:ω.s.heap.get? env.locals=none:=DP (eL▸AL _);have nC:∀x c,env.cells.lookup x=some c->ω.s.heap.get? c=none:=λx c hc=>DP (KW (eL▸ic.above x c (mem_of_lookup hc)));have cel:∀{x},BJ d.scope.names x=some .cell->∃b,env.cells.lookup x=some b:=λh=>eC▸cells h;have own1:∀x c,env.cells.lookup x=some c->c∈env.locals::env.cells.filterMap (λp=>env.cells.lookup p.1):=λx c hc=> .tail _ (C9.mpr ⟨(x,c),mem_of_lookup hc,hc⟩);have memN:∀{b:Addr},ω.s.heap.get? b=none->b∉ω.μ:=λ{b} hb hm=>(ω.iA hm).elim λo y=>Ay _ (y.1.symm.trans hb);have own2:∀b∈env.locals::env.cells.filterMap (λp=>env.cells.lookup p.1),ω.s.heap.get? b=none/\Dq (ω.enter env s1 eF ic.toInCall.keep nL Nb) b:=λb hb=>(Au.mp hb).elim (λe=>by
    subst e;exact⟨nL,memN nL,D3 nL,Gn Nb,(Hb Nb).elim λo y=>y.elim λu y=>y.elim λu y=>⟨o,y.1⟩⟩) λh=>by
    obtain⟨p,_,hp⟩:=C9.mp h;have n:=nC _ _ hp;have c:=ic.cell _ _ hp;exact⟨n,memN n,D3 n,Qr c,c.elim λo y=>⟨o,y.1⟩⟩
  have q1:GY (ω.enter env s1 eF ic.toInCall.keep nL Nb) args cs:=Qi.mono (ME ic.toInCall.keep) q;have F1:Bf d.scope (ω.enter env s1 eF ic.toInCall.keep nL Nb) env (env.locals::env.cells.filterMap (λp=>env.cells.lookup p.1)) (d.params.zip args):=by
   refine⟨⟨HL,ekf,eG,eB,λx kd hx u=>(eK x).trans hx,λx y c hx hy=>name_of_addr ic.apart (mem_of_lookup hx) (mem_of_lookup hy)⟩,.head _,λx hx=>(cel hx).elim λb hb=>⟨b,_,hb,own1 _ _ hb,WR (ic.above x b (mem_of_lookup hb)),ic.cell x b hb⟩,⟨_,Nb,λx v hv=>?_⟩,λb hb=>(own2 b hb).2⟩;obtain⟨hm,c,hc,p1,p2⟩:=jG (kd:=env.kindOf) (ml:=λu=>none) (mc:=λu=>none) q1 D.nd hv;rcases D.kinds x hm with hk|hk
   .exact⟨⟨_,hk⟩,c,hc,.inl ⟨(eK x).trans hk,p1 ((eK x).trans hk)⟩⟩
   .have hkc:=(eK x).trans hk;obtain⟨b,hb⟩:=cel hk;have:=ic.cell x b hb;rw[p2 (by refine Ae hkc ?_;decide)]at this;exact⟨⟨_,hk⟩,c,hc,.inr ⟨.inl hkc,b,hb,this,WR (ic.above x b (mem_of_lookup hb))⟩⟩
  have N:En (env::fs) d.scope env:=⟨eS,⟨_,rfl⟩,eF⟩
  have hd:env.scope.kind≠ .module/\∃L,env.frame=some L:=⟨by refine Ae ekf ?_;decide,_,eF⟩
  have lv:∀{ω₂:Wl B (env::fs)},Le (env.locals::env.cells.filterMap (λp=>env.cells.lookup p.1)) (ω.enter env s1 eF ic.toInCall.keep nL Nb) ω₂->Le [] ω (ω₂.off eF):=Le.leave eF rfl rfl ic.toInCall.keep ic.toInCall.same nL λa ha=>(own2 a ha).1;have run:=V.Pq (fs:=env::fs) (ω:=ω.enter env s1 eF ic.toInCall.keep nL Nb) (S:=Qm Q) (R:=λf s'=>RR R E (.ok (.ret (match f with| .ret v=>v|_=> .none))) s') (E:=λe s'=>wpAny (model B.prog B.w) (A.deeper env) (leaving env e) (λu lV=>RR R E (.error e) lV) (λe' lV=>RR R E (.error e') lV) s') hr (O.deep hd) F1 N
   ⟨λw ω' h l F=>K.val .none .none (ω'.off eF) h (lv l) .none,λw ω' h l F=>Ad h,λv c w ω' h l F r=>K.val v c (ω'.off eF) h (lv l) r,λm x w ω' h l F q=>Ag (V3 (O.deep hd) N.te l F q λω3 e3 l3 F3 q3=>MF l3 F3 q3 λω4 e4 l4 F4 q4=>K.exc m x (ω4.off eF) (by show Q (.exc m) ω4.σ;refine Ae e4 (Ae e3 ?_);exact h) (lv l4) ((q4.leave eF ic.toInCall.keep).weak λu h=>h))⟩
  exact run
end
structure Ps(B:Wd):Prop where
 defs:∀x d,(Iv x).bind JQ=some d->∃a,B.mg x=some (.ref a)/\Sa B d a
 init:∃d fI,(Iv "Reading").bind PG=some d/\A6 B.K (.ref B.cR) "__init__"=some (some (.ref fI))/\GR B.K (.ref fI)=some (.type "function")/\Sa B d fI
section
variable{B:Wd}{fs:List Env}{ω ω':Wl B fs}{A:Around}{C:Cl}{k:Nat}
theorem Ga.under(O:Ga fs (k+1) A)(c:Addr)(rest:List Value):AIn fs k (A.under (.builtin "type.__call__" ⟨.ref c::rest,[]⟩)) where
 all:=O.all
 hd:=O.hd
 fs:=(show(A.under (.builtin "type.__call__" ⟨.ref c::rest,[]⟩)).frames=A.frames from rfl).trans O.fs
 dp:=by
  refine Ae (show(A.under (.builtin "type.__call__" ⟨.ref c::rest,[]⟩)).depth=A.depth+1 from rfl) ?_;have:=O.dp;exact BC 0x2051211210212431120033312051211210321240033111 this
 un:=by
  refine Ae (show(A.under (.builtin "type.__call__" ⟨.ref c::rest,[]⟩)).units=A.units+1 from rfl) ?_;have:=O.un;exact BC 0x20c8221014224312112003333120c822112103142240033111 this
theorem Wl.fresh(ω:Wl B fs){o:AO}{ob:Obj}(hf:ob.isFreed=false)(hq:∀h:Heap,(∀b o,ω.s.heap.get? b=some o->h.get? b=some o)->h.get? ω.s.heap.objs.size=some ob->Ij B (ω.μ++[ω.s.heap.objs.size]) h o ω.s.heap.objs.size):
  ∃ω':Wl B fs,ω'.s={ω.s with heap:=ω.s.heap.push ob}/\ω'.σ=ω.σ++[o]/\Le [] ω ω'/\Rp ω' (.ref ω.σ.length) (.ref ω.s.heap.objs.size):=
 have nf:=DP (h:=ω.s.heap) (AL _)
 ⟨(ω.grow (ω.s.heap.push ob) ω.s.toks Cg).add o _ (λhm=>DL _ (ω.live hm)) (D3 nf) (Iw nf) (hq _ Cg (Bi _ hf)),rfl,rfl,Le.grow.add nf AU,.ref (by refine CV (ω.inv.len) ?_;exact CO)⟩
theorem Z8:∀{B:Wd}{fs:List Env}{A:Around}{C:Cl}{k:Nat}{d:Oo}{args:List AV}{cs:List Value}{Q:Res->St->Prop}{R E:Value->Shared->Prop}{ω:Wl B fs}(Z:Bs B)(P:Ps B)(V:V4 B k d.scope (I.at C d.scope 1000))(hd:(Iv "Reading").bind PG=some d)(hr:iH C d (.ref (ω.σ.length+1)::args) (ω.σ++[.sd false [],.inst ω.σ.length]) (cK (ω.σ.length+1) Q))(O:Ga fs (k+1) A)(q:GY ω args cs)(K:KR2 ω Q R E),codeAny (model B.prog B.w) A (.call (.ref B.cR) ⟨cs,[]⟩) (RR R E) ω.s:=by
 refine@(Fd DO nL Ja nCl nN wM ?_);generalize E2 .. =z;generalize z.1=B,z.2.1=fs,z.2.2.1=A,z.2.2.2.1=C,z.2.2.2.2.1=k,z.2.2.2.2.2=d;refine@(I8 nL nL nQ nQ nQ ?_);generalize Ke .. =z;generalize z.1=args,z.2.1=cs,z.2.2.1=Q,z.2.2.2.1=R,z.2.2.2.2=E;intro ω Z P V hd hr O q K;obtain⟨d',fI,p1,p2,p3,p4⟩:=P.init;rw[hd]at p1;cases p1;have XK:B.K.In ω.s.heap:=Z.X.keeps ω.inv.base;obtain⟨ω1,e1,s1,l1,r1⟩:=ω.fresh (o:= .sd false []) (ob:=Ph) rfl λh hk e=>by
  obtain⟨o,es,ep,y,r⟩:=Lo (knd:=strKind B.prog B.w) ω.s.heap;rw[show(ω.s.heap.push {cls:= .type "dict",data:= .dict #[]}).get? ω.s.heap.objs.size=some Ph from Bi _ rfl]at y;cases y;exact .sd ⟨_,es,ep,e,r⟩ .nil
 obtain⟨ω2,e2,s2,l2,r2⟩:=ω1.fresh (o:= .inst ω.σ.length) (ob:=PySem.W.instObj B.cR ω.s.heap.objs.size) rfl λh hk e=> .inst e (by
  cases r1 with
  |ref e=>exact JR e)
 have l:=l1.trans l2;have hs:ω2.σ=ω.σ++[.sd false [],.inst ω.σ.length]:=by refine Ae s2 (Ae s1 (Ae (Ao ..) ?_));rfl
 have hl:ω1.σ.length=ω.σ.length+1:=by refine Ae s1 (Ae Ah ?_);rfl
 have run:=oX Z V p4 (ω:=ω2) (R:=λc s'=>c= .none/\R (.ref ω1.s.heap.objs.size) s') (E:=λa a=>False) (hs▸hr) (O.under B.cR cs) (.cons (hl▸r2) (q.step l)) ⟨λv c ω3 h l3 r3=>by
   cases r3 with
   |none=>exact⟨rfl,K.val _ _ ω3 h (l.trans l3) (hl▸r2.step l3)⟩
   |_=>exact Ad h,λm x ω3 h a a=>Ad h⟩
 rw[e2,e1]at run;generalize ω.s=s at run XK⊢;obtain⟨hp,g,dr,tk,os⟩:=s;refine PySem.W.make_core (PySem.W.makes_of XK Z.makes) (Dp XK p2) (λself=>Q5 XK self p3) (.inl rfl) ?_;dsimp only at run;rw[Mx]at run;exact GQ run λr s' p=>by
  cases r with
  |error e=>exact p.elim
  |ok fl=>cases fl with
   |ret v=>exact p
   |_=>exact p
end
section
variable{prog:Program}{w:World}{A:Around}{E:Value->Shared->Prop}{R:Result->Shared->Prop}{h:Heap}{g:Array GenState}{d:Drawn}{t:Nat}{os:OsState}
variable{nm q:Str}{C N:Addr}{bs bm:List Value}{sn:List Str}{sub:List Value}{ab:Bool}{col:Option Bool}{dd:Option Addr}{k0 k1 k2 k3 k5:Option Value}
theorem XI:∀{A:Around}{E:Value->Shared->Prop}{h:Heap}{g:Array GenState}{d:Drawn}{t:Nat}{os:OsState}{nm q:Str}{C N:Addr}{bs bm:List Value}{sn:List Str}{sub:List Value}{ab:Bool}{col:Option Bool}{dd:Option Addr}{k0 k1 k2 k3 k5:Option Value}{M:Model}{rest:List Value}{Q:Unit->Shared->Prop}(hC:h.get? C=some (excClassObj nm q C N bs bm true sn sub ab col dd k0 k1 k2 k3 k5 NE))(hB:(B0 C::bm).contains (.type "Exception")=true)(hq:Q () ⟨h,g,d,t,os⟩),wpAny M A (checkBuiltinCall NE ⟨.ref C::rest,[]⟩) Q E ⟨h,g,d,t,os⟩:=by
 refine@(Hp Ja nQ nH nA nDr nN nOs ?_);generalize GE .. =c;generalize c.1=A,c.2.1=E,c.2.2.1=h,c.2.2.2.1=g,c.2.2.2.2.1=d,c.2.2.2.2.2.1=t,c.2.2.2.2.2.2=os;refine@(Fd A8 A8 nN nN nL nL ?_);generalize E2 .. =c;generalize c.1=nm,c.2.1=q,c.2.2.1=C,c.2.2.2.1=N,c.2.2.2.2.1=bs,c.2.2.2.2.2=bm;refine@(Hp nL nL nB nO nO nO nO ?_);generalize GE .. =c;generalize c.1=sn,c.2.1=sub,c.2.2.1=ab,c.2.2.2.1=col,c.2.2.2.2.1=dd,c.2.2.2.2.2.1=k0,c.2.2.2.2.2.2=k1;refine@(Fd nO nO nO nMo nL nQ ?_);generalize E2 .. =c;generalize c.1=k2,c.2.1=k3,c.2.2.1=k5,c.2.2.2.1=M,c.2.2.2.2.1=rest,c.2.2.2.2.2=Q;intro hC hB hq;have Fx:=C1;have hstar:=Fx.noStar;simp only[NE]at hC⊢;simp only[checkBuiltinCall,Fx.newKind,Fx.newSplit,Fx.newRow]
 repeat (first|refine B1 hC ?_|(refine CU hC ?_;refine Ae hB ?_)|refine wpAny_staticBase_exc hC ?_|refine Qe hC ?_|simp only[bne_self_eq_false,CI,if_false]|wp_step)
 exact hq
abbrev Z9(rest:List Value):Obj:={cls:= .type "tuple",data:= .seq rest.toArray}
abbrev PN(C T:Addr):Obj:={cls:= .ref C,data:= .fields #[.ref T,.none,.none,.none,.bool false,.none]}
theorem Qdw:∀{prog:Program}{w:World}{A:Around}{R:Result->Shared->Prop}{h:Heap}{g:Array GenState}{d:Drawn}{t:Nat}{os:OsState}{nm q:Str}{C N:Addr}{bs bm:List Value}{sn:List Str}{sub:List Value}{ab:Bool}{col:Option Bool}{dd:Option Addr}{k0 k1 k2 k3 k5:Option Value}{rest:List Value}(hC:h.get? C=some (excClassObj nm q C N bs bm true sn sub ab col dd k0 k1 k2 k3 k5 NE))(hB:(B0 C::bm).contains (.type "Exception")=true)(hA:(B0 C::bm).contains (.type "AttributeError")=false)(hN:(B0 C::bm).contains (.type "NameError")=false)(hq:R (.ok (.ret (.ref (h.objs.size+1)))) ⟨(h.push (Z9 rest)).push (PN C h.objs.size),g,d,t,os⟩)(Vk:rest.length<=sizeLine),codeAny (model prog w) A (.builtin NE ⟨.ref C::rest,[]⟩) R ⟨h,g,d,t,os⟩:=by
 refine@(Hp hY lM Ja nQ nH nA nDr ?_);generalize GE .. =c;generalize c.1=prog,c.2.1=w,c.2.2.1=A,c.2.2.2.1=R,c.2.2.2.2.1=h,c.2.2.2.2.2.1=g,c.2.2.2.2.2.2=d;refine@(Fd nN nOs A8 A8 nN nN ?_);generalize E2 .. =c;generalize c.1=t,c.2.1=os,c.2.2.1=nm,c.2.2.2.1=q,c.2.2.2.2.1=C,c.2.2.2.2.2=N;refine@(Hp nL nL nL nL nB nO nO ?_);generalize GE .. =c;generalize c.1=bs,c.2.1=bm,c.2.2.1=sn,c.2.2.2.1=sub,c.2.2.2.2.1=ab,c.2.2.2.2.2.1=col,c.2.2.2.2.2.2=dd;refine@(Fd nO nO nO nO nO nL ?_);generalize E2 .. =c;generalize c.1=k0,c.2.1=k1,c.2.2.1=k2,c.2.2.2.1=k3,c.2.2.2.2.1=k5,c.2.2.2.2.2=rest;intro hC hB hA hN hq Vk;have Fx:=C1;have hends:=Fx.ends;simp only[NE]at hC⊢;refine codeAny_builtinAt Fx.entry ?_;unfold Builtin.«BaseException.__new__»;refine Q6 ?_;show PySem.wpAt _ _ _ (stack>>=_) _ _ _;refine Q6 (PySem.wpAt_stack λp below=>M8 ?_)
 wp_walk
 refine M8 ?_;refine Ae Fx.owner ?_
 repeat (first|with_reducible refine wpAny_madeHere_exc Fx.canon hC ?_|with_reducible refine B1 hC ?_|(with_reducible refine CU hC ?_;first|rw[hB]|rw[hA]|rw[hN])|wp_step)
 show R _ _;refine Ae (Mx ..) ?_;exact hq
theorem Qcb:∀{prog:Program}{w:World}{A:Around}{E:Value->Shared->Prop}{h:Heap}{g:Array GenState}{d:Drawn}{t:Nat}{os:OsState}{nm q:Str}{C N:Addr}{bs bm:List Value}{sn:List Str}{sub:List Value}{ab:Bool}{col:Option Bool}{dd:Option Addr}{k0 k1 k2 k3 k5:Option Value}{rest:List Value}{fI:Addr}{K:Bj}{Q:Value->Shared->Prop}(X:K.In h)(hC:h.get? C=some (excClassObj nm q C N bs bm true sn sub ab col dd k0 k1 k2 k3 k5 NE))(hB:(B0 C::bm).contains (.type "Exception")=true)(hA:(B0 C::bm).contains (.type "AttributeError")=false)(hN:(B0 C::bm).contains (.type "NameError")=false)(hi:A6 K (.ref C) "__init__"=some (some (.ref fI)))(hf:GR K (.ref fI)=some (.type "function"))(Vk:rest.length<=sizeLine)(hq:wpAny (model prog w) (A.under (.builtin "type.__call__" ⟨.ref C::rest,[]⟩)) (call (.ref fI) (.ref (h.objs.size+1)::rest)) (λr s'=>r= .none/\Q (.ref (h.objs.size+1)) s') E ⟨(h.push (Z9 rest)).push (PN C h.objs.size),g,d,t,os⟩),wpAny (model prog w) A (call (.ref C) rest) Q E ⟨h,g,d,t,os⟩:=by
 refine@(Ir hY lM Ja nQ nH nA nDr nN ?_);generalize G8 .. =c;generalize c.1=prog,c.2.1=w,c.2.2.1=A,c.2.2.2.1=E,c.2.2.2.2.1=h,c.2.2.2.2.2.1=g,c.2.2.2.2.2.2.1=d,c.2.2.2.2.2.2.2=t;refine@(Hp nOs A8 A8 nN nN nL nL ?_);generalize GE .. =c;generalize c.1=os,c.2.1=nm,c.2.2.1=q,c.2.2.2.1=C,c.2.2.2.2.1=N,c.2.2.2.2.2.1=bs,c.2.2.2.2.2.2=bm;refine@(Hp nL nL nB nO nO nO nO ?_);generalize GE .. =c;generalize c.1=sn,c.2.1=sub,c.2.2.1=ab,c.2.2.2.1=col,c.2.2.2.2.1=dd,c.2.2.2.2.2.1=k0,c.2.2.2.2.2.2=k1;refine@(Hp nO nO nO nL nN vR nQ ?_);generalize GE .. =c;generalize c.1=k2,c.2.1=k3,c.2.2.1=k5,c.2.2.2.1=rest,c.2.2.2.2.1=fI,c.2.2.2.2.2.1=K,c.2.2.2.2.2.2=Q;intro X hC hB hA hN hi hf Vk hq;have f1:=tc_lookup;have f2:=tc_bind (.ref C);have hT:(⟨h,g,d,t,os⟩:Shared).TypeIs (.ref C) "type":=⟨_,hC,rfl⟩
 refine I1 (HV ?_);show wpAny _ _ (callAny (.ref C) _) _ _ _
 repeat (any_goals (first|assumption|with_reducible refine B1 hC ?_|wp_step))
 refine⟨rfl,?_⟩;refine codeAny_call_builtin_at (Of _ (by decide +kernel)) entry_typeCall (wpAny_check_type_call_sub hC ?_)
 repeat (first|with_reducible refine B1 hC ?_|with_reducible refine Qe hC ?_|wp_step)
 refine codeAny_call_builtin_code (Of _ C1.quiet) (XI hC hB ?_);refine Qdw hC hB hA hN ?_ Vk;show wpAny _ _ _ _ _ _;have hk:∀b o,h.get? b=some o->((h.push (Z9 rest)).push (PN C h.objs.size)).get? b=some o:=λb o e=>Ba _ (Ba _ e);have hC₁:=hk _ _ hC;have X₁:K.In ((h.push (Z9 rest)).push (PN C h.objs.size)):=X.keeps hk;have Q8:((h.push (Z9 rest)).push (PN C h.objs.size)).get? (h.objs.size+1)=some (PN C h.objs.size):=by heap_get
 have hcC:(B0 C::bm).contains (.ref C)=true:=by simp
 unfold isInstance
 repeat (first|with_reducible refine B1 Q8 ?_|(show wpAny _ _ (isSubtype (.ref C) (.ref C)) _ _ _;refine CU hC₁ ?_;refine Ae hcC ?_)|wp_step)
 show wpAny _ _ (typeLookup (.ref C) _) _ _ _;refine Dp X₁ hi _ _ _ _ (λa a e=>e) ?_;refine Bb (Ag (Q5 X₁ (.ref (h.objs.size+1)) hf _ _ _ _ (λa a e=>e) ?_));refine Ag (Cb hq (λr s' hr=>?_) λa a x=>x);obtain⟨rfl,hQ⟩:=hr
 wp_walk
 exact hQ
variable{K:Bj}{cW x:Addr}{name:Str}{v:Value}{mA:Str->Option Value}
theorem T3:∀{prog:Program}{w:World}{A:Around}{E:Value->Shared->Prop}{h:Heap}{g:Array GenState}{d:Drawn}{t:Nat}{os:OsState}{nm q:Str}{C N:Addr}{bs:List Value}{sn:List Str}{sub:List Value}{ab:Bool}{col:Option Bool}{dd:Option Addr}{k0 k1 k2 k3 k5:Option Value}{K:Bj}{cW x:Addr}{name:Str}{v:Value}{mA:Str->Option Value}{tk:Tok}{Q:Fin->Shared->Prop}{ns:List Str}(X:K.In h)(hC:h.get? C=some (excClassObj nm q C N bs (Px cW) true sn sub ab col dd k0 k1 k2 k3 k5 NE))(hf:A6 K (.ref C) name=some none)(I:h.Inst x C mA)(hq:∀h' tk',h'.Inst x C (λy=>if y=name then some v else mA y)->
   (∀b o,b≠x->(∀o₀ dx,h.get? x=some o₀->o₀.dict=some dx->b≠dx)->h.get? b=some o->h'.get? b=some o)->
   (∀o₀,h.get? x=some o₀->∃o₁,h'.get? x=some o₁/\o₁.cls=o₀.cls/\o₁.data=o₀.data/\(∀dx,o₀.dict=some dx->o₁.dict=some dx)/\∀dx,o₀.dict=none->o₁.dict=some dx->h.get? dx=none)->Q (.done (.ret .none)) ⟨h',g,d,tk',os⟩) (hw:Within mA ns) (JM:ns.length<=sizeLine),wpAny (model prog w) A (Builtin.«object.__setattr__» ⟨[.ref x,.str name tk,v],[]⟩) Q E ⟨h,g,d,t,os⟩:=by
 refine@(Xe hY lM Ja nQ nH nA nDr nN nOs ?_);generalize Ql .. =c;generalize c.1=prog,c.2.1=w,c.2.2.1=A,c.2.2.2.1=E,c.2.2.2.2.1=h,c.2.2.2.2.2.1=g,c.2.2.2.2.2.2.1=d,c.2.2.2.2.2.2.2.1=t,c.2.2.2.2.2.2.2.2=os;refine@(Ir A8 A8 nN nN nL nL nL nB ?_);generalize G8 .. =c;generalize c.1=nm,c.2.1=q,c.2.2.1=C,c.2.2.2.1=N,c.2.2.2.2.1=bs,c.2.2.2.2.2.1=sn,c.2.2.2.2.2.2.1=sub,c.2.2.2.2.2.2.2=ab;refine@(Ir nO nO nO nO nO nO nO vR ?_);generalize G8 .. =c;generalize c.1=col,c.2.1=dd,c.2.2.1=k0,c.2.2.2.1=k1,c.2.2.2.2.1=k2,c.2.2.2.2.2.1=k3,c.2.2.2.2.2.2.1=k5,c.2.2.2.2.2.2.2=K;refine@(Ir nN nN A8 Os Vn nN nQ nL ?_);generalize G8 .. =c;generalize c.1=cW,c.2.1=x,c.2.2.1=name,c.2.2.2.1=v,c.2.2.2.2.1=mA,c.2.2.2.2.2.1=tk,c.2.2.2.2.2.2.1=Q,c.2.2.2.2.2.2.2=ns;intro X hC hf I hq hw JM;obtain⟨o,hx,hc,hnc,hd⟩:=I;obtain⟨oc,od,odt,osl⟩:=o;dsimp only at hc hnc hd;subst hc;have hpass:=PySem.F.store_Exception.passes (.ref x);have L:=Dp (M:=model prog w) X hf;have T:CQ (model prog w) h (typeOf (.ref x)) (.ref C):=(Hm hx).andThen .now;have Mr:CQ (model prog w) h (mroOf (.ref C)) (.ref C::Px cW):=((Hm (part:=none) hC).andThen .now).andThen .now;refine Ae (PySem.W.osa_eq ..) (Ae (refuse_eq ..) ?_);refine Ag (Ag (T _ _ _ _ (λa a e=>e) (Ag (Mr _ _ _ _ (λa a e=>e) ?_))));refine Ae (refuseLoop_ref ..) (Ae (refuseLoop_ref ..) (Ae hpass ?_));refine Ax (Ag (T _ _ _ _ (λa a e=>e) (Ag (L _ _ _ _ (λa a e=>e) ?_))));refine Ag (Ax ?_);show wpAny _ _ (GB (.ref x) (.ref C) (.str name tk) name v false) _ _ _;unfold GB
 repeat (first|with_reducible refine B1 hx ?_|with_reducible refine B1 hC ?_|wp_step)
 rcases hd with⟨hdn,hmA⟩|⟨dx,hdx,Gk,Nb⟩
 .subst hdn;dsimp only;refine Ae (if_neg (by simp[typeHasDict])) ?_;split
  .exact(hnc _ rfl).elim
  .have hx₁:(h.push {cls:= .type "dict",data:= .dict #[]}).get? x=some {cls:=B0 C,data:=odt,slots:=osl}:=Ba _ hx;have hxs:x≠h.objs.size:=Ea (D8 hx);refine Ag (wpAny_alloc' ?_);refine Ag (wpAny_update' hx₁ ?_);refine Ax ?_;have hgd:((h.push {cls:= .type "dict",data:= .dict #[]}).update x λo=>{cls:=o.cls,dict:=some h.objs.size,data:=o.data,slots:=o.slots}).get? h.objs.size
     =some {cls:= .type "dict",data:= .dict #[]}:=
    (M9 _ _ _ _ hxs.symm).trans (Heap.get?_push_at rfl rfl)
   have hnd:((h.push {cls:= .type "dict",data:= .dict #[]}).update x λo=>{cls:=o.cls,dict:=some h.objs.size,data:=o.data,slots:=o.slots}).Ns h.objs.size (λa=>none):=
    ⟨_,#[],_,hgd,rfl,λe he=>absurd he (by simp),λa=>rfl⟩
   show wpAny _ _ (Da h.objs.size (.str name tk) name v) _ _ _;unfold Da Hn;refine Ag (Ax (Ag (wpAny_nsSet1 (Heap.Ns1.of_empty hnd) λh' bY hs=>?_)));obtain⟨oD,esD,epD,hoD,hdD,hcD⟩:=bY.count (QS name v TC);refine Ag (J5 hoD (by refine Ae hdD ?_;exact J6 (AS hcD (by refine Ae Al (Ae Ar (Ae QT ?_));lia))) ?_)
   wp_walk
   have hx':h'.get? x=some {cls:= .ref C,dict:=some h.objs.size,data:=odt,slots:=osl}:=by
    refine(hs.2 x hxs).trans (CA _ hx₁ ?_);have vX:=(Heap.get?_some_iff.mp hx).2;cases odt<;>first|rfl|exact vX
   refine hq h' _ ⟨_,hx',rfl,hnc,.inr ⟨h.objs.size,rfl,hxs.symm,?_⟩⟩ (λb ob hbx a hb=>?_)
    (λo₀ h₀=>by
     rw[hx]at h₀;cases h₀;exact⟨_,hx',rfl,rfl,(λdx e=>by cases e),λdx a e=>by cases e;exact DP (AL _)⟩)
   .obtain⟨o',es,ep,e1,e2,e3,eu,e4⟩:=bY;exact⟨o',es,ep,e1,e2,e3,eu,λy=>by refine Ae (e4 y) ?_;by_cases hy:y=name<;>simp[hy,hmA]⟩
   .exact(hs.2 b (Ea (D8 hb))).trans ((M9 _ _ _ _ hbx).trans (Ba _ hb))
 .subst hdx;dsimp only;refine Ax ?_;show wpAny _ _ (Da dx (.str name tk) name v) _ _ _;unfold Da Hn;refine Ag (Ax (Ag (wpAny_nsSet1 Nb λh' bY hs=>?_)));obtain⟨oD,esD,epD,hoD,hdD,hcD⟩:=bY.count (QS name v hw);refine Ag (J5 hoD (by refine Ae hdD ?_;exact J6 (AS hcD (by refine Ae Al ?_;lia))) ?_)
  wp_walk
  refine hq h' _ ⟨_,(hs.2 x Gk.symm).trans hx,rfl,hnc,.inr ⟨dx,rfl,Gk,bY⟩⟩ (λb ob a hbd hb=>?_)
   (λo₀ h₀=>by
    rw[hx]at h₀;cases h₀;exact⟨_,(hs.2 x Gk.symm).trans hx,rfl,rfl,(λa e=>e),λa e=>by cases e⟩)
  exact(hs.2 b (hbd _ dx hx rfl)).trans hb
theorem dI:∀{prog:Program}{w:World}{A:Around}{E:Value->Shared->Prop}{h:Heap}{g:Array GenState}{d:Drawn}{t:Nat}{os:OsState}{nm q:Str}{C N:Addr}{bs:List Value}{sn:List Str}{sub:List Value}{ab:Bool}{col:Option Bool}{dd:Option Addr}{k0 k1 k2 k3 k5:Option Value}{K:Bj}{cW x:Addr}{name:Str}{v:Value}{mA:Str->Option Value}{Q:Unit->Shared->Prop}{ns:List Str}(X:K.In h)(hC:h.get? C=some (excClassObj nm q C N bs (Px cW) true sn sub ab col dd k0 k1 k2 k3 k5 NE))(hf:A6 K (.ref C) name=some none)(hsa:A6 K (.ref C) "__setattr__"=some (some (.builtin "object.__setattr__")))(I:h.Inst x C mA)(hq:∀h' tk',h'.Inst x C (λy=>if y=name then some v else mA y)->
   (∀b o,b≠x->(∀o₀ dx,h.get? x=some o₀->o₀.dict=some dx->b≠dx)->h.get? b=some o->h'.get? b=some o)->
   (∀o₀,h.get? x=some o₀->∃o₁,h'.get? x=some o₁/\o₁.cls=o₀.cls/\o₁.data=o₀.data/\(∀dx,o₀.dict=some dx->o₁.dict=some dx)/\∀dx,o₀.dict=none->o₁.dict=some dx->h.get? dx=none)->Q () ⟨h',g,d,tk',os⟩) (hw:Within mA ns) (JM:ns.length<=1000),wpAny (model prog w) A (setAttr (.ref x) name v) Q E ⟨h,g,d,t,os⟩:=by
 refine@(Ir hY lM Ja nQ nH nA nDr nN ?_);generalize G8 .. =c;generalize c.1=prog,c.2.1=w,c.2.2.1=A,c.2.2.2.1=E,c.2.2.2.2.1=h,c.2.2.2.2.2.1=g,c.2.2.2.2.2.2.1=d,c.2.2.2.2.2.2.2=t;refine@(Ir nOs A8 A8 nN nN nL nL nL ?_);generalize G8 .. =c;generalize c.1=os,c.2.1=nm,c.2.2.1=q,c.2.2.2.1=C,c.2.2.2.2.1=N,c.2.2.2.2.2.1=bs,c.2.2.2.2.2.2.1=sn,c.2.2.2.2.2.2.2=sub;refine@(Ir nB nO nO nO nO nO nO nO ?_);generalize G8 .. =c;generalize c.1=ab,c.2.1=col,c.2.2.1=dd,c.2.2.2.1=k0,c.2.2.2.2.1=k1,c.2.2.2.2.2.1=k2,c.2.2.2.2.2.2.1=k3,c.2.2.2.2.2.2.2=k5;refine@(Ir vR nN nN A8 Os Vn nQ nL ?_);generalize G8 .. =c;generalize c.1=K,c.2.1=cW,c.2.2.1=x,c.2.2.2.1=name,c.2.2.2.2.1=v,c.2.2.2.2.2.1=mA,c.2.2.2.2.2.2.1=Q,c.2.2.2.2.2.2.2=ns;intro X hC hf hsa I hq hw JM;have I0:=I;obtain⟨o,hx,hc,hnc,hd⟩:=I;obtain⟨oc,od,odt,osl⟩:=o;dsimp only at hc;subst hc;have T:CQ (model prog w) h (typeOf (.ref x)) (.ref C):=(Hm hx).andThen .now;have hcB:(B0 C::Px cW).contains (.type "object")=true:=by exact Ae Og (Ae (show(Px cW).contains (.type "object")=true from rfl) (Ae (Fp ..) rfl))
 have SF:=PySem.F.store_object;refine Ag (O9 (Ag (Ag (Ag (T _ _ _ _ (λa a e=>e) (Dp X hsa _ _ _ _ (λa a e=>e) (Bb ?_)))))));refine Ae (SF.slot.bind ..) ?_;refine Ag (Ax (Ag (I1 ?_)));refine HJ SF.slot.plain SF.entry ?_;have sub:CQ (model prog w) h (isInstance (.ref x) (.type "object")) true:=T.andThen (λA Q E s k q=>by
  obtain⟨h',g',d',t',os'⟩:=s;exact CU (k _ _ hC) (by refine Ae hcB ?_;exact q))
 refine@Oh (model prog w) _ _ ⟨h,g,d,t+1,os⟩ "object.__setattr__" "object" "__setattr__" (.ref x) [.str name t,v] [] _ SF.kind SF.split sub (SF.args (.ref x) (.str name t) v) ?_;refine T3 X hC hf I0 (λh' tk' I' hk hs=>?_) hw (AS JM (by decide));exact Ax (Ax (hq h' tk' I' hk hs))
end
theorem dJ{h h':Heap}{a:Addr}{m:Str->Option Value}(y:h.Ns a m)(e:∀o,h.get? a=some o->∃sl,h'.get? a=some {o with slots:=sl}):h'.Ns a m:=cZ y e
theorem oY(n:Nat)(args:List (Bool×Sem Value))(h1:args.all (λa=> !a.1)=true)(h2:n<30):methodCallForm n args []=true:=by
 unfold methodCallForm;refine Ae h1 ?_;simp;exact h2
section
variable{prog:Program}{w:World}{A:Around}{E:Value->Shared->Prop}{R:Result->Shared->Prop}{h:Heap}{g:Array GenState}{d:Drawn}{t:Nat}{os:OsState}
variable{nm q:Str}{C N:Addr}{bs bm:List Value}{sn:List Str}{sub:List Value}{ab:Bool}{col:Option Bool}{dd:Option Addr}{k0 k1 k2 k3 k5:Option Value}
variable{K:Bj}{cW x:Addr}{name:Str}{v:Value}{mA:Str->Option Value}
theorem V5:∀{A:Around}{E:Value->Shared->Prop}{h:Heap}{g:Array GenState}{d:Drawn}{t:Nat}{os:OsState}{nm q:Str}{C N:Addr}{bs bm:List Value}{sn:List Str}{sub:List Value}{ab:Bool}{col:Option Bool}{dd:Option Addr}{k0 k1 k2 k3 k5:Option Value}{x:Addr}{M:Model}{oe:Obj}{rest:List Value}{Q:Unit->Shared->Prop}(hC:h.get? C=some (excClassObj nm q C N bs bm true sn sub ab col dd k0 k1 k2 k3 k5 NE))(hB:(B0 C::bm).contains (.type "Exception")=true)(he:h.get? x=some oe)(hcls:oe.cls= .ref C)(hq:Q () ⟨h,g,d,t,os⟩),wpAny M A (checkBuiltinCall "Exception.__init__" ⟨.ref x::rest,[]⟩) Q E ⟨h,g,d,t,os⟩:=by
 refine@(Hp Ja nQ nH nA nDr nN nOs ?_);generalize GE .. =c;generalize c.1=A,c.2.1=E,c.2.2.1=h,c.2.2.2.1=g,c.2.2.2.2.1=d,c.2.2.2.2.2.1=t,c.2.2.2.2.2.2=os;refine@(Hp A8 A8 nN nN nL nL nL ?_);generalize GE .. =c;generalize c.1=nm,c.2.1=q,c.2.2.1=C,c.2.2.2.1=N,c.2.2.2.2.1=bs,c.2.2.2.2.2.1=bm,c.2.2.2.2.2.2=sn;refine@(Hp nL nB nO nO nO nO nO ?_);generalize GE .. =c;generalize c.1=sub,c.2.1=ab,c.2.2.1=col,c.2.2.2.1=dd,c.2.2.2.2.1=k0,c.2.2.2.2.2.1=k1,c.2.2.2.2.2.2=k2;refine@(Hp nO nO nN nMo nOb nL nQ ?_);generalize GE .. =c;generalize c.1=k3,c.2.1=k5,c.2.2.1=x,c.2.2.2.1=M,c.2.2.2.2.1=oe,c.2.2.2.2.2.1=rest,c.2.2.2.2.2.2=Q;intro hC hB he hcls hq;have Fx:=C1;have hshort:=Fx.noStar;simp only[checkBuiltinCall,Fx.initKind,Fx.initSplit,Fx.initRow]
 repeat (first|(with_reducible refine B1 he ?_;refine Ae hcls ?_)|with_reducible refine B1 hC ?_|(with_reducible refine CU hC ?_;refine Ae hB ?_)|wp_step)
 refine wpAny_onRaise ?_;rw[show∀(a b:String)(n:Nat),Bind.check ⟨.positional,"*","Exception",.self,[⟨"args",.varPos,false⟩]⟩ a b n (FW (λx=>x.fst) ({pos:=B0 x::rest}:Args).kw)=pure ()from
  λa b n=>check_star_args _ _ _ _ _ _]
 exact Ax hq
theorem XJ:∀{prog:Program}{w:World}{A:Around}{E:Value->Shared->Prop}{h:Heap}{g:Array GenState}{d:Drawn}{t:Nat}{os:OsState}{nm q:Str}{C N:Addr}{bs bm:List Value}{sn:List Str}{sub:List Value}{ab:Bool}{col:Option Bool}{dd:Option Addr}{k0 k1 k2 k3 k5:Option Value}{x:Addr}{rest:List Value}{T:Addr}{Q:Value->Shared->Prop}(hC:h.get? C=some (excClassObj nm q C N bs bm true sn sub ab col dd k0 k1 k2 k3 k5 NE))(hB:(B0 C::bm).contains (.type "Exception")=true)(he:h.get? x=some (PN C T))(Vk:rest.length<=sizeLine)(hq:∀h',(∀b o,b≠x->h.get? b=some o->h'.get? b=some o)->h'.get? x=some (PN C h.objs.size)->Q .none ⟨h',g,d,t,os⟩),wpAny (model prog w) A (call (.builtin "Exception.__init__") (.ref x::rest)) Q E ⟨h,g,d,t,os⟩:=by
 refine@(Ir hY lM Ja nQ nH nA nDr nN ?_);generalize G8 .. =c;generalize c.1=prog,c.2.1=w,c.2.2.1=A,c.2.2.2.1=E,c.2.2.2.2.1=h,c.2.2.2.2.2.1=g,c.2.2.2.2.2.2.1=d,c.2.2.2.2.2.2.2=t;refine@(Hp nOs A8 A8 nN nN nL nL ?_);generalize GE .. =c;generalize c.1=os,c.2.1=nm,c.2.2.1=q,c.2.2.2.1=C,c.2.2.2.2.1=N,c.2.2.2.2.2.1=bs,c.2.2.2.2.2.2=bm;refine@(Hp nL nL nB nO nO nO nO ?_);generalize GE .. =c;generalize c.1=sn,c.2.1=sub,c.2.2.1=ab,c.2.2.2.1=col,c.2.2.2.2.1=dd,c.2.2.2.2.2.1=k0,c.2.2.2.2.2.2=k1;refine@(Hp nO nO nO nN nL nN nQ ?_);generalize GE .. =c;generalize c.1=k2,c.2.1=k3,c.2.2.1=k5,c.2.2.2.1=x,c.2.2.2.2.1=rest,c.2.2.2.2.2.1=T,c.2.2.2.2.2.2=Q;intro hC hB he Vk hq;have Fx:=C1;refine I1 (HJ Fx.init.plain Fx.initEntry (V5 hC hB he rfl ?_))
 wp_walk
 refine hq _ (λb o hb e=>?_) ?_
 .refine Ae (DH _ _ (BV hb)) ?_;exact Ba _ e
 .refine Ae (CA _ (Ba _ he) rfl) ?_;rfl
theorem oZ{X:K.In h}{pl:Sem Bool}{Q:Value×List Value->Shared->Prop}(hq:Q (.builtin "Exception.__init__",[]) ⟨h,g,d,t+1,os⟩):
  wpAny (model prog w) A (getMethod (.type "Exception") "__init__" pl) Q E ⟨h,g,d,t,os⟩:=by
 have e:PySem.W.findCls K (.type "Exception") (.type "type") "__init__"=some (.val (.builtin "Exception.__init__")):=by kernel_rfl
 have L0:CQ (model prog w) h (typeOf (.type "Exception")) (.type "type"):=G0 (by kernel_rfl:typeOf (.type "Exception")=pure (.type "type"));have hg:A6 K (.type "type") "__getattribute__"=some (some (.builtin "type.__getattribute__")):=PySem.W.type_tga;unfold getMethod specialOf;refine Ag (Ag (L0 _ _ _ _ (λa a e=>e) (Dp X hg _ _ _ _ (λa a e=>e) ?_)));dsimp only;refine Ae (if_pos PySem.W.canon_tga) ?_;refine Ag (Cb (Q:=λv=>Q (v,[])) (E:=E) ?_ (λa a z=>Ax z) λa a z=>z);refine PySem.W.cls_open (s:=⟨h,g,d,t,os⟩) X (G0 (by unfold opaqueClassAbove;dsimp only;refine Ae ((by decide +kernel:Manifest.isStub "Exception"=false)) ?_;rfl:opaqueClassAbove (.type "Exception")=pure none):CQ (model prog w) h (opaqueClassAbove (.type "Exception")) none) L0 hg (Oi X (r:=none) (by rfl)) (by show PySem.W.subIn K _ _=_;rfl) e
  (Ax (by show wpAny _ _ (handedOut _) _ _ _;refine Ae (MA (by decide +kernel)) ?_;exact Ax hq))
end
structure o6(dW:Oo):Prop where
 ps:dW.params=[Aa "self",Aa "why"]
 ok:Di dW.scope=true
 k1:BJ dW.scope.names "self"=some .local
 k2:BJ dW.scope.names "why"=some .local
 k3:BJ dW.scope.names "Exception"=some .globalImplicit
 body:∃p1 p2 p3 p4 p5 p6 p7 p8 p9 p10 p11 p12 k p13 p14 p15,dW.body=[.Expr (.Call (.Attribute (.Name "Exception" p1) "__init__" p2) [.Name "self" p3,.Name "why" p4] [] p5) p6,
  .Assign [.Attribute (.Name "self" p7) "why" p8] (.Name "why" p9) p10,.Assign [.Attribute (.Name "self" p11) "at" p12] (.UnaryOp .USub (.Constant (.int 1) k p13) p14) p15]/\plainCall p2 p5 [.Name "self" p3,.Name "why" p4]=true
structure LU(B:Wd)(cM cW fW:Addr)(dW:Oo):Prop where
 mg:B.mg "Misused"=some (.ref cM)
 obj:∃nm q N bs sn sub col dd k0 k1 k2 k3 k5,B.h₀.get? cM=some (excClassObj nm q cM N bs (Px cW) true sn sub false col dd k0 k1 k2 k3 k5 NE)
 init:A6 B.K (.ref cM) "__init__"=some (some (.ref fW))
 fn:GR B.K (.ref fW)=some (.type "function")
 sa:A6 B.K (.ref cM) "__setattr__"=some (some (.builtin "object.__setattr__"))
 why:A6 B.K (.ref cM) "why"=some none
 at_:A6 B.K (.ref cM) "at"=some none
 ga:A6 B.K (.ref cM) "__getattribute__"=some (some (.builtin "BaseException.__getattribute__"))
 gt:A6 B.K (.ref cM) "__getattr__"=some none
 keep:Ew B.K (.ref cM)=true
 dfn:Sa B dW fW
 text:o6 dW
 exc:B.mg "Exception"=none
 cls:∃cd,EN B.K cM=some cd/\cd.hasDict=true
section
variable{B:Wd}{A:Around}{h:Heap}{g:Array GenState}{dr:Drawn}{t:Nat}{os:OsState}{cM cW fW:Addr}{dW:Oo}{k:Nat}
theorem Sd(cM cW:Addr):(B0 cM::Px cW).contains (.type "Exception")=true/\(B0 cM::Px cW).contains (.type "AttributeError")=false/\(B0 cM::Px cW).contains (.type "NameError")=false/\(B0 cM::Px cW).contains (.type "BaseException")=true:=by
 refine⟨?_,?_,?_,?_⟩<;>(refine Ae Og ?_;rfl)
theorem xN:∀{B:Wd}{A:Around}{h:Heap}{g:Array GenState}{dr:Drawn}{t:Nat}{os:OsState}{cM cW fW:Addr}{dW:Oo}{x T:Addr}{w:Str}{tk:Tok}(Z:Bs B)(M:LU B cM cW fW dW)(O:A.depth<recursionLimit)(hb:∀b o,B.h₀.get? b=some o->h.get? b=some o)(hx:h.get? x=some (PN cM T))(hx0:B.h₀.get? x=none),wpAny (model B.prog B.w) A (call (.ref fW) [.ref x,.str w tk]) (λr s'=>r= .none/\∃h' t' d vs sl m t'',s'=⟨h',g,dr,t',os⟩/\(∀b o,b≠x->h.get? b=some o->h'.get? b=some o)/\
   h'.get? x=some ⟨.ref cM,some d,.fields vs,sl⟩/\vs[1]? =some .none/\h.get? d=none/\x≠d/\h'.Ns d m/\m "why"=some (.str w t'')) bot ⟨h,g,dr,t,os⟩:=by
 refine@(Ir DO Ja nH nA nDr nN nOs nN ?_);generalize G8 .. =z;generalize z.1=B,z.2.1=A,z.2.2.1=h,z.2.2.2.1=g,z.2.2.2.2.1=dr,z.2.2.2.2.2.1=t,z.2.2.2.2.2.2.1=os,z.2.2.2.2.2.2.2=cM;refine@(Hp nN nN wM nN nN A8 nN ?_);generalize GE .. =z;generalize z.1=cW,z.2.1=fW,z.2.2.1=dW,z.2.2.2.1=x,z.2.2.2.2.1=T,z.2.2.2.2.2.1=w,z.2.2.2.2.2.2=tk;intro Z M O hb hx hx0;obtain⟨nm,q,N,bs,sn,sub,col,dd,k0,k1,k2,k3,k5,lW⟩:=M.obj;obtain⟨p1,p2,p3,p4,p5,p6,p7,p8,p9,p10,p11,p12,kk,p13,p14,p15,vD,b8⟩:=M.text.body;obtain⟨o,fd,d1,d2,d3,d4,d5,d6,d7,d8,d9⟩:=M.dfn.it;obtain⟨hB,hA,hN,hBE⟩:=Sd cM cW;have v0:fd.scope.kind= .function:=by
  refine Ae d4 ?_;have:=M.text.ok;unfold Di at this;rw[Av]at this;simpa using this.1
 have hps:=M.text.ps;have hcM:cM≠x:=λe=>by rw[e,hx0]at lW;cases lW
 refine I1 (Qv (s:=⟨h,g,dr,t,os⟩) (binds:=dW.params.zip [.ref x,.str w tk]) O (hb _ _ d1) d2 (Z.nolimit.keeps hb) (d8.keeps hb) d3 (d9 ⟨h,g,dr,t,os⟩ _ hb (by refine Ae hps ?_;rfl)) d6 (λy hy=>?_) (λs1 ic=>?_) (by refine Ae d4 ?_;exact M.dfn.co) (by rw[d4];exact M.dfn.gen) v0)
 .rw[hps]at hy;simp only[Bp,Gj,Au,AU,or_false]at hy;rw[d4,<-DC];rcases hy with rfl|rfl
  .exact .inl M.text.k1
  .exact .inl M.text.k2
 .generalize TM:callEnvC fd (⟨h,g,dr,t,os⟩:Shared).heap.objs.size fW=env at ic⊢;have eS:env.scope=dW.scope:=by refine CV TM (CV d4 ?_);rfl
  have eK:∀x,env.kindOf x=BJ dW.scope.names x:=λx=>by unfold Env.kindOf;exact Ae eS (Ae (DC ..) rfl)
  have ek:env.scope.kind= .function:=by refine Ae eS (CV d4 ?_);exact v0
  have e1:=(eK "self").trans M.text.k1;have e2:=(eK "why").trans M.text.k2;obtain⟨h1,t1,hs1⟩:=ic.toInCall.same;subst hs1;have MS:∀b o,h.get? b=some o->h1.get? b=some o:=ic.toInCall.keep;have Nb:h1.Ns env.locals (bindL env.kindOf (dW.params.zip [.ref x,.str w tk]) λu=>none):=ic.toInCall.ns;generalize hm:bindL env.kindOf (dW.params.zip [.ref x,.str w tk]) (λu=>none)=m at Nb;have m1:m "self"=some (.ref x):=by
   (refine CV hm (Ae hps (Ae Bp ?_));rw[bindL];refine Ae (if_pos e1) (Ae Bp ?_);rw[bindL];refine Ae (if_pos e2) ?_)
   show(if(Aa "self")=Aa "why" then some (MN w tk)else if(Aa "self")=Aa "self" then some (.ref x)else none)=_;exact Ae (if_neg (by decide)) (Ae (if_pos rfl) rfl)
  have m2:m "why"=some (.str w tk):=by
   rw[<-hm,hps,Bp,bindL,if_pos e1,Bp,bindL,if_pos e2];simp[bindL]
  clear hm;have hLx:env.locals≠x:=λe=>by
   have:=DP (h:=h) (a:=env.locals) (by rw[(by rw[<-TM];rfl:env.locals=h.objs.size)];exact AL _);rw[e,hx]at this;cases this
  rw[vD];have Zq:∀{hh:Heap}{tt:Nat}{y:Str}{v:Value}{p:Pos}{Q:Value->Shared->Prop}{A':Around},hh.Ns env.locals m->env.kindOf y=some .local->m y=some v->(y==("__debug__":Str))=false->Q v ⟨hh,g,dr,tt,os⟩->wpAny (model B.prog B.w) A' (eval (.Name y p) env) Q bot ⟨hh,g,dr,tt,os⟩:=
   λhn hk hv hd hq=>Tz (HF ek hk hn hv hq) hd
  refine EA ?_;refine Cb (E:=bot) (Q:=λfl s2=>fl= .next/\∃h2 t2,s2=⟨h2,g,dr,t2,os⟩/\(∀b o,b≠x->h1.get? b=some o->h2.get? b=some o)/\∃T',h2.get? x=some (PN cM T')) ?_ (λfl s2 p=>?_) λu u x=>x.elim
  .refine wpAny_Expr ?_ (by unfold interactive;rw[ek];rfl:interactive env=false) rfl;refine MethodCall_ (pl:=(do return (<-importBound (.Name "Exception" p1) env).getD true)) ?_ ?_
   .refine HG ek ((eK "Exception").trans M.text.k3) (Od (mg:=B.mg) (mb:=B.mb) (by rw[(by rw[<-TM,<-d5];rfl:env.globals=mainGlobals)];exact Z.g.keeps λb o e=>MS b o (hb b o e)) M.exc (by rw[(by rw[<-TM,<-d7];rfl:env.builtins=builtinsNs)];exact Z.b.keeps λb o e=>MS b o (hb b o e)) ((Z.builtins "Exception" (by decide)).trans (show bootBuiltins "Exception"=some (.type "Exception") by decide +kernel)) ?_) (by decide);refine oZ (K:=B.K) (X:=(Z.X.keeps λb o e=>MS b o (hb b o e):B.K.In h1)) ?_;refine H8 (P:=λu=>True) (by rfl) (λh hP=>Ji (f:= .builtin "Exception.__init__") (λu h=>AR h) h hP) ?_;refine Mw ?_;refine Hk (Zq Nb e1 m1 (by decide) ?_) rfl;refine Hk (Zq Nb e2 m2 (by decide) ?_) rfl;refine Ln ⟨trivial,?_⟩;refine XJ (MS _ _ (hb _ _ lW)) hB (MS _ _ hx) (by simp[QT]) λh2 MT hx2=>?_;exact⟨rfl,h2,_,rfl,MT,_,hx2⟩
   .unfold plainCall at b8;rw[Av]at b8;refine Ae (arm_eval_Call ..) (Ae (Ep rfl ..) ?_);unfold methodCall calleeOf methodCallPos;simp only[(oY _ _ rfl (show 2<30 by decide):methodCallForm (([.Name "self" p3,.Name "why" p4]:List Expr).length+([]:List Keyword).length) (backTo p5 (starEach [.Name "self" p3,.Name "why" p4] env)) (backToKw p5 (keywordEach [] env))=true),if_true,b8.1,JD,JE];rfl
  .obtain⟨rfl,h2,t2,rfl,MT,T',hx2⟩:=p;have hC2:h2.get? cM=some (excClassObj nm q cM N bs (Px cW) true sn sub false col dd k0 k1 k2 k3 k5 NE):=MT _ _ hcM (MS _ _ (hb _ _ lW));have Zp:h2.Ns env.locals m:=dJ Nb λo e=>⟨_,MT _ _ hLx e⟩
   have kb2:∀b o,B.h₀.get? b=some o->h2.get? b=some o:=λb o e=>MT b o (λe'=>by rw[e',hx0]at e;cases e) (MS b o (hb b o e));show wpAny _ _ (execs _ env) _ _ _;refine EA ?_;refine Cb (E:=bot) (Q:=λfl s3=>fl= .next/\∃h3 t3 d,s3=⟨h3,g,dr,t3,os⟩/\(∀b o,b≠x->h2.get? b=some o->h3.get? b=some o)/\h3.Inst x cM (λy=>if y=Aa "why" then some (.str w tk)else none)/\
    ∃sl,h3.get? x=some ⟨.ref cM,some d,.fields #[.ref T',.none,.none,.none,.bool false,.none],sl⟩/\h2.get? d=none) ?_ (λfl s3 p=>?_) λu u x=>x.elim
   .refine FJ ?_ rfl rfl;refine Zq Zp e2 m2 (by decide) ?_;show wpAny _ _ (assign (.Attribute (.Name "self" p7) "why" p8) env _) _ _ _;refine Ae (HI ..) ?_;refine Ag (Bb (Zq Zp e1 m1 (by decide) ?_));refine Ag (BP (Ag (Bb ?_)));refine dI (ns:=[]) (Z.X.keeps kb2:B.K.In h2) hC2 M.why M.sa (⟨_,hx2,rfl,(λc e=>nomatch e),.inl ⟨rfl,λu=>rfl⟩⟩:h2.Inst x cM (λu=>none)) (λh3 t3 I3 TN iC=>JJ ?_) TC (by simp);obtain⟨o3,e31,e32,e33,_,e35⟩:=iC _ hx2;obtain⟨o3',f1,f2,_,f4⟩:=id I3;rw[e31]at f1;cases f1;rcases f4 with⟨_,f5⟩|⟨d3,f5,f6,f7⟩
    .have:=f5 "why";simp at this
    .refine⟨rfl,h3,t3,d3,rfl,λb o hb e=>TN b o hb (λo₀ dx h₀ hd=>by rw[hx2]at h₀;cases h₀;cases hd) e,I3,o3.slots,?_,e35 d3 rfl f5⟩;obtain⟨oc,od,odt,osl⟩:=o3;dsimp only at e32 e33 f5;subst e32 e33 f5;exact e31
   .obtain⟨rfl,h3,t3,d3,rfl,TN,In3,sl,hx3,hd3⟩:=p;show wpAny _ _ (execs _ env) _ _ _;refine EA ?_;refine Cb (E:=bot) (Q:=λfl s4=>fl= .next/\∃h4 t4,s4=⟨h4,g,dr,t4,os⟩/\(∀b o,b≠x->b≠d3->h3.get? b=some o->h4.get? b=some o)/\(∃sl,h4.get? x=some ⟨.ref cM,some d3,.fields #[.ref T',.none,.none,.none,.bool false,.none],sl⟩)/\d3≠x/\∃m4,h4.Ns d3 m4/\m4 "why"=some (.str w tk)) ?_ (λfl s4 p=>?_) λu u x=>x.elim
    .refine FJ ?_ rfl rfl;refine NB (wpAny_Constant_int (Q3 ?_));show wpAny _ _ (assign (.Attribute (.Name "self" p11) "at" p12) env _) _ _ _;refine Ae (HI ..) ?_;refine Ag (Bb (Zq (dJ Zp λo e=>⟨_,TN _ _ hLx e⟩:h3.Ns env.locals m) e1 m1 (by decide) ?_));refine Ag (BP (Ag (Bb ?_)));refine dI (ns:=[Aa "why"]) (Z.X.keeps (λb o e=>TN b o (λe'=>by rw[e',hx0]at e;cases e) (kb2 b o e):∀b o,B.h₀.get? b=some o->h3.get? b=some o):B.K.In h3) (TN _ _ hcM hC2) M.at_ M.sa In3 (λh4 t4 I4 ZG hs4=>JJ ?_) (QS _ _ TC) (by simp);obtain⟨o4,e41,e42,e43,e44,_⟩:=hs4 _ hx3;have e45:=e44 d3 rfl;obtain⟨o4',f1,f2,_,f4⟩:=id I4;rw[e41]at f1;cases f1;rcases f4 with⟨f5,_⟩|⟨d4,f5,f6,f7⟩
     .rw[e45]at f5;cases f5
     .rw[e45]at f5;cases f5;refine⟨rfl,h4,t4,rfl,λb o hb hbd e=>ZG b o hb (λo₀ dx h₀ hd=>by rw[hx3]at h₀;cases h₀;cases hd;exact hbd) e,⟨o4.slots,?_⟩,f6,_,(f7.imp λo' q=>q.imp λes q=>q.imp λep q=>⟨q.1,q.2.1,q.2.2.1,q.2.2.2.2⟩),?_⟩
      .obtain⟨oc,od,odt,osl⟩:=o4;dsimp only at e42 e43 e45;subst e42 e43 e45;exact e41
      .exact Ae (if_neg (by decide)) (Ae (if_pos rfl) rfl)
    .obtain⟨rfl,h4,t4,rfl,ZG,⟨sl4,hx4⟩,hdx,m4,hn4,hm4⟩:=p;have nd:h.get? d3=none:=by
      cases e:h.get? d3 with
      |none=>rfl
      |some o=>have:=MT _ _ hdx (MS _ _ e);rw[hd3]at this;cases this
     refine HW ⟨rfl,h4,t4,d3,_,sl4,m4,tk,rfl,λb o hb e=>?_,hx4,rfl,nd,BV hdx,hn4,hm4⟩;exact ZG b o hb (λe'=>by rw[e',nd]at e;cases e) (TN b o hb (MT b o hb (MS b o e)))
end
section
variable{B:Wd}{fs:List Env}{ω ω':Wl B fs}{A:Around}{k:Nat}{sc:Scope}{i:I}{w:Fm}{env:Env}{own:List Addr}{S:AF->(Fm×St)->Prop}{R:Flow->Shared->Prop}{E:Value->Shared->Prop}{cM cW fW:Addr}{dW:Oo}
theorem Qcc:∀{B:Wd}{fs:List Env}{A:Around}{cM cW fW:Addr}{dW:Oo}{m:Str}{tk:Tok}{R:Value->Shared->Prop}{ω:Wl B fs}(Z:Bs B)(M:LU B cM cW fW dW)(O:A.depth+5<recursionLimit)(K:∀x(ω':Wl B fs),ω'.σ=ω.σ->Le [] ω ω'->Oq ω ω' [] x m (λh=>h=none)->R (.ref x) ω'.s),wpAny (model B.prog B.w) A (call (.ref cM) [.str m tk]) R bot ω.s:=by
 refine@(I8 DO nL Ja nN nN ?_);generalize Ke .. =c;generalize c.1=B,c.2.1=fs,c.2.2.1=A,c.2.2.2.1=cM,c.2.2.2.2=cW;refine@(I8 nN wM A8 nN nQ ?_);generalize Ke .. =c;generalize c.1=fW,c.2.1=dW,c.2.2.1=m,c.2.2.2.1=tk,c.2.2.2.2=R;intro ω Z M O K;obtain⟨nm,q,N,bs,sn,sub,col,dd,k0,k1,k2,k3,k5,lW⟩:=M.obj;obtain⟨hB,hA,hN,hBE⟩:=Sd cM cW;have hb:=ω.inv.base;have fin:∀h' t' x d vs sl f t'',(∀b o,ω.s.heap.get? b=some o->h'.get? b=some o)->ω.s.heap.get? x=none->ω.s.heap.get? d=none->h'.get? x=some ⟨.ref cM,some d,.fields vs,sl⟩->vs[1]? =some .none->x≠d->h'.Ns d f->f "why"=some (.str m t'')->R (.ref x) {ω.s with heap:=h',toks:=t'}:=
  λh' t' x d vs sl f t'' hk nx nd e1 e2 ne e3 e4=>K x (ω.grow h' t' hk) rfl .grow ⟨[x,d],d,vs,⟨AZ.mpr ⟨⟨λhm=>(ω.iA hm).elim λo y=>Ay _ (y.1.symm.trans nx),D3 nx,Gd e1 (λh h e=>nomatch e),_,e1⟩,λa ha=>Ai.mp ha▸⟨λhm=>(ω.iA hm).elim λo y=>Ay _ (y.1.symm.trans nd),D3 nd,Gn e3,(Hb e3).elim λo y=>y.elim λh y=>y.elim λh y=>⟨o,y.1⟩⟩⟩,
   AZ.mpr ⟨nx,λa ha=>Ai.mp ha▸nd⟩,λh h=>AU,AZ.mpr ⟨λv y=>(by obtain⟨o,z1,z2⟩:=y;rw[show h'.get? x=some o from z1]at e1;cases e1;cases z2),λa ha=>Ai.mp ha▸Uu e3⟩⟩,⟨⟨cM,sl,M.mg,e1⟩,.head _,.tail _ (.head _),ne,f,t'',e3,e4⟩,.inl ⟨e2,rfl⟩⟩
 generalize ω.s=s at fin hb⊢;obtain⟨hp,g,dr,t,os⟩:=s;have hk:∀b o,hp.get? b=some o->((hp.push (Z9 [.str m tk])).push (PN cM hp.objs.size)).get? b=some o:=λb o e=>Ba _ (Ba _ e);have nx:hp.get? (hp.objs.size+1)=none:=DP (Jr _);have nx0:B.h₀.get? (hp.objs.size+1)=none:=A9.mpr λo e=>Ay _ ((hb _ o e).symm.trans nx);have Q8:((hp.push (Z9 [.str m tk])).push (PN cM hp.objs.size)).get? (hp.objs.size+1)=some (PN cM hp.objs.size):=by heap_get
 refine Qcb (Z.X.keeps hb) (hb _ _ lW) hB hA hN M.init M.fn (by simp[QT]) ?_;have hdep:(A.under (.builtin "type.__call__" ⟨.ref cM::[.str m tk],[]⟩)).depth<recursionLimit:=by
  refine Ae (show(A.under (.builtin "type.__call__" ⟨.ref cM::[.str m tk],[]⟩)).depth=A.depth+1 from rfl) ?_;exact AQ 0x10112003110512003111 O
 refine Cb (xN Z M hdep (λb o e=>hk b o (hb b o e)) Q8 nx0) (λr s' p=>?_) λh h x=>x;obtain⟨rfl,h',t',d,vs,sl,f,t'',rfl,p1,p2,p3,p4,p5,p6,p7⟩:=p;exact⟨rfl,fin h' t' _ d vs sl f t'' (λb o e=>p1 b o (λe'=>by rw[e',nx]at e;cases e) (hk b o e)) nx (A9.mpr λo e=>Ay _ ((hk _ _ e).symm.trans p4)) p2 p3 p5 p6 p7⟩
def aA(ω:Wl B fs)(w:Fm)(S:AF->(Fm×St)->Prop)(v:Value)(s':Shared):Prop:=∃(x:Addr)(m:Str)(ω':Wl B fs),v= .ref x/\ω'.s=s'/\S (.exc m) (w,ω'.σ)/\Le [] ω ω'/\Oq ω ω' [] x m (λa=>a=none)
theorem o7:∀{B:Wd}{fs:List Env}{A:Around}{k:Nat}{sc:Scope}{i:I}{w:Fm}{env:Env}{own:List Addr}{S:AF->(Fm×St)->Prop}{R:Flow->Shared->Prop}{E:Value->Shared->Prop}{cM cW fW:Addr}{dW:Oo}{x:Str}{p1 p2 pos:Pos}{e:Expr}{ω:Wl B fs}(Z:Bs B)(M:LU B cM cW fW dW)(T:NP B k sc i)(O:Ga fs k A)(F:Bf sc ω env own w)(h:DI (decide (x="Misused"/\Dj w x=none/\BJ sc.names x=some .globalImplicit)&&I9 e) (i.ev e w ω.σ (RX S w)))(K:Vj sc env own ω S R E),wpAny (model B.prog B.w) A (exec (.Raise (some (.Call (.Name x p1) [e] [] p2)) none pos) env) R E ω.s:=by
 refine@(Fd DO nL Ja nN Kb Xg ?_);generalize E2 .. =z;generalize z.1=B,z.2.1=fs,z.2.2.1=A,z.2.2.2.1=k,z.2.2.2.2.1=sc,z.2.2.2.2.2=i;refine@(I8 nL NF nL nQ nQ ?_);generalize Ke .. =z;generalize z.1=w,z.2.1=env,z.2.2.1=own,z.2.2.2.1=S,z.2.2.2.2=R;refine@(I8 nQ nN nN nN wM ?_);generalize Ke .. =z;generalize z.1=E,z.2.1=cM,z.2.2.1=cW,z.2.2.2.1=fW,z.2.2.2.2=dW;refine@(I8 A8 E4 E4 E4 Qk ?_);generalize Ke .. =z;generalize z.1=x,z.2.1=p1,z.2.2.1=p2,z.2.2.2.1=pos,z.2.2.2.2=e;intro ω Z M T O F h K;obtain⟨hc,hp⟩:=Aq.mp (DI.el h).1;obtain⟨rfl,vX,hk⟩:=of_decide_eq_true hc;replace h:=(DI.el h).2;obtain⟨nm,q,N,bs,sn,sub,col,dd,k0,k1,k2,k3,k5,lW⟩:=M.obj;obtain⟨hB,hA,hN,hcB⟩:=Sd cM cW;refine Ae (arm_exec_Raise ..) ?_;refine Ag (BP ?_);show wpAny _ A (raiseStmt env (some (do let v<-eval (.Call (.Name "Misused" p1) [e] [] p2) env;standAt pos;pure v)) none) _ _ ω.s;unfold raiseStmt;refine Ag (Ag (Hy (Cb (Q:=aA ω w S) ?_ (λv s' p=>Ag (BP (Ax ?_))) λu u x=>x)))
 .refine Call_ (Il Z F hk M.mg ?_);refine H8 (P:=B.K.In) (by refine Ae ((Ni hp).star ..) ?_;rfl) (λh hP=>Lq M.keep h hP) ?_;have y:wpAny (model B.prog B.w) A (spliced (backTo p2 (starEach [e] env))) (λvs s₁=>B.K.In s₁.heap/\wpAny (model B.prog B.w) A (call (.ref cM) ([]++vs)) (aA ω w S) bot s₁) bot ω.s:=
   Hk (T.ev h O F λv c ω1 h l r=>Ln ⟨Z.X.keeps ω1.inv.base,QU.el (G:=λc=>wpAny (model B.prog B.w) A (call (.ref cM) [c]) (aA ω w S) bot ω1.s) r h λm tk h=>
    Qcc Z M (CH (MB (DN _ _) _) O.dp) λx ω2 e2 l2 q2=>⟨x,m,ω2,rfl,rfl,(show S (.exc m) (w,ω2.σ) by refine Ae e2 ?_;exact h),l.trans l2,q2.from l⟩⟩) ((Ni hp).star [] env)
  rw[(Ni hp).star]at y⊢;exact Mw y
 .obtain⟨x,m,ω',rfl,rfl,h,l,q⟩:=p;have fin:=K.ex m x w ω' h (l.own' F.live) (F.step l) ((q.elim λX y=>⟨X,y.elim λd y=>y.elim λvs y=>⟨d,vs,⟨y.1.at_,y.1.nw,λa ha hm=>(F.live a hm).elim λo e=>Ay _ (e.symm.trans (y.1.nw a ha)),y.1.nc⟩,y.2⟩⟩:Oq ω ω' own x m (λu=>u=none)).weak λu u=>trivial);obtain⟨X,d,vs,_,q,⟨vE,_⟩|⟨_,_,_,h⟩⟩:=q
  .obtain⟨cM',sl,c1,he⟩:=q.cM;rw[M.mg]at c1;cases c1;have hC:=ω'.inv.base _ _ lW;clear q;generalize ω'.s=s at fin hC he⊢;obtain⟨hp,g,dr,t,os⟩:=s
   repeat (first|with_reducible refine B1 he ?_|with_reducible refine B1 hC ?_|(with_reducible refine CU hC ?_;refine Ae hcB ?_)|wp_step)
   refine Ae vE ?_;refine Ax ?_;refine Ae (if_neg (by decide)) ?_;exact Ax (wpAny_raiseNew_none O.hd fin)
  .cases h
end
section
variable{B:Wd}{fs:List Env}{ω ω':Wl B fs}{A:Around}{C:Cl}{k:Nat}{sc:Scope}{i:I}{w:Fm}{env:Env}{own:List Addr}{S:AF->(Fm×St)->Prop}{R:Flow->Shared->Prop}{E:Value->Shared->Prop}{cM cW fW:Addr}{dW:Oo}
theorem jH:∀{h:Heap}{d:Addr}{m:Str->Option Value}{x:Str}{v:Value}(hn:h.Ns d m)(hv:m x=some v),∃od,h.get? d=some od/\TF x od=some (some v):=by
 refine@(I8 nH nN Vn A8 Os ?_);generalize Ke .. =c;generalize c.1=h,c.2.1=d,c.2.2.1=m,c.2.2.2.1=x,c.2.2.2.2=v;intro hn hv;obtain⟨o,es,ep,ho,hd,hk,hf⟩:=hn;refine⟨o,ho,?_⟩;have e:=hf x;rw[hv]at e;unfold nsFind findBy at e;unfold TF;refine Ae hd ?_;dsimp only;obtain⟨l⟩:=es;rw[Oj]at e;cases hq:l.find? (λe=>e.key.isStr x)with
 |none=>rw[hq]at e;cases e
 |some y=>rw[hq]at e;cases e;rfl
theorem Qcd:∀{B:Wd}{A:Around}{E:Value->Shared->Prop}{cM cW fW:Addr}{dW:Oo}{s:Shared}{x d:Addr}{vs:Array Value}{sl:Array (Option Value)}{m:Str->Option Value}{w:Str}{t:Tok}{expr:Bool}{Q:Value->Shared->Prop}(Z:Bs B)(M:LU B cM cW fW dW)(hb:∀b o,B.h₀.get? b=some o->s.heap.get? b=some o)(hx:s.heap.get? x=some ⟨.ref cM,some d,.fields vs,sl⟩)(hn:s.heap.Ns d m)(hv:m "why"=some (.str w t))(hq:∀tk,Q (.str w t) {s with toks:=tk}),wpAny (model B.prog B.w) A (getAttr (.ref x) "why" expr) Q E s:=by
 refine@(Xe DO Ja nQ nN nN nN wM nSh nN ?_);generalize Ql .. =c;generalize c.1=B,c.2.1=A,c.2.2.1=E,c.2.2.2.1=cM,c.2.2.2.2.1=cW,c.2.2.2.2.2.1=fW,c.2.2.2.2.2.2.1=dW,c.2.2.2.2.2.2.2.1=s,c.2.2.2.2.2.2.2.2=x;refine@(Ir nN nA nA Vn A8 nN nB nQ ?_);generalize G8 .. =c;generalize c.1=d,c.2.1=vs,c.2.2.1=sl,c.2.2.2.1=m,c.2.2.2.2.1=w,c.2.2.2.2.2.1=t,c.2.2.2.2.2.2.1=expr,c.2.2.2.2.2.2.2=Q;intro Z M hb hx hn hv hq;obtain⟨od,hod,hlk⟩:=jH hn hv;obtain⟨cd,hcd,hdct⟩:=M.cls;obtain⟨nm,q,N,bs,sn,sub,col,dd,k0,k1,k2,k3,k5,lW⟩:=M.obj;obtain⟨hB,hA,hN,hBE⟩:=Sd cM cW;have XK:B.K.In s.heap:=Z.X.keeps hb;have IA:Mq s.heap x ⟨.ref cM,some d,.fields vs,sl⟩ cM (some od):=⟨hx,rfl,rfl,hod⟩
 have hfo:Ll B.K cM (some od) "why"=some (.value (.str w t)):=by
  refine Xq hcd M.why ?_;unfold JF;exact Ae (if_pos hdct) hlk
 have T:CQ (model B.prog B.w) s.heap (typeOf (.ref x)) (.ref cM):=(Hm hx).andThen .now;have L1:=PySem.W.looks_find (M:=model B.prog B.w) XK IA hfo;have hga:(onTheHeap (.ref cM)&&Hs "BaseException.__getattribute__"==Hs "object.__getattribute__")=false:=by
  exact Ae (show(Hs "BaseException.__getattribute__"==Hs "object.__getattribute__")=false by decide +kernel) (Ae (GO ..) rfl)
 have hk:CQ (model B.prog B.w) s.heap (hookBefore (.ref cM)) none:=Oi XK (by show(if true=true then _ else _)=_;refine Ae (if_pos rfl) ?_;exact M.gt);have FB:=PySem.F.attr_Exception;unfold getAttr getAttrBy;refine Ag (O9 (Bb (Ag (T _ _ _ _ (λa a e=>e) (Ag (Dp XK M.ga _ _ _ _ (λa a e=>e) ?_))))));dsimp only;refine Ae hga (Ae (if_neg (by decide)) ?_);unfold getAttrByItsOwn;refine Ag (hk _ _ _ _ (λa a e=>e) (Ag (wpAny_attempt (Bb ?_))));unfold callGetattribute;refine Ae (show(expr&&onTheHeap (Hs "BaseException.__getattribute__"))=false from GO _) (Ae (if_neg (by decide)) ?_);unfold boundAndCalled;refine Ae (FB.ga.bind ..) ?_;refine Ag (Ax ?_);show wpAny _ _ (call (.builtin "BaseException.__getattribute__") [.ref x,.str "why" s.toks]) _ _ _;have sub:CQ (model B.prog B.w) s.heap (isInstance (.ref x) (.type "BaseException")) true:=T.andThen (λA Q E s k q=>by
  obtain⟨h',g',d',t',os'⟩:=s;exact CU (k _ _ (hb _ _ lW)) (by refine Ae hBE ?_;exact q))
 refine I1 (HJ FB.ga.plain PySem.F.entry_bexc_ga ?_);refine@Oh (model B.prog B.w) _ _ {s with toks:=s.toks+1} "BaseException.__getattribute__" "BaseException" "__getattribute__" (.ref x) [.str "why" s.toks] [] _ (by decide +kernel) (by decide +kernel) sub (PySem.F.args_bexc_ga _ _) ?_;unfold Builtin.«object.__getattribute__»;refine Ag (Ax (Ag (Ax (Ag (T _ _ _ _ (λa a e=>e) (Ag (L1 _ _ _ _ (λa a e=>e) ?_)))))));refine Ax ?_;show wpAny _ _ (handedOut (.str w t)) _ _ _;refine Ae (MA rfl) ?_;exact Ax (hq _)
theorem Bf.bare:∀{B:Wd}{fs:List Env}{sc:Scope}{w:Fm}{env:Env}{own:List Addr}{h':Heap}{tk:Nat}{m':Str->Option Value}{ω:Wl B fs}(F:Bf sc ω env own w)(hn:h'.Ns env.locals m')(hk:∀b o,b≠env.locals->ω.s.heap.get? b=some o->h'.get? b=some o),∃ω':Wl B fs,ω'.s={ω.s with heap:=h',toks:=tk}/\ω'.σ=ω.σ/\Le own ω ω'/\Bf sc ω' env own []:=by
 refine@(Xe DO nL Kb nL NF nL nH nN Vn ?_);generalize Ql .. =z;generalize z.1=B,z.2.1=fs,z.2.2.1=sc,z.2.2.2.1=w,z.2.2.2.2.1=env,z.2.2.2.2.2.1=own,z.2.2.2.2.2.2.1=h',z.2.2.2.2.2.2.2.1=tk,z.2.2.2.2.2.2.2.2=m';intro ω F hn hk;have q:=F.own _ F.loc;refine⟨ω.mut _ h' tk q.mu q.base q.nt (λa a=>Hb hn) hk,rfl,rfl,.mut F.loc,F.MC,F.loc,λy hy=>?_,⟨m',hn,λy v hy=>nomatch hy⟩,λb hb=>?_⟩
 .obtain⟨c,v,h1,h2,h3,o,h4,h5⟩:=F.cell y hy;exact⟨c,v,h1,h2,h3,o,hk c o h3 h4,h5⟩
 .have r:=F.own b hb;by_cases hb:b=env.locals
  .subst hb;exact⟨r.mu,r.base,Gn hn,(Hb hn).elim λo y=>y.elim λa y=>y.elim λa y=>⟨o,y.1⟩⟩
  .exact r.live.elim λo e=>⟨r.mu,r.base,λo2 vs n e2=>r.nt o2 vs n (e.trans ((hk b o hb e).symm.trans e2)),o,hk b o hb e⟩
theorem Qce:∀{B:Wd}{fs:List Env}{A:Around}{C:Cl}{k:Nat}{sc:Scope}{i:I}{w:Fm}{env:Env}{own:List Addr}{S:AF->(Fm×St)->Prop}{R:Flow->Shared->Prop}{E:Value->Shared->Prop}{cM cW fW:Addr}{dW:Oo}{g x f₁ f' y:Str}{args:List Expr}{p1 p2 p3 p4 p5 p6 p7 p8 pos:Pos}{ω:Wl B fs}(Z:Bs B)(M:LU B cM cW fW dW)(T:NP B k sc i)(HX:QW B C k)(O:Ga fs k A)(F:Bf sc ω env own w)(N:En fs sc env)(h:Qae sc w g x f₁ f' y/\DI (args.all I9) (i.Na args w ω.σ (ZR C g S w)))(K:Vj sc env own ω S R E),wpAny (model B.prog B.w) A (exec (.Try [.Return (some (.Call (.Name g p1) args [] p2)) p3] [.ExceptHandler (some (.Name x p4)) (some f₁) [.Return (some (.Attribute (.Name f' p5) y p6)) p7] p8] [] [] pos) env) R E ω.s:=by
 refine@(Ir DO nL Ja nCl nN Kb Xg nL ?_);generalize G8 .. =u;generalize u.1=B,u.2.1=fs,u.2.2.1=A,u.2.2.2.1=C,u.2.2.2.2.1=k,u.2.2.2.2.2.1=sc,u.2.2.2.2.2.2.1=i,u.2.2.2.2.2.2.2=w;refine@(Ir NF nL nQ nQ nQ nN nN nN ?_);generalize G8 .. =u;generalize u.1=env,u.2.1=own,u.2.2.1=S,u.2.2.2.1=R,u.2.2.2.2.1=E,u.2.2.2.2.2.1=cM,u.2.2.2.2.2.2.1=cW,u.2.2.2.2.2.2.2=fW;refine@(Ir wM A8 A8 A8 A8 A8 nL E4 ?_);generalize G8 .. =u;generalize u.1=dW,u.2.1=g,u.2.2.1=x,u.2.2.2.1=f₁,u.2.2.2.2.1=f',u.2.2.2.2.2.1=y,u.2.2.2.2.2.2.1=args,u.2.2.2.2.2.2.2=p1;refine@(Ir E4 E4 E4 E4 E4 E4 E4 E4 ?_);generalize G8 .. =u;generalize u.1=p2,u.2.1=p3,u.2.2.1=p4,u.2.2.2.1=p5,u.2.2.2.2.1=p6,u.2.2.2.2.2.1=p7,u.2.2.2.2.2.2.1=p8,u.2.2.2.2.2.2.2=pos;intro ω Z M T HX O F N h K;obtain⟨hc,h⟩:=h;obtain⟨rfl,rfl,rfl,hfx,hfg,hkx,hkg,v0,hff,hgk⟩:=hc;obtain⟨hp,h⟩:=DI.el h;obtain⟨ga,hga,vA⟩:=Z.fns g (VW hgk);obtain⟨nm,q,N',bs,sn,sub,col,dd,k0,k1,k2,k3,k5,lW⟩:=M.obj;obtain⟨hB,hA,hN,hBE⟩:=Sd cM cW;refine wpAny_Try_except (EA (Ju (Call_ (Hy (Il Z F hkg hga (JT (P:=B.K.In) T hp h O F (λh hP=>Lq vA h hP) λvs cs ω1 n h l r=>⟨Z.X.keeps ω1.inv.base,HX h O hga r ⟨λv c ω2 h l2 r2=>K.rt v c w ω2 h ((l.trans l2).own' F.live) (F.step (l.trans l2)) r2,λm x ω2 h l2 q2=>?_⟩⟩))))));have l0:=(l.trans l2).own' F.live;have q0:Oq ω ω2 own x m (λf=>f=some .none):=(q2.from l).elim λX y=>⟨X,y.elim λd y=>y.elim λvs y=>⟨d,vs,⟨y.1.at_,y.1.nw,λa ha hm=>(F.live a hm).elim λo e=>Ay _ (e.symm.trans (y.1.nw a ha)),y.1.nc⟩,y.2⟩⟩
 refine V3 O N.te l0 (F.step (l.trans l2)) q0 λω3 e3 l3 F3 q3=>MF l3 F3 q3 λω4 e4 l4 F4 q4=>?_;have hs:S (.ret (.str m)) ([],ω4.σ):=by refine Ae e4 (Ae e3 ?_);exact h
 have c2:∃oe,ω4.s.heap.get? x=some oe/\oe.cls= .ref cM:=q4.elim λX y=>y.elim λd y=>y.elim λvs y=>y.2.1.cM.elim λc z=>z.elim λsl z=>⟨_,z.2,BB (z.1.symm.trans M.mg)⟩
 obtain⟨oe,c2,c3⟩:=c2;refine wpAny_handleBy_cons (codeAny_handlers_test ?_) (by intro q;cases q);refine Hy (Il (A:=A.mark (some (.ref x))) Z F4 hkx M.mg ?_);refine wpAny_excMatches_sub_self (ω4.inv.base _ _ lW) c2 c3 hBE (codeAny_handlers_suite_as ?_);refine MF l4 F4 q4 λω5 e5 l5 F5 q5=>?_;have hl:env.kindOf f'=some .local:=F.MC.names f' _ v0 (by decide);have hpp:(env.scope.kind== .class||(env.scope.kind== .module&&env.locals != env.globals))=false:=by refine Ae F.MC.kind ?_;rfl
 obtain⟨m5,hm5,_⟩:=F5.val;obtain⟨X,d,fvs,o5,x5,_⟩:=q5;obtain⟨cM',sl,c1,c3⟩:=x5.cM;rw[M.mg]at c1;cases c1;obtain⟨dm,tk,c7,c8⟩:=x5.why;have nL:∀a∈X,a≠env.locals:=λa ha e=>o5.no a ha (e▸F5.loc);refine Ly hl hm5 (λh6 hn6 hs6=>?_) hpp;have Fd:∀b o,b≠env.locals->ω5.s.heap.get? b=some o->h6.get? b=some o:=λb o hb e=>(hs6.2 b hb).trans e;obtain⟨ω6,s6,e6,l6,F6⟩:=F5.bare (tk:=ω5.s.toks+1) hn6 Fd;have c3':=Fd _ _ (nL _ x5.hx) c3;have c7':h6.Ns d dm:=c7.at' λo e=>Fd _ _ (nL _ x5.hd) e;refine EA (Ju (Attribute_any_ (Tz (HF F.MC.kind hl hn6 (if_pos rfl) ?_) (Di.name F.MC.ok v0).1) (by exact Ae (Oe ..) (Ae (Ep rfl ..) rfl))));refine Qcd (s:={ω5.s with heap:=h6,toks:=ω5.s.toks+1}) Z M (λb o e=>(congrArg HH s6)▸ω6.inv.base b o e) c3' c7' c8 λtk2=>?_;refine wpAny_nameGoes (s:={ω5.s with heap:=h6,toks:=tk2}) hl hn6 hpp λh7 m7 hn7 hs7=>?_;have Hp:∀b o,b≠env.locals->ω6.s.heap.get? b=some o->h7.get? b=some o:=λb o hb e=>(hs7.2 b hb).trans ((congrArg HH s6)▸e);obtain⟨ω7,s7,e7,l7,F7⟩:=F6.bare (tk:=tk2+1) hn7 Hp;have fin:=K.rt (.str m) (.str m tk) [] ω7 (by refine Ae e7 (Ae e6 (Ae e5 ?_));exact hs) ((l5.trans l6).trans l7) F7 (.str _ _);rw[s7,s6]at fin;exact fin
end
theorem Qcf{G:Stmt->Prop}{s:Stmt}{r_:Option Expr->Prop}{d_:List Expr->Prop}{a_:List Expr->Expr->Prop}{g_:Expr->Operator->Expr->Prop}{f_:Expr->Expr->List Stmt->List Stmt->Prop}{w_ i_:Expr->List Stmt->List Stmt->Prop}{x_:Option Expr->Option Expr->Prop}{t_:List Stmt->List ExceptHandler->List Stmt->List Stmt->Prop}{e_:Expr->Prop}{p_ c_:Prop}
  (h:stC s (λx x x x=>False) (λx x=>False) r_ d_ a_ g_ f_ w_ i_ x_ t_ e_ p_ c_ False) (k1:∀a p,r_ a->G (.Return a p)) (k2:∀a p,d_ a->G (.Delete a p)) (k3:∀a b p,a_ a b->G (.Assign a b p)) (k4:∀a b c p,g_ a b c->G (.AugAssign a b c p)) (k5:∀a b c d p,f_ a b c d->G (.For a b c d p)) (k6:∀a b c p,w_ a b c->G (.While a b c p)) (k7:∀a b c p,i_ a b c->G (.If a b c p))
  (k8:∀a b p,x_ a b->G (.Raise a b p)) (k9:∀a b c d p,t_ a b c d->G (.Try a b c d p)) (k10:∀a p,e_ a->G (.Expr a p)) (k11:∀p,p_->G (.Pass p)) (k12:∀p,c_->G (.Continue p)):G s:=by
 cases s with
 |Return=>exact k1 _ _ h
 |Delete=>exact k2 _ _ h
 |Assign=>exact k3 _ _ _ h
 |AugAssign=>exact k4 _ _ _ _ h
 |For=>exact k5 _ _ _ _ _ h
 |While=>exact k6 _ _ _ _ h
 |If=>exact k7 _ _ _ _ h
 |Raise=>exact k8 _ _ _ h
 |Try=>exact k9 _ _ _ _ _ h
 |Expr=>exact k10 _ _ h
 |Pass=>exact k11 _ h
 |Continue=>exact k12 _ h
 |_=>exact Ad h
theorem dK{α:Type}{G:List α->Prop}{l:List α}{P:Prop}(h:AI l P λa a=>False)(k:P->G []):G l:=by
 cases l with
 |nil=>exact k h
 |cons _ _=>exact Ad h
section
variable{B:Wd}{fs:List Env}{ω ω':Wl B fs}{A:Around}{C:Cl}{k:Nat}{sc:Scope}{j:Scope->I}{i:I}{w:Fm}{env:Env}{own:List Addr}{S:AF->(Fm×St)->Prop}{R:Flow->Shared->Prop}{E:Value->Shared->Prop}{cM cW fW:Addr}{dW:Oo}{pos:Pos}
theorem Qdx:∀{B:Wd}{fs:List Env}{A:Around}{C:Cl}{k:Nat}{sc:Scope}{i:I}{w:Fm}{env:Env}{own:List Addr}{S:AF->(Fm×St)->Prop}{R:Flow->Shared->Prop}{E:Value->Shared->Prop}{cM cW fW:Addr}{dW:Oo}{st:Stmt}{ω:Wl B fs}(Z:Bs B)(M:LU B cM cW fW dW)(HX:QW B C k)(T:Qdq B k sc i)(V:V4 B k sc i)(h:exF C sc i st w ω.σ S)(O:Ga fs k A)(F:Bf sc ω env own w)(N:En fs sc env)(K:Vj sc env own ω S R E),wpAny (model B.prog B.w) A (exec st env) R E ω.s:=by
 refine@(Xe DO nL Ja nCl nN Kb Xg nL NF ?_);generalize Ql .. =c;generalize c.1=B,c.2.1=fs,c.2.2.1=A,c.2.2.2.1=C,c.2.2.2.2.1=k,c.2.2.2.2.2.1=sc,c.2.2.2.2.2.2.1=i,c.2.2.2.2.2.2.2.1=w,c.2.2.2.2.2.2.2.2=env;refine@(Xe nL nQ nQ nQ nN nN nN wM nSt ?_);generalize Ql .. =c;generalize c.1=own,c.2.1=S,c.2.2.1=R,c.2.2.2.1=E,c.2.2.2.2.1=cM,c.2.2.2.2.2.1=cW,c.2.2.2.2.2.2.1=fW,c.2.2.2.2.2.2.2.1=dW,c.2.2.2.2.2.2.2.2=st;intro ω Z M HX T V h O F N K;unfold exF at h;refine Qcf (G:=λst=>wpAny (model B.prog B.w) A (exec st env) R E ω.s) h (λa a h=>jA T.S O F h K) (λa a h=>?_) (λa a a h=>jD T.S T.T T.U O F h N.sc K) (λa a a a h=>?_)
  (λt it b o p h=>dK (G:=λo=>wpAny (model B.prog B.w) A (exec (.For t it b o p) env) R E ω.s) h λh=>Qca Z T.S T.T V O F N h K) (λt b o p h=>dK (G:=λo=>wpAny (model B.prog B.w) A (exec (.While t b o p) env) R E ω.s) h λh=>oV T.S V O F N h K) (λa a a a h=>Qdt T.S O F V N h K)
  (λa a a h=>?_) (λa a a a a h=>?_) (λa a h=>xM T.S O F h K) (λa h=>wpAny_Pass (K.nx w ω h .refl F)) λa h=>wpAny_Continue (K.ct w ω h .refl F)
 .obtain⟨_,_,_,e,h⟩:=h;subst e;exact Qb7 T.S O F h K
 .rcases h with⟨_,_,e,h⟩|⟨_,_,_,e,e2,h⟩
  .subst e;exact Qb8 T.S O F h K
  .subst e e2;exact Z6 T.S O F Z h K
 .obtain⟨_,_,_,_,e,e2,h⟩:=h;subst e e2;exact o7 Z M T.S O F h K
 .obtain⟨_,_,_,_,_,_,_,_,_,_,_,_,_,_,e1,e2,e3,e4,h⟩:=h;subst e1 e2 e3 e4;exact Qce Z M T.S HX O F N h K
theorem QW.ok(HX:QW B C k):PK B C k:=λh O hg q K=>HX (Q:=PV _) h O hg q ⟨λv c ω' h l r=>K v c ω' h l r,λm x ω' h a a=>Ad h⟩
theorem Qcg(Z:Bs B)(M:LU B cM cW fW dW)(HX:QW B C k):∀n sc,V4 B k sc (I.aux C n sc)
 |0,_=>⟨λh=>Ad h,λh=>Ad h⟩
 |n+1,sc=>⟨λh O F N K=>Qdx Z M HX (snd Z HX.ok n sc) (Qcg Z M HX n sc) h O F N K,λh O F N K=>Qb9 O F (Qcg Z M HX n sc) N h K⟩
theorem Uw:∀{B:Wd}{fs:List Env}{A:Around}{k:Nat}{cM cW fW:Addr}{dW:Oo}{g:Str}{vs:List AV}{Q:Res->St->Prop}{fv:Value}{cs:List Value}{R E:Value->Shared->Prop}{ω:Wl B fs}(Z:Bs B)(P:Ps B)(M:LU B cM cW fW dW)(HX:QW B (By k) k)(h:By (k+1) g vs ω.σ Q)(O:Ga fs (k+1) A)(hg:B.mg g=some fv)(q:GY ω vs cs)(K:KR2 ω Q R E),codeAny (model B.prog B.w) A (.call fv ⟨cs,[]⟩) (RR R E) ω.s:=by
 refine@(Ir DO nL Ja nN nN nN nN wM ?_);generalize G8 .. =c;generalize c.1=B,c.2.1=fs,c.2.2.1=A,c.2.2.2.1=k,c.2.2.2.2.1=cM,c.2.2.2.2.2.1=cW,c.2.2.2.2.2.2.1=fW,c.2.2.2.2.2.2.2=dW;refine@(Hp A8 nL nQ Os nL nQ nQ ?_);generalize GE .. =c;generalize c.1=g,c.2.1=vs,c.2.2.1=Q,c.2.2.2.1=fv,c.2.2.2.2.1=cs,c.2.2.2.2.2.1=R,c.2.2.2.2.2.2=E;intro ω Z P M HX h O hg q K;have V:=Qcg Z M HX;rw[VM]at h;by_cases hx:g="Reading"
 .subst hx;rw[if_pos rfl]at h;obtain⟨d,hd,h⟩:=Bn.some h;obtain rfl:fv= .ref B.cR:=BB (hg.symm.trans Z.rd.1);exact Z8 Z P (V 1000 d.scope) hd h O q K
 .rw[if_neg hx]at h;obtain⟨d,hd,h⟩:=Bn.some h;obtain⟨a,ha,hD⟩:=P.defs g d hd;rw[hg]at ha;cases ha;exact oX Z (V 1000 d.scope) hD h O.aIn q K
theorem jI(Z:Bs B)(P:Ps B)(M:LU B cM cW fW dW)(HX:QW B (By k) k){g:Str}{vs:List AV}{Q:Res->St->Prop}{fv:Value}{cs:List Value}{R E:Value->Shared->Prop}(h:By (k+1) g vs ω.σ Q)(O:Ga fs (k+1) A)(hg:B.mg g=some fv)(q:GY ω vs cs)(K:KR2 ω Q R E):wpAny (model B.prog B.w) A (call fv cs) R E ω.s:=
 I1 (GQ (R:=RR R E) (Uw Z P M HX h O hg q K) λr s' p=>by
  cases r with
  |error e=>exact p
  |ok fl=>cases fl<;>exact p)
theorem Qam(Z:Bs B)(P:Ps B)(M:LU B cM cW fW dW):∀k:Nat,QW B (By k) k
 |0=>λh=>Ad h
 |k+1=>λh O hg q K=>jI Z P M (Qam Z P M k) h O hg q K
end
theorem NR:∀{ps:List Str}{vs:List Value}{x:Str},ps.length=vs.length->x∈ps->((ps.zip vs).lookup x).isSome=true
 |[],_,_,_,h=>nomatch h
 |p::ps,[],_,h,_=>nomatch h
 |p::ps,v::vs,x,h,hx=>by
  refine Ae Bp (Ae C7 ?_);cases hb:x==p with
  |true=>rfl
  |false=>
   rcases Au.mp hx with e|e
   .subst e;simp at hb
   .exact NR (by simpa using h) e
theorem XM{α β:Type}{f g:α->Option β}:∀{l:List α},(∀x∈l,f x=g x)->l.filterMap f=l.filterMap g
 |[],_=>rfl
 |x::l,h=>by exact Ae Er (Ae Er (Ae (h x (.head _)) (Ae (XM λy hy=>h y (.tail _ hy)) rfl)))
theorem XN{α β:Type}{f:α->β->Sem (ForInStep β)}{c:β}:∀{l:List α},(∀x∈l,f x c=pure (.yield c))->forIn l c f=pure c
 |[],_=>rfl
 |x::l,h=>by
  refine Ae (HU ..) (Ae (h x (.head _)) (Ae (pure_bind ..) ?_));exact XN λy hy=>h y (.tail _ hy)
theorem XQ:∀{ps:List Str}{vs:List Value},ps.Nodup->ps.length=vs.length->(ps.filterMap λn=>((ps.zip vs).lookup n).map (λa=>(n,a)))=ps.zip vs
 |[],[],_,_=>rfl
 |[],_::_,_,h=>nomatch h
 |_::_,[],_,h=>nomatch h
 |p::ps,v::vs,nd,h=>by
  obtain⟨n1,n2⟩:=CY.mp nd;refine Ae Bp (Ae Er (Ae C7 ?_));simp only[BEq.rfl,Bt];congr 1;refine(XM λn hn=>?_).trans (XQ (vs:=vs) n2 (by simpa using h));have Gk:(n==p)=false:=beq_eq_false_iff_ne.mpr λe=>n1 (e▸hn);exact Ae C7 (Ae Gk rfl)
theorem o8{M:Model}{A:Around}{α:Type}{E:Value->Shared->Prop}{s:Shared}{Q:α->Shared->Prop}{c:Prop}{_:Decidable c}{x y:Sem α}(h:¬c)(k:wpAny M A y Q E s):wpAny M A (if c then x else y) Q E s:=by refine Ae (if_neg h) ?_;exact k
theorem Qch{M:Model}{A:Around}{α β:Type}{E:Value->Shared->Prop}{s:Shared}{Q:β->Shared->Prop}{f:α->β->Sem (ForInStep β)}{c:β}{l:List α}(h:∀x∈l,f x c=pure (.yield c))(k:wpAny M A (pure c) Q E s):wpAny M A (forIn l c f) Q E s:=by refine Ae (XN h) ?_;exact k
theorem o9:∀{fd:FuncData}{as:List Arg}{kd:List (Option Expr)}{ds:List Expr}{vals:List Value}{s:Shared}(hp:fd.params=⟨[],as,none,[],kd,none,ds⟩)(hl:vals.length=as.length)(hnd:(as.map (λa=>a.arg)).Nodup)(hdef:fd.defaults= .none\/∃T o items n,fd.defaults= .ref T/\s.heap.get? T=some o/\o.data= .seq items n),BindsTo s fd ⟨vals,[]⟩ ((as.map (λa=>a.arg)).zip vals):=by
 refine@(Fd nFd nL nL nL nL nSh ?_);generalize E2 .. =z;generalize z.1=fd,z.2.1=as,z.2.2.1=kd,z.2.2.2.1=ds,z.2.2.2.2.1=vals,z.2.2.2.2.2=s;intro hp hl hnd hdef;obtain⟨fn,fq,fp,fb,fs,fg,fcl,fdf,fkw,fdoc,fpm,fan,fcd,fct,fbl⟩:=fd;dsimp only at hp hdef;subst hp;intro M A E Q hq;have hl':(as.map (λa=>a.arg)).length=vals.length:=by simp[hl]
 have hseq:∀{Q':Option (Array Value)->Shared->Prop},(∀l,Q' l s)->wpAny M A (seqItems? fdf) Q' E s:=by
  intro Q' h;rcases hdef with h0|⟨T,o,items,n,h1,h2,h3⟩
  .refine Ae h0 ?_;exact Ax (h _)
  .refine Ae h1 ?_;exact wpAny_seqItems h2 h3 (h _)
 have hg:¬((decide (vals.length>(as.map (λa=>a.arg)).length)&&(none:Option Arg).isNone)=true):=by refine Ae hl' ?_;simp
 have hm:∀k,¬((!(((as.map (λa=>a.arg)).take k).filter (λn=>(((as.map (λa=>a.arg)).zip vals).lookup n).isNone)).isEmpty)=true):=λk=>by
  rw[show(((as.map (λa=>a.arg)).take k).filter (λn=>(((as.map (λa=>a.arg)).zip vals).lookup n).isNone))=[]from ?_]
  .exact BM
  refine(EI).mpr ?_;intro x hx;have:=NR hl' (BU hx);cases h:((as.map (λa=>a.arg)).zip vals).lookup x with
  |none=>rw[h]at this;cases this
  |some _=>exact BM
 refine Ag (Ax ?_);refine Ag (hseq λl=>?_);refine o8 hg ?_;refine o8 (hm _) ?_;refine Ag (Qch (λx hx=>?_) (Ax ?_))
 .have hx1:=(Q4 hx).1;have:=NR hl' (Cm hx1);refine if_neg (c:=(((as.map (λa=>a.arg)).zip vals).lookup x.1).isNone=true) ?_;cases h:((as.map (λa=>a.arg)).zip vals).lookup x.1 with
  |none=>rw[h]at this;cases this
  |some _=>exact BM
 .refine Ag (Ax (o8 BM (Ax ?_)));have key:Q ((as.map Arg.arg++[]).filterMap λn=>(((as.map Arg.arg).zip vals).lookup n).map (λa=>(n,a))) s:=by refine Ae (A7 ..) (Ae (XQ hnd hl') ?_);exact hq
  exact key
theorem dF.el{d:Data}{fd:FuncData}(h:dF d=some fd):d= .func fd:=by
 cases d with
 |func=>cases h;rfl
 |_=>exact iF h
theorem dS.el{d:Data}(h:dS d=true):∃a n,d= .seq a n:=by
 cases d with
 |seq=>exact⟨_,_,rfl⟩
 |_=>exact Br h
theorem zK.el{K:Bj}{a:Addr}{fd:FuncData}(h:zK K a=some fd):∃o,K.lookup a=some o/\o.data= .func fd:=by
 unfold zK at h;cases hl:K.lookup a with
 |none=>rw[hl]at h;exact iF h
 |some o=>rw[hl]at h;exact⟨o,rfl,dF.el h⟩
theorem ZA.el{K:Bj}{a:Addr}{F:lO}(h:ZA K a=some F):∃fd,zK K a=some fd/\F=ffF fd:=by
 unfold ZA at h;cases hl:zK K a with
 |none=>rw[hl]at h;exact iF h
 |some fd=>rw[hl]at h;exact⟨fd,rfl,(BB h).symm⟩
theorem dfK.el{K:Bj}{v:Value}(h:dfK K v=true):v= .none\/∃T o a n,v= .ref T/\K.lookup T=some o/\o.data= .seq a n:=by
 cases v with
 |none=>exact .inl rfl
 |ref T=>
  replace h:(AH (K.lookup T) false λo=>dS o.data:Bool)=true:=h;cases hl:K.lookup T with
  |none=>rw[hl]at h;exact Br h
  |some o=>rw[hl]at h;exact .inr ((dS.el h).elim λa y=>y.elim λn y=>⟨T,o,a,n,rfl,hl,y⟩)
 |_=>exact Br h
theorem Qan{K:Bj}{a:Addr}(h:lQ K a=true):∃F,ZA K a=some F:=by
 unfold lQ at h;unfold ZA;cases hl:zK K a with
 |none=>rw[hl]at h;exact Br h
 |some fd=>exact⟨_,rfl⟩
theorem Qci{G:Stmt->Prop}{st:Stmt}{F:lO}(h:wG st=some F)(k:∀a b c d e f g h i j,some F=some ⟨.stmts c,g,mainGlobals,[],builtinsNs,b⟩->G (.FunctionDef a b c d e f g h i j)):G st:=by
 cases st with
 |FunctionDef=>exact k _ _ _ _ _ _ _ _ _ _ h.symm
 |_=>exact iF h
theorem Qcj{st:Stmt}{F:lO}(h:wG st=some F):∃b,F.body= .stmts b/\Nf st=some ⟨JN F.params,F.scope,b⟩/\F.globals=mainGlobals/\F.closure=[]/\F.builtins=builtinsNs:=
 Qci (G:=λst=>∃b,F.body= .stmts b/\Nf st=some ⟨JN F.params,F.scope,b⟩/\F.globals=mainGlobals/\F.closure=[]/\F.builtins=builtinsNs) h λa a c a a a a a a a e=>by cases e;exact⟨c,rfl,rfl,rfl,rfl,rfl⟩
theorem XR{K:Bj}{h:Heap}(X:K.In h){cd:Value}{q:Str}(e:Ts K cd q=true):h.CodeRec cd q:=PySem.W.codeRec_of X e
theorem pA:∀{B:Wd}{a:Addr}{st:Stmt}(X:B.K.In B.h₀){F:lO}(h1:ZA B.K a=some F)(h2:wG st=some F)(h3:lQ B.K a=true),∃d,Nf st=some d/\Sa B d a:=by
 refine@(TN DO nN nSt ?_);generalize W1 .. =c;generalize c.1=B,c.2.1=a,c.2.2=st;intro X F h1 h2 h3;obtain⟨b,f1,f2,f3,f4,f5⟩:=Qcj h2;obtain⟨fd,e1,rfl⟩:=ZA.el h1;obtain⟨o,e2,e3⟩:=zK.el e1;unfold lQ at h3;rw[e1]at h3;replace h3:okD B.K fd=true:=h3;simp only[okD,Av,Cw,Uk,decide_eq_true_eq,Hi,Option.isNone_iff_eq_none,Az]at h3;obtain⟨⟨⟨⟨⟨g1,⟨⟨⟨p1,p2⟩,p3⟩,p4⟩,g2⟩,g3⟩,g4⟩,g5⟩,g6⟩:=h3;refine⟨_,f2,⟨⟨o,fd,X _ _ e2,e3,f1,rfl,f3,f4,f5,XR X g1,λs vals hb hv=>?_⟩,g3,g4,g2,λy hy=>?_⟩⟩
 .have hp:fd.params=⟨[],fd.params.args,none,[],fd.params.kw_defaults,none,fd.params.defaults⟩:=by
   have:∀a:Arguments,a.posonlyargs=[]->a.vararg=none->a.kwonlyargs=[]->a.kwarg=none->a=⟨[],a.args,none,[],a.kw_defaults,none,a.defaults⟩:=by
    rintro⟨_,_,_,_,_,_,_⟩ e1 e2 e3 e4;dsimp only at e1 e2 e3 e4⊢;exact Ae e1 (Ae e2 (Ae e3 (Ae e4 rfl)))
   exact this _ p1 p2 p3 p4
  refine o9 hp (hv.trans (Aj ..)) g2 ?_;rcases dfK.el g6 with h|⟨T,o,a,n,h1,h2,h3⟩
  .exact .inl h
  .exact .inr ⟨T,o,a,n,h1,hb _ _ (X _ _ h2),h3⟩
 .have:=g5 y hy;unfold mH at this;rw[BX]at this;exact this.imp (λh=>(eq_of_beq h:BJ fd.scope.names y=_)) λh=>(eq_of_beq h:BJ fd.scope.names y=_)
theorem Ux:∀{K:Bj}{h:Heap}{ns:Addr}{m:Str->Option Value}{x:Str}{r:Option Value}(X:K.In h)(hn:h.Ns ns m)(e:Ec K ns x=some r),m x=r:=by
 refine@(Fd vR nH nN Vn A8 nO ?_);generalize E2 .. =z;generalize z.1=K,z.2.1=h,z.2.2.1=ns,z.2.2.2.1=m,z.2.2.2.2.1=x,z.2.2.2.2.2=r;intro X hn e;obtain⟨o,es,ep,ho,hd,hk,hf⟩:=hn;unfold Ec at e;cases hl:K.lookup ns with
 |none=>rw[hl]at e;cases e
 |some o'=>
  rw[hl]at e;obtain rfl:o'=o:=BB ((X _ _ hl).symm.trans ho);obtain⟨c,d,dt,sl⟩:=o';cases hd;refine CV (hf x) ?_;unfold nsFind findBy;obtain⟨l⟩:=es;refine Ae (Oj ..) ?_;dsimp only at e⊢;cases hq:l.find? (λe=>e.key.isStr x)with
  |none=>
   rw[hq]at e;replace e:(if l.any (λa=>a.refKey)=true then none else some none)=some r:=e;by_cases c:l.any (λa=>a.refKey)=true
   .rw[if_pos c]at e;cases e
   .rw[if_neg c]at e;cases e;rfl
  |some y=>
   rw[hq]at e;cases e;rfl
structure KF(K:Bj):Prop where
 fn:(bT.map λp=>ZA K p.2)=bT.map λp=>(Ls body p.1).bind wG
 ok:(bT.all λp=>lQ K p.2)=true
 ns:(I6.map λx=>Ec K mainGlobals x)=bT.map λp=>some (some (.ref p.2))
 keep:(bT.all λp=>Ew K (.ref p.2))=true
 bare:Iq.map (λx=>Ec K mainGlobals x)=GJ 8 (some none)
 rd:(Ec K mainGlobals "Reading",Ec K mainGlobals "Misused")=(some (some (.ref 273)),some (some (.ref 44)))
 at_:Ft.map (λx=>A6 K (.ref 273) x)=GJ 11 (some none)
 rcls:(A6 K (.ref 273) "__getattribute__",A6 K (.ref 273) "__setattr__",A6 K (.ref 273) "__init__")=(some (some (.builtin "object.__getattribute__")),some (some (.builtin "object.__setattr__")),some (some (.ref 270)))
 rhas:((EN K 273).map (λa=>a.hasDict),O7 K 273,Q1 K 273,Ew K (.ref 273),GR K (.ref 270))=(some true,true,true,true,some (.type "function"))
 rini:ZA K 270=(Ls body 34).bind zL/\lQ K 270=true
 mcls:(A6 K (.ref 44) "__getattribute__",A6 K (.ref 44) "__setattr__",A6 K (.ref 44) "__init__",A6 K (.ref 44) "__getattr__",A6 K (.ref 44) "why",A6 K (.ref 44) "at")=
  (some (some (.builtin "BaseException.__getattribute__")),some (some (.builtin "object.__setattr__")),some (some (.ref 28)),some none,some none,some none)
 mhas:((EN K 44).map (λa=>a.hasDict),Ew K (.ref 44),GR K (.ref 28))=(some true,true,some (.type "function"))
 mini:ZA K 28=(Ls body 1).bind zL/\lQ K 28=true
 mobj:∃nm q N bs sn sub col dd k0 k1 k2 k3 k5,K.lookup 44=some (excClassObj nm q 44 N bs (Px 31) true sn sub false col dd k0 k1 k2 k3 k5 NE)
theorem Qck:(I6.map Iv)=bT.map λp=>some p.1:=by kernel_rfl
theorem OD{α β γ:Type}{f:α->γ}{g:β->γ}:∀{l:List α}{m:List β},l.map f=m.map g->∀{x:α},x∈l->∃y∈m,(x,y)∈l.zip m/\f x=g y
 |[],_,_,_,h=>nomatch h
 |a::l,[],h,_,_=>nomatch h
 |a::l,b::m,h,x,hx=>by
  rw[AW,AW]at h;obtain⟨h1,h2⟩:=DM h;rcases Au.mp hx with e|e
  .subst e;exact⟨b,.head _,by refine Ae Bp ?_;exact .head _,h1⟩
  .obtain⟨y,h3,h4,h5⟩:=OD h2 e;exact⟨y,.tail _ h3,by refine Ae Bp ?_;exact .tail _ h4,h5⟩
theorem dM{α β γ:Type}{f:α->γ}{g:β->γ}:∀{l:List α}{m:List β},l.map f=m.map g->∀{x:α}{y:β},(x,y)∈l.zip m->f x=g y
 |[],_,_,_,_,h=>by simp at h
 |a::l,[],h,_,_,_=>nomatch h
 |a::l,b::m,h,x,y,hx=>by
  rw[AW,AW]at h;obtain⟨h1,h2⟩:=DM h;rw[Bp]at hx;rcases Au.mp hx with e|e
  .cases e;exact h1
  .exact dM h2 e
theorem pB{x:Str}{l:List Stmt}:∀{i j:Nat},Um x i l=some j->i<=j:=by
 induction l with
 |nil=>exactλh=>nomatch h
 |cons st r ih=>
  intro i j h;replace h:(if PF st=some x then some i else Um x (i+1) r)=some j:=h;by_cases c:PF st=some x
  .rw[if_pos c]at h;cases h;exact AL _
  .rw[if_neg c]at h;exact AS (Jr _) (ih h)
theorem Qdy{st:Stmt}{d:Oo}(h:Nf st=some d):ZH st=PF st:=by
 cases st with
 |FunctionDef _ _ _ _ _ _ _ _ _ _=>rfl
 |_=>exact iF h
theorem pC{x:Str}{d:Oo}{l:List Stmt}:∀{i j:Nat},Um x i l=some j->(Ls l (j-i)).bind Nf=some d->x∈l.filterMap ZH:=by
 induction l with
 |nil=>exactλh a=>nomatch h
 |cons st r ih=>
  intro i j h hd;have hle:=pB h;replace h:(if PF st=some x then some i else Um x (i+1) r)=some j:=h;by_cases c:PF st=some x
  .rw[if_pos c]at h;cases h;rw[Fn]at hd;exact C9.mpr ⟨st,.head _,(Qdy (show Nf st=some d from hd)).trans c⟩
  .rw[if_neg c]at h;have e:j-i=(j-(i+1))+1:=z1 (pB h);rw[e]at hd;obtain⟨y,h1,h2⟩:=C9.mp (ih h hd);exact C9.mpr ⟨y,.tail _ h1,h2⟩
theorem pD{x:Str}{d:Oo}(h:(Iv x).bind JQ=some d):x∈I6:=by
 cases hi:Iv x with
 |none=>rw[hi]at h;cases h
 |some j=>
  rw[hi]at h;exact pC (i:=0) hi h
noncomputable instance:Inhabited Oo:=⟨⟨[],default,[]⟩⟩
section
variable{K:Bj}{prog:Program}{w:World}{h:Heap}{mg mb:Str->Option Value}
noncomputable def wd(K:Bj)(prog:Program)(w:World)(h:Heap)(mg mb:Str->Option Value):Wd:={prog,w,h₀:=h,mg,mb,cR:=273,K}
theorem pE(kf:KF K){x:Str}(hx:x∈I6):∃p∈bT,Iv x=some p.1/\Ec K mainGlobals x=some (some (.ref p.2)):=by
 obtain⟨p,h1,h2,h3⟩:=OD Qck hx;exact⟨p,h1,h3,dM kf.ns h2⟩
theorem Qdz:∀{K:Bj}{prog:Program}{w:World}{h:Heap}{mg mb:Str->Option Value}{p:Nat×Addr}(kf:KF K)(X:K.In h)(hp:p∈bT),∃d,JQ p.1=some d/\Sa (wd K prog w h mg mb) d p.2:=by
 refine@(Hp vR hY lM nH Vn Vn (np nN nN) ?_);generalize GE .. =c;generalize c.1=K,c.2.1=prog,c.2.2.1=w,c.2.2.2.1=h,c.2.2.2.2.1=mg,c.2.2.2.2.2.1=mb,c.2.2.2.2.2.2=p;intro kf X hp;have h1:ZA K p.2=(Ls body p.1).bind wG:=by
  have:=kf.fn;rw[List.map_inj_left]at this;exact this p hp
 have h2:lQ K p.2=true:=Az.mp kf.ok p hp;obtain⟨F,e⟩:=Qan h2;cases hs:Ls body p.1 with
 |none=>rw[hs,e]at h1;exact iF h1.symm
 |some st=>
  rw[hs]at h1;have hf:wG st=some F:=h1.symm.trans e;obtain⟨d,e1,e2⟩:=pA (B:=wd K prog w h mg mb) X (e:ZA (wd K prog w h mg mb).K p.2=some F) hf h2;refine⟨d,?_,e2⟩;show(Ls body p.1).bind Nf=some d;refine Ae hs ?_;exact e1
theorem zL.el{st:Stmt}{F:lO}(h:zL st=some F):∃s,wG s=some F/\Ox st=Nf s:=by
 cases st with
 |ClassDef a b c d e f g h' i j k=>cases d with
  |nil=>cases h
  |cons s r=>cases r with
   |nil=>exact⟨s,h,rfl⟩
   |cons _ _=>cases h
 |_=>exact iF h
theorem pG:∀{K:Bj}{prog:Program}{w:World}{h:Heap}{mg mb:Str->Option Value}{i:Nat}{a:Addr}(X:K.In h)(h1:ZA K a=(Ls body i).bind zL)(h2:lQ K a=true),∃d,(Ls body i).bind Ox=some d/\Sa (wd K prog w h mg mb) d a:=by
 refine@(Ir vR hY lM nH Vn Vn nN nN ?_);generalize G8 .. =c;generalize c.1=K,c.2.1=prog,c.2.2.1=w,c.2.2.2.1=h,c.2.2.2.2.1=mg,c.2.2.2.2.2.1=mb,c.2.2.2.2.2.2.1=i,c.2.2.2.2.2.2.2=a;intro X h1 h2;obtain⟨F,hf⟩:=Qan h2;rw[hf]at h1;cases hs:Ls body i with
 |none=>rw[hs]at h1;exact iF h1.symm
 |some st=>
  rw[hs]at h1;have h1:some F=zL st:=h1;obtain⟨s,e1,e2⟩:=zL.el h1.symm;obtain⟨d,e3,e4⟩:=pA (B:=wd K prog w h mg mb) X hf e1 h2;exact⟨d,e2.trans e3,e4⟩
theorem QdA(kf:KF K)(X:K.In h)(hg:h.Ns mainGlobals mg):Ps (wd K prog w h mg mb) where
 defs:=λx d hd=>by
  obtain⟨p,hp,e1,e2⟩:=pE kf (pD hd);obtain⟨d',e3,e4⟩:=Qdz (prog:=prog) (w:=w) (mg:=mg) (mb:=mb) kf X hp;rw[e1]at hd;rw[show((some p.1).bind JQ)=JQ p.1 from rfl,e3]at hd;cases hd;exact⟨p.2,Ux X hg e2,e4⟩
 init:=by
  obtain⟨d,e1,e2⟩:=pG (prog:=prog) (w:=w) (mg:=mg) (mb:=mb) X kf.rini.1 kf.rini.2;have hr:=kf.rcls;have hh:=kf.rhas;simp only[FX]at hr hh;refine⟨d,270,?_,hr.2.2,hh.2.2.2.2,e2⟩;refine Ae (show Iv "Reading"=some 34 from by decide +kernel) ?_;exact e1
theorem QdB:∀{x:Str}(h:RN x=some .fn),x∈I6:=by
 refine@(MS A8 ?_);generalize ZF .. =x;intro h;unfold RN at h
 repeat' split at h
 all_goals first|(cases h;done)|assumption
theorem QdC:∀{K:Bj}{prog:Program}{w:World}{h:Heap}{mg mb:Str->Option Value}(kf:KF K)(X:K.In h)(hg:h.Ns mainGlobals mg)(hb:h.Ns builtinsNs mb)(hl:h.NoLimit)(hbl:∀x:Str,x≠"__name__"->mb x=bootBuiltins x)(hs:∃o,h.get? sysModules=some o),Bs (wd K prog w h mg mb):=by
 refine@(Fd vR hY lM nH Vn Vn ?_);generalize E2 .. =c;generalize c.1=K,c.2.1=prog,c.2.2.1=w,c.2.2.2.1=h,c.2.2.2.2.1=mg,c.2.2.2.2.2=mb;intro kf X hg hb hl hbl hs;have hr:=kf.rcls;have hh:=kf.rhas;have hn:=kf.rd;simp only[FX]at hr hh hn;refine⟨hs,hg,hb,hl,hbl,X,hr.1,hr.2.1,λx hx=>?_,?_,hh.2.1,hh.2.2.1,λx hx=>?_,⟨Ux X hg hn.1,hh.2.2.2.1⟩,λx hx=>?_⟩
 .have e:Ft.map (λx=>A6 K (.ref 273) x)=(BZ 11).map (λa=>some none):=kf.at_;obtain⟨_,_,_,e2⟩:=OD e hx;exact e2
 .have:=hh.1;cases hc:EN K 273 with
  |none=>rw[hc]at this;cases this
  |some cd=>rw[hc]at this;exact⟨cd,hc,by simpa using this⟩
 .obtain⟨p,hp,e1,e2⟩:=pE kf (QdB hx);exact⟨p.2,Ux X hg e2,Az.mp kf.keep p hp⟩
 .have e:Iq.map (λx=>Ec K mainGlobals x)=(BZ 8).map (λa=>some none):=kf.bare;obtain⟨_,_,_,e2⟩:=OD e (x:=x) (by
   simp only[Au,AU,or_false]at hx;unfold Iq;simp only[Au,AU,or_false];rcases hx with h|h|h|h|h|h|h<;>simp[h])
  exact Ux X hg e2
theorem Qcl:∀{K:Bj}{prog:Program}{w:World}{h:Heap}{mg mb:Str->Option Value}(kf:KF K)(X:K.In h)(hg:h.Ns mainGlobals mg),∃dW,LU (wd K prog w h mg mb) 44 31 28 dW:=by
 refine@(Fd vR hY lM nH Vn Vn ?_);generalize E2 .. =c;generalize c.1=K,c.2.1=prog,c.2.2.1=w,c.2.2.2.1=h,c.2.2.2.2.1=mg,c.2.2.2.2.2=mb;intro kf X hg;obtain⟨d,e1,e2⟩:=pG (prog:=prog) (w:=w) (mg:=mg) (mb:=mb) X kf.mini.1 kf.mini.2;have hr:=kf.mcls;have hh:=kf.mhas;have hn:=kf.rd;simp only[FX]at hr hh hn;have hb:Iq.map (λx=>Ec K mainGlobals x)=(BZ 8).map (λa=>some none):=kf.bare;obtain⟨_,_,_,hexc⟩:=OD hb (x:="Exception") (by unfold Iq;simp);obtain⟨nm,q,N,bs,sn,sub,col,dd,k0,k1,k2,k3,k5,ho⟩:=kf.mobj;refine⟨d,Ux X hg hn.2,⟨nm,q,N,bs,sn,sub,col,dd,k0,k1,k2,k3,k5,X _ _ ho⟩,hr.2.2.1,hh.2.2,hr.2.1,hr.2.2.2.2.1,hr.2.2.2.2.2,hr.1,hr.2.2.2.1,hh.2.1,e2,?_,Ux X hg hexc,?_⟩
 .have:(Ls body 1).bind Ox=some d:=e1;have hd:d=((Ls body 1).bind Ox).getD default:=by refine Ae this ?_;rfl
  subst hd;exact⟨rfl,by decide +kernel,by decide +kernel,by decide +kernel,by decide +kernel,_,_,_,_,_,_,_,_,_,_,_,_,_,_,_,_,rfl,by decide +kernel⟩
 .have:=hh.1;cases hc:EN K 44 with
  |none=>rw[hc]at this;cases this
  |some cd=>rw[hc]at this;exact⟨cd,hc,by simpa using this⟩
theorem join:∀{K:Bj}{prog:Program}{w:World}{mg mb:Str->Option Value}{s₁:Shared}{fa l:Addr}{vs:List Value}{ns:List Int}{k:Nat}(kf:KF K)(X:K.In s₁.heap)(hg:s₁.heap.Ns mainGlobals mg)(hb:s₁.heap.Ns builtinsNs mb)(zV:s₁.heap.NoLimit)(hbl:∀x:Str,x≠"__name__"->mb x=bootBuiltins x)(hs:∃o,s₁.heap.get? sysModules=some o)(hgens:s₁.gens= #[])(hL:s₁.heap.IsList l vs.toArray)(hI:IntsAre vs ns)(hlaw:mg "law"=some (.ref fa))(hk:k<=100)(run:By (k+1) "law" [.W4 ns] [] (PV λv y=>v= .bool true)),codeAny (model prog w) callerA (.call (.ref fa) ⟨[.ref l],[]⟩) (λr s'=>r= .ok (.ret (.bool true))/\(∀b o,s₁.heap.get? b=some o->s'.heap.get? b=some o)/\s'.os=s₁.os/\s'.gens= #[]) s₁:=by
 refine@(Fd vR hY lM Vn Vn nSh ?_);generalize E2 .. =z;generalize z.1=K,z.2.1=prog,z.2.2.1=w,z.2.2.2.1=mg,z.2.2.2.2.1=mb,z.2.2.2.2.2=s₁;refine@(I8 nN nN nL nL nN ?_);generalize Ke .. =z;generalize z.1=fa,z.2.1=l,z.2.2.1=vs,z.2.2.2.1=ns,z.2.2.2.2=k;intro kf X hg hb zV hbl hs hgens hL hI hlaw hk run;have Z:=QdC (prog:=prog) (w:=w) kf X hg hb zV hbl hs;have P:=QdA (prog:=prog) (w:=w) (mb:=mb) kf X hg;obtain⟨dW,M⟩:=Qcl (prog:=prog) (w:=w) (mb:=mb) kf X hg;have O:Ga [] (k+1) callerA:=⟨λy h=>(nomatch h),rfl,rfl,by show 301+2*(k+1)+5<1000;exact AA 0x3e832512112003212412d32331642200021 hk,by show 4+20*(k+1)+200<9900;lia⟩
 let ω:Wl (wd K prog w s₁.heap mg mb) []:=⟨[],[],s₁,⟨rfl,Mo,λi o a h1 y=>(nomatch h1),λb o e=>e,λa h=>(nomatch h),λa h=>(nomatch h)⟩⟩
 have q:GY ω [.W4 ns] [.ref l]:= .cons (.W4 hL hI) .nil;refine GQ (Uw Z P M (Qam Z P M k) (ω:=ω) run O hlaw q (R:=λc s'=>c= .bool true/\(∀b o,s₁.heap.get? b=some o->s'.heap.get? b=some o)/\s'.os=s₁.os/\s'.gens= #[]) (E:=λy y=>False) ⟨λv c ω' h l r=>?_,λm x ω' h y y=>Ad h⟩) λr s' p=>?_
 .obtain rfl:v= .bool true:=h;cases r;obtain⟨h',tk',e⟩:=l.same;exact⟨rfl,λb o eb=>l.keep b o (λ⟨i,hi,_⟩=>(nomatch hi)) AU (λh=>nomatch h) eb,by exact Ae e rfl,by refine Ae e ?_;exact hgens⟩
 .cases r with
  |error e=>exact p.elim
  |ok fl=>cases fl with
   |ret c=>exact⟨congrArg (λc=>Except.ok (Flow.ret c)) p.1,p.2⟩
   |_=>exact p.elim
end
end
namespace L
open PySem
set_option maxHeartbeats 4000000
section
theorem Qao{Q:AV->St->Prop}{σ:St}{v:AV}:KV Q σ v=(Q v σ):=rfl
theorem pH{Q:AV->St->Prop}{σ:St}{b:Bool}:KV1 Q σ b=(Q (.bool b) σ):=rfl
theorem Qap{T:Bool->St->Prop}{σ:St}{b:Bool}:KT T σ b=(T b σ):=rfl
theorem Qaq{R:(List AV×Option Nat)->St->Prop}{σ:St}{r:List AV×Option Nat}:KR R σ r=(R r σ):=rfl
theorem Se{op:Operator}{a:AV}{Q:AV->St->Prop}{b:AV}{σ:St}:Vu op a Q b σ=(Ok (Gz σ op a b) Q):=rfl
theorem Uy{i:I}{r:Expr}{fr:Fm}{op:Operator}{Q:AV->St->Prop}{a:AV}{σ:St}:Vv i r fr op Q a σ=(i.ev r fr σ (Vu op a Q)):=rfl
theorem Sf{Q:AV->St->Prop}{σ:St}{b:Bool}:Vw Q σ b=(Q (.bool (!b)) σ):=rfl
theorem Uz{Q:AV->St->Prop}{v:AV}{σ:St}:ZL Q v σ=(Bn (Nc σ v) (Vw Q σ)):=rfl
theorem Sg{Q:AV->St->Prop}{σ:St}{k:Int}:Vx Q σ k=(Q (.int (-k)) σ):=rfl
theorem UA{Q:AV->St->Prop}{v:AV}{σ:St}:ZM Q v σ=(iG v (Vx Q σ)):=rfl
theorem Qw{i:I}{a:Expr}{fr:Fm}{Q:AV->St->Prop}{b:Expr}{c:Bool}{σ:St}:Ot i a fr Q b c σ=(if c=true then i.ev a fr σ Q else i.ev b fr σ Q):=rfl
theorem LV{op:CmpOp}{a:AV}{Q:AV->St->Prop}{b:AV}{σ:St}:LK op a Q b σ=(Bn (EC σ op a b) (KV1 Q σ)):=rfl
theorem Nj{i:I}{r:Expr}{fr:Fm}{op:CmpOp}{Q:AV->St->Prop}{a:AV}{σ:St}:Ki i r fr op Q a σ=(i.ev r fr σ (LK op a Q)):=rfl
theorem Qx{Q:AV->St->Prop}{vs:List AV}{σ:St}:Ou Q vs σ=(Q (.tup vs) σ):=rfl
theorem Sh{Q:AV->St->Prop}{vs:List AV}{σ:St}:Ri Q vs σ=(Q (.ref σ.length) (σ++[.list false vs])):=rfl
theorem Si{Q:AV->St->Prop}{ps:List (AV×AV)}{σ:St}:Rj Q ps σ=(Ok (Hw σ ps) Q):=rfl
theorem OE{a:AV}{l:Option Int}{Q:AV->St->Prop}{h:Option Int}{σ:St}:Pz a l Q h σ=(Ok (LH σ a l h) Q):=rfl
theorem OF{i:I}{hi:Option Expr}{fr:Fm}{a:AV}{Q:AV->St->Prop}{l:Option Int}{σ:St}:PA i hi fr a Q l σ=(i.opt hi fr σ (Pz a l Q)):=rfl
theorem Qy{i:I}{lo:Option Expr}{fr:Fm}{hi:Option Expr}{Q:AV->St->Prop}{a:AV}{σ:St}:RP i lo fr hi Q a σ=(i.opt lo fr σ (PA i hi fr a Q)):=rfl
theorem Sk{v:AV}{Q:AV->St->Prop}{w:AV}{σ:St}:Vy v Q w σ=(Bn (Jb σ v w) (KV Q σ)):=rfl
theorem UB{i:I}{x:Expr}{fr:Fm}{Q:AV->St->Prop}{v:AV}{σ:St}:Kj i x fr Q v σ=(i.ev x fr σ (Vy v Q)):=rfl
theorem Sm{x:Str}{Q:AV->St->Prop}{a:AV}{σ:St}:Rl x Q a σ=(Bn (H0 σ x a) (KV Q σ)):=rfl
theorem Qz{mm:Meth}{a:AV}{Q:AV->St->Prop}{vs:List AV}{σ:St}:RQ mm a Q vs σ=(Ok (Lg σ mm a vs) Q):=rfl
theorem QA{i:I}{args:List Expr}{fr:Fm}{σ:St}{a:AV}{Q:AV->St->Prop}{mm:Meth}:Ov i args fr σ a Q mm=(i.Na args fr σ (RQ mm a Q)):=rfl
theorem Sn{i:I}{m:Str}{args:List Expr}{fr:Fm}{Q:AV->St->Prop}{a:AV}{σ:St}:Rm i m args fr Q a σ=(Bn (HN σ m a) (Ov i args fr σ a Q)):=rfl
theorem QB{C:Cl}{g:Str}{Q:AV->St->Prop}{vs:List AV}{σ:St}:Hx C g Q vs σ=(C g vs σ (PV Q)):=rfl
theorem QC{i:I}{args:List Expr}{fr:Fm}{σ:St}{C:Cl}{Q:AV->St->Prop}{g:Str}:RS i args fr σ C Q g=(i.Na args fr σ (Hx C g Q)):=rfl
theorem So{i:I}{args:List Expr}{fr:Fm}{σ:St}{C:Cl}{Q:AV->St->Prop}{v:AV}:Rn i args fr σ C Q v=(isF v (RS i args fr σ C Q)):=rfl
theorem Sp{p:Vq}{Q:AV->St->Prop}{vs:List AV}{σ:St}:Ro p Q vs σ=(Ok (H3 σ p vs) Q):=rfl
theorem QD{Q:List AV->St->Prop}{v:AV}{vs:List AV}{σ:St}:RT Q v vs σ=(Q (v::vs) σ):=rfl
theorem Sq{i:I}{es:List Expr}{fr:Fm}{Q:List AV->St->Prop}{v:AV}{σ:St}:Vz i es fr Q v σ=(i.Na es fr σ (RT Q v)):=rfl
theorem Sr{Q:Option Int->St->Prop}{σ:St}{k:Int}:VA Q σ k=(Q (some k) σ):=rfl
theorem UC{Q:Option Int->St->Prop}{v:AV}{σ:St}:ZN Q v σ=(iG v (VA Q σ)):=rfl
theorem OG{Q:List (AV×AV)->St->Prop}{kv vv:AV}{ps:List (AV×AV)}{σ:St}:PB Q kv vv ps σ=(Q ((kv,vv)::ps) σ):=rfl
theorem OH{i:I}{ks:List (Option Expr)}{vs:List Expr}{fr:Fm}{Q:List (AV×AV)->St->Prop}{kv vv:AV}{σ:St}:PC i ks vs fr Q kv vv σ=(i.pairs ks vs fr σ (PB Q kv vv)):=rfl
theorem QE{i:I}{v:Expr}{fr:Fm}{ks:List (Option Expr)}{vs:List Expr}{Q:List (AV×AV)->St->Prop}{kv:AV}{σ:St}:RU i v fr ks vs Q kv σ=(i.ev v fr σ (PC i ks vs fr Q kv)):=rfl
theorem Ss{i:I}{op:BoolOp}{es:List Expr}{fr:Fm}{Q:AV->St->Prop}{v:AV}{σ:St}:VB i op es fr Q v σ=(Bn (Nc σ v) (Ow i op es fr σ Q v)):=rfl
theorem UD{T:Bool->St->Prop}{b:Bool}{σ:St}:VC T b σ=(T (!b) σ):=rfl
theorem LW{op:CmpOp}{a:AV}{T:Bool->St->Prop}{b:AV}{σ:St}:LL op a T b σ=(Je σ op a b (KT T σ)):=rfl
theorem Nk{i:I}{r:Expr}{fr:Fm}{op:CmpOp}{T:Bool->St->Prop}{a:AV}{σ:St}:NI i r fr op T a σ=(i.ev r fr σ (LL op a T)):=rfl
theorem UE{T:Bool->St->Prop}{v:AV}{σ:St}:NJ T v σ=(Bn (Nc σ v) (KT T σ)):=rfl
theorem Qar{R:(List AV×Option Nat)->St->Prop}{v:AV}{σ:St}:Zj R v σ=(Bn (items σ v) (KR R σ)):=rfl
theorem dN{R:(List AV×Option Nat)->St->Prop}{σ:St}{xs:List AV}:TT R σ xs=(R (xs,none) σ):=rfl
theorem pI{R:(List AV×Option Nat)->St->Prop}{vs:List AV}{σ:St}:JcR R vs σ=(Bn (mL vs) (TT R σ)):=rfl
theorem XS{F:Fm->St->Prop}{fr:Fm}{σ:St}:RV F fr σ=(F fr σ):=rfl
theorem Su{x:Str}{v:AV}{F:Fm->St->Prop}{fr:Fm}{a:AV}{σ:St}:VD x v F fr a σ=(Bn (FN σ x v a) (RV F fr)):=rfl
theorem Sv{v a:AV}{F:Fm->St->Prop}{fr:Fm}{k:AV}{σ:St}:VE v a F fr k σ=(Bn (Hv σ k v a) (RV F fr)):=rfl
theorem UF{i:I}{x:Expr}{fr:Fm}{v:AV}{F:Fm->St->Prop}{a:AV}{σ:St}:ZO i x fr v F a σ=(i.ev x fr σ (VE v a F fr)):=rfl
theorem Sw{i:I}{ts:List Expr}{xs:List AV}{F:Fm->St->Prop}{fr:Fm}{σ:St}:VF i ts xs F fr σ=(i.Uh ts xs fr σ F):=rfl
theorem UG{i:I}{ts:List Expr}{fr:Fm}{σ:St}{F:Fm->St->Prop}{xs:List AV}:PD i ts fr σ F xs=(DI (decide (ts.length=xs.length)&&ts.all λt=> !Iu t) (i.Uh ts xs fr σ F)):=rfl
theorem pJ{w₀:Fm}{K:Fm->St->Prop}{w:Fm}{σ:St}:mN w₀ K w σ=(K (E0 w₀ w) σ):=rfl
theorem IF{S:AF->(Fm×St)->Prop}{σ:St}{h:Option Nat}{f:AF}{q:Fm×St}:Xh S σ h f q=(S f (q.1,G9 (D2 σ h) q.2 h)):=rfl
theorem Qek{i:I}{t:Expr}{b:List Stmt}{w:Fm}{S:AF->(Fm×St)->Prop}{r:List AV×Option Nat}{σ:St}:Xi i t b w S r σ=(MU i t b w (Xh S σ r.2) r.1 w (GA σ r.2)):=rfl
theorem pK{i:I}{b:List Stmt}{L S:AF->(Fm×St)->Prop}{w:Fm}{c:Bool}{σ:St}:WhK i b L S w c σ=(if c=true then i.Pq b w σ L else S .next (w,σ)):=rfl
theorem pL{acc:List AV}{K:Fm->List AV->St->Prop}{w:Fm}{v:AV}{σ:St}:CKe acc K w v σ=(acc.length<=Ce/\K w (acc++[v]) σ):=rfl
theorem pM{i:I}{elt:Expr}{acc:List AV}{K:Fm->List AV->St->Prop}{w:Fm}{c:Bool}{σ:St}:CKt i elt acc K w c σ=(if c=true then i.ev elt w σ (CKe acc K w)else K w acc σ):=rfl
theorem pN{i:I}{ifs:List Expr}{elt:Expr}{acc:List AV}{K:Fm->List AV->St->Prop}{w:Fm}{σ:St}:wH i ifs elt acc K w σ=(i.LD .And ifs w σ (CKt i elt acc K w)):=rfl
theorem Qas{w₀:Fm}{K:Fm->List AV->St->Prop}{w:Fm}{acc:List AV}{σ:St}:Rc w₀ K w acc σ=(K (E0 w₀ w) acc σ):=rfl
theorem dO{K:Fm->List AV->St->Prop}{σ:St}{h:Option Nat}{w:Fm}{acc:List AV}{τ:St}:mO K σ h w acc τ=(K w acc (G9 (D2 σ h) τ h)):=rfl
theorem dQ{i:I}{t:Expr}{ifs:List Expr}{elt:Expr}{acc:List AV}{K:Fm->List AV->St->Prop}{w:Fm}{r:List AV×Option Nat}{σ:St}:wI i t ifs elt acc K w r σ=(TU i t ifs elt w (mO K σ r.2) r.1 w acc (GA σ r.2)):=rfl
theorem dR{i:I}{On t':Expr}{GC:List Expr}{elt:Expr}{acc:List AV}{K:Fm->List AV->St->Prop}{w:Fm}{c:Bool}{σ:St}:wJ i On t' GC elt acc K w c σ=(if c=true then i.items On w σ (wI i t' GC elt acc K w)else K w acc σ):=rfl
theorem dU{i:I}{ifs:List Expr}{On t':Expr}{GC:List Expr}{elt:Expr}{acc:List AV}{K:Fm->List AV->St->Prop}{w:Fm}{σ:St}:mP i ifs On t' GC elt acc K w σ=(i.LD .And ifs w σ (wJ i On t' GC elt acc K w)):=rfl
theorem XT{Q:AV->St->Prop}{σ:St}{h:Option Nat}{z_:Fm}{acc:List AV}{τ:St}:GX Q σ h z_ acc τ=(acc.length<=Ce/\Q (.ref (G9 (D2 σ h) τ h).length) (G9 (D2 σ h) τ h++[.list false acc])):=rfl
theorem Sx{S:AF->(Fm×St)->Prop}{fr:Fm}{σ:St}:Bo S fr σ=(S .next (fr,σ)):=rfl
theorem Sy{S:AF->(Fm×St)->Prop}{fr:Fm}{v:AV}{σ:St}:Rr S fr v σ=(isN v (S .next (fr,σ))):=rfl
theorem Sz{S:AF->(Fm×St)->Prop}{fr:Fm}{x:Str}{σ:St}{c:Int}:Rt S fr x σ c=(S .next (Kf fr x (.int c),σ)):=rfl
theorem SA{S:AF->(Fm×St)->Prop}{fr:Fm}{x:Str}{op:Operator}{a:Int}{σ:St}{b:Int}:VG S fr x op a σ b=(Bn (cI op a b) (Rt S fr x σ)):=rfl
theorem SB{S:AF->(Fm×St)->Prop}{fr:Fm}{x:Str}{op:Operator}{a:Int}{w:AV}{σ:St}:VH S fr x op a w σ=(iG w (VG S fr x op a σ)):=rfl
theorem SC{i:I}{e:Expr}{fr:Fm}{σ:St}{S:AF->(Fm×St)->Prop}{x:Str}{op:Operator}{a:Int}:VI i e fr σ S x op a=(i.ev e fr σ (VH S fr x op a)):=rfl
theorem UH{i:I}{e:Expr}{fr:Fm}{σ:St}{S:AF->(Fm×St)->Prop}{x:Str}{op:Operator}{v:AV}:ZP i e fr σ S x op v=(iG v (VI i e fr σ S x op)):=rfl
theorem LX{σ:St}{x:Str}{k:Int}{a:AV}{S:AF->(Fm×St)->Prop}{fr:Fm}{j:Int}:LM σ x k a S fr j=(Bn (FN σ x (.int (k+j)) a) (Bo S fr)):=rfl
theorem LY{x:Str}{k:Int}{a:AV}{S:AF->(Fm×St)->Prop}{fr:Fm}{w:AV}{σ:St}:LN x k a S fr w σ=(iG w (LM σ x k a S fr)):=rfl
theorem LZ{i:I}{e:Expr}{fr:Fm}{σ:St}{x:Str}{a:AV}{S:AF->(Fm×St)->Prop}{k:Int}:LO i e fr σ x a S k=(i.ev e fr σ (LN x k a S fr)):=rfl
theorem L3{i:I}{e:Expr}{fr:Fm}{σ:St}{x:Str}{a:AV}{S:AF->(Fm×St)->Prop}{w:AV}:Jg i e fr σ x a S w=(iG w (LO i e fr σ x a S)):=rfl
theorem Nl{i:I}{x:Str}{e:Expr}{fr:Fm}{S:AF->(Fm×St)->Prop}{a:AV}{σ:St}:NK i x e fr S a σ=(Bn (H0 σ x a) (Jg i e fr σ x a S)):=rfl
theorem UI{S:AF->(Fm×St)->Prop}{fr:Fm}{v:AV}{σ:St}:VJ S fr v σ=(S (.ret v) (fr,σ)):=rfl
theorem XU{i:I}{b:List Stmt}{fr:Fm}{S:AF->(Fm×St)->Prop}{o:List Stmt}{c:Bool}{σ:St}:cJ i b fr S o c σ=(if c=true then i.Pq b fr σ S else i.Pq o fr σ S):=rfl
theorem SD{a:AV}{S:AF->(Fm×St)->Prop}{fr:Fm}{k:AV}{σ:St}:VK a S fr k σ=(Bn (LI σ k a) (Bo S fr)):=rfl
theorem UJ{i:I}{x:Expr}{fr:Fm}{S:AF->(Fm×St)->Prop}{a:AV}{σ:St}:ZQ i x fr S a σ=(i.ev x fr σ (VK a S fr)):=rfl
theorem OI{S:AF->(Fm×St)->Prop}{fr:Fm}{σ:St}{m:Str}:PE S fr σ m=(S (.exc m) (fr,σ)):=rfl
theorem QF{S:AF->(Fm×St)->Prop}{fr:Fm}{v:AV}{σ:St}:RX S fr v σ=(isS v (PE S fr σ)):=rfl
theorem SE{S:AF->(Fm×St)->Prop}{fr:Fm}{r:Res}{σ:St}:VL S fr r σ=(Res.casesOn r (λv=>S (.ret v) (fr,σ)) λw=>S (.ret (.str w)) ([],σ)):=rfl
theorem UK{C:Cl}{g:Str}{S:AF->(Fm×St)->Prop}{fr:Fm}{vs:List AV}{σ:St}:ZR C g S fr vs σ=(C g vs σ (VL S fr)):=rfl
end
noncomputable def dpS(σ:St)(ps:List (AV×AV))(o:Option (List (Str×AV))):Option (AV×St):=AH o ((Kh ps).map λl=>(.ref σ.length,σ++[.RH false (It [] l)])) λl=>some (.ref σ.length,σ++[.sd false (It [] l)])
noncomputable def rs1(o:Option AV)(x:Str)(l:Fm):Fm:=AH o l λv=>(x,v)::l
section
variable{C:Cl}{sc:Scope}{n:Nat}{fr:Fm}{σ:St}{Q:AV->St->Prop}{R:(List AV×Option Nat)->St->Prop}{T:Bool->St->Prop}{F:Fm->St->Prop}{S:AF->(Fm×St)->Prop}{U:Bool->Prop}{i:I}
theorem XW{es:List Expr}{v:AV}{b:Bool}:Ow i .And es fr σ Q v b=if b=true then i.bool .And es fr σ Q else Q v σ:=rfl
theorem XX{es:List Expr}{v:AV}{b:Bool}:Ow i .Or es fr σ Q v b=if b=true then Q v σ else i.bool .Or es fr σ Q:=rfl
theorem QdD{es:List Expr}{b:Bool}:Rq i .And es fr T b σ=if b=true then i.LD .And es fr σ T else T false σ:=rfl
theorem QdE{es:List Expr}{b:Bool}:Rq i .Or es fr T b σ=if b=true then T true σ else i.LD .Or es fr σ T:=rfl
theorem XY{args:List Expr}{e:Expr}:JcF i (some args) e fr σ R=DI (args.all I9) (i.Na args fr σ (JcR R)):=rfl
theorem XZ{e:Expr}:JcF i none e fr σ R=DI (I9 e) (i.ev e fr σ (Zj R)):=rfl
theorem pO{f:Str}{args:List Expr}:GcT i C (some .fn) f args fr σ Q=i.Na args fr σ (Hx C f Q):=rfl
theorem dX{f:Str}{args:List Expr}:GcT i C (some .cls) f args fr σ Q=i.Na args fr σ (Hx C f Q):=rfl
theorem X0{f:Str}{args:List Expr}{p:Vq}:GcT i C (some (.prim p)) f args fr σ Q=i.Na args fr σ (Ro p Q):=rfl
theorem Qat{x:Str}:Kg (some .fn) x Q σ=Q (.fn x) σ:=rfl
theorem pP{v:AV}:PV Q (.val v) σ=Q v σ:=rfl
theorem dY{x:Str}:Glob sc x Q σ=DI (decide (BJ sc.names x=some .globalImplicit)) (Kg (mQ x) x Q σ):=rfl
theorem X1{f:Str}{args:List Expr}:Xj C sc i f args fr σ Q=DI (decide (BJ sc.names f=some .globalImplicit)) (GcT i C (mQ f) f args fr σ Q):=rfl
theorem dZ(c:Const)(k:Nat)(p:Pos):(I.at C sc (n+1)).ev (.Constant c k p) fr σ Q=NH c (KV Q σ):=rfl
theorem pQ(x:Str)(p:Pos):(I.at C sc (n+1)).ev (.Name x p) fr σ Q=Nm (Dj fr x) (KV Q σ) (Glob sc x Q σ):=rfl
theorem Qau(l:Expr)(op:Operator)(r:Expr)(p:Pos):(I.at C sc (n+1)).ev (.BinOp l op r p) fr σ Q=(I.at C sc n).ev l fr σ (Vv (I.at C sc n) r fr op Q):=rfl
theorem Qav(x:Expr)(p:Pos):(I.at C sc (n+1)).ev (.UnaryOp .Not x p) fr σ Q=(I.at C sc n).ev x fr σ (ZL Q):=rfl
theorem Qaw(x:Expr)(p:Pos):(I.at C sc (n+1)).ev (.UnaryOp .USub x p) fr σ Q=(I.at C sc n).ev x fr σ (ZM Q):=rfl
theorem eD(t a b:Expr)(p:Pos):(I.at C sc (n+1)).ev (.IfExp t a b p) fr σ Q=(I.at C sc n).Po t fr σ (Ot (I.at C sc n) a fr Q b):=rfl
theorem X2(op:BoolOp)(es:List Expr)(p:Pos):(I.at C sc (n+1)).ev (.BoolOp op es p) fr σ Q=(I.at C sc n).bool op es fr σ Q:=rfl
theorem UL(l:Expr)(op:CmpOp)(r:Expr)(p:Pos):(I.at C sc (n+1)).ev (.Compare l [op] [r] p) fr σ Q=DI (I9 r) ((I.at C sc n).ev l fr σ (Ki (I.at C sc n) r fr op Q)):=rfl
theorem eE(es:List Expr)(x:Nat)(p:Pos):(I.at C sc (n+1)).ev (.Tuple es x p) fr σ Q=DI (decide (es.length<=Ce)) ((I.at C sc n).Na es fr σ (Ou Q)):=rfl
theorem pR(es:List Expr)(p:Pos):(I.at C sc (n+1)).ev (.List es p) fr σ Q=DI (decide (es.length<=Ce)) ((I.at C sc n).Na es fr σ (Ri Q)):=rfl
theorem eH(p:Pos):(I.at C sc (n+1)).ev (.Dict [] [] p) fr σ Q=Q (.ref σ.length) (σ++[.sd false []]):=rfl
theorem pS(k:Option Expr)(ks:List (Option Expr))(vs:List Expr)(p:Pos):(I.at C sc (n+1)).ev (.Dict (k::ks) vs p) fr σ Q=DI (decide (ks.length+1<=15)&&(k::ks).all (λa=>a.isSome)&&((k::ks).length==vs.length)) ((I.at C sc n).pairs (k::ks) vs fr σ (Rj Q)):=rfl
theorem eI(o:Expr)(lo hi:Option Expr)(p p2:Pos):(I.at C sc (n+1)).ev (.Subscript o (.Slice lo hi none p) p2) fr σ Q=(I.at C sc n).ev o fr σ (RP (I.at C sc n) lo fr hi Q):=rfl
theorem SH(o:Expr)(x:Str)(q:Pos)(p:Pos):(I.at C sc (n+1)).ev (.Subscript o (.Name x q) p) fr σ Q=(I.at C sc n).ev o fr σ (Kj (I.at C sc n) (.Name x q) fr Q):=rfl
theorem QG(o:Expr)(c:Const)(k:Nat)(q:Pos)(p:Pos):(I.at C sc (n+1)).ev (.Subscript o (.Constant c k q) p) fr σ Q=(I.at C sc n).ev o fr σ (Kj (I.at C sc n) (.Constant c k q) fr Q):=rfl
theorem UM(o:Expr)(a:Expr)(op:Operator)(b:Expr)(q:Pos)(p:Pos):(I.at C sc (n+1)).ev (.Subscript o (.BinOp a op b q) p) fr σ Q=(I.at C sc n).ev o fr σ (Kj (I.at C sc n) (.BinOp a op b q) fr Q):=rfl
theorem X3(o:Expr)(op:UnaryOp)(b:Expr)(q:Pos)(p:Pos):(I.at C sc (n+1)).ev (.Subscript o (.UnaryOp op b q) p) fr σ Q=(I.at C sc n).ev o fr σ (Kj (I.at C sc n) (.UnaryOp op b q) fr Q):=rfl
theorem UN(o:Expr)(a b:Expr)(q:Pos)(p:Pos):(I.at C sc (n+1)).ev (.Subscript o (.Subscript a b q) p) fr σ Q=(I.at C sc n).ev o fr σ (Kj (I.at C sc n) (.Subscript a b q) fr Q):=rfl
theorem SI(o:Expr)(a:Expr)(x:Str)(q:Pos)(p:Pos):(I.at C sc (n+1)).ev (.Subscript o (.Attribute a x q) p) fr σ Q=(I.at C sc n).ev o fr σ (Kj (I.at C sc n) (.Attribute a x q) fr Q):=rfl
theorem UO(o:Expr)(a:List Expr)(m:Nat)(q:Pos)(p:Pos):(I.at C sc (n+1)).ev (.Subscript o (.Tuple a m q) p) fr σ Q=(I.at C sc n).ev o fr σ (Kj (I.at C sc n) (.Tuple a m q) fr Q):=rfl
theorem pU(o:Expr)(x:Str)(p:Pos):(I.at C sc (n+1)).ev (.Attribute o x p) fr σ Q=DI (Dg o) ((I.at C sc n).ev o fr σ (Rl x Q)):=rfl
theorem pV(o:Expr)(m:Str)(ap:Pos)(args:List Expr)(p:Pos):(I.at C sc (n+1)).ev (.Call (.Attribute o m ap) args [] p) fr σ Q=DI (plainCall ap p args&&Dg o&&args.all I9) ((I.at C sc n).ev o fr σ (Rm (I.at C sc n) m args fr Q)):=rfl
theorem pW(f:Str)(fp:Pos)(args:List Expr)(p:Pos):(I.at C sc (n+1)).ev (.Call (.Name f fp) args [] p) fr σ Q=DI (args.all I9) (Nm (Dj fr f) (Rn (I.at C sc n) args fr σ C Q) (Xj C sc (I.at C sc n) f args fr σ Q)):=rfl
theorem pX(elt t it:Expr)(ifs:List Expr)(gs:List Comprehension)(scope:Scope)(p:Pos):(I.at C sc (n+1)).ev (.ListComp elt (⟨t,it,ifs,0⟩::gs) scope p) fr σ Q=DI (JK sc scope) ((I.at C sc n).items it fr σ (RW (I.at C scope n) t ifs gs elt (B3 fr scope.names) Q)):=rfl
theorem Qax{Q:List AV->St->Prop}:(I.at C sc (n+1)).Na [] fr σ Q=Q [] σ:=rfl
theorem pY{Q:List AV->St->Prop}(e:Expr)(es:List Expr):(I.at C sc (n+1)).Na (e::es) fr σ Q=DI (I9 e) ((I.at C sc n).ev e fr σ (Vz (I.at C sc n) es fr Q)):=rfl
theorem pZ{Q:Option Int->St->Prop}:(I.at C sc (n+1)).opt none fr σ Q=Q none σ:=rfl
theorem Qay{Q:Option Int->St->Prop}(e:Expr):(I.at C sc (n+1)).opt (some e) fr σ Q=(I.at C sc n).ev e fr σ (ZN Q):=rfl
theorem X4{Q:List (AV×AV)->St->Prop}:(I.at C sc (n+1)).pairs [] [] fr σ Q=Q [] σ:=rfl
theorem eJ{Q:List (AV×AV)->St->Prop}(k v:Expr)(ks:List (Option Expr))(vs:List Expr):(I.at C sc (n+1)).pairs (some k::ks) (v::vs) fr σ Q=(I.at C sc n).ev k fr σ (RU (I.at C sc n) v fr ks vs Q):=rfl
theorem eM(op:BoolOp)(e:Expr):(I.at C sc (n+1)).bool op [e] fr σ Q=(I.at C sc n).ev e fr σ Q:=rfl
theorem eN(op:BoolOp)(e e2:Expr)(es:List Expr):(I.at C sc (n+1)).bool op (e::e2::es) fr σ Q=(I.at C sc n).ev e fr σ (VB (I.at C sc n) op (e2::es) fr Q):=rfl
theorem Qaz(x:Expr)(p:Pos):(I.at C sc (n+1)).Po (.UnaryOp .Not x p) fr σ T=(I.at C sc n).Po x fr σ (VC T):=rfl
theorem X5(op:BoolOp)(es:List Expr)(p:Pos):(I.at C sc (n+1)).Po (.BoolOp op es p) fr σ T=(I.at C sc n).LD op es fr σ T:=rfl
theorem UP(l:Expr)(op:CmpOp)(r:Expr)(p:Pos):(I.at C sc (n+1)).Po (.Compare l [op] [r] p) fr σ T=DI (I9 r) ((I.at C sc n).ev l fr σ (NI (I.at C sc n) r fr op T)):=rfl
theorem qA(x:Str)(p:Pos):(I.at C sc (n+1)).Po (.Name x p) fr σ T=(I.at C sc n).ev (.Name x p) fr σ (NJ T):=rfl
theorem qB(f:Expr)(as:List Expr)(ks:List Keyword)(p:Pos):(I.at C sc (n+1)).Po (.Call f as ks p) fr σ T=(I.at C sc n).ev (.Call f as ks p) fr σ (NJ T):=rfl
theorem qC(o:Expr)(x:Str)(p:Pos):(I.at C sc (n+1)).Po (.Attribute o x p) fr σ T=(I.at C sc n).ev (.Attribute o x p) fr σ (NJ T):=rfl
theorem QaA(o x:Expr)(p:Pos):(I.at C sc (n+1)).Po (.Subscript o x p) fr σ T=(I.at C sc n).ev (.Subscript o x p) fr σ (NJ T):=rfl
theorem QaB(op:BoolOp):(I.at C sc (n+1)).LD op [] fr σ T=T (op== .And) σ:=rfl
theorem qD(op:BoolOp)(e:Expr)(es:List Expr):(I.at C sc (n+1)).LD op (e::es) fr σ T=(I.at C sc n).Po e fr σ (Rq (I.at C sc n) op es fr T):=rfl
theorem qE(x:Str)(q:Pos):(I.at C sc (n+1)).items (.Name x q) fr σ R=(I.at C sc n).ev (.Name x q) fr σ (Zj R):=rfl
theorem qF(o:Expr)(x:Str)(q:Pos):(I.at C sc (n+1)).items (.Attribute o x q) fr σ R=(I.at C sc n).ev (.Attribute o x q) fr σ (Zj R):=rfl
theorem QaC(o x:Expr)(q:Pos):(I.at C sc (n+1)).items (.Subscript o x q) fr σ R=(I.at C sc n).ev (.Subscript o x q) fr σ (Zj R):=rfl
theorem QaD(o:List Expr)(x:Nat)(q:Pos):(I.at C sc (n+1)).items (.Tuple o x q) fr σ R=(I.at C sc n).ev (.Tuple o x q) fr σ (Zj R):=rfl
theorem qG(o:List Expr)(q:Pos):(I.at C sc (n+1)).items (.List o q) fr σ R=(I.at C sc n).ev (.List o q) fr σ (Zj R):=rfl
theorem QaE(a:Expr)(op:Operator)(b:Expr)(q:Pos):(I.at C sc (n+1)).items (.BinOp a op b q) fr σ R=(I.at C sc n).ev (.BinOp a op b q) fr σ (Zj R):=rfl
theorem qH(f:Str)(fp:Pos)(args:List Expr)(p:Pos):(I.at C sc (n+1)).items (.Call (.Name f fp) args [] p) fr σ R=JcF (I.at C sc n) (if f="range"/\BJ sc.names f=some .globalImplicit/\Dj fr f=none then some args else none) (.Call (.Name f fp) args [] p) fr σ R:=rfl
theorem qI(x:Str)(p:Pos)(v:AV):(I.at C sc (n+1)).asg (.Name x p) v fr σ F=DI (decide (BJ sc.names x=some .local\/BJ sc.names x=some .cell)) (F (Kf fr x v) σ):=rfl
theorem qJ(o:Expr)(x:Str)(p:Pos)(v:AV):(I.at C sc (n+1)).asg (.Attribute o x p) v fr σ F=(I.at C sc n).ev o fr σ (VD x v F fr):=rfl
theorem qK(o x:Expr)(p:Pos)(v:AV):(I.at C sc (n+1)).asg (.Subscript o x p) v fr σ F=(I.at C sc n).ev o fr σ (ZO (I.at C sc n) x fr v F):=rfl
theorem QaF(ts:List Expr)(x:Nat)(p:Pos)(xs:List AV):(I.at C sc (n+1)).asg (.Tuple ts x p) (.tup xs) fr σ F=PD (I.at C sc n) ts fr σ F xs:=rfl
theorem qL(ts:List Expr)(x:Nat)(p:Pos)(r:Nat):(I.at C sc (n+1)).asg (.Tuple ts x p) (.ref r) fr σ F=mM σ r (PD (I.at C sc n) ts fr σ F):=rfl
theorem QaG:(I.at C sc (n+1)).Uh [] [] fr σ F=F fr σ:=rfl
theorem qM(t:Expr)(ts:List Expr)(x:AV)(xs:List AV):(I.at C sc (n+1)).Uh (t::ts) (x::xs) fr σ F=(I.at C sc n).asg t x fr σ (VF (I.at C sc n) ts xs F):=rfl
theorem QaH:(I.at C sc (n+1)).Pq [] fr σ S=S .next (fr,σ):=rfl
theorem qN(s:Stmt)(ss:List Stmt):(I.at C sc (n+1)).Pq (s::ss) fr σ S=(I.at C sc n).ex s fr σ (goF (I.at C sc n) ss S):=rfl
theorem qO(ss:List Stmt)(p:Fm×St):goF i ss S .next p=i.Pq ss p.1 p.2 S:=rfl
theorem qP(ss:List Stmt)(p:Fm×St):goF i ss S .cont p=S .cont p:=rfl
theorem QaI(ss:List Stmt)(v:AV)(p:Fm×St):goF i ss S (.ret v) p=S (.ret v) p:=rfl
theorem QaJ(ss:List Stmt)(v:Str)(p:Fm×St):goF i ss S (.exc v) p=S (.exc v) p:=rfl
theorem qQ(e:Expr)(p:Pos):(I.at C sc (n+1)).ex (.Expr e p) fr σ S=DI (E6 e) ((I.at C sc n).ev e fr σ (Rr S fr)):=rfl
theorem X6(t e:Expr)(p:Pos):(I.at C sc (n+1)).ex (.Assign [t] e p) fr σ S=DI (I9 e) ((I.at C sc n).ev e fr σ (LP (I.at C sc n) sc t e fr S)):=rfl
theorem QaK(t:Expr)(op:Operator)(e:Expr)(p:Pos):(I.at C sc (n+1)).ex (.AugAssign t op e p) fr σ S=Qc8 sc (I.at C sc n) t op e fr σ S:=rfl
theorem QaL(e:Expr)(p:Pos):(I.at C sc (n+1)).ex (.Return (some e) p) fr σ S=(I.at C sc n).ev e fr σ (VJ S fr):=rfl
theorem qR(p:Pos):(I.at C sc (n+1)).ex (.Return none p) fr σ S=S (.ret .none) (fr,σ):=rfl
theorem qS(p:Pos):(I.at C sc (n+1)).ex (.Continue p) fr σ S=S .cont (fr,σ):=rfl
theorem qT(p:Pos):(I.at C sc (n+1)).ex (.Pass p) fr σ S=S .next (fr,σ):=rfl
theorem QdF(t:Expr)(b o:List Stmt)(p:Pos):(I.at C sc (n+1)).ex (.If t b o p) fr σ S=(I.at C sc n).Po t fr σ (cJ (I.at C sc n) b fr S o):=rfl
theorem QaM(ts:List Expr)(p:Pos):(I.at C sc (n+1)).ex (.Delete ts p) fr σ S=Qc9 (I.at C sc n) ts fr σ S:=rfl
theorem QaN(t it:Expr)(b:List Stmt)(p:Pos):(I.at C sc (n+1)).ex (.For t it b [] p) fr σ S=(I.at C sc n).items it fr σ (Xi (I.at C sc n) t b fr S):=rfl
theorem eO(t:Expr)(b:List Stmt)(p:Pos):(I.at C sc (n+1)).ex (.While t b [] p) fr σ S=whP (I.at C sc n) t b fr S Vt fr σ:=rfl
theorem QaO(b o f:List Stmt)(h:List ExceptHandler)(p:Pos):(I.at C sc (n+1)).ex (.Try b h o f p) fr σ S=Qdb C sc (I.at C sc n) b h o f fr σ S:=rfl
theorem eP(x y:Option Expr)(p:Pos):(I.at C sc (n+1)).ex (.Raise x y p) fr σ S=Qda sc (I.at C sc n) x y fr σ S:=rfl
theorem qU(x:Str)(p:Pos)(e:Expr)(v:AV):LP i sc (.Name x p) e fr S v σ=i.asg (.Name x p) v fr σ (Bo S):=rfl
theorem qV(o:Expr)(x:Str)(p:Pos)(e:Expr)(v:AV):LP i sc (.Attribute o x p) e fr S v σ=i.asg (.Attribute o x p) v fr σ (Bo S):=rfl
theorem QaP(o x:Expr)(p:Pos)(e:Expr)(v:AV):LP i sc (.Subscript o x p) e fr S v σ=i.asg (.Subscript o x p) v fr σ (Bo S):=rfl
theorem qW(ts:List Expr)(m:Nat)(q:Pos)(o x:Expr)(p:Pos)(v:AV):LP i sc (.Tuple ts m q) (.Subscript o x p) fr S v σ=i.asg (.Tuple ts m q) v fr σ (Bo S):=rfl
theorem eQ(ts:List Expr)(m:Nat)(q:Pos)(x:Str)(p:Pos)(v:AV):LP i sc (.Tuple ts m q) (.Name x p) fr S v σ=i.asg (.Tuple ts m q) v fr σ (Bo S):=rfl
theorem eR(ts:List Expr)(m:Nat)(q:Pos)(f:Expr)(as:List Expr)(ks:List Keyword)(p:Pos)(v:AV):LP i sc (.Tuple ts m q) (.Call f as ks p) fr S v σ=i.asg (.Tuple ts m q) v fr σ (Bo S):=rfl
theorem eT(ts:List Expr)(m:Nat)(q:Pos)(o:Expr)(x:Str)(p:Pos)(v:AV):LP i sc (.Tuple ts m q) (.Attribute o x p) fr S v σ=i.asg (.Tuple ts m q) v fr σ (Bo S):=rfl
theorem QaQ(ts:List Expr)(m:Nat)(q:Pos)(e:Expr)(g:List Comprehension)(s:Scope)(p:Pos)(v:AV):LP i sc (.Tuple ts m q) (.ListComp e g s p) fr S v σ=i.asg (.Tuple ts m q) v fr σ (Bo S):=rfl
theorem QdG(ts vs:List Expr)(m m2:Nat)(q p:Pos)(v:AV):LP i sc (.Tuple ts m q) (.Tuple vs m2 p) fr S v σ=TV i sc (.Tuple ts m q) ts vs fr S v σ:=rfl
theorem QdH(P:Prop):DI true P=P:=rfl
theorem QdI(P:Prop):DI false P=False:=rfl
theorem QaR(k:Int)(P:Int->Prop):iG (.int k) P=P k:=rfl
theorem QaS(P:Prop):isN .none P=P:=rfl
theorem QaT(k:Str)(P:Str->Prop):isF (.fn k) P=P k:=rfl
theorem QaU(k:Str)(P:Str->Prop):isS (.str k) P=P k:=rfl
theorem QaV(k:List AV)(P:List AV->Prop):isT (.tup k) P=P k:=rfl
theorem eU(v:AV)(P:AV->Prop)(G:Prop):Nm (some v) P G=P v:=rfl
theorem eV(P:AV->Prop)(G:Prop):Nm none P G=G:=rfl
theorem X7{α:Type}(a:α)(P:α->Prop):Bn (some a) P=P a:=rfl
theorem QaW(a b:Int):Je σ .Eq (.int a) (.int b) U=if a=b then U true else U false:=rfl
theorem QaX(a b:Str):Je σ .Eq (.str a) (.str b) U=if a=b then U true else U false:=rfl
theorem QaY(a b:Int):Je σ .NotEq (.int a) (.int b) U=if a=b then U false else U true:=rfl
theorem QaZ(a b:Str):Je σ .NotEq (.str a) (.str b) U=if a=b then U false else U true:=rfl
theorem QdJ(a b:Int):Je σ .Lt (.int a) (.int b) U=if a<b then U true else U false:=rfl
theorem QdK(a b:Int):Je σ .Gt (.int a) (.int b) U=if b<a then U true else U false:=rfl
theorem QdL(a b:AV):Je σ .In a b U=Bn (lR σ a b) U:=rfl
theorem Qa0(a b:AV):Je σ .NotIn a b U=Bn (EC σ .NotIn a b) U:=rfl
theorem QdM(a b:AV):Je σ .Is a b U=Bn (EC σ .Is a b) U:=rfl
theorem Qa1(a b:AV):Je σ .IsNot a b U=Bn (EC σ .IsNot a b) U:=rfl
theorem Qa2(xs:List AV)(b:AV):Je σ .Eq (.tup xs) b U=Bn (EC σ .Eq (.tup xs) b) U:=rfl
theorem Qa3(b:Int):Je σ .Eq .none (.int b) U=U false:=rfl
theorem Qa4(b:Int):Je σ .NotEq .none (.int b) U=U true:=rfl
theorem Qa5(x y:Str):EC σ .Eq (.str x) (.str y)=some (x==y):=rfl
theorem Qa6(x y:Int):EC σ .Eq (.int x) (.int y)=some (x==y):=rfl
theorem Qa7(x y:Str):EC σ .NotEq (.str x) (.str y)=some (!(x==y)):=rfl
theorem Qa8(x y:Int):EC σ .NotEq (.int x) (.int y)=some (!(x==y)):=rfl
theorem QdN(x y:Int):EC σ .Lt (.int x) (.int y)=some (decide (x<y)):=rfl
theorem QdO(x y:Int):EC σ .Gt (.int x) (.int y)=some (decide (y<x)):=rfl
theorem eX(b:Bool):Nc σ (.bool b)=some b:=rfl
theorem Qa9(j:Nat)(b:AV):Je σ .Eq (.ref j) b U=Bn (EC σ .Eq (.ref j) b) U:=rfl
theorem Qba(j:Nat)(b:AV):Je σ .NotEq (.ref j) b U=Bn (EC σ .NotEq (.ref j) b) U:=rfl
theorem Qbb(xs:List AV)(b:AV):Je σ .NotEq (.tup xs) b U=Bn (EC σ .NotEq (.tup xs) b) U:=rfl
theorem eY{K:Fm->St->Prop}{q:Fm×St}:Lp K S .next q=K q.1 q.2:=rfl
theorem eZ{K:Fm->St->Prop}{q:Fm×St}:Lp K S .cont q=K q.1 q.2:=rfl
theorem qX{K:Fm->St->Prop}{v:AV}{q:Fm×St}:Lp K S (.ret v) q=S (.ret v) q:=rfl
theorem qY{K:Fm->St->Prop}{v:Str}{q:Fm×St}:Lp K S (.exc v) q=S (.exc v) q:=rfl
theorem qZ{b:List Stmt}{w:Fm}:TnK i b S w σ=i.Pq b w σ S:=rfl
theorem UQ{Q:Res->St->Prop}(v:AV)(p:Fm×St):Qm Q (.ret v) p=Q (.val v) p.2:=rfl
theorem SJ{Q:Res->St->Prop}(p:Fm×St):Qm Q .next p=Q (.val .none) p.2:=rfl
theorem UR{Q:Res->St->Prop}(w:Str)(p:Fm×St):Qm Q (.exc w) p=Q (.exc w) p.2:=rfl
theorem fA{Q:AV->Prop}:NH .none Q=Q .none:=rfl
theorem fB{Q:AV->Prop}(b:Bool):NH (.bool b) Q=Q (.bool b):=rfl
theorem q6{Q:AV->Prop}(b:Int):NH (.int b) Q=Q (.int b):=rfl
theorem q7{Q:AV->Prop}(b:Str):NH (.str b) Q=Q (.str b):=rfl
theorem US{w:Fm}:E0 [] w=[]:=rfl
theorem Gy(p:Str×AV)(r:Fm)(x:Str):Dj (p::r) x=if p.1=x then some p.2 else Dj r x:=rfl
theorem X8(x:Str):Dj [] x=none:=rfl
theorem SL(p:Str×NameKind)(r:List (Str×NameKind))(x:Str):BJ (p::r) x=if p.1=x then some p.2 else BJ r x:=rfl
theorem X9(x:Str)(v:AV):Kf [] x v=[(x,v)]:=rfl
theorem UT(p:Str×AV)(r:Fm)(x:Str)(v:AV):Kf (p::r) x v=if p.1=x then(p.1,v)::r else p::Kf r x v:=rfl
theorem Qbc(a b:Int):Gz σ .Add (.int a) (.int b)=some (.int (a+b),σ):=rfl
theorem Qbd(a b:Int):Gz σ .Sub (.int a) (.int b)=some (.int (a-b),σ):=rfl
theorem rA(a:Int):Gz σ .Mod (.int a) (.int 2)=some (.int (a.fmod 2),σ):=rfl
theorem rB(a:Int):Gz σ .Mod (.int a) (.int 3)=some (.int (a.fmod 3),σ):=rfl
theorem rC(a:Int):Gz σ .Mod (.int a) (.int 4)=some (.int (a.fmod 4),σ):=rfl
theorem rD(a:Int):Gz σ .Mod (.int a) (.int 9)=some (.int (a.fmod 9),σ):=rfl
theorem fC(a:Int):Gz σ .Mod (.int a) (.int 10)=some (.int (a.fmod 10),σ):=rfl
theorem Yb(a:Int):Gz σ .Mod (.int a) (.int 100)=some (.int (a.fmod 100),σ):=rfl
theorem rE(a:Int):Gz σ .FloorDiv (.int a) (.int 4)=some (.int (a.fdiv 4),σ):=rfl
theorem rF(a:Int):Gz σ .FloorDiv (.int a) (.int 9)=some (.int (a.fdiv 9),σ):=rfl
theorem fD(a:Int):Gz σ .FloorDiv (.int a) (.int 12)=some (.int (a.fdiv 12),σ):=rfl
theorem QdP(a b:Int):Gz σ .BitOr (.int a) (.int b)=some (.int (Nx a b),σ):=rfl
theorem Qbe(a b:Int):Gz σ .BitXor (.int a) (.int b)=some (.int (GL a b),σ):=rfl
theorem Qbf(a b:Int):Gz σ .BitAnd (.int a) (.int b)=some (.int (E8 a b),σ):=rfl
theorem rG(xs:List AV):items σ (.tup xs)=some (xs,none):=rfl
theorem Yc(b:List Int):items σ (.bytes b)=some (b.map .int,none):=rfl
theorem Ko(j:Nat):GA σ (some j)=σ.modify j (AO.El true):=rfl
theorem rH:GA σ none=σ:=rfl
theorem C2(b:Bool)(j:Nat):G9 b σ (some j)=σ.modify j (AO.El b):=rfl
theorem IG(b:Bool):G9 b σ none=σ:=rfl
theorem rI(xs:List AV)(k:Int):Jb σ (.tup xs) (.int k)=Rf xs k:=rfl
theorem rJ(a b:Int):cI .Add a b=some (a+b):=rfl
theorem rK(a b:Int):cI .Sub a b=some (a-b):=rfl
theorem Yd(v:AV)(x:Str)(l:Fm):rs1 (some v) x l=(x,v)::l:=rfl
theorem Ye(x:Str)(l:Fm):rs1 none x l=l:=rfl
theorem SM(p:Str×AV)(r w:Fm):E0 (p::r) w=rs1 (Dj w p.1) p.1 (E0 r w):=rfl
theorem fE:B3 fr []=[]:=rfl
theorem Yg(x:Str)(r:List (Str×NameKind)):B3 fr ((x,.free)::r)=rs1 (Dj fr x) x (B3 fr r):=rfl
theorem fF(x:Str)(r:List (Str×NameKind)):B3 fr ((x,.local)::r)=B3 fr r:=rfl
theorem Yh(x:Str)(r:List (Str×NameKind)):B3 fr ((x,.globalImplicit)::r)=B3 fr r:=rfl
theorem Qbg(xs:List Int)(k:Int):Jb σ (.W4 xs) (.int k)=(Rf xs k).map .int:=rfl
theorem Yi:EC σ .Is .none .none=some true:=rfl
theorem fG(xs:List AV):EC σ .Is (.tup xs) .none=some false:=rfl
theorem fH(a:Int):EC σ .Is (.int a) .none=some false:=rfl
theorem fJ(a:Str):EC σ .Is (.str a) .none=some false:=rfl
theorem fK(j:Nat):EC σ .Is (.ref j) .none=some false:=rfl
theorem UU:EC σ .IsNot .none .none=some false:=rfl
theorem Yj(xs:List AV):EC σ .IsNot (.tup xs) .none=some true:=rfl
theorem Yk(a:Int):EC σ .IsNot (.int a) .none=some true:=rfl
theorem Yl(a:Str):EC σ .IsNot (.str a) .none=some true:=rfl
theorem Ym(j:Nat):EC σ .IsNot (.ref j) .none=some true:=rfl
theorem xO{α:Type}(a:α)(r:List α):Rf (a::r) 0=some a:=rfl
theorem Qcm{α:Type}(a b:α)(r:List α):Rf (a::b::r) 1=some b:=rfl
theorem Qcn{α:Type}(a b c:α)(r:List α):Rf (a::b::c::r) 2=some c:=rfl
theorem Qco{α:Type}(a b c d:α)(r:List α):Rf (a::b::c::d::r) 3=some d:=rfl
theorem QdQ{α:Type}(a b c d e:α)(r:List α):Rf (a::b::c::d::e::r) 4=some e:=rfl
theorem QdR{α:Type}(a b c d e f:α)(r:List α):Rf (a::b::c::d::e::f::r) 5=some f:=rfl
theorem QdS{α:Type}(a b c d e f g:α)(r:List α):Rf (a::b::c::d::e::f::g::r) 6=some g:=rfl
theorem QdT(ps:List (AV×AV)):Hw σ ps=dpS σ ps (E5 ps):=rfl
theorem Yn(ps:List (AV×AV))(l:List (Str×AV)):dpS σ ps (some l)=some (.ref σ.length,σ++[.sd false (It [] l)]):=rfl
theorem UV{K:Type}[DecidableEq K] (l:List (K×AV)):It l []=l:=rfl
theorem SN{K:Type}[DecidableEq K] (l:List (K×AV))(p:K×AV)(r:List (K×AV)):It l (p::r)=It (Ib l p.1 p.2) r:=rfl
theorem Yo{K:Type}[DecidableEq K] (x:K)(v:AV):Ib [] x v=[(x,v)]:=rfl
theorem UW{K:Type}[DecidableEq K] (p:K×AV)(r:List (K×AV))(x:K)(v:AV):Ib (p::r) x v=if p.1=x then(p.1,v)::r else p::Ib r x v:=rfl
theorem fL{α β:Type}(p:α×β)(P:α->β->Prop):Ok (some p) P=P p.1 p.2:=rfl
theorem rL:E5 []=some []:=rfl
theorem fM(x:Str)(v:AV)(r:List (AV×AV)):E5 ((.str x,v)::r)=(E5 r).map ((x,v):: ·):=rfl
theorem Yp(s:Str):HN σ "split" (.str s)=some .split:=by kernel_rfl
theorem Yq(c:Const)(k:Nat)(p:Pos):I9 (.Constant c k p)=true:=rfl
theorem Yr(c:Const)(k:Nat)(p:Pos):Dg (.Constant c k p)=true:=rfl
theorem Ys(c:Const)(k:Nat)(p:Pos):E6 (.Constant c k p)=true:=rfl
theorem fN(x:Str)(p:Pos):I9 (.Name x p)=true:=rfl
theorem fO(x:Str)(p:Pos):Dg (.Name x p)=true:=rfl
theorem fP(x:Str)(p:Pos):E6 (.Name x p)=true:=rfl
theorem rM(a:Expr)(o:Operator)(b:Expr)(p:Pos):I9 (.BinOp a o b p)=true:=rfl
theorem rN(a:Expr)(o:Operator)(b:Expr)(p:Pos):Dg (.BinOp a o b p)=true:=rfl
theorem rO(a:Expr)(o:Operator)(b:Expr)(p:Pos):E6 (.BinOp a o b p)=true:=rfl
theorem Qbh(o:UnaryOp)(a:Expr)(p:Pos):I9 (.UnaryOp o a p)=true:=rfl
theorem Qbi(o:UnaryOp)(a:Expr)(p:Pos):Dg (.UnaryOp o a p)=true:=rfl
theorem Qbj(o:UnaryOp)(a:Expr)(p:Pos):E6 (.UnaryOp o a p)=true:=rfl
theorem rP(a b c:Expr)(p:Pos):I9 (.IfExp a b c p)=true:=rfl
theorem rQ(a b c:Expr)(p:Pos):Dg (.IfExp a b c p)=true:=rfl
theorem rR(a b c:Expr)(p:Pos):E6 (.IfExp a b c p)=true:=rfl
theorem Qbk(o:BoolOp)(l:List Expr)(p:Pos):I9 (.BoolOp o l p)=true:=rfl
theorem Qbl(o:BoolOp)(l:List Expr)(p:Pos):Dg (.BoolOp o l p)=true:=rfl
theorem Qbm(o:BoolOp)(l:List Expr)(p:Pos):E6 (.BoolOp o l p)=true:=rfl
theorem rS(a:Expr)(l:List CmpOp)(m:List Expr)(p:Pos):I9 (.Compare a l m p)=true:=rfl
theorem rT(a:Expr)(l:List CmpOp)(m:List Expr)(p:Pos):Dg (.Compare a l m p)=true:=rfl
theorem rU(a:Expr)(l:List CmpOp)(m:List Expr)(p:Pos):E6 (.Compare a l m p)=true:=rfl
theorem rV(l:List Expr)(k:Nat)(p:Pos):I9 (.Tuple l k p)=true:=rfl
theorem rW(l:List Expr)(k:Nat)(p:Pos):Dg (.Tuple l k p)=true:=rfl
theorem rX(l:List Expr)(k:Nat)(p:Pos):E6 (.Tuple l k p)=true:=rfl
theorem rY(l:List Expr)(p:Pos):I9 (.List l p)=true:=rfl
theorem rZ(l:List Expr)(p:Pos):Dg (.List l p)=true:=rfl
theorem r4(l:List Expr)(p:Pos):E6 (.List l p)=true:=rfl
theorem r5(a:List (Option Expr))(l:List Expr)(p:Pos):I9 (.Dict a l p)=true:=rfl
theorem r6(a:List (Option Expr))(l:List Expr)(p:Pos):Dg (.Dict a l p)=true:=rfl
theorem r7(a:List (Option Expr))(l:List Expr)(p:Pos):E6 (.Dict a l p)=true:=rfl
theorem r8(a b:Expr)(p:Pos):I9 (.Subscript a b p)=true:=rfl
theorem r9(a b:Expr)(p:Pos):Dg (.Subscript a b p)=true:=rfl
theorem sA(a b:Expr)(p:Pos):E6 (.Subscript a b p)=true:=rfl
theorem sC(a:Expr)(x:Str)(p:Pos):I9 (.Attribute a x p)=true:=rfl
theorem sD(a:Expr)(x:Str)(p:Pos):Dg (.Attribute a x p)=true:=rfl
theorem sE(a:Expr)(x:Str)(p:Pos):E6 (.Attribute a x p)=true:=rfl
theorem fQ(a:Expr)(l:List Expr)(m:List Keyword)(p:Pos):I9 (.Call a l m p)=true:=rfl
theorem fR(a:Expr)(l:List Expr)(m:List Keyword)(p:Pos):Dg (.Call a l m p)=false:=rfl
theorem fS(a:Expr)(l:List Expr)(m:List Keyword)(p:Pos):E6 (.Call a l m p)=true:=rfl
theorem Qbn(a:Expr)(l:List Comprehension)(s:Scope)(p:Pos):I9 (.ListComp a l s p)=true:=rfl
theorem Qbo(a:Expr)(l:List Comprehension)(s:Scope)(p:Pos):Dg (.ListComp a l s p)=true:=rfl
theorem Qbp(a:Expr)(l:List Comprehension)(s:Scope)(p:Pos):E6 (.ListComp a l s p)=false:=rfl
theorem fT(x:Str)(p:Pos):Iu (.Name x p)=false:=rfl
theorem sF(l:List Expr)(k:Nat)(p:Pos):Iu (.Tuple l k p)=false:=rfl
theorem sG(a b:Expr)(p:Pos):Iu (.Subscript a b p)=false:=rfl
theorem sH(a:Expr)(x:Str)(p:Pos):Iu (.Attribute a x p)=false:=rfl
end
theorem Cr{a b:String}:(Aa a=Aa b)=(a=b):=by
 refine propext ⟨λh=>?_,λh=>h▸rfl⟩;rw[K6,K6]at h;injection h with h;have h:=congrArg Array.toList h;simp only at h;have inj:∀{l m:List Char},l.map bR=m.map bR->l=m:=by
  intro l;induction l with
  |nil=>intro m h;cases m with|nil=>rfl|cons _ _=>cases h
  |cons x l ih=>
   intro m h;cases m with
   |nil=>cases h
   |cons y m=>
    rw[AW,AW]at h;obtain⟨h1,h2⟩:=DM h;rw[ih h2,Char.toNat_inj.mp h1]
 have:=inj h;exact String.toList_inj.mp this
theorem Am{α:Type}{x:Option α}{a:α}{Q:α->Prop}(e:x=some a)(h:Q a):Bn x Q:=e▸h
theorem AN{α β:Type}{x:Option (α×β)}{a:α}{b:β}{Q:α->β->Prop}(e:x=some (a,b))(h:Q a b):Ok x Q:=e▸h
theorem QeB{x:Option AV}{a:AV}{Q:AV->Prop}{G:Prop}(e:x=some a)(h:Q a):Nm x Q G:=e▸h
theorem QeC{x:Option AV}{Q:AV->Prop}{G:Prop}(e:x=none)(h:G):Nm x Q G:=e▸h
theorem Kp{c:Prop}{_:Decidable c}{A B:Prop}(e:c)(h:A):if c then A else B:=by rw[if_pos e];exact h
theorem H4{c:Prop}{_:Decidable c}{A B:Prop}(e:¬c)(h:B):if c then A else B:=by rw[if_neg e];exact h
theorem Bq{c:Prop}{_:Decidable c}{A B:Prop}(a:c->A)(b:¬c->B):if c then A else B:=by
 by_cases e:c
 .exact Kp e (a e)
 .exact H4 e (b e)
theorem QeD{α β:Type}{c:Prop}{_:Decidable c}{x:α×β}{y:Option (α×β)}{Q:α->β->Prop}(e:c)(h:Q x.1 x.2):Ok (if c then some x else y) Q:=by rw[if_pos e];exact h
abbrev Jk(G P:Prop):Prop:=(G=P)->G
theorem Qeu{G P:Prop}(e:G=P)(h:P):G:=e.mpr h
theorem QdU{k i:Nat}{x:Str}{args:List AV}{σ:St}{Q:Res->St->Prop}{d:Oo}(hx:Iv x=some i)(hd:JQ i=some d)(Gk:decide (x≠"Reading")=true)
  (h1:(d.params.length==args.length&&Di d.scope)=true) (h:(I.at (By k) d.scope 1000).Pq d.body (d.params.zip args) σ (Qm Q)):By (k+1) x args σ Q:=by
 refine Ae VM ?_;rw[if_neg (of_decide_eq_true Gk),hx];show Bn (JQ i) _;rw[hd];exact⟨h1,h⟩
theorem BG(i:Nat){k:Nat}{x:Str}{args:List AV}{σ:St}{Q:Res->St->Prop}{d:Oo}(e:(decide (Iv x=some i)&&decide (x≠"Reading")&&AH (JQ i) false λd=>d.params.length==args.length&&Di d.scope)=true)(hd:JQ i=some d)(h:(I.at (By k) d.scope 1000).Pq d.body (d.params.zip args) σ (Qm Q)):By (k+1) x args σ Q:=by
 rw[hd]at e;obtain⟨e,e3⟩:=Aq.mp e;obtain⟨e1,e2⟩:=Aq.mp e;exact QdU (of_decide_eq_true e1) hd e2 e3 h
theorem Qev:type_of%(Ab @Qao (Ab @pH (Ab @Qap (Ab @Qaq (Ab @Se (Ab @Uy (Ab @Sf (Ab @Uz (Ab @Sg (Ab @UA (Ab @Qw (Ab @LV (Ab @Nj (Ab @Qx (Ab @Sh (Ab @Si (Ab @OE (Ab @OF (Ab @Qy (Ab @Sk (Ab @UB (Ab @Sm (Ab @Qz (Ab @QA (Ab @Sn (Ab @QB (Ab @QC (Ab @So (Ab @Sp (Ab @QD (Ab @Sq (Ab @Sr (Ab @UC (Ab @OG (Ab @OH (Ab @QE (Ab @Ss (Ab @UD (Ab @LW (Ab @Nk (Ab @UE (Ab @Qar (Ab @dN (Ab @pI (Ab @XS (Ab @Su (Ab @Sv (Ab @UF (Ab @Sw (Ab @UG (Ab @pJ (Ab @IF (Ab @pK (Ab @pL (Ab @pM (Ab @pN (Ab @Qas (Ab @dO (Ab @dQ (Ab @dR (Ab @dU (Ab @XT (Ab @Sx (Ab @Sy (Ab @Sz (Ab @SA (Ab @SB (Ab @SC (Ab @UH (Ab @LX (Ab @LY (Ab @LZ (Ab @L3 (Ab @Nl (Ab @UI (Ab @XU (Ab @SD (Ab @UJ (Ab @OI (Ab @QF (Ab @SE (Ab @UK (Ab @XW (Ab @XX (Ab @QdD (Ab @QdE (Ab @XY (Ab @XZ (Ab @pO (Ab @dX (Ab @X0 (Ab @Qat (Ab @pP (Ab @dY (Ab @X1 (Ab @dZ (Ab @pQ (Ab @Qau (Ab @Qav (Ab @Qaw (Ab @eD (Ab @X2 (Ab @UL (Ab @eE (Ab @pR (Ab @eH (Ab @pS (Ab @eI (Ab @SH (Ab @QG (Ab @UM (Ab @X3 (Ab @UN (Ab @SI (Ab @UO (Ab @pU (Ab @pV (Ab @pW (Ab @pX (Ab @Qax (Ab @pY (Ab @pZ (Ab @Qay (Ab @X4 (Ab @eJ (Ab @eM (Ab @eN (Ab @Qaz (Ab @X5 (Ab @UP (Ab @qA (Ab @qB (Ab @qC (Ab @QaA (Ab @QaB (Ab @qD (Ab @qE (Ab @qF (Ab @QaC (Ab @QaD (Ab @qG (Ab @QaE (Ab @qH (Ab @qI (Ab @qJ (Ab @qK (Ab @QaF (Ab @qL (Ab @QaG (Ab @qM (Ab @QaH (Ab @qN (Ab @qO (Ab @qP (Ab @QaI (Ab @QaJ (Ab @qQ (Ab @X6 (Ab @QaK (Ab @QaL (Ab @qR (Ab @qS (Ab @qT (Ab @QdF (Ab @QaM (Ab @QaN (Ab @eO (Ab @QaO (Ab @eP (Ab @qU (Ab @qV (Ab @QaP (Ab @qW (Ab @eQ (Ab @eR (Ab @eT (Ab @QaQ (Ab @QdG (Ab @QdH (Ab @QdI (Ab @QaR (Ab @QaS (Ab @QaT (Ab @QaU (Ab @QaV (Ab @eU (Ab @eV (Ab @X7 (Ab @QaW (Ab @QaX (Ab @QaY (Ab @QaZ (Ab @QdJ (Ab @QdK (Ab @QdL (Ab @Qa0 (Ab @QdM (Ab @Qa1 (Ab @Qa2 (Ab @Qa3 (Ab @Qa4 (Ab @Qa5 (Ab @Qa6 (Ab @Qa7 (Ab @Qa8 (Ab @QdN (Ab @QdO (Ab @eX (Ab @Qa9 (Ab @Qba (Ab @Qbb (Ab @eY (Ab @eZ (Ab @qX (Ab @qY (Ab @qZ (Ab @UQ (Ab @SJ (Ab @UR (Ab @fA (Ab @fB (Ab @q6 (Ab @q7 (Ab @US (Ab @Gy (Ab @X8 (Ab @SL (Ab @X9 (Ab @UT (Ab @Qbc (Ab @Qbd (Ab @rA (Ab @rB (Ab @rC (Ab @rD (Ab @fC (Ab @Yb (Ab @rE (Ab @rF (Ab @fD (Ab @QdP (Ab @Qbe (Ab @Qbf (Ab @rG (Ab @Yc (Ab @Ko (Ab @rH (Ab @C2 (Ab @IG (Ab @rI (Ab @rJ (Ab @rK (Ab @Yd (Ab @Ye (Ab @SM (Ab @fE (Ab @Yg (Ab @fF (Ab @Yh (Ab @Qbg (Ab @Yi (Ab @fG (Ab @fH (Ab @fJ (Ab @fK (Ab @UU (Ab @Yj (Ab @Yk (Ab @Yl (Ab @Ym (Ab @xO (Ab @Qcm (Ab @Qcn (Ab @Qco (Ab @QdQ (Ab @QdR (Ab @QdS (Ab @QdT (Ab @Yn (Ab @UV (Ab @SN (Ab @Yo (Ab @UW (Ab @fL (Ab @rL (Ab @fM (Ab @Yp (Ab @Yq (Ab @Yr (Ab @Ys (Ab @fN (Ab @fO (Ab @fP (Ab @rM (Ab @rN (Ab @rO (Ab @Qbh (Ab @Qbi (Ab @Qbj (Ab @rP (Ab @rQ (Ab @rR (Ab @Qbk (Ab @Qbl (Ab @Qbm (Ab @rS (Ab @rT (Ab @rU (Ab @rV (Ab @rW (Ab @rX (Ab @rY (Ab @rZ (Ab @r4 (Ab @r5 (Ab @r6 (Ab @r7 (Ab @r8 (Ab @r9 (Ab @sA (Ab @sC (Ab @sD (Ab @sE (Ab @fQ (Ab @fR (Ab @fS (Ab @Qbn (Ab @Qbo (Ab @Qbp (Ab @fT (Ab @sF (Ab @sG (Ab @sH (Ab @Cr (Ab @ne_eq.{1} (Ab @not_false_eq_true (Ab @if_true.{1} (Ab @if_false.{1} (Ab @Bp.{0,0} (Ab @Gj.{0,0} (Ab @Pi.{0,0} (Ab @Al.{0} (Ab @Ar.{0} (Ab @true_and (Ab @and_true (Ab @true_or (Ab @or_true (Ab @Cx.{0} (Ab @and_self (Ab @false_and (Ab @and_false (Ab @or_false (Ab @false_or (Ab @AW.{0,0} (Ab @Ct.{0,0} (Ab @BO (Ab @CI (Ab @JD (Ab @TH (Ab @eq_self.{1} (Ab @FQ (Ab @Ht (Ab @Ue (Ab @CP.{0} (Ab @Pj.{0} (Ab @beq_self_eq_true.{0} (Ab @Bt.{0,0} (Ab @Dw.{0,0} (Ab @Dc.{0} (Ab @Cn.{0} (Ab @Bu.{0,0} (Ab @Fc.{0,0} (Ab @decide_true @decide_false))))))))))))))))))))))))))))))))))))))))))))))))))))))))))))))))))))))))))))))))))))))))))))))))))))))))))))))))))))))))))))))))))))))))))))))))))))))))))))))))))))))))))))))))))))))))))))))))))))))))))))))))))))))))))))))))))))))))))))))))))))))))))))))))))))))))))))))))))))))))))))))))))))))))))))))))))))))))))))))))))))))))))))))))))))))))))))))))))))))))))))))))))))):=(Ab @Qao (Ab @pH (Ab @Qap (Ab @Qaq (Ab @Se (Ab @Uy (Ab @Sf (Ab @Uz (Ab @Sg (Ab @UA (Ab @Qw (Ab @LV (Ab @Nj (Ab @Qx (Ab @Sh (Ab @Si (Ab @OE (Ab @OF (Ab @Qy (Ab @Sk (Ab @UB (Ab @Sm (Ab @Qz (Ab @QA (Ab @Sn (Ab @QB (Ab @QC (Ab @So (Ab @Sp (Ab @QD (Ab @Sq (Ab @Sr (Ab @UC (Ab @OG (Ab @OH (Ab @QE (Ab @Ss (Ab @UD (Ab @LW (Ab @Nk (Ab @UE (Ab @Qar (Ab @dN (Ab @pI (Ab @XS (Ab @Su (Ab @Sv (Ab @UF (Ab @Sw (Ab @UG (Ab @pJ (Ab @IF (Ab @pK (Ab @pL (Ab @pM (Ab @pN (Ab @Qas (Ab @dO (Ab @dQ (Ab @dR (Ab @dU (Ab @XT (Ab @Sx (Ab @Sy (Ab @Sz (Ab @SA (Ab @SB (Ab @SC (Ab @UH (Ab @LX (Ab @LY (Ab @LZ (Ab @L3 (Ab @Nl (Ab @UI (Ab @XU (Ab @SD (Ab @UJ (Ab @OI (Ab @QF (Ab @SE (Ab @UK (Ab @XW (Ab @XX (Ab @QdD (Ab @QdE (Ab @XY (Ab @XZ (Ab @pO (Ab @dX (Ab @X0 (Ab @Qat (Ab @pP (Ab @dY (Ab @X1 (Ab @dZ (Ab @pQ (Ab @Qau (Ab @Qav (Ab @Qaw (Ab @eD (Ab @X2 (Ab @UL (Ab @eE (Ab @pR (Ab @eH (Ab @pS (Ab @eI (Ab @SH (Ab @QG (Ab @UM (Ab @X3 (Ab @UN (Ab @SI (Ab @UO (Ab @pU (Ab @pV (Ab @pW (Ab @pX (Ab @Qax (Ab @pY (Ab @pZ (Ab @Qay (Ab @X4 (Ab @eJ (Ab @eM (Ab @eN (Ab @Qaz (Ab @X5 (Ab @UP (Ab @qA (Ab @qB (Ab @qC (Ab @QaA (Ab @QaB (Ab @qD (Ab @qE (Ab @qF (Ab @QaC (Ab @QaD (Ab @qG (Ab @QaE (Ab @qH (Ab @qI (Ab @qJ (Ab @qK (Ab @QaF (Ab @qL (Ab @QaG (Ab @qM (Ab @QaH (Ab @qN (Ab @qO (Ab @qP (Ab @QaI (Ab @QaJ (Ab @qQ (Ab @X6 (Ab @QaK (Ab @QaL (Ab @qR (Ab @qS (Ab @qT (Ab @QdF (Ab @QaM (Ab @QaN (Ab @eO (Ab @QaO (Ab @eP (Ab @qU (Ab @qV (Ab @QaP (Ab @qW (Ab @eQ (Ab @eR (Ab @eT (Ab @QaQ (Ab @QdG (Ab @QdH (Ab @QdI (Ab @QaR (Ab @QaS (Ab @QaT (Ab @QaU (Ab @QaV (Ab @eU (Ab @eV (Ab @X7 (Ab @QaW (Ab @QaX (Ab @QaY (Ab @QaZ (Ab @QdJ (Ab @QdK (Ab @QdL (Ab @Qa0 (Ab @QdM (Ab @Qa1 (Ab @Qa2 (Ab @Qa3 (Ab @Qa4 (Ab @Qa5 (Ab @Qa6 (Ab @Qa7 (Ab @Qa8 (Ab @QdN (Ab @QdO (Ab @eX (Ab @Qa9 (Ab @Qba (Ab @Qbb (Ab @eY (Ab @eZ (Ab @qX (Ab @qY (Ab @qZ (Ab @UQ (Ab @SJ (Ab @UR (Ab @fA (Ab @fB (Ab @q6 (Ab @q7 (Ab @US (Ab @Gy (Ab @X8 (Ab @SL (Ab @X9 (Ab @UT (Ab @Qbc (Ab @Qbd (Ab @rA (Ab @rB (Ab @rC (Ab @rD (Ab @fC (Ab @Yb (Ab @rE (Ab @rF (Ab @fD (Ab @QdP (Ab @Qbe (Ab @Qbf (Ab @rG (Ab @Yc (Ab @Ko (Ab @rH (Ab @C2 (Ab @IG (Ab @rI (Ab @rJ (Ab @rK (Ab @Yd (Ab @Ye (Ab @SM (Ab @fE (Ab @Yg (Ab @fF (Ab @Yh (Ab @Qbg (Ab @Yi (Ab @fG (Ab @fH (Ab @fJ (Ab @fK (Ab @UU (Ab @Yj (Ab @Yk (Ab @Yl (Ab @Ym (Ab @xO (Ab @Qcm (Ab @Qcn (Ab @Qco (Ab @QdQ (Ab @QdR (Ab @QdS (Ab @QdT (Ab @Yn (Ab @UV (Ab @SN (Ab @Yo (Ab @UW (Ab @fL (Ab @rL (Ab @fM (Ab @Yp (Ab @Yq (Ab @Yr (Ab @Ys (Ab @fN (Ab @fO (Ab @fP (Ab @rM (Ab @rN (Ab @rO (Ab @Qbh (Ab @Qbi (Ab @Qbj (Ab @rP (Ab @rQ (Ab @rR (Ab @Qbk (Ab @Qbl (Ab @Qbm (Ab @rS (Ab @rT (Ab @rU (Ab @rV (Ab @rW (Ab @rX (Ab @rY (Ab @rZ (Ab @r4 (Ab @r5 (Ab @r6 (Ab @r7 (Ab @r8 (Ab @r9 (Ab @sA (Ab @sC (Ab @sD (Ab @sE (Ab @fQ (Ab @fR (Ab @fS (Ab @Qbn (Ab @Qbo (Ab @Qbp (Ab @fT (Ab @sF (Ab @sG (Ab @sH (Ab @Cr (Ab @ne_eq.{1} (Ab @not_false_eq_true (Ab @if_true.{1} (Ab @if_false.{1} (Ab @Bp.{0,0} (Ab @Gj.{0,0} (Ab @Pi.{0,0} (Ab @Al.{0} (Ab @Ar.{0} (Ab @true_and (Ab @and_true (Ab @true_or (Ab @or_true (Ab @Cx.{0} (Ab @and_self (Ab @false_and (Ab @and_false (Ab @or_false (Ab @false_or (Ab @AW.{0,0} (Ab @Ct.{0,0} (Ab @BO (Ab @CI (Ab @JD (Ab @TH (Ab @eq_self.{1} (Ab @FQ (Ab @Ht (Ab @Ue (Ab @CP.{0} (Ab @Pj.{0} (Ab @beq_self_eq_true.{0} (Ab @Bt.{0,0} (Ab @Dw.{0,0} (Ab @Dc.{0} (Ab @Cn.{0} (Ab @Bu.{0,0} (Ab @Fc.{0,0} (Ab @decide_true @decide_false)))))))))))))))))))))))))))))))))))))))))))))))))))))))))))))))))))))))))))))))))))))))))))))))))))))))))))))))))))))))))))))))))))))))))))))))))))))))))))))))))))))))))))))))))))))))))))))))))))))))))))))))))))))))))))))))))))))))))))))))))))))))))))))))))))))))))))))))))))))))))))))))))))))))))))))))))))))))))))))))))))))))))))))))))))))))))))))))))))))))))))))))))))))
set_option compiler.extract_closed false in
local macro_rules | `(tactic|walk_at"e")=> `(tactic|((with_reducible refine' @((_:Jk _ _) _);rotate_left;(focus (simp only[Qev,reduceIte,F8,Ej,Nat.reduceLeDiff,reduceCtorEq,JN,Ce,plainCall,mQ,bV,gf,Qep,Qeq];try exact rfl));intro j;with_reducible refine Qeu (by kernel_rfl:type_of%j) ?_;clear j)))
local macro_rules | `(tactic|walk_at"d")=> `(tactic|first|walk_at"e"|skip)
section
set_option autoImplicit false
section
variable{i:I}{t:Expr}{b:List Stmt}{w:Fm}{σ:St}{S:AF->(Fm×St)->Prop}{h:Option Nat}
theorem sI{xs:List AV}(J:List AV->Fm->St->Prop)(h0:J xs w (GA σ h))(hs:∀v r u τ(K:Fm->St->Prop),(∀u τ,J r u τ->K u τ)->J (v::r) u τ->i.asg t v u τ (TnK i b (Lp (mN w K) (Xh S σ h))))(hf:∀u τ,J [] u τ->Xh S σ h .next (u,τ)):Xi i t b w S (xs,h) σ:=by
 show MU i t b w (Xh S σ h) xs w (GA σ h);have go:∀(xs:List AV)u τ,J xs u τ->MU i t b w (Xh S σ h) xs u τ:=λxs=>by
  induction xs with
  |nil=>exact hf
  |cons v r ih=>exactλu τ j=>hs v r u τ _ ih j
 exact go xs w _ h0
theorem DR{β:Type}{g:β->AV}{L:List β}(J:List β->Fm->St->Prop)(h0:J [] w (GA σ h))
  (hs:∀d x r u τ(K:Fm->St->Prop),(∀u τ,J (d++[x]) u τ->K u τ)->L=d++x::r->J d u τ->i.asg t (g x) u τ (TnK i b (Lp (mN w K) (Xh S σ h)))) (hf:∀u τ,J L u τ->Xh S σ h .next (u,τ)):Xi i t b w S (L.map g,h) σ:=by
 show MU i t b w (Xh S σ h) (L.map g) w (GA σ h);have go:∀(r d:List β)u τ,L=d++r->J d u τ->MU i t b w (Xh S σ h) (r.map g) u τ:=λr=>by
  induction r with
  |nil=>exactλd u τ e j=>hf u τ (by refine Ae e (Ae (A7 ..) ?_);exact j)
  |cons x r ih=>exactλd u τ e j=>hs d x r u τ _ (λu τ j=>ih (d++[x]) u τ (by refine Ae e (Ae (Ao ..) ?_);rfl) j) e j
 exact go L [] w _ rfl h0
theorem SO(n:Nat):HO 0 (n:Int)=(BZ n).map λk:Nat=>AV.int (k:Int):=by simp[HO]
theorem SP{n:Nat}{d r:List Nat}{x:Nat}(e:BZ n=d++x::r):d.length=x/\x<n:=by
 have h1:(BZ n)[d.length]? =some x:=by refine Ae e (Ae (BE (AL _)) (Ae (Fn ..) ?_));rfl
 obtain⟨h2,h3⟩:=Ak.mp h1;rw[Oc]at h3;rw[BS]at h2;exact⟨h3,h3▸h2⟩
theorem QH{n:Nat}{d r:List Nat}{x:Nat}(h:BZ n=d++x::r):d=BZ x/\x<n:=by
 obtain⟨h1,h2⟩:=SP h;have:=congrArg (P7 d.length) h;rw[List.take_range,List.take_left' rfl,CW (by exact BC 0x200002010111000212 h1 h2),h1]at this;exact⟨this.symm,h2⟩
theorem NU{m:Nat}(J:Nat->Fm->St->Prop)(h0:J 0 w σ)
  (hs:∀k u τ(K:Fm->St->Prop),(∀u τ,J (k+1) u τ->K u τ)->k<m->J k u τ->i.asg t (.int k) u τ (TnK i b (Lp (mN w K) (Xh S σ none)))) (hf:∀u τ,J m u τ->Xh S σ none .next (u,τ)):Xi i t b w S (HO 0 m,none) σ:=by
 refine Ae (SO ..) ?_;refine DR (λd u τ=>J d.length u τ) h0 (λd x r u τ K hK e j=>?_) (λu τ j=>hf u τ (by rw[BS]at j;exact j));obtain⟨e1,e2⟩:=SP e;subst e1;exact hs _ u τ K (λu τ j=>hK u τ (by refine Ae Ah ?_;exact j)) e2 j
theorem jJ{v:AV}{r:List AV}{u:Fm}{τ:St}(k:i.asg t v u τ (TnK i b (Lp (mN w (MU i t b w S r)) S))):MU i t b w S (v::r) u τ:=k
theorem sJ{v:AV}{r:List AV}(k:i.asg t v w (GA σ h) (TnK i b (Lp (mN w (MU i t b w (Xh S σ h) r)) (Xh S σ h)))):KR (Xi i t b w S) σ (v::r,h):=k
theorem Yt{u:Fm}{τ:St}(k:S .next (u,τ)):MU i t b w S [] u τ:=k
theorem Rw(J:Nat->Fm->St->Prop)(m fuel:Nat)(hm:m<fuel)(h0:J m w σ)
  (hs:∀m u τ(K:Fm->St->Prop),(∀k u τ,m=k+1->J k u τ->K u τ)->J m u τ->i.Po t u τ (WhK i b (Lp (mN w K) S) S u)):whP i t b w S fuel w σ:=by
 have go:∀fuel m u τ,m<fuel->J m u τ->whP i t b w S fuel u τ:=λfuel=>by
  induction fuel with
  |zero=>exactλm u τ hm a=>absurd hm (Q0 m)
  |succ f ih=>exactλm u τ hm j=>hs m u τ _ (λk u τ e j=>ih k u τ (by subst e;exact GN hm) j) j
 exact go fuel m w σ hm h0
variable{ifs:List Expr}{elt:Expr}{Q:AV->St->Prop}
theorem RJ{xs:List AV}(J:List AV->Fm->List AV->St->Prop)(h0:J xs w [] (GA σ h))
  (hs:∀v r u acc τ(K:Fm->List AV->St->Prop),(∀u acc τ,J r u acc τ->K u acc τ)->J (v::r) u acc τ->i.asg t v u τ (wH i ifs elt acc (Rc w K))) (hf:∀u acc τ,J [] u acc τ->GX Q σ h u acc τ):RW i t ifs [] elt w Q (xs,h) σ:=by
 show TU i t ifs elt w (GX Q σ h) xs w [] (GA σ h);have go:∀(xs:List AV)u acc τ,J xs u acc τ->TU i t ifs elt w (GX Q σ h) xs u acc τ:=λxs=>by
  induction xs with
  |nil=>exact hf
  |cons v r ih=>exactλu acc τ j=>hs v r u acc τ _ ih j
 exact go xs w [] _ h0
theorem Yu{β:Type}{g:β->AV}{L:List β}{K:Fm->List AV->St->Prop}{acc₀:List AV}{τ₀:St}{u₀:Fm}(J:List β->Fm->List AV->St->Prop)(h0:J [] u₀ acc₀ τ₀)
  (hs:∀d x r u acc τ(K:Fm->List AV->St->Prop),(∀u acc τ,J (d++[x]) u acc τ->K u acc τ)->L=d++x::r->J d u acc τ->i.asg t (g x) u τ (wH i ifs elt acc (Rc w K))) (hf:∀u acc τ,J L u acc τ->K u acc τ):TU i t ifs elt w K (L.map g) u₀ acc₀ τ₀:=by
 have go:∀(r d:List β)u acc τ,L=d++r->J d u acc τ->TU i t ifs elt w K (r.map g) u acc τ:=λr=>by
  induction r with
  |nil=>exactλd u acc τ e j=>hf u acc τ (by refine Ae e (Ae (A7 ..) ?_);exact j)
  |cons x r ih=>exactλd u acc τ e j=>hs d x r u acc τ _ (λu acc τ j=>ih (d++[x]) u acc τ (by refine Ae e (Ae (Ao ..) ?_);rfl) j) e j
 exact go L [] u₀ acc₀ τ₀ rfl h0
theorem JU{β:Type}{g:β->AV}{L:List β}(J:List β->Fm->List AV->St->Prop)(h0:J [] w [] (GA σ h))
  (hs:∀d x r u acc τ(K:Fm->List AV->St->Prop),(∀u acc τ,J (d++[x]) u acc τ->K u acc τ)->L=d++x::r->J d u acc τ->i.asg t (g x) u τ (wH i ifs elt acc (Rc w K))) (hf:∀u acc τ,J L u acc τ->GX Q σ h u acc τ):RW i t ifs [] elt w Q (L.map g,h) σ:=Yu J h0 hs hf
theorem Hz{m:Nat}(J:Nat->Fm->List AV->St->Prop)(h0:J 0 w [] σ)
  (hs:∀k u acc τ(K:Fm->List AV->St->Prop),(∀u acc τ,J (k+1) u acc τ->K u acc τ)->k<m->J k u acc τ->i.asg t (.int k) u τ (wH i ifs elt acc (Rc w K))) (hf:∀u acc τ,J m u acc τ->GX Q σ none u acc τ):RW i t ifs [] elt w Q (HO 0 m,none) σ:=by
 refine Ae (SO ..) ?_;refine JU (λd u acc τ=>J d.length u acc τ) h0 (λd x r u acc τ K hK e j=>?_) (λu acc τ j=>hf u acc τ (by rw[BS]at j;exact j));obtain⟨e1,e2⟩:=SP e;subst e1;exact hs _ u acc τ K (λu acc τ j=>hK u acc τ (by refine Ae Ah ?_;exact j)) e2 j
theorem aB{β:Type}{g:β->AV}{L:List β}{On t':Expr}{GC:List Expr}(J:List β->Fm->List AV->St->Prop)(h0:J [] w [] (GA σ h))
  (hs:∀d x r u acc τ(K:Fm->List AV->St->Prop),(∀u acc τ,J (d++[x]) u acc τ->K u acc τ)->L=d++x::r->J d u acc τ->i.asg t (g x) u τ (mP i ifs On t' GC elt acc (Rc w K))) (hf:∀u acc τ,J L u acc τ->GX Q σ h u acc τ):RW i t ifs [⟨t',On,GC,0⟩] elt w Q (L.map g,h) σ:=by
 show Ul i t ifs On t' GC elt w (GX Q σ h) (L.map g) w [] (GA σ h);have go:∀(r d:List β)u acc τ,L=d++r->J d u acc τ->Ul i t ifs On t' GC elt w (GX Q σ h) (r.map g) u acc τ:=λr=>by
  induction r with
  |nil=>exactλd u acc τ e j=>hf u acc τ (by refine Ae e (Ae (A7 ..) ?_);exact j)
  |cons x r ih=>exactλd u acc τ e j=>hs d x r u acc τ _ (λu acc τ j=>ih (d++[x]) u acc τ (by refine Ae e (Ae (Ao ..) ?_);rfl) j) e j
 exact go L [] w [] _ rfl h0
end
end
section
variable{β:Type}
noncomputable def getL:List (Str×β)->Str->Option β
 |[],_=>none
 |(y,v)::r,x=>if y=x then some v else getL r x
noncomputable def GF:List (Str×β)->Str->β->List (Str×β)
 |[],x,v=>[(x,v)]
 |(y,w)::r,x,v=>if y=x then(y,v)::r else(y,w)::GF r x v
noncomputable def MV:List (Str×β)->Str->List (Str×β)
 |[],_=>[]
 |(y,w)::r,x=>if y=x then r else(y,w)::MV r x
noncomputable def CJ(f:β->AV)(l:List (Str×β)):List (Str×AV):=l.map λp=>(p.1,f p.2)
theorem FC{x:Str}:getL ([]:List (Str×β)) x=none:=rfl
theorem Ef{y x:Str}{v:β}{r:List (Str×β)}:getL ((y,v)::r) x=if y=x then some v else getL r x:=rfl
theorem PO{x:Str}{v:β}:GF ([]:List (Str×β)) x v=[(x,v)]:=rfl
theorem PQ{y x:Str}{v w:β}{r:List (Str×β)}:GF ((y,w)::r) x v=if y=x then(y,v)::r else(y,w)::GF r x v:=rfl
theorem NV{x:Str}:MV ([]:List (Str×β)) x=[]:=rfl
theorem NW{y x:Str}{w:β}{r:List (Str×β)}:MV ((y,w)::r) x=if y=x then r else(y,w)::MV r x:=rfl
theorem B6(f:β->AV)(l:List (Str×β))(x:Str):EP (CJ f l) x=(getL l x).map f:=by
 induction l with
 |nil=>rfl
 |cons p r ih=>
  obtain⟨y,v⟩:=p;show(if y=x then some (f v)else EP (CJ f r) x)=_;refine Ae ih ?_;by_cases h:y=x<;>simp[FC,Ef,h]
theorem OJ(f:β->AV)(l:List (Str×β))(x:Str)(v:β):Ib (CJ f l) x (f v)=CJ f (GF l x v):=by
 induction l with
 |nil=>rfl
 |cons p r ih=>
  obtain⟨y,w⟩:=p;show(if y=x then(y,f v)::CJ f r else(y,f w)::Ib (CJ f r) x (f v))=_;refine Ae ih ?_;by_cases h:y=x<;>simp[PO,PQ,h,CJ]
theorem Yv(f:β->AV)(l:List (Str×β))(x:Str):Xf (CJ f l) x=CJ f (MV l x):=by
 induction l with
 |nil=>rfl
 |cons p r ih=>
  obtain⟨y,w⟩:=p;show(if y=x then CJ f r else(y,f w)::Xf (CJ f r) x)=_;refine Ae ih ?_;by_cases h:y=x<;>simp[NV,NW,h,CJ]
theorem Kq(f:β->AV)(l:List (Str×β)):(CJ f l).length=l.length:=by simp[CJ]
theorem L4(f:β->AV)(l:List (Str×β)):((CJ f l).map λp=>(AV.str p.1))=l.map λp=> .str p.1:=by simp[CJ]
theorem Im(l:List (Str×β))(x y:Str)(v:β):getL (GF l x v) y=if x=y then some v else getL l y:=by
 induction l with
 |nil=>rfl
 |cons p r ih=>
  obtain⟨z,w⟩:=p;by_cases h:z=x
  .subst h;simp only[PO,PQ,if_true,FC,Ef];by_cases h2:z=y<;>simp[h2]
  .simp only[PO,PQ,h,if_false,FC,Ef,ih];by_cases h2:z=y
   .subst h2;simp[BV h,h]
   .simp[h2]
theorem JV(l:List (Str×β))(x:Str)(v:β):(GF l x v).length<=l.length+1:=by
 induction l with
 |nil=>simp[PO,PQ]
 |cons p r ih=>
  obtain⟨z,w⟩:=p;by_cases h:z=x<;>simp[PO,PQ,h];exact ih
theorem Yw(l:List (Str×β))(x:Str):(MV l x).length<=l.length:=by
 induction l with
 |nil=>simp[NV,NW]
 |cons p r ih=>
  obtain⟨z,w⟩:=p;by_cases h:z=x<;>simp[NV,NW,h];exact ih
end
theorem sL{σ:St}{i:Nat}{o:AO}(h:σ[i]? =some o):σ.set i o=σ:=by
 apply CS;intro j;refine Ae Jv ?_;split
 .rename_i e;subst e;obtain⟨h1,h2⟩:=Ak.mp h;simp[h1,h2]
 .rfl
theorem B9{σ:St}{i:Nat}{o p:AO}(h:σ[i]? =some p):(σ.set i o)[i]? =some o:=by
 obtain⟨h1,h2⟩:=Ak.mp h;simp[h1]
theorem As{σ:St}{i j:Nat}{o:AO}(h:i≠j):(σ.set i o)[j]? =σ[j]? :=HD h
theorem AB{σ:St}{i j:Nat}{f:AO->AO}(h:i≠j):(σ.modify i f)[j]? =σ[j]? :=by simp[B4,h]
theorem C3{σ:St}{i:Nat}{f:AO->AO}{o:AO}(h:σ[i]? =some o):(σ.modify i f)[i]? =some (f o):=by simp[B4,h]
theorem BW{σ τ:St}{i:Nat}{o:AO}(h:σ[i]? =some o):(σ++τ)[i]? =some o:=by
 refine Ae (BD (Ak.mp h).1) ?_;exact h
theorem AJ{σ:St}{o:AO}:(σ++[o])[σ.length]? =some o:=by simp
theorem sM{α:Type}{xs:List α}{k:Nat}(hk:k<=1000000):Rf xs (k:Int)=xs[k]? :=by
 have:((k:Int))<=1000000:=by exact AA 0xf4240520068f42405200011 hk
 simp[Rf,this]
theorem xP{σ:St}{r:Nat}{P:List AV->Prop}{z:Bool}{xs:List AV}(h:σ[r]? =some (.list z xs))(k:P xs):mM σ r P:=by
 unfold mM TS RM;refine Ae h ?_;exact k
theorem vF{σ:St}{s t:Str}:Gz σ .Add (.str s) (.str t)=if s.length+t.length<=1000000 then some (.str (s++t),σ)else none:=rfl
theorem Qcp(σ:St)(xs ys:List AV):Gz σ .Add (.tup xs) (.tup ys)=if xs.length+ys.length<=1000000 then some (.tup (xs++ys),σ)else none:=rfl
theorem MG{α:Type}{σ:St}{j d:Nat}{z:Bool}{kvs:List (Str×AV)}{f:Nat->Bool->List (Str×AV)->Option α}(h1:σ[j]? =some (.inst d))(h2:σ[d]? =some (.sd z kvs)):Om σ (.ref j) f=f d z kvs:=by
 show RM σ j _ _ _ _=_;unfold RM;refine Ae h1 ?_;show RM σ d _ _ _ _=_;unfold RM;exact Ae h2 rfl
section
variable{α:Type}{σ:St}{j:Nat}{fl:Bool->List AV->Option α}{fd:Bool->List (Str×AV)->Option α}{fn:Bool->List (Int×AV)->Option α}{fi:Nat->Option α}{z:Bool}
theorem Cs{xs:List AV}(h:σ[j]? =some (.list z xs)):RM σ j fl fd fn fi=fl z xs:=by unfold RM;exact Ae h rfl
theorem Np{l:List (Str×AV)}(h:σ[j]? =some (.sd z l)):RM σ j fl fd fn fi=fd z l:=by unfold RM;exact Ae h rfl
theorem SQ{l:List (Int×AV)}(h:σ[j]? =some (.RH z l)):RM σ j fl fd fn fi=fn z l:=by unfold RM;exact Ae h rfl
end
theorem EQ{σ:St}{j:Nat}{o:AO}(h:σ[j]? =some o):D2 σ (some j)=o.fz:=by show(AH σ[j]? true AO.fz:Bool)=_;exact Ae h rfl
theorem Fi{σ:St}{i:Nat}{z:Bool}{xs:List AV}(h:σ[i]? =some (.list z xs)):items σ (.ref i)=some (xs,some i):=Cs h
section
variable{sc:Scope}{i:I}{t:Expr}{ts vs:List Expr}{w:Fm}{S:AF->(Fm×St)->Prop}{v:AV}{σ:St}
theorem NX(h:Lh sc ts vs=some none)(k:i.asg t v w σ (Bo S)):TV i sc t ts vs w S v σ:=by unfold TV;refine Ae (RO ..) (Ae h ?_);exact k
theorem V6{xs:List AV}(names:List Str)(h:Lh sc ts vs=some (some names))(hl:decide (names.length=xs.length)=true)(k:S .next ((names.reverse.zip xs.reverse).foldl (λf p=>Kf f p.1 p.2) w,σ)):TV i sc t ts vs w S (.tup xs) σ:=by
 unfold TV;refine Ae (RO ..) (Ae h ?_);show DI (decide (names.length=xs.length)) _;refine Ae hl ?_;exact k
end
theorem fU{σ:St}{i:Nat}{z:Bool}{xs:List (Str×AV)}(h:σ[i]? =some (.sd z xs)):items σ (.ref i)=some (xs.map (λp=> .str p.1),some i):=Np h
abbrev Kn:=List (Str×(Int×Int))
abbrev Nd:=Str×Int×Int
noncomputable def Yx(p:Int×Int):AV:= .tup [.int p.1,.int p.2]
noncomputable def lS(z:Bool)(K:Kn):AO:= .sd z (CJ Yx K)
noncomputable def FO(n:Nd):AV:= .tup [.str n.1,.int n.2.1,.int 0,.int n.2.2]
noncomputable def NY(p:Int×AV):AV:= .tup [.int p.1,p.2]
inductive Sl
 |val (e:AV) (order:Str) (size:Int)
 |half (base:Str) (at_ mask down rowAt size:Int)
noncomputable def V7(base:Str)(at_ mask down rowAt:Int):AV:= .tup [.str "half",.str base,.int at_,.int mask,.int down,.int rowAt,.int 0]
noncomputable def Yy:Sl->AV
 | .val e o s=> .tup [e,.str o,.int s]
 | .half b a m d r s=> .tup [V7 b a m d r,.str "big",.int s]
noncomputable def slO:Option Sl->AO
 |none=> .sd false []
 |some s=> .RH false [(0,Yy s)]
structure Env where
 b:Nat
 fa:Nat
 se:Nat
 Af:Str
 order:Str
 F:List (Str×AV)
structure Rs where
 at_:Int
 sl:Option Sl
 kn:Kn
 kz:Bool
 pe:List Nd
 pz:Bool
 p:Nat
 dr:List (Int×AV)
 st:List (Int×AV)
theorem nE:Nonempty Env:=⟨⟨0,0,0,Aa "",Aa "",[]⟩⟩
theorem nR:Nonempty Rs:=⟨⟨0,none,[],true,[],true,0,[],[]⟩⟩
noncomputable def OK(E:Env)(at_:Int)(p:Nat):List (Str×AV):=
 [("fields",.ref E.fa),("family",.str E.Af),("sets",.ref E.se),("order",.str E.order),("cells",.ref (E.b+2)),("at",.int at_),
  ("slots",.ref (E.b+3)),("known",.ref (E.b+4)),("pending",.ref p),("dropped",.ref (E.b+6)),("statements",.ref (E.b+7))]
structure At(E:Env)(R:Rs)(σ:St):Prop where
 a0:σ[E.b]? =some (.sd false (OK E R.at_ R.p))
 a1:σ[E.b+1]? =some (.inst E.b)
 a3:σ[E.b+3]? =some (slO R.sl)
 a4:σ[E.b+4]? =some (lS R.kz R.kn)
 a5:σ[R.p]? =some (.list R.pz (R.pe.map FO))
 a6:σ[E.b+6]? =some (.list false (R.dr.map NY))
 a7:σ[E.b+7]? =some (.list false (R.st.map NY))
 af:∃z,σ[E.fa]? =some (.sd z E.F)
 pl:R.p=E.b+5\/E.b+8<=R.p
 fl:E.fa<E.b
section
variable{E:Env}{R:Rs}{σ:St}(h:At E R σ)
include h
theorem At.attr(x:Str)(v:AV)(hx:x∈Ft)(hg:EP (OK E R.at_ R.p) x=some v):H0 σ x (.ref (E.b+1))=some v:=by
 exact(MG h.a1 h.a0).trans ((if_pos hx).trans hg)
theorem At.I7:H0 σ "fields" (.ref (E.b+1))=some (.ref E.fa):=h.attr _ _ (by decide +kernel) (by kernel_rfl)
theorem At.Zr:H0 σ "family" (.ref (E.b+1))=some (.str E.Af):=h.attr _ _ (by decide +kernel) (by kernel_rfl)
theorem At.g_sets:H0 σ "sets" (.ref (E.b+1))=some (.ref E.se):=h.attr _ _ (by decide +kernel) (by kernel_rfl)
theorem At.zW:H0 σ "order" (.ref (E.b+1))=some (.str E.order):=h.attr _ _ (by decide +kernel) (by kernel_rfl)
theorem At.vG:H0 σ "at" (.ref (E.b+1))=some (.int R.at_):=h.attr _ _ (by decide +kernel) (by kernel_rfl)
theorem At.Ee:H0 σ "slots" (.ref (E.b+1))=some (.ref (E.b+3)):=h.attr _ _ (by decide +kernel) (by kernel_rfl)
theorem At.Jy:H0 σ "known" (.ref (E.b+1))=some (.ref (E.b+4)):=h.attr _ _ (by decide +kernel) (by kernel_rfl)
theorem At.EO:H0 σ "pending" (.ref (E.b+1))=some (.ref R.p):=h.attr _ _ (by decide +kernel) (by kernel_rfl)
theorem At.lD:H0 σ "dropped" (.ref (E.b+1))=some (.ref (E.b+6)):=h.attr _ _ (by decide +kernel) (by kernel_rfl)
theorem At.K9:H0 σ "statements" (.ref (E.b+1))=some (.ref (E.b+7)):=h.attr _ _ (by decide +kernel) (by kernel_rfl)
theorem At.s_at(i:Int):FN σ "at" (.int i) (.ref (E.b+1))=some (σ.set E.b (.sd false (OK E i R.p))):=
 (MG h.a1 h.a0).trans (if_pos ⟨rfl,by decide +kernel,by show(11:Nat)<=1000;decide⟩)
theorem At.Vl(p:Nat):FN σ "pending" (.ref p) (.ref (E.b+1))=some (σ.set E.b (.sd false (OK E R.at_ p))):=
 (MG h.a1 h.a0).trans (if_pos ⟨rfl,by decide +kernel,by show(11:Nat)<=1000;decide⟩)
end
structure Cy(σ σ':St):Prop where
 len:σ.length<=σ'.length
 get:∀(i:Nat)(o:AO),σ[i]? =some o->σ'[i]? =some o
theorem Cy.rfl{σ:St}:Cy σ σ:=⟨AL _,λa a h=>h⟩
theorem Cy.trans{σ τ υ:St}(h:Cy σ τ)(k:Cy τ υ):Cy σ υ:=⟨AS h.len k.len,λi o e=>k.get i o (h.get i o e)⟩
theorem Cy.app{σ:St}(τ:St):Cy σ (σ++τ):=⟨by simp,λa a h=>BW h⟩
structure Ds(E:Env)(R:Rs)(σ:St)(R':Rs)(σ':St):Prop where
 at_:At E R' σ'
 len:σ.length<=σ'.length
 p:R'.p=R.p\/σ.length<=R'.p
 keep:∀i,(i<E.b/\i≠E.fa\/E.b+8<=i)->i≠R.p->i<σ.length->σ'[i]? =σ[i]?
theorem Ds.rfl{E:Env}{R:Rs}{σ:St}(h:At E R σ):Ds E R σ R σ:=⟨h,AL _,.inl _root_.rfl,λa a a a=>_root_.rfl⟩
theorem Ds.trans{E:Env}{R R₁ R₂:Rs}{σ σ₁ σ₂:St}(h:Ds E R σ R₁ σ₁)(k:Ds E R₁ σ₁ R₂ σ₂):Ds E R σ R₂ σ₂:=by
 refine⟨k.at_,AS h.len k.len,?_,λi hi hp hl=>?_⟩
 .rcases k.p with e|e
  .refine Ae e ?_;exact h.p
  .exact .inr (AS h.len e)
 .refine Ae (k.keep i hi (by rcases h.p with e|e<;>lia) (DW hl h.len)) ?_;exact h.keep i hi hp hl
theorem At.grow{E:Env}{R:Rs}{σ σ':St}(h:At E R σ)(g:Cy σ σ'):At E R σ':=
 ⟨g.get _ _ h.a0,g.get _ _ h.a1,g.get _ _ h.a3,g.get _ _ h.a4,g.get _ _ h.a5,g.get _ _ h.a6,g.get _ _ h.a7,h.af.imp λz e=>g.get _ _ e,h.pl,h.fl⟩
theorem Ds.grow{E:Env}{R:Rs}{σ σ':St}(h:At E R σ)(g:Cy σ σ'):Ds E R σ R σ':=by
 refine⟨h.grow g,g.len,.inl _root_.rfl,λi a a hl=>?_⟩;refine Ae (Ap hl) ?_;exact g.get _ _ (Ap hl)
section
variable{E:Env}{R:Rs}{σ:St}(h:At E R σ)
include h
theorem At.len:E.b+7<σ.length:=(Ak.mp h.a7).1
theorem At.zX:R.p<σ.length:=(Ak.mp h.a5).1
theorem Ds.zY(z:Bool)(K:Kn):Ds E R σ {R with kn:=K,kz:=z} (σ.set (E.b+4) (lS z K)):=by
 have pl:=h.pl;have fl:=h.fl;refine⟨⟨?_,?_,?_,B9 h.a4,?_,?_,?_,?_,h.pl,h.fl⟩,by simp,.inl _root_.rfl,λi hi hp hl=>As (by lia)⟩
 .refine Ae (As (AA 0x41200370)) ?_;exact h.a0
 .refine Ae (As (AA 0x11200341200370)) ?_;exact h.a1
 .refine Ae (As (AA 0x31200341200370)) ?_;exact h.a3
 .refine Ae (As (by simp only;lia)) ?_;exact h.a5
 .refine Ae (As (AA 0x61200341200330)) ?_;exact h.a6
 .refine Ae (As (AA 0x71200341200330)) ?_;exact h.a7
 .obtain⟨z,e⟩:=h.af;exact⟨z,by refine Ae (As (AQ 0x41210371000111 fl)) ?_;exact e⟩
theorem Ds.Q9(s:Sl):Ds E R σ {R with sl:=some s} (σ.set (E.b+3) (slO (some s))):=by
 have pl:=h.pl;have fl:=h.fl;refine⟨⟨?_,?_,B9 h.a3,?_,?_,?_,?_,?_,h.pl,h.fl⟩,by simp,.inl _root_.rfl,λi hi hp hl=>As (by lia)⟩
 .refine Ae (As (AA 0x31200370)) ?_;exact h.a0
 .refine Ae (As (AA 0x11200331200370)) ?_;exact h.a1
 .refine Ae (As (AA 0x41200331200330)) ?_;exact h.a4
 .refine Ae (As (by simp only;lia)) ?_;exact h.a5
 .refine Ae (As (AA 0x61200331200330)) ?_;exact h.a6
 .refine Ae (As (AA 0x71200331200330)) ?_;exact h.a7
 .obtain⟨z,e⟩:=h.af;exact⟨z,by refine Ae (As (AQ 0x31210371000111 fl)) ?_;exact e⟩
theorem Ds.s_dr(d:List (Int×AV)):Ds E R σ {R with dr:=d} (σ.set (E.b+6) (.list false (d.map NY))):=by
 have pl:=h.pl;have fl:=h.fl;refine⟨⟨?_,?_,?_,?_,?_,B9 h.a6,?_,?_,h.pl,h.fl⟩,by simp,.inl _root_.rfl,λi hi hp hl=>As (by lia)⟩
 .refine Ae (As (AA 0x61200370)) ?_;exact h.a0
 .refine Ae (As (AA 0x11200361200370)) ?_;exact h.a1
 .refine Ae (As (AA 0x31200361200370)) ?_;exact h.a3
 .refine Ae (As (AA 0x41200361200370)) ?_;exact h.a4
 .refine Ae (As (by simp only;lia)) ?_;exact h.a5
 .refine Ae (As (AA 0x71200361200330)) ?_;exact h.a7
 .obtain⟨z,e⟩:=h.af;exact⟨z,by refine Ae (As (AQ 0x61210371000111 fl)) ?_;exact e⟩
theorem Ds.s_st(d:List (Int×AV)):Ds E R σ {R with st:=d} (σ.set (E.b+7) (.list false (d.map NY))):=by
 have pl:=h.pl;have fl:=h.fl;refine⟨⟨?_,?_,?_,?_,?_,?_,B9 h.a7,?_,h.pl,h.fl⟩,by simp,.inl _root_.rfl,λi hi hp hl=>As (by lia)⟩
 .refine Ae (As (AA 0x71200370)) ?_;exact h.a0
 .refine Ae (As (AA 0x11200371200370)) ?_;exact h.a1
 .refine Ae (As (AA 0x31200371200370)) ?_;exact h.a3
 .refine Ae (As (AA 0x41200371200370)) ?_;exact h.a4
 .refine Ae (As (by simp only;lia)) ?_;exact h.a5
 .refine Ae (As (AA 0x61200371200370)) ?_;exact h.a6
 .obtain⟨z,e⟩:=h.af;exact⟨z,by refine Ae (As (AQ 0x71210371000111 fl)) ?_;exact e⟩
theorem Ds.s_pe(z:Bool)(d:List Nd):Ds E R σ {R with pe:=d,pz:=z} (σ.set R.p (.list z (d.map FO))):=by
 have pl:=h.pl;have fl:=h.fl;refine⟨⟨?_,?_,?_,?_,B9 h.a5,?_,?_,?_,h.pl,h.fl⟩,by simp,.inl _root_.rfl,λi hi hp hl=>As (by lia)⟩
 .refine Ae (As (by lia)) ?_;exact h.a0
 .refine Ae (As (by lia)) ?_;exact h.a1
 .refine Ae (As (by lia)) ?_;exact h.a3
 .refine Ae (As (by lia)) ?_;exact h.a4
 .refine Ae (As (by lia)) ?_;exact h.a6
 .refine Ae (As (by lia)) ?_;exact h.a7
 .obtain⟨z,e⟩:=h.af;exact⟨z,by refine Ae (As (by lia)) ?_;exact e⟩
theorem Ds.s_at(i:Int):Ds E R σ {R with at_:=i} (σ.set E.b (.sd false (OK E i R.p))):=by
 have pl:=h.pl;have fl:=h.fl;refine⟨⟨B9 h.a0,?_,?_,?_,?_,?_,?_,?_,h.pl,h.fl⟩,by simp,.inl _root_.rfl,λi hi hp hl=>As (by lia)⟩
 .refine Ae (As (AA 0x1120030030)) ?_;exact h.a1
 .refine Ae (As (AA 0x3120030030)) ?_;exact h.a3
 .refine Ae (As (AA 0x4120030030)) ?_;exact h.a4
 .refine Ae (As (by simp only;lia)) ?_;exact h.a5
 .refine Ae (As (AA 0x6120030030)) ?_;exact h.a6
 .refine Ae (As (AA 0x7120030030)) ?_;exact h.a7
 .obtain⟨z,e⟩:=h.af;exact⟨z,by refine Ae (As (AQ 0x1071000111 fl)) ?_;exact e⟩
theorem Ds.s_new(d:List Nd):Ds E R σ {R with pe:=d,pz:=false,p:=σ.length} ((σ++[AO.list false (d.map FO)]).set E.b (.sd false (OK E R.at_ σ.length))):=by
 have pl:=h.pl;have fl:=h.fl;have l:=h.len;have g:At E R (σ++[AO.list false (d.map FO)]):=h.grow (.app _);refine⟨⟨B9 g.a0,?_,?_,?_,?_,?_,?_,?_,.inr (by simp only;exact AQ 0x10812003010712003111 l),h.fl⟩,by simp,.inr (AL _),λi hi hp hl=>?_⟩
 .refine Ae (As (AA 0x1120030030)) ?_;exact g.a1
 .refine Ae (As (AA 0x3120030030)) ?_;exact g.a3
 .refine Ae (As (AA 0x4120030030)) ?_;exact g.a4
 .refine Ae (As (by simp only;exact AQ 0x1000310712003111 l)) ?_;exact AJ
 .refine Ae (As (AA 0x6120030030)) ?_;exact g.a6
 .refine Ae (As (AA 0x7120030030)) ?_;exact g.a7
 .obtain⟨z,e⟩:=g.af;exact⟨z,by refine Ae (As (AQ 0x1071000111 fl)) ?_;exact e⟩
 .rw[As (by lia),BD hl]
theorem Ds.f_pe(z:Bool):Ds E R σ {R with pz:=z} (σ.modify R.p (AO.El z)):=by
 have e:σ.modify R.p (AO.El z)=σ.set R.p (.list z (R.pe.map FO)):=by
  apply CS;intro j;refine Ae (B4 ..) (Ae Jv ?_);split
  .rename_i e;subst e;refine Ae h.a5 ?_;simp[h.zX,AO.El]
  .simp
 refine Ae e ?_;exact Ds.s_pe h z R.pe
theorem Ds.f_kn(z:Bool):Ds E R σ {R with kz:=z} (σ.modify (E.b+4) (AO.El z)):=by
 have l:=h.len;have e:σ.modify (E.b+4) (AO.El z)=σ.set (E.b+4) (lS z R.kn):=by
  apply CS;intro j;refine Ae (B4 ..) (Ae Jv ?_);split
  .rename_i e;subst e;refine Ae h.a4 ?_;simp[show E.b+4<σ.length by exact AQ 0x10412003110712003111 l,lS,AO.El]
  .simp
 refine Ae e ?_;exact Ds.zY h z R.kn
theorem Ds.zZ(z:Bool):Ds E R σ R (σ.modify E.fa (AO.El z)):=by
 have pl:=h.pl;have fl:=h.fl;refine⟨⟨?_,?_,?_,?_,?_,?_,?_,?_,h.pl,h.fl⟩,by simp,.inl _root_.rfl,λi hi hp hl=>AB (by lia)⟩
 .refine Ae (AB (AQ 0x100031000111 fl)) ?_;exact h.a0
 .refine Ae (AB (AQ 0x1121030031000111 fl)) ?_;exact h.a1
 .refine Ae (AB (AQ 0x3121030031000111 fl)) ?_;exact h.a3
 .refine Ae (AB (AQ 0x4121030031000111 fl)) ?_;exact h.a4
 .refine Ae (AB (by lia)) ?_;exact h.a5
 .refine Ae (AB (AQ 0x6121030031000111 fl)) ?_;exact h.a6
 .refine Ae (AB (AQ 0x7121030031000111 fl)) ?_;exact h.a7
 .obtain⟨z',e⟩:=h.af;exact⟨z,by refine Ae (C3 e) ?_;rfl⟩
end
noncomputable def Fv(K:Kn)(x:Str)(v a:Int):Kn:=match getL K x with
 |some p=>if p.1<a then GF K x (a,v)else K
 |none=>GF K x (a,v)
theorem PR{σ:St}{i:Nat}{z:Bool}{l:List (Str×AV)}(h:σ[i]? =some (.sd z l))(x:Str):lR σ (.str x) (.ref i)=some (EP l x).isSome:=Np h
theorem EU{σ:St}{i:Nat}{z:Bool}{l:List (Str×AV)}(h:σ[i]? =some (.sd z l))(x:Str):Jb σ (.ref i) (.str x)=EP l x:=Np h
theorem Kr{σ:St}{i:Nat}{z:Bool}{l:List (Str×AV)}(h:σ[i]? =some (.sd z l))(x:Str):EC σ .NotIn (.str x) (.ref i)=some (!(EP l x).isSome):=congrArg (Dd not) (PR h x)
theorem Io{σ:St}{i:Nat}{z:Bool}{l:List AV}(h:σ[i]? =some (.list z l))(k:Int):Jb σ (.ref i) (.int k)=Rf l k:=Cs h
theorem MH{σ:St}{i:Nat}{l:List (Str×AV)}(h:σ[i]? =some (.sd false l))(hl:l.length<=1000000)(x:Str)(v:AV):Hv σ (.str x) v (.ref i)=some (σ.set i (.sd false (Ib l x v))):=(Np h).trans (if_pos ⟨rfl,hl⟩)
section
variable{σ:St}{i:Nat}{z:Bool}{xs:List AV}{kvs:List (Str×AV)}{ivs:List (Int×AV)}
theorem BY(h:σ[i]? =some (.list z xs)):HN σ "append" (.ref i)=some .append:=(Cs h).trans (by kernel_rfl)
theorem jK(h:σ[i]? =some (.list z xs)):HN σ "extend" (.ref i)=some .extend:=(Cs h).trans (by kernel_rfl)
theorem UX(h:σ[i]? =some (.list z xs)):HN σ "insert" (.ref i)=some .insert:=(Cs h).trans (by kernel_rfl)
theorem V8(h:σ[i]? =some (.sd z kvs)):HN σ "get" (.ref i)=some .get:=(Np h).trans (by kernel_rfl)
theorem V9(h:σ[i]? =some (.RH z ivs)):HN σ "get" (.ref i)=some .get:=(SQ h).trans (by kernel_rfl)
theorem Cf(h:σ[i]? =some (.list false xs))(hl:xs.length<=1000000)(v:AV):Lg σ .append (.ref i) [v]=some (.none,σ.set i (.list false (xs++[v]))):=(Cs h).trans (if_pos ⟨rfl,hl⟩)
theorem UY(h:σ[i]? =some (.list false xs))(hl:xs.length<=1000000){n:Nat}(hn:n<=xs.length)(v:AV):Lg σ .insert (.ref i) [.int n,v]=some (.none,σ.set i (.list false (Lc xs n v))):=(Cs h).trans (if_pos ⟨rfl,C6 n,DE.mpr hn,hl⟩)
theorem Ic(h:σ[i]? =some (.list z xs))(hl:xs.length<=1000000):H3 σ .len [.ref i]=some (.int xs.length,σ):=(Cs h).trans (if_pos hl)
end
theorem aC:∀{k i:Nat}{x:Str}{v a:Int}{σ:St}{Q:AV->St->Prop}{K:Kn}(hi:σ[i]? =some (lS false K))(hl:K.length<=1000)(hQ:Q .none (σ.set i (lS false (Fv K x v a)))),By (k+1) "note" [.ref i,.str x,.int v,.int a] σ (PV Q):=by
 refine@(Ir nN nN A8 nI nI nL nQ nL ?_);generalize G8 .. =c;generalize c.1=k,c.2.1=i,c.2.2.1=x,c.2.2.2.1=v,c.2.2.2.2.1=a,c.2.2.2.2.2.1=σ,c.2.2.2.2.2.2.1=Q,c.2.2.2.2.2.2.2=K;intro hi hl hQ;have l':(CJ Yx K).length<=1000000:=by refine Ae (Kq ..) ?_;exact AA 0xf4240520003e83200011 hl
 have hs:=MH hi l' x (Yx (a,v));rw[OJ]at hs;refine BG 36 (by kernel_rfl) (by rfl) ?_;simp only[Fv]at hQ;cases hg:getL K x with
 |none=>
  rw[hg]at hQ;walk_at"d";refine Am ((Kr hi x).trans (by refine Ae (B6 ..) (Ae hg ?_);rfl:_=some true)) ?_;walk_at"d";refine Am hs ?_;walk_at"d";exact hQ
 |some p=>
  rw[hg]at hQ;walk_at"d";refine Am ((Kr hi x).trans (by refine Ae (B6 ..) (Ae hg ?_);rfl:_=some false)) ?_;walk_at"d";refine Am ((EU hi x).trans (by refine Ae (B6 ..) (Ae hg ?_);rfl:_=some (Yx p))) ?_;simp only[Yx];walk_at"d";refine Bq (λh=>?_) λh=>?_
  .simp only[if_pos h]at hQ;refine Am hs ?_;walk_at"d";exact hQ
  .simp only[if_neg h,sL hi]at hQ;exact hQ
noncomputable def D5(x:Str)(v:Int):AV:= .tup [.str "match",.tup [.str "field",.str x],.str "==",.tup [.str "num",.int v]]
theorem OL{k:Nat}{n:Nd}{σ:St}{Q:AV->St->Prop}(hQ:Q (D5 n.1 n.2.1) σ):By (k+1) "need_match" [FO n] σ (PV Q):=by
 refine BG 37 (by kernel_rfl) (by rfl) ?_;simp only[FO];walk_at"d";simpa[D5]using hQ
noncomputable def SR(L:List (Int×AV))(a:Int):Nat->Nat
 |0=>0
 |n+1=>match L[n]? with
  |some p=>if a<p.1 then SR L a n else n+1
  |none=>n+1
theorem QdV{L:List (Int×AV)}{a:Int}{n:Nat}{p:Int×AV}(e:L[n]? =some p):SR L a (n+1)=if a<p.1 then SR L a n else n+1:=by
 show(match L[n]? with|some p=>if a<p.1 then SR L a n else n+1|none=>n+1)=_;rw[e]
noncomputable def Es(L:List (Int×AV))(a:Int)(s:AV):List (Int×AV):=Lc L (SR L a L.length) (a,s)
theorem jL(L:List (Int×AV))(n:Nat)(p:Int×AV):(Lc L n p).map NY=Lc (L.map NY) n (NY p):=by simp[Lc]
theorem jM{α:Type}(L:List α)(n:Nat)(p:α):(Lc L n p).length=L.length+1:=by
 simp only[Lc,Ah,Bx,Al,B7];exact z3 ..
theorem NZ(L:List (Int×AV))(a:Int)(s:AV):(Es L a s).length=L.length+1:=jM _ _ _
theorem IH(L:List (Int×AV))(a:Int)(s:AV)(h:∀p∈L,p.1<=a):Es L a s=L++[(a,s)]:=by
 have:SR L a L.length=L.length:=by
  cases e:L.length with
  |zero=>rfl
  |succ n=>
   have hn:n<L.length:=by exact AQ 0x10111210300291 e
   have:=h _ (CL hn);refine Ae (QdV (Ap hn)) ?_;exact Ae (if_neg (MR 0x111d1101811 this)) rfl
 simp[Es,Lc,this]
theorem PS:∀{k i:Nat}{a:Int}{s:AV}{σ:St}{Q:AV->St->Prop}{L:List (Int×AV)}(hi:σ[i]? =some (.list false (L.map NY)))(hl:L.length<190)(hQ:Q .none (σ.set i (.list false ((Es L a s).map NY)))),By (k+1) "put_row" [.ref i,.int a,s] σ (PV Q):=by
 refine@(Hp nN nN nI W2 nL nQ nL ?_);generalize GE .. =c;generalize c.1=k,c.2.1=i,c.2.2.1=a,c.2.2.2.1=s,c.2.2.2.2.1=σ,c.2.2.2.2.2.1=Q,c.2.2.2.2.2.2=L;intro hi hl hQ;refine BG 35 (by kernel_rfl) (by rfl) ?_;walk_at"d";have hlen:H3 σ .len [.ref i]=some (.int L.length,σ):=by
  exact(Ic hi (by refine Ae (Aj ..) ?_;exact AA 0xf424052000be2200111 hl)).trans (by exact Ae (Aj ..) rfl)
 refine AN hlen ?_;walk_at"d";refine Rw (λm w σ'=>w=[(Aa "rows",.ref i),(Aa "at",.int a),(Aa "statement",s),(Aa "place",.int m)]/\σ'=σ/\SR L a m=SR L a L.length/\m<=L.length) L.length Vt (by refine Ae Rh ?_;exact AA 0xc822001be2200111 hl) ⟨rfl,rfl,rfl,AL _⟩ ?_;refine@(ZG nN nL nL nQ ?_);generalize cG .. =c;generalize c.1=m,c.2.1=w,c.2.2.1=σ',c.2.2.2=K;rintro hK ⟨rfl,rfl,h5,h6⟩;walk_at"d";have fin:SR L a m=m->σ'.set i (.list false (Lc (FW NY L) m (.tup [.int a,s])))=σ'.set i (.list false ((Es L a s).map NY)):=by
  intro e
  (rw[Es];refine CV h5 (Ae e (Ae (jL ..) ?_)));rfl
 cases m with
 |zero=>
  refine H4 (by simp) ?_;walk_at"d";refine Am (UX hi) ?_;walk_at"d";refine AN (UY hi (by refine Ae (Aj ..) ?_;exact AA 0xf424052000be2200111 hl) (by refine Ae (Aj ..) ?_;exact AA 0x200) _) ?_;walk_at"d";refine Ae (fin rfl) ?_;exact hQ
 |succ n=>
  refine Kp (by exact AA 0x11200360290) ?_;have hn:n<L.length:=by exact AQ 0x1000110112003011 h6
  have e1:Jb σ' (AV.ref i) (AV.int (((n+1:Nat):Int)-1))=some (NY L[n]):=by
   refine Ae (show(((n+1:Nat):Int)-1)=(n:Int) by exact AA 0x611211200365a0) ?_;refine Ae (Io hi ..) (Ae (sM (by exact AQ 0xf4240521000011210301be2200112 hl h6)) ?_);simp[hn]
  walk_at"d";refine Am e1 ?_;simp only[NY];walk_at"d";have e2:SR L a (n+1)=if a<L[n].1 then SR L a n else n+1:=QdV (Ap hn)
  refine Bq (λh=>?_) λh=>?_
  .rw[if_pos h]at e2;refine .inl ⟨_,_,rfl,?_⟩;walk_at"d";exact hK n _ _ rfl ⟨by exact Ae (show((n+1:Nat):Int)-1=(n:Int) by exact AA 0x611211200365a0) rfl,rfl,by refine CV e2 ?_;exact h5,by exact AQ 0x100001000111 hn⟩
  .rw[if_neg h]at e2;refine Am (UX hi) ?_;walk_at"d";refine AN (UY hi (by refine Ae (Aj ..) ?_;exact AA 0xf424052000be2200111 hl) (by refine Ae (Aj ..) ?_;exact AQ 0x1011200301000111 hn) _) ?_;walk_at"d";refine Ae (fin e2) ?_;exact hQ
noncomputable def Bc(K:Kn)(P:List Nd):Kn:=P.foldl (λK n=>Fv K n.1 n.2.1 n.2.2) K
noncomputable def Cd(L:List (Int×AV))(P:List Nd):List (Int×AV):=P.foldl (λL n=>Es L n.2.2 (D5 n.1 n.2.1)) L
theorem UZ(K:Kn)(x:Str)(v a:Int):(Fv K x v a).length<=K.length+1:=by
 simp only[Fv];split
 .split
  .exact JV _ _ _
  .exact AA 0x1120030000
 .exact JV _ _ _
theorem Ge(P:List Nd):∀K:Kn,(Bc K P).length<=K.length+P.length:=by
 induction P with
 |nil=>intro K;simp[Bc]
 |cons n r ih=>
  intro K;have h1:=UZ K n.1 n.2.1 n.2.2;have h2:=ih (Fv K n.1 n.2.1 n.2.2);simp only[Bc,Bu,Al]at h2⊢;exact Df 0x11230310320030003200111210300012 h1 h2
theorem ED(P:List Nd):∀L,(Cd L P).length=L.length+P.length:=by
 induction P with
 |nil=>intro K;simp[Cd]
 |cons n r ih=>
  intro L;have h2:=ih (Es L n.2.2 (D5 n.1 n.2.1));rw[NZ]at h2;simp only[Cd,Bu,Al]at h2⊢;exact BC 0x11220310300220112103300211 h2
theorem L5(K:Kn)(d:List Nd)(n:Nd):Bc K (d++[n])=Fv (Bc K d) n.1 n.2.1 n.2.2:=by simp[Bc]
theorem QI(L:List (Int×AV))(d:List Nd)(n:Nd):Cd L (d++[n])=Es (Cd L d) n.2.2 (D5 n.1 n.2.1):=by simp[Cd]
noncomputable def aD(R:Rs)(p:Nat):Rs:={R with kn:=Bc R.kn R.pe,st:=Cd R.st R.pe,pe:=[],pz:=false,p:=p}
theorem fV:∀{k:Nat}{E:Env}{R:Rs}{σ:St}{Q:AV->St->Prop}(h:At E R σ)(hk:R.kz=false)(hp:R.pz=false)(l1:R.kn.length+R.pe.length<=1000)(l2:R.st.length+R.pe.length<190)(hQ:∀p σ',Ds E R σ (aD R p) σ'->Q .none σ'),By (k+2) "flush" [.ref (E.b+1)] σ (PV Q):=by
 refine@(I8 nN nE nR nL nQ ?_);generalize Ke .. =c;generalize c.1=k,c.2.1=E,c.2.2.1=R,c.2.2.2.1=σ,c.2.2.2.2=Q;intro h hk hp l1 l2 hQ;refine BG 38 (by kernel_rfl) (by rfl) ?_;walk_at"d";refine Am h.EO ?_;walk_at"d";refine Am (Fi h.a5) ?_;walk_at"d";refine DR (λd w τ=>w=[(Aa "reading",.ref (E.b+1))]/\Ds E R σ {R with pz:=true,kn:=Bc R.kn d,st:=Cd R.st d} τ) ⟨rfl,Ds.f_pe h true⟩ ?_ ?_
 .refine@(Fd nL (np A8 (np nI nI)) nL nL nL nQ ?_);generalize E2 .. =c;generalize c.1=d,c.2.1=n,c.2.2.1=r,c.2.2.2.1=w,c.2.2.2.2.1=τ,c.2.2.2.2.2=K;rintro hK e ⟨rfl,h1⟩;have hd:d.length<R.pe.length:=by refine Ae e ?_;simp
  have lk:=Ge d R.kn;have ls:=ED d R.st;simp only[FO];walk_at"d";refine Am h1.at_.Jy ?_;walk_at"d";refine aC (K:=Bc R.kn d) (by have:=h1.at_.a4;simpa only[hk]using this) (Df 0x3e8323002000330011020113e83210003013 l1 hd lk) ?_;have h2:=h1.trans (Ds.zY h1.at_ false (Fv (Bc R.kn d) n.1 n.2.1 n.2.2));walk_at"d";refine Am h2.at_.K9 ?_;walk_at"d";refine OL (n:=n) ?_;walk_at"d";refine PS (L:=Cd R.st d) h2.at_.a7 (Df 0xbe22301200033021102011be2210003113 l2 hd ls) ?_;have h3:=h2.trans (Ds.s_st h2.at_ (Es (Cd R.st d) n.2.2 (D5 n.1 n.2.1)));walk_at"d";refine hK _ _ ⟨rfl,?_⟩;refine Ae (L5 ..) (Ae (QI ..) ?_);simpa only[hk]using h3
 .refine@(MT nL nL ?_);generalize Uj .. =c;generalize c.1=w,c.2=τ;rintro⟨rfl,h1⟩;have h2:=h1.trans (Ds.f_pe h1.at_ false)
  (refine Ae IF (Ae (C2 ..) (Ae (EQ h.a5) ?_));rw[AO.fz];refine Ae hp ?_)
  walk_at"d";refine Am (At.Vl (h2.at_.grow (.app _)) ..) ?_;walk_at"d";exact hQ _ _ (h2.trans (Ds.s_new h2.at_ []))
noncomputable def Yz(R:Rs)(p:Nat)(s:AV):Rs:={aD R p with st:=Es (aD R p).st R.at_ s}
theorem aE{k:Nat}{E:Env}{R:Rs}{σ:St}{Q:AV->St->Prop}{s:AV}(h:At E R σ)(hk:R.kz=false)(hp:R.pz=false)
  (l1:R.kn.length+R.pe.length<=1000) (l2:R.st.length+R.pe.length<190) (hQ:∀p σ',Ds E R σ (Yz R p s) σ'->Q .none σ'):By (k+3) "emit" [.ref (E.b+1),s] σ (PV Q):=by
 refine BG 39 (by kernel_rfl) (by rfl) ?_;walk_at"d";refine fV h hk hp l1 l2 λp σ' h1=>?_;have ls:=ED R.pe R.st;walk_at"d";refine Am h1.at_.K9 ?_;walk_at"d";refine Am h1.at_.vG ?_;walk_at"d";refine PS (L:=Cd R.st R.pe) h1.at_.a7 (BC 0xbe22201100032021be2210003112 l2 ls) ?_;walk_at"d";exact hQ p _ (h1.trans (Ds.s_st h1.at_ _))
abbrev Nn:=Str×Int
noncomputable def Eg(n:Nn):AV:= .tup [.str n.1,.int n.2]
noncomputable def II:List (Str×List Nn):=[("ether",[]),("th",[]),("vlan",[(Aa "ether type",33024)]),("arp",[(Aa "meta protocol",2054)]),("ip",[(Aa "meta nfproto",2)]),("ip6",[(Aa "meta nfproto",10)]),
 ("tcp",[(Aa "meta l4proto",6)]),("udp",[(Aa "meta l4proto",17)]),("icmp",[(Aa "meta nfproto",2),(Aa "meta l4proto",1)]),("icmpv6",[(Aa "meta nfproto",10),(Aa "meta l4proto",58)])]
noncomputable def Nq(N:List Nn):AV:= .tup (N.map Eg)
theorem aF{k:Nat}{GT:Str}{N:List Nn}{σ:St}{Q:AV->St->Prop}(hN:getL II GT=some N)(hQ:∀σ',Cy σ σ'->Q (Nq N) σ'):By (k+1) "needs_of" [.str GT] σ (PV Q):=by
 refine BG 14 (by kernel_rfl) (by rfl) ?_;walk_at"d";have hi:((σ++[AO.sd false (CJ Nq II)]:St)[σ.length]? :Option AO)=some (.sd false (CJ Nq II)):=AJ;have he:=Kr hi GT;have hg:=EU hi GT;rw[B6,hN]at he hg;have hG:Cy σ (σ++[AO.sd false (CJ Nq II)]):= .app _;simp only[CJ,II,Nq,Eg,AW,Ct,Bt]at he hg hG;refine Am he ?_;walk_at"d";refine Am hg ?_;walk_at"d";exact hQ _ hG
theorem Cy.set{σ τ:St}(h:Cy σ τ){i:Nat}(hi:σ.length<=i)(o:AO):Cy σ (τ.set i o):=⟨by simpa using h.len,λj o' e=>by have:=(Ak.mp e).1;refine Ae (As (BC 0x201070020111000012 hi this)) ?_;exact h.get j o' e⟩
theorem Wa{σ:St}{i:Nat}{z:Bool}{xs:List AV}(h:σ[i]? =some (.list z xs))(hl:xs.length<=1000000):H3 σ .tuple [.ref i]=some (.tup xs,σ):=(Cs h).trans (if_pos hl)
noncomputable def Nr(Af:Str)(n:Nn):Bool:=(Af=="ip"&&(n.1=="meta nfproto"&&n.2==2))||(Af=="ip6"&&(n.1=="meta nfproto"&&n.2==10))
noncomputable def Be(Af:Str)(N:List Nn):List Nn:=N.filter λn=> !Nr Af n
theorem SS:∀{k:Nat}{Af GT:Str}{N:List Nn}{σ:St}{Q:AV->St->Prop}(hN:getL II GT=some N)(hl:N.length<=10)(hQ:∀σ',Cy σ σ'->Q (Nq (Be Af N)) σ'),By (k+2) "needs_in" [.str Af,.str GT] σ (PV Q):=by
 refine@(Fd nN A8 A8 nL nL nQ ?_);generalize E2 .. =z;generalize z.1=k,z.2.1=Af,z.2.2.1=GT,z.2.2.2.1=N,z.2.2.2.2.1=σ,z.2.2.2.2.2=Q;intro hN hl hQ;refine BG 15 (by kernel_rfl) (by rfl) ?_;walk_at"d";refine aF hN λσ' g=>?_;simp only[Nq];walk_at"d";have sz:=λd=>Bm (λn=> !Nr Af n) d;refine DR (λd w τ=>w=[(Aa "family",.str Af),(Aa "proto",.str GT),(Aa "left",.ref σ.length)]/\Cy σ τ/\τ[σ.length]? =some (.list false ((Be Af d).map Eg))) ⟨rfl,(Cy.app _).trans g,g.get _ _ AJ⟩ ?_ ?_
 .rintro d n r w τ K hK e1 ⟨rfl,h3,h4⟩;have hd:d.length<N.length:=by refine Ae e1 ?_;simp
  have hf:=sz d;have hs:Be Af (d++[n])=Be Af d++if Nr Af n then[]else[n]:=by
   simp only[Be,De];cases h:Nr Af n<;>simp[h]
  simp only[Eg];walk_at"d";have skip:Nr Af n=true->K [(Aa "family",.str Af),(Aa "proto",.str GT),(Aa "left",.ref σ.length)] τ:=λe=>hK _ _ ⟨rfl,h3,by refine Ae hs (Ae e ?_);simpa[Eg]using h4⟩;have keep:Nr Af n=false->K [(Aa "family",.str Af),(Aa "proto",.str GT),(Aa "left",.ref σ.length)] (τ.set σ.length (.list false ((Be Af d).map Eg++[AV.tup [.str n.1,.int n.2]]))):=λe=>hK _ _ ⟨rfl,h3.set (AL _) _,by refine Ae hs (Ae e (Ae (B9 h4) ?_));simp[Eg]⟩
  repeat' (first|walk_at"e"|(refine Bq (λc=>?_) λc=>?_)|(refine Am (m_eqn ..) ?_)|(refine Am (BY h4) ?_)|(refine AN (Cf h4 (by simp only[Be,Aj];lia) _) ?_))
  all_goals first|(refine skip ?_;clear skip keep hK hQ hs h3 h4 hN e1;simp_all [Nr,Cr];done)|(refine keep ?_;clear skip keep hK hQ hs h3 h4 hN e1;simp_all [Nr,Cr];done)
 .rintro w τ ⟨rfl,h3,h4⟩;walk_at"d";refine AN (Wa h4 (by have:=sz N;simp only[Be,Aj];exact AQ 0xf424052100001001a1200012 hl this)) ?_;walk_at"d";exact hQ _ h3
theorem L6{n:Nat}(h:n<=1000000):mL [.int (n:Int)]=some (HO 0 n):=by
 exact(Vs _).trans (if_pos ⟨by exact AA 0x6f424052780,by exact AA 0xf4240520068f42405200011 h⟩)
noncomputable def EK(K:Kn)(n:Nn):Bool:=match getL K n.1 with
 |some p=>p.2==n.2
 |none=>false
noncomputable def CZ(K:Kn)(N:List Nn):List Nn:=N.filter λn=> !EK K n
theorem aG:∀{k i:Nat}{K:Kn}{z:Bool}{N:List Nn}{σ:St}{Q:AV->St->Prop}(hi:σ[i]? =some (lS z K))(hl:N.length<=10)(hQ:∀σ',Cy σ σ'->σ'[σ.length]? =some (.list false ((CZ K N).map Eg))->Q (.ref σ.length) σ'),By (k+1) "asked_of" [.ref i,Nq N] σ (PV Q):=by
 refine@(Hp nN nN nL nB nL nL nQ ?_);generalize GE .. =c;generalize c.1=k,c.2.1=i,c.2.2.1=K,c.2.2.2.1=z,c.2.2.2.2.1=N,c.2.2.2.2.2.1=σ,c.2.2.2.2.2.2=Q;intro hi hl hQ;refine BG 42 (by kernel_rfl) (by rfl) ?_;simp only[Nq];walk_at"d";refine DR (λd w τ=>w=[(Aa "known",.ref i),(Aa "needs",.tup (N.map Eg)),(Aa "asked",.ref σ.length)]/\Cy σ τ/\τ[σ.length]? =some (.list false ((CZ K d).map Eg))) ⟨rfl,.app _,AJ⟩ ?_ ?_
 .rintro d n r w τ K1 hK e ⟨rfl,h3,h4⟩;have hd:d.length<N.length:=by refine Ae e ?_;simp
  have hf:=Bm (λn=> !EK K n) d;have hs:CZ K (d++[n])=CZ K d++if EK K n then[]else[n]:=by
   simp only[CZ,De];cases h:EK K n<;>simp[h]
  have hi':=h3.get _ _ hi;have hn:=Kr hi' n.1;have hg:=EU hi' n.1;rw[B6]at hn hg;have hl4:((CZ K d).map Eg).length<=1000000:=by simp only[CZ,Aj];exact BC 0xf424052200102001001011a1200013 hl hd hf
  have keep:EK K n=false->K1 [(Aa "known",.ref i),(Aa "needs",.tup (N.map Eg)),(Aa "asked",.ref σ.length)] (τ.set σ.length (.list false ((CZ K d).map Eg++[.tup [.str n.1,.int n.2]]))):=
   λe=>hK _ _ ⟨rfl,h3.set (AL _) _,by refine Ae hs (Ae e (Ae (B9 h4) ?_));simp[Eg]⟩
  have skip:EK K n=true->K1 [(Aa "known",.ref i),(Aa "needs",.tup (N.map Eg)),(Aa "asked",.ref σ.length)] τ:=λe=>hK _ _ ⟨rfl,h3,by refine Ae hs (Ae e ?_);simpa using h4⟩;simp only[Eg];cases h:getL K n.1 with
  |none=>
   have e:EK K n=false:=by simp only[EK,h]
   rw[h]at hn;walk_at"d";refine Am hn ?_;walk_at"d";refine Am (BY h4) ?_;walk_at"d";refine AN (Cf h4 hl4 _) ?_;walk_at"d";exact keep e
  |some p=>
   rw[h]at hn hg;simp only[Bt,Yx]at hn hg;walk_at"d";refine Am hn ?_;walk_at"d";refine Am hg ?_;walk_at"d";refine Bq (λe=>?_) λe=>?_
   .exact skip (by simpa[EK,h]using e)
   .refine Am (BY h4) ?_;walk_at"d";refine AN (Cf h4 hl4 _) ?_;walk_at"d";exact keep (by simpa[EK,h]using e)
 .rintro w τ ⟨rfl,h3,h4⟩;walk_at"d";exact hQ _ h3 h4
theorem Ds.other{E:Env}{R R':Rs}{σ τ:St}(h0:At E R σ)(h:Ds E R σ R' τ){i:Nat}(hi:σ.length<=i)(hp:R'.p≠i)(o:AO):Ds E R σ R' (τ.set i o):=by
 have l:=h0.len;have fl:=h.at_.fl;have a:=h.at_;refine⟨⟨?_,?_,?_,?_,?_,?_,?_,?_,a.pl,a.fl⟩,by simpa using h.len,h.p,λj hj hp' hl=>by refine Ae (As (BC 0x201070020111000012 hi hl)) ?_;exact h.keep j hj hp' hl⟩
 .refine Ae (As (BC 0x2010700712203111000012 hi l)) ?_;exact a.a0
 .refine Ae (As (BC 0x11220310700712203111000012 hi l)) ?_;exact a.a1
 .refine Ae (As (BC 0x31220310700712203111000012 hi l)) ?_;exact a.a3
 .refine Ae (As (BC 0x41220310700712203111000012 hi l)) ?_;exact a.a4
 .refine Ae (As (by lia)) ?_;exact a.a5
 .refine Ae (As (BC 0x61220310700712203111000012 hi l)) ?_;exact a.a6
 .refine Ae (As (BC 0x71220310700712203111000012 hi l)) ?_;exact a.a7
 .obtain⟨z,e⟩:=a.af;exact⟨z,by refine Ae (As (Df 0x3010720301100712203111000013 hi l fl)) ?_;exact e⟩
theorem U0{β:Type}(l:List (Str×β))(x:Str)(h:x∉l.map Bk):getL l x=none:=by
 induction l with
 |nil=>rfl
 |cons p r ih=>
  obtain⟨y,v⟩:=p;simp only[AW,Au,not_or]at h;simp only[FC,Ef];exact Ae (if_neg (λe=>h.1 e.symm)) (Ae (ih h.2) rfl)
theorem jN{β:Type}(l:List (Str×β))(x:Str)(h:x∈l.map Bk):∃v,getL l x=some v:=by
 induction l with
 |nil=>cases h
 |cons p r ih=>
  obtain⟨y,v⟩:=p;simp only[FC,Ef];split
  .exact⟨_,rfl⟩
  .rename_i e;simp only[AW,Au]at h;exact ih (h.resolve_left (λe'=>e e'.symm))
theorem JW(K:Kn)(x y:Str)(v a:Int):getL (Fv K x v a) y=if x=y then some (match getL K x with|some p=>if p.1<a then(a,v)else p|none=>(a,v))else getL K y:=by
 simp only[Fv];cases h:getL K x with
 |none=>simp only[Im]
 |some p=>
  simp only;split
  .simp only[Im]
  .split
   .rename_i e;subst e;exact h
   .rfl
theorem jO{K L:Kn}(h:∀x,getL K x=getL L x)(x:Str)(v a:Int)(y:Str):getL (Fv K x v a) y=getL (Fv L x v a) y:=by
 exact Ae (JW ..) (Ae (JW ..) (Ae (h ..) (Ae (h ..) rfl)))
theorem jP{K L:Kn}(h:∀x,getL K x=getL L x)(n:Nn):EK K n=EK L n:=by simp only[EK,h]
theorem aH{K L:Kn}(h:∀x,getL K x=getL L x)(N:List Nn):CZ K N=CZ L N:=by simp only[CZ,jP h]
theorem Wb:∀{k:Nat}{E:Env}{R:Rs}{σ:St}{Q:AV->St->Prop}{m:Nat}(h:At E R σ)(hk:R.kz=false)(hm:m<=R.pe.length)(l1:R.kn.length+R.pe.length<=900)(hQ:∀σ' K,Ds E R σ R σ'->σ'[σ.length]? =some (lS false K)->(∀x,getL K x=getL (Bc R.kn (R.pe.take m)) x)->Q (.ref σ.length) σ'),By (k+2) "known_with" [.ref (E.b+1),.int m] σ (PV Q):=by
 refine@(Fd nN nE nR nL nQ nN ?_);generalize E2 .. =c;generalize c.1=k,c.2.1=E,c.2.2.1=R,c.2.2.2.1=σ,c.2.2.2.2.1=Q,c.2.2.2.2.2=m;intro h hk hm l1 hQ;refine BG 41 (by kernel_rfl) (by rfl) ?_;walk_at"d";have l:=h.len;have lp:=h.zX;have g:=h.grow (.app [AO.sd false []]);have s0:=Ds.grow h (.app [AO.sd false []]);have s1:=s0.trans (Ds.f_kn s0.at_ true);refine Am g.Jy ?_;walk_at"d";refine Am ((fU g.a4).trans (by exact Ae (L4 ..) rfl)) ?_;walk_at"d";refine DR (λd w τ=>w=[(Aa "reading",.ref (E.b+1)),(Aa "many",.int m),(Aa "known",.ref σ.length)]/\Ds E R σ {R with kz:=true} τ/\
  ∃acc:Kn,τ[σ.length]? =some (lS false acc)/\acc.length<=d.length/\∀x,getL acc x=if x∈d.map Bk then getL R.kn x else none) ⟨rfl,s1,[],?_,AL _,λx=>rfl⟩ ?_ ?_
 .refine Ae (Ko ..) (Ae (AB (by exact AQ 0x10412003310712003111 l)) ?_);exact AJ
 .refine@(Fd nL (np A8 (np nI nI)) nL nL nL nQ ?_);generalize E2 .. =c;generalize c.1=d,c.2.1=p,c.2.2.1=r,c.2.2.2.1=w,c.2.2.2.2.1=τ,c.2.2.2.2.2=K;rintro hK e ⟨rfl,h4,acc,h5,h6,h7⟩;have hd:d.length<R.kn.length:=by refine Ae e ?_;simp
  have Ra:p.1∈R.kn.map Bk:=by refine Ae e ?_;simp
  obtain⟨v,hv⟩:=jN _ _ Ra;have l':(CJ Yx acc).length<=1000000:=by refine Ae (Kq ..) ?_;exact Df 0xf4240522000030113020013843210003013 l1 h6 hd
  have hg:=EU h4.at_.a4 p.1;have hs:=MH h5 l' p.1 (Yx v);rw[B6]at hg;simp only at hg;rw[hv,Bt]at hg;rw[OJ]at hs;walk_at"d";refine Am h4.at_.Jy ?_;walk_at"d";refine Am hg ?_;walk_at"d";refine Am hs ?_;walk_at"d";refine hK _ _ ⟨rfl,Ds.other h h4 (AL _) (by simp only;exact AQ 0x100031000111 lp) _,GF acc p.1 v,B9 h5,by have:=JV acc p.1 v;simp only[Ah,Al,Ar];exact BC 0x11202310320011200320011000012 h6 this,λx=>?_⟩;refine Ae (Im ..) (Ae (h7 ..) ?_);by_cases e:p.1=x
  .subst e;simp[hv]
  .simp only[e,if_false,Bg,AW,Ct,An,Ai,BV e,or_false]
 .refine@(MT nL nL ?_);generalize Uj .. =c;generalize c.1=w,c.2=τ;rintro⟨rfl,h4,acc,h5,h6,h7⟩;have e2:∀x,getL acc x=getL R.kn x:=λx=>by
   refine Ae (h7 ..) ?_;split
   .rfl
   .rename_i e;exact(U0 _ _ e).symm
  have h8:=h4.trans (Ds.f_kn h4.at_ false);have h9:(τ.modify (E.b+4) (AO.El false))[σ.length]? =some (lS false acc):=by refine Ae (AB (by exact AQ 0x10412003310712003111 l)) ?_;exact h5
  (refine Ae IF (Ae (C2 ..) (Ae (EQ g.a4) ?_));rw[lS,AO.fz];refine Ae hk ?_)
  walk_at"d";refine Am (L6 (show m<=1000000 by exact BC 0xf4240520003843210203011000012 hm l1)) ?_;walk_at"d";refine NU (λm' w τ=>w=[(Aa "reading",.ref (E.b+1)),(Aa "many",.int m),(Aa "known",.ref σ.length)]/\Ds E R σ R τ/\
   ∃acc:Kn,τ[σ.length]? =some (lS false acc)/\acc.length<=R.kn.length+m'/\∀x,getL acc x=getL (Bc R.kn (R.pe.take m')) x)
   ⟨rfl,(show({R with kz:=false}:Rs)=R from by cases R;cases hk;rfl)▸h8,acc,h9,h6,λx=>by refine Ae (e2 ..) ?_;rfl⟩ ?_ ?_
  .refine@(ZG nN nL nL nQ ?_);generalize cG .. =c;generalize c.1=m',c.2.1=w,c.2.2.1=τ,c.2.2.2=K;rintro hK hm' ⟨rfl,h4,acc,h5,h6,h7⟩;have hp:m'<R.pe.length:=by exact BC 0x102010020111000012 hm hm'
   have ei:Jb τ (.ref R.p) (.int m')=some (FO R.pe[m']):=by
    refine Ae (Io h4.at_.a5 ..) (Ae (sM (by exact BC 0xf4240522001020113843210003012 l1 hp)) ?_);simp[hp]
   walk_at"d";refine Am h4.at_.EO ?_;walk_at"d";refine Am ei ?_;simp only[FO];walk_at"d";refine aC (K:=acc) h5 (by exact Df 0x3e8322001030113000320013843210003013 l1 h6 hp) ?_;walk_at"d";refine hK _ _ ⟨rfl,Ds.other h h4 (AL _) (by exact AQ 0x100031000111 lp) _,_,B9 h5,?_,λx=>?_⟩
   .have:=UZ acc R.pe[m'].1 R.pe[m'].2.1 R.pe[m'].2.2;exact Df 0x11220310330011200330012010300012 h6 this
   .refine Ae EY (Ae (Ap hp) (Ae (Option.toList_some ..) (Ae (L5 ..) ?_)));exact jO h7 _ _ _ _
  .refine@(MT nL nL ?_);generalize Uj .. =c;generalize c.1=w,c.2=τ;rintro⟨rfl,h4,acc,h5,h6,h7⟩;walk_at"d";exact hQ _ _ h4 h5 h7
noncomputable def HQ:List Nn->Int->List Nd
 |[],_=>[]
 |n::r,f=>(n.1,n.2,f)::HQ r (f+2)
theorem MW{f:Int}:HQ [] f=[]:=rfl
theorem MX{n:Nn}{r:List Nn}{f:Int}:HQ (n::r) f=(n.1,n.2,f)::HQ r (f+2):=rfl
noncomputable def BF(A:List Nn)(a:Int):List Nd:=HQ A (a+1-2*A.length)
theorem DS(A:List Nn)(f:Int):(HQ A f).length=A.length:=by
 induction A generalizing f with
 |nil=>rfl
 |cons n r ih=>simp[MW,MX,ih]
theorem sN(A:List Nn)(f:Int)(i:Nat)(h:i<A.length):(HQ A f)[i]? =some (A[i].1,A[i].2,f+2*i):=by
 induction A generalizing f i with
 |nil=>cases h
 |cons n r ih=>
  cases i with
  |zero=>simp[MW,MX]
  |succ i=>
   simp only[MW,MX,List.getElem?_cons_succ,List.getElem_cons_succ];refine Ae (ih _ _ (by simpa using h)) ?_;simp only[Cx,FX,true_and];exact E3 0x1120036212401300621242120133a0
noncomputable def Jj(f:Nat->Bool):Nat->Nat->Option Nat
 |0,_=>none
 |n+1,s=>if f s then some s else Jj f n (s+1)
theorem QdW{f:Nat->Bool}{s:Nat}:Jj f 0 s=none:=rfl
theorem aI{f:Nat->Bool}{n s:Nat}:Jj f (n+1) s=if f s then some s else Jj f n (s+1):=rfl
noncomputable def Ks(K:Kn)(P:List Nd)(N:List Nn)(a:Int)(s:Nat):Bool:=decide (BF (CZ (Bc K (P.take s)) N) a=P.drop s)
noncomputable def splitAt(K:Kn)(P:List Nd)(N:List Nn)(a:Int):Option Nat:=Jj (Ks K P N a) (P.length+1) 0
noncomputable def fX:Option Nat->AV
 |some s=> .int s
 |none=> .none
theorem Qcq(σ:St)(n:Nat)(a b:Nd):Pw σ (n+2) (FO a) (FO b)=some (decide (a=b)):=by
 obtain⟨a1,a2,a3⟩:=a;obtain⟨b1,b2,b3⟩:=b;show some (a1==b1&&(a2==b2&&((0:Int)==0&&(a3==b3&&true))))=_;congr 1;refine(CX).mpr ?_;simp[FX]
theorem xQ(σ:St)(n:Nat)(A B:List Nd):Py (Pw σ (n+2)) (A.map FO) (B.map FO)=some (decide (A=B)):=by
 induction A generalizing B with
 |nil=>cases B<;>rfl
 |cons a r ih=>cases B with
  |nil=>rfl
  |cons b s=>
   show(Pw σ (n+2) (FO a) (FO b)).bind (λp=>(Py (Pw σ (n+2)) (r.map FO) (s.map FO)).map λq=>p&&q)=_;refine Ae (Qcq ..) (Ae (ih ..) ?_);show some _=_;simp[F9]
theorem QdX{σ:St}{i j:Nat}{z w:Bool}{A B:List Nd}(h:σ[i]? =some (.list z (A.map FO)))(k:σ[j]? =some (.list w (B.map FO))):EC σ .Eq (.ref i) (.ref j)=some (decide (A=B)):=
 (Cs h).trans ((Cs k).trans (xQ σ 17 A B))
theorem OM{i:Int}{n:Nat}(h:i.natAbs<2^n)(hn:n<=2000000):fits i=true:=by
 simp only[fits,Bw];apply decide_eq_true;split
 .exact B8 0x200000620200
 .rename_i e;have:i.natAbs≠0:=λx=>e (by simp;lia);have:=(Zi this).mpr h;exact AQ 0x2000006211210300010111e84806200012 hn this
theorem Ci{i:Int}(h: -1000000<=i)(h':i<=1000000):fits i=true:=OM (n:=20) (z13 h h') (B8 0x1e848062142200)
theorem sO{α:Type}(xs:List α)(m:Nat):Zl xs (some (m:Int)) none=some (xs.drop m):=(if_pos (C6 m):(if 0<=(m:Int)then some (xs.drop (m:Int).toNat)else none)=_)
theorem sP{α:Type}(xs:List α)(m:Nat):Zl xs none (some (m:Int))=some (xs.take m):=(if_pos (C6 m):(if 0<=(m:Int)then some (xs.take (m:Int).toNat)else none)=_)
theorem SU{σ:St}{i:Nat}{z:Bool}{xs:List AV}(h:σ[i]? =some (.list z xs))(hl:xs.length<=1000000)(m:Nat):LH σ (.ref i) (some (m:Int)) none=some (.ref σ.length,σ++[.list false (xs.drop m)]):=
 (Cs h).trans ((if_pos hl).trans (congrArg (Dd _) (sO xs m)))
theorem L7{σ:St}{i:Nat}{z:Bool}{xs:List AV}(h:σ[i]? =some (.list z xs))(hl:xs.length<=1000000)(m:Nat):LH σ (.ref i) none (some (m:Int))=some (.ref σ.length,σ++[.list false (xs.take m)]):=
 (Cs h).trans ((if_pos hl).trans (congrArg (Dd _) (sP xs m)))
theorem Et{σ:St}{i:Nat}{z:Bool}{xs:List AV}(h:σ[i]? =some (.list z xs))(m:Nat)(hm:m<=1000000):Jb σ (.ref i) (.int m)=xs[m]? :=(Io h m).trans (sM hm)
theorem H5{σ:St}{a b:Int}(h:fits a=true)(k:fits b=true):Gz σ .Mult (.int a) (.int b)=some (.int (a*b),σ):=congrArg (Dd _) (if_pos ⟨h,k⟩)
theorem QJ{σ:St}{a b:Int}(h0:0<=b)(h1:b<=1000)(f:fits a=true):Gz σ .LShift (.int a) (.int b)=some (.int (a*2^b.toNat),σ):=congrArg (Dd _) (if_pos ⟨h0,h1,f⟩)
theorem Qbq{σ:St}{a b:Int}(h0:0<=b)(h1:b<=1000):Gz σ .RShift (.int a) (.int b)=some (.int (a.fdiv (2^b.toNat)),σ):=congrArg (Dd _) (if_pos ⟨h0,h1⟩)
theorem QK{σ:St}{a b:Int}(h:b≠0):Gz σ .Mod (.int a) (.int b)=some (.int (a.fmod b),σ):=congrArg (Dd _) (if_pos h)
theorem Qbr{σ:St}{a b:Int}(h:b≠0)(h2:b.natAbs.log2<9000):Gz σ .FloorDiv (.int a) (.int b)=some (.int (a.fdiv b),σ):=congrArg (Dd _) (if_pos ⟨h,h2⟩)
theorem YA{σ:St}{a b:Int}(h0:0<=b)(h1:b<=1000)(h2:a.natAbs<=65536):Gz σ .Pow (.int a) (.int b)=some (.int (a^b.toNat),σ):=congrArg (Dd _) (if_pos ⟨h0,h1,h2⟩)
theorem aJ:∀{k:Nat}{E:Env}{R:Rs}{σ:St}{Q:AV->St->Prop}{GT:Str}{N:List Nn}{a:Int}(h:At E R σ)(hk:R.kz=false)(hN:getL II GT=some N)(hl:N.length<=10)(l1:R.kn.length+R.pe.length<=900)(hQ:∀σ',Ds E R σ R σ'->Q (fX (splitAt R.kn R.pe (Be E.Af N) a)) σ'),By (k+3) "split_at" [.ref (E.b+1),.str GT,.int 0,.int a] σ (PV Q):=by
 refine@(Ir nN nE nR nL nQ A8 nL nI ?_);generalize G8 .. =z;generalize z.1=k,z.2.1=E,z.2.2.1=R,z.2.2.2.1=σ,z.2.2.2.2.1=Q,z.2.2.2.2.2.1=GT,z.2.2.2.2.2.2.1=N,z.2.2.2.2.2.2.2=a;intro h hk hN hl l1 hQ;refine BG 43 (by kernel_rfl) (by rfl) ?_;walk_at"d";refine Am h.Zr ?_;walk_at"d";refine SS hN hl λσ₁ g=>?_;have s1:=Ds.grow h g;walk_at"d";refine Am s1.at_.EO ?_;walk_at"d";refine AN (Ic s1.at_.a5 (by refine Ae (Aj ..) ?_;exact AQ 0xf4240521003843210003011 l1)) ?_;refine Ae (Aj ..) ?_;have hN':(Be E.Af N).length<=10:=by have:=Bm (λn=> !Nr E.Af n) N;simp only[Be];exact AQ 0xa12100001001a1200012 hl this
 walk_at"d";have hr:mL [.int ((R.pe.length:Int)+1)]=some (HO 0 ((R.pe.length+1:Nat):Int)):=L6 (n:=R.pe.length+1) (AQ 0xf42405211210303843210003011 l1);refine Am hr ?_;generalize hNN:Be E.Af N=NN at*;walk_at"d";refine NU (λm w τ=>w=[(Aa "reading",.ref (E.b+1)),(Aa "proto",.str GT),(Aa "reg",.int 0),(Aa "at",.int a),(Aa "needs",Nq NN)]/\Ds E R σ R τ/\
  splitAt R.kn R.pe NN a=Jj (Ks R.kn R.pe NN a) (R.pe.length+1-m) m) ⟨rfl,s1,rfl⟩ ?_ ?_
 .rintro m w τ Kt hK hm ⟨rfl,h5,h6⟩;walk_at"d";refine Wb h5.at_ hk (AQ 0x1000011210300111 hm) l1 λσ₂ K s2 e1 e2=>?_;walk_at"d";refine aG e1 hN' λσ₃ g3 e3=>?_;have s3:=s2.trans (Ds.grow s2.at_ g3);have eA:CZ K NN=CZ (Bc R.kn (R.pe.take m)) NN:=aH e2 _;have lA:(CZ K NN).length<=10:=by have:=Bm (λn=> !EK K n) NN;simp only[CZ];exact AQ 0xa12100001001a1200012 hN' this
  have al:=Ic e3 (by refine Ae (Aj ..) ?_;exact AA 0xf424052000a1200011 lA);rw[Aj]at al;walk_at"d";refine AN al ?_;walk_at"d";refine AN (H5 (Ci (B8 0x212f424052780) (B8 0xf42405221280)) (Ci (AA 0x6f424052780) (AA 0xf4240520068a1200011 lA))) ?_;walk_at"d";refine AN al ?_;walk_at"d";refine Am (L6 (AA 0xf424052000a1200011 lA)) ?_;have hps:∀i,(h:i<(CZ K NN).length)->(BF (CZ K NN) a)[i]? =some ((CZ K NN)[i].1,(CZ K NN)[i].2,a+1-2*((CZ K NN).length:Int)+2*i):=λi h=>sN _ _ i h;have Qj:(BF (CZ K NN) a).length=(CZ K NN).length:=DS _ _;generalize hPP:BF (CZ K NN) a=PP at hps Qj;walk_at"d";refine Hz (λm' w acc τ'=>w=[(Aa "asked",.ref σ₂.length),(Aa "first",.int (a+1-2*((CZ K NN).length:Int))),(Aa "reg",.int 0)]/\τ'=σ₃/\acc=(PP.take m').map FO) ⟨rfl,rfl,rfl⟩ ?_ ?_
  .rintro m' w acc τ' Kc hKc hm' ⟨rfl,rfl,rfl⟩;have ei:=Et e3 m' (AQ 0xf424052100001011a1200012 lA hm');rw[BK,Ap hm',Bt]at ei;simp only[Eg]at ei;walk_at"d";refine Am ei ?_;walk_at"d";refine Am ei ?_;walk_at"d";refine AN (H5 (Ci (B8 0x212f424052780) (B8 0xf42405221280)) (Ci (AA 0x6f424052780) (AQ 0xf4240521068001011a1200012 lA hm'))) ?_;walk_at"d";refine⟨by show _<=1000000;refine Ae (Aj ..) (Ae Bx ?_);exact BC 0xf424052200102001001011a1200013 lA hm' (EM _ _),hKc _ _ _ ⟨rfl,rfl,?_⟩⟩;refine Ae EY (Ae (hps m' hm') ?_);simp[FO]
  .rintro w acc τ' ⟨rfl,rfl,rfl⟩;refine CV Qj (Ae Qf ?_);have s4:=s3.trans (Ds.grow s3.at_ (.app [AO.list false (PP.map FO)]));refine⟨by show _<=1000000;refine Ae (Aj ..) ?_;exact AQ 0xf424052100001021a1200012 lA Qj,?_⟩;have s5:=h5.trans (s4.trans (Ds.grow s4.at_ (.app [AO.list false ((R.pe.map FO).drop m)])));refine Ae (IG ..) ?_;walk_at"d";refine Am s4.at_.EO ?_;walk_at"d";refine AN (SU s4.at_.a5 (by refine Ae (Aj ..) ?_;exact AQ 0xf4240521003843210003011 l1) m) ?_;walk_at"d";refine Am (QdX (A:=PP) (B:=R.pe.drop m) (BW AJ) (by refine Ae NC ?_;exact AJ)) ?_;have e7:Ks R.kn R.pe NN a m=decide (PP=R.pe.drop m):=by(rw[Ks];exact CV eA (Ae hPP rfl))
   have e8:splitAt R.kn R.pe NN a=if decide (PP=R.pe.drop m)=true then some m else Jj (Ks R.kn R.pe NN a) (R.pe.length+1-(m+1)) (m+1):=by
    (refine Ae h6 (Ae (show R.pe.length+1-m=(R.pe.length+1-(m+1))+1 by exact Df 0x1123030021122031121033032911220310003212 (AE (AQ 0x11210300011210300111 hm)) (AE (AQ 0x112103112003011210300111 hm))) ?_);rw[aI];exact Ae e7 rfl)
   walk_at"d";refine Bq (λc=>?_) λc=>?_
   .rw[if_pos c]at e8;have:=hQ _ s5
    rwa [e8]at this
   .rw[if_neg c]at e8;exact hK _ _ ⟨rfl,s5,e8⟩
 .rintro w τ ⟨rfl,h5,h6⟩;walk_at"d";rw[h6]at hQ;simp only[Fn,QdW,aI,fX]at hQ;exact hQ _ h5
inductive Fe
 |G6 (ty GT base:Str) (size first:Int)
 |other (kind ty:Str) (size:Int) (order:Str) (about:AV)
theorem nFe:Nonempty Fe:=⟨.G6 (Aa "") (Aa "") (Aa "") 0 0⟩
noncomputable def Lv:Fe->AV
 | .G6 ty pr b sz f=> .tup [.str "payload",.str ty,.int sz,.str "big",.tup [.str pr,.str b,.int f]]
 | .other k ty sz o ab=> .tup [.str k,.str ty,.int sz,.str o,ab]
noncomputable def xS:Fe->Bool
 | .G6 _ pr _ _ _=>match getL II pr with
  |some N=>decide (N.length<=10)
  |none=>false
 | .other k _ _ _ _=>k != "payload"
structure FOk(FL:List (Str×Fe)):Prop where
 nd:∀p∈FL,getL FL p.1=some p.2
 ok:∀p∈FL,xS p.2=true
noncomputable def BH(GT:Str):List Nn:=(getL II GT).getD []
noncomputable def EE(P:List Nd)(s:Nat)(N:List Nn):Int:=3*((P.length:Int)-s)+N.length
noncomputable def Nt(Af:Str)(K:Kn)(P:List Nd)(base:Str)(first bits a:Int)(acc:Option (Str×Nat)×Int)(p:Str×Fe):Option (Str×Nat)×Int:=match p.2 with
 | .other _ _ _ _ _=>acc
 | .G6 _ pr b sz f=>if sz=bits/\b=base/\f=first then(match splitAt K P (Be Af (BH pr)) a with
  |some s=>if acc.2<EE P s (Be Af (BH pr))then(some (p.1,s),EE P s (Be Af (BH pr)))else acc
  |none=>acc)else acc
noncomputable def DZ(FL:List (Str×Fe))(Af:Str)(K:Kn)(P:List Nd)(base:Str)(first bits a:Int):Option (Str×Nat):=(FL.foldl (Nt Af K P base first bits a) (none,-1)).1
noncomputable def SV:Option (Str×Nat)->AV
 |some (x,s)=> .tup [.str x,.int s]
 |none=> .none
theorem L8(f:Nat->Bool)(n s r:Nat)(h:Jj f n s=some r):s<=r/\r<s+n/\f r=true:=by
 induction n generalizing s with
 |zero=>cases h
 |succ n ih=>
  simp only[QdW,aI]at h;split at h
  .rename_i c;cases h;exact⟨AL _,by exact AQ 0x1121030030010,c⟩
  .have⟨h1,h2,h3⟩:=ih _ h;exact⟨by exact AQ 0x1000010112003011 h1,by exact BC 0x11220310300120112103300111 h2,h3⟩
theorem Qcr{σ:St}{xs:List AV}(hl:xs.length<=1000000):H3 σ .len [.tup xs]=some (.int xs.length,σ):=if_pos hl
theorem xT{Af:Str}{K:Kn}{P:List Nd}{base:Str}{first bits a:Int}{acc:Option (Str×Nat)×Int}{nm ty pr b:Str}{sz f:Int}(h:¬(sz=bits/\b=base/\f=first)):Nt Af K P base first bits a acc (nm,.G6 ty pr b sz f)=acc:=by
 simp only[Nt];exact Ae (if_neg h) rfl
theorem sQ{Af:Str}{K:Kn}{P:List Nd}{base:Str}{first bits a:Int}{acc:Option (Str×Nat)×Int}{nm ty pr b:Str}{sz f:Int}(h:sz=bits/\b=base/\f=first):Nt Af K P base first bits a acc (nm,.G6 ty pr b sz f)=(match splitAt K P (Be Af (BH pr)) a with
  |some s=>if acc.2<EE P s (Be Af (BH pr))then(some (nm,s),EE P s (Be Af (BH pr)))else acc
  |none=>acc):=by
 simp only[Nt];exact Ae (if_pos h) rfl
theorem N0:∀{k:Nat}{E:Env}{R:Rs}{σ:St}{Q:AV->St->Prop}{FL:List (Str×Fe)}{base:Str}{first bits a:Int}(h:At E R σ)(hk:R.kz=false)(hF:E.F=CJ Lv FL)(hO:FOk FL)(l1:R.kn.length+R.pe.length<=900)(hQ:∀σ',Ds E R σ R σ'->Q (SV (DZ FL E.Af R.kn R.pe base first bits a)) σ'),By (k+4) "field_at" [.ref (E.b+1),.str base,.int first,.int bits,.int 0,.int a] σ (PV Q):=by
 refine@(I8 nN nE nR nL nQ ?_);generalize Ke .. =y;generalize y.1=k,y.2.1=E,y.2.2.1=R,y.2.2.2.1=σ,y.2.2.2.2=Q;refine@(I8 nL A8 nI nI nI ?_);generalize Ke .. =y;generalize y.1=FL,y.2.1=base,y.2.2.1=first,y.2.2.2.1=bits,y.2.2.2.2=a
 intro h hk hF hO l1 hQ;refine BG 44 (by kernel_rfl) (by rfl) ?_;walk_at"d";refine NX (by kernel_rfl) ?_;walk_at"d";obtain⟨z,ez⟩:=h.af;rw[hF]at ez;refine Am h.I7 ?_;walk_at"d";refine Am (fU ez) ?_;refine Ae (L4 ..) ?_;walk_at"d";refine DR (λd w τ=>w=[(Aa "reading",.ref (E.b+1)),(Aa "base",.str base),(Aa "first",.int first),(Aa "bits",.int bits),(Aa "reg",.int 0),(Aa "at",.int a),(Aa "best",SV (d.foldl (Nt E.Af R.kn R.pe base first bits a) (none,-1)).1),(Aa "most",.int (d.foldl (Nt E.Af R.kn R.pe base first bits a) (none,-1)).2)]/\Ds E R σ R τ) ⟨rfl,Ds.zZ h true⟩ ?_ ?_
 .refine@(Fd nL (np A8 nFe) nL nL nL nQ ?_);generalize E2 .. =y;generalize y.1=d,y.2.1=p,y.2.2.1=r,y.2.2.2.1=w,y.2.2.2.2.1=τ,y.2.2.2.2.2=K;rintro hK e ⟨rfl,h9⟩;have Ra:p∈FL:=by refine Ae e ?_;simp
  have Q8:=hO.nd p Ra;have HL:=hO.ok p Ra;obtain⟨z',ez'⟩:=h9.at_.af;rw[hF]at ez';have hg:=EU ez' p.1;rw[B6,Q8,Bt]at hg;rw[Jw,Bu,Fc]at hK;generalize hacc:d.foldl (Nt E.Af R.kn R.pe base first bits a) (none,-1)=acc at hK⊢;obtain⟨nm,fe⟩:=p;simp only at hg Q8 HL;cases fe with
  |other kd ty sz o ab=>
   have hkd:kd≠"payload":=by simpa[xS]using HL
   simp only[Lv]at hg;walk_at"d";refine Am h9.at_.I7 ?_;walk_at"d";refine Am hg ?_;walk_at"d";refine H4 hkd ?_;exact hK _ _ ⟨rfl,h9⟩
  |G6 ty pr b sz f=>
   simp only[Lv]at hg;have no:¬(sz=bits/\b=base/\f=first)->K [(Aa "reading",.ref (E.b+1)),(Aa "base",.str base),(Aa "first",.int first),(Aa "bits",.int bits),(Aa "reg",.int 0),(Aa "at",.int a),(Aa "best",SV acc.1),(Aa "most",.int acc.2)] τ:=λe=>by rw[xT e]at hK;exact hK _ _ ⟨rfl,h9⟩
   walk_at"d";refine Am h9.at_.I7 ?_;walk_at"d";refine Am hg ?_;walk_at"d";obtain⟨N,hN,v3⟩:∃N,getL II pr=some N/\N.length<=10:=by
    simp only[xS]at HL;cases hh:getL II pr with
    |none=>rw[hh]at HL;cases HL
    |some N=>rw[hh]at HL;exact⟨N,rfl,of_decide_eq_true HL⟩
   have zO:BH pr=N:=by simp only[BH,hN,Fq]
   refine Bq (λc1=>?_) λc1=>no λh=>c1 h.1;refine Bq (λc2=>?_) λc2=>no λh=>c2 h.2.1;refine Bq (λc3=>?_) λc3=>no λh=>c3 h.2.2;refine aJ h9.at_ hk hN v3 l1 λσ' s1=>?_;have s2:=h9.trans s1;rw[sQ ⟨c1,c2,c3⟩,zO]at hK;walk_at"d";cases hs:splitAt R.kn R.pe (Be E.Af N) a with
   |none=>
    rw[hs]at hK;simp only[fX];walk_at"d";exact hK _ _ ⟨rfl,s2⟩
   |some s=>
    rw[hs]at hK;simp only[fX];have z0:=L8 _ _ _ _ hs;have lN:(Be E.Af N).length<=10:=by have:=Bm (λn=> !Nr E.Af n) N;simp only[Be];exact AQ 0xa12100001001a1200012 v3 this
    walk_at"d";refine Am s2.at_.EO ?_;walk_at"d";refine AN (Ic s2.at_.a5 (by refine Ae (Aj ..) ?_;exact AQ 0xf4240521003843210003011 l1)) ?_;refine Ae (Aj ..) ?_;walk_at"d";refine AN (H5 (Ci (B8 0x312f424052780) (B8 0xf42405231280)) (Ci (AQ 0x61065f4240527811210302300111 z0.2.1) (BC 0xf424052206106583843210003011 l1))) ?_;walk_at"d";refine Am s2.at_.Zr ?_;walk_at"d";refine SS hN v3 λσ'' g=>?_;have s3:=s2.trans (Ds.grow s2.at_ g);walk_at"d";refine AN (Qcr (by refine Ae (Aj ..) ?_;exact AA 0xf424052000a1200011 lN)) ?_;refine Ae (Aj ..) ?_;walk_at"d";refine Bq (λc=>?_) λc=>?_
    .refine V6 [Aa "best",Aa "most"] (by kernel_rfl) (by kernel_rfl) ?_;simp only[Eb,Ho,AP,AM];walk_at"d";simp only[if_pos (show acc.2<EE R.pe s (Be E.Af N)from c)]at hK;exact hK _ _ ⟨rfl,s3⟩
    .simp only[if_neg (show¬acc.2<EE R.pe s (Be E.Af N)from c)]at hK;exact hK _ _ ⟨rfl,s3⟩
 .refine@(MT nL nL ?_);generalize Uj .. =y;generalize y.1=w,y.2=τ;rintro⟨rfl,h9⟩;refine Ae IF (Ae (C2 ..) (Ae (EQ ez) ?_));walk_at"d";exact hQ _ (h9.trans (Ds.zZ h9.at_ z))
theorem sS{σ:St}{o:AO}{f:AO->AO}:(σ++[o]).modify σ.length f=σ++[f o]:=by
 apply CS;intro j;refine Ae (B4 ..) ?_;by_cases h:j<σ.length
 .refine Ae (BD h) (Ae (BD h) ?_);have:σ.length≠j:=by exact AQ 0x1071000111 h
  simp[this]
 .by_cases h2:j=σ.length
  .subst h2;simp
  .refine Ae (D0 (by simp;lia)) (Ae (D0 (by simp;lia)) ?_);rfl
theorem Ds.WZ{E:Env}{R R':Rs}{σ τ:St}(h0:At E R σ)(h:Ds E R σ R' τ){i:Nat}(hi:σ.length<=i)(hp:R'.p≠i)(f:AO->AO):Ds E R σ R' (τ.modify i f):=by
 have l:=h0.len;have fl:=h.at_.fl;have a:=h.at_;refine⟨⟨?_,?_,?_,?_,?_,?_,?_,?_,a.pl,a.fl⟩,by simpa using h.len,h.p,λj hj hp' hl=>by refine Ae (AB (BC 0x201070020111000012 hi hl)) ?_;exact h.keep j hj hp' hl⟩
 .refine Ae (AB (BC 0x2010700712203111000012 hi l)) ?_;exact a.a0
 .refine Ae (AB (BC 0x11220310700712203111000012 hi l)) ?_;exact a.a1
 .refine Ae (AB (BC 0x31220310700712203111000012 hi l)) ?_;exact a.a3
 .refine Ae (AB (BC 0x41220310700712203111000012 hi l)) ?_;exact a.a4
 .refine Ae (AB (by lia)) ?_;exact a.a5
 .refine Ae (AB (BC 0x61220310700712203111000012 hi l)) ?_;exact a.a6
 .refine Ae (AB (BC 0x71220310700712203111000012 hi l)) ?_;exact a.a7
 .obtain⟨z,e⟩:=a.af;exact⟨z,by refine Ae (AB (Df 0x3010720301100712203111000013 hi l fl)) ?_;exact e⟩
noncomputable def fY(R:Rs)(s p:Nat):Rs:={R with kn:=Bc R.kn (R.pe.drop s),dr:=Cd R.dr (R.pe.drop s),pe:=R.pe.take s,pz:=false,p:=p}
theorem SW:∀{k:Nat}{E:Env}{R:Rs}{σ:St}{Q:AV->St->Prop}{s:Nat}(h:At E R σ)(hk:R.kz=false)(hp:R.pz=false)(l1:R.kn.length+R.pe.length<=900)(l2:R.dr.length+R.pe.length<190)(hQ:∀p σ',Ds E R σ (fY R s p) σ'->Q .none σ'),By (k+2) "settle" [.ref (E.b+1),.int s] σ (PV Q):=by
 refine@(Fd nN nE nR nL nQ nN ?_);generalize E2 .. =c;generalize c.1=k,c.2.1=E,c.2.2.1=R,c.2.2.2.1=σ,c.2.2.2.2.1=Q,c.2.2.2.2.2=s;intro h hk hp l1 l2 hQ;refine BG 45 (by kernel_rfl) (by rfl) ?_;have lp:=h.zX;have l:=h.len;have lP:(R.pe.map FO).length<=1000000:=by refine Ae (Aj ..) ?_;exact AQ 0xf4240521003843210003011 l1
 walk_at"d";refine Am h.EO ?_;walk_at"d";refine AN (SU h.a5 lP s) ?_;walk_at"d";refine Am (Fi AJ) ?_;refine CV NC ?_;walk_at"d";have s0:=Ds.grow h (.app [AO.list true ((R.pe.drop s).map FO)]);refine DR (λd w τ=>w=[(Aa "reading",.ref (E.b+1)),(Aa "split",.int s)]/\Ds E R σ {R with kn:=Bc R.kn d,dr:=Cd R.dr d} τ) ⟨rfl,by refine Ae (Ko ..) (Ae sS ?_);exact s0⟩ ?_ ?_
 .refine@(Fd nL (np A8 (np nI nI)) nL nL nL nQ ?_);generalize E2 .. =c;generalize c.1=d,c.2.1=n,c.2.2.1=r,c.2.2.2.1=w,c.2.2.2.2.1=τ,c.2.2.2.2.2=K;rintro hK e ⟨rfl,h3⟩;have hd:d.length<R.pe.length:=by have:=congrArg AX e;simp at this;exact Df 0x3010130000111220310300292 this (Gf _ _)
  have lk:=Ge d R.kn;have ls:=ED d R.dr;simp only[FO];walk_at"d";refine Am h3.at_.Jy ?_;walk_at"d";refine aC (K:=Bc R.kn d) (by have:=h3.at_.a4;simpa only[hk]using this) (Df 0x3e8323002000330011020113843210003013 l1 hd lk) ?_;have h4:=h3.trans (Ds.zY h3.at_ false (Fv (Bc R.kn d) n.1 n.2.1 n.2.2));walk_at"d";refine Am h4.at_.lD ?_;walk_at"d";refine OL (n:=n) ?_;walk_at"d";refine PS (L:=Cd R.dr d) h4.at_.a6 (Df 0xbe22301200033021102011be2210003113 l2 hd ls) ?_;have h5:=h4.trans (Ds.s_dr h4.at_ (Es (Cd R.dr d) n.2.2 (D5 n.1 n.2.1)));walk_at"d";refine hK _ _ ⟨rfl,?_⟩;refine Ae (L5 ..) (Ae (QI ..) ?_);exact(show({R with kz:=false,kn:=Fv (Bc R.kn d) n.1 n.2.1 n.2.2,dr:=Es (Cd R.dr d) n.2.2 (D5 n.1 n.2.1)}:Rs)={R with kn:=Fv (Bc R.kn d) n.1 n.2.1 n.2.2,dr:=Es (Cd R.dr d) n.2.2 (D5 n.1 n.2.1)}from by exact CV hk rfl)▸h5
 .refine@(MT nL nL ?_);generalize Uj .. =c;generalize c.1=w,c.2=τ;rintro⟨rfl,h3⟩;have h4:=Ds.WZ h h3 (AL _) (by simp only;exact AQ 0x100031000111 lp) (AO.El false)
  (refine Ae IF (Ae (C2 ..) (Ae (EQ AJ) ?_));rw[AO.fz])
  walk_at"d";refine Am h4.at_.EO ?_;walk_at"d";refine AN (L7 h4.at_.a5 lP s) ?_;refine CV Hu ?_;walk_at"d";refine Am (At.Vl (h4.at_.grow (.app _)) _) ?_;walk_at"d";exact hQ _ _ (h4.trans (Ds.s_new h4.at_ (R.pe.take s)))
theorem At.Gl{E:Env}{R:Rs}{σ:St}(h:At E R σ)(s:Sl):Hv σ (.int 0) (Yy s) (.ref (E.b+3))=some (σ.set (E.b+3) (slO (some s))):=by
 have:=h.a3;cases e:R.sl with
 |none=>rw[e]at this;exact(Np this).trans (show(if(false=false/\([]:List (Str×AV)).isEmpty=true)then some (σ.set (E.b+3) (.RH false [(0,Yy s)]))else none)=_ from if_pos ⟨rfl,rfl⟩)
 |some t=>rw[e]at this;exact(SQ this).trans (show(if(false=false/\1<=Ce)then some (σ.set (E.b+3) (.RH false (Ib [(0,Yy t)] 0 (Yy s))))else none)=_ from if_pos ⟨rfl,by show(1:Nat)<=1000000;decide⟩)
noncomputable def Dh(mask:Int)(d:Nat):Nat->Nat
 |0=>0
 |n+1=>if mask.fdiv (2^(d+n))=0 then Dh mask d n else n+1
theorem QdY{mask:Int}{d:Nat}:Dh mask d 0=0:=rfl
theorem Qcs{mask:Int}{d n:Nat}:Dh mask d (n+1)=if mask.fdiv (2^(d+n))=0 then Dh mask d n else n+1:=rfl
noncomputable def HA(FL:List (Str×Fe))(Af:Str)(R:Rs)(base:Str)(at_:Int)(mask:Int)(d:Nat)(rowAt:Int)(m:Nat):Option (Str×Nat):=
 if 0<Dh mask d (8*m-d)/\mask=(2^Dh mask d (8*m-d)-1)*2^d then
  DZ FL Af R.kn R.pe base (8*(at_+m)-d-Dh mask d (8*m-d)) (Dh mask d (8*m-d)) rowAt else none
noncomputable def Gp(x:Str):AV:= .tup [.str "field",.str x]
noncomputable def jQ(FL:List (Str×Fe))(Af:Str)(R:Rs)(base:Str)(at_:Int)(mask:Int)(d:Nat)(rowAt:Int)(m p:Nat):Rs:=match HA FL Af R base at_ mask d rowAt m with
 |none=>{R with sl:=some (.half base at_ mask d rowAt m)}
 |some (x,s)=>{fY R s p with sl:=some (.val (Gp x) "big" m)}
theorem sT{n:Nat}(h:n<=1000):fits ((2:Int)^n-1)=true:=by
 have h1:(1:Nat)<=2^n:=Ol;have e:(2:Int)^n=((2^n:Nat):Int):=by kernel_rfl
 exact OM (n:=n) (by refine Ae e ?_;omega) (AA 0x1e8480620003e83200011 h)
theorem sU:∀{k:Nat}{E:Env}{R:Rs}{σ:St}{Q:AV->St->Prop}{FL:List (Str×Fe)}{base:Str}{at_ mask rowAt:Int}{d m:Nat}(h:At E R σ)(hk:R.kz=false)(hp:R.pz=false)(hF:E.F=CJ Lv FL)(hO:FOk FL)(l1:R.kn.length+R.pe.length<=900)(l2:R.dr.length+R.pe.length<190)(hm:m<=16)(hd:d<=8*m)(ha:0<=at_)(ha':at_<=1000)(hQ:∀p σ',Ds E R σ (jQ FL E.Af R base at_ mask d rowAt m p) σ'->Q .none σ'),By (k+5) "cut" [.ref (E.b+1),.int 0,V7 base at_ mask d rowAt,.int m] σ (PV Q):=by
 refine@(Fd nN nE nR nL nQ nL ?_);generalize E2 .. =z;generalize z.1=k,z.2.1=E,z.2.2.1=R,z.2.2.2.1=σ,z.2.2.2.2.1=Q,z.2.2.2.2.2=FL;refine@(Fd A8 nI nI nI nN nN ?_);generalize E2 .. =z;generalize z.1=base,z.2.1=at_,z.2.2.1=mask,z.2.2.2.1=rowAt,z.2.2.2.2.1=d,z.2.2.2.2.2=m;intro h hk hp hF hO l1 l2 hm hd ha ha' hQ;refine BG 46 (by kernel_rfl) (by rfl) ?_;simp only[V7];walk_at"d";refine AN (H5 (Ci (B8 0x812f424052780) (B8 0xf42405281280)) (Ci (AA 0x6f424052780) (AA 0xf4240520068102200011 hm))) ?_;walk_at"d";refine Rw (λn w τ=>w=[(Aa "reading",.ref (E.b+1)),(Aa "to",.int 0),(Aa "half",V7 base at_ mask d rowAt),(Aa "many",.int m),(Aa "tag",.str "half"),(Aa "base",.str base),(Aa "at",.int at_),(Aa "mask",.int mask),(Aa "down",.int d),(Aa "row_at",.int rowAt),(Aa "reg",.int 0),(Aa "bits",.int n)]/\τ=σ/\Dh mask d n=Dh mask d (8*m-d)/\n<=8*m-d) (8*m-d) Vt (by refine Ae Rh ?_;omega) ⟨by refine Ae (show((8*m-d:Nat):Int)=8*(m:Int)-d by exact BC 0x10620681245006a20812410003211 (AE (AQ 0x10812400010812400011 hd))) ?_;rfl,rfl,rfl,AL _⟩ ?_;refine@(ZG nN nL nL nQ ?_);generalize cG .. =z;generalize z.1=n,z.2.1=w,z.2.2.1=τ,z.2.2.2=K;rintro hK ⟨rfl,rfl,lX,h13⟩;walk_at"d";have half0:HA FL E.Af R base at_ mask d rowAt m=none->Q .none (τ.set (E.b+3) (slO (some (.half base at_ mask d rowAt m)))):=λe=>hQ 0 _ (by(rw[jQ];refine Ae e ?_);exact Ds.Q9 h _);cases n with
 |zero=>
  have hb:Dh mask d (8*m-d)=0:=lX.symm;refine H4 (by simp) ?_;walk_at"d";refine H4 (by simp) ?_;walk_at"d";refine Am h.Ee ?_;walk_at"d";refine Am (h.Gl (.half base at_ mask d rowAt m)) ?_;walk_at"d";exact half0 (by simp[HA,hb])
 |succ n=>
  refine Kp (AA 0x11200360290) ?_;walk_at"d";refine AN (Qbq (b:=(d:Int)+((n+1:Nat):Int)-1) (AQ 0x1121121036006350280) (z11 h13 hd hm)) ?_;refine Ae (show((d:Int)+((n+1:Nat):Int)-1).toNat=d+n by exact BC 0x20103002112112203610635006a11 (Aw (AQ 0x1121121036006350280))) ?_;walk_at"d";refine Bq (λc=>?_) λc=>?_
  .refine .inl ⟨_,_,rfl,?_⟩;walk_at"d";refine hK n _ _ rfl ⟨by exact Ae (show((n+1:Nat):Int)-1=(n:Int) by exact AA 0x611211200365a0) rfl,rfl,?_,by exact AQ 0x1000010112003011 h13⟩;refine CV lX ?_;simp only[QdY,Qcs,c,if_true]
  .have hb:Dh mask d (8*m-d)=n+1:=by refine CV lX ?_;simp only[QdY,Qcs,c,if_false]
   refine Kp (AA 0x11200360290) ?_;walk_at"d";refine AN (QJ (a:=1) (b:=((n+1:Nat):Int)) (AA 0x11200360280) ((DE (n:=1000)).mpr (AS (z9 h13 hm) (by decide))) (Ci (B8 0x112f424052780) (B8 0xf42405211280))) ?_;refine Ae (show(((n+1:Nat):Int)).toNat=n+1 by exact AQ 0x1121030021121036006a11 (Aw (AA 0x11200360280))) (Ae (Jn ..) ?_);walk_at"d";refine AN (QJ (b:=(d:Int)) (AA 0x60280) (by omega) (sT (by omega))) ?_;refine Ae (show(d:Int).toNat=d by exact AQ 0x10002106006a11 (Aw (AA 0x60280))) ?_;walk_at"d";refine Bq (λc2=>?_) λc2=>?_
   .refine AN (H5 (Ci (B8 0x812f424052780) (B8 0xf42405281280)) (Ci (E3 0x6013f424052780102811 ha) (E3 0xf42405200601383e8320181102200012 hm ha'))) ?_;have hcf:HA FL E.Af R base at_ mask d rowAt m=DZ FL E.Af R.kn R.pe base (8*(at_+m)-d-((n+1:Nat):Int)) ((n+1:Nat):Int) rowAt:=by
     simp only[HA,hb,Nat.zero_lt_succ,true_and];exact Ae (if_pos c2) rfl
    walk_at"d";refine N0 h hk hF hO l1 λσ₁ s1=>?_;refine CV hcf ?_;cases hf:HA FL E.Af R base at_ mask d rowAt m with
    |none=>
     simp only[SV];walk_at"d";refine Am s1.at_.Ee ?_;walk_at"d";refine Am (s1.at_.Gl (.half base at_ mask d rowAt m)) ?_;walk_at"d";exact hQ 0 _ (by(rw[jQ];refine Ae hf ?_);exact s1.trans (Ds.Q9 s1.at_ _))
    |some xs=>
     obtain⟨x,t⟩:=xs;simp only[SV];walk_at"d";refine SW s1.at_ hk hp l1 l2 λp σ₂ s2=>?_;have s3:=s1.trans s2;walk_at"d";refine Am s3.at_.Ee ?_;walk_at"d";refine Am (s3.at_.Gl (.val (Gp x) "big" m)) ?_;walk_at"d";exact hQ p _ (by(rw[jQ];refine Ae hf ?_);exact s3.trans (Ds.Q9 s3.at_ _))
   .refine Am h.Ee ?_;walk_at"d";refine Am (h.Gl (.half base at_ mask d rowAt m)) ?_;walk_at"d";exact half0 (by simp only[HA,hb];exact Ae (if_neg (λx=>c2 x.2)) rfl)
theorem QdZ{a o:Int}(ha:0<=a)(ho:0<=o)(ho':o<256):Nx (a*256) o=a*256+o:=by
 refine Ae (K7 ..) (Ae (K8 (by lia) ho) ?_);have:(a*256).toNat&&&o.toNat=0:=by
  apply Nat.eq_of_testBit_eq;intro i;refine Ae (Nat.testBit_and ..) (Ae (Nat.zero_testBit ..) (Ae (z17 ha) (Ae Nat.testBit_two_pow_mul ?_)));by_cases h:8<=i
  .have:o.toNat<2^i:=DW (show o.toNat<2^8 by lia) (HK (B8 0x2120210) h);exact Ae (Nat.testBit_lt_two_pow this) (Ae (GO ..) rfl)
  .simp[h]
 refine Ae this ?_;simp
theorem xU{n:Nat}{t:Int}(h0:0<=t)(h1:t<2^n):GL (2^n-1) t=2^n-1-t:=by
 have e:(2:Int)^n=((2^n:Nat):Int):=by kernel_rfl
 have h2:(1:Nat)<=2^n:=Ol;have hb:E8 (2^n-1) t=t:=by
  rw[K8 (by rw[e];exact AA 0x112006502800112011 h2) h0,Nat.and_comm,show((2:Int)^n-1).toNat=2^n-1 by rw[e];exact BC 0x2000210112203291121065006a12 (Aw (AA 0x112006502800112011 h2)) (AE (AA 0x112000112011 h2)),Nat.and_two_pow_sub_one_eq_mod,Qd (by rw[e]at h1;exact Xd 0x10101106a100601912 h1 (Aw (D1 0x10280102811 h0)))];exact E3 0x1006a01006a11 (Aw (D1 0x10280102811 h0))
 unfold GL;refine Ae (K7 ..) (Ae hb ?_);exact MR 0x111120155111111112015355a0
noncomputable def Ma(bs:List Int):Int:=bs.foldl (λn o=>n*256+o) 0
def IJ(bs:List Int):Prop:=∀o∈bs,0<=o/\o<256
theorem SX(bs:List Int)(h:IJ bs):0<=Ma bs/\Ma bs<256^bs.length:=by
 have:∀(bs:List Int)(n:Int)(k:Nat),IJ bs->0<=n->n<256^k->0<=bs.foldl (λn o=>n*256+o) n/\bs.foldl (λn o=>n*256+o) n<256^(k+bs.length):=by
  intro bs;induction bs with
  |nil=>intro n k _ h1 h2;exact⟨h1,h2⟩
  |cons o r ih=>
   intro n k hb h1 h2;have ho:=hb o (by simp);have:=ih (n*256+o) (k+1) (λx hx=>hb x (by simp[hx])) (by lia) (by refine Ae (GS ..) ?_;lia);simp only[Bu,Al];refine Ae (show k+(r.length+1)=k+1+r.length by exact AQ 0x10112003311210300320) ?_;exact this
 have:=this bs 0 0 h (B8 0x20280) (by simp);simpa[Ma]using this
theorem U1(d:List Int)(o:Int):Ma (d++[o])=Ma d*256+o:=by simp[Ma]
theorem YB{a:Int}{k:Nat}(h0:0<=a)(h1:a<256^k)(hk:k<=1000):fits a=true:=by
 have e:(256:Int)^k=((2^(8*k):Nat):Int):=by refine Ae (Zk ..) ?_;simp
 exact OM (n:=8*k) (by rw[e]at h1;lia) (by lia)
theorem QL:∀{k:Nat}{bs:List Int}{σ:St}{Q:AV->St->Prop}(hb:IJ bs)(hl:bs.length<=100)(hQ:Q (.int (Ma bs)) σ),By (k+1) "number_of" [.bytes bs] σ (PV Q):=by
 refine@(ZG nN nL nL nQ ?_);generalize cG .. =c;generalize c.1=k,c.2.1=bs,c.2.2.1=σ,c.2.2.2=Q;intro hb hl hQ;refine BG 27 (by kernel_rfl) (by rfl) ?_;walk_at"d";refine DR (λd w τ=>w=[(Aa "octets",.bytes bs),(Aa "number",.int (Ma d))]/\τ=σ) ⟨rfl,rfl⟩ ?_ ?_
 .rintro d o r w τ K hK e ⟨rfl,rfl⟩;have hlen:d.length<=100:=by have:=congrArg AX e;simp at this;exact BC 0x64221001122031030029642200012 hl this
  have hd:IJ d:=λx hx=>hb x (by refine Ae e ?_;simp[hx]);have ho:=hb o (by refine Ae e ?_;simp);have b:=SX d hd;walk_at"d";refine AN (QJ (b:=8) (B8 0x8120280) (B8 0x3e83281280) (YB b.1 b.2 (AA 0x3e832000642200011 hlen))) ?_;walk_at"d";refine Ae (show(2:Int)^(8:Int).toNat=256 from rfl) (Ae (QdZ b.1 ho.1 ho.2) (CV (U1 ..) ?_));exact hK _ _ ⟨rfl,rfl⟩
 .rintro w τ ⟨rfl,rfl⟩;walk_at"d";exact hQ
theorem YC{σ:St}{xs:List Int}(hl:xs.length<=1000000):H3 σ .len [.bytes xs]=some (.int xs.length,σ):=if_pos hl
theorem aK(bs:List Int):intsOf (bs.map .int)=some bs:=by
 induction bs with
 |nil=>rfl
 |cons b r ih=>show(intsOf (r.map .int)).map (b:: ·)=_;refine Ae ih ?_;rfl
theorem Wc{σ:St}{i:Nat}{z:Bool}{bs:List Int}(h:σ[i]? =some (.list z (bs.map .int)))(hb:IJ bs)(hl:bs.length<=1000000):H3 σ .bytes [.ref i]=some (.bytes bs,σ):=by
 refine(Cs h).trans ?_;refine Ae (aK ..) ?_;exact if_pos ⟨Az.mpr λo h=>decide_eq_true (hb o h),hl⟩
theorem aL(σ:St){bs:List Int}(hl:bs.length<=1000000)(m:Nat)(hm:m<bs.length):Jb σ (.bytes bs) (.int m)=some (.int bs[m]):=by
 refine Eq.trans (if_pos ⟨C6 m,hl⟩:(if 0<=(m:Int)/\bs.length<=Ce then(Rf bs m).map AV.int else none)=_) ?_;refine Ae (sM (AQ 0xf424052100001011f42405200012 hl hm)) (Ae (Ap hm) ?_);rfl
theorem sV:∀{k:Nat}{bs:List Int}{σ:St}{Q:AV->St->Prop}(hb:IJ bs)(hl:bs.length<=100)(hQ:∀σ',Cy σ σ'->Q (.bytes bs.reverse) σ'),By (k+1) "turned" [.bytes bs] σ (PV Q):=by
 refine@(ZG nN nL nL nQ ?_);generalize cG .. =c;generalize c.1=k,c.2.1=bs,c.2.2.1=σ,c.2.2.2=Q;intro hb hl hQ;refine BG 28 (by kernel_rfl) (by rfl) ?_;walk_at"d";refine AN (YC (by exact AA 0xf424052000642200011 hl)) ?_;walk_at"d";have hr:mL [.int ((bs.length:Int)-1+1)]=some (HO 0 (bs.length:Int)):=by refine Ae (show((bs.length:Int)-1+1)=(bs.length:Int) by exact AA 0x611211200653a0) ?_;exact L6 (by exact AA 0xf424052000642200011 hl)
 refine Am hr ?_;walk_at"d";refine Hz (λm w acc τ=>w=[(Aa "last",.int ((bs.length:Int)-1)),(Aa "octets",.bytes bs)]/\τ=σ/\acc=(bs.reverse.take m).map .int) ⟨rfl,rfl,rfl⟩ ?_ ?_
 .rintro m w acc τ K hK hm ⟨rfl,rfl,rfl⟩;walk_at"d";refine Ae (z12 hm) ?_;refine Am (aL _ (by exact AA 0xf424052000642200011 hl) _ (by exact BC 0x2000120112103211000012 (Gf _ _) (AE (AQ 0x1011201000111 hm)))) ?_;walk_at"d";refine⟨by show _<=1000000;refine Ae (Aj ..) (Ae Bx ?_);exact BC 0xf424052200102001001011642200013 hl hm (EM _ _),hK _ _ _ ⟨rfl,rfl,?_⟩⟩;refine Ae EY (Ae (LB (by exact AQ 0x100011000111 hm)) (Ae (Ap (by exact BC 0x2000120112103211000012 (Gf _ _) (AE (AQ 0x1011201000111 hm)))) ?_));simp
 .rintro w acc τ ⟨rfl,rfl,rfl⟩;have e:bs.reverse.take bs.length=bs.reverse:=by exact CV (FK (as:=bs)) (Ae Qf rfl)
  refine Ae e ?_;refine⟨by show _<=1000000;simp;exact AA 0xf424052000642200011 hl,?_⟩;refine Ae (IG ..) ?_;walk_at"d";refine AN (Wc AJ (λo ho=>hb o (by simpa using ho)) (by simp;exact AA 0xf424052000642200011 hl)) ?_;walk_at"d";exact hQ _ (.app _)
noncomputable def Fw(order host:Str)(bs:List Int):Int:=if(if order="host" then host else order)="big" then Ma bs else Ma bs.reverse
theorem Gq{k:Nat}{E:Env}{R:Rs}{σ:St}{Q:AV->St->Prop}{bs:List Int}{order:Str}(h:At E R σ)(hb:IJ bs)(hl:bs.length<=100)(ho:order="host"\/order="big")(hE:E.order="little"\/E.order="big")
  (hQ:∀σ',Ds E R σ R σ'->Q (.int (Fw order E.order bs)) σ'):By (k+3) "number_in" [.ref (E.b+1),.bytes bs,.str order] σ (PV Q):=by
 refine BG 49 (by kernel_rfl) (by rfl) ?_;have hbr:IJ bs.reverse:=λo ho=>hb o (by simpa using ho);have key:∀w:Str,w=(if order="host" then E.order else order)->By (k+2) (Aa "host_number") [AV.bytes bs,AV.str w] σ (PV Q):=by
  intro w hw;have hw2:w="little"\/w="big":=by
   refine Ae hw ?_;rcases ho with rfl|rfl
   .simpa using hE
   .right;simp[Cr]
  simp only[Fw,<-hw]at hQ;refine BG 29 (by kernel_rfl) (by rfl) ?_;rcases hw2 with rfl|rfl
  .walk_at"d";refine sV hb hl λσ' g=>?_;walk_at"d";simp only[Cr,F8,if_false]at hQ;refine QL hbr (by simpa using hl) ?_;exact hQ _ (Ds.grow h g)
  .walk_at"d";simp only[if_true]at hQ;refine QL hb hl ?_;exact hQ _ (Ds.rfl h)
 walk_at"d";walk_at"d";refine Am h.zW ?_;walk_at"d";refine BG 30 (by kernel_rfl) (by rfl) ?_;walk_at"d";refine Bq (λc=>?_) λc=>?_
 .exact key _ (by exact Ae (if_pos c) rfl)
 .exact key _ (by exact Ae (if_neg c) rfl)
theorem PT{k:Nat}{E:Env}{R:Rs}{σ:St}{Q:AV->St->Prop}{s:Sl}(h:At E R σ)(hs:R.sl=some s)(hQ:Q (Yy s) σ):By (k+1) "slot_of" [.ref (E.b+1),.int 0] σ (PV Q):=by
 refine BG 47 (by kernel_rfl) (by rfl) ?_;walk_at"d";have e:=h.a3;rw[hs]at e;have e1:EC σ .NotIn (.int 0) (.ref (E.b+3))=some false:=congrArg (Dd not) ((SQ e).trans (by rfl:_=some true));have e2:Jb σ (.ref (E.b+3)) (.int 0)=some (Yy s):=SQ e;walk_at"d";refine Am h.Ee ?_;walk_at"d";refine Am e1 ?_;walk_at"d";refine Am h.Ee ?_;walk_at"d";refine Am e2 ?_;walk_at"d";exact hQ
theorem QM{k:Nat}{E:Env}{R:Rs}{σ:St}{Q:AV->St->Prop}{b:Str}{a m d r s:Int}(h:At E R σ)(hs:R.sl=some (.half b a m d r s))(hQ:Q (.tup [.tup [.str "half",.str b,.int a,.int m,.int d,.int r,.int 0],.str "big",.int s]) σ):By (k+1) "slot_of" [.ref (E.b+1),.int 0] σ (PV Q):=PT h hs hQ
theorem SY{k:Nat}{E:Env}{R:Rs}{σ:St}{Q:AV->St->Prop}{e:AV}{o:Str}{s:Int}(h:At E R σ)(hs:R.sl=some (.val e o s))(hQ:Q (.tup [e,.str o,.int s]) σ):By (k+1) "slot_of" [.ref (E.b+1),.int 0] σ (PV Q):=PT h hs hQ
def JB(e:AV):Prop:=∃t r,e= .tup (.str t::r)/\t≠"half"
theorem SZ{k:Nat}{E:Env}{R:Rs}{σ:St}{Q:AV->St->Prop}{e:AV}{o:Str}{z:Int}(h:At E R σ)(hs:R.sl=some (.val e o z))(hn:JB e)(hQ:Q (.tup [e,.str o,.int z]) σ):By (k+2) "held" [.ref (E.b+1),.int 0] σ (PV Q):=by
 obtain⟨t,r,rfl,ht⟩:=hn;refine BG 48 (by kernel_rfl) (by rfl) ?_;walk_at"d";refine PT h hs ?_;simp only[Yy];walk_at"d";refine H4 ht ?_;exact hQ
theorem Qct(σ:St)(a b c d:Str):EC σ .Eq (.tup [.str a,.str b]) (.tup [.str c,.str d])=some (a==c&&b==d):=congrArg (λx=>some (a==c&&x)) (FQ _)
theorem S0{k:Nat}{z:Int}{σ:St}{Q:AV->St->Prop}(hQ:Q (.int ((z+3).fdiv 4)) σ):By (k+1) "slots_of" [.int z] σ (PV Q):=by
 refine BG 32 (by kernel_rfl) (by rfl) ?_;walk_at"d";exact hQ
theorem jR{k i:Nat}{e:AV}{z:Bool}{σ:St}{Q:AV->St->Prop}(hi:σ[i]? =some (.list z [e]))(hQ:Q e σ):By (k+1) "joined" [.ref i] σ (PV Q):=by
 refine BG 50 (by kernel_rfl) (by rfl) ?_;walk_at"d";refine AN (Ic hi (by simp)) ?_;walk_at"d";refine Kp (by rfl) ?_;refine Am (Io hi 0) ?_;walk_at"d";exact hQ
theorem sW{k:Nat}{E:Env}{R:Rs}{σ:St}{Q:AV->St->Prop}{e:AV}{o:Str}{z:Int}{w:Int}{y:Str}(h:At E R σ)(hs:R.sl=some (.val e o z))(hn:JB e)(hQ:∀σ',Ds E R σ R σ'->Q e σ'):
  By (k+3) "key_at" [.ref (E.b+1),.int 0,.tup [.tup [.int w,.str y]]] σ (PV Q):=by
 refine BG 51 (by kernel_rfl) (by rfl) ?_;have hi:(σ++[AO.list false []])[σ.length]? =some (.list false []):=AJ;have s0:=Ds.grow h (.app [AO.list false []]);walk_at"d";refine jJ ?_;walk_at"d";refine Am (BY hi) ?_;walk_at"d";refine SZ s0.at_ hs hn ?_;walk_at"d";refine AN (Cf hi (by simp) _) ?_;walk_at"d";refine .inl ⟨_,_,rfl,?_⟩;walk_at"d";refine S0 ?_;walk_at"d";refine Yt ?_;walk_at"d";refine jR (e:=e) (B9 hi) ?_;have:=h.zX;exact hQ _ (Ds.other h s0 (AL _) (AQ 0x100031000111 this) _)
theorem aM{k:Nat}{E:Env}{R:Rs}{σ:St}{Q:AV->St->Prop}{name tag:Str}{z:Bool}(h:At E R σ)(he:σ[E.se]? =some (.sd z []))(hQ:Q (.tup [.str "ref",.str name]) σ):
  By (k+2) "where_of" [.ref (E.b+1),.str name,.str tag] σ (PV Q):=by
 refine BG 53 (by kernel_rfl) (by rfl) ?_;walk_at"d";refine BG 52 (by kernel_rfl) (by rfl) ?_;walk_at"d";refine Am h.g_sets ?_;walk_at"d";refine Am (Kr he _) ?_;walk_at"d";exact hQ
noncomputable def aN(ab:AV)(key dir:Str):Bool:=match ab with
 | .tup [.str a,.str b]=>a==key&&b==dir
 |_=>false
noncomputable def JC:List (Str×Fe)->Str->Str->Option Str
 |[],_,_=>none
 |(n,.other kd _ _ _ ab)::r,key,dir=>if kd="ct"/\aN ab key dir=true then some n else JC r key dir
 |(_,.G6 _ _ _ _ _)::r,key,dir=>JC r key dir
noncomputable def xV:Fe->Bool
 | .other kd _ _ _ ab=>kd != "ct"||(match ab with
  | .tup [.str _,.str _]=>true
  |_=>false)
 |_=>true
theorem xW{ty:Str}{sz:Int}{o:Str}{ab:AV}(h:xV (.other "ct" ty sz o ab)=true):∃a b,ab= .tup [.str a,.str b]:=by
 cases ab with
 |tup l=>cases l with
  |nil=>exact Br h
  |cons x l=>cases x with
   |str a=>cases l with
    |nil=>exact Br h
    |cons y l=>cases y with
     |str b=>cases l with
      |nil=>exact⟨a,b,rfl⟩
      |cons _ _=>exact Br h
     |_=>exact Br h
   |_=>exact Br h
 |_=>exact Br h
theorem Qbs{n kd ty o key dir:Str}{sz:Int}{ab:AV}{r:List (Str×Fe)}:JC ((n,.other kd ty sz o ab)::r) key dir=if kd="ct"/\aN ab key dir=true then some n else JC r key dir:=rfl
theorem U2:∀{k:Nat}{E:Env}{R:Rs}{σ:St}{Q:AV->St->Prop}{FL:List (Str×Fe)}{key dir x:Str}(h:At E R σ)(hF:E.F=CJ Lv FL)(hO:FOk FL)(hC:∀p∈FL,xV p.2=true)(hx:JC FL key dir=some x)(hQ:∀σ',Ds E R σ R σ'->Q (.str x) σ'),By (k+1) "ct_name" [.ref (E.b+1),.str key,.str dir] σ (PV Q):=by
 refine@(Xe nN nE nR nL nQ nL A8 A8 A8 ?_);generalize Ql .. =y;generalize y.1=k,y.2.1=E,y.2.2.1=R,y.2.2.2.1=σ,y.2.2.2.2.1=Q,y.2.2.2.2.2.1=FL,y.2.2.2.2.2.2.1=key,y.2.2.2.2.2.2.2.1=dir,y.2.2.2.2.2.2.2.2=x;intro h hF hO hC hx hQ;refine BG 56 (by kernel_rfl) (by rfl) ?_;walk_at"d";obtain⟨z,ez⟩:=h.af;rw[hF]at ez;refine Am h.I7 ?_;walk_at"d";refine Am (fU ez) ?_;refine Ae (L4 ..) ?_;walk_at"d";refine sI (λrest w τ=>w=[(Aa "reading",.ref (E.b+1)),(Aa "key",.str key),(Aa "direction",.str dir)]/\Ds E R σ R τ/\∃d r,FL=d++r/\rest=r.map (λp=>AV.str p.1)/\JC r key dir=some x) ⟨rfl,Ds.zZ h true,[],FL,rfl,rfl,hx⟩ ?_ ?_
 .refine@(I8 W2 nL nL nL nQ ?_);generalize Ke .. =y;generalize y.1=v,y.2.1=rest,y.2.2.1=w,y.2.2.2.1=τ,y.2.2.2.2=K;rintro hK ⟨rfl,h4,d,r,e1,e2,h5⟩;cases r with
  |nil=>cases e2
  |cons p r=>
   obtain⟨rfl,rfl⟩:=DM e2;have Ra:p∈FL:=by refine Ae e1 ?_;simp
   have Q8:=hO.nd p Ra;have hct:=hC p Ra;obtain⟨z',ez'⟩:=h4.at_.af;rw[hF]at ez';have hg:=EU ez' p.1;rw[B6,Q8,Bt]at hg;obtain⟨nm,fe⟩:=p;simp only at hg Q8 hct;have nxt:JC r key dir=some x->K [(Aa "reading",.ref (E.b+1)),(Aa "key",.str key),(Aa "direction",.str dir)] τ:=λe=>hK _ _ ⟨rfl,h4,d++[(nm,fe)],r,by simp[e1],rfl,e⟩;cases fe with
   |G6 ty pr b sz f=>
    simp only[Lv]at hg;walk_at"d";refine Am h4.at_.I7 ?_;walk_at"d";refine Am hg ?_;walk_at"d";exact nxt h5
   |other kd ty sz o ab=>
    simp only[Lv]at hg;walk_at"d";refine Am h4.at_.I7 ?_;walk_at"d";refine Am hg ?_;walk_at"d";refine Bq (λc=>?_) λc=>?_
    .subst c;obtain⟨a,b,rfl⟩:=xW hct
     .refine Am h4.at_.I7 ?_;walk_at"d";refine Am hg ?_;walk_at"d";refine Am (Qct ..) ?_;walk_at"d";rw[Qbs,show aN (.tup [.str a,.str b]) key dir=(a==key&&b==dir)from rfl]at h5;simp only[true_and]at h5;refine Bq (λc2=>?_) λc2=>?_
      .rw[if_pos c2]at h5;cases h5;have:=hQ _ (h4.trans (Ds.zZ h4.at_ z));refine Ae (EQ ez) ?_;exact this
      .rw[if_neg c2]at h5;exact nxt h5
    .refine nxt ?_;rw[Qbs,if_neg λe=>c e.1]at h5;exact h5
 .refine@(MT nL nL ?_);generalize Uj .. =y;generalize y.1=w,y.2=τ;rintro⟨rfl,h4,d,r,e1,e2,h5⟩;cases r with
  |nil=>cases h5
  |cons _ _=>cases e2
theorem Ip{σ:St}{s t:Str}(h:s.length+t.length<=1000000):Gz σ .Add (.str s) (.str t)=some (.str (s++t),σ):=vF.trans (if_pos h)
structure Ms where
 at_:Int
 sl:Option Sl
 kn:Kn
 pe:List Nd
 dr:List (Int×AV)
 st:List (Int×AV)
theorem We:Nonempty Ms:=⟨⟨0,none,[],[],[],[]⟩⟩
noncomputable def Ms.rs(M:Ms)(p:Nat):Rs:={at_:=M.at_,sl:=M.sl,kn:=M.kn,kz:=false,pe:=M.pe,pz:=false,p:=p,dr:=M.dr,st:=M.st}
noncomputable def Ms.sz(M:Ms):Nat:=M.kn.length+M.st.length+M.dr.length+3*M.pe.length
noncomputable def Mb(M:Ms):Ms:={M with kn:=Bc M.kn M.pe,st:=Cd M.st M.pe,pe:=[]}
noncomputable def sX(M:Ms)(s:AV):Ms:={Mb M with st:=Es (Cd M.st M.pe) M.at_ s}
noncomputable def CD(M:Ms)(s:Nat):Ms:={M with kn:=Bc M.kn (M.pe.drop s),dr:=Cd M.dr (M.pe.drop s),pe:=M.pe.take s}
noncomputable def Wf(FL:List (Str×Fe))(Af:Str)(M:Ms)(base:Str)(at_ mask:Int)(d:Nat)(rowAt:Int)(m:Nat):Option (Str×Nat):=
 if 0<Dh mask d (8*m-d)/\mask=(2^Dh mask d (8*m-d)-1)*2^d then
  DZ FL Af M.kn M.pe base (8*(at_+m)-d-Dh mask d (8*m-d)) (Dh mask d (8*m-d)) rowAt else none
noncomputable def S1(FL:List (Str×Fe))(Af:Str)(M:Ms)(base:Str)(at_ mask:Int)(d:Nat)(rowAt:Int)(m:Nat):Ms:=match Wf FL Af M base at_ mask d rowAt m with
 |none=>{M with sl:=some (.half base at_ mask d rowAt m)}
 |some (x,s)=>{CD M s with sl:=some (.val (Gp x) "big" m)}
theorem Wg:∀(FL:List (Str×Fe))(Af:Str)(M:Ms)(base:Str)(at_ mask:Int)(d:Nat)(rowAt:Int)(m p:Nat),∀q,∃q',jQ FL Af (M.rs p) base at_ mask d rowAt m q=(S1 FL Af M base at_ mask d rowAt m).rs q':=by
 refine@(I8 nL A8 We A8 nI ?_);generalize Ke .. =c;generalize c.1=FL,c.2.1=Af,c.2.2.1=M,c.2.2.2.1=base,c.2.2.2.2=at_;refine@(I8 nI nN nI nN nN ?_);generalize Ke .. =c;generalize c.1=mask,c.2.1=d,c.2.2.1=rowAt,c.2.2.2.1=m,c.2.2.2.2=p;intro q;unfold jQ S1;have:HA FL Af (M.rs p) base at_ mask d rowAt m=Wf FL Af M base at_ mask d rowAt m:=rfl;refine Ae this ?_;cases Wf FL Af M base at_ mask d rowAt m with
 |none=>exact⟨p,rfl⟩
 |some xs=>obtain⟨x,s⟩:=xs;exact⟨q,rfl⟩
structure TO(E:Env)(FL:List (Str×Fe)):Prop where
 F:E.F=CJ Lv FL
 ok:FOk FL
 ct:∀p∈FL,xV p.2=true
 se:E.se<E.b
 sf:E.se≠E.fa
def Rd(E:Env)(f:Str)(row:AV)(M M':Ms):Prop:=∀(k p:Nat)(σ:St)(Q:AV->St->Prop)(z:Bool),At E (M.rs p) σ->σ[E.se]? =some (.sd z [])->
 (∀p' σ',Ds E (M.rs p) σ (M'.rs p') σ'->Q .none σ')->By (k+6) f [.ref (E.b+1),row] σ (PV Q)
section
variable{E:Env}{FL:List (Str×Fe)}{M:Ms}
theorem U3:∀{E:Env}{FL:List (Str×Fe)}{M:Ms}{base:Str}{at_ m:Nat}(hf:TO E FL)(hs:M.sz<=150)(ha:at_<=1000)(hm:m<=16),Rd E "back_payload" (.tup [.str "payload",.int 0,.str base,.int at_,.int m]) M (S1 FL E.Af M base at_ (2^(8*m)-1) 0 M.at_ m):=by
 refine@(Fd nE nL We A8 nN nN ?_);generalize E2 .. =c;generalize c.1=E,c.2.1=FL,c.2.2.1=M,c.2.2.2.1=base,c.2.2.2.2.1=at_,c.2.2.2.2.2=m;intro hf hs ha hm;intro k p σ Q z h he hQ;simp only[Ms.sz]at hs;refine BG 54 (by kernel_rfl) (by rfl) ?_;walk_at"d";refine AN (H5 (Ci (B8 0x812f424052780) (B8 0xf42405281280)) (Ci (AA 0x6f424052780) (AA 0xf4240520068102200011 hm))) ?_;walk_at"d";refine AN (QJ (a:=1) (b:=8*(m:Int)) (AA 0x681240280) (by lia) (Ci (B8 0x112f424052780) (B8 0xf42405211280))) ?_;walk_at"d";refine Am (h.vG ..) ?_;refine Ae (Jn ..) (Ae (show(8*(m:Int)).toNat=8*m by exact AQ 0x1081240021068124006a11 (Aw (AA 0x681240280))) ?_);walk_at"d";refine sU (d:=0) (m:=m) h rfl rfl hf.F hf.ok (by simp only[Ms.rs];exact Df 0x384323000309622303124201000333011 hs) (by simp only[Ms.rs];exact Df 0xbe223020319622303124201000333011 hs) hm (AA 0x81240200) (AA 0x60280) (AA 0x3e83200683e83200011 ha) λq σ' s1=>?_;obtain⟨q',e⟩:=Wg FL E.Af M base at_ (2^(8*m)-1) 0 M.at_ m p q;walk_at"d";refine hQ q' _ ?_;refine CV e ?_;exact s1
theorem sY{key order:Str}{z:Int}(hl:key.length<=1000):
  Rd E "back_meta" (.tup [.str "meta",.int 0,.str key,.int z,.str order]) M {M with sl:=some (.val (Gp (Aa "meta "++key)) order z)}:=by
 intro k p σ Q z' h he hQ;refine BG 55 (by kernel_rfl) (by rfl) ?_;walk_at"d";have lY:(Aa "meta ").length<=10:=by decide +kernel
 refine AN (Ip (AQ 0xf424052001030a1210013e83200012 hl lY)) ?_;walk_at"d";refine Am (h.Ee ..) ?_;walk_at"d";refine Am (h.Gl (.val (Gp (Aa "meta "++key)) order z)) ?_;walk_at"d";exact hQ p _ (Ds.Q9 h _)
theorem YD{bs:List Int}(hl:bs.length<=1000):
  Rd E "back_immediate" (.tup [.str "immediate",.int 0,.bytes bs]) M {M with sl:=some (.val (.tup [.str "raw",.bytes bs]) "big" bs.length)}:=by
 intro k p σ Q z h he hQ;refine BG 58 (by kernel_rfl) (by rfl) ?_;walk_at"d";refine AN (YC (AA 0xf4240520003e83200011 hl)) ?_;walk_at"d";refine Am (h.Ee ..) ?_;walk_at"d";refine Am (h.Gl (.val (.tup [.str "raw",.bytes bs]) "big" bs.length)) ?_;walk_at"d";exact hQ p _ (Ds.Q9 h _)
theorem Qew(hf:TO E FL){key dir order x:Str}{z:Int}(hx:JC FL key dir=some x):
  Rd E "back_ct" (.tup [.str "ct",.int 0,.str key,.str dir,.int z,.str order]) M {M with sl:=some (.val (Gp x) order z)}:=by
 intro k p σ Q z' h he hQ;refine BG 57 (by kernel_rfl) (by rfl) ?_;walk_at"d";refine U2 h hf.F hf.ok hf.ct hx λσ₁ s1=>?_;walk_at"d";refine Am (s1.at_.Ee ..) ?_;walk_at"d";refine Am (s1.at_.Gl (.val (Gp x) order z)) ?_;walk_at"d";exact hQ p _ (s1.trans (Ds.Q9 s1.at_ _))
theorem QN{e:AV}{o:Str}{z w:Int}(hs:M.sl=some (.val e o z))(hn:JB e):
  Rd E "back_byteorder" (.tup [.str "byteorder",.int 0,.int 0,.int w]) M {M with sl:=some (.val e (if o="big" then Aa "host" else Aa "big") z)}:=by
 intro k p σ Q z' h he hQ;refine BG 61 (by kernel_rfl) (by rfl) ?_;walk_at"d";refine SZ h hs hn ?_;walk_at"d";refine Bq (λc=>?_) λc=>?_
 .rw[if_pos c]at hQ;walk_at"d";refine Am (h.Ee ..) ?_;walk_at"d";refine Am (h.Gl (.val e "host" z)) ?_;walk_at"d";exact hQ p _ (Ds.Q9 h _)
 .rw[if_neg c]at hQ;walk_at"d";refine Am (h.Ee ..) ?_;walk_at"d";refine Am (h.Gl (.val e "big" z)) ?_;walk_at"d";exact hQ p _ (Ds.Q9 h _)
theorem Qcu(hf:TO E FL){e L:AV}{o name y o2:Str}{z w z2:Int}(hL:L= .tup [.tup [.int z2,.str o2]])(hs:M.sl=some (.val e o z))(hn:JB e):
  Rd E "back_map" (.tup [.str "map",.int 0,.tup [.tup [.int w,.str y]],.str name,.int 0,L]) M {M with sl:=some (.val (.tup [.str "map",e,.tup [.str "ref",.str name]]) o2 z2)}:=by
 intro k p σ Q z' h he hQ;refine BG 67 (by kernel_rfl) (by rfl) ?_;walk_at"d";refine sW h hs hn λσ₁ s1=>?_;walk_at"d";have pl:=h.pl;have l:=h.len;have sf:=hf.sf;have se:=hf.se;refine aM (z:=z') s1.at_ (by refine Ae (s1.keep E.se (.inl ⟨hf.se,hf.sf⟩) (by lia) (BC 0x1020100201110712003112 l se)) ?_;exact he) ?_;walk_at"d";refine Am (by refine Ae hL ?_;rfl:_=some ([AV.tup [AV.int z2,AV.str o2]],none)) ?_;refine sJ ?_;walk_at"d";refine Am (s1.at_.Ee ..) ?_;walk_at"d";refine Am (s1.at_.Gl (.val (.tup [.str "map",e,.tup [.str "ref",.str name]]) o2 z2)) ?_;walk_at"d";refine .inl ⟨_,_,rfl,?_⟩;walk_at"d";refine S0 ?_;walk_at"d";refine Yt ?_;walk_at"d";exact hQ p _ (s1.trans (Ds.Q9 s1.at_ _))
theorem Qd0(hf:TO E FL){e:AV}{o name y o2:Str}{z w z2:Int}(hs:M.sl=some (.val e o z))(hn:JB e):
  Rd E "back_map" (.tup [.str "map",.int 0,.tup [.tup [.int w,.str y]],.str name,.int 0,.tup [.tup [.int z2,.str o2]]]) M {M with sl:=some (.val (.tup [.str "map",e,.tup [.str "ref",.str name]]) o2 z2)}:=Qcu hf rfl hs hn
theorem Qcv(hs:M.sz<=150)(row:AV):Rd E "back_same" row M (sX M row):=by
 intro k p σ Q z' h he hQ;simp only[Ms.sz]at hs;refine BG 69 (by kernel_rfl) (by rfl) ?_;walk_at"d";refine aE h rfl rfl (by simp only[Ms.rs];exact Df 0x3e8323000309622303124201000333011 hs) (by simp only[Ms.rs];exact Df 0xbe223010319622303124201000333011 hs) λq σ' s1=>?_;walk_at"d";exact hQ q _ s1
end
theorem S2(L:List Str):NG (L.map .str)=some L:=by
 induction L with
 |nil=>rfl
 |cons y r ih=>show(NG (r.map .str)).map (y:: ·)=_;refine Ae ih ?_;rfl
theorem sZ(σ:St)(x:Str)(L:List Str):lR σ (.str x) (.tup (L.map .str))=some (decide (x∈L)):=by
 show(NG (L.map .str)).map _=_;refine Ae (S2 ..) ?_;rfl
noncomputable def b9:List Str:=[Aa "meta nfproto",Aa "meta l4proto",Aa "meta protocol",Aa "ether type"]
section
variable{E:Env}{FL:List (Str×Fe)}{M:Ms}
theorem Qd1(hs:M.sz<=150){x o:Str}{z:Int}{bs:List Int}(hv:M.sl=some (.val (Gp x) o z))(hx:x∈b9)(hb:IJ bs)(hl:bs.length<=100)(ho:o="host"\/o="big")(hE:E.order="little"\/E.order="big"):
  Rd E "back_cmp" (.tup [.str "cmp",.str "==",.int 0,.bytes bs]) M {M with pe:=M.pe++[(x,Fw o E.order bs,M.at_)]}:=by
 intro k p σ Q z' h he hQ;simp only[Ms.sz]at hs;refine BG 64 (by kernel_rfl) (by rfl) ?_;walk_at"d";refine SZ (e:= .tup [.str "field",.str x]) h hv ⟨_,_,rfl,by simp[Cr]⟩ ?_;walk_at"d";refine Gq h hb hl ho hE λσ₁ s1=>?_;walk_at"d";have hn:lR σ₁ (.str x) (.tup [.str (Aa "meta nfproto"),.str (Aa "meta l4proto"),.str (Aa "meta protocol"),.str (Aa "ether type")])=some true:=(sZ σ₁ x b9).trans (by exact Ae (decide_eq_true hx) rfl);refine Am hn ?_;walk_at"d";refine Am (s1.at_.EO ..) ?_;walk_at"d";refine Am (BY s1.at_.a5 ..) ?_;walk_at"d";refine Am (s1.at_.vG ..) ?_;walk_at"d";refine AN (Cf s1.at_.a5 (by refine Ae (Aj ..) ?_;simp only[Ms.rs];exact Df 0xf4240523009622303124201000333011 hs) ..) ?_;walk_at"d";refine hQ p _ ?_;have s2:=s1.trans (Ds.s_pe s1.at_ false (M.pe++[(x,Fw o E.order bs,M.at_)]));rw[Bg]at s2;exact s2
theorem YE:∀{E:Env}{FL:List (Str×Fe)}{M:Ms}{base:Str}{at_:Nat}{left ra:Int}{d m:Nat}{mk tn:List Int}(hf:TO E FL)(hs:M.sz<=150)(hv:M.sl=some (.half base at_ left d ra m))(hm:m<=16)(hd:d<=8*m)(ha:at_<=1000)(hb:IJ mk)(hl:mk.length<=16)(vH:IJ tn)(lY:tn.length<=16)(hE:E.order="little"\/E.order="big")(h0:Ma tn=0),Rd E "back_bitwise" (.tup [.str "bitwise",.int 0,.int 0,.bytes mk,.bytes tn]) M (S1 FL E.Af M base at_ (E8 left (Ma mk*2^d)) d ra m):=by
 refine@(Fd nE nL We A8 nN nI ?_);generalize E2 .. =c;generalize c.1=E,c.2.1=FL,c.2.2.1=M,c.2.2.2.1=base,c.2.2.2.2.1=at_,c.2.2.2.2.2=left;refine@(I8 nI nN nN nL nL ?_);generalize Ke .. =c;generalize c.1=ra,c.2.1=d,c.2.2.1=m,c.2.2.2.1=mk,c.2.2.2.2=tn;intro hf hs hv hm hd ha hb hl vH lY hE h0;intro k p σ Q z' h he hQ;simp only[Ms.sz]at hs;refine BG 59 (by kernel_rfl) (by rfl) ?_;walk_at"d";refine QM h hv ?_;walk_at"d";have hnb:∀bs,Fw (Aa "big") E.order bs=Ma bs:=λbs=>by simp[Fw,Cr]
 refine Gq h hb (AA 0x6422000102200011 hl) (.inr rfl) hE λσ₁ s1=>?_;walk_at"d";refine Gq s1.at_ vH (AA 0x6422000102200011 lY) (.inr rfl) hE λσ₂ s2=>?_;have s3:=s1.trans s2;have bk:=SX mk hb;walk_at"d";refine V6 [Aa "mask",Aa "turn"] (by kernel_rfl) (by kernel_rfl) ?_;simp only[Eb,Ho,AP,AM,hnb,h0];walk_at"d";refine AN (H5 (Ci (B8 0x812f424052780) (B8 0xf42405281280)) (Ci (AA 0x6f424052780) (AA 0xf4240520068102200011 hm))) ?_;walk_at"d";refine AN (QJ (a:=1) (b:=8*(m:Int)) (AA 0x681240280) (by lia) (Ci (B8 0x112f424052780) (B8 0xf42405211280))) ?_;walk_at"d";refine AN (QJ (b:=(d:Int)) (AA 0x60280) (by lia) (YB bk.1 bk.2 (AA 0x3e832000102200011 hl))) ?_;walk_at"d";refine Ae (show(d:Int).toNat=d by exact AQ 0x10002106006a11 (Aw (AA 0x60280))) ?_;refine sU (d:=d) (m:=m) s3.at_ rfl rfl hf.F hf.ok (by simp only[Ms.rs];exact Df 0x384323000309622303124201000333011 hs) (by simp only[Ms.rs];exact Df 0xbe223020319622303124201000333011 hs) hm hd (AA 0x60280) (AA 0x3e83200683e83200011 ha) λq σ' s4=>?_;walk_at"d";obtain⟨q',e⟩:=Wg FL E.Af M base at_ (E8 left (Ma mk*2^d)) d ra m p q;walk_at"d";refine hQ q' _ (s3.trans ?_);refine CV e ?_;exact s4
noncomputable def Wh(e:AV)(mask turn full:Int):AV:=if turn=0 then .tup [.str "mask",e,.int mask]else if mask=full then .tup [.str "xor",e,.int turn]else .tup [.str "or",e,.int turn]
theorem aO:∀{E:Env}{M:Ms}{e:AV}{o:Str}{m:Nat}{mk tn:List Int}(hv:M.sl=some (.val e o m))(hn:JB e)(hm:m<=16)(ho:o="host"\/o="big")(hb:IJ mk)(hl:mk.length<=16)(vH:IJ tn)(lY:tn.length<=16)(hE:E.order="little"\/E.order="big")(hc:Fw o E.order tn=0\/Fw o E.order mk=2^(8*m)-1\/Fw o E.order mk=GL (2^(8*m)-1) (Fw o E.order tn)),Rd E "back_bitwise" (.tup [.str "bitwise",.int 0,.int 0,.bytes mk,.bytes tn]) M {M with sl:=some (.val (Wh e (Fw o E.order mk) (Fw o E.order tn) (2^(8*m)-1)) o m)}:=by
 refine@(Hp nE We W2 A8 nN nL nL ?_);generalize GE .. =c;generalize c.1=E,c.2.1=M,c.2.2.1=e,c.2.2.2.1=o,c.2.2.2.2.1=m,c.2.2.2.2.2.1=mk,c.2.2.2.2.2.2=tn;intro hv hn hm ho hb hl vH lY hE hc;intro k p σ Q z' h he hQ;refine BG 59 (by kernel_rfl) (by rfl) ?_;walk_at"d";obtain⟨t,r,eq,ht⟩:=hn;have e0:∀τ,Jb τ e (.int 0)=some (.str t):=λτ=>by refine Ae eq ?_;rfl
 refine SY h hv ?_;walk_at"d";refine Gq h hb (AA 0x6422000102200011 hl) ho hE λσ₁ s1=>?_;walk_at"d";refine Gq s1.at_ vH (AA 0x6422000102200011 lY) ho hE λσ₂ s2=>?_;have s3:=s1.trans s2;generalize Fw o E.order mk=mv at hc hQ⊢;generalize Fw o E.order tn=tv at hc hQ⊢;walk_at"d";refine V6 [Aa "mask",Aa "turn"] (by kernel_rfl) (by kernel_rfl) ?_;simp only[Eb,Ho,AP,AM];walk_at"d";refine AN (H5 (Ci (B8 0x812f424052780) (B8 0xf42405281280)) (Ci (AA 0x6f424052780) (AA 0xf4240520068102200011 hm))) ?_;walk_at"d";refine AN (QJ (a:=1) (b:=8*(m:Int)) (AA 0x681240280) (by lia) (Ci (B8 0x112f424052780) (B8 0xf42405211280))) ?_;walk_at"d";refine Ae (show(8*(m:Int)).toNat=8*m by exact AQ 0x1081240021068124006a11 (Aw (AA 0x681240280))) (Ae (Jn ..) ?_);refine Am (e0 _) ?_;walk_at"d";refine H4 ht ?_;have fin:∀x:AV,Wh e mv tv (2^(8*m)-1)=x->Q .none (σ₂.set (E.b+3) (slO (some (.val x o m)))):=λx e=>by
  rw[e]at hQ;exact hQ p _ (s3.trans (Ds.Q9 s3.at_ _))
 refine Bq (λc0=>?_) λc0=>?_
 .refine Am s3.at_.Ee ?_;walk_at"d";refine Am (s3.at_.Gl (.val _ o m)) ?_;walk_at"d";exact fin _ (by simp only[Wh,c0,if_true])
 refine Bq (λc1=>?_) λc1=>?_
 .refine Am s3.at_.Ee ?_;walk_at"d";refine Am (s3.at_.Gl (.val _ o m)) ?_;walk_at"d";exact fin _ (by simp only[Wh,c0,c1,if_true,if_false])
 refine Kp ((hc.resolve_left c0).resolve_left c1) ?_;refine Am s3.at_.Ee ?_;walk_at"d";refine Am (s3.at_.Gl (.val _ o m)) ?_;walk_at"d";exact fin _ (by simp only[Wh,c0,c1,if_false])
theorem Wi:∀{E:Env}{FL:List (Str×Fe)}{M:Ms}{base:Str}{at_:Nat}{left ra z:Int}{d m w:Nat}(hf:TO E FL)(hs:M.sz<=150)(hv:M.sl=some (.half base at_ left d ra m))(hm:m<=16)(hd:d+w<=8*m)(ha:at_<=1000)(hfit:fits (left.fdiv (2^(d+w)))=true),Rd E "back_shift" (.tup [.str "shift",.int 0,.int 0,.int z,.str "right",.int w]) M (S1 FL E.Af M base at_ (left.fdiv (2^(d+w))*2^(d+w)) (d+w) ra m):=by
 refine@(Fd nE nL We A8 nN nI ?_);generalize E2 .. =c;generalize c.1=E,c.2.1=FL,c.2.2.1=M,c.2.2.2.1=base,c.2.2.2.2.1=at_,c.2.2.2.2.2=left;refine@(I8 nI nI nN nN nN ?_);generalize Ke .. =c;generalize c.1=ra,c.2.1=z,c.2.2.1=d,c.2.2.2.1=m,c.2.2.2.2=w;intro hf hs hv hm hd ha hfit;intro k p σ Q z' h he hQ;simp only[Ms.sz]at hs;refine BG 60 (by kernel_rfl) (by rfl) ?_;walk_at"d";refine QM h hv ?_;walk_at"d";refine .inl ⟨_,_,rfl,?_⟩;walk_at"d";refine Ae (show(d:Int)+w=((d+w:Nat):Int) by exact AQ 0x1000361060063a0) ?_;refine AN (Qbq (b:=((d+w:Nat):Int)) (AQ 0x1000360280) (by lia)) ?_;walk_at"d";refine Ae (show((d+w:Nat):Int).toNat=d+w by exact BC 0x20103002201036006a11 (Aw (AQ 0x1000360280))) ?_;refine AN (QJ (b:=((d+w:Nat):Int)) (AQ 0x1000360280) (by lia) hfit) ?_;walk_at"d";refine sU (d:=d+w) (m:=m) h rfl rfl hf.F hf.ok (by simp only[Ms.rs];exact Df 0x384323000309622303124201000333011 hs) (by simp only[Ms.rs];exact Df 0xbe223020319622303124201000333011 hs) hm hd (AA 0x60280) (AA 0x3e83200683e83200011 ha) λq σ' s4=>?_;walk_at"d";obtain⟨q',e⟩:=Wg FL E.Af M base at_ (left.fdiv (2^(d+w))*2^(d+w)) (d+w) ra m p q;walk_at"d";refine hQ q' _ ?_;refine CV e ?_;exact s4
theorem YF:∀{E:Env}{M:Ms}{e:AV}{o:Str}{z:Int}{b:Bool}{m w:Int}(hv:M.sl=some (.val e o m))(hn:JB e),Rd E "back_shift" (.tup [.str "shift",.int 0,.int 0,.int z,.str (if b then Aa "left" else Aa "right"),.int w]) M {M with sl:=some (.val (.tup [.str (if b then Aa "shl" else Aa "shr"),e,.int w]) o m)}:=by
 refine@(Ir nE We W2 A8 nI nB nI nI ?_);generalize G8 .. =c;generalize c.1=E,c.2.1=M,c.2.2.1=e,c.2.2.2.1=o,c.2.2.2.2.1=z,c.2.2.2.2.2.1=b,c.2.2.2.2.2.2.1=m,c.2.2.2.2.2.2.2=w;intro hv hn;intro k p σ Q z' h he hQ;refine BG 60 (by kernel_rfl) (by rfl) ?_;walk_at"d";obtain⟨t,r,eq,ht⟩:=hn;have e0:∀τ,Jb τ e (.int 0)=some (.str t):=λτ=>by refine Ae eq ?_;rfl
 refine SY h hv ?_;walk_at"d";refine Am (e0 _) ?_;walk_at"d";refine H4 ht ?_;cases b<;>simp only[CI,if_false,if_true]
 .walk_at"d";refine Am (h.Ee ..) ?_;walk_at"d";refine Am (h.Gl (.val (AV.tup [AV.str (Aa "shr"),e,.int w]) o m)) ?_;walk_at"d";exact hQ p _ (Ds.Q9 h _)
 .walk_at"d";refine Am (h.Ee ..) ?_;walk_at"d";refine Am (h.Gl (.val (AV.tup [AV.str (Aa "shl"),e,.int w]) o m)) ?_;walk_at"d";exact hQ p _ (Ds.Q9 h _)
end
theorem U4{β:Type}(l:List (Str×β))(x:Str)(h:getL l x=none):MV l x=l:=by
 induction l with
 |nil=>rfl
 |cons p r ih=>
  obtain⟨y,v⟩:=p;simp only[FC,Ef]at h;by_cases e:y=x
  .rw[if_pos e]at h;cases h
  .rw[if_neg e]at h;simp only[NV,NW,e,if_false,ih h]
theorem fZ{σ:St}{i:Nat}{l:List (Str×AV)}(h:σ[i]? =some (.sd false l))(hl:l.length<=1000000){x:Str}(hx:(EP l x).isSome=true):LI σ (.str x) (.ref i)=some (σ.set i (.sd false (Xf l x))):=(Np h).trans (if_pos ⟨rfl,hx,hl⟩)
noncomputable def Wj(order host:Str):AV->AV
 | .tup [.str t,.bytes bs]=>if t="raw" then .tup [.str "num",.int (Fw order host bs)]else .tup [.str t,.bytes bs]
 |e=>e
theorem tA{o h t:Str}{r:List AV}(ht:t≠"raw"):Wj o h (.tup (.str t::r))= .tup (.str t::r):=by
 cases r with
 |nil=>rfl
 |cons a l=>cases l with
  |nil=>cases a with
   |bytes b=>exact if_neg ht
   |_=>rfl
  |cons _ _=>cases a with
   |_=>rfl
noncomputable def ON(host:Str)(M:Ms)(name order:Str)(e:AV):Ms:={sX M (.tup [.str "set",.str name,Wj order host e])with kn:=MV (Bc M.kn M.pe) name}
def S3(e:AV):Prop:=(∃bs,e= .tup [.str "raw",.bytes bs]/\IJ bs/\bs.length<=16)\/(∃t r,e= .tup (.str t::r)/\t≠"half"/\t≠"raw")
section
variable{E:Env}{FL:List (Str×Fe)}{M:Ms}
theorem MI:∀{E:Env}{M:Ms}{k p:Nat}{σ:St}{Q:AV->St->Prop}{name order o:Str}{e:AV}{z:Int}(hs:M.sz<=150)(h:At E (M.rs p) σ)(hv:M.sl=some (.val e o z))(hn:S3 e)(ho:order="host"\/order="big")(hE:E.order="little"\/E.order="big")(hQ:∀p' σ',Ds E (M.rs p) σ ((ON E.order M name order e).rs p') σ'->Q .none σ'),By (k+5) "put_set" [.ref (E.b+1),.str name,.int 0,.str order] σ (PV Q):=by
 refine@(Fd nE We nN nN nL nQ ?_);generalize E2 .. =c;generalize c.1=E,c.2.1=M,c.2.2.1=k,c.2.2.2.1=p,c.2.2.2.2.1=σ,c.2.2.2.2.2=Q;refine@(I8 A8 A8 A8 W2 nI ?_);generalize Ke .. =c;generalize c.1=name,c.2.1=order,c.2.2.1=o,c.2.2.2.1=e,c.2.2.2.2=z;intro hs h hv hn ho hE hQ;simp only[Ms.sz]at hs;have lk:=Ge M.pe M.kn;have go:∀(σ₁ σ₂:St)(e':AV)(q:Nat),e'=Wj order E.order e->Ds E (M.rs p) σ (M.rs p) σ₁->Ds E (M.rs p) σ₁ (Yz (M.rs p) q (.tup [.str "set",.str name,e'])) σ₂->
  lR σ₂ (.str name) (.ref (E.b+4))=some (getL (Bc M.kn M.pe) name).isSome/\(getL (Bc M.kn M.pe) name=none->Q .none σ₂)/\
  (∀v,getL (Bc M.kn M.pe) name=some v->∃σ₃,LI σ₂ (.str name) (.ref (E.b+4))=some σ₃/\Q .none σ₃):=by
  intro σ₁ σ₂ e' q he' s1 s2;have s3:=s1.trans s2;have ek:=s3.at_.a4;have ekn:(Yz (M.rs p) q (.tup [.str "set",.str name,e'])).kn=Bc M.kn M.pe:=rfl;rw[ekn]at ek;refine⟨?_,λhg=>?_,λv hg=>⟨_,fZ ek (by refine Ae (Kq ..) ?_;exact RL 0xf4240524003000340019622303124201000333012 hs lk) (by refine Ae (B6 ..) (Ae hg ?_);rfl),?_⟩⟩
  .exact Ae (PR ek ..) (Ae (B6 ..) (Ae Pk rfl))
  .refine hQ q _ ?_;have:((ON E.order M name order e).rs q)=Yz (M.rs p) q (.tup [.str "set",.str name,e']):=by
    simp only[ON,<-he',U4 _ _ hg];rfl
   refine Ae this ?_;exact s3
  .refine Ae (Yv ..) ?_;refine hQ q _ ?_;have:((ON E.order M name order e).rs q)={Yz (M.rs p) q (.tup [.str "set",.str name,e'])with kn:=MV (Bc M.kn M.pe) name,kz:=false}:=by
    simp only[ON,<-he'];rfl
   refine Ae this ?_;exact s3.trans (Ds.zY s3.at_ false _)
 refine BG 74 (by kernel_rfl) (by rfl) ?_;walk_at"d";rcases hn with⟨bs,rfl,hb,hl⟩|⟨t,r,rfl,ht,ht2⟩
 .refine SZ h hv ⟨_,_,rfl,by simp[Cr]⟩ ?_;walk_at"d";refine Gq h hb (AA 0x6422000102200011 hl) ho hE λσ₁ s1=>?_;walk_at"d";refine aE s1.at_ rfl rfl (by simp only[Ms.rs];exact Df 0x3e8323000309622303124201000333011 hs) (by simp only[Ms.rs];exact Df 0xbe223010319622303124201000333011 hs) λq σ₂ s2=>?_;have s3:=s1.trans s2;obtain⟨g1,g2,g3⟩:=go σ₁ σ₂ _ q (by kernel_rfl) s1 s2;walk_at"d";refine Am s3.at_.Jy ?_;walk_at"d";refine Am g1 ?_;walk_at"d";cases hg:getL (Bc M.kn M.pe) name with
  |none=>
   refine Ae Cn ?_;walk_at"d";exact g2 hg
  |some v=>
   obtain⟨σ₃,e3,g4⟩:=g3 v hg;refine Ae Dc ?_;walk_at"d";refine⟨_,_,_,rfl,?_⟩;walk_at"d";refine Am s3.at_.Jy ?_;walk_at"d";refine Am e3 ?_;walk_at"d";exact g4
 .refine SZ h hv ⟨_,_,rfl,ht⟩ ?_;walk_at"d";refine H4 ht2 ?_;walk_at"d";refine aE h rfl rfl (by simp only[Ms.rs];exact Df 0x3e8323000309622303124201000333011 hs) (by simp only[Ms.rs];exact Df 0xbe223010319622303124201000333011 hs) λq σ₂ s2=>?_;have s3:=(Ds.rfl h).trans s2;obtain⟨g1,g2,g3⟩:=go σ σ₂ _ q (tA ht2).symm (Ds.rfl h) s2;walk_at"d";refine Am s3.at_.Jy ?_;walk_at"d";refine Am g1 ?_;walk_at"d";cases hg:getL (Bc M.kn M.pe) name with
  |none=>
   refine Ae Cn ?_;walk_at"d";exact g2 hg
  |some v=>
   obtain⟨σ₃,e3,g4⟩:=g3 v hg;refine Ae Dc ?_;walk_at"d";refine⟨_,_,_,rfl,?_⟩;walk_at"d";refine Am s3.at_.Jy ?_;walk_at"d";refine Am e3 ?_;walk_at"d";exact g4
theorem xX{σ:St}{i:Nat}{z:Bool}{xs:List AV}(h:σ[i]? =some (.list z xs))(hl:xs.length<=1000000):Nc σ (.ref i)=some (!xs.isEmpty):=(Cs h).trans (if_pos hl)
noncomputable def IK(M:Ms):Int:=match M.pe.getLast? with
 |some n=>n.2.2+1
 |none=>M.at_
theorem aP(hs:M.sz<=150){key order o:Str}{e:AV}{z w:Int}(hl:key.length<=1000)(hv:M.sl=some (.val e o z))(hn:S3 e)(ho:order="host"\/order="big")(hE:E.order="little"\/E.order="big"):
  Rd E "back_meta_set" (.tup [.str "meta_set",.int 0,.str key,.int w,.str order]) M (ON E.order M (Aa "meta "++key) order e):=by
 intro k p σ Q z' h he hQ;refine BG 76 (by kernel_rfl) (by rfl) ?_;walk_at"d";have lY:(Aa "meta ").length<=10:=by decide +kernel
 refine AN (Ip (AQ 0xf424052001030a1210013e83200012 hl lY)) ?_;walk_at"d";exact MI hs h hv hn ho hE λq σ' s=>hQ q σ' s
theorem tB(hf:TO E FL)(hs:M.sz<=150){key order o x:Str}{e:AV}{z w:Int}(hx:JC FL key ""=some x)(hv:M.sl=some (.val e o z))(hn:S3 e)(ho:order="host"\/order="big")(hE:E.order="little"\/E.order="big"):
  Rd E "back_ct_set" (.tup [.str "ct_set",.int 0,.str key,.int w,.str order]) M (ON E.order M x order e):=by
 intro k p σ Q z' h he hQ;refine BG 77 (by kernel_rfl) (by rfl) ?_;walk_at"d";refine U2 h hf.F hf.ok hf.ct hx λσ₁ s1=>?_;walk_at"d";exact MI hs s1.at_ hv hn ho hE λq σ' s=>hQ q σ' (s1.trans s)
theorem U5{M:Ms}{s:Nat}(h:M.sz<=150):(CD M s).sz<=150:=by
 have a:=Ge (M.pe.drop s) M.kn;have b:=ED (M.pe.drop s) M.dr;rw[B7]at a b;simp only[CD,Ms.sz];refine Ae Bx ?_;exact z5 h a b
theorem T4:∀{E:Env}{FL:List (Str×Fe)}{M:Ms}{base o x:Str}{at_ m s:Nat}{e:AV}{z:Int}(hf:TO E FL)(hs:M.sz<=150)(ha:at_<=1000)(hm:m<=16)(hx:DZ FL E.Af M.kn M.pe base (8*(at_:Int)) (8*(m:Int)) (IK M)=some (x,s))(hv:M.sl=some (.val e o z))(hn:S3 e)(hE:E.order="little"\/E.order="big"),Rd E "back_payload_set" (.tup [.str "payload_set",.int 0,.str base,.int at_,.int m]) M (ON E.order (CD M s) x "big" e):=by
 refine@(Fd nE nL We A8 A8 A8 ?_);generalize E2 .. =c;generalize c.1=E,c.2.1=FL,c.2.2.1=M,c.2.2.2.1=base,c.2.2.2.2.1=o,c.2.2.2.2.2=x;refine@(I8 nN nN nN W2 nI ?_);generalize Ke .. =c;generalize c.1=at_,c.2.1=m,c.2.2.1=s,c.2.2.2.1=e,c.2.2.2.2=z;intro hf hs ha hm hx hv hn hE;intro k p σ Q z' h he hQ;simp only[Ms.sz]at hs;refine BG 75 (by kernel_rfl) (by rfl) ?_;walk_at"d";refine Am (h.EO ..) ?_;walk_at"d";refine Am (xX h.a5 (by rw[Aj];simp only[Ms.rs];exact Df 0xf4240523009622303124201000333011 hs) ..) ?_;walk_at"d";refine Bq (λhb=>?_) λhb=>?_
 .skip
  change (!(M.pe.map FO).isEmpty)=true at hb;rcases LC M.pe with hp|⟨l,n,hp⟩
  .rw[hp]at hb;simp at hb
  have RI:IK M=n.2.2+1:=by simp[IK,hp]
  have hlast:Jb σ (.ref p) (.int (-1))=some (FO n):=by
   have e5:σ[p]? =some (.list false (M.pe.map FO)):=h.a5;have hle:M.pe.length=l.length+1:=by refine Ae hp ?_;simp
   refine Ae (Io e5 ..) ?_;unfold Rf;rw[if_neg (by exact B8 0x112702c0),if_pos ⟨by exact B8 0x1127f424052780,by rw[Aj];exact AQ 0x61127302811210300291 hle⟩,Aj,show((-1:Int)+(M.pe.length:Int)).toNat=l.length by exact BC 0x1020200611273206a111210300212 hle (Aw (AQ 0x61127302811210300291 hle)),hp];simp
  refine Am h.EO ?_;walk_at"d";refine Am hlast ?_;simp only[FO];walk_at"d";refine CV RI ?_;refine AN (H5 (Ci (B8 0x812f424052780) (B8 0xf42405281280)) (Ci (AA 0x6f424052780) (AA 0xf42405200683e83200011 ha))) ?_;walk_at"d";refine AN (H5 (Ci (B8 0x812f424052780) (B8 0xf42405281280)) (Ci (AA 0x6f424052780) (AA 0xf4240520068102200011 hm))) ?_;walk_at"d";refine N0 h rfl hf.F hf.ok (by simp only[Ms.rs];exact Df 0x384323000309622303124201000333011 hs) λσ₁ s1=>?_;walk_at"d";refine Ae (show DZ FL E.Af (M.rs p).kn (M.rs p).pe base (8*(at_:Int)) (8*(m:Int)) (IK M)=some (x,s)from hx) ?_;simp only[SV];walk_at"d";refine SW s1.at_ rfl rfl (by simp only[Ms.rs];exact Df 0x384323000309622303124201000333011 hs) (by simp only[Ms.rs];exact Df 0xbe223020319622303124201000333011 hs) λq σ₂ s2=>?_;walk_at"d";have s3:Ds E (M.rs p) σ ((CD M s).rs q) σ₂:=s1.trans s2;have JM:(CD M s).sz<=150:=U5 hs;walk_at"d";refine MI JM s3.at_ hv hn (.inr rfl) hE λq' σ' s4=>hQ q' σ' (s3.trans s4)
 .change ¬(!(M.pe.map FO).isEmpty)=true at hb;have hp:M.pe=[]:=by
   cases e:M.pe with
   |nil=>rfl
   |cons a b=>rw[e]at hb;simp at hb
  have RI:IK M=M.at_:=by simp[IK,hp]
  walk_at"d";refine Am (h.vG ..) ?_;walk_at"d";refine Ae (show(M.rs p).at_=IK M from RI.symm) ?_;refine AN (H5 (Ci (B8 0x812f424052780) (B8 0xf42405281280)) (Ci (AA 0x6f424052780) (AA 0xf42405200683e83200011 ha))) ?_;walk_at"d";refine AN (H5 (Ci (B8 0x812f424052780) (B8 0xf42405281280)) (Ci (AA 0x6f424052780) (AA 0xf4240520068102200011 hm))) ?_;walk_at"d";refine N0 h rfl hf.F hf.ok (by simp only[Ms.rs];exact Df 0x384323000309622303124201000333011 hs) λσ₁ s1=>?_;walk_at"d";refine Ae (show DZ FL E.Af (M.rs p).kn (M.rs p).pe base (8*(at_:Int)) (8*(m:Int)) (IK M)=some (x,s)from hx) ?_;simp only[SV];walk_at"d";refine SW s1.at_ rfl rfl (by simp only[Ms.rs];exact Df 0x384323000309622303124201000333011 hs) (by simp only[Ms.rs];exact Df 0xbe223020319622303124201000333011 hs) λq σ₂ s2=>?_;walk_at"d";have s3:Ds E (M.rs p) σ ((CD M s).rs q) σ₂:=s1.trans s2;have JM:(CD M s).sz<=150:=U5 hs;walk_at"d";refine MI JM s3.at_ hv hn (.inr rfl) hE λq' σ' s4=>hQ q' σ' (s3.trans s4)
end
theorem tC{σ rest:St}{kvs:List (Str×AV)}{x:Str}(v:AV)(hx:x∈Ft)(hl:kvs.length<=1000):
  FN (σ++(.sd false kvs:: .inst σ.length::rest)) x v (.ref (σ.length+1))=some (σ++(.sd false (Ib kvs x v):: .inst σ.length::rest)):=by
 have h1:(σ++(AO.sd false kvs:: .inst σ.length::rest))[σ.length+1]? =some (.inst σ.length):=by
  refine Ae (BE (by exact AA 0x1120030000)) ?_;simp
 have h2:(σ++(AO.sd false kvs:: .inst σ.length::rest))[σ.length]? =some (.sd false kvs):=by
  refine Ae (BE (by exact AA 0x0)) ?_;simp
 refine(MG h1 h2).trans ((if_pos ⟨rfl,hx,hl⟩).trans ?_);simp
theorem YG{k:Nat}{args:List AV}{σ:St}{Q:AV->St->Prop}{d:Oo}(hd:PG 34=some d)
  (h1:(d.params.length==(AV.ref (σ.length+1)::args).length&&Di d.scope)=true)
  (h:(I.at (By k) d.scope 1000).Pq d.body (d.params.zip (.ref (σ.length+1)::args)) (σ++[.sd false [],.inst σ.length]) (Qm (cK (σ.length+1) (PV Q)))):
  By (k+1) "Reading" args σ (PV Q):=by
 refine Ae VM ?_;refine Ae (if_pos rfl) (Ae (show Iv "Reading"=some 34 by kernel_rfl) ?_);show Bn (PG 34) _;refine Ae hd ?_;exact⟨h1,h⟩
noncomputable def N1(σ:St)(fa se:Nat)(Af order:Str):St:=σ++[.sd false (OK ⟨σ.length,fa,se,Af,order,[]⟩ 0 (σ.length+5)),.inst σ.length,.sd false [],.sd false [],.sd false [],.list false [],.list false [],.list false []]
theorem jS{k fa se:Nat}{Af:Str}{σ:St}{Q:AV->St->Prop}(hQ:Q (.ref (σ.length+1)) (N1 σ fa se Af "little")):By (k+1) "Reading" [.ref fa,.str Af,.ref se] σ (PV Q):=by
 refine YG (by rfl) (by kernel_rfl) ?_;walk_at"d"
 iterate 11
  (try simp only[Ao,AM,AP,ZJ,ZK,Cr,F8,if_false])
  refine Am (tC _ (by decide +kernel) (by simp)) ?_;walk_at"d"
 simp only[ZJ,ZK,Cr,F8,if_false,Ah,Al,Ar,BO,Ej];exact hQ
theorem Qcw{σ:St}{fa se:Nat}{Af order:Str}{F:List (Str×AV)}{z:Bool}(hf:σ[fa]? =some (.sd z F))(p:Nat)(hp:p=σ.length+5):
  At ⟨σ.length,fa,se,Af,order,F⟩ (Ms.rs ⟨0,none,[],[],[],[]⟩ p) (N1 σ fa se Af order):=by
 subst hp;have g:∀(n:Nat)(o:AO)(r:St),r[n]? =some o->(σ++r)[σ.length+n]? =some o:=λn o r h=>by
  refine Ae (BE (AQ 0x100030000)) (Ae (show σ.length+n-σ.length=n by exact BC 0x200022010310003211 (AE (AQ 0x100030000))) ?_);exact h
 refine⟨g 0 _ _ rfl,g 1 _ _ rfl,g 3 _ _ rfl,g 4 _ _ rfl,g 5 _ _ rfl,g 6 _ _ rfl,g 7 _ _ rfl,⟨z,BW hf⟩,.inl rfl,(Ak.mp hf).1⟩
theorem jT{σ:St}{fa se:Nat}{Af o order:Str}(τ:St):FN (N1 σ fa se Af o++τ) "order" (.str order) (.ref (σ.length+1))=some (N1 σ fa se Af order++τ):=by
 simp only[N1,Ao,AM,AP];refine Ae (tC _ (by decide +kernel) (by simp[OK])) ?_;simp[OK,ZJ,ZK,Cr]
theorem JX{σ:St}{l:List (Str×AV)}(hl:l.length<=1000000)(x:Str)(v:AV):Hv (σ++[AO.sd false l]) (.str x) v (.ref σ.length)=some (σ++[AO.sd false (Ib l x v)]):=by
 refine Ae (MH AJ hl ..) ?_;simp
noncomputable def Dy(l:List (Str×Str)):List (Str×AV):=CJ AV.fn l
noncomputable def OO:List (Str×Str):=[("payload","back_payload"),("meta","back_meta"),("ct","back_ct"),("immediate","back_immediate"),("bitwise","back_bitwise"),("shift","back_shift"),("byteorder","back_byteorder"),("hash","back_hash"),("cmp","back_cmp"),("range","back_range"),("lookup","back_lookup"),("map","back_map"),("vmap","back_vmap"),("verdict","back_same")]
noncomputable def GU:List (Str×Str):=[("counter","back_meter"),("quota","back_meter"),("limit","back_meter"),("object","back_same"),("dynset","back_dynset")]
noncomputable def Rb:List (Str×Str):=[("log","back_same"),("reject","back_same"),("notrack","back_same"),("payload_set","back_payload_set"),("meta_set","back_meta_set"),("ct_set","back_ct_set")]
theorem YH{k:Nat}{σ:St}{Q:AV->St->Prop}(hQ:Q (.ref σ.length) (σ++[.sd false (Dy OO)])):By (k+1) "back_core" [] σ (PV Q):=by
 refine BG 70 (by kernel_rfl) (by rfl) ?_;walk_at"d";refine NX (by kernel_rfl) ?_;walk_at"d"
 iterate 3
  refine Am (JX (by simp) _ _) ?_;walk_at"d"
 refine NX (by kernel_rfl) ?_;walk_at"d"
 iterate 3
  refine Am (JX (by simp) _ _) ?_;walk_at"d"
 refine NX (by kernel_rfl) ?_;walk_at"d"
 iterate 4
  refine Am (JX (by simp) _ _) ?_;walk_at"d"
 exact hQ
theorem T5{k:Nat}{σ:St}{Q:AV->St->Prop}(hQ:Q (.ref σ.length) (σ++[.sd false (Dy GU)])):By (k+1) "back_meters" [] σ (PV Q):=by
 refine BG 73 (by kernel_rfl) (by rfl) ?_;walk_at"d";refine NX (by kernel_rfl) ?_;walk_at"d"
 iterate 2
  refine Am (JX (by simp) _ _) ?_;walk_at"d"
 exact hQ
theorem YI{k:Nat}{σ:St}{Q:AV->St->Prop}(hQ:Q (.ref σ.length) (σ++[.sd false (Dy Rb)])):By (k+1) "back_acts" [] σ (PV Q):=by
 refine BG 78 (by kernel_rfl) (by rfl) ?_;walk_at"d";refine NX (by kernel_rfl) ?_;walk_at"d"
 iterate 3
  refine Am (JX (by simp) _ _) ?_;walk_at"d"
 exact hQ
noncomputable def QY(B G:List (Str×Str)):List (Str×Str):=G.foldl (λl p=>GF l p.1 p.2) B
def DT(E:Env)(B:List (Str×Str)):Ms->List AV->Ms->Prop
 |M,[],M'=>M=M'
 |M,row::r,M'=>∃op rest f M₁,row= .tup (.str op::rest)/\getL B op=some f/\Rd E f row M M₁/\DT E B {M₁ with at_:=M₁.at_+1} r M'
noncomputable def M0:Ms:=⟨0,none,[],[],[],[]⟩
noncomputable def Ku(gs:List (List (Str×Str))):List (Str×Str):=gs.foldl QY (QY OO GU)
def Jz(E:Env)(B:List (Str×Str))(M:Ms)(rows:List AV)(O:Res->Prop):Prop:=
 (∃M',DT E B M rows M'/\M'.sz<=150/\O (.val (.tup ((Mb M').st.map CC))))\/
 (∃pre op rest post M',rows=pre++AV.tup (.str op::rest)::post/\DT E B M pre M'/\getL B op=none/\op.length<=100/\O (.exc (Aa "no such row: "++op)))
theorem Jz.cons:∀{E:Env}{B:List (Str×Str)}{M:Ms}{row:AV}{r:List AV}{O:Res->Prop}(h:Jz E B M (row::r) O),(∃op rest f M₁,row= .tup (.str op::rest)/\getL B op=some f/\Rd E f row M M₁/\Jz E B {M₁ with at_:=M₁.at_+1} r O)\/
  (∃op rest,row= .tup (.str op::rest)/\getL B op=none/\op.length<=100/\O (.exc (Aa "no such row: "++op))):=by
 refine@(Fd nE nL We W2 nL nq ?_);generalize E2 .. =c;generalize c.1=E,c.2.1=B,c.2.2.1=M,c.2.2.2.1=row,c.2.2.2.2.1=r,c.2.2.2.2.2=O;intro h;rcases h with⟨M',⟨op,rest,f,M₁,e1,e2,e3,e4⟩,h2,h3⟩|⟨pre,op,rest,post,M',e,hc,h1,h2,h3⟩
 .exact .inl ⟨op,rest,f,M₁,e1,e2,e3,.inl ⟨M',e4,h2,h3⟩⟩
 .cases pre with
  |nil=>
   obtain⟨rfl,rfl⟩:=DM e;exact .inr ⟨op,rest,rfl,h1,h2,h3⟩
  |cons x pre=>
   obtain⟨rfl,rfl⟩:=DM e;obtain⟨op',rest',f,M₁,e1,e2,e3,e4⟩:=hc;exact .inl ⟨op',rest',f,M₁,e1,e2,e3,.inr ⟨pre,op,rest,post,M',rfl,e4,h1,h2,h3⟩⟩
structure After(σ:St)(fa:Nat)(F:List (Str×AV))(σ':St):Prop where
 len:σ.length<=σ'.length
 get:∀i,i<σ.length->i≠fa->σ'[i]? =σ[i]?
 fa:∃z,σ'[fa]? =some (.sd z F)
theorem At.modO{E:Env}{R:Rs}{σ:St}(h:At E R σ)(i:Nat)(f:AO->AO)(hi:i<E.b)(hf:i≠E.fa):At E R (σ.modify i f):=by
 have pl:=h.pl;have fl:=h.fl;refine⟨?_,?_,?_,?_,?_,?_,?_,?_,h.pl,h.fl⟩
 .refine Ae (AB (AQ 0x100031000111 hi)) ?_;exact h.a0
 .refine Ae (AB (AQ 0x1121030031000111 hi)) ?_;exact h.a1
 .refine Ae (AB (AQ 0x3121030031000111 hi)) ?_;exact h.a3
 .refine Ae (AB (AQ 0x4121030031000111 hi)) ?_;exact h.a4
 .refine Ae (AB (by lia)) ?_;exact h.a5
 .refine Ae (AB (AQ 0x6121030031000111 hi)) ?_;exact h.a6
 .refine Ae (AB (AQ 0x7121030031000111 hi)) ?_;exact h.a7
 .obtain⟨z,e⟩:=h.af;exact⟨z,by refine Ae (AB (by lia)) ?_;exact e⟩
theorem Qcx(σ:St)(xs:List AV):H3 σ .tuple [.tup xs]=some (.tup xs,σ):=(rfl)
theorem jU{σ:St}{xs ys:List AV}(h:xs.length+ys.length<=1000000):Gz σ .Add (.tup xs) (.tup ys)=some (.tup (xs++ys),σ):=(Qcp ..).trans (if_pos h)
theorem QZ:∀{k fa rw_ se:Nat}{Af order:Str}{σ:St}{Q:Res->St->Prop}{gs:List (Nat×List (Str×Str))}{pre:List AV}{z zs zr:Bool}{F:List (Str×AV)}{M':Ms}{rows:List AV}{O:Res->Prop}(Zs:σ[fa]? =some (.sd z F))(hse:σ[se]? =some (.sd zs []))(hrw:σ[rw_]? =some (.list zr rows))(n1:se≠fa)(n2:rw_≠fa)(n3:rw_≠se)(hgl:gs.length<=10)(W7:∀p∈gs,σ[p.1]? =some (.sd false (Dy p.2))/\p.2.length<=100/\∀q∈p.2,getL p.2 q.1=some q.2)(lE:Jz ⟨σ.length,fa,se,Af,order,F⟩ (Ku (gs.map CC)) M0 rows O)(hQ:∀r σ',O r->After σ fa F σ'->Q r σ'),By (k+8) "statements_of" [.ref fa,.str Af,.ref rw_,.ref se,.str order,.none,.tup (gs.map λp=> .ref p.1)] σ Q:=by
 refine@(Xe nN nN nN nN A8 A8 nL nQ nL ?_);generalize Ql .. =y;generalize y.1=k,y.2.1=fa,y.2.2.1=rw_,y.2.2.2.1=se,y.2.2.2.2.1=Af,y.2.2.2.2.2.1=order,y.2.2.2.2.2.2.1=σ,y.2.2.2.2.2.2.2.1=Q,y.2.2.2.2.2.2.2.2=gs;refine@(Ir nL nB nB nB nL We nL nq ?_);generalize G8 .. =y;generalize y.1=pre,y.2.1=z,y.2.2.1=zs,y.2.2.2.1=zr,y.2.2.2.2.1=F,y.2.2.2.2.2.1=M',y.2.2.2.2.2.2.1=rows,y.2.2.2.2.2.2.2=O;intro Zs hse hrw n1 n2 n3 hgl W7 lE hQ;refine BG 79 (by kernel_rfl) (by rfl) ?_;walk_at"d";refine jS ?_;walk_at"d";refine Am ((congrArg (λτ=>FN τ (Aa "order") (.str order) (.ref (σ.length+1))) (A7 _).symm).trans (jT [])) ?_;refine Ae (A7 ..) ?_;walk_at"d";refine YH ?_;walk_at"d";refine T5 ?_;walk_at"d";refine AN (Qcx ..) ?_;walk_at"d";refine AN (jU (by simp;exact AA 0xf4240520011230a1200011 hgl)) ?_;walk_at"d";have hlen:(N1 σ fa se Af order).length=σ.length+8:=by simp[N1]
 have hbk:(N1 σ fa se Af order++[AO.sd false (Dy OO)]++[AO.sd false (Dy GU)])[(N1 σ fa se Af order).length]? =some (.sd false (Dy OO)):=BW AJ;have hmt:(N1 σ fa se Af order++[AO.sd false (Dy OO)]++[AO.sd false (Dy GU)])[(N1 σ fa se Af order++[AO.sd false (Dy OO)]).length]? =some (.sd false (Dy GU)):=AJ;have GA:∀i o,σ[i]? =some o->(N1 σ fa se Af order++[AO.sd false (Dy OO)]++[AO.sd false (Dy GU)])[i]? =some o:=λi o h=>BW (BW (BW h));have RI:At ⟨σ.length,fa,se,Af,order,F⟩ (M0.rs (σ.length+5)) (N1 σ fa se Af order++[AO.sd false (Dy OO)]++[AO.sd false (Dy GU)]):=((Qcw Zs _ rfl).grow (.app _)).grow (.app _);have lY:(N1 σ fa se Af order++[AO.sd false (Dy OO)]).length=σ.length+9:=by simp[hlen]
 rw[hlen]at hbk;rw[lY]at hmt;simp only[hlen,lY];generalize (N1 σ fa se Af order++[AO.sd false (Dy OO)]++[AO.sd false (Dy GU)])=σ₂ at hbk hmt GA RI⊢;have hgs':∀p∈(σ.length+9,GU)::gs,σ₂[p.1]? =some (.sd false (Dy p.2))/\p.1≠σ.length+8/\p.2.length<=100/\∀q∈p.2,getL p.2 q.1=some q.2:=by
  intro p hp;rcases Au.mp hp with rfl|hp
  .exact⟨hmt,by simp only;exact AA 0x81200391200370,by show GU.length<=100;decide,by show∀q∈GU,getL GU q.1=some q.2;decide +kernel⟩
  .have:=(Ak.mp (W7 p hp).1).1;exact⟨GA _ _ (W7 p hp).1,by exact AQ 0x8121030031000111 this,(W7 p hp).2⟩
 refine Ae (show[AV.ref (σ.length+9)]++FW (λp=>AV.ref p.1) gs=((σ.length+9,GU)::gs).map (λp:Nat×List (Str×Str)=>AV.ref p.1)from rfl) ?_;generalize hgg:(σ.length+9,GU)::gs=gg at hgs'⊢;refine DR (λd w τ=>w=[(Aa "fields",.ref fa),(Aa "family",.str Af),(Aa "rows",.ref rw_),(Aa "sets",.ref se),(Aa "order",.str order),(Aa "cells",.none),(Aa "groups",.tup (gs.map λp=> .ref p.1)),(Aa "reading",.ref (σ.length+1)),(Aa "backs",.ref (σ.length+8))]/\
  τ[σ.length+8]? =some (.sd false (Dy (d.foldl (λB p=>QY B p.2) OO)))/\(d.foldl (λB p=>QY B p.2) OO).length<=14+100*d.length/\∀i,i≠σ.length+8->τ[i]? =σ₂[i]?) ⟨rfl,hbk,by decide,λa a=>rfl⟩ ?_ ?_
 .rintro d p r w τ K hK e ⟨rfl,h4,h5,h6⟩;have hp:=hgs' p (by refine Ae e ?_;simp);rw[Jw,Bu,Fc]at hK;generalize d.foldl (λB p=>QY B p.2) OO=B at h4 h5 hK;have hg:τ[p.1]? =some (.sd false (Dy p.2)):=by refine Ae (h6 _ hp.2.1) ?_;exact hp.1
  walk_at"d";refine Am (fU hg ..) ?_
  (rw[Dy];refine Ae (L4 ..) ?_)
  walk_at"d";refine DR (λd' w τ'=>w=[(Aa "fields",.ref fa),(Aa "family",.str Af),(Aa "rows",.ref rw_),(Aa "sets",.ref se),(Aa "order",.str order),(Aa "cells",.none),(Aa "groups",.tup (gs.map λp=> .ref p.1)),(Aa "reading",.ref (σ.length+1)),(Aa "backs",.ref (σ.length+8)),(Aa "group",.ref p.1)]/\
   τ'[σ.length+8]? =some (.sd false (Dy (QY B d')))/\(QY B d').length<=B.length+d'.length/\τ'[p.1]? =some (.sd true (Dy p.2))/\∀i,i≠σ.length+8->i≠p.1->τ'[i]? =σ₂[i]?)
   ⟨rfl,?_,AL _,?_,?_⟩ ?_ ?_
  ·(refine Ae (Ko ..) ?_;rw[AB (BV ?_)]);exact h4;exact BV hp.2.1
  .refine Ae (Ko ..) (Ae (C3 hg) ?_);rfl
  .intro i hi hi';refine Ae (Ko ..) (Ae (AB (BV hi')) ?_);exact h6 i hi
  .rintro d' q r' w τ' K' hK' e' ⟨rfl,k5,k6,k7,k8⟩;have hq:=hp.2.2.2 q (by refine Ae e' ?_;simp);have Pu:d'.length<p.2.length:=by refine Ae e' ?_;simp
   have hp100:=hp.2.2.1;have hdl:14+100*d.length<=2000:=by
    have:=congrArg AX e;have h2:=congrArg AX hgg;simp only[Ah,Al]at this h2;lia
   have hgt:=EU k7 q.1;rw[Dy,B6,hq,Bt]at hgt;have iD:=MH k5 (by(rw[Dy];refine Ae (Kq ..) ?_);exact RL 0xf4240523007d0322064224e123010040114010330012064224e1231001642200015 hp.2.2.1 h5 k6 Pu hdl) q.1 (.fn q.2);rw[Dy,OJ]at iD;have ea:QY B (d'++[q])=GF (QY B d') q.1 q.2:=by simp[QY]
   have sl:=JV (QY B d') q.1 q.2;walk_at"d";refine Am hgt ?_;walk_at"d";refine Am iD ?_;walk_at"d";refine hK' _ _ ⟨rfl,?_,?_,?_,?_⟩
   .refine Ae (B9 k5) (Ae ea ?_);rfl
   .refine Ae ea (Ae Ah ?_);simp only[Al,Ar];exact Df 0x11202320310330011200330012010300012 k6 sl
   .refine Ae (As (BV hp.2.1)) ?_;exact k7
   .intro i hi hi';refine Ae (As (BV hi)) ?_;exact k8 i hi hi'
  .rintro w τ' ⟨rfl,k5,k6,k7,k8⟩
   (refine Ae IF (Ae (C2 ..) (Ae (EQ hg) ?_));rw[AO.fz])
   walk_at"d";refine hK _ _ ⟨rfl,?_,?_,?_⟩
   .refine Ae (AB hp.2.1) ?_;exact k5
   .have:=hp.2.2.1;simp only[Ah,Al,Ar];exact Df 0x11202320364224e1233000010330012064224e1231001642200013 hp.2.2.1 h5 k6
   .intro i hi;by_cases c:p.1=i
    .subst c;refine Ae (C3 k7) (Ae hp.1 ?_);rfl
    .refine Ae (AB c) ?_;exact k8 i hi (BV c)
 .rintro w τ ⟨rfl,h4,h5,h6⟩;have hB:gg.foldl (λB p=>QY B p.2) OO=Ku (gs.map CC):=by
   (refine CV hgg (Ae Bu ?_);rw[Ku];exact Ae List.foldl_map rfl)
  rw[hB]at h4;generalize Ku (gs.map CC)=B at h4 lE;have v4:=(Ak.mp Zs).1;have lse:=(Ak.mp hse).1;have lrw:=(Ak.mp hrw).1;have hrw':τ[rw_]? =some (.list zr rows):=by refine Ae (h6 _ (by exact AQ 0x8121030031000111 lrw)) ?_;exact GA _ _ hrw
  have hat':At ⟨σ.length,fa,se,Af,order,F⟩ (M0.rs (σ.length+5)) τ:=by
   refine⟨?_,?_,?_,?_,?_,?_,?_,?_,RI.pl,RI.fl⟩
   .refine Ae (h6 _ (by simp only;exact AA 0x8120030030)) ?_;exact RI.a0
   .refine Ae (h6 _ (by simp only;exact AA 0x81200311200330)) ?_;exact RI.a1
   .refine Ae (h6 _ (by simp only;exact AA 0x81200331200330)) ?_;exact RI.a3
   .refine Ae (h6 _ (by simp only;exact AA 0x81200341200330)) ?_;exact RI.a4
   .refine Ae (h6 _ (by simp only[Ms.rs];exact AA 0x81200351200330)) ?_;exact RI.a5
   .refine Ae (h6 _ (by simp only;exact AA 0x81200361200330)) ?_;exact RI.a6
   .refine Ae (h6 _ (by simp only;exact AA 0x81200371200330)) ?_;exact RI.a7
   .obtain⟨z,e⟩:=RI.af;exact⟨z,by refine Ae (h6 _ (by simp only;exact AQ 0x8121030031000111 v4)) ?_;exact e⟩
  walk_at"d";refine Am (Fi hrw') ?_;walk_at"d";have hpre:∀i,i<σ.length->i≠fa->i≠rw_->(τ.modify rw_ (AO.El true))[i]? =σ[i]? :=λi hi a hi2=>by
   refine Ae (AB (BV hi2)) (Ae (h6 _ (by exact AQ 0x8121030031000111 hi)) (Ae (Ap hi) ?_));exact GA _ _ (Ap hi)
  have hrwt:(τ.modify rw_ (AO.El true))[rw_]? =some (.list true rows):=by refine Ae (C3 hrw') ?_;rfl
  have hbt:(τ.modify rw_ (AO.El true))[σ.length+8]? =some (.sd false (Dy B)):=by refine Ae (AB (by exact AQ 0x8121030031000111 lrw)) ?_;exact h4
  have hatt:At ⟨σ.length,fa,se,Af,order,F⟩ (M0.rs (σ.length+5)) (τ.modify rw_ (AO.El true)):=hat'.modO rw_ _ lrw n2;obtain⟨E,hE⟩:∃E:Env,E=⟨σ.length,fa,se,Af,order,F⟩:=⟨_,rfl⟩
  have eb:E.b=σ.length:=by exact Ae hE rfl
  have efa:E.fa=fa:=by exact Ae hE rfl
  have ese:E.se=se:=by exact Ae hE rfl
  have eF:E.F=F:=by exact Ae hE rfl
  rw[<-hE]at lE hatt;have aft:∀τ':St,σ.length<=τ'.length->(∀i,i<σ.length->i≠fa->i≠rw_->τ'[i]? =σ[i]?)->τ'[rw_]? =some (.list true rows)->(∃z,τ'[fa]? =some (.sd z F))->After σ fa F (τ'.modify rw_ (AO.El zr)):=by
   intro τ' hl hg hr hz;refine⟨by simpa using hl,λi hi hi1=>?_,?_⟩
   .by_cases c:rw_=i
    .subst c;refine Ae (C3 hr) (Ae hrw ?_);rfl
    .refine Ae (AB c) ?_;exact hg i hi hi1 (BV c)
   .obtain⟨z,e⟩:=hz;exact⟨z,by refine Ae (AB n2) ?_;exact e⟩
  refine sI (λrest w τ'=>w=[(Aa "fields",.ref fa),(Aa "family",.str Af),(Aa "rows",.ref rw_),(Aa "sets",.ref se),(Aa "order",.str order),(Aa "cells",.none),(Aa "groups",.tup (gs.map λp=> .ref p.1)),(Aa "reading",.ref (E.b+1)),(Aa "backs",.ref (σ.length+8))]/\∃M p,At E (M.rs p) τ'/\Jz E B M rest O/\τ'[σ.length+8]? =some (.sd false (Dy B))/\p≠σ.length+8/\
   (∀i,i<σ.length->i≠fa->i≠rw_->τ'[i]? =σ[i]?)/\τ'[rw_]? =some (.list true rows)) ⟨by exact Ae eb rfl,M0,σ.length+5,hatt,lE,hbt,by exact AA 0x81200351200330,hpre,hrwt⟩ ?_ ?_
  .rintro row rest w τ' K hK ⟨rfl,M,p,k1,k2,k3,k4,k5,k6⟩;have lt':=(Ak.mp k3).1;have lp:=k1.pl;rcases k2.cons with⟨op,tl,f,M₁,rfl,e2,e3,e4⟩|⟨op,tl,rfl,e2,e3,e4⟩
   .have hi:=Kr k3 op;have hg:=EU k3 op;rw[Dy,B6,e2]at hi hg;walk_at"d";refine Am hi ?_;refine Ae (Bt ..) (Ae Dc ?_);walk_at"d";refine Am hg ?_;walk_at"d";refine e3 (k+1) p τ' _ zs k1 (by refine Ae ese (Ae (k5 se lse n1 (BV n3)) ?_);exact hse) λp' σ₁ s1=>?_;walk_at"d";refine .inr ⟨_,_,_,rfl,rfl,?_⟩;walk_at"d";refine Am s1.at_.vG ?_;walk_at"d";refine Am (s1.at_.s_at _) ?_;have s2:=s1.trans (Ds.s_at s1.at_ (M₁.at_+1));walk_at"d";refine hK _ _ ⟨rfl,{M₁ with at_:=M₁.at_+1},p',s2.at_,e4,?_,?_,?_,?_⟩
    .exact(s2.keep _ (.inr (by exact AQ 0x81210381200301000211 eb)) (by simp only[Ms.rs];lia) (by exact AQ 0x10812003110812003111 lt')).trans k3
    .have:=s2.p;simp only[Ms.rs]at this;lia
    .intro i hi hi1 hi2;exact(s2.keep i (.inl ⟨by exact BC 0x2011020111000292 eb hi,by refine Ae efa ?_;exact hi1⟩) (by simp only[Ms.rs]at lp⊢;exact z14 eb lp hi) (by exact BC 0x1020100201110812003112 lt' hi)).trans (k5 i hi hi1 hi2)
    .exact(s2.keep rw_ (.inl ⟨by exact BC 0x200011020291000112 lrw eb,by refine Ae efa ?_;exact n2⟩) (by simp only[Ms.rs]at lp⊢;exact z14 eb lp lrw) (by exact BC 0x2000120812103111000112 lrw lt')).trans k6
   .have hi:=Kr k3 op;rw[Dy,B6,e2]at hi;walk_at"d";refine Am hi ?_;refine Ae (Dw ..) (Ae Cn ?_);walk_at"d";refine⟨_,_,_,_,rfl,rfl,?_⟩;walk_at"d";have hl3:(Aa "no such row: ").length<=20:=by decide +kernel
    refine AN (Ip (by exact AQ 0xf42405200103014221001642200012 e3 hl3)) ?_;walk_at"d"
    (refine Ae (EQ hrw') ?_;rw[AO.fz])
    exact hQ _ _ e4 (aft τ' (by exact AQ 0x1000010812003111 lt') k5 k6 (by obtain⟨z,e⟩:=k1.af;exact⟨z,by rw[efa,eF]at e;exact e⟩))
  .rintro w τ' ⟨rfl,M,p,k1,k2,k3,k4,k5,k6⟩;have lt':=(Ak.mp k3).1;have lp:=k1.pl;rcases k2 with⟨M',rfl,hs,hO⟩|⟨pre,op,tl,post,M',e,_⟩
   rotate_left
   .cases pre<;>cases e
   simp only[Ms.sz]at hs;have q1:=k1.modO rw_ (AO.El zr) (by exact BC 0x200011020291000112 lrw eb) (by refine Ae efa ?_;exact n2);have q2:=aft τ' (by exact AQ 0x1000010812003111 lt') k5 k6 (by obtain⟨z,e⟩:=k1.af;exact⟨z,by rw[efa,eF]at e;exact e⟩);rw[IF,C2,EQ hrw',AO.fz];generalize τ'.modify rw_ (AO.El zr)=τ₁ at q1 q2⊢;walk_at"d";refine fV q1 rfl rfl (by simp only[Ms.rs];exact Df 0x3e8323000309622303124201000333011 hs) (by simp only[Ms.rs];exact Df 0xbe223010319622303124201000333011 hs) λp' σ₃ s1=>?_;walk_at"d";have ls:=ED M.pe M.st;have e7:σ₃[E.b+7]? =some (.list false ((Mb M).st.map NY)):=s1.at_.a7;have iD:(Mb M).st.length<=1000:=by simp only[Mb];exact RL 0x3e8324003010340219622303124201000333012 hs ls
   walk_at"d";refine Am (s1.at_.K9 ..) ?_;walk_at"d";refine Am (Fi e7) ?_;generalize (Mb M).st=L at iD hO e7⊢;walk_at"d";refine JU (λd w acc τ=>w=[]/\τ=σ₃.modify (E.b+7) (AO.El true)/\acc=d.map CC) ⟨rfl,rfl,rfl⟩ ?_ ?_
   .rintro d x r w acc τ K hK e ⟨rfl,rfl,rfl⟩;have hd:d.length<=1000:=by have:=congrArg AX e;simp only[Ah,Al]at this;exact BC 0x3e83210011220310300293e83200012 iD this
    simp only[NY];walk_at"d";exact⟨by show _<=1000000;simp only[Aj];exact AA 0xf4240520003e83200011 hd,hK _ _ _ ⟨rfl,rfl,by simp⟩⟩
   .rintro w acc τ ⟨rfl,rfl,rfl⟩;refine⟨by show _<=1000000;simp only[Aj];exact AA 0xf4240520003e83200011 iD,?_⟩
    (refine Ae (C2 ..) (Ae (EQ e7) ?_);rw[AO.fz])
    walk_at"d";refine AN (Wa AJ (by simp only[Aj];exact AA 0xf4240520003e83200011 iD)) ?_;walk_at"d";refine hQ _ _ hO ?_;refine⟨?_,λi hi hi1=>?_,?_⟩
    .have:=q2.len;have:=s1.len;simp only[Ah,Gh];lia
    .refine Ae (BD (by have:=q2.len;have:=s1.len;simp only[Gh];lia)) (Ae (AB (by exact BC 0x2071200371020111000292 eb hi)) (Ae (AB (by exact BC 0x2071200371020111000292 eb hi)) ?_));rw[s1.keep i (.inl ⟨by exact BC 0x2011020111000292 eb hi,by rw[efa];exact hi1⟩) (by simp only[Ms.rs]at lp⊢;lia) (by have:=q2.len;exact BC 0x200012010011000112 hi this)];exact q2.get i hi hi1
    .obtain⟨z,e⟩:=s1.at_.af;rw[efa,eF]at e;exact⟨z,BW (by refine Ae (AB (by exact BC 0x71220371020291000112 v4 eb)) (Ae (AB (by exact BC 0x71220371020291000112 v4 eb)) ?_);exact e)⟩
noncomputable def Dk(ns:List Int)(p:Nat):Int:=(ns[p]?).getD 0
theorem Qcy{σ:St}{xs:List Int}(hl:xs.length<=1000000):H3 σ .len [.W4 xs]=some (.int xs.length,σ):=if_pos hl
theorem Wk{k p:Nat}{ns:List Int}{σ:St}{Q:AV->St->Prop}(hl:ns.length<=63)(hQ:Q (.int (Dk ns p)) σ):By (k+1) "_law_digit" [.W4 ns,.int p] σ (PV Q):=by
 refine BG 81 (by kernel_rfl) (by rfl) ?_;walk_at"d";refine AN (Qcy (AA 0xf4240520003f2200011 hl)) ?_;walk_at"d";refine Bq (λh=>?_) λh=>?_
 .have h':p<ns.length:=by exact AQ 0x10001106006911 h
  refine Am ((congrArg (Dd AV.int) (sM (AQ 0xf424052100006106913f2200012 hl h))).trans (by refine Ae (Ap h') ?_;rfl)) ?_;walk_at"d";simpa[Dk,h']using hQ
 .have h':¬p<ns.length:=by exact AQ 0x10005106006d11 h
  simpa[Dk,h']using hQ
noncomputable def OP(n:Int)(size:Nat):Int:=(n*210306068529402873165736369884012333109+6491872793560174470).fmod (256^size)
theorem YJ{k size:Nat}{n:Int}{σ:St}{Q:AV->St->Prop}(hn:fits n=true)(hs:size<=100)(hQ:Q (.int (OP n size)) σ):By (k+1) "_law_number" [.int n,.int size] σ (PV Q):=by
 refine BG 82 (by kernel_rfl) (by rfl) ?_;walk_at"d";refine AN (H5 hn (OM (n:=128) (by decide) (B8 0x1e848062802200))) ?_;walk_at"d";refine AN (YA (b:=(size:Int)) (AA 0x60280) (AA 0x3e8320068642200011 hs) (by decide)) ?_;walk_at"d";refine Ae (show(size:Int).toNat=size by exact AQ 0x10002106006a11 (Aw (AA 0x60280))) ?_;refine AN (QK (WS (Ed (by decide)))) ?_;walk_at"d";exact hQ
noncomputable def CG(n:Int)(size:Nat)(lit:Bool):List Int:=(BZ size).map λk=>(n.fdiv (256^(if lit then k else size-1-k))).fmod 256
theorem HB(n:Int)(size:Nat)(lit:Bool):IJ (CG n size lit):=by
 intro o ho;simp only[CG,D9]at ho;obtain⟨k,_,rfl⟩:=ho;exact⟨Bv _ (by decide),BN _ (by decide)⟩
theorem Dl(n:Int)(size:Nat)(lit:Bool):(CG n size lit).length=size:=by simp[CG]
noncomputable def E7(order host:Str):Bool:=order=="host"&&host=="little"
theorem Kv{j:Nat}(hj:j<=100):(256^j:Int)≠0/\((256:Int)^j).natAbs.log2<9000:=by
 refine⟨WS (Ed (by decide)),?_⟩;have e:((256:Int)^j).natAbs=2^(8*j):=by refine Ae (Int.natAbs_pow ..) (Ae (Zk ..) ?_);rfl
 refine Ae e (Ae Nat.log2_two_pow ?_);lia
theorem Qcz{c d:Prop}{_:Decidable c}{_:Decidable d}{A B:Prop}(h1:c->d->A)(h2:¬(c/\d)->B):if c then(if d then A else B)else B:=
 Bq (λx=>Bq (λy=>h1 x y) λy=>h2 λz=>y z.2) λx=>h2 λz=>x z.1
theorem IL:∀{k size:Nat}{n:Int}{order host:Str}{σ:St}{Q:AV->St->Prop}(hs:size<=100)(hQ:∀σ',Cy σ σ'->Q (.bytes (CG n size (E7 order host))) σ'),By (k+1) "_law_octets" [.int n,.int size,.str order,.str host] σ (PV Q):=by
 refine@(Hp nN nN nI A8 A8 nL nQ ?_);generalize GE .. =z;generalize z.1=k,z.2.1=size,z.2.2.1=n,z.2.2.2.1=order,z.2.2.2.2.1=host,z.2.2.2.2.2.1=σ,z.2.2.2.2.2.2=Q;intro hs hQ;refine BG 86 (by kernel_rfl) (by rfl) ?_;walk_at"d";have Q8:∀lit m,m<size->(CG n size lit)[m]? =some ((n.fdiv (256^(if lit then m else size-1-m))).fmod 256):=λlit m hm=>by
  simp only[CG,BK,H9 hm,Bt]
 refine Qcz (λc1 c2=>?_) λc=>?_
 .have e:E7 order host=true:=by refine Ae c1 (Ae c2 ?_);rfl
  refine Am (L6 (AA 0xf424052000642200011 hs)) ?_;walk_at"d";refine Hz (λm w acc τ=>w=[(Aa "n",.int n)]/\τ=σ/\acc=((CG n size true).take m).map .int) ⟨rfl,rfl,rfl⟩ ?_ ?_
  .rintro m w acc τ K hK hm ⟨rfl,rfl,rfl⟩;walk_at"d";refine AN (YA (b:=(m:Int)) (AA 0x60280) (AQ 0x3e8321068001011642200012 hs hm) (by decide)) ?_;refine Ae (show((m:Int)).toNat=m by exact AQ 0x10002106006a11 (Aw (AA 0x60280))) ?_;walk_at"d";refine AN (Qbr (Kv (AQ 0x6422100001011642200012 hs hm)).1 (Kv (AQ 0x6422100001011642200012 hs hm)).2) ?_;walk_at"d";refine AN (QK (by decide)) ?_;walk_at"d";refine⟨by show _<=1000000;refine Ae (Aj ..) (Ae Bx ?_);exact BC 0xf424052200102001001011642200013 hs hm (EM _ _),hK _ _ _ ⟨rfl,rfl,?_⟩⟩;refine Ae EY (Ae (Q8 true m hm) ?_);simp
  .rintro w acc τ ⟨rfl,rfl,rfl⟩;rw[DG (by rw[Dl];exact AA 0x0)];refine⟨by show _<=1000000;refine Ae (Aj ..) (Ae (Dl ..) ?_);exact AA 0xf424052000642200011 hs,?_⟩;refine Ae (IG ..) ?_;walk_at"d";refine AN (Wc AJ (HB _ _ _) (by refine Ae (Dl ..) ?_;exact AA 0xf424052000642200011 hs)) ?_;walk_at"d";refine CV e ?_;exact hQ _ (.app _)
 .have e:E7 order host=false:=by
   simp only[E7,Bool.and_eq_false_iff,beq_eq_false_iff_ne,ne_eq];exact Decidable.not_and_iff_or_not.mp c
  refine Am (L6 (AA 0xf424052000642200011 hs)) ?_;walk_at"d";refine Hz (λm w acc τ=>w=[(Aa "n",.int n),(Aa "size",.int size)]/\τ=σ/\acc=((CG n size false).take m).map .int) ⟨rfl,rfl,rfl⟩ ?_ ?_
  .rintro m w acc τ K hK hm ⟨rfl,rfl,rfl⟩;walk_at"d";refine AN (YA (b:=(size:Int)-1-m) (AQ 0x6112106550281000111 hm) (AQ 0x3e832106112006558642200011 hs) (by decide)) ?_;refine Ae (z7 size m) ?_;walk_at"d";refine AN (Qbr (Kv (BC 0x64221000011220321201001642200013 hs (Gf _ _) (AE (AQ 0x1011201000111 hm)))).1 (Kv (BC 0x64221000011220321201001642200013 hs (Gf _ _) (AE (AQ 0x1011201000111 hm)))).2) ?_;walk_at"d";refine AN (QK (by decide)) ?_;walk_at"d";refine⟨by show _<=1000000;refine Ae (Aj ..) (Ae Bx ?_);exact BC 0xf424052200102001001011642200013 hs hm (EM _ _),hK _ _ _ ⟨rfl,rfl,?_⟩⟩;refine Ae EY (Ae (Q8 false m hm) ?_);simp
  .rintro w acc τ ⟨rfl,rfl,rfl⟩;rw[DG (by rw[Dl];exact AA 0x0)];refine⟨by show _<=1000000;refine Ae (Aj ..) (Ae (Dl ..) ?_);exact AA 0xf424052000642200011 hs,?_⟩;refine Ae (IG ..) ?_;walk_at"d";refine AN (Wc AJ (HB _ _ _) (by refine Ae (Dl ..) ?_;exact AA 0xf424052000642200011 hs)) ?_;walk_at"d";refine CV e ?_;exact hQ _ (.app _)
noncomputable def C4:List (Str×List Nn):=[("vlan",[(Aa "ether type",33024)]),("arp",[(Aa "meta protocol",2054)]),("ip6",[(Aa "meta nfproto",10)]),("ip",[(Aa "meta nfproto",2)]),("tcp",[(Aa "meta l4proto",6)]),("udp",[(Aa "meta l4proto",17)]),("icmp",[(Aa "meta nfproto",2),(Aa "meta l4proto",1)])]
theorem xY{σ:St}{L:List AO}{n:Nat}{l:List (Str×AV)}{x:Str}{v:AV}(h:L[n]? =some (.sd false l))(hl:l.length<=1000000):Hv (σ++L) (.str x) v (.ref (σ.length+n))=some (σ++L.set n (.sd false (Ib l x v))):=by
 have e:(σ++L)[σ.length+n]? =some (.sd false l):=by
  refine Ae (BE (AQ 0x100030000)) (Ae (show σ.length+n-σ.length=n by exact BC 0x200022010310003211 (AE (AQ 0x100030000))) ?_);exact h
 exact Ae (MH e hl ..) (Ae (List.set_append_right _ _ (AQ 0x100030000)) (Ae (show σ.length+n-σ.length=n by exact BC 0x200022010310003211 (AE (AQ 0x100030000))) rfl))
theorem OQ{σ:St}{L:List AO}{n:Nat}{o:AO}(h:L[n]? =some o):(σ++L)[σ.length+n]? =some o:=by
 refine Ae (BE (AQ 0x100030000)) (Ae (show σ.length+n-σ.length=n by exact BC 0x200022010310003211 (AE (AQ 0x100030000))) ?_);exact h
theorem S4{σ:St}{i:Nat}{z:Bool}{x:AV}{xs:List AV}(h:σ[i]? =some (.list z (x::xs))):Jb σ (.ref i) (.int 0)=some x:=Io h 0
theorem tD{σ:St}{s t:Str}(h1:t.length≠0)(h2:s.length<=1000)(h3:(Gc s t).length<=1000):Lg σ .split (.str s) [.str t]=some (.ref σ.length,σ++[.list false ((Gc s t).map .str)]):=if_pos ⟨h1,h2,h3⟩
theorem Qd2(σ:St)(x y:Str)(v w:Int):EC σ .NotEq (.tup [.str x,.int v]) (.tup [.str y,.int w])=some (!(x==y&&v==w)):=congrArg (λb=>some (!(x==y&&b))) (FQ _)
noncomputable def Nu(n:Nn):Bool:= !(n.1=="meta nfproto"&&n.2==2)
noncomputable def Ca(Af h:Str):List Nn:=if Af="ip" then((getL C4 h).getD []).filter Nu else(getL C4 h).getD []
theorem f9{σ:St}{i:Nat}{z:Bool}{l:List (Str×AV)}(h:σ[i]? =some (.sd z l))(x:Str)(d:AV):Lg σ .get (.ref i) [.str x,d]=some ((EP l x).getD d,σ):=Np h
theorem Wm{σ:St}{i:Nat}{z:Bool}{l:List (Int×AV)}(h:σ[i]? =some (.RH z l))(x:Int)(d:AV):Lg σ .get (.ref i) [.int x,d]=some ((EP l x).getD d,σ):=SQ h
theorem gA{σ:St}{i:Nat}{z:Bool}{l:List (Str×AV)}(h:σ[i]? =some (.sd z l))(x:Str):Lg σ .get (.ref i) [.str x]=some ((EP l x).getD .none,σ):=Np h
noncomputable def tE(n:Nat):List (Str×AV):=[("vlan",.ref n),("arp",.ref (n+1)),("ip6",.ref (n+2)),("ip",.ref (n+4)),("tcp",.ref (n+5)),("udp",.ref (n+6)),("icmp",.ref (n+7))]
noncomputable def WL(n:Nat)(s:List AV):St:=[.list false [.tup [.str "ether type",.int 33024]],.list false [.tup [.str "meta protocol",.int 2054]],.list false [.tup [.str "meta nfproto",.int 10]],.sd false (tE n),.list false [.tup [.str "meta nfproto",.int 2]],
 .list false [.tup [.str "meta l4proto",.int 6]],.list false [.tup [.str "meta l4proto",.int 17]],.list false [.tup [.str "meta nfproto",.int 2],.tup [.str "meta l4proto",.int 1]],.list false s,.list false []]
theorem jV:∀(n:Nat)(s:List AV)(h:Str),∃m,(EP (tE n) h).getD (.ref (n+9))= .ref (n+m)/\(WL n s)[m]? =some (.list false (((getL C4 h).getD []).map Eg)):=by
 refine@(TN nN nL A8 ?_);generalize W1 .. =c;generalize c.1=n,c.2.1=s,c.2.2=h;by_cases h1:"vlan"=h
 .subst h1;exact⟨0,by kernel_rfl,by kernel_rfl⟩
 by_cases h2:"arp"=h
 .subst h2;exact⟨1,by kernel_rfl,by kernel_rfl⟩
 by_cases h3:"ip6"=h
 .subst h3;exact⟨2,by kernel_rfl,by kernel_rfl⟩
 by_cases h4:"ip"=h
 .subst h4;exact⟨4,by kernel_rfl,by kernel_rfl⟩
 by_cases h5:"tcp"=h
 .subst h5;exact⟨5,by kernel_rfl,by kernel_rfl⟩
 by_cases h6:"udp"=h
 .subst h6;exact⟨6,by kernel_rfl,by kernel_rfl⟩
 by_cases h7:"icmp"=h
 .subst h7;exact⟨7,by kernel_rfl,by kernel_rfl⟩
 exact⟨9,by simp[tE,Vo,Vp,h1,h2,h3,h4,h5,h6,h7],by simp[WL,C4,FC,Ef,h1,h2,h3,h4,h5,h6,h7]⟩
theorem Mc{τ:St}{j:Nat}{o:AO}(h:τ[j]? =some o)(hz:(o.El true).El false=o):(τ.modify j (AO.El true)).modify j (AO.El false)=τ:=by
 apply CS;intro i;by_cases c:j=i
 .subst c;exact Ae (C3 (C3 h)) (Ae hz (Ae h rfl))
 .exact Ae (AB c) (Ae (AB c) rfl)
theorem OR:∀{k:Nat}{Af name h:Str}{r:List Str}{σ:St}{Q:AV->St->Prop}(hs:Gc name " "=h::r)(hl:name.length<=1000)(hr:r.length<=900)(hQ:∀σ' j,Cy σ σ'->σ.length<=j->σ'[j]? =some (.list false ((Ca Af h).map Eg))->Q (.ref j) σ'),By (k+1) "_law_wants" [.str Af,.str name] σ (PV Q):=by
 refine@(Hp nN A8 A8 A8 nL nL nQ ?_);generalize GE .. =z;generalize z.1=k,z.2.1=Af,z.2.2.1=name,z.2.2.2.1=h,z.2.2.2.2.1=r,z.2.2.2.2.2.1=σ,z.2.2.2.2.2.2=Q;intro hs hl hr hQ;refine BG 84 (by kernel_rfl) (by rfl) ?_;walk_at"d"
 iterate 4
  simp only[Ao,AM,AP,Ah,Al,Ar,BO,Ej];refine Am (xY (n:=3) rfl (by simp)) ?_;simp only[List.set_cons_succ,List.set_cons_zero,Ao,AM,AP,Ah,Al,Ar,BO,Ej];walk_at"d"
 refine Am (V8 (OQ (n:=3) rfl)) ?_;walk_at"d";refine AN (tD (by decide +kernel) hl (by refine Ae hs ?_;simp;exact AA 0x3e7320003843200011 hr)) ?_;refine Ae hs ?_;walk_at"d";refine Am (S4 AJ) ?_;walk_at"d";simp only[Ao,AM,AP,Ah,Al,Ar,BO,Ej];refine AN (f9 (OQ (n:=3) rfl) _ _) ?_;have iD:∀K:AV->St->Prop,K ((EP (tE σ.length) h).getD (AV.ref (σ.length+9))) (σ++WL σ.length (AV.str h::r.map AV.str))->K ((EP (tE σ.length) h).getD (AV.ref (σ.length+9))) (σ++WL σ.length (AV.str h::r.map AV.str)):=λa h=>h;refine iD _ ?_;obtain⟨m,e1,e2⟩:=jV σ.length (AV.str h::r.map AV.str) h;refine Ae e1 ?_;have e3:=OQ (σ:=σ) e2;have g:Cy σ (σ++WL σ.length (AV.str h::r.map AV.str)):= .app _;generalize σ++WL σ.length (AV.str h::r.map AV.str)=τ at e3 g⊢;walk_at"d";refine Bq (λc=>?_) λc=>?_
 .refine Am (Fi e3) ?_;walk_at"d";have hlen:((getL C4 h).getD []).length<=2:=by
   cases hh:getL C4 h with
   |none=>simp
   |some N=>
    have:∀(l:List (Str×List Nn)),(∀p∈l,p.2.length<=2)->∀x N,getL l x=some N->N.length<=2:=by
     intro l;induction l with
     |nil=>intro _ x N e;cases e
     |cons p l ih=>
      obtain⟨y,v⟩:=p;intro hp x N e;rw[Ef]at e;by_cases c:y=x
      .rw[if_pos c]at e;cases e;exact hp (y,v) (.head _)
      .rw[if_neg c]at e;exact ih (λq hq=>hp q (.tail _ hq)) x N e
    exact this C4 (by decide +kernel) h N hh
  have hW:Ca Af h=((getL C4 h).getD []).filter Nu:=by simp only[Ca,c,if_true]
  rw[hW]at hQ;generalize (getL C4 h).getD []=N at e3 hlen hQ⊢;refine JU (λd w acc τ'=>w=[]/\τ'=τ.modify (σ.length+m) (AO.El true)/\acc=(d.filter Nu).map Eg) ⟨rfl,rfl,rfl⟩ ?_ ?_
  .rintro d n r' w acc τ' K hK e ⟨rfl,rfl,rfl⟩;have hd:d.length<=2:=by have:=congrArg AX e;simp only[Ah,Al]at this;exact BC 0x212100112203103002921200012 hlen this
   have hf:=Bm Nu d;rw[De]at hK;simp only[Eg];walk_at"d";refine Am (Qd2 ..) ?_;walk_at"d";refine Bq (λc2=>?_) λc2=>?_
   .exact⟨by show _<=1000000;refine Ae (Aj ..) ?_;exact AQ 0xf42405210000100121200012 hd hf,hK _ _ _ ⟨rfl,rfl,by simp[Nu,c2,Eg]⟩⟩
   .exact hK _ _ _ ⟨rfl,rfl,by simp[Nu,c2]⟩
  .rintro w acc τ' ⟨rfl,rfl,rfl⟩;have hf:=Bm Nu N;refine⟨by show _<=1000000;refine Ae (Aj ..) ?_;exact AQ 0xf42405210000100121200012 hlen hf,?_⟩
   (refine Ae (C2 ..) (Ae (EQ e3) ?_);rw[AO.fz];refine Ae (Mc e3 rfl) ?_)
   walk_at"d";exact hQ _ _ (g.trans (.app _)) g.len AJ
 .refine hQ _ _ g (AQ 0x100030000) ?_;refine Ae e3 ?_;simp only[Ca,c,if_false]
noncomputable def Nv(name:Str)(l4 nf:Option Int)(Af:Str):Str:=
 if name≠"th dport" then name else
 if l4=some 1/\(Af="ip"\/nf=some 2)then Aa "icmp checksum" else
 if l4=some 6 then Aa "tcp dport" else if l4=some 17 then Aa "udp dport" else name
noncomputable def pkO(K:List (Str×Int)):AO:= .sd false (CJ AV.int K)
theorem tF:∀{k i:Nat}{name Af:Str}{K:List (Str×Int)}{σ:St}{Q:AV->St->Prop}(hi:σ[i]? =some (pkO K))(hQ:∀σ',Cy σ σ'->Q (.str (Nv name (getL K "meta l4proto") (getL K "meta nfproto") Af)) σ'),By (k+1) "_law_port" [.str name,.ref i,.str Af] σ (PV Q):=by
 refine@(Hp nN nN A8 A8 nL nL nQ ?_);generalize GE .. =z;generalize z.1=k,z.2.1=i,z.2.2.1=name,z.2.2.2.1=Af,z.2.2.2.2.1=K,z.2.2.2.2.2.1=σ,z.2.2.2.2.2.2=Q;intro hi hQ;refine BG 87 (by kernel_rfl) (by rfl) ?_;walk_at"d";refine Am (V8 hi) ?_;walk_at"d";refine AN (f9 hi _ _) ?_;refine Ae (B6 ..) ?_;walk_at"d";refine Bq (λc=>?_) λc=>?_
 rotate_left
 .have:=hQ σ .rfl;simpa[Nv,c]using this
 subst c;refine Ae (show(Dd AV.int (getL K (Aa "meta l4proto"))).getD (AV.int 0)= .int ((getL K (Aa "meta l4proto")).getD 0) by cases getL K (Aa "meta l4proto")<;>rfl) ?_;generalize getL K (Aa "meta l4proto")=l4 at hQ⊢;have tail:¬(l4=some 1/\(Af="ip"\/getL K "meta nfproto"=some 2))->(EP [(6,AV.str (Aa "tcp dport")),(17,AV.str (Aa "udp dport"))] (l4.getD 0)).getD (.str (Aa "th dport"))= .str (Nv "th dport" l4 (getL K "meta nfproto") Af):=by
  intro hn;have Gk:¬(Aa "th dport"≠Aa "th dport"):=by simp
  simp only[Nv,Gk,if_false,hn];cases l4 with
  |none=>simp[Vo,Vp]
  |some v=>
   simp only[Fq,Vo,Vp,Cx];by_cases a:v=6
   .subst a;simp
   .by_cases b:v=17
    .subst b;simp
    .simp[a,b,BV a,BV b]
 have icm:l4=some 1/\(Af="ip"\/getL K "meta nfproto"=some 2)->Nv "th dport" l4 (getL K "meta nfproto") Af=Aa "icmp checksum":=by
  intro h;have Gk:¬(Aa "th dport"≠Aa "th dport"):=by simp
  (rw[Nv];exact Ae (if_neg Gk) (Ae (if_pos h) rfl))
 walk_at"d";refine Bq (λh1=>?_) λh1=>?_
 .have h1':l4=some 1:=by cases l4 with
   |none=>simp at h1
   |some v=>simpa using h1
  refine Bq (λh2=>?_) λh2=>?_
  .rw[icm ⟨h1',.inl h2⟩]at hQ;exact hQ σ .rfl
  .refine Am (V8 hi) ?_;walk_at"d";refine AN (gA hi _) ?_;refine Ae (B6 ..) ?_;cases h3:getL K (Aa "meta nfproto")with
   |none=>
    (refine Ae (Dw ..) ?_;rw[J9])
    walk_at"d";refine Am (V9 AJ) ?_;walk_at"d";refine AN (Wm (l:=[(6,.str "tcp dport"),(17,.str "udp dport")]) AJ _ _) ?_;refine Ae (tail (λh=>by rw[h3]at h;rcases h.2 with h|h;exact h2 h;cases h)) ?_;walk_at"d";exact hQ _ (.app _)
   |some v=>
    (refine Ae (Bt ..) ?_;rw[Fq])
    walk_at"d";refine Bq (λh4=>?_) λh4=>?_
    .rw[icm ⟨h1',.inr (by exact Ae h3 (Ae h4 rfl))⟩]at hQ;exact hQ σ .rfl
    .refine Am (V9 AJ) ?_;walk_at"d";refine AN (Wm (l:=[(6,.str "tcp dport"),(17,.str "udp dport")]) AJ _ _) ?_;refine Ae (tail (λh=>by rw[h3]at h;rcases h.2 with h|h;exact h2 h;exact h4 (by simpa using h))) ?_;walk_at"d";exact hQ _ (.app _)
 .refine Am (V9 AJ) ?_;walk_at"d";refine AN (Wm (l:=[(6,.str "tcp dport"),(17,.str "udp dport")]) AJ _ _) ?_;rw[tail (λh=>h1 (by rw[h.1];rfl))];walk_at"d";exact hQ _ (.app _)
structure gB(ro kn:Nat)(L:List AV)(K:List (Str×Int))(σ:St):Prop where
 r:σ[ro]? =some (.list false L)
 k:σ[kn]? =some (pkO K)
 ne:ro≠kn
structure Gb(ro kn:Nat)(σ:St)(L':List AV)(K':List (Str×Int))(σ':St):Prop where
 Fg:gB ro kn L' K' σ'
 len:σ.length<=σ'.length
 keep:∀i,i≠ro->i≠kn->i<σ.length->σ'[i]? =σ[i]?
theorem Gb.rfl{ro kn:Nat}{L:List AV}{K:List (Str×Int)}{σ:St}(h:gB ro kn L K σ):Gb ro kn σ L K σ:=⟨h,AL _,λa a a a=>_root_.rfl⟩
theorem Gb.trans{ro kn:Nat}{L L₁:List AV}{K K₁:List (Str×Int)}{σ σ₁ σ₂:St}(h:Gb ro kn σ L K σ₁)(k:Gb ro kn σ₁ L₁ K₁ σ₂):Gb ro kn σ L₁ K₁ σ₂:=
 ⟨k.Fg,AS h.len k.len,λi h1 h2 hl=>(k.keep i h1 h2 (DW hl h.len)).trans (h.keep i h1 h2 hl)⟩
theorem Gb.grow{ro kn:Nat}{L:List AV}{K:List (Str×Int)}{σ σ':St}(h:gB ro kn L K σ)(g:Cy σ σ'):Gb ro kn σ L K σ':=
 ⟨⟨g.get _ _ h.r,g.get _ _ h.k,h.ne⟩,g.len,λi a a hl=>by refine Ae (Ap hl) ?_;exact g.get _ _ (Ap hl)⟩
theorem Gb.row{ro kn:Nat}{L:List AV}{K:List (Str×Int)}{σ:St}(h:gB ro kn L K σ)(L':List AV):Gb ro kn σ L' K (σ.set ro (.list false L')):=
 ⟨⟨B9 h.r,by refine Ae (As h.ne) ?_;exact h.k,h.ne⟩,by simp,λi h1 a a=>As (BV h1)⟩
theorem Gb.know{ro kn:Nat}{L:List AV}{K:List (Str×Int)}{σ:St}(h:gB ro kn L K σ)(K':List (Str×Int)):Gb ro kn σ L K' (σ.set kn (pkO K')):=
 ⟨⟨by refine Ae (As (BV h.ne)) ?_;exact h.r,B9 h.k,h.ne⟩,by simp,λi a h1 a=>As (BV h1)⟩
noncomputable def IM(n:Int):Nat:=if 255<n then 2 else 1
noncomputable def S5(want:Str):Str:=⟨(want.cps.toList.drop 5).toArray⟩
noncomputable def E1(want:Str)(n:Int):List AV:=
 [if want="ether type" then .tup [.str "payload",.int 0,.str "link",.int 12,.int 2]else .tup [.str "meta",.int 0,.str (S5 want),.int (IM n),.str "big"],
  .tup [.str "cmp",.str "==",.int 0,.bytes (CG n (IM n) false)]]
theorem tG:∀{k ro kn:Nat}{L:List AV}{K:List (Str×Int)}{want:Str}{n:Int}{σ:St}{Q:AV->St->Prop}(h:gB ro kn L K σ)(hl:L.length<=1000)(hk:K.length<=1000)(hw:want.length<=1000)(hQ:∀σ',Gb ro kn σ (L++E1 want n) (GF K want n) σ'->Q .none σ'),By (k+2) "_law_ask" [.ref ro,.ref kn,.str want,.int n] σ (PV Q):=by
 refine@(Xe nN nN nN nL nL A8 nI nL nQ ?_);generalize Ql .. =c;generalize c.1=k,c.2.1=ro,c.2.2.1=kn,c.2.2.2.1=L,c.2.2.2.2.1=K,c.2.2.2.2.2.1=want,c.2.2.2.2.2.2.1=n,c.2.2.2.2.2.2.2.1=σ,c.2.2.2.2.2.2.2.2=Q;intro h hl hk hw hQ;refine BG 88 (by kernel_rfl) (by rfl) ?_;walk_at"d";have z0:LH σ (.str want) (some 5) none=some (.str (S5 want),σ):=(if_pos (show want.length<=1000000 by exact AA 0xf4240520003e83200011 hw)).trans rfl;have tail:∀(x:AV)(sz:Nat),E1 want n=[x,.tup [.str "cmp",.str "==",.int 0,.bytes (CG n sz false)]]->∀σ₁,Cy (σ.set ro (.list false (L++[x]))) σ₁->
   σ₁[ro]? =some (.list false (L++[x]))/\∃σ₃,Hv (σ₁.set ro (.list false (L++[x]++[.tup [.str "cmp",.str "==",.int 0,.bytes (CG n sz (E7 (Aa "big") (Aa "big")))]]))) (.str want) (.int n) (.ref kn)=some σ₃/\Q .none σ₃:=by
  intro x sz e σ₁ g;have s2:=(Gb.row h (L++[x])).trans (Gb.grow (Gb.row h (L++[x])).Fg g);refine⟨s2.Fg.r,?_⟩;rw[show E7 (Aa "big") (Aa "big")=false by decide +kernel,show L++[x]++[AV.tup [.str "cmp",.str "==",.int 0,.bytes (CG n sz false)]]=L++E1 want n by rw[e];simp];have s3:=s2.trans (Gb.row s2.Fg (L++E1 want n));have iD:=MH s3.Fg.k (by refine Ae (Kq ..) ?_;exact AA 0xf4240520003e83200011 hk) want (.int n);rw[OJ]at iD;exact⟨_,iD,hQ _ (s3.trans (Gb.know s3.Fg (GF K want n)))⟩
 have am:=λx=>Cf h.r (AA 0xf4240520003e83200011 hl) x;refine Bq (λc1=>?_) λc1=>?_
 .have a:IM n=2:=by simp only[IM,c1,if_true]
  refine Bq (λc2=>?_) λc2=>?_
  all_goals
   refine Am (BY h.r) ?_;walk_at"d"
   try (refine AN z0 ?_;walk_at"d")
   refine AN (am _) ?_;walk_at"d";refine Am (BY (B9 h.r)) ?_;walk_at"d";refine IL (size:=2) (by lia) λσ₁ g=>?_;walk_at"d";obtain⟨t1,σ₃,t2,t3⟩:=tail _ 2 (by first|(simp only[E1,a,c2,if_true];done)|(simp only[E1,a,c2,if_false];rfl)) σ₁ g;refine AN (Cf t1 (by simp;lia) _) ?_;walk_at"d";refine Am t2 ?_;walk_at"d";exact t3
 .have a:IM n=1:=by simp only[IM,c1,if_false]
  refine Bq (λc2=>?_) λc2=>?_
  all_goals
   refine Am (BY h.r) ?_;walk_at"d"
   try (refine AN z0 ?_;walk_at"d")
   refine AN (am _) ?_;walk_at"d";refine Am (BY (B9 h.r)) ?_;walk_at"d";refine IL (size:=1) (by lia) λσ₁ g=>?_;walk_at"d";obtain⟨t1,σ₃,t2,t3⟩:=tail _ 1 (by first|(simp only[E1,a,c2,if_true];done)|(simp only[E1,a,c2,if_false];rfl)) σ₁ g;refine AN (Cf t1 (by simp;lia) _) ?_;walk_at"d";refine Am t2 ?_;walk_at"d";exact t3
theorem Gb.WZ{ro kn:Nat}{L L':List AV}{K K':List (Str×Int)}{σ τ:St}(h0:gB ro kn L K σ)(h:Gb ro kn σ L' K' τ){i:Nat}(hi:σ.length<=i)(f:AO->AO):Gb ro kn σ L' K' (τ.modify i f):=by
 have l1:=(Ak.mp h0.r).1;have l2:=(Ak.mp h0.k).1;exact⟨⟨by refine Ae (AB (BC 0x201070020111000012 hi l1)) ?_;exact h.Fg.r,by refine Ae (AB (BC 0x201070020111000012 hi l2)) ?_;exact h.Fg.k,h.Fg.ne⟩,by simpa using h.len,λj a b c=>by refine Ae (AB (BC 0x201070020111000012 hi c)) ?_;exact h.keep j a b c⟩
noncomputable def Ie(p:List AV×List (Str×Int))(n:Nn):List AV×List (Str×Int):=if getL p.2 n.1=some n.2 then p else(p.1++E1 n.1 n.2,GF p.2 n.1 n.2)
noncomputable def DU(N:List Nn)(L:List AV)(K:List (Str×Int)):List AV×List (Str×Int):=N.foldl Ie (L,K)
theorem Kw(N:List Nn):∀L K,(DU N L K).1.length<=L.length+2*N.length/\(DU N L K).2.length<=K.length+N.length:=by
 induction N with
 |nil=>intro L K;exact⟨AL _,AL _⟩
 |cons n r ih=>
  intro L K;simp only[DU,Bu,Ie];split
  .have:=ih L K;simp only[DU]at this;simp only[Al];exact⟨BC 0x112203212410300020212410300011 this.1,BC 0x1122031030002010300011 this.2⟩
  .have:=ih (L++E1 n.1 n.2) (GF K n.1 n.2);have h2:=JV K n.1 n.2;simp only[DU,Ah,E1,Al,Ar]at this;simp only[Al,E1];exact⟨BC 0x11220321241030002021241121120233103300011 this.1,Df 0x11230310320030003200111210300012 h2 this.2⟩
noncomputable def CN(ta:Nat)(Af host:Str):AV:= .tup [.ref ta,.str Af,.str host]
theorem PU:∀{k ro kn ta:Nat}{L:List AV}{K:List (Str×Int)}{Af host name h:Str}{r:List Str}{σ:St}{Q:AV->St->Prop}(hp:gB ro kn L K σ)(hl:L.length<=900)(hk:K.length<=900)(hs:Gc name " "=h::r)(hn:name.length<=1000)(hr:r.length<=900)(hN:(Ca Af h).length<=2)(v3:∀n∈Ca Af h,n.1.length<=1000)(hQ:∀σ',Gb ro kn σ (DU (Ca Af h) L K).1 (DU (Ca Af h) L K).2 σ'->Q .none σ'),By (k+3) "_law_ask_all" [CN ta Af host,.ref ro,.ref kn,.str name] σ (PV Q):=by
 refine@(Hp nN nN nN nN nL nL A8 ?_);generalize GE .. =z;generalize z.1=k,z.2.1=ro,z.2.2.1=kn,z.2.2.2.1=ta,z.2.2.2.2.1=L,z.2.2.2.2.2.1=K,z.2.2.2.2.2.2=Af;refine@(Fd A8 A8 A8 nL nL nQ ?_);generalize E2 .. =z;generalize z.1=host,z.2.1=name,z.2.2.1=h,z.2.2.2.1=r,z.2.2.2.2.1=σ,z.2.2.2.2.2=Q;intro hp hl hk hs hn hr hN v3 hQ;refine BG 89 (by kernel_rfl) (by rfl) ?_;simp only[CN];walk_at"d";refine OR hs hn hr λσ₁ j g hj e1=>?_;have s1:=Gb.grow hp g;walk_at"d";refine Am (Fi e1) ?_;generalize Ca Af h=N at*;have s2:=Gb.WZ hp s1 hj (AO.El true);walk_at"d";refine DR (λd w τ=>w=[(Aa "world",.tup [.ref ta,.str Af,.str host]),(Aa "rows",.ref ro),(Aa "known",.ref kn),(Aa "name",.str name)]/\Gb ro kn σ (DU d L K).1 (DU d L K).2 τ) ⟨rfl,s2⟩ ?_ ?_
 .rintro d n r' w τ Kt hK e ⟨rfl,h3⟩;have hd:d.length<=2:=by have:=congrArg AX e;simp only[Ah,Al]at this;exact BC 0x212100112203103002921200012 hN this
  have Lr:=Kw d L K;have hnl:=v3 n (by refine Ae e ?_;simp);have ea:DU (d++[n]) L K=Ie (DU d L K) n:=by simp[DU]
  rw[ea]at hK;generalize DU d L K=p at h3 Lr hK;have ask:¬getL p.2 n.1=some n.2->∀σ₁,Gb ro kn τ (p.1++E1 n.1 n.2) (GF p.2 n.1 n.2) σ₁->Kt [(Aa "world",.tup [.ref ta,.str Af,.str host]),(Aa "rows",.ref ro),(Aa "known",.ref kn),(Aa "name",.str name)] σ₁:=by
   intro c σ₁ s;refine hK _ _ ⟨rfl,?_⟩;simp only[Ie,c,if_false];exact h3.trans s
  simp only[Eg];walk_at"d";refine Am (V8 h3.Fg.k) ?_;walk_at"d";refine AN (gA h3.Fg.k _) ?_;refine Ae (B6 ..) ?_;cases hg:getL p.2 n.1 with
  |none=>
   refine Ae (Dw ..) (Ae J9 ?_);walk_at"d";refine tG h3.Fg (BC 0x3e832200102124003200121210023843200013 hl hd Lr.1) (BC 0x3e83220010003200121210013843200013 hk hd Lr.2) hnl λσ₂ s=>?_;walk_at"d";exact ask (by refine Ae hg ?_;simp) _ s
  |some v=>
   refine Ae (Bt ..) (Ae Fq ?_);walk_at"d";refine Bq (λc=>?_) λc=>?_
   .refine hK _ _ ⟨rfl,?_⟩;have c2:getL p.2 n.1=some n.2:=by exact Ae hg (Ae c rfl)
    simp only[Ie,c2,if_true];exact h3
   .refine tG h3.Fg (BC 0x3e832200102124003200121210023843200013 hl hd Lr.1) (BC 0x3e83220010003200121210013843200013 hk hd Lr.2) hnl λσ₂ s=>?_;walk_at"d";exact ask (by refine Ae hg ?_;simpa using c) _ s
 .rintro w τ ⟨rfl,h3⟩
  (refine Ae IF (Ae (C2 ..) (Ae (EQ e1) ?_));rw[AO.fz])
  walk_at"d";exact hQ _ (Gb.WZ hp h3 hj _)
noncomputable def S6(a b:Nn):Bool:=a.1==b.1&& !(a.2==b.2)
noncomputable def Hq(A B:List Nn):List Bool:=A.flatMap λa=>B.map (S6 a)
noncomputable def EV(A B:List Nn):Bool:=(Hq A B).any id
theorem YK(bs:List Bool):boolsOf (bs.map .bool)=some bs:=by
 induction bs with
 |nil=>rfl
 |cons b r ih=>show(boolsOf (r.map .bool)).map (b:: ·)=_;refine Ae ih ?_;rfl
theorem QO(A B:List Nn):(Hq A B).length=A.length*B.length:=by
 induction A with
 |nil=>simp[Hq]
 |cons a r ih=>simp only[Hq,EZ,Ah,Aj]at ih⊢;exact Ae ih (Ae Al (Ae (Nat.succ_mul ..) (Ae (Ih ..) rfl)))
theorem xZ{σ:St}{i:Nat}{z:Bool}{bs:List Bool}(h:σ[i]? =some (.list z (bs.map .bool)))(hl:bs.length<=1000000):H3 σ .any [.ref i]=some (.bool (bs.any id),σ):=by
 refine(Cs h).trans ?_;refine Ae (YK ..) ?_;exact if_pos hl
theorem YL:∀{k i j:Nat}{A B:List Nn}{σ:St}{Q:AV->St->Prop}(hi:σ[i]? =some (.list false (A.map Eg)))(hj:σ[j]? =some (.list false (B.map Eg)))(Gk:i≠j)(ha:A.length<=10)(hb:B.length<=10)(hQ:∀σ',Cy σ σ'->Q (.bool (EV A B)) σ'),By (k+1) "_law_parted" [.ref i,.ref j] σ (PV Q):=by
 refine@(Hp nN nN nN nL nL nL nQ ?_);generalize GE .. =z;generalize z.1=k,z.2.1=i,z.2.2.1=j,z.2.2.2.1=A,z.2.2.2.2.1=B,z.2.2.2.2.2.1=σ,z.2.2.2.2.2.2=Q;intro hi hj Gk ha hb hQ;refine BG 85 (by kernel_rfl) (by rfl) ?_;walk_at"d";refine Am (Fi hi) ?_;walk_at"d";refine aB (λd w acc τ=>w=[(Aa "twos",.ref j)]/\τ=σ.modify i (AO.El true)/\acc=(Hq d B).map .bool) ⟨rfl,rfl,rfl⟩ ?_ ?_
 .refine@(Hp nL (np A8 nI) nL nL nL nL nQ3 ?_);generalize GE .. =z;generalize z.1=d,z.2.1=a,z.2.2.1=r,z.2.2.2.1=w,z.2.2.2.2.1=acc,z.2.2.2.2.2.1=τ,z.2.2.2.2.2.2=K;rintro hK e ⟨rfl,rfl,rfl⟩;have hj':(σ.modify i (AO.El true))[j]? =some (.list false (B.map Eg)):=by refine Ae (AB Gk) ?_;exact hj
  simp only[Eg];walk_at"d";refine Am (Fi hj') ?_;walk_at"d";refine Yu (λd' w acc τ=>w=[(Aa "twos",.ref j),(Aa "one",.tup [.str a.1,.int a.2])]/\τ=(σ.modify i (AO.El true)).modify j (AO.El true)/\acc=(Hq d B).map .bool++(d'.map (S6 a)).map .bool) ⟨rfl,rfl,by simp⟩ ?_ ?_
  .refine@(Hp nL (np A8 nI) nL nL nL nL nQ3 ?_);generalize GE .. =z;generalize z.1=d',z.2.1=b,z.2.2.1=r',z.2.2.2.1=w,z.2.2.2.2.1=acc,z.2.2.2.2.2.1=τ,z.2.2.2.2.2.2=K';rintro hK' e' ⟨rfl,rfl,rfl⟩;have hld:(Hq d B).length<=100:=by
    have:=congrArg AX e;simp only[Ah,Al]at this;refine Ae (QO ..) ?_;exact AS (TI (show d.length<=10 by exact BC 0xa121001122031030029a1200012 ha this) hb) (by decide)
   have hld':d'.length<=10:=by
    have:=congrArg AX e';simp only[Ah,Al]at this;exact BC 0xa121001122031030029a1200012 hb this
   have hlen:(FW AV.bool (Hq d B)++FW AV.bool (FW (S6 a) d')).length<=1000000:=by
    simp only[Ah,Aj];exact AQ 0xf424052100030a121001642200012 hld hld'
   simp only[Eg];walk_at"d";refine Bq (λc=>?_) λc=>?_
   .refine⟨hlen,hK' _ _ _ ⟨rfl,rfl,?_⟩⟩;simp only[Bg,AW,Ct,S6,c,Ht,Ao]
   .have c2:(a.1==b.1)=false:=by simpa using c
    refine⟨hlen,hK' _ _ _ ⟨rfl,rfl,?_⟩⟩;simp only[Bg,AW,Ct,S6,c2,IS,Ao]
  .refine@(TN nL nL nL ?_);generalize W1 .. =z;generalize z.1=w,z.2.1=acc,z.2.2=τ;rintro⟨rfl,rfl,rfl⟩;refine hK _ _ _ ⟨rfl,?_,?_⟩
   ·(refine Ae (C2 ..) (Ae (EQ hj') ?_);rw[AO.fz]);exact Mc hj' rfl
   .simp only[Hq,List.flatMap_append,EZ,Fs,A7,Bg]
 .refine@(TN nL nL nL ?_);generalize W1 .. =z;generalize z.1=w,z.2.1=acc,z.2.2=τ;rintro⟨rfl,rfl,rfl⟩;have hl:(Hq A B).length<=100:=by refine Ae (QO ..) ?_;exact TI ha hb
  refine⟨by show _<=1000000;refine Ae (Aj ..) ?_;exact AA 0xf424052000642200011 hl,?_⟩
  (refine Ae (C2 ..) (Ae (EQ hi) ?_);rw[AO.fz];refine Ae (Mc hi rfl) ?_)
  walk_at"d";refine AN (xZ AJ (AA 0xf424052000642200011 hl)) ?_;walk_at"d";exact hQ _ (.app _)
inductive Te
 |G6 (base:Str) (at_ size:Nat)
 |Eo (kind key dir:Str) (size:Nat) (order:Str)
theorem nTe:Nonempty Te:=⟨.G6 (Aa "") 0 0⟩
noncomputable def Kx:Te->AV
 | .G6 b a s=> .tup [.str "payload",.str b,.int a,.int s,.str "big"]
 | .Eo k key dir s o=> .tup [.str k,.str key,.str dir,.int s,.str o]
noncomputable def Te.size:Te->Nat
 | .G6 _ _ s=>s
 | .Eo _ _ _ s _=>s
noncomputable def Te.order:Te->Str
 | .G6 _ _ _=>"big"
 | .Eo _ _ _ _ o=>o
noncomputable def D6:Te->AV
 | .G6 b a s=> .tup [.str "payload",.int 0,.str b,.int a,.int s]
 | .Eo k key dir s o=>if k="meta" then .tup [.str "meta",.int 0,.str key,.int s,.str o]else .tup [.str "ct",.int 0,.str key,.str dir,.int s,.str o]
noncomputable def EW:List (Str×Int×Int):=[("ip dscp",252,2),("ip ecn",3,0),("tcp doff",240,4),("vlan id",4095,0)]
noncomputable def OS(p:Int×Int):AV:= .tup [.int p.1,.int p.2]
noncomputable def FP(name:Str)(size:Nat):List AV:=match getL EW name with
 |none=>[]
 |some (mask,down)=> .tup [.str "bitwise",.int 0,.int 0,.bytes (CG mask size false),.bytes (CG 0 size false)]::if 0<down then[.tup [.str "shift",.int 0,.int 0,.int size,.str "right",.int down]]else[]
theorem x9:∀{k ro kn ta:Nat}{L:List AV}{K:List (Str×Int)}{Af host name h:Str}{r:List Str}{TB:List (Str×Te)}{te:Te}{z:Bool}{σ:St}{Q:AV->St->Prop}(hp:gB ro kn L K σ)(hl:L.length<=800)(hk:K.length<=800)(hT:σ[ta]? =some (.sd z (CJ Kx TB)))(TR:getL TB name=some te)(vI:match te with| .G6 _ _ _=>True| .Eo kd _ _ _ _=>kd≠"payload"/\getL EW name=none)(JM:te.size<=16)(hs:Gc name " "=h::r)(hn:name.length<=1000)(hr:r.length<=900)(hN:(Ca Af h).length<=2)(v3:∀n∈Ca Af h,n.1.length<=1000)(hQ:∀σ',Gb ro kn σ ((DU (Ca Af h) L K).1++D6 te::FP name te.size) (DU (Ca Af h) L K).2 σ'->Q (.tup [.int te.size,.str te.order]) σ'),By (k+4) "_law_fetch" [CN ta Af host,.ref ro,.ref kn,.str name] σ (PV Q):=by
 refine@(Ir nN nN nN nN nL nL A8 A8 ?_);generalize G8 .. =y;generalize y.1=k,y.2.1=ro,y.2.2.1=kn,y.2.2.2.1=ta,y.2.2.2.2.1=L,y.2.2.2.2.2.1=K,y.2.2.2.2.2.2.1=Af,y.2.2.2.2.2.2.2=host;refine@(Ir A8 A8 nL nL nTe nB nL nQ ?_);generalize G8 .. =y;generalize y.1=name,y.2.1=h,y.2.2.1=r,y.2.2.2.1=TB,y.2.2.2.2.1=te,y.2.2.2.2.2.1=z,y.2.2.2.2.2.2.1=σ,y.2.2.2.2.2.2.2=Q;intro hp hl hk hT TR vI JM hs hn hr hN v3 hQ;refine BG 90 (by kernel_rfl) (by rfl) ?_;simp only[CN];walk_at"d";have hg:=EU hT name;rw[B6,TR,Bt]at hg;walk_at"d";refine Am hg ?_;cases te with
 |G6 b a s=>
  simp only[Kx];walk_at"d";refine PU (r:=r) hp (AA 0x384320003203200011 hl) (AA 0x384320003203200011 hk) hs hn hr hN v3 λσ₁ s1=>?_;walk_at"d";have Lr:=Kw (Ca Af h) L K;generalize DU (Ca Af h) L K=p at Lr s1 hQ;walk_at"d";refine Am (BY s1.Fg.r ..) ?_;walk_at"d";refine AN (Cf s1.Fg.r (BC 0xf424052200102124003200121210023203200013 hl hN Lr.1) ..) ?_;walk_at"d";have s2:=s1.trans (Gb.row s1.Fg (p.1++[D6 (.G6 b a s)]));refine Ae (show[(Aa "ip dscp",AV.tup [AV.int 252,AV.int 2]),(Aa "ip ecn",AV.tup [AV.int 3,AV.int 0]),(Aa "tcp doff",AV.tup [AV.int 240,AV.int 4]),(Aa "vlan id",AV.tup [AV.int 4095,AV.int 0])]=CJ OS EW from rfl) (Ae (show AV.tup [AV.str (Aa "payload"),AV.int 0,AV.str b,AV.int ↑a,AV.int ↑s]=D6 (.G6 b a s)from rfl) ?_);generalize σ₁.set ro (.list false (p.1++[D6 (.G6 b a s)]))=σ₂ at s2⊢;have hd:(σ₂++[AO.sd false (CJ OS EW)])[σ₂.length]? =some (.sd false (CJ OS EW)):=AJ;have hi:=PR hd name;have hx:=EU hd name;rw[B6]at hi hx;walk_at"d";refine Am (hi ..) ?_;refine Ae Pk ?_;have s3:=s2.trans (Gb.grow s2.Fg (.app [AO.sd false (CJ OS EW)]));simp only[FP]at hQ;cases hb:getL EW name with
  |none=>
   simp only[hb]at hQ;refine Ae Cn ?_;walk_at"d";exact hQ _ s3
  |some md=>
   obtain⟨mask,down⟩:=md;simp only[hb]at hQ;rw[hb]at hx;refine Ae Dc ?_;walk_at"d";refine Am hx ?_;simp only[OS];walk_at"d";have hlb:E7 (Aa "big") (Aa "big")=false:=by decide +kernel
   simp only[Te.size]at JM;refine IL (AA 0x6422000102200011 JM) λσ₃ g3=>?_;have s4:=s3.trans (Gb.grow s3.Fg g3);refine Ae hlb ?_;walk_at"d";refine Am (BY s4.Fg.r ..) ?_;walk_at"d";refine IL (AA 0x6422000102200011 JM) λσ₄ g4=>?_;walk_at"d";have s5:=s4.trans (Gb.grow s4.Fg g4);refine Ae hlb ?_;walk_at"d";refine AN (Cf s5.Fg.r (by simp;exact BC 0xf423f52200102124003200121210023203200013 hl hN Lr.1) ..) ?_;have s6:=s5.trans (Gb.row s5.Fg (p.1++[D6 (.G6 b a s)]++[.tup [.str "bitwise",.int 0,.int 0,.bytes (CG mask s false),.bytes (CG 0 s false)]]));walk_at"d";refine Bq (λc=>?_) λc=>?_
   .skip
    simp only[c,if_true,Te.size]at hQ;walk_at"d";refine Am (BY s6.Fg.r ..) ?_;walk_at"d";refine AN (Cf s6.Fg.r (by simp;exact BC 0xf423e52200102124003200121210023203200013 hl hN Lr.1) ..) ?_;walk_at"d";refine hQ _ ?_;have s7:=s6.trans (Gb.row s6.Fg (p.1++[D6 (.G6 b a s)]++[.tup [.str "bitwise",.int 0,.int 0,.bytes (CG mask s false),.bytes (CG 0 s false)]]++[.tup [.str "shift",.int 0,.int 0,.int s,.str "right",.int down]]));have e:p.1++[D6 (.G6 b a s)]++[AV.tup [.str "bitwise",.int 0,.int 0,.bytes (CG mask s false),.bytes (CG 0 s false)]]++[AV.tup [.str "shift",.int 0,.int 0,.int s,.str "right",.int down]]=p.1++D6 (.G6 b a s)::AV.tup [.str "bitwise",.int 0,.int 0,.bytes (CG mask s false),.bytes (CG 0 s false)]::[AV.tup [.str "shift",.int 0,.int 0,.int s,.str "right",.int down]]:=by simp
    rw[e]at s7⊢;exact s7
   .skip
    simp only[c,if_false,Te.size]at hQ;have e:p.1++[D6 (.G6 b a s)]++[AV.tup [.str "bitwise",.int 0,.int 0,.bytes (CG mask s false),.bytes (CG 0 s false)]]=p.1++D6 (.G6 b a s)::[AV.tup [.str "bitwise",.int 0,.int 0,.bytes (CG mask s false),.bytes (CG 0 s false)]]:=by simp
    rw[e]at s6⊢;exact hQ _ s6
 |Eo kd key dir s o=>
  obtain⟨MS,hb⟩:=vI;simp only[Kx];walk_at"d";refine PU (r:=r) hp (AA 0x384320003203200011 hl) (AA 0x384320003203200011 hk) hs hn hr hN v3 λσ₁ s1=>?_;walk_at"d";have Lr:=Kw (Ca Af h) L K;generalize DU (Ca Af h) L K=p at Lr s1 hQ;walk_at"d";refine H4 MS ?_;walk_at"d";refine Bq (λc=>?_) λc=>?_
  .skip
   walk_at"d";refine Am (BY s1.Fg.r ..) ?_;walk_at"d";refine AN (Cf s1.Fg.r (BC 0xf424052200102124003200121210023203200013 hl hN Lr.1) ..) ?_;walk_at"d";have s2:=s1.trans (Gb.row s1.Fg (p.1++[D6 (.Eo kd key dir s o)]));refine Ae (show[(Aa "ip dscp",AV.tup [AV.int 252,AV.int 2]),(Aa "ip ecn",AV.tup [AV.int 3,AV.int 0]),(Aa "tcp doff",AV.tup [AV.int 240,AV.int 4]),(Aa "vlan id",AV.tup [AV.int 4095,AV.int 0])]=CJ OS EW from rfl) (Ae (show AV.tup [AV.str (Aa "meta"),AV.int 0,AV.str key,AV.int ↑s,AV.str o]=D6 (.Eo kd key dir s o) by simp only[D6,c,if_true]) ?_);generalize σ₁.set ro (.list false (p.1++[D6 (.Eo kd key dir s o)]))=σ₂ at s2⊢;have hi:=PR (σ:=σ₂++[AO.sd false (CJ OS EW)]) AJ name;rw[B6,hb]at hi;walk_at"d";refine Am (hi ..) ?_;refine Ae (Dw ..) (Ae Cn ?_);walk_at"d";simp only[FP,hb]at hQ;exact hQ _ (s2.trans (Gb.grow s2.Fg (.app _)))
  .skip
   walk_at"d";refine Am (BY s1.Fg.r ..) ?_;walk_at"d";refine AN (Cf s1.Fg.r (BC 0xf424052200102124003200121210023203200013 hl hN Lr.1) ..) ?_;walk_at"d";have s2:=s1.trans (Gb.row s1.Fg (p.1++[D6 (.Eo kd key dir s o)]));refine Ae (show[(Aa "ip dscp",AV.tup [AV.int 252,AV.int 2]),(Aa "ip ecn",AV.tup [AV.int 3,AV.int 0]),(Aa "tcp doff",AV.tup [AV.int 240,AV.int 4]),(Aa "vlan id",AV.tup [AV.int 4095,AV.int 0])]=CJ OS EW from rfl) (Ae (show AV.tup [AV.str (Aa "ct"),AV.int 0,AV.str key,AV.str dir,AV.int ↑s,AV.str o]=D6 (.Eo kd key dir s o) by simp only[D6,c,if_false]) ?_);generalize σ₁.set ro (.list false (p.1++[D6 (.Eo kd key dir s o)]))=σ₂ at s2⊢;have hi:=PR (σ:=σ₂++[AO.sd false (CJ OS EW)]) AJ name;rw[B6,hb]at hi;walk_at"d";refine Am (hi ..) ?_;refine Ae (Dw ..) (Ae Cn ?_);walk_at"d";simp only[FP,hb]at hQ;exact hQ _ (s2.trans (Gb.grow s2.Fg (.app _)))
inductive Tg|mask|or|xor|shl|shr
noncomputable def vT:Tg->Str
 | .mask=>"mask"
 | .or=>"or"
 | .xor=>"xor"
 | .shl=>"shl"
 | .shr=>"shr"
inductive Ex
 |fld (x:Str)
 |op (t:Tg) (e:Ex) (n:Int)
noncomputable def HR:Ex->AV
 | .fld x=>Gp x
 | .op t e n=> .tup [.str (vT t),HR e,.int n]
noncomputable def Ex.name:Ex->Str
 | .fld x=>x
 | .op _ e _=>e.name
noncomputable def Ex.La(y:Str):Ex->Ex
 | .fld _=> .fld y
 | .op t e n=> .op t (e.La y) n
noncomputable def Ex.depth:Ex->Nat
 | .fld _=>0
 | .op _ e _=>e.depth+1
theorem QcA:vT .mask="mask":=rfl
theorem QcB:vT .or="or":=rfl
theorem QcC:vT .xor="xor":=rfl
theorem QcD:vT .shl="shl":=rfl
theorem QcE:vT .shr="shr":=rfl
theorem jW{x:Str}:HR (.fld x)=Gp x:=rfl
theorem jX{t:Tg}{e:Ex}{n:Int}:HR (.op t e n)= .tup [.str (vT t),HR e,.int n]:=rfl
theorem tH{x:Str}:(Ex.fld x).name=x:=rfl
theorem tJ{t:Tg}{e:Ex}{n:Int}:(Ex.op t e n).name=e.name:=rfl
theorem jY{x y:Str}:(Ex.fld x).La y= .fld y:=rfl
theorem jZ{y:Str}{t:Tg}{e:Ex}{n:Int}:(Ex.op t e n).La y= .op t (e.La y) n:=rfl
theorem j0{x:Str}:(Ex.fld x).depth=0:=rfl
theorem j4{t:Tg}{e:Ex}{n:Int}:(Ex.op t e n).depth=e.depth+1:=rfl
abbrev Tb:=List (Str×Te)
structure Wd where
 TB:Tb
 Af:Str
 host:Str
theorem nTg:Nonempty Tg:=⟨.mask⟩
theorem nWd:Nonempty Wd:=⟨⟨[],Aa "",Aa ""⟩⟩
abbrev Ps:=List AV×List (Str×Int)
noncomputable def IP(x:Str):Str:=((Gc x " ").head?).getD ""
noncomputable def Cc(TB:Tb)(x:Str):Te:=(getL TB x).getD (.G6 "" 0 0)
noncomputable def AC(Af x:Str):List Nn:=Ca Af (IP x)
noncomputable def Te.kl:Te->Nat
 | .G6 _ _ _=>0
 | .Eo k _ _ _ _=>k.length
noncomputable def aQ(TB:Tb)(Af x:Str):Bool:=(getL TB x).isSome&&(match Cc TB x with
  | .G6 _ _ _=>true
  | .Eo kd _ _ _ _=>kd != "payload"&&(getL EW x).isNone)&&decide (1<=(Cc TB x).size/\(Cc TB x).size<=16)&&((Cc TB x).order=="host"||(Cc TB x).order=="big")&&
 decide ((Gc x " ").length<=900)&& !(Gc x " ").isEmpty&&decide (x.length<=1000)&&decide ((AC Af x).length<=2)&&((AC Af x).all λn=>decide (n.1.length<=1000))&&decide ((Cc TB x).kl<=100)
noncomputable def Md(N:List Nn)(p:Ps):Ps:=DU N p.1 p.2
noncomputable def HS(W:Wd)(x:Str)(p:Ps):Ps:=((Md (AC W.Af x) p).1++D6 (Cc W.TB x)::FP x (Cc W.TB x).size,(Md (AC W.Af x) p).2)
theorem j6(x:Str)(s:Nat):(FP x s).length<=2:=by
 unfold FP;cases getL EW x with
 |none=>simp
 |some p=>simp only;split<;>simp
theorem S7(N:List Nn)(p:Ps):(Md N p).1.length<=p.1.length+2*N.length/\(Md N p).2.length<=p.2.length+N.length:=Kw N p.1 p.2
theorem aR{W:Wd}{x:Str}(h:(AC W.Af x).length<=2)(p:Ps):(HS W x p).1.length<=p.1.length+7/\(HS W x p).2.length<=p.2.length+2:=by
 have:=S7 (AC W.Af x) p;have:=j6 x (Cc W.TB x).size;simp only[HS,Ah,Al];lia
structure aS(TB:Tb)(Af x:Str):Prop where
 te:getL TB x=some (Cc TB x)
 Eo:match Cc TB x with| .G6 _ _ _=>True| .Eo kd _ _ _ _=>kd≠"payload"/\getL EW x=none
 s1:1<=(Cc TB x).size
 s2:(Cc TB x).size<=16
 ord:(Cc TB x).order="host"\/(Cc TB x).order="big"
 sp:∃r,Gc x " "=IP x::r/\r.length<=900
 ln:x.length<=1000
 wl:(AC Af x).length<=2
 wn:∀n∈AC Af x,n.1.length<=1000
 kl:(Cc TB x).kl<=100
theorem Wn:∀{TB:Tb}{Af x:Str}(h:aQ TB Af x=true),aS TB Af x:=by
 refine@(TN nL A8 A8 ?_);generalize W1 .. =z;generalize z.1=TB,z.2.1=Af,z.2.2=x;intro h;simp only[aQ,Av,decide_eq_true_eq,BX,beq_iff_eq,Az,Cw]at h;obtain⟨⟨⟨⟨⟨⟨⟨⟨⟨h1,h2⟩,h3⟩,h4⟩,h5⟩,h6⟩,h7⟩,h8⟩,h9⟩,vJ⟩:=h;refine⟨?_,?_,h3.1,h3.2,h4,?_,h7,h8,λn hn=>h9 n hn,vJ⟩
 .obtain⟨v,hv⟩:=Option.isSome_iff_exists.mp h1;simp[Cc,hv]
 .revert h2;cases Cc TB x with
  |G6=>intro _;trivial
  |Eo kd a b c d=>simp
 .cases e:Gc x " " with
  |nil=>rw[e]at h6;simp at h6
  |cons a r=>exact⟨r,by simp[IP,e],by rw[e]at h5;simp only[Al]at h5;exact AA 0x3843200038432112003011 h5⟩
theorem tK:∀{k ro kn ta:Nat}{p:Ps}{W:Wd}{name:Str}{z:Bool}{σ:St}{Q:AV->St->Prop}(hp:gB ro kn p.1 p.2 σ)(hl:p.1.length<=800)(hk:p.2.length<=800)(hT:σ[ta]? =some (.sd z (CJ Kx W.TB)))(ho:aS W.TB W.Af name)(hQ:∀σ',Gb ro kn σ (HS W name p).1 (HS W name p).2 σ'->Q (.tup [.int (Cc W.TB name).size,.str (Cc W.TB name).order]) σ'),By (k+4) "_law_fetch" [CN ta W.Af W.host,.ref ro,.ref kn,.str name] σ (PV Q):=by
 refine@(I8 nN nN nN nN (np nL nL) ?_);generalize Ke .. =y;generalize y.1=k,y.2.1=ro,y.2.2.1=kn,y.2.2.2.1=ta,y.2.2.2.2=p;refine@(I8 nWd A8 nB nL nQ ?_);generalize Ke .. =y;generalize y.1=W,y.2.1=name,y.2.2.1=z,y.2.2.2.1=σ,y.2.2.2.2=Q;intro hp hl hk hT ho hQ;obtain⟨r,h1,h2⟩:=ho.sp;obtain⟨t,ht⟩:∃t,t=Cc W.TB name:=⟨_,rfl⟩
 have a:=ho.te;have b:=ho.Eo;have c:=ho.s2;simp only[HS]at hQ;rw[<-ht]at a b c hQ;exact x9 hp hl hk hT a (by cases t<;>first|trivial|exact b) c h1 ho.ln h2 ho.wl ho.wn hQ
noncomputable def Bz(Af x:Str)(K:List (Str×Int)):Str:=Nv x (getL K "meta l4proto") (getL K "meta nfproto") Af
noncomputable def PW(size:Nat):AV:= .tup [.str "byteorder",.int 0,.int 0,.int size]
noncomputable def U6(size:Nat)(t:Str)(n:Int):AV:= .tup [.str "shift",.int 0,.int 0,.int size,.str t,.int n]
noncomputable def vU(size:Nat)(lit:Bool)(keep turn:Int):AV:= .tup [.str "bitwise",.int 0,.int 0,.bytes (CG keep size lit),.bytes (CG turn size lit)]
noncomputable def gC(host:Str)(size:Nat)(order:Str)(n:Int):Tg->List AV
 | .shl=>if order="host" then[PW size,U6 size "left" n,PW size]else[U6 size "left" n]
 | .shr=>if order="host" then[PW size,U6 size "right" n,PW size]else[U6 size "right" n]
 | .mask=>[vU size (E7 order host) n 0]
 | .or=>[vU size (E7 order host) (256^size-1-n) n]
 | .xor=>[vU size (E7 order host) (256^size-1) n]
theorem aT{h o:Str}{s:Nat}{n:Int}:gC h s o n .shl=if o="host" then[PW s,U6 s "left" n,PW s]else[U6 s "left" n]:=rfl
theorem aU{h o:Str}{s:Nat}{n:Int}:gC h s o n .shr=if o="host" then[PW s,U6 s "right" n,PW s]else[U6 s "right" n]:=rfl
theorem aV{h o:Str}{s:Nat}{n:Int}:gC h s o n .mask=[vU s (E7 o h) n 0]:=rfl
theorem aW{h o:Str}{s:Nat}{n:Int}:gC h s o n .or=[vU s (E7 o h) (256^s-1-n) n]:=rfl
theorem aX{h o:Str}{s:Nat}{n:Int}:gC h s o n .xor=[vU s (E7 o h) (256^s-1) n]:=rfl
theorem yA(host:Str)(size:Nat)(order:Str)(n:Int)(t:Tg):(gC host size order n t).length<=3:=by
 cases t<;>simp only[aV,aW,aX,aT,aU]<;>(try split)<;>simp
noncomputable def Hc(host:Str)(size:Nat)(order:Str):Ex->List AV
 | .fld _=>[]
 | .op t e n=>Hc host size order e++gC host size order n t
theorem aY{h o x:Str}{s:Nat}:Hc h s o (.fld x)=[]:=rfl
theorem YM{h o:Str}{s:Nat}{t:Tg}{e:Ex}{n:Int}:Hc h s o (.op t e n)=Hc h s o e++gC h s o n t:=rfl
theorem tM(host:Str)(size:Nat)(order:Str)(e:Ex):(Hc host size order e).length<=3*e.depth:=by
 induction e with
 |fld=>simp[aY,YM]
 |op t e n ih=>have:=yA host size order n t;simp only[aY,YM,Ah,j0,j4];exact BC 0x1121033124200030312200110312400012 ih this
noncomputable def HT(W:Wd)(e:Ex)(p:Ps):Ps:=
 ((HS W (Bz W.Af e.name p.2) p).1++Hc W.host (Cc W.TB (Bz W.Af e.name p.2)).size (Cc W.TB (Bz W.Af e.name p.2)).order e,(HS W (Bz W.Af e.name p.2) p).2)
theorem Me{W:Wd}{e:Ex}{p:Ps}(h:(AC W.Af (Bz W.Af e.name p.2)).length<=2):(HT W e p).1.length<=p.1.length+7+3*e.depth/\(HT W e p).2.length<=p.2.length+2:=by
 have:=aR h p;have:=tM W.host (Cc W.TB (Bz W.Af e.name p.2)).size (Cc W.TB (Bz W.Af e.name p.2)).order e;simp only[HT,Ah];lia
noncomputable def U7(W:Wd)(e:Ex)(p:Ps):AV:=
 .tup [HR (e.La (Bz W.Af e.name p.2)),.int (Cc W.TB (Bz W.Af e.name p.2)).size,.str (Cc W.TB (Bz W.Af e.name p.2)).order]
theorem Gb.tab{ro kn ta:Nat}{L:List AV}{K:List (Str×Int)}{σ σ':St}{o:AO}(h:Gb ro kn σ L K σ')(n1:ta≠ro)(n2:ta≠kn)(hT:σ[ta]? =some o):σ'[ta]? =some o:=by
 refine Ae (h.keep ta n1 n2 (Ak.mp hT).1) ?_;exact hT
theorem U8{σ:St}{i:Nat}{z:Bool}{L:List Str}(h:σ[i]? =some (.list z (L.map .str)))(x:Str):lR σ (.str x) (.ref i)=some (decide (x∈L)):=(Cs h).trans (by show(NG (L.map .str)).map _=_;refine Ae (S2 ..) ?_;rfl)
theorem aZ{σ:St}{i:Nat}{z:Bool}{a b:Str}(h:σ[i]? =some (.list z [.str a,.str b]))(x:Str):lR σ (.str x) (.ref i)=some (decide (x∈[a,b])):=U8 (L:=[a,b]) h x
theorem PX{σ:St}{i j:Nat}{z w:Bool}{a b:List AV}(h:σ[i]? =some (.list z a))(k:σ[j]? =some (.list w b))(hl:a.length+b.length<=1000000):
  Gz σ .Add (.ref i) (.ref j)=some (.ref σ.length,σ++[.list false (a++b)]):=(Cs h).trans ((Cs k).trans (if_pos hl))
theorem j7{σ:St}{i j:Nat}{z:Bool}{a b:List AV}(h:σ[i]? =some (.list false a))(k:σ[j]? =some (.list z b))(Gk:i≠j)(hl:a.length+b.length<=1000000):
  Lg σ .extend (.ref i) [.ref j]=some (.none,σ.set i (.list false (a++b))):=(Cs h).trans ((Cs k).trans (if_pos ⟨rfl,Gk,hl⟩))
theorem gD:∀{ro kn ta:Nat}{p:Ps}{W:Wd}{z:Bool}(hl:p.1.length<=700)(hk:p.2.length<=700),∀(e:Ex){f:Nat}{σ:St}{Q:AV->St->Prop},e.depth+5<=f->e.depth<=20->gB ro kn p.1 p.2 σ->
  σ[ta]? =some (.sd z (CJ Kx W.TB))->ta≠ro->ta≠kn->aS W.TB W.Af (Bz W.Af e.name p.2)->
  (∀σ',Gb ro kn σ (HT W e p).1 (HT W e p).2 σ'->Q (U7 W e p) σ')->
  By f "_law_value" [CN ta W.Af W.host,.ref ro,.ref kn,HR e] σ (PV Q):=by
 refine@(Fd nN nN nN (np nL nL) nWd nB ?_);generalize E2 .. =y;generalize y.1=ro,y.2.1=kn,y.2.2.1=ta,y.2.2.2.1=p,y.2.2.2.2.1=W,y.2.2.2.2.2=z;intro hl hk;intro e;induction e with
 |fld x=>
  intro f σ Q hf hd hp hT n1 n2 ho hQ;obtain⟨k,rfl⟩:∃k,f=k+5:=⟨f-5,(AE (AS (F0 ..) hf)).symm⟩
  refine BG 91 (by kernel_rfl) (by rfl) ?_;simp only[jW,jX,Gp,CN,j0,j4];walk_at"d";refine tF hp.k λσ₁ g=>?_;walk_at"d";have s1:=Gb.grow hp g;refine tK s1.Fg (AA 0x320320002bc3200011 hl) (AA 0x320320002bc3200011 hk) (s1.tab n1 n2 hT) ho λσ₂ s2=>?_;walk_at"d";have:=hQ σ₂;simp only[HT,aY,YM,A7,U7,jY,jZ,tH,tJ,jW,jX,Gp]at this;exact this (s1.trans s2)
 |op t e n ih=>
  intro f σ Q hf hd hp hT n1 n2 ho hQ;obtain⟨k,rfl⟩:∃k,f=k+6:=⟨f-6,(AE (AS (MB (F0 1 _) 5) hf)).symm⟩
  refine BG 91 (by kernel_rfl) (by rfl) ?_;simp only[jW,jX,Gp,CN,j0,j4];walk_at"d";have hta:¬vT t=Aa "field":=by cases t<;>decide +kernel
  refine H4 hta ?_;walk_at"d";refine ih (by simp only[j0,j4]at hf;exact AQ 0x51210351200306121035121120033011 hf) (by simp only[j0,j4]at hd;exact AA 0x14220001422112003011 hd) hp hT n1 n2 ho λσ₁ s1=>?_;simp only[U7];walk_at"d";refine Am (aZ AJ ..) ?_;have Lr:=Me (e:=e) (p:=p) ho.wl;have Pu:e.depth<=19:=by simp only[j0,j4]at hd;exact AA 0x13220001422112003011 hd
  have hz:=ho.s2;simp only[tH,tJ]at Lr hz;simp only[HT,aY,YM,tH,tJ]at hQ s1 Lr;simp only[U7,jY,jZ,tH,tJ,jW,jX]at hQ;generalize Cc W.TB (Bz W.Af e.name p.snd)=te at hQ s1 Lr hz⊢;simp only[<-Ao]at hQ;generalize (HS W (Bz W.Af e.name p.snd) p).1++Hc W.host te.size te.order e=L1 at hQ s1 Lr⊢;generalize (HS W (Bz W.Af e.name p.snd) p).snd=K1 at hQ s1 Lr⊢;have hln:L1.length<=800:=by exact BC 0x3203220010312471200332001132210032bc3200013 hl Pu Lr.1
  have sh:∀(x A:AV)(T:List AV)(σ₂:St)(i:Nat),Gb ro kn σ L1 K1 σ₂->σ₂[i]? =some (.list false T)->σ.length<=i->T.length<=1->(∀σ',Gb ro kn σ (L1++(T++[x]++T)) K1 σ'->Q A σ')->
    ∃a τ₁ b τ₂ τ₃,HN σ₂ "extend" (.ref ro)=some .extend/\Gz (σ₂++[.list false [x]]) .Add (.ref i) (.ref σ₂.length)=some (a,τ₁)/\Gz τ₁ .Add a (.ref i)=some (b,τ₂)/\Lg τ₂ .extend (.ref ro) [b]=some (.none,τ₃)/\Q A τ₃:=by
   intro x A T σ₂ i s2 hi hle hT1 hq;have hro:=(Ak.mp hp.r).1;have s3:=s2.trans (Gb.grow s2.Fg (((Cy.app [.list false [x]]).trans (.app [.list false (T++[x])])).trans (.app [.list false (T++[x]++T)])));exact⟨_,_,_,_,_,jK s2.Fg.r,PX (BW hi) AJ (by simp;exact AA 0xf423f5200011200011 hT1),PX AJ (BW (BW hi)) (by simp;exact AA 0xf424052001120033011200021 hT1),
    j7 s3.Fg.r AJ (by have:=s2.len;simp only[Ah];exact RL 0x403020330032010011000112 hro this) (by simp;exact AQ 0xf424052112103103003011210023203200012 hln hT1),hq _ (s3.trans (Gb.row s3.Fg _))⟩
  have s0:=s1.trans (Gb.grow s1.Fg ((Cy.app [.list false [.str (Aa "shl"),.str (Aa "shr")]]).trans (.app [.list false [PW te.size]])));have s9:=s1.trans (Gb.grow s1.Fg ((Cy.app [.list false [.str (Aa "shl"),.str (Aa "shr")]]).trans (.app [.list false []])));have hle:σ.length<=(σ₁++[AO.list false [.str (Aa "shl"),.str (Aa "shr")]]).length:=by have:=s1.len;simp;exact AQ 0x1121030001000011 this
  walk_at"d";cases t
  case shl=>
   simp only[QcA,QcB,QcC,QcD,QcE]at hQ⊢;refine Kp (by decide +kernel) ?_;simp only[aV,aW,aX,aT,aU,<-Ao]at hQ;walk_at"d";refine Bq (λc=>?_) λc=>?_
   .simp only[if_pos c]at hQ;obtain⟨a,τ₁,b,τ₂,τ₃,h1,h2,h3,h4,h5⟩:=sh (U6 te.size "left" n) _ _ _ _ s0 AJ hle (by simp) hQ;refine Am h1 ?_;walk_at"d";refine AN h2 ?_;walk_at"d";refine AN h3 ?_;walk_at"d";refine AN h4 ?_;walk_at"d";exact h5
   .simp only[if_neg c]at hQ;obtain⟨a,τ₁,b,τ₂,τ₃,h1,h2,h3,h4,h5⟩:=sh (U6 te.size "left" n) _ [] _ _ s9 AJ hle (by simp) (by simpa only[AP,A7]using hQ);refine Am h1 ?_;walk_at"d";refine AN h2 ?_;walk_at"d";refine AN h3 ?_;walk_at"d";refine AN h4 ?_;walk_at"d";exact h5
  case shr=>
   simp only[QcA,QcB,QcC,QcD,QcE]at hQ⊢;refine Kp (by decide +kernel) ?_;simp only[aV,aW,aX,aT,aU,<-Ao]at hQ;walk_at"d";refine Bq (λc=>?_) λc=>?_
   .simp only[if_pos c]at hQ;obtain⟨a,τ₁,b,τ₂,τ₃,h1,h2,h3,h4,h5⟩:=sh (U6 te.size "right" n) _ _ _ _ s0 AJ hle (by simp) hQ;refine Am h1 ?_;walk_at"d";refine AN h2 ?_;walk_at"d";refine AN h3 ?_;walk_at"d";refine AN h4 ?_;walk_at"d";exact h5
   .simp only[if_neg c]at hQ;obtain⟨a,τ₁,b,τ₂,τ₃,h1,h2,h3,h4,h5⟩:=sh (U6 te.size "right" n) _ [] _ _ s9 AJ hle (by simp) (by simpa only[AP,A7]using hQ);refine Am h1 ?_;walk_at"d";refine AN h2 ?_;walk_at"d";refine AN h3 ?_;walk_at"d";refine AN h4 ?_;walk_at"d";exact h5
  all_goals
   simp only[QcA,QcB,QcC,QcD,QcE]at hQ⊢;refine H4 (by decide +kernel) ?_;simp only[aV,aW,aX,aT,aU]at hQ;walk_at"d";refine AN (YA (b:=(te.size:Int)) (by lia) (by lia) (by decide)) ?_;refine Ae (show(te.size:Int).toNat=te.size by lia) ?_;walk_at"d";refine Ae (EU AJ ..) ?_;simp only[Vo,Vp,Cr,F8,if_true,if_false];have s2:=s1.trans (Gb.grow s1.Fg ((Cy.app [.list false [.str (Aa "shl"),.str (Aa "shr")]]).trans (.app [.sd false [(Aa "mask",.tup [.int n,.int 0]),(Aa "or",.tup [.int (256^te.size-1-n),.int n]),(Aa "xor",.tup [.int (256^te.size-1),.int n])]])));walk_at"d";refine IL (by lia) λσ₂ g2=>?_;have s3:=s2.trans (Gb.grow s2.Fg g2);walk_at"d";refine Am (BY s3.Fg.r) ?_;walk_at"d";refine IL (by lia) λσ₃ g3=>?_;have s4:=s3.trans (Gb.grow s3.Fg g3);walk_at"d";refine AN (Cf s4.Fg.r (by lia) _) ?_;walk_at"d";exact hQ _ (s4.trans (Gb.row s4.Fg _))
inductive Src
 |num (n:Int)
 |map (e:Ex) (m:Str)
 |val (e:Ex)
theorem Wo:Nonempty Src:=⟨.num 0⟩
noncomputable def Jl:Src->AV
 | .num n=> .tup [.str "num",.int n]
 | .map e m=> .tup [.str "map",HR e,.tup [.str "ref",.str m]]
 | .val e=>HR e
noncomputable def Src.La(f:Str->Str):Src->Src
 | .num n=> .num n
 | .map e m=> .map (e.La (f e.name)) m
 | .val e=> .val (e.La (f e.name))
noncomputable def N2:Te->AV
 | .G6 b a s=> .tup [.str "payload_set",.int 0,.str b,.int a,.int s]
 | .Eo k key _ s o=> .tup [.str (k++Aa "_set"),.int 0,.str key,.int s,.str o]
noncomputable def YN(bs:List Int):AV:= .tup [.str "immediate",.int 0,.bytes bs]
noncomputable def YO(wide:Nat)(way m:Str)(size:Nat)(order:Str):AV:= .tup [.str "map",.int 0,.tup [.tup [.int wide,.str way]],.str m,.int 0,.tup [.tup [.int size,.str order]]]
noncomputable def Lw(W:Wd)(x:Str)(q:Ps):Src->Ps
 | .num n=>(q.1++[YN (CG n (Cc W.TB x).size (E7 (Cc W.TB x).order W.host))],q.2)
 | .map e m=>((HT W e q).1++[YO (Cc W.TB (Bz W.Af e.name q.2)).size (Cc W.TB (Bz W.Af e.name q.2)).order m (Cc W.TB x).size (Cc W.TB x).order],(HT W e q).2)
 | .val e=>((HT W e q).1++(if(Cc W.TB (Bz W.Af e.name q.2)).order=(Cc W.TB x).order then[]else[PW (Cc W.TB x).size]),(HT W e q).2)
noncomputable def Wq(W:Wd)(x:Str)(s:Src)(p:Ps):Ps:=
 ((Lw W x (Md (AC W.Af x) p) s).1++[N2 (Cc W.TB x)],MV (Lw W x (Md (AC W.Af x) p) s).2 (Bz W.Af x (Lw W x (Md (AC W.Af x) p) s).2))
noncomputable def a8(x:Str)(s:Src):AV:= .tup [.str "set",.str x,Jl s]
noncomputable def j8(W:Wd)(x:Str)(s:Src)(p:Ps):Str:=Bz W.Af x (Lw W x (Md (AC W.Af x) p) s).2
noncomputable def j9(W:Wd)(x:Str)(s:Src)(p:Ps):Src:=s.La λy=>Bz W.Af y (Md (AC W.Af x) p).2
def tN(W:Wd)(q:Ps):Src->Prop
 | .num _=>True
 | .map e _=>aS W.TB W.Af (Bz W.Af e.name q.2)/\e.depth<=5
 | .val e=>aS W.TB W.Af (Bz W.Af e.name q.2)/\e.depth<=5
theorem tO{W:Wd}{x:Str}{q:Ps}{s:Src}(h:tN W q s):(Lw W x q s).1.length<=q.1.length+23/\(Lw W x q s).2.length<=q.2.length+2:=by
 cases s with
 |num n=>simp[Lw]
 |map e m=>
  have:=Me (e:=e) (p:=q) h.1.wl;have:=h.2;simp only[Lw,Ah,Al,Ar];lia
 |val e=>
  have:=Me (e:=e) (p:=q) h.1.wl;have:=h.2;simp only[Lw,Ah];split<;>simp only[Al,Ar]<;>lia
theorem tP(e:Ex):∃t r,HR e= .tup (.str t::r)/\t≠"num"/\t≠"map":=by
 cases e with
 |fld x=>exact⟨_,_,rfl,by decide +kernel,by decide +kernel⟩
 |op t e n=>exact⟨_,_,rfl,by cases t<;>decide +kernel,by cases t<;>decide +kernel⟩
noncomputable def Te.kind:Te->Str
 | .G6 _ _ _=>"payload"
 | .Eo k _ _ _ _=>k
noncomputable def Te.c1:Te->AV
 | .G6 b _ _=> .str b
 | .Eo _ k _ _ _=> .str k
noncomputable def Te.c2:Te->AV
 | .G6 _ a _=> .int a
 | .Eo _ _ d _ _=> .str d
theorem Ws(t:Te):Kx t= .tup [.str t.kind,t.c1,t.c2,.int t.size,.str t.order]:=by cases t<;>rfl
theorem Qd3:∀{k ro kn ta:Nat}{p:Ps}{W:Wd}{x:Str}{s:Src}{z:Bool}{σ:St}{Q:AV->St->Prop}(hl:p.1.length<=600)(hk:p.2.length<=600)(hp:gB ro kn p.1 p.2 σ)(hT:σ[ta]? =some (.sd z (CJ Kx W.TB)))(n1:ta≠ro)(n2:ta≠kn)(ho:aS W.TB W.Af x)(hs:tN W (Md (AC W.Af x) p) s)(hQ:∀σ',Gb ro kn σ (Wq W x s p).1 (Wq W x s p).2 σ'->Q (a8 (j8 W x s p) (j9 W x s p)) σ'),By (k+12) "_law_put" [CN ta W.Af W.host,.ref ro,.ref kn,.str x,Jl s] σ (PV Q):=by
 refine@(Fd nN nN nN nN (np nL nL) nWd ?_);generalize E2 .. =w;generalize w.1=k,w.2.1=ro,w.2.2.1=kn,w.2.2.2.1=ta,w.2.2.2.2.1=p,w.2.2.2.2.2=W;refine@(I8 A8 Wo nB nL nQ ?_);generalize Ke .. =w;generalize w.1=x,w.2.1=s,w.2.2.1=z,w.2.2.2.1=σ,w.2.2.2.2=Q;intro hl hk hp hT n1 n2 ho hs hQ;refine BG 92 (by kernel_rfl) (by rfl) ?_;simp only[CN];walk_at"d";have hg:=EU hT x;rw[B6,ho.te,Bt]at hg;walk_at"d";refine Am hg ?_;refine Ae (Ws ..) ?_;walk_at"d";obtain⟨r,h1,h2⟩:=ho.sp;refine PU (r:=r) hp (AA 0x384320002583200011 hl) (AA 0x384320002583200011 hk) h1 ho.ln h2 ho.wl ho.wn λσ₁ s1=>?_;have Lr:=S7 (AC W.Af x) p;have lF:=ho.wl;have hz:=ho.s2;have hkl:=ho.kl;rw[show DU (Ca W.Af (IP x)) p.1 p.2=Md (AC W.Af x) p from rfl]at s1;simp only[Wq,j8,j9]at hQ;generalize Md (AC W.Af x) p=q at hs hQ s1 Lr;have vI:=ho.Eo;generalize TR:Cc W.TB x=te at hQ hz hkl vI⊢;have er1:te.kind=Aa "payload"->AV.tup [.str "payload_set",.int 0,te.c1,te.c2,.int te.size]=N2 te:=by
  cases te
  .exactλa=>rfl
  .exactλh=>absurd h vI.1
 have er2:¬te.kind=Aa "payload"->AV.tup [.str (te.kind++Aa "_set"),.int 0,te.c1,.int te.size,.str te.order]=N2 te:=by
  cases te
  .exactλh=>absurd rfl h
  .exactλa=>rfl
 have hkl2:te.kind.length<=100:=by
  cases te
  .exact(by decide +kernel:(Aa "payload").length<=100)
  .exact hkl
 set_option tactic.hygienic true in cases s
 case' num n=>
  simp only[Jl];walk_at"d";refine Am (BY s1.Fg.r ..) ?_;walk_at"d";refine IL (AA 0x6422000102200011 hz) λσ₂ g2=>?_;have s2:=s1.trans (Gb.grow s1.Fg g2);walk_at"d";refine AN (Cf s2.Fg.r (BC 0xf424052200102124003200121210022583200013 hl lF Lr.1) ..) ?_;refine Ae (show AV.tup [AV.str (Aa "immediate"),AV.int 0,AV.bytes (CG n te.size (E7 te.order W.host))]=YN (CG n te.size (E7 te.order W.host))from rfl) ?_;walk_at"d";have s3:=s2.trans (Gb.row s2.Fg (q.1++[YN (CG n te.size (E7 te.order W.host))]));simp only[Lw,TR]at hQ;have hL:(q.1++[YN (CG n te.size (E7 te.order W.host))]).length<=700:=by simp only[Ah,Al,Ar];exact BC 0x2bc321120232030102124003200121210022583200013 hl lF Lr.1
  have hK:q.2.length<=700:=by exact BC 0x2bc3220010003200121210012583200013 hk lF Lr.2
  generalize σ₂.set ro (AO.list false (q.1++[YN (CG n te.size (E7 te.order W.host))]))=τ at s3⊢;generalize q.1++[YN (CG n te.size (E7 te.order W.host))]=L2 at hQ s3 hL;have hQ2:∀K2,K2=q.2->∀σ',Gb ro kn σ (L2++[N2 te]) (MV K2 (Bz W.Af x K2)) σ'->Q (a8 (Bz W.Af x K2) (.num n)) σ':=by rintro _ rfl;exact hQ
  obtain⟨K2,iE⟩:∃K2,K2=q.2:=⟨_,rfl⟩
  replace hQ2:=hQ2 K2 iE;rw[<-iE]at s3 hK
 case' map e m=>
  simp only[Jl];walk_at"d";refine gD (BC 0x2bc32200102124003200121210022583200013 hl lF Lr.1) (BC 0x2bc3220010003200121210012583200013 hk lF Lr.2) e (by have:=hs.2;exact AQ 0xb12103512003051200011 this) (by have:=hs.2;exact AA 0x142200051200011 this) s1.Fg (s1.tab n1 n2 hT) n1 n2 hs.1 λσ₂ s2=>?_;have hvl:=Me (e:=e) (p:=q) hs.1.wl;have hvd:=hs.2;simp only[U7];walk_at"d";have s2:=s1.trans s2;simp only[Lw,TR,Src.La]at hQ;generalize Cc W.TB (Bz W.Af e.name q.2)=lG at hQ⊢;walk_at"d";refine Am (BY s2.Fg.r ..) ?_;walk_at"d";refine AN (Cf s2.Fg.r (by lia) ..) ?_;refine Ae (show AV.tup [AV.str (Aa "map"),AV.int 0,AV.tup [AV.tup [AV.int lG.size,AV.str lG.order]],AV.str m,AV.int 0,AV.tup [AV.tup [AV.int te.size,AV.str te.order]]]=YO lG.size lG.order m te.size te.order from rfl) ?_;walk_at"d";have s3:=s2.trans (Gb.row s2.Fg ((HT W e q).1++[YO lG.size lG.order m te.size te.order]));have hL:((HT W e q).1++[YO lG.size lG.order m te.size te.order]).length<=700:=by simp only[Ah,Al,Ar];lia
  generalize σ₂.set ro (AO.list false ((HT W e q).1++[YO lG.size lG.order m te.size te.order]))=τ at s3⊢;generalize (HT W e q).1++[YO lG.size lG.order m te.size te.order]=L2 at hQ s3 hL;obtain⟨K2,iE⟩:∃K2,K2=(HT W e q).2:=⟨_,rfl⟩
  rw[<-iE]at s3 hvl hQ;have hK:K2.length<=700:=by exact Df 0x2bc32300212203300110003200121210012583200014 hk lF Lr.2 hvl.2
  have hQ2:=hQ
 case' val e=>
  obtain⟨t,r0,et,g1,g2⟩:=tP e;simp only[Jl];have hx:Jb σ₁ (HR e) (.int 0)=some (.str t):=by exact Ae et (Ae (rI ..) (Ae (xO ..) rfl))
  walk_at"d";refine Am hx ?_;walk_at"d";refine Ae (if_neg g1) ?_;walk_at"d";refine Am hx ?_;walk_at"d";refine Ae (if_neg g2) ?_;refine gD (BC 0x2bc32200102124003200121210022583200013 hl lF Lr.1) (BC 0x2bc3220010003200121210012583200013 hk lF Lr.2) e (by have:=hs.2;exact AQ 0xb12103512003051200011 this) (by have:=hs.2;exact AA 0x142200051200011 this) s1.Fg (s1.tab n1 n2 hT) n1 n2 hs.1 λσ₂ s2=>?_;have hvl:=Me (e:=e) (p:=q) hs.1.wl;have hvd:=hs.2;simp only[U7];walk_at"d";have s2:=s1.trans s2;simp only[Lw,TR,Src.La]at hQ;generalize Cc W.TB (Bz W.Af e.name q.2)=lG at hQ⊢;obtain⟨K2,iE⟩:∃K2,K2=(HT W e q).2:=⟨_,rfl⟩
  rw[<-iE]at s2 hvl hQ;have hK:K2.length<=700:=by exact Df 0x2bc32300212203300110003200121210012583200014 hk lF Lr.2 hvl.2
  split
  case' isFalse c=>
   rw[if_neg (by simpa using c)]at hQ;walk_at"d";refine Am (BY s2.Fg.r ..) ?_;walk_at"d";refine AN (Cf s2.Fg.r (by lia) ..) ?_;refine Ae (show AV.tup [AV.str (Aa "byteorder"),AV.int 0,AV.int 0,AV.int te.size]=PW te.size from rfl) ?_;walk_at"d";have s3:=s2.trans (Gb.row s2.Fg ((HT W e q).1++[PW te.size]));have hL:((HT W e q).1++[PW te.size]).length<=700:=by simp only[Ah,Al,Ar];lia
   generalize σ₂.set ro (AO.list false ((HT W e q).1++[PW te.size]))=τ at s3⊢;generalize (HT W e q).1++[PW te.size]=L2 at hQ s3 hL;have hQ2:=hQ
  case' isTrue c=>
   rw[if_pos (by simpa using c),A7]at hQ;have hL:(HT W e q).1.length<=700:=by lia
   generalize (HT W e q).1=L2 at hQ s2 hL;have s3:=s2;obtain⟨τ,hτ⟩:∃τ,τ=σ₂:=⟨_,rfl⟩
   rw[<-hτ]at s3⊢;have hQ2:=hQ
 all_goals
  split
  case' isTrue c=>
   walk_at"d";refine Am (BY s3.Fg.r ..) ?_;walk_at"d";refine Ae (er1 c) ?_
  case' isFalse c=>
   walk_at"d";refine Am (BY s3.Fg.r ..) ?_;walk_at"d";refine Ae vF (Ae (if_pos (by have:(Aa "_set").length<=100:=(by decide +kernel);lia)) ?_);walk_at"d";refine Ae (er2 c) ?_
  all_goals
   walk_at"d";refine AN (Cf s3.Fg.r (by lia) ..) ?_;walk_at"d";have s4:=s3.trans (Gb.row s3.Fg (L2++[N2 te]));generalize τ.set ro (.list false (L2++[N2 te]))=τ2 at s4⊢;refine tF s4.Fg.k λσ₅ g5=>?_;have s5:=s4.trans (Gb.grow s4.Fg g5);simp only[Bz]at hQ2;generalize Nv x (getL K2 (Aa "meta l4proto")) (getL K2 (Aa "meta nfproto")) W.Af=y at hQ2⊢;walk_at"d";refine Am (PR s5.Fg.k ..) ?_;refine Ae (B6 ..) ?_;cases hgy:getL K2 y with
   |none=>
    refine Ae (Dw ..) (Ae Cn ?_);walk_at"d";exact hQ2 _ (by refine Ae (U4 _ _ hgy) ?_;exact s5)
   |some v=>
    refine Ae (Bt ..) (Ae Dc ?_);walk_at"d";refine⟨_,_,_,rfl,?_⟩;walk_at"d";refine Am (fZ s5.Fg.k (by refine Ae (Kq ..) ?_;lia) (by refine Ae (B6 ..) (Ae hgy ?_);rfl) ..) ?_;refine Ae (Yv ..) ?_;walk_at"d";exact hQ2 _ (s5.trans (Gb.know s5.Fg _))
inductive Dr
 |FM (n:Nn)
 |set (x:Str) (s:Src)
 |Eo (op:Str) (r:List AV)
theorem Qex:Nonempty Dr:=⟨.FM (Aa "",0)⟩
noncomputable def Cj:Dr->AV
 | .FM n=>D5 n.1 n.2
 | .set x s=>a8 x s
 | .Eo op r=> .tup (.str op::r)
def vK(W:Wd):Src->Prop
 | .num _=>True
 | .map e _=>(∀K,aS W.TB W.Af (Bz W.Af e.name K))/\e.depth<=5
 | .val e=>(∀K,aS W.TB W.Af (Bz W.Af e.name K))/\e.depth<=5
theorem vK.ok{W:Wd}{s:Src}(h:vK W s)(q:Ps):tN W q s:=by
 cases s with
 |num n=>trivial
 |map e m=>exact⟨h.1 _,h.2⟩
 |val e=>exact⟨h.1 _,h.2⟩
def S8(W:Wd):Dr->Prop
 | .FM n=>n.1.length<=1000
 | .set x s=>aS W.TB W.Af x/\vK W s
 | .Eo op _=>op≠"set"/\op≠"match"
abbrev Qs:=Ps×List Dr
noncomputable def Cv(W:Wd)(q:Qs):Dr->Qs
 | .FM n=>((q.1.1++E1 n.1 n.2,GF q.1.2 n.1 n.2),q.2++[.FM n])
 | .set x s=>(Wq W x s q.1,q.2++[.set (j8 W x s q.1) (j9 W x s q.1)])
 | .Eo op r=>((q.1.1++[.tup (.str op::r)],q.1.2),q.2++[.Eo op r])
noncomputable def C0(W:Wd)(q:Qs)(l:List Dr):Qs:=l.foldl (Cv W) q
noncomputable def Dx(W:Wd)(l:List Dr):Qs:=C0 W (([],[]),[]) l
theorem tQ{W:Wd}{x:Str}{s:Src}{p:Ps}(ho:aS W.TB W.Af x)(hs:vK W s):(Wq W x s p).1.length<=p.1.length+28/\(Wq W x s p).2.length<=p.2.length+4:=by
 have h1:=S7 (AC W.Af x) p;have h2:=ho.wl;have h3:=tO (x:=x) (hs.ok (Md (AC W.Af x) p));simp only[Wq,Ah,Al,Ar];have h4:=Yw (Lw W x (Md (AC W.Af x) p) s).2 (Bz W.Af x (Lw W x (Md (AC W.Af x) p) s).2);exact⟨Df 0x1c22103112023303017220033001212200220212410300013 h1.1 h2 h3.1,RL 0x412103400304001212003300121220012010300014 h1.2 h2 h3.2 h4⟩
theorem YQ{W:Wd}{q:Qs}{s:Dr}(h:S8 W s):(Cv W q s).1.1.length<=q.1.1.length+28/\(Cv W q s).1.2.length<=q.1.2.length+4/\(Cv W q s).2.length=q.2.length+1:=by
 cases s with
 |FM n=>
  have:=JV q.1.2 n.1 n.2;simp only[Cv,E1,Ah,Al,Ar,and_true];exact⟨AA 0x1c22003112112023300300,AQ 0x41210300011210300011 this⟩
 |set x s=>
  have:=tQ (p:=q.1) h.1 h.2;simp only[Cv,Ah,Al,Ar,and_true];exact⟨AQ 0x1c221030001c2210300011 this.1,AQ 0x41210300041210300011 this.2⟩
 |Eo op r=>simp only[Cv,Ah,Al,Ar,and_true];exact⟨AA 0x1c2200311202300300,AA 0x4120030000⟩
theorem QP{W:Wd}(l:List Dr):∀{q:Qs},(∀s∈l,S8 W s)->(C0 W q l).1.1.length<=q.1.1.length+28*l.length/\(C0 W q l).1.2.length<=q.1.2.length+4*l.length/\(C0 W q l).2.length=q.2.length+l.length:=by
 induction l with
 |nil=>intro q _;exact⟨AL _,AL _,rfl⟩
 |cons s r ih=>
  intro q h;have h1:=YQ (q:=q) (h s (.head _));have h2:=ih (q:=Cv W q s) λt ht=>h t (.tail _ ht);simp only[C0,Bu,Al]at h2⊢;exact⟨Df 0x1123031c224103200301c22400320011c2210300012 h1.1 h2.1,Df 0x1123034124103200304124003200141210300012 h1.2.1 h2.2.1,Df 0x11230310320230003202111210300212 h1.2.2 h2.2.2⟩
theorem Qbt:∀{k ta si:Nat}{W:Wd}{l:List Dr}{z y:Bool}{σ:St}{Q:AV->St->Prop}(hT:σ[ta]? =some (.sd z (CJ Kx W.TB)))(hs:σ[si]? =some (.list y (l.map Cj)))(hl:l.length<=16)(hg:∀s∈l,S8 W s)(hQ:∀σ' i j,Cy σ σ'->σ.length<=i->σ.length<=j->i≠j->σ'[i]? =some (.list false (Dx W l).1.1)->σ'[j]? =some (.list false ((Dx W l).2.map Cj))->Q (.tup [.ref i,.ref j]) σ'),By (k+13) "_law_pen" [CN ta W.Af W.host,.ref si] σ (PV Q):=by
 refine@(Xe nN nN nN nWd nL nB nB nL nQ ?_);generalize Ql .. =v;generalize v.1=k,v.2.1=ta,v.2.2.1=si,v.2.2.2.1=W,v.2.2.2.2.1=l,v.2.2.2.2.2.1=z,v.2.2.2.2.2.2.1=y,v.2.2.2.2.2.2.2.1=σ,v.2.2.2.2.2.2.2.2=Q;intro hT hs hl hg hQ;have Gk:ta≠si:=by rintro rfl;rw[hT]at hs;simp at hs
 have lta:=(Ak.mp hT).1;have lsi:=(Ak.mp hs).1;refine BG 93 (by kernel_rfl) (by rfl) ?_;simp only[CN];walk_at"d";refine V6 [Aa "rows",Aa "known",Aa "told"] (by kernel_rfl) (by kernel_rfl) ?_;simp only[Eb,Ho,AP,AM];walk_at"d";have e0:(σ++[AO.list false []]++[AO.sd false []]++[AO.list false []])[si]? =some (.list y (l.map Cj)):=BW (BW (BW hs));refine Am (Fi e0) ?_;walk_at"d";simp only[Ah,Al,Ar,Ao,AM,AP,BO,Ei,Ej]at e0⊢;have e1:(σ++[AO.list false [],AO.sd false [],AO.list false []])[σ.length+0]? =some (.list false []):=OQ rfl;have e2:(σ++[AO.list false [],AO.sd false [],AO.list false []])[σ.length+1]? =some (.sd false []):=OQ rfl;have e3:(σ++[AO.list false [],AO.sd false [],AO.list false []])[σ.length+2]? =some (.list false []):=OQ rfl;have e4:∀i,i<σ.length->(σ++[AO.list false [],AO.sd false [],AO.list false []])[i]? =σ[i]? :=λi hi=>BD hi;have e5:σ.length<=(σ++[AO.list false [],AO.sd false [],AO.list false []]).length:=by simp
 generalize σ++[AO.list false [],AO.sd false [],AO.list false []]=σ₁ at e0 e1 e2 e3 e4 e5⊢;refine DR (λd w τ=>w=[(Aa "world",.tup [.ref ta,.str W.Af,.str W.host]),(Aa "statements",.ref si),(Aa "told",.ref (σ.length+2)),(Aa "known",.ref (σ.length+1)),(Aa "rows",.ref σ.length)]/\
  gB σ.length (σ.length+1) (Dx W d).1.1 (Dx W d).1.2 τ/\τ[σ.length+2]? =some (.list false ((Dx W d).2.map Cj))/\σ.length<=τ.length/\∀i,i<σ.length->τ[i]? =(σ.modify si (AO.El true))[i]?) ?_ ?_ ?_
 .refine⟨rfl,⟨?_,?_,by exact AA 0x1120030030⟩,?_,by simpa[Ko]using e5,λi hi=>?_⟩
  all_goals refine Ae (Ko ..) ?_
  .refine Ae (AB (AQ 0x100031000111 lsi)) ?_;exact e1
  .refine Ae (AB (AQ 0x1121030031000111 lsi)) ?_;exact e2
  .refine Ae (AB (AQ 0x2121030031000111 lsi)) ?_;exact e3
  .by_cases c:si=i
   .subst c;exact Ae (C3 e0) (Ae (C3 hs) rfl)
   .refine Ae (AB c) (Ae (AB c) ?_);exact e4 i hi
 .refine@(Fd nL Qex nL nL nL nQ ?_);generalize E2 .. =v;generalize v.1=d,v.2.1=s,v.2.2.1=r,v.2.2.2.1=w,v.2.2.2.2.1=τ,v.2.2.2.2.2=K;rintro hK e ⟨rfl,hp,h5,h6,h7⟩;have hd:d.length<=15:=by have:=congrArg AX e;simp only[Ah,Al]at this;exact BC 0xf121001122031030029102200012 hl this
  have W7:=hg s (by refine Ae e ?_;simp);have Lr:=QP (q:=(([],[]),[])) (W:=W) d λt ht=>hg t (by refine Ae e ?_;exact AD _ ht);have ea:Dx W (d++[s])=Cv W (Dx W d) s:=by simp[Dx,C0]
  rw[ea]at hK;simp only[<-Dx.eq_def,Ar,BO]at Lr;generalize Dx W d=q at h5 hp Lr hK;have fin:∀(q':Qs)(τ':St)(s':Dr),Gb σ.length (σ.length+1) τ q'.1.1 q'.1.2 τ'->q'.2=q.2++[s']->
    HN τ' "append" (.ref (σ.length+2))=some .append/\∃τ₂,Lg τ' .append (.ref (σ.length+2)) [Cj s']=some (.none,τ₂)/\
     (gB σ.length (σ.length+1) q'.1.1 q'.1.2 τ₂/\τ₂[σ.length+2]? =some (.list false (q'.2.map Cj))/\σ.length<=τ₂.length/\∀i,i<σ.length->τ₂[i]? =(σ.modify si (AO.El true))[i]?):=by
   intro q' τ' s' hP e';have l5:=(Ak.mp h5).1;have k5:=hP.keep (σ.length+2) (AA 0x21200370) (AA 0x11200321200370) l5;rw[h5]at k5;refine⟨BY k5,_,Cf k5 (by refine Ae (Aj ..) ?_;exact AQ 0xf424052100001021f1200012 hd Lr.2.2) _,⟨?_,?_,hP.Fg.ne⟩,?_,?_,λi hi=>?_⟩
   .refine Ae (As (AA 0x21200370)) ?_;exact hP.Fg.r
   .refine Ae (As (AA 0x11200321200370)) ?_;exact hP.Fg.k
   .refine Ae (B9 k5) (Ae e' (Ae Bg ?_));rfl
   .simpa using AS h6 hP.len
   .refine Ae (As (AQ 0x21210371000111 hi)) (Ae (hP.keep i (AQ 0x100031000111 hi) (AQ 0x1121030031000111 hi) (BC 0x1020100201110212003112 l5 hi)) ?_);exact h7 i hi
  cases s with
  |FM n=>
   simp only[Cj,D5];walk_at"d";refine tG hp (by lia) (AQ 0x3e8321000041241001f1200042 hd Lr.2.1) W7 λτ' hP=>?_;walk_at"d";obtain⟨f1,τ₂,f2,f3⟩:=fin (Cv W q (.FM n)) τ' (.FM n) hP rfl;refine Am f1 ?_;walk_at"d";refine AN f2 ?_;walk_at"d";exact hK _ _ ⟨rfl,f3⟩
  |set x s=>
   simp only[Cj,a8];walk_at"d";refine Am (BY h5) ?_;have hT':τ[ta]? =some (.sd z (CJ Kx W.TB)):=by rw[h7 ta lta,AB (BV Gk)];exact hT
   walk_at"d";refine Qd3 (by lia) (AQ 0x258321000041241001f1200042 hd Lr.2.1) hp hT' (AQ 0x100031000111 lta) (AQ 0x1121030031000111 lta) W7.1 (W7.2.ok _) λτ' hP=>?_;walk_at"d";obtain⟨f1,τ₂,f2,f3⟩:=fin (Cv W q (.set x s)) τ' (.set (j8 W x s q.1) (j9 W x s q.1)) hP rfl;refine AN f2 ?_;walk_at"d";exact hK _ _ ⟨rfl,f3⟩
  |Eo op r=>
   simp only[Cj];walk_at"d";refine H4 W7.1 ?_;walk_at"d";refine H4 W7.2 ?_;walk_at"d";refine Am (BY hp.r) ?_;walk_at"d";refine AN (Cf hp.r (by lia) _) ?_;walk_at"d";obtain⟨f1,τ₂,f2,f3⟩:=fin (Cv W q (.Eo op r)) _ (.Eo op r) (Gb.row hp (q.1.1++[AV.tup (AV.str op::r)])) rfl;refine Am f1 ?_;walk_at"d";refine AN f2 ?_;walk_at"d";exact hK _ _ ⟨rfl,f3⟩
 .refine@(MT nL nL ?_);generalize Uj .. =v;generalize v.1=w,v.2=τ;rintro⟨rfl,hp,h5,h6,h7⟩;rw[IF,C2,EQ e0,AO.fz];walk_at"d";refine hQ _ _ _ ⟨by simpa using h6,λi o hi=>?_⟩ (AL _) (AA 0x2120030000) (AA 0x2120030030) ?_ ?_
  .have li:=(Ak.mp hi).1;by_cases c:si=i
   .subst c;rw[hs]at hi;cases hi;rw[C3 (by rw[h7 _ li,C3 hs])];rfl
   .refine Ae (AB c) (Ae (h7 i li) (Ae (AB c) ?_));exact hi
  .refine Ae (AB (AQ 0x100031000111 lsi)) ?_;exact hp.r
  .refine Ae (AB (AQ 0x2121030031000111 lsi)) ?_;exact h5
noncomputable def pl:Nat->AV->Bool
 |0,_=>false
 |n+1,a=>AV.casesOn a false (λx=>false) (λx=>true) (λx=>true) (λx=>true) (λxs=>xs.all (pl n)) (λx=>false) (λx=>false) (λx=>false)
theorem FD(n:Nat)(i:Int):pl (n+1) (.int i)=true:=rfl
theorem FE(n:Nat)(i:Str):pl (n+1) (.str i)=true:=rfl
theorem Dz(n:Nat)(i:List Int):pl (n+1) (.bytes i)=true:=rfl
theorem FF(n:Nat)(xs:List AV):pl (n+1) (.tup xs)=xs.all (pl n):=rfl
theorem Wt{f:AV->AV->Option Bool}{g:AV->Bool}(ih:∀a b,g a=true->g b=true->∃r,f a b=some r/\(r=true↔a=b)):∀xs ys:List AV,xs.all g=true->ys.all g=true->∃r,Py f xs ys=some r/\(r=true↔xs=ys):=by
 intro xs;induction xs with
 |nil=>
  intro ys _ _;cases ys with
  |nil=>exact⟨true,rfl,⟨λh=>rfl,λh=>rfl⟩⟩
  |cons y r=>exact⟨false,rfl,⟨nofun,nofun⟩⟩
 |cons x r ih2=>
  intro ys h1 h2;cases ys with
  |nil=>exact⟨false,rfl,⟨nofun,nofun⟩⟩
  |cons y s=>
   simp only[CP,Av]at h1 h2;obtain⟨p,e1,q1⟩:=ih x y h1.1 h2.1;obtain⟨q,e2,q2⟩:=ih2 s h1.2 h2.2;refine⟨p&&q,?_,?_⟩
   .show(f x y).bind (λp=>(Py f r s).map λq=>p&&q)=_;refine Ae e1 (Ae e2 ?_);rfl
   .rw[Av,q1,q2,F9]
theorem a9{α:Type}[BEq α] [LawfulBEq α] {k:α->AV}(hk:∀x y,k x=k y->x=y)(x y:α):(x==y)=true↔k x=k y:=⟨λh=>congrArg k (eq_of_beq h),λh=>by refine Ae (hk _ _ h) ?_;exact beq_self_eq_true _⟩
theorem tR(σ:St):∀(n:Nat)(a b:AV),pl n a=true->pl n b=true->∃r,Pw σ n a b=some r/\(r=true↔a=b):=by
 intro n;induction n with
 |zero=>intro a b h;exact absurd h BM
 |succ n ih=>
  intro a b h1 h2;cases a<;>first
   |exact absurd h1 BM
   |(cases b<;>first
     |exact absurd h2 BM
     |exact⟨false,rfl,⟨nofun,nofun⟩⟩
     |exact⟨_,rfl,a9 (k:=AV.int) (λx x h=>by cases h;rfl) _ _⟩
     |exact⟨_,rfl,a9 (k:=AV.str) (λx x h=>by cases h;rfl) _ _⟩
     |exact⟨_,rfl,a9 (k:=AV.bytes) (λx x h=>by cases h;rfl) _ _⟩
     |(obtain⟨r,e,q⟩:=Wt ih _ _ h1 h2;exact⟨r,e,q.trans ⟨λh=>by exact Ae h rfl,λh=>by cases h;rfl⟩⟩))
theorem QcF{σ:St}{i j:Nat}{z w:Bool}{A B:List AV}(h:σ[i]? =some (.list z A))(k:σ[j]? =some (.list w B))(ha:A.all (pl 19)=true)(hb:B.all (pl 19)=true):
  ∃r,EC σ .Eq (.ref i) (.ref j)=some r/\(r=true↔A=B):=by
 obtain⟨r,e,q⟩:=Wt (tR σ 19) A B ha hb;exact⟨r,(Cs h).trans ((Cs k).trans e),q⟩
noncomputable def YR:Dr->Bool
 | .FM _=>true
 |_=>false
open Classical in
noncomputable def CT(W:Wd)(R:List AV):Nat->List Dr->List Dr
 |0,T=>T
 |p+1,T=>CT W R p (if(T[p]?.map YR)=some true/\(Dx W (T.take p++T.drop (p+1))).1.1=R then T.take p++T.drop (p+1)else T)
theorem Qd4(W:Wd)(R:List AV)(T:List Dr):CT W R 0 T=T:=rfl
open Classical in
theorem yB(W:Wd)(R:List AV)(p:Nat)(T:List Dr):CT W R (p+1) T=CT W R p (if(T[p]?.map YR)=some true/\(Dx W (T.take p++T.drop (p+1))).1.1=R then T.take p++T.drop (p+1)else T):=rfl
theorem ft_{p:Prop}(h:false=true):p:=Br h
noncomputable def Hd(W:Wd)(R:List AV)(T:List Dr):List Dr:=CT W R T.length T
theorem T6(n:Nat):JP ((n:Int)-1) (-1)=(BZ n).map λk:Nat=>AV.int ((n:Int)-1-k):=by
 simp only[JP,show((n:Int)-1- -1).toNat=n by exact AQ 0x10002112711210655006a11 (Aw (AA 0x1127112006550280))]
theorem yC:∀{k ta ri ti:Nat}{W:Wd}{R:List AV}{T:List Dr}{z y w:Bool}{σ:St}{Q:AV->St->Prop}(hT:σ[ta]? =some (.sd z (CJ Kx W.TB)))(hr:σ[ri]? =some (.list y R))(ht:σ[ti]? =some (.list w (T.map Cj)))(hR:R.all (pl 19)=true)(Qj:∀l:List Dr,l.length<=16->(∀s∈l,s∈T)->(Dx W l).1.1.all (pl 19)=true)(hl:T.length<=16)(hg:∀s∈T,S8 W s)(hQ:∀σ' i z,Cy σ σ'->σ'[i]? =some (.list z ((Hd W R T).map Cj))->Q (.ref i) σ'),By (k+14) "_law_least" [CN ta W.Af W.host,.ref ri,.ref ti] σ (PV Q):=by
 refine@(Fd nN nN nN nN nWd nL ?_);generalize E2 .. =q;generalize q.1=k,q.2.1=ta,q.2.2.1=ri,q.2.2.2.1=ti,q.2.2.2.2.1=W,q.2.2.2.2.2=R;refine@(Fd nL nB nB nB nL nQ ?_);generalize E2 .. =q;generalize q.1=T,q.2.1=z,q.2.2.1=y,q.2.2.2.1=w,q.2.2.2.2.1=σ,q.2.2.2.2.2=Q;intro hT hr ht hR Qj hl hg hQ;refine BG 94 (by kernel_rfl) (by rfl) ?_;simp only[CN];walk_at"d";refine AN (Ic ht (by refine Ae (Aj ..) ?_;exact AA 0xf424052000102200011 hl)) ?_;refine Ae (Aj ..) ?_;walk_at"d";refine Am (show mL [.int ((T.length:Int)-1),.int (-1),.int (-1)]=some (JP ((T.length:Int)-1) (-1))from(Vs _).trans (if_pos ⟨rfl,by exact AA 0x1120065f424052780,by exact AA 0xf42405211200658102200011 hl,by exact B8 0xf424052112780,by exact B8 0x1127f424052780⟩)) ?_;refine Ae (T6 ..) ?_;walk_at"d";refine DR (λd u τ=>Cy σ τ/\∃(t:Nat)(v:Bool)(T':List Dr),u=[(Aa "world",.tup [.ref ta,.str W.Af,.str W.host]),(Aa "rows",.ref ri),(Aa "told",.ref t)]/\τ[t]? =some (.list v (T'.map Cj))/\(∀s∈T',s∈T)/\T.length<=T'.length+d.length/\T'.length<=T.length/\CT W R (T.length-d.length) T'=Hd W R T)
  ⟨.rfl,ti,w,T,rfl,ht,λa h=>h,by simp,AL _,rfl⟩ ?_ ?_
 .refine@(Fd nL nN nL nL nL nQ ?_);generalize E2 .. =q;generalize q.1=d,q.2.1=x,q.2.2.1=r,q.2.2.2.1=u,q.2.2.2.2.1=τ,q.2.2.2.2.2=K;rintro hK e ⟨hgr,t,v,T',rfl,h4,h5,h6,v5,h7⟩;obtain⟨rfl,hx⟩:=QH e;simp only[BS]at h6 h7;obtain⟨p,hp⟩:∃p:Nat,T.length-x=p+1:=⟨T.length-x-1,z1 hx⟩
  refine Ae (show(T.length:Int)-1-(x:Int)=(p:Int) by exact Df 0x10620611230655a30200032911210300212 hp (AE (AQ 0x100001000111 hx))) ?_;simp only[Ah,BS,Al,Ar]at hK;rw[hp]at h7;rw[show T.length-(x+(0+1))=p by exact RL 0x10202403000329401120233032032111210300213 hp (AE (AQ 0x1011202300301000111 hx)) (AE (AQ 0x100001000111 hx))]at hK;rw[yB]at h7;have hpl':p<T'.length:=by exact RL 0x1040100203032111240330292010300013 h6 hp (AE (AQ 0x100001000111 hx))
  have hs:T'[p]? =some T'[p]:=Ap hpl';walk_at"d";refine AN (L7 h4 (by refine Ae (Aj ..) ?_;exact AQ 0xf424052100001001102200012 hl v5) _) ?_;walk_at"d";refine Ae (show(p:Int)+1=((p+1:Nat):Int) by exact AA 0x11200361120063a0) ?_;refine AN (SU (BW h4) (by refine Ae (Aj ..) ?_;exact AQ 0xf424052100001001102200012 hl v5) _) ?_;walk_at"d";refine AN (PX (BW AJ) AJ (by simp only[Bx,B7,Aj];exact RL 0xf4240524020301011230340321302001001001102200014 hl v5 (EM _ _) (AE (AQ 0x1011200301000111 hpl')))) ?_;refine CV Hu (CV NC (CV Bg ?_));generalize hless:T'.take p++T'.drop (p+1)=less at h7⊢;have hgl:=AJ (σ:=τ++[AO.list false ((T'.take p).map Cj)]++[AO.list false ((T'.drop (p+1)).map Cj)]) (o:= .list false (less.map Cj));have g2:Cy τ (τ++[AO.list false ((T'.take p).map Cj)]++[AO.list false ((T'.drop (p+1)).map Cj)]++[AO.list false (less.map Cj)]):=((Cy.app _).trans (.app _)).trans (.app _);generalize (τ++[AO.list false ((T'.take p).map Cj)]++[AO.list false ((T'.drop (p+1)).map Cj)]).length=li at hgl⊢;generalize τ++[AO.list false ((T'.take p).map Cj)]++[AO.list false ((T'.drop (p+1)).map Cj)]++[AO.list false (less.map Cj)]=τ2 at hgl g2⊢;have hls:∀s∈less,s∈T:=λs hs=>by
   rw[<-hless]at hs;rcases An.mp hs with h|h
   .exact h5 s (BU h)
   .exact h5 s (Cm h)
  have hll:less.length+1=T'.length:=by refine CV hless ?_;simp only[Ah,Bx,B7];omega
  walk_at"d";refine Am ((Et (g2.get _ _ h4) p (BC 0xf424052200102011001001102200013 hl v5 hpl')).trans (by refine Ae BK (Ae hs ?_);rfl)) ?_;walk_at"d";have hm:T'[p]∈T:=h5 _ (CL _);rw[hs]at h7;generalize T'[p]=s0 at hm h7⊢;obtain⟨tg,e1,e2⟩:∃tg:Str,Jb τ2 (Cj s0) (.int 0)=some (.str tg)/\(tg=Aa "match"↔YR s0=true):=by
   cases s0 with
   |FM n=>exact⟨_,rfl,λa=>rfl,λa=>rfl⟩
   |set x s=>exact⟨_,rfl,λh=>absurd h (by decide +kernel),λh=>ft_ h⟩
   |Eo op r=>exact⟨op,rfl,λh=>absurd h (hg _ hm).2,λh=>ft_ h⟩
  refine Am e1 ?_;walk_at"d";refine Bq (λc=>?_) λc=>?_
  .have hmat:=e2.mp c;have hT2:τ2[ta]? =some (.sd z (CJ Kx W.TB)):=(hgr.trans g2).get _ _ hT;refine Qbt hT2 hgl (BC 0x10222001011220321001001102200013 hl v5 hll) (λs h=>hg s (hls s h)) λσ₃ i j g3 a a a hi hj=>?_;walk_at"d";have g4:=(hgr.trans g2).trans g3;obtain⟨b,m1,m2⟩:=QcF hi (g4.get _ _ hr) (Qj less (BC 0x10222001011220321001001102200013 hl v5 hll) hls) hR;walk_at"d";refine Am (m1 ..) ?_;walk_at"d";cases b with
   |true=>
    rw[if_pos ⟨by simp[hmat],m2.mp rfl⟩]at h7;walk_at"d";exact hK _ _ ⟨g4,li,false,less,rfl,g3.get _ _ hgl,hls,by exact Df 0x11202320330300010112303292010300012 h6 hll,by exact BC 0x1020000112203211000012 v5 hll,h7⟩
   |false=>
    rw[if_neg (λh=>by have:=m2.mpr h.2;simp at this)]at h7;walk_at"d";exact hK _ _ ⟨g4,t,v,T',rfl,(g2.trans g3).get _ _ h4,h5,by exact BC 0x1120232031030002010300011 h6,v5,h7⟩
  .rw[if_neg (λh=>by have:=h.1;simp at this;exact c (e2.mpr this))]at h7;exact hK _ _ ⟨hgr.trans g2,t,v,T',rfl,g2.get _ _ h4,h5,by exact BC 0x1120232031030002010300011 h6,v5,h7⟩
 .refine@(MT nL nL ?_);generalize Uj .. =q;generalize q.1=u,q.2=τ;rintro⟨hgr,t,v,T',rfl,h4,h5,h6,v5,h7⟩;walk_at"d";rw[BS,Fn,Qd4]at h7;exact hQ _ _ _ hgr (by refine CV h7 ?_;exact h4)
noncomputable def gE:Res->AV
 | .val v=>v
 | .exc w=> .str w
theorem After.app{σ τ:St}{fa:Nat}{F:List (Str×AV)}{σ':St}(h:After (σ++τ) fa F σ')(hf:fa<σ.length):After σ fa F σ':=
 ⟨by have:=h.len;simp only[Ah]at this;exact BC 0x200002010003011 this,λi hi Gk=>by exact Ae (h.get i (by simp;exact BC 0x201030011000111 hi) Gk) (Ae (BD hi) rfl),h.fa⟩
theorem tS{k fa rw_ ta:Nat}{W:Wd}{σ:St}{Q:AV->St->Prop}{gs:List (Nat×List (Str×Str))}{z zr:Bool}{F:List (Str×AV)}{rows:List AV}
  (Zs:σ[fa]? =some (.sd z F)) (hrw:σ[rw_]? =some (.list zr rows)) (hgl:gs.length<=10)
  (W7:∀p∈gs,σ[p.1]? =some (.sd false (Dy p.2))/\p.2.length<=100/\∀q∈p.2,getL p.2 q.1=some q.2)
  {O:Res->Prop} (lE:∀b se,se<b->fa<b->se≠fa->Jz ⟨b,fa,se,W.Af,W.host,F⟩ (Ku (gs.map CC)) M0 rows O) (hQ:∀r σ',O r->After σ fa F σ'->Q (gE r) σ'):
  By (k+9) "_law_read" [CN ta W.Af W.host,.ref fa,.ref rw_,.tup (gs.map λp=> .ref p.1)] σ (PV Q):=by
 have v4:=(Ak.mp Zs).1;have lrw:=(Ak.mp hrw).1;have Gk:rw_≠fa:=by rintro rfl;rw[Zs]at hrw;simp at hrw
 refine BG 98 (by kernel_rfl) (by rfl) ?_;simp only[CN];walk_at"d";refine⟨_,_,_,_,_,_,_,_,_,_,_,_,_,_,rfl,rfl,rfl,rfl,⟨rfl,rfl,rfl,by kernel_rfl,by kernel_rfl,by kernel_rfl,by kernel_rfl,by kernel_rfl,by kernel_rfl,by kernel_rfl⟩,?_⟩;walk_at"d";refine QZ (M':=M0) (k:=k) (gs:=gs) (se:=σ.length) (pre:=[]) (BW Zs) AJ (BW hrw) (AQ 0x1071000111 v4) Gk (AQ 0x100031000111 lrw) hgl (λp hp=>⟨BW (W7 p hp).1,(W7 p hp).2⟩) (lE (σ++[AO.sd false []]).length σ.length (by simp) (by simp;exact AQ 0x1121030011000111 v4) (AQ 0x1071000111 v4)) λr σ' h1 h2=>?_;have:=hQ r σ' h1 (h2.app v4);cases r<;>exact this
noncomputable def lH:List Str:=["payload_set","meta_set","ct_set","log","reject","notrack"]
noncomputable def N3:AV->Str
 | .tup (.str op::_)=>op
 |_=>""
noncomputable def OT(r:AV):Bool:=lH.any (λa=>a==N3 r)
noncomputable def bA(r:AV):Str:=Aa "no such row: "++N3 r
noncomputable def Eu(rows:List AV):List Str:=(rows.filter OT).map bA
def Jm(r:AV):Prop:=∃op rest,r= .tup (.str op::rest)/\op.length<=100
theorem After.grow{σ τ:St}{fa:Nat}{z:Bool}{F:List (Str×AV)}(g:Cy σ τ)(h:σ[fa]? =some (.sd z F)):After σ fa F τ:=
 ⟨g.len,λi hi a=>by refine Ae (Ap hi) ?_;exact g.get i _ (Ap hi),⟨z,g.get _ _ h⟩⟩
theorem After.trans{σ τ υ:St}{fa:Nat}{F:List (Str×AV)}(a:After σ fa F τ)(b:After τ fa F υ):After σ fa F υ:=
 ⟨AS a.len b.len,λi hi Gk=>(b.get i (DW hi a.len) Gk).trans (a.get i hi Gk),b.fa⟩
theorem After.at_{σ τ:St}{fa i:Nat}{F:List (Str×AV)}{o:AO}(a:After σ fa F τ)(h:σ[i]? =some o)(Gk:i≠fa):τ[i]? =some o:=by
 refine Ae (a.get i (Ak.mp h).1 Gk) ?_;exact h
theorem tT{σ:St}{A B:List AV}(ha:A.all (pl 19)=true)(hb:B.all (pl 19)=true):∃r,Py (Pw σ 19) A B=some r/\(r=true↔A=B):=Wt (tR σ 19) A B ha hb
theorem gF(L:List Str)(x:Str):L.any (λa=>a==x)=decide (x∈L):=by refine(CX).mpr ?_;simp
theorem tU{σ:St}{i:Nat}{z:Bool}{L:List Str}(h:σ[i]? =some (.list z (L.map .str)))(x:Str):lR σ (.str x) (.ref i)=some (L.any (λa=>a==x)):=(U8 h x).trans (congrArg some (gF L x).symm)
theorem Wu:∀{k ta fa si:Nat}{W:Wd}{S:List Dr}{z zf y:Bool}{F:List (Str×AV)}{σ:St}{Q:AV->St->Prop}(hT:σ[ta]? =some (.sd z (CJ Kx W.TB)))(Zs:σ[fa]? =some (.sd zf F))(hs:σ[si]? =some (.list y (S.map Cj)))(Gk:ta≠fa)(hl:S.length<=16)(hg:∀s∈S,S8 W s)(hg2:∀s∈(Dx W S).2,S8 W s)(Qj:∀l:List Dr,l.length<=16->(∀s∈l,s∈(Dx W S).2)->(Dx W l).1.1.all (pl 19)=true)(hp1:(Dx W S).1.1.all (pl 19)=true)(v6:((Hd W (Dx W S).1.1 (Dx W S).2).map Cj).all (pl 19)=true)(hp3:(Hd W (Dx W S).1.1 (Dx W S).2).length<=16)(HL:∀r∈(Dx W S).1.1,Jm r)(H1:∀b se,se<b->fa<b->se≠fa->Jz ⟨b,fa,se,W.Af,W.host,F⟩ (Ku [Rb]) M0 (Dx W S).1.1 (λr=>r= .val (.tup ((Hd W (Dx W S).1.1 (Dx W S).2).map Cj))))(H2:∀b se,se<b->fa<b->se≠fa->Jz ⟨b,fa,se,W.Af,W.host,F⟩ (Ku []) M0 (Dx W S).1.1 (λr=>match Eu (Dx W S).1.1 with
   |[]=>r= .val (.tup ((Hd W (Dx W S).1.1 (Dx W S).2).map Cj))
   |w::_=>r= .exc w)) (hQ:∀σ',After σ fa F σ'->Q (.bool true) σ'),By (k+15) "_law_rule_holds" [CN ta W.Af W.host,.ref fa,.ref si] σ (PV Q):=by
 refine@(Fd nN nN nN nN nWd nL ?_);generalize E2 .. =x;generalize x.1=k,x.2.1=ta,x.2.2.1=fa,x.2.2.2.1=si,x.2.2.2.2.1=W,x.2.2.2.2.2=S;refine@(Fd nB nB nB nL nL nQ ?_);generalize E2 .. =x;generalize x.1=z,x.2.1=zf,x.2.2.1=y,x.2.2.2.1=F,x.2.2.2.2.1=σ,x.2.2.2.2.2=Q;intro hT Zs hs Gk hl hg hg2 Qj hp1 v6 hp3 HL H1 H2 hQ;have v4:=(Ak.mp Zs).1;have lta:=(Ak.mp hT).1;have hpn:=QP (q:=(([],[]),[])) (W:=W) S hg;rw[show C0 W (([],[]),[]) S=Dx W S from rfl]at hpn;simp only[Ar,BO]at hpn;refine BG 99 (by kernel_rfl) (by rfl) ?_;simp only[CN];walk_at"d";refine Qbt hT hs hl hg λσ₁ ri ti g1 hri hti hrt er et=>?_;walk_at"d";refine yC (g1.get _ _ hT) er et hp1 Qj (AQ 0x1022100001021102200012 hl hpn.2.2) hg2 λσ₂ li zl g2 el=>?_;walk_at"d";have er2:=g2.get _ _ er;generalize (Hd W (Dx W S).1.1 (Dx W S).2)=T at*;generalize (Dx W S).1.1=R at*;walk_at"d";refine AN (Wa el (by refine Ae (Aj ..) ?_;exact AA 0xf424052000102200011 hp3) ..) ?_;walk_at"d";refine YI ?_;walk_at"d";have g3:Cy σ (σ₂++[.sd false (Dy Rb)]):=(g1.trans g2).trans (.app _);refine tS (k:=k+5) (gs:=[(σ₂.length,Rb)]) (g3.get _ _ Zs) (BW er2) (by simp) ?_ H1 λr σ₃ hr a3=>?_
 .intro p hp;cases Ai.mp hp;exact⟨AJ,(by decide:Rb.length<=100),by simp only[Rb];intro q hq;simp only[Au,AU,or_false]at hq;rcases hq with rfl|rfl|rfl|rfl|rfl|rfl<;>decide +kernel⟩
 subst hr;simp only[gE];obtain⟨b,v1,v2⟩:=tT (σ:=σ₃) v6 v6;walk_at"d";refine Am (show EC σ₃ .NotEq (.tup (T.map Cj)) (.tup (T.map Cj))=some false from congrArg (Dd not) (v1.trans (congrArg some (v2.mpr rfl)))) ?_;walk_at"d";have er3:=a3.at_ (BW er2) (BC 0x2072010011000112 v4 hri);have er4:=BW (τ:=[AO.list false [AV.str (Aa "payload_set"),AV.str (Aa "meta_set"),AV.str (Aa "ct_set"),AV.str (Aa "log"),AV.str (Aa "reject"),AV.str (Aa "notrack")]]) er3;have ea:=AJ (σ:=σ₃) (o:=AO.list false [AV.str (Aa "payload_set"),AV.str (Aa "meta_set"),AV.str (Aa "ct_set"),AV.str (Aa "log"),AV.str (Aa "reject"),AV.str (Aa "notrack")]);have g4:Cy σ₃ (σ₃++[AO.list false [AV.str (Aa "payload_set"),AV.str (Aa "meta_set"),AV.str (Aa "ct_set"),AV.str (Aa "log"),AV.str (Aa "reject"),AV.str (Aa "notrack")]]):= .app _;generalize σ₃++[AO.list false [AV.str (Aa "payload_set"),AV.str (Aa "meta_set"),AV.str (Aa "ct_set"),AV.str (Aa "log"),AV.str (Aa "reject"),AV.str (Aa "notrack")]]=σ₄ at er4 ea g4⊢;walk_at"d";refine Am (Fi er4) ?_;have hnr:ri≠σ₃.length:=by have q1:=a3.len;have q2:=g2.len;have q3:=(Ak.mp er).1;simp only[Ah]at q1;exact RL 0x402034030103010020111000013 q2 q3 q1
 have ea':(σ₄.modify ri (AO.El true))[σ₃.length]? =some (AO.list false [AV.str (Aa "payload_set"),AV.str (Aa "meta_set"),AV.str (Aa "ct_set"),AV.str (Aa "log"),AV.str (Aa "reject"),AV.str (Aa "notrack")]):=by refine Ae (AB hnr) ?_;exact ea
 walk_at"d";refine RJ (λr w acc τ=>w=[(Aa "acts",.ref σ₃.length)]/\τ=σ₄.modify ri (AO.El true)/\∃d,R=d++r/\acc=(Eu d).map .str) ⟨rfl,rfl,[],rfl,rfl⟩ ?_ ?_
 .rintro v r w acc τ K hK ⟨rfl,rfl,d,e,rfl⟩;obtain⟨op,rest,rfl,hop⟩:=HL v (by refine Ae e ?_;simp);have e0:(σ₄.modify ri (AO.El true))[σ₃.length]? =some (.list false (lH.map .str)):=ea';walk_at"d";refine Am (tU e0 op) ?_;walk_at"d";have ew:∀v,Eu (d++[v])=Eu d++if OT v=true then[bA v]else[]:=λv=>by
   simp only[Eu,De,Bg,C8,HZ];split<;>rfl
  have hlw:(Eu d).length<=1000000:=by
   have h1:(Eu d).length<=d.length:=by simp only[Eu,Aj];exact Bm _ _
   have:=congrArg AX e;simp only[Ah]at this;lia
  refine Bq (λc=>?_) λc=>?_
  .have c':OT (.tup (.str op::rest))=true:=c;have hl5:(Aa "no such row: ").length<=100:=by decide +kernel
   refine AN (Ip (AQ 0xf42405200103064221001642200012 hop hl5)) ?_;walk_at"d";refine⟨by show _<=1000000;refine Ae (Aj ..) ?_;exact hlw,hK _ _ _ ⟨rfl,rfl,d++[.tup (.str op::rest)],by refine Ae e ?_;simp,?_⟩⟩;refine Ae (ew ..) (Ae (if_pos c') (Ae Bg ?_));rfl
  .have c':¬OT (.tup (.str op::rest))=true:=c;exact hK _ _ _ ⟨rfl,rfl,d++[.tup (.str op::rest)],by refine Ae e ?_;simp,by exact Ae (ew ..) (Ae (if_neg c') (Ae (A7 ..) rfl))⟩
 .rintro w acc τ ⟨rfl,rfl,d,e,rfl⟩;rw[A7]at e;subst e;have hlw:(Eu R).length<=1000000:=by
   have h1:(Eu R).length<=R.length:=by simp only[Eu,Aj];exact Bm _ _
   lia
  refine⟨by show _<=1000000;refine Ae (Aj ..) ?_;exact hlw,?_⟩
  (refine Ae (C2 ..) (Ae (EQ er4) ?_);rw[AO.fz];refine Ae (Mc er4 rfl) ?_)
  walk_at"d";obtain⟨z3,f3⟩:=a3.fa;have a4:=((After.grow g3 Zs).trans a3).trans (After.grow g4 f3);have f4:=g4.get _ _ f3;refine tS (k:=k+5) (gs:=[]) (BW f4) (BW er4) (by simp) (by simp) H2 λr σ₅ hr a5=>?_;walk_at"d";have lf4:=(Ak.mp f4).1;have ew:=BW (τ:=[AO.list false []]) (a5.at_ AJ (AQ 0x1071000111 lf4));have en:=AJ (σ:=σ₅) (o:= .list false []);have a6:=a4.trans ((After.grow (.app [AO.list false ((Eu R).map .str)]) f4).trans a5);obtain⟨z5,f5⟩:=a5.fa;have a7:=a6.trans (After.grow (.app [AO.list false []]) f5);generalize σ₅++[AO.list false []]=σ₆ at ew en a7⊢;cases hw:Eu R with
  |nil=>
   rw[hw]at hr ew;simp only at hr;subst hr;obtain⟨b,v1,v2⟩:=tT (σ:=σ₆) v6 v6;walk_at"d";refine Am (show EC σ₆ .NotEq (.ref σ₄.length) (.ref σ₅.length)=some false from(Cs ew).trans ((Cs en).trans rfl)) ?_;simp only[gE];walk_at"d";refine Am (show EC σ₆ .Eq (.tup (T.map Cj)) (.tup (T.map Cj))=some true from v1.trans (congrArg some (v2.mpr rfl))) ?_;walk_at"d";exact hQ _ a7
  |cons w r'=>
   rw[hw]at hr ew;simp only at hr;obtain⟨w',rfl,hww⟩:∃w',r= .exc w'/\w'=w:=⟨w,hr,rfl⟩
   walk_at"d";refine Am (show EC σ₆ .NotEq (.ref σ₄.length) (.ref σ₅.length)=some true from(Cs ew).trans ((Cs en).trans rfl)) ?_;walk_at"d";refine Am (S4 ew ..) ?_;simp only[gE];walk_at"d";rw[show(w'==w)=true by rw[hww];exact beq_self_eq_true w];exact hQ _ a7
noncomputable def pF(n ty pr b:String)(s f:Int):Str×Fe:=(n,.G6 ty pr b s f)
noncomputable def mF(n ty:String)(s:Int)(o a:String):Str×Fe:=(n,.other "meta" ty s o (.str a))
noncomputable def cF(n ty:String)(s:Int)(o a b:String):Str×Fe:=(n,.other "ct" ty s o (.tup [.str a,.str b]))
noncomputable def FL:List (Str×Fe):=[pF "ether daddr" "ether_addr" "ether" "link" 48 0,pF "ether saddr" "ether_addr" "ether" "link" 48 48,pF "ether type" "ether_type" "ether" "link" 16 96,pF "vlan pcp" "integer" "vlan" "link" 3 112,pF "vlan dei" "integer" "vlan" "link" 1 115,pF "vlan id" "integer" "vlan" "link" 12 116,pF "vlan type" "ether_type" "vlan" "link" 16 128,pF "arp htype" "integer" "arp" "network" 16 0,pF "arp ptype" "ether_type" "arp" "network" 16 16,pF "arp hlen" "integer" "arp" "network" 8 32,pF "arp plen" "integer" "arp" "network" 8 40,pF "arp operation" "arp_op" "arp" "network" 16 48,pF "arp saddr ether" "ether_addr" "arp" "network" 48 64,pF "arp saddr ip" "ipv4_addr" "arp" "network" 32 112,pF "arp daddr ether" "ether_addr" "arp" "network" 48 144,pF "arp daddr ip" "ipv4_addr" "arp" "network" 32 192,pF "ip version" "integer" "ip" "network" 4 0,pF "ip hdrlength" "integer" "ip" "network" 4 4,pF "ip dscp" "dscp" "ip" "network" 6 8,pF "ip ecn" "ecn" "ip" "network" 2 14,pF "ip length" "integer" "ip" "network" 16 16,pF "ip id" "integer" "ip" "network" 16 32,pF "ip frag-off" "integer" "ip" "network" 16 48,pF "ip ttl" "integer" "ip" "network" 8 64,pF "ip protocol" "inet_proto" "ip" "network" 8 72,pF "ip checksum" "integer" "ip" "network" 16 80,pF "ip saddr" "ipv4_addr" "ip" "network" 32 96,pF "ip daddr" "ipv4_addr" "ip" "network" 32 128,pF "ip6 version" "integer" "ip6" "network" 4 0,pF "ip6 dscp" "dscp" "ip6" "network" 6 4,pF "ip6 ecn" "ecn" "ip6" "network" 2 10,pF "ip6 flowlabel" "integer" "ip6" "network" 20 12,pF "ip6 length" "integer" "ip6" "network" 16 32,pF "ip6 nexthdr" "inet_proto" "ip6" "network" 8 48,pF "ip6 hoplimit" "integer" "ip6" "network" 8 56,pF "ip6 saddr" "ipv6_addr" "ip6" "network" 128 64,pF "ip6 daddr" "ipv6_addr" "ip6" "network" 128 192,pF "tcp sport" "inet_service" "tcp" "transport" 16 0,pF "tcp dport" "inet_service" "tcp" "transport" 16 16,pF "tcp sequence" "integer" "tcp" "transport" 32 32,pF "tcp ackseq" "integer" "tcp" "transport" 32 64,pF "tcp doff" "integer" "tcp" "transport" 4 96,pF "tcp reserved" "integer" "tcp" "transport" 4 100,pF "tcp flags" "tcp_flag" "tcp" "transport" 8 104,pF "tcp window" "integer" "tcp" "transport" 16 112,pF "tcp checksum" "integer" "tcp" "transport" 16 128,pF "tcp urgptr" "integer" "tcp" "transport" 16 144,pF "udp sport" "inet_service" "udp" "transport" 16 0,pF "udp dport" "inet_service" "udp" "transport" 16 16,pF "udp length" "integer" "udp" "transport" 16 32,pF "udp checksum" "integer" "udp" "transport" 16 48,pF "th sport" "inet_service" "th" "transport" 16 0,pF "th dport" "inet_service" "th" "transport" 16 16,pF "icmp type" "icmp_type" "icmp" "transport" 8 0,pF "icmp code" "icmp_code" "icmp" "transport" 8 8,pF "icmp checksum" "integer" "icmp" "transport" 16 16,pF "icmp id" "integer" "icmp" "transport" 16 32,pF "icmp sequence" "integer" "icmp" "transport" 16 48,pF "icmp gateway" "ipv4_addr" "icmp" "transport" 32 32,pF "icmp mtu" "integer" "icmp" "transport" 16 48,pF "icmpv6 type" "icmpv6_type" "icmpv6" "transport" 8 0,pF "icmpv6 code" "icmpv6_code" "icmpv6" "transport" 8 8,pF "icmpv6 checksum" "integer" "icmpv6" "transport" 16 16,pF "icmpv6 id" "integer" "icmpv6" "transport" 16 32,pF "icmpv6 sequence" "integer" "icmpv6" "transport" 16 48,pF "icmpv6 mtu" "integer" "icmpv6" "transport" 32 32,mF "meta length" "integer" 32 "host" "length",mF "meta protocol" "ether_type" 16 "big" "protocol",mF "meta nfproto" "nf_proto" 8 "big" "nfproto",mF "meta l4proto" "inet_proto" 8 "big" "l4proto",mF "meta mark" "mark" 32 "host" "mark",mF "meta priority" "integer" 32 "host" "priority",mF "meta iif" "iface_index" 32 "host" "iif",mF "meta oif" "iface_index" 32 "host" "oif",mF "meta iifname" "ifname" 128 "big" "iifname",mF "meta oifname" "ifname" 128 "big" "oifname",mF "meta iiftype" "integer" 16 "host" "iiftype",mF "meta oiftype" "integer" 16 "host" "oiftype",mF "meta pkttype" "pkt_type" 8 "big" "pkttype",cF "ct state" "ct_state" 32 "host" "state" "",cF "ct status" "ct_status" 32 "host" "status" "",cF "ct direction" "ct_dir" 8 "big" "direction" "",cF "ct mark" "mark" 32 "host" "mark" "",cF "ct zone" "integer" 16 "host" "zone" "",cF "ct expiration" "time" 32 "host" "expiration" "",cF "ct l3proto" "nf_proto" 8 "big" "l3proto" "",cF "ct protocol" "inet_proto" 8 "big" "protocol" "",cF "ct original ip saddr" "ipv4_addr" 32 "big" "saddr4" "original",cF "ct original ip daddr" "ipv4_addr" 32 "big" "daddr4" "original",cF "ct original ip6 saddr" "ipv6_addr" 128 "big" "saddr6" "original",cF "ct original ip6 daddr" "ipv6_addr" 128 "big" "daddr6" "original",cF "ct original proto-src" "inet_service" 16 "big" "proto-src" "original",cF "ct original proto-dst" "inet_service" 16 "big" "proto-dst" "original",cF "ct reply ip saddr" "ipv4_addr" 32 "big" "saddr4" "reply",cF "ct reply ip daddr" "ipv4_addr" 32 "big" "daddr4" "reply",cF "ct reply ip6 saddr" "ipv6_addr" 128 "big" "saddr6" "reply",cF "ct reply ip6 daddr" "ipv6_addr" 128 "big" "daddr6" "reply",cF "ct reply proto-src" "inet_service" 16 "big" "proto-src" "reply",cF "ct reply proto-dst" "inet_service" 16 "big" "proto-dst" "reply"]
noncomputable def pT(n b:String)(a s:Nat):Str×Te:=(n,.G6 b a s)
noncomputable def oT(n k a d:String)(s:Nat)(o:String):Str×Te:=(n,.Eo k a d s o)
noncomputable def CF:Tb:=[oT "meta mark" "meta" "mark" "" 4 "host",oT "ct mark" "ct" "mark" "" 4 "host",oT "ct zone" "ct" "zone" "" 2 "host",oT "meta pkttype" "meta" "pkttype" "" 1 "big",pT "ether daddr" "link" 0 6,pT "ether type" "link" 12 2,pT "vlan type" "link" 16 2,pT "arp daddr ip" "network" 24 4,pT "ip ttl" "network" 8 1,pT "ip id" "network" 4 2,pT "ip saddr" "network" 12 4,pT "tcp dport" "transport" 2 2,pT "tcp sequence" "transport" 4 4,pT "udp length" "transport" 4 2,pT "th dport" "transport" 2 2,pT "icmp code" "transport" 1 1,pT "icmp id" "transport" 4 2,pT "ip6 length" "network" 4 2,pT "ip6 hoplimit" "network" 7 1,pT "ip dscp" "network" 1 1,pT "ip ecn" "network" 1 1,pT "tcp doff" "transport" 12 1,pT "vlan id" "link" 14 2,pT "ether saddr" "link" 6 6,pT "udp dport" "transport" 2 2,pT "icmp checksum" "transport" 2 2,oT "ct reply proto-src" "ct" "proto-src" "reply" 2 "big",oT "meta iiftype" "meta" "iiftype" "" 2 "host",oT "meta priority" "meta" "priority" "" 4 "host"]
noncomputable def RK:List Stmt:=((JQ 100).map Oo.body).getD []
noncomputable def YS:Scope:=((JQ 100).map Oo.scope).getD default
noncomputable def Lb:List (Int×Int×Int×Int):=[(0,6,0,5),(0,5,84,0),(0,6,4,21),(0,0,30,0),(4,14,92,4),(0,15,39,0),(0,2,61,5),(7,1,0,7)]
noncomputable def kA(p:Int×Int×Int×Int):AV:= .tup [.int p.1,.int p.2.1,.int p.2.2.1,.int p.2.2.2]
noncomputable def FR(ns:List Int):Fm:=[("script",.W4 ns),("fields",.ref 0),("table",.ref 30),("firsts",.ref 33)]
noncomputable def tV(a n:Nat):AO:= .sd false (CJ Lv ((FL.drop a).take n))
noncomputable def pyA(p:Str×Te):AV:=Te.casesOn p.2 (λb a s=> .tup [.str p.1,.str b,.int a,.int s]) λx x x x x=> .none
noncomputable def YT(a n:Nat):AO:= .list false (((CF.drop (4+a)).take n).map pyA)
noncomputable def ffs(a n:Nat):AO:= .list false (((Lb.drop a).take n).map kA)
noncomputable def tW:St:=[.sd false (CJ Lv FL),tV 3 4,tV 7 9,tV 16 12,tV 28 9,tV 37 10,tV 47 4,tV 51 2,tV 53 13,tV 60 6,tV 66 13,.list false [.ref 3,.ref 4,.ref 5,.ref 6,.ref 7,.ref 8,.ref 10],tV 79 20,
 YT 0 3,YT 3 3,YT 0 6,YT 6 2,YT 0 8,YT 8 2,YT 0 10,YT 10 2,YT 0 12,YT 12 2,YT 0 14,YT 14 3,YT 0 17,YT 17 3,YT 0 20,YT 20 2,YT 0 22,.sd false (CJ Kx CF),ffs 0 4,ffs 4 4,.list false (Lb.map kA)]
def yD:Nat->Prop->Prop
 |0,P=>P
 |n+1,P=>true=true/\yD n P
theorem tX{P:Prop}(h:P):∀n,yD n P
 |0=>h
 |n+1=>⟨rfl,tX h n⟩
theorem QcG(ns:List Int)(rest:List Stmt)(S:AF->(Fm×St)->Prop):(I.at (By 40) YS 1000).Pq (RK.take 6++rest) [("script",.W4 ns)] [] S=yD 20 (mU (I.at (By 40) YS 993) rest (FR ns) tW S):=by kernel_rfl
noncomputable def CB(TB:Tb)(x:Str):Nat:=(Cc TB x).size
def OU(size:Nat):Ex->Prop
 | .fld _=>True
 | .op t e n=>OU size e/\((t= .shl\/t= .shr)\/(1<=n/\n<256^size))
def Wv(TB:Tb)(Af:Str)(NL:List Str)(x:Str):Src->Prop
 | .num m=>0<=m/\m<256^CB TB x
 | .map e _=>∃y,e= .fld y/\y∈NL/\EV (AC Af x) (AC Af y)=false
 | .val e=>e.name∈NL/\CB TB e.name=CB TB x/\EV (AC Af x) (AC Af e.name)=false/\OU (CB TB x) e/\e.depth<=2
theorem S9{m:Int}(h0:0<=m)(h1:m<100):(JO m).length<=1000:=by
 have h:(BZ 100).all (λk=>decide ((JO (k:Int)).length<=1000))=true:=by decide +kernel
 have:=Az.mp h m.toNat (IW.mpr (E3 0x642200101006a1642201912 h1 (Aw (D1 0x10280102811 h0))));rw[show((m.toNat:Nat):Int)=m by exact E3 0x1006a01006a11 (Aw (D1 0x10280102811 h0))]at this;exact of_decide_eq_true this
theorem kB{τ:St}{j:Nat}{b:Bool}{xs:List AV}(h:τ[j]? =some (.list b xs)):(τ.modify j (AO.El true)).modify j (AO.El b)=τ:=by
 apply CS;intro i;by_cases c:j=i
 .subst c;refine Ae (C3 (C3 h)) (Ae h ?_);rfl
 .exact Ae (AB c) (Ae (AB c) rfl)
set_option maxHeartbeats 4000000 in
theorem QcH{G A:Prop}(h:G->A)(g:G):A:=h g
theorem tY:∀{k ta ni:Nat}{W:Wd}{NL:List Str}{x:Str}{c n:Int}{z y:Bool}{σ:St}{Q:AV->St->Prop}(hT:σ[ta]? =some (.sd z (CJ Kx W.TB)))(hn:σ[ni]? =some (.list y (NL.map .str)))(hl:NL.length<=100)(hx:x∈NL)(hN:∀y∈NL,aS W.TB W.Af y)(hself:EV (AC W.Af x) (AC W.Af x)=false)(hf:fits n=true)(hQ:∀σ' s,Cy σ σ'->Wv W.TB W.Af NL x s->Q (Jl s) σ'),By (k+2) "_law_source" [CN ta W.Af W.host,.ref ni,.str x,.int c,.int n] σ (PV Q):=by
 refine@(Fd nN nN nN nWd nL A8 ?_);generalize E2 .. =l;generalize l.1=k,l.2.1=ta,l.2.2.1=ni,l.2.2.2.1=W,l.2.2.2.2.1=NL,l.2.2.2.2.2=x;refine@(Fd nI nI nB nB nL nQ ?_);generalize E2 .. =l;generalize l.1=c,l.2.1=n,l.2.2.1=z,l.2.2.2.1=y,l.2.2.2.2.1=σ,l.2.2.2.2.2=Q;intro hT hn hl hx hN hself hf hQ;refine BG 95 (by kernel_rfl) (by rfl) ?_;simp only[CN];walk_at"d";refine NX (by kernel_rfl) ?_;walk_at"d";have ix:∀τ,Cy σ τ->∀y,aS W.TB W.Af y->Jb τ (.ref ta) (.str y)=some (Kx (Cc W.TB y)):=λτ g y ho=>by
  rw[EU (g.get _ _ hT),B6,ho.te,Bt]
 refine Am ((ix σ .rfl x (hN x hx)).trans (congrArg some (Ws _))) ?_;walk_at"d";have hf0:0<=c.fmod 9/\c.fmod 9<9:=⟨Bv _ (B8 0x9120290),BN _ (B8 0x9120290)⟩
 have cA:=hN x hx;have hz:=cA.s2;have hz1:=cA.s1;refine Bq (λc1=>?_) λc1=>?_
 .refine YJ hf (AA 0x6422000102200011 hz) ?_;walk_at"d";refine hQ _ (.num (OP n (Cc W.TB x).size)) .rfl ⟨?_,?_⟩
  .exact Bv _ (by have:(0:Int)<256^(Cc W.TB x).size:=Ed (by decide);exact this)
  .exact BN _ (by have:(0:Int)<256^(Cc W.TB x).size:=Ed (by decide);exact this)
 refine QcH (G:=∀(nj:Nat)(τ1:St)(MD:List Str)(b:Bool),x∈MD->(∀y∈MD,y∈NL)->(2<c.fmod 9->∀y∈MD,CB W.TB y=CB W.TB x)->MD.length<=100->Cy σ τ1->τ1[nj]? =some (.list b (MD.map .str))->(?G:Nat->St->Prop) nj τ1) (λrest=>?_) ?_
 rotate_left
 .refine Bq (λc2=>?_) λc2=>?_
  .refine Am (Fi hn) ?_;walk_at"d";refine JU (λd w acc τ=>w=[(Aa "size",.int (CB W.TB x)),(Aa "table",.ref ta)]/\τ=σ.modify ni (AO.El true)/\acc=(d.filter λy=>CB W.TB y==CB W.TB x).map .str) ⟨rfl,rfl,rfl⟩ ?_ ?_
   .rintro d v r w acc τ K hK e ⟨rfl,rfl,rfl⟩;have hv:v∈NL:=by refine Ae e ?_;simp
    have hT':(σ.modify ni (AO.El true))[ta]? =some (.sd z (CJ Kx W.TB)):=by
     refine Ae (AB (by rintro rfl;rw[hT]at hn;simp at hn)) ?_;exact hT
    walk_at"d";refine Am ((EU hT' v).trans (by exact Ae (B6 ..) (Ae ((hN v hv).te) (Ae (Bt ..) (Ae (Ws ..) rfl))))) ?_;walk_at"d";have el:∀b:Bool,(CB W.TB v==CB W.TB x)=b->(d++[v]).filter (λy=>CB W.TB y==CB W.TB x)=d.filter (λy=>CB W.TB y==CB W.TB x)++if b=true then[v]else[]:=λb hb=>by
     exact Ae (De ..) (Ae C8 (Ae HZ (Ae hb rfl)))
    have ll:(d.filter λy=>CB W.TB y==CB W.TB x).length<=1000000:=by
     have:=Bm (λy=>CB W.TB y==CB W.TB x) d;have:=congrArg AX e;simp only[Ah]at this;lia
    refine Bq (λq=>?_) λq=>?_
    .refine⟨by show _<=1000000;refine Ae (Aj ..) ?_;exact ll,hK _ _ _ ⟨rfl,rfl,?_⟩⟩;rw[el true (by simp only[CB]at q⊢;rw[beq_iff_eq];exact AQ 0x10002106006a11 q),if_pos rfl,Bg];rfl
    .refine hK _ _ _ ⟨rfl,rfl,?_⟩;rw[el false (by simp only[CB]at q⊢;rw[beq_eq_false_iff_ne];lia),if_neg (by simp),A7]
   .rintro w acc τ ⟨rfl,rfl,rfl⟩;have hlf:=Bm (λy=>CB W.TB y==CB W.TB x) NL;refine⟨by show _<=1000000;refine Ae (Aj ..) ?_;exact AQ 0xf424052100001001642200012 hl hlf,?_⟩
    (refine Ae (C2 ..) (Ae (EQ hn) ?_);rw[AO.fz];refine Ae (kB hn) ?_)
    have hxn:x∈NL.filter λy=>CB W.TB y==CB W.TB x:=by simp[hx]
    have vL:∀y∈NL.filter (λy=>CB W.TB y==CB W.TB x),y∈NL:=λy hy=>(BL.mp hy).1;have JM:2<c.fmod 9->∀y∈NL.filter (λy=>CB W.TB y==CB W.TB x),CB W.TB y=CB W.TB x:=λa y hy=>by simpa using(BL.mp hy).2
    generalize NL.filter (λy=>CB W.TB y==CB W.TB x)=MD at hxn vL JM hlf⊢;have en:=AJ (σ:=σ) (o:= .list false (MD.map .str));have g1:Cy σ (σ++[.list false (MD.map .str)]):= .app _;generalize σ++[.list false (MD.map .str)]=τ1 at en g1⊢;generalize σ.length=nj at en⊢;walk_at"d";exact rest nj τ1 MD false hxn vL JM (AQ 0x6422100001001642200012 hl hlf) g1 en
  .exact rest ni σ NL y hx (λa h=>h) (λh=>absurd h c2) hl .rfl hn
 intro nj τ1 MD b en1 vL JM hll g1 en;have hxn:=en1;obtain⟨rx,hs1,hs2⟩:=cA.sp;refine OR hs1 cA.ln hs2 λτ2 j g2 hj ej=>?_;have en2:=g2.get _ _ en;have hlp:0<MD.length:=EJ hxn;have al2:∀τ,Cy τ2 τ->H3 τ .len [.ref nj]=some (.int MD.length,τ):=λτ g=>by rw[Ic (g.get _ _ en2) (by rw[Aj];exact AA 0xf424052000642200011 hll),Aj]
 walk_at"d";refine AN (al2 _ .rfl) ?_;walk_at"d";refine AN (QK (AA 0x2006f0002111 hlp)) ?_;obtain⟨p0,hp0,hp1⟩:∃p:Nat,(c.fdiv 9).fmod (MD.length:Int)=p/\p<MD.length:=⟨((c.fdiv 9).fmod (MD.length:Int)).toNat,by
  have h0:=Bv (c.fdiv 9) (b:=(MD.length:Int)) (AA 0x60290002111 hlp);have h1:=BN (c.fdiv 9) (b:=(MD.length:Int)) (AA 0x60290002111 hlp);exact⟨E3 0x601a01006a91 (Aw (D1 0x10280102811 h0)),Xd 0x10101106a100601912 h1 (Aw (D1 0x10280102811 h0))⟩⟩
 refine Ae hp0 ?_;obtain⟨v7,hix,hxe⟩:=MZ hxn;have ag:∀τ,Cy τ2 τ->∀p,(h:p<MD.length)->Jb τ (.ref nj) (.int (p:Nat))=some (.str MD[p]):=λτ g p h=>by
  refine Ae (Et (g.get _ _ en2) p (AQ 0xf424052100001011642200012 hll h)) (Ae BK (Ae (Ap h) ?_));rfl
 walk_at"d";refine Rw (λm u τ=>∃p:Nat,u=[(Aa "world",AV.tup [AV.ref ta,AV.str W.Af,AV.str W.host]),(Aa "names",AV.ref nj),(Aa "target",AV.str x),(Aa "c",AV.int c),(Aa "n",AV.int n),(Aa "table",AV.ref ta),(Aa "family",AV.str W.Af),(Aa "size",AV.int (Cc W.TB x).size),(Aa "form",AV.int (c.fmod 9)),(Aa "wants",AV.ref j),(Aa "place",AV.int (p:Nat))]/\p<MD.length/\m=(if p<=v7 then v7-p else v7+MD.length-p)/\Cy τ2 τ)
  (if p0<=v7 then v7-p0 else v7+MD.length-p0) Vt (by refine Ae Rh ?_;split<;>lia) ⟨p0,rfl,hp1,rfl,.rfl⟩ ?_
 rintro m u τ K hK ⟨p,rfl,hp,hm,gτ⟩;have hy:aS W.TB W.Af MD[p]:=hN _ (vL _ (CL _));obtain⟨ry,hy1,hy2⟩:=hy.sp;walk_at"d";refine Am (ag _ gτ p hp) ?_;walk_at"d";refine OR hy1 hy.ln hy2 λτ3 j3 g3 hj3 ej3=>?_;have g4:=gτ.trans g3;have hjl:=(Ak.mp (gτ.get _ _ ej)).1;walk_at"d";refine YL (g4.get _ _ ej) ej3 (BC 0x102030020111000012 hj3 hjl) (by have:=cA.wl;simp only[AC]at this;exact AA 0xa1200021200011 this) (by have:=hy.wl;simp only[AC]at this;exact AA 0xa1200021200011 this) λτ4 g5=>?_;have g6:=g4.trans g5;refine Ae (show EV (Ca W.Af (IP x)) (Ca W.Af (IP MD[p]))=EV (AC W.Af x) (AC W.Af MD[p])from rfl) ?_;walk_at"d";refine Bq (λhb=>?_) λhb=>?_
 .have Gk:p≠v7:=by rintro rfl;rw[hxe]at hb;rw[hself]at hb;simp at hb
  refine AN (al2 _ g6) ?_;walk_at"d";refine AN (QK (AA 0x2006f0002111 hlp)) ?_;obtain⟨p',hp',Qj,hpc⟩:∃p':Nat,((p:Int)+1).fmod (MD.length:Int)=p'/\p'<MD.length/\(p'=p+1\/(p'=0/\p+1=MD.length)):=by
   by_cases q:p+1=MD.length
   .exact⟨0,by refine Ae (show(p:Int)+1=(MD.length:Int) by exact AQ 0x1061120063a10112003211 q) (Ae Int.fmod_self ?_);rfl,hlp,.inr ⟨rfl,q⟩⟩
   .exact⟨p+1,by refine Ae (Int.fmod_eq_of_lt (by exact AA 0x11200630280) (by lia)) ?_;rfl,by lia,.inl rfl⟩
  refine Ae hp' ?_;walk_at"d";refine hK (if p'<=v7 then v7-p' else v7+MD.length-p') _ _ ?_ ⟨p',rfl,Qj,rfl,g6⟩;refine Ae hm ?_;exact z4 hix Gk hp hpc
 have vH:EV (AC W.Af x) (AC W.Af MD[p])=false:=by simpa using hb
 refine Am (ag _ g6 p hp) ?_;have hyn:=vL _ (CL hp);have hys:2<c.fmod 9->CB W.TB MD[p]=CB W.TB x:=λh=>JM h _ (CL hp);generalize MD[p]=yy at vH hyn hys hy⊢;have g7:=(g1.trans g2).trans g6;walk_at"d";refine Bq (λUj=>?_) λUj=>?_
 .have d0:=Bv n (b:=10) (B8 0xa120290);have d1:=BN n (b:=10) (B8 0xa120290);refine AN (show H3 τ4 .str [.int (n.fmod 10)]=some (.str (JO (n.fmod 10)),τ4)from if_pos ⟨d0,by exact D1 0x271042019a1201911 d1⟩) ?_;have d2:=S9 d0 (D1 0x6422019a1201911 d1);have d3:(Aa "m").length<=10:=by decide +kernel
  walk_at"d";refine AN (Ip (AQ 0xf424052001030a1210013e83200012 d2 d3)) ?_;walk_at"d";exact hQ _ (.map (.fld yy) _) g7 ⟨yy,rfl,hyn,vH⟩
 .have hyz:=hys (by lia);simp only[Ah,Al,Ar,Ao,AM,AP,BO,Ei,Ej];obtain⟨i,hi,hi6⟩:∃i:Nat,c.fmod 9-3=i/\i<6:=z6 hf0.2 c1 Uj;refine Ae hi ?_;have gl:=Cy.app (σ:=τ4) [AO.list false [],AO.list false [AV.str (Aa "mask")],AO.list false [AV.str (Aa "or")],AO.list false [AV.str (Aa "xor")],AO.list false [AV.str (Aa "shl"),AV.str (Aa "or")],
   AO.list false [AV.str (Aa "shr"),AV.str (Aa "mask")],AO.list false [AV.ref (AX τ4),AV.ref (AX τ4+1),AV.ref (AX τ4+2),AV.ref (AX τ4+3),AV.ref (AX τ4+4),AV.ref (AX τ4+5)]]
  obtain⟨q,L,hq1,hq2,hq3,hq4⟩:∃(q:Nat)(L:List Tg),[AV.ref (AX τ4),AV.ref (AX τ4+1),AV.ref (AX τ4+2),AV.ref (AX τ4+3),AV.ref (AX τ4+4),AV.ref (AX τ4+5)][i]? =some (.ref q)/\
    (τ4++[AO.list false [],AO.list false [AV.str (Aa "mask")],AO.list false [AV.str (Aa "or")],AO.list false [AV.str (Aa "xor")],AO.list false [AV.str (Aa "shl"),AV.str (Aa "or")],
     AO.list false [AV.str (Aa "shr"),AV.str (Aa "mask")],AO.list false [AV.ref (AX τ4),AV.ref (AX τ4+1),AV.ref (AX τ4+2),AV.ref (AX τ4+3),AV.ref (AX τ4+4),AV.ref (AX τ4+5)]])[q]? =some (.list false (L.map λt=> .str (vT t)))/\L.length<=2/\τ4.length<=q:=by
   refine lt6 hi6 ?_ ?_ ?_ ?_ ?_ ?_
   .exact⟨τ4.length+0,[],rfl,OQ rfl,by decide,by exact AA 0x20030000⟩
   .exact⟨τ4.length+1,[.mask],rfl,OQ rfl,by decide,by exact AA 0x1120030000⟩
   .exact⟨τ4.length+2,[.or],rfl,OQ rfl,by decide,by exact AA 0x2120030000⟩
   .exact⟨τ4.length+3,[.xor],rfl,OQ rfl,by decide,by exact AA 0x3120030000⟩
   .exact⟨τ4.length+4,[.shl,.or],rfl,OQ rfl,by decide,by exact AA 0x4120030000⟩
   .exact⟨τ4.length+5,[.shr,.mask],rfl,OQ rfl,by decide,by exact AA 0x5120030000⟩
  refine Am ((Et (OQ rfl) i (E3 0xf424052000006312015a991201912 hf0.2 hi)).trans hq1) ?_;generalize τ4++[AO.list false [],AO.list false [AV.str (Aa "mask")],AO.list false [AV.str (Aa "or")],AO.list false [AV.str (Aa "xor")],AO.list false [AV.str (Aa "shl"),AV.str (Aa "or")],
   AO.list false [AV.str (Aa "shr"),AV.str (Aa "mask")],AO.list false [AV.ref (AX τ4),AV.ref (AX τ4+1),AV.ref (AX τ4+2),AV.ref (AX τ4+3),AV.ref (AX τ4+4),AV.ref (AX τ4+5)]]=τ5 at gl hq2⊢
  walk_at"d";refine Am (Fi hq2) ?_;walk_at"d";refine DR (λd u τ=>Cy (τ5.modify q (AO.El true)) τ/\∃ex:Ex,u=[(Aa "world",AV.tup [AV.ref ta,AV.str W.Af,AV.str W.host]),(Aa "names",AV.ref nj),(Aa "target",AV.str x),(Aa "c",AV.int c),(Aa "n",AV.int n),(Aa "table",AV.ref ta),(Aa "family",AV.str W.Af),(Aa "size",AV.int (Cc W.TB x).size),(Aa "form",AV.int (c.fmod 9)),(Aa "wants",AV.ref j),(Aa "place",AV.int (p:Nat)),(Aa "e",HR ex)]/\ex.name=yy/\OU (Cc W.TB x).size ex/\ex.depth=d.length) ⟨.rfl,.fld yy,rfl,rfl,trivial,rfl⟩ ?_ ?_
  .rintro d t r u τ' K hK e ⟨h3,ex,rfl,h5,h6,h7⟩;have gx:=h3.trans (.app [AO.list false [AV.str (Aa "shl"),AV.str (Aa "shr")]]);walk_at"d";refine Am (aZ AJ _) ?_;walk_at"d";refine Bq (λct=>?_) λct=>?_
   .refine hK _ _ ⟨gx,.op t ex (n.fmod 9),rfl,h5,⟨h6,.inl ?_⟩,by simp[j0,j4,h7]⟩;revert ct;cases t<;>first|(intro _;simp;done)|(intro h;exact absurd h (by decide +kernel))
   .refine YJ hf (AA 0x6422000102200011 hz) ?_;walk_at"d";refine AN (YA (b:=((Cc W.TB x).size:Int)) (AA 0x60280) (AA 0x3e8320068102200011 hz) (by decide)) ?_;refine Ae (show(((Cc W.TB x).size:Int)).toNat=(Cc W.TB x).size by exact AQ 0x10002106006a11 (Aw (AA 0x60280))) ?_;have hpw:(256:Int)<=256^(Cc W.TB x).size:=by
     obtain⟨m,hm⟩:∃m,(Cc W.TB x).size=m+1:=⟨_,(AE hz1).symm⟩
     have:(0:Int)<256^m:=Ed (by decide);refine Ae hm (Ae (GS ..) ?_);lia
    walk_at"d";refine AN (QK (D1 0x2112015f0110032811 hpw)) ?_;walk_at"d";have q0:=Bv (OP n (Cc W.TB x).size) (b:=256^(Cc W.TB x).size-1) (D1 0x1120150290110032811 hpw);have q1:=BN (OP n (Cc W.TB x).size) (b:=256^(Cc W.TB x).size-1) (D1 0x1120150290110032811 hpw);exact hK _ _ ⟨gx,.op t ex (1+(OP n (Cc W.TB x).size).fmod (256^(Cc W.TB x).size-1)),rfl,h5,⟨h6,.inr ⟨by exact D1 0x1112311280102811 q0,by exact MR 0x11011123911211501911 q1⟩⟩,by simp[j0,j4,h7]⟩
  .rintro u τ' ⟨h3,ex,rfl,h5,h6,h7⟩
   (refine Ae IF (Ae (C2 ..) (Ae (EQ hq2) ?_));rw[AO.fz])
   walk_at"d";refine hQ _ (.val ex) (g7.trans ⟨?_,λi o hi=>?_⟩) ⟨by refine Ae h5 ?_;exact hyn,by refine Ae h5 ?_;exact hyz,by refine Ae h5 ?_;exact vH,h6,by exact AQ 0x21210000102121200012 hq3 h7⟩
   .have:=h3.len;have:=gl.len;simp only[Gh]at*;lia
   .have li:=(Ak.mp hi).1;refine Ae (AB (BC 0x201070020111000012 hq4 li)) ?_;exact h3.get _ _ (by refine Ae (AB (BC 0x201070020111000012 hq4 li)) ?_;exact gl.get _ _ hi)
noncomputable def Qd5(s:Str):Str:=⟨(s.cps.toList.take 3).toArray⟩
noncomputable def T7(y:Str):Bool:=Qd5 y==Aa "ip6"
noncomputable def Ck(Af:Str):List Str:=if Af="ip" then(CF.map Bk).filter (λy=> !T7 y)else CF.map Bk
noncomputable def Eh(Af:Str):List Str:=(CF.map Bk).take (if Af="ip" then 17 else 19)
def CE(Af:Str):Prop:=Af="bridge"\/Af="inet"\/Af="ip"
noncomputable def namesOk(Af:Str):Bool:=(Ck Af).all (aQ CF Af)&&(Eh Af).all (λx=>decide (x∈Ck Af)&& !(EV (AC Af x) (AC Af x)))&&decide ((Ck Af).length<=100)&&decide ((Eh Af).length=(if Af="ip" then 17 else 19))
theorem N4{Af:Str}(h:CE Af):namesOk Af=true:=by rcases h with rfl|rfl|rfl<;>decide +kernel
theorem yE:(CF.map Bk).all (λy=>decide (y.length<=1000))=true:=by decide +kernel
noncomputable def AY(Af:Str):Src->List Nn
 | .num _=>[]
 | .map e _=>AC Af e.name
 | .val e=>AC Af e.name
def GG(op:Str)(r:List AV):Prop:=(op="notrack"/\r=[])\/(op="log"/\∃w:Str,r=[.str w,.str "warn"])\/(op="reject"/\r=[.str "icmp",.int 3])\/(op="verdict"/\r=[.tup [.str "drop",.str ""]])
def Rx(Af:Str)(act:Dr)(wants:List Nn):Prop:=match act with
 | .FM _=>False
 | .Eo op r=>GG op r/\wants=[]
 | .set x s=>x∈Eh Af/\Wv CF Af (Ck Af) x s/\wants=AC Af x++AY Af s
def yF(s:Src)(m:Nat)(v:AV):Prop:=(∃n,s= .num n/\v=Jl s/\m=0)\/(∃e k,s= .map e k/\v=Jl s/\m=e.depth+1)\/(∃ex y,v=HR ex/\m=ex.depth/\ex.name=y/\((∃e k,s= .map e k/\y=e.name)\/∃e,s= .val e/\y=e.name))
noncomputable def Ta:Src->Nat
 | .num _=>0
 | .map e _=>e.depth+1
 | .val e=>e.depth
theorem Qd6(s:Src):yF s (Ta s) (Jl s):=by
 cases s with
 |num n=>exact .inl ⟨n,rfl,rfl,rfl⟩
 |map e k=>exact .inr (.inl ⟨e,k,rfl,rfl,rfl⟩)
 |val e=>exact .inr (.inr ⟨e,_,rfl,rfl,rfl,.inr ⟨e,rfl,rfl⟩⟩)
theorem kC:∀{s:Src}{m:Nat}{v:AV}(h:yF s m v),∃t r,v= .tup (.str t::r)/\
  ((t="num"/\∃n,s= .num n)\/(t="field"/\∃y,r=[.str y]/\((∃e k,s= .map e k/\y=e.name)\/∃e,s= .val e/\y=e.name))\/(t≠"num"/\t≠"field"/\∃w r' m',r=w::r'/\m=m'+1/\yF s m' w)):=by
 refine@(TN Wo nN W2 ?_);generalize W1 .. =c;generalize c.1=s,c.2.1=m,c.2.2=v;intro h;rcases h with⟨n,rfl,rfl,rfl⟩|⟨e,k,rfl,rfl,rfl⟩|⟨ex,y,rfl,rfl,rfl,h⟩
 .exact⟨_,_,rfl,.inl ⟨rfl,n,rfl⟩⟩
 .exact⟨_,_,rfl,.inr (.inr ⟨by decide +kernel,by decide +kernel,_,_,e.depth,rfl,rfl,.inr (.inr ⟨e,_,rfl,rfl,rfl,.inl ⟨e,k,rfl,rfl⟩⟩)⟩)⟩
 .cases ex with
  |fld x=>exact⟨_,_,rfl,.inr (.inl ⟨rfl,x,rfl,h⟩)⟩
  |op t e n=>exact⟨_,_,rfl,.inr (.inr ⟨by cases t<;>decide +kernel,by cases t<;>decide +kernel,_,_,e.depth,rfl,rfl,.inr (.inr ⟨e,_,rfl,rfl,rfl,h⟩)⟩)⟩
theorem Qd7:∀{k ta:Nat}{Af host:Str}{a b c n:Int}{z:Bool}{σ:St}{Q:AV->St->Prop}(hT:σ[ta]? =some (.sd z (CJ Kx CF)))(Bl:CE Af)(hf:fits n=true)(hQ:∀σ' j act wants,Cy σ σ'->σ.length<=j->σ'[j]? =some (.list false (wants.map Eg))->Rx Af act wants->Q (.tup [Cj act,.ref j]) σ'),By (k+3) "_law_act" [CN ta Af host,.int a,.int b,.int c,.int n] σ (PV Q):=by
 refine@(Fd nN nN A8 A8 nI nI ?_);generalize E2 .. =g;generalize g.1=k,g.2.1=ta,g.2.2.1=Af,g.2.2.2.1=host,g.2.2.2.2.1=a,g.2.2.2.2.2=b;refine@(I8 nI nI nB nL nQ ?_);generalize Ke .. =g;generalize g.1=c,g.2.1=n,g.2.2.1=z,g.2.2.2.1=σ,g.2.2.2.2=Q;intro hT Bl hf hQ;have HL:=N4 Bl;simp only[namesOk,Av,Az,decide_eq_true_eq,Cw]at HL;obtain⟨⟨⟨o1,o2⟩,o3⟩,o4⟩:=HL;have lta:=(Ak.mp hT).1;refine BG 96 (by kernel_rfl) (by rfl) ?_;simp only[CN];walk_at"d";obtain⟨NS,hNS⟩:∃NS,NS=CF.map Bk:=⟨_,rfl⟩
 refine AN (show H3 σ .list [.ref ta]=some (.ref σ.length,σ++[.list false (NS.map .str)])from(Np hT).trans ((if_pos (by refine Ae (Kq ..) ?_;exact(by decide +kernel:CF.length<=1000000))).trans (by(refine Ae hNS ?_;rw[L4];refine Ae Ii ?_);rfl))) ?_;have tl:(CF.map Bk).length<=1000000:=by refine Ae (Aj ..) ?_;exact(by decide +kernel:CF.length<=1000000)
 have lI:Ck Af=if Af="ip" then(CF.map Bk).filter (λy=> !T7 y)else CF.map Bk:=rfl
 have lJ:Eh Af=(CF.map Bk).take (if Af="ip" then 17 else 19):=rfl;have hnln:=yE;rw[<-hNS]at tl lI lJ hnln;clear hNS;have e0:=AJ (σ:=σ) (o:= .list false (NS.map .str));have g0:Cy σ (σ++[.list false (NS.map .str)]):= .app _;generalize σ++[.list false (NS.map .str)]=σ₁ at e0 g0⊢;walk_at"d";refine AN (L7 e0 (by refine Ae (Aj ..) ?_;exact tl) 19) ?_;refine CV Hu ?_;have hin:∀x∈Eh Af,x∈Ck Af:=λx hx=>(o2 x hx).1;walk_at"d";refine QcH (G:=∀(ni ti:Nat)(τ1:St),τ1[ni]? =some (.list false ((Ck Af).map .str))->τ1[ti]? =some (.list false ((Eh Af).map .str))->Cy σ τ1->(?G:Nat->Nat->St->Prop) ni ti τ1) (λrest=>?_) ?_
 rotate_left
 .refine Bq (λcf=>?_) λcf=>?_
  .rw[if_pos cf]at lI lJ;refine AN (L7 (BW e0) (by refine Ae (Aj ..) ?_;exact tl) 17) ?_;refine CV Hu ?_;have e1:=BW (τ:=[.list false ((NS.take 17).map .str)]) (BW (τ:=[.list false ((NS.take 19).map .str)]) e0);have e2:=AJ (σ:=σ₁++[.list false ((NS.take 19).map .str)]) (o:= .list false ((NS.take 17).map .str));have g1:Cy σ₁ (σ₁++[.list false ((NS.take 19).map .str)]++[.list false ((NS.take 17).map .str)]):=(Cy.app _).trans (.app _);generalize (σ₁++[AO.list false ((NS.take 19).map .str)]).length=ti at e2⊢;generalize σ₁++[AO.list false ((NS.take 19).map .str)]++[AO.list false ((NS.take 17).map .str)]=σ₂ at e1 e2 g1⊢;walk_at"d";refine Am (Fi e1) ?_;walk_at"d";refine JU (λd w acc τ=>w=[]/\τ=σ₂.modify σ.length (AO.El true)/\acc=(d.filter λy=> !T7 y).map .str) ⟨rfl,rfl,rfl⟩ ?_ ?_
   .rintro d v r w acc τ K hK e ⟨rfl,rfl,rfl⟩;have hv:v.length<=1000:=of_decide_eq_true (Az.mp hnln v (by refine Ae e ?_;simp));have hll:v.cps.toList.length<=1000:=by simpa[TJ]using hv
    walk_at"d";refine AN ((λτ=>(if_pos (show v.length<=1000000 by exact AA 0xf4240520003e83200011 hv)).trans rfl:∀τ,LH τ (.str v) none (some 3)=some (.str (Qd5 v),τ)) _) ?_;walk_at"d";have ll:(d.filter λy=> !T7 y).length<=1000000:=by
     have:=Bm (λy=> !T7 y) d;have:=congrArg AX e;simp only[Ah]at this;lia
    have el:∀b:Bool,T7 v=b->(d++[v]).filter (λy=> !T7 y)=d.filter (λy=> !T7 y)++if b=true then[]else[v]:=λb hb=>by
     refine Ae (De ..) (Ae C8 (Ae HZ (Ae hb ?_)));cases b<;>rfl
    refine Bq (λq=>?_) λq=>?_
    .refine hK _ _ _ ⟨rfl,rfl,?_⟩;exact Ae (el true (by simpa[T7]using q)) (Ae (if_pos rfl) (Ae (A7 ..) rfl))
    .refine⟨by show _<=1000000;refine Ae (Aj ..) ?_;exact ll,hK _ _ _ ⟨rfl,rfl,?_⟩⟩;refine Ae (el false (by simpa[T7]using q)) (Ae (if_neg (by simp)) (Ae Bg ?_));rfl
   .rintro w acc τ ⟨rfl,rfl,rfl⟩;refine CV lI ?_;rw[<-lJ]at e2;refine⟨by show _<=1000000;refine Ae (Aj ..) ?_;exact AA 0xf424052000642200011 o3,?_⟩
    (refine Ae (C2 ..) (Ae (EQ e1) ?_);rw[AO.fz];refine Ae (Mc e1 rfl) ?_)
    have en:=AJ (σ:=σ₂) (o:= .list false ((Ck Af).map .str));have et:=BW (τ:=[.list false ((Ck Af).map .str)]) e2;have g2:=(g0.trans g1).trans (.app [.list false ((Ck Af).map .str)]);generalize σ₂++[AO.list false ((Ck Af).map .str)]=τ1 at en et g2⊢;generalize σ₂.length=ni at en⊢;walk_at"d"
    with_reducible exact rest ni ti τ1 en et g2
  .rw[if_neg cf]at lI lJ;rw[<-lI]at e0;refine CV lJ ?_;have e9:=BW (τ:=[.list false ((Eh Af).map .str)]) e0;have e8:=AJ (σ:=σ₁) (o:= .list false ((Eh Af).map .str));have g9:=g0.trans (.app [.list false ((Eh Af).map .str)])
   with_reducible exact rest _ _ _ e9 e8 g9
 intro ni ti τ1 en et g2;clear lI lJ hnln e0 g0 tl;refine Bq (λca=>?_) λca=>?_
 .have d0:=Bv n (b:=100) (B8 0x64220290);have d1:=BN n (b:=100) (B8 0x64220290);refine AN (show H3 τ1 .str [.int (n.fmod 100)]=some (.str (JO (n.fmod 100)),τ1)from if_pos ⟨d0,by exact D1 0x271042019642201911 d1⟩) ?_;have d2:=S9 d0 (D1 0x6422019642201911 d1);have d3:(Aa "l").length<=10:=by decide +kernel
  walk_at"d";refine AN (Ip (AQ 0xf424052001030a1210013e83200012 d2 d3)) ?_;generalize Aa "l"++JO (n.fmod 100)=w;walk_at"d";have b0:=Bv b (b:=4) (B8 0x4120290);have b1:=BN b (b:=4) (B8 0x4120290);obtain⟨i,hi,hi4⟩:∃i:Nat,b.fmod 4=i/\i<4:=⟨(b.fmod 4).toNat,by exact⟨E3 0x601a01006a91 (Aw (D1 0x10280102811 b0)),E3 0x41200101006a141201912 b1 (Aw (D1 0x10280102811 b0))⟩⟩
  refine Ae hi ?_;have fin:∀op r,GG op r->∀x,Q (.tup [.tup (.str op::r),.ref ((τ1++[x]).length)]) (τ1++[x]++[.list false []]):=λop r h x=>
   hQ _ _ (.Eo op r) [] (g2.trans ((Cy.app [x]).trans (.app _))) (by have:=g2.len;simp;exact AQ 0x1121030001000011 this) AJ ⟨h,rfl⟩
  refine lt4 hi4 ?_ ?_ ?_ ?_
  .refine Am (Et AJ 0 (B8 0xf4240520200)) ?_;walk_at"d";exact fin _ _ (.inl ⟨rfl,rfl⟩) _
  .refine Am (Et AJ 1 (B8 0xf42405211200)) ?_;walk_at"d";exact fin _ _ (.inr (.inl ⟨rfl,_,rfl⟩)) _
  .refine Am (Et AJ 2 (B8 0xf42405221200)) ?_;walk_at"d";exact fin _ _ (.inr (.inr (.inl ⟨rfl,rfl⟩))) _
  .refine Am (Et AJ 3 (B8 0xf42405231200)) ?_;walk_at"d";exact fin _ _ (.inr (.inr (.inr ⟨rfl,rfl⟩))) _
 .have htl:(Eh Af).length<=19/\0<(Eh Af).length:=by refine Ae o4 ?_;split<;>lia
  have al:=Ic et (by refine Ae (Aj ..) ?_;exact AA 0xf424052000132200011 htl.1);rw[Aj]at al;refine AN al ?_;walk_at"d";obtain⟨p,hp0,hp⟩:∃p:Nat,b.fmod ((Eh Af).length:Int)=p/\p<(Eh Af).length:=⟨(b.fmod ((Eh Af).length:Int)).toNat,by
   have h0:=Bv b (b:=((Eh Af).length:Int)) (AA 0x60290002111 htl.2);have h1:=BN b (b:=((Eh Af).length:Int)) (AA 0x60290002111 htl.2);exact⟨E3 0x601a01006a91 (Aw (D1 0x10280102811 h0)),Xd 0x10101106a100601912 h1 (Aw (D1 0x10280102811 h0))⟩⟩
  refine AN ((QK (AA 0x2006f0002111 htl.2)).trans (by exact Ae hp0 rfl)) ?_;walk_at"d";refine Am ((Et et p (AQ 0xf424052100001011132200012 htl.1 hp)).trans (by refine Ae BK (Ae (Ap hp) ?_);rfl)) ?_;have hx:=CL hp;generalize (Eh Af)[p]=x at hx⊢;walk_at"d";refine tY (W:=⟨CF,Af,host⟩) (g2.get _ _ hT) en o3 (hin x hx) (λy hy=>Wn (o1 y hy)) (o2 x hx).2 hf λτ2 s g3 hs=>?_;walk_at"d";have cA:=Wn (o1 x (hin x hx));obtain⟨rx,hs1,hs2⟩:=cA.sp;refine OR hs1 cA.ln hs2 λτ3 j g4 hj ej=>?_;walk_at"d";have hdep:Ta s<=2:=by
   cases s with
   |num n=>simp[Ta]
   |map e k=>obtain⟨y,rfl,_⟩:=hs;simp[Ta,j0,j4]
   |val e=>exact hs.2.2.2.2
  have g5:=(g2.trans g3).trans g4;have hj2:=AS (g2.trans g3).len hj;refine Rw (λm u τ=>∃v,u=[(Aa "world",AV.tup [AV.ref ta,AV.str Af,AV.str host]),(Aa "a",AV.int a),(Aa "b",AV.int b),(Aa "c",AV.int c),(Aa "n",AV.int n),(Aa "names",AV.ref ni),(Aa "targets",AV.ref ti),(Aa "target",AV.str x),
   (Aa "source",Jl s),(Aa "wants",AV.ref j),(Aa "e",v)]/\yF s m v/\Cy τ3 τ) (Ta s) Vt (by refine Ae Rh ?_;exact AA 0xc82200121200011 hdep) ⟨_,rfl,Qd6 s,.rfl⟩ ?_
  rintro m u τ K hK ⟨v,rfl,hd,g6⟩;obtain⟨t,r,rfl,ht⟩:=kC hd;walk_at"d";refine Am (congrArg (Dd not) (aZ AJ _)) ?_;have g7:=g6.trans (.app [AO.list false [AV.str (Aa "field"),AV.str (Aa "num")]]);generalize τ++[AO.list false [AV.str (Aa "field"),AV.str (Aa "num")]]=τ4 at g7⊢;rcases ht with⟨rfl,n',iC⟩|⟨rfl,y,rfl,iC⟩|⟨t1,t2,w,r',m',rfl,hm,Pu⟩
  .walk_at"d";refine H4 (by decide +kernel) ?_;refine hQ _ j (.set x s) (AC Af x++AY Af s) (g5.trans g7) hj2 ?_ ⟨hx,hs,rfl⟩;refine Ae iC ?_;simp only[AY,A7];exact g7.get _ _ ej
  .walk_at"d";refine H4 (by decide +kernel) ?_;have W6:AY Af s=AC Af y/\y∈Ck Af:=by
    rcases iC with⟨e,k,rfl,rfl⟩|⟨e,rfl,rfl⟩
    .obtain⟨y,rfl,hy,_⟩:=hs;exact⟨rfl,hy⟩
    .exact⟨rfl,hs.1⟩
   have hoy:=Wn (o1 y W6.2);obtain⟨ry,hy1,hy2⟩:=hoy.sp;refine OR hy1 hoy.ln hy2 λτ5 j5 g8 hj5 ej5=>?_;have w1:=cA.wl;have w2:=hoy.wl;simp only[AC]at w1 w2;walk_at"d";refine AN (PX (g8.get _ _ (g7.get _ _ ej)) ej5 (by simp only[Aj];exact AQ 0xf424052100030212100121200012 w1 w2)) ?_;walk_at"d";have g9:=((g5.trans g7).trans g8).trans (.app [AO.list false ((Ca Af (IP x)).map Eg++(Ca Af (IP y)).map Eg)]);refine hQ _ _ (.set x s) (AC Af x++AY Af s) g9 (by have:=((g5.trans g7).trans g8).len;exact AQ 0x100001000011 this) ?_ ⟨hx,hs,rfl⟩;refine Ae W6.1 (Ae AJ ?_);simp only[AC,Bg]
  .walk_at"d";refine Kp (by simp[t1,t2]) ?_;exact hK m' _ _ hm ⟨w,rfl,Pu,g7⟩
noncomputable def G7:List Nn:=[("meta l4proto",6),("meta l4proto",17),("meta nfproto",2),("ether type",33024),("meta protocol",2054),("meta l4proto",132),("meta nfproto",10)]
noncomputable def DJ(Af:Str):List Nn:=if Af="ip" then G7.take 6 else G7
def Fj(Af:Str)(g:List Dr):Prop:=∃act wants,Rx Af act wants/\(g=[act]\/∃m∈DJ Af,EV [m] wants=false/\g=[.FM m,act])
theorem Ky:∀(Af h:Str),(Ca Af h).length<=2:=by
 refine@(MT A8 A8 ?_);generalize Uj .. =c;generalize c.1=Af,c.2=h;have h1:((getL C4 h).getD []).length<=2:=by
  simp only[C4,FC,Ef]
  repeat' split
  all_goals decide
 simp only[Ca];split
 .exact AS (Bm _ _) h1
 .exact h1
theorem kD{Af:Str}{act:Dr}{wants:List Nn}(h:Rx Af act wants):wants.length<=4:=by
 cases act with
 |FM m=>exact h.elim
 |Eo op r=>refine Ae h.2 ?_;simp
 |set x s=>
  refine Ae h.2.2 (Ae Ah ?_);have h1:=Ky Af (IP x);have h2:(AY Af s).length<=2:=by
   cases s with
   |num n=>simp[AY]
   |map e k=>exact Ky Af (IP e.name)
   |val e=>exact Ky Af (IP e.name)
  simp only[AC]at h1⊢;exact AQ 0x412100030212100121200012 h1 h2
theorem Ww:∀{k ta:Nat}{Af host:Str}{a b c n:Int}{z:Bool}{σ:St}{Q:AV->St->Prop}(hT:σ[ta]? =some (.sd z (CJ Kx CF)))(Bl:CE Af)(hf:fits n=true)(hQ:∀σ' j g,Cy σ σ'->σ.length<=j->σ'[j]? =some (.list false (g.map Cj))->Fj Af g->Q (.ref j) σ'),By (k+4) "_law_statements" [CN ta Af host,.int a,.int b,.int c,.int n] σ (PV Q):=by
 refine@(Fd nN nN A8 A8 nI nI ?_);generalize E2 .. =y;generalize y.1=k,y.2.1=ta,y.2.2.1=Af,y.2.2.2.1=host,y.2.2.2.2.1=a,y.2.2.2.2.2=b;refine@(I8 nI nI nB nL nQ ?_);generalize Ke .. =y;generalize y.1=c,y.2.1=n,y.2.2.1=z,y.2.2.2.1=σ,y.2.2.2.2=Q;intro hT Bl hf hQ;refine BG 97 (by kernel_rfl) (by rfl) ?_;simp only[CN];walk_at"d";refine Qd7 hT Bl hf λσ₁ j act wants g1 hj ej hact=>?_;walk_at"d";refine AN (PX (BW AJ) AJ (by simp)) ?_;have g2:=Cy.app (σ:=σ₁) [AO.list false [AV.tup [AV.str (Aa "meta l4proto"),AV.int 6],AV.tup [AV.str (Aa "meta l4proto"),AV.int 17],AV.tup [AV.str (Aa "meta nfproto"),AV.int 2],AV.tup [AV.str (Aa "ether type"),AV.int 33024]],
  AO.list false [AV.tup [AV.str (Aa "meta protocol"),AV.int 2054],AV.tup [AV.str (Aa "meta l4proto"),AV.int 132],AV.tup [AV.str (Aa "meta nfproto"),AV.int 10]],AO.list false (G7.map Eg)]
 have e2:=OQ (σ:=σ₁) (L:=[AO.list false [AV.tup [AV.str (Aa "meta l4proto"),AV.int 6],AV.tup [AV.str (Aa "meta l4proto"),AV.int 17],AV.tup [AV.str (Aa "meta nfproto"),AV.int 2],AV.tup [AV.str (Aa "ether type"),AV.int 33024]],
  AO.list false [AV.tup [AV.str (Aa "meta protocol"),AV.int 2054],AV.tup [AV.str (Aa "meta l4proto"),AV.int 132],AV.tup [AV.str (Aa "meta nfproto"),AV.int 10]],AO.list false (G7.map Eg)]) (n:=2) (o:=AO.list false (G7.map Eg)) rfl
 simp only[Ah,Al,Ar,Ao,AM,AP,BO,Ei,Ej];rw[show AO.list false [AV.tup [AV.str (Aa "meta l4proto"),AV.int 6],AV.tup [AV.str (Aa "meta l4proto"),AV.int 17],AV.tup [AV.str (Aa "meta nfproto"),AV.int 2],AV.tup [AV.str (Aa "ether type"),AV.int 33024],
  AV.tup [AV.str (Aa "meta protocol"),AV.int 2054],AV.tup [AV.str (Aa "meta l4proto"),AV.int 132],AV.tup [AV.str (Aa "meta nfproto"),AV.int 10]]=AO.list false (G7.map Eg)from rfl]
 generalize σ₁++[AO.list false [AV.tup [AV.str (Aa "meta l4proto"),AV.int 6],AV.tup [AV.str (Aa "meta l4proto"),AV.int 17],AV.tup [AV.str (Aa "meta nfproto"),AV.int 2],AV.tup [AV.str (Aa "ether type"),AV.int 33024]],
  AO.list false [AV.tup [AV.str (Aa "meta protocol"),AV.int 2054],AV.tup [AV.str (Aa "meta l4proto"),AV.int 132],AV.tup [AV.str (Aa "meta nfproto"),AV.int 10]],AO.list false (G7.map Eg)]=σ₂ at g2 e2⊢
 walk_at"d";generalize σ₁.length+2=m0 at e2⊢;refine QcH (G:=∀(mi:Nat)(τ:St),0<(DJ Af).length->(DJ Af).length<=7->τ[mi]? =some (.list false ((DJ Af).map Eg))->Cy σ τ->τ[j]? =some (.list false (wants.map Eg))->(?G:Nat->St->Prop) mi τ) (λrest=>?_) ?_
 rotate_left
 .refine Bq (λcf=>?_) λcf=>?_
  .refine AN (L7 e2 (by decide +kernel) 6) ?_;refine CV Hu ?_;have hm:DJ Af=G7.take 6:=by simp only[DJ];exact if_pos cf
   have hml:0<(DJ Af).length/\(DJ Af).length<=7:=by refine Ae hm ?_;decide
   refine CV hm ?_;have em:=AJ (σ:=σ₂) (o:= .list false ((DJ Af).map Eg));have g3:=(g1.trans g2).trans (.app [.list false ((DJ Af).map Eg)]);have e3:=BW (τ:=[.list false ((DJ Af).map Eg)]) (g2.get _ _ ej);generalize σ₂++[AO.list false ((DJ Af).map Eg)]=τ at g3 em e3⊢;generalize σ₂.length=mi at em⊢;walk_at"d";exact rest mi τ hml.1 hml.2 em g3 e3
  .have hm:DJ Af=G7:=by simp only[DJ];exact if_neg cf
   have hml:0<(DJ Af).length/\(DJ Af).length<=7:=by refine Ae hm ?_;decide
   rw[<-hm]at e2;exact rest m0 σ₂ hml.1 hml.2 e2 (g1.trans g2) (g2.get _ _ ej)
 intro mi τ hm1 hm2 em g3 e3;walk_at"d";have al:=Ic em (by refine Ae (Aj ..) ?_;exact AA 0xf42405200071200011 hm2);rw[Aj]at al;refine AN al ?_;walk_at"d";obtain⟨p,hp0,hp⟩:∃p:Nat,(a.fdiv 12).fmod ((DJ Af).length:Int)=p/\p<(DJ Af).length:=⟨((a.fdiv 12).fmod ((DJ Af).length:Int)).toNat,by
  have h0:=Bv (a.fdiv 12) (b:=((DJ Af).length:Int)) (AA 0x60290002111 hm1);have h1:=BN (a.fdiv 12) (b:=((DJ Af).length:Int)) (AA 0x60290002111 hm1);exact⟨E3 0x601a01006a91 (Aw (D1 0x10280102811 h0)),Xd 0x10101106a100601912 h1 (Aw (D1 0x10280102811 h0))⟩⟩
 refine AN ((QK (AA 0x2006f0002111 hm1)).trans (by exact Ae hp0 rfl)) ?_;walk_at"d";refine Am ((Et em p (AQ 0xf42405210000101171200012 hm2 hp)).trans (by refine Ae BK (Ae (Ap hp) ?_);rfl)) ?_;have hmx:=CL hp;generalize (DJ Af)[p]=m at hmx⊢;simp only[Eg];walk_at"d";have one:∀τ',Cy τ τ'->Q (.ref τ'.length) (τ'++[.list false [Cj act]]):=λτ' g=>
  hQ _ _ [act] ((g3.trans g).trans (.app _)) (g3.trans g).len AJ ⟨act,wants,hact,.inl rfl⟩
 refine Bq (λhc=>?_) λhc=>?_
 .have lF:=kD hact;have lj:=(Ak.mp e3).1;refine YL (A:=[m]) (B:=wants) AJ (BW e3) (AQ 0x1071000111 lj) (by simp) (AA 0xa1200041200011 lF) λτ2 g4=>?_;have g5:=(Cy.app (σ:=τ) [AO.list false [AV.tup [AV.str m.1,AV.int m.2]]]).trans g4;walk_at"d";refine Bq (λhb=>?_) λhb=>?_
  .exact one _ g5
  .exact hQ _ _ [.FM m,act] ((g3.trans g5).trans (.app _)) (g3.trans g5).len AJ ⟨act,wants,hact,.inr ⟨m,hmx,by simpa using hb,rfl⟩⟩
 .exact one _ .rfl
structure YU(W:Wd)(S:List Dr):Prop where
 hl:S.length<=16
 hg:∀s∈S,S8 W s
 hg2:∀s∈(Dx W S).2,S8 W s
 Qj:∀l:List Dr,l.length<=16->(∀s∈l,s∈(Dx W S).2)->(Dx W l).1.1.all (pl 19)=true
 hp1:(Dx W S).1.1.all (pl 19)=true
 v6:((Hd W (Dx W S).1.1 (Dx W S).2).map Cj).all (pl 19)=true
 hp3:(Hd W (Dx W S).1.1 (Dx W S).2).length<=16
 HL:∀r∈(Dx W S).1.1,Jm r
 H1:∀fa b se,se<b->fa<b->se≠fa->Jz ⟨b,fa,se,W.Af,W.host,CJ Lv FL⟩ (Ku [Rb]) M0 (Dx W S).1.1 (λr=>r= .val (.tup ((Hd W (Dx W S).1.1 (Dx W S).2).map Cj)))
 H2:∀fa b se,se<b->fa<b->se≠fa->Jz ⟨b,fa,se,W.Af,W.host,CJ Lv FL⟩ (Ku []) M0 (Dx W S).1.1 (λr=>match Eu (Dx W S).1.1 with
   |[]=>r= .val (.tup ((Hd W (Dx W S).1.1 (Dx W S).2).map Cj))
   |w::_=>r= .exc w)
theorem yG{j:Nat}(hj:j=40)(ns:List Int)(rest:List Stmt)(S:AF->(Fm×St)->Prop):(I.at (By j) YS 1000).Pq (RK.take 6++rest) [("script",.W4 ns)] [] S=yD 20 (mU (I.at (By j) YS 993) rest (FR ns) tW S):=by
 subst hj;exact QcG ns rest S
theorem QcI{C:Cl}{sc:Scope}{n:Nat}{ss:List Stmt}{fr:Fm}{σ:St}{S:AF->(Fm×St)->Prop}:(I.at C sc (n+1)).Pq ss fr σ S=mU (I.at C sc n) ss fr σ S:=rfl
theorem yH{j:Nat}(hj:j=40){ns:List Int}{sc:Scope}{s1 s2 s3 s4 s5 s6 s7 s8:Stmt}{fr:Fm}{S:AF->(Fm×St)->Prop}(vZ:sc=YS)(hb:[s1,s2,s3,s4,s5,s6,s7,s8]=RK)(vX:fr=[(Aa "script",AV.W4 ns)])
  (h:∀σ₁:St,σ₁[0]? =some (.sd false (CJ Lv FL))->σ₁[30]? =some (.sd false (CJ Kx CF))->σ₁[33]? =some (.list false (Lb.map kA))->(I.at (By j) sc 994).Pq [s7,s8] (FR ns) σ₁ S):
  (I.at (By j) sc 1000).Pq [s1,s2,s3,s4,s5,s6,s7,s8] fr [] S:=by
 subst vZ vX;have e:[s1,s2,s3,s4,s5,s6,s7,s8]=RK.take 6++[s7,s8]:=by refine CV hb ?_;rfl
 refine Ae e (Ae (yG hj ..) ?_);exact tX ((QcI (n:=993)).mp (h tW rfl rfl rfl)) 20
noncomputable def OV(p:Int×Int×Int×Int):Nat->Int
 |0=>p.1
 |1=>p.2.1
 |2=>p.2.2.1
 |_=>p.2.2.2
theorem yI(τ:St)(p:Int×Int×Int×Int){i:Nat}(h:i<4):Jb τ (kA p) (.int i)=some (.int (OV p i)):=by
 refine lt4 h ?_ ?_ ?_ ?_
 .exact xO _ _
 .exact Qcm _ _ _
 .exact Qcn _ _ _ _
 .exact Qco _ _ _ _ _
theorem kE:∀p∈Lb,0<=p.2.2.2/\p.2.2.2<=1000:=by decide
theorem YV{Af:Str}{g:List Dr}(h:Fj Af g):g.length<=2:=by
 obtain⟨act,wants,_,rfl|⟨m,_,_,rfl⟩⟩:=h<;>simp
theorem YW{Af:Str}:∀gs:List (List Dr),(∀g∈gs,Fj Af g)->gs.flatten.length<=2*gs.length:=by
 intro gs;induction gs with
 |nil=>intro _;simp
 |cons g r ih=>
  intro h;have h1:=YV (h g (.head _));have h2:=ih λx hx=>h x (.tail _ hx);simp only[B2,Ah,Al];exact BC 0x1122032124100030202124100121200012 h1 h2
theorem kF{d f:Int}(h:Bw d<=1048576)(h0:0<=f)(h1:f<=1000):fits (f+d)=true:=by
 have e:Bw d=if(d==0)=true then 0 else d.natAbs.log2+1:=rfl
 rw[e]at h;have hd:d.natAbs<2^1048576:=by
  by_cases c:d=0
  .subst c;exact Nat.pow_pos (by decide)
  .rw[if_neg (by simpa using c)]at h;exact DW Nat.lt_log2_self (HK (by decide) h)
 have h3:(1000:Nat)<=2^1048576:=AS (by decide:1000<=2^10) (HK (by decide) (by decide));refine OM (n:=1048577) ?_ (by decide);refine Ae (Nat.pow_succ ..) ?_;generalize 2^1048576=P at*;exact z8 h0 h1 hd h3
theorem bB{ns:List Int}(hb:∀n∈ns,Bw n<=1048576)(p:Nat):Bw (Dk ns p)<=1048576:=by
 simp only[Dk];cases e:ns[p]? with
 |none=>exact(by decide:Bw 0<=1048576)
 |some v=>exact hb v (BR e)
theorem Qd8:∀{k:Nat}{ns:List Int}{Q:AV->St->Prop}(hk:k=40)(hl:ns.length<=63)(hb:∀n∈ns,Bw n<=1048576)(hrule:∀(Af host:Str)(gs:List (List Dr)),CE Af->(host="little"\/host="big")->gs.length<=4->(∀g∈gs,Fj Af g)->YU ⟨CF,Af,host⟩ gs.flatten)(hQ:∀σ,Q (.bool true) σ),By (k+1) "law" [.W4 ns] [] (PV Q):=by
 refine@(TN nN nL nQ ?_);generalize W1 .. =c;generalize c.1=k,c.2.1=ns,c.2.2=Q;intro hk hl hb hrule hQ;refine BG 100 (by kernel_rfl) (by rfl) ?_;refine yH hk (ns:=ns) (by kernel_rfl) (by kernel_rfl) (by rfl) λσ₁ e0 e1 e2=>?_;simp only[FR];obtain⟨k',rfl⟩:∃k',k=k'+15:=⟨k-15,by exact AQ 0xf1200310210f12003291 (AE (AA 0xf120282200291 hk))⟩
 clear hk;obtain⟨two,h2⟩:∃t:Nat,t=2:=⟨2,rfl⟩
 obtain⟨four,h4⟩:∃t:Nat,t=4:=⟨4,rfl⟩
 walk_at"d";refine Am (show mL [.int 2]=some (HO 0 (two:Nat)) by refine Ae h2 ?_;exact L6 (n:=2) (B8 0xf42405221200)) ?_;walk_at"d";refine NU (λm w τ=>w=[(Aa "script",.W4 ns),(Aa "fields",.ref 0),(Aa "table",.ref 30),(Aa "firsts",.ref 33)]/\After σ₁ 0 (CJ Lv FL) τ) ⟨rfl,AL _,λa a a=>rfl,⟨_,e0⟩⟩ ?_ ?_
 .rintro m w τ K hK hm ⟨rfl,ha⟩;walk_at"d";refine Ae (show(32:Int)+(m:Int)=((32+m:Nat):Int) by exact AA 0x20223600620223a0) ?_;refine Wk hl ?_;walk_at"d";have b0:=Bv ((m:Int)+Dk ns (32+m)) (b:=3) (B8 0x3120290);have b1:=BN ((m:Int)+Dk ns (32+m)) (b:=3) (B8 0x3120290);obtain⟨i,hi,hi4⟩:∃i:Nat,((m:Int)+Dk ns (32+m)).fmod 3=i/\i<3:=⟨(((m:Int)+Dk ns (32+m)).fmod 3).toNat,by exact⟨E3 0x601a01006a91 (Aw (D1 0x10280102811 b0)),E3 0x31200101006a131201912 b1 (Aw (D1 0x10280102811 b0))⟩⟩
  obtain⟨Af,Bl,hfe⟩:∃Af,CE Af/\[AV.str (Aa "bridge"),AV.str (Aa "inet"),AV.str (Aa "ip")][i]? =some (.str Af):=by
   refine lt3 hi4 ?_ ?_ ?_
   .exact⟨_,.inl rfl,rfl⟩
   .exact⟨_,.inr (.inl rfl),rfl⟩
   .exact⟨_,.inr (.inr rfl),rfl⟩
  refine Ae hi ?_;refine Am ((Et AJ i (E3 0xf42405200000601a931201912 b1 hi)).trans hfe) ?_;walk_at"d";refine Ae (show(34:Int)+(m:Int)=((34+m:Nat):Int) by exact AA 0x22223600622223a0) ?_;refine Wk hl ?_;walk_at"d";have c0:=Bv ((m:Int)+Dk ns (34+m)) (b:=2) (B8 0x2120290);have c1:=BN ((m:Int)+Dk ns (34+m)) (b:=2) (B8 0x2120290);obtain⟨i2,hi2,hi5⟩:∃i:Nat,((m:Int)+Dk ns (34+m)).fmod 2=i/\i<2:=⟨(((m:Int)+Dk ns (34+m)).fmod 2).toNat,by exact⟨E3 0x601a01006a91 (Aw (D1 0x10280102811 c0)),E3 0x21200101006a121201912 c1 (Aw (D1 0x10280102811 c0))⟩⟩
  obtain⟨host,hhost,hhe⟩:∃host,(host=Aa "little"\/host=Aa "big")/\[AV.str (Aa "little"),AV.str (Aa "big")][i2]? =some (.str host):=by
   refine lt2 hi5 ?_ ?_
   .exact⟨_,.inl rfl,rfl⟩
   .exact⟨_,.inr rfl,rfl⟩
  refine Ae hi2 ?_;refine Am ((Et AJ i2 (E3 0xf42405200000601a921201912 c1 hi2)).trans hhe) ?_;have g1:Cy τ (τ++[AO.list false [AV.str (Aa "bridge"),AV.str (Aa "inet"),AV.str (Aa "ip")]]++[AO.list false [AV.str (Aa "little"),AV.str (Aa "big")]]):=(Cy.app _).trans (.app _);generalize τ++[AO.list false [AV.str (Aa "bridge"),AV.str (Aa "inet"),AV.str (Aa "ip")]]++[AO.list false [AV.str (Aa "little"),AV.str (Aa "big")]]=τ1 at g1⊢;walk_at"d";refine AN (H5 (Ci (B8 0x412f424052780) (B8 0xf42405241280)) (Ci (AA 0x6f424052780) (AQ 0xf424052106800101121200212 h2 hm))) ?_;walk_at"d";refine AN (H5 (Ci (B8 0x412f424052780) (B8 0xf42405241280)) (Ci (AA 0x6f424052780) (AQ 0xf424052106800101121200212 h2 hm))) ?_;walk_at"d";have hrg:mL [.int (4*(m:Int)),.int (4*(m:Int)+4)]=some ((BZ four).map λk:Nat=> .int (4*(m:Int)+k)):=by
   refine Ae h4 ?_;refine(Vs _).trans ((if_pos ⟨by exact AA 0x64124f424052780,by exact AQ 0xf4240521064124800101421200242 h2 hm,by exact AQ 0xf42405241210641243800101421200242 h2 hm,by exact AA 0x41200641243f424052780⟩).trans ?_)
   (rw[HO];exact Ae (show(4*(m:Int)+4-4*(m:Int)).toNat=4 by exact AQ 0x4120021064124412106412435006a11 (Aw (AA 0x641244120064124350280))) rfl)
  refine Am hrg ?_;have g2:Cy τ (τ1++[AO.list false []]):=g1.trans (.app _);obtain⟨zf,hzf⟩:=ha.fa;have ht:=ha.at_ e1 (B8 0x21e2270);have hfs:=ha.at_ e2 (B8 0x2212270);walk_at"d";refine DR (λd u τ'=>Cy τ τ'/\∃(gs:List (List Dr))(j:Nat),u=[(Aa "script",.W4 ns),(Aa "fields",.ref 0),(Aa "table",.ref 30),(Aa "firsts",.ref 33),(Aa "rule",.int m),(Aa "family",.str Af),(Aa "world",.tup [.ref 30,.str Af,.str host]),(Aa "statements",.ref j)]/\gs.length=d.length/\(∀g∈gs,Fj Af g)/\τ'[j]? =some (.list false (gs.flatten.map Cj)))
   ⟨g2,[],τ1.length,rfl,rfl,λa h=>by simp at h,AJ⟩ ?_ ?_
  .rintro d kk r u τ' K2 iE e ⟨g3,gs,j,rfl,W7,hgg,hj2⟩;obtain⟨hd,ZG⟩:=QH e;obtain⟨kf,v0⟩:∃kf:Nat,kf=4*m+kk:=⟨_,rfl⟩
   have hkl:kf<Lb.length:=by refine Ae (show Lb.length=8 from rfl) ?_;lia
   have hkl8:kf<8:=hkl;refine Ae (show 4*(m:Int)+(kk:Int)=(kf:Int) by exact BC 0x620610641243a20104124300291 v0) ?_;have hff:(Lb.map kA)[kf]? =some (kA Lb[kf]):=by refine Ae BK (Ae (Ap hkl) ?_);rfl
   have hfo:=kE _ (CL hkl);generalize Lb[kf]=ff at hff hfo⊢;walk_at"d";refine Am (show mL [.int 4]=some (HO 0 (four:Nat)) by refine Ae h4 ?_;exact L6 (n:=4) (B8 0xf42405241200)) ?_;walk_at"d";refine Hz (λq w acc τ''=>w=[(Aa "firsts",.ref 33),(Aa "k",.int kf),(Aa "script",.W4 ns)]/\τ''=τ'/\acc=(BZ q).map λi=> .int (OV ff i+Dk ns (4*kf+i))) ⟨rfl,rfl,rfl⟩ ?_ ?_
   .rintro q w acc τ'' K3 hK3 hq ⟨rfl,rfl,rfl⟩;walk_at"d";refine Am ((Et (g3.get _ _ hfs) kf (AA 0xf42405200081200111 hkl8)).trans hff) ?_;walk_at"d";refine Am (yI _ _ (h4▸hq)) ?_;walk_at"d";refine AN (H5 (Ci (B8 0x412f424052780) (B8 0xf42405241280)) (Ci (AA 0x6f424052780) (AA 0xf424052006881200111 hkl8))) ?_;walk_at"d";refine Ae (show 4*(kf:Int)+(q:Int)=((4*kf+q:Nat):Int) by exact AQ 0x100041243610600641243a0) ?_;refine Wk hl ?_;walk_at"d";refine⟨by show _<=1000000;simp only[Aj,BS];exact AQ 0xf42405210000101141200212 h4 hq,hK3 _ _ _ ⟨rfl,rfl,?_⟩⟩;refine Ae Q7 (Ae Bg ?_);rfl
   .rintro w acc τ'' ⟨rfl,rfl,rfl⟩;refine Ae h4 ?_;refine⟨by show _<=1000000;simp,?_⟩;refine Ae (IG ..) ?_;walk_at"d";refine xP AJ ?_;simp only[show BZ 4=[0,1,2,3]from rfl,AW,Ct];have gx:=Cy.app (σ:=τ'') [AO.list false [AV.int (OV ff 0+Dk ns (4*kf+0)),AV.int (OV ff 1+Dk ns (4*kf+1)),AV.int (OV ff 2+Dk ns (4*kf+2)),AV.int (OV ff 3+Dk ns (4*kf+3))]];generalize τ''++[AO.list false [AV.int (OV ff 0+Dk ns (4*kf+0)),AV.int (OV ff 1+Dk ns (4*kf+1)),AV.int (OV ff 2+Dk ns (4*kf+2)),AV.int (OV ff 3+Dk ns (4*kf+3))]]=τ2 at gx⊢;have g4:=g3.trans gx;have fq:=kF (bB hb (4*kf+3)) hfo.1 hfo.2;generalize OV ff 0+Dk ns (4*kf+0)=i0;generalize OV ff 1+Dk ns (4*kf+1)=i1;generalize OV ff 2+Dk ns (4*kf+2)=i2;generalize hi3:OV ff 3+Dk ns (4*kf+3)=i3;walk_at"d";refine Ww (k:=k'+11) (g4.get _ _ ht) Bl (by refine CV hi3 ?_;exact fq) λτ3 j2 g g5 hj3 hj4 hgood=>?_;have e5:=g5.get _ _ (gx.get _ _ hj2);have lgs:gs.length<=4:=by have:=congrArg AX e;simp only[BS,Ah,Al]at this;exact Df 0x412100112303203002920102141200213 h4 W7 this
    have lf:=YW gs hgg;have lg:=YV hgood;walk_at"d";refine AN (PX e5 hj4 (by simp only[Aj];exact BC 0xf4240522010302122001002124100141200023 lgs lf lg)) ?_;walk_at"d";refine iE _ _ ⟨(g4.trans g5).trans (.app _),gs++[g],τ3.length,rfl,by simp only[Ah,Al,Ar];exact AQ 0x11202310311202300321000211 W7,?_,?_⟩
    .intro x hx;rcases An.mp hx with h|h
     .exact hgg x h
     .refine Ae (Ai.mp h) ?_;exact hgood
    .refine Ae AJ (Ae List.flatten_append (Ae Bg ?_));simp
  .rintro u τ' ⟨g3,gs,j,rfl,W7,hgg,hj2⟩;have hp:=hrule Af host gs Bl hhost (by refine Ae W7 (Ae BS (Ae h4 ?_));exact AL _) hgg;walk_at"d";refine Wu (k:=k') (W:=⟨CF,Af,host⟩) (g3.get _ _ ht) (g3.get _ _ hzf) hj2 (B8 0x21e2270) hp.hl hp.hg hp.hg2 hp.Qj hp.hp1 hp.v6 hp.hp3 hp.HL (hp.H1 0) (hp.H2 0) λσ₃ ha3=>?_;walk_at"d";exact hK _ _ ⟨rfl,(ha.trans (After.grow g3 hzf)).trans ha3⟩
 .rintro w τ ⟨rfl,ha⟩;walk_at"d";exact hQ _
noncomputable def OW(D N:List Nn):List Nn:=N.filter λn=>decide (n∉D)
noncomputable def tL(m:Option Nn):List Nn:=m.toList
noncomputable def gG(NT:List Nn)(m:Option Nn):List Nn:=OW (tL m) NT
noncomputable def Lk(NT NS:List Nn)(m:Option Nn):List Nn:=tL m++gG NT m++OW (tL m++gG NT m) NS
noncomputable def QcJ(P NS:List Nn):Option Nat:=Jj (λs=>decide (OW (P.take s) NS=P.drop s)) (P.length+1) 0
noncomputable def QcK(P NT:List Nn)(s:Nat):Option Nat:=Jj (λt=>decide (OW (P.drop s++(P.take s).take t) NT=(P.take s).drop t)) (s+1) 0
noncomputable def OX(NT NS:List Nn):List Nn:=NT++OW NT NS
noncomputable def U9(NT NS:List Nn)(m:Option Nn):Bool:=match QcJ (Lk NT NS m) NS with
 |none=>false
 |some s=>match QcK (Lk NT NS m) NT s with
  |none=>false
  |some t=>decide (((Lk NT NS m).take s).take t=(if(OX NT NS).head?=m then[]else tL m))&&(decide (m=none)|| !decide ((OX NT NS).head?=m)||decide (OX NT NS=Lk NT NS m))
noncomputable def L9:List (List Nn):=[[],[("ether type",33024)],[("meta protocol",2054)],[("meta nfproto",10)],[("meta nfproto",2)],[("meta l4proto",6)],[("meta l4proto",17)],[("meta nfproto",2),("meta l4proto",1)],[("meta l4proto",1)]]
noncomputable def Wx(NT NS:List Nn):Bool:=decide (NT=[(Aa "meta l4proto",1)])&&decide ((Aa "meta nfproto",(2:Int))∈NS)
theorem yJ:L9.all (λNT=>L9.all λNS=>Wx NT NS||(none::G7.map some).all λm=>U9 NT NS m)=true:=by decide +kernel
noncomputable def kn(K:List (Str×Int))(n:Nn):Bool:=decide (getL K n.1=some n.2)
noncomputable def Ff(K:List (Str×Int))(N:List Nn):List Nn:=N.filter λn=> !kn K n
noncomputable def BQ(K:List (Str×Int))(A:List Nn):List (Str×Int):=A.foldl (λK n=>GF K n.1 n.2) K
noncomputable def Ek(A:List Nn):List AV:=A.flatMap λn=>E1 n.1 n.2
def Cons(U:List Nn):Prop:=∀a∈U,∀b∈U,a.1=b.1->a=b
theorem tZ(K:List (Str×Int))(a n:Nn)(h:a.1=n.1->a=n):kn (GF K a.1 a.2) n=(decide (n=a)||kn K n):=by
 simp only[kn,Im];by_cases c:a.1=n.1
 .have:=h c;subst this;simp
 .have:n≠a:=by rintro rfl;exact c rfl
  simp[c,this]
theorem N5(n:Nn):∀(A:List Nn)(K:List (Str×Int)),(∀a∈A,a.1=n.1->a=n)->kn (BQ K A) n=(decide (n∈A)||kn K n):=by
 intro A;induction A with
 |nil=>intro K _;simp[BQ]
 |cons a r ih=>
  intro K h;have:=ih (GF K a.1 a.2) λb hb=>h b (.tail _ hb);simp only[BQ,Bu]at this⊢;refine Ae this (Ae (tZ K a n (h a (.head _))) ?_);by_cases c1:n=a<;>by_cases c2:n∈r<;>simp[c1,c2]
theorem IQ(K:List (Str×Int))(A B:List Nn):BQ K (A++B)=BQ (BQ K A) B:=by simp[BQ]
theorem PY(A B:List Nn):Ek (A++B)=Ek A++Ek B:=by simp[Ek]
theorem kG:∀(N:List Nn)(L:List AV)(K:List (Str×Int)),(N.map Bk).Nodup->DU N L K=(L++Ek (Ff K N),BQ K (Ff K N)):=by
 intro N;induction N with
 |nil=>intro L K _;simp[DU,Ff,Ek,BQ]
 |cons n r ih=>
  intro L K h;simp only[AW,CY]at h;by_cases c:getL K n.1=some n.2
  .have e:Ff K (n::r)=Ff K r:=by simp[Ff,C8,kn,c]
   refine Ae e ?_;have:=ih L K h.2;simp only[DU,Bu]at this⊢;refine Ae (show Ie (L,K) n=(L,K) by simp[Ie,c]) ?_;exact this
  .have e:Ff K (n::r)=n::Ff K r:=by simp[Ff,C8,kn,c]
   have e2:Ff (GF K n.1 n.2) r=Ff K r:=by
    simp only[Ff];refine Jx λa ha=>?_;have Gk:n.1≠a.1:=λhe=>h.1 (by refine Ae he ?_;exact Cu (f:=Bk) ha);refine Ae (tZ K n a (λhe=>absurd he Gk)) ?_;have:a≠n:=by rintro rfl;exact Gk rfl
    simp[this]
   refine Ae e ?_;have:=ih (L++E1 n.1 n.2) (GF K n.1 n.2) h.2;rw[e2]at this;simp only[DU,Bu]at this⊢;refine Ae (show Ie (L,K) n=(L++E1 n.1 n.2,GF K n.1 n.2) by simp[Ie,c]) (Ae this ?_);simp[Ek,BQ]
theorem Va(h:Str):(((getL C4 h).getD []).map Bk).Nodup/\(getL C4 h).getD []∈L9:=by
 simp only[C4,FC,Ef]
 repeat' split
 all_goals exact⟨by decide +kernel,by decide +kernel⟩
theorem PZ(Af h:Str):((Ca Af h).map Bk).Nodup:=by
 simp only[Ca];split
 .exact(Va h).1.sublist ((List.filter_sublist ..).map _)
 .exact(Va h).1
theorem Qey:L9.all (λNT=>L9.all λNS=>Wx NT NS|| !(NT.all λn=>decide (n∈NS))||decide (OX NT NS=NS))=true:=by decide +kernel
theorem gH(Af h:Str)(p:Nn->Bool):(Ca Af h).filter p∈L9:=by
 have key:∀q:Nn->Bool,((getL C4 h).getD []).filter q∈L9:=by
  intro q;simp only[C4,FC,Ef]
  repeat' split
  all_goals (simp only[Fq,J9,C8,HZ];(repeat' split)<;>decide +kernel)
 simp only[Ca];split
 .refine Ae I2 ?_;exact key _
 .exact key _
theorem yK(h:Str):(Aa "meta l4proto",(1:Int))∈(getL C4 h).getD []->(Aa "meta nfproto",(2:Int))∈(getL C4 h).getD []:=by
 simp only[C4,FC,Ef]
 repeat' split
 all_goals decide +kernel
theorem Qd9(Af h h':Str)(p:Nn->Bool):Wx ((Ca Af h).filter p) ((Ca Af h').filter p)=false:=by
 refine(Js).mpr ?_;intro e;simp only[Wx,Av,decide_eq_true_eq]at e;obtain⟨e1,e2⟩:=e;have h1:(Aa "meta l4proto",(1:Int))∈(Ca Af h).filter p:=by refine Ae e1 ?_;exact .head _
 obtain⟨h2,h3⟩:=BL.mp h1;obtain⟨h4,h5⟩:=BL.mp e2;simp only[Ca]at h2 h4 e1;by_cases c:Af=Aa "ip"
 .rw[if_pos c]at h4;have:=(BL.mp h4).2;exact absurd this (by decide +kernel)
 .rw[if_neg c]at h2 h4 e1;have:=yK h h2;have:(Aa "meta nfproto",(2:Int))∈[(Aa "meta l4proto",(1:Int))]:=by refine CV e1 ?_;exact BL.mpr ⟨this,h5⟩
  exact absurd this (by decide +kernel)
theorem yL(N:List Nn):Wx [] N=false/\Wx N []=false:=by
 constructor
 .simp[Wx]
 .simp[Wx]
theorem Kz{K:List (Str×Int)}{U:List Nn}(h:∀n∈U,kn K n=true):Cons U:=by
 intro a ha b hb e;have h1:=of_decide_eq_true (h a ha);have h2:=of_decide_eq_true (h b hb);rw[e,h2]at h1;exact Pn e (BB h1).symm
theorem Cons.sub{U V:List Nn}(h:Cons V)(k:∀a∈U,a∈V):Cons U:=λa ha b hb e=>h a (k a ha) b (k b hb) e
theorem Ry{K:List (Str×Int)}{A N:List Nn}(h:Cons (A++N)):Ff (BQ K A) N=OW A (Ff K N):=by
 simp only[Ff,OW,I2];refine Jx λn hn=>?_;refine Ae (N5 n A K λa ha=>h a (AD _ ha) n (AG _ hn)) ?_;by_cases c:n∈A<;>simp[c]
theorem FZ{K:List (Str×Int)}{N:List Nn}{n:Nn}(h:n∈Ff K N):n∈N:=(BL.mp h).1
theorem Tc{K:List (Str×Int)}{N:List Nn}(hc:Cons N){n:Nn}(h:n∈N):kn (BQ K (Ff K N)) n=true:=by
 refine Ae (N5 n _ K λa ha e=>hc a (FZ ha) n h e) ?_;by_cases c:kn K n=true
 .simp[c]
 .have:n∈Ff K N:=BL.mpr ⟨h,by simpa using c⟩;simp[this]
theorem yM{K:List (Str×Int)}{N:List Nn}(h:∀n∈N,kn K n=true):Ff K N=[]:=by
 simp only[Ff,EI];intro n hn;simp[h n hn]
theorem Wy{N:List Nn}(h:(N.map Bk).Nodup):Cons N:=by
 intro a ha b hb e;induction N with
 |nil=>cases ha
 |cons n r ih=>
  simp only[AW,CY]at h;rcases Au.mp ha with rfl|ha'<;>rcases Au.mp hb with rfl|vW
  .rfl
  .exact absurd (Cu (f:=Bk) vW) (by refine CV e ?_;exact h.1)
  .exact absurd (Cu (f:=Bk) ha') (by refine Ae e ?_;exact h.1)
  .exact ih h.2 ha' vW
noncomputable def KG:Str:=Aa "th dport"
theorem DV:∀(Af y:Str)(K:List (Str×Int)),Bz Af y K=y\/(y=KG/\((Bz Af y K=Aa "icmp checksum"/\getL K "meta l4proto"=some 1/\(Af="ip"\/getL K "meta nfproto"=some 2))\/(Bz Af y K=Aa "tcp dport"/\getL K "meta l4proto"=some 6)\/(Bz Af y K=Aa "udp dport"/\getL K "meta l4proto"=some 17))):=by
 refine@(TN A8 A8 nL ?_);generalize W1 .. =z;generalize z.1=Af,z.2.1=y,z.2.2=K;simp only[Bz,Nv,KG];by_cases c:y=Aa "th dport"
 .refine Ae (if_neg (by simpa using c)) ?_;split
  .rename_i h;exact .inr ⟨c,.inl ⟨rfl,h.1,h.2⟩⟩
  .split
   .rename_i h;exact .inr ⟨c,.inr (.inl ⟨rfl,h⟩)⟩
   .split
    .rename_i h;exact .inr ⟨c,.inr (.inr ⟨rfl,h⟩)⟩
    .exact .inl rfl
 .refine Ae (if_pos c) ?_;exact .inl rfl
theorem OY{Af y:Str}{K:List (Str×Int)}(h:y≠KG):Bz Af y K=y:=by
 rcases DV Af y K with e|⟨e,_⟩
 .exact e
 .exact absurd e h
theorem Pv:Aa "icmp checksum"≠KG/\Aa "tcp dport"≠KG/\Aa "udp dport"≠KG:=by decide +kernel
theorem P0(Af y:Str)(K:List (Str×Int)):Bz Af (Bz Af y K) K=Bz Af y K:=by
 rcases DV Af y K with e|⟨_,⟨e,_⟩|⟨e,_⟩|⟨e,_⟩⟩
 .refine Ae e ?_;exact e
 .refine Ae e ?_;exact OY Pv.1
 .refine Ae e ?_;exact OY Pv.2.1
 .refine Ae e ?_;exact OY Pv.2.2
theorem heads:IP "icmp checksum"="icmp"/\IP "tcp dport"="tcp"/\IP "udp dport"="udp"/\IP KG="th":=by decide +kernel
theorem IR(Af:Str):AC Af KG=[]:=by
 simp only[AC,heads.2.2.2,Ca];split<;>decide +kernel
theorem KH:∀{Af:Str}{K:List (Str×Int)}{z:Str}(h:Bz Af KG K=z)(hz:z≠KG),∀n∈AC Af z,kn K n=true:=by
 refine@(TN A8 nL A8 ?_);generalize W1 .. =y;generalize y.1=Af,y.2.1=K,y.2.2=z;intro h hz;rcases DV Af KG K with e|⟨_,⟨e,h1,h2⟩|⟨e,h1⟩|⟨e,h1⟩⟩<;>rw[h]at e
 .exact absurd e hz
 .subst e;intro n hn;simp only[AC,heads.1,Ca]at hn;by_cases c:Af=Aa "ip"
  .rw[if_pos c,show((getL C4 "icmp").getD []).filter Nu=[(Aa "meta l4proto",(1:Int))] by decide +kernel]at hn;refine Ae (Ai.mp hn) ?_;exact decide_eq_true h1
  .rw[if_neg c,show(getL C4 "icmp").getD []=[(Aa "meta nfproto",(2:Int)),(Aa "meta l4proto",(1:Int))] by decide +kernel]at hn;rcases Au.mp hn with rfl|hn
   .exact decide_eq_true (h2.resolve_left c)
   .refine Ae (Ai.mp hn) ?_;exact decide_eq_true h1
 .subst e;intro n hn;simp only[AC,heads.2.1,Ca]at hn;rw[show((getL C4 "tcp").getD []).filter Nu=(getL C4 "tcp").getD [] by decide +kernel,ite_self,show(getL C4 "tcp").getD []=[(Aa "meta l4proto",(6:Int))] by decide +kernel]at hn;refine Ae (Ai.mp hn) ?_;exact decide_eq_true h1
 .subst e;intro n hn;simp only[AC,heads.2.2.1,Ca]at hn;rw[show((getL C4 "udp").getD []).filter Nu=(getL C4 "udp").getD [] by decide +kernel,ite_self,show(getL C4 "udp").getD []=[(Aa "meta l4proto",(17:Int))] by decide +kernel]at hn;refine Ae (Ai.mp hn) ?_;exact decide_eq_true h1
theorem t6:[Aa "bridge",Aa "inet",Aa "ip"].all (λAf=>[Aa "icmp checksum",Aa "tcp dport",Aa "udp dport"].all λz=>decide (z∈Ck Af))=true:=by decide +kernel
theorem vM:Cc CF "icmp checksum"=Cc CF KG/\Cc CF "tcp dport"=Cc CF KG/\Cc CF "udp dport"=Cc CF KG:=⟨by kernel_rfl,by kernel_rfl,by kernel_rfl⟩
theorem MQ:getL EW "icmp checksum"=none/\getL EW "tcp dport"=none/\getL EW "udp dport"=none/\getL EW KG=none:=⟨by kernel_rfl,by kernel_rfl,by kernel_rfl,by kernel_rfl⟩
theorem gI(Af y:Str)(K:List (Str×Int)):Cc CF (Bz Af y K)=Cc CF y/\getL EW (Bz Af y K)=getL EW y:=by
 rcases DV Af y K with e|⟨rfl,⟨e,_⟩|⟨e,_⟩|⟨e,_⟩⟩<;>refine Ae e ?_
 .exact⟨rfl,rfl⟩
 .exact⟨vM.1,MQ.1.trans MQ.2.2.2.symm⟩
 .exact⟨vM.2.1,MQ.2.1.trans MQ.2.2.2.symm⟩
 .exact⟨vM.2.2,MQ.2.2.1.trans MQ.2.2.2.symm⟩
theorem Wz:∀{Af y:Str}{K:List (Str×Int)}(Bl:CE Af)(h:y∈Ck Af),Bz Af y K∈Ck Af:=by
 refine@(TN A8 A8 nL ?_);generalize W1 .. =c;generalize c.1=Af,c.2.1=y,c.2.2=K;intro Bl h;have hn:∀z∈[Aa "icmp checksum",Aa "tcp dport",Aa "udp dport"],z∈Ck Af:=by
  intro z hz;have:=Az.mp (Az.mp t6 Af (by rcases Bl with rfl|rfl|rfl<;>simp)) z hz;exact of_decide_eq_true this
 rcases DV Af y K with e|⟨_,⟨e,_⟩|⟨e,_⟩|⟨e,_⟩⟩<;>refine Ae e ?_
 .exact h
 .exact hn _ (by simp)
 .exact hn _ (by simp)
 .exact hn _ (by simp)
theorem Vb{Af y:Str}(Bl:CE Af)(h:y∈Ck Af):aS CF Af y:=by
 have HL:=N4 Bl;simp only[namesOk,Av,Az]at HL;exact Wn (HL.1.1.1 y h)
theorem Qea{Af y:Str}(Bl:CE Af)(h:y∈Eh Af):y∈Ck Af:=by
 have HL:=N4 Bl;simp only[namesOk,Av,Az,decide_eq_true_eq]at HL;exact(HL.1.1.2 y h).1
noncomputable def k1(Af x:Str)(K:List (Str×Int)):List (Str×Int):=BQ K (Ff K (AC Af x))
noncomputable def sR(Af x:Str)(s:Src)(K:List (Str×Int)):Src:=s.La λy=>Bz Af y (k1 Af x K)
noncomputable def ww(Af x:Str)(s:Src)(K:List (Str×Int)):List Nn:=Ff K (AC Af x)++Ff (k1 Af x K) (AY Af s)
noncomputable def k2(Af x:Str)(s:Src)(K:List (Str×Int)):List (Str×Int):=BQ K (ww Af x s K)
noncomputable def xR(Af x:Str)(s:Src)(K:List (Str×Int)):Str:=Bz Af x (k2 Af x (sR Af x s K) K)
noncomputable def C5(y:Str):List AV:=D6 (Cc CF y)::FP y (Cc CF y).size
noncomputable def zS(host x:Str):Src->List AV
 | .num n=>[YN (CG n (Cc CF x).size (E7 (Cc CF x).order host))]
 | .map e m=>C5 e.name++Hc host (Cc CF e.name).size (Cc CF e.name).order e++[YO (Cc CF e.name).size (Cc CF e.name).order m (Cc CF x).size (Cc CF x).order]
 | .val e=>C5 e.name++Hc host (Cc CF e.name).size (Cc CF e.name).order e++(if(Cc CF e.name).order=(Cc CF x).order then[]else[PW (Cc CF x).size])
noncomputable def zR(host x:Str)(s:Src):List AV:=zS host x s++[N2 (Cc CF x)]
theorem D7(e:Ex)(z:Str):(e.La z).name=z:=by induction e with
 |fld x=>rfl
 |op t e n ih=>exact ih
theorem gJ(host o:Str)(n:Nat)(e:Ex)(z:Str):Hc host n o (e.La z)=Hc host n o e:=by induction e with
 |fld x=>rfl
 |op t e n ih=>simp only[jY,jZ,aY,YM,ih]
theorem Rz(e:Ex)(z w:Str):(e.La z).La w=e.La w:=by induction e with
 |fld x=>rfl
 |op t e n ih=>simp only[jY,jZ,ih]
theorem YX(e:Ex):e.La e.name=e:=by induction e with
 |fld x=>rfl
 |op t e n ih=>simp only[jY,jZ,tH,tJ,ih]
theorem kH(e:Ex)(z:Str):(e.La z).depth=e.depth:=by induction e with
 |fld x=>rfl
 |op t e n ih=>simp only[jY,jZ,j0,j4,ih]
theorem WA(Af x:Str)(p:Ps):Md (AC Af x) p=(p.1++Ek (Ff p.2 (AC Af x)),BQ p.2 (Ff p.2 (AC Af x))):=kG _ _ _ (PZ _ _)
theorem WB:∀(Af host x:Str)(s:Src)(L:List AV)(K:List (Str×Int)),Wq ⟨CF,Af,host⟩ x s (L,K)=(L++Ek (ww Af x (sR Af x s K) K)++zR host x (sR Af x s K),MV (k2 Af x (sR Af x s K) K) (xR Af x s K))/\
  j8 ⟨CF,Af,host⟩ x s (L,K)=xR Af x s K/\j9 ⟨CF,Af,host⟩ x s (L,K)=sR Af x s K:=by
 refine@(Fd A8 A8 A8 Wo nL nL ?_);generalize E2 .. =c;generalize c.1=Af,c.2.1=host,c.2.2.1=x,c.2.2.2.1=s,c.2.2.2.2.1=L,c.2.2.2.2.2=K;have e0:=WA Af x (L,K);simp only at e0;have key:Lw ⟨CF,Af,host⟩ x (Md (AC Af x) (L,K)) s=(L++Ek (ww Af x (sR Af x s K) K)++zS host x (sR Af x s K),k2 Af x (sR Af x s K) K):=by
  refine Ae e0 ?_;cases s with
  |num n=>simp[Lw,sR,Src.La,ww,AY,zS,k2,Ff]
  |map e m=>
   have e1:=WA Af (Bz Af e.name (BQ K (Ff K (AC Af x)))) (L++Ek (Ff K (AC Af x)),BQ K (Ff K (AC Af x)));simp only[Lw,HT,HS,e1,sR,Src.La,ww,AY,zS,k2,k1,D7,gJ,C5,PY,IQ,Ao,AM]
  |val e=>
   have e1:=WA Af (Bz Af e.name (BQ K (Ff K (AC Af x)))) (L++Ek (Ff K (AC Af x)),BQ K (Ff K (AC Af x)));simp only[Lw,HT,HS,e1,sR,Src.La,ww,AY,zS,k2,k1,D7,gJ,C5,PY,IQ,Ao,AM]
 refine⟨?_,?_,?_⟩
 .simp only[Wq,key,xR,zR,Ao]
 .simp only[j8,key,xR]
 .simp only[j9,e0,sR,k1]
theorem KJ(Af:Str)(s:Src):AY Af s=[]\/∃y,AY Af s=AC Af y:=by
 cases s with
 |num n=>exact .inl rfl
 |map e m=>exact .inr ⟨_,rfl⟩
 |val e=>exact .inr ⟨_,rfl⟩
theorem gL(Af:Str)(s:Src):Cons (AY Af s):=by
 rcases KJ Af s with e|⟨y,e⟩<;>refine Ae e ?_
 .intro a ha;cases ha
 .exact Wy (PZ _ _)
theorem bC(Af:Str)(s:Src)(K:List (Str×Int)):Ff K (AY Af s)∈L9:=by
 rcases KJ Af s with e|⟨y,e⟩<;>refine Ae e ?_
 .exact .head _
 .exact gH _ _ _
theorem t7(Af x:Str)(s:Src)(K:List (Str×Int)):Wx (Ff K (AC Af x)) (Ff K (AY Af s))=false:=by
 rcases KJ Af s with e|⟨y,e⟩<;>refine Ae e ?_
 .exact(yL _).2
 .exact Qd9 _ _ _ _
theorem gM:∀(Af host x:Str)(s:Src)(K:List (Str×Int)),sR Af (xR Af x s K) (sR Af x s K) K=sR Af x s K/\ww Af (xR Af x s K) (sR Af x s K) K=ww Af x (sR Af x s K) K/\zR host (xR Af x s K) (sR Af x s K)=zR host x (sR Af x s K):=by
 refine@(I8 A8 A8 A8 Wo nL ?_);generalize Ke .. =w;generalize w.1=Af,w.2.1=host,w.2.2.1=x,w.2.2.2.1=s,w.2.2.2.2=K;have TR:=(gI Af x (k2 Af x (sR Af x s K) K)).1;have hz:zR host (xR Af x s K) (sR Af x s K)=zR host x (sR Af x s K):=by
  refine Ae (show xR Af x s K=Bz Af x (k2 Af x (sR Af x s K) K)from rfl) ?_;generalize Bz Af x (k2 Af x (sR Af x s K) K)=z at TR;cases sR Af x s K<;>simp only[zR,zS,TR]
 by_cases hx:xR Af x s K=x
 .refine⟨?_,by exact Ae hx rfl,hz⟩;refine Ae hx ?_;cases s with
  |num n=>rfl
  |map e m=>simp only[sR,Src.La,D7,Rz,P0]
  |val e=>simp only[sR,Src.La,D7,Rz,P0]
 .have W0:x=KG:=by
   rcases DV Af x (k2 Af x (sR Af x s K) K)with e|⟨e,_⟩
   .exact absurd e hx
   .exact e
  have Gk:xR Af x s K≠KG:=by refine CV W0 ?_;exact hx
  have MS:k1 Af x K=K:=by simp only[k1,W0,IR];rfl
  have hww:ww Af x (sR Af x s K) K=Ff K (AY Af (sR Af x s K)):=by
   have hw0:AC Af x=[]:=by exact Ae W0 (Ae (IR ..) rfl)
   simp only[ww,MS,hw0];rfl
  have hkn:∀n∈AC Af (xR Af x s K),kn (k2 Af x (sR Af x s K) K) n=true:=KH (by refine CV W0 ?_;rfl) Gk;have MT:k2 Af x (sR Af x s K) K=BQ K (Ff K (AY Af (sR Af x s K))):=by simp only[k2,hww]
  have W6:∀y,y=KG->AY Af (sR Af x s K)=AC Af y->Bz Af KG K=y->False:=by
   intro y hy e ep;rw[MT,e,hy,IR]at hkn;have:xR Af x s K=Bz Af KG K:=by simp only[xR,W0];refine CV W0 (Ae MT (Ae e (Ae hy (Ae (IR ..) ?_))));rfl
   rw[this,ep,hy]at Gk;exact Gk rfl
  refine⟨?_,?_,hz⟩
  .have rn:∀y,(AY Af (sR Af x s K)=AC Af (Bz Af y (k1 Af x K)))->Bz Af (Bz Af y (k1 Af x K)) (k1 Af (xR Af x s K) K)=Bz Af y (k1 Af x K):=by
    intro y hy;by_cases c:Bz Af y (k1 Af x K)=KG
    .have hyt:y=KG:=by
      rcases DV Af y (k1 Af x K)with e|⟨e,_⟩
      .refine CV e ?_;exact c
      .exact e
     exact(W6 _ c hy (by exact Ae hyt (Ae MS rfl))).elim
    .exact OY c
   cases s with
   |num n=>rfl
   |map e m=>
    have:=rn e.name (by simp only[sR,Src.La,AY,D7]);simp only[sR,Src.La,D7,Rz]at this⊢;exact Ae this rfl
   |val e=>
    have:=rn e.name (by simp only[sR,Src.La,AY,D7]);simp only[sR,Src.La,D7,Rz]at this⊢;exact Ae this rfl
  .refine Ae hww ?_;have hall:∀n∈AC Af (xR Af x s K)++AY Af (sR Af x s K),kn (k2 Af x (sR Af x s K) K) n=true:=by
    intro n hn;rcases An.mp hn with h|h
    .exact hkn n h
    .refine Ae MT ?_;exact Tc (gL _ _) h
   have hc:=Kz hall;rw[ww,k1,Ry (hc.sub λa ha=>by
    rcases An.mp ha with h|h
    .exact AD _ (FZ h)
    .exact AG _ h)]
   have h9:=Az.mp (Az.mp Qey (Ff K (AC Af (xR Af x s K))) (gH _ _ _)) (Ff K (AY Af (sR Af x s K))) (bC _ _ _);rw[t7,JE,BX,decide_eq_true_eq,Cw]at h9;rcases h9 with h|h
   .rw[<-EB,Az]at h;refine(h λn hn=>decide_eq_true ?_).elim;have hk:=hkn n (FZ hn);rw[MT,N5 n _ K λa ha e=>hc a (AG _ (FZ ha)) n (AD _ (FZ hn)) e]at hk;have hnk:kn K n=false:=by simpa using(BL.mp hn).2
    rw[hnk,Nw,decide_eq_true_eq]at hk;exact hk
   .exact h
noncomputable abbrev WT (Af host:Str):Wd:=⟨CF,Af,host⟩
theorem bD(Af host:Str)(L:List AV)(K:List (Str×Int))(T:List Dr)(s:Dr):
  Cv (WT Af host) ((L,K),T) s=((L++(Cv (WT Af host) (([],K),[]) s).1.1,(Cv (WT Af host) (([],K),[]) s).1.2),T++(Cv (WT Af host) (([],K),[]) s).2):=by
 cases s with
 |FM n=>simp[Cv]
 |set x s=>
  have h1:=WB Af host x s L K;have h2:=WB Af host x s [] K;simp only[Cv,h1,h2,AP,Ao]
 |Eo op r=>simp[Cv]
theorem bE(Af host:Str):∀(l:List Dr)(L:List AV)(K:List (Str×Int))(T:List Dr),
  C0 (WT Af host) ((L,K),T) l=((L++(C0 (WT Af host) (([],K),[]) l).1.1,(C0 (WT Af host) (([],K),[]) l).1.2),T++(C0 (WT Af host) (([],K),[]) l).2):=by
 intro l;induction l with
 |nil=>intro L K T;simp[C0]
 |cons s r ih=>
  intro L K T;simp only[C0,Bu]at ih⊢;refine Ae (bD Af host L K T s) ?_;refine Ae (show Cv (WT Af host) (([],K),[]) s=(((Cv (WT Af host) (([],K),[]) s).1.1,(Cv (WT Af host) (([],K),[]) s).1.2),(Cv (WT Af host) (([],K),[]) s).2)from rfl) ?_;refine Ae (ih (L++_) ..) (Ae (ih (Cv (WT Af host) (([],K),[]) s).1.1 ..) ?_);simp only[Ao]
noncomputable def gR(Af host:Str)(K:List (Str×Int))(l:List Dr):List AV:=(C0 (WT Af host) (([],K),[]) l).1.1
noncomputable def gK(Af host:Str)(K:List (Str×Int))(l:List Dr):List (Str×Int):=(C0 (WT Af host) (([],K),[]) l).1.2
noncomputable def gT(Af host:Str)(K:List (Str×Int))(l:List Dr):List Dr:=(C0 (WT Af host) (([],K),[]) l).2
theorem CR(Af host:Str)(K:List (Str×Int))(a b:List Dr):
  gR Af host K (a++b)=gR Af host K a++gR Af host (gK Af host K a) b/\gK Af host K (a++b)=gK Af host (gK Af host K a) b/\gT Af host K (a++b)=gT Af host K a++gT Af host (gK Af host K a) b:=by
 have h:C0 (WT Af host) (([],K),[]) (a++b)=C0 (WT Af host) (C0 (WT Af host) (([],K),[]) a) b:=Jw;have e:C0 (WT Af host) (([],K),[]) a=((gR Af host K a,gK Af host K a),gT Af host K a):=rfl;rw[e,bE Af host b (gR Af host K a) (gK Af host K a) (gT Af host K a)]at h;refine⟨?_,?_,?_⟩<;>simp only[gR,gK,gT,h]
theorem Vc(Af host:Str)(K:List (Str×Int))(m:Option Nn):gR Af host K ((tL m).map .FM)=Ek (tL m)/\gK Af host K ((tL m).map .FM)=BQ K (tL m)/\gT Af host K ((tL m).map .FM)=(tL m).map .FM:=by
 cases m with
 |none=>exact⟨rfl,rfl,rfl⟩
 |some n=>simp[gR,gK,gT,C0,Cv,tL,Ek,BQ]
theorem t8(Af host:Str)(K:List (Str×Int))(op:Str)(r:List AV):gR Af host K [.Eo op r]=[.tup (.str op::r)]/\gK Af host K [.Eo op r]=K/\gT Af host K [.Eo op r]=[.Eo op r]:=⟨rfl,rfl,rfl⟩
theorem QQ(Af host:Str)(K:List (Str×Int))(x:Str)(s:Src):gR Af host K [.set x s]=Ek (ww Af x (sR Af x s K) K)++zR host x (sR Af x s K)/\
  gK Af host K [.set x s]=MV (k2 Af x (sR Af x s K) K) (xR Af x s K)/\gT Af host K [.set x s]=[.set (xR Af x s K) (sR Af x s K)]:=by
 have h:=WB Af host x s [] K;refine⟨?_,?_,?_⟩<;>simp[gR,gK,gT,C0,Cv,h]
def tgN(Af x:Str):Prop:=x∈Eh Af\/x∈[Aa "icmp checksum",Aa "tcp dport",Aa "udp dport"]
def kI(Af x:Str):Src->Prop
 | .num m=>0<=m/\m<256^CB CF x
 | .map e _=>e.name∈Ck Af/\e.depth=0
 | .val e=>e.name∈Ck Af/\CB CF e.name=CB CF x/\OU (CB CF x) e/\e.depth<=2
structure Sta(Af:Str)(K:List (Str×Int))(m:Option Nn)(x:Str)(s:Src):Prop where
 tx:tgN Af x
 sf:kI Af x s
 sr:sR Af x s (BQ K (tL m))=s
 xr:xR Af x s (BQ K (tL m))=x
 cons:Cons (tL m++AC Af x++AY Af s)
inductive SG(Af:Str)(K:List (Str×Int)):List Dr->Prop
 |Eo (m:Option Nn) (hm:∀n,m=some n->n∈DJ Af) (op:Str) (r:List AV) (h:GG op r):SG Af K ((tL m).map .FM++[.Eo op r])
 |set (m:Option Nn) (hm:∀n,m=some n->n∈DJ Af) (x:Str) (s:Src) (h:Sta Af K m x s):SG Af K ((tL m).map .FM++[.set x s])
theorem Mf{A B:List Nn}(h:EV A B=false):∀a∈A,∀b∈B,a.1=b.1->a=b:=by
 intro a ha b hb e;rw[<-EB,EV,Ez]at h;by_cases c:a.2=b.2
 .exact Pn e c
 .refine(h ⟨S6 a b,?_,?_⟩).elim
  .exact Qg.mpr ⟨a,ha,D9.mpr ⟨b,hb,rfl⟩⟩
  .simp[S6,e,c]
theorem MJ(Af:Str):∀n∈DJ Af,n∈G7:=by
 intro n hn;simp only[DJ]at hn;split at hn
 .exact BU hn
 .exact hn
theorem Qeb{Af x:Str}{K:List (Str×Int)}(h:x∈Eh Af):tgN Af (Bz Af x K):=by
 rcases DV Af x K with e|⟨_,⟨e,_⟩|⟨e,_⟩|⟨e,_⟩⟩<;>refine Ae e ?_
 .exact .inl h
 .exact .inr (by simp)
 .exact .inr (by simp)
 .exact .inr (by simp)
theorem kJ{n:Nat}{e:Ex}(z:Str)(h:OU n e):OU n (e.La z):=by
 induction e with
 |fld x=>trivial
 |op t e k ih=>exact⟨ih h.1,h.2⟩
theorem YY{Af x:Str}{s:Src}{K K':List (Str×Int)}(Bl:CE Af)(h:Wv CF Af (Ck Af) x s):kI Af (Bz Af x K') (s.La λy=>Bz Af y K):=by
 have JM:∀y K,CB CF (Bz Af y K)=CB CF y:=λy K=>by simp only[CB,(gI Af y K).1]
 cases s with
 |num n=>simp only[Src.La,kI,JM];exact h
 |map e m=>
  obtain⟨y,rfl,hy,_⟩:=h;exact⟨Wz Bl hy,rfl⟩
 |val e=>
  obtain⟨h1,h2,_,h4,h5⟩:=h;refine⟨?_,?_,?_,?_⟩
  .refine Ae (D7 ..) ?_;exact Wz Bl h1
  .refine Ae (D7 ..) (Ae (JM ..) (Ae (JM ..) ?_));exact h2
  .refine Ae (JM ..) ?_;exact kJ _ h4
  .refine Ae (kH ..) ?_;exact h5
theorem t9:∀{Af:Str}{K:List (Str×Int)}{m:Option Nn}{x:Str}{s:Src}{wants:List Nn}(Bl:CE Af)(ha:Rx Af (.set x s) wants)(hp:∀n,m=some n->EV [n] wants=false),Sta Af K m (xR Af x s (BQ K (tL m))) (sR Af x s (BQ K (tL m))):=by
 refine@(Fd A8 nL nO A8 Wo nL ?_);generalize E2 .. =w;generalize w.1=Af,w.2.1=K,w.2.2.1=m,w.2.2.2.1=x,w.2.2.2.2.1=s,w.2.2.2.2.2=wants;intro Bl ha hp;obtain⟨hx,hs,rfl⟩:=ha;obtain⟨r1,r2,r3⟩:=gM Af Af x s (BQ K (tL m));refine⟨Qeb hx,YY Bl hs,r1,?_,?_⟩
 .have:xR Af (xR Af x s (BQ K (tL m))) (sR Af x s (BQ K (tL m))) (BQ K (tL m))=Bz Af (xR Af x s (BQ K (tL m))) (k2 Af (xR Af x s (BQ K (tL m))) (sR Af (xR Af x s (BQ K (tL m))) (sR Af x s (BQ K (tL m))) (BQ K (tL m))) (BQ K (tL m))):=rfl
  (refine Ae this (Ae r1 ?_);rw[k2];refine Ae r2 ?_)
  exact P0 _ _ _
 .generalize hKm:BQ K (tL m)=Km at*;have hms:∀n,m=some n->kn Km n=true:=by
   intro n hn;refine CV hKm (Ae hn ?_);simp[tL,BQ,kn,Im]
  have hmT:∀n,m=some n->∀a∈AC Af x,a.1=n.1->a=n:=λn hn a ha e=>
   (Mf (hp n hn) n (by simp) a (AD _ ha) e.symm).symm
  have hmk1:∀n,m=some n->kn (k1 Af x Km) n=true:=by
   intro n hn
   (rw[k1];exact Ae (N5 n _ Km λa ha e=>hmT n hn a (FZ ha) e) (Ae (hms n hn) (Ae (Fp ..) rfl)))
  have hTk1:∀a∈AC Af x,kn (k1 Af x Km) a=true:=λa ha=>Tc (Wy (PZ _ _)) ha;have hS:∀b∈AY Af (sR Af x s Km),(∀a∈AC Af x,b.1=a.1->b=a)/\∀n,m=some n->b.1=n.1->b=n:=by
   have one:∀y,AY Af s=AC Af y->EV (AC Af x) (AC Af y)=false->AY Af (sR Af x s Km)=AC Af (Bz Af y (k1 Af x Km))->∀b∈AY Af (sR Af x s Km),(∀a∈AC Af x,b.1=a.1->b=a)/\∀n,m=some n->b.1=n.1->b=n:=by
    intro y h1 h2 h3 b hb;rw[h3]at hb;by_cases c:Bz Af y (k1 Af x Km)=y
    .rw[c]at hb;refine⟨λa ha e=>(Mf h2 a ha b hb e.symm).symm,λn hn e=>(Mf (hp n hn) n (by simp) b (AG _ (by refine Ae h1 ?_;exact hb)) e.symm).symm⟩
    .have W0:y=KG:=by
      rcases DV Af y (k1 Af x Km)with e|⟨e,_⟩
      .exact absurd e c
      .exact e
     have hkb:kn (k1 Af x Km) b=true:=KH (z:=Bz Af y (k1 Af x Km)) (by exact Ae W0 rfl) (by refine CV W0 ?_;exact c) b (by exact hb);refine⟨λa ha e=>Kz (U:=[a,b]) (K:=k1 Af x Km) (by intro n hn;simp only[Au,AU,or_false]at hn;rcases hn with rfl|rfl;exact hTk1 _ ha;exact hkb) b (by simp) a (by simp) e,
      λn hn e=>Kz (U:=[n,b]) (K:=k1 Af x Km) (by intro q hq;simp only[Au,AU,or_false]at hq;rcases hq with rfl|rfl;exact hmk1 _ hn;exact hkb) b (by simp) n (by simp) e⟩
   cases s with
   |num n=>intro b hb;cases hb
   |map e k=>
    obtain⟨y,rfl,_,hpy⟩:=hs;exact one y rfl hpy rfl
   |val e=>exact one e.name rfl hs.2.2.1 (by simp only[sR,Src.La,AY,D7])
  have MT:k2 Af x (sR Af x s Km) Km=BQ (k1 Af x Km) (Ff (k1 Af x Km) (AY Af (sR Af x s Km))):=by simp only[k2,ww,IQ,k1]
  have hSk2:∀b∈AY Af (sR Af x s Km),kn (k2 Af x (sR Af x s Km) Km) b=true:=λb hb=>by refine Ae MT ?_;exact Tc (gL _ _) hb
  have hmk2:∀n,m=some n->kn (k2 Af x (sR Af x s Km) Km) n=true:=λn hn=>by
   exact Ae MT (Ae (N5 n _ _ λa ha e=>(hS a (FZ ha)).2 n hn e) (Ae (hmk1 n hn) (Ae (Fp ..) rfl)))
  have hTk2:∀n∈AC Af (xR Af x s Km),kn (k2 Af x (sR Af x s Km) Km) n=true:=by
   intro n hn;by_cases c:xR Af x s Km=x
   .rw[c]at hn;exact Ae MT (Ae (N5 n _ _ λa ha e=>(hS a (FZ ha)).1 n hn e) (Ae (hTk1 n hn) (Ae (Fp ..) rfl)))
   .have W0:x=KG:=by
     rcases DV Af x (k2 Af x (sR Af x s Km) Km)with e|⟨e,_⟩
     .exact absurd e c
     .exact e
    exact KH (z:=xR Af x s Km) (by simp only[xR];exact CV W0 rfl) (by refine CV W0 ?_;exact c) n hn
  refine Kz (K:=k2 Af x (sR Af x s Km) Km) λn hn=>?_;rcases An.mp hn with h|h
  .rcases An.mp h with h|h
   .cases Zm:m with
    |none=>rw[Zm]at h;cases h
    |some q=>rw[Zm]at h;refine Ae (Ai.mp h) ?_;exact hmk2 q Zm
   .exact hTk2 n h
  .exact hSk2 n h
def SGs(Af host:Str):List (Str×Int)->List (List Dr)->Prop
 |_,[]=>True
 |K,t::r=>SG Af K t/\SGs Af host (gK Af host K t) r
noncomputable def TG(Af host:Str):List (Str×Int)->List (List Dr)->List (List Dr)
 |_,[]=>[]
 |K,g::r=>gT Af host K g::TG Af host (gK Af host K g) r
theorem yN{Af host:Str}{K:List (Str×Int)}:TG Af host K []=[]:=rfl
theorem yO{Af host:Str}{K:List (Str×Int)}{g:List Dr}{r:List (List Dr)}:TG Af host K (g::r)=gT Af host K g::TG Af host (gK Af host K g) r:=rfl
theorem yP:∀{Af host:Str}{K:List (Str×Int)}{g:List Dr}(Bl:CE Af)(h:Fj Af g),SG Af K (gT Af host K g)/\gR Af host K (gT Af host K g)=gR Af host K g/\gK Af host K (gT Af host K g)=gK Af host K g/\gT Af host K (gT Af host K g)=gT Af host K g:=by
 refine@(ZG A8 A8 nL nL ?_);generalize cG .. =c;generalize c.1=Af,c.2.1=host,c.2.2.1=K,c.2.2.2=g;intro Bl h;obtain⟨act,wants,ha,hg⟩:=h;obtain⟨m,hm,hp,rfl⟩:∃m:Option Nn,(∀n,m=some n->n∈DJ Af)/\(∀n,m=some n->EV [n] wants=false)/\g=(tL m).map .FM++[act]:=by
  rcases hg with rfl|⟨n,hn,hp,rfl⟩
  .exact⟨none,(λa h=>nomatch h),(λa h=>nomatch h),rfl⟩
  .exact⟨some n,λq h=>(BB h)▸hn,λq h=>(BB h)▸hp,rfl⟩
 obtain⟨f1,f2,f3⟩:=CR Af host K ((tL m).map .FM) [act];obtain⟨q1,q2,q3⟩:=Vc Af host K m;rw[q1,q2]at f1;rw[q2]at f2;rw[q2,q3]at f3;cases act with
 |FM n=>exact ha.elim
 |Eo op r=>
  obtain⟨o1,o2,o3⟩:=t8 Af host (BQ K (tL m)) op r;rw[o3]at f3;refine Ae f3 ?_;exact⟨.Eo m hm op r ha.1,rfl,rfl,f3⟩
 |set x s=>
  have hs:=t9 (K:=K) (m:=m) Bl ha hp;obtain⟨o1,o2,o3⟩:=QQ Af host (BQ K (tL m)) x s;obtain⟨p1,p2,p3⟩:=QQ Af host (BQ K (tL m)) (xR Af x s (BQ K (tL m))) (sR Af x s (BQ K (tL m)));obtain⟨e1,e2,e3⟩:=gM Af host x s (BQ K (tL m));rw[o3]at f3;obtain⟨h1,h2,h3⟩:=CR Af host K ((tL m).map .FM) [.set (xR Af x s (BQ K (tL m))) (sR Af x s (BQ K (tL m)))];rw[hs.sr]at p1;rw[hs.xr,hs.sr]at p2 p3;rw[q1,q2]at h1;rw[q2]at h2;rw[q2,q3]at h3;refine⟨by refine Ae f3 ?_;exact .set m hm _ _ hs,?_,?_,?_⟩
  .exact Ae f3 (Ae h1 (Ae f1 (Ae p1 (Ae o1 (Ae e2 (Ae e3 rfl))))))
  ·(refine Ae f3 (Ae h2 (Ae f2 (Ae p2 (Ae o2 ?_))));rw[k2];refine Ae e2 ?_);rfl
  .exact Ae f3 (Ae h3 (Ae p3 rfl))
theorem uA:∀{Af host:Str}(Bl:CE Af),∀(gs:List (List Dr))(K:List (Str×Int)),(∀g∈gs,Fj Af g)->
  gT Af host K gs.flatten=(TG Af host K gs).flatten/\gR Af host K (TG Af host K gs).flatten=gR Af host K gs.flatten/\gT Af host K (TG Af host K gs).flatten=(TG Af host K gs).flatten/\SGs Af host K (TG Af host K gs)/\(TG Af host K gs).length=gs.length:=by
 refine@(MT A8 A8 ?_);generalize Uj .. =c;generalize c.1=Af,c.2=host;intro Bl;intro gs;induction gs with
 |nil=>intro K _;exact⟨rfl,rfl,rfl,trivial,rfl⟩
 |cons g r ih=>
  intro K h;obtain⟨a1,a2,a3,a4⟩:=yP (host:=host) (K:=K) Bl (h g (.head _));obtain⟨b1,b2,b3,b4,b5⟩:=ih (gK Af host K g) λx hx=>h x (.tail _ hx);obtain⟨c1,c2,c3⟩:=CR Af host K g r.flatten;obtain⟨d1,d2,d3⟩:=CR Af host K (gT Af host K g) (TG Af host (gK Af host K g) r).flatten;refine⟨?_,?_,?_,?_,?_⟩
  .simp only[B2,yN,yO,c3,b1]
  .simp only[B2,yN,yO,c1,d1,a2,a3,b2]
  .simp only[B2,yN,yO,d3,a4,a3,b3]
  .exact⟨a1,by refine Ae a3 ?_;exact b4⟩
  .simp only[yN,yO,Al,b5]
noncomputable def bF(Af:Str)(K:List (Str×Int)):List Dr->List Dr
 |[.FM m,.set x s]=>if(ww Af x s K).head?=some m then[.set x s]else[.FM m,.set x s]
 |t=>t
theorem WC{Af:Str}{K:List (Str×Int)}{m:Nn}{x:Str}{s:Src}:bF Af K [.FM m,.set x s]=if(ww Af x s K).head?=some m then[.set x s]else[.FM m,.set x s]:=rfl
theorem WD{Af:Str}{K:List (Str×Int)}{m:Nn}{o:Str}{r:List AV}:bF Af K [.FM m,.Eo o r]=[.FM m,.Eo o r]:=rfl
theorem gN{Af:Str}{K:List (Str×Int)}{x:Str}{s:Src}:bF Af K [.set x s]=[.set x s]:=rfl
theorem gO{Af:Str}{K:List (Str×Int)}{o:Str}{r:List AV}:bF Af K [.Eo o r]=[.Eo o r]:=rfl
noncomputable def OZ(Af host:Str):List (Str×Int)->List (List Dr)->List (List Dr)
 |_,[]=>[]
 |K,t::r=>bF Af K t::OZ Af host (gK Af host K t) r
theorem uB{Af host:Str}{K:List (Str×Int)}:OZ Af host K []=[]:=rfl
theorem kK{Af host:Str}{K:List (Str×Int)}{t:List Dr}{r:List (List Dr)}:OZ Af host K (t::r)=bF Af K t::OZ Af host (gK Af host K t) r:=rfl
theorem RA{W:Wd}{R:List AV}{pre Jf:List Dr}{a:Dr}(h:YR a=false):CT W R (pre++[a]).length (pre++[a]++Jf)=CT W R pre.length (pre++[a]++Jf):=by
 (refine Ae Ah (Ae (show[a].length=1 from rfl) ?_);rw[yB,if_neg])
 intro e;rw[Ao,BE (AL _),Fn]at e;simp[h]at e
theorem uC{Af host:Str}{R:List AV}{pre Jf:List Dr}{m:Nn}:
  (gR Af host [] (pre++Jf)=R->CT (WT Af host) R (pre++[Dr.FM m]).length (pre++[Dr.FM m]++Jf)=CT (WT Af host) R pre.length (pre++Jf))/\
  (gR Af host [] (pre++Jf)≠R->CT (WT Af host) R (pre++[Dr.FM m]).length (pre++[Dr.FM m]++Jf)=CT (WT Af host) R pre.length (pre++[Dr.FM m]++Jf)):=by
 have e1:(pre++[Dr.FM m]++Jf).take pre.length=pre:=by exact Ae (Ao ..) (Ae List.take_left rfl)
 have e2:(pre++[Dr.FM m]++Jf).drop (pre.length+1)=Jf:=by
  exact Ae (show pre.length+1=(pre++[Dr.FM m]).length by simp) (Ae List.drop_left rfl)
 have e3:((pre++[Dr.FM m]++Jf)[pre.length]?.map YR)=some true:=by
  refine Ae (Ao ..) (Ae (BE (AL _)) (Ae (Fn ..) ?_));rfl
 refine Ae Ah (Ae (show[Dr.FM m].length=1 from rfl) ?_);constructor
 .intro h
  (rw[yB];exact Ae e1 (Ae e2 (Ae (if_pos ⟨e3,h⟩) rfl)))
 .intro h
  (rw[yB];exact Ae e1 (Ae e2 (Ae (if_neg λc=>h c.2) rfl)))
noncomputable def code:Nat->AV->List Int
 |0,_=>[]
 |n+1,.tup xs=>1::xs.flatMap (code n)
 |_+1,.str s=>2::s.cps.toList.map Int.ofNat
 |_+1,.int i=>[3,i]
 |_+1,.bytes b=>4::b
 |_+1,_=>[]
theorem yQ:G7.all (λm=>L9.flatten.all λw=>decide (m=w)|| !decide (code 5 (.tup (E1 m.1 m.2))=code 5 (.tup (E1 w.1 w.2))))=true:=by decide +kernel
theorem QcL{m w:Nn}(hm:m∈G7)(hw:w∈L9.flatten)(h:E1 m.1 m.2=E1 w.1 w.2):m=w:=by
 have h1:=Az.mp (Az.mp yQ m hm) w hw;rw[BX,decide_eq_true_eq]at h1;refine h1.resolve_right λe=>?_;rw[h]at e;simp at e
theorem WE(n:Str)(v:Int):∃a b,E1 n v=[a,b]/\N3 b="cmp"/\(N3 a="payload"\/N3 a="meta"):=by
 refine⟨_,_,rfl,rfl,?_⟩;split
 .exact .inl rfl
 .exact .inr rfl
theorem yR(t:Te):N3 (D6 t)≠"cmp":=by
 cases t with
 |G6 b a s=>exact(by decide +kernel:Aa "payload"≠"cmp")
 |Eo k key d s o=>
  simp only[D6];split
  .exact(by decide +kernel:Aa "meta"≠"cmp")
  .exact(by decide +kernel:Aa "ct"≠"cmp")
theorem YZ(a b:Str):(a++b).length=a.length+b.length:=by
 show(Str.append a b).length=_;simp[Str.append,TJ]
theorem QcM(t:Te):N3 (N2 t)≠"cmp":=by
 cases t with
 |G6 b a s=>exact(by decide +kernel:Aa "payload_set"≠"cmp")
 |Eo k key d s o=>
  intro e;have h:(k++Aa "_set").length=(Aa "cmp").length:=congrArg TJ e;rw[YZ,show(Aa "_set").length=4 by decide +kernel,show(Aa "cmp").length=3 by decide +kernel]at h;exact AA 0x6312412003211 h
theorem yS(x:Str)(s:Nat):∀r∈FP x s,N3 r≠"cmp":=by
 intro r hr;unfold FP at hr;split at hr
 .cases hr
 .rcases Au.mp hr with rfl|hr
  .exact(by decide +kernel:Aa "bitwise"≠"cmp")
  .split at hr
   .refine Ae (Ai.mp hr) ?_;exact(by decide +kernel:Aa "shift"≠"cmp")
   .cases hr
theorem Qec(host o:Str)(n:Nat)(v:Int)(t:Tg):∀r∈gC host n o v t,N3 r≠"cmp":=by
 have h1:N3 (PW n)≠"cmp":=(by decide +kernel:Aa "byteorder"≠"cmp")
 have h2:∀t v,N3 (U6 n t v)≠"cmp":=λx x=>(by decide +kernel:Aa "shift"≠"cmp")
 have h3:∀a b c,N3 (vU n a b c)≠"cmp":=λx x x=>(by decide +kernel:Aa "bitwise"≠"cmp")
 intro r hr;cases t<;>simp only[aV,aW,aX,aT,aU]at hr
 case shl=>split at hr<;>simp only[Au,AU,or_false]at hr;(rcases hr with rfl|rfl|rfl;exact h1;exact h2 _ _;exact h1);(subst hr;exact h2 _ _)
 case shr=>split at hr<;>simp only[Au,AU,or_false]at hr;(rcases hr with rfl|rfl|rfl;exact h1;exact h2 _ _;exact h1);(subst hr;exact h2 _ _)
 all_goals (refine Ae (Ai.mp hr) ?_;exact h3 _ _ _)
theorem uD(host o:Str)(n:Nat)(e:Ex):∀r∈Hc host n o e,N3 r≠"cmp":=by
 induction e with
 |fld x=>intro r hr;cases hr
 |op t e v ih=>
  intro r hr;rcases An.mp hr with h|h
  .exact ih r h
  .exact Qec _ _ _ _ _ r h
theorem Vd(y:Str):∀r∈C5 y,N3 r≠"cmp":=by
 intro r hr;rcases Au.mp hr with rfl|h
 .exact yR _
 .exact yS _ _ r h
theorem Qez(host x:Str)(s:Src):∀r∈zR host x s,N3 r≠"cmp":=by
 intro r hr;rcases An.mp hr with h|h
 .cases s with
  |num n=>refine Ae (Ai.mp h) ?_;exact(by decide +kernel:Aa "immediate"≠"cmp")
  |map e m=>
   rcases An.mp h with h|h
   .rcases An.mp h with h|h
    .exact Vd _ r h
    .exact uD _ _ _ _ r h
   .refine Ae (Ai.mp h) ?_;exact(by decide +kernel:Aa "map"≠"cmp")
  |val e=>
   rcases An.mp h with h|h
   .rcases An.mp h with h|h
    .exact Vd _ r h
    .exact uD _ _ _ _ r h
   .split at h
    .cases h
    .refine Ae (Ai.mp h) ?_;exact(by decide +kernel:Aa "byteorder"≠"cmp")
 .refine Ae (Ai.mp h) ?_;exact QcM _
theorem Qed(host x:Str)(s:Src):∃a b r,zR host x s=a::b::r:=by
 have h:2<=(zR host x s).length:=by
  simp only[zR,Ah,Al,Ar];cases s<;>simp only[zS,C5,Ah,Al]<;>lia
 match e:zR host x s,h with
 |a::b::r,_=>exact⟨a,b,r,rfl⟩
theorem gP{a b:Ex}{k l:Str}(h:Src.map a k= .map b l):a=b:=by cases h;rfl
theorem gQ{a b:Ex}(h:Src.val a= .val b):a=b:=by cases h;rfl
theorem yT(Af x:Str)(s:Src)(K:List (Str×Int)):ww Af x (sR Af x s K) K=ww Af x s K:=by
 have one:∀y,Ff (k1 Af x K) (AC Af (Bz Af y (k1 Af x K)))=Ff (k1 Af x K) (AC Af y):=by
  intro y;by_cases c:Bz Af y (k1 Af x K)=y
  .exact Ae c rfl
  .have W0:y=KG:=by
    rcases DV Af y (k1 Af x K)with e|⟨e,_⟩
    .exact absurd e c
    .exact e
   rw[yM (KH (z:=Bz Af y (k1 Af x K)) (by rw[W0]) (by rw[<-W0];exact c)),W0,IR];rfl
 cases s with
 |num n=>rfl
 |map e m=>simp only[ww,sR,Src.La,AY,D7,one]
 |val e=>simp only[ww,sR,Src.La,AY,D7,one]
theorem QcN{Af x:Str}{s:Src}{K:List (Str×Int)}(h:Cons (AC Af x++AY Af s)):ww Af x s K=OX (Ff K (AC Af x)) (Ff K (AY Af s)):=by
 rw[ww,k1,Ry (h.sub λa ha=>by
  rcases An.mp ha with h|h
  .exact AD _ (FZ h)
  .exact AG _ h)];rfl
theorem Qee{Af x:Str}{s:Src}{K:List (Str×Int)}{m:Option Nn}(h:Cons (tL m++AC Af x++AY Af s)):
  tL m++ww Af x s (BQ K (tL m))=Lk (Ff K (AC Af x)) (Ff K (AY Af s)) m:=by
 have e1:Ff (BQ K (tL m)) (AC Af x)=gG (Ff K (AC Af x)) m:=Ry (h.sub λa ha=>AD _ ha);rw[ww,k1,e1,<-IQ,Ry (h.sub λa ha=>by
  rcases An.mp ha with h|h
  .rcases An.mp h with h|h
   .exact AD _ (AD _ h)
   .exact AD _ (AG _ (FZ (BL.mp h).1))
  .exact AG _ h),Lk,Ao]
theorem gS(Af x:Str)(s:Src)(K:List (Str×Int)){m:Option Nn}(hm:∀n,m=some n->n∈G7):U9 (Ff K (AC Af x)) (Ff K (AY Af s)) m=true:=by
 have h:=Az.mp (Az.mp yJ (Ff K (AC Af x)) (gH _ _ _)) (Ff K (AY Af s)) (bC _ _ _);rw[t7,JE,Az]at h;refine h m ?_;cases m with
 |none=>exact .head _
 |some n=>exact .tail _ (Cu (hm n rfl))
theorem QcO:∀{NT NS:List Nn}{m:Nn}(h:U9 NT NS (some m)=true)(hh:(OX NT NS).head?=some m),OX NT NS=Lk NT NS (some m):=by
 refine@(TN nL nL (np A8 nI) ?_);generalize W1 .. =c;generalize c.1=NT,c.2.1=NS,c.2.2=m;intro h hh;unfold U9 at h;split at h
 .cases h
 .split at h
  .cases h
  .rw[Av,BX,BX,decide_eq_true_eq,Cw,decide_eq_true_eq,decide_eq_false_iff_not]at h;rcases h.2 with(h|h)|h
   .cases h
   .exact absurd hh h
   .exact of_decide_eq_true h
theorem RC{e:Ex}{z:Str}(h:e.La z=e):z=e.name:=by exact CV (D7 e z) (Ae h rfl)
theorem yU:∀{Af host x:Str}{s:Src}{K:List (Str×Int)}{m:Nn}(hm:m∈G7)(h:Sta Af K (some m) x s)(hh:(ww Af x s K).head?=some m),ww Af x s K=m::ww Af x s (BQ K [m])/\gR Af host K [.set x s]=E1 m.1 m.2++gR Af host (BQ K [m]) [.set x s]/\gK Af host K [.set x s]=gK Af host (BQ K [m]) [.set x s]/\sR Af x s K=s/\xR Af x s K=x:=by
 refine@(Fd A8 A8 A8 Wo nL (np A8 nI) ?_);generalize E2 .. =z;generalize z.1=Af,z.2.1=host,z.2.2.1=x,z.2.2.2.1=s,z.2.2.2.2.1=K,z.2.2.2.2.2=m;intro hm h hh;have hc:=h.cons;have Uj:Cons (AC Af x++AY Af s):=hc.sub λa ha=>by
  refine Ae (Ao ..) ?_;exact AG _ ha
 have eW:ww Af x s K=m::ww Af x s (BQ K [m]):=by
  have e1:=Qee (K:=K) hc;rw[QcN Uj]at hh;refine Ae (QcN Uj) (Ae (QcO (gS Af x s K λn e=>(BB e)▸hm) hh) (CV e1 ?_));rfl
 have hsr:=h.sr;have hxr:=h.xr;simp only[tL,FY]at hsr hxr;have s1:sR Af x s K=s:=by
  have port:∀y,AY Af s=AC Af y->Bz Af y (k1 Af x (BQ K [m]))=y->Bz Af y (k1 Af x K)=y:=by
   intro y hy hp;by_cases c:y=KG
   .have ek:k1 Af x K=k1 Af x (BQ K [m]):=by
     have e2:=eW;simp only[ww,hy,c,IR]at e2;simp only[show∀K,Ff K []=[]fromλu=>rfl,A7]at e2
     (rw[k1];refine Ae e2 ?_;rw[k1])
     rfl
    refine Ae ek ?_;exact hp
   .exact OY c
  cases s with
  |num n=>rfl
  |map e k=>
   simp only[sR,Src.La]at hsr⊢;exact Ae (port e.name rfl (RC (gP hsr))) (Ae (YX ..) rfl)
  |val e=>
   simp only[sR,Src.La]at hsr⊢;exact Ae (port e.name rfl (RC (gQ hsr))) (Ae (YX ..) rfl)
 have ek:k2 Af x s K=k2 Af x s (BQ K [m]):=by(rw[k2];refine Ae eW ?_;rw[k2]);rfl
 have x1:xR Af x s K=x:=by
  (rw[xR];refine Ae s1 (Ae ek ?_))
  rw[xR,hsr]at hxr;exact hxr
 obtain⟨a1,a2,a3⟩:=QQ Af host K x s;obtain⟨b1,b2,b3⟩:=QQ Af host (BQ K [m]) x s;rw[s1]at a1 a2;rw[x1]at a2;rw[hsr]at b1 b2;rw[hxr]at b2;refine⟨eW,?_,?_,s1,x1⟩
 ·(refine Ae a1 (Ae b1 (Ae eW ?_));rw[<-Ao]);rfl
 .exact Ae a2 (Ae b2 (Ae ek rfl))
theorem yV:∀{Af host x:Str}{s:Src}{K:List (Str×Int)}{m:Nn}{X Y:List AV}(hm:m∈G7)(hh:(ww Af x s K).head?≠some m),gR Af host K [.set x s]++Y≠E1 m.1 m.2++X:=by
 refine@(Ir A8 A8 A8 Wo nL (np A8 nI) nL nL ?_);generalize G8 .. =c;generalize c.1=Af,c.2.1=host,c.2.2.1=x,c.2.2.2.1=s,c.2.2.2.2.1=K,c.2.2.2.2.2.1=m,c.2.2.2.2.2.2.1=X,c.2.2.2.2.2.2.2=Y;intro hm hh;intro e;rw[(QQ Af host K x s).1,yT]at e;obtain⟨a,b,e1,e2,_⟩:=WE m.1 m.2;rw[e1]at e;cases hw:ww Af x s K with
 |nil=>
  rw[hw]at e;obtain⟨a',b',r,e3⟩:=Qed host x (sR Af x s K);have h4:=Qez host x (sR Af x s K) b' (by refine Ae e3 ?_;simp);rw[e3]at e;simp only[Ek,Fs,AP,AM,F9]at e;exact h4 (by rw[e.2.1];exact e2)
 |cons w W'=>
  rw[hw]at e hh;obtain⟨a',b',e3,_,_⟩:=WE w.1 w.2;have hw9:w∈L9.flatten:=by
   have:w∈ww Af x s K:=by refine Ae hw ?_;exact .head _
   rcases An.mp this with h|h
   .exact Ka.mpr ⟨_,gH _ _ _,h⟩
   .exact Ka.mpr ⟨_,bC _ _ _,h⟩
  simp only[Ek,EZ,e3,AM,AP,F9]at e;refine hh ?_;rw[QcL hm hw9 (by rw[e1,e3,e.1,e.2.1])];rfl
theorem uE:∀{Af host:Str}{R:List AV}{pre t Jf:List Dr}{K:List (Str×Int)}(hK:gK Af host [] pre=K)(ht:SG Af K t)(hR:gR Af host [] (pre++t++Jf)=R),CT (WT Af host) R (pre++t).length (pre++t++Jf)=CT (WT Af host) R pre.length (pre++bF Af K t++Jf)/\gR Af host [] (pre++bF Af K t++Jf)=R:=by
 refine@(Hp A8 A8 nL nL nL nL nL ?_);generalize GE .. =z;generalize z.1=Af,z.2.1=host,z.2.2.1=R,z.2.2.2.1=pre,z.2.2.2.2.1=t,z.2.2.2.2.2.1=Jf,z.2.2.2.2.2.2=K;intro hK ht hR;have vN:∀a b c:List Dr,gR Af host [] (a++b++c)=gR Af host [] a++(gR Af host (gK Af host [] a) b++gR Af host (gK Af host (gK Af host [] a) b) c):=by
  intro a b c;exact Ae ((CR Af host [] (a++b) c).1) (Ae ((CR Af host [] a b).1) (Ae ((CR Af host [] a b).2.1) (Ae (Ao ..) rfl)))
 cases ht with
 |Eo m hm op r ho=>
  cases m with
  |none=>
   refine⟨?_,hR⟩;exact RA (a:= .Eo op r) rfl
  |some n=>
   refine⟨?_,hR⟩;have e1:=RA (W:=WT Af host) (R:=R) (pre:=pre++[.FM n]) (Jf:=Jf) (a:= .Eo op r) rfl;simp only[tL,FY,AW,Ct,WC,WD,gN,gO,Ao,AM,AP]at e1 hR⊢;refine Ae e1 ?_;have e2:=(uC (Af:=Af) (host:=host) (R:=R) (pre:=pre) (Jf:= .Eo op r::Jf) (m:=n)).2;simp only[Ao,AM,AP]at e2;refine e2 λe3=>?_;have h1:=vN pre [.FM n] (.Eo op r::Jf);have h2:=(CR Af host [] pre (.Eo op r::Jf)).1;have h3:=(CR Af host K [.Eo op r] Jf).1;simp only[Ao,AM,AP]at h1 h2 h3;rw[<-e3,h1,h2,I5,hK,h3,(t8 Af host K op r).1,show([Dr.FM n]:List Dr)=(tL (some n)).map .FM from rfl,(Vc Af host K (some n)).1]at hR;obtain⟨a,b,e4,_,e5⟩:=WE n.1 n.2;simp only[tL,FY,Ek,EZ,Fs,e4,AM,AP,A7,F9]at hR;rw[hR.1]at e5;replace e5:op="payload"\/op="meta":=e5;rcases ho with⟨rfl,_⟩|⟨rfl,_⟩|⟨rfl,_⟩|⟨rfl,_⟩<;>exact absurd e5 (by decide +kernel)
 |set m hm x s hs=>
  cases m with
  |none=>
   refine⟨?_,hR⟩;exact RA (a:= .set x s) rfl
  |some n=>
   have hn:=MJ Af n (hm n rfl);have e1:=RA (W:=WT Af host) (R:=R) (pre:=pre++[.FM n]) (Jf:=Jf) (a:= .set x s) rfl;have e2:=uC (Af:=Af) (host:=host) (R:=R) (pre:=pre) (Jf:= .set x s::Jf) (m:=n);have h1:=vN pre [.FM n] (.set x s::Jf);have h2:=(CR Af host [] pre (.set x s::Jf)).1;have h3:=(CR Af host K [.set x s] Jf).1;have h4:=(CR Af host (BQ K [n]) [.set x s] Jf).1;have q:=Vc Af host K (some n);simp only[tL,FY,AW,Ct,WC,WD,gN,gO,Ao,AM,AP,Ek,EZ,Fs,A7]at e1 e2 h1 h2 h3 h4 hR q⊢;rw[hK,q.1,q.2.1,h4]at h1;rw[hK,h3]at h2;by_cases c:(ww Af x s K).head?=some n
   .obtain⟨_,d1,d2,_,_⟩:=yU (host:=host) hn hs c;have e3:gR Af host [] (pre++ .set x s::Jf)=R:=by
     exact Ae h2 (Ae d1 (Ae d2 (CV hR (Ae h1 (Ae (Ao ..) rfl)))))
    simp only[if_pos c,AM,AP];exact⟨e1.trans (e2.1 e3),e3⟩
   .simp only[if_neg c,AM,AP];refine⟨e1.trans (e2.2 λe3=>?_),hR⟩;rw[<-e3,h1,h2,I5]at hR;exact yV hn c hR.symm
theorem kL{Af host:Str}{R:List AV}:∀(ts:List (List Dr))(pre Jf:List Dr)(K:List (Str×Int)),gK Af host [] pre=K->SGs Af host K ts->gR Af host [] (pre++ts.flatten++Jf)=R->
  CT (WT Af host) R (pre++ts.flatten).length (pre++ts.flatten++Jf)=CT (WT Af host) R pre.length (pre++(OZ Af host K ts).flatten++Jf)/\gR Af host [] (pre++(OZ Af host K ts).flatten++Jf)=R:=by
 intro ts;induction ts with
 |nil=>intro pre Jf K _ _ hR;simp only[List.flatten_nil,A7,uB,kK]at hR⊢;exact⟨trivial,hR⟩
 |cons t r ih=>
  intro pre Jf K hK hs hR;simp only[B2,uB,kK,<-Ao]at hR⊢;have h1:=ih (pre++t) Jf (gK Af host K t) (by exact Ae ((CR Af host [] pre t).2.1) (Ae hK rfl)) hs.2 hR;have h2:=uE (R:=R) (Jf:=(OZ Af host (gK Af host K t) r).flatten++Jf) hK hs.1 (by refine CV (Ao ..) ?_;exact h1.2);simp only[<-Ao]at h2;exact⟨h1.1.trans h2.1,h2.2⟩
theorem uF{Af host:Str}{ts:List (List Dr)}(hs:SGs Af host [] ts):Hd (WT Af host) (gR Af host [] ts.flatten) ts.flatten=(OZ Af host [] ts).flatten:=by
 have h:=(kL (R:=gR Af host [] ts.flatten) ts [] [] [] rfl hs (by simp)).1;simp only[AP,A7,Ar,Qd4]at h;exact h
noncomputable def MK(D:List Nd):List Nn:=D.map λd=>(d.1,d.2.1)
def Fr(k:Kn)(D:List Nd):Prop:=∀d∈D,∀p,getL k d.1=some p->p.1<d.2.2\/p.2=d.2.1
theorem JY(k:Kn)(n:Nn):EK k n=true↔∃a,getL k n.1=some (a,n.2):=by
 simp only[EK];cases getL k n.1 with
 |none=>simp
 |some p=>obtain⟨a,v⟩:=p;simp
theorem bG:∀{k:Kn}{d:Nd}(h:∀p,getL k d.1=some p->p.1<d.2.2\/p.2=d.2.1)(n:Nn),EK (Fv k d.1 d.2.1 d.2.2) n=true↔(if d.1=n.1 then d.2.1=n.2 else EK k n=true):=by
 refine@(MT nL (np A8 (np nI nI)) ?_);generalize Uj .. =z;generalize z.1=k,z.2=d;intro h n
 (rw[JY];refine Ae (JW ..) ?_)
 by_cases c:d.1=n.1
 .simp only[if_pos c];cases e:getL k d.1 with
  |none=>simp
  |some p=>
   simp only;split
   .simp
   .rename_i q;have:=(h p e).resolve_left q;obtain⟨a,v⟩:=p;simp only[Cx,FX,exists_eq_left']at this⊢;rw[this]
 .simp only[if_neg c,JY]
theorem QR(n:Nn):∀(D:List Nd)(k:Kn),Fr k D->Cons (MK D)->(EK (Bc k D) n=true↔n∈MK D\/((∀d∈D,d.1≠n.1)/\EK k n=true)):=by
 intro D;induction D with
 |nil=>intro k _ _;simp[Bc,MK]
 |cons d r ih=>
  intro k hf hc;have hd:=hf d (.head _);have hc':Cons (MK r):=hc.sub λa ha=> .tail _ ha;have same:∀d'∈r,d'.1=d.1->d'.2.1=d.2.1:=λd' Pu e=>by
   have:=hc (d'.1,d'.2.1) (.tail _ (Cu (f:=λd:Nd=>(d.1,d.2.1)) Pu)) (d.1,d.2.1) (.head _) e;exact(Co this).2
  have hf':Fr (Fv k d.1 d.2.1 d.2.2) r:=by
   intro d' Pu p hp;rw[JW]at hp;by_cases c:d.1=d'.1
   .rw[if_pos c]at hp;right;refine Ae (same d' Pu c.symm) ?_;cases e:getL k d.1 with
    |none=>rw[e]at hp;simp only[Cx]at hp;exact CV hp rfl
    |some q=>
     rw[e]at hp;simp only[Cx]at hp;split at hp
     .exact CV hp rfl
     .rename_i hq;refine CV hp ?_;exact(hd q e).resolve_left hq
   .rw[if_neg c]at hp;exact hf d' (.tail _ Pu) p hp
  have h:=ih (Fv k d.1 d.2.1 d.2.2) hf' hc'
  (refine Ae (show Bc k (d::r)=Bc (Fv k d.1 d.2.1 d.2.2) r from rfl) ?_;rw[h,bG hd])
  simp only[MK,AW,Au];by_cases c:d.1=n.1
  .refine Ae (if_pos c) ?_;constructor
   .rintro(e|⟨e1,e2⟩)
    .exact .inl (.inr e)
    .exact .inl (.inl (Pn c.symm e2.symm))
   .rintro((e|e)|⟨e1,_⟩)
    .by_cases q:∃d'∈r,d'.1=n.1
     .obtain⟨d',Pu,q⟩:=q;left;refine D9.mpr ⟨d',Pu,?_⟩;exact Pn q ((same d' Pu (q.trans c.symm)).trans (by exact Ae e rfl))
     .right;exact⟨λd' Pu q'=>q ⟨d',Pu,q'⟩,by exact Ae e rfl⟩
    .exact .inl e
    .exact absurd c (e1 d (.inl rfl))
  .refine Ae (if_neg c) ?_;constructor
   .rintro(e|⟨e1,e2⟩)
    .exact .inl (.inr e)
    .refine .inr ⟨λd' Pu=>?_,e2⟩;rcases Pu with rfl|Pu
     .exact c
     .exact e1 d' Pu
   .rintro((e|e)|⟨e1,e2⟩)
    .exact absurd (by exact Ae e rfl) c
    .exact .inl e
    .exact .inr ⟨λd' Pu=>e1 d' (.inr Pu),e2⟩
theorem JZ:∀(A:List Nn)(f:Int),MK (HQ A f)=A:=by
 intro A;induction A with
 |nil=>intro f;rfl
 |cons n r ih=>intro f;simp only[MW,MX,MK,AW]at ih⊢;exact Ae (ih ..) rfl
theorem Ve:∀(A:List Nn)(f:Int)(s:Nat),(HQ A f).drop s=HQ (A.drop s) (f+2*s):=by
 intro A;induction A with
 |nil=>intro f s;simp[MW,MX]
 |cons n r ih=>
  intro f s;cases s with
  |zero=>simp
  |succ s=>simp only[MW,MX,List.drop_succ_cons];refine Ae (ih ..) ?_;congr 1;exact E3 0x1120036212401300621242120133a0
theorem ML:∀(A:List Nn)(f:Int)(s:Nat),(HQ A f).take s=HQ (A.take s) f:=by
 intro A;induction A with
 |nil=>intro f s;simp[MW,MX]
 |cons n r ih=>
  intro f s;cases s with
  |zero=>simp[MW,MX]
  |succ s=>simp only[MW,MX,List.take_succ_cons];exact Ae (ih ..) rfl
theorem O0:∀(A:List Nn)(f:Int),∀d∈HQ A f,f<=d.2.2:=by
 intro A;induction A with
 |nil=>intro f d hd;cases hd
 |cons n r ih=>
  intro f d hd;rcases Au.mp hd with rfl|h
  .exact Mh _
  .have:=ih (f+2) d h;exact MR 0x1101811212013811 this
theorem RD:∀(A:List Nn)(f:Int),∀d∈HQ A f,d.2.2+2<=f+2*A.length:=by
 intro A;induction A with
 |nil=>intro f d hd;cases hd
 |cons n r ih=>
  intro f d hd;rcases Au.mp hd with rfl|h
  .simp only[Al];exact E3 0x1120036212401321201380
  .have:=ih (f+2) d h;simp only[Al];exact Xc 0x11200362124113212013800621242121133212013811 this
theorem Y0:∀(A B:List Nn)(f:Int),HQ (A++B) f=HQ A f++HQ B (f+2*A.length):=by
 intro A;induction A with
 |nil=>intro B f;simp[MW,MX]
 |cons n r ih=>intro B f;simp only[AM,MW,MX,ih,Al];congr 3;exact E3 0x1120036212401300621242120133a0
theorem Vf(A:List Nn)(a:Int)(s:Nat)(h:s<=A.length):(BF A a).drop s=BF (A.drop s) a:=by
 simp only[BF,Ve,B7];congr 1;exact Qel 0x6212411201351062124206212411201353a2010003221 (AE (AQ 0x100001000011 h))
theorem Y1{A B:List Nn}{a:Int}(h:BF A a=BF B a):A=B:=by
 have:=congrArg MK h;simpa only[BF,JZ]using this
theorem Y2{f g:Nat->Bool}:∀(n s:Nat),(∀i,s<=i->i<s+n->f i=g i)->Jj f n s=Jj g n s:=by
 intro n;induction n with
 |zero=>intro s _;rfl
 |succ n ih=>
  intro s h
  (rw[aI,aI];exact Ae (h s (AL _) (AQ 0x1121030030010)) (Ae (ih (s+1) λi h1 h2=>h i (AQ 0x1000010112003011 h1) (BC 0x11220310300120112103300111 h2)) rfl))
structure Rk(K:List (Str×Int))(k0:Kn)(D:List Nd)(A:List Nn)(a:Int)(U:List Nn):Prop where
 eq:∀x,(getL k0 x).map CC=getL K x
 fr:Fr k0 (D++BF A a)
 u:Cons U
 d:∀n∈MK D,n∈U
 a:∀n∈A,n∈U
section
variable{K:List (Str×Int)}{k0:Kn}{D:List Nd}{A:List Nn}{a:Int}{U:List Nn}(h:Rk K k0 D A a U)
include h
theorem Rk.kw(n:Nn):EK k0 n=kn K n:=by
 (refine(CX).mpr ?_;rw[JY,kn];refine Ae decide_eq_true_eq (CV (h.eq n.1) ?_))
 cases getL k0 n.1 with
 |none=>simp
 |some p=>obtain⟨b,v⟩:=p;simp
theorem Rk.at_(t:Nat)(n:Nn):EK (Bc (Bc k0 D) ((BF A a).take t)) n=true↔n∈MK D++A.take t\/((∀d∈MK D++A.take t,d.1≠n.1)/\kn K n=true):=by
 have e:Bc (Bc k0 D) ((BF A a).take t)=Bc k0 (D++(BF A a).take t):=by simp[Bc]
 have ep:MK (D++(BF A a).take t)=MK D++A.take t:=by
  have:MK ((BF A a).take t)=A.take t:=by(rw[BF];exact Ae (ML ..) (Ae (JZ ..) rfl))
  refine CV this ?_;simp[MK]
 have hU:∀b∈MK D++A.take t,b∈U:=λb hb=>by
  rcases An.mp hb with q|q
  .exact h.d b q
  .exact h.a b (BU q)
 have vX:Fr k0 (D++(BF A a).take t):=λd hd=>h.fr d (by
  rcases An.mp hd with q|q
  .exact AD _ q
  .exact AG _ (BU q))
 rw[e,QR n _ _ vX (by rw[ep];exact h.u.sub hU),ep,h.kw];have:(∀d∈D++(BF A a).take t,d.1≠n.1)↔∀d∈MK D++A.take t,d.1≠n.1:=by
  refine CV ep ?_;constructor
  .intro q d hd;obtain⟨d',Pu,rfl⟩:=D9.mp hd;exact q d' Pu
  .intro q d hd;exact q (d.1,d.2.1) (Cu (f:=λd:Nd=>(d.1,d.2.1)) hd)
 rw[this]
theorem Rk.asked{N:List Nn}(hN:∀n∈N,n∈U)(t:Nat):CZ (Bc (Bc k0 D) ((BF A a).take t)) N=OW (MK D++A.take t) (Ff K N):=by
 simp only[CZ,OW,Ff,I2];refine Jx λn hn=>?_
 (refine(CX).mpr (Ae (Cw ..) (Ae (Av ..) (Ae decide_eq_true_eq (Ae (Cw ..) (CV (EB ..) ?_)))));rw[h.at_ t n])
 have hU:∀b∈MK D++A.take t,b.1=n.1->b=n:=λb hb e=>by
  refine h.u b ?_ n (hN n hn) e;rcases An.mp hb with q|q
  .exact h.d b q
  .exact h.a b (BU q)
 constructor
 .intro q;refine⟨λq1=>q (.inl q1),?_⟩;refine CV (EB ..) ?_;intro q2;by_cases q3:n∈MK D++A.take t
  .exact q (.inl q3)
  .exact q (.inr ⟨λb hb e=>q3 (hU b hb e▸hb),q2⟩)
 .rintro⟨q1,q2⟩ (q|⟨_,q⟩)
  .exact q1 q
  .rw[q2]at q;cases q
theorem Rk.split{N:List Nn}(hN:∀n∈N,n∈U):splitAt (Bc k0 D) (BF A a) N a=Jj (λt=>decide (OW (MK D++A.take t) (Ff K N)=A.drop t)) (A.length+1) 0:=by
 (rw[splitAt];refine Ae (show(BF A a).length=A.length from DS _ _) ?_)
 refine Y2 _ _ λt x ht=>?_
 (rw[Ks];refine Ae (h.asked hN t) (Ae (Vf A a t (AQ 0x1000011210302300111 ht)) ?_))
 by_cases c:OW (MK D++A.take t) (Ff K N)=A.drop t
 .refine Ae c ?_;simp
 .exact Ae (decide_eq_false c) (Ae (decide_eq_false λe=>c (Y1 e)) rfl)
omit h in
theorem Rk.fits:∀{K:List (Str×Int)}{k0:Kn}{D:List Nd}{A:List Nn}{a:Int}{U N:List Nn}{t:Nat}{K2:List (Str×Int)}(h:Rk K k0 D A a U)(hnd:(N.map Bk).Nodup)(hs:splitAt (Bc k0 D) (BF A a) N a=some t)(iE:∀n,kn K2 n=true↔n∈MK D++A\/((∀b∈MK D++A,b.1≠n.1)/\kn K n=true)),∀n∈N,kn K2 n=true:=by
 refine@(Xe nL nL nL nL nI nL nL nN nL ?_);generalize Ql .. =z;generalize z.1=K,z.2.1=k0,z.2.2.1=D,z.2.2.2.1=A,z.2.2.2.2.1=a,z.2.2.2.2.2.1=U,z.2.2.2.2.2.2.1=N,z.2.2.2.2.2.2.2.1=t,z.2.2.2.2.2.2.2.2=K2;intro h hnd hs iE;obtain⟨_,ht,HL⟩:=L8 _ _ _ _ hs;rw[show(BF A a).length=A.length from DS _ _]at ht;rw[Ks,decide_eq_true_eq,Vf A a t (AQ 0x1000011210302300111 ht)]at HL;have HL:=Y1 HL;intro n hn;refine(iE ..).mpr ?_;by_cases c:EK (Bc (Bc k0 D) ((BF A a).take t)) n=true
 .rw[h.at_ t n]at c;rcases c with c|⟨c1,c2⟩
  .left;rcases An.mp c with q|q
   .exact AD _ q
   .exact AG _ (BU q)
  .by_cases q:n∈A.drop t
   .exact .inl (AG _ (Cm q))
   .refine .inr ⟨λb hb e=>?_,c2⟩;rcases An.mp hb with q1|q1
    .exact c1 b (AD _ q1) e
    .rw[<-G5 t A]at q1;rcases An.mp q1 with q2|q2
     .exact c1 b (AG _ q2) e
     .have vH:b∈N:=by rw[<-HL]at q2;exact(BL.mp q2).1
      exact q (Wy hnd b vH n hn e▸q2)
 .left;have:n∈CZ (Bc (Bc k0 D) ((BF A a).take t)) N:=BL.mpr ⟨hn,by simpa using c⟩;rw[HL]at this;exact AG _ (Cm this)
omit h in
theorem Rk.Kd:∀{K:List (Str×Int)}{k0:Kn}{D:List Nd}{A:List Nn}{a:Int}{U:List Nn}(h:Rk K k0 D A a U),splitAt (Bc k0 D) (BF A a) [] a=some A.length:=by
 refine@(Fd nL nL nL nL nI nL ?_);generalize E2 .. =c;generalize c.1=K,c.2.1=k0,c.2.2.1=D,c.2.2.2.1=A,c.2.2.2.2.1=a,c.2.2.2.2.2=U;intro h;have e:=h.split (N:=[]) (λx q=>nomatch q);refine Ae e ?_;have key:∀(n s:Nat),s+n=A.length->Jj (λt=>decide (OW (MK D++A.take t) (Ff K [])=A.drop t)) (n+1) s=some A.length:=by
  intro n;induction n with
  |zero=>
   intro s hs;have:A.drop s=[]:=List.drop_eq_nil_of_le (AQ 0x1001002003291 hs)
   (rw[aI];refine Ae (if_pos (by simp[OW,Ff,this])) ?_)
   congr 1
  |succ n ih=>
   intro s hs;rw[aI,if_neg]
   .exact ih (s+1) (BC 0x20101120033220112103003211 hs)
   .refine Ae decide_eq_true_eq ?_;intro q;have:=congrArg AX q;simp[OW,Ff]at this;exact Df 0x620003032930022920112103003213 hs this (AE (BC 0x2000020112103003211 hs))
 exact key A.length 0 (AA 0x2320)
end
theorem WF(n:Nn):∀(A:List Nn)(K:List (Str×Int)),Cons A->(kn (BQ K A) n=true↔n∈A\/((∀b∈A,b.1≠n.1)/\kn K n=true)):=by
 intro A;induction A with
 |nil=>intro K _;simp[BQ]
 |cons d r ih=>
  intro K hc
  (refine Ae (show BQ K (d::r)=BQ (GF K d.1 d.2) r from rfl) ?_;rw[ih (GF K d.1 d.2) (hc.sub λa ha=> .tail _ ha)])
  have hs:kn (GF K d.1 d.2) n=true↔(if d.1=n.1 then d.2=n.2 else kn K n=true):=by
   simp only[kn,Im,decide_eq_true_eq];by_cases c:d.1=n.1<;>simp[c]
  rw[hs];by_cases c:d.1=n.1
  .refine Ae (if_pos c) ?_;constructor
   .rintro(e|⟨_,e⟩)
    .exact .inl (.tail _ e)
    .exact .inl (by refine Ae (show n=d from Pn c.symm e.symm) ?_;exact .head _)
   .rintro(e|⟨e,_⟩)
    .rcases Au.mp e with rfl|e
     .by_cases q:∃b∈r,b.1=n.1
      .obtain⟨b,hb,q⟩:=q;exact .inl (hc b (.tail _ hb) n (.head _) q▸hb)
      .exact .inr ⟨λb hb q'=>q ⟨b,hb,q'⟩,rfl⟩
     .exact .inl e
    .exact absurd c (e d (.head _))
  .refine Ae (if_neg c) ?_;constructor
   .rintro(e|⟨e1,e2⟩)
    .exact .inl (.tail _ e)
    .refine .inr ⟨λb hb=>?_,e2⟩;rcases Au.mp hb with rfl|hb
     .exact c
     .exact e1 b hb
   .rintro(e|⟨e1,e2⟩)
    .rcases Au.mp e with rfl|e
     .exact absurd rfl c
     .exact .inl e
    .exact .inr ⟨λb hb=>e1 b (.tail _ hb),e2⟩
noncomputable def kM(F:List (Str×Fe))(base:Str)(first bits:Int):List (Str×Str):=F.filterMap λp=>match p.2 with
 | .G6 _ pr b sz f=>if sz=bits/\b=base/\f=first then some (p.1,pr)else none
 | .other _ _ _ _ _=>none
noncomputable def Td(Af:Str)(K:Kn)(P:List Nd)(a:Int)(acc:Option (Str×Nat)×Int)(c:Str×Str):Option (Str×Nat)×Int:=match splitAt K P (Be Af (BH c.2)) a with
 |some s=>if acc.2<EE P s (Be Af (BH c.2))then(some (c.1,s),EE P s (Be Af (BH c.2)))else acc
 |none=>acc
theorem KM:∀(Af:Str)(K:Kn)(P:List Nd)(base:Str)(first bits a:Int),∀(F:List (Str×Fe))(acc:Option (Str×Nat)×Int),
  F.foldl (Nt Af K P base first bits a) acc=(kM F base first bits).foldl (Td Af K P a) acc:=by
 refine@(Hp A8 nL nL A8 nI nI nI ?_);generalize GE .. =z;generalize z.1=Af,z.2.1=K,z.2.2.1=P,z.2.2.2.1=base,z.2.2.2.2.1=first,z.2.2.2.2.2.1=bits,z.2.2.2.2.2.2=a
 intro F;induction F with
 |nil=>intro acc;rfl
 |cons p r ih=>
  intro acc;obtain⟨x,e⟩:=p;refine Ae Bu (Ae (ih ..) ?_);cases e with
  |other k ty sz o ab=>rfl
  |G6 ty pr b sz f=>
   simp only[kM,Er,Nt];by_cases c:sz=bits/\b=base/\f=first
   .simp only[if_pos c,Bu];rfl
   .simp only[if_neg c]
theorem yW:∀{Af:Str}{K:Kn}{P:List Nd}{a:Int}{y pr:Str}{s:Nat}(hs:splitAt K P (Be Af (BH pr)) a=some s)(hm: -1<EE P s (Be Af (BH pr))),∀(l:List (Str×Str))(acc:Option (Str×Nat)×Int),
  (∀c∈l,c=(y,pr)\/splitAt K P (Be Af (BH c.2)) a=none\/∃s',splitAt K P (Be Af (BH c.2)) a=some s'/\EE P s' (Be Af (BH c.2))<EE P s (Be Af (BH pr)))->
  (acc=(some (y,s),EE P s (Be Af (BH pr)))\/(acc.2<EE P s (Be Af (BH pr))/\(y,pr)∈l))->(l.foldl (Td Af K P a) acc).1=some (y,s):=by
 refine@(Hp A8 nL nL nI A8 A8 nN ?_);generalize GE .. =z;generalize z.1=Af,z.2.1=K,z.2.2.1=P,z.2.2.2.1=a,z.2.2.2.2.1=y,z.2.2.2.2.2.1=pr,z.2.2.2.2.2.2=s;intro hs hm;intro l;induction l with
 |nil=>intro acc _ h;rcases h with rfl|⟨_,h⟩;rfl;cases h
 |cons c r ih=>
  intro acc hl h;refine Ae Bu ?_;refine ih _ (λc hc=>hl c (.tail _ hc)) ?_;rcases hl c (.head _)with rfl|e|⟨s',e,e2⟩
  .left;refine Ae (show Td Af K P a acc (y,pr)=if acc.2<EE P s (Be Af (BH pr))then(some (y,s),EE P s (Be Af (BH pr)))else acc by simp only[Td,hs]) ?_;rcases h with rfl|⟨h,_⟩
   .exact Ae (if_neg (D1 0x101d0)) rfl
   .exact Ae (if_pos h) rfl
  .simp only[Td,e];rcases h with h|⟨h,h2⟩
   .exact .inl h
   .refine .inr ⟨h,?_⟩;rcases Au.mp h2 with rfl|h2
    .rw[e]at hs;cases hs
    .exact h2
  .simp only[Td,e];rcases h with rfl|⟨h,h2⟩
   .refine Ae (if_neg (MR 0x111d1101911 e2)) ?_;exact .inl rfl
   .refine .inr ⟨by split<;>assumption,?_⟩;rcases Au.mp h2 with rfl|h2
    .rw[e]at hs;cases hs;exact absurd e2 (by dsimp only;exact D1 0x101d0)
    .exact h2
noncomputable def l58:Nn:=(Aa "meta l4proto",58)
noncomputable def bH:Nn:=(Aa "meta nfproto",10)
noncomputable def uG:List Str:=[Aa "tcp",Aa "udp",Aa "icmp"]
noncomputable def Qbu(Af y pr:Str)(N:List Nn)(c:Str×Str):Bool:=
 decide (c=(y,pr))||((Be Af (BH c.2)).isEmpty&& !N.isEmpty)||(Be Af (BH c.2)).any (λb=>N.any λg=>decide (b.1=g.1/\b.2≠g.2))||decide (l58∈Be Af (BH c.2))||
 (decide (Af=Aa "ip")&&decide (bH∈Be Af (BH c.2)))||(decide (y=KG)&&decide (c.2∈uG))
noncomputable def uH(Af y:Str):Bool:=match getL FL y with
 |some (.G6 _ pr b sz f)=>decide (Be Af (BH pr)=AC Af y)&&decide ((y,pr)∈kM FL b f sz)&&(kM FL b f sz).all λc=>Qbu Af y pr (AC Af y) c&&decide (((Be Af (BH c.2)).map Bk).Nodup)
 |_=>true
theorem yX:[Aa "bridge",Aa "inet",Aa "ip"].all (λAf=>(Ck Af).all (uH Af))=true:=by decide +kernel
theorem QcP{Af y:Str}(Bl:CE Af)(hy:y∈Ck Af):uH Af y=true:=
 Az.mp (Az.mp yX Af (by rcases Bl with rfl|rfl|rfl<;>simp)) y hy
theorem QcQ:∀{Af pr:Str}{K2:List (Str×Int)}(Bl:CE Af)(hp:pr∈uG)(h:∀n∈Be Af (BH pr),kn K2 n=true),Bz Af KG K2≠KG:=by
 refine@(TN A8 A8 nL ?_);generalize W1 .. =c;generalize c.1=Af,c.2.1=pr,c.2.2=K2;intro Bl hp h;have ne:=Pv;simp only[uG,Au,AU,or_false]at hp;have l4:∀v,(Aa "meta l4proto",v)∈Be Af (BH pr)->getL K2 "meta l4proto"=some v:=λv hv=>of_decide_eq_true (h _ hv);simp only[Bz,Nv];refine Ae (if_neg (by simp[KG])) ?_;rcases hp with rfl|rfl|rfl
 .refine Ae (l4 6 (by rcases Bl with rfl|rfl|rfl<;>decide +kernel)) ?_;refine Ae (if_neg (by simp)) (Ae (if_pos rfl) ?_);exact ne.2.1
 .refine Ae (l4 17 (by rcases Bl with rfl|rfl|rfl<;>decide +kernel)) ?_;refine Ae (if_neg (by simp)) (Ae (if_neg (by simp)) (Ae (if_pos rfl) ?_));exact ne.2.2
 .refine Ae (l4 1 (by rcases Bl with rfl|rfl|rfl<;>decide +kernel)) ?_;rw[if_pos]
  .exact ne.1
  .refine⟨rfl,?_⟩;rcases Bl with rfl|rfl|rfl
   .exact .inr (of_decide_eq_true (h (Aa "meta nfproto",2) (by decide +kernel)))
   .exact .inr (of_decide_eq_true (h (Aa "meta nfproto",2) (by decide +kernel)))
   .exact .inl rfl
theorem uI:∀{Af y ty pr b:Str}{sz f:Int}{K K2:List (Str×Int)}{k0:Kn}{D:List Nd}{A:List Nn}{a:Int}{U:List Nn}{s:Nat}(Bl:CE Af)(hy:y∈Ck Af)(Qj:getL FL y=some (.G6 ty pr b sz f))(h:Rk K k0 D A a U)(hs:splitAt (Bc k0 D) (BF A a) (AC Af y) a=some s)(iE:∀n,kn K2 n=true↔n∈MK D++A\/((∀b∈MK D++A,b.1≠n.1)/\kn K n=true))(hN:∀n∈AC Af y,kn K2 n=true)(h58:kn K2 l58=false)(vJ:Af="ip"->kn K2 bH=false)(W0:y=KG->Bz Af KG K2=KG),DZ FL Af (Bc k0 D) (BF A a) b f sz a=some (y,s):=by
 refine@(Ir A8 A8 A8 A8 A8 nI nI nL ?_);generalize G8 .. =z;generalize z.1=Af,z.2.1=y,z.2.2.1=ty,z.2.2.2.1=pr,z.2.2.2.2.1=b,z.2.2.2.2.2.1=sz,z.2.2.2.2.2.2.1=f,z.2.2.2.2.2.2.2=K;refine@(Hp nL nL nL nL nI nL nN ?_);generalize GE .. =z;generalize z.1=K2,z.2.1=k0,z.2.2.1=D,z.2.2.2.1=A,z.2.2.2.2.1=a,z.2.2.2.2.2.1=U,z.2.2.2.2.2.2=s;intro Bl hy Qj h hs iE hN h58 vJ W0;have hp:=QcP Bl hy;simp only[uH,Qj,Av,decide_eq_true_eq,Az]at hp;obtain⟨⟨h1,h2⟩,h3⟩:=hp;have z0:s<=A.length:=by
  have:=(L8 _ _ _ _ hs).2.1;rw[show(BF A a).length=A.length from DS _ _]at this;exact AQ 0x1000011210302300111 this
 (rw[DZ];refine Ae (KM ..) ?_)
 have vO:EE (BF A a) s (Be Af (BH pr))=3*((A.length:Int)-s)+(AC Af y).length:=by(rw[EE];exact Ae h1 (Ae (show(BF A a).length=A.length from DS _ _) rfl))
 refine yW (y:=y) (pr:=pr) (s:=s) (by refine Ae h1 ?_;exact hs) (by refine Ae vO ?_;exact BC 0x206006106531243112791000031 z0) _ _ (λc hc=>?_) (.inr ⟨by refine Ae vO ?_;show(-1:Int)<_;exact BC 0x206006106531243112791000031 z0,h2⟩);obtain⟨h4,h5⟩:=h3 c hc;have fit:∀s',splitAt (Bc k0 D) (BF A a) (Be Af (BH c.2)) a=some s'->∀n∈Be Af (BH c.2),kn K2 n=true:=λs' e=>h.fits h5 e iE;have vP:(∃n∈Be Af (BH c.2),kn K2 n≠true)->splitAt (Bc k0 D) (BF A a) (Be Af (BH c.2)) a=none:=by
  rintro⟨n,hn,hk⟩;cases e:splitAt (Bc k0 D) (BF A a) (Be Af (BH c.2)) a with
  |none=>rfl
  |some s'=>exact absurd (fit s' e n hn) hk
 simp only[Qbu,BX,Av,decide_eq_true_eq,Ez]at h4;rcases h4 with((((e|⟨e1,e2⟩)|⟨b',vW,g,hg,e1,e2⟩)|e)|⟨e1,e2⟩)|⟨e1,e2⟩
 .exact .inl e
 .have e3:Be Af (BH c.2)=[]:=by simpa using e1
  refine .inr (.inr ⟨A.length,by refine Ae e3 ?_;exact h.Kd,?_⟩);have e4:(AC Af y).length≠0:=by
   intro q;rw[J3.mp q]at e2;cases e2
  (refine Ae vO ?_;rw[EE];refine Ae e3 (Ae (show(BF A a).length=A.length from DS _ _) ?_))
  simp only[Ar];lia
 .refine .inr (.inl (vP ⟨b',vW,λhk=>?_⟩));have k1:=of_decide_eq_true hk;have k2:=of_decide_eq_true (hN g hg);rw[e1,k2]at k1;exact e2 (BB k1).symm
 .exact .inr (.inl (vP ⟨_,e,by refine Ae h58 ?_;simp⟩))
 .exact .inr (.inl (vP ⟨_,e2,by refine Ae (vJ e1) ?_;simp⟩))
 .refine .inr (.inl ?_);cases e:splitAt (Bc k0 D) (BF A a) (Be Af (BH c.2)) a with
  |none=>rfl
  |some s'=>exact absurd (W0 e1) (QcQ Bl e2 (fit s' e))
theorem Dt{E:Env}{B:List (Str×Str)}:∀(a b:List AV){M M1 M2:Ms},DT E B M a M1->DT E B M1 b M2->DT E B M (a++b) M2:=by
 intro a;induction a with
 |nil=>intro b M M1 M2 h k;cases h;exact k
 |cons r t ih=>
  intro b M M1 M2 h k;obtain⟨op,rest,f,M',h1,h2,h3,h4⟩:=h;exact⟨op,rest,f,M',h1,h2,h3,ih b h4 k⟩
noncomputable def BA:List (Str×Str):=Ku [Rb]
theorem Cz{E:Env}{B:List (Str×Str)}{M M1:Ms}{op f:Str}{rest:List AV}(h:getL B op=some f)(k:Rd E f (.tup (.str op::rest)) M M1):DT E B M [.tup (.str op::rest)] {M1 with at_:=M1.at_+1}:=
 ⟨op,rest,f,M1,rfl,h,k,rfl⟩
theorem ba:getL BA "payload"=some (Aa "back_payload")/\getL BA "meta"=some (Aa "back_meta")/\getL BA "ct"=some (Aa "back_ct")/\getL BA "immediate"=some (Aa "back_immediate")/\getL BA "bitwise"=some (Aa "back_bitwise")/\
  getL BA "shift"=some (Aa "back_shift")/\getL BA "byteorder"=some (Aa "back_byteorder")/\getL BA "cmp"=some (Aa "back_cmp")/\getL BA "map"=some (Aa "back_map")/\getL BA "verdict"=some (Aa "back_same")/\
  getL BA "log"=some (Aa "back_same")/\getL BA "reject"=some (Aa "back_same")/\getL BA "notrack"=some (Aa "back_same")/\getL BA "payload_set"=some (Aa "back_payload_set")/\getL BA "meta_set"=some (Aa "back_meta_set")/\getL BA "ct_set"=some (Aa "back_ct_set"):=by decide +kernel
theorem kN(n:Int)(m:Nat):CG n (m+1) false=CG (n.fdiv 256) m false++[n.fmod 256]:=by
 simp only[CG,Q7,Bg,AW,Ct,CI,if_false];congr 1
 .refine M3 λk hk=>?_;have hk:=IW.mp hk;have hp:(0:Int)<=256^(m-1-k):=GP (Ed (by decide));exact Ae (z16 hk) (Ae (GS ..) (Ae (Cp _ (Mi hp (by decide))) (Ae (Cp n (show(0:Int)<=256 by decide)) (Ae (Cp _ hp) (Ae (Int.mul_comm ..) (Ae (Int.ediv_ediv_of_nonneg (by decide)) rfl))))))
 .simp
theorem Tf:∀(m:Nat)(n:Int),0<=n->n<256^m->Ma (CG n m false)=n:=by
 intro m;induction m with
 |zero=>intro n h0 h1;simp only[WU]at h1;refine Ae (show n=0 by lia) ?_;rfl
 |succ m ih=>
  intro n h0 h1;refine Ae (kN ..) (Ae (U1 ..) ?_);have h2:n.fdiv 256=n/256:=Cp _ (by decide);have h3:n.fmod 256=n%256:=Int.fmod_eq_emod_of_nonneg _ (by decide);rw[GS]at h1;refine Ae h2 (Ae h3 (Ae (ih (n/256) (by lia) (by generalize (256:Int)^m=P at h1⊢;lia)) ?_));lia
theorem uJ(n:Int)(m:Nat):(CG n m true).reverse=CG n m false:=by
 refine CS λi=>?_;by_cases h:i<m
 .rw[LB (by rw[Dl];exact h),Dl];simp only[CG,BK,if_true,CI,if_false];refine Ae (H9 (BC 0x2000120112103211000012 (Gf _ _) (AE (AQ 0x1011201000111 h)))) (Ae (H9 h) ?_);rfl
 .rw[D0 (by rw[FK,Dl];exact AQ 0x1001000511 h),D0 (by rw[Dl];exact AQ 0x1001000511 h)]
theorem KN{o host:Str}{n:Int}{m:Nat}(ho:o="host"\/o="big")(hh:host="little"\/host="big")(h0:0<=n)(h1:n<256^m):Fw o host (CG n m (E7 o host))=n:=by
 have nb:Aa "little"≠"big":=by decide +kernel
 have nh:Aa "big"≠"host":=by decide +kernel
 rcases ho with rfl|rfl
 .rcases hh with rfl|rfl
  ·(refine Ae (show E7 "host" "little"=true by decide +kernel) ?_;rw[Fw];refine Ae (if_pos rfl) (Ae (if_neg nb) (Ae (uJ ..) ?_)));exact Tf m n h0 h1
  ·(refine Ae (show E7 "host" "big"=false by decide +kernel) ?_;rw[Fw,if_pos rfl];refine Ae (if_pos rfl) ?_);exact Tf m n h0 h1
 ·(refine Ae (show E7 (Aa "big") host=false by simp only[E7,show(Aa "big"==Aa "host")=false by decide +kernel,IS]) ?_;rw[Fw,if_neg nh];refine Ae (if_pos rfl) ?_);exact Tf m n h0 h1
noncomputable def ND:List Nn:=[("ether type",33024),("meta protocol",2054),("meta nfproto",10),("meta nfproto",2),("meta l4proto",6),("meta l4proto",17),("meta l4proto",1),("meta l4proto",132)]
noncomputable def Qbv(n:Nn):Bool:=b9.any (λa=>a==n.1)&&decide (0<=n.2/\n.2<256^IM n.2/\IM n.2<=2)&&(decide (n.1=Aa "ether type")||(decide (n.1=Aa "meta "++S5 n.1)&&decide ((S5 n.1).length<=1000)))
theorem Qef:ND.all Qbv=true:=by decide +kernel
theorem yY:kM FL "link" 96 16=[(Aa "ether type",Aa "ether")]:=by decide +kernel
theorem uK:[Aa "bridge",Aa "inet",Aa "ip"].all (λAf=>decide (Be Af (BH "ether")=[]))=true:=by decide +kernel
theorem uL(n:Nat)(h:0<n):Dh (2^n-1) 0 n=n:=by
 obtain⟨m,rfl⟩:∃m,n=m+1:=⟨n-1,by exact AQ 0x11200310210112003291 (AE (AA 0x11200002111 h))⟩
 rw[Qcs,if_neg];refine Ae (BO ..) (Ae (Cp _ (GP (Ed (by decide)))) ?_);have hp:(0:Int)<2^m:=Ed (by decide);have e:((2:Int)^(m+1)-1)/2^m=1:=by
  refine Ae (GS ..) ?_;generalize (2:Int)^m=P at hp⊢;refine Ae (show P*2-1=(P-1)+1*P by lia) (Ae (Int.add_mul_ediv_right _ _ (D1 0x201f0102911 hp)) (Ae (Int.ediv_eq_zero_of_lt (D1 0x1120150280102911 hp) (D1 0x111201590)) ?_));rfl
 refine Ae e ?_;decide
theorem P1{Af:Str}{M:Ms}{base:Str}{at_:Int}{m:Nat}{a:Int}(h:0<m):Wf FL Af M base at_ (2^(8*m)-1) 0 a m=DZ FL Af M.kn M.pe base (8*at_) (8*m) a:=by
 have c:=uL (8*m) (AA 0x81240210002111 h);simp only[Wf,WN,c,WU,Mv];refine Ae (if_pos ⟨by exact AA 0x81240210002111 h,trivial⟩) ?_;congr 1
 .exact E3 0x181240081246026006013812455a0
theorem KO(M:Ms):CD M M.pe.length=M:=by
 simp[CD,Bc,Cd]
section
variable{E:Env}(hf:TO E FL)(Bl:CE E.Af)(hE:E.order="little"\/E.order="big")
include hf Bl hE
omit hf Bl hE in
theorem kO:∀{E:Env}{n:Nn}{M:Ms}{K:List (Str×Int)}{A U:List Nn}(hf:TO E FL)(Bl:CE E.Af)(hE:E.order="little"\/E.order="big")(hn:n∈ND)(hs:M.sz<=140)(cB:M.pe=BF A M.at_)(hR:Rk K M.kn [] A M.at_ U),∃sl,DT E BA M (E1 n.1 n.2) {M with sl:=sl,pe:=M.pe++[(n.1,n.2,M.at_+1)],at_:=M.at_+2}:=by
 refine@(Fd nE (np A8 nI) We nL nL nL ?_);generalize E2 .. =y;generalize y.1=E,y.2.1=n,y.2.2.1=M,y.2.2.2.1=K,y.2.2.2.2.1=A,y.2.2.2.2.2=U;intro hf Bl hE hn hs cB hR;have ok:=Az.mp Qef n hn;simp only[Qbv,Av,decide_eq_true_eq,BX]at ok;obtain⟨⟨ok1,vQ,Vm,lK⟩,v8⟩:=ok;have num:Fw "big" E.order (CG n.2 (IM n.2) false)=n.2:=by
  have:=KN (o:="big") (n:=n.2) (m:=IM n.2) (.inr rfl) hE vQ Vm
  rwa [show E7 (Aa "big") E.order=false by simp only[E7,show(Aa "big"==Aa "host")=false by decide +kernel,IS]]at this
 have cmp:∀(M1:Ms)(z:Int),M1.sl=some (.val (Gp n.1) "big" z)->M1.sz<=150->DT E BA M1 [.tup [.str "cmp",.str "==",.int 0,.bytes (CG n.2 (IM n.2) false)]] {M1 with pe:=M1.pe++[(n.1,n.2,M1.at_)],at_:=M1.at_+1}:=by
  intro M1 z h1 h2;have:=Cz (B:=BA) ba.2.2.2.2.2.2.2.1 (Qd1 (E:=E) (bs:=CG n.2 (IM n.2) false) h2 h1 (of_decide_eq_true ((gF _ _).symm.trans ok1)) (HB _ _ _) (by refine Ae (Dl ..) ?_;exact AA 0x642200021200011 lK) (.inr rfl) hE);rw[num]at this;exact this
 have go:∀(row:AV)(M1:Ms)(z:Int),E1 n.1 n.2=[row,.tup [.str "cmp",.str "==",.int 0,.bytes (CG n.2 (IM n.2) false)]]->DT E BA M [row] M1->M1={M with sl:=some (.val (Gp n.1) "big" z),at_:=M.at_+1}->
   ∃sl,DT E BA M (E1 n.1 n.2) {M with sl:=sl,pe:=M.pe++[(n.1,n.2,M.at_+1)],at_:=M.at_+2}:=by
  intro row M1 z e h1 e1;subst e1;refine⟨some (.val (Gp n.1) "big" z),?_⟩;refine Ae e ?_;have h2:=Dt [row] _ h1 (cmp _ z rfl (by simp only[Ms.sz]at hs⊢;exact Df 0x962230312420100033308c22303124201000333011 hs));simp only[AM,AP]at h2;have e3:M.at_+1+1=M.at_+2:=by exact D1 0x2120131121120133a0
  rw[e3]at h2;exact h2
 by_cases c:n.1=Aa "ether type"
 .have hp:=Cz (B:=BA) ba.1 (U3 hf (M:=M) (AA 0x96220008c2200011 hs) (base:="link") (at_:=12) (m:=2) (B8 0x3e832c1200) (B8 0x102221200));refine go _ _ 2 (by simp only[E1,if_pos c];rfl) hp ?_;have Zs:DZ FL E.Af M.kn M.pe "link" 96 16 M.at_=some (Aa "ether type",M.pe.length):=by
   (rw[DZ];refine Ae (KM ..) (Ae yY ?_))
   have e0:Be E.Af (BH "ether")=[]:=of_decide_eq_true (Az.mp uK E.Af (by rcases Bl with h|h|h<;>refine Ae h ?_<;>simp));have e1:splitAt M.kn M.pe [] M.at_=some M.pe.length:=by
    refine Ae cB (Ae (show(BF A M.at_).length=A.length from DS _ _) ?_);exact hR.Kd
   simp only[Bu,Fc,Td,e0,e1];rw[if_pos];simp only[EE,Ar];exact AA 0x26006006531243112790
  (rw[S1];refine Ae (P1 (B8 0x2120210)) (Ae (show(8:Int)*((12:Nat):Int)=96 by decide) (Ae (show(8:Int)*((2:Nat):Int)=16 by decide) (Ae Zs ?_))))
  simp only[KO,c];rfl
 .obtain⟨ok6,ok7⟩:=v8.resolve_left c;have hp:=Cz (B:=BA) ba.2.1 (sY (E:=E) (M:=M) (key:=S5 n.1) (order:="big") (z:=IM n.2) ok7);refine go _ _ (IM n.2) (by simp only[E1,if_neg c]) hp ?_;exact CV ok6 rfl
theorem Th{K:List (Str×Int)}{U:List Nn}:∀(A:List Nn){M:Ms}{A0:List Nn},(∀n∈A,n∈ND)->M.sz+3*A.length<=140->M.pe=BF A0 M.at_->(∀A' a',(∀n∈A',n∈U)->a'-2*A'.length=M.at_-2*A0.length->Rk K M.kn [] A' a' U)->(∀n∈A0++A,n∈U)->
  ∃sl,DT E BA M (Ek A) {M with sl:=sl,pe:=BF (A0++A) (M.at_+2*A.length),at_:=M.at_+2*A.length}:=by
 intro A;induction A with
 |nil=>
  intro M A0 _ _ cB _ _;refine⟨M.sl,?_⟩;simp only[A7,Ar,Ek,Fs];show M=_;exact Ae (show M.at_+2*((0:Nat):Int)=M.at_ by exact D1 0x10262124013a0) (CV cB rfl)
 |cons n r ih=>
  intro M A0 hn hs cB hR hU;obtain⟨sl,h1⟩:=kO hf Bl hE (hn n (.head _)) (M:=M) (K:=K) (A:=A0) (U:=U) (AQ 0x8c220008c22103124003011 hs) cB (hR A0 M.at_ (λn h=>hU n (AD _ h)) rfl);have e1:M.pe++[(n.1,n.2,M.at_+1)]=BF (A0++[n]) (M.at_+2):=by
   (refine Ae cB ?_;rw[BF,BF];refine Ae Ah (Ae (show M.at_+2+1-2*((A0.length+[n].length:Nat):Int)=M.at_+1-2*A0.length by simp only[Al,Ar];exact E3 0x6212411201351120230036212411221201335a0) (Ae (Y0 ..) ?_)))
   simp only[MW,MX];exact Ae (show M.at_+1-2*(A0.length:Int)+2*A0.length=M.at_+1 by exact E3 0x1120130062124006212411201353a0) rfl
  rw[e1]at h1;simp only[Al]at hs;obtain⟨sl2,h2⟩:=ih (M:={M with sl:=sl,pe:=BF (A0++[n]) (M.at_+2),at_:=M.at_+2}) (A0:=A0++[n]) (λm h=>hn m (.tail _ h))
   (by
    have:(BF (A0++[n]) (M.at_+2)).length=A0.length+1:=by(rw[BF];refine Ae (DS ..) ?_);simp
    have h4:M.pe.length=A0.length:=by(refine Ae cB ?_;rw[BF];exact Ae (DS ..) rfl)
    simp only[Ms.sz]at hs⊢;exact Qem 0x8c224031245031242010003333060302b11260350238c2211240331243031242010003333013 hs this h4) rfl
   (λA' a' h3 h4=>hR A' a' h3 (by simp only[Ah,Al,Ar]at h4;exact mG 0x10621241150062124015a1120231036212421211350062124015a11 h4))
   (λm h=>hU m (by simpa using h))
  refine⟨sl2,?_⟩;have h3:=Dt _ _ h1 h2;refine Ae (show Ek (n::r)=E1 n.1 n.2++Ek r from rfl) ?_;simp only[Ao,AM,AP]at h3;refine Ae (show M.at_+2*((n::r).length:Int)=M.at_+2+2*(r.length:Int) by simp only[Al];exact E3 0x62124212013311200362124013a0) ?_;exact h3
end
noncomputable def WG(mask:Int)(d m:Nat):Bool:=decide (0<Dh mask d (8*m-d)/\mask=(2^Dh mask d (8*m-d)-1)*2^d)
noncomputable def gU(mask:Int)(d m at_:Nat)(sz f:Int):Bool:=WG mask d m&&decide (8*((at_:Int)+m)-d-Dh mask d (8*m-d)=f/\(Dh mask d (8*m-d):Int)=sz)
noncomputable def uM(m:Nat)(mask:Int)(w at_:Nat)(sz f:Int):Bool:=decide (Ma (CG mask m false)=mask)&&decide (Ma (CG 0 m false)=0)&&decide (E8 (2^(8*m)-1) (mask*2^0)=mask)&&
 (if w=0 then gU mask 0 m at_ sz f else !WG mask 0 m&&decide (mask.fdiv (2^(0+w))*2^(0+w)=mask)&&decide (0+w<=8*m)&&decide (0<=mask/\mask<=1000000)&&gU mask (0+w) m at_ sz f)
noncomputable def yZ(Af y:Str):Bool:=match Cc CF y with
 | .Eo k key dir s o=>decide (AC Af y=[])&&decide (getL EW y=none)&&(if k=Aa "meta" then decide (y=Aa "meta "++key)&&decide (key.length<=1000)else decide (JC FL key dir=some y))
 | .G6 b a s=>decide (1<=s/\s<=16/\a<=1000)&&(match getL FL y with
  |some (.G6 _ _ b' sz f)=>decide (b=b')&&(match getL EW y with
   |none=>decide (f=8*a/\sz=8*s)
   |some (mask,down)=>decide (0<=down)&&decide (kM FL b (8*a) (8*s)=[])&&uM s mask down.toNat a sz f)
  |_=>false)
theorem QcR:[Aa "bridge",Aa "inet",Aa "ip"].all (λAf=>(Ck Af).all (yZ Af))=true:=by decide +kernel
theorem Qbw{Af y:Str}(Bl:CE Af)(hy:y∈Ck Af):yZ Af y=true:=
 Az.mp (Az.mp QcR Af (by rcases Bl with rfl|rfl|rfl<;>simp)) y hy
theorem gV:∀{Af:Str}{M:Ms}{base:Str}{at_ m d:Nat}{mask sz f a:Int}(h:gU mask d m at_ sz f=true),Wf FL Af M base at_ mask d a m=DZ FL Af M.kn M.pe base f sz a:=by
 refine@(I8 A8 We A8 nN nN ?_);generalize Ke .. =c;generalize c.1=Af,c.2.1=M,c.2.2.1=base,c.2.2.2.1=at_,c.2.2.2.2=m;refine@(I8 nN nI nI nI nI ?_);generalize Ke .. =c;generalize c.1=d,c.2.1=mask,c.2.2.1=sz,c.2.2.2.1=f,c.2.2.2.2=a;intro h;simp only[gU,WG,Av,decide_eq_true_eq]at h;obtain⟨h1,h2,h3⟩:=h
 (rw[Wf];exact Ae (if_pos h1) (Ae h2 (Ae h3 rfl)))
theorem y3{Af:Str}{M:Ms}{base:Str}{at_:Int}{m d:Nat}{mask a:Int}(h:WG mask d m=false):Wf FL Af M base at_ mask d a m=none:=by
 (rw[Wf];exact Ae (if_neg (of_decide_eq_false h)) rfl)
structure Ld(Af y:Str)(K:List (Str×Int))(K2:List (Str×Int))(k0:Kn)(D:List Nd)(A:List Nn)(a:Int)(U:List Nn)(s:Nat):Prop where
 r:Rk K k0 D A a U
 s:splitAt (Bc k0 D) (BF A a) (AC Af y) a=some s
 k2:∀n,kn K2 n=true↔n∈MK D++A\/((∀b∈MK D++A,b.1≠n.1)/\kn K n=true)
 n:∀n∈AC Af y,kn K2 n=true
 h58:kn K2 l58=false
 vJ:Af="ip"->kn K2 bH=false
 th:y=KG->Bz Af KG K2=KG
theorem Ld.field{Af y:Str}{K K2:List (Str×Int)}{k0:Kn}{D:List Nd}{A:List Nn}{a:Int}{U:List Nn}{s:Nat}(h:Ld Af y K K2 k0 D A a U s)(Bl:CE Af)(hy:y∈Ck Af){ty pr b:Str}{sz f:Int}(Qj:getL FL y=some (.G6 ty pr b sz f)):
  DZ FL Af (Bc k0 D) (BF A a) b f sz a=some (y,s):=uI Bl hy Qj h.r h.s h.k2 h.n h.h58 h.vJ h.th
section
variable{E:Env}(hf:TO E FL)(Bl:CE E.Af)(hE:E.order="little"\/E.order="big")
include hf Bl hE
omit hf Bl hE in
theorem bI:∀{E:Env}{y:Str}{M:Ms}{K K2:List (Str×Int)}{A U:List Nn}{s:Nat}(hf:TO E FL)(Bl:CE E.Af)(hE:E.order="little"\/E.order="big")(hy:y∈Ck E.Af)(hs:M.sz<=140)(cB:M.pe=BF A M.at_)(hL:Ld E.Af y K K2 M.kn [] A M.at_ U s),DT E BA M (C5 y) {CD M s with sl:=some (.val (Gp y) (Cc CF y).order (Cc CF y).size),at_:=M.at_+(C5 y).length}:=by
 refine@(Ir nE A8 We nL nL nL nL nN ?_);generalize G8 .. =x;generalize x.1=E,x.2.1=y,x.2.2.1=M,x.2.2.2.1=K,x.2.2.2.2.1=K2,x.2.2.2.2.2.1=A,x.2.2.2.2.2.2.1=U,x.2.2.2.2.2.2.2=s;intro hf Bl hE hy hs cB hL;have ok:=Qbw Bl hy;have fa:∀{ty pr b:Str}{sz f:Int},getL FL y=some (.G6 ty pr b sz f)->DZ FL E.Af M.kn M.pe b f sz M.at_=some (y,s):=λh=>by
  refine Ae cB ?_;exact hL.field Bl hy h
 simp only[yZ]at ok;cases TR:Cc CF y with
 |Eo k key dir sz o=>
  simp only[TR,Av,decide_eq_true_eq]at ok;obtain⟨⟨ok1,vQ⟩,Vm⟩:=ok;have z0:s=M.pe.length:=by
   have h1:=hL.s;rw[ok1,hL.r.Kd]at h1
   (refine Ae cB ?_;rw[BF];refine Ae (DS ..) ?_);exact(BB h1).symm
  have e1:C5 y=[D6 (.Eo k key dir sz o)]:=by simp only[C5,TR,FP,vQ]
  refine Ae e1 (Ae z0 (Ae (KO ..) ?_));by_cases c:k=Aa "meta"
  .rw[if_pos c,Av,decide_eq_true_eq,decide_eq_true_eq]at Vm;have h1:=Cz (B:=BA) ba.2.1 (sY (E:=E) (M:=M) (key:=key) (order:=o) (z:=sz) Vm.2);rw[<-Vm.1]at h1;simp only[D6,if_pos c];exact h1
  .rw[if_neg c,decide_eq_true_eq]at Vm;simp only[D6,if_neg c];exact Cz (B:=BA) ba.2.2.1 (Qew (E:=E) (M:=M) (order:=o) (z:=sz) hf Vm)
 |G6 b a m=>
  simp only[TR,Av,decide_eq_true_eq]at ok;obtain⟨⟨ok1,vQ,Vm⟩,lK⟩:=ok;have h1:=Cz (B:=BA) ba.1 (U3 hf (M:=M) (AA 0x96220008c2200011 hs) (base:=b) (at_:=a) (m:=m) (AA 0x3e8320003e83200011 Vm) (AA 0x1022000102200011 vQ));have e0:C5 y= .tup [.str "payload",.int 0,.str b,.int a,.int m]::FP y m:=by simp only[C5,TR];rfl
  refine Ae e0 ?_;cases WY:getL FL y with
  |none=>rw[WY]at lK;cases lK
  |some fe=>
   rw[WY]at lK;cases fe with
   |other k ty sz o ab=>cases lK
   |G6 ty pr b' sz f=>
    simp only[Av,decide_eq_true_eq]at lK;obtain⟨rfl,v8⟩:=lK;cases hbt:getL EW y with
    |none=>
     rw[hbt]at v8;obtain⟨rfl,rfl⟩:=of_decide_eq_true v8;have e2:FP y m=[]:=by simp only[FP,hbt]
     refine Ae e2 ?_;rw[S1,P1 (by exact AA 0x2100112011 ok1),fa WY]at h1;exact h1
    |some md=>
     obtain⟨mask,down⟩:=md;rw[hbt]at v8;simp only[Av,decide_eq_true_eq]at v8;obtain⟨⟨ok6,ok7⟩,ok8⟩:=v8;obtain⟨w,rfl⟩:∃w:Nat,down=w:=⟨down.toNat,by exact E3 0x601a01006a91 (Aw (D1 0x10280102811 ok6))⟩
     rw[Int.toNat_natCast]at ok8;simp only[uM,Av,decide_eq_true_eq]at ok8;obtain⟨⟨⟨n1,n2⟩,n3⟩,n4⟩:=ok8;have zO:DZ FL E.Af M.kn M.pe b (8*(a:Int)) (8*(m:Int)) M.at_=none:=by(rw[DZ];refine Ae (KM ..) (Ae ok7 ?_));rfl
     rw[S1,P1 (by exact AA 0x2100112011 ok1),zO]at h1;simp only at h1;have h2:=Cz (E:=E) (B:=BA) ba.2.2.2.2.1 (YE (E:=E) (d:=0) (m:=m) (at_:=a) (mk:=CG mask m false) (tn:=CG 0 m false) (M:={M with sl:=some (.half b a (2^(8*m)-1) 0 M.at_ m),at_:=M.at_+1}) hf (by simp only[Ms.sz]at hs⊢;exact Df 0x962230312420100033308c22303124201000333011 hs) rfl (AA 0x1022000102200011 vQ) (AA 0x81240200) (AA 0x3e8320003e83200011 Vm)
      (HB _ _ _) (by refine Ae (Dl ..) ?_;exact AA 0x1022000102200011 vQ) (HB _ _ _) (by refine Ae (Dl ..) ?_;exact AA 0x1022000102200011 vQ) hE n2)
     rw[n1,n3]at h2;have lX:=Dt _ _ h1 h2;by_cases c:w=0
     .subst c;rw[if_pos rfl]at n4;rw[S1,gV n4,show({M with sl:=some (.half b a (2^(8*m)-1) 0 M.at_ m),at_:=M.at_+1}:Ms).kn=M.kn from rfl,show({M with sl:=some (.half b a (2^(8*m)-1) 0 M.at_ m),at_:=M.at_+1}:Ms).pe=M.pe from rfl,fa WY]at lX;have e2:FP y m=[.tup [.str "bitwise",.int 0,.int 0,.bytes (CG mask m false),.bytes (CG 0 m false)]]:=by simp only[FP,hbt];simp
      refine Ae e2 ?_;have e3:M.at_+1+1=M.at_+2:=by exact D1 0x2120131121120133a0
      simp only[CD,e3]at lX;exact lX
     .rw[if_neg c]at n4;simp only[Av,decide_eq_true_eq,Cw]at n4;obtain⟨⟨⟨⟨q1,q2⟩,q3⟩,q4⟩,q5⟩:=n4;rw[S1,y3 q1]at lX;simp only at lX;have hw:0<w:=by lia
      have hfit:fits (mask.fdiv (2^(0+w)))=true:=by
       have hp:(0:Int)<2^(0+w):=Ed (by decide);refine Ae (Cp _ (GP hp)) ?_;have g1:=Int.ediv_nonneg q4.1 (GP hp);have g2:=Int.ediv_le_self (2^(0+w)) q4.1;exact Ci (D1 0x1f424052780102811 g1) (MR 0xf424052118011181f42405201812 q4.2 g2)
      have h3:=Cz (E:=E) (B:=BA) ba.2.2.2.2.2.1 (Wi (E:=E) (d:=0) (m:=m) (at_:=a) (z:=m) (w:=w) (M:={M with sl:=some (.half b a mask 0 M.at_ m),at_:=M.at_+1+1}) hf (by simp only[Ms.sz]at hs⊢;exact Df 0x962230312420100033308c22303124201000333011 hs) rfl (AA 0x1022000102200011 vQ) q3 (AA 0x3e8320003e83200011 Vm) hfit);rw[q2,S1,gV q5,show({M with sl:=some (.half b a mask 0 M.at_ m),at_:=M.at_+1+1}:Ms).kn=M.kn from rfl,show({M with sl:=some (.half b a mask 0 M.at_ m),at_:=M.at_+1+1}:Ms).pe=M.pe from rfl,fa WY]at h3;have h4:=Dt _ _ lX h3;have e2:FP y m=[.tup [.str "bitwise",.int 0,.int 0,.bytes (CG mask m false),.bytes (CG 0 m false)],.tup [.str "shift",.int 0,.int 0,.int m,.str "right",.int w]]:=by
       simp only[FP,hbt];exact Ae (if_pos (AA 0x60290002111 hw)) rfl
      refine Ae e2 ?_;have e3:M.at_+1+1+1=M.at_+3:=by exact D1 0x31201311211211201333a0
      simp only[CD,e3]at h4;exact h4
end
theorem QcS(m:Nat):(2:Int)^(8*m)=256^m:=by refine Ae Int.pow_mul ?_;rfl
theorem Ti(e:Ex):JB (HR e):=by
 cases e with
 |fld x=>exact⟨_,_,rfl,by decide +kernel⟩
 |op t e n=>exact⟨_,_,rfl,by cases t<;>decide +kernel⟩
theorem gW(e:Ex):S3 (HR e):=by
 cases e with
 |fld x=>exact .inr ⟨_,_,rfl,by decide +kernel,by decide +kernel⟩
 |op t e n=>exact .inr ⟨_,_,rfl,by cases t<;>decide +kernel,by cases t<;>decide +kernel⟩
theorem uN{o h:Str}{bs:List Int}:Wj o h (.tup [.str "raw",.bytes bs])= .tup [.str "num",.int (Fw o h bs)]:=(show Wj o h (.tup [.str "raw",.bytes bs])=if Aa "raw"="raw" then .tup [.str "num",.int (Fw o h bs)]else .tup [.str "raw",.bytes bs]from rfl).trans (if_pos rfl)
theorem uO(o h:Str)(e:Ex):Wj o h (HR e)=HR e:=by
 cases e with
 |fld x=>rfl
 |op t e n=>cases e<;>rfl
section
variable{E:Env}(hf:TO E FL)(Bl:CE E.Af)(hE:E.order="little"\/E.order="big")
include hE
omit hE in
theorem uP:∀{E:Env}{M:Ms}{ev:AV}{o:Str}{m:Nat}{n:Int}{t:Tg}(hE:E.order="little"\/E.order="big")(hv:M.sl=some (.val ev o m))(hn:JB ev)(ho:o="host"\/o="big")(hm:1<=m/\m<=16)(hr:(t= .shl\/t= .shr)\/(1<=n/\n<256^m)),DT E BA M (gC E.order m o n t) {M with sl:=some (.val (.tup [.str (vT t),ev,.int n]) o m),at_:=M.at_+(gC E.order m o n t).length}:=by
 refine@(Hp nE We W2 A8 nN nI nTg ?_);generalize GE .. =y;generalize y.1=E,y.2.1=M,y.2.2.1=ev,y.2.2.2.1=o,y.2.2.2.2.1=m,y.2.2.2.2.2.1=n,y.2.2.2.2.2.2=t;intro hE hv hn ho hm hr;have bw:∀(mk tn:Int),0<=mk->mk<256^m->0<=tn->tn<256^m->(tn=0\/mk=256^m-1\/mk=256^m-1-tn)->
   DT E BA M [vU m (E7 o E.order) mk tn] {M with sl:=some (.val (Wh ev mk tn (256^m-1)) o m),at_:=M.at_+1}:=by
  intro mk tn h1 h2 h3 h4 h5;have e1:=KN ho hE h1 h2;have e2:=KN ho hE h3 h4;have:=Cz (E:=E) (B:=BA) ba.2.2.2.2.1 (aO (E:=E) (M:=M) (mk:=CG mk m (E7 o E.order)) (tn:=CG tn m (E7 o E.order)) hv hn hm.2 ho (HB _ _ _) (by rw[Dl];exact AA 0x1022000102200011 hm.2) (HB _ _ _) (by rw[Dl];exact AA 0x1022000102200011 hm.2) hE (by
   rw[e1,e2,xU h3 (by rw[QcS];exact h4),QcS];exact h5))
  rw[e1,e2,QcS]at this;exact this
 have sh:∀(M1:Ms)(o1:Str)(b:Bool),M1.sl=some (.val ev o1 m)->DT E BA M1 [U6 m (if b then Aa "left" else Aa "right") n] {M1 with sl:=some (.val (.tup [.str (if b then Aa "shl" else Aa "shr"),ev,.int n]) o1 m),at_:=M1.at_+1}:=λM1 o1 b h=>
  Cz (E:=E) (B:=BA) ba.2.2.2.2.2.1 (YF (E:=E) (M:=M1) (z:=m) (b:=b) (w:=n) h hn)
 have bo:∀(M1:Ms)(e1:AV)(o1:Str),M1.sl=some (.val e1 o1 m)->JB e1->DT E BA M1 [PW m] {M1 with sl:=some (.val e1 (if o1="big" then Aa "host" else Aa "big") m),at_:=M1.at_+1}:=λM1 e1 o1 h h'=>
  Cz (E:=E) (B:=BA) ba.2.2.2.2.2.2.1 (QN (E:=E) (M:=M1) (w:=m) h h')
 have shw:∀b:Bool,DT E BA M (if o="host" then[PW m,U6 m (if b then Aa "left" else Aa "right") n,PW m]else[U6 m (if b then Aa "left" else Aa "right") n])
   {M with sl:=some (.val (.tup [.str (if b then Aa "shl" else Aa "shr"),ev,.int n]) o m),at_:=M.at_+((if o="host" then[PW m,U6 m (if b then Aa "left" else Aa "right") n,PW m]else[U6 m (if b then Aa "left" else Aa "right") n]):List AV).length}:=by
  intro b;by_cases c:o=Aa "host"
  .simp only[if_pos c];have h1:=bo M ev o hv hn;rw[if_neg (by refine Ae c ?_;decide +kernel)]at h1;have h2:=sh _ _ b (show({M with sl:=some (.val ev (Aa "big") m),at_:=M.at_+1}:Ms).sl=some (.val ev (Aa "big") m)from rfl);have h3:=bo _ _ _ (show({M with sl:=some (.val (.tup [.str (if b then Aa "shl" else Aa "shr"),ev,.int n]) (Aa "big") m),at_:=M.at_+1+1}:Ms).sl=some (.val (.tup [.str (if b then Aa "shl" else Aa "shr"),ev,.int n]) (Aa "big") m)from rfl) ⟨_,_,rfl,by cases b<;>decide +kernel⟩;rw[if_pos rfl,<-c]at h3;have h4:=Dt _ _ (Dt _ _ h1 h2) h3;have e:M.at_+1+1+1=M.at_+3:=by exact D1 0x31201311211211201333a0
   simp only[e]at h4;exact h4
  .simp only[if_neg c];exact sh M o b hv
 have hp:(256:Int)<=256^m:=by
  obtain⟨k,rfl⟩:∃k,m=k+1:=⟨m-1,by exact AQ 0x11200310210112003291 (AE (AA 0x112000112011 hm.1))⟩
  have:(0:Int)<256^k:=Ed (by decide);refine Ae (GS ..) ?_;lia
 cases t with
 |shl=>exact shw true
 |shr=>exact shw false
 |mask=>
  obtain⟨r1,r2⟩:=hr.resolve_left (by simp);have:=bw n 0 (D1 0x102801112811 r1) r2 (B8 0x20280) (D1 0x10290110032811 hp) (.inl rfl);rw[Wh,if_pos rfl]at this;exact this
 |or=>
  obtain⟨r1,r2⟩:=hr.resolve_left (by simp);have:=bw (256^m-1-n) n (MR 0x111211550281101911 r2) (MR 0x11011121155901112811 r1) (D1 0x102801112811 r1) r2 (.inr (.inr rfl));rw[Wh,if_neg (by exact D1 0x201f01112811 r1),if_neg (by exact MR 0x112115011121155b01112811 r1)]at this;exact this
 |xor=>
  obtain⟨r1,r2⟩:=hr.resolve_left (by simp);have:=bw (256^m-1) n (D1 0x1120150280110032811 hp) (D1 0x111201590) (D1 0x102801112811 r1) r2 (.inr (.inl rfl));rw[Wh,if_neg (by exact D1 0x201f01112811 r1),if_pos rfl]at this;exact this
theorem kP{o:Str}{m:Nat}(ho:o="host"\/o="big")(hm:1<=m/\m<=16):∀(e:Ex){M:Ms},OU m e->M.sl=some (.val (Gp e.name) o m)->
  DT E BA M (Hc E.order m o e) {M with sl:=some (.val (HR e) o m),at_:=M.at_+(Hc E.order m o e).length}:=by
 intro e;induction e with
 |fld x=>
  intro M _ h;simp only[aY,YM,Ar];show M=_;refine Ae (show M.at_+((0:Nat):Int)=M.at_ by exact D1 0x1026013a0) ?_;cases M;simp only at h;refine Ae h ?_;rfl
 |op t e n ih=>
  intro M HL h;have h1:=ih HL.1 h;have h2:=uP hE (M:={M with sl:=some (.val (HR e) o m),at_:=M.at_+(Hc E.order m o e).length}) (n:=n) (t:=t) rfl (Ti e) ho hm HL.2;have h3:=Dt _ _ h1 h2;simp only[aY,YM,Ah];have e1:M.at_+((Hc E.order m o e).length:Int)+((gC E.order m o n t).length:Int)=M.at_+(((Hc E.order m o e).length+(gC E.order m o n t).length:Nat):Int):=by exact Xd 0x1000360131060060133a0
  simp only[e1]at h3;exact h3
include hf Bl
omit hf Bl hE in
theorem kQ:∀{E:Env}{x:Str}{s:Src}{M:Ms}{K K2:List (Str×Int)}{A U:List Nn}{sp:Nat}(hf:TO E FL)(Bl:CE E.Af)(hE:E.order="little"\/E.order="big")(hx:x∈Ck E.Af)(hs:kI E.Af x s)(hz:M.sz<=140)(cB:M.pe=BF A M.at_)(hL:∀y,AY E.Af s=AC E.Af y->(∃e m,s= .map e m/\y=e.name)\/(∃e,s= .val e/\y=e.name)->Ld E.Af y K K2 M.kn [] A M.at_ U sp)(hn:(∃n,s= .num n)->sp=M.pe.length),∃ev o z,DT E BA M (zS E.order x s) {CD M sp with sl:=some (.val ev o z),at_:=M.at_+(zS E.order x s).length}/\S3 ev/\Wj (Cc CF x).order E.order ev=Jl s:=by
 refine@(Xe nE A8 Wo We nL nL nL nL nN ?_);generalize Ql .. =v;generalize v.1=E,v.2.1=x,v.2.2.1=s,v.2.2.2.1=M,v.2.2.2.2.1=K,v.2.2.2.2.2.1=K2,v.2.2.2.2.2.2.1=A,v.2.2.2.2.2.2.2.1=U,v.2.2.2.2.2.2.2.2=sp;intro hf Bl hE hx hs hz cB hL hn;have cA:=Vb Bl hx;have ld:∀e:Ex,e.name∈Ck E.Af->Ld E.Af e.name K K2 M.kn [] A M.at_ U sp->OU (Cc CF e.name).size e->
   DT E BA M (C5 e.name++Hc E.order (Cc CF e.name).size (Cc CF e.name).order e) {CD M sp with sl:=some (.val (HR e) (Cc CF e.name).order (Cc CF e.name).size),at_:=M.at_+(C5 e.name++Hc E.order (Cc CF e.name).size (Cc CF e.name).order e).length}:=by
  intro e he hl HL;have hoy:=Vb Bl he;have h1:=bI hf Bl hE he hz cB hl;have h2:=kP hE hoy.ord ⟨hoy.s1,hoy.s2⟩ e (M:={CD M sp with sl:=some (.val (Gp e.name) (Cc CF e.name).order (Cc CF e.name).size),at_:=M.at_+(C5 e.name).length}) HL rfl;have h3:=Dt _ _ h1 h2;simp only[Ah];have e1:∀a b:Nat,M.at_+(a:Int)+(b:Int)=M.at_+((a+b:Nat):Int):=λa b=>by exact Xd 0x1000360131060060133a0
  simp only[e1]at h3;exact h3
 cases s with
 |num n=>
  obtain⟨h0,h1⟩:=hs;have e0:=KN cA.ord hE h0 h1;refine⟨.tup [.str "raw",.bytes (CG n (Cc CF x).size (E7 (Cc CF x).order E.order))],"big",(CG n (Cc CF x).size (E7 (Cc CF x).order E.order)).length,?_,.inl ⟨CG n (Cc CF x).size (E7 (Cc CF x).order E.order),rfl,HB _ _ _,by refine Ae (Dl ..) ?_;exact cA.s2⟩,?_⟩
  .refine Ae (hn ⟨n,rfl⟩) (Ae (KO ..) ?_);exact Cz (E:=E) (B:=BA) ba.2.2.2.1 (YD (E:=E) (M:=M) (bs:=CG n (Cc CF x).size (E7 (Cc CF x).order E.order)) (by refine Ae (Dl ..) ?_;have:=cA.s2;exact AA 0x3e832000102200011 this))
  .refine Ae uN ?_;rw[show CB CF x=(Cc CF x).size from rfl]at e0;exact Ae e0 rfl
 |map e m=>
  obtain⟨he,hd⟩:=hs;have HL:OU (Cc CF e.name).size e:=by
   cases e with
   |fld y=>trivial
   |op t e n=>simp[j0,j4]at hd
  have h1:=ld e he (hL e.name rfl (.inl ⟨e,m,rfl,rfl⟩)) HL;have h2:=Cz (E:=E) (B:=BA) ba.2.2.2.2.2.2.2.2.1 (Qd0 (E:=E) (M:={CD M sp with sl:=some (.val (HR e) (Cc CF e.name).order (Cc CF e.name).size),at_:=M.at_+(C5 e.name++Hc E.order (Cc CF e.name).size (Cc CF e.name).order e).length}) (name:=m) (y:=(Cc CF e.name).order) (w:=(Cc CF e.name).size) (z2:=(Cc CF x).size) (o2:=(Cc CF x).order) hf rfl (Ti e));have h3:=Dt _ _ h1 h2;refine⟨.tup [.str "map",HR e,.tup [.str "ref",.str m]],(Cc CF x).order,(Cc CF x).size,?_,.inr ⟨_,_,rfl,by decide +kernel,by decide +kernel⟩,by cases e<;>rfl⟩
  .have e1:M.at_+((C5 e.name++Hc E.order (Cc CF e.name).size (Cc CF e.name).order e).length:Int)+1=M.at_+((zS E.order x (.map e m)).length:Int):=by
    simp only[zS,Ah,Al,Ar];exact Xd 0x11202310003360131121000360133a0
   simp only[e1]at h3;exact h3
 |val e=>
  obtain⟨he,JM,HL,hd⟩:=hs;rw[<-JM]at HL;have h1:=ld e he (hL e.name rfl (.inr ⟨e,rfl,rfl⟩)) HL;by_cases c:(Cc CF e.name).order=(Cc CF x).order
  .refine⟨HR e,(Cc CF e.name).order,(Cc CF e.name).size,?_,gW e,uO _ _ _⟩
   .have e0:zS E.order x (.val e)=C5 e.name++Hc E.order (Cc CF e.name).size (Cc CF e.name).order e:=by simp only[zS,if_pos c,A7]
    refine Ae e0 ?_;exact h1
  .have h2:=Cz (E:=E) (B:=BA) ba.2.2.2.2.2.2.1 (QN (E:=E) (M:={CD M sp with sl:=some (.val (HR e) (Cc CF e.name).order (Cc CF e.name).size),at_:=M.at_+(C5 e.name++Hc E.order (Cc CF e.name).size (Cc CF e.name).order e).length}) (w:=(Cc CF x).size) rfl (Ti e));have h3:=Dt _ _ h1 h2;refine⟨HR e,if(Cc CF e.name).order="big" then Aa "host" else Aa "big",(Cc CF e.name).size,?_,gW e,uO _ _ _⟩
   .have e0:zS E.order x (.val e)=C5 e.name++Hc E.order (Cc CF e.name).size (Cc CF e.name).order e++[PW (Cc CF x).size]:=by simp only[zS,if_neg c]
    have e1:M.at_+((C5 e.name++Hc E.order (Cc CF e.name).size (Cc CF e.name).order e).length:Int)+1=M.at_+((zS E.order x (.val e)).length:Int):=by
     refine Ae e0 ?_;simp only[Ah,Al,Ar];exact Xd 0x11202310003360131121000360133a0
    simp only[e1]at h3;rw[show([AV.tup [AV.str (Aa "byteorder"),AV.int 0,AV.int 0,AV.int (Cc CF x).size]]:List AV)=[PW (Cc CF x).size]from rfl,<-e0]at h3;exact h3
end
section
variable{β:Type}
theorem kR(l:List (Str×β))(x:Str)(v:β):(GF l x v).map Bk=if x∈l.map Bk then l.map Bk else l.map Bk++[x]:=by
 induction l with
 |nil=>rfl
 |cons p r ih=>
  obtain⟨y,w⟩:=p;simp only[PO,PQ];by_cases c:y=x
  .subst c;simp
  .refine Ae (if_neg c) ?_;simp only[AW,ih,Au];by_cases q:x∈r.map Bk
   .exact Ae (if_pos q) (Ae (if_pos (.inr q)) rfl)
   .refine Ae (if_neg q) (Ae (if_neg (by rintro(h|h);exact c h.symm;exact q h)) ?_);rfl
theorem WH{l:List (Str×β)}(h:(l.map Bk).Nodup)(x:Str)(v:β):((GF l x v).map Bk).Nodup:=by
 refine Ae (kR ..) ?_;split
 .exact h
 .rename_i q;exact Jp.mpr ⟨h,by simp,λa ha b hb=>by rintro rfl;rw[Ai.mp hb]at ha;exact q ha⟩
theorem Y3(l:List (Str×β))(x:Str):((MV l x).map Bk).Sublist (l.map Bk):=by
 induction l with
 |nil=>exact .slnil
 |cons p r ih=>
  obtain⟨y,w⟩:=p;simp only[NV,NW];split
  .exact .cons _ (.refl _)
  .exact .cons_cons _ ih
theorem MM{l:List (Str×β)}(h:(l.map Bk).Nodup)(x y:Str):getL (MV l x) y=if x=y then none else getL l y:=by
 induction l with
 |nil=>simp[NV,NW,FC,Ef]
 |cons p r ih=>
  obtain⟨z,w⟩:=p;simp only[AW,CY]at h;simp only[NV,NW];by_cases c:z=x
  .subst c;refine Ae (if_pos rfl) ?_;by_cases q:z=y
   .subst q;refine Ae (if_pos rfl) ?_;exact U0 r z h.1
   .exact Ae (if_neg q) (Ae Ef (Ae (if_neg q) rfl))
  .refine Ae (if_neg c) (Ae Ef (Ae Ef (Ae (ih h.2) ?_)));by_cases q:z=y
   .subst q;exact Ae (if_pos rfl) (Ae (if_neg (BV c)) (Ae (if_pos rfl) rfl))
   .exact Ae (if_neg q) (Ae (if_neg q) rfl)
end
theorem y4:∀(A:List Nn){K:List (Str×Int)},(K.map Bk).Nodup->((BQ K A).map Bk).Nodup:=by
 intro A;induction A with
 |nil=>intro K h;exact h
 |cons a r ih=>intro K h;exact ih (WH h _ _)
theorem uQ{k:Kn}(h:(k.map Bk).Nodup)(x:Str)(v a:Int):((Fv k x v a).map Bk).Nodup:=by
 simp only[Fv];split
 .split
  .exact WH h _ _
  .exact h
 .exact WH h _ _
theorem kS:∀(D:List Nd){k:Kn},(k.map Bk).Nodup->((Bc k D).map Bk).Nodup:=by
 intro D;induction D with
 |nil=>intro k h;exact h
 |cons d r ih=>intro k h;exact ih (uQ h _ _ _)
theorem bJ:∀(D:List Nd){k:Kn}{x:Str}{p:Int×Int},getL (Bc k D) x=some p->(∃d∈D,p.1=d.2.2)\/getL k x=some p:=by
 intro D;induction D with
 |nil=>intro k x p h;exact .inr h
 |cons d r ih=>
  intro k x p h;rcases ih (k:=Fv k d.1 d.2.1 d.2.2) h with⟨d',h1,h2⟩|h9
  .exact .inl ⟨d',.tail _ h1,h2⟩
  .rw[JW]at h9;by_cases c:d.1=x
   .rw[if_pos c]at h9;subst c;cases e:getL k d.1 with
    |none=>rw[e]at h9;simp only[Cx]at h9;exact .inl ⟨d,.head _,by exact CV h9 rfl⟩
    |some q=>
     rw[e]at h9;simp only[Cx]at h9;split at h9
     .exact .inl ⟨d,.head _,by exact CV h9 rfl⟩
     .exact .inr (by exact Ae h9 rfl)
   .rw[if_neg c]at h9;exact .inr h9
theorem Tn(k:Kn)(a b:List Nd):Bc k (a++b)=Bc (Bc k a) b:=by simp[Bc]
theorem y6{k:Kn}{K:List (Str×Int)}(h:∀n,EK k n=true↔kn K n=true)(x:Str):(getL k x).map CC=getL K x:=by
 cases e:getL k x with
 |none=>
  cases e2:getL K x with
  |none=>rfl
  |some v=>
   obtain⟨a,ha⟩:=(JY k (x,v)).mp ((h (x,v)).mpr (decide_eq_true e2));rw[e]at ha;cases ha
 |some p=>
  have:=of_decide_eq_true ((h (x,p.2)).mp ((JY k (x,p.2)).mpr ⟨p.1,e⟩));refine Ae this ?_;rfl
noncomputable def Zv(Af:Str):List Nn:=if Af="ip" then ND.filter (λn=>decide (n≠bH))else ND
theorem QcT:[Aa "bridge",Aa "inet",Aa "ip"].all (λAf=>(Ck Af).all (λy=>(AC Af y).all λn=>decide (n∈Zv Af))&&(DJ Af).all (λn=>decide (n∈Zv Af))&&(Zv Af).all (λn=>decide (n∈ND))&& !decide (l58∈Zv Af)&& !decide (bH∈Zv "ip"))=true:=by decide +kernel
theorem ndf{Af:Str}(Bl:CE Af):(∀y∈Ck Af,∀n∈AC Af y,n∈Zv Af)/\(∀n∈DJ Af,n∈Zv Af)/\(∀n∈Zv Af,n∈ND)/\l58∉Zv Af/\bH∉Zv "ip":=by
 have h:=Az.mp QcT Af (by rcases Bl with rfl|rfl|rfl<;>simp);simp only[Av,Az,decide_eq_true_eq,Cw,decide_eq_false_iff_not]at h;exact⟨h.1.1.1.1,h.1.1.1.2,h.1.1.2,h.1.2,h.2⟩
noncomputable def y7(x:Str):Bool:=match Cc CF x with
 | .Eo k _ dir _ _=>decide (dir=Aa "")&&(decide (k=Aa "meta")||decide (k=Aa "ct"))
 | .G6 _ _ _=>decide (getL EW x=none)&&decide (getL FL x≠none)
theorem QcU:[Aa "bridge",Aa "inet",Aa "ip"].all (λAf=>(Eh Af++[Aa "icmp checksum",Aa "tcp dport",Aa "udp dport"]).all λx=>y7 x&&decide (x∈Ck Af))=true:=by decide +kernel
theorem gX{Af x:Str}(Bl:CE Af)(h:tgN Af x):y7 x=true/\x∈Ck Af:=by
 have h1:=Az.mp (Az.mp QcU Af (by rcases Bl with rfl|rfl|rfl<;>simp)) x (An.mpr h);simpa using h1
structure Bd(Af:Str)(M:Ms)(K:List (Str×Int))(n:Nat):Prop where
 pe:M.pe=[]
 eq:∀x,(getL M.kn x).map CC=getL K x
 kp:∀x p,getL M.kn x=some p->p.1<M.at_
 st:∀p∈M.st,p.1<M.at_
 w:M.kn.length+M.st.length+M.dr.length<=15*n
 ndk:(M.kn.map Bk).Nodup
 ndK:(K.map Bk).Nodup
 kin:∀n,kn K n=true->n∈Zv Af
theorem Bd.rk{Af:Str}{M:Ms}{K:List (Str×Int)}{n:Nat}{U:List Nn}(h:Bd Af M K n)(hU:Cons U):∀A' a',(∀n∈A',n∈U)->a'-2*(A'.length:Int)=M.at_->Rk K M.kn [] A' a' U:=by
 intro A' a' h1 h2;refine⟨h.eq,λd hd p hp=> .inl ?_,hU,λn hn=>(nomatch hn),h1⟩;have:=O0 A' (a'+1-2*A'.length) d (by simpa[BF]using hd);have:=h.kp _ _ hp;lia
theorem QcV{Af:Str}(Bl:CE Af){K:List (Str×Int)}(h:∀n,kn K n=true->n∈Zv Af):kn K l58=false/\(Af="ip"->kn K bH=false):=by
 obtain⟨_,_,_,h4,h5⟩:=ndf Bl;refine⟨?_,λe=>?_⟩
 .refine CV (EB ..) ?_;exactλq=>h4 (h _ q)
 .refine CV (EB ..) ?_;intro q;have:=h _ q;rw[e]at this;exact h5 this
theorem bK{B:List Nn}{f a:Int}:HQ B f=BF B (match (HQ B f).getLast? with|some n=>n.2.2+1|none=>a):=by
 rcases LC B with rfl|⟨C,n,rfl⟩
 .rfl
 .simp only[List.concat_eq_append,BF,Y0,MW,MX,List.getLast?_append,Ah,Al,Ar];simp only[List.getLast?_singleton,Option.some_or];congr 2
  .exact E3 0x11202300362124112112006212401333501a0
  .congr 2;congr 1;exact E3 0x11202300362124112112006212401333501a0
section
variable{E:Env}(hf:TO E FL)(Bl:CE E.Af)(hE:E.order="little"\/E.order="big")
include hf Bl hE
omit hf Bl hE in
theorem kT:∀{E:Env}{x:Str}{M:Ms}{ev:AV}{o:Str}{z:Int}{t:Nat}(hf:TO E FL)(Bl:CE E.Af)(hE:E.order="little"\/E.order="big")(hx:tgN E.Af x)(hz:M.sz<=140)(hv:M.sl=some (.val ev o z))(HL:S3 ev)(Zs:∀{ty pr b:Str}{sz f:Int},getL FL x=some (.G6 ty pr b sz f)->DZ FL E.Af M.kn M.pe b f sz (IK M)=some (x,t))(hnp:AC E.Af x=[]->t=M.pe.length),DT E BA M [N2 (Cc CF x)] {ON E.order (CD M t) x (Cc CF x).order ev with at_:=M.at_+1}:=by
 refine@(Hp nE A8 We W2 A8 nI nN ?_);generalize GE .. =y;generalize y.1=E,y.2.1=x,y.2.2.1=M,y.2.2.2.1=ev,y.2.2.2.2.1=o,y.2.2.2.2.2.1=z,y.2.2.2.2.2.2=t;intro hf Bl hE hx hz hv HL Zs hnp;obtain⟨htg,hnm⟩:=gX Bl hx;have cA:=Vb Bl hnm;have ok:=Qbw Bl hnm;simp only[yZ]at ok;simp only[y7]at htg;have hord:=cA.ord;cases TR:Cc CF x with
 |Eo k key dir sz od=>
  simp only[TR,Av,decide_eq_true_eq]at ok;rw[TR]at hord;simp only[TR,Av,decide_eq_true_eq,BX]at htg;obtain⟨⟨ok1,_⟩,Vm⟩:=ok;refine Ae (hnp ok1) (Ae (KO ..) ?_);by_cases c:k=Aa "meta"
  .rw[if_pos c,Av,decide_eq_true_eq,decide_eq_true_eq]at Vm;have h1:=Cz (E:=E) (B:=BA) ba.2.2.2.2.2.2.2.2.2.2.2.2.2.2.1 (aP (E:=E) (M:=M) (key:=key) (order:=od) (w:=sz) (AA 0x96220008c2200011 hz) Vm.2 hv HL hord hE);rw[<-Vm.1]at h1;subst c;simp only[N2,Te.order];exact h1
  .rw[if_neg c,decide_eq_true_eq]at Vm;have c2:=htg.2.resolve_left c;rw[htg.1]at Vm;have h1:=Cz (E:=E) (B:=BA) ba.2.2.2.2.2.2.2.2.2.2.2.2.2.2.2 (tB (E:=E) (M:=M) (key:=key) (order:=od) (w:=sz) hf (AA 0x96220008c2200011 hz) Vm hv HL hord hE);subst c2;simp only[N2,Te.order];exact h1
 |G6 b a m=>
  simp only[TR,Av,decide_eq_true_eq]at ok;simp only[TR,Av,decide_eq_true_eq]at htg;obtain⟨⟨ok1,vQ,Vm⟩,lK⟩:=ok;cases WY:getL FL x with
  |none=>exact absurd WY htg.2
  |some fe=>
   rw[WY]at lK;cases fe with
   |other k ty sz o ab=>cases lK
   |G6 ty pr b' sz f=>
    simp only[Av,decide_eq_true_eq]at lK;obtain⟨rfl,v8⟩:=lK;rw[htg.1]at v8;obtain⟨rfl,rfl⟩:=of_decide_eq_true v8;simp only[N2,Te.order];exact Cz (E:=E) (B:=BA) ba.2.2.2.2.2.2.2.2.2.2.2.2.2.1 (T4 (E:=E) (M:=M) (base:=b) (at_:=a) (m:=m) (s:=t) hf (AA 0x96220008c2200011 hz) (AA 0x3e8320003e83200011 Vm) (AA 0x1022000102200011 vQ) (Zs WY) hv HL hE)
end
theorem uR:∀{NT NS:List Nn}{m:Option Nn}(h:U9 NT NS m=true),∃s t,QcJ (Lk NT NS m) NS=some s/\QcK (Lk NT NS m) NT s=some t/\((Lk NT NS m).take s).take t=(if(OX NT NS).head?=m then[]else tL m):=by
 refine@(TN nL nL nO ?_);generalize W1 .. =c;generalize c.1=NT,c.2.1=NS,c.2.2=m;intro h;unfold U9 at h
 set_option tactic.hygienic true in split at h
 .cases h
 .rename_i s hs
  set_option tactic.hygienic true in split at h
  .cases h
  .rename_i t ht;rw[Av,decide_eq_true_eq]at h;exact⟨s,t,hs,ht,h.1⟩
theorem To{Af:Str}{M:Ms}{K:List (Str×Int)}{n:Nat}(h:Bd Af M K n){DD:List Nd}{A:List Nn}{b:Int}(hm:∀q,q∈MK DD↔q∈A)(hc:Cons A)(hp:∀d∈DD,M.at_<=d.2.2/\d.2.2<b)(hb:M.at_<=b)(hA:∀q∈A,q∈Zv Af):
  (∀x,(getL (Bc M.kn DD) x).map CC=getL (BQ K A) x)/\(∀x p,getL (Bc M.kn DD) x=some p->p.1<b)/\((Bc M.kn DD).map Bk).Nodup/\((BQ K A).map Bk).Nodup/\(∀q,kn (BQ K A) q=true->q∈Zv Af):=by
 have hk:∀q,EK M.kn q=true↔kn K q=true:=λq=>by
  rw[(h.rk (U:=[]) (λy h=>(nomatch h)) [] M.at_ (λy h=>(nomatch h)) (by simp)).kw]
 refine⟨y6 λq=>?_,λx p hx=>?_,kS _ h.ndk,y4 _ h.ndK,λq hq=>?_⟩
 .have vX:Fr M.kn DD:=λd hd p hp'=> .inl (by have:=h.kp _ _ hp';have:=(hp d hd).1;lia);rw[QR q DD M.kn vX (hc.sub λa ha=>(hm a).mp ha),WF q A K hc,hm q,hk q];have:(∀d∈DD,d.1≠q.1)↔∀b∈A,b.1≠q.1:=by
   constructor
   .intro f b vW;obtain⟨d,hd,rfl⟩:=D9.mp ((hm b).mpr vW);exact f d hd
   .intro f d hd;exact f (d.1,d.2.1) ((hm _).mp (Cu (f:=λd:Nd=>(d.1,d.2.1)) hd))
  rw[this]
 .rcases bJ DD hx with⟨d,hd,e⟩|e
  .have:=(hp d hd).2;exact wF 0x210192111911101a12 e this
  .have:=h.kp _ _ e;exact wF 0x112190121911101812 hb this
 .rw[WF q A K hc]at hq;rcases hq with hq|⟨_,hq⟩
  .exact hA q hq
  .exact h.kin q hq
theorem Vg(Af y:Str):(AC Af y).length<=2:=Ky _ _
theorem gY(K:List (Str×Int))(N:List Nn):(Ff K N).length<=N.length:=Bm _ _
theorem uS(Af:Str)(s:Src):(AY Af s).length<=2:=by
 rcases KJ Af s with e|⟨y,e⟩<;>refine Ae e ?_
 .simp
 .exact Vg _ _
theorem N6(L:List (Int×AV))(m:Option Nn)(f:Int)(h:∀p∈L,p.1<=f):Cd L (HQ (tL m) f)=L++(tL m).map λn=>(f,D5 n.1 n.2):=by
 cases m with
 |none=>simp[Cd,tL,MW,MX]
 |some n=>simp only[Cd,tL,FY,MW,MX,Bu,Fc,AW,Ct];exact IH _ _ _ h
theorem uT{Af:Str}{K:List (Str×Int)}{m:Option Nn}{x:Str}{s:Src}:bF Af K ((tL m).map .FM++[.set x s])=(if(ww Af x s K).head?=m then[]else tL m).map .FM++[.set x s]:=by
 cases m with
 |none=>simp[tL,WC,WD,gN,gO]
 |some n=>
  simp only[tL,FY,AW,Ct,AM,AP,WC,WD,gN,gO];split<;>rfl
section
variable{E:Env}(hf:TO E FL)(Bl:CE E.Af)(hE:E.order="little"\/E.order="big")
include hf Bl hE
omit hf Bl hE in
theorem kU:∀{E:Env}{M:Ms}{K:List (Str×Int)}{n:Nat}{m:Option Nn}{x:Str}{s:Src}(hf:TO E FL)(Bl:CE E.Af)(hE:E.order="little"\/E.order="big")(hb:Bd E.Af M K n)(hn:n<=4)(hm:∀q,m=some q->q∈DJ E.Af)(hs:Sta E.Af K m x s),∃M',DT E BA M (gR E.Af E.order K ((tL m).map .FM++[.set x s])) M'/\Bd E.Af M' (gK E.Af E.order K ((tL m).map .FM++[.set x s])) (n+1)/\M'.st.map CC=M.st.map CC++(bF E.Af K ((tL m).map .FM++[.set x s])).map Cj:=by
 refine@(Hp nE We nL nN nO A8 Wo ?_);generalize GE .. =u;generalize u.1=E,u.2.1=M,u.2.2.1=K,u.2.2.2.1=n,u.2.2.2.2.1=m,u.2.2.2.2.2.1=x,u.2.2.2.2.2.2=s;intro hf Bl hE hb hn hm hs;obtain⟨nd1,nd2,nd3,nd4,nd5⟩:=ndf Bl;obtain⟨htg,hxn⟩:=gX Bl hs.tx;obtain⟨f1,f2,_⟩:=CR E.Af E.order K ((tL m).map .FM) [.set x s];obtain⟨q1,q2,_⟩:=Vc E.Af E.order K m;obtain⟨o1,o2,_⟩:=QQ E.Af E.order (BQ K (tL m)) x s;rw[hs.sr]at o1;rw[hs.xr,hs.sr]at o2;rw[q1,q2,o1,<-Ao,<-PY]at f1;rw[q2,o2,k2,<-IQ]at f2;have hAP:tL m++ww E.Af x s (BQ K (tL m))=Lk (Ff K (AC E.Af x)) (Ff K (AY E.Af s)) m:=Qee hs.cons;refine Ae f1 (Ae f2 (Ae uT ?_));have MT:k2 E.Af x s (BQ K (tL m))=BQ K (tL m++ww E.Af x s (BQ K (tL m))):=by rw[k2,IQ]
 have hxk:Bz E.Af x (BQ K (tL m++ww E.Af x s (BQ K (tL m))))=x:=by
  have:=hs.xr
  rwa [xR,hs.sr,MT]at this
 have hyk:∀y,AY E.Af s=AC E.Af y->((∃e k,s= .map e k/\y=e.name)\/∃e,s= .val e/\y=e.name)->y=KG->Bz E.Af KG (BQ K (tL m++ww E.Af x s (BQ K (tL m))))=KG:=by
  intro y h1 h2 h3;have e1:Bz E.Af y (k1 E.Af x (BQ K (tL m)))=y:=by
   have:=hs.sr;rcases h2 with⟨e,k,rfl,rfl⟩|⟨e,rfl,rfl⟩
   .simp only[sR,Src.La]at this;exact RC (gP this)
   .simp only[sR,Src.La]at this;exact RC (gQ this)
  have e2:BQ K (tL m++ww E.Af x s (BQ K (tL m)))=k1 E.Af x (BQ K (tL m)):=by
   (refine Ae (IQ ..) ?_;rw[ww];refine Ae h1 (Ae h3 (Ae (IR ..) ?_));rw[k1,show∀K,Ff K []=[]fromλg=>rfl];exact Ae (A7 ..) rfl)
  refine Ae e2 (CV h3 ?_);exact e1
 obtain⟨sp,t,hsp,ht,vE⟩:=uR (gS E.Af x s K λq e=>MJ E.Af q (hm q e));have hW:OX (Ff K (AC E.Af x)) (Ff K (AY E.Af s))=ww E.Af x s K:=(QcN (hs.cons.sub λa ha=>by refine Ae (Ao ..) ?_;exact AG _ ha)).symm;rw[hW]at vE;rw[<-hAP]at hsp ht vE;have hU:=hs.cons;have v9:∀q∈tL m++ww E.Af x s (BQ K (tL m)),q∈tL m++AC E.Af x++AY E.Af s:=by
  intro q hq;rcases An.mp hq with h|h
  .exact AD _ (AD _ h)
  .rcases An.mp h with h|h
   .exact AD _ (AG _ (FZ h))
   .exact AG _ (FZ h)
 have hUN:∀q∈tL m++AC E.Af x++AY E.Af s,q∈Zv E.Af:=by
  intro q hq;rcases An.mp hq with h|h
  .rcases An.mp h with h|h
   .cases Zm:m with
    |none=>rw[Zm]at h;cases h
    |some r=>rw[Zm]at h;refine Ae (Ai.mp h) ?_;exact nd2 r (hm r Zm)
   .exact nd1 x hxn q h
  .cases s with
   |num v=>cases h
   |map e k=>exact nd1 e.name hs.sf.1 q h
   |val e=>exact nd1 e.name hs.sf.1 q h
 have hAl:(tL m++ww E.Af x s (BQ K (tL m))).length<=5:=by
  have h1:=gY (BQ K (tL m)) (AC E.Af x);have h2:=gY (k1 E.Af x (BQ K (tL m))) (AY E.Af s);have h3:=Vg E.Af x;have h4:=uS E.Af s;have h5:(tL m).length<=1:=by cases m<;>simp[tL]
  simp only[Ah,ww];exact RL 0x5122000340301124001212300121210013020011000015 h1 h2 h3 h4 h5
 have hUk:∀q∈tL m++AC E.Af x++AY E.Af s,kn (BQ K (tL m++ww E.Af x s (BQ K (tL m)))) q=true:=by
  intro q hq;refine Ae (N5 q _ K λa ha e=>hU a (v9 a ha) q hq e) ?_;by_cases c:kn K q=true
  .exact Ae c (Ae (Fp ..) rfl)
  .refine Ae (BX ..) (Ae decide_eq_true_eq ?_);left
   (refine Ae hAP ?_;rw[Lk])
   have inu:∀N:List Nn,q∈N->q∈Ff K N:=λN h=>BL.mpr ⟨h,by simpa using c⟩;rcases An.mp hq with h|h
   .rcases An.mp h with h|h
    .exact AD _ (AD _ h)
    .by_cases c2:q∈tL m
     .exact AD _ (AD _ c2)
     .exact AD _ (AG _ (BL.mpr ⟨inu _ h,by simpa using c2⟩))
   .by_cases c2:q∈tL m++gG (Ff K (AC E.Af x)) m
    .exact AD _ c2
    .exact AG _ (BL.mpr ⟨inu _ h,by simpa using c2⟩)
 generalize tL m++ww E.Af x s (BQ K (tL m))=A at hsp ht vE v9 hAl hUk hxk hyk⊢;have hcA:Cons A:=hU.sub v9;have hrk:=hb.rk hU;have JM:M.sz<=60:=by have:=hb.w;simp only[Ms.sz,hb.pe,Ar];lia
 obtain⟨sl,c1⟩:=Th hf Bl hE (K:=K) (U:=tL m++AC E.Af x++AY E.Af s) A (M:=M) (A0:=[]) (λq h=>nd3 q (hUN q (v9 q h))) (AQ 0x8c2200312410303c22100151200032 hAl JM) (by refine Ae hb.pe ?_;rfl)
  (λA' a' h1 h2=>hrk A' a' h1 (by simp only[Ar]at h2;exact Xc 0x110062124015a02621241150062124015a11 h2)) (λq h=>v9 q (by simpa using h))
 simp only[AP]at c1;have rk1:=hrk A (M.at_+2*A.length) v9 (E3 0x1006212400621240135a0);have k58:=To hb (DD:=BF A (M.at_+2*A.length)) (A:=A) (b:=M.at_+2*A.length) (λq=>by rw[BF,JZ]) hcA (λd hd=>by
  have h1:=O0 A (M.at_+2*A.length+1-2*A.length) d hd;have h2:=RD A (M.at_+2*A.length+1-2*A.length) d hd;exact⟨by exact Xc 0x11018110062124112006212401335811 h1,by exact Xc 0x62124113019006212400621241120062124113353212013811 h2⟩) (E3 0x621240130180) (λq h=>hUN q (v9 q h))
 obtain⟨h58,vJ⟩:=QcV Bl k58.2.2.2.2;have hkA:∀q,kn (BQ K A) q=true↔q∈A\/((∀b∈A,b.1≠q.1)/\kn K q=true):=λq=>WF q A K hcA;have hspl:sp<=A.length:=by have:=(L8 _ _ _ _ hsp).2.1;exact AQ 0x1000011210302300111 this
 have spl1:∀N,(∀q∈N,q∈tL m++AC E.Af x++AY E.Af s)->Ff K N=Ff K (AY E.Af s)->splitAt (Bc M.kn []) (BF A (M.at_+2*A.length)) N (M.at_+2*A.length)=some sp:=by
  intro N h1 h2
  (refine Ae (rk1.split h1) (CV hsp ?_);rw[QcJ];refine Ae h2 ?_)
  rfl
 obtain⟨ev,o,z,c2,HL,hse⟩:=kQ hf Bl hE (x:=x) (s:=s) hxn hs.sf (M:={M with sl:=sl,pe:=BF A (M.at_+2*A.length),at_:=M.at_+2*A.length}) (K:=K) (K2:=BQ K A) (A:=A) (U:=tL m++AC E.Af x++AY E.Af s) (sp:=sp)
  (by
    have:(BF A (M.at_+2*A.length)).length=A.length:=by(rw[BF];exact Ae (DS ..) rfl)
    have h4:=hb.pe;simp only[Ms.sz,h4,Ar]at JM⊢;exact RL 0x8c2210312440302033303c220231244030203330100102351200033 hAl this JM) rfl
  (λy h1 h2=>⟨rk1,spl1 _ (λq h=>AG _ (by refine Ae h1 ?_;exact h)) (by exact Ae h1 rfl),λq=>by simpa[MK]using hkA q,λq h=>hUk q (AG _ (by rw[h1];exact h)),h58,vJ,λh=>hyk y h1 h2 h⟩)
  (by
   rintro⟨v,rfl⟩;have h1:=spl1 [] (λi h=>(nomatch h)) rfl;have h2:=rk1.Kd;rw[h2]at h1;rw[show(BF A (M.at_+2*A.length)).length=A.length by rw[BF,DS]];exact(BB h1).symm)
 have c12:=Dt _ _ c1 c2;generalize hM2:({CD {M with sl:=sl,pe:=BF A (M.at_+2*A.length),at_:=M.at_+2*A.length} sp with sl:=some (.val ev o z),at_:=M.at_+2*(A.length:Int)+((zS E.order x s).length:Int)}:Ms)=M2 at c12;have Ui:M2.at_=M.at_+2*(A.length:Int)+((zS E.order x s).length:Int):=by exact CV hM2 rfl
 have hsl2:M2.sl=some (.val ev o z):=by exact CV hM2 rfl
 have hkn2:M2.kn=Bc M.kn ((BF A (M.at_+2*A.length)).drop sp):=by refine CV hM2 ?_;rfl
 have lL:M2.pe=HQ (A.take sp) (M.at_+1):=by
  refine CV hM2 ?_;show(BF A (M.at_+2*A.length)).take sp=_
  (rw[BF];refine Ae (ML ..) ?_);congr 1;exact E3 0x1120130062124112006212401335a0
 have hdr2:M2.dr=Cd M.dr ((BF A (M.at_+2*A.length)).drop sp):=by refine CV hM2 ?_;rfl
 have hst2:M2.st=M.st:=by refine CV hM2 ?_;rfl
 clear hM2 c1 c2;have hpe3:M2.pe=BF (A.take sp) (IK M2):=by
  (rw[IK];refine Ae lL ?_);exact bK
 have prsD:MK ((BF A (M.at_+2*A.length)).drop sp)=A.drop sp:=by(rw[BF];exact Ae (Ve ..) (Ae (JZ ..) rfl))
 have posD:∀d∈(BF A (M.at_+2*A.length)).drop sp,M.at_<=d.2.2/\d.2.2<M.at_+2*A.length:=λd hd=>by
  have hd:=Cm hd;have h1:=O0 A (M.at_+2*A.length+1-2*A.length) d hd;have h2:=RD A (M.at_+2*A.length+1-2*A.length) d hd;exact⟨by exact Xc 0x11018110062124112006212401335811 h1,by exact Xc 0x62124113019006212400621241120062124113353212013811 h2⟩
 have posP:∀d∈M2.pe,M.at_+1<=d.2.2/\d.2.2<M.at_+1+2*A.length:=λd hd=>by
  rw[lL]at hd;have h1:=O0 _ _ d hd;have h2:=RD _ _ d hd;have h3:(A.take sp).length<=A.length:=by refine Ae Bx ?_;exact AQ 0x100001000011 (Ey _ _)
  exact⟨h1,by exact mG 0x1062124112113301910000200621241121133212013812 h2 h3⟩
 have rk2:Rk K M.kn ((BF A (M.at_+2*A.length)).drop sp) (A.take sp) (IK M2) (tL m++AC E.Af x++AY E.Af s):=by
  refine⟨hb.eq,λd hd p hp=> .inl ?_,hU,λq hq=>?_,λq hq=>v9 q (BU hq)⟩
  .have h1:=hb.kp _ _ hp;rcases An.mp hd with h|h
   .have:=(posD d h).1;exact wF 0x210192111811101912 h1 this
   .rw[<-hpe3]at h;have:=(posP d h).1;exact wF 0x2101921112113811101912 h1 this
  .rw[prsD]at hq;exact v9 q (Cm hq)
 have htkl:(A.take sp).length=sp:=by refine Ae Bx ?_;lia
 have spl2:splitAt (Bc M.kn ((BF A (M.at_+2*A.length)).drop sp)) (BF (A.take sp) (IK M2)) (AC E.Af x) (IK M2)=some t:=by
  (refine Ae (rk2.split (λq h=>AD _ (AG _ h))) (CV ht ?_);rw[QcK];exact Ae prsD (Ae htkl rfl))
 have Ra:∀q,q∈A.drop sp++A.take sp↔q∈A:=λq=>by
  rw[An];constructor
  .rintro(h|h)
   .exact Cm h
   .exact BU h
  .intro h;rw[<-G5 sp A]at h;exact(An.mp h).symm
 have ld2:Ld E.Af x K (BQ K A) M.kn ((BF A (M.at_+2*A.length)).drop sp) (A.take sp) (IK M2) (tL m++AC E.Af x++AY E.Af s) t:=
  ⟨rk2,spl2,λq=>by
   (rw[hkA q];refine Ae prsD ?_;rw[Ra q])
   have:(∀b∈A.drop sp++A.take sp,b.1≠q.1)↔∀b∈A,b.1≠q.1:=⟨λf b hb=>f b ((Ra b).mpr hb),λf b hb=>f b ((Ra b).mp hb)⟩
   rw[this],λq h=>hUk q (AD _ (AG _ h)),h58,vJ,λh=>by refine CV h ?_;exact hxk⟩
 have Qj:M2.pe.length=sp:=by exact Ae lL (Ae (DS ..) (Ae htkl rfl))
 have htl:t<=sp:=by have:=(L8 _ _ _ _ ht).2.1;exact AQ 0x1000011210302300111 this
 have l1:=Ge ((BF A (M.at_+2*A.length)).drop sp) M.kn;have l2:=ED ((BF A (M.at_+2*A.length)).drop sp) M.dr;have l3:((BF A (M.at_+2*A.length)).drop sp).length=A.length-sp:=by(refine Ae B7 ?_;rw[BF];exact Ae (DS ..) rfl)
 have hbw:=hb.w;have c3:=kT hf Bl hE hs.tx (M:=M2) (t:=t) (by(rw[Ms.sz];refine Ae hkn2 (Ae hst2 (Ae hdr2 (Ae Qj ?_))));lia) hsl2 HL
  (λ{ty pr b sz f} h=>by refine Ae hkn2 (Ae hpe3 ?_);exact ld2.field Bl hxn h)
  (λh=>by
   have h2:=rk2.Kd;rw[h]at spl2;rw[h2]at spl2;refine Ae Qj (CV htkl ?_);exact(BB spl2).symm)
 have c:=Dt _ _ c12 c3;rw[Ao]at c;refine⟨_,c,?_,?_⟩
 ·
  have fb:=To hb (DD:=((BF A (M.at_+2*A.length)).drop sp++M2.pe.drop t)++M2.pe.take t) (A:=A) (b:=M2.at_+1) (λq=>by
    rw[<-Ra q];simp only[MK,Bg,An];have e1:q∈FW (λd:Nd=>(d.1,d.2.1)) ((BF A (M.at_+2*A.length)).drop sp)↔q∈A.drop sp:=by refine CV prsD ?_;rfl
    have e2:q∈FW (λd:Nd=>(d.1,d.2.1)) (M2.pe.drop t)\/q∈FW (λd:Nd=>(d.1,d.2.1)) (M2.pe.take t)↔q∈A.take sp:=by
     have:MK M2.pe=A.take sp:=by exact Ae lL (Ae (JZ ..) rfl)
     (refine CV this ?_;rw[or_comm,<-An];refine CV Bg (Ae (G5 ..) ?_));rfl
    rw[e1,or_assoc,e2]) hcA (λd hd=>by
    have hl:(0:Int)<=((zS E.order x s).length:Int):=by exact AA 0x60280
    have two:1<=(zS E.order x s).length:=by cases s<;>simp only[zS,C5,Ah,Al]<;>lia
    rcases An.mp hd with h|h
    .rcases An.mp h with h|h
     .have:=posD d h;exact⟨this.1,by exact ZE 0x112013219006212411321911060062124113301a92 Ui this.2⟩
     .have:=posP d (Cm h);exact⟨by exact MR 0x1101811112013811 this.1,by exact ZE 0x1120132190062124112113321911060062124113301a92 Ui this.2⟩
    .have:=posP d (BU h);exact⟨by exact MR 0x1101811112013811 this.1,by exact ZE 0x1120132190062124112113321911060062124113301a92 Ui this.2⟩) (mG 0x1120131181060062124113301a91 Ui) (λq h=>hUN q (v9 q h))
  obtain⟨b1,b2,b3,b4,b5⟩:=fb;have ekn:∀od,(ON E.order (CD M2 t) x od ev).kn=MV (Bc M.kn (((BF A (M.at_+2*A.length)).drop sp++M2.pe.drop t)++M2.pe.take t)) x:=λod=>by
   refine Ae (Tn ..) (Ae (Tn ..) (CV hkn2 ?_));rfl
  have est:∀od,(ON E.order (CD M2 t) x od ev).st=Es (Cd M.st (M2.pe.take t)) M2.at_ (.tup [.str "set",.str x,Wj od E.order ev]):=λod=>by refine CV hst2 ?_;rfl
  have stlt:∀p∈Cd M.st (M2.pe.take t),p.1<M2.at_:=by
   have e1:M2.pe.take t=HQ (if(ww E.Af x s K).head?=m then[]else tL m) (M.at_+1):=by exact Ae lL (Ae (ML ..) (Ae vE rfl))
   have two:1<=(zS E.order x s).length:=by cases s<;>simp only[zS,C5,Ah,Al]<;>lia
   intro p hp;rw[e1]at hp;split at hp
   .have:=hb.st p (by simpa[MW,MX,Cd]using hp);exact ZE 0x12191121911060062124113301a92 Ui this
   .rename_i Gk;rw[N6 _ _ _ (λp hp=>by have:=hb.st p hp;exact MR 0x1121130181101911 this)]at hp;rcases An.mp hp with h|h
    .have:=hb.st p h;exact ZE 0x12191121911060062124113301a92 Ui this
    .obtain⟨q,hq,rfl⟩:=D9.mp h;have:1<=A.length:=by
      rw[if_neg Gk]at vE;have h3:=congrArg AX vE;have h4:1<=(tL m).length:=EJ hq;simp only[Bx]at h3;exact Df 0x30112030200120100100102900112014 h4 h3 (Ey _ _) (Ey _ _)
     show M.at_+1<_;exact mG 0x11121139001120110112011060062124113301a93 Ui two this
  have l4:=Ge (((BF A (M.at_+2*A.length)).drop sp++M2.pe.drop t)++M2.pe.take t) M.kn;have l5:=Yw (Bc M.kn (((BF A (M.at_+2*A.length)).drop sp++M2.pe.drop t)++M2.pe.take t)) x;have l6:=ED (M2.pe.take t) M.st;have l7:=ED (M2.pe.drop t) M2.dr;refine⟨rfl,λy=>?_,λy p hy=>?_,λp hp=>?_,?_,?_,?_,λq hq=>?_⟩
  ·(rw[ekn];refine Ae (MM b3 ..) (Ae (MM b4 ..) ?_))
   split
   .rfl
   .exact b1 y
  .rw[ekn,MM b3]at hy;split at hy
   .cases hy
   .exact b2 y p hy
  .rw[est,IH _ _ _ (λp hp=>GP (stlt p hp))]at hp;show p.1<M2.at_+1;rcases An.mp hp with h|h
   .have:=stlt p h;exact MR 0x1121130191101911 this
   .refine Ae (Ai.mp h) ?_;show M2.at_<_;exact D1 0x1120130190
  ·(rw[ekn];refine Ae (est ..) (Ae (NZ ..) (Ae l6 ?_)))
   have edr:∀od,(ON E.order (CD M2 t) x od ev).dr=Cd M2.dr (M2.pe.drop t):=λod=>rfl
   (rw[edr];refine Ae l7 (Ae hdr2 (Ae l2 (Ae l3 (Ae B7 (Ae Bx (Ae Qj ?_)))))))
   simp only[Ah,l3,B7,Bx,Qj]at l4;exact z15 (by assumption) (by assumption) (by assumption) (by assumption) (by assumption) (by assumption)
  .rw[ekn];exact b3.sublist (Y3 _ _)
  .exact b4.sublist (Y3 _ _)
  .refine b5 q ?_;rw[kn,decide_eq_true_eq]at hq⊢;rw[MM b4]at hq;split at hq
   .cases hq
   .exact hq
 ·
  have e1:M2.pe.take t=HQ (if(ww E.Af x s K).head?=m then[]else tL m) (M.at_+1):=by exact Ae lL (Ae (ML ..) (Ae vE rfl))
  have est:∀od,(ON E.order (CD M2 t) x od ev).st=Es (Cd M.st (M2.pe.take t)) M2.at_ (.tup [.str "set",.str x,Wj od E.order ev]):=λod=>by refine CV hst2 ?_;rfl
  have two:1<=(zS E.order x s).length:=by cases s<;>simp only[zS,C5,Ah,Al]<;>lia
  have lim:∀p∈M.st,p.1<=M.at_+1:=λp hp=>by have:=hb.st p hp;exact MR 0x1121130181101911 this
  show FW CC (ON E.order (CD M2 t) x (Cc CF x).order ev).st=_;refine Ae (est ..) (Ae hse (Ae e1 ?_));split
  .have e2:Cd M.st (HQ [] (M.at_+1))=M.st:=rfl;refine Ae e2 (Ae (IH _ _ _ (λp hp=>by have:=hb.st p hp;exact ZE 0x12181121911060062124113301a92 Ui this)) ?_);simp[Cj,a8]
  .rename_i Gk;have hA1:(tL m).length<=A.length:=by
    rw[if_neg Gk]at vE;have h3:=congrArg AX vE;simp only[Bx]at h3;exact Df 0x301003020012000011000293 h3 (Ey _ _) (Ey _ _)
   rw[N6 _ _ _ lim,IH _ _ _ (λp hp=>by
    rcases An.mp hp with h|h
    .have:=hb.st p h;exact ZE 0x12181121911060062124113301a92 Ui this
    .obtain⟨q,hq,rfl⟩:=D9.mp h;have:1<=(tL m).length:=EJ hq;show M.at_+1<=_;exact mG 0x1112113810112011060062124113301a92 Ui two)]
   simp only[Bg,Ii,AW,Ct,Ao];rfl
end
theorem uU:∀(Af host:Str)(K:List (Str×Int))(m:Option Nn)(op:Str)(r:List AV),gR Af host K ((tL m).map .FM++[.Eo op r])=Ek (tL m)++[.tup (.str op::r)]/\gK Af host K ((tL m).map .FM++[.Eo op r])=BQ K (tL m):=by
 refine@(Fd A8 A8 nL nO A8 nL ?_);generalize E2 .. =c;generalize c.1=Af,c.2.1=host,c.2.2.1=K,c.2.2.2.1=m,c.2.2.2.2.1=op,c.2.2.2.2.2=r;obtain⟨f1,f2,_⟩:=CR Af host K ((tL m).map .FM) [.Eo op r];obtain⟨q1,q2,_⟩:=Vc Af host K m;rw[q1,q2]at f1;rw[q2]at f2;exact⟨f1,f2⟩
theorem gZ(Af:Str)(K:List (Str×Int))(m:Option Nn)(op:Str)(r:List AV):bF Af K ((tL m).map .FM++[.Eo op r])=(tL m).map .FM++[.Eo op r]:=by cases m<;>rfl
section
variable{E:Env}(hf:TO E FL)(Bl:CE E.Af)(hE:E.order="little"\/E.order="big")
include hf Bl hE
omit hf Bl hE in
theorem kW:∀{E:Env}{M:Ms}{K:List (Str×Int)}{n:Nat}{m:Option Nn}{op:Str}{r:List AV}(hf:TO E FL)(Bl:CE E.Af)(hE:E.order="little"\/E.order="big")(hb:Bd E.Af M K n)(hn:n<=4)(hm:∀q,m=some q->q∈DJ E.Af)(ho:GG op r),∃M',DT E BA M (gR E.Af E.order K ((tL m).map .FM++[.Eo op r])) M'/\Bd E.Af M' (gK E.Af E.order K ((tL m).map .FM++[.Eo op r])) (n+1)/\M'.st.map CC=M.st.map CC++(bF E.Af K ((tL m).map .FM++[.Eo op r])).map Cj:=by
 refine@(Hp nE We nL nN nO A8 nL ?_);generalize GE .. =z;generalize z.1=E,z.2.1=M,z.2.2.1=K,z.2.2.2.1=n,z.2.2.2.2.1=m,z.2.2.2.2.2.1=op,z.2.2.2.2.2.2=r;intro hf Bl hE hb hn hm ho;obtain⟨nd1,nd2,nd3,nd4,nd5⟩:=ndf Bl;obtain⟨f1,f2⟩:=uU E.Af E.order K m op r;refine Ae f1 (Ae f2 (Ae (gZ ..) ?_));have hN:∀q∈tL m,q∈Zv E.Af:=λq h=>by
  cases Zm:m with
  |none=>rw[Zm]at h;cases h
  |some p=>rw[Zm]at h;refine Ae (Ai.mp h) ?_;exact nd2 p (hm p Zm)
 have hc:Cons (tL m):=by
  cases m with
  |none=>intro a ha;cases ha
  |some p=>intro a ha b hb _;exact Ae (Ai.mp ha) (Ae (Ai.mp hb) rfl)
 have hl:(tL m).length<=1:=by cases m<;>simp[tL]
 have hbw:=hb.w;have hrk:=hb.rk hc;obtain⟨sl,c1⟩:=Th hf Bl hE (K:=K) (U:=tL m) (tL m) (M:=M) (A0:=[]) (λq h=>nd3 q (hN q h)) (by simp only[Ms.sz,hb.pe,Ar];lia) (by refine Ae hb.pe ?_;rfl)
  (λA' a' h1 h2=>hrk A' a' h1 (by simp only[Ar]at h2;exact Xc 0x110062124015a02621241150062124015a11 h2)) (λq h=>by simpa using h)
 simp only[AP]at c1;have Qj:(BF (tL m) (M.at_+2*(tL m).length)).length=(tL m).length:=by(rw[BF];exact Ae (DS ..) rfl)
 have hop:getL BA op=some (Aa "back_same"):=by
  rcases ho with⟨rfl,_⟩|⟨rfl,_⟩|⟨rfl,_⟩|⟨rfl,_⟩
  .exact ba.2.2.2.2.2.2.2.2.2.2.2.2.1
  .exact ba.2.2.2.2.2.2.2.2.2.2.1
  .exact ba.2.2.2.2.2.2.2.2.2.2.2.1
  .exact ba.2.2.2.2.2.2.2.2.2.1
 have c2:=Cz (E:=E) (B:=BA) hop (Qcv (E:=E) (M:={M with sl:=sl,pe:=BF (tL m) (M.at_+2*(tL m).length),at_:=M.at_+2*(tL m).length}) (by simp only[Ms.sz,Qj];lia) (.tup (.str op::r)));have c:=Dt _ _ c1 c2;have epd:BF (tL m) (M.at_+2*(tL m).length)=HQ (tL m) (M.at_+1):=by rw[BF];congr 1;exact E3 0x1120130062124112006212401335a0
 have lim:∀p∈M.st,p.1<=M.at_+1:=λp hp=>by have:=hb.st p hp;exact MR 0x1121130181101911 this
 have efs:Cd M.st (BF (tL m) (M.at_+2*(tL m).length))=M.st++(tL m).map λn=>(M.at_+1,D5 n.1 n.2):=by refine Ae epd ?_;exact N6 _ _ _ lim
 have lst:∀p∈M.st++(tL m).map (λn=>(M.at_+1,D5 n.1 n.2)),p.1<M.at_+2*(tL m).length+(if(tL m).length=0 then 1 else 0):=λp hp=>by
  rcases An.mp hp with h|h
  .have:=hb.st p h;split<;>lia
  .obtain⟨q,hq,rfl⟩:=D9.mp h;have:1<=(tL m).length:=EJ hq;show M.at_+1<_;split<;>lia
 have est:Es (Cd M.st (BF (tL m) (M.at_+2*(tL m).length))) (M.at_+2*(tL m).length) (.tup (.str op::r))=M.st++(tL m).map (λn=>(M.at_+1,D5 n.1 n.2))++[(M.at_+2*((tL m).length:Int),.tup (.str op::r))]:=by
  exact Ae efs (Ae (IH _ _ _ λp hp=>by have:=lst p hp;split at this<;>lia) rfl)
 have fb:=To hb (DD:=BF (tL m) (M.at_+2*(tL m).length)) (A:=tL m) (b:=M.at_+2*(tL m).length+1) (λq=>by rw[BF,JZ]) hc (λd hd=>by
  rw[epd]at hd;have h1:=O0 (tL m) (M.at_+1) d hd;have h2:=RD (tL m) (M.at_+1) d hd;exact⟨by exact MR 0x1101811112013811 h1,by exact Xc 0x1120062124113301900621241121133212013811 h2⟩) (E3 0x112006212401330180) hN
 obtain⟨b1,b2,b3,b4,b5⟩:=fb;refine⟨_,c,⟨rfl,b1,b2,λp hp=>?_,?_,b3,b4,b5⟩,?_⟩
 .rw[show(sX {M with sl:=sl,pe:=BF (tL m) (M.at_+2*(tL m).length),at_:=M.at_+2*(tL m).length} (.tup (.str op::r))).st=_ from est]at hp;show p.1<M.at_+2*((tL m).length:Int)+1;rcases An.mp hp with h|h
  .have:=lst p h;split at this<;>lia
  .refine Ae (Ai.mp h) ?_;show M.at_+2*((tL m).length:Int)<_;exact E3 0x11200621240133006212401390
 .have h1:=Ge (BF (tL m) (M.at_+2*(tL m).length)) M.kn;have h2:=NZ (Cd M.st (BF (tL m) (M.at_+2*(tL m).length))) (M.at_+2*(tL m).length) (.tup (.str op::r));have h3:=ED (BF (tL m) (M.at_+2*(tL m).length)) M.st;show(Bc M.kn (BF (tL m) (M.at_+2*(tL m).length))).length+(Es (Cd M.st (BF (tL m) (M.at_+2*(tL m).length))) (M.at_+2*(tL m).length) (.tup (.str op::r))).length+M.dr.length<=15*(n+1);lia
 .show FW CC (Es (Cd M.st (BF (tL m) (M.at_+2*(tL m).length))) (M.at_+2*(tL m).length) (.tup (.str op::r)))=_;refine Ae est ?_;simp only[Bg,Ii,AW,Ct,Ao];rfl
omit hf Bl hE in
theorem bM:∀{E:Env}(hf:TO E FL)(Bl:CE E.Af)(hE:E.order="little"\/E.order="big"),∀(ts:List (List Dr)){M:Ms}{K:List (Str×Int)}{n:Nat},Bd E.Af M K n->n+ts.length<=4->SGs E.Af E.order K ts->
  ∃M' K',DT E BA M (gR E.Af E.order K ts.flatten) M'/\Bd E.Af M' K' (n+ts.length)/\M'.st.map CC=M.st.map CC++(OZ E.Af E.order K ts).flatten.map Cj:=by
 refine@(MS nE ?_);generalize ZF .. =E;intro hf Bl hE;intro ts;induction ts with
 |nil=>intro M K n hb _ _;exact⟨M,K,rfl,hb,by simp[uB,kK]⟩
 |cons t r ih=>
  intro M K n hb hn hs;simp only[Al]at hn;obtain⟨M1,c1,b1,e1⟩:∃M',DT E BA M (gR E.Af E.order K t) M'/\Bd E.Af M' (gK E.Af E.order K t) (n+1)/\M'.st.map CC=M.st.map CC++(bF E.Af K t).map Cj:=by
   cases hs.1 with
   |Eo m hm op rr ho=>exact kW hf Bl hE hb (AQ 0x412000412112103003011 hn) hm ho
   |set m hm x s h=>exact kU hf Bl hE hb (AQ 0x412000412112103003011 hn) hm h
  obtain⟨M2,K2,c2,b2,e2⟩:=ih b1 (AQ 0x4121011200330412112103003011 hn) hs.2;refine⟨M2,K2,?_,?_,?_⟩
  .refine Ae B2 (Ae ((CR E.Af E.order K t r.flatten).1) ?_);exact Dt _ _ c1 c2
  .refine Ae Al (Ae (show n+(r.length+1)=n+1+r.length by exact AQ 0x10112003311210300320) ?_);exact b2
  ·(refine Ae e2 (Ae e1 ?_);rw[kK];exact Ae B2 (Ae Bg (Ae (Ao ..) rfl)))
end
theorem bd0(Af:Str):Bd Af M0 [] 0:=
 ⟨rfl,λa=>rfl,λa a h=>(nomatch h),λa h=>(nomatch h),AL _,.nil,.nil,λn h=>by simp[kn,FC,Ef]at h⟩
theorem QcW:BA=Ku []++Rb:=by kernel_rfl
theorem uV{β:Type}(a b:List (Str×β))(x:Str):getL (a++b) x=(getL a x).or (getL b x):=by
 induction a with
 |nil=>rfl
 |cons p r ih=>
  obtain⟨y,v⟩:=p;simp only[AM,FC,Ef];split
  .rfl
  .exact ih
theorem kX:lH.all (λop=>decide (getL (Ku []) op=none))=true:=by decide +kernel
theorem kY:Rb.all (λp=>lH.any (λa=>a==p.1))=true:=by decide +kernel
theorem uW{β:Type}:∀{l:List (Str×β)}{x:Str}{v:β},getL l x=some v->(x,v)∈l:=by
 intro l;induction l with
 |nil=>intro x v h;cases h
 |cons p r ih=>
  intro x v h;obtain⟨y,w⟩:=p;simp only[FC,Ef]at h;split at h
  .rename_i c;subst c;refine Ae (BB h) ?_;exact .head _
  .exact .tail _ (ih h)
theorem QcX{op f:Str}(h:getL BA op=some f)(hn:lH.any (λa=>a==op)=false):getL (Ku []) op=some f:=by
 rw[QcW,uV]at h;cases e:getL (Ku []) op with
 |some g=>rw[e]at h;exact h
 |none=>
  rw[e]at h;have:=Az.mp kY _ (uW h);rw[hn]at this;cases this
theorem Tp{E:Env}:∀(rows:List AV){M M':Ms},DT E BA M rows M'->(∀r∈rows,OT r=false)->DT E (Ku []) M rows M':=by
 intro rows;induction rows with
 |nil=>intro M M' h _;exact h
 |cons r t ih=>
  intro M M' h hn;obtain⟨op,rest,f,M1,h1,h2,h3,h4⟩:=h;have:=hn r (.head _);rw[h1]at this;exact⟨op,rest,f,M1,h1,QcX h2 this,h3,ih h4 λr hr=>hn r (.tail _ hr)⟩
theorem Y4{E:Env}{B:List (Str×Str)}:∀(a:List AV){b:List AV}{M M':Ms},DT E B M (a++b) M'->∃M1,DT E B M a M1:=by
 intro a;induction a with
 |nil=>intro b M M' _;exact⟨M,rfl⟩
 |cons r t ih=>
  intro b M M' h;obtain⟨op,rest,f,M1,h1,h2,h3,h4⟩:=h;obtain⟨M2,h5⟩:=ih h4;exact⟨M2,op,rest,f,M1,h1,h2,h3,h5⟩
theorem kZ:∀rows:List AV,(∀r∈rows,OT r=false)\/∃pre r post,rows=pre++r::post/\(∀r∈pre,OT r=false)/\OT r=true:=by
 intro rows;induction rows with
 |nil=>exact .inl λa h=>(nomatch h)
 |cons r t ih=>
  cases c:OT r with
  |true=>exact .inr ⟨[],r,t,rfl,λa h=>(nomatch h),c⟩
  |false=>
   rcases ih with h|⟨pre,q,post,e,h1,h2⟩
   .exact .inl λq hq=>by rcases Au.mp hq with rfl|hq;exact c;exact h q hq
   .exact .inr ⟨r::pre,q,post,by refine Ae e ?_;rfl,λq hq=>by rcases Au.mp hq with rfl|hq;exact c;exact h1 q hq,h2⟩
theorem run_plain:∀{E:Env}{rows:List AV}{M':Ms}{tl:List AV}(h:DT E BA M0 rows M')(hz:M'.sz<=150)(hp:M'.pe=[])(ht:M'.st.map CC=tl)(HL:∀r∈rows,Jm r),Jz E (Ku [Rb]) M0 rows (λr=>r= .val (.tup tl))/\Jz E (Ku []) M0 rows (λr=>match Eu rows with
   |[]=>r= .val (.tup tl)
   |w::_=>r= .exc w):=by
 refine@(ZG nE nL We nL ?_);generalize cG .. =c;generalize c.1=E,c.2.1=rows,c.2.2.1=M',c.2.2.2=tl;intro h hz hp ht HL;have WY:(Mb M').st.map CC=tl:=by simp only[Mb,hp];exact ht
 refine⟨.inl ⟨M',h,hz,by rw[WY]⟩,?_⟩;rcases kZ rows with hn|⟨pre,r,post,e,hn,ha⟩
 .have hw:Eu rows=[]:=by
   rw[Eu,EI.mpr λr hr=>by rw[hn r hr];simp];rfl
  refine Ae hw ?_;exact .inl ⟨M',Tp rows h hn,hz,by exact Ae WY rfl⟩
 .obtain⟨op,rest,rfl,hop⟩:=HL r (by rw[e];simp);have hw:∃ws,Eu rows=bA (.tup (.str op::rest))::ws:=by
   rw[e,Eu,De,EI.mpr λr hr=>by rw[hn r hr];simp,AP,C8,if_pos ha];exact⟨_,rfl⟩
  obtain⟨ws,hw⟩:=hw;refine Ae hw ?_;subst e;obtain⟨M1,h1⟩:=Y4 pre h;refine .inr ⟨pre,op,rest,post,M1,rfl,Tp pre h1 hn,?_,hop,rfl⟩;have ha2:lH.any (λx=>x==op)=true:=ha;obtain⟨a,ha3,ha4⟩:=Ez.mp ha2;have:=of_decide_eq_true (Az.mp kX a ha3)
  rwa [beq_iff_eq.mp ha4]at this
theorem Qeg:(FL.map Bk).Nodup:=by decide +kernel
theorem y8{β:Type}:∀{l:List (Str×β)},(l.map Bk).Nodup->∀p∈l,getL l p.1=some p.2:=by
 intro l;induction l with
 |nil=>intro _ p h;cases h
 |cons q r ih=>
  intro h p hp;obtain⟨y,v⟩:=q;simp only[AW,CY]at h;rcases Au.mp hp with rfl|v6
  .simp[FC,Ef]
  .have Gk:¬y=p.1:=λe=>h.1 (by refine Ae e ?_;exact Cu (f:=Bk) v6);refine Ae Ef (Ae (if_neg Gk) ?_);exact ih h.2 p v6
theorem Qeh:FL.all (λp=>xS p.2&&xV p.2)=true:=by decide +kernel
theorem flk(b fa se:Nat)(Af host:Str)(h1:se<b)(h2:se≠fa):TO ⟨b,fa,se,Af,host,CJ Lv FL⟩ FL:=by
 have h:=Az.mp Qeh;simp only[Av]at h;exact⟨rfl,⟨y8 Qeg,λp hp=>(h p hp).1⟩,λp hp=>(h p hp).2,h1,h2⟩
theorem uX(n:Str)(v:Int):(E1 n v).all (pl 19)=true:=by
 simp only[E1,CP,Pj];split<;>simp[FD,FE,Dz,FF]
theorem y9(x:Str)(s:Nat):(FP x s).all (pl 19)=true:=by
 unfold FP;split
 .rfl
 .split<;>simp[FD,FE,Dz,FF]
theorem zA(t:Te):pl 19 (D6 t)=true:=by
 cases t with
 |G6 b a s=>simp[D6,FD,FE,Dz,FF]
 |Eo k key d s o=>simp only[D6];split<;>simp[FD,FE,Dz,FF]
theorem Qei(host o:Str)(n:Nat)(v:Int)(t:Tg):(gC host n o v t).all (pl 19)=true:=by
 cases t<;>simp only[aV,aW,aX,aT,aU,PW,U6,vU]<;>(try split)<;>simp[FD,FE,Dz,FF]
theorem uY(host o:Str)(n:Nat)(e:Ex):(Hc host n o e).all (pl 19)=true:=by
 induction e with
 |fld x=>rfl
 |op t e v ih=>(rw[YM];refine Ae D4 (Ae ih (Ae (Qei ..) ?_)));rfl
theorem QcY(t:Te):pl 19 (N2 t)=true:=by cases t<;>simp[N2,FD,FE,Dz,FF]
theorem QeA(host x:Str)(s:Src):(zR host x s).all (pl 19)=true:=by
 have hl:∀y,(C5 y).all (pl 19)=true:=λy=>by(rw[C5];refine Ae CP (Ae (zA ..) (Ae (y9 ..) ?_)));rfl
 (rw[zR];refine Ae D4 (Ae (Av ..) ?_))
 refine⟨?_,by refine Ae CP (Ae (QcY ..) ?_);rfl⟩;cases s with
 |num n=>simp[zS,YN,FD,FE,Dz,FF]
 |map e m=>simp only[zS,D4,hl,uY,Ht];simp[YO,FD,FE,Dz,FF]
 |val e=>simp only[zS,D4,hl,uY,Ht];split<;>simp[PW,FD,FE,Dz,FF]
theorem zB(A:List Nn):(Ek A).all (pl 19)=true:=by
 induction A with
 |nil=>rfl
 |cons a r ih=>refine Ae (show Ek (a::r)=E1 a.1 a.2++Ek r from rfl) (Ae D4 (Ae (uX ..) (Ae ih ?_)));rfl
def uZ(l:List Dr):Prop:=∀s∈l,∀op r,s= .Eo op r->GG op r
theorem u0{op:Str}{r:List AV}(h:GG op r):pl 19 (.tup (.str op::r))=true:=by
 rcases h with⟨_,rfl⟩|⟨_,w,rfl⟩|⟨_,rfl⟩|⟨_,rfl⟩<;>simp[FD,FE,Dz,FF]
theorem hH(Af host:Str):∀(l:List Dr)(K:List (Str×Int)),uZ l->(gR Af host K l).all (pl 19)=true:=by
 intro l;induction l with
 |nil=>intro K _;rfl
 |cons s r ih=>
  intro K h;have e:=(CR Af host K [s] r).1;rw[List.singleton_append]at e;refine Ae e (Ae D4 (Ae (ih _ λq hq=>h q (.tail _ hq)) (Ae (FQ ..) ?_)));cases s with
  |FM n=>exact uX n.1 n.2
  |set x s=>refine Ae ((QQ Af host K x s).1) (Ae D4 (Ae (zB ..) (Ae (QeA ..) ?_)));rfl
  |Eo op r=>refine Ae ((t8 Af host K op r).1) (Ae CP (Ae (u0 (h _ (.head _) op r rfl)) ?_));rfl
theorem Qbx:∀(e:Ex)(n:Nat),e.depth+2<=n->pl n (HR e)=true:=by
 intro e;induction e with
 |fld x=>intro n h;obtain⟨k,rfl⟩:∃k,n=k+2:=⟨n-2,(AE (AS (F0 ..) h)).symm⟩;simp[jW,jX,Gp,FD,FE,Dz,FF]
 |op t e v ih=>
  intro n h;simp only[j0,j4]at h;obtain⟨k,rfl⟩:∃k,n=k+2:=⟨n-2,(AE (AS (F0 ..) h)).symm⟩
  simp[jW,jX,FD,FE,Dz,FF,ih (k+1) (AQ 0x11210321200302121032121120033011 h)]
theorem O1{Af y:Str}(Bl:CE Af)(h:y∈Ck Af)(K:List (Str×Int)):aS CF Af (Bz Af y K):=Vb Bl (Wz Bl h)
theorem QcZ{Af host x:Str}{s:Src}(Bl:CE Af)(h:kI Af x s):vK (WT Af host) s:=by
 cases s with
 |num n=>trivial
 |map e m=>exact⟨O1 Bl h.1,by refine Ae h.2 ?_;exact B8 0x5120200⟩
 |val e=>exact⟨O1 Bl h.1,by have:=h.2.2.2;exact AA 0x51200021200011 this⟩
theorem u1:G7.all (λn=>decide (n.1.length<=1000))=true:=by decide +kernel
theorem u2{n:Nn}(h:n∈G7):n.1.length<=1000:=of_decide_eq_true (Az.mp u1 n h)
theorem u3{op:Str}{r:List AV}(h:GG op r):op≠"set"/\op≠"match":=by
 rcases h with⟨rfl,_⟩|⟨rfl,_⟩|⟨rfl,_⟩|⟨rfl,_⟩<;>decide +kernel
theorem bN(n:Str)(v:Int):pl 19 (D5 n v)=true:=by simp[D5,FD,FE,Dz,FF]
theorem zC{Af x:Str}{s:Src}(h:kI Af x s):pl 19 (a8 x s)=true:=by
 have hs:pl 18 (Jl s)=true:=by
  cases s with
  |num n=>simp[Jl,FD,FE,Dz,FF]
  |map e m=>simp[Jl,FD,FE,Dz,FF,Qbx e 17 (by have:=h.2;exact AA 0x112221200300200211 this)]
  |val e=>exact Qbx e 18 (by have:=h.2.2.2;exact AA 0x1222212003021200011 this)
 simp[a8,FD,FE,Dz,FF,hs]
structure Tok(Af host:Str)(s:Dr):Prop where
 g:S8 (WT Af host) s
 o:∀op r,s= .Eo op r->GG op r
 p:pl 19 (Cj s)=true
theorem Qc0{Af host:Str}(Bl:CE Af){K:List (Str×Int)}{t:List Dr}(h:SG Af K t):(∀s∈t,Tok Af host s)/\t.length<=2:=by
 have hmat:∀m:Option Nn,(∀n,m=some n->n∈DJ Af)->∀s∈(tL m).map Dr.FM,Tok Af host s:=by
  intro m hm s hs;cases m with
  |none=>cases hs
  |some n=>
   refine Ae (Ai.mp hs) ?_;exact⟨u2 (MJ Af n (hm n rfl)),λa a e=>(nomatch e),bN _ _⟩
 have hl:∀m:Option Nn,(tL m).length<=1:=λm=>by cases m<;>simp[tL]
 cases h with
 |Eo m hm op r ho=>
  refine⟨λs hs=>?_,by have:=hl m;simp only[Ah,Aj,Al,Ar];exact AA 0x212112023003011200011 this⟩;rcases An.mp hs with h|h
  .exact hmat m hm s h
  .refine Ae (Ai.mp h) ?_;exact⟨u3 ho,λop' r' e=>by cases e;exact ho,u0 ho⟩
 |set m hm x s h=>
  refine⟨λq hs=>?_,by have:=hl m;simp only[Ah,Aj,Al,Ar];exact AA 0x212112023003011200011 this⟩;rcases An.mp hs with h'|h'
  .exact hmat m hm q h'
  .refine Ae (Ai.mp h') ?_;exact⟨⟨Vb Bl (gX Bl h.tx).2,QcZ Bl h.sf⟩,λa a e=>(nomatch e),zC h.sf⟩
theorem zD{Af host:Str}(Bl:CE Af):∀(ts:List (List Dr))(K:List (Str×Int)),SGs Af host K ts->(∀s∈ts.flatten,Tok Af host s)/\ts.flatten.length<=2*ts.length:=by
 intro ts;induction ts with
 |nil=>intro K _;exact⟨λa h=>(nomatch h),AL _⟩
 |cons t r ih=>
  intro K h;obtain⟨a1,a2⟩:=Qc0 (host:=host) Bl h.1;obtain⟨b1,b2⟩:=ih _ h.2;refine⟨λs hs=>?_,by simp only[B2,Ah,Al];exact BC 0x1122032124100030202124100121200012 a2 b2⟩;rcases An.mp hs with q|q
  .exact a1 s q
  .exact b1 s q
theorem zE(Af:Str)(K:List (Str×Int)){t:List Dr}(h:SG Af K t):(∀s∈bF Af K t,s∈t)/\(bF Af K t).length<=t.length:=by
 cases h with
 |Eo m hm op r ho=>refine Ae (gZ ..) ?_;exact⟨λa h=>h,AL _⟩
 |set m hm x s h=>
  refine Ae uT ?_;split
  .exact⟨λs hs=>AG _ hs,by simp⟩
  .exact⟨λa h=>h,AL _⟩
theorem u4{Af host:Str}:∀(ts:List (List Dr))(K:List (Str×Int)),SGs Af host K ts->(∀s∈(OZ Af host K ts).flatten,s∈ts.flatten)/\(OZ Af host K ts).flatten.length<=ts.flatten.length:=by
 intro ts;induction ts with
 |nil=>intro K _;exact⟨λa h=>h,AL _⟩
 |cons t r ih=>
  intro K h;obtain⟨a1,a2⟩:=zE Af K h.1;obtain⟨b1,b2⟩:=ih _ h.2;refine⟨λs hs=>?_,by simp only[uB,kK,B2,Ah];exact Df 0x301032000303020011000012 a2 b2⟩;simp only[uB,kK,B2]at hs⊢;rcases An.mp hs with q|q
  .exact AD _ (a1 s q)
  .exact AG _ (b1 s q)
theorem zF(n:Str)(v:Int):∀r∈E1 n v,Jm r:=by
 intro r hr;simp only[E1,Au,AU,or_false]at hr;rcases hr with rfl|rfl
 .split
  .exact⟨_,_,rfl,by decide +kernel⟩
  .exact⟨_,_,rfl,by decide +kernel⟩
 .exact⟨_,_,rfl,by decide +kernel⟩
theorem Y5:∀(y:Str),∀r∈C5 y,Jm r:=by
 refine@(MS A8 ?_);generalize ZF .. =y;intro r hr;rcases Au.mp hr with rfl|h
 .cases Cc CF y with
  |G6 b a s=>exact⟨_,_,rfl,by decide +kernel⟩
  |Eo k key d s o=>
   simp only[D6];split
   .exact⟨_,_,rfl,by decide +kernel⟩
   .exact⟨_,_,rfl,by decide +kernel⟩
 .unfold FP at h;split at h
  .cases h
  .rcases Au.mp h with rfl|h
   .exact⟨_,_,rfl,by decide +kernel⟩
   .split at h
    .refine Ae (Ai.mp h) ?_;exact⟨_,_,rfl,by decide +kernel⟩
    .cases h
theorem hM(host o:Str)(n:Nat)(e:Ex):∀r∈Hc host n o e,Jm r:=by
 have h1:Jm (PW n):=⟨_,_,rfl,by decide +kernel⟩
 have h2:∀t v,Jm (U6 n t v):=λy y=>⟨_,_,rfl,by decide +kernel⟩
 have h3:∀a b c,Jm (vU n a b c):=λy y y=>⟨_,_,rfl,by decide +kernel⟩
 induction e with
 |fld x=>intro r hr;cases hr
 |op t e v ih=>
  intro r hr;rcases An.mp hr with h|h
  .exact ih r h
  .cases t<;>simp only[aV,aW,aX,aT,aU]at h
   case shl=>split at h<;>simp only[Au,AU,or_false]at h;(rcases h with rfl|rfl|rfl;exact h1;exact h2 _ _;exact h1);(subst h;exact h2 _ _)
   case shr=>split at h<;>simp only[Au,AU,or_false]at h;(rcases h with rfl|rfl|rfl;exact h1;exact h2 _ _;exact h1);(subst h;exact h2 _ _)
   all_goals (refine Ae (Ai.mp h) ?_;exact h3 _ _ _)
theorem zG{Af x:Str}(Bl:CE Af)(h:tgN Af x):Jm (N2 (Cc CF x)):=by
 have ht:=(gX Bl h).1;simp only[y7]at ht;cases TR:Cc CF x with
 |G6 b a s=>exact⟨_,_,rfl,by decide +kernel⟩
 |Eo k key d s o=>
  rw[TR]at ht;simp only[Av,BX,decide_eq_true_eq]at ht;refine⟨_,_,rfl,?_⟩;rcases ht.2 with rfl|rfl<;>decide +kernel
theorem Qej{Af host x:Str}{s:Src}(Bl:CE Af)(h:tgN Af x):∀r∈zR host x s,Jm r:=by
 intro r hr;rcases An.mp hr with q|q
 .cases s with
  |num n=>refine Ae (Ai.mp q) ?_;exact⟨_,_,rfl,by decide +kernel⟩
  |map e m=>
   rcases An.mp q with q|q
   .rcases An.mp q with q|q
    .exact Y5 _ r q
    .exact hM _ _ _ _ r q
   .refine Ae (Ai.mp q) ?_;exact⟨_,_,rfl,by decide +kernel⟩
  |val e=>
   rcases An.mp q with q|q
   .rcases An.mp q with q|q
    .exact Y5 _ r q
    .exact hM _ _ _ _ r q
   .split at q
    .cases q
    .refine Ae (Ai.mp q) ?_;exact⟨_,_,rfl,by decide +kernel⟩
 .refine Ae (Ai.mp q) ?_;exact zG Bl h
theorem Tq(A:List Nn):∀r∈Ek A,Jm r:=by
 intro r hr;obtain⟨n,_,h⟩:=Qg.mp hr;exact zF _ _ r h
theorem zH{op:Str}{r:List AV}(h:GG op r):Jm (.tup (.str op::r)):=by
 refine⟨_,_,rfl,?_⟩;rcases h with⟨rfl,_⟩|⟨rfl,_⟩|⟨rfl,_⟩|⟨rfl,_⟩<;>decide +kernel
theorem u5{Af host:Str}(Bl:CE Af):∀(ts:List (List Dr))(K:List (Str×Int)),SGs Af host K ts->∀r∈gR Af host K ts.flatten,Jm r:=by
 intro ts;induction ts with
 |nil=>intro K _ r hr;cases hr
 |cons t rr ih=>
  intro K h r hr;rw[B2,(CR Af host K t rr.flatten).1]at hr;rcases An.mp hr with q|q
  .cases h.1 with
   |Eo m hm op r' ho=>
    rw[(uU Af host K m op r').1]at q;rcases An.mp q with q|q
    .exact Tq _ r q
    .refine Ae (Ai.mp q) ?_;exact zH ho
   |set m hm x s hs=>
    rw[(CR Af host K ((tL m).map .FM) [.set x s]).1,(Vc Af host K m).1,(QQ Af host _ x s).1]at q;rcases An.mp q with q|q
    .exact Tq _ r q
    .rcases An.mp q with q|q
     .exact Tq _ r q
     .exact Qej Bl hs.tx r q
  .exact ih _ h.2 r q
theorem u6{Af host:Str}(Bl:CE Af){g:List Dr}(h:Fj Af g):∀s∈g,S8 (WT Af host) s/\∀op r,s= .Eo op r->GG op r:=by
 obtain⟨act,wants,ha,hg⟩:=h;have h1:S8 (WT Af host) act/\∀op r,act= .Eo op r->GG op r:=by
  cases act with
  |FM n=>exact ha.elim
  |Eo op r=>exact⟨u3 ha.1,λop' r' e=>by cases e;exact ha.1⟩
  |set x s=>
   have hx:=Qea Bl ha.1;refine⟨⟨Vb Bl hx,?_⟩,λa a e=>(nomatch e)⟩;have:=YY (K:=[]) (K':=[]) Bl ha.2.1;cases s with
   |num n=>trivial
   |map e m=>obtain⟨y,rfl,hy,_⟩:=ha.2.1;exact⟨O1 Bl hy,by simp[j0,j4]⟩
   |val e=>exact⟨O1 Bl ha.2.1.1,by have:=ha.2.1.2.2.2.2;exact AA 0x51200021200011 this⟩
 intro s hs;rcases hg with rfl|⟨m,hm,_,rfl⟩
 .refine Ae (Ai.mp hs) ?_;exact h1
 .rcases Au.mp hs with rfl|hs
  .exact⟨u2 (MJ Af m hm),λa a e=>(nomatch e)⟩
  .refine Ae (Ai.mp hs) ?_;exact h1
theorem lB:∀{Af host:Str}{gs:List (List Dr)}(Bl:CE Af)(hh:host="little"\/host="big")(hl:gs.length<=4)(hg:∀g∈gs,Fj Af g),YU ⟨CF,Af,host⟩ gs.flatten:=by
 refine@(TN A8 A8 nL ?_);generalize W1 .. =z;generalize z.1=Af,z.2.1=host,z.2.2=gs;intro Bl hh hl hg;obtain⟨t1,t2,t3,t4,t5⟩:=uA (host:=host) Bl gs [] hg;obtain⟨k1,k2⟩:=zD Bl _ _ t4;obtain⟨r1,r2⟩:=u4 _ _ t4;have e1:(Dx ⟨CF,Af,host⟩ gs.flatten).1.1=gR Af host [] (TG Af host [] gs).flatten:=t2.symm;have e2:(Dx ⟨CF,Af,host⟩ gs.flatten).2=(TG Af host [] gs).flatten:=t1;have e3:Hd ⟨CF,Af,host⟩ (gR Af host [] (TG Af host [] gs).flatten) (TG Af host [] gs).flatten=(OZ Af host [] (TG Af host [] gs)).flatten:=uF t4;have WY:=YW gs hg;have hoT:uZ (TG Af host [] gs).flatten:=λs hs=>(k1 s hs).o;have HL:=u5 (host:=host) Bl _ _ t4;have H:∀fa b se:Nat,se<b->se≠fa->Jz ⟨b,fa,se,Af,host,CJ Lv FL⟩ (Ku [Rb]) M0 (gR Af host [] (TG Af host [] gs).flatten) (λr=>r= .val (.tup ((OZ Af host [] (TG Af host [] gs)).flatten.map Cj)))/\
   Jz ⟨b,fa,se,Af,host,CJ Lv FL⟩ (Ku []) M0 (gR Af host [] (TG Af host [] gs).flatten) (λr=>match Eu (gR Af host [] (TG Af host [] gs).flatten)with
    |[]=>r= .val (.tup ((OZ Af host [] (TG Af host [] gs)).flatten.map Cj))
    |w::_=>r= .exc w):=by
  intro fa b se h1 h2;obtain⟨M',K',c,bd,st⟩:=bM (E:=⟨b,fa,se,Af,host,CJ Lv FL⟩) (flk b fa se Af host h1 h2) Bl hh (TG Af host [] gs) (bd0 Af) (AQ 0x41210023000102141200012 hl t5) t4;exact run_plain c (by have:=bd.w;simp only[Ms.sz,bd.pe,Ar];lia) bd.pe (by refine Ae st ?_;rfl) HL
 refine⟨by exact AQ 0x1022100002124100141200022 hl WY,?_,?_,?_,?_,?_,?_,?_,?_,?_⟩
 .intro s hs;obtain⟨g,h1,h2⟩:=Ka.mp hs;exact(u6 Bl (hg g h1) s h2).1
 .refine Ae e2 ?_;exactλs hs=>(k1 s hs).g
 .refine Ae e2 ?_;exactλl a h=>hH Af host l [] λs hs=>(k1 s (h s hs)).o
 .refine Ae e1 ?_;exact hH Af host _ [] hoT
 .refine Ae e1 (Ae e2 (Ae e3 (Ae O5 ((Az).mpr ?_))));exactλs hs=>(k1 s (r1 s hs)).p
 .refine Ae e1 (Ae e2 (Ae e3 ?_));exact Df 0x1022300203001102124200100102241200024 hl t5 k2 r2
 .refine Ae e1 ?_;exact HL
 .refine Ae e1 (Ae e2 (Ae e3 ?_));exactλfa b se h1 a h2=>(H fa b se h1 h2).1
 .refine Ae e1 (Ae e2 (Ae e3 ?_));exactλfa b se h1 a h2=>(H fa b se h1 h2).2
theorem law_k{k:Nat}(hk:k=40){ns:List Int}(hl:ns.length<=63)(hb:∀n∈ns,Bw n<=1048576):By (k+1) "law" [.W4 ns] [] (PV λv a=>v= .bool true):=
 Qd8 hk hl hb (λAf host gs h1 h2 h3 h4=>lB h1 h2 h3 h4) λa=>rfl
end L
end Mine
set_option tactic.hygienic true
set_option maxHeartbeats 0
open PySem PySem.W PyProof.Rows
namespace Mine
theorem Zt{ns:List Int}(h:(PyData.list (ns.map bS)).layable0=true):∀n∈ns,Bw n<=1048576:=by
 have h2:Qh (ns.map bS)<=1048576:=by
  simp only[PyData.layable0,Av,Ug]at h;exact of_decide_eq_true h.2
 clear h;induction ns with
 |nil=>intro n hn;cases hn
 |cons x r ih=>
  simp only[AW,Qh,Ug]at h2;intro n hn;rcases Au.mp hn with rfl|hn
  .have e:Bw n=if(n==0)=true then 0 else n.natAbs.log2+1:=rfl
   rw[e];lia
  .exact ih (by lia) n hn
theorem kf_of:∀{K:Frag}(_:obK K=obV),KF K:=by
 refine@MS _ vR _ ?_;generalize ZF _ _=K;intro e;delta obK obV at e;obtain⟨h1,e⟩:=Co e;obtain⟨h2,e⟩:=Co e;obtain⟨h3,e⟩:=Co e;obtain⟨h4,e⟩:=Co e;obtain⟨h5,e⟩:=Co e;obtain⟨h6,e⟩:=Co e;obtain⟨h7,e⟩:=Co e;obtain⟨h8,e⟩:=Co e;obtain⟨h9,e⟩:=Co e;obtain⟨vJ,e⟩:=Co e;obtain⟨h11,e⟩:=Co e;obtain⟨lX,e⟩:=Co e;obtain⟨h13,e⟩:=Co e;exact⟨h1,h2,h3.trans rfl,h4,h5,h6,h7,h8,h9,Co vJ,h11,lX,Co h13,⟨_,_,_,_,_,_,_,_,_,_,_,_,_,e⟩⟩
end Mine
theorem PySem.Challenge.cw_pf0353_01_holds : PySem.Challenge.rw_pf0353_01.Holds := by
 w_on
 refine holds_law Mine.said1 λsaid=>?_;refine PySem.W.holds_open (q:=Mine.hq) (loose:=Mine.u7) (Xt:=λs=>xlAt Mine.hq [] s&&recOk [] s) (XP:=XL Mine.hq []) (Yf:=λs=>Mine.obK (Mine.Kof s.heap)) (Ya:=λ_=>Mine.obV) (YP:=λ_ h=>∃K:Frag,K.In h/\Mine.KF K) (N:=16500) Mine.hl
  (λw s e=>⟨Mine.Kof s.heap,Mine.Kof_in _,Mine.kf_of e⟩) (λw h h' ⟨K,a,b⟩ k=>⟨K,a.keeps k,b⟩) (λs e=>xl_of s (Aq.mp e).1) XL.keeps (by rfl) (by rfl) (by rfl) (λs e=>recFacts_of (Aq.mp e).2) (by rfl) said (by decide +kernel) ⟨rfl,rfl,rfl,rfl,rfl,by decide +kernel⟩ ?hw ?hc
 case hw=>w_witness2
 intro w s₀ s₁ mg mb G Y fa o pm cd doc dV kV ho hd hcd hD hmg hg args vals as hpre hlay hrd lF hlo;obtain⟨K,KX,kf⟩:=Y;refine Ground.open G ?_;intro T B D TE TW
 try (refine guard_noD D (by decide +kernel) ?_;clear D)
 replace hmg:mg (Aa "law")=some (.ref fa):=hmg;clear hd hcd;try clear hD
 wrow_args hpre hlay hrd lF hlo
 rename_i ns _ _ hlay1 _ _ _ _ l vs _ hL _ _ _ hI _ hlen _
 first|refine callC_kw (enter_call ?_)|refine enter_call ?_|refine callC_kw (enter_callW ?_)|refine enter_callW ?_|w_how
 w_top on
 try refine GQ ?_ (λ_ _ g=>GoodW.toG g)
 have seer:=T.seer (by kernel_rfl);obtain⟨mm,Zm,_⟩:=seer.mods;refine GQ (Mine.join kf KX T.g T.b T.nolimit T.builtins (let ⟨o,_,_,e,_⟩:=Zm;⟨o,e⟩) hg hL hI hmg (by decide) (Mine.L.law_k rfl (by omega) (Mine.Zt hlay1))) λr s' p=>?_;obtain⟨rfl,p2,p3,p4⟩:=p;exact⟨.inl ⟨_,.bool true,[],rfl,λ_=>rfl,.bool true,by kernel_rfl,λ_=>⟨.nil,λ_ ha=>nomatch ha⟩⟩,p2,p3,p4⟩