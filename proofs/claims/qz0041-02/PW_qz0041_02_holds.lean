import PyProof.Rows.All
import Wide.All
import OpenK.AllK
import Wide.FinOn
import Lean
import PySem.Challenge.RW_qz0041_02
set_option Elab.async false
set_option maxRecDepth 100000
set_option linter.all false
set_option tactic.hygienic false
set_option genSizeOf false
set_option genSizeOfSpec false
set_option genInjectivity false
set_option bootstrap.genMatcherCode false
open Nat renaming le_of_ble_eq_true->Ui,add_le_add->Uq,le_trans->Ut,lt_succ_self->Uw,le_refl->Ux,le_of_eq->UI,lt_of_lt_of_le->UM,le_succ_of_le->UP,lt_succ_of_lt->UR,le_succ->US,ne_of_lt->UZ,zero_le->U3,le_add_right->U9,succ_pos->Vb,mul_le_mul_left->Vf,ne_of_gt->Vj,lt_of_le_of_lt->Vk,succ_le_succ->Vn,le_of_lt->Vz,le_add_left->V6
open Nat renaming min_le_left->Wu,min_le_right->WT,le_of_not_lt->WU,lt_irrefl->WX,le_antisymm->Ya,add_sub_cancel'->Yy,zero_add->YQ,le_of_succ_le->YR,lt_of_not_le->Y9,not_lt_zero->Zl,zero_mul->Z7,lt_trans->Z8,one_pos->Ë,mul_le_mul_right->Ì,add_left_cancel->Ð,lt_of_lt_of_eq->Ù,lt_of_le_of_ne->Ú,lt_succ_of_le->æ,succ_ne_self->û,not_lt_of_le->ü
open Nat renaming mod_eq_of_lt->ý,le_max_left->Ĉ,succ_mul->Ĺ,sub_self->ĺ,mul_one->ŏ,sub_le->š
open PySem.Str renaming ofString->Uj,ofString->U8,length->Z5,append->Z6
open PySem renaming wpAny_bind->Uk,Expr->Ul,Shared->Um,Value->Uo,wpAny_pure->Us,Str->Uz,wpAny->UC,model->UG,wpAny_holding->UH,Addr->UN,Around->UO,Stmt->UQ,wpAny_call_entry->UU,Shared->UY,Heap->U1,DictEntry->U7,mainGlobals->U',mem_of_lookup->Vd,Value->Ve,PyData->Vg
open PySem renaming wpAny_standAt->Vi,wpAny_callSpecial?_slot->Vl,Program->Vo,starEach->Vq,wpAny_truthy_bool->Vs,World->VB,sizeLine->VD,wpAny_field->VK,sysModules->VM,cLine->VN,wpAny_dictEntries->VO,wpAny_rule->VQ,Around->VV,wpAny_seqItems->VX,wpAny_setField_rec->V7,evalPart_none_step->V8,Pos->V',PyData->Wb,callWith_type->Wj,wpAny_mono->Wl
open PySem renaming wpAny_isInstance->Wq,swapsWith->Wr,Addr->Ws,wpAny_Constant_none->Ww,attributeBase->WC,wpAny_specialOf->WG,backTo->WJ,Env->WO,intKind->WQ,eval->WZ,getMethod->Xj,wpAny_typeOf->XG,wpAny_richCompare_same_room->XH,strKind->XJ,typeLookup->XP,typeIs_str->XQ,typeIs_int->XR,builtinsNs->XS,sizeLine_eq->X7,swappedStores->X8
open PySem renaming wpAny_forIn_list->Ye,compareOp->Yf,bindArgs->Yg,NameKind->Yk,reduceHash->Yp,call_meets->Yq,wpAny_execs_nil->Ys,wpAny_notOrdered_dict->Yv,wpAny_isTrue_Compare1->Yw,wpAny_point->YD,wpAny_newTuple->YE,compEnvC->YH,getItem->YJ,codeAny->YK,wpAny_newList->YU,wpAny_tupleItemsOf->Y0,wpAny_Constant_int->Y5,isTrue->Y6,evalPart_some_step->Y7,wpAny_sequenceKey->Ze
open PySem renaming wpAny_pyIter_list->Zf,spliced->Zg,intKind->Zh,holding->Zi,bootBuiltins->Zj,plainObj_wpAny_Assign_Attribute->Zn,pyIter->Zs,noFill_tuple_add->Zt,Program->Zv,Scope->ZC,letOwnedTupleGo->ZM,standAt->ZP,dictGet->ZQ,callerA->ZR,wpAny_load->ZU,wpAny_Compare1->ZV,rawInt->ZW,assignEach->ZY,World->Z4,Model->Z9
open PySem renaming FuncData->Á,wpAny_tryCompare_declines->Ä,seq_tuple_add->É,Comprehension->Î,wpAny_allTrue_And_cons->Ó,relabel->Ô,concat_meets->Õ,Result->Ö,Keyword->Ý,wpAny_storeName_local->á,wpAny_allTrue_Or_cons->â,isSubtype_tuple_tuple->ã,Sem->ä,wpAny_updateSeq_pair->î,wpAny_updateDictKeys->ï,wpAny_of_eq->ð,wpAny_loadName_local->ñ,wpAny_letGo->ò,wpAny_Slice->ó,callWith->ø
open PySem renaming binaryOp->ù,Reads->ú,wpAny_loadName_free->Ă,UnaryOp->Ć,Obj->ć,wpAny_pyIter_tuple->č,wpAny_missed_other->Ď,wpAny_call->ď,truthy->Đ,sub_AttributeError->đ,slot_dict_contains->ē,getattributeRaised->Ĕ,cellOf->ĕ,assign->Ė,BoolOp->ė,wpAny_newObj_type->ĝ,wpAny_dictFind_of->Ğ,wpAny_collect_seq->ğ,wpAny_cRoomFor_or->Ġ,slot_dict_setitem->ġ
open PySem renaming slot_dict_getitem->Ģ,getMethod_builtin->Ĥ,foldedSetIterable->ĥ,eqIsQuiet_byValue->Ħ,cmpInfo->ħ,Const->ĩ,CmpOp->Į,wpAny_execs_cons->į,wpAny_eqBool_int->İ,isSubtype->Ĳ,eqIsQuiet->Ĵ,arm_assign_Tuple->ĵ,Tok->ķ,Slot->ĸ,Flow->Ľ,wpAny_ret_mkInt->ł,wpAny_dictEpoch->Ń,codeAny_builtin->ń,Fin->ŉ,wpAny_setField->Ŕ
open PySem renaming wpAny_loadPart->ŕ,typeOf->Ŗ,truthOfDropped->ŗ,storeAll->ř,recursionLimit->Ś,getAttr?->Ŝ,constantsAlone->ŝ,Params->ş,Operator->Š,wpAt_of_wpAny->ţ,wpAny_release->Ť,wpAny_onRaise->ť,wpAny_attempt->Ŧ,swapsWithSole->ŧ,plainId_quiet->Ũ,methodCallPos->ũ,comprehension->Ū,call_list_seq->ū,behindInMarks->Ŭ,assignInOrder->ŭ
open List renaming mem_cons_self->Ur,mem_cons_of_mem->Uy,length_append->UA,length_map->UD,map_append->UJ,size_toArray->UL,append_assoc->UW,map_cons->UX,getElem?_eq_getElem->U0,nodup_append->U2,mem_append_left->U4,nodup_cons->U5,append_nil->U6,lookup_cons->Vc,length_cons->Vm,eq_nil_of_length_eq_zero->Vp,nodup_nil->Vr,length->VA,map_id->VF,range->VG
open List renaming mem_append_right->VJ,map_congr_left->VP,filter_append->VW,mem_append->VZ,mem_of_getElem?->Wa,map_map->We,length_drop->Wg,getElem_mem->Wh,filter_cons->Wi,getElem?_eq_none_iff->Wk,mem_cons->Wn,findIdx?_cons->Wv,range'->Wx,reverse_cons->WI,mem_of_mem_take->WY,length_nil->Xg,forIn_cons->Xh,find?_cons->Xi,getElem?_append_right->Xt,mem_of_find?_eq_some->XF
open List renaming getElem_inj->XW,cons_append->XX,length_filter_le->Yb,getElem?_toArray->Yc,dropLast_eq_take->Yd,take_left->Ym,mem_map_of_mem->Yu,rec->YL,map->YM,length_range->YN,casesOn->YO,eraseIdxIfInBounds_toArray->YS,any_eq_true->YX,all_eq_true->YY,find?_some->Zb,getLast?_eq_getElem?->Zx,getElem?_append_left->Zy,drop_eq_getElem_cons->Zz,toArray->ZT,findIdx?_toArray->À
open List renaming filter_sublist->Í,zip_cons_cons->Ñ,pairwise_map->Û,findIdx?_map->Ü,length_take->ç,getElem_map->è,cons_ne_nil->é,take_left'->þ,of_mem_zip->ÿ,foldl_cons->Ā,perm_cons->ĉ,any_cons->ę,filter->Ļ,cons->Ţ
open Option.some renaming inj->Uu,injEq->Yi
open PySem.Heap renaming get?_push_of_some->Uv,get?_push_size->UK,SameBut->Vh,lt_size->Vt,get?_update_self->Vy,size_push->VH,ExtBut->XM,get?_push_ne->ß,size_update->ê
open Option renaming none->UB,isSome->VE,map_eq_some_iff->VU,map->Wm,map_some->YW,bind_some->Ï,casesOn->å
open Bool renaming and_eq_true->UE,or_eq_true->VC,and_true->Wo,false_eq_true->Xv,false_ne_true->YC,noConfusion->YZ,false_or->ZL,not_eq_true->í,eq_iff_iff->ā,and_self->Ĝ
open PySem.Expr renaming casesOn->UT,Name->YB
open PySem.Builtin.Tuple renaming tupleHashOf->Va,tupleItemsOf->Yz,tupleExact->Ŀ
open PySem.Heap.SameBut renaming update->Vu,extBut->WM,refl->Xf
open PySem.NameKind renaming free->Vv,cell->Yj
open Or renaming inr->Vw,inl->VT,elim->Yx
open List.cons renaming inj->Vx,injEq->Ç
open ForInStep renaming yield->VI
open PySem.F renaming slot_tuple_iterator_next->VL,slot_zip_next->WH,slot_tuple_eq_refl->Xk,slot_tuple_eq->Xq,slot_list_append->Xy,args_tuple_add_2->Xz,entry_tuple_add->XK,slot_tuple_add->XT,sub_str_tuple->Yn,sub_int_tuple->Yo,args_tuple_iterator_next_1->Yr,entry_tuple_iterator_next->Yt,args_list_append_2->Y8,entry_list_append->Y',slot_list_extend->Zk,slot_dict_items->Zo,args_zip_next_1->Zp,entry_zip_next->Zw,type_dict_get->ZE,sub_dict_dict->ZF
open PySem.F renaming slot_zip_iter->ZG,slot_list_pop->ZH,slot_dict_len->ZI,slot_dict_get->ZJ,slot_dict_ne->ZN,slot_dict_eq->ZO,slot_str_eq->Â,slot_int_eq->Ã,slot_dict_delitem->ë,slot_tuple_hash->ċ,args_tuple_eq_2->Č,entry_tuple_eq->Ě,entry_dict_get->ě,sub_tuple_str->Ī,sub_tuple_int->ī,slot_dict_get->Ĭ
open PySem.Builtin.SmallTypes renaming nextOf->VS,ownedTupleIsFree->ì
open PyProof.Rows renaming seqObj->VY,slot_tuple_getitem->Yh,Subscript_->ZZ,up1->Å,subscriptTail->È,listUpdate_at->Ê,seqEpoch_at->ô,sortedHeap->Ē,len_tuple->Ŋ,len_list->ŋ,entry_tuple_getitem->Ō,args_tuple_getitem->ō,tail_any->Ř
open PySem.Builtin.Slice renaming slicePlaces->V0,sliceAdjust->WV,sliceApplied->ŀ
open Classical renaming byContradiction->V9,propDecidable->XE
open PySem.Obj renaming mapSeq->Wc,mapDictKeys->X',putName->Za,data_mapFields->Ø,mapDict->Ŏ
open PySem.Expr.Subscript renaming elim->Wy
open PySem.Expr.Attribute renaming elim->Wz
open PySem.Calls renaming spliced_nil->WD,callWith_builtin->WE,spliced_cons->Xr,Name_function_global->Xs,call_function_entry->Zq,loadGlobal_builtin->ZA,loadGlobal_global->ZK
open PySem.Expr.ListComp renaming elim->WK
open PySem.Expr.Constant renaming elim->WL
open PySem.PyData renaming eqv->WN,list->Xc,eqv->ZD,int->Æ,list->Ę,depthAll->Ņ,depth->ņ,canLayAll0->Ň,canLay0->ň
open PySem.Expr.UnaryOp renaming elim->WR
open PySem.Expr.Compare renaming elim->WS
open Nat.succ renaming inj->WW
open PySem.Stmt.Return renaming elim->W0
open PySem.Stmt.Delete renaming elim->Xa
open PySem.Stmt.Assign renaming elim->Xb
open PySem.Expr.BoolOp renaming elim->Xd
open List.Sublist renaming refl->Xe,map->Ő
open PySem.Stmt.While renaming elim->Xl
open PySem.Expr.Tuple renaming elim->Xm
open PySem.Expr.Slice renaming elim->Xn
open PySem.Expr.IfExp renaming elim->Xo
open PySem.Expr.BinOp renaming elim->Xp
open PySem.Builtin.Dict renaming samePairs->Xu,takeOut->Zd,updateFrom->ő,showsAll->Œ,pairItems->œ
open PySem.Stmt.Pass renaming elim->Xw
open PySem.Stmt.Expr renaming elim->Xx
open PySem.Expr.Name renaming elim->XA
open PySem.Expr.List renaming elim->XB
open PySem.Expr.Dict renaming elim->XC
open PySem.Expr.Call renaming elim->XD
open PySem.W renaming instObj->XI,emptyDict->XN,Frag->XU,nsIn->YF,findIn->YG,plainGet_of->õ,fnIn->ö,mg_of->ģ,plainOver->ı,hasDictIn->ĳ,plainGet->ś,aWorld->Ş
open PySem.Stmt.For renaming elim->XO
open PySem.Heap.IsSliceOf renaming new->XY
open PySem.Value renaming type->XZ,str->Yl,isInt->YV,isStrOf->Zu,builtin->ă,isStr->Ĩ,none->Ķ
open PySem.Stmt.If renaming elim->X0
open Iff renaming rfl->X9
open Array renaming forIn_toList->YA,any_toList->à
open List.Perm renaming of_eq->YI
open PySem.W.WData renaming int->YP
open Int renaming toNat_natCast->YT,le_antisymm->Ċ
open Decidable renaming em->Zm
open PySem.Builtin.Int renaming intBits->Zr
open Eq renaming trans->Ò
open PySem.IsL renaming update->Þ
open Std.Legacy.Range renaming size->Ą,forIn_eq_forIn_range'->ą
open PySem.Code renaming builtin->ĭ
open List.Pairwise renaming imp->ļ
open Fin renaming ext->ľ
open PySem.Builtin.Range renaming rangeSize->Ł
open PySem.Value.type renaming inj->Ů
open Prod renaming snd->ů,ext->Ű
namespace Mine.Internal
noncomputable section
set_option genCtorIdx false in
inductive Cx where | o | c (n:Nat) (r:Cx)
set_option genCtorIdx false in
inductive Lx where | v (i:Nat) | n (k:Nat) | a (x y:Lx) | s (x:Lx) | m (k:Nat) (x:Lx) | q (x:Lx) (k:Nat)
noncomputable def Cx.at:Cx->Nat->Nat:=λc=>Cx.rec (λU=>0) (λn U f i=>Nat.rec n (λj U=>f j) i) c
noncomputable def Lx.d (c:Cx):Lx->Nat:=λx=>Lx.rec (λi=>c.at i) (λk=>k) (λU U x y=>x+y) (λU x=>x+1) (λk U x=>k*x) (λU k x=>x*k) x
noncomputable def xJ:List Nat->List Nat->List Nat:=λp=>YL (λq=>q) (λa p f q=>YL (a::p) (λb q U=>(a+b)::f q) q) p
noncomputable def IX:Nat->List Nat:=λi=>Nat.rec [1] (λU l=>0::l) i
noncomputable def Gk (k:Nat):List Nat->List Nat:=λl=>YL [] (λa U r=>k*a::r) l
noncomputable def Lx.p:Lx->List Nat:=λx=>Lx.rec (λi=>0::IX i) (λk=>[k]) (λU U x y=>xJ x y) (λU x=>xJ x [1]) (λk U x=>Gk k x) (λU k x=>Gk k x) x
noncomputable def Cx.dot:Cx->List Nat->Nat:=λc=>Cx.rec (λU=>0) (λn U f p=>YL 0 (λk p U=>k*n+f p) p) c
noncomputable def LU:List Nat->List Nat->Bool:=λp=>YL (λU=>true) (λa U f q=>YL (Nat.ble a 0&&f []) (λb q U=>Nat.ble a b&&f q) q) p
noncomputable abbrev Z0:Lx:=.v 0
noncomputable abbrev Z1:Lx:=.v 1
noncomputable abbrev Z2:Lx:=.v 2
noncomputable abbrev Z3:Lx:=.v 3
noncomputable abbrev Y1 (a:Nat):Cx:=.c a .o
noncomputable abbrev Y2 (a b:Nat):Cx:=.c a (.c b .o)
noncomputable abbrev Y3 (a b c:Nat):Cx:=.c a (.c b (.c c .o))
noncomputable abbrev Y4 (a b c d:Nat):Cx:=.c a (.c b (.c c (.c d .o)))
theorem rh {a b c d:Nat} (h:a=b) (k:c=d):a+c=b+d:=h▸k▸rfl
theorem lp:∀(c:Cx) (p q:List Nat),c.dot (xJ p q)=c.dot p+c.dot q:=by
 intro c;induction c with
 | o=>intro p q;rfl
 | c n r ih=>
  intro p q;cases p with
  | nil=>exact (YQ _).symm
  | cons a p=>cases q with
   | nil=>rfl
   | cons b q=>exact (rh (Nat.add_mul a b n) (ih p q)).trans (Nat.add_add_add_comm ..)
theorem CO:∀(c:Cx) (i:Nat),c.dot (IX i)=c.at i:=by
 intro c;induction c with
 | o=>intro i;rfl
 | c n r ih=>intro i;cases i with
  | zero=>
   have h:r.dot []=0:=by cases r<;>rfl
   exact (rh (Nat.one_mul n) h)
  | succ i=>exact (rh (Z7 n) (ih i)).trans (YQ _)
theorem wk (k:Nat):∀(c:Cx) (p:List Nat),c.dot (Gk k p)=k*c.dot p:=by
 intro c;induction c with
 | o=>intro p;rfl
 | c n r ih=>intro p;cases p with
  | nil=>rfl
  | cons a p=>exact (rh (Nat.mul_assoc k a n) (ih p)).trans (Nat.mul_add ..).symm
theorem rj (c:Cx) (x:Lx):(Cx.c 1 c).dot x.p=x.d c:=by
 induction x with
 | v i=>exact (rh (Z7 1) (CO c i)).trans (YQ _)
 | n k=>
  have h:c.dot []=0:=by cases c<;>rfl
  exact (rh (ŏ k) h)
 | a x y h1 h2=>exact (lp ..).trans (rh h1 h2)
 | s x h=>
  have z:c.dot []=0:=by cases c<;>rfl
  exact (lp ..).trans (rh h (rh (ŏ 1) z))
 | m k x h=>exact (wk ..).trans (congrArg (k*·) h)
 | q x k h=>exact (wk ..).trans ((congrArg (k*·) h).trans (Nat.mul_comm ..))
theorem uV:∀(c:Cx) (p q:List Nat),LU p q=true->c.dot p<=c.dot q:=by
 intro c;induction c with
 | o=>intro p q U;exact Ux _
 | c n r ih=>intro p q h;cases p with
  | nil=>exact U3 _
  | cons a p=>cases q with
   | nil=>
    have h:=(UE ..).mp h
    have h1:=ih p [] h.2
    have z:r.dot []=0:=by cases r<;>rfl
    exact Ut (Uq (Ì n (Ui h.1)) (Ut h1 (UI z))) (UI ((Nat.add_zero _).trans (Z7 n)))
   | cons b q=>
    have h:=(UE ..).mp h
    exact Uq (Ì n (Ui h.1)) (ih p q h.2)
theorem aJ (c:Cx) (f g a b:Lx) (h:a.d c<=b.d c) (e:LU (xJ f.p b.p) (xJ g.p a.p)=true):f.d c<=g.d c:=by
 have h1:=uV (.c 1 c) _ _ e
 rw [lp,lp,rj,rj,rj,rj] at h1
 exact Nat.le_of_add_le_add_right (Ut h1 (Nat.add_le_add_left h _))
theorem uO (c:Cx) (f g:Lx) (e:LU f.p g.p=true):f.d c<=g.d c:=by
 have h1:=uV (.c 1 c) _ _ e
 rwa [rj,rj] at h1
theorem Gl {P:Prop} (c:Cx) (a b:Lx) (h:a.d c<=b.d c) (e:LU (xJ (Lx.n 1).p b.p) a.p=true):P:=by
 have h1:=uV (.c 1 c) _ _ e
 rw [lp,rj,rj,rj] at h1
 exact absurd (Ut h1 h) (Nat.not_le_of_gt (Nat.lt_add_of_pos_left Ë))
theorem fK {a b:Bool} (h:(a&&b)=true):a=true/\b=true:=Bool.and_eq_true_iff.mp h
theorem lq {a b c:Bool} (h:(a&&b&&c)=true):(a=true/\b=true)/\c=true:=⟨fK (fK h).1,(fK h).2⟩
theorem Pf {a b:Bool} (h:a=true) (k:b=true):(a&&b)=true:=Bool.and_eq_true_iff.mpr ⟨h,k⟩
theorem IY {a b:Bool} (h:(a||b)=true):a=true\/b=true:=Bool.or_eq_true_iff.mp h
noncomputable def ep {α:Type _} (a:α) (P:α->Prop):α:=@Classical.epsilon α ⟨a⟩ λc=>¬P c
theorem iK {α:Type _}{a:α}{P:α->Prop} (h:P (ep a P)) (c:α):P c:=V9 λn=>@Classical.epsilon_spec α (λc=>¬P c) ⟨c,n⟩ h
@[elab_as_elim] theorem aa {α:Sort _}{a b:α}{motive:α->Prop} (h:a=b) (k:motive b):motive a:=h▸k
@[elab_as_elim] theorem aR {α:Sort _}{a b:α}{motive:α->Prop} (h:b=a) (k:motive b):motive a:=h▸k
@[elab_as_elim] theorem w2 {α β:Sort _}{a b:α}{c d:β}{motive:α->β->Prop} (h:a=b) (i:c=d) (k:motive b d):motive a c:=aa h (aa i k)
@[elab_as_elim] theorem w3 {α β γ:Sort _}{a b:α}{c d:β}{e f:γ}{motive:α->β->γ->Prop} (h:a=b) (i:c=d) (j:e=f) (k:motive b d f):motive a c e:=aa h (aa i (aa j k))
@[elab_as_elim] theorem gL {a b:Prop}{motive:Prop->Prop} (h:a↔b) (k:motive b):motive a:=propext h▸k
theorem aU {p0 p1:Prop}{G:Prop} (h:p0/\p1) (k:p0->p1->G):G:=k h.1 h.2
theorem eg {p0 p1 p2:Prop}{G:Prop} (h:p0/\p1/\p2) (k:p0->p1->p2->G):G:=k h.1 h.2.1 h.2.2
theorem fc {p0 p1 p2:Prop} (h0:p0) (h1:p1) (h2:p2):p0/\p1/\p2:=⟨h0,h1,h2⟩
theorem CQ {p0 p1 p2 p3:Prop}{G:Prop} (h:p0/\p1/\p2/\p3) (k:p0->p1->p2->p3->G):G:=k h.1 h.2.1 h.2.2.1 h.2.2.2
theorem zk {p0 p1 p2 p3:Prop} (h0:p0) (h1:p1) (h2:p2) (h3:p3):p0/\p1/\p2/\p3:=⟨h0,h1,h2,h3⟩
theorem MP {p0 p1 p2 p3 p4:Prop}{G:Prop} (h:p0/\p1/\p2/\p3/\p4) (k:p0->p1->p2->p3->p4->G):G:=k h.1 h.2.1 h.2.2.1 h.2.2.2.1 h.2.2.2.2
theorem QP {p0 p1 p2 p3 p4:Prop} (h0:p0) (h1:p1) (h2:p2) (h3:p3) (h4:p4):p0/\p1/\p2/\p3/\p4:=⟨h0,h1,h2,h3,h4⟩
theorem Pg {p0 p1 p2 p3 p4 p5:Prop}{G:Prop} (h:p0/\p1/\p2/\p3/\p4/\p5) (k:p0->p1->p2->p3->p4->p5->G):G:=k h.1 h.2.1 h.2.2.1 h.2.2.2.1 h.2.2.2.2.1 h.2.2.2.2.2
theorem Ph {p0 p1 p2 p3 p4 p5:Prop} (h0:p0) (h1:p1) (h2:p2) (h3:p3) (h4:p4) (h5:p5):p0/\p1/\p2/\p3/\p4/\p5:=⟨h0,h1,h2,h3,h4,h5⟩
theorem Pj {p0 p1 p2 p3 p4 p5 p6:Prop}{G:Prop} (h:p0/\p1/\p2/\p3/\p4/\p5/\p6) (k:p0->p1->p2->p3->p4->p5->p6->G):G:=k h.1 h.2.1 h.2.2.1 h.2.2.2.1 h.2.2.2.2.1 h.2.2.2.2.2.1 h.2.2.2.2.2.2
theorem QQ {p0 p1 p2 p3 p4 p5 p6:Prop} (h0:p0) (h1:p1) (h2:p2) (h3:p3) (h4:p4) (h5:p5) (h6:p6):p0/\p1/\p2/\p3/\p4/\p5/\p6:=⟨h0,h1,h2,h3,h4,h5,h6⟩
theorem bb {α:Sort _}{p0:α->Prop}{G:Prop} (h:∃x0,p0 x0) (k:∀x0,p0 x0->G):G:=h.elim λx0 h=>k x0 h
theorem aN {α:Sort _}{p0 p1:α->Prop}{G:Prop} (h:∃x0,p0 x0/\p1 x0) (k:∀x0,p0 x0->p1 x0->G):G:=h.elim λx0 h=>k x0 h.1 h.2
theorem i12 {α:Sort _}{p0 p1:α->Prop} (x0:α) (h0:p0 x0) (h1:p1 x0):∃x0,p0 x0/\p1 x0:=⟨x0,h0,h1⟩
theorem i5 {α:Sort _}{p0 p1 p2:α->Prop}{G:Prop} (h:∃x0,p0 x0/\p1 x0/\p2 x0) (k:∀x0,p0 x0->p1 x0->p2 x0->G):G:=h.elim λx0 h=>k x0 h.1 h.2.1 h.2.2
theorem uP {α:Sort _}{p0 p1 p2:α->Prop} (x0:α) (h0:p0 x0) (h1:p1 x0) (h2:p2 x0):∃x0,p0 x0/\p1 x0/\p2 x0:=⟨x0,h0,h1,h2⟩
theorem za {α:Sort _}{p0 p1 p2 p3:α->Prop}{G:Prop} (h:∃x0,p0 x0/\p1 x0/\p2 x0/\p3 x0) (k:∀x0,p0 x0->p1 x0->p2 x0->p3 x0->G):G:=h.elim λx0 h=>k x0 h.1 h.2.1 h.2.2.1 h.2.2.2
theorem Ig {α:Sort _}{p0 p1 p2 p3:α->Prop} (x0:α) (h0:p0 x0) (h1:p1 x0) (h2:p2 x0) (h3:p3 x0):∃x0,p0 x0/\p1 x0/\p2 x0/\p3 x0:=⟨x0,h0,h1,h2,h3⟩
theorem ET {α:Sort _}{p0 p1 p2 p3 p4:α->Prop}{G:Prop} (h:∃x0,p0 x0/\p1 x0/\p2 x0/\p3 x0/\p4 x0) (k:∀x0,p0 x0->p1 x0->p2 x0->p3 x0->p4 x0->G):G:=h.elim λx0 h=>k x0 h.1 h.2.1 h.2.2.1 h.2.2.2.1 h.2.2.2.2
theorem Pk {α:Sort _}{p0 p1 p2 p3 p4:α->Prop} (x0:α) (h0:p0 x0) (h1:p1 x0) (h2:p2 x0) (h3:p3 x0) (h4:p4 x0):∃x0,p0 x0/\p1 x0/\p2 x0/\p3 x0/\p4 x0:=⟨x0,h0,h1,h2,h3,h4⟩
theorem sQ {α:Sort _}{β:Sort _}{p0:α->β->Prop}{G:Prop} (h:∃x0 x1,p0 x0 x1) (k:∀x0 x1,p0 x0 x1->G):G:=h.elim λx0 h=>h.elim λx1 h=>k x0 x1 h
theorem CR {α:Sort _}{β:Sort _}{p0:α->β->Prop} (x0:α) (x1:β) (h0:p0 x0 x1):∃x0 x1,p0 x0 x1:=⟨x0,x1,h0⟩
theorem eQ {α:Sort _}{β:Sort _}{p0 p1:α->β->Prop}{G:Prop} (h:∃x0 x1,p0 x0 x1/\p1 x0 x1) (k:∀x0 x1,p0 x0 x1->p1 x0 x1->G):G:=h.elim λx0 h=>h.elim λx1 h=>k x0 x1 h.1 h.2
theorem jo {α:Sort _}{β:Sort _}{p0 p1:α->β->Prop} (x0:α) (x1:β) (h0:p0 x0 x1) (h1:p1 x0 x1):∃x0 x1,p0 x0 x1/\p1 x0 x1:=⟨x0,x1,h0,h1⟩
theorem eh {α:Sort _}{β:Sort _}{p0 p1 p2:α->β->Prop}{G:Prop} (h:∃x0 x1,p0 x0 x1/\p1 x0 x1/\p2 x0 x1) (k:∀x0 x1,p0 x0 x1->p1 x0 x1->p2 x0 x1->G):G:=h.elim λx0 h=>h.elim λx1 h=>k x0 x1 h.1 h.2.1 h.2.2
theorem i6 {α:Sort _}{β:Sort _}{p0 p1 p2:α->β->Prop} (x0:α) (x1:β) (h0:p0 x0 x1) (h1:p1 x0 x1) (h2:p2 x0 x1):∃x0 x1,p0 x0 x1/\p1 x0 x1/\p2 x0 x1:=⟨x0,x1,h0,h1,h2⟩
theorem qc {α:Sort _}{β:Sort _}{p0 p1 p2 p3:α->β->Prop}{G:Prop} (h:∃x0 x1,p0 x0 x1/\p1 x0 x1/\p2 x0 x1/\p3 x0 x1) (k:∀x0 x1,p0 x0 x1->p1 x0 x1->p2 x0 x1->p3 x0 x1->G):G:=h.elim λx0 h=>h.elim λx1 h=>k x0 x1 h.1 h.2.1 h.2.2.1 h.2.2.2
theorem Ih {α:Sort _}{β:Sort _}{p0 p1 p2 p3:α->β->Prop} (x0:α) (x1:β) (h0:p0 x0 x1) (h1:p1 x0 x1) (h2:p2 x0 x1) (h3:p3 x0 x1):∃x0 x1,p0 x0 x1/\p1 x0 x1/\p2 x0 x1/\p3 x0 x1:=⟨x0,x1,h0,h1,h2,h3⟩
theorem zl {α:Sort _}{β:Sort _}{p0 p1 p2 p3 p4:α->β->Prop}{G:Prop} (h:∃x0 x1,p0 x0 x1/\p1 x0 x1/\p2 x0 x1/\p3 x0 x1/\p4 x0 x1) (k:∀x0 x1,p0 x0 x1->p1 x0 x1->p2 x0 x1->p3 x0 x1->p4 x0 x1->G):G:=h.elim λx0 h=>h.elim λx1 h=>k x0 x1 h.1 h.2.1 h.2.2.1 h.2.2.2.1 h.2.2.2.2
theorem Pl {α:Sort _}{β:Sort _}{p0 p1 p2 p3 p4:α->β->Prop} (x0:α) (x1:β) (h0:p0 x0 x1) (h1:p1 x0 x1) (h2:p2 x0 x1) (h3:p3 x0 x1) (h4:p4 x0 x1):∃x0 x1,p0 x0 x1/\p1 x0 x1/\p2 x0 x1/\p3 x0 x1/\p4 x0 x1:=⟨x0,x1,h0,h1,h2,h3,h4⟩
theorem Gm {α:Sort _}{β:Sort _}{p0 p1 p2 p3 p4 p5:α->β->Prop}{G:Prop} (h:∃x0 x1,p0 x0 x1/\p1 x0 x1/\p2 x0 x1/\p3 x0 x1/\p4 x0 x1/\p5 x0 x1) (k:∀x0 x1,p0 x0 x1->p1 x0 x1->p2 x0 x1->p3 x0 x1->p4 x0 x1->p5 x0 x1->G):G:=h.elim λx0 h=>h.elim λx1 h=>k x0 x1 h.1 h.2.1 h.2.2.1 h.2.2.2.1 h.2.2.2.2.1 h.2.2.2.2.2
theorem MQ {α:Sort _}{β:Sort _}{p0 p1 p2 p3 p4 p5:α->β->Prop} (x0:α) (x1:β) (h0:p0 x0 x1) (h1:p1 x0 x1) (h2:p2 x0 x1) (h3:p3 x0 x1) (h4:p4 x0 x1) (h5:p5 x0 x1):∃x0 x1,p0 x0 x1/\p1 x0 x1/\p2 x0 x1/\p3 x0 x1/\p4 x0 x1/\p5 x0 x1:=⟨x0,x1,h0,h1,h2,h3,h4,h5⟩
theorem IZ {α:Sort _}{β:Sort _}{p0 p1 p2 p3 p4 p5 p6:α->β->Prop}{G:Prop} (h:∃x0 x1,p0 x0 x1/\p1 x0 x1/\p2 x0 x1/\p3 x0 x1/\p4 x0 x1/\p5 x0 x1/\p6 x0 x1) (k:∀x0 x1,p0 x0 x1->p1 x0 x1->p2 x0 x1->p3 x0 x1->p4 x0 x1->p5 x0 x1->p6 x0 x1->G):G:=h.elim λx0 h=>h.elim λx1 h=>k x0 x1 h.1 h.2.1 h.2.2.1 h.2.2.2.1 h.2.2.2.2.1 h.2.2.2.2.2.1 h.2.2.2.2.2.2
theorem QR {α:Sort _}{β:Sort _}{p0 p1 p2 p3 p4 p5 p6:α->β->Prop} (x0:α) (x1:β) (h0:p0 x0 x1) (h1:p1 x0 x1) (h2:p2 x0 x1) (h3:p3 x0 x1) (h4:p4 x0 x1) (h5:p5 x0 x1) (h6:p6 x0 x1):∃x0 x1,p0 x0 x1/\p1 x0 x1/\p2 x0 x1/\p3 x0 x1/\p4 x0 x1/\p5 x0 x1/\p6 x0 x1:=⟨x0,x1,h0,h1,h2,h3,h4,h5,h6⟩
theorem Pm {α:Sort _}{β:Sort _}{γ:Sort _}{p0:α->β->γ->Prop} (x0:α) (x1:β) (x2:γ) (h0:p0 x0 x1 x2):∃x0 x1 x2,p0 x0 x1 x2:=⟨x0,x1,x2,h0⟩
theorem nL {α:Sort _}{β:Sort _}{γ:Sort _}{p0 p1:α->β->γ->Prop}{G:Prop} (h:∃x0 x1 x2,p0 x0 x1 x2/\p1 x0 x1 x2) (k:∀x0 x1 x2,p0 x0 x1 x2->p1 x0 x1 x2->G):G:=h.elim λx0 h=>h.elim λx1 h=>h.elim λx2 h=>k x0 x1 x2 h.1 h.2
theorem CB {α:Sort _}{β:Sort _}{γ:Sort _}{p0 p1:α->β->γ->Prop} (x0:α) (x1:β) (x2:γ) (h0:p0 x0 x1 x2) (h1:p1 x0 x1 x2):∃x0 x1 x2,p0 x0 x1 x2/\p1 x0 x1 x2:=⟨x0,x1,x2,h0,h1⟩
theorem mA {α:Sort _}{β:Sort _}{γ:Sort _}{p0 p1 p2:α->β->γ->Prop}{G:Prop} (h:∃x0 x1 x2,p0 x0 x1 x2/\p1 x0 x1 x2/\p2 x0 x1 x2) (k:∀x0 x1 x2,p0 x0 x1 x2->p1 x0 x1 x2->p2 x0 x1 x2->G):G:=h.elim λx0 h=>h.elim λx1 h=>h.elim λx2 h=>k x0 x1 x2 h.1 h.2.1 h.2.2
theorem CC {α:Sort _}{β:Sort _}{γ:Sort _}{p0 p1 p2:α->β->γ->Prop} (x0:α) (x1:β) (x2:γ) (h0:p0 x0 x1 x2) (h1:p1 x0 x1 x2) (h2:p2 x0 x1 x2):∃x0 x1 x2,p0 x0 x1 x2/\p1 x0 x1 x2/\p2 x0 x1 x2:=⟨x0,x1,x2,h0,h1,h2⟩
theorem MR {α:Sort _}{β:Sort _}{γ:Sort _}{p0 p1 p2 p3:α->β->γ->Prop}{G:Prop} (h:∃x0 x1 x2,p0 x0 x1 x2/\p1 x0 x1 x2/\p2 x0 x1 x2/\p3 x0 x1 x2) (k:∀x0 x1 x2,p0 x0 x1 x2->p1 x0 x1 x2->p2 x0 x1 x2->p3 x0 x1 x2->G):G:=h.elim λx0 h=>h.elim λx1 h=>h.elim λx2 h=>k x0 x1 x2 h.1 h.2.1 h.2.2.1 h.2.2.2
theorem MS {α:Sort _}{β:Sort _}{γ:Sort _}{p0 p1 p2 p3:α->β->γ->Prop} (x0:α) (x1:β) (x2:γ) (h0:p0 x0 x1 x2) (h1:p1 x0 x1 x2) (h2:p2 x0 x1 x2) (h3:p3 x0 x1 x2):∃x0 x1 x2,p0 x0 x1 x2/\p1 x0 x1 x2/\p2 x0 x1 x2/\p3 x0 x1 x2:=⟨x0,x1,x2,h0,h1,h2,h3⟩
theorem QS {α:Sort _}{β:Sort _}{γ:Sort _}{p0 p1 p2 p3 p4:α->β->γ->Prop}{G:Prop} (h:∃x0 x1 x2,p0 x0 x1 x2/\p1 x0 x1 x2/\p2 x0 x1 x2/\p3 x0 x1 x2/\p4 x0 x1 x2) (k:∀x0 x1 x2,p0 x0 x1 x2->p1 x0 x1 x2->p2 x0 x1 x2->p3 x0 x1 x2->p4 x0 x1 x2->G):G:=h.elim λx0 h=>h.elim λx1 h=>h.elim λx2 h=>k x0 x1 x2 h.1 h.2.1 h.2.2.1 h.2.2.2.1 h.2.2.2.2
theorem QT {α:Sort _}{β:Sort _}{γ:Sort _}{p0 p1 p2 p3 p4:α->β->γ->Prop} (x0:α) (x1:β) (x2:γ) (h0:p0 x0 x1 x2) (h1:p1 x0 x1 x2) (h2:p2 x0 x1 x2) (h3:p3 x0 x1 x2) (h4:p4 x0 x1 x2):∃x0 x1 x2,p0 x0 x1 x2/\p1 x0 x1 x2/\p2 x0 x1 x2/\p3 x0 x1 x2/\p4 x0 x1 x2:=⟨x0,x1,x2,h0,h1,h2,h3,h4⟩
theorem LV {α:Sort _}{β:Sort _}{γ:Sort _}{p0 p1 p2 p3 p4 p5:α->β->γ->Prop}{G:Prop} (h:∃x0 x1 x2,p0 x0 x1 x2/\p1 x0 x1 x2/\p2 x0 x1 x2/\p3 x0 x1 x2/\p4 x0 x1 x2/\p5 x0 x1 x2) (k:∀x0 x1 x2,p0 x0 x1 x2->p1 x0 x1 x2->p2 x0 x1 x2->p3 x0 x1 x2->p4 x0 x1 x2->p5 x0 x1 x2->G):G:=h.elim λx0 h=>h.elim λx1 h=>h.elim λx2 h=>k x0 x1 x2 h.1 h.2.1 h.2.2.1 h.2.2.2.1 h.2.2.2.2.1 h.2.2.2.2.2
theorem Pn {α:Sort _}{β:Sort _}{γ:Sort _}{δ:Sort _}{p0:α->β->γ->δ->Prop} (x0:α) (x1:β) (x2:γ) (x3:δ) (h0:p0 x0 x1 x2 x3):∃x0 x1 x2 x3,p0 x0 x1 x2 x3:=⟨x0,x1,x2,x3,h0⟩
theorem jm {α:Sort _}{β:Sort _}{γ:Sort _}{δ:Sort _}{p0 p1:α->β->γ->δ->Prop}{G:Prop} (h:∃x0 x1 x2 x3,p0 x0 x1 x2 x3/\p1 x0 x1 x2 x3) (k:∀x0 x1 x2 x3,p0 x0 x1 x2 x3->p1 x0 x1 x2 x3->G):G:=h.elim λx0 h=>h.elim λx1 h=>h.elim λx2 h=>h.elim λx3 h=>k x0 x1 x2 x3 h.1 h.2
theorem zm {α:Sort _}{β:Sort _}{γ:Sort _}{δ:Sort _}{p0 p1:α->β->γ->δ->Prop} (x0:α) (x1:β) (x2:γ) (x3:δ) (h0:p0 x0 x1 x2 x3) (h1:p1 x0 x1 x2 x3):∃x0 x1 x2 x3,p0 x0 x1 x2 x3/\p1 x0 x1 x2 x3:=⟨x0,x1,x2,x3,h0,h1⟩
theorem CT {α:Sort _}{β:Sort _}{γ:Sort _}{δ:Sort _}{p0 p1 p2:α->β->γ->δ->Prop}{G:Prop} (h:∃x0 x1 x2 x3,p0 x0 x1 x2 x3/\p1 x0 x1 x2 x3/\p2 x0 x1 x2 x3) (k:∀x0 x1 x2 x3,p0 x0 x1 x2 x3->p1 x0 x1 x2 x3->p2 x0 x1 x2 x3->G):G:=h.elim λx0 h=>h.elim λx1 h=>h.elim λx2 h=>h.elim λx3 h=>k x0 x1 x2 x3 h.1 h.2.1 h.2.2
theorem Po {α:Sort _}{β:Sort _}{γ:Sort _}{δ:Sort _}{p0 p1 p2:α->β->γ->δ->Prop} (x0:α) (x1:β) (x2:γ) (x3:δ) (h0:p0 x0 x1 x2 x3) (h1:p1 x0 x1 x2 x3) (h2:p2 x0 x1 x2 x3):∃x0 x1 x2 x3,p0 x0 x1 x2 x3/\p1 x0 x1 x2 x3/\p2 x0 x1 x2 x3:=⟨x0,x1,x2,x3,h0,h1,h2⟩
theorem zo {α:Sort _}{β:Sort _}{γ:Sort _}{δ:Sort _}{p0 p1 p2 p3:α->β->γ->δ->Prop}{G:Prop} (h:∃x0 x1 x2 x3,p0 x0 x1 x2 x3/\p1 x0 x1 x2 x3/\p2 x0 x1 x2 x3/\p3 x0 x1 x2 x3) (k:∀x0 x1 x2 x3,p0 x0 x1 x2 x3->p1 x0 x1 x2 x3->p2 x0 x1 x2 x3->p3 x0 x1 x2 x3->G):G:=h.elim λx0 h=>h.elim λx1 h=>h.elim λx2 h=>h.elim λx3 h=>k x0 x1 x2 x3 h.1 h.2.1 h.2.2.1 h.2.2.2
theorem LW {α:Sort _}{β:Sort _}{γ:Sort _}{δ:Sort _}{p0 p1 p2 p3:α->β->γ->δ->Prop} (x0:α) (x1:β) (x2:γ) (x3:δ) (h0:p0 x0 x1 x2 x3) (h1:p1 x0 x1 x2 x3) (h2:p2 x0 x1 x2 x3) (h3:p3 x0 x1 x2 x3):∃x0 x1 x2 x3,p0 x0 x1 x2 x3/\p1 x0 x1 x2 x3/\p2 x0 x1 x2 x3/\p3 x0 x1 x2 x3:=⟨x0,x1,x2,x3,h0,h1,h2,h3⟩
theorem QU {α:Sort _}{β:Sort _}{γ:Sort _}{δ:Sort _}{ε:Sort _}{p0 p1:α->β->γ->δ->ε->Prop}{G:Prop} (h:∃x0 x1 x2 x3 x4,p0 x0 x1 x2 x3 x4/\p1 x0 x1 x2 x3 x4) (k:∀x0 x1 x2 x3 x4,p0 x0 x1 x2 x3 x4->p1 x0 x1 x2 x3 x4->G):G:=h.elim λx0 h=>h.elim λx1 h=>h.elim λx2 h=>h.elim λx3 h=>h.elim λx4 h=>k x0 x1 x2 x3 x4 h.1 h.2
theorem QV {α:Sort _}{β:Sort _}{γ:Sort _}{δ:Sort _}{ε:Sort _}{p0 p1:α->β->γ->δ->ε->Prop} (x0:α) (x1:β) (x2:γ) (x3:δ) (x4:ε) (h0:p0 x0 x1 x2 x3 x4) (h1:p1 x0 x1 x2 x3 x4):∃x0 x1 x2 x3 x4,p0 x0 x1 x2 x3 x4/\p1 x0 x1 x2 x3 x4:=⟨x0,x1,x2,x3,x4,h0,h1⟩
theorem QW {α:Sort _}{β:Sort _}{γ:Sort _}{δ:Sort _}{ε:Sort _}{p0 p1 p2:α->β->γ->δ->ε->Prop} (x0:α) (x1:β) (x2:γ) (x3:δ) (x4:ε) (h0:p0 x0 x1 x2 x3 x4) (h1:p1 x0 x1 x2 x3 x4) (h2:p2 x0 x1 x2 x3 x4):∃x0 x1 x2 x3 x4,p0 x0 x1 x2 x3 x4/\p1 x0 x1 x2 x3 x4/\p2 x0 x1 x2 x3 x4:=⟨x0,x1,x2,x3,x4,h0,h1,h2⟩
theorem LX {α:Sort _}{β:Sort _}{γ:Sort _}{δ:Sort _}{ε:Sort _}{ζ:Sort _}{p0 p1:α->β->γ->δ->ε->ζ->Prop}{G:Prop} (h:∃x0 x1 x2 x3 x4 x5,p0 x0 x1 x2 x3 x4 x5/\p1 x0 x1 x2 x3 x4 x5) (k:∀x0 x1 x2 x3 x4 x5,p0 x0 x1 x2 x3 x4 x5->p1 x0 x1 x2 x3 x4 x5->G):G:=h.elim λx0 h=>h.elim λx1 h=>h.elim λx2 h=>h.elim λx3 h=>h.elim λx4 h=>h.elim λx5 h=>k x0 x1 x2 x3 x4 x5 h.1 h.2
theorem Pp {α:Sort _}{β:Sort _}{γ:Sort _}{δ:Sort _}{ε:Sort _}{ζ:Sort _}{p0 p1:α->β->γ->δ->ε->ζ->Prop} (x0:α) (x1:β) (x2:γ) (x3:δ) (x4:ε) (x5:ζ) (h0:p0 x0 x1 x2 x3 x4 x5) (h1:p1 x0 x1 x2 x3 x4 x5):∃x0 x1 x2 x3 x4 x5,p0 x0 x1 x2 x3 x4 x5/\p1 x0 x1 x2 x3 x4 x5:=⟨x0,x1,x2,x3,x4,x5,h0,h1⟩
abbrev MT {τ:Sort _} (f:τ) (p0:Prop) (y:τ):Prop:=y=f/\p0
@[elab_as_elim] theorem MU {τ:Sort _}{f:τ}{p0:Prop}{y:τ}{motive:τ->Prop} (h:MT f p0 y) (k:p0->motive f):motive y:=aa (motive:=motive) h.1 (k h.2)
abbrev MV {α:Sort _}{τ:Sort _} (f:α->τ) (y:τ):Prop:=∃x0,y=f x0
@[elab_as_elim] theorem I6 {α:Sort _}{τ:Sort _}{f:α->τ}{y:τ}{motive:τ->Prop} (h:MV f y) (k:∀x0,motive (f x0)):motive y:=h.elim λx0 h=>aa (motive:=motive) h (k x0)
abbrev MW {α:Sort _}{τ:Sort _} (f:α->τ) (p0:α->Prop) (y:τ):Prop:=∃x0,y=f x0/\p0 x0
@[elab_as_elim] theorem Pq {α:Sort _}{τ:Sort _}{f:α->τ}{p0:α->Prop}{y:τ}{motive:τ->Prop} (h:MW f p0 y) (k:∀x0,p0 x0->motive (f x0)):motive y:=h.elim λx0 h=>aa (motive:=motive) h.1 (k x0 h.2)
abbrev MX {α:Sort _}{β:Sort _}{τ:Sort _} (f:α->β->τ) (p0:α->β->Prop) (y:τ):Prop:=∃x0 x1,y=f x0 x1/\p0 x0 x1
@[elab_as_elim] theorem uW {α:Sort _}{β:Sort _}{τ:Sort _}{f:α->β->τ}{p0:α->β->Prop}{y:τ}{motive:τ->Prop} (h:MX f p0 y) (k:∀x0 x1,p0 x0 x1->motive (f x0 x1)):motive y:=h.elim λx0 h=>h.elim λx1 h=>aa (motive:=motive) h.1 (k x0 x1 h.2)
abbrev MY {α:Sort _}{β:Sort _}{τ:Sort _} (f:α->β->τ) (p0:α->β->Prop) (p1:α->β->Prop) (y:τ):Prop:=∃x0 x1,y=f x0 x1/\p0 x0 x1/\p1 x0 x1
@[elab_as_elim] theorem Pr {α:Sort _}{β:Sort _}{τ:Sort _}{f:α->β->τ}{p0 p1:α->β->Prop}{y:τ}{motive:τ->Prop} (h:MY f p0 p1 y) (k:∀x0 x1,p0 x0 x1->p1 x0 x1->motive (f x0 x1)):motive y:=h.elim λx0 h=>h.elim λx1 h=>aa (motive:=motive) h.1 (k x0 x1 h.2.1 h.2.2)
abbrev MZ {α:Sort _}{β:Sort _}{γ:Sort _}{τ:Sort _} (f:α->β->γ->τ) (p0:α->β->γ->Prop) (y:τ):Prop:=∃x0 x1 x2,y=f x0 x1 x2/\p0 x0 x1 x2
@[elab_as_elim] theorem lk {α:Sort _}{β:Sort _}{γ:Sort _}{τ:Sort _}{f:α->β->γ->τ}{p0:α->β->γ->Prop}{y:τ}{motive:τ->Prop} (h:MZ f p0 y) (k:∀x0 x1 x2,p0 x0 x1 x2->motive (f x0 x1 x2)):motive y:=h.elim λx0 h=>h.elim λx1 h=>h.elim λx2 h=>aa (motive:=motive) h.1 (k x0 x1 x2 h.2)
abbrev M0 {α:Sort _}{β:Sort _}{γ:Sort _}{δ:Sort _}{τ:Sort _} (f:α->β->γ->δ->τ) (p0:α->β->γ->δ->Prop) (y:τ):Prop:=∃x0 x1 x2 x3,y=f x0 x1 x2 x3/\p0 x0 x1 x2 x3
@[elab_as_elim] theorem Gn {α:Sort _}{β:Sort _}{γ:Sort _}{δ:Sort _}{τ:Sort _}{f:α->β->γ->δ->τ}{p0:α->β->γ->δ->Prop}{y:τ}{motive:τ->Prop} (h:M0 f p0 y) (k:∀x0 x1 x2 x3,p0 x0 x1 x2 x3->motive (f x0 x1 x2 x3)):motive y:=h.elim λx0 h=>h.elim λx1 h=>h.elim λx2 h=>h.elim λx3 h=>aa (motive:=motive) h.1 (k x0 x1 x2 x3 h.2)
abbrev M1 {α:Sort _}{β:Sort _}{γ:Sort _}{δ:Sort _}{τ:Sort _} (f:α->β->γ->δ->τ) (p0:α->β->γ->δ->Prop) (p1:α->β->γ->δ->Prop) (y:τ):Prop:=∃x0 x1 x2 x3,y=f x0 x1 x2 x3/\p0 x0 x1 x2 x3/\p1 x0 x1 x2 x3
@[elab_as_elim] theorem Pt {α:Sort _}{β:Sort _}{γ:Sort _}{δ:Sort _}{τ:Sort _}{f:α->β->γ->δ->τ}{p0 p1:α->β->γ->δ->Prop}{y:τ}{motive:τ->Prop} (h:M1 f p0 p1 y) (k:∀x0 x1 x2 x3,p0 x0 x1 x2 x3->p1 x0 x1 x2 x3->motive (f x0 x1 x2 x3)):motive y:=h.elim λx0 h=>h.elim λx1 h=>h.elim λx2 h=>h.elim λx3 h=>aa (motive:=motive) h.1 (k x0 x1 x2 x3 h.2.1 h.2.2)
abbrev M3 {α:Sort _}{β:Sort _}{γ:Sort _}{δ:Sort _}{τ:Sort _} (f:α->β->γ->δ->τ) (p0:α->β->γ->δ->Prop) (p1:α->β->γ->δ->Prop) (p2:α->β->γ->δ->Prop) (y:τ):Prop:=∃x0 x1 x2 x3,y=f x0 x1 x2 x3/\p0 x0 x1 x2 x3/\p1 x0 x1 x2 x3/\p2 x0 x1 x2 x3
@[elab_as_elim] theorem Ii {α:Sort _}{β:Sort _}{γ:Sort _}{δ:Sort _}{τ:Sort _}{f:α->β->γ->δ->τ}{p0 p1 p2:α->β->γ->δ->Prop}{y:τ}{motive:τ->Prop} (h:M3 f p0 p1 p2 y) (k:∀x0 x1 x2 x3,p0 x0 x1 x2 x3->p1 x0 x1 x2 x3->p2 x0 x1 x2 x3->motive (f x0 x1 x2 x3)):motive y:=h.elim λx0 h=>h.elim λx1 h=>h.elim λx2 h=>h.elim λx3 h=>aa (motive:=motive) h.1 (k x0 x1 x2 x3 h.2.1 h.2.2.1 h.2.2.2)
abbrev M4 {α:Sort _}{β:Sort _}{γ:Sort _}{δ:Sort _}{ε:Sort _}{τ:Sort _} (f:α->β->γ->δ->ε->τ) (p0:α->β->γ->δ->ε->Prop) (y:τ):Prop:=∃x0 x1 x2 x3 x4,y=f x0 x1 x2 x3 x4/\p0 x0 x1 x2 x3 x4
@[elab_as_elim] theorem QX {α:Sort _}{β:Sort _}{γ:Sort _}{δ:Sort _}{ε:Sort _}{τ:Sort _}{f:α->β->γ->δ->ε->τ}{p0:α->β->γ->δ->ε->Prop}{y:τ}{motive:τ->Prop} (h:M4 f p0 y) (k:∀x0 x1 x2 x3 x4,p0 x0 x1 x2 x3 x4->motive (f x0 x1 x2 x3 x4)):motive y:=h.elim λx0 h=>h.elim λx1 h=>h.elim λx2 h=>h.elim λx3 h=>h.elim λx4 h=>aa (motive:=motive) h.1 (k x0 x1 x2 x3 x4 h.2)
abbrev M5 {α:Sort _}{β:Sort _}{γ:Sort _}{δ:Sort _}{ε:Sort _}{τ:Sort _} (f:α->β->γ->δ->ε->τ) (p0:α->β->γ->δ->ε->Prop) (p1:α->β->γ->δ->ε->Prop) (p2:α->β->γ->δ->ε->Prop) (p3:α->β->γ->δ->ε->Prop) (y:τ):Prop:=∃x0 x1 x2 x3 x4,y=f x0 x1 x2 x3 x4/\p0 x0 x1 x2 x3 x4/\p1 x0 x1 x2 x3 x4/\p2 x0 x1 x2 x3 x4/\p3 x0 x1 x2 x3 x4
@[elab_as_elim] theorem QY {α:Sort _}{β:Sort _}{γ:Sort _}{δ:Sort _}{ε:Sort _}{τ:Sort _}{f:α->β->γ->δ->ε->τ}{p0 p1 p2 p3:α->β->γ->δ->ε->Prop}{y:τ}{motive:τ->Prop} (h:M5 f p0 p1 p2 p3 y) (k:∀x0 x1 x2 x3 x4,p0 x0 x1 x2 x3 x4->p1 x0 x1 x2 x3 x4->p2 x0 x1 x2 x3 x4->p3 x0 x1 x2 x3 x4->motive (f x0 x1 x2 x3 x4)):motive y:=h.elim λx0 h=>h.elim λx1 h=>h.elim λx2 h=>h.elim λx3 h=>h.elim λx4 h=>aa (motive:=motive) h.1 (k x0 x1 x2 x3 x4 h.2.1 h.2.2.1 h.2.2.2.1 h.2.2.2.2)
end
end Mine.Internal
namespace Mine.Internal
noncomputable section
noncomputable def I7:List Uz:=[Uj "BOOL",Uj "BY_ARGUMENTS",Uj "VALUE_OPS",Uj "a",Uj "add_term",Uj "apart",Uj "app",Uj "arg_sorts",Uj "args",Uj "b",Uj "back",Uj "bank",Uj "bv_numbers",Uj "chain",Uj "child",Uj "clash",Uj "clash_level",Uj "close",Uj "data",Uj "declare_fun",Uj "declare_sort",Uj "due",Uj "edge",Uj "edges_between",Uj "engine",Uj "enter",Uj "entered",Uj "entry",Uj "f",Uj "false_number",Uj "first",Uj "found",Uj "fresh",Uj "fresh_const",Uj "fresh_count",Uj "fun_args",Uj "fun_names",Uj "fun_results",Uj "g",Uj "hang",Uj "here",Uj "home",Uj "homes",Uj "inner",Uj "join",Uj "k",Uj "key",Uj "kind",Uj "lap",Uj "large",Uj "late",Uj "left",Uj "lengths",Uj "line",Uj "look_up",Uj "make",Uj "many",Uj "mark",Uj "marks",Uj "members",Uj "merge",Uj "missing",Uj "moved",Uj "n",Uj "name",Uj "news",Uj "numbers",Uj "one",Uj "op",Uj "other",Uj "outer",Uj "part",Uj "pop_levels",Uj "push_level",Uj "queue",Uj "reason",Uj "reasons",Uj "result",Uj "right",Uj "root",Uj "s",Uj "script",Uj "second",Uj "self",Uj "sides",Uj "signature",Uj "small",Uj "some",Uj "sort",Uj "sort_names",Uj "sort_widths",Uj "sorts",Uj "spot",Uj "spots",Uj "stack",Uj "t",Uj "table",Uj "take_off",Uj "tape",Uj "tell_class",Uj "term_args",Uj "term_datas",Uj "term_ops",Uj "term_sorts",Uj "terms",Uj "told",Uj "top",Uj "torn",Uj "trail",Uj "true_number",Uj "turn",Uj "undo",Uj "up",Uj "uses",Uj "value",Uj "want",Uj "wanted",Uj "watched",Uj "watchers",Uj "way",Uj "where",Uj "why",Uj "wide",Uj "world",Uj "x",Uj "y"]
noncomputable abbrev Nm:=Fin 126
noncomputable def Nm.mB:Nm:=0
noncomputable def Nm.dm:Nm:=1
noncomputable def Nm.gM:Nm:=2
noncomputable def Nm.jn:Nm:=3
noncomputable def Nm.gj:Nm:=4
noncomputable def Nm.dR:Nm:=5
noncomputable def Nm.zp:Nm:=6
noncomputable def Nm.mZ:Nm:=7
noncomputable def Nm.mC:Nm:=8
noncomputable def Nm.mD:Nm:=9
noncomputable def Nm.rk:Nm:=10
noncomputable def Nm.cf:Nm:=11
noncomputable def Nm.dZ:Nm:=12
noncomputable def Nm.jV:Nm:=13
noncomputable def Nm.dg:Nm:=14
noncomputable def Nm.fX:Nm:=15
noncomputable def Nm.et:Nm:=16
noncomputable def Nm.nS:Nm:=17
noncomputable def Nm.oo:Nm:=18
noncomputable def Nm.g8:Nm:=19
noncomputable def Nm.jq:Nm:=20
noncomputable def Nm.ky:Nm:=21
noncomputable def Nm.cO:Nm:=22
noncomputable def Nm.i7:Nm:=23
noncomputable def Nm.aT:Nm:=24
noncomputable def Nm.rp:Nm:=25
noncomputable def Nm.gg:Nm:=26
noncomputable def Nm.cK:Nm:=27
noncomputable def Nm.EU:Nm:=28
noncomputable def Nm.eS:Nm:=29
noncomputable def Nm.rA:Nm:=30
noncomputable def Nm.bY:Nm:=31
noncomputable def Nm.jW:Nm:=32
noncomputable def Nm.g9:Nm:=33
noncomputable def Nm.hH:Nm:=34
noncomputable def Nm.eA:Nm:=35
noncomputable def Nm.cQ:Nm:=36
noncomputable def Nm.cV:Nm:=37
noncomputable def Nm.Pu:Nm:=38
noncomputable def Nm.zq:Nm:=39
noncomputable def Nm.aV:Nm:=40
noncomputable def Nm.gm:Nm:=41
noncomputable def Nm.gN:Nm:=42
noncomputable def Nm.eT:Nm:=43
noncomputable def Nm.zr:Nm:=44
noncomputable def Nm.LY:Nm:=45
noncomputable def Nm.zu:Nm:=46
noncomputable def Nm.kG:Nm:=47
noncomputable def Nm.ot:Nm:=48
noncomputable def Nm.br:Nm:=49
noncomputable def Nm.jr:Nm:=50
noncomputable def Nm.dy:Nm:=51
noncomputable def Nm.fv:Nm:=52
noncomputable def Nm.mE:Nm:=53
noncomputable def Nm.jX:Nm:=54
noncomputable def Nm.ou:Nm:=55
noncomputable def Nm.fw:Nm:=56
noncomputable def Nm.jt:Nm:=57
noncomputable def Nm.aQ:Nm:=58
noncomputable def Nm.bQ:Nm:=59
noncomputable def Nm.rB:Nm:=60
noncomputable def Nm.jY:Nm:=61
noncomputable def Nm.lu:Nm:=62
noncomputable def Nm.Ij:Nm:=63
noncomputable def Nm.ju:Nm:=64
noncomputable def Nm.hJ:Nm:=65
noncomputable def Nm.gh:Nm:=66
noncomputable def Nm.m8:Nm:=67
noncomputable def Nm.xK:Nm:=68
noncomputable def Nm.dh:Nm:=69
noncomputable def Nm.lA:Nm:=70
noncomputable def Nm.iL:Nm:=71
noncomputable def Nm.iM:Nm:=72
noncomputable def Nm.iN:Nm:=73
noncomputable def Nm.dz:Nm:=74
noncomputable def Nm.dp:Nm:=75
noncomputable def Nm.fx:Nm:=76
noncomputable def Nm.sR:Nm:=77
noncomputable def Nm.cR:Nm:=78
noncomputable def Nm.a9:Nm:=79
noncomputable def Nm.CU:Nm:=80
noncomputable def Nm.jv:Nm:=81
noncomputable def Nm.ox:Nm:=82
noncomputable def Nm.ae:Nm:=83
noncomputable def Nm.lB:Nm:=84
noncomputable def Nm.jw:Nm:=85
noncomputable def Nm.cS:Nm:=86
noncomputable def Nm.fL:Nm:=87
noncomputable def Nm.iO:Nm:=88
noncomputable def Nm.dE:Nm:=89
noncomputable def Nm.eu:Nm:=90
noncomputable def Nm.lC:Nm:=91
noncomputable def Nm.bN:Nm:=92
noncomputable def Nm.jZ:Nm:=93
noncomputable def Nm.iP:Nm:=94
noncomputable def Nm.cW:Nm:=95
noncomputable def Nm.fE:Nm:=96
noncomputable def Nm.oy:Nm:=97
noncomputable def Nm.bO:Nm:=98
noncomputable def Nm.lD:Nm:=99
noncomputable def Nm.eF:Nm:=100
noncomputable def Nm.d5:Nm:=101
noncomputable def Nm.eB:Nm:=102
noncomputable def Nm.dF:Nm:=103
noncomputable def Nm.bu:Nm:=104
noncomputable def Nm.dO:Nm:=105
noncomputable def Nm.EV:Nm:=106
noncomputable def Nm.zv:Nm:=107
noncomputable def Nm.cL:Nm:=108
noncomputable def Nm.fF:Nm:=109
noncomputable def Nm.uX:Nm:=110
noncomputable def Nm.zw:Nm:=111
noncomputable def Nm.hS:Nm:=112
noncomputable def Nm.eC:Nm:=113
noncomputable def Nm.di:Nm:=114
noncomputable def Nm.zx:Nm:=115
noncomputable def Nm.jx:Nm:=116
noncomputable def Nm.gi:Nm:=117
noncomputable def Nm.b5:Nm:=118
noncomputable def Nm.i8:Nm:=119
noncomputable def Nm.wo:Nm:=120
noncomputable def Nm.oz:Nm:=121
noncomputable def Nm.rC:Nm:=122
noncomputable def Nm.aL:Nm:=123
noncomputable def Nm.I8:Nm:=124
noncomputable def Nm.I9:Nm:=125
noncomputable abbrev Fn:=Fin 37
noncomputable def Fn.Ja:Fn:=0
noncomputable def Fn.fj:Fn:=1
noncomputable def Fn.aI:Fn:=2
noncomputable def Fn.b6:Fn:=3
noncomputable def Fn.dq:Fn:=4
noncomputable def Fn.a7:Fn:=5
noncomputable def Fn.gn:Fn:=6
noncomputable def Fn.jy:Fn:=7
noncomputable def Fn.eG:Fn:=8
noncomputable def Fn.eH:Fn:=9
noncomputable def Fn.cM:Fn:=10
noncomputable def Fn.gp:Fn:=11
noncomputable def Fn.gq:Fn:=12
noncomputable def Fn.gu:Fn:=13
noncomputable def Fn.fU:Fn:=14
noncomputable def Fn.m9:Fn:=15
noncomputable def Fn.cq:Fn:=16
noncomputable def Fn.hU:Fn:=17
noncomputable def Fn.dG:Fn:=18
noncomputable def Fn.cD:Fn:=19
noncomputable def Fn.gO:Fn:=20
noncomputable def Fn.gv:Fn:=21
noncomputable def Fn.sS:Fn:=22
noncomputable def Fn.cF:Fn:=23
noncomputable def Fn.gP:Fn:=24
noncomputable def Fn.fH:Fn:=25
noncomputable def Fn.qd:Fn:=26
noncomputable def Fn.gQ:Fn:=27
noncomputable def Fn.gR:Fn:=28
noncomputable def Fn.nf:Fn:=29
noncomputable def Fn.eI:Fn:=30
noncomputable def Fn.gS:Fn:=31
noncomputable def Fn.fI:Fn:=32
noncomputable def Fn.fm:Fn:=33
noncomputable def Fn.gT:Fn:=34
noncomputable def Fn.eU:Fn:=35
noncomputable def Fn.ng:Fn:=36
noncomputable def Jb:List String:=["law","","","","_law_all_right","_law_draw","","_law_told","","","","","","","","","_law_tree","_law_is_way","","","","","","","","","","","","","","","","","","",""]
inductive kA where | ak | av
 deriving DecidableEq
noncomputable def Nm.str (x:Nm):Uz:=I7.getD x.val (Uj "")
noncomputable def wq:kA->List (Nm×Fn)
 | .ak=>[(.gj,.cM),(.nS,.dG),(.i7,.cF),(.rp,.cD),(.zq,.gT),(.eT,.gv),(.zr,.gP),(.fv,.fI),(.jX,.fH),(.rB,.gn),(.iL,.gQ),(.iM,.eH),(.iN,.eG),(.jw,.eU),(.oy,.fm),(.lD,.eI),(.zv,.gS),(.uX,.gR),(.zw,.gO)]
 | .av=>[(.zp,.gp),(.mC,.nf),(.oo,.ng),(.g8,.gq),(.jq,.fU),(.g9,.gu),(.ou,.m9),(.xK,.qd),(.zx,.sS)]
inductive V where
 | none | bool (b:Bool) | int (i:Int) | str (s:List Nat) | ref (n:Nat) | nil | cons (h t:V)
 deriving DecidableEq
noncomputable def V.tup:List V->V
 | []=>.nil
 | x::r=>.cons x (V.tup r)
noncomputable def V.items:V->Option (List V)
 | .nil=>some []
 | .cons h t=>(V.items t).map (h::·)
 | _=>UB
inductive O where
 | list (l:List V) | dict (d:List (V×V)) | inst (c:kA) (fs:List (Nm×V)) | args (l:List V)
 deriving DecidableEq
structure St where
 next:Nat
 get:Nat->Option O
noncomputable abbrev Loc:=Nm->Option V
noncomputable def Loc.set (l:Loc) (x:Nm) (v:V):Loc:=λy=>if y=x then some v else l y
noncomputable def St.set (σ:St) (a:Nat) (o:O):St:=⟨σ.next,λb=>if b=a then some o else σ.get b⟩
noncomputable def St.push (σ:St) (o:O):St:=⟨σ.next+1,λb=>if b=σ.next then some o else σ.get b⟩
noncomputable def dj:Nat:=10000000
noncomputable def WF:Nat:=10000
inductive Ik where | add | sub | mul | mod
 deriving DecidableEq
inductive Gp where | eq | ne | lt | gt | le | isin | gU
 deriving DecidableEq
set_option genCtorIdx false in
inductive Tg where | one (x:Nm) | many (xs:List Nm)
set_option genCtorIdx false in
mutual
inductive E where
 | nm (x:Nm) | glob (x:Nm) | int (i:Int) | neg (i:Int) | str (s:List Nat) | none | bool (b:Bool)
 | attr (e:E) (x:Nm) | sub (a i:E) | sliceTo (a i:E) | sliceFrom (a i:E) | rev (a:E)
 | call (f:Fn) (as:Es) | aY (o:E) (m:Nm) (as:Es) | new (c:kA) (as:Es) | ir
 | bin (op:Ik) (a b:E) | cmp (op:Gp) (a b:E) | isNone (a:E) | isNotNone (a:E)
 | bW (QZ:Bool) (es:Es) | not (a:E) | ite (c a b:E)
 | list (es:Es) | tup (es:Es) | dict (ps:Ps) | comp (elt:E) (t:Tg) (it:It) (ifs:Es)
 | len (a:E) | listOf (i:It) | fo (i:It) | dictOf (i:It) | sorted (i:It)
 | strOf (a:E)
 | append (o x:E) | extend (o x:E) | pop (o:E) | oA (o k:E) | rD (o k d:E)
 | bad
inductive Es where
 | nil | cons (e:E) (r:Es)
inductive Ps where
 | nil | cons (k v:E) (r:Ps)
inductive It where
 | of (e:E) | range (e:E) | zip (a b:E) | items (a:E)
end
set_option genCtorIdx false in
mutual
inductive S where
 | expr (e:E) | bV (x:Nm) (e:E) | unpack (xs:List Nm) (e:E) | setattr (o:E) (x:Nm) (e:E) | bw (o k e:E)
 | ite (c:E) (a b:Ss) | while (c:E) (b:Ss) | for (t:Tg) (it:It) (b:Ss) | ret (e:E) | lE | del (o k:E) | pass | bad
inductive Ss where
 | nil | cons (s:S) (r:Ss)
end
set_option genCtorIdx false in
inductive Fl where | next | ret (v:V)
def aC {α:Type}:Option α->(α->Prop)->Prop
 | some a,f=>f a
 | UB,_=>False
@[simp] theorem Il {α:Type} (a:α) (f:α->Prop):aC (some a) f=f a:=rfl
theorem ah {α:Type}{o:Option α}{a:α}{f:α->Prop} (h:o=some a) (q:f a):aC o f:=by refine aa h ?_;exact q
theorem ai {α:Type}{o:Option α}{f:α->Prop} (h:aC o f):∃a,o=some a/\f a:=by
 cases o with
 | none=>exact h.elim
 | some a=>exact i12 a rfl h
def ei:Bool->Prop->Prop
 | true,p=>p
 | false,_=>False
theorem CV {b:Bool}{p:Prop}:ei b p↔b=true/\p:=by cases b<;>simp [ei]
theorem aq {b:Bool}{p:Prop} (h:b=true) (q:p):ei b p:=by refine aa h ?_;exact q
theorem bP {c:Prop} [Decidable c] {p:Prop} (h:c) (q:p):ei (decide c) p:=aq (decide_eq_true h) q
theorem bE {b:Bool}{p:Prop} (h:ei b p):b=true/\p:=CV.mp h
theorem bp {c:Prop} [Decidable c] {p:Prop} (h:ei (decide c) p):c/\p:=⟨of_decide_eq_true (bE h).1,(bE h).2⟩
noncomputable def listAt (σ:St):V->Option (Nat×List V)
 | .ref n=>match σ.get n with
  | some (.list l)=>some (n,l)
  | _=>UB
 | _=>UB
noncomputable def itemsOf (σ:St):V->Option (List V)
 | .ref n=>match σ.get n with
  | some (.list l)=>some l
  | some (.args l)=>some l
  | _=>UB
 | _=>UB
noncomputable def dictAt (σ:St):V->Option (Nat×List (V×V))
 | .ref n=>match σ.get n with
  | some (.dict d)=>some (n,d)
  | _=>UB
 | _=>UB
noncomputable def eD (σ:St):V->Option (Nat×kA×List (Nm×V))
 | .ref n=>match σ.get n with
  | some (.inst c fs)=>some (n,c,fs)
  | _=>UB
 | _=>UB
noncomputable def eJ:V->Option Int
 | .int i=>some i
 | _=>UB
noncomputable def bc:V->Option Bool
 | .bool b=>some b
 | _=>UB
noncomputable def lF (fs:List (Nm×V)) (x:Nm):Option V:=(fs.find? λp=>decide (p.1=x)).map (·.2)
noncomputable def fM (fs:List (Nm×V)) (x:Nm) (v:V):List (Nm×V):=
 if fs.any (λp=>decide (p.1=x)) then fs.map (λp=>if p.1=x then (p.1,v) else p) else fs++ [(x,v)]
noncomputable def ag (d:List (V×V)) (k:V):Option V:=(d.find? λp=>decide (p.1=k)).map (·.2)
noncomputable def dput (d:List (V×V)) (k v:V):List (V×V):=
 if d.any (λp=>decide (p.1=k)) then d.map (λp=>if p.1=k then (p.1,v) else p) else d++ [(k,v)]
noncomputable def ej (d:List (V×V)) (k:V):List (V×V):=d.filter λp=>decide (p.1≠k)
noncomputable def idx (l:List V) (i:Int):Option V:=if 0<=i then l[i.toNat]? else if 0<=i+l.length then l[(i+l.length).toNat]? else UB
noncomputable def V.flat:V->Bool
 | .int _=>true | .str _=>true | _=>false
noncomputable def V.chain (p:V->Bool):V->Bool
 | .nil=>true
 | .cons h t=>p h&&V.chain p t
 | _=>false
noncomputable def V.kind:V->Option Nat
 | .int _=>some 0
 | .str _=>some 1
 | .nil=>some 2
 | .cons h t=>if V.chain (λv=>v.flat||V.chain V.flat v) (.cons h t) then some 2 else UB
 | _=>UB
noncomputable def keyOk (d:List (V×V)) (k:V):Bool:=match k.kind with
 | UB=>false
 | some n=>match d with
  | []=>true
  | p::_=>decide (p.1.kind=some n)
noncomputable def subAt (σ:St) (a i:V):Option V:=match a with
 | .ref n=>match σ.get n with
  | some (.list l)=>(eJ i).bind (idx l)
  | some (.dict d)=>if keyOk d i then ag d i else UB
  | _=>UB
 | _=>a.items.bind λl=>if l.length<=1000 then (eJ i).bind (idx l) else UB
noncomputable def i9 (σ:St) (a:V):Option Nat:=match a with
 | .ref n=>match σ.get n with
  | some (.list l)=>some l.length
  | some (.dict d)=>some d.length
  | _=>UB
 | _=>a.items.bind λl=>if l.length<=1000 then some l.length else UB
noncomputable def eE:V->Option Vg
 | .none=>some .none
 | .bool b=>some (.bool b)
 | .int i=>some (.int i)
 | .str x=>some (.str ⟨x.toArray⟩)
 | .nil=>some (.tuple [])
 | .cons h t=>match eE h,eE t with
  | some p,some (.tuple r)=>some (.tuple (p::r))
  | _,_=>UB
 | .ref _=>UB
noncomputable def gJ (f:V->Option Vg):List V->Option (List Vg)
 | []=>some []
 | x::r=>match f x,gJ f r with
  | some p,some q=>some (p::q)
  | _,_=>UB
noncomputable def ew (σ:St):Nat->V->Option Vg
 | n+1,.ref a=>match σ.get a with
  | some (.list l)=>(gJ (ew σ n) l).map Xc
  | _=>UB
 | _,v=>eE v
noncomputable def kH (p:Vg):Bool:=p.canLay0&&decide (p.depth<=20)
noncomputable def M6 (p q:Vg):Option Bool:=if kH p&&kH q then some (ZD p q) else UB
noncomputable def wu (p q:Option Vg):Option Bool:=match p,q with
 | some p,some q=>M6 p q
 | _,_=>UB
noncomputable def uQ (d:List (V×V)):List (V×V)->Option Bool
 | []=>some true
 | p::r=>if keyOk d p.1 then (match ag d p.1 with
  | UB=>some false
  | some v=>match wu (eE p.2) (eE v) with
   | some true=>uQ d r
   | some false=>some false
   | UB=>UB) else UB
noncomputable def xM (σ:St) (a b:V):Option Bool:=match dictAt σ a,dictAt σ b with
 | some x,some y=>if x.2.length=y.2.length then (if x.1=y.1 then UB else uQ y.2 x.2) else some false
 | _,_=>wu (ew σ 4 a) (ew σ 4 b)
noncomputable def rE (l:Option (List Vg)) (x:Option Vg):Option Bool:=match l,x with
 | some l,some x=>if l.all kH&&kH x then some (l.any λy=>ZD y x) else UB
 | _,_=>UB
noncomputable def isin (σ:St) (x c:V):Option Bool:=match c with
 | .ref n=>match σ.get n with
  | some (.dict d)=>if keyOk d x then some (ag d x).isSome else UB
  | some (.list l)=>rE (gJ (ew σ 3) l) (ew σ 3 x)
  | _=>UB
 | _=>c.items.bind λl=>rE (gJ eE l) (eE x)
set_option genCtorIdx false in
inductive Gd where
 | free | obj (n:Nat) (o:O) | two (g g':Gd)
noncomputable def Gd.ok:Gd->St->Bool
 | .free,_=>true
 | .obj n o,σ=>decide (σ.get n=some o)
 | .two g g',σ=>g.ok σ&&g'.ok σ
noncomputable def Gd.bound:Gd->Bool
 | .free=>false
 | _=>true
noncomputable def cG (σ:St) (v:V):Option (List V×Gd):=match v with
 | .ref n=>match σ.get n with
  | some (.list l)=>some (l,.obj n (.list l))
  | _=>UB
 | _=>v.items.map λl=>(l,.free)
noncomputable def mF (n:Int):List V:=(VG n.toNat).map λ(i:Nat)=>V.int (i:Int)
noncomputable def bq:List Nm->List V->Loc->Option Loc
 | [],[],l=>some l
 | x::xs,v::vs,l=>bq xs vs (l.set x v)
 | _,_,_=>UB
noncomputable def gV (σ:St):V->Option (List V)
 | .ref n=>match σ.get n with
  | some (.list l)=>some l
  | _=>UB
 | v=>v.items
noncomputable def kB:Tg->V->Loc->Option Loc
 | .one x,v,l=>some (l.set x v)
 | .many xs,v,l=>v.items.bind λvs=>bq xs vs l
noncomputable def zy:List Nm->List V->Option Loc
 | [],[]=>some λU=>UB
 | xs,vs=>bq xs vs λU=>UB
noncomputable def isInt:V->Bool
 | .int _=>true
 | _=>false
noncomputable def fG:V->Option Int
 | .cons (.int a) _=>some a
 | _=>UB
noncomputable def sortable (l:List V):Bool:=decide (l.length<64)&&(l.all isInt||(l.all (λv=>(fG v).isSome)&&decide (l.map fG).Nodup))
def fY (xs ys:List V):Prop:=if xs.all isInt=true then∃ns zA:List Int,xs=ns.map V.int/\ys=zA.map V.int/\zA.Perm ns/\zA.Pairwise (· <=·) else ys.Perm xs
noncomputable def xN (f:Int->Int->Option V) (a b:V):Option V:=(eJ a).bind λx=>(eJ b).bind λy=>f x y
noncomputable def Gq (a b:V):Option V:=match a with
 | .str x=>match b with
  | .str y=>if 0<x.length/\0<y.length/\x.length+y.length<1000 then some (.str (x++y)) else UB
  | _=>UB
 | _=>xN (λx y=>some (.int (x+y))) a b
noncomputable def uY (op:Ik) (a b:V):Option V:=match op with
 | .add=>Gq a b
 | .sub=>xN (λx y=>some (.int (x - y))) a b
 | .mul=>xN (λx y=>if x.natAbs<2 ^ 64/\y.natAbs<2 ^ 64 then some (.int (x*y)) else UB) a b
 | .mod=>xN (λx y=>if 0<y then some (.int (x % y)) else UB) a b
noncomputable def cmpInt (op:Gp) (a b:Int):Option Bool:=match op with
 | .lt=>some (decide (a<b))
 | .gt=>some (decide (a>b))
 | .le=>some (decide (a<=b))
 | _=>UB
noncomputable def hV (σ:St) (op:Gp) (a b:V):Option Bool:=match op with
 | .eq=>xM σ a b
 | .ne=>(xM σ a b).map (! ·)
 | .isin=>isin σ a b
 | .gU=>(isin σ a b).map (! ·)
 | op=>(eJ a).bind λx=>(eJ b).bind λy=>cmpInt op x y
noncomputable def wx:List (Nm×V):=[(.mB,.int 0),(.dm,.str [97,114,103,117,109,101,110,116,115]),
 (.gM,.tup [.str [110,117,109],.str [98,118,110,117,109],.str [116,114,117,101],.str [102,97,108,115,101]])]
noncomputable def uZ {α:Type} (t:List (Nm×α)) (x:Nm):Option α:=(t.find? λp=>decide (p.1=x)).map (·.2)
noncomputable def wz (x:Nm):Option V:=uZ wx x
noncomputable def gw (c:kA) (x:Nm):Option Fn:=uZ (wq c) x
noncomputable def sT:kA->List Nm
 | .ak=>[.cf,.a9,.bQ,.eC,.di,.dR,.b5,.hS,.fE,.lB,.dO,.hJ,.dz,.fX,.et,.cL,.aQ]
 | .av=>[.dE,.eu,.cQ,.eA,.cV,.hH,.eB,.eF,.dF,.d5,.gh,.fF,.eS,.dZ]
noncomputable def fieldOf (c:kA) (x:Nm):Bool:=(sT c).any λy=>decide (y=x)
noncomputable def jz:kA->Fn
 | .ak=>.fj
 | .av=>.aI
abbrev K1 (α:Type):=α->St->Prop
def bA (σ:St) (k:Nat) (o:O) (Q:K1 V):Prop:=ei (decide (k<=dj)) (Q (.ref σ.next) (σ.push o))
def mG (σ:St) (n:Nat) (k:Nat) (o:O) (Q:St->Prop):Prop:=ei (decide (k<=dj)) (Q (σ.set n o))
def forL (g:Gd) (t:Tg) (bd:Loc->St->(Fl->Loc->St->Prop)->Prop):List V->Loc->St->(Fl->Loc->St->Prop)->Prop
 | [],l,σ,Q=>ei (g.ok σ) (Q .next l σ)
 | v::r,l,σ,Q=>ei (g.ok σ) (aC (kB t v l) λl'=>bd l' σ λf Im σ'=>match f with
  | .next=>forL g t bd r Im σ' Q
  | .ret v=>Q (.ret v) Im σ')
def gx (g:Gd) (t:Tg) (c:Loc->St->K1 Bool->Prop) (e:Loc->St->K1 V->Prop) (l:Loc):List V->List V->St->K1 (List V)->Prop
 | [],acc,σ,Q=>ei (g.ok σ) (Q acc σ)
 | v::r,acc,σ,Q=>ei (g.ok σ) (aC (kB t v l) λl'=>c l' σ λb σ=>match b with
  | true=>e l' σ λx σ=>ei (decide (acc.length+1<=dj)) (gx g t c e l r (acc++ [x]) σ Q)
  | false=>gx g t c e l r acc σ Q)
def oB (c:Loc->St->K1 Bool->Prop) (bd:Loc->St->(Fl->Loc->St->Prop)->Prop):Nat->Loc->St->(Fl->Loc->St->Prop)->Prop
 | 0,_,_,_=>False
 | n+1,l,σ,Q=>c l σ λb σ=>match b with
  | true=>bd l σ λf l' σ'=>match f with
   | .next=>oB c bd n l' σ' Q
   | .ret v=>Q (.ret v) l' σ'
  | false=>Q .next l σ
noncomputable def jA:List V->Option (List (V×V))
 | []=>some []
 | v::r=>match v.items with
  | some [k,x]=>(jA r).map ((k,x)::·)
  | _=>UB
noncomputable def putAll (d:List (V×V)):List (V×V)->Option (List (V×V))
 | []=>some d
 | p::r=>if keyOk d p.1 then putAll (dput d p.1 p.2) r else UB
def xO (op:Ik) (va vb:V) (σ:St) (Q:K1 V):Prop:=match va with
 | .ref _=>ei (decide (op=.add)) (aC (listAt σ va) λp=>aC (listAt σ vb) λq=>bA σ (p.2.length+q.2.length) (.list (p.2++q.2)) Q)
 | .cons _ _=>ei (decide (op=.add)) (aC va.items λp=>aC vb.items λq=>ei (decide (p.length+q.length<=100)) (Q (V.tup (p++q)) σ))
 | _=>aC (uY op va vb) λr=>Q r σ
section
variable (C:Fn->List V->St->K1 V->Prop)
mutual
def aK:E->Loc->St->K1 V->Prop
 | .nm x,l,σ,Q=>aC (l x) λv=>Q v σ
 | .glob x,_,σ,Q=>aC (wz x) λv=>Q v σ
 | .int i,_,σ,Q=>Q (.int i) σ
 | .neg i,_,σ,Q=>Q (.int (-i)) σ
 | .str x,_,σ,Q=>Q (.str x) σ
 | .none,_,σ,Q=>Q .none σ
 | .bool b,_,σ,Q=>Q (.bool b) σ
 | .attr e x,l,σ,Q=>aK e l σ λv σ=>aC (eD σ v) λp=>ei (fieldOf p.2.1 x) (aC (lF p.2.2 x) λr=>Q r σ)
 | .sub a i,l,σ,Q=>aK a l σ λva σ=>aK i l σ λvi σ=>aC (subAt σ va vi) λr=>Q r σ
 | .sliceTo a i,l,σ,Q=>aK a l σ λva σ=>aK i l σ λvi σ=>aC (eJ vi) λk=>ei (decide (0<=k)&&decide (k<=dj)) (match va with
  | .ref _=>aC (itemsOf σ va) λxs=>bA σ (xs.take k.toNat).length (.list (xs.take k.toNat)) Q
  | _=>aC va.items λxs=>ei (decide (xs.length<=1000)) (Q (V.tup (xs.take k.toNat)) σ))
 | .sliceFrom a i,l,σ,Q=>aK a l σ λva σ=>aK i l σ λvi σ=>aC (eJ vi) λk=>ei (decide (0<=k)&&decide (k<=dj))
  (aC (listAt σ va) λp=>bA σ (p.2.drop k.toNat).length (.list (p.2.drop k.toNat)) Q)
 | .rev a,l,σ,Q=>aK a l σ λva σ=>aC (listAt σ va) λp=>bA σ p.2.length (.list p.2.reverse) Q
 | .call f as,l,σ,Q=>iu as l σ λvs σ=>C f vs σ Q
 | .aY o m as,l,σ,Q=>aK o l σ λv σ=>aC (eD σ v) λp=>aC (gw p.2.1 m) λf=>iu as l σ λvs σ=>C f (v::vs) σ Q
 | .new c as,l,σ,Q=>iu as l σ λvs σ=>bA σ 0 (.inst c []) λr σ=>C (jz c) (r::vs) σ λv σ=>ei (decide (v=.none)) (Q r σ)
 | .ir,l,σ,Q=>aC (l .ae) λv=>aC (eD σ v) λp=>ei (decide (p.2.1=.av)) (C .b6 [v] σ Q)
 | .bin op a b,l,σ,Q=>aK a l σ λva σ=>aK b l σ λvb σ=>xO op va vb σ Q
 | .cmp op a b,l,σ,Q=>aK a l σ λva σ=>aK b l σ λvb σ=>aC (hV σ op va vb) λr=>Q (.bool r) σ
 | .isNone a,l,σ,Q=>aK a l σ λv σ=>Q (.bool (decide (v=.none))) σ
 | .isNotNone a,l,σ,Q=>aK a l σ λv σ=>Q (.bool (decide (v≠.none))) σ
 | .bW c es,l,σ,Q=>zb c es l σ Q
 | .not a,l,σ,Q=>aK a l σ λv σ=>aC (bc v) λb=>Q (.bool (!b)) σ
 | .ite c a b,l,σ,Q=>aK c l σ λv σ=>aC (bc v) λt=>match t with
  | true=>aK a l σ Q
  | false=>aK b l σ Q
 | .list es,l,σ,Q=>iu es l σ λvs σ=>bA σ vs.length (.list vs) Q
 | .tup es,l,σ,Q=>iu es l σ λvs σ=>ei (decide (vs.length<=1000)) (Q (V.tup vs) σ)
 | .dict ps,l,σ,Q=>M7 ps l σ λps σ=>aC (putAll [] ps) λd=>bA σ ps.length (.dict d) Q
 | .comp e t i ifs,l,σ,Q=>pN i l σ λp σ=>gx p.2 t (λl σ Q=>uR ifs l σ Q) (λl σ Q=>aK e l σ Q) l p.1 [] σ λvs σ=>bA σ vs.length (.list vs) Q
 | .len a,l,σ,Q=>aK a l σ λv σ=>aC (i9 σ v) λn=>Q (.int n) σ
 | .listOf i,l,σ,Q=>pN i l σ λp σ=>ei (p.2.ok σ) (bA σ p.1.length (.list p.1) Q)
 | .fo i,l,σ,Q=>pN i l σ λp σ=>ei (p.2.ok σ&&decide (p.1.length<=1000)) (Q (V.tup p.1) σ)
 | .dictOf i,l,σ,Q=>pN i l σ λp σ=>ei (p.2.ok σ&&p.2.bound) (aC (jA p.1) λps=>aC (putAll [] ps) λd=>bA σ ps.length (.dict d) Q)
 | .sorted i,l,σ,Q=>pN i l σ λp σ=>ei (p.2.ok σ&&sortable p.1) (∀ys,fY p.1 ys->bA σ ys.length (.list ys) Q)
 | .strOf a,l,σ,Q=>aK a l σ λv σ=>aC (eJ v) λk=>ei (decide (0<=k)&&decide (k<10)) (Q (.str [48+k.toNat]) σ)
 | .append o x,l,σ,Q=>aK o l σ λv σ=>ei (listAt σ v).isSome (aK x l σ λy σ=>aC (listAt σ v) λp=>mG σ p.1 (p.2.length+1) (.list (p.2++ [y])) λσ=>Q .none σ)
 | .extend o x,l,σ,Q=>aK o l σ λv σ=>ei (listAt σ v).isSome (aK x l σ λy σ=>aC (listAt σ v) λp=>aC (listAt σ y) λq=>ei (decide (p.1≠q.1)) (mG σ p.1 (p.2.length+q.2.length) (.list (p.2++q.2)) λσ=>Q .none σ))
 | .pop o,l,σ,Q=>aK o l σ λv σ=>ei (listAt σ v).isSome (aC (listAt σ v) λp=>aC p.2.getLast? λr=>Q r (σ.set p.1 (.list p.2.dropLast)))
 | .oA o k,l,σ,Q=>aK o l σ λv σ=>ei (dictAt σ v).isSome (aK k l σ λy σ=>aC (dictAt σ v) λp=>ei (keyOk p.2 y) (Q ((ag p.2 y).getD .none) σ))
 | .rD o k d,l,σ,Q=>aK o l σ λv σ=>ei (dictAt σ v).isSome (aK k l σ λy σ=>aK d l σ λz σ=>aC (dictAt σ v) λp=>ei (keyOk p.2 y) (Q ((ag p.2 y).getD z) σ))
 | .bad,_,_,_=>False
def iu:Es->Loc->St->K1 (List V)->Prop
 | .nil,_,σ,Q=>Q [] σ
 | .cons e r,l,σ,Q=>aK e l σ λv σ=>iu r l σ λvs σ=>Q (v::vs) σ
def zb (c:Bool):Es->Loc->St->K1 V->Prop
 | .nil,_,_,_=>False
 | .cons e .nil,l,σ,Q=>aK e l σ λv σ=>aC (bc v) λb=>Q (.bool b) σ
 | .cons e r,l,σ,Q=>aK e l σ λv σ=>aC (bc v) λb=>if b=c then zb c r l σ Q else Q (.bool b) σ
def uR:Es->Loc->St->K1 Bool->Prop
 | .nil,_,σ,Q=>Q true σ
 | .cons e r,l,σ,Q=>aK e l σ λv σ=>aC (bc v) λb=>match b with
  | true=>uR r l σ Q
  | false=>Q false σ
def M7:Ps->Loc->St->K1 (List (V×V))->Prop
 | .nil,_,σ,Q=>Q [] σ
 | .cons k v ps,l,σ,Q=>aK k l σ λa σ=>aK v l σ λb σ=>M7 ps l σ λr σ=>Q ((a,b)::r) σ
def pN:It->Loc->St->K1 (List V×Gd)->Prop
 | .of e,l,σ,Q=>aK e l σ λv σ=>aC (cG σ v) λp=>Q p σ
 | .range e,l,σ,Q=>aK e l σ λv σ=>aC (eJ v) λk=>ei (decide (k<=dj)&&decide (-(dj:Int)<=k)) (Q (mF k,.free) σ)
 | .zip a b,l,σ,Q=>aK a l σ λva σ=>aK b l σ λvb σ=>aC (cG σ va) λp=>aC (cG σ vb) λq=>
  Q ((p.1.zip q.1).map (λx=>V.tup [x.1,x.2]),.two p.2 q.2) σ
 | .items a,l,σ,Q=>aK a l σ λva σ=>aC (dictAt σ va) λp=>ei (p.2.all λx=>isInt x.1) (Q (p.2.map (λx=>V.tup [x.1,x.2]),.obj p.1 (.dict p.2)) σ)
end
mutual
def wpS:S->Loc->St->(Fl->Loc->St->Prop)->Prop
 | .expr e,l,σ,Q=>aK C e l σ λU σ=>Q .next l σ
 | .bV x e,l,σ,Q=>aK C e l σ λv σ=>Q .next (l.set x v) σ
 | .unpack xs e,l,σ,Q=>aK C e l σ λv σ=>aC (gV σ v) λvs=>ei (decide xs.Nodup) (aC (bq xs vs l) λl'=>Q .next l' σ)
 | .setattr o x e,l,σ,Q=>aK C e l σ λv σ=>aK C o l σ λr σ=>aC (eD σ r) λp=>ei (fieldOf p.2.1 x&&decide (p.2.2.length<50)) (Q .next l (σ.set p.1 (.inst p.2.1 (fM p.2.2 x v))))
 | .bw o k e,l,σ,Q=>aK C e l σ λv σ=>aK C o l σ λr σ=>aK C k l σ λy σ=>aC (dictAt σ r) λp=>ei (keyOk p.2 y) (mG σ p.1 (p.2.length+1) (.dict (dput p.2 y v)) λσ=>Q .next l σ)
 | .ite c a b,l,σ,Q=>aK C c l σ λv σ=>aC (bc v) λt=>match t with
  | true=>aG a l σ Q
  | false=>aG b l σ Q
 | .while c b,l,σ,Q=>oB (λl σ Q=>aK C c l σ λv σ=>aC (bc v) λt=>Q t σ) (λl σ Q=>aG b l σ Q) WF l σ Q
 | .for t i b,l,σ,Q=>pN C i l σ λp σ=>forL p.2 t (λl σ Q=>aG b l σ Q) p.1 l σ Q
 | .ret e,l,σ,Q=>aK C e l σ λv σ=>Q (.ret v) l σ
 | .lE,l,σ,Q=>Q (.ret .none) l σ
 | .del o k,l,σ,Q=>aK C o l σ λr σ=>aK C k l σ λy σ=>aC (dictAt σ r) λp=>ei (keyOk p.2 y&&(ag p.2 y).isSome) (Q .next l (σ.set p.1 (.dict (ej p.2 y))))
 | .pass,l,σ,Q=>Q .next l σ
 | .bad,_,_,_=>False
def aG:Ss->Loc->St->(Fl->Loc->St->Prop)->Prop
 | .nil,l,σ,Q=>Q .next l σ
 | .cons s r,l,σ,Q=>wpS s l σ λf l σ=>match f with
  | .next=>aG r l σ Q
  | .ret v=>Q (.ret v) l σ
end
end
def aE (D:Fn->Option (List Nm×Ss)):Nat->Fn->List V->St->K1 V->Prop
 | 0,_,_,_,_=>False
 | n+1,f,vs,σ,Q=>aC (D f) λd=>aC (zy d.1 vs) λl=>aG (aE D n) d.2 l σ λfl U σ=>match fl with
  | .next=>Q .none σ
  | .ret v=>Q v σ
theorem fg {α:Type _}{p:α}{P:Prop} (h:(UB:Option α)=some p):P:=nomatch h
noncomputable abbrev S1 (z:Option O):St:=⟨0,λU=>z⟩
theorem pO {motive:Option O->Prop} (h0:motive UB) (h1:∀l,motive (some (.list l))) (h2:∀d,motive (some (.dict d))) (h3:∀c f,motive (some (.inst c f))) (h4:∀l,motive (some (.args l))) (x:Option O):motive x:=by
 cases x with
 | none=>exact h0
 | some o=>cases o with
  | list l=>exact h1 l
  | dict d=>exact h2 d
  | inst c f=>exact h3 c f
  | args l=>exact h4 l
theorem lG {b:Bool}{α:Type _}{x:Option α}{p:α} (h:(if b then x else UB)=some p):b=true/\x=some p:=by
 cases b with
 | false=>exact fg h
 | true=>exact ⟨rfl,h⟩
theorem wA {c:Prop} [Decidable c] {α:Type _}{x:Option α}{p:α} (h:(if c then x else UB)=some p):c/\x=some p:=
 (Zm c).elim (λk=>⟨k,(if_pos k).symm.trans h⟩) λk=>fg ((if_neg k).symm.trans h)
section
variable {σ:St}{n:Nat}
theorem aZ {l:List V} (h:σ.get n=some (.list l)):listAt σ (.ref n)=some (n,l):=congrArg (λz=>listAt (S1 z) (.ref n)) h
theorem dt {l:List (V×V)} (h:σ.get n=some (.dict l)):dictAt σ (.ref n)=some (n,l):=congrArg (λz=>dictAt (S1 z) (.ref n)) h
theorem iw {c:kA}{f:List (Nm×V)} (h:σ.get n=some (.inst c f)):eD σ (.ref n)=some (n,c,f):=congrArg (λz=>eD (S1 z) (.ref n)) h
theorem oC {l:List V} (h:σ.get n=some (.list l)):itemsOf σ (.ref n)=some l:=congrArg (λz=>itemsOf (S1 z) (.ref n)) h
theorem qf {l:List V} (h:σ.get n=some (.args l)):itemsOf σ (.ref n)=some l:=congrArg (λz=>itemsOf (S1 z) (.ref n)) h
theorem LZ {l:List V} (h:σ.get n=some (.list l)):i9 σ (.ref n)=some l.length:=congrArg (λz=>i9 (S1 z) (.ref n)) h
theorem L5 {l:List (V×V)} (h:σ.get n=some (.dict l)):i9 σ (.ref n)=some l.length:=congrArg (λz=>i9 (S1 z) (.ref n)) h
theorem zB {l:List V} (h:σ.get n=some (.list l)):cG σ (.ref n)=some (l,.obj n (.list l)):=congrArg (λz=>cG (S1 z) (.ref n)) h
theorem Gr {p:Nat×List V} (h:listAt σ (.ref n)=some p):σ.get n=some (.list p.2)/\n=p.1:=pO (motive:=λz=>listAt (S1 z) (.ref n)=some p->z=some (.list p.2)/\n=p.1) fg (λl h=>Uu h▸⟨rfl,rfl⟩) (λU=>fg) (λU U=>fg) (λU=>fg) (σ.get n) h
theorem Gs {p:Nat×List (V×V)} (h:dictAt σ (.ref n)=some p):σ.get n=some (.dict p.2)/\n=p.1:=pO (motive:=λz=>dictAt (S1 z) (.ref n)=some p->z=some (.dict p.2)/\n=p.1) fg (λU=>fg) (λl h=>Uu h▸⟨rfl,rfl⟩) (λU U=>fg) (λU=>fg) (σ.get n) h
theorem Gu {p:Nat×kA×List (Nm×V)} (h:eD σ (.ref n)=some p):σ.get n=some (.inst p.2.1 p.2.2)/\n=p.1:=pO (motive:=λz=>eD (S1 z) (.ref n)=some p->z=some (.inst p.2.1 p.2.2)/\n=p.1) fg (λU=>fg) (λU=>fg) (λc f h=>Uu h▸⟨rfl,rfl⟩) (λU=>fg) (σ.get n) h
theorem CW {l:List V} (h:itemsOf σ (.ref n)=some l):σ.get n=some (.list l)\/σ.get n=some (.args l):=pO (motive:=λz=>itemsOf (S1 z) (.ref n)=some l->z=some (.list l)\/z=some (.args l)) fg (λU h=>Uu h▸ .inl rfl) (λU=>fg) (λU U=>fg) (λU h=>Uu h▸ .inr rfl) (σ.get n) h
theorem EW {k:Nat} (h:i9 σ (.ref n)=some k):(∃l,σ.get n=some (.list l)/\k=l.length)\/∃l,σ.get n=some (.dict l)/\k=l.length:=pO (motive:=λz=>i9 (S1 z) (.ref n)=some k->(∃l,z=some (.list l)/\k=l.length)\/∃l,z=some (.dict l)/\k=l.length) fg (λl h=>.inl (i12 l rfl (Uu h).symm)) (λl h=>.inr (i12 l rfl (Uu h).symm)) (λU U=>fg) (λU=>fg) (σ.get n) h
theorem Jc {i z:V} (h:subAt σ (.ref n) i=some z):(∃l,σ.get n=some (.list l)/\(eJ i).bind (idx l)=some z)\/∃d,σ.get n=some (.dict d)/\keyOk d i=true/\ag d i=some z:=pO (motive:=λy=>subAt (S1 y) (.ref n) i=some z->(∃l,y=some (.list l)/\(eJ i).bind (idx l)=some z)\/∃d,y=some (.dict d)/\keyOk d i=true/\ag d i=some z) fg (λl h=>.inl (i12 l rfl h)) (λl h=>.inr (i12 l rfl (lG h))) (λU U=>fg) (λU=>fg) (σ.get n) h
theorem wB {p:List V×Gd} (h:cG σ (.ref n)=some p):∃l,σ.get n=some (.list l)/\p=(l,.obj n (.list l)):=pO (motive:=λz=>cG (S1 z) (.ref n)=some p->∃l,z=some (.list l)/\p=(l,.obj n (.list l))) fg (λl h=>i12 l rfl (Uu h).symm) (λU=>fg) (λU U=>fg) (λU=>fg) (σ.get n) h
theorem Gv {x:V}{r:Bool} (h:isin σ x (.ref n)=some r):(∃d,σ.get n=some (.dict d)/\keyOk d x=true/\r=(ag d x).isSome)\/∃l,σ.get n=some (.list l)/\rE (gJ (ew σ 3) l) (ew σ 3 x)=some r:=pO (motive:=λz=>(match z with | some (.dict d)=>if keyOk d x then some (ag d x).isSome else UB | some (.list l)=>rE (gJ (ew σ 3) l) (ew σ 3 x) | _=>UB)=some r->(∃d,z=some (.dict d)/\keyOk d x=true/\r=(ag d x).isSome)\/∃l,z=some (.list l)/\rE (gJ (ew σ 3) l) (ew σ 3 x)=some r) fg (λl h=>.inr (i12 l rfl h)) (λl h=>.inl (uP l rfl (lG h).1 (Uu (lG h).2).symm)) (λU U=>fg) (λU=>fg) (σ.get n) h
theorem Jd {k:Nat}{d:Vg} (h:ew σ (k+1) (.ref n)=some d):∃l p,σ.get n=some (.list l)/\gJ (ew σ k) l=some p/\d=.list p:=pO (motive:=λz=>(match z with | some (.list l)=>(gJ (ew σ k) l).map Xc | _=>UB)=some d->∃l p,z=some (.list l)/\gJ (ew σ k) l=some p/\d=.list p) fg (λl h=>(Option.map_eq_some_iff.mp h).elim λp h=>i6 l p rfl h.1 h.2.symm) (λU=>fg) (λU U=>fg) (λU=>fg) (σ.get n) h
theorem rF {d:List (V×V)}{x:V} (h:σ.get n=some (.dict d)) (k:keyOk d x=true):isin σ x (.ref n)=some (ag d x).isSome:=Ò (congrArg (λz=>(match z with | some (.dict d)=>if keyOk d x then some (ag d x).isSome else UB | some (.list l)=>rE (gJ (ew σ 3) l) (ew σ 3 x) | _=>UB:Option Bool)) h) (if_pos k)
end
theorem sU {σ:St}{n:Nat}{l:List V} (h:σ.get n=some (.list l)):dictAt σ (.ref n)=UB:=congrArg (λz=>dictAt (S1 z) (.ref n)) h
theorem xP {σ:St}{n:Nat}{l:List V} (h:gV σ (.ref n)=some l):σ.get n=some (.list l):=pO (motive:=λz=>gV (S1 z) (.ref n)=some l->z=some (.list l)) fg (λl h=>Uu h▸rfl) (λU=>fg) (λU U=>fg) (λU=>fg) (σ.get n) h
theorem nh {α β γ:Type _} (F:α->β->γ) {a a':α}{b b':β} (h:a=a') (k:b=b'):F a b=F a' b':=h▸k▸rfl
set_option smartUnfolding false in
theorem CX {f:V->Option Vg}{x:V}{y:List V}{p:Vg}{r:List Vg} (h:f x=some p) (k:gJ f y=some r):gJ f (x::y)=some (p::r):=nh (λa b=>(match a,b with | some p,some q=>some (p::q) | _,_=>UB:Option (List Vg))) h k
theorem wC {σ:St}{n j:Nat}{l:List V}{p:List Vg} (h:σ.get n=some (.list l)) (k:gJ (ew σ j) l=some p):ew σ (j+1) (.ref n)=some (.list p):=Ò (congrArg (λz=>(match z with | some (.list l)=>(gJ (ew σ j) l).map Xc | _=>UB:Option Vg)) h) (congrArg (Wm Xc) k)
theorem wD {v:V} (h:isInt v=true):∃i,v=.int i:=by
 cases v with
 | int i=>exact ⟨i,rfl⟩
 | _=>exact nomatch h
theorem Gw {α:Type _}{l:List α} (h:l.length=1):∃a,l=[a]:=by
 cases l with
 | nil=>exact nomatch h
 | cons a r=>cases r with
  | nil=>exact ⟨a,rfl⟩
  | cons b r=>exact nomatch WW h
theorem Je {α:Type _}{l:List α} (h:l.length=2):∃a b,l=[a,b]:=by
 cases l with
 | nil=>exact nomatch h
 | cons a r=>exact bb (Gw (WW h)) λb h=>⟨a,b,h▸rfl⟩
theorem M8 {α β γ:Type _}{x:Option α}{y:Option β}{f:α->β->Option γ}{g:Option γ}{p:γ} (h:x.bind (λa=>y.bind (f a))=some p):∃a b,x=some a/\y=some b/\f a b=some p:=(Option.bind_eq_some_iff.mp h).elim λa h=>(Option.bind_eq_some_iff.mp h.2).elim λb k=>i6 a b h.1 k.1 k.2
end
end Mine.Internal
namespace Mine.Internal
noncomputable section
noncomputable def rG:List Nm×Ss:=([.jv],
 (.cons (.unpack [.bO,.cf] (.tup (.cons (.dict (.cons (.str [99,101,108,108,115]) (.listOf (.of (.sliceTo (.nm .jv) (.int 50)))) (.cons (.str [115,112,111,116]) (.int 0) .nil))) (.cons (.new .av .nil) .nil))))
 (.cons (.bV .iO (.aY (.nm .cf) .jq (.cons (.str [83]) .nil)))
 (.cons (.bV .fL (.comp (.aY (.nm .cf) .g9 (.cons (.bin .add (.str [99]) (.strOf (.nm .LY))) (.cons (.nm .iO) .nil))) (.one .LY) (.range (.bin .add (.int 3) (.call .a7 (.cons (.nm .bO) (.cons (.int 2) .nil))))) .nil))
 (.cons (.unpack [.EU,.Pu] (.comp (.aY (.nm .cf) .g8 (.cons (.nm .ju) (.cons (.tup (.cons (.nm .iO) .nil)) (.cons (.nm .iO) .nil)))) (.one .ju) (.of (.tup (.cons (.str [102]) (.cons (.str [103]) .nil)))) .nil))
 (.cons (.bV .eT (.comp (.aY (.nm .cf) .zp (.cons (.nm .EU) (.cons (.list (.cons (.nm .cW) .nil)) .nil))) (.one .cW) (.of (.sliceTo (.nm .fL) (.int 2))) .nil))
 (.cons (.bV .lA (.comp (.aY (.nm .cf) .zp (.cons (.nm .Pu) (.cons (.list (.cons (.nm .cW) .nil)) .nil))) (.one .cW) (.of (.nm .eT)) .nil))
 (.cons (.unpack [.bu,.aT] (.tup (.cons (.bin .add (.bin .add (.nm .fL) (.nm .eT)) (.nm .lA)) (.cons (.new .ak (.cons (.nm .cf) .nil)) .nil))))
 (.cons (.for (.one .cW) (.of (.nm .bu)) (.cons (.expr (.aY (.nm .aT) .gj (.cons (.nm .cW) .nil)))
 .nil))
 (.cons (.bV .aL (.dict (.cons (.str [101,100,103,101,115]) (.list .nil) (.cons (.str [99,97,108,108,115]) (.list (.cons (.fo (.of (.bin .add (.nm .eT) (.sliceTo (.nm .fL) (.int 2))))) (.cons (.fo (.of (.bin .add (.nm .lA) (.nm .eT)))) .nil))) .nil))))
 (.cons (.bV .aQ (.list .nil))
 (.cons (.for (.one .ot) (.range (.bin .add (.int 4) (.call .a7 (.cons (.nm .bO) (.cons (.int 8) .nil))))) (.cons (.bV .i8 (.call .a7 (.cons (.nm .bO) (.cons (.int 6) .nil))))
 (.cons (.ite (.cmp .lt (.nm .i8) (.int 4)) (.cons (.unpack [.jn,.mD] (.tup (.cons (.sub (.nm .bu) (.call .a7 (.cons (.nm .bO) (.cons (.len (.nm .bu)) .nil)))) (.cons (.sub (.nm .bu) (.call .a7 (.cons (.nm .bO) (.cons (.len (.nm .bu)) .nil)))) .nil))))
 (.cons (.bV .dp (.ite (.cmp .eq (.nm .i8) (.int 3)) (.int 0) (.bin .add (.nm .ot) (.int 1))))
 (.cons (.expr (.call .jy (.cons (.nm .aL) (.cons (.nm .jn) (.cons (.nm .mD) (.cons (.nm .dp) .nil))))))
 (.cons (.expr (.aY (.nm .aT) .rB (.cons (.nm .jn) (.cons (.nm .mD) (.cons (.nm .dp) .nil)))))
 .nil)))) (.cons (.ite (.cmp .eq (.nm .i8) (.int 4)) (.cons (.expr (.append (.nm .aQ) (.len (.sub (.nm .aL) (.str [101,100,103,101,115])))))
 (.cons (.expr (.aY (.nm .aT) .iN .nil))
 .nil)) (.cons (.ite (.cmp .ne (.nm .aQ) (.list .nil)) (.cons (.bV .fw (.bin .add (.int 1) (.call .a7 (.cons (.nm .bO) (.cons (.len (.nm .aQ)) .nil)))))
 (.cons (.bw (.nm .aL) (.str [101,100,103,101,115]) (.sliceTo (.sub (.nm .aL) (.str [101,100,103,101,115])) (.sub (.nm .aQ) (.bin .sub (.len (.nm .aQ)) (.nm .fw)))))
 (.cons (.bV .aQ (.sliceTo (.nm .aQ) (.bin .sub (.len (.nm .aQ)) (.nm .fw))))
 (.cons (.expr (.aY (.nm .aT) .iM (.cons (.nm .fw) .nil)))
 .nil)))) .nil)
 .nil))
 .nil))
 (.cons (.ite (.not (.call .dq (.cons (.nm .aL) (.cons (.nm .aT) (.cons (.sub (.nm .bu) (.call .a7 (.cons (.nm .bO) (.cons (.len (.nm .bu)) .nil)))) .nil))))) (.cons (.ret (.bool false))
 .nil) .nil)
 .nil))))
 (.cons (.for (.one .jn) (.of (.nm .bu)) (.cons (.ite (.not (.call .dq (.cons (.nm .aL) (.cons (.nm .aT) (.cons (.nm .jn) .nil))))) (.cons (.ret (.bool false))
 .nil) .nil)
 .nil))
 (.cons (.ret (.bool true))
 .nil))))))))))))))
noncomputable def iQ:List Nm×Ss:=([.ae,.cf],
 (.cons (.setattr (.nm .ae) .cf (.nm .cf))
 (.cons (.setattr (.nm .ae) .a9 (.dict .nil))
 (.cons (.setattr (.nm .ae) .bQ (.dict .nil))
 (.cons (.setattr (.nm .ae) .eC (.dict .nil))
 (.cons (.setattr (.nm .ae) .di (.dict .nil))
 (.cons (.setattr (.nm .ae) .dR (.dict .nil))
 (.cons (.setattr (.nm .ae) .b5 (.dict .nil))
 (.cons (.setattr (.nm .ae) .hS (.dict .nil))
 (.cons (.setattr (.nm .ae) .fE (.dict .nil))
 (.cons (.setattr (.nm .ae) .lB (.dict .nil))
 (.cons (.setattr (.nm .ae) .dO (.dict .nil))
 (.cons (.setattr (.nm .ae) .hJ (.list .nil))
 (.cons (.setattr (.nm .ae) .dz (.list .nil))
 (.cons (.setattr (.nm .ae) .fX .none)
 (.cons (.setattr (.nm .ae) .et (.int 0))
 (.cons (.setattr (.nm .ae) .cL (.list .nil))
 (.cons (.setattr (.nm .ae) .aQ (.list .nil))
 .nil))))))))))))))))))
noncomputable def jB:List Nm×Ss:=([.ae],
 (.cons (.expr .ir)
 (.cons (.setattr (.nm .ae) .dZ (.dict .nil))
 .nil)))
noncomputable def mH:List Nm×Ss:=([.ae],
 (.cons (.setattr (.nm .ae) .dE (.list (.cons (.str [66,111,111,108]) (.cons (.str [73,110,116]) (.cons (.str [82,101,97,108]) .nil)))))
 (.cons (.setattr (.nm .ae) .eu (.list (.cons (.int 0) (.cons (.int 0) (.cons (.int 0) .nil)))))
 (.cons (.setattr (.nm .ae) .cQ (.list .nil))
 (.cons (.setattr (.nm .ae) .eA (.list .nil))
 (.cons (.setattr (.nm .ae) .cV (.list .nil))
 (.cons (.setattr (.nm .ae) .hH (.int 0))
 (.cons (.setattr (.nm .ae) .eB (.list (.cons (.str []) .nil)))
 (.cons (.setattr (.nm .ae) .eF (.list (.cons (.tup .nil) .nil)))
 (.cons (.setattr (.nm .ae) .dF (.list (.cons (.glob .mB) .nil)))
 (.cons (.setattr (.nm .ae) .d5 (.list (.cons (.int 0) .nil)))
 (.cons (.setattr (.nm .ae) .gh (.dict .nil))
 (.cons (.setattr (.nm .ae) .fF (.aY (.nm .ae) .ou (.cons (.str [116,114,117,101]) (.cons (.tup .nil) (.cons (.glob .mB) (.cons (.int 0) .nil))))))
 (.cons (.setattr (.nm .ae) .eS (.aY (.nm .ae) .ou (.cons (.str [102,97,108,115,101]) (.cons (.tup .nil) (.cons (.glob .mB) (.cons (.int 0) .nil))))))
 .nil))))))))))))))
noncomputable def lH:List Nm×Ss:=([.aL,.aT,.jn],
 (.cons (.for (.many [.mD,.ky]) (.of (.sorted (.items (.call .cq (.cons (.nm .aL) (.cons (.nm .jn) .nil)))))) (.cons (.ite (.bW false (.cons (.not (.call .hU (.cons (.nm .aT) (.cons (.nm .jn) (.cons (.nm .mD) (.cons (.nm .ky) .nil)))))) (.cons (.not (.call .hU (.cons (.nm .aT) (.cons (.nm .mD) (.cons (.nm .jn) (.cons (.nm .ky) .nil)))))) .nil))) (.cons (.ret (.bool false))
 .nil) .nil)
 .nil))
 (.cons (.ret (.bool true))
 .nil)))
noncomputable def rH:List Nm×Ss:=([.bO,.rC],
 (.cons (.bV .bN (.sub (.nm .bO) (.str [115,112,111,116])))
 (.cons (.bw (.nm .bO) (.str [115,112,111,116]) (.bin .add (.nm .bN) (.int 1)))
 (.cons (.ite (.cmp .lt (.nm .bN) (.len (.sub (.nm .bO) (.str [99,101,108,108,115])))) (.cons (.ret (.bin .mod (.sub (.sub (.nm .bO) (.str [99,101,108,108,115])) (.nm .bN)) (.nm .rC)))
 .nil) .nil)
 (.cons (.ret (.bin .mod (.bin .mod (.bin .add (.bin .add (.bin .mul (.bin .mul (.int 7) (.nm .bN)) (.nm .bN)) (.bin .mul (.int 3) (.nm .bN))) (.int 2)) (.int 89)) (.nm .rC)))
 .nil)))))
noncomputable def j9:List Nm×Ss:=([.ae,.jn,.mD,.dp],
 (.cons (.expr (.aY (.nm .ae) .gj (.cons (.nm .jn) .nil)))
 (.cons (.expr (.aY (.nm .ae) .gj (.cons (.nm .mD) .nil)))
 (.cons (.expr (.append (.attr (.nm .ae) .dz) (.tup (.cons (.nm .jn) (.cons (.nm .mD) (.cons (.nm .dp) .nil))))))
 (.cons (.expr (.aY (.nm .ae) .nS .nil))
 .nil)))))
noncomputable def rI:List Nm×Ss:=([.aL,.jn,.mD,.dp],
 (.cons (.ite (.cmp .gU (.nm .mD) (.call .cq (.cons (.nm .aL) (.cons (.nm .jn) .nil)))) (.cons (.expr (.append (.sub (.nm .aL) (.str [101,100,103,101,115])) (.tup (.cons (.nm .jn) (.cons (.nm .mD) (.cons (.nm .dp) .nil))))))
 .nil) .nil)
 (.cons (.for (.many [.m8,.dh,.I8,.I9]) (.of (.sub (.nm .aL) (.str [99,97,108,108,115]))) (.cons (.ite (.bW true (.cons (.cmp .isin (.nm .I9) (.call .cq (.cons (.nm .aL) (.cons (.nm .I8) .nil)))) (.cons (.cmp .gU (.nm .dh) (.call .cq (.cons (.nm .aL) (.cons (.nm .m8) .nil)))) .nil))) (.cons (.expr (.append (.sub (.nm .aL) (.str [101,100,103,101,115])) (.tup (.cons (.nm .m8) (.cons (.nm .dh) (.cons (.glob .dm) .nil))))))
 .nil) .nil)
 .nil))
 .nil)))
noncomputable def hZ:List Nm×Ss:=([.ae],
 (.cons (.expr (.append (.attr (.nm .ae) .aQ) (.len (.attr (.nm .ae) .cL))))
 .nil))
noncomputable def ib:List Nm×Ss:=([.ae,.Ij],
 (.cons (.ite (.cmp .le (.nm .Ij) (.int 0)) (.cons .lE
 .nil) .nil)
 (.cons (.bV .bN (.sub (.attr (.nm .ae) .aQ) (.bin .sub (.len (.attr (.nm .ae) .aQ)) (.nm .Ij))))
 (.cons (.setattr (.nm .ae) .aQ (.sliceTo (.attr (.nm .ae) .aQ) (.bin .sub (.len (.attr (.nm .ae) .aQ)) (.nm .Ij))))
 (.cons (.unpack [.gg,.gi] (.tup (.cons (.list .nil) (.cons (.list .nil) .nil))))
 (.cons (.while (.cmp .gt (.len (.attr (.nm .ae) .cL)) (.nm .bN)) (.cons (.expr (.aY (.nm .ae) .zw (.cons (.pop (.attr (.nm .ae) .cL)) (.cons (.nm .gg) (.cons (.nm .gi) .nil)))))
 .nil))
 (.cons (.setattr (.nm .ae) .dz (.list .nil))
 (.cons (.ite (.bW true (.cons (.isNotNone (.attr (.nm .ae) .fX)) (.cons (.cmp .lt (.len (.attr (.nm .ae) .aQ)) (.attr (.nm .ae) .et)) .nil))) (.cons (.setattr (.nm .ae) .fX .none)
 .nil) .nil)
 (.cons (.setattr (.nm .ae) .hJ (.comp (.nm .cW) (.one .cW) (.of (.attr (.nm .ae) .hJ)) (.cons (.cmp .isin (.nm .cW) (.attr (.nm .ae) .dO)) .nil)))
 (.cons (.for (.one .cW) (.of (.rev (.nm .gg))) (.cons (.expr (.aY (.nm .ae) .rp (.cons (.nm .cW) .nil)))
 .nil))
 (.cons (.expr (.aY (.nm .ae) .nS .nil))
 (.cons (.for (.many [.cW,.dy,.cR]) (.of (.rev (.nm .gi))) (.cons (.expr .bad)
 .nil))
 .nil))))))))))))
noncomputable def iR:List Nm×Ss:=([.ae,.cW],
 (.cons (.bV .iP (.list (.cons (.nm .cW) .nil)))
 (.cons (.while (.cmp .gt (.len (.nm .iP)) (.int 0)) (.cons (.bV .aV (.sub (.nm .iP) (.neg 1)))
 (.cons (.bV .jY (.list .nil))
 (.cons (.ite (.cmp .gU (.nm .aV) (.attr (.nm .ae) .a9)) (.cons (.bV .jY (.comp (.nm .iL) (.one .iL) (.of (.aY (.nm .ae) .eT (.cons (.nm .aV) .nil))) (.cons (.cmp .gU (.nm .iL) (.attr (.nm .ae) .a9)) .nil)))
 .nil) .nil)
 (.cons (.ite (.cmp .gt (.len (.nm .jY)) (.int 0)) (.cons (.expr (.extend (.nm .iP) (.nm .jY)))
 .nil) (.cons (.expr (.pop (.nm .iP)))
 (.cons (.ite (.cmp .gU (.nm .aV) (.attr (.nm .ae) .a9)) (.cons (.expr (.aY (.nm .ae) .rp (.cons (.nm .aV) .nil)))
 .nil) .nil)
 .nil)))
 .nil)))))
 (.cons (.expr (.aY (.nm .ae) .nS .nil))
 .nil))))
noncomputable def nM:List Nm×Ss:=([.ae,.EU,.fL],
 (.cons (.bV .lC (.sub (.attr (.nm .ae) .eA) (.nm .EU)))
 (.cons (.ite (.cmp .ne (.len (.nm .fL)) (.len (.nm .lC))) (.cons .bad
 .nil) .nil)
 (.cons (.for (.many [.cW,.CU]) (.zip (.nm .fL) (.nm .lC)) (.cons (.expr (.aY (.nm .ae) .zx (.cons (.nm .cW) (.cons (.nm .CU) (.cons (.sub (.attr (.nm .ae) .cQ) (.nm .EU)) .nil)))))
 .nil))
 (.cons (.ret (.aY (.nm .ae) .ou (.cons (.str [97,112,112]) (.cons (.fo (.of (.nm .fL))) (.cons (.sub (.attr (.nm .ae) .cV) (.nm .EU)) (.cons (.nm .EU) .nil))))))
 .nil)))))
noncomputable def ka:List Nm×Ss:=([.ae,.ju,.mZ,.sR],
 (.cons (.expr (.append (.attr (.nm .ae) .cQ) (.nm .ju)))
 (.cons (.expr (.append (.attr (.nm .ae) .eA) (.fo (.of (.nm .mZ)))))
 (.cons (.expr (.append (.attr (.nm .ae) .cV) (.nm .sR)))
 (.cons (.ret (.bin .sub (.len (.attr (.nm .ae) .cQ)) (.int 1)))
 .nil)))))
noncomputable def kb:List Nm×Ss:=([.ae,.ju,.CU],
 (.cons (.ret (.aY (.nm .ae) .ou (.cons (.str [97,112,112]) (.cons (.tup .nil) (.cons (.nm .CU) (.cons (.aY (.nm .ae) .g8 (.cons (.nm .ju) (.cons (.tup .nil) (.cons (.nm .CU) .nil)))) .nil))))))
 .nil))
noncomputable def jC:List Nm×Ss:=([.ae,.ju],
 (.cons (.expr (.append (.attr (.nm .ae) .dE) (.nm .ju)))
 (.cons (.expr (.append (.attr (.nm .ae) .eu) (.int 0)))
 (.cons (.ret (.bin .sub (.len (.attr (.nm .ae) .dE)) (.int 1)))
 .nil))))
noncomputable def rJ:List Nm×Ss:=([.ae,.xK,.mC,.iO,.oo],
 (.cons (.bV .zu (.tup (.cons (.nm .xK) (.cons (.nm .mC) (.cons (.nm .iO) (.cons (.nm .oo) .nil))))))
 (.cons (.bV .bY (.rD (.attr (.nm .ae) .gh) (.nm .zu) (.int 0)))
 (.cons (.ite (.cmp .eq (.nm .bY) (.int 0)) (.cons (.bV .bY (.len (.attr (.nm .ae) .eB)))
 (.cons (.expr (.append (.attr (.nm .ae) .eB) (.nm .xK)))
 (.cons (.expr (.append (.attr (.nm .ae) .eF) (.nm .mC)))
 (.cons (.expr (.append (.attr (.nm .ae) .dF) (.nm .iO)))
 (.cons (.expr (.append (.attr (.nm .ae) .d5) (.nm .oo)))
 (.cons (.bw (.attr (.nm .ae) .gh) (.nm .zu) (.nm .bY))
 .nil)))))) .nil)
 (.cons (.ret (.nm .bY))
 .nil)))))
noncomputable def rK:List Nm×Ss:=([.aL,.jn],
 (.cons (.unpack [.bY,.jW] (.tup (.cons (.dict (.cons (.nm .jn) (.list .nil) .nil)) (.cons (.list (.cons (.nm .jn) .nil)) .nil))))
 (.cons (.while (.cmp .ne (.nm .jW) (.list .nil)) (.cons (.bV .aV (.pop (.nm .jW)))
 (.cons (.for (.one .cO) (.of (.sub (.nm .aL) (.str [101,100,103,101,115]))) (.cons (.ite (.cmp .isin (.nm .aV) (.sliceTo (.nm .cO) (.int 2))) (.cons (.bV .dh (.ite (.cmp .eq (.sub (.nm .cO) (.int 0)) (.nm .aV)) (.sub (.nm .cO) (.int 1)) (.sub (.nm .cO) (.int 0))))
 (.cons (.ite (.cmp .gU (.nm .dh) (.nm .bY)) (.cons (.bw (.nm .bY) (.nm .dh) (.bin .add (.sub (.nm .bY) (.nm .aV)) (.list (.cons (.nm .cO) .nil))))
 (.cons (.expr (.append (.nm .jW) (.nm .dh)))
 .nil)) .nil)
 .nil)) .nil)
 .nil))
 .nil)))
 (.cons (.ret (.nm .bY))
 .nil))))
noncomputable def oE:List Nm×Ss:=([.aT,.jn,.mD,.ky],
 (.cons (.bV .dO (.aY (.nm .aT) .i7 (.cons (.nm .jn) (.cons (.nm .mD) .nil))))
 (.cons (.unpack [.aV,.bN] (.tup (.cons (.nm .jn) (.cons (.int 0) .nil))))
 (.cons (.while (.bW true (.cons (.cmp .lt (.nm .bN) (.len (.nm .dO))) (.cons (.cmp .eq (.sub (.nm .dO) (.nm .bN)) (.nm .aV)) .nil))) (.cons (.unpack [.aV,.bN] (.tup (.cons (.sub (.sub (.attr (.nm .aT) .hS) (.nm .aV)) (.int 0)) (.cons (.bin .add (.nm .bN) (.int 1)) .nil))))
 .nil))
 (.cons (.bV .jr (.nm .mD))
 (.cons (.for (.one .dg) (.of (.sliceFrom (.nm .dO) (.nm .bN))) (.cons (.ite (.cmp .ne (.nm .dg) (.nm .jr)) (.cons (.ret (.bool false))
 .nil) .nil)
 (.cons (.bV .jr (.sub (.sub (.attr (.nm .aT) .hS) (.nm .dg)) (.int 0)))
 .nil)))
 (.cons (.bV .bY (.comp (.fo (.of (.sorted (.of (.list (.cons (.nm .dg) (.cons (.sub (.sub (.attr (.nm .aT) .hS) (.nm .dg)) (.int 0)) .nil))))))) (.one .dg) (.of (.nm .dO)) .nil))
 (.cons (.bV .fx (.comp (.sub (.sub (.attr (.nm .aT) .hS) (.nm .dg)) (.int 1)) (.one .dg) (.of (.nm .dO)) .nil))
 (.cons (.bV .jx (.dictOf (.of (.comp (.tup (.cons (.fo (.of (.sorted (.of (.sliceTo (.nm .cO) (.int 2)))))) (.cons (.sub (.nm .cO) (.int 2)) .nil))) (.one .cO) (.of (.nm .ky)) .nil))))
 (.cons (.ret (.bW true (.cons (.cmp .eq (.nm .jr) (.nm .aV)) (.cons (.cmp .eq (.len (.nm .bY)) (.len (.nm .ky))) (.cons (.cmp .eq (.dictOf (.zip (.nm .bY) (.nm .fx))) (.nm .jx)) .nil)))))
 .nil))))))))))
noncomputable def kg:List Nm×Ss:=([.ae],
 (.cons (.bV .bN (.int 0))
 (.cons (.while (.bW true (.cons (.cmp .lt (.nm .bN) (.len (.attr (.nm .ae) .dz))) (.cons (.isNone (.attr (.nm .ae) .fX)) .nil))) (.cons (.unpack [.dy,.cR,.oz] (.sub (.attr (.nm .ae) .dz) (.nm .bN)))
 (.cons (.bV .bN (.bin .add (.nm .bN) (.int 1)))
 (.cons (.ite (.cmp .ne (.sub (.attr (.nm .ae) .a9) (.nm .dy)) (.sub (.attr (.nm .ae) .a9) (.nm .cR))) (.cons (.expr (.aY (.nm .ae) .zr (.cons (.nm .dy) (.cons (.nm .cR) (.cons (.nm .oz) .nil)))))
 .nil) .nil)
 .nil))))
 (.cons (.setattr (.nm .ae) .dz (.list .nil))
 .nil))))
noncomputable def kl:List Nm×Ss:=([.ae,.cW],
 (.cons (.bw (.attr (.nm .ae) .a9) (.nm .cW) (.nm .cW))
 (.cons (.bw (.attr (.nm .ae) .bQ) (.nm .cW) (.list (.cons (.nm .cW) .nil)))
 (.cons (.bw (.attr (.nm .ae) .eC) (.nm .cW) (.list .nil))
 (.cons (.bw (.attr (.nm .ae) .dR) (.nm .cW) (.list .nil))
 (.cons (.bw (.attr (.nm .ae) .b5) (.nm .cW) (.list .nil))
 (.cons (.bw (.attr (.nm .ae) .di) (.nm .cW) (.ite (.cmp .isin (.aY (.attr (.nm .ae) .cf) .xK (.cons (.nm .cW) .nil)) (.glob .gM)) (.nm .cW) (.int 0)))
 (.cons (.bV .gN (.comp (.sub (.attr (.nm .ae) .a9) (.nm .iL)) (.one .iL) (.of (.aY (.nm .ae) .eT (.cons (.nm .cW) .nil))) .nil))
 (.cons (.for (.one .gm) (.of (.nm .gN)) (.cons (.expr (.append (.sub (.attr (.nm .ae) .eC) (.nm .gm)) (.nm .cW)))
 .nil))
 (.cons (.expr (.append (.attr (.nm .ae) .cL) (.tup (.cons (.str [101,110,116,101,114]) (.cons (.nm .cW) (.cons (.nm .gN) .nil))))))
 (.cons (.ite (.cmp .gt (.len (.nm .gN)) (.int 0)) (.cons (.expr (.aY (.nm .ae) .jX (.cons (.nm .cW) .nil)))
 .nil) .nil)
 .nil)))))))))))
noncomputable def kJ:List Nm×Ss:=([.ae,.cK,.gg,.gi],
 (.cons (.bV .kG (.sub (.nm .cK) (.int 0)))
 (.cons (.ite (.cmp .eq (.nm .kG) (.str [101,110,116,101,114])) (.cons (.expr .bad)
 (.cons (.expr (.append (.nm .gg) (.sub (.nm .cK) (.int 1))))
 .nil)) (.cons (.ite (.cmp .eq (.nm .kG) (.str [116,97,98,108,101])) (.cons (.ite (.isNone (.sub (.nm .cK) (.int 2))) (.cons (.del (.attr (.nm .ae) .fE) (.sub (.nm .cK) (.int 1)))
 .nil) (.cons (.bw (.attr (.nm .ae) .fE) (.sub (.nm .cK) (.int 1)) (.sub (.nm .cK) (.int 2)))
 .nil))
 .nil) (.cons (.ite (.cmp .eq (.nm .kG) (.str [106,111,105,110])) (.cons (.expr (.aY (.nm .ae) .iL (.cons (.sub (.nm .cK) (.int 1)) (.cons (.sub (.nm .cK) (.int 2)) (.cons (.sub (.nm .cK) (.int 3)) (.cons (.sub (.nm .cK) (.int 4)) .nil))))))
 .nil) (.cons (.ite (.cmp .eq (.nm .kG) (.str [101,100,103,101])) (.cons (.del (.attr (.nm .ae) .hS) (.sub (.nm .cK) (.int 1)))
 (.cons (.expr (.aY (.nm .ae) .uX (.cons (.sub (.nm .cK) (.int 2)) .nil)))
 .nil)) (.cons (.ite (.cmp .eq (.nm .kG) (.str [97,112,97,114,116])) (.cons (.expr (.pop (.sub (.attr (.nm .ae) .dR) (.sub (.nm .cK) (.int 1)))))
 (.cons (.expr (.pop (.sub (.attr (.nm .ae) .dR) (.sub (.nm .cK) (.int 2)))))
 .nil)) (.cons (.ite (.cmp .eq (.nm .kG) (.str [119,97,116,99,104])) (.cons (.unpack [.dy,.cR] (.sub (.attr (.nm .ae) .lB) (.sub (.nm .cK) (.int 1))))
 (.cons (.expr (.append (.nm .gi) (.tup (.cons (.sub (.nm .cK) (.int 1)) (.cons (.nm .dy) (.cons (.nm .cR) .nil))))))
 (.cons (.expr .bad)
 .nil))) (.cons (.del (.attr (.nm .ae) .dO) (.sub (.nm .cK) (.int 1)))
 .nil))
 .nil))
 .nil))
 .nil))
 .nil))
 .nil))
 .nil)))
noncomputable def km:List Nm×Ss:=([.ae,.cW],
 (.cons (.ite (.cmp .eq (.aY (.attr (.nm .ae) .cf) .xK (.cons (.nm .cW) .nil)) (.str [97,112,112])) (.cons (.ret (.aY (.attr (.nm .ae) .cf) .mC (.cons (.nm .cW) .nil)))
 .nil) .nil)
 (.cons (.ret (.tup .nil))
 .nil)))
noncomputable def rL:List Nm×Ss:=([.ae,.cW,.CU,.wo],
 (.cons (.ite (.cmp .ne (.sub (.attr (.nm .ae) .dF) (.nm .cW)) (.nm .CU)) (.cons .bad
 .nil) .nil)
 .nil))
noncomputable def fZ:List Nm×Ss:=([.ae,.jn,.mD],
 (.cons (.unpack [.mE,.jZ,.aV] (.tup (.cons (.list (.cons (.nm .jn) .nil)) (.cons (.dict (.cons (.nm .jn) (.int 0) .nil)) (.cons (.nm .jn) .nil)))))
 (.cons (.while (.cmp .isin (.nm .aV) (.attr (.nm .ae) .hS)) (.cons (.bV .aV (.sub (.sub (.attr (.nm .ae) .hS) (.nm .aV)) (.int 0)))
 (.cons (.bw (.nm .jZ) (.nm .aV) (.len (.nm .mE)))
 (.cons (.expr (.append (.nm .mE) (.nm .aV)))
 .nil))))
 (.cons (.unpack [.rk,.aV] (.tup (.cons (.list .nil) (.cons (.nm .mD) .nil))))
 (.cons (.while (.cmp .gU (.nm .aV) (.nm .jZ)) (.cons (.expr (.append (.nm .rk) (.nm .aV)))
 (.cons (.bV .aV (.sub (.sub (.attr (.nm .ae) .hS) (.nm .aV)) (.int 0)))
 .nil)))
 (.cons (.ret (.bin .add (.sliceTo (.nm .mE) (.sub (.nm .jZ) (.nm .aV))) (.nm .rk)))
 .nil))))))
noncomputable def gy:List Nm×Ss:=([.ae,.dy,.cR,.oz],
 (.cons (.ite (.cmp .gt (.len (.sub (.attr (.nm .ae) .bQ) (.sub (.attr (.nm .ae) .a9) (.nm .dy)))) (.len (.sub (.attr (.nm .ae) .bQ) (.sub (.attr (.nm .ae) .a9) (.nm .cR))))) (.cons (.unpack [.dy,.cR] (.tup (.cons (.nm .cR) (.cons (.nm .dy) .nil))))
 .nil) .nil)
 (.cons (.unpack [.cS,.br] (.tup (.cons (.sub (.attr (.nm .ae) .a9) (.nm .dy)) (.cons (.sub (.attr (.nm .ae) .a9) (.nm .cR)) .nil))))
 (.cons (.expr (.aY (.nm .ae) .zq (.cons (.nm .dy) (.cons (.nm .cR) (.cons (.nm .oz) .nil)))))
 (.cons (.bV .lu (.listOf (.of (.sub (.attr (.nm .ae) .eC) (.nm .cS)))))
 (.cons (.for (.one .cW) (.of (.nm .lu)) (.cons (.expr (.aY (.nm .ae) .oy (.cons (.nm .cW) .nil)))
 .nil))
 (.cons (.expr (.append (.attr (.nm .ae) .cL) (.tup (.cons (.str [106,111,105,110]) (.cons (.nm .cS) (.cons (.nm .br) (.cons (.aY (.nm .ae) .fv (.cons (.nm .br) .nil)) (.cons (.sub (.attr (.nm .ae) .di) (.nm .br)) .nil))))))))
 (.cons (.for (.one .cW) (.of (.sub (.attr (.nm .ae) .bQ) (.nm .cS))) (.cons (.bw (.attr (.nm .ae) .a9) (.nm .cW) (.nm .br))
 .nil))
 (.cons (.expr (.extend (.sub (.attr (.nm .ae) .bQ) (.nm .br)) (.sub (.attr (.nm .ae) .bQ) (.nm .cS))))
 (.cons (.expr (.extend (.sub (.attr (.nm .ae) .eC) (.nm .br)) (.sub (.attr (.nm .ae) .eC) (.nm .cS))))
 (.cons (.expr (.extend (.sub (.attr (.nm .ae) .dR) (.nm .br)) (.sub (.attr (.nm .ae) .dR) (.nm .cS))))
 (.cons (.expr (.extend (.sub (.attr (.nm .ae) .b5) (.nm .br)) (.sub (.attr (.nm .ae) .b5) (.nm .cS))))
 (.cons (.unpack [.rA,.ox] (.tup (.cons (.sub (.attr (.nm .ae) .di) (.nm .cS)) (.cons (.sub (.attr (.nm .ae) .di) (.nm .br)) .nil))))
 (.cons (.ite (.cmp .eq (.nm .ox) (.int 0)) (.cons (.bw (.attr (.nm .ae) .di) (.nm .br) (.nm .rA))
 .nil) .nil)
 (.cons (.for (.one .cW) (.of (.nm .lu)) (.cons (.expr (.aY (.nm .ae) .jX (.cons (.nm .cW) .nil)))
 .nil))
 (.cons (.bV .fx (.ite (.bW true (.cons (.cmp .ne (.nm .rA) (.int 0)) (.cons (.cmp .ne (.nm .ox) (.int 0)) .nil))) .bad (.aY (.nm .ae) .zv (.cons (.nm .cS) .nil))))
 (.cons (.ite (.isNone (.nm .fx)) (.cons (.expr (.aY (.nm .ae) .lD (.cons (.nm .br) .nil)))
 .nil) (.cons (.expr .bad)
 .nil))
 .nil)))))))))))))))))
noncomputable def jd:List Nm×Ss:=([.ae,.cW],
 (.cons (.bV .jt (.aY (.nm .ae) .jw (.cons (.nm .cW) .nil)))
 (.cons (.bV .dh (.oA (.attr (.nm .ae) .fE) (.nm .jt)))
 (.cons (.ite (.isNone (.nm .dh)) (.cons (.expr (.append (.attr (.nm .ae) .cL) (.tup (.cons (.str [116,97,98,108,101]) (.cons (.nm .jt) (.cons .none .nil))))))
 (.cons (.bw (.attr (.nm .ae) .fE) (.nm .jt) (.nm .cW))
 .nil)) (.cons (.ite (.cmp .ne (.sub (.attr (.nm .ae) .a9) (.nm .dh)) (.sub (.attr (.nm .ae) .a9) (.nm .cW))) (.cons (.expr (.append (.attr (.nm .ae) .dz) (.tup (.cons (.nm .cW) (.cons (.nm .dh) (.cons (.glob .dm) .nil))))))
 .nil) .nil)
 .nil))
 .nil))))
noncomputable def u0:List Nm×Ss:=([.ae,.cW],
 (.cons (.ret (.sub (.attr (.nm .ae) .eB) (.nm .cW)))
 .nil))
noncomputable def kK:List Nm×Ss:=([.ae,.cS,.br,.fv,.di],
 (.cons (.bw (.attr (.nm .ae) .bQ) (.nm .br) (.sliceTo (.sub (.attr (.nm .ae) .bQ) (.nm .br)) (.sub (.nm .fv) (.int 0))))
 (.cons (.bw (.attr (.nm .ae) .eC) (.nm .br) (.sliceTo (.sub (.attr (.nm .ae) .eC) (.nm .br)) (.sub (.nm .fv) (.int 1))))
 (.cons (.bw (.attr (.nm .ae) .dR) (.nm .br) (.sliceTo (.sub (.attr (.nm .ae) .dR) (.nm .br)) (.sub (.nm .fv) (.int 2))))
 (.cons (.bw (.attr (.nm .ae) .b5) (.nm .br) (.sliceTo (.sub (.attr (.nm .ae) .b5) (.nm .br)) (.sub (.nm .fv) (.int 3))))
 (.cons (.bw (.attr (.nm .ae) .di) (.nm .br) (.nm .di))
 (.cons (.for (.one .cW) (.of (.sub (.attr (.nm .ae) .bQ) (.nm .cS))) (.cons (.bw (.attr (.nm .ae) .a9) (.nm .cW) (.nm .cS))
 .nil))
 .nil)))))))
noncomputable def kL:List Nm×Ss:=([.ae,.cW],
 (.cons (.unpack [.jV,.aV] (.tup (.cons (.list .nil) (.cons (.nm .cW) .nil))))
 (.cons (.while (.cmp .isin (.nm .aV) (.attr (.nm .ae) .hS)) (.cons (.bV .cO (.sub (.attr (.nm .ae) .hS) (.nm .aV)))
 (.cons (.expr (.append (.nm .jV) (.tup (.cons (.nm .aV) (.cons (.nm .cO) .nil)))))
 (.cons (.bV .aV (.sub (.nm .cO) (.int 0)))
 .nil))))
 (.cons (.for (.many [.dg,.cO]) (.of (.nm .jV)) (.cons (.del (.attr (.nm .ae) .hS) (.nm .dg))
 .nil))
 (.cons (.for (.many [.dg,.cO]) (.of (.nm .jV)) (.cons (.bw (.attr (.nm .ae) .hS) (.sub (.nm .cO) (.int 0)) (.tup (.cons (.nm .dg) (.cons (.sub (.nm .cO) (.int 1)) .nil))))
 .nil))
 (.cons (.ret (.nm .aV))
 .nil))))))
noncomputable def rM:List Nm×Ss:=([.ae,.cW],
 (.cons (.ret (.sub (.attr (.nm .ae) .eF) (.nm .cW)))
 .nil))
noncomputable def ic:List Nm×Ss:=([.ae,.gm],
 (.cons (.for (.one .cW) (.of (.sub (.attr (.nm .ae) .b5) (.nm .gm))) (.cons (.expr .bad)
 .nil))
 .nil))
noncomputable def kM:List Nm×Ss:=([.ae,.cS],
 (.cons (.for (.many [.dy,.cR,.dp]) (.of (.sub (.attr (.nm .ae) .dR) (.nm .cS))) (.cons (.ite (.cmp .eq (.sub (.attr (.nm .ae) .a9) (.nm .dy)) (.sub (.attr (.nm .ae) .a9) (.nm .cR))) (.cons (.ret .bad)
 .nil) .nil)
 .nil))
 (.cons (.ret .none)
 .nil)))
noncomputable def je:List Nm×Ss:=([.ae,.gm],
 (.cons (.ret (.tup (.cons (.len (.sub (.attr (.nm .ae) .bQ) (.nm .gm))) (.cons (.len (.sub (.attr (.nm .ae) .eC) (.nm .gm))) (.cons (.len (.sub (.attr (.nm .ae) .dR) (.nm .gm))) (.cons (.len (.sub (.attr (.nm .ae) .b5) (.nm .gm))) .nil))))))
 .nil))
noncomputable def iS:List Nm×Ss:=([.ae,.cW],
 (.cons (.bV .jt (.aY (.nm .ae) .jw (.cons (.nm .cW) .nil)))
 (.cons (.ite (.cmp .eq (.oA (.attr (.nm .ae) .fE) (.nm .jt)) (.nm .cW)) (.cons (.expr (.append (.attr (.nm .ae) .cL) (.tup (.cons (.str [116,97,98,108,101]) (.cons (.nm .jt) (.cons (.nm .cW) .nil))))))
 (.cons (.del (.attr (.nm .ae) .fE) (.nm .jt))
 .nil)) .nil)
 .nil)))
noncomputable def kN:List Nm×Ss:=([.ae,.dy,.cR,.oz],
 (.cons (.bV .EV (.aY (.nm .ae) .uX (.cons (.nm .dy) .nil)))
 (.cons (.bw (.attr (.nm .ae) .hS) (.nm .dy) (.tup (.cons (.nm .cR) (.cons (.nm .oz) .nil))))
 (.cons (.expr (.append (.attr (.nm .ae) .cL) (.tup (.cons (.str [101,100,103,101]) (.cons (.nm .dy) (.cons (.nm .EV) .nil))))))
 .nil))))
noncomputable def ix:List Nm×Ss:=([.ae,.cW],
 (.cons (.ret (.bin .add (.tup (.cons (.aY (.attr (.nm .ae) .cf) .oo (.cons (.nm .cW) .nil)) .nil)) (.fo (.of (.comp (.sub (.attr (.nm .ae) .a9) (.nm .iL)) (.one .iL) (.of (.aY (.attr (.nm .ae) .cf) .mC (.cons (.nm .cW) .nil))) .nil)))))
 .nil))
noncomputable def rN:List Nm×Ss:=([.ae,.cW],
 (.cons (.ret (.sub (.attr (.nm .ae) .d5) (.nm .cW)))
 .nil))
noncomputable def zC:List (List Nm×Ss):=[rG,iQ,jB,mH,lH,rH,j9,rI,hZ,ib,iR,nM,ka,kb,jC,rJ,rK,oE,kg,kl,kJ,km,rL,fZ,gy,jd,u0,kK,kL,rM,ic,kM,je,iS,kN,ix,rN]
noncomputable def aH (f:Fn):Option (List Nm×Ss):=zC[f.val]?
end
end Mine.Internal
namespace Mine.Internal
noncomputable section
open PySem PySem.W PyProof.Rows
structure Mem where
 ad:Nat->UN
 dd:Nat->UN
 own:UN->Option Nat
 pv:UN->Bool
noncomputable abbrev cw (l:List Uo) (k:Nat):ć:=⟨.type "tuple",none,.seq l.toArray k, #[]⟩
noncomputable abbrev fh (l:List Uo) (k:Nat):ć:=⟨.type "list",none,.seq l.toArray k, #[]⟩
noncomputable abbrev jD (l:List U7) (k:Nat):ć:=⟨.type "dict",none,.dict l.toArray k, #[]⟩
structure TupAt (h:U1) (m:Mem) (a:UN) (l:List Uo) (k:Nat):Prop where
 get:h.get? a=some (cw l k)
 own:m.own a=none/\m.pv a=false
mutual
def VR (h:U1) (m:Mem) (N:Nat):V->Uo->Prop
 | .none,v=>v=.none
 | .bool b,v=>v=.bool b
 | .int i,v=>∃t,v=.int i t
 | .str s,v=>∃t,v=.str ⟨s.toArray⟩ t
 | .ref n,v=>n<N/\v=.ref (m.ad n)
 | .nil,v=>∃a k,v=.ref a/\TupAt h m a [] k
 | .cons x y,v=>∃a k i r,v=.ref a/\TupAt h m a (i::r) k/\VR h m N x i/\TR h m N y r
def TR (h:U1) (m:Mem) (N:Nat):V->List Uo->Prop
 | .nil,l=>l=[]
 | .cons x y,l=>∃i r,l=i::r/\VR h m N x i/\TR h m N y r
 | _,_=>False
end
def LR (h:U1) (m:Mem) (N:Nat):List V->List Uo->Prop
 | [],l=>l=[]
 | x::xs,l=>∃i r,l=i::r/\VR h m N x i/\LR h m N xs r
section
variable {h:U1}{m:Mem}{N:Nat}
@[simp] theorem eV {v:Uo}:VR h m N .none v↔v=.none:=X9
@[simp] theorem dS {b:Bool}{v:Uo}:VR h m N (.bool b) v↔v=.bool b:=X9
theorem bx {i:Int}{v:Uo}:VR h m N (.int i) v↔∃t,v=.int i t:=X9
theorem cj {s:List Nat}{v:Uo}:VR h m N (.str s) v↔∃t,v=.str ⟨s.toArray⟩ t:=X9
theorem b7 {n:Nat}{v:Uo}:VR h m N (.ref n) v↔n<N/\v=.ref (m.ad n):=X9
theorem ey (i:Int) (t:ķ):VR h m N (.int i) (.int i t):=bx.mpr ⟨t,rfl⟩
theorem oF (s:List Nat) (t:ķ):VR h m N (.str s) (.str ⟨s.toArray⟩ t):=cj.mpr ⟨t,rfl⟩
theorem zD:∀ {xs:List V}{l:List Uo},TR h m N (V.tup xs) l↔LR h m N xs l:=by
 intro z;induction z with
 | nil=>exact λ{l}=>X9
 | cons x xs ih=>exact λ{l}=>⟨λh=>eh h λi r e a b=>i6 i r e a (ih.mp b),λh=>eh h λi r e a b=>i6 i r e a (ih.mpr b)⟩
theorem iT {xs:List V}{v:Uo}:VR h m N (V.tup xs) v↔∃a k l,v=.ref a/\TupAt h m a l k/\LR h m N xs l:=by
 cases xs with
 | nil=>exact ⟨λh=>eQ h λa k e g=>CC a k [] e g rfl,λh=>mA h λa k l e g z=>jo a k e (aR z g)⟩
 | cons x xs=>exact ⟨λh=>zo h λa k i r e g p q=>CC a k (i::r) e g (i6 i r rfl p (zD.mp q)),λh=>mA h λa k l e g z=>eh z λi r z p q=>LW a k i r e (aR z g) p (zD.mpr q)⟩
theorem d6:∀ {v:V}{l:List V},v.items=some l->v=V.tup l:=by
 intro z9;induction z9 with
 | nil=>intro l e;injection e with z0;subst z0;rfl
 | cons x y CD sN=>
  intro l e
  obtain ⟨r,hr,rfl⟩:=(Option.map_eq_some_iff.mp e)
  refine aa (sN hr) ?_;rfl
 | none=>intro U e;contradiction
 | bool U=>intro U e;contradiction
 | int U=>intro U e;contradiction
 | str U=>intro U e;contradiction
 | ref U=>intro U e;contradiction
theorem qg:∀l:List V,(V.tup l).items=some l:=by
 intro z9;induction z9 with
 | nil=>exact rfl
 | cons x xs ih=>exact congrArg (Wm (x::·)) ih
theorem LR.length:∀ {xs:List V}{l:List Uo},LR h m N xs l->l.length=xs.length:=by
 intro z9;induction z9 with
 | nil=>intro l e;subst e;rfl
 | cons x xs ih=>intro l e;refine eh e λi r z1 U q=>?_;clear e;subst z1;simp [ih q]
theorem LR.append:∀ {xs ys:List V}{l l':List Uo},LR h m N xs l->LR h m N ys l'->LR h m N (xs++ys) (l++l'):=by
 intro z9;induction z9 with
 | nil=>intro U l U e e';subst e;exact e'
 | cons x xs ih=>intro U l U e e';refine eh e λi r z1 p q=>?_;clear e;subst z1;exact ⟨i,_,rfl,p,ih q e'⟩
theorem LR.one {x:V}{v:Uo} (e:VR h m N x v):LR h m N [x] [v]:=⟨v,[],rfl,e,rfl⟩
theorem LR.get:∀ {xs:List V}{l:List Uo}{i:Nat}{x:V},LR h m N xs l->xs[i]? =some x->∃v,l[i]? =some v/\VR h m N x v:=by
 intro xs;induction xs with
 | nil=>exact λ{l i x} U g=>nomatch g
 | cons x xs ih=>
  intro l i y e g
  refine eh e λu r z1 p q=>?_;clear e;subst z1
  cases i with
  | zero=>exact i12 u rfl (Uu g▸p)
  | succ i=>have z:=ih (i:=i) q g;exact z
theorem LR.take:∀ {xs:List V}{l:List Uo} (n:Nat),LR h m N xs l->LR h m N (xs.take n) (l.take n):=by
 intro xs;induction xs with
 | nil=>intro l n e;subst e;cases n<;>rfl
 | cons x xs ih=>
  intro l n e
  refine eh e λu r z1 p q=>?_;clear e;subst z1
  cases n with
  | zero=>rfl
  | succ n=>exact i6 u _ rfl p (ih n q)
theorem LR.drop:∀ {xs:List V}{l:List Uo} (n:Nat),LR h m N xs l->LR h m N (xs.drop n) (l.drop n):=by
 intro xs;induction xs with
 | nil=>intro l n e;subst e;cases n<;>rfl
 | cons x xs ih=>
  intro l n e
  refine eh e λu r z1 p q=>?_;clear e;subst z1
  cases n with
  | zero=>exact i6 u r rfl p q
  | succ n=>exact ih n q
theorem LR.reverse:∀ {xs:List V}{l:List Uo},LR h m N xs l->LR h m N xs.reverse l.reverse:=by
 intro xs;induction xs with
 | nil=>exact λ{l} e=>congrArg _ e
 | cons x xs ih=>
  intro l e
  refine eh e λu r z1 p q=>?_;clear e;subst z1
  exact w2 WI WI ((ih q).append (.one p))
theorem LR.last {xs:List V}{l:List Uo}{x:V} (e:LR h m N xs l) (g:xs.getLast? =some x):∃v,l.getLast? =some v/\VR h m N x v:=by
 rw [Zx] at g ⊢
 exact aa e.length (e.get g)
theorem LR.dropLast {xs:List V}{l:List Uo} (e:LR h m N xs l):LR h m N xs.dropLast l.dropLast:=by
 exact w2 Yd Yd (aa e.length (e.take _))
theorem LR.set:∀ {xs:List V}{l:List Uo} (i:Nat) {x:V}{v:Uo},LR h m N xs l->VR h m N x v->LR h m N (xs.set i x) (l.set i v):=by
 intro xs;induction xs with
 | nil=>exact λ{l} U {x v} e U=>aa e rfl
 | cons x xs ih=>
  intro l n y v e g
  refine eh e λu r z1 p q=>?_;clear e;subst z1
  cases n with
  | zero=>exact i6 v r rfl g q
  | succ n=>exact i6 u _ rfl p (ih n q g)
end
mutual
theorem VR.mono {h h':U1}{m m':Mem}{N N':Nat} (ht:∀a l k,TupAt h m a l k->TupAt h' m' a l k) (hm:∀n,n<N->m'.ad n=m.ad n) (hN:N<=N'):
 ∀ {x:V}{v:Uo},VR h m N x v->VR h' m' N' x v
 | .none,v,e=>e
 | .bool _,v,e=>e
 | .int _,v,e=>bx.mpr (bx.mp e)
 | .str _,v,e=>cj.mpr (cj.mp e)
 | .ref n,v,e=>by
  exact aU (b7.mp e) λa b=>b7.mpr ⟨UM a hN,aa (hm n a) b⟩
 | .nil,v,e=>by exact eQ e λa k b c=>jo a k b (ht _ _ _ c)
 | .cons x y,v,e=>by
  exact zo e λa k i r b c p q=>LW a k i r b (ht _ _ _ c) (VR.mono ht hm hN p) (TR.mono ht hm hN q)
theorem TR.mono {h h':U1}{m m':Mem}{N N':Nat} (ht:∀a l k,TupAt h m a l k->TupAt h' m' a l k) (hm:∀n,n<N->m'.ad n=m.ad n) (hN:N<=N'):
 ∀ {x:V}{v:List Uo},TR h m N x v->TR h' m' N' x v
 | .nil,v,e=>e
 | .cons x y,v,e=>by
  exact eh e λi r b p q=>i6 i r b (VR.mono ht hm hN p) (TR.mono ht hm hN q)
end
theorem LR.mono {h h':U1}{m m':Mem}{N N':Nat} (ht:∀a l k,TupAt h m a l k->TupAt h' m' a l k) (hm:∀n,n<N->m'.ad n=m.ad n) (hN:N<=N'):
 ∀ {x:List V}{v:List Uo},LR h m N x v->LR h' m' N' x v:=by
 intro z9;induction z9 with
 | nil=>intro v e;exact e
 | cons x xs ih=>
  intro v e
  exact eh e λi r b p q=>i6 i r b (VR.mono ht hm hN p) (ih q)
mutual
noncomputable def kh (w:VB):V->Int
 | .int i=>hashInt i
 | .str s=>hashStr w ⟨s.toArray⟩
 | .none=>0 | .bool _=>0 | .ref _=>0
 | .nil=>Yp (Va [])
 | .cons x y=>Yp (Va (kh w x::M9 w y))
noncomputable def M9 (w:VB):V->List Int
 | .cons x y=>kh w x::M9 w y
 | _=>[]
end
noncomputable def d7:V->Bool
 | .int _=>true
 | .str _=>true
 | .nil=>true
 | .cons x y=>d7 x&&d7 y&&(match y with | .nil=>true | .cons .. =>true | _=>false)
 | _=>false
noncomputable def dep:V->Nat
 | .nil=>1
 | .cons x y=>max (dep x+1) (dep y)
 | _=>0
noncomputable def dr:V->Nat
 | .cons x y=>dr x+dr y
 | _=>1
theorem lI {v:V} (h:v.flat=true):d7 v=true/\dep v=0:=by
 cases v<;>trivial
theorem qh {p:V->Bool}{n:Nat} (hp:∀v,p v=true->d7 v=true/\dep v<=n) {v:V}:V.chain p v=true->d7 v=true/\dep v<=n+1/\(match v with | .nil=>true | .cons .. =>true | _=>false)=true:=by
 induction v with
 | nil=>exact λU=>fc rfl (Vb _) rfl
 | cons x y U ih=>exact λe=>aU (fK e) λe1 e2=>eg (ih e2) λa b c=>aU (hp _ e1) λa' b'=>fc (Pf (Pf a' a) c) (Nat.max_le.mpr ⟨Vn b',b⟩) rfl
 | _=>exact λe=>nomatch e
theorem a8 {v:V}{k:Nat} (h:v.kind=some k):d7 v=true/\dep v<=2:=by
 cases v with
 | int _=>exact ⟨rfl,by simp [dep]⟩
 | str _=>exact ⟨rfl,by simp [dep]⟩
 | nil=>exact ⟨rfl,(US _)⟩
 | cons x y=>
  refine eg (qh (n:=1) (λv hv=>(IY hv).elim (λa=>aU (lI a) λb c=>⟨b,aa c (U3 1)⟩) λa=>eg (qh (n:=0) (λv hv=>aU (lI hv) λb c=>⟨b,UI c⟩) a) λb c U=>⟨b,c⟩) (lG h).1) λa b U=>⟨a,b⟩
 | none=>contradiction
 | bool _=>contradiction
 | ref _=>contradiction
section
variable {prog:Vo}{w:VB}{A:UO}{E:Uo->Um->Prop}{s:Um}{m:Mem}{N:Nat}
noncomputable def elems:V->List V
 | .cons x y=>x::elems y
 | _=>[]
noncomputable def eW:V->Bool
 | .nil=>true
 | .cons .. =>true
 | _=>false
def oG (prog:Vo) (w:VB) (v:V):Prop:=∀⦃key:Uo⦄ ⦃A:UO⦄ ⦃s:Um⦄ ⦃E:Uo->Um->Prop⦄ ⦃m:Mem⦄ ⦃N:Nat⦄ ⦃Q:Int->Um->Prop⦄,d7 v=true->A.units+dep v<VN->VR s.heap m N v key->
 Q (kh w v) {s with toks:=s.toks+dr v}->UC (UG prog w) A (pyHash key) Q E s
theorem khs_eq (w:VB):∀v:V,M9 w v=(elems v).map (kh w):=by
 intro z9;induction z9 with
 | cons x y CD sN=>exact congrArg (kh w x::·) sN
 | _=>rfl
theorem zE (w:VB) {v:V} (h:eW v=true):kh w v=Yp (Va ((elems v).map (kh w))):=by
 cases v with
 | nil=>rfl
 | cons x y=>exact congrArg (λz=>Yp (Va (kh w x::z))) (khs_eq w y)
 | _=>exact nomatch h
theorem lJ {h:U1}:∀ {v:V}{l:List Uo},TR h m N v l->LR h m N (elems v) l:=by
 intro z9;induction z9 with
 | nil=>intro l e;exact e
 | cons x y CD sN=>intro l e;refine eh e λi r z1 p q=>?_;clear e;subst z1;exact ⟨i,r,rfl,p,sN q⟩
 | none=>intro U e;simp only [TR] at e
 | bool U=>intro U e;simp only [TR] at e
 | int U=>intro U e;simp only [TR] at e
 | str U=>intro U e;simp only [TR] at e
 | ref U=>intro U e;simp only [TR] at e
theorem j0:∀ {v:V},d7 v=true->∀x∈elems v,d7 x=true/\dep x+1<=dep v:=by
 intro z9;induction z9 with
 | cons x y CD sN=>
  intro h z hz
  replace h:=lq h
  exact (List.mem_cons.mp hz).elim (λe=>aa e ⟨h.1.1,Ĉ _ _⟩) λhz=>aU (sN h.1.2 z hz) λa b=>⟨a,Ut b (Nat.le_max_right _ _)⟩
 | nil=>intro U U hz;contradiction
 | int U=>intro U U hz;contradiction
 | str U=>intro U U hz;contradiction
 | none=>intro h U U;contradiction
 | bool U=>intro h U U;contradiction
 | ref U=>intro h U U;contradiction
theorem zF:∀ {v:V},d7 v=true->eW v=true->dr v=((elems v).map dr).sum+1:=by
 intro z9;induction z9 with
 | nil=>intro U U;exact rfl
 | cons x y CD sN=>
  intro h U
  replace h:=lq h
  exact congrArg (dr x+·) (sN h.1.2 h.2)
 | none=>intro U e;contradiction
 | bool U=>intro U e;contradiction
 | int U=>intro U e;contradiction
 | str U=>intro U e;contradiction
 | ref U=>intro U e;contradiction
end
def zG (prog:Zv) (w:Z4) (A:VV) (E:Ve->UY->Prop) (s:UY) (m:Mem) (N:Nat) (v:V) (l:List Ve) (k:Nat) (a:Ws) (Q:Int->UY->Prop):Prop:=∀(H:∀x∈elems v,oG prog w x) (hk:d7 v=true) (hc:eW v=true) (hu:A.units+dep v<VN) (e:s.heap.get? a=some (cw l k)) (ht:TR s.heap m N v l) (q:Q (kh w v) {s with toks:=s.toks+dr v}),UC (UG prog w) A (pyHash (.ref a)) Q E s
noncomputable abbrev zH:=Zv×Z4×VV×(Ve->UY->Prop)×UY×Mem×Nat×V×(List Ve)×Nat×Ws×(Int->UY->Prop)
def zI (c:zH):Prop:=zG c.1 c.2.1 c.2.2.1 c.2.2.2.1 c.2.2.2.2.1 c.2.2.2.2.2.1 c.2.2.2.2.2.2.1 c.2.2.2.2.2.2.2.1 c.2.2.2.2.2.2.2.2.1 c.2.2.2.2.2.2.2.2.2.1 c.2.2.2.2.2.2.2.2.2.2.1 c.2.2.2.2.2.2.2.2.2.2.2
noncomputable def fO:zH:=ep (default,Ş 1,ZR,(λU U=>True),{},⟨λU=>0,λU=>0,λU=>none,λU=>false⟩,0,.none,[],0,0,(λU U=>True)) zI
namespace EX
@[irreducible] def prog:Zv:=fO.1
@[irreducible] def w:Z4:=fO.2.1
@[irreducible] def A:VV:=fO.2.2.1
@[irreducible] def E:Ve->UY->Prop:=fO.2.2.2.1
@[irreducible] def s:UY:=fO.2.2.2.2.1
@[irreducible] def m:Mem:=fO.2.2.2.2.2.1
@[irreducible] def N:Nat:=fO.2.2.2.2.2.2.1
@[irreducible] def v:V:=fO.2.2.2.2.2.2.2.1
@[irreducible] def l:List Ve:=fO.2.2.2.2.2.2.2.2.1
@[irreducible] def k:Nat:=fO.2.2.2.2.2.2.2.2.2.1
@[irreducible] def a:Ws:=fO.2.2.2.2.2.2.2.2.2.2.1
@[irreducible] def Q:Int->UY->Prop:=fO.2.2.2.2.2.2.2.2.2.2.2
theorem u2:zG prog w A E s m N v l k a Q:=by
 intro H hk hc hu e ht q
 have hT:s.TypeIs (.ref a) "tuple":=⟨_,e,rfl⟩
 have K:=j0 hk
 first | refine Uk (Ġ (.inr (aJ (Y2 _ _) (.s Z0) (.n 9900) (.s (.a Z0 Z1)) (.n 9900) hu rfl)) ?_) | skip
 refine Uk (WG hT F.slot_tuple_hash.lookup (Uk (WG hT F.slot_tuple_hash.lookup (Uk (wpAny_callSpecialIfBoundUnlessNone?_slot hT ċ (UU ċ hT F.entry_tuple_hash ?_ (F.args_tuple_hash_1 _)))))))
 show UC _ _ (Yz (.ref a)>>=_) _ _ s
 refine Uk (Y0 e rfl (Uk (aR YA ?_)))
 refine Ye _
  (λrest (b:Array Int) s'=>∃done left,elems v=done++left/\LR s.heap m N left rest/\b.toList=done.map (kh w)/\s'={s with toks:=s.toks+(done.map dr).sum})
  _ ?_ ?_ _ _ (Ih ([]) (elems v) rfl (lJ ht) rfl rfl)
 ·rintro x rest b s' ⟨done,left,hd,hl,hb,rfl⟩
  cases left with
  | nil=>simp [LR] at hl
  | cons y left=>
   refine eh hl λi r Q0 h1 zd=>?_
   cases Q0
   have hy:y∈elems v:=by refine aa hd ?_;simp
   refine Uk (H y hy (s:={s with toks:=s.toks+(done.map dr).sum}) (m:=m) (N:=N) (K y hy).1 ((aJ (Y3 _ _ _) (.s (.a (.s Z0) Z1)) (.n 9900) (.a (.s (.a Z0 Z2)) (.s Z1)) (.a (.n 9900) Z2) (Uq hu ((K y hy).2)) rfl)) h1 ?_)
   first
    | exact Us (Ih (done++ [y]) left (by simp [hd]) zd (by simp [hb]) (by simp [Nat.add_assoc]))
 ·rintro b s' ⟨done,left,hd,hl,hb,rfl⟩
  cases left with
  | cons y left=>simp [LR] at hl
  | nil=>
   rw [U6] at hd
   rw [zE w hc,zF hk hc,hd] at q
   show UC _ _ (retInt (Va b.toList)) _ _ _
   refine aa hb (ł ?_)
   show UC _ _ (if (decide (-(2:Int)^ 63<=Va (done.map (kh w)))&&decide (Va (done.map (kh w))<2 ^ 63))=true then _ else _) Q E _
   delta Yp at q
   by_cases hr:(decide (-(2:Int)^ 63<=Va (done.map (kh w)))&&decide (Va (done.map (kh w))<2 ^ 63))=true
   ·refine aa (if_pos hr) ?_
    replace q:=(if_pos hr)▸q
    exact Us (q)
   ·refine aa (if_neg hr) ?_
    replace q:=(if_neg hr)▸q
    exact Uk (VQ (Us (q)))
end EX
section
variable {prog:Vo}{w:VB}{A:UO}{E:Uo->Um->Prop}{s:Um}{m:Mem}{N:Nat}
theorem sV {v:V}{l:List Uo}{k:Nat}{a:UN}{Q:Int->Um->Prop} (H:∀x∈elems v,oG prog w x) (hk:d7 v=true) (hc:eW v=true) (hu:A.units+dep v<VN) (e:s.heap.get? a=some (cw l k)) (ht:TR s.heap m N v l) (q:Q (kh w v) {s with toks:=s.toks+dr v}):UC (UG prog w) A (pyHash (.ref a)) Q E s:=
 iK (P:=zI) (by with_unfolding_all exact EX.u2) (prog,w,A,E,s,m,N,v,l,k,a,Q) H hk hc hu e ht q
theorem nU:∀v:V,oG prog w v/\∀x∈elems v,oG prog w x:=by
 intro z9;induction z9 with
 | int i=>exact ⟨λ{key A s E m N Q} _ _ hv q=>by
  exact bb (bx.mp hv) λt z1=>aa z1 ((WQ prog w).pyHash (k:=i) (by simp [WQ,YV]) q),λx hx=>by cases hx⟩
 | str x=>exact ⟨λ{key A s E m N Q} _ _ hv q=>by
  exact bb (cj.mp hv) λt z2=>aa z2 ((XJ prog w).pyHash (k:=⟨x.toArray⟩) (by simp [XJ,Zu]) q),λx hx=>by cases hx⟩
 | nil=>exact ⟨λ{key A s E m N Q} hk hu hv q=>by
  refine eQ hv λa k z3 e=>?_;clear hv;exact aa z3 (sV (v:=.nil) (l:=[]) (λx hx=>by contradiction) rfl rfl hu e.get (show TR s.heap m N .nil [] by rfl) q),λx hx=>by contradiction⟩
 | cons x y CD sN=>
  have H:∀z∈elems (.cons x y),oG prog w z:=λz hz=>by
   simp only [elems,Wn] at hz
   rcases hz with rfl | hz
   ·exact CD.1
   ·exact sN.2 z hz
  refine ⟨λ{key A s E m N Q} hk hu hv q=>(zo hv λa k i r z4 e p z=>?_),H⟩;clear hv;exact aa z4 (sV (v:=.cons x y) (l:=i::r) H hk rfl hu e.get ((by exact i6 i r rfl p z)) q)
 | none=>exact ⟨λ{_ _ _ _ _ _ _} hk=>(by contradiction),λx hx=>by contradiction⟩
 | bool U=>exact ⟨λ{_ _ _ _ _ _ _} hk=>(by contradiction),λx hx=>by cases hx⟩
 | ref U=>exact ⟨λ{_ _ _ _ _ _ _} hk=>(by cases hk),λx hx=>by cases hx⟩
end
end
end Mine.Internal
namespace Mine.Internal
noncomputable section
open PySem PySem.W PyProof.Rows
def DR (w:VB) (h:U1) (m:Mem) (N:Nat):List (V×V)->List U7->Prop
 | [],l=>l=[]
 | p::ps,l=>∃e r,l=e::r/\(e.hash=kh w p.1/\VR h m N p.1 e.key/\VR h m N p.2 e.val)/\DR w h m N ps r
def FR (h:U1) (m:Mem) (N:Nat):List (Nm×V)->List U7->Prop
 | [],l=>l=[]
 | p::ps,l=>∃e r,l=e::r/\(∃t,e.key=.str p.1.str t)/\VR h m N p.2 e.val/\FR h m N ps r
theorem DR.mono {w:VB}{h h':U1}{m m':Mem}{N N':Nat} (ht:∀a l k,TupAt h m a l k->TupAt h' m' a l k) (hm:∀n,n<N->m'.ad n=m.ad n) (hN:N<=N'):
 ∀ {x:List (V×V)}{v:List U7},DR w h m N x v->DR w h' m' N' x v:=by
 intro z9;induction z9 with
 | nil=>intro v e;exact e
 | cons x xs ih=>
  intro v e
  exact eh e λi r b z1 q=>eg z1 λp1 p2 p3=>i6 i r b (fc p1 (VR.mono ht hm hN p2) (VR.mono ht hm hN p3)) (ih q)
theorem FR.mono {h h':U1}{m m':Mem}{N N':Nat} (ht:∀a l k,TupAt h m a l k->TupAt h' m' a l k) (hm:∀n,n<N->m'.ad n=m.ad n) (hN:N<=N'):
 ∀ {x:List (Nm×V)}{v:List U7},FR h m N x v->FR h' m' N' x v:=by
 intro z9;induction z9 with
 | nil=>intro v e;exact e
 | cons x xs ih=>
  intro v e
  exact qc e λi r b p1 p3 q=>Ih i r b p1 (VR.mono ht hm hN p3) (ih q)
def gW (d:List (V×V)):Prop:=∀p∈d,∀q∈d,p.1.kind=q.1.kind/\p.1.kind≠none
def OR (w:VB) (cls:kA->UN) (h:U1) (m:Mem) (N:Nat):O->UN->UN->Prop
 | .list l,a,_=>∃is k,h.get? a=some (fh is k)/\LR h m N l is/\l.length<=dj
 | .args l,a,_=>∃is k,h.get? a=some (fh is k)/\LR h m N l is/\l.length<=dj/\l.all isInt=true
 | .dict d,a,_=>∃es k,h.get? a=some (jD es k)/\DR w h m N d es/\d.length<=dj/\(d.map (·.1)).Nodup/\gW d
 | .inst c fs,a,dd=>h.get? a=some (XI (cls c) dd)/\∃es k,h.get? dd=some (jD es k)/\FR h m N fs es/\a≠dd/\(∀p∈fs,fieldOf c p.1=true)/\es.length<=100/\(fs.map (·.1)).Nodup
noncomputable def O.rO:O->Bool
 | .args _=>true
 | _=>false
def Lv (h:U1) (b:UN):Prop:=∃o,h.get? b=some o
structure Wd where
 prog:Vo
 w:VB
 K:XU
 base:U1
 cls:kA->UN
 fa:Fn->UN
 has:Fn->Bool
structure aB (W:Wd) (m:Mem) (σ:St) (h:U1):Prop where
 EY:∀n o,σ.get n=some o->n<σ.next
 own:∀n,n<σ.next->m.own (m.ad n)=some n/\m.own (m.dd n)=some n
 obj:∀n o,σ.get n=some o->OR W.w W.cls h m σ.next o (m.ad n) (m.dd n)
 new:∀n o,σ.get n=some o->o.rO=false->¬Lv W.base (m.ad n)/\¬Lv W.base (m.dd n)
 fresh:∀b n,m.own b=some n->Lv h b
 base:∀b o,W.base.get? b=some o->h.get? b=some o
 zJ:∀b n l k,m.own b=some n->W.base.get? b≠some (cw l k)
 CE:∀b,m.pv b=true->(∃l k,h.get? b=some (cw l k))/\∀l k,W.base.get? b≠some (cw l k)
 sW:∀b n o,m.own b=some n->¬W.base.IsCell b o
structure Step (W:Wd) (X:UN->Prop) (m:Mem) (N:Nat) (s:Um) (m':Mem) (N':Nat) (s':Um):Prop where
 le:N<=N'
 ad:∀n,n<N->m'.ad n=m.ad n/\m'.dd n=m.dd n
 own:∀b,Lv s.heap b->¬X b->m'.own b=m.own b
 live:∀b,Lv s.heap b->¬X b->Lv s'.heap b
 keep:∀b o,s.heap.get? b=some o->m.own b=none->¬X b->s'.heap.get? b=some o
 os:s'.os=s.os
 gens:s'.gens=s.gens
 tup:∀a l k,TupAt s.heap m a l k->TupAt s'.heap m' a l k
 pv:∀b,Lv s.heap b->¬X b->m'.pv b=m.pv b
def d8:UN->Prop:=λU=>False
theorem Step.refl {W X m N s}:Step W X m N s m N s:=⟨Ux _,λU U=>⟨rfl,rfl⟩,λU U U=>rfl,λU h U=>h,λU U e U U=>e,rfl,rfl,λU U U e=>e,λU U U=>rfl⟩
theorem Step.toks {W X m N s} (t:Nat):Step W X m N s m N {s with toks:=t}:=⟨Ux _,λU U=>⟨rfl,rfl⟩,λU U U=>rfl,λU h U=>h,λU U e U U=>e,rfl,rfl,λU U U e=>e,λU U U=>rfl⟩
theorem Step.trans {W X m₁ sX aj m₂ sY bJ xQ Jf kn} (x:Step W X m₁ sX aj m₂ sY bJ) (y:Step W X m₂ sY bJ xQ Jf kn):Step W X m₁ sX aj xQ Jf kn where
 le:=Ut x.le y.le
 ad n h:=⟨(y.ad n (UM h x.le)).1.trans (x.ad n h).1,(y.ad n (UM h x.le)).2.trans (x.ad n h).2⟩
 own b h z:=(y.own b (x.live b h z) z).trans (x.own b h z)
 live b h z:=y.live b (x.live b h z) z
 keep b o e n z:=y.keep b o (x.keep b o e n z) (by rw [x.own b ⟨o,e⟩ z];exact n) z
 os:=y.os.trans x.os
 gens:=y.gens.trans x.gens
 tup a l k e:=y.tup a l k (x.tup a l k e)
 pv b h z:=(y.pv b (x.live b h z) z).trans (x.pv b h z)
theorem Step.drop {W}{X Y:UN->Prop}{m N s m' N' s'} (x:Step W X m N s m' N' s') (h:∀b,Lv s.heap b->X b->Y b):Step W Y m N s m' N' s':=
 ⟨x.le,x.ad,λb l n=>x.own b l λq=>n (h b l q),λb l n=>x.live b l λq=>n (h b l q),λb o e k n=>x.keep b o e k λq=>n (h b ⟨o,e⟩ q),x.os,x.gens,x.tup,λb l n=>x.pv b l λq=>n (h b l q)⟩
theorem Step.weaken {W X m N s m' N' s'} (x:Step W d8 m N s m' N' s'):Step W X m N s m' N' s':=x.drop λU U q=>q.elim
theorem Step.wide {W}{Y X:UN->Prop}{m N s m' N' s'} (x:Step W Y m N s m' N' s') (h:∀b,Y b->X b):Step W X m N s m' N' s':=x.drop λb U=>h b
theorem Step.Jg {W}{Y X:UN->Prop}{gK jE cA m₁ sX aj m₂ sY bJ} (x:Step W Y gK jE cA m₁ sX aj) (y:Step W (λb=>Y b\/X b) m₁ sX aj m₂ sY bJ) (h:∀b,X b->¬Lv cA.heap b):Step W Y gK jE cA m₂ sY bJ:=
 ((x.wide λU=>.inl).trans y).drop λb l q=>q.elim id λq=>absurd l (h b q)
theorem Step.close {W}{X:UN->Prop}{gK jE cA m₁ sX aj m₂ sY bJ} (x:Step W d8 gK jE cA m₁ sX aj) (y:Step W X m₁ sX aj m₂ sY bJ) (h:∀b,X b->¬Lv cA.heap b):Step W d8 gK jE cA m₂ sY bJ:=(x.weaken.trans y).drop λb l q=>h b q l
theorem Step.vr {W X m N s m' N' s'} (x:Step W X m N s m' N' s') {v:V}{u:Uo} (r:VR s.heap m N v u):VR s'.heap m' N' v u:=r.mono x.tup (λn h=>(x.ad n h).1) x.le
theorem Step.lr {W X m N s m' N' s'} (x:Step W X m N s m' N' s') {v:List V}{u:List Uo} (r:LR s.heap m N v u):LR s'.heap m' N' v u:=r.mono x.tup (λn h=>(x.ad n h).1) x.le
theorem Step.tok {W X m N s m' N' s'} (x:Step W X m N s m' N' s') (t:Nat):Step W X m N s m' N' {s' with toks:=t}:=x.trans (.toks t)
theorem aB.apart {W m σ h} (S:aB W m σ h) {n n':Nat} (hn:n<σ.next) (u3:n'<σ.next) (ne:n≠n'):m.ad n≠m.ad n'/\m.ad n≠m.dd n'/\m.dd n≠m.ad n'/\m.dd n≠m.dd n':=by
 have a:=S.own n hn;have b:=S.own n' u3
 refine zk (λe=>ne ?_) (λe=>ne ?_) (λe=>ne ?_) (λe=>ne ?_)
 ·rw [e,b.1] at a;exact (Uu a.1).symm
 ·rw [e,b.2] at a;exact (Uu a.1).symm
 ·rw [e,b.1] at a;exact (Uu a.2).symm
 ·rw [e,b.2] at a;exact (Uu a.2).symm
theorem aB.Jh {W m σ h h'} (S:aB W m σ h) (e:h'=h):aB W m σ h':=aa e S
theorem OR.M' {w cls h m N o a dd} (r:OR w cls h m N o a dd) {l:List Uo}{k:Nat}:h.get? a≠some (cw l k):=by
 cases o with
 | list x=>refine eQ r λis k' e U=>aa e ?_;intro q;simp at q
 | args x=>refine eQ r λis k' e U=>aa e ?_;intro q;simp at q
 | dict x=>refine eQ r λis k' e U=>aa e ?_;intro q;simp at q
 | inst c fs=>refine aa r.1 ?_;intro q;simp at q
theorem OR.mono {w cls h h' m m' N N' o a dd} (r:OR w cls h m N o a dd) (ht:∀a l k,TupAt h m a l k->TupAt h' m' a l k) (hm:∀n,n<N->m'.ad n=m.ad n) (hN:N<=N')
 (ha:∀o,h.get? a=some o->h'.get? a=some o) (hd:∀o,h.get? dd=some o->h'.get? dd=some o):OR w cls h' m' N' o a dd:=by
 cases o with
 | list x=>exact eh r λis k' e q z=>⟨is,k',ha _ e,q.mono ht hm hN,z⟩
 | args x=>exact qc r λis k' e q z y=>⟨is,k',ha _ e,q.mono ht hm hN,z,y⟩
 | dict x=>exact qc r λis k' e q z y=>⟨is,k',ha _ e,q.mono ht hm hN,z,y⟩
 | inst c fs=>obtain ⟨a1,es,k,b,c1,c2⟩:=r;exact ⟨ha _ a1,es,k,hd _ b,c1.mono ht hm hN,c2⟩
noncomputable def Mem.put (m:Mem) (n:Nat) (a d:UN):Mem:=⟨λk=>if k=n then a else m.ad k,λk=>if k=n then d else m.dd k,λb=>if b=a\/b=d then some n else m.own b,m.pv⟩
theorem aB.dead {W m σ h} (S:aB W m σ h) {b} (hn:¬Lv h b):m.own b=none:=Option.eq_none_iff_forall_ne_some.mpr λn e=>hn (S.fresh b n e)
theorem aB.off {W m σ h} (S:aB W m σ h) {d} (hd:m.own d=none) {n} (hn:n<σ.next):m.ad n≠d/\m.dd n≠d:=
 ⟨λe=>fg (hd.symm.trans (aR e (S.own n hn).1)),λe=>fg (hd.symm.trans (aR e (S.own n hn).2))⟩
theorem aB.shift {W m σ}{s:Um}{X:UN->Prop}{d:UN}{h':U1}{tk:Nat} (S:aB W m σ s.heap) (hd:m.own d=none) (hb:¬Lv W.base d) (hX:X d) (hs:XM d s.heap h') (ht:∀l k,¬TupAt s.heap m d l k) (hp:m.pv d=true->∃l k,h'.get? d=some (cw l k)):
 Step W X m σ.next s m σ.next {s with heap:=h',toks:=tk}/\aB W m σ h':=by
 have T:∀a l k,TupAt s.heap m a l k->TupAt h' m a l k:=λa l k e=>⟨hs a _ (λq=>ht l k (aR q e)) e.get,e.own⟩
 refine ⟨⟨Ux _,λU U=>⟨rfl,rfl⟩,λU U U=>rfl,λb e nx=>e.elim λo e=>⟨o,hs b o (λq=>nx (aa q hX)) e⟩,λb o e U nx=>hs b o (λq=>nx (aa q hX)) e,rfl,rfl,T,λU U U=>rfl⟩,
  ⟨S.EY,S.own,λn o e=>have q:=S.off hd (S.EY n o e);(S.obj n o e).mono T (λU U=>rfl) (Ux _) (λo=>hs _ o q.1) (λo=>hs _ o q.2),S.new,λb n e=>(S.fresh b n e).elim λo e'=>⟨o,hs b o (λq=>fg (hd.symm.trans (aR q e))) e'⟩,λb o e=>hs b o (λq=>hb ⟨o,aR q e⟩) (S.base b o e),S.zJ,λb e=>⟨?_,(S.CE b e).2⟩,S.sW⟩⟩
 by_cases q:b=d
 ·exact aa q (hp (aR q e))
 ·exact sQ (S.CE b e).1 λl k e'=>⟨l,k,hs b _ q e'⟩
theorem aB.dP {W m σ}{s:Um}{X:UN->Prop}{d:UN}{h':U1}{tk:Nat} (S:aB W m σ s.heap) (hd:m.own d=none) (hb:¬Lv W.base d) (hX:X d) (hs:XM d s.heap h') (sZ:∀l k,s.heap.get? d≠some (cw l k)):
 Step W X m σ.next s m σ.next {s with heap:=h',toks:=tk}/\aB W m σ h':=
 S.shift hd hb hX hs (λl k t=>sZ l k t.get) λh=>sQ (S.CE d h).1 λl k e=>absurd e (sZ l k)
theorem aB.Gx {W m σ}{s:Um}{X:UN->Prop}{d:UN}{h':U1}{tk:Nat} (S:aB W m σ s.heap) (hp:m.pv d=true) (hd:m.own d=none) (hb:¬Lv W.base d) (hX:X d) (hs:Vh d s.heap h') (hl:∃l k,h'.get? d=some (cw l k)):
 Step W X m σ.next s m σ.next {s with heap:=h',toks:=tk}/\aB W m σ h':=
 S.shift hd hb hX hs.extBut (λl k t=>YZ (hp.symm.trans t.own.2)) λU=>hl
theorem cH {W m σ}{s:Um} (S:aB W m σ s.heap):¬Lv s.heap s.heap.objs.size/\¬Lv W.base s.heap.objs.size/\m.own s.heap.objs.size=none:=
 have nl:¬Lv s.heap s.heap.objs.size:=λe=>e.elim λo e=>WX _ (Vt e)
 ⟨nl,λe=>e.elim λo e=>nl ⟨o,S.base _ _ e⟩,S.dead nl⟩
theorem aB.grown {W m σ}{s:Um}{h' tk} (S:aB W m σ s.heap) (hk:∀b o,s.heap.get? b=some o->h'.get? b=some o):
 Step W d8 m σ.next s m σ.next {s with heap:=h',toks:=tk}/\aB W m σ h':=
 have f:=cH S
 have g:=S.dP (X:=λb=>b=s.heap.objs.size) (tk:=tk) f.2.2 f.2.1 rfl (λb o U=>hk b o) λl k e=>f.1 ⟨_,e⟩
 ⟨g.1.drop λb l q=>f.1 (aR q l),g.2⟩
theorem aB.Gy {W m σ}{s:Um}{o:O}{a d:UN}{h':U1}{tk:Nat} (S:aB W m σ s.heap) (ba:¬Lv W.base a) (bd:¬Lv W.base d) (la:Lv h' a) (ld:Lv h' d) (oa:m.own a=none) (od:m.own d=none) (kp:∀b,b≠a->b≠d->∀o,s.heap.get? b=some o->h'.get? b=some o) (ta:∀b,b=a\/b=d->∀l k,s.heap.get? b≠some (cw l k))
 (hO:∀m',(∀n,n<σ.next->m'.ad n=m.ad n)->(∀b,b≠a->b≠d->m'.own b=m.own b/\m'.pv b=m.pv b)->OR W.w W.cls h' m' (σ.next+1) o a d):
 ∃m',Step W (λb=>b=a\/b=d) m σ.next s m' (σ.next+1) {s with heap:=h',toks:=tk}/\aB W m' (σ.push o) h'/\m'.ad σ.next=a/\∀b,b≠a->b≠d->m'.own b=m.own b:=by
 have A1:∀n,n≠σ.next->(m.put σ.next a d).ad n=m.ad n:=λn q=>if_neg q
 have D1:∀n,n≠σ.next->(m.put σ.next a d).dd n=m.dd n:=λn q=>if_neg q
 have A0:(m.put σ.next a d).ad σ.next=a:=if_pos rfl
 have D0:(m.put σ.next a d).dd σ.next=d:=if_pos rfl
 have O1:∀b,b≠a->b≠d->(m.put σ.next a d).own b=m.own b:=λb p q=>if_neg λh=>h.elim p q
 have na:∀ {b},Lv W.base b->b≠a/\b≠d:=λl=>⟨λq=>ba (aR q l),λq=>bd (aR q l)⟩
 have T:∀b l k,TupAt s.heap m b l k->TupAt h' (m.put σ.next a d) b l k:=λb l k e=>have p:=λq=>ta b (.inl q) l k e.get;have q:=λq=>ta b (.inr q) l k e.get;⟨kp b p q _ e.get,(O1 b p q).trans e.own.1,e.own.2⟩
 have G:∀ {n o'},(σ.push o).get n=some o'->(n=σ.next/\o=o')\/n≠σ.next/\σ.get n=some o':=λ{n o'} e=>by
  by_cases q:n=σ.next
  ·exact .inl ⟨q,Uu ((if_pos q).symm.trans e)⟩
  ·exact .inr ⟨q,(if_neg q).symm.trans e⟩
 refine ⟨m.put σ.next a d,⟨US _,λn hn=>⟨A1 n (UZ hn),D1 n (UZ hn)⟩,λb U nx=>O1 b (λq=>nx (.inl q)) λq=>nx (.inr q),λb e nx=>e.elim λo e=>⟨o,kp b (λq=>nx (.inl q)) (λq=>nx (.inr q)) o e⟩,λb o e U nx=>kp b (λq=>nx (.inl q)) (λq=>nx (.inr q)) o e,rfl,rfl,T,λU U U=>rfl⟩,
  ⟨λn o' e=>(G e).elim (λq=>æ (UI q.1)) λq=>UR (S.EY n o' q.2),λn hn=>?_,λn o' e=>(G e).elim (λq=>?_) λq=>?_,λn o' e ha=>(G e).elim (λq=>?_) λq=>?_,λb n e=>?_,λb o e=>kp b (na ⟨o,e⟩).1 (na ⟨o,e⟩).2 o (S.base b o e),λb n l k e hb=>have z:=na ⟨_,hb⟩;S.zJ b n l k ((O1 b z.1 z.2).symm.trans e) hb,
   λb e=>⟨sQ (S.CE b e).1 λl k e'=>⟨l,k,kp b (λq=>ta b (.inl q) l k e') (λq=>ta b (.inr q) l k e') _ e'⟩,(S.CE b e).2⟩,λb n o e hb=>aN (id hb) λob eb U=>have z:=na ⟨_,eb⟩;S.sW b n o ((O1 b z.1 z.2).symm.trans e) hb⟩,A0,O1⟩
 ·by_cases q:n=σ.next
  ·exact ⟨(congrArg _ (show (m.put σ.next a d).ad n=a from if_pos q)).trans ((if_pos (.inl rfl)).trans (congrArg some q.symm)),(congrArg _ (show (m.put σ.next a d).dd n=d from if_pos q)).trans ((if_pos (.inr rfl)).trans (congrArg some q.symm))⟩
  ·have hn:=Ú (Nat.le_of_lt_succ hn) q
   have p:=S.off oa hn
   have r:=S.off od hn
   exact ⟨(congrArg _ (A1 n q)).trans ((O1 _ p.1 r.1).trans (S.own n hn).1),(congrArg _ (D1 n q)).trans ((O1 _ p.2 r.2).trans (S.own n hn).2)⟩
 ·exact aa q.1 (aR q.2 (w2 A0 D0 (hO _ (λn hn=>A1 n (UZ hn)) λb p q=>⟨O1 b p q,rfl⟩)))
 ·have hn:=S.EY n o' q.2
  have p:=S.off oa hn
  have r:=S.off od hn
  exact w2 (A1 n q.1) (D1 n q.1) ((S.obj n o' q.2).mono T (λn hn=>A1 n (UZ hn)) (US _) (kp _ p.1 r.1) (kp _ p.2 r.2))
 ·exact aa q.1 (w2 A0 D0 ⟨ba,bd⟩)
 ·exact w2 (A1 n q.1) (D1 n q.1) (S.new n o' q.2 ha)
 ·by_cases q:b=a\/b=d
  ·exact q.elim (λq=>aa q la) λq=>aa q ld
  ·exact (S.fresh b n ((if_neg q).symm.trans e)).elim λo e=>⟨o,kp b (λz=>q (.inl z)) (λz=>q (.inr z)) o e⟩
theorem aB.EZ {W m σ s}{o:O}{ob:ć}{tk:Nat} (S:aB W m σ s.heap) (hf:ob.isFreed=false) (wF:o.rO=false)
 (hO:∀h' m',(∀n,n<σ.next->m'.ad n=m.ad n)->(∀a l k,TupAt s.heap m a l k->TupAt h' m' a l k)->h'.get? s.heap.objs.size=some ob->OR W.w W.cls h' m' (σ.next+1) o s.heap.objs.size s.heap.objs.size):
 ∃m',Step W d8 m σ.next s m' (σ.next+1) {s with heap:=s.heap.push ob,toks:=tk}/\aB W m' (σ.push o) (s.heap.push ob)/\m'.ad σ.next=s.heap.objs.size:=by
 have f:=cH S
 have l:Lv (s.heap.push ob) s.heap.objs.size:=⟨ob,UK _ hf⟩
 have t:∀b,b=s.heap.objs.size\/b=s.heap.objs.size->¬Lv s.heap b:=λb q l=>f.1 (aR (q.elim id id) l)
 exact i5 (S.Gy (o:=o) (tk:=tk) f.2.1 f.2.1 l l f.2.2 f.2.2 (λb U U o e=>Uv _ e) (λb q l k e=>t b q ⟨_,e⟩) λm' h1 h2=>hO _ m' h1 (λb l k e=>have n:b≠s.heap.objs.size:=λq=>t b (.inl q) ⟨_,e.get⟩;⟨Uv _ e.get,(h2 b n n).1.trans e.own.1,(h2 b n n).2.trans e.own.2⟩) (UK _ hf)) λm' T S' z=>⟨m',Step.close .refl T t,S',z.1⟩
theorem aB.change {W m σ s}{n:Nat}{o o':O}{h':U1}{tk:Nat} (S:aB W m σ s.heap) (ho:σ.get n=some o) (wF:o.rO=false) (Q1:o'.rO=false)
 (d:UN) (hd:d=m.ad n\/d=m.dd n) (hs:Vh d s.heap h') (sZ:∀l k,s.heap.get? d≠some (cw l k)) (Q2:Lv h' d)
 (hO:(∀a l k,TupAt s.heap m a l k->TupAt h' m a l k)->OR W.w W.cls h' m σ.next o' (m.ad n) (m.dd n)):
 Step W d8 m σ.next s m σ.next {s with heap:=h',toks:=tk}/\aB W m (σ.set n o') h':=by
 have hn:=S.EY n o ho
 have bX:m.own d=some n:=by rcases hd with rfl | rfl;exact (S.own n hn).1;exact (S.own n hn).2
 have hb:=S.new n o ho wF
 have ht:∀a l k,TupAt s.heap m a l k->TupAt h' m a l k:=λa l k e=>⟨by
  exact aa (hs.2 a (by rintro rfl;exact sZ _ _ e.get)) e.get,e.own⟩
 have Na:¬Lv W.base d:=by rcases hd with rfl | rfl;exact hb.1;exact hb.2
 have lv:∀b,Lv s.heap b->Lv h' b:=λb ⟨o,e⟩=>by
  by_cases q:b=d
  ·exact aa q Q2
  ·exact ⟨o,(hs.2 b q).trans e⟩
 refine ⟨⟨Ux _,λU U=>⟨rfl,rfl⟩,λU U U=>rfl,λb h U=>lv b h,λb o e nn U=>?_,rfl,rfl,ht,λU U U=>rfl⟩,⟨?_,?_,?_,?_,?_,?_,S.zJ,λb e=>by exact aU (S.CE b e) λz1 x=>sQ z1 λl k e'=>⟨⟨l,k,(hs.2 b (by rintro rfl;exact sZ _ _ e')).trans e'⟩,x⟩,S.sW⟩⟩
 ·exact (hs.2 b (by rintro rfl;rw [bX] at nn;contradiction)).trans e
 ·intro n' u4 e
  replace e:(if n'=n then some o' else σ.get n')=some u4:=e
  by_cases q:n'=n
  ·exact aa q hn
  ·rw [if_neg q] at e;exact S.EY _ _ e
 ·exact S.own
 ·intro n' u4 e
  replace e:(if n'=n then some o' else σ.get n')=some u4:=e
  by_cases q:n'=n
  ·rw [if_pos q] at e;refine aa q ?_;injection e with z0;subst z0;exact hO ht
  ·replace e:=(if_neg q)▸e
   have ap:=S.apart (S.EY _ _ e) hn q
   have n1:m.ad n'≠d:=by rcases hd with rfl | rfl;exact ap.1;exact ap.2.1
   have n2:m.dd n'≠d:=by rcases hd with rfl | rfl;exact ap.2.2.1;exact ap.2.2.2
   exact (S.obj n' u4 e).mono ht (λU U=>rfl) (Ux _) (λo e=>(hs.2 _ n1).trans e) (λo e=>(hs.2 _ n2).trans e)
 ·intro n' u4 e ha
  replace e:(if n'=n then some o' else σ.get n')=some u4:=e
  by_cases q:n'=n
  ·exact aa q hb
  ·rw [if_neg q] at e;exact S.new _ _ e ha
 ·exact λb n' e=>lv _ (S.fresh _ _ e)
 ·exact λb u4 e=>(hs.2 b (by rintro rfl;exact Na ⟨_,e⟩)).trans (S.base _ _ e)
end
end Mine.Internal
namespace Mine.Internal
noncomputable section
open PySem PySem.W PyProof.Rows
noncomputable def codeOf (x:Uz):Nat:=x.cps.toList.foldl (λa c=>a*200+c) 1
theorem code_inj {x y:Nm} (h:codeOf x.str=codeOf y.str):x=y:=
 (by decide+kernel:∀i j:Nm,codeOf i.str=codeOf j.str->i=j) x y h
theorem str_inj {x y:Nm} (h:x.str=y.str):x=y:=by
 exact code_inj ((congrArg _ h))
structure bK (W:Wd) (m:Mem) (N:Nat) (h:U1) (env:WO) (l:Loc):Prop where
 kind:env.scope.kind=.function
 glob:env.globals=U'
 mI:env.builtins=XS
 ns:∃mm,h.Ns env.locals mm/\∀x v,l x=some v->env.kindOf x.str=some .local->∃u,mm x.str=some u/\VR h m N v u
 cell:∀n c,env.cells.lookup n=some c->(∃o,h.IsCell c o)/\m.own c=none/\c≠env.locals
 s6:∀x v,l x=some v->(env.kindOf x.str=some .cell\/env.kindOf x.str=some .free)->∃c u,env.cells.lookup x.str=some c/\h.IsCell c (some u)/\VR h m N v u
 has:∀n,(env.kindOf n=some .cell\/env.kindOf n=some .free)->∃c,env.cells.lookup n=some c
 above:∀n c,env.kindOf n=some .cell->env.cells.lookup n=some c->¬Lv W.base c
 inj:∀n n' c,env.cells.lookup n=some c->env.cells.lookup n'=some c->n=n'
 free:m.own env.locals=none/\¬Lv W.base env.locals
def f9 (env:WO):UN->Prop:=λb=>b=env.locals\/∃n,env.cells.lookup n=some b
theorem bK.step {W m N s m' N' s' env l} (R:bK W m N s.heap env l) (T:Step W d8 m N s m' N' s'):bK W m' N' s'.heap env l:=by
 refine aN R.ns λmm hn hv=>?_
 have kc:∀n c,env.cells.lookup n=some c->∀o,s.heap.IsCell c o->s'.heap.IsCell c o:=λn c hc o ⟨ob,e,d⟩=>⟨ob,T.keep c ob e (R.cell n c hc).2.1 (λf=>f),d⟩
 refine ⟨R.kind,R.glob,R.mI,(i12 mm ?_ (λx v a b=>?_)),λn c hc=>?_,λx v a b=>?_,R.has,R.above,R.inj,?_⟩
 ·exact nL hn λo es ep ho r=>⟨o,es,ep,T.keep _ _ ho R.free.1 (λf=>f),r⟩
 ·exact aN (hv x v a b) λu e r=>i12 u e (T.vr r)
 ·exact eg (R.cell n c hc) λz1 b c'=>bb z1 λo a=>fc ⟨o,kc n c hc o a⟩ ((T.own c (by exact aN a λob e U=>⟨_,e⟩) (λf=>f)).trans b) c'
 ·exact eh (R.s6 x v a b) λc u e f r=>i6 c u e (kc _ _ e _ f) (T.vr r)
 ·exact ⟨(nL hn λol U U uS U=>(T.own _ ⟨_,uS⟩ (λf=>f)).trans R.free.1),R.free.2⟩
theorem aB.s7 {W m σ s}{X:UN->Prop}{d:UN}{h':U1}{tk:Nat} (S:aB W m σ s.heap) (hd:m.own d=none) (hb:¬Lv W.base d) (hX:X d) (hs:Vh d s.heap h') (sZ:∀l k,s.heap.get? d≠some (cw l k)):
 Step W X m σ.next s m σ.next {s with heap:=h',toks:=tk}/\aB W m σ h':=S.dP hd hb hX hs.extBut sZ
theorem storeOk {W m σ s env l}{A:UO}{E:Uo->Um->Prop}{M:Z9}{x:Nm}{v:V}{u:Uo}{Q:Unit->Um->Prop} (S:aB W m σ s.heap) (R:bK W m σ.next s.heap env l) (hv:VR s.heap m σ.next v u)
 (hk:env.kindOf x.str=some .local\/env.kindOf x.str=some .cell)
 (q:∀s',Step W (f9 env) m σ.next s m σ.next s'->aB W m σ s'.heap->bK W m σ.next s'.heap env (l.set x v)->Q () s'):
 UC M A (storeName env x.str u) Q E s:=by
 refine aN R.ns λmm hn hm=>mA hn λol es ep uS xR U=>hk.elim (λhk=>?_) λhk=>?_
 ·refine á hk hn (λh' u3 hs=>?_) (aa R.kind rfl)
  have sZ:∀l k,s.heap.get? env.locals≠some (cw l k):=λl k e=>by rw [uS] at e;injection e with z0;subst z0;contradiction
  refine aU (S.s7 (X:=f9 env) (tk:=s.toks+1) R.free.1 R.free.2 (VT rfl) hs sZ) λT S'=>q _ T S' ⟨R.kind,R.glob,R.mI,(i12 _ u3 (λy w a b=>?_)),λn c hc=>?_,λy w a b=>?_,R.has,R.above,R.inj,R.free⟩
  ·unfold Loc.set at a
   by_cases e:y=x
   ·subst e;rw [if_pos rfl] at a;injection a with z0;subst z0;exact i12 u (by simp) (T.vr hv)
   ·replace a:=(if_neg e)▸a
    exact aN (hm y w a b) λu' p r=>i12 u' ((if_neg (λz=>e (str_inj z))).trans p) (T.vr r)
  ·exact eg (R.cell n c hc) λz1 b c'=>bb z1 λo a=>fc ⟨o,a.sameBut hs c'⟩ b c'
  ·unfold Loc.set at a
   by_cases e:y=x
   ·subst e;replace b:=hk▸b<;>contradiction
   ·replace a:=(if_neg e)▸a
    exact eh (R.s6 y w a b) λc u' p f r=>i6 c u' p (f.sameBut hs (R.cell _ _ p).2.2) (T.vr r)
 ·refine bb (R.has x.str (.inl hk)) λc hc=>eg (R.cell _ _ hc) λz2 Q3 L6=>?_;obtain ⟨o,ho⟩:=z2
  refine wpAny_storeName_cell R.kind hk hc ho λh' E4 hs=>?_
  have sZ:∀l k,s.heap.get? c≠some (cw l k):=λl k e=>by refine aN ho λob e' d=>?_;rw [e] at e';injection e' with z0;subst z0;contradiction
  refine aU (S.s7 (X:=f9 env) (tk:=s.toks) Q3 (R.above _ _ hk hc) (Vw ⟨_,hc⟩) hs sZ) λT S'=>q _ T S' ⟨R.kind,R.glob,R.mI,(i12 mm (hn.sameBut hs (Ne.symm L6)) (λy w a b=>?_)),λn c' CF=>?_,λy w a b=>?_,R.has,R.above,R.inj,R.free⟩
  ·unfold Loc.set at a
   by_cases e:y=x
   ·subst e;rw [hk] at b;contradiction
   ·replace a:=(if_neg e)▸a
    exact aN (hm y w a b) λu' p r=>i12 u' p (T.vr r)
  ·refine eg (R.cell n c' CF) λz3 b d=>bb z3 λo' a=>?_
   by_cases e:c'=c
   ·subst e;exact fc ⟨_,E4⟩ b d
   ·exact fc ⟨o',a.sameBut hs e⟩ b d
  ·unfold Loc.set at a
   by_cases e:y=x
   ·subst e;rw [if_pos rfl] at a;injection a with z0;subst z0;exact i6 c u hc E4 (T.vr hv)
   ·replace a:=(if_neg e)▸a
    exact eh (R.s6 y w a b) λc' u' p f r=>i6 c' u' p (f.sameBut hs (by rintro rfl;exact e (str_inj (R.inj _ _ _ p hc)))) (T.vr r)
theorem zK {W m σ s env l}{A:UO}{E:Uo->Um->Prop}{M:Z9}{x:Nm}{v:V}{u:Uo}{Q:Unit->Um->Prop} (S:aB W m σ s.heap) (R:bK W m σ.next s.heap env l) (hv:VR s.heap m σ.next v u)
 (hk:env.kindOf x.str=some .local\/env.kindOf x.str=some .cell)
 (q:∀s',Step W (f9 env) m σ.next s m σ.next s'->aB W m σ s'.heap->bK W m σ.next s'.heap env (l.set x v)->Q () s'):
 UC M A (bindName env x.str u) Q E s:=by
 exact Uk (UH (YD (Uk (storeOk S R hv hk λs' T S' R'=>YD (q s' T S' R')))))
theorem Gz {W m σ s env l}{A:UO}{E:Uo->Um->Prop}{M:Z9}{x:Nm}{v:V}{pos:V'}{Q:Uo->Um->Prop} (R:bK W m σ s.heap env l) (hl:l x=some v)
 (hk:env.kindOf x.str=some .local\/env.kindOf x.str=some .cell\/env.kindOf x.str=some .free) (hd:(x.str==("__debug__":Uz))=false) (Nb:(x.str==("__classdict__":Uz))=false)
 (q:∀u,VR s.heap m σ v u->Q u s):UC M A (WZ (.Name x.str pos) env) Q E s:=by
 refine wpAny_Name ?_ hd
 rcases hk with hk | hk | hk
 ·exact aN R.ns λmm hn hm=>aN (hm x v hl hk) λu e r=>ñ R.kind hk hn e (q u r)
 ·exact eh (R.s6 x v hl (.inl hk)) λc u e f r=>wpAny_loadName_cell R.kind hk e f (q u r)
 ·exact eh (R.s6 x v hl (.inr hk)) λc u e f r=>Ă R.kind hk e f (q u r) Nb
end
end Mine.Internal
namespace Mine.Internal
open PySem PySem.W PyProof.Rows
noncomputable section
noncomputable abbrev Sc:=List (Uz×Yk)
noncomputable def zL (sc:Sc) (x:Nm):Bool:=sc.lookup x.str==some .local||sc.lookup x.str==some .cell||sc.lookup x.str==some .free
noncomputable def qi (sc:Sc) (x:Nm):Bool:=sc.lookup x.str==some .local||sc.lookup x.str==some .cell
noncomputable def jF (sc:Sc) (x:Uz) (y:String):Bool:=x==Uj y&&sc.lookup x==some .globalImplicit&&x !=("__debug__":Uz)
noncomputable def lK (f:Fn):String:=Jb.getD f.val ""
noncomputable def u5:kA->String
 | .ak=>"Congruence"
 | .av=>"TermBank"
noncomputable def zM:Ik->Š
 | .add=>.Add | .sub=>.Sub | .mul=>.Mult | .mod=>.Mod
noncomputable def s8:Gp->Į
 | .eq=>.Eq | .ne=>.NotEq | .lt=>.Lt | .gt=>.Gt | .le=>.LtE | .isin=>.In | .gU=>.NotIn
theorem ff {P:Prop} (h:false=true):P:=YZ h
noncomputable def sel (i n:Nat) (k:i=n->Bool):Bool:=if h:i=n then k h else false
theorem gz {i n:Nat}{k:i=n->Bool} (h:sel i n k=true):∃e,k e=true:=by
 delta sel at h
 by_cases e:i=n
 ·rw [dif_pos e] at h;exact ⟨e,h⟩
 ·rw [dif_neg e] at h;exact ff h
noncomputable def ni (y:Ul) (f:Uz->V'->Bool):Bool:=sel y.ctorIdx 23 λe=>@XA (λU=>Bool) y e f
theorem ja {y:Ul}{f:Uz->V'->Bool} (h:ni y f=true):∃a b,y=.Name a b/\f a b=true:=
 (gz h).elim λe h=>@XA (λy=>∀e:y.ctorIdx=23,@XA (λU=>Bool) y e f=true->∃a b,y=.Name a b/\f a b=true) y e (λa b U h=>jo a b rfl h) e h
noncomputable def pP (y:Ul) (f:ĩ->Nat->V'->Bool):Bool:=sel y.ctorIdx 19 λe=>@WL (λU=>Bool) y e f
theorem oH {y:Ul}{f:ĩ->Nat->V'->Bool} (h:pP y f=true):∃a b c,y=.Constant a b c/\f a b c=true:=
 (gz h).elim λe h=>@WL (λy=>∀e:y.ctorIdx=19,@WL (λU=>Bool) y e f=true->∃a b c,y=.Constant a b c/\f a b c=true) y e (λa b c U h=>CB a b c rfl h) e h
noncomputable def Ji (y:Ul) (f:Ć->Ul->V'->Bool):Bool:=sel y.ctorIdx 3 λe=>@WR (λU=>Bool) y e f
theorem Io {y:Ul}{f:Ć->Ul->V'->Bool} (h:Ji y f=true):∃a b c,y=.UnaryOp a b c/\f a b c=true:=
 (gz h).elim λe h=>@WR (λy=>∀e:y.ctorIdx=3,@WR (λU=>Bool) y e f=true->∃a b c,y=.UnaryOp a b c/\f a b c=true) y e (λa b c U h=>CB a b c rfl h) e h
noncomputable def s9 (y:Ul) (f:Ul->Uz->V'->Bool):Bool:=sel y.ctorIdx 20 λe=>@Wz (λU=>Bool) y e f
theorem qj {y:Ul}{f:Ul->Uz->V'->Bool} (h:s9 y f=true):∃a b c,y=.Attribute a b c/\f a b c=true:=
 (gz h).elim λe h=>@Wz (λy=>∀e:y.ctorIdx=20,@Wz (λU=>Bool) y e f=true->∃a b c,y=.Attribute a b c/\f a b c=true) y e (λa b c U h=>CB a b c rfl h) e h
noncomputable def u6 (y:Ul) (f:Ul->Ul->V'->Bool):Bool:=sel y.ctorIdx 21 λe=>@Wy (λU=>Bool) y e f
theorem pQ {y:Ul}{f:Ul->Ul->V'->Bool} (h:u6 y f=true):∃a b c,y=.Subscript a b c/\f a b c=true:=
 (gz h).elim λe h=>@Wy (λy=>∀e:y.ctorIdx=21,@Wy (λU=>Bool) y e f=true->∃a b c,y=.Subscript a b c/\f a b c=true) y e (λa b c U h=>CB a b c rfl h) e h
noncomputable def L7 (y:Ul) (f:Option Ul->Option Ul->Option Ul->V'->Bool):Bool:=sel y.ctorIdx 26 λe=>@Xn (λU=>Bool) y e f
theorem Nc {y:Ul}{f:Option Ul->Option Ul->Option Ul->V'->Bool} (h:L7 y f=true):∃a b c d,y=.Slice a b c d/\f a b c d=true:=
 (gz h).elim λe h=>@Xn (λy=>∀e:y.ctorIdx=26,@Xn (λU=>Bool) y e f=true->∃a b c d,y=.Slice a b c d/\f a b c d=true) y e (λa b c d U h=>zm a b c d rfl h) e h
noncomputable def Jj (y:Ul) (f:Ul->Š->Ul->V'->Bool):Bool:=sel y.ctorIdx 2 λe=>@Xp (λU=>Bool) y e f
theorem Jk {y:Ul}{f:Ul->Š->Ul->V'->Bool} (h:Jj y f=true):∃a b c d,y=.BinOp a b c d/\f a b c d=true:=
 (gz h).elim λe h=>@Xp (λy=>∀e:y.ctorIdx=2,@Xp (λU=>Bool) y e f=true->∃a b c d,y=.BinOp a b c d/\f a b c d=true) y e (λa b c d U h=>zm a b c d rfl h) e h
noncomputable def Jl (y:Ul) (f:Ul->List Į->List Ul->V'->Bool):Bool:=sel y.ctorIdx 15 λe=>@WS (λU=>Bool) y e f
theorem Nd {y:Ul}{f:Ul->List Į->List Ul->V'->Bool} (h:Jl y f=true):∃a b c d,y=.Compare a b c d/\f a b c d=true:=
 (gz h).elim λe h=>@WS (λy=>∀e:y.ctorIdx=15,@WS (λU=>Bool) y e f=true->∃a b c d,y=.Compare a b c d/\f a b c d=true) y e (λa b c d U h=>zm a b c d rfl h) e h
noncomputable def E7 (y:Ul) (f:ė->List Ul->V'->Bool):Bool:=sel y.ctorIdx 0 λe=>@Xd (λU=>Bool) y e f
theorem E8 {y:Ul}{f:ė->List Ul->V'->Bool} (h:E7 y f=true):∃a b c,y=.BoolOp a b c/\f a b c=true:=
 (gz h).elim λe h=>@Xd (λy=>∀e:y.ctorIdx=0,@Xd (λU=>Bool) y e f=true->∃a b c,y=.BoolOp a b c/\f a b c=true) y e (λa b c U h=>CB a b c rfl h) e h
noncomputable def Pw (y:Ul) (f:Ul->Ul->Ul->V'->Bool):Bool:=sel y.ctorIdx 5 λe=>@Xo (λU=>Bool) y e f
theorem Px {y:Ul}{f:Ul->Ul->Ul->V'->Bool} (h:Pw y f=true):∃a b c d,y=.IfExp a b c d/\f a b c d=true:=
 (gz h).elim λe h=>@Xo (λy=>∀e:y.ctorIdx=5,@Xo (λU=>Bool) y e f=true->∃a b c d,y=.IfExp a b c d/\f a b c d=true) y e (λa b c d U h=>zm a b c d rfl h) e h
noncomputable def E9 (y:Ul) (f:List Ul->V'->Bool):Bool:=sel y.ctorIdx 24 λe=>@XB (λU=>Bool) y e f
theorem Fb {y:Ul}{f:List Ul->V'->Bool} (h:E9 y f=true):∃a b,y=.List a b/\f a b=true:=
 (gz h).elim λe h=>@XB (λy=>∀e:y.ctorIdx=24,@XB (λU=>Bool) y e f=true->∃a b,y=.List a b/\f a b=true) y e (λa b U h=>jo a b rfl h) e h
noncomputable def zN (y:Ul) (f:List Ul->Nat->V'->Bool):Bool:=sel y.ctorIdx 25 λe=>@Xm (λU=>Bool) y e f
theorem zO {y:Ul}{f:List Ul->Nat->V'->Bool} (h:zN y f=true):∃a b c,y=.Tuple a b c/\f a b c=true:=
 (gz h).elim λe h=>@Xm (λy=>∀e:y.ctorIdx=25,@Xm (λU=>Bool) y e f=true->∃a b c,y=.Tuple a b c/\f a b c=true) y e (λa b c U h=>CB a b c rfl h) e h
noncomputable def Fc (y:Ul) (f:List (Option Ul)->List Ul->V'->Bool):Bool:=sel y.ctorIdx 6 λe=>@XC (λU=>Bool) y e f
theorem Fd {y:Ul}{f:List (Option Ul)->List Ul->V'->Bool} (h:Fc y f=true):∃a b c,y=.Dict a b c/\f a b c=true:=
 (gz h).elim λe h=>@XC (λy=>∀e:y.ctorIdx=6,@XC (λU=>Bool) y e f=true->∃a b c,y=.Dict a b c/\f a b c=true) y e (λa b c U h=>CB a b c rfl h) e h
noncomputable def zR (y:Ul) (f:Ul->List Ul->List Ý->V'->Bool):Bool:=sel y.ctorIdx 16 λe=>@XD (λU=>Bool) y e f
theorem Fe {y:Ul}{f:Ul->List Ul->List Ý->V'->Bool} (h:zR y f=true):∃a b c d,y=.Call a b c d/\f a b c d=true:=
 (gz h).elim λe h=>@XD (λy=>∀e:y.ctorIdx=16,@XD (λU=>Bool) y e f=true->∃a b c d,y=.Call a b c d/\f a b c d=true) y e (λa b c d U h=>zm a b c d rfl h) e h
noncomputable def Ff (y:Ul) (f:Ul->List Î->ZC->V'->Bool):Bool:=sel y.ctorIdx 8 λe=>@WK (λU=>Bool) y e f
theorem Jm {y:Ul}{f:Ul->List Î->ZC->V'->Bool} (h:Ff y f=true):∃a b c d,y=.ListComp a b c d/\f a b c d=true:=
 (gz h).elim λe h=>@WK (λy=>∀e:y.ctorIdx=8,@WK (λU=>Bool) y e f=true->∃a b c d,y=.ListComp a b c d/\f a b c d=true) y e (λa b c d U h=>zm a b c d rfl h) e h
noncomputable def wG (y:UQ) (f:List Ul->Ul->V'->Bool):Bool:=sel y.ctorIdx 5 λe=>@Xb (λU=>Bool) y e f
theorem CY {y:UQ}{f:List Ul->Ul->V'->Bool} (h:wG y f=true):∃a b c,y=.Assign a b c/\f a b c=true:=
 (gz h).elim λe h=>@Xb (λy=>∀e:y.ctorIdx=5,@Xb (λU=>Bool) y e f=true->∃a b c,y=.Assign a b c/\f a b c=true) y e (λa b c U h=>CB a b c rfl h) e h
noncomputable def Fg (y:UQ) (f:Ul->V'->Bool):Bool:=sel y.ctorIdx 24 λe=>@Xx (λU=>Bool) y e f
theorem Jn {y:UQ}{f:Ul->V'->Bool} (h:Fg y f=true):∃a b,y=.Expr a b/\f a b=true:=
 (gz h).elim λe h=>@Xx (λy=>∀e:y.ctorIdx=24,@Xx (λU=>Bool) y e f=true->∃a b,y=.Expr a b/\f a b=true) y e (λa b U h=>jo a b rfl h) e h
noncomputable def Py (y:UQ) (f:Ul->List UQ->List UQ->V'->Bool):Bool:=sel y.ctorIdx 12 λe=>@X0 (λU=>Bool) y e f
theorem Q4 {y:UQ}{f:Ul->List UQ->List UQ->V'->Bool} (h:Py y f=true):∃a b c d,y=.If a b c d/\f a b c d=true:=
 (gz h).elim λe h=>@X0 (λy=>∀e:y.ctorIdx=12,@X0 (λU=>Bool) y e f=true->∃a b c d,y=.If a b c d/\f a b c d=true) y e (λa b c d U h=>zm a b c d rfl h) e h
noncomputable def zS (y:UQ) (f:Ul->List UQ->List UQ->V'->Bool):Bool:=sel y.ctorIdx 11 λe=>@Xl (λU=>Bool) y e f
theorem GA {y:UQ}{f:Ul->List UQ->List UQ->V'->Bool} (h:zS y f=true):∃a b c d,y=.While a b c d/\f a b c d=true:=
 (gz h).elim λe h=>@Xl (λy=>∀e:y.ctorIdx=11,@Xl (λU=>Bool) y e f=true->∃a b c d,y=.While a b c d/\f a b c d=true) y e (λa b c d U h=>zm a b c d rfl h) e h
noncomputable def Jo (y:UQ) (f:Ul->Ul->List UQ->List UQ->V'->Bool):Bool:=sel y.ctorIdx 9 λe=>@XO (λU=>Bool) y e f
theorem Nf {y:UQ}{f:Ul->Ul->List UQ->List UQ->V'->Bool} (h:Jo y f=true):∃a b c d e,y=.For a b c d e/\f a b c d e=true:=
 (gz h).elim λe h=>@XO (λy=>∀e:y.ctorIdx=9,@XO (λU=>Bool) y e f=true->∃a b c d e,y=.For a b c d e/\f a b c d e=true) y e (λa b c d e U h=>QV a b c d e rfl h) e h
noncomputable def GB (y:UQ) (f:Option Ul->V'->Bool):Bool:=sel y.ctorIdx 3 λe=>@W0 (λU=>Bool) y e f
theorem Jp {y:UQ}{f:Option Ul->V'->Bool} (h:GB y f=true):∃a b,y=.Return a b/\f a b=true:=
 (gz h).elim λe h=>@W0 (λy=>∀e:y.ctorIdx=3,@W0 (λU=>Bool) y e f=true->∃a b,y=.Return a b/\f a b=true) y e (λa b U h=>jo a b rfl h) e h
noncomputable def Jq (y:UQ) (f:List Ul->V'->Bool):Bool:=sel y.ctorIdx 4 λe=>@Xa (λU=>Bool) y e f
theorem Ng {y:UQ}{f:List Ul->V'->Bool} (h:Jq y f=true):∃a b,y=.Delete a b/\f a b=true:=
 (gz h).elim λe h=>@Xa (λy=>∀e:y.ctorIdx=4,@Xa (λU=>Bool) y e f=true->∃a b,y=.Delete a b/\f a b=true) y e (λa b U h=>jo a b rfl h) e h
noncomputable def Fh (y:UQ) (f:V'->Bool):Bool:=sel y.ctorIdx 25 λe=>@Xw (λU=>Bool) y e f
theorem Jr {y:UQ}{f:V'->Bool} (h:Fh y f=true):∃a,y=.Pass a/\f a=true:=
 (gz h).elim λe h=>@Xw (λy=>∀e:y.ctorIdx=25,@Xw (λU=>Bool) y e f=true->∃a,y=.Pass a/\f a=true) y e (λa U h=>i12 a rfl h) e h
noncomputable def notStar (y:Ul):Bool:=
 @UT (λU=>Bool) y (λU U U=>true) (λU U U=>true) (λU U U U=>true) (λU U U=>true) (λU U U U=>true) (λU U U U=>true) (λU U U=>true) (λU U U=>true) (λU U U U=>true) (λU U U U=>true) (λU U U U U=>true) (λU U U U=>true) (λU U=>true) (λU U=>true) (λU U=>true) (λU U U U=>true) (λU U U U=>true) (λU U U U=>true) (λU U=>true) (λU U U=>true) (λU U U=>true) (λU U U=>true) (λU U=>false) (λU U=>true) (λU U=>true) (λU U U=>true) (λU U U U=>true)
noncomputable def jG (y:Ul):Bool:=
 @UT (λU=>Bool) y (λU U U=>true) (λU U U=>true) (λU U U U=>true) (λU U U=>true) (λU U U U=>true) (λU U U U=>true) (λU U U=>true) (λU U U=>false) (λU U U U=>true) (λU U U U=>true) (λU U U U U=>true) (λU U U U=>true) (λU U=>true) (λU U=>true) (λU U=>true) (λU U U U=>true) (λU U U U=>true) (λU U U U=>true) (λU U=>true) (λU U U=>true) (λU U U=>true) (λU U U=>true) (λU U=>true) (λU U=>true) (λU U=>true) (λU U U=>true) (λU U U U=>true)
noncomputable def zU (y:Ul):Bool:=
 @UT (λU=>Bool) y (λU U U=>true) (λU U U=>true) (λU U U U=>true) (λU U U=>true) (λU U U U=>true) (λU U U U=>true) (λU U U=>true) (λU U U=>true) (λU U U U=>true) (λU U U U=>true) (λU U U U U=>true) (λU U U U=>true) (λU U=>true) (λU U=>true) (λU U=>true) (λU U U U=>true) (λU U U U=>true) (λU U U U=>true) (λU U=>true) (λU U U=>true) (λU U U=>true) (λU U U=>true) (λU U=>true) (λU U=>true) (λU U=>true) (λU U U=>true) (λU U U U=>false)
noncomputable def rP (y:Ul):Bool:=
 @UT (λU=>Bool) y (λU U U=>true) (λU U U=>true) (λU U U U=>true) (λU U U=>true) (λU U U U=>true) (λU U U U=>true) (λU U U=>true) (λU U U=>true) (λU U U U=>false) (λU U U U=>false) (λU U U U U=>false) (λU U U U=>true) (λU U=>true) (λU U=>true) (λU U=>true) (λU U U U=>true) (λU U U U=>true) (λU U U U=>true) (λU U=>true) (λU U U=>true) (λU U U=>true) (λU U U=>true) (λU U=>true) (λU U=>true) (λU U=>true) (λU U U=>true) (λU U U U=>true)
noncomputable def oI (y:Ul):Bool:=
 @UT (λU=>Bool) y (λU U U=>true) (λU U U=>true) (λU U U U=>true) (λU U U=>true) (λU U U U=>true) (λU U U U=>true) (λU U U=>true) (λU U U=>true) (λU U U U=>true) (λU U U U=>true) (λU U U U U=>true) (λU U U U=>true) (λU U=>true) (λU U=>true) (λU U=>true) (λU U U U=>true) (λU U U U=>false) (λU U U U=>true) (λU U=>true) (λU U U=>true) (λU U U=>true) (λU U U=>true) (λU U=>true) (λU U=>true) (λU U=>true) (λU U U=>true) (λU U U U=>true)
noncomputable def wH (y:Ul):Bool:=
 @UT (λU=>Bool) y (λU U U=>true) (λU U U=>true) (λU U U U=>true) (λU U U=>true) (λU U U U=>true) (λU U U U=>true) (λU U U=>true) (λU U U=>true) (λU U U U=>true) (λU U U U=>false) (λU U U U U=>false) (λU U U U=>true) (λU U=>true) (λU U=>true) (λU U=>true) (λU U U U=>true) (λU U U U=>true) (λU U U U=>true) (λU U=>true) (λU U U=>true) (λU U U=>true) (λU U U=>true) (λU U=>true) (λU U=>true) (λU U=>true) (λU U U=>true) (λU U U U=>true)
noncomputable def lL (y:Ul):Bool:=oI y||zR y λg as U U=>s9 g (λU U U=>true)||!as.isEmpty
theorem bf {a b:Bool} (h:(a&&b)=true):a=true/\b=true:=Bool.and_eq_true_iff.mp h
theorem eX {a b c:Bool} (h:(a&&b&&c)=true):a=true/\b=true/\c=true:=fc ((bf (bf h).1).1) ((bf (bf h).1).2) ((bf h).2)
theorem kO {α:Type} [BEq α] [LawfulBEq α] {a b:α} (h:(a==b)=true):a=b:=beq_iff_eq.mp h
noncomputable def one {α:Type} (l:List α) (f:α->Bool):Bool:=@YO α (λU=>Bool) l false λa r=>r.isEmpty&&f a
theorem u7 {α:Type}{l:List α}{f:α->Bool}:one l f=true->∃a,l=[a]/\f a=true:=
 @YO α (λl=>one l f=true->∃a,l=[a]/\f a=true) l (λh=>ff h) λa r h=>i12 a (congrArg (a::·) (List.isEmpty_iff.mp (bf h).1)) ((bf h).2)
noncomputable def two {α:Type} (l:List α) (f:α->α->Bool):Bool:=@YO α (λU=>Bool) l false λa r=>one r λb=>f a b
theorem Nh {α:Type}{l:List α}{f:α->α->Bool}:two l f=true->∃a b,l=[a,b]/\f a b=true:=
 @YO α (λl=>two l f=true->∃a b,l=[a,b]/\f a b=true) l (λh=>ff h) λa U h=>let ⟨b,e,q⟩:=u7 h;(jo a b (congrArg (a::·) e) q)
noncomputable def qk {α:Type} (v:Option α) (f:α->Bool):Bool:=@å α (λU=>Bool) v false f
theorem wI {α:Type}{v:Option α}{f:α->Bool}:qk v f=true->∃x,v=some x/\f x=true:=
 @å α (λv=>qk v f=true->∃x,v=some x/\f x=true) v (λh=>ff h) λa h=>i12 a rfl h
theorem oJ {α:Type}{v:Option α} (h:v.isNone=true):v=none:=Option.isNone_iff_eq_none.mp h
theorem oK {α:Type}{l:List α} (h:l.isEmpty=true):l=[]:=List.isEmpty_iff.mp h
noncomputable def Pz (y:Ul) (f:Ul->Bool):Bool:=L7 y λa b c U=>a.isNone&&c.isNone&&qk b f
noncomputable def Fj (y:Ul) (f:Ul->Bool):Bool:=L7 y λa b c U=>b.isNone&&c.isNone&&qk a f
noncomputable def Fm (y:Ul) (f:Ul->Bool):Bool:=L7 y λa b c U=>a.isNone&&b.isNone&&qk c f
theorem Q5 {y f} (h:Pz y f=true):∃j p,y=.Slice none (some j) none p/\f j=true:=by
 exact jm (Nc h) λa b c p z1 h=>aa z1 (eg (eX h) λh1 h2 h3=>aN (wI h3) λx z2 q=>aa z2 (jo x p ((w2 (oJ h1) (oJ h2) rfl)) q))
theorem Js {y f} (h:Fj y f=true):∃j p,y=.Slice (some j) none none p/\f j=true:=by
 exact jm (Nc h) λa b c p z1 h=>aa z1 (eg (eX h) λh1 h2 h3=>aN (wI h3) λx z2 q=>aa z2 (jo x p ((w2 (oJ h1) (oJ h2) rfl)) q))
theorem Jt {y f} (h:Fm y f=true):∃j p,y=.Slice none none (some j) p/\f j=true:=by
 exact jm (Nc h) λa b c p z1 h=>aa z1 (eg (eX h) λh1 h2 h3=>aN (wI h3) λx z2 q=>aa z2 (jo x p ((w2 (oJ h1) (oJ h2) rfl)) q))
noncomputable def tc (y:Ul) (f:Ul->Į->Ul->Bool):Bool:=Jl y λl os rs U=>one os λo=>one rs λr=>f l o r
theorem Fo {y f} (h:tc y f=true):∃l o r p,y=.Compare l [o] [r] p/\f l o r=true:=by
 exact jm (Nd h) λl os rs p z1 h=>aa z1 (aN (u7 h) λo z2 h'=>aa z2 (aN (u7 h') λr z3 q=>aa z3 (zm l o r p rfl q)))
noncomputable def u9 (y:Ul) (f:Ul->List Ul->V'->Bool):Bool:=zR y λg as kw p=>kw.isEmpty&&f g as p
theorem zV {y f} (h:u9 y f=true):∃g as p,y=.Call g as [] p/\f g as p=true:=by
 exact jm (Fe h) λg as kw p z1 h=>aa z1 (CB g as p ((aa (oK (bf h).1) rfl)) ((bf h).2))
noncomputable def zW (y:Ul) (f:Ul->Ul->Ul->List Ul->ZC->Bool):Bool:=Ff y λe gs s U=>one gs λg=>g.is_async==0&&f e g.target g.iter g.ifs s
theorem rQ {y f} (h:zW y f=true):∃e t i cs s p,y=.ListComp e [⟨t,i,cs,0⟩] s p/\f e t i cs s=true:=by
 refine jm (Jm h) λe gs s p z1 h=>aa z1 (aN (u7 h) λz2 z3 h'=>?_);obtain ⟨t,i,cs,z⟩:=z2;refine aa z3 (aU (bf h') λa q=>?_)
 have a:z=0:=kO a
 exact Pp e t i cs s p ((aa a rfl)) q
noncomputable def oM (sc:Sc) (n:String) (y:Ul) (f:List Ul->Bool):Bool:=u9 y λg as U=>ni g λid U=>jF sc id n&&f as
theorem mJ {sc n y f} (h:oM sc n y f=true):∃id np as p,y=.Call (.Name id np) as [] p/\jF sc id n=true/\f as=true:=by
 exact nL (zV h) λg as p z1 h=>aa z1 (eQ (ja h) λid np z2 h'=>aa z2 (zm _ _ _ _ rfl (bf h')))
noncomputable def m1 (as:List Ul) (f:Ul->Bool):Bool:=one as λx=>notStar x&&f x
noncomputable def m2 (as:List Ul) (f:Ul->Ul->Bool):Bool:=two as λx y=>notStar x&&notStar y&&f x y
noncomputable def iU (sc:Sc) (n:String) (y:Ul) (f:Ul->Bool):Bool:=oM sc n y λas=>m1 as f
theorem i1 {as f} (h:m1 as f=true):∃x,as=[x]/\notStar x=true/\f x=true:=let ⟨x,e,q⟩:=u7 h;⟨x,e,bf q⟩
theorem i2 {as f} (h:m2 as f=true):∃x y,as=[x,y]/\notStar x=true/\notStar y=true/\f x y=true:=let ⟨x,y,e,q⟩:=Nh h;⟨x,y,e,eX q⟩
theorem fP {sc n y f} (h:iU sc n y f=true):∃id np x p,y=.Call (.Name id np) [x] [] p/\jF sc id n=true/\notStar x=true/\f x=true:=by
 exact CT (mJ h) λid np as p z1 hg k=>aa z1 (aN (i1 k) λx z2 q=>aa z2 (Po _ _ _ _ rfl hg q))
noncomputable def zX (sc:Sc) (n:String) (y:Ul) (f:Ul->Ul->Bool):Bool:=oM sc n y λas=>m2 as f
theorem zY {sc n y f} (h:zX sc n y f=true):∃id np a b p,y=.Call (.Name id np) [a,b] [] p/\jF sc id n=true/\notStar a=true/\notStar b=true/\f a b=true:=by
 exact CT (mJ h) λid np as p z1 hg k=>aa z1 (eQ (i2 k) λx y z2 q=>aa z2 (QW _ _ _ _ _ rfl hg q))
noncomputable def kC (n:Uz) (y:Ul) (f:Ul->List Ul->Bool):Bool:=u9 y λg as p=>s9 g λq n' ap=>n'==n&&(lL q&&ap.endLine==p.line)&&f q as
theorem kD {n y f} (h:kC n y f=true):∃q ap as p,y=.Call (.Attribute q n ap) as [] p/\lL q=true/\(ap.endLine==p.line)=true/\f q as=true:=by
 exact nL (zV h) λg as p z1 h=>aa z1 (nL (qj h) λq n' ap z2 h=>aa z2 (eg (eX h) λe hh hf=>aa (kO e) (LW _ _ _ _ rfl ((bf hh).1) ((bf hh).2) hf)))
noncomputable def oN (sc:Sc) (x:Nm) (s:ZC):Bool:=s.kind==.function&&s.names.lookup x.str==some .local&&s.names.all λp=>s.names.lookup p.1==some p.2&&(p.2==.local&&(p.1==x.str||p.1==(".0":Uz))||p.2==.globalImplicit||(p.2==.free&&(sc.lookup p.1==some .cell||sc.lookup p.1==some .free)))
noncomputable def qm (sc:Sc) (names:Sc):Sc:=names.map λ(n,k)=>if (k==Vv&&sc.lookup n==some .cell) then (n,Yj) else (n,k)
noncomputable def vc (sc:Sc):List Nm->List Ul->Bool
 | [],[]=>true
 | x::xs,e::es=>ni e (λid U=>id==x.str&&qi sc x)&&vc sc xs es
 | _,_=>false
noncomputable def Ni (sc:Sc):Tg->Ul->Bool
 | .one x,y=>ni y λid U=>id==x.str&&qi sc x
 | .many xs,y=>zN y λes U U=>vc sc xs es
noncomputable def Q6 (sc:Sc) (t:Tg) (tg:Ul) (s:ZC):Bool:=@Tg.casesOn (λU=>Bool) t (λx=>ni tg λid U=>id==x.str&&oN sc x s) λU=>false
mutual
noncomputable def dH (hs:Fn->Bool) (sc:Sc):E->Ul->Bool
 | .nm x,y=>ni y λid U=>id==x.str&&zL sc x
 | .glob x,y=>ni y λid U=>id==x.str&&sc.lookup x.str==some .globalImplicit
 | .int i,y=>pP y λc U U=>c==.int i
 | .neg i,y=>Ji y λop e U=>op==.USub&&pP e λc U U=>c==.int i
 | .str x,y=>pP y λc U U=>c==.str ⟨x.toArray⟩
 | .none,y=>pP y λc U U=>c==.none
 | .bool b,y=>pP y λc U U=>c==.bool b
 | .attr e x,y=>s9 y λo n U=>n==x.str&&lL o&&dH hs sc e o
 | .sub a i,y=>u6 y λo j U=>zU j&&dH hs sc a o&&dH hs sc i j
 | .sliceTo a i,y=>u6 y λo s U=>dH hs sc a o&&Pz s λj=>dH hs sc i j
 | .sliceFrom a i,y=>u6 y λo s U=>dH hs sc a o&&Fj s λj=>dH hs sc i j
 | .rev a,y=>u6 y λo s U=>dH hs sc a o&&Fm s λj=>Ji j λop e U=>op==.USub&&pP e λc U U=>c==.int 1
 | .call f as,y=>hs f&&oM sc (lK f) y λargs=>f' hs sc as args
 | .aY o m as,y=>kC m.str y λq args=>decide (args.length<30)&&dH hs sc o q&&f' hs sc as args
 | .new c as,y=>oM sc (u5 c) y λargs=>f' hs sc as args
 | .bin op a b,y=>Jj y λl o r U=>o==zM op&&dH hs sc a l&&dH hs sc b r
 | .cmp op a b,y=>tc y λl o r=>o==s8 op&&jG r&&(dH hs sc a l&&dH hs sc b r)
 | .isNone a,y=>tc y λl o r=>o==.Is&&pP r (λc U U=>c==.none)&&dH hs sc a l
 | .isNotNone a,y=>tc y λl o r=>o==.IsNot&&pP r (λc U U=>c==.none)&&dH hs sc a l
 | .bW c es,y=>E7 y λo vs U=>o==(if c then BoolOp.And else BoolOp.Or)&&f' hs sc es vs
 | .not a,y=>Ji y λop x U=>op==.Not&&dH hs sc a x
 | .ite c a b,y=>Pw y λt x z U=>dH hs sc c t&&dH hs sc a x&&dH hs sc b z
 | .list es,y=>E9 y λxs U=>f' hs sc es xs
 | .tup es,y=>zN y λxs U U=>f' hs sc es xs
 | .dict ps,y=>Fc y λks vs U=>decide (ks.length<=15)&&CZ hs sc ps ks vs
 | .comp e t i ifs,y=>zW y λelt tg iter cs s=>Q6 sc t tg s&&ze hs sc i iter&&(f' hs (qm sc s.names) ifs cs&&decide (cs.length<=1)&&dH hs (qm sc s.names) e elt)
 | .len a,y=>iU sc "len" y λx=>dH hs sc a x
 | .listOf i,y=>iU sc "list" y λx=>ze hs sc i x
 | .fo i,y=>iU sc "tuple" y λx=>ze hs sc i x
 | .dictOf i,y=>iU sc "dict" y λx=>ze hs sc i x
 | .sorted i,y=>iU sc "sorted" y λx=>ze hs sc i x
 | .strOf a,y=>iU sc "str" y λx=>dH hs sc a x
 | .append o x,y=>kC "append" y λq as=>dH hs sc o q&&m1 as λz=>dH hs sc x z
 | .extend o x,y=>kC "extend" y λq as=>dH hs sc o q&&m1 as λz=>dH hs sc x z
 | .pop o,y=>kC "pop" y λq as=>dH hs sc o q&&as.isEmpty
 | .oA o k,y=>kC "get" y λq as=>dH hs sc o q&&m1 as λz=>dH hs sc k z
 | .rD o k d,y=>kC "get" y λq as=>dH hs sc o q&&m2 as λz w=>dH hs sc k z&&dH hs sc d w
 | .ir,_=>false
 | .bad,_=>true
noncomputable def f' (hs:Fn->Bool) (sc:Sc):Es->List Ul->Bool
 | .nil,xs=>xs.isEmpty
 | .cons e r,xs=>match xs with
  | x::xs=>notStar x&&dH hs sc e x&&f' hs sc r xs
  | []=>false
noncomputable def CZ (hs:Fn->Bool) (sc:Sc):Ps->List (Option Ul)->List Ul->Bool
 | .nil,ks,ys=>ks.isEmpty&&ys.isEmpty
 | .cons k v r,ks,ys=>match ks,ys with
  | some x::xs,y::ys=>dH hs sc k x&&dH hs sc v y&&CZ hs sc r xs ys
  | _,_=>false
noncomputable def ze (hs:Fn->Bool) (sc:Sc):It->Ul->Bool
 | .of e,x=>jG x&&dH hs sc e x
 | .range e,y=>iU sc "range" y λx=>dH hs sc e x
 | .zip a b,y=>zX sc "zip" y λx z=>dH hs sc a x&&dH hs sc b z
 | .items o,y=>kC "items" y λq as=>dH hs sc o q&&as.isEmpty
end
noncomputable def qo (y:Ul):Bool:=!(zN y λvs U U=>vs.all (ŝ 8))
noncomputable def jH (y:UQ) (f:Ul->Ul->Bool):Bool:=wG y λts v U=>one ts λt=>f t v
theorem jI {y f} (h:jH y f=true):∃t v p,y=.Assign [t] v p/\f t v=true:=by
 exact nL (CY h) λts v p z1 h=>aa z1 (aN (u7 h) λt z2 q=>aa z2 (CB t v p rfl q))
mutual
noncomputable def L8 (hs:Fn->Bool) (sc:Sc):S->UQ->Bool
 | .expr e,y=>Fg y λx U=>rP x&&dH hs sc e x
 | .bV x e,y=>jH y λt v=>ni t (λid U=>id==x.str&&qi sc x)&&wH v&&dH hs sc e v
 | .unpack xs e,y=>jH y λt v=>zN t (λes U U=>vc sc xs es)&&qo v&&dH hs sc e v
 | .setattr o x e,y=>jH y λt v=>s9 t (λq n U=>n==x.str&&dH hs sc o q)&&dH hs sc e v
 | .bw o k e,y=>jH y λt v=>u6 t (λq i U=>dH hs sc o q&&dH hs sc k i)&&dH hs sc e v
 | .ite c a b,y=>Py y λt x z U=>dH hs sc c t&&pR hs sc a x&&pR hs sc b z
 | .while c b,y=>zS y λt x z U=>z.isEmpty&&(dH hs sc c t&&pR hs sc b x)
 | .for t i b,y=>Jo y λtg it x z U=>z.isEmpty&&(Ni sc t tg&&ze hs sc i it&&pR hs sc b x)
 | .ret e,y=>GB y λv U=>qk v λx=>dH hs sc e x
 | .lE,y=>GB y λv U=>v.isNone
 | .del o k,y=>Jq y λts U=>one ts λt=>u6 t λq i U=>dH hs sc o q&&dH hs sc k i
 | .pass,y=>Fh y λU=>true
 | .bad,_=>true
noncomputable def pR (hs:Fn->Bool) (sc:Sc):Ss->List UQ->Bool
 | .nil,xs=>xs.isEmpty
 | .cons s r,xs=>match xs with
  | x::xs=>L8 hs sc s x&&pR hs sc r xs
  | []=>false
end
noncomputable def Nj:It->Bool
 | .of _=>true
 | .range _=>true
 | .zip _ _=>true
 | .items _=>false
mutual
noncomputable def bL:E->Bool
 | .nm _ | .glob _ | .int _ | .neg _ | .str _ | .none | .bool _ | .bad=>true
 | .attr e _=>bL e
 | .sub a i=>bL a&&bL i
 | .sliceTo a i=>bL a&&bL i
 | .sliceFrom a i=>bL a&&bL i
 | .rev a=>bL a
 | .call f as=>decide (lK f≠"")&&lM as
 | .aY o _ as=>bL o&&lM as
 | .new _ as=>lM as
 | .bin _ a b=>bL a&&bL b
 | .cmp _ a b=>bL a&&bL b
 | .isNone a=>bL a
 | .isNotNone a=>bL a
 | .bW _ es=>lM es
 | .not a=>bL a
 | .ite c a b=>bL c&&bL a&&bL b
 | .list es=>lM es
 | .tup es=>lM es
 | .dict ps=>zZ ps
 | .comp e (.one _) i ifs=>bL e&&Nj i&&C0 i&&lM ifs
 | .len a=>bL a
 | .listOf (.of e)=>bL e
 | .fo (.of e)=>bL e
 | .dictOf (.of e)=>bL e
 | .dictOf (.zip a b)=>bL a&&bL b
 | .sorted (.of e)=>bL e
 | .sorted (.items e)=>bL e
 | .strOf a=>bL a
 | .append o x=>bL o&&bL x
 | .extend o x=>bL o&&bL x
 | .pop o=>bL o
 | .oA o x=>bL o&&bL x
 | .rD o x y=>bL o&&bL x&&bL y
 | _=>false
noncomputable def lM:Es->Bool
 | .nil=>true
 | .cons e r=>bL e&&lM r
noncomputable def zZ:Ps->Bool
 | .nil=>true
 | .cons a b r=>bL a&&bL b&&zZ r
noncomputable def C0:It->Bool
 | .of e=>bL e
 | .range e=>bL e
 | .zip a b=>bL a&&bL b
 | .items a=>bL a
end
mutual
noncomputable def Ju:S->Bool
 | .expr e=>bL e
 | .bV _ e=>bL e
 | .unpack _ e=>bL e
 | .setattr o _ e=>bL o&&bL e
 | .bw o i e=>bL o&&bL i&&bL e
 | .ite c a b=>bL c&&kE a&&kE b
 | .while c b=>bL c&&kE b
 | .for _ i b=>Nj i&&C0 i&&kE b
 | .ret e=>bL e
 | .lE | .pass | .bad=>true
 | .del o i=>bL o&&bL i
noncomputable def kE:Ss->Bool
 | .nil=>true
 | .cons s r=>Ju s&&kE r
end
end
end Mine.Internal
namespace Mine.Internal
noncomputable section
open PySem PySem.W PyProof.Rows
def C1 (k:Nat) (A:UO):Prop:=A.handled=none/\A.depth+2*k<Ś/\A.units+10*k+60<VN
def cT (k:Nat) (A:UO):Prop:=A.handled=none/\A.depth+2*k+1<Ś/\A.units+10*k+65<VN
theorem cT.room {k:Nat}{A:UO} (h:cT k A):C1 k A:=⟨h.1,by have:=h.2.1;exact Vz ‹_›,by have:=h.2.2;exact aJ (Y2 _ _) (.s (.a (.a Z0 (.m 10 Z1)) (.n 60))) (.n 9900) (.s (.a (.a Z0 (.m 10 Z1)) (.n 65))) (.n 9900) this rfl⟩
abbrev bz:=Fn->List V->St->K1 V->Prop
structure GC (W:Wd) (f:Fn) (ps:List Nm) (body:Ss) where
 o:ć
 fd:Á
 qp:List UQ
 at_:W.base.get? (W.fa f)=some o
 data:o.data=.func fd
 L9:fd.body=.stmts qp
 ok:pR W.has fd.scope.names body qp=true
 Q7:kE body=true
 co:fd.scope.isCoroutine=false
 gen:fd.scope.isGenerator=false
 kind:fd.scope.kind=.function
 code:W.base.CodeRec fd.code fd.qualname
 glob:fd.globals=U'
 mI:fd.builtins=XS
 gX:fd.closure=[]
 bind:∀us:List Uo,us.length=ps.length->Yg fd ⟨us,[]⟩=pure ((ps.map Nm.str).zip us)
 par:∀x∈ps,fd.scope.names.lookup x.str=some .local\/fd.scope.names.lookup x.str=some .cell
 pS:ps.Nodup
 free:∀p∈fd.scope.names,p.2≠.free
noncomputable def dI:List String:=["len","list","tuple","dict","sorted","str","int","abs","min","max","range","zip","enumerate","set","super"]
structure Facts (W:Wd) (D:Fn->Option (List Nm×Ss)) where
 mg:Uz->Option Uo
 mb:Uz->Option Uo
 X:W.K.In W.base
 g:W.base.Ns U' mg
 b:W.base.Ns XS mb
 bi:∀x:Uz,x≠"__name__"->mb x=Zj x
 lim:W.base.NoLimit
 glob:∀x v,wz x=some v->∃u,mg x.str=some u/\∀m N,(∀b n l k,m.own b=some n->W.base.get? b≠some (cw l k))->(∀b l k,m.pv b=true->W.base.get? b≠some (cw l k))->VR W.base m N v u
 fn:∀f d,D f=some d->f≠.aI->GC W f d.1 d.2
 name:∀f,lK f≠""->W.has f=true->mg (Uj (lK f))=some (.ref (W.fa f))
 Jv:∀c,mg (Uj (u5 c))=some (.ref (W.cls c))
 plain:∀c x,ś W.K (W.cls c) x=true
 GD:∀c,ĳ W.K (W.cls c)=true
 fld:∀c x,fieldOf c x=true->YG W.K (.ref (W.cls c)) x.str=some none
 GF:∀c x f,gw c x=some f->YG W.K (.ref (W.cls c)) x.str=some (some (.ref (W.fa f)))/\isFn W.K (.ref (W.fa f))=true/\ö W.K (W.fa f)=true
 Jw:∀f,W.has f=true->ö W.K (W.fa f)=true
 C2:∀c,YG W.K (.ref (W.cls c)) "__setattr__"=some (some (.builtin "object.__setattr__"))/\ı W.K (W.cls c)=true
 make:∀c,makesIn W.K (W.cls c)=true/\YG W.K (.ref (W.cls c)) "__init__"=some (some (.ref (W.fa (jz c))))/\typeIn W.K (.ref (W.fa (jz c)))=some (.type "function")
 mods:Lv W.base VM
 Aa:∀c,keepIn W.K (.ref (W.cls c))=true
 Jx:∀y∈dI,mg (Uj y)=none
def BodyOk (W:Wd) (C:bz) (k:Nat):Prop:=∀⦃body:Ss⦄ ⦃qp:List UQ⦄ ⦃m:Mem⦄ ⦃σ:St⦄ ⦃s:Um⦄ ⦃env:WO⦄ ⦃l:Loc⦄ ⦃A:UO⦄ ⦃Er:Uo->Um->Prop⦄ ⦃Q:Fl->Loc->St->Prop⦄ ⦃Q':Ľ->Um->Prop⦄,
 pR W.has env.scope.names body qp=true->kE body=true->aB W m σ s.heap->bK W m σ.next s.heap env l->cT k A->aG C body l σ Q->
 (∀fl l' σ' m' s' pf,Q fl l' σ'->Step W (f9 env) m σ.next s m' σ'.next s'->aB W m' σ' s'.heap->bK W m' σ'.next s'.heap env l'->
  (match fl,pf with | .next,.next=>True | .ret v,.ret u=>VR s'.heap m' σ'.next v u | _,_=>False)->Q' pf s')->
 UC (UG W.prog W.w) A (execs qp env) Q' Er s
def Ab (W:Wd) (C:bz) (k:Nat) (f:Fn):Prop:=∀⦃vs:List V⦄ ⦃us:List Uo⦄ ⦃m:Mem⦄ ⦃σ:St⦄ ⦃s:Um⦄ ⦃A:UO⦄ ⦃Q:K1 V⦄ ⦃R:Ö->Um->Prop⦄,
 aB W m σ s.heap->LR s.heap m σ.next vs us->C1 k A->C f vs σ Q->
 (∀v σ' m' s' u,Q v σ'->Step W d8 m σ.next s m' σ'.next s'->aB W m' σ' s'.heap->VR s'.heap m' σ'.next v u->R (.ok (.ret u)) s')->
 YK (UG W.prog W.w) A (.call (.ref (W.fa f)) ⟨us,[]⟩) R s
def fQ (W:Wd) (C:bz) (k:Nat):Prop:=∀⦃f:Fn⦄ ⦃vs:List V⦄ ⦃us:List Uo⦄ ⦃m:Mem⦄ ⦃σ:St⦄ ⦃s:Um⦄ ⦃A:UO⦄ ⦃Q:K1 V⦄ ⦃R:Ö->Um->Prop⦄,
 aB W m σ s.heap->LR s.heap m σ.next vs us->C1 k A->C f vs σ Q->
 (∀v σ' m' s' u,Q v σ'->Step W d8 m σ.next s m' σ'.next s'->aB W m' σ' s'.heap->VR s'.heap m' σ'.next v u->R (.ok (.ret u)) s')->
 YK (UG W.prog W.w) A (.call (.ref (W.fa f)) ⟨us,[]⟩) R s
theorem fy:∀(names:List (Uz×Yk)) (n:Nat) (acc:List (Uz×UN)) (x:Uz),(acc.lookup x).isSome=true\/names.lookup x=some .cell->((cellsFrom n names acc).lookup x).isSome=true:=by
 intro z9;induction z9 with
 | nil=>
  refine λn acc x h=>h.elim (λh=>?_) λh=>?_
  ·exact h
  ·contradiction
 | cons y0 r ih=>
  intro n acc x h;obtain ⟨y,k⟩:=y0
  dsimp only [cellsFrom]
  split
  ·refine ih _ _ x ?_
   by_cases e:x=y
   ·refine aa e ?_;left;simp
   ·rcases h with h | h
    ·left;exact aa Vc (aa (beq_eq_false_iff_ne.mpr e) h)
    ·right;rw [Vc,beq_eq_false_iff_ne.mpr e] at h;exact h
  ·rename_i hk
   refine ih _ _ x ?_
   rcases h with h | h
   ·exact .inl h
   ·right
    rw [Vc] at h
    by_cases e:x=y
    ·subst e;simp at h;subst h;simp at hk
    ·rw [beq_eq_false_iff_ne.mpr e] at h;exact h
theorem xS {kindOf:Uz->Option Yk}:∀ {binds:List (Uz×Uo)}{m:Uz->Option Uo}{x:Uz},kindOf x=some .local->(binds.map (·.1)).Nodup->
 bindL kindOf binds m x=match binds.lookup x with | some v=>some v | none=>m x:=by
 intro z9;induction z9 with
 | nil=>intro m x U U;exact rfl
 | cons y0 r ih=>
  intro m x hx hn;obtain ⟨y,v⟩:=y0
  rw [UX,U5] at hn
  refine w2 (ih hx hn.2) Vc ?_
  by_cases e:x=y
  ·subst e
   have:r.lookup x=none:=by
    cases q:r.lookup x with
    | none=>rfl
    | some v'=>exact absurd (List.mem_map.mpr (i12 _ (Vd q) rfl)) hn.1
   simp [this,hx]
  ·refine aa (beq_eq_false_iff_ne.mpr e) ?_
   cases r.lookup x with
   | some v'=>rfl
   | none=>by_cases q:kindOf y=some .local<;>simp [q,e]
theorem xU {kindOf:Uz->Option Yk}:∀ {binds:List (Uz×Uo)}{m:Uz->Option Uo}{x:Uz},kindOf x≠some .local->(binds.map (·.1)).Nodup->
 bindC kindOf binds m x=match binds.lookup x with | some v=>some v | none=>m x:=by
 intro z9;induction z9 with
 | nil=>intro m x U U;exact rfl
 | cons y0 r ih=>
  intro m x hx hn;obtain ⟨y,v⟩:=y0
  rw [UX,U5] at hn
  refine w2 (ih hx hn.2) Vc ?_
  by_cases e:x=y
  ·subst e
   have:r.lookup x=none:=by
    cases q:r.lookup x with
    | none=>rfl
    | some v'=>exact absurd (List.mem_map.mpr (i12 _ (Vd q) rfl)) hn.1
   simp [this,hx]
  ·refine aa (beq_eq_false_iff_ne.mpr e) ?_
   cases r.lookup x with
   | some v'=>rfl
   | none=>by_cases q:kindOf y=some .local<;>simp [q,e]
theorem lN {h:U1}{m:Mem}{N:Nat}:∀ {ps:List Nm}{vs:List V}{us:List Uo}{l₀ l:Loc},bq ps vs l₀=some l->LR h m N vs us->ps.Nodup->∀x v,l x=some v->
 (x∉ps/\l₀ x=some v)\/∃u,((ps.map Nm.str).zip us).lookup x.str=some u/\VR h m N v u:=by
 intro z9;induction z9 with
 | nil=>
  intro y0;cases y0 with
  | nil=>intro us l₀ l e U U x v hl;injection e with z0;exact aa z0 (.inl ⟨by simp,hl⟩)
  | _=>intros;contradiction
 | cons p ps ih=>
  intro y1;cases y1 with
  | cons w vs=>
   intro us l₀ l e hr hn x v hl
   refine eh hr λu r z1 h1 h2=>?_;clear hr;refine aa z1 ?_
   rw [U5] at hn
   simp only [UX,Ñ,Vc]
   have:=ih (show bq ps vs (l₀.set p w)=some l from e) h2 hn.2 x v hl
   by_cases q:x=p
   ·clear h2 hl e l vs;subst q
    rcases this with ⟨_,h3⟩ | ⟨u',h3,_⟩
    ·simp only [Loc.set] at h3;injection h3 with z0;refine aR z0 ?_
     right;exact i12 u (by simp) h1
    ·exfalso
     exact aN (List.mem_map.mp (ÿ (Vd h3)).1) λy hy he=>hn.1 (aR (str_inj he) hy)
   ·have qs:=λz=>q (str_inj z)
    refine aa (beq_eq_false_iff_ne.mpr qs) ?_
    rcases this with ⟨h3,h4⟩ | h3
    ·left
     refine ⟨by simp [q,h3],?_⟩
     simpa [Loc.set,q] using h4
    ·exact .inr h3
  | _=>intros;contradiction
theorem cP:∀ {ps:List Nm}{vs:List V}{l₀ l:Loc},bq ps vs l₀=some l->vs.length=ps.length:=by
 intro z9;induction z9 with
 | nil=>
  intro y;cases y with
  | nil=>intro U U U;exact rfl
  | cons U U=>intro U U e;contradiction
 | cons p ps ih=>
  intro y0;cases y0 with
  | cons w vs=>intro l₀ l e;simp;exact ih (show bq ps vs (l₀.set p w)=some l from e)
  | nil=>intro U U e;contradiction
theorem oO {ps:List Nm}{vs:List V}{l:Loc} (e:zy ps vs=some l):bq ps vs (λU=>none)=some l:=by
 cases ps with
 | nil=>cases vs with
  | nil=>exact e
  | cons _ _=>exact e
 | cons _ _=>exact e
theorem xV {α β:Type}{f:α->β} (hf:∀a b,f a=f b->a=b) {l:List α} (h:l.Nodup):(l.map f).Nodup:=by
 delta List.Nodup at*
 exact gL Û (h.imp λwJ e=>wJ (hf _ _ e))
theorem td {W:Wd}{D:Fn->Option (List Nm×Ss)}{n k:Nat} (F:Facts W D) (H:BodyOk W (aE D n) k) (HS:Ab W (aE D (n+1)) (k+1) .aI):fQ W (aE D (n+1)) (k+1):=by
 intro f vs us m σ s A Q R S L hR hc q
 by_cases Jy:f=.aI
 ·subst Jy;exact HS S L hR hc q
 refine aN (ai hc) λd hd hc=>aN (ai hc) λl hl hc=>?_
 have B:=F.fn f d hd Jy
 have hm:=oO hl
 have hlen:=L.length.trans (cP hm)
 have mem:∀x∈(d.1.map Nm.str).zip us,∃y∈d.1,x.1=y.str:=λx hx=>by
  exact aN (List.mem_map.mp (ÿ hx).1) λy hy e=>i12 y hy e.symm
 refine codeAny_call_cells (binds:=(d.1.map Nm.str).zip us) (by have:=hR.2.1;exact aJ (Y2 _ _) (.s Z0) (.n 1000) (.s (.a Z0 (.m 2 (.s Z1)))) (.n 1000) this rfl) (S.base _ _ B.at_) B.data (F.lim.keeps S.base) (B.code.keeps S.base) B.L9 (B.bind us hlen) B.gX (λx hx=>?_) (λaj I=>?_) B.co B.gen B.kind
 ·refine aN (mem x hx) λy hy e=>aa e ((B.par y hy).elim (λh=>?_) λh=>?_)
  ·exact .inl h
  ·exact .inr ⟨h,fy _ _ _ _ (.inr h)⟩
 ·refine sQ I.toInCall.same λh₁ tk z1=>?_;subst z1
  have kp:=I.toInCall.keep
  refine aU (S.grown (tk:=tk) kp) λT aM=>?_
  have Jz:(((d.1.map Nm.str).zip us).map (·.1)).Nodup:=by
   exact aa (List.map_fst_zip (by simp [hlen])) (xV (λa b h=>str_inj h) B.pS)
  have vd:∀b,s.heap.objs.size<=b->m.own b=none:=λb hb=>by
   cases e:m.own b with
   | none=>rfl
   | some n=>exact bb (S.fresh b n e) λo e'=>absurd (Vt e') (Nat.not_lt.mpr hb)
  have Nk:∀b,s.heap.objs.size<=b->¬Lv s.heap b:=λb hb ⟨o,e⟩=>absurd (Vt e) (Nat.not_lt.mpr hb)
  have PA:∀b,s.heap.objs.size<=b->¬Lv W.base b:=λb hb ⟨o,e⟩=>Nk b hb ⟨o,S.base _ _ e⟩
  have ER:bK W m σ.next h₁ (callEnvC B.fd s.heap.objs.size (W.fa f)) l:=by
   refine ⟨B.kind,B.glob,B.mI,(i12 _ I.toInCall.ns (λx v hx hk=>?_)),λn c hc=>?_,λx v hx hk=>?_,λn hn=>?_,λn c U hc=>?_,λa b c ha hb=>?_,vd _ (Ux _),PA _ (Ux _)⟩
   ·rcases lN hm L B.pS x v hx with ⟨_,h⟩ | ⟨u,h1,h2⟩
    ·contradiction
    ·exact i12 u ((xS hk Jz).trans (aa h1 rfl)) (T.vr h2)
   ·refine fc ⟨_,I.cell n c hc⟩ (vd _ ?_) ?_
    ·exact Vz (I.above n c (Vd hc))
    ·exact Vj (I.above n c (Vd hc))
   ·rcases lN hm L B.pS x v hx with ⟨_,h⟩ | ⟨u,h1,h2⟩
    ·contradiction
    ·refine hk.elim (λhk=>?_) λhk=>?_
     ·refine bb (Option.isSome_iff_exists.mp (fy B.fd.scope.names (s.heap.objs.size+1) [] x.str (.inr hk))) λc hc=>i6 c u hc ?_ (T.vr h2)
      have:=I.cell x.str c hc
      rw [xU (by refine aa hk ?_;decide) Jz,h1] at this
      exact this
     ·exact absurd rfl (B.free _ (Vd hk))
   ·refine hn.elim (λhn=>?_) λhn=>?_
    ·exact Option.isSome_iff_exists.mp (fy B.fd.scope.names (s.heap.objs.size+1) [] n (.inr hn))
    ·exact absurd rfl (B.free _ (Vd hn))
   ·exact PA _ (Vz (I.above n c (Vd hc)))
   ·exact name_of_addr I.apart (Vd ha) (Vd hb)
  refine Wl (Q:=λpf s'=>R (.ok (.ret (match pf with | .ret v=>v | _=>.none))) s') (E:=λU U=>False) (H B.ok B.Q7 aM ER ⟨hR.1,?_,?_⟩ hc λfl l' σ' m' s' pf hq T' S' E' hv=>?_) (λU U x=>x) (λU U x=>x.elim)
  ·exact aJ (Y2 _ _) (.s (.s (.a (.s Z0) (.m 2 Z1)))) (.n 1000) (.s (.a Z0 (.m 2 (.s Z1)))) (.n 1000) hR.2.1 rfl
  ·exact aJ (Y2 _ _) (.s (.a (.a (.a Z0 (.n 3)) (.m 10 Z1)) (.n 65))) (.n 9900) (.s (.a (.a Z0 (.m 10 (.s Z1))) (.n 60))) (.n 9900) hR.2.2 rfl
  ·have nV:=T.close T' λb hb=>by
    rcases hb with rfl | ⟨n,hn⟩
    ·exact Nk _ (Ux _)
    ·exact Nk _ (Vz (I.above n b (Vd hn)))
   cases fl with
   | next=>cases pf with
    | next=>exact q _ _ _ _ _ hq nV S' (eV.mpr rfl)
    | _=>exact hv.elim
   | ret v=>cases pf with
    | ret u=>exact q _ _ _ _ _ hq nV S' hv
    | _=>exact hv.elim
end
end Mine.Internal
namespace Mine.Internal
noncomputable section
open PySem PySem.W PyProof.Rows
section
variable {h:U1}{m:Mem}{N:Nat}
theorem FR.length:∀ {fs:List (Nm×V)}{es:List U7},FR h m N fs es->es.length=fs.length:=by
 intro z9;induction z9 with
 | nil=>intro es e;subst e;rfl
 | cons p fs ih=>intro es e;refine qc e λi r z1 U U q=>?_;clear e;subst z1;simp [ih q]
theorem qq (x y:Nm) (t:ķ):(Yl x.str t).isStr y.str=decide (x=y):=by
 by_cases e:x=y
 ·subst e;simp [Ĩ]
 ·simp only [Ĩ,e,decide_false,beq_eq_false_iff_ne];exact λz=>e (str_inj z)
theorem xW (x:Nm) (y:Uz) (t:ķ):(Yl x.str t).isStr y=(x.str==y):=rfl
theorem FR.refKey:∀ {fs:List (Nm×V)}{es:List U7},FR h m N fs es->es.any (·.refKey)=false
 | [],es,e=>by subst e;rfl
 | p::fs,es,e=>by
  refine qc e λi r z1 z2 U q=>?_;clear e;subst z1;refine bb z2 λt k=>List.any_cons.trans ((congrArg _ q.refKey).trans ?_);simp [DictEntry.refKey,k]
theorem FR.get:∀ {fs:List (Nm×V)}{es:List U7}{x:Nm}{v:V},FR h m N fs es->lF fs x=some v->∃u,getL x.str es=some (some u)/\VR h m N v u:=by
 intro z9;induction z9 with
 | nil=>intro es x v e g;contradiction
 | cons p fs ih=>
  intro es x v e g
  refine qc e λi r z1 z2 hv q=>?_;clear e;subst z1;obtain ⟨t,k⟩:=z2
  delta lF at g
  replace g:=Xi▸g
  have hk:i.key.isStr x.str=decide (p.1=x):=(aa k (qq ..))
  by_cases e:p.1=x
  ·simp only [e,decide_true] at g hk
   injection g with z0;subst z0
   exact i12 _ (by delta getL;exact aa Xi (aa hk rfl)) hv
  ·simp only [e,decide_false] at g hk
   refine aN (ih q (g)) λu a b=>i12 u ?_ b
   unfold getL at a ⊢
   refine aa Xi (aa hk ?_)
   simp only
   split at a
   ·exact a
   ·rename_i he;split at a<;>exact nomatch a
theorem FR.C3:∀ {fs:List (Nm×V)}{es:List U7}{x:Uz},FR h m N fs es->(∀p∈fs,p.1.str≠x)->getL x es=some none:=by
 intro fs es x e hx
 have:es.find? (·.key.isStr x)=none:=by
  refine gL List.find?_eq_none ?_
  intro d hd hk
  have:∀ {fs:List (Nm×V)}{es:List U7},FR h m N fs es->d∈es->∃p∈fs,∃t,d.key=.str p.1.str t:=by
   intro fs
   induction fs with
   | nil=>intro es e hm;subst e;contradiction
   | cons p fs ih=>
    intro es e hm
    refine qc e λi r z1 z2 U q=>?_;clear e;clear U;subst z1;obtain ⟨t,k⟩:=z2
    rcases List.mem_cons.mp hm with rfl | hm
    ·exact ⟨p,Ur,t,k⟩
    ·exact aN (ih q hm) λp' a b=>i12 p' (by simp [a]) b
  obtain ⟨p,hp,t,k⟩:=this e hd
  rw [k,xW] at hk
  exact hx p hp (beq_iff_eq.mp hk)
 delta getL
 refine aa this ?_
 simp only [e.refKey,Xv,if_false]
theorem FR.put {hash:Int}{t:ķ}{x:Nm}{v:V}{u:Uo} (hv:VR h m N v u):∀ {fs:List (Nm×V)}{es:List U7},FR h m N fs es->(fs.map (·.1)).Nodup->FR h m N (fM fs x v) (putL x.str hash (.str x.str t) u es):=by
 intro z9;induction z9 with
 | nil=>intro es e U;subst e;exact ⟨_,_,rfl,⟨t,rfl⟩,hv,rfl⟩
 | cons p fs ih=>
  intro es e hn
  refine qc e λi r z1 z2 Q8 q=>?_;clear e;subst z1;obtain ⟨t',k⟩:=z2
  rw [UX,U5] at hn
  have hk:i.key.isStr x.str=decide (p.1=x):=(aa k (qq ..))
  simp only [putL,hk]
  by_cases e:p.1=x
  ·have e':fM (p::fs) x v=(p.1,v)::fs:=by
    delta fM
    simp only [ę,e,decide_true,Bool.true_or,if_true,UX]
    congr 1
    refine (VP (g:=id) λz hz=>?_).trans (VF _)
    have:z.1≠x:=λw=>hn.1 (by exact aa e (aR w (Yu hz)))
    simp [this]
   refine w2 e' e ?_
   simp
   exact ⟨_,_,rfl,⟨t',k⟩,hv,q⟩
  ·have e':fM (p::fs) x v=p::fM fs x v:=by
    delta fM
    simp only [ę,e,decide_false,ZL,UX]
    split<;>rfl
   refine aa e' ?_
   simp only [e]
   exact ⟨_,_,rfl,⟨t',k⟩,Q8,ih q hn.2⟩
theorem xX {v:V}{u:Uo} (hv:VR h m N v u):handedIn u=true:=by
 cases v with
 | none=>refine aa (eV.mp hv) ?_;rfl
 | bool b=>refine aa (dS.mp hv) ?_;rfl
 | int i=>refine bb (bx.mp hv) λt z1=>aa z1 ?_;rfl
 | str i=>refine bb (cj.mp hv) λt z2=>aa z2 ?_;rfl
 | ref n=>refine aU (b7.mp hv) λU z3=>aa z3 ?_;rfl
 | nil=>refine eQ hv λa k z4 U=>aa z4 ?_;rfl
 | cons x y=>refine jm hv λa k i r z5 U=>aa z5 ?_;rfl
end
section
variable {W:Wd}{D:Fn->Option (List Nm×Ss)}{m:Mem}{σ:St}{s:Um}{A:UO}{Er:Uo->Um->Prop}
theorem nW {v:V}{p:Nat×kA×List (Nm×V)} (h:eD σ v=some p):v=.ref p.1/\σ.get p.1=some (.inst p.2.1 p.2.2):=by
 cases v with
 | ref n=>exact aU (Gu h) λa b=>⟨congrArg V.ref b,(congrArg _ b.symm).trans a⟩
 | _=>exact fg h
theorem C6 {v:V}{p:Nat×List V} (h:listAt σ v=some p):v=.ref p.1/\σ.get p.1=some (.list p.2):=by
 cases v with
 | ref n=>exact aU (Gr h) λa b=>⟨congrArg V.ref b,aR b a⟩
 | _=>exact fg h
theorem C7 {v:V}{p:Nat×List (V×V)} (h:dictAt σ v=some p):v=.ref p.1/\σ.get p.1=some (.dict p.2):=by
 cases v with
 | ref n=>exact aU (Gs h) λa b=>⟨congrArg V.ref b,aR b a⟩
 | _=>exact fg h
theorem mK (F:Facts W D) (S:aB W m σ s.heap) {n:Nat}{c:kA}{fs:List (Nm×V)} (h:σ.get n=some (.inst c fs)):
 ∃es k,InstAt s.heap (m.ad n) (XI (W.cls c) (m.dd n)) (W.cls c) (some (dictOf es k))/\s.heap.get? (m.dd n)=some (jD es k)/\FR s.heap m σ.next fs es/\m.ad n≠m.dd n/\(∀p∈fs,fieldOf c p.1=true)/\es.length<=100/\(fs.map (·.1)).Nodup:=by
 obtain ⟨a,es,k,b,c1,c2⟩:=S.obj n _ h
 exact Ih es k ⟨a,rfl,rfl,b⟩ b c1 c2
theorem xY (F:Facts W D) (S:aB W m σ s.heap) {v:V}{u:Uo}{p:Nat×kA×List (Nm×V)}{x:Nm}{r:V}{expr:Bool}{Q:Uo->Um->Prop} (hv:VR s.heap m σ.next v u)
 (hi:eD σ v=some p) (hf:fieldOf p.2.1 x=true) (hr:lF p.2.2 x=some r) (q:∀w t,VR s.heap m σ.next r w->Q w {s with toks:=t}):
 UC (UG W.prog W.w) A (getAttr u x.str expr) Q Er s:=by
 refine aU (nW hi) λz1 hg=>?_;clear hi;subst z1
 exact aU (b7.mp hv) λhn z2=>aa z2 (qc (mK F S hg) λes k I U R U=>aN (R.get hr) λw hw PB=>get_value (F.X.keeps S.base) I (õ (F.plain _ x.str)).1 (findObj_own (F.GD _) (F.fld _ _ hf) rfl hw) (xX PB) (q _ _ PB))
theorem oP {c:kA}{x:Nm}{f:Fn} (h:gw c x=some f):fieldOf c x=false:=by
 have q:(gw c x).isSome=true:=by refine aa h ?_;rfl
 clear h;cases c with
 | ak=>exact (by decide+kernel:∀x:Nm,(gw .ak x).isSome=true->fieldOf .ak x=false) x q
 | av=>exact (by decide+kernel:∀x:Nm,(gw .av x).isSome=true->fieldOf .av x=false) x q
theorem te (F:Facts W D) (S:aB W m σ s.heap) {v:V}{u:Uo}{p:Nat×kA×List (Nm×V)}{x:Nm}{f:Fn}{pl:ä Bool}{Q:Uo×List Uo->Um->Prop} (hv:VR s.heap m σ.next v u)
 (hi:eD σ v=some p) (hf:gw p.2.1 x=some f) (q:Q (.ref (W.fa f),[u]) s):
 UC (UG W.prog W.w) A (Xj u x.str pl) Q Er s:=by
 refine aU (nW hi) λz1 hg=>?_;clear hi;subst z1
 refine aU (b7.mp hv) λhn z2=>?_;clear hv;subst z2
 refine Gm (mK F S hg) λes k I U R U Nl U=>eg (F.GF _ _ _ hf) λm1 m2 m3=>?_
 have wF:=R.C3 λp hp e=>by
  have:=Nl p hp
  rw [str_inj e,oP hf] at this;exact nomatch this
 exact method_fn (F.X.keeps S.base) I (õ (F.plain _ x.str)).1 (õ (F.plain _ x.str)).2 m1 (beq_iff_eq.mp m2) (by show (lookIn x.str (dictOf es k)).map _=_;refine aa (lookIn_dict ..) (aa wF ?_);rfl) q
theorem th (fs:List (Nm×V)) (x:Nm) (v:V):(fM fs x v).length<=fs.length+1:=by delta fM;split<;>simp
theorem ve {c:kA}{fs:List (Nm×V)}{x:Nm}{v:V} (h:∀p∈fs,fieldOf c p.1=true) (hx:fieldOf c x=true):∀p∈fM fs x v,fieldOf c p.1=true:=by
 intro p hp
 delta fM at hp
 split at hp
 ·refine aN (List.mem_map.mp hp) λq hq z1=>aR z1 ?_
  split
  ·exact h q hq
  ·exact h q hq
 ·refine (List.mem_append.mp hp).elim (λhp=>?_) λhp=>?_
  ·exact h p hp
  ·exact aa (List.mem_singleton.mp hp) hx
theorem vf {fs:List (Nm×V)}{x:Nm}{v:V} (h:(fs.map (·.1)).Nodup):((fM fs x v).map (·.1)).Nodup:=by
 delta fM
 split
 ·refine aa We ?_
  have:(YM ((λx=>x.1)∘ λp=>if p.1=x then (p.1,v) else p) fs)=fs.map (·.1):=by
   refine VP λz U=>?_
   simp;split<;>rfl
  exact aa this h
 ·rename_i hn
  refine aa UJ (gL U2 (fc h ((of_decide_eq_true rfl)) (λa ha b hb e=>aN (List.mem_map.mp ha) λz hz e'=>?_)))
  apply hn
  exact gL YX (i12 z hz (by refine aa e' (aa e (aa (List.mem_singleton.mp hb) ?_));simp))
end
def nj (W:Wd) (D:Fn->Option (List Nm×Ss)) (m:Mem) (σ:St) (s:UY) (A:VV) (Er:Ve->UY->Prop) (u:Ve) (p:Nat×kA×List (Nm×V)) (x:Nm) (y:V) (w:Ve) (Q:Unit->UY->Prop):Prop:=∀(F:Facts W D) (S:aB W m σ s.heap) (v:V) (hv:VR s.heap m σ.next v u) (hi:eD σ v=some p) (hf:fieldOf p.2.1 x=true) (hl:p.2.2.length<50) (hw:VR s.heap m σ.next y w) (q:∀s',Step W d8 m σ.next s m σ.next s'->aB W m (σ.set p.1 (.inst p.2.1 (fM p.2.2 x y))) s'.heap->Q () s'),UC (UG W.prog W.w) A (setAttr u x.str w) Q Er s
noncomputable abbrev nt:=Wd×(Fn->Option (List Nm×Ss))×Mem×St×UY×VV×(Ve->UY->Prop)×Ve×(Nat×kA×List (Nm×V))×Nm×V×Ve×(Unit->UY->Prop)
def nu (c:nt):Prop:=nj c.1 c.2.1 c.2.2.1 c.2.2.2.1 c.2.2.2.2.1 c.2.2.2.2.2.1 c.2.2.2.2.2.2.1 c.2.2.2.2.2.2.2.1 c.2.2.2.2.2.2.2.2.1 c.2.2.2.2.2.2.2.2.2.1 c.2.2.2.2.2.2.2.2.2.2.1 c.2.2.2.2.2.2.2.2.2.2.2.1 c.2.2.2.2.2.2.2.2.2.2.2.2
noncomputable def bM:nt:=ep (⟨default,Ş 1,default,default,λU=>0,λU=>0,λU=>false⟩,(λU=>none),⟨λU=>0,λU=>0,λU=>none,λU=>false⟩,⟨0,λU=>none⟩,{},ZR,(λU U=>True),.none,(0,.ak,[]),0,.none,.none,(λU U=>True)) nu
namespace oQ
@[irreducible] def W:Wd:=bM.1
@[irreducible] def D:Fn->Option (List Nm×Ss):=bM.2.1
@[irreducible] def m:Mem:=bM.2.2.1
@[irreducible] def σ:St:=bM.2.2.2.1
@[irreducible] def s:UY:=bM.2.2.2.2.1
@[irreducible] def A:VV:=bM.2.2.2.2.2.1
@[irreducible] def Er:Ve->UY->Prop:=bM.2.2.2.2.2.2.1
@[irreducible] def u:Ve:=bM.2.2.2.2.2.2.2.1
@[irreducible] def p:Nat×kA×List (Nm×V):=bM.2.2.2.2.2.2.2.2.1
@[irreducible] def x:Nm:=bM.2.2.2.2.2.2.2.2.2.1
@[irreducible] def y:V:=bM.2.2.2.2.2.2.2.2.2.2.1
@[irreducible] def w:Ve:=bM.2.2.2.2.2.2.2.2.2.2.2.1
@[irreducible] def Q:Unit->UY->Prop:=bM.2.2.2.2.2.2.2.2.2.2.2.2
theorem u2:nj W D m σ s A Er u p x y w Q:=by
 refine λF S v hv hi hf hl hw q=>aU (nW hi) λz1 hg=>?_;clear hi;subst z1
 refine aU (b7.mp hv) λhn z2=>aa z2 (IZ (mK F S hg) λes k I hd R wJ Nl hle CG=>?_)
 have X:=F.X.keeps S.base
 refine aU (F.C2 p.2.1) λs1 s2=>?_
 have ht:takerIn W.K (W.cls p.2.1) x.str=some none:=by delta takerIn;exact aa (F.fld _ _ hf) rfl
 refine set_plain X I s1 ?_
 have X1:W.K.In ({s with toks:=s.toks+1}:Um).heap:=X
 refine osa_open X1 I s2 ht λb=>aN (any_some (F.GD p.2.1)) λcd hc JA=>?_
 have hx:=I.at_
 refine Uk (Us (Uk (Uk (ŕ hx (Uk ((looks_clsIn X1 hc).here (aa JA (Us (a:=some (m.dd p.1)) (Uk (Us (Uk (Uk (Uk (wpAny_askSetting (Us (Uk (wpAny_mkText (Uk (ŕ hd ?_)))))))))))))))))))
 have c:(!es.toArray.any (·.key.isStr x.str)&&es.toArray.any (·.refKey))=false:=by
  exact aR à (aR à (aa (R.refKey) (Bool.and_false ..)))
 dsimp only
 refine aa (aRefKeyMayBeTheName_at ..) (aa c ?_)
 generalize (if x.str.cps.isEmpty=true then (0:Int) else Yp ((UG W.prog W.w).w.params.strHash x.str.cps))=JB
 refine wpAny_updatePart hd ?_
 have nN:∀hash key,Za x.str hash key w (jD es k)=dictOf (putL x.str hash key w es) (putN x.str es k):=λhash key=>putName_dict _ _ _ _ _ _
 have hlen:=λhash key=>by
  have:∀l:List U7,(putL x.str hash key w l).length<=l.length+1:=by
   intro l
   induction l with
   | nil=>exact Ux _
   | cons e r ih=>simp only [putL];split<;>simp_all
  exact this es
 obtain ⟨T,S'⟩:=S.change (o':=.inst p.2.1 (fM p.2.2 x y)) (tk:=s.toks+1+1) hg rfl rfl (m.dd p.1) (.inr rfl) (Vu s.heap (m.dd p.1) (Za x.str JB (Yl x.str (s.toks+1)) w))
  (λl k e=>by rw [hd] at e;simp at e) ⟨_,Vy (Za x.str JB (Yl x.str (s.toks+1)) w) hd (congrArg _ (nN ..))⟩ (λdV=>by
   have hd2:=Vy (Za x.str JB (Yl x.str (s.toks+1)) w) hd (congrArg _ (nN ..))
   rw [nN] at hd2
   have R':=(R.put (t:=s.toks+1) (hash:=JB) (x:=x) hw CG).mono dV (λU U=>rfl) (Ux _)
   refine ⟨?_,_,_,hd2,R',wJ,ve Nl hf,?_,vf CG⟩
   ·exact (Heap.get?_update_other _ _ (Ne.symm wJ)).trans hx
   ·exact aa R'.length (aJ (Y2 _ _) Z0 (.n 100) (.a (.s Z1) Z0) (.a (.n 50) (.s Z1)) (Uq hl (th p.2.2 x y)) rfl))
 exact Uk (wpAny_lookBehind (Vy _ hd (congrArg _ (nN ..))) (aa (nN ..) (pastItsLine_dict ((aJ (Y2 _ _) Z0 (.s (.n 16777216)) (.a Z1 Z0) (.a (.n 100) (.s Z1)) (Uq hle (hlen JB (Yl x.str (s.toks+1)))) rfl)))) (Us (q _ T S')))
end oQ
section
variable {W:Wd}{D:Fn->Option (List Nm×Ss)}{m:Mem}{σ:St}{s:Um}{A:UO}{Er:Uo->Um->Prop}
theorem qr (F:Facts W D) (S:aB W m σ s.heap) {v:V}{u:Uo}{p:Nat×kA×List (Nm×V)}{x:Nm}{y:V}{w:Uo}{Q:Unit->Um->Prop} (hv:VR s.heap m σ.next v u) (hi:eD σ v=some p) (hf:fieldOf p.2.1 x=true) (hl:p.2.2.length<50) (hw:VR s.heap m σ.next y w) (q:∀s',Step W d8 m σ.next s m σ.next s'->aB W m (σ.set p.1 (.inst p.2.1 (fM p.2.2 x y))) s'.heap->Q () s'):UC (UG W.prog W.w) A (setAttr u x.str w) Q Er s:=
 iK (P:=nu) (by with_unfolding_all exact oQ.u2) (W,D,m,σ,s,A,Er,u,p,x,y,w,Q) F S v hv hi hf hl hw q
end
end
end Mine.Internal
namespace Mine.Internal
noncomputable section
open PySem PySem.W PyProof.Rows
section
variable {prog:Vo}{w:VB}{A:UO}{E:Uo->Um->Prop}{s:Um}{m:Mem}{N:Nat}
theorem rR {a b:Uo}{Ta Tb JC JD:String}{Q:Uo->Um->Prop} (ha:s.TypeIs a Ta) (hb:s.TypeIs b Tb) (hu:A.units<VN)
 (wJ:(XZ Ta !=XZ Tb)=true) (rS:Ĳ (.type Tb) (.type Ta)=pure false) (h1:ĸ Ta (ħ .Eq).2.1 JC) (h2:ĸ Tb (ħ .Eq).2.2 JD) (hk:isSame a b=pure false)
 (hc:UC (UG prog w) A (call (.builtin JC) [a,b]) (λv aj=>v=.notImplemented/\aj=s) E s) (CF:UC (UG prog w) A (call (.builtin JD) [b,a]) (λv aj=>v=.notImplemented/\aj=s) E s) (q:Q (.bool false) s):
 UC (UG prog w) A (richCompare .Eq a b) Q E s:=by
 refine UH (Uk (Ġ (.inr hu) (aa (ha.oneThing_none .Eq b) (Uk (XG ha (Uk (XG hb (aa wJ (Uk (ð rS (Uk (m:=tryCompare a _ b) (Ä ha h1 (Wl hc (λv aj h₁=>⟨h₁.1,?_⟩) λU U x=>x)))))))))))))
 obtain ⟨_,rfl⟩:=h₁
 exact Uk (m:=tryCompare b _ a) (Ä hb h2 (Wl CF (λv bJ jf=>⟨jf.1,(aU jf λU z2=>aa z2 (Uk (VQ (Uk (ð hk (Us q))))))⟩) λU U x=>x))
theorem kP {i:Int}{t:ķ}{a:UN}{l:List Uo}{k:Nat}{Q:Uo->Um->Prop} (h:s.heap.get? a=some (cw l k)) (q:Q .notImplemented s):UC (UG prog w) A (call (.builtin "int.__eq__") [.int i t,.ref a]) Q E s:=by
 refine UU Ã (XR s i t) F.entry_int_eq ?_ (F.args_int_eq_2 _ _)
 show UC _ _ (asInt? (.ref a)>>=_) _ _ s
 exact Uk (Uk (ZU h (Us (Uk (VQ (Us (i12 _ rfl q)))))))
theorem kQ {x:Uz}{t:ķ}{a:UN}{l:List Uo}{k:Nat}{Q:Uo->Um->Prop} (h:s.heap.get? a=some (cw l k)) (q:Q .notImplemented s):UC (UG prog w) A (call (.builtin "str.__eq__") [.str x t,.ref a]) Q E s:=by
 refine UU Â (XQ s x t) F.entry_str_eq ?_ (F.args_str_eq_2 _ _)
 show UC _ _ (asStr? (.ref a)>>=_) _ _ s
 exact Uk (Uk (ZU h (Us (Uk (VQ (Us (i12 _ rfl q)))))))
theorem d9 {a:UN}{l:List Uo}{k:Nat}{b:Uo}{Tb:String}{Q:Uo->Um->Prop} (h:s.heap.get? a=some (cw l k)) (hb:s.TypeIs b Tb) (rS:Ĳ (.type Tb) (.type "tuple")=pure false) (q:Q .notImplemented s):
 UC (UG prog w) A (call (.builtin "tuple.__eq__") [.ref a,b]) Q E s:=by
 refine UU Xq ⟨_,h,rfl⟩ Ě ?_ (Č _ _)
 show UC _ _ (isInstance b (.type "tuple")>>=_) _ _ s
 exact Uk (Wq hb rS (Us (i12 _ rfl q)))
def xZ (prog:Vo) (w:VB) (x:V):Prop:=∀⦃y:V⦄ ⦃u v:Uo⦄ ⦃A:UO⦄ ⦃s:Um⦄ ⦃E:Uo->Um->Prop⦄ ⦃m m':Mem⦄ ⦃N N':Nat⦄ ⦃Q:Bool->Um->Prop⦄,d7 x=true->d7 y=true->A.units+dep x+1<VN->
 VR s.heap m N x u->VR s.heap m' N' y v->Q (decide (x=y)) s->UC (UG prog w) A (eqBool u v) Q E s
theorem Ac {h:U1}{m m':Mem}{N N':Nat}{x:V}:(∀ {y:V}{u:Uo},d7 x=true->d7 y=true->VR h m N x u->VR h m' N' y u->x=y)/\∀ {y:V}{u:List Uo},d7 x=true->d7 y=true->TR h m N x u->TR h m' N' y u->x=y:=by
 induction x with
 | int i=>
  refine ⟨λ{y u} U hy a b=>?_,λ{y u} U U a U=>a.elim⟩
  refine bb (bx.mp a) λt z1=>?_;subst z1
  cases y with
  | int j=>refine bb (bx.mp b) λt' e=>?_;injection e with z0;refine aa z0 ?_;rfl
  | str j=>refine bb (cj.mp b) λt' e=>?_;contradiction
  | nil=>refine eQ b λU U e U=>?_;contradiction
  | cons _ _=>refine jm b λU U U U e U=>?_;contradiction
  | none=>contradiction
  | bool _=>contradiction
  | ref _=>contradiction
 | str i=>
  refine ⟨λ{y u} U hy a b=>?_,λ{y u} U U a U=>a.elim⟩
  refine bb (cj.mp a) λt z2=>?_;subst z2
  cases y with
  | int j=>refine bb (bx.mp b) λt' e=>?_;contradiction
  | str j=>refine bb (cj.mp b) λt' e=>?_;clear hy;cases e;rfl
  | nil=>refine eQ b λU U e U=>?_;contradiction
  | cons _ _=>refine jm b λU U U U e U=>?_;contradiction
  | none=>contradiction
  | bool _=>contradiction
  | ref _=>contradiction
 | nil=>
  refine ⟨λ{y u} U hy a b=>?_,λ{y u} U U a b=>?_⟩
  ·refine eQ a λp k z3 hp=>?_;clear a;subst z3
   cases y with
   | int j=>refine bb (bx.mp b) λt' e=>?_;contradiction
   | str j=>refine bb (cj.mp b) λt' e=>?_;contradiction
   | nil=>rfl
   | cons _ _=>refine CT b λU U U U e e' U=>?_;injection e with z0;subst z0;have e':=e'.get;rw [hp.get] at e';simp at e'
   | none=>contradiction
   | bool _=>contradiction
   | ref _=>contradiction
  ·subst a
   cases y with
   | nil=>rfl
   | cons _ _=>refine eQ b λU U e U=>?_;contradiction
   | _=>exact b.elim
 | cons x1 x2 sN PC=>
  refine ⟨λ{y u} hx hy a b=>?_,λ{y u} hx hy a b=>?_⟩
  ·refine zo a λp k i r z4 hp a1 a2=>?_;clear a;subst z4
   cases y with
   | int j=>refine bb (bx.mp b) λt' e=>?_;contradiction
   | str j=>refine bb (cj.mp b) λt' e=>?_;contradiction
   | nil=>refine eQ b λU U e e'=>?_;injection e with z0;subst z0;have e':=e'.get;rw [hp.get] at e';simp at e'
   | cons y1 y2=>
    refine zo b λU U i' r' e e' b1 b2=>?_;injection e with z0;subst z0;have e':=e'.get;replace e':=hp.get▸e'
    simp only [d7,UE] at hx hy
    simp at e'
    refine aU e' λz5 U=>?_;clear e';obtain ⟨rfl,rfl⟩:=z5
    exact w2 (sN.1 hx.1.1 hy.1.1 a1 b1) (PC.2 hx.1.2 hy.1.2 a2 b2) rfl
   | none=>contradiction
   | bool _=>contradiction
   | ref _=>contradiction
  ·refine eh a λi r z6 a1 a2=>?_;clear a;subst z6
   cases y with
   | nil=>contradiction
   | cons y1 y2=>
    refine eh b λU U e b1 b2=>?_;cases e
    simp only [d7,UE] at hx hy
    exact w2 (sN.1 hx.1.1 hy.1.1 a1 b1) (PC.2 hx.1.2 hy.1.2 a2 b2) rfl
   | _=>exact b.elim
 | _=>exact ⟨λ{y u} h U U U=>(by contradiction),λ{y u} h U U U=>(by contradiction)⟩
theorem qt {h:U1}{m m':Mem}{N N':Nat}{x y:V}{u:Uo} (hx:d7 x=true) (hy:d7 y=true) (a:VR h m N x u) (b:VR h m' N' y u):x=y:=Ac.1 hx hy a b
theorem x6:∀ {x y:V},eW x=true->eW y=true->d7 x=true->d7 y=true->elems x=elems y->x=y:=by
 intro x;induction x with
 | nil=>
  intro y U hy U U e;clear U;cases y with
  | nil=>rfl
  | cons a b=>exact nomatch e
  | _=>exact nomatch hy
 | cons a b U ih=>
  intro y U hy hx hk e;cases y with
  | nil=>exact nomatch e
  | cons c d=>exact nh V.cons (Vx e).1 (ih (lq hx).2 (lq hk).2 (lq hx).1.2 (lq hk).1.2 (Vx e).2)
  | _=>exact nomatch hy
 | _=>intro y h;exact nomatch h
inductive TI (h:U1) (m m':Mem) (N N':Nat) (x y:V) (t:Bool) (rest:List (Uo×Uo)):Prop
 | mk (x' y':List V) (C8 zf:List Uo) (z:rest=C8.zip zf) (a:LR h m N x' C8) (b:LR h m' N' y' zf) (mx:∀z∈x',z∈elems x) (my:∀z∈y',z∈elems y) (d:decide (x'=y')=decide (x=y)) (l:(C8.length==zf.length)=t)
theorem TI.cons {h:U1}{m m':Mem}{N N':Nat}{x y:V}{t:Bool}{rest:List (Uo×Uo)}{u v:Uo} (T:TI h m m' N N' x y t ((u,v)::rest)):∃p p',(p∈elems x/\p'∈elems y)/\(VR h m N p u/\VR h m' N' p' v)/\(p=p'->TI h m m' N N' x y t rest)/\(p≠p'->decide (x=y)=false):=by
 cases T with
 | mk x' y' C8 zf z a b mx my d l=>
  cases x' with
  | nil=>exact (é _ _ (z.trans (congrArg (List.zip · zf) a))).elim
  | cons p x'=>
   refine eh a λu' vg z1 h1 a=>?_
   cases y' with
   | nil=>exact (é _ _ (z.trans (aa z1 (aa b rfl)))).elim
   | cons p' y'=>
    refine eh b λv' vj z2 h2 b=>?_
    have z:(u,v)::rest=(u',v')::vg.zip vj:=z.trans (z1▸z2▸rfl)
    have l:((u'::vg).length==(v'::vj).length)=t:=z1▸z2▸l
    have z':=Prod.mk.inj (Vx z).1
    exact ⟨p,p',⟨mx p Ur,my p' Ur⟩,⟨z'.1▸h1,z'.2▸h2⟩,λe=>⟨x',y',vg,vj,(Vx z).2,a,b,λz h=>mx z (Uy _ h),λz h=>my z (Uy _ h),
     (decide_eq_decide.mpr ⟨λh=>e▸h▸rfl,λh=>(Vx h).2⟩).trans d,(decide_eq_decide.mpr ⟨congrArg (· +1),WW⟩).trans l⟩,λn=>d.symm.trans (decide_eq_false λh=>n (Vx h).1)⟩
theorem TI.nil {h:U1}{m m':Mem}{N N':Nat}{x y:V}{t:Bool} (T:TI h m m' N N' x y t []):t=decide (x=y):=by
 cases T with
 | mk x' y' C8 zf z a b mx my d l=>
  cases x' with
  | nil=>
   have l:(([]:List Uo).length==zf.length)=t:=a▸l
   cases y' with
   | nil=>exact (show (([]:List Uo).length==([]:List Uo).length)=t from b▸l).symm.trans d
   | cons p' y'=>exact eQ b λv' vj z2 U=>(show (([]:List Uo).length==(v'::vj).length)=t from z2▸l).symm.trans d
  | cons p x'=>
   refine eQ a λu' vg z1 U=>?_
   have l:((u'::vg).length==zf.length)=t:=z1▸l
   cases y' with
   | nil=>exact (show ((u'::vg).length==([]:List Uo).length)=t from b▸l).symm.trans d
   | cons p' y'=>exact eQ b λv' vj z2 U=>nomatch z.trans (show C8.zip zf=(u',v')::vg.zip vj from z1▸z2▸rfl)
theorem tj {m m':Mem}{N N':Nat}{x y:V}{a b:UN}{xs ys:List Uo}{k k':Nat}{P:ŉ->Um->Prop} (H:∀z∈elems x,xZ prog w z) (hx:d7 x=true) (hy:d7 y=true) (cx:eW x=true) (cy:eW y=true) (hu:A.units+dep x<VN)
 (ha:s.heap.get? a=some (cw xs k)) (hb:s.heap.get? b=some (cw ys k')) (la:TR s.heap m N x xs) (lb:TR s.heap m' N' y ys) (h:P (.done (.ret (.bool (decide (x=y))))) s):
 UC (UG prog w) A (Builtin.«tuple.__eq__» ⟨[.ref a,.ref b],[]⟩) P E s:=by
 show UC _ _ (isInstance (.ref b) (.type "tuple")>>=_) _ _ s
 refine Uk (Wq ⟨_,hb,rfl⟩ ã (Uk (Y0 ha rfl (Uk (Y0 hb rfl (Uk ?_))))))
 have Nn:decide (elems x=elems y)=decide (x=y):=decide_eq_decide.mpr ⟨x6 cx cy hx hy,congrArg elems⟩
 have kx:=j0 hx
 refine Ye _ (λrest r s'=>r.1=none/\s'=s/\TI s.heap m m' N N' x y (xs.length==ys.length) rest)
  _ ?_ ?_ _ _ ⟨rfl,rfl,⟨elems x,elems y,xs,ys,rfl,lJ la,lJ lb,λU h=>h,λU h=>h,Nn,rfl⟩⟩
 ·refine λq rest r s' I=>aa I.2.1 (qc (TI.cons (u:=q.1) (v:=q.2) I.2.2) λp p' mm hh k k'=>Uk (H p mm.1 (y:=p') (kx p mm.1).1 ((j0 hy) p' mm.2).1 (by exact aJ (Y3 _ _ _) (.s (.s (.a Z0 Z1))) (.n 9900) (.a (.s (.a Z0 Z2)) (.s Z1)) (.a (.n 9900) Z2) (Uq hu ((kx p mm.1).2)) rfl) hh.1 hh.2 ?_))
  by_cases hk:p=p'
  ·exact aa (decide_eq_true hk) (Us ⟨rfl,rfl,k hk⟩)
  ·exact aa (decide_eq_false hk) (Uk (Us (Us (Us (k' hk▸h)))))
 ·rintro ⟨r1,r2⟩ s' ⟨hr,hs,T⟩
  refine aa (show r1=none from hr) (aa hs ?_)
  refine Us ?_
  show P (.done (.ret (.bool (xs.toArray.size==ys.toArray.size)))) s
  exact aa T.nil h
end
end
end Mine.Internal
namespace Mine.Internal
noncomputable section
open PySem PySem.W PyProof.Rows
section
variable {prog:Vo}{w:VB}{A:UO}{E:Uo->Um->Prop}{s:Um}{m:Mem}{N:Nat}
theorem Ad (i j:Int):decide (V.int i=V.int j)=(i==j):=by
 exact gL ā (gL decide_eq_true_iff (gL beq_iff_eq ⟨λh=>by injection h,λh=>congrArg _ h⟩))
theorem Ae (i j:List Nat):decide (V.str i=V.str j)=decide ((⟨i.toArray⟩:Uz)=⟨j.toArray⟩):=by
 exact gL ā (gL decide_eq_true_iff (gL decide_eq_true_iff ⟨λh=>by injection h with h;exact aa h rfl,λh=>by injection h with h;injection h with h;exact congrArg _ h⟩))
theorem eK {a b:Uo}{Ta Tb JC JD:String}{Q:Bool->Um->Prop} (C9:a≠b) (hf:∀x t y u,¬(a=.float x t/\b=.float y u)) (ha:s.TypeIs a Ta) (hb:s.TypeIs b Tb) (hu:A.units<VN)
 (wJ:(XZ Ta !=XZ Tb)=true) (rS:Ĳ (.type Tb) (.type Ta)=pure false) (h1:ĸ Ta (ħ .Eq).2.1 JC) (h2:ĸ Tb (ħ .Eq).2.2 JD) (hk:isSame a b=pure false)
 (hc:UC (UG prog w) A (call (.builtin JC) [a,b]) (λv aj=>v=.notImplemented/\aj=s) E s) (CF:UC (UG prog w) A (call (.builtin JD) [b,a]) (λv aj=>v=.notImplemented/\aj=s) E s) (q:Q false s):
 UC (UG prog w) A (eqBool a b) Q E s:=by
 delta eqBool
 try with_reducible refine UH ?_
 refine aa (if_neg (λe=>C9 (eq_of_beq e))) ?_
 have R:=rR (prog:=prog) (w:=w) (A:=A) (E:=E) (Q:=λv s'=>UC (UG prog w) A (ŗ v) Q E s') ha hb hu wJ rS h1 h2 hk hc CF (Vs q)
 cases a<;>first | exact Uk R | skip
 cases b<;>first | exact Uk R | exact absurd ⟨rfl,rfl⟩ (hf _ _ _ _)
theorem oR {a b:Uo}{r:Bool}{Q:Bool->Um->Prop} (C9:a≠b) (hf:∀x t y u,¬(a=.float x t/\b=.float y u)) (h:∀ {Q:Uo->Um->Prop},Q (.bool r) s->UC (UG prog w) A (richCompare .Eq a b) Q E s) (q:Q r s):
 UC (UG prog w) A (eqBool a b) Q E s:=by
 delta eqBool
 try with_reducible refine UH ?_
 refine aa (if_neg (λe=>C9 (eq_of_beq e))) ?_
 have R:=h (Q:=λv s'=>UC (UG prog w) A (ŗ v) Q E s') (Vs q)
 clear q h C9 r;cases a<;>first | exact Uk R | skip
 cases b<;>first | exact Uk R | exact absurd ⟨rfl,rfl⟩ (hf _ _ _ _)
theorem oS {m m':Mem}{N N':Nat}{x y:V}{a b:UN}{xs ys:List Uo}{k k':Nat}{Q:Bool->Um->Prop} (H:∀z∈elems x,xZ prog w z) (hx:d7 x=true) (hy:d7 y=true) (cx:eW x=true) (cy:eW y=true) (hu:A.units+dep x+1<VN)
 (ha:s.heap.get? a=some (cw xs k)) (hb:s.heap.get? b=some (cw ys k')) (la:TR s.heap m N x xs) (lb:TR s.heap m' N' y ys) (va:VR s.heap m N x (.ref a)) (vb:VR s.heap m' N' y (.ref b)) (h:Q (decide (x=y)) s):UC (UG prog w) A (eqBool (.ref a) (.ref b)) Q E s:=by
 by_cases Ma:a=b
 ·subst Ma
  have z1:=qt hx hy va vb;subst z1
  delta eqBool
  try with_reducible refine UH ?_
  exact aa (if_pos (by simp)) (Uk (VQ (Us (by simpa using h))))
 ·refine oR (r:=decide (x=y)) (λe=>Ma (by injection e)) (λU U U U e=>by cases e.1) (λ{Q} q=>?_) h
  exact XH (op:=.Eq) (T:="tuple") ⟨_,ha,rfl⟩ ⟨_,hb,rfl⟩ Xq
   (UU Xq ⟨_,ha,rfl⟩ Ě (tj H hx hy cx cy (by lia) ha hb la lb (uP _ rfl (λe=>nomatch e) q)) (Č _ _)) (aJ (Y2 _ _) (.s Z0) (.n 9900) (.s (.s (.a Z0 Z1))) (.n 9900) hu rfl)
theorem iy {h:U1}{m:Mem}{N:Nat}{x:V}{u:Uo} (hc:eW x=true) (hv:VR h m N x u):∃a k l,u=.ref a/\h.get? a=some (cw l k)/\TR h m N x l:=by
 cases x with
 | nil=>exact eQ hv λa k e p=>CC a k ([]) e p.get (by rfl)
 | cons x y=>exact zo hv λa k i r e p q z=>CC a k (i::r) e p.get ((i6 i r rfl q z))
 | _=>contradiction
theorem PD {m m':Mem}{N N':Nat}{x y:V}{u v:Uo}{Q:Bool->Um->Prop} (H:∀z∈elems x,xZ prog w z) (hx:d7 x=true) (cx:eW x=true) (hy:d7 y=true) (hu:A.units+dep x+1<VN)
 (ha:VR s.heap m N x u) (hb:VR s.heap m' N' y v) (q:Q (decide (x=y)) s):UC (UG prog w) A (eqBool u v) Q E s:=by
 refine mA (iy cx ha) λa k l z1 hp ht=>?_;subst z1
 cases y with
 | int j=>
  refine bb (bx.mp hb) λt' z2=>aa z2 (eK (λe=>nomatch e) (λU U U U e=>nomatch e.1) ⟨_,hp,rfl⟩ (XR s j t') (aJ (Y2 _ _) (.s Z0) (.n 9900) (.s (.s (.a Z0 Z1))) (.n 9900) hu rfl) (by rfl) Yo Xq F.slot_int_eq_refl rfl (d9 hp (XR s j t') Yo ⟨rfl,rfl⟩) (kP hp ⟨rfl,rfl⟩) ?_)
  cases x<;>first | (cases cx;done) | simpa using q
 | str j=>
  refine bb (cj.mp hb) λt' z3=>aa z3 (eK (λe=>nomatch e) (λU U U U e=>nomatch e.1) ⟨_,hp,rfl⟩ (XQ s _ t') (aJ (Y2 _ _) (.s Z0) (.n 9900) (.s (.s (.a Z0 Z1))) (.n 9900) hu rfl) (by rfl) Yn Xq F.slot_str_eq_refl rfl (d9 hp (XQ s _ t') Yn ⟨rfl,rfl⟩) (kQ hp ⟨rfl,rfl⟩) ?_)
  cases x<;>first | (cases cx;done) | simpa using q
 | nil=>refine mA (iy (x:=.nil) rfl hb) λb k' l' z4 Af dV=>?_;subst z4;exact oS H hx hy cx rfl hu hp Af ht dV ha hb q
 | cons y1 y2=>refine mA (iy (x:=.cons y1 y2) rfl hb) λb k' l' z5 Af dV=>?_;subst z5;exact oS H hx hy cx rfl hu hp Af ht dV ha hb q
 | none=>cases hy
 | bool _=>cases hy
 | ref _=>cases hy
theorem JE:∀x:V,xZ prog w x/\∀z∈elems x,xZ prog w z:=by
 intro z9;induction z9 with
 | int i=>
  refine ⟨λ{y u v A s E m m' N N' Q} _ hy hu ha hb q=>(bb (bx.mp ha) λt z1=>aa z1 ?_),λU h=>(by cases h)⟩
  cases y with
  | int j=>exact bb (bx.mp hb) λt' z2=>aa z2 (İ (Ad i j▸q))
  | str j=>
   exact bb (cj.mp hb) λt' z3=>aa z3 (oR (r:=false) (λe=>nomatch e) (λU U U U e=>nomatch e.1) (λ{Q} q=>EqMixed.eq_int_str q) (by exact q))
  | nil=>
   refine eQ hb λb k z4 z5=>?_;clear hb;refine aa z4 ?_;obtain ⟨hp,_⟩:=z5
   exact eK (λe=>nomatch e) (λU U U U e=>nomatch e.1) (XR s i t) ⟨_,hp,rfl⟩ (aJ (Y2 _ _) (.s Z0) (.n 9900) (.s (.s (.a Z0 Z1))) (.n 9900) hu rfl) (by decide) ī Ã Xk rfl (kP hp ⟨rfl,rfl⟩) (d9 hp (XR s i t) Yo ⟨rfl,rfl⟩) (by simpa using q)
  | cons y1 y2=>
   refine CT hb λb k c r z6 z7 U=>?_;clear hb;refine aa z6 ?_;obtain ⟨hp,_⟩:=z7
   exact eK (λe=>nomatch e) (λU U U U e=>nomatch e.1) (XR s i t) ⟨_,hp,rfl⟩ (aJ (Y2 _ _) (.s Z0) (.n 9900) (.s (.s (.a Z0 Z1))) (.n 9900) hu rfl) (by decide) ī Ã Xk rfl (kP hp ⟨rfl,rfl⟩) (d9 hp (XR s i t) Yo ⟨rfl,rfl⟩) (by simpa using q)
  | none=>cases hy
  | bool _=>cases hy
  | ref _=>cases hy
 | str i=>
  refine ⟨λ{y u v A s E m m' N N' Q} _ hy hu ha hb q=>(bb (cj.mp ha) λt z8=>aa z8 ?_),λU h=>(by cases h)⟩
  cases y with
  | int j=>
   exact bb (bx.mp hb) λt' z9=>aa z9 (oR (r:=false) (λe=>nomatch e) (λU U U U e=>nomatch e.1) (λ{Q} q=>EqMixed.eq_str_int q) (by simpa using q))
  | str j=>exact bb (cj.mp hb) λt' JF=>aa JF (wpAny_eqBool_str (Ae i j▸q))
  | nil=>
   refine eQ hb λb k JG JH=>?_;clear hb;refine aa JG ?_;obtain ⟨hp,_⟩:=JH
   exact eK (λe=>nomatch e) (λU U U U e=>nomatch e.1) (XQ s _ t) ⟨_,hp,rfl⟩ (aJ (Y2 _ _) (.s Z0) (.n 9900) (.s (.s (.a Z0 Z1))) (.n 9900) hu rfl) (by decide) Ī Â Xk rfl (kQ hp ⟨rfl,rfl⟩) (d9 hp (XQ s _ t) Yn ⟨rfl,rfl⟩) (by simpa using q)
  | cons y1 y2=>
   refine CT hb λb k c r JI JJ U=>?_;clear hb;refine aa JI ?_;obtain ⟨hp,_⟩:=JJ
   exact eK (λe=>nomatch e) (λU U U U e=>nomatch e.1) (XQ s _ t) ⟨_,hp,rfl⟩ (aJ (Y2 _ _) (.s Z0) (.n 9900) (.s (.s (.a Z0 Z1))) (.n 9900) hu rfl) (by decide) Ī Â Xk rfl (kQ hp ⟨rfl,rfl⟩) (d9 hp (XQ s _ t) Yn ⟨rfl,rfl⟩) (by simpa using q)
  | none=>cases hy
  | bool _=>cases hy
  | ref _=>cases hy
 | nil=>exact ⟨λ{y u v A s E m m' N N' Q} hx hy hu ha hb q=>PD (λz hz=>(by cases hz)) hx rfl hy hu ha hb q,λU h=>(by cases h)⟩
 | cons x1 x2 CD sN=>
  have H:∀z∈elems (.cons x1 x2),xZ prog w z:=λz hz=>by
   simp only [elems,Wn] at hz
   rcases hz with rfl | hz
   ·exact CD.1
   ·exact sN.2 z hz
  exact ⟨λ{y u v A s E m m' N N' Q} hx hy hu ha hb q=>PD H hx rfl hy hu ha hb q,H⟩
 | none=>exact ⟨λ{_ _ _ _ _ _ _ _ _ _ _} h=>(by cases h),λU h=>(by cases h)⟩
 | bool U=>exact ⟨λ{_ _ _ _ _ _ _ _ _ _ _} h=>(by cases h),λU h=>(by cases h)⟩
 | ref U=>exact ⟨λ{_ _ _ _ _ _ _ _ _ _ _} h=>(by cases h),λU h=>(by cases h)⟩
end
end
end Mine.Internal
namespace Mine.Internal
noncomputable section
open PySem PySem.W PyProof.Rows
noncomputable def gK:Mem:=⟨id,id,λU=>none,λU=>false⟩
mutual
theorem rT {h:U1}{m:Mem}{N N':Nat}:∀ {x:V}{u:Uo},d7 x=true->VR h m N x u->VR h gK N' x u
 | .int i,u,_,a=>bx.mpr (bx.mp a)
 | .str i,u,_,a=>cj.mpr (cj.mp a)
 | .nil,u,_,a=>by exact eQ a λp k e g=>⟨p,k,e,g.get,rfl,rfl⟩
 | .cons x y,u,h,a=>by
  replace h:=lq h
  exact zo a λp k i r e g b c=>LW p k i r e ⟨g.get,rfl,rfl⟩ (rT h.1.1 b) (Ag h.1.2 c)
 | .none,_,h,_ | .bool _,_,h,_ | .ref _,_,h,_=>by contradiction
theorem Ag {h:U1}{m:Mem}{N N':Nat}:∀ {x:V}{u:List Uo},d7 x=true->TR h m N x u->TR h gK N' x u
 | .nil,u,_,a=>a
 | .cons x y,u,h,a=>by
  replace h:=lq h
  exact eh a λi r e b c=>i6 i r e (rT h.1.1 b) (Ag h.1.2 c)
 | .none,_,_,a | .bool _,_,_,a | .int _,_,_,a | .str _,_,_,a | .ref _,_,_,a=>by simp only [TR] at a
end
theorem nv {v:V} (h:v.kind=some 2):eW v=true:=by
 cases v with
 | nil=>rfl
 | cons x y=>rfl
 | int U=>exact nomatch Uu h
 | str U=>exact nomatch Uu h
 | _=>exact fg h
section
variable {prog:Vo}{w:VB}{A:UO}{E:Uo->Um->Prop}{s:Um}{m:Mem}{N:Nat}
def nX (prog:Vo) (w:VB) (v:V):Prop:=∀⦃n:Nat⦄ ⦃u:Uo⦄ ⦃A:UO⦄ ⦃E:Uo->Um->Prop⦄ ⦃s:Um⦄ ⦃m:Mem⦄ ⦃N:Nat⦄ ⦃Q:Bool->Um->Prop⦄,d7 v=true->dep v<=n->VR s.heap m N v u->Q true s->UC (UG prog w) A (Ĵ n u) Q E s
theorem nA {v:V}{n:Nat}{u:Uo}{Q:Bool->Um->Prop} (H:∀z∈elems v,nX prog w z) (hk:d7 v=true) (hc:eW v=true) (hn:dep v<=n) (hv:VR s.heap m N v u) (q:Q true s):UC (UG prog w) A (Ĵ n u) Q E s:=by
 refine mA (iy hc hv) λa k l z1 hp ht=>aa z1 ?_
 have hT:s.TypeIs (.ref a) "tuple":=⟨_,hp,rfl⟩
 have hd:1<=dep v:=by
  cases v with
  | nil=>exact Ux _
  | cons x y=>exact aJ (Y2 _ _) (.n 1) Z0 (.s Z1) Z0 (Ĉ _ _) rfl
  | _=>contradiction
 have kx:=j0 hk
 clear hv;obtain ⟨n,rfl⟩:∃n',n=n'+1:=⟨n - 1,by lia⟩
 rw [Ĵ]
 refine Uk (WG hT F.slot_tuple_eq.lookup (Uk (Wq hT ã (Uk (VX hp rfl (Uk (aR YA (Ye _ (λrest r s'=>r.1=none/\s'=s/\∃left,LR s.heap m N left rest/\∀z∈left,z∈elems v) _ ?_ ?_ _ _ ⟨rfl,rfl,elems v,lJ ht,λU h=>h⟩))))))))
 ·rintro x rest r s' ⟨hr,rfl,left,hl,hm⟩
  cases left with
  | nil=>simp [LR] at hl
  | cons z left=>
   refine eh hl λi r' e h1 h2=>?_
   cases e
   have hz:=hm z (Ur)
   exact Uk (H z hz (kx z hz).1 ((aJ (Y3 _ _ _) Z0 Z1 (.a Z2 (.s Z0)) (.a (.s Z1) Z2) (Uq hn ((kx z hz).2)) rfl)) h1 (Us ⟨rfl,rfl,left,h2,λy hy=>hm y (by simp [hy])⟩))
 ·rintro ⟨r1,r2⟩ s' ⟨hr,rfl,_⟩
  simp only at hr
  exact aa hr (Us q)
theorem Ah:∀v:V,nX prog w v/\∀z∈elems v,nX prog w z:=by
 intro z9;induction z9 with
 | int i=>exact ⟨λ{n u A E s m N Q} _ _ hv q=>(by exact bb (bx.mp hv) λt z1=>aa z1 (aa (Ħ _ rfl) (Us q))),λU h=>(by cases h)⟩
 | str i=>exact ⟨λ{n u A E s m N Q} _ _ hv q=>(by exact bb (cj.mp hv) λt z2=>aa z2 (aa (Ħ _ rfl) (Us q))),λU h=>(by cases h)⟩
 | nil=>exact ⟨λ{n u A E s m N Q} hk hn hv q=>nA (λz hz=>(by cases hz)) hk rfl hn hv q,λU h=>(by cases h)⟩
 | cons x y CD sN=>
  have H:∀z∈elems (.cons x y),nX prog w z:=λz hz=>by
   simp only [elems,Wn] at hz
   rcases hz with rfl | hz
   ·exact CD.1
   ·exact sN.2 z hz
  exact ⟨λ{n u A E s m N Q} hk hn hv q=>nA H hk rfl hn hv q,H⟩
 | none=>exact ⟨λ{_ _ _ _ _ _ _ _} h=>(by contradiction),λU h=>(by cases h)⟩
 | bool U=>exact ⟨λ{_ _ _ _ _ _ _ _} h=>(by contradiction),λU h=>(by cases h)⟩
 | ref U=>exact ⟨λ{_ _ _ _ _ _ _ _} h=>(by contradiction),λU h=>(by cases h)⟩
noncomputable def tupK (prog:Vo) (w:VB):HeapKind prog w V where
 is h v a:=v.kind=some 2/\VR h gK 0 v (.ref a)
 hash:=kh w
 draws:=dr
 room A:=A.units+4<VN
 inj:=λhx hy=>qt (a8 hx.1).1 (a8 hy.1).1 hx.2 hy.2
 keeps:=λ{h h' k a d o es ep} x ho hd hs=>⟨x.1,x.2.mono (λb l k e=>⟨by
  rw [hs.2 b (by rintro rfl;have e:=e.get;rw [ho] at e;cases e;cases hd)];exact e.get,e.own⟩) (λU h=>absurd h (Zl _)) (Ux _)⟩
 pyHash:=λ{A E s k a Q} hu hk q=>(nU k).1 (a8 hk.1).1 (by have:=(a8 hk.1).2;lia) hk.2 q
 eqBool:=λ{A E s x y a b Q} hu hx hy q=>(JE x).1 (a8 hx.1).1 (a8 hy.1).1 (by have:=(a8 hx.1).2;lia) hx.2 hy.2 q
 quiet:=λ{A E s k a Q} hk q=>(Ah k).1 (a8 hk.1).1 (by have:=(a8 hk.1).2;lia) hk.2 q
theorem DR.length:∀ {d:List (V×V)}{es:List U7}{h:U1},DR w h m N d es->es.length=d.length:=by
 intro z9;induction z9 with
 | nil=>intro es h e;subst e;rfl
 | cons p d ih=>intro es h e;refine eh e λi r z1 U q=>?_;clear e;subst z1;simp [ih q]
theorem DR.get:∀ {d:List (V×V)}{es:List U7}{h:U1}{i:Nat}{p:V×V},DR w h m N d es->d[i]? =some p->∃e,es[i]? =some e/\e.hash=kh w p.1/\VR h m N p.1 e.key/\VR h m N p.2 e.val:=by
 intro z9;induction z9 with
 | nil=>intro es h i;intro p e g;simp at g
 | cons x d ih=>
  intro es h y;cases y with
  | zero=>
   intro p e g
   refine eh e λi r z1 a q=>?_;clear e;subst z1
   replace g:=Uu g;subst g;exact i12 i rfl a
  | succ i=>
   intro p e g
   refine eh e λj r z2 a q=>?_;clear e;subst z2
   exact aN (ih q g) λe' b c=>i12 e' (b) c
theorem DR.JK {d:List (V×V)}{es:List U7}{h:U1}{i:Nat}{e:U7} (D:DR w h m N d es) (g:es[i]? =some e):∃p,d[i]? =some p/\e.hash=kh w p.1/\VR h m N p.1 e.key/\VR h m N p.2 e.val:=by
 have hi:i<d.length:=by exact aR D.length (List.getElem?_eq_some_iff.mp g).1
 refine aN (D.get (U0 hi)) λe' a b=>?_
 rw [g] at a;injection a with z0;exact aa z0 (i12 _ (U0 hi) b)
set_option smartUnfolding false in
theorem jJ {d:List (V×V)}{y:V} (hu:gW d) (hk:keyOk d y=true):∃k,y.kind=some k/\∀p∈d,p.1.kind=some k:=by
 have key:∀z,(match z with | none=>false | some n=>match (generalizing:=false) d with | []=>true | p::_=>decide (p.1.kind=some n))=true->∃k,z=some k/\∀p∈d,p.1.kind=some k:=λz h=>by
  clear hk;cases z with
  | none=>exact nomatch h
  | some k=>cases d with
   | nil=>exact i12 k rfl λU h=>nomatch h
   | cons x d=>exact i12 k rfl λp hp=>(hu p hp x Ur).1.trans (of_decide_eq_true h)
 exact key _ hk
theorem Ai {v:V} (h:v.kind=some 0):∃i,v=.int i:=by
 cases v with
 | int i=>exact ⟨i,rfl⟩
 | cons x y=>exact nomatch Uu (lG h).2
 | _=>exact nomatch h
theorem Aj {v:V} (h:v.kind=some 1):∃i,v=.str i:=by
 cases v with
 | str i=>exact ⟨i,rfl⟩
 | cons x y=>exact nomatch Uu (lG h).2
 | _=>exact nomatch h
theorem JM {v:V}{k:Nat} (h:v.kind=some k):k=0\/k=1\/k=2:=by
 cases v with
 | cons x y=>exact .inr (.inr (Uu (lG h).2).symm)
 | int _=>exact .inl (Uu h).symm
 | str _=>exact .inr (.inl (Uu h).symm)
 | nil=>exact .inr (.inr (Uu h).symm)
 | _=>exact fg h
theorem DR.findIdx {h:U1}{P:U7->Bool}{y:V}:∀ {d:List (V×V)}{es:List U7},DR w h m N d es->(∀p∈d,∀e,VR h m N p.1 e.key->P e=decide (p.1=y))->es.findIdx? P=d.findIdx? λp=>decide (p.1=y):=by
 intro z9;induction z9 with
 | nil=>intro es e U;subst e;rfl
 | cons x d ih=>
  intro es e hp
  refine eh e λi r z1 a q=>?_;clear e;subst z1
  exact w2 Wv Wv (w2 (ih q λp Af=>hp p (by simp [Af])) (hp x (Ur) i a.2.1) rfl)
theorem gB {d:UN}{es:List U7}{k:Nat}{ds:List (V×V)}{y:V}{u:Uo}{Q:Option Nat->Um->Prop} (hu:A.units+5<VN) (hd:s.heap.get? d=some (jD es k)) (D:DR w s.heap m N ds es) (hn:(ds.map (·.1)).Nodup) (Q9:gW ds) (hk:keyOk ds y=true)
 (hy:VR s.heap m N y u) (q:Q (ds.findIdx? λp=>decide (p.1=y)) s):UC (UG prog w) A (dictFind d u (kh w y)) Q E s:=by
 refine aN (jJ Q9 hk) λc hc gD=>?_
 clear hk;rcases JM hc with rfl | rfl | rfl
 ·refine bb (Ai hc) λi z1=>?_;clear hc;subst z1
  refine bb (bx.mp hy) λt z2=>aa z2 (Ğ (knd:=WQ prog w) (k:=i) (by simp [WQ,YV]) hd rfl (λe he=>?_) ?_)
  ·refine bb (List.mem_iff_getElem?.mp (show e∈es from by simpa using he)) λj hj=>?_
   refine za (D.JK hj) λp hp h1 h2 U=>bb (Ai (gD p (Wa hp))) λi' x7=>?_
   rw [x7] at h1 h2
   exact bb (bx.mp h2) λt' dV=>i12 i' (by refine aa dV ?_;simp [WQ,YV]) h1
  ·rw [À,D.findIdx (y:=.int i) λp hp e he=>?_]
   ·exact q
   ·refine bb (Ai (gD p hp)) λi' x7=>?_
    rw [x7] at he ⊢
    refine bb (bx.mp he) λt' dV=>(congrArg _ dV).trans ?_
    simp only [WQ,YV,Ad]
 ·refine bb (Aj hc) λi z3=>?_;clear hc;subst z3
  refine bb (cj.mp hy) λt z4=>aa z4 (Ğ (knd:=XJ prog w) (k:=⟨i.toArray⟩) (by simp [XJ,Zu]) hd rfl (λe he=>?_) ?_)
  ·refine bb (List.mem_iff_getElem?.mp (show e∈es from by simpa using he)) λj hj=>?_
   refine za (D.JK hj) λp hp h1 h2 U=>bb (Aj (gD p (Wa hp))) λi' x7=>?_
   rw [x7] at h1 h2
   exact bb (cj.mp h2) λt' dV=>i12 ⟨i'.toArray⟩ (by refine aa dV ?_;simp [XJ,Zu]) h1
  ·rw [À,D.findIdx (y:=.str i) λp hp e he=>?_]
   ·exact q
   ·refine bb (Aj (gD p hp)) λi' x7=>?_
    rw [x7] at he ⊢
    refine bb (cj.mp he) λt' dV=>(congrArg _ dV).trans ?_
    simp only [Ae]
    by_cases e:i'=i
    ·exact rfl
    ·rfl
 ·refine mA (iy (nv hc) hy) λa k' l z5 hp ht=>?_;subst z5
  have:∀ {ds:List (V×V)}{es:List U7},DR w s.heap m N ds es->(∀p∈ds,p.1.kind=some 2)->∃xs:List (V×UN×Uo),es=xs.map (entryOfKey (tupK prog w))/\(∀x∈xs,(tupK prog w).is s.heap x.1 x.2.1)/\xs.map (·.1)=ds.map (·.1):=by
   intro ds
   induction ds with
   | nil=>intro es e _;exact aa e (uP ([]) rfl (by simp) rfl)
   | cons p ds ih=>
    intro es e hp
    refine eh e λi r z6 z7 q=>?_;clear e;refine aa z6 (eg z7 λb1 b2 b3=>i5 (ih q λp' h'=>hp p' (by simp [h'])) λxs c1 c2 c3=>?_)
    have Np:=hp p (by exact Ur)
    refine mA (iy (nv Np) b2) λa' T6 l' e1 e2 e3=>uP ((p.1,a',i.val)::xs) ?_ ?_ (by simp [c3])
    ·refine ?_
     congr 1
     obtain ⟨PE,ik,iv⟩:=i
     simp only at b1 e1
     simp only [entryOfKey,tupK,b1,e1]
    ·intro x hx
     rcases List.mem_cons.mp hx with rfl | hx
     ·exact ⟨Np,rT (a8 Np).1 (aR e1 b2)⟩
     ·exact c2 x hx
  refine i5 (this D gD) λxs x1 x2 x3=>?_
  have fi:∀(n:Nat),(ds.findIdx? λp=>decide (p.1=y))=(xs.findIdx? λp=>decide (p.1=y)):=λU=>by
   have a1:∀(l:List (V×V)),(l.findIdx? λp=>decide (p.1=y))=(l.map (·.1)).findIdx? λp=>decide (p=y):=λl=>aa Ü rfl
   have a2:∀(l:List (V×UN×Uo)),(l.findIdx? λp=>decide (p.1=y))=(l.map (·.1)).findIdx? λp=>decide (p=y):=λl=>aa Ü rfl
   exact (a1 ..).trans (aa (a2 ..) (congrArg _ x3.symm))
  replace q:=(fi 0)▸q
  refine wpAny_dictFind_heap (knd:=tupK prog w) (k:=y) (xs:=xs) (by exact aJ (Y1 _) (.s (.a Z0 (.n 4))) (.n 9900) (.s (.a Z0 (.n 5))) (.n 9900) hu rfl) ⟨hc,rT (a8 hc).1 hy⟩ hd rfl (by exact x1) x2 (aa x3 hn) (λwF=>?_) λj p hj=>?_
  ·have:(xs.findIdx? λp=>decide (p.1=y))=none:=by
    exact gL List.findIdx?_eq_none_iff (λx hx=>bb (List.mem_iff_getElem?.mp hx) λj hj=>gL decide_eq_false_iff_not (λe=>wF j x.2 (by exact hj.trans (aR e rfl))))
   rw [this] at q;exact q
  ·have:(xs.findIdx? λp=>decide (p.1=y))=some j:=by
    refine gL List.findIdx?_eq_some_iff_getElem (bb (List.getElem?_eq_some_iff.mp hj) λzg he=>i12 zg (by refine aa he ?_;simp) (λi hi=>?_))
    have x7:i<xs.length:=aJ (Y3 _ _ _) (.s Z0) Z1 (.a (.s Z2) (.s Z0)) (.a Z1 Z2) (Uq zg hi) rfl
    simp only [decide_eq_true_eq]
    exact λe=>Gl (Y2 _ _) (.a (.s Z0) Z1) (.a Z1 Z0) (Uq hi (UI (idxH_unique (aa x3 hn) (by exact w2 (U0 x7) e.symm rfl) hj).symm)) rfl
   rw [this] at q;exact q
end
end
end Mine.Internal
namespace Mine.Internal
noncomputable section
open PySem PySem.W PyProof.Rows
section
variable {prog:Vo}{w:VB}{A:UO}{E:Uo->Um->Prop}{s:Um}{m:Mem}{N:Nat}
structure DictAt (w:VB) (m:Mem) (N:Nat) (h:U1) (a:UN) (d:List (V×V)):Prop where
 ex:∃es k,h.get? a=some (jD es k)/\DR w h m N d es
 pS:(d.map (·.1)).Nodup
 vm:gW d
 nm:a≠VM
theorem oU {d:List (V×V)}{y:V}:ag d y=(d.findIdx? λp=>decide (p.1=y)).bind λi=>(d[i]?).map (·.2):=by
 delta ag
 induction d with
 | nil=>rfl
 | cons p d ih=>
  refine (congrArg _ Xi).trans (aa Wv ?_)
  by_cases e:p.1=y
  ·simp [e]
  ·simp only [e,decide_false,ih]
   cases List.findIdx? (λp=>decide (p.1=y)) d<;>rfl
theorem j3 {a:UN}{d:List (V×V)}{y:V}{u:Uo}{Q:Option Uo->Um->Prop} (D:DictAt w m N s.heap a d) (hu:A.units+5<VN) (hk:keyOk d y=true) (hy:VR s.heap m N y u)
 (qs:∀r v t,ag d y=some r->VR s.heap m N r v->Q (some v) {s with toks:=t}) (qn:∀t,ag d y=none->Q none {s with toks:=t}):UC (UG prog w) A (ZQ a u) Q E s:=by
 refine eQ D.ex λes k hd uT=>aN (jJ D.vm hk) λc hc gD=>?_
 delta ZQ
 try with_reducible refine UH ?_
 refine Uk ((nU y).1 (a8 hc).1 ((aJ (Y2 _ _) (.s (.a Z0 Z1)) (.n 9900) (.a (.s (.a Z0 (.n 5))) Z1) (.a (.n 9900) (.n 2)) (Uq hu ((a8 hc).2)) rfl)) hy (Uk (gB (s:={s with toks:=s.toks+dr y}) hu hd uT D.pS D.vm hk hy ?_)))
 have hg:=oU (d:=d) (y:=y)
 cases hi:d.findIdx? λp=>decide (p.1=y) with
 | none=>rw [hi] at hg;exact Us (qn _ hg)
 | some i=>
  replace hg:=hi▸hg
  refine Uk (VO (s:={s with toks:=s.toks+dr y}) hd rfl (bb (List.findIdx?_eq_some_iff_getElem.mp hi) λzg U=>?_))
  have hp:=U0 zg
  exact za (uT.get hp) λe he U U hv=>aa Yc (aa he (Us (qs _ _ _ (by refine hg.trans ((Ï ..).trans ((congrArg _ hp).trans ?_));rfl) hv)))
theorem DictAt.typeIs {a:UN}{d:List (V×V)} (D:DictAt w m N s.heap a d):s.TypeIs (.ref a) "dict":=by exact eQ D.ex λes k hd U=>⟨_,hd,rfl⟩
theorem DictAt.j4 {h:U1}{a:UN}{d:List (V×V)} (D:DictAt w m N h a d):(a==VM)=false:=by
 exact beq_eq_false_iff_ne.mpr D.nm
theorem JN {a:UN}{d:List (V×V)}{y r:V}{u:Uo}{Q:Uo->Um->Prop} (D:DictAt w m N s.heap a d) (hu:A.units+6<VN) (hk:keyOk d y=true) (hy:VR s.heap m N y u) (hr:ag d y=some r)
 (q:∀v t,VR s.heap m N r v->Q v {s with toks:=t}):UC (UG prog w) A (YJ (.ref a) u) Q E s:=by
 delta YJ
 try with_reducible refine UH ?_
 refine Uk (Ze D.typeIs (by rfl) (Uk (Vl (name:=U8 "__getitem__") D.typeIs Ģ (UU Ģ D.typeIs entry_dict_getitem ?_ (args_dict_getitem _ _)))))
 show UC _ _ (ZQ a u>>=_) _ _ s
 refine Uk (j3 D (by trivial) hk hy (λr' v t h1 h2=>?_) λt h1=>by rw [hr] at h1;exact nomatch h1)
 rw [hr] at h1;injection h1 with z0;subst z0
 exact Us (i12 v rfl (Us (q _ _ h2)))
theorem PF {a:UN}{d:List (V×V)}{y:V}{u:Uo}{Q:Bool->Um->Prop} (D:DictAt w m N s.heap a d) (hu:A.units+6<VN) (hk:keyOk d y=true) (hy:VR s.heap m N y u)
 (q:∀t,Q (ag d y).isSome {s with toks:=t}):UC (UG prog w) A (contains (.ref a) u) Q E s:=by
 delta contains
 try with_reducible refine UH ?_
 refine Uk (WG D.typeIs slot_dict_contains.lookup ?_)
 refine Uk (wpAny_callSpecialUnlessNone?_slot (name:=U8 "__contains__") D.typeIs ē
  (UU ē D.typeIs entry_dict_contains ?_ (args_dict_contains _ _)))
 show UC _ _ (ZQ a u>>=_) _ _ s
 refine Uk (j3 D (by trivial) hk hy (λr v t h1 h2=>?_) λt h1=>?_)
 ·have:=q t
  rw [h1] at this
  exact Us (i12 _ rfl (Vs this))
 ·have:=q t
  replace this:=h1▸this
  exact Uk (wpAny_pendingKey_other D.j4 (Us (i12 _ rfl (Vs this))))
theorem JO {a:UN}{d:List (V×V)}{y:V}{u:Uo}{Q:Uo->Um->Prop} (D:DictAt w m N s.heap a d) (hu:A.units+6<VN) (hk:keyOk d y=true) (hy:VR s.heap m N y u)
 (q:∀v t,VR s.heap m N ((ag d y).getD .none) v->Q v {s with toks:=t}):UC (UG prog w) A (call (.builtin "dict.get") [.ref a,u]) Q E s:=by
 refine UU Ĭ D.typeIs ě ?_ (F.args_dict_get_2 _ _)
 show UC _ _ (ZQ a u>>=_) _ _ s
 refine Uk (j3 D (by trivial) hk hy (λr v t h1 h2=>?_) λt h1=>?_)
 ·exact Us (i12 v rfl (q _ _ (aa h1 h2)))
 ·exact Uk (Ď D.j4 (Us (i12 .none rfl (q _ _ (aa h1 (eV.mpr rfl))))))
theorem JP {a:UN}{d:List (V×V)}{y z:V}{u x:Uo}{Q:Uo->Um->Prop} (D:DictAt w m N s.heap a d) (hu:A.units+6<VN) (hk:keyOk d y=true) (hy:VR s.heap m N y u) (hz:VR s.heap m N z x)
 (q:∀v t,VR s.heap m N ((ag d y).getD z) v->Q v {s with toks:=t}):UC (UG prog w) A (call (.builtin "dict.get") [.ref a,u,x]) Q E s:=by
 refine UU Ĭ D.typeIs ě ?_ (F.args_dict_get_3 _ _ _)
 show UC _ _ (ZQ a u>>=_) _ _ s
 refine Uk (j3 D (by trivial) hk hy (λr v t h1 h2=>?_) λt h1=>?_)
 ·exact Us (i12 v rfl (q _ _ (aa h1 h2)))
 ·exact Uk (Ď D.j4 (Us (i12 x rfl (q _ _ (aa h1 hz)))))
theorem DR.append {h:U1}:∀ {d d':List (V×V)}{es nO:List U7},DR w h m N d es->DR w h m N d' nO->DR w h m N (d++d') (es++nO):=by
 intro z9;induction z9 with
 | nil=>intro U es U e e';subst e;exact e'
 | cons p d ih=>intro U es U e e';refine eh e λi r z1 a q=>?_;clear e;subst z1;exact ⟨i,_,rfl,a,ih q e'⟩
theorem DR.modify {h:U1}{y v:V}{x:Uo} (hx:VR h m N v x):∀ {d:List (V×V)}{es:List U7}{i:Nat},DR w h m N d es->(d.map (·.1)).Nodup->(d.findIdx? λp=>decide (p.1=y))=some i->
 DR w h m N (d.map λp=>if p.1=y then (p.1,v) else p) (es.modify i λe=>{e with val:=x}):=by
 intro z9;induction z9 with
 | nil=>intro es i e U hi;simp at hi
 | cons p d ih=>
  intro es i e hn hi
  refine eh e λj r z1 a q=>aa z1 ?_
  rw [UX,U5] at hn
  replace hi:=Wv▸hi
  by_cases e:p.1=y
  ·simp only [e,decide_true,if_true,Yi] at hi
   subst hi
   refine aa UX (aa (if_pos e) (?_))
   have:(d.map λp=>if p.1=y then (p.1,v) else p)=d:=by
    refine (VP (g:=id) λz hz=>?_).trans (VF _)
    have:z.1≠y:=λw=>hn.1 (by exact aa e (aR w (Yu hz)))
    simp [this]
   exact aa this ⟨_,_,rfl,(fc a.1 a.2.1 hx),q⟩
  ·simp only [e,decide_false,Xv,if_false,VU] at hi
   refine aN hi λi' x7 z2=>?_;clear hi;subst z2
   exact aa UX (w2 (List.modify_succ_cons ..) (if_neg e) ⟨_,_,rfl,a,ih q hn.2 x7⟩)
theorem DR.erase {h:U1}{y:V}:∀ {d:List (V×V)}{es:List U7}{i:Nat},DR w h m N d es->(d.map (·.1)).Nodup->(d.findIdx? λp=>decide (p.1=y))=some i->DR w h m N (ej d y) (es.eraseIdx i):=by
 intro z9;induction z9 with
 | nil=>intro es i e U hi;simp at hi
 | cons p d ih=>
  intro es i e hn hi
  refine eh e λj r z1 a q=>aa z1 ?_
  rw [UX,U5] at hn
  rw [Wv] at hi
  by_cases e:p.1=y
  ·simp only [e,decide_true,if_true,Yi] at hi
   subst hi
   have:ej (p::d) y=d:=by
    delta ej
    refine List.filter_cons.trans ((if_neg (by simp [e])).trans (gL List.filter_eq_self ?_))
    intro z hz
    have:z.1≠y:=λw=>hn.1 (by exact aa e (aR w (Yu hz)))
    simp [this]
   exact aa this q
  ·simp only [e,decide_false,Xv,if_false,VU] at hi
   obtain ⟨i',x7,rfl⟩:=hi
   have:ej (p::d) y=p::ej d y:=by delta ej;exact List.filter_cons.trans (if_pos (by simp [e]))
   exact w2 this List.eraseIdx_cons_succ ⟨_,_,rfl,a,ih q hn.2 x7⟩
theorem x8 {d:List (V×V)}{y v:V} (h:∃i,(d.findIdx? λp=>decide (p.1=y))=some i):dput d y v=d.map λp=>if p.1=y then (p.1,v) else p:=by
 refine bb h λi hi=>aN (List.findIdx?_eq_some_iff_getElem.mp hi) λzg he U=>?_
 delta dput
 exact if_pos (List.any_eq_true.mpr (i12 (d[i]) (Wh zg) he))
theorem iz {d:List (V×V)}{y v:V} (h:(d.findIdx? λp=>decide (p.1=y))=none):dput d y v=d++ [(y,v)]:=by
 delta dput
 rw [if_neg]
 refine λq=>aN (List.any_eq_true.mp q) λp hp he=>?_
 rw [(List.findIdx?_eq_none_iff.mp h p hp)] at he;contradiction
theorem jK (d:List (V×V)) (y v:V):(dput d y v).length<=d.length+1:=by delta dput;split<;>simp
theorem kR {d:List (V×V)}{y v:V} (h:(d.map (·.1)).Nodup):((dput d y v).map (·.1)).Nodup:=by
 delta dput
 split
 ·refine aa We ?_
  have:(YM ((λx=>x.1)∘ λp=>if p.1=y then (p.1,v) else p) d)=d.map (·.1):=by
   refine VP λz U=>?_
   simp;split<;>rfl
  exact aa this h
 ·rename_i hn
  refine aa UJ (gL U2 (fc h ((of_decide_eq_true rfl)) (λa ha b hb e=>aN (List.mem_map.mp ha) λz hz e'=>?_)))
  apply hn
  exact gL YX (i12 z hz (by refine aa e' (aa e (aa (List.mem_singleton.mp hb) ?_));simp))
theorem oV {d:List (V×V)}{y v:V} (h:gW d) (hk:keyOk d y=true):gW (dput d y v):=by
 refine aN (jJ h hk) λc hc gD=>?_
 have:∀p∈dput d y v,p.1.kind=some c:=by
  intro p hp
  delta dput at hp
  split at hp
  ·refine aN (List.mem_map.mp hp) λq hq z1=>aR z1 ?_
   split<;>exact gD q hq
  ·refine (List.mem_append.mp hp).elim (λhp=>?_) λhp=>?_
   ·exact gD p hp
   ·replace hp:=List.mem_singleton.mp hp;exact aa hp hc
 exact λp hp q hq=>w2 (this p hp) (this q hq) ⟨rfl,(of_decide_eq_true rfl)⟩
theorem lO (d:List (V×V)) (y:V):List.Sublist (ej d y) d:=Í
theorem vn {d:List (V×V)}{y:V} (h:(d.map (·.1)).Nodup):((ej d y).map (·.1)).Nodup:=(Ő _ (lO d y)).nodup h
theorem Ak {d:List (V×V)}{y:V} (h:gW d):gW (ej d y):=λp hp q hq=>h p ((lO d y).subset hp) q ((lO d y).subset hq)
theorem mL {a:UN}{d:List (V×V)}{y v:V}{u x:Uo}{Q:Unit->Um->Prop} (D:DictAt w m N s.heap a d) (hu:A.units+5<VN) (hk:keyOk d y=true) (hy:VR s.heap m N y u) (hx:VR s.heap m N v x) (hz:d.length<=dj)
 (q:∀h' t,Vh a s.heap h'->(∃es k,h'.get? a=some (jD es k)/\DR w h' m N (dput d y v) es)->Q () {s with heap:=h',toks:=t}):UC (UG prog w) A (dictSet a u x) Q E s:=by
 refine eQ D.ex λes k hd uT=>aN (jJ D.vm hk) λc hc gD=>?_
 have Nq:dj<=VD:=by exact Ui rfl
 have mono:∀ {h'},Vh a s.heap h'->∀ {d' nO},DR w s.heap m N d' nO->DR w h' m N d' nO:=λ{h'} hs {d'}{nO} z=>DR.mono (λb l k e=>⟨by
  exact (hs.2 b (by rintro rfl;have e:=e.get;rw [hd] at e;simp at e)).trans e.get,e.own⟩) (λU U=>rfl) (Ux _) z
 delta dictSet
 try with_reducible refine UH ?_
 refine Uk ((nU y).1 (a8 hc).1 ((aJ (Y2 _ _) (.s (.a Z0 Z1)) (.n 9900) (.a (.s (.a Z0 (.n 5))) Z1) (.a (.n 9900) (.n 2)) (Uq hu ((a8 hc).2)) rfl)) hy ?_)
 delta dictSetHashed
 try with_reducible refine UH ?_
 refine Uk (gB (s:={s with toks:=s.toks+dr y}) hu hd uT D.pS D.vm hk hy ?_)
 clear gD hc c hk hu;cases hi:d.findIdx? λp=>decide (p.1=y) with
 | some i=>
  have sb:=Vu s.heap a (Ŏ (·.modify i λe=>{e with val:=x}))
  refine Uk (VQ (Uk (wpAny_updateDict (s:={s with toks:=s.toks+dr y}) hd rfl (YD (q _ _ sb (jo (es.modify i λe=>{e with val:=x}) k ?_ ?_))))))
  ·refine (Vy _ hd rfl).trans ?_
   simp only [Ŏ,List.modify_toArray]
  ·exact aa (x8 ⟨i,hi⟩) (mono sb (uT.modify hx D.pS hi))
 | none=>
  have sb:=Vu s.heap a (X' (·.push ⟨kh w y,u,x⟩))
  refine Uk (VQ (ï (hz:=by exact aJ (Y3 _ _ _) Z0 Z1 (.a (.a Z2 Z0) (.n 10000000)) (.a (.a (.n 10000000) Z2) Z1) (Uq (Uq hz (UI uT.length)) Nq) rfl) (s:={s with toks:=s.toks+dr y}) hd rfl (q _ _ sb (jo (es++ [⟨kh w y,u,x⟩]) (k+1) ?_ ?_))))
  ·refine (Vy _ hd rfl).trans ?_
   simp only [X',List.push_toArray]
  ·exact aa (iz hi) (mono sb (uT.append ⟨_,[],rfl,(fc rfl hy hx),rfl⟩))
theorem Nr {a:UN}{d:List (V×V)}{y v:V}{u x:Uo}{Q:Unit->Um->Prop} (D:DictAt w m N s.heap a d) (hu:A.units+6<VN) (hk:keyOk d y=true) (hy:VR s.heap m N y u) (hx:VR s.heap m N v x) (hz:d.length<=dj)
 (q:∀h' t,Vh a s.heap h'->(∃es k,h'.get? a=some (jD es k)/\DR w h' m N (dput d y v) es)->Q () {s with heap:=h',toks:=t}):UC (UG prog w) A (setItem (.ref a) u x) Q E s:=by
 delta setItem
 try with_reducible refine UH ?_
 refine Uk (Ze D.typeIs (by rfl) ?_)
 refine Uk (Vl (name:=U8 "__setitem__") D.typeIs ġ
  (UU ġ D.typeIs entry_dict_setitem ?_ (args_dict_setitem _ _ _)))
 refine Uk (Yv D.typeIs ?_)
 show UC _ _ (dictSet a u x>>=_) _ _ s
 exact Uk (mL D (by trivial) hk hy hx hz λh' t sb z=>Us (i12 .none rfl (Us (q h' t sb z))))
theorem Nt {a:UN}{d:List (V×V)}{y:V}{u:Uo}{Q:Unit->Um->Prop} (D:DictAt w m N s.heap a d) (hu:A.units+6<VN) (hk:keyOk d y=true) (hy:VR s.heap m N y u) (hg:(ag d y).isSome=true) (hz:d.length<=dj)
 (q:∀h' t,Vh a s.heap h'->(∃es k,h'.get? a=some (jD es k)/\DR w h' m N (ej d y) es)->Q () {s with heap:=h',toks:=t}):UC (UG prog w) A (delItem (.ref a) u) Q E s:=by
 refine eQ D.ex λes k hd uT=>aN (jJ D.vm hk) λc hc gD=>?_
 have Nq:dj<=VD:=by exact Ui rfl
 refine wpAny_delItem_slot D.typeIs (rfl) ë (UU ë D.typeIs F.entry_dict_delitem (Uk (Uk (Yv D.typeIs (Us ?_)))) (F.args_dict_delitem_2 _ _))
 show UC _ _ (Zd a u>>=_) _ _ s
 refine Uk ?_
 delta Zd
 try with_reducible refine UH ?_
 refine Uk ((nU y).1 (a8 hc).1 ((aJ (Y2 _ _) (.s (.a (.s Z0) Z1)) (.n 9900) (.a (.s (.a Z0 (.n 6))) Z1) (.a (.n 9900) (.n 2)) (Uq hu ((a8 hc).2)) rfl)) hy (Uk (gB (s:={s with toks:=s.toks+dr y}) (by trivial) hd uT D.pS D.vm hk hy ?_)))
 have Dc:=oU (d:=d) (y:=y)
 cases hi:d.findIdx? λp=>decide (p.1=y) with
 | none=>rw [hi] at Dc;rw [Dc] at hg;exact nomatch hg
 | some i=>
  refine bb (List.findIdx?_eq_some_iff_getElem.mp hi) λzg U=>Uk (VO (s:={s with toks:=s.toks+dr y}) hd rfl (aN (uT.get (U0 zg)) λe he U=>aa Yc (aa he ?_)))
  have sb:=Vu s.heap a (X' (·.eraseIdxIfInBounds i))
  refine Uk (ï (hz:=by exact aJ (Y3 _ _ _) Z0 Z1 (.a (.a Z2 Z0) (.n 10000000)) (.a (.a (.n 10000000) Z2) Z1) (Uq (Uq hz (UI uT.length)) Nq) rfl) (s:={s with toks:=s.toks+dr y}) hd rfl (Us (Uk (ò (Us (i12 .none rfl (q _ _ sb (jo (es.eraseIdx i) (k+1) ?_ ?_))))))))
  ·refine (Vy _ hd rfl).trans ?_
   simp only [X',YS]
  ·exact (uT.erase D.pS hi).mono (λb l k e=>⟨by
    exact (sb.2 b (by rintro rfl;have e:=e.get;rw [hd] at e;simp at e)).trans e.get,e.own⟩) (λU U=>rfl) (Ux _)
end
end
end Mine.Internal
namespace Mine.Internal
noncomputable section
open PySem PySem.W PyProof.Rows
theorem du:dj<=VD:=by exact Ui rfl
section
variable {W:Wd}{D:Fn->Option (List Nm×Ss)}{m:Mem}{σ:St}{s:Um}{A:UO}{Er:Uo->Um->Prop}
theorem aB.list (S:aB W m σ s.heap) {v:V}{u:Uo}{p:Nat×List V} (h:listAt σ v=some p) (hv:VR s.heap m σ.next v u):
 ∃is k,u=.ref (m.ad p.1)/\s.heap.get? (m.ad p.1)=some (fh is k)/\LR s.heap m σ.next p.2 is/\p.2.length<=dj/\σ.get p.1=some (.list p.2)/\v=.ref p.1:=by
 refine aU (C6 h) λz1 hg=>?_;clear h;subst z1
 exact aU (b7.mp hv) λhn z2=>aa z2 (eh (S.obj _ _ hg) λis k e r l=>MQ is k rfl e r l hg rfl)
theorem Al {v:V}{xs:List V} (h:itemsOf σ v=some xs):∃n,v=.ref n/\(σ.get n=some (.list xs)\/σ.get n=some (.args xs)):=by
 cases v with
 | ref n=>exact i12 n rfl (CW h)
 | _=>exact fg h
theorem aB.items (S:aB W m σ s.heap) {v:V}{u:Uo}{xs:List V} (h:itemsOf σ v=some xs) (hv:VR s.heap m σ.next v u):
 ∃a is k,u=.ref a/\s.heap.get? a=some (fh is k)/\LR s.heap m σ.next xs is/\xs.length<=dj:=by
 refine aN (Al h) λn z1 hg=>?_;clear h;subst z1
 refine aU (b7.mp hv) λhn z2=>aa z2 (hg.elim (λhg=>?_) λhg=>?_)
 ·exact eh (S.obj _ _ hg) λis k e r l=>MS _ is k rfl e r l
 ·exact qc (S.obj _ _ hg) λis k e r l U=>MS _ is k rfl e r l
theorem aB.dict (S:aB W m σ s.heap) (hb:Lv W.base VM) {v:V}{u:Uo}{p:Nat×List (V×V)} (h:dictAt σ v=some p) (hv:VR s.heap m σ.next v u):
 u=.ref (m.ad p.1)/\DictAt W.w m σ.next s.heap (m.ad p.1) p.2/\p.2.length<=dj/\σ.get p.1=some (.dict p.2)/\v=.ref p.1:=by
 refine aU (C7 h) λz1 hg=>?_;clear h;subst z1
 exact aU (b7.mp hv) λhn z2=>aa z2 (zl (S.obj _ _ hg) λes k e r l nd un=>QP rfl ⟨(jo es k e r),nd,un,λe=>(S.new _ _ hg rfl).1 (aa e hb)⟩ l hg rfl)
theorem aB.tup (S:aB W m σ s.heap) {v:V}{u:Uo}{xs:List V} (h:v.items=some xs) (hv:VR s.heap m σ.next v u):
 ∃a is k,u=.ref a/\s.heap.get? a=some (cw is k)/\LR s.heap m σ.next xs is:=by
 exact mA (iT.mp (aR (d6 h) hv)) λa k l e g r=>CC a l k e g.get r
theorem aB.newList (S:aB W m σ s.heap) {xs:List V}{is:List Uo}{t:Nat} (hr:LR s.heap m σ.next xs is) (hk:xs.length<=dj):
 ∃m',Step W d8 m σ.next s m' (σ.next+1) {s with heap:=s.heap.push (fh is 0),toks:=t}/\aB W m' (σ.push (.list xs)) (s.heap.push (fh is 0))/\m'.ad σ.next=s.heap.objs.size:=
 S.EZ (o:=.list xs) (ob:=fh is 0) rfl rfl λh' m' hm ht hg=>⟨is,0,hg,hr.mono ht hm (US _),hk⟩
theorem x9 (S:aB W m σ s.heap) {xs:List V}{is:List Uo} (hr:LR s.heap m σ.next xs is) {Q:Uo->Um->Prop} (hk:xs.length<=dj)
 (q:∀m' s',Step W d8 m σ.next s m' (σ.next+1) s'->aB W m' (σ.push (.list xs)) s'.heap->VR s'.heap m' (σ.next+1) (.ref σ.next) (.ref s.heap.objs.size)->Q (.ref s.heap.objs.size) s'):
 UC (UG W.prog W.w) A (newList is) Q Er s:=by
 refine i5 (S.newList (t:=s.toks) hr hk) λm' T S' e=>YU (q m' _ T S' ?_) ?_
 ·exact b7.mpr ⟨Uw _,(congrArg _ e.symm)⟩
 ·exact aa hr.length (Ut hk du)
theorem aB.oW (S:aB W m σ s.heap) {xs:List V}{is:List Uo}{t:Nat} (hr:LR s.heap m σ.next xs is):
 Step W d8 m σ.next s m σ.next {s with heap:=s.heap.push (cw is 0),toks:=t}/\aB W m σ (s.heap.push (cw is 0))/\VR (s.heap.push (cw is 0)) m σ.next (V.tup xs) (.ref s.heap.objs.size):=by
 refine aU (S.grown (h':=s.heap.push (cw is 0)) (tk:=t) (λb o e=>Uv _ e)) λT S'=>?_
 have vd:m.own s.heap.objs.size=none:=by
  cases e:m.own s.heap.objs.size with
  | none=>rfl
  | some n=>exact bb (S.fresh _ n e) λo e'=>absurd (Vt e') (WX _)
 have Ra:m.pv s.heap.objs.size=false:=by
  cases e:m.pv s.heap.objs.size with
  | false=>rfl
  | true=>exact aU (S.CE _ e) λz1 U=>sQ z1 λl k e'=>absurd (Vt e') (WX _)
 exact fc T S' (iT.mpr (CC _ 0 is rfl ⟨UK _ rfl,vd,Ra⟩ (T.lr hr)))
theorem vo (S:aB W m σ s.heap) {xs:List V}{is:List Uo} (hr:LR s.heap m σ.next xs is) {Q:Uo->Um->Prop} (hv:xs.length<=dj)
 (q:∀s',Step W d8 m σ.next s m σ.next s'->aB W m σ s'.heap->VR s'.heap m σ.next (V.tup xs) (.ref s.heap.objs.size)->Q (.ref s.heap.objs.size) s'):
 UC (UG W.prog W.w) A (newTuple is) Q Er s:=by
 exact eg (S.oW (t:=s.toks) hr) λT S' r=>YE (q _ T S' r) (aa hr.length (Ut hv du))
theorem aB.rU (S:aB W m σ s.heap) {n:Nat}{xs ys:List V}{is:List Uo}{j t:Nat}{f:Array Uo->Array Uo} (hg:σ.get n=some (.list xs)) (ha:s.heap.get? (m.ad n)=some (fh is j))
 (hr:LR s.heap m σ.next ys (f is.toArray).toList) (hk:ys.length<=dj):
 Step W d8 m σ.next s m σ.next {s with heap:=s.heap.update (m.ad n) (Wc f),toks:=t}/\aB W m (σ.set n (.list ys)) (s.heap.update (m.ad n) (Wc f)):=
 S.change (o':=.list ys) hg rfl rfl (m.ad n) (.inl rfl) (Vu ..) (λl k e=>by rw [ha] at e;simp at e) ⟨_,Þ (ha) f⟩ λht=>
  ⟨(f is.toArray).toList,_,by
    have:=Þ (ha) f
    exact this,hr.mono ht (λU U=>rfl) (Ux _),hk⟩
theorem iV {value slice:Ul}{o i:Uo}{T id:String}{Q:Uo->Um->Prop} (hT:s.TypeIs o T) (hl:XP (.type T) "__getitem__"=pure (some (.builtin id)))
 (hg:UC (UG W.prog W.w) A (YJ o i) Q Er s):UC (UG W.prog W.w) A (È value slice o i) Q Er s:=by
 cases slice with
 | Slice l u st p=>cases st with
  | none=>exact Ř hT hl hg rfl
  | some st=>exact Ř hT hl hg rfl
 | _=>exact Ř hT hl hg rfl
theorem tn {l:List V}{i:Int}{x:V} (h:idx l i=some x) (hn:l.length<=dj):-(2 ^ 63)<=i/\i<2 ^ 63/\∃j,seqIndex? i l.length=some j/\l[j]? =some x:=by
 have hl:l.length<=10000000:=hn
 delta idx at h
 split at h
 ·rename_i h0
  obtain ⟨zg,_⟩:=List.getElem?_eq_some_iff.mp h
  refine ⟨by lia,by lia,_,seqIndex_of h0 (by lia),h⟩
 ·split at h
  ·refine ⟨by lia,by lia,_,seqIndex_neg (by lia) (by lia),h⟩
  ·exact nomatch h
theorem vp {a:UN}{is:List Uo}{k:Nat}{xs:List V}{i:Int}{t:ķ}{x:V}{N:Nat}{Q:Uo->Um->Prop} (ha:s.heap.get? a=some (fh is k)) (hr:LR s.heap m N xs is) (hn:xs.length<=dj) (hx:idx xs i=some x)
 (q:∀u,VR s.heap m N x u->Q u s):UC (UG W.prog W.w) A (YJ (.ref a) (.int i t)) Q Er s:=by
 have hl:s.heap.IsList a is.toArray:=⟨_,ha,rfl,k,rfl⟩
 obtain ⟨h1,h2,j,hj,hg⟩:=tn hx hn
 refine aN (hr.get hg) λu e r=>?_
 have hlen:=hr.length
 delta seqIndex? at hj
 by_cases h0:i<0
 ·simp only [h0,if_true] at hj
  split at hj
  ·rename_i hc
   simp only [UE,decide_eq_true_eq] at hc
   injection hj with z0;subst z0
   exact wpAny_getItem_list_neg hl h0 (by simp;lia) h1 (by simp only [UL,hlen,Yc];exact e) (q u r)
  ·contradiction
 ·simp only [h0,if_false] at hj
  split at hj
  ·injection hj with z0;subst z0
   exact wpAny_getItem_list hl (by lia) h2 (by simp;exact e) (q u r)
  ·contradiction
theorem ya {a:UN}{is:List Uo}{k:Nat}{xs:List V}{i:Int}{t:ķ}{x:V}{N:Nat}{Q:Uo->Um->Prop} (ha:s.heap.get? a=some (cw is k)) (hr:LR s.heap m N xs is) (hn:xs.length<=dj) (hx:idx xs i=some x)
 (q:∀u,VR s.heap m N x u->Q u s):UC (UG W.prog W.w) A (YJ (.ref a) (.int i t)) Q Er s:=by
 obtain ⟨h1,h2,j,hj,hg⟩:=tn hx hn
 exact aN (hr.get hg) λu e r=>getItem_tuple ⟨_,ha,rfl,k,rfl⟩ h1 h2 (by exact aa UL (aa hr.length hj)) (by simpa using e) (q u r)
theorem jL {a b:UN}{is:List Uo}{k:Nat}{xs ys:List V}{vl vu vs:Uo}{lo hi st:Option Int}{Q:Uo->Um->Prop} (S:aB W m σ s.heap) (ha:s.heap.get? a=some (fh is k)) (hr:LR s.heap m σ.next xs is) (hn:xs.length<=dj)
 (hs:s.heap.IsSliceOf b vl vu vs) (pl:IsPart vl lo) (pu:IsPart vu hi) (ps:IsPart vs st) (h0:st≠some 0) (he:∀ {l:List Uo},LR s.heap m σ.next xs l->LR s.heap m σ.next ys (slicePick l.toArray lo hi st).toList) (hk:ys.length<=dj)
 (q:∀m' s',Step W d8 m σ.next s m' (σ.next+1) s'->aB W m' (σ.push (.list ys)) s'.heap->VR s'.heap m' (σ.next+1) (.ref σ.next) (.ref s.heap.objs.size)->Q (.ref s.heap.objs.size) s'):
 UC (UG W.prog W.w) A (YJ (.ref a) (.ref b)) Q Er s:=by
 refine i5 (S.newList (t:=s.toks) (he hr) hk) λm' T S' e=>wpAny_getItem_list_slice (items:=is.toArray) ⟨_,ha,rfl,k,rfl⟩ hs pl pu ps h0 ?_ ?_
 ·simpa using (q m' _ T S' (b7.mpr ⟨Uw _,(congrArg _ e.symm)⟩))
 ·exact aa UL (aa hr.length (Ut hn du))
theorem vq {name:Uz}{id:String}{pl:ä Bool}{a:UN}{is:List Uo}{k:Nat}{Q:Uo×List Uo->Um->Prop} (slot:ĸ "list" name id) (GH:Ŗ (.builtin id)=pure (.type "method_descriptor"))
 (ha:s.heap.get? a=some (fh is k)) (q:Q (.builtin id,[.ref a]) s):UC (UG W.prog W.w) A (Xj (.ref a) name pl) Q Er s:=
 Ĥ ⟨_,ha,rfl⟩ PySem.F.plainAttrs_list slot GH (λb e=>by injection e with z0;subst z0;exact i12 _ ha rfl) q
theorem vt {name:Uz}{id:String}{pl:ä Bool}{a:UN}{es:List U7}{k:Nat}{Q:Uo×List Uo->Um->Prop} (slot:ĸ "dict" name id) (GH:Ŗ (.builtin id)=pure (.type "method_descriptor"))
 (ha:s.heap.get? a=some (jD es k)) (q:Q (.builtin id,[.ref a]) s):UC (UG W.prog W.w) A (Xj (.ref a) name pl) Q Er s:=
 Ĥ ⟨_,ha,rfl⟩ PySem.F.plainAttrs_dict slot GH (λb e=>by injection e with z0;subst z0;exact i12 _ ha rfl) q
theorem Am (S:aB W m σ s.heap) {v y:V}{u x:Uo}{p:Nat×List V}{Q:Uo->Um->Prop} (h:listAt σ v=some p) (hv:VR s.heap m σ.next v u) (hy:VR s.heap m σ.next y x) (hl:p.2.length+1<=dj)
 (q:∀s',Step W d8 m σ.next s m σ.next s'->aB W m (σ.set p.1 (.list (p.2++ [y]))) s'.heap->Q .none s'):UC (UG W.prog W.w) A (call (.builtin "list.append") [u,x]) Q Er s:=by
 refine Gm (S.list h hv) λis k z1 ha hr hn hg U=>aa z1 ?_
 have hz:is.toArray.size<=VD:=by exact aa UL (aa hr.length (Ut hn du))
 exact aU (S.rU (f:=λl=>l.push x) (t:=s.toks) (ys:=p.2++ [y]) hg ha (by simpa using hr.append (.one hy)) (by simpa using hl)) λT S'=>Yq Xy ⟨_,ha,rfl⟩ Y' (Y8 _ _) (list_append _ is.toArray k x hz) ⟨ha,q _ T S'⟩
theorem An (S:aB W m σ s.heap) {v y:V}{u x:Uo}{p r:Nat×List V}{Q:Uo->Um->Prop} (h:listAt σ v=some p) (hv:VR s.heap m σ.next v u) (h':listAt σ y=some r) (hy:VR s.heap m σ.next y x) (hl:p.2.length+r.2.length<=dj)
 (q:∀s',Step W d8 m σ.next s m σ.next s'->aB W m (σ.set p.1 (.list (p.2++r.2))) s'.heap->Q .none s'):UC (UG W.prog W.w) A (call (.builtin "list.extend") [u,x]) Q Er s:=by
 refine Gm (S.list h hv) λis k z1 ha hr hn hg U=>aa z1 (Gm (S.list h' hy) λjs k' z2 hb yb u3 Ao U=>aa z2 ?_)
 have hz:is.toArray.size+js.toArray.size<=VD:=by exact w2 UL UL (w2 yb.length hr.length (aJ (Y3 _ _ _) (.a Z0 Z1) Z2 (.a (.a Z0 Z1) (.n 10000000)) (.a (.n 10000000) Z2) (Uq hl du) rfl))
 exact aU (S.rU (f:=λl=>l++js.toArray) (t:=s.toks) (ys:=p.2++r.2) hg ha (by simpa using hr.append yb) (by simpa using hl)) λT S'=>Yq Zk ⟨_,ha,rfl⟩ PySem.F.entry_list_extend (PySem.F.args_list_extend_2 _ _) (AutoSeq1.list_extend_list_list_0 _ is.toArray k _ js.toArray k' (extend_door hz) (aJ (Y3 _ _ _) Z0 Z1 (.a Z0 Z2) Z1 hz rfl) (aJ (Y3 _ _ _) (.a Z0 Z1) (.s Z2) (.a Z0 Z1) Z2 hz rfl)) (fc ha hb (q _ T S'))
theorem JQ (S:aB W m σ s.heap) {v y:V}{u:Uo}{p:Nat×List V}{Q:Uo->Um->Prop} (h:listAt σ v=some p) (hv:VR s.heap m σ.next v u) (hy:p.2.getLast? =some y)
 (q:∀s' x,Step W d8 m σ.next s m σ.next s'->aB W m (σ.set p.1 (.list p.2.dropLast)) s'.heap->VR s'.heap m σ.next y x->Q x s'):UC (UG W.prog W.w) A (call (.builtin "list.pop") [u]) Q Er s:=by
 refine Gm (S.list h hv) λis k z1 ha hr hn hg U=>aa z1 ?_
 have hz:is.toArray.size<=VD:=by exact aa UL (aa hr.length (Ut hn du))
 refine aN (hr.last hy) λx hx Rb=>?_
 have e:((is.toArray).eraseIdxIfInBounds (is.toArray.size - 1)).toList=is.dropLast:=by
  refine w2 (YS ..) Yd (aa UL ?_)
  simp only [List.eraseIdx_eq_take_drop_succ]
  exact aa (List.drop_of_length_le (by lia)) (U6 _)
 refine aU (S.rU (f:=λl=>l.eraseIdxIfInBounds (is.toArray.size - 1)) (t:=s.toks) (ys:=p.2.dropLast) hg ha (aa e hr.dropLast) (aa List.length_dropLast (aJ (Y2 _ _) Z0 (.n 10000000) (.a Z1 Z0) (.a (.n 10000000) Z1) (Uq hn (š _ _)) rfl))) λT S'=>Yq ZH ⟨_,ha,rfl⟩ PySem.F.entry_list_pop (PySem.F.args_list_pop_1 _) (MeetsSeq.list_pop_last _ is.toArray k x (by simpa [Zx] using hx) hz) ⟨ha,q _ x T S' (T.vr Rb)⟩
theorem yc (S:aB W m σ s.heap) {v y:V}{u x:Uo}{p r:Nat×List V}{Q:Uo->Um->Prop} (h:listAt σ v=some p) (hv:VR s.heap m σ.next v u) (h':listAt σ y=some r) (hy:VR s.heap m σ.next y x) (hl:(p.2.length+r.2.length)<=dj)
 (q:∀m' s' w,Step W d8 m σ.next s m' (σ.next+1) s'->aB W m' (σ.push (.list (p.2++r.2))) s'.heap->VR s'.heap m' (σ.next+1) (.ref σ.next) w->Q w s'):UC (UG W.prog W.w) A (ù .Add u x) Q Er s:=by
 refine Gm (S.list h hv) λis k z1 ha hr hn hg U=>aa z1 (Gm (S.list h' hy) λjs k' z2 hb yb u3 Ao U=>aa z2 ?_)
 have hz:is.toArray.size+js.toArray.size<=VD:=by refine w2 UL UL (w2 yb.length hr.length ?_);have:=du;exact aJ (Y3 _ _ _) (.a Z0 Z1) Z2 (.a (.a Z0 Z1) (.n 10000000)) (.a (.n 10000000) Z2) (Uq hl this) rfl
 refine i5 (S.newList (t:=s.toks) (hr.append yb) (by simpa using hl)) λm' T S' e=>P.add_list (n:=k) (n2:=k') ha hb ?_ hz
 simpa using (aR e (q m' _ _ T S' (b7.mpr ⟨Uw _,rfl⟩)))
theorem Aq (S:aB W m σ s.heap) {v y:V}{u x:Uo}{xs ys:List V}{Q:Uo->Um->Prop} (h:v.items=some xs) (hv:VR s.heap m σ.next v u) (h':y.items=some ys) (hy:VR s.heap m σ.next y x) (hl:xs.length+ys.length<=dj)
 (q:∀s' w,Step W d8 m σ.next s m σ.next s'->aB W m σ s'.heap->VR s'.heap m σ.next (V.tup (xs++ys)) w->Q w s'):UC (UG W.prog W.w) A (ù .Add u x) Q Er s:=by
 refine mA (S.tup h hv) λa is k z1 ha hr=>?_;subst z1
 refine mA (S.tup h' hy) λb js k' z2 hb yb=>?_;subst z2
 have hz:is.toArray.size+js.toArray.size<=VD:=by refine w2 UL UL (w2 yb.length hr.length ?_);have:=du;exact aJ (Y3 _ _ _) (.a Z0 Z1) Z2 (.a (.a Z0 Z1) (.n 10000000)) (.a (.n 10000000) Z2) (Uq hl this) rfl
 replace hv:=(d6 h)▸hv
 replace hy:=(d6 h')▸hy
 by_cases e1:is=[]
 ·subst e1
  have hx:xs=[]:=by cases xs with
   | nil=>rfl
   | cons _ _=>have:=hr.length;simp at this
  exact Õ ⟨_,ha,rfl⟩ ⟨_,hb,rfl⟩ Zt É XT XK (Xz _ _) (tuple_addW0 a b _ js.toArray k k' none none #[] #[] (by rfl)) (fc ha hb (q _ _ .refl S (aa hx hy)))
 ·by_cases e2:js=[]
  ·subst e2
   have hx:ys=[]:=by cases ys with
    | nil=>rfl
    | cons _ _=>have:=yb.length;simp at this
   exact Õ ⟨_,ha,rfl⟩ ⟨_,hb,rfl⟩ Zt É XT XK (Xz _ _) (tuple_addW1 a b is.toArray _ k k' none none #[] #[] (by simpa using e1) (by rfl)) (fc ha hb (q _ _ .refl S (aa hx (aa (U6 ..) hv))))
  ·refine eg (S.oW (t:=s.toks) (hr.append yb)) λT S' r=>Õ ⟨_,ha,rfl⟩ ⟨_,hb,rfl⟩ Zt É XT XK (Xz _ _) (tuple_addW2 a b is.toArray js.toArray k k' none none #[] #[] (by simpa using e1) (by simpa using e2) hz) (fc ha hb ?_)
   simpa using (q _ _ T S' r)
set_option tactic.hygienic true in
theorem JS (S:aB W m σ s.heap) (hb:Lv W.base VM) {v:V}{u:Uo}{n:Nat}{Q:Uo->Um->Prop} (h:i9 σ v=some n) (hv:VR s.heap m σ.next v u) (hz:n<=dj)
 (q:∀t t',Q (.int n t) {s with toks:=t'}):UC (UG W.prog W.w) A (call (.builtin "len") [u]) Q Er s:=by
 have hn:(n:Int)<2 ^ 63:=by have:n<=10000000:=hz;lia
 have Dd:∀ {xs:List V},v.items=some xs->n=xs.length->UC (UG W.prog W.w) A (call (.builtin "len") [u]) Q Er s:=λ{xs} h e=>by
  refine mA (S.tup h hv) λa is k z1 ha hr=>aa z1 ?_
  subst e
  exact Ŋ (items:=is.toArray) ⟨_,ha,rfl,k,rfl⟩ (by exact aa UL (aa hr.length hn)) (aa UL (aa hr.length (q (s.toks+1) (s.toks+1+1))))
 clear hz;cases v with
 | ref a=>
  refine (EW h).elim (λh=>aN h λl hg z=>?_) λh=>aN h λd hg z=>?_
  ·clear Dd;subst z
   exact qc (S.list (v:=.ref a) (p:=(a,l)) (aZ hg) hv) λis k z2 ha hr U=>aa z2 (ŋ (items:=is.toArray) ⟨_,ha,rfl,k,rfl⟩ (by exact aa UL (aa hr.length hn)) (aa UL (aa hr.length (q (s.toks+1) (s.toks+1+1)))))
  ·clear Dd;clear h;subst z
   refine eg (S.dict hb (v:=.ref a) (p:=(a,d)) (dt hg) hv) λz3 D' U=>aa z3 (eQ D'.ex λes k hd uT=>Zq kind_len plain_len entry_len (args_len1 _) ?_)
   refine Uk (m:=callSpecial? (.ref (m.ad a)) (U8 "__len__")) (Vl (name:=U8 "__len__") D'.typeIs ZI
    (UU ZI D'.typeIs PySem.F.entry_dict_len ?_ (PySem.F.args_dict_len_1 _)))
   show UC _ _ (dictSize (m.ad a)>>=_) _ _ s
   refine Uk (Uk (VO hd rfl (Us (Uk (wpAny_pendingCount_other D'.j4 (ł (aa UL (aa uT.length (Uk (UH (Us ?_)))))))))))
   show UC _ _ (if ((d.length:Nat):Int)>=2 ^ 63 then _ else _) _ _ _
   exact aa (if_neg (by lia)) (Uk (wpAny_mkInt (Us (i12 _ rfl (q _ _)))))
 | nil=>exact Dd (xs:=[]) rfl (by replace h:=Uu h;exact h.symm)
 | cons x y=>
  exact (Option.bind_eq_some_iff.mp h).elim λxs h=>Dd h.1 (Uu (wA h.2).2).symm
 | none=>cases h
 | bool _=>cases h
 | int _=>cases h
 | str _=>cases h
end
end
end Mine.Internal
namespace Mine.Internal
noncomputable section
open PySem PySem.W PyProof.Rows PySem.SeqAt
section
variable {W:Wd}{D:Fn->Option (List Nm×Ss)}{m:Mem}{σ:St}{s:Um}{A:UO}{Er:Uo->Um->Prop}{N:Nat}{h:U1}
theorem qv {x y:V}{d:Wb} (e:eE (.cons x y)=some d):∃p r,eE x=some p/\eE y=some (.tuple r)/\d=.tuple (p::r):=by
 have key:∀a b:Option Wb,(match a,b with | some p,some (.tuple r)=>some (PyData.tuple (p::r)) | _,_=>none)=some d->∃p r,a=some p/\b=some (.tuple r)/\d=.tuple (p::r):=λa b h=>by
  cases a with
  | none=>exact fg h
  | some p=>cases b with
   | none=>exact fg h
   | some q=>cases q with
    | tuple r=>exact i6 p r rfl rfl (Uu h).symm
    | _=>exact fg h
 exact key _ _ e
mutual
theorem fz:∀ {x:V}{d:Wb}{u:Uo},eE x=some d->VR h m N x u->∃as,ú h u d as
 | .none,d,u,e,r=>by injection e with z0;subst z0;exact aa (eV.mp r) ⟨_,.none⟩
 | .bool b,d,u,e,r=>by injection e with z0;subst z0;exact aa (dS.mp r) ⟨_,.bool b⟩
 | .int i,d,u,e,r=>by injection e with z0;subst z0;exact bb (bx.mp r) λt z1=>aa z1 ⟨_,.int i t⟩
 | .str x,d,u,e,r=>by injection e with z0;subst z0;exact bb (cj.mp r) λt z2=>aa z2 ⟨_,.str _ t⟩
 | .nil,d,u,e,r=>by
  injection e with z0;subst z0
  exact eQ r λa k z3 g=>aa z3 ⟨_,.tuple g.get rfl rfl .nil⟩
 | .cons x y,d,u,e,r=>by
  exact eh (qv e) λp q e1 e2 z4=>aa z4 (zo r λa k i rs z5 g h1 h2=>aa z5 (bb (fz e1 h1) λas ra=>bb (Ar e2 h2) λbs rb=>⟨_,.tuple g.get rfl rfl (.cons ra rb)⟩))
 | .ref _,d,u,e,r=>by contradiction
theorem Ar:∀ {x:V}{ds:List Wb}{us:List Uo},eE x=some (.tuple ds)->TR h m N x us->∃as,ReadsAll h us ds as
 | .nil,ds,us,e,r=>by cases e;exact aa r ⟨_,.nil⟩
 | .cons x y,ds,us,e,r=>by
  refine eh (qv e) λp q e1 e2 e3=>?_
  clear e;injection e3 with z0;subst z0
  exact eh r λi rs z6 h1 h2=>aa z6 (bb (fz e1 h1) λas ra=>bb (Ar e2 h2) λbs rb=>⟨_,.cons ra rb⟩)
 | .none,ds,us,e,r=>r.elim
 | .bool _,ds,us,e,r=>by simp only [TR] at r
 | .int _,ds,us,e,r=>by simp only [TR] at r
 | .str _,ds,us,e,r=>by simp only [TR] at r
 | .ref _,ds,us,e,r=>by simp only [TR] at r
end
theorem As {α β γ:Type}{a:Option α}{b:Option β}{f:α->β->Option γ}{d:γ} (h:(match a,b with | some p,some q=>f p q | _,_=>none)=some d):∃p q,a=some p/\b=some q/\f p q=some d:=by
 cases a with
 | none=>exact fg h
 | some p=>cases b with
  | none=>exact fg h
  | some q=>exact i6 p q rfl rfl h
set_option smartUnfolding false in
theorem yd {f:V->Option Wb}{x:V}{y:List V}{d:List Wb} (e:gJ f (x::y)=some d):∃p r,f x=some p/\gJ f y=some r/\d=p::r:=
 eh (As (a:=f x) (b:=gJ f y) (f:=λp q=>some (p::q)) e) λp r a b c=>i6 p r a b (Uu c).symm
theorem vw {f:V->Option Wb} (H:∀ {x:V}{d:Wb}{u:Uo},f x=some d->VR h m N x u->∃as,ú h u d as):
 ∀ {l:List V}{ds:List Wb}{us:List Uo},gJ f l=some ds->LR h m N l us->∃as,ReadsAll h us ds as:=by
 intro z9;induction z9 with
 | nil=>intro ds us e r;injection e with z0;subst z0;exact aa r ⟨_,.nil⟩
 | cons x y ih=>
  intro ds us e r
  exact eh (yd e) λp q e1 e2 z1=>aa z1 (eh r λi rs z2 h1 h2=>aa z2 (bb (H e1 h1) λas ra=>bb (ih e2 h2) λbs rb=>⟨_,.cons ra rb⟩))
set_option tactic.hygienic true in
theorem kS (S:aB W m σ s.heap):∀(n:Nat) {x:V}{d:Wb}{u:Uo},ew σ n x=some d->VR s.heap m σ.next x u->∃as,ú s.heap u d as
 | 0,x,d,u,e,r=>by
  have e':eE x=some d:=by cases x<;>exact e
  exact fz e' r
 | n+1,.ref a,d,u,e,r=>by
  exact eh (Jd e) λl ds hg e z=>aa z (qc (S.list (v:=.ref a) (p:=(a,l)) (aZ hg) r) λis k z2 ha hr U=>aa z2 (bb (vw (kS S n) e hr) λas ra=>⟨_,.list ha rfl rfl ra⟩))
 | n+1,.none,d,u,e,r=>fz (e) r
 | n+1,.bool _,d,u,e,r=>fz (e) r
 | n+1,.int _,d,u,e,r=>fz (e) r
 | n+1,.str _,d,u,e,r=>fz (e) r
 | n+1,.nil,d,u,e,r=>fz (e) r
 | n+1,.cons _ _,d,u,e,r=>fz (e) r
theorem mM {p:Wb} (h:kH p=true):p.canLay0=true/\p.depth<=20:=by
 simp only [kH,UE,decide_eq_true_eq] at h;exact h
set_option smartUnfolding false in
theorem rV {p q:Option Wb}{r:Bool} (e:wu p q=some r):∃x y,p=some x/\q=some y/\x.canLay0=true/\y.canLay0=true/\x.depth<=20/\y.depth<=20/\r=WN x y:=
 eh (As (a:=p) (b:=q) (f:=M6) e) λx y a b c=>aU (lG c) λc1 c2=>aU (fK c1) λc d=>QR x y a b (mM c).1 (mM d).1 (mM c).2 (mM d).2 (Uu c2).symm
theorem JU {x y:V}{r:Bool}{u v:Uo} (e:wu (eE x) (eE y)=some r) (hu:A.units+25<VN) (hx:VR s.heap m N x u) (hy:VR s.heap m N y v):EqAt A s u v r:=by
 exact IZ (rV e) λp q e1 e2 c1 c2 d1 d2 z1=>aa z1 (bb (fz e1 hx) λas ra=>bb (fz e2 hy) λbs rb=>eqAt_reads _ _ _ _ _ _ _ _ ra rb c1 c2 (aJ (Y3 _ _ _) (.s (.a Z0 Z1)) (.n 9900) (.a (.a (.s (.a Z0 (.n 25))) Z2) Z1) (.a (.a (.n 9900) (.n 20)) Z2) (Uq (Uq hu d1) (Wu _ _)) rfl))
theorem Au {d:List (V×V)}:∀ {x:List (V×V)}{r:Bool},uQ d x=some r->(x=[]/\r=true)\/∃p q,x=p::q/\keyOk d p.1=true/\((ag d p.1=none/\r=false)\/∃v b,ag d p.1=some v/\wu (eE p.2) (eE v)=some b/\((b=true/\uQ d q=some r)\/(b=false/\r=false))):=by
 intro z9;induction z9 with
 | nil=>intro r e;injection e with z0;subst z0;exact .inl ⟨rfl,rfl⟩
 | cons p q ih=>
  intro r e
  right
  dsimp only [uQ] at e
  split at e
  ·rename_i hk
   refine i6 p q rfl hk ?_
   cases hd:ag d p.1 with
   | none=>rw [hd] at e;injection e with z0;subst z0;exact .inl ⟨rfl,rfl⟩
   | some v=>
    replace e:=hd▸e
    right
    cases hb:wu (eE p.2) (eE v) with
    | none=>simp only [hb] at e;contradiction
    | some b=>
     simp only [hb] at e
     refine i6 v b rfl hb ?_
     clear hb;cases b with
     | true=>exact .inl ⟨rfl,e⟩
     | false=>injection e with z0;subst z0;exact .inr ⟨rfl,rfl⟩
  ·contradiction
theorem DR.drop {w:VB}:∀ {d:List (V×V)}{es:List U7} (n:Nat),DR w h m N d es->DR w h m N (d.drop n) (es.drop n):=by
 intro xs;induction xs with
 | nil=>intro l n e;subst e;cases n<;>rfl
 | cons x xs ih=>
  intro l n e
  refine eh e λu r z1 p q=>?_;clear e;subst z1
  cases n with
  | zero=>exact i6 u r rfl p q
  | succ n=>exact ih n q
inductive SP (A:UO) (w:VB) (m:Mem) (N:Nat) (s:Um) (es nO:List U7) (y xs:List (V×V)) (r:Bool) (z:Nat):Prop
 | no (e:U7) (k:V) (he:es.toArray[z]? =some e) (hh:e.hash=kh w k) (hk:keyOk y k=true) (vk:VR s.heap m N k e.key) (hj:(y.findIdx? λp=>decide (p.1=k))=none) (hr:r=false)
 | yes (e:U7) (k:V) (he:es.toArray[z]? =some e) (hh:e.hash=kh w k) (hk:keyOk y k=true) (vk:VR s.heap m N k e.key) (j:Nat) (e':U7) (b:Bool) (hj:(y.findIdx? λp=>decide (p.1=k))=some j) (wK:nO.toArray[j]? =some e') (eq:EqAt A s e.val e'.val b)
  (hb:(b=true/\uQ y (xs.drop (z+1))=some r)\/(b=false/\r=false))
theorem Nu {w:VB}{es nO:List U7}{x y:List (V×V)}{r:Bool}{z:Nat} (Ip:DR w s.heap m N x es) (Iq:DR w s.heap m N y nO) (hu:A.units+25<VN) (hz:z<x.length) (h:uQ y (x.drop z)=some r):SP A w m N s es nO y x r z:=by
 refine za (Ip.get (U0 hz)) λe he hh JV Nv=>?_
 replace h:=(Zz hz)▸h
 refine eh ((Au h).resolve_left (λhz=>nomatch hz.1)) λp q' Rc hk Fp=>?_
 clear h;cases Rc
 have he:es.toArray[z]? =some e:=(List.getElem?_toArray.trans (he))
 have Dc:=oU (d:=y) (y:=x[z].1)
 cases hj:y.findIdx? λp=>decide (p.1=x[z].1) with
 | none=>
  replace Dc:=hj▸Dc
  refine .no e _ he hh hk JV hj ?_
  rcases Fp with ⟨_,rfl⟩ | ⟨v,b,hv,_⟩
  ·rfl
  ·rw [Dc] at hv;contradiction
 | some j=>
  refine bb (List.findIdx?_eq_some_iff_getElem.mp hj) λNw U=>?_
  have PG:=U0 Nw
  refine za (Iq.get PG) λe' wK U U JW=>?_
  rw [hj,Ï,PG] at Dc
  rcases Fp with ⟨hn,_⟩ | ⟨v,b,hv,Av,hc⟩
  ·rw [Dc] at hn;contradiction
  ·rw [Dc] at hv;injection hv with z0;subst z0
   exact .yes e _ he hh hk JV j e' b hj ((List.getElem?_toArray.trans (wK))) (JU Av hu Nv JW) hc
inductive SI (s:Um) (n:Nat) (y x:List (V×V)) (r:Bool) (rest:List Nat) (q:Option Bool×Unit) (s':Um):Prop
 | mk (i:Nat) (hs:s'=s) (hq:q=(none,())) (hr:rest=Wx i (n - i)) (hi:i<=n) (h:uQ y (x.drop i)=some r)
theorem Ny {z i n:Nat}{rest:List Nat} (h:z::rest=Wx i (n - i)):z=i/\i<n/\rest=Wx (i+1) (n - (i+1)):=by
 refine (Nat.lt_or_ge i n).elim (λhl=>?_) λhl=>?_
 ·rw [show n - i=(n - (i+1))+1 by lia,List.range'_succ] at h
  injection h with h1 h2
  exact fc h1 hl h2
 ·rw [Nat.sub_eq_zero_of_le hl] at h;contradiction
end
def wL (W:Wd) (m:Mem) (s:UY) (A:VV) (Er:Ve->UY->Prop) (N:Nat) (nm:String) (a:Ws) (b:Ws) (x:List (V×V)) (y:List (V×V)) (r:Bool) (Q:Bool->UY->Prop):Prop:=∀(Da:DictAt W.w m N s.heap a x) (Db:DictAt W.w m N s.heap b y) (hu:A.units+25<VN) (hr:if x.length=y.length then uQ y x=some r else r=false) (q:Q r s),UC (UG W.prog W.w) A (Xu nm a b) Q Er s
noncomputable abbrev wM:=Wd×Mem×UY×VV×(Ve->UY->Prop)×Nat×String×Ws×Ws×(List (V×V))×(List (V×V))×Bool×(Bool->UY->Prop)
def wN (c:wM):Prop:=wL c.1 c.2.1 c.2.2.1 c.2.2.2.1 c.2.2.2.2.1 c.2.2.2.2.2.1 c.2.2.2.2.2.2.1 c.2.2.2.2.2.2.2.1 c.2.2.2.2.2.2.2.2.1 c.2.2.2.2.2.2.2.2.2.1 c.2.2.2.2.2.2.2.2.2.2.1 c.2.2.2.2.2.2.2.2.2.2.2.1 c.2.2.2.2.2.2.2.2.2.2.2.2
noncomputable def ea:wM:=ep (⟨default,Ş 1,default,default,λU=>0,λU=>0,λU=>false⟩,⟨λU=>0,λU=>0,λU=>none,λU=>false⟩,{},ZR,(λU U=>True),0,"",0,0,[],[],true,(λU U=>True)) wN
namespace Aw
@[irreducible] def W:Wd:=ea.1
@[irreducible] def m:Mem:=ea.2.1
@[irreducible] def s:UY:=ea.2.2.1
@[irreducible] def A:VV:=ea.2.2.2.1
@[irreducible] def Er:Ve->UY->Prop:=ea.2.2.2.2.1
@[irreducible] def N:Nat:=ea.2.2.2.2.2.1
@[irreducible] def nm:String:=ea.2.2.2.2.2.2.1
@[irreducible] def a:Ws:=ea.2.2.2.2.2.2.2.1
@[irreducible] def b:Ws:=ea.2.2.2.2.2.2.2.2.1
@[irreducible] def x:List (V×V):=ea.2.2.2.2.2.2.2.2.2.1
@[irreducible] def y:List (V×V):=ea.2.2.2.2.2.2.2.2.2.2.1
@[irreducible] def r:Bool:=ea.2.2.2.2.2.2.2.2.2.2.2.1
@[irreducible] def Q:Bool->UY->Prop:=ea.2.2.2.2.2.2.2.2.2.2.2.2
theorem u2:wL W m s A Er N nm a b x y r Q:=by
 refine λDa Db hu hr q=>eQ Da.ex λes k ha Ip=>eQ Db.ex λnO k' hb Iq=>?_
 have sz:(es.toArray.size !=nO.toArray.size)=true↔¬x.length=y.length:=by refine w2 UL UL (w2 Iq.length Ip.length ?_);simp
 delta Xu Œ
 refine w2 (if_neg (show¬(a==VM)=true by exact aa Da.j4 YC)) (if_neg (show¬(b==VM)=true by exact aa Db.j4 YC)) (Uk (Us (Uk (Us (Uk (VO ha rfl (Uk (VO hb rfl ?_))))))))
 by_cases hsz:x.length=y.length
 case neg=>
  replace hr:=(if_neg hsz)▸hr
  exact aa (if_pos (sz.mpr hsz)) (Uk (VQ (Us (aR hr q))))
 case pos=>
  replace hr:=(if_pos hsz)▸hr
  refine aa (if_neg λh=>sz.mp h hsz) (Uk (Ń ha rfl (Uk (aa (ą ..) ?_))))
  simp only [Ą,Nat.div_one]
  refine Ye _ (SI s es.length y x r) _ ?_ ?_ _ _ ⟨0,rfl,rfl,rfl,U3 _,hr⟩
  ·intro z rest q' s' h
   cases h with | mk i hs hq hr hi h=>
   have t:=Ny hr
   subst hs hq
   have t:=Nu (A:=A) Ip Iq hu (t.1▸aR Ip.length t.2.1) (t.1▸h)
   refine Uk (VO ha rfl ?_)
   cases t with
   | no e k' he hh hk vk hj yb=>
    exact aa he (Uk (UH (Uk (hh▸gB (aJ (Y1 _) (.s (.a Z0 (.n 5))) (.n 9900) (.s (.a Z0 (.n 25))) (.n 9900) hu rfl) hb Iq Db.pS Db.vm hk vk (aa hj (Us (Us (Us (aR yb q)))))))))
   | yes e k' he hh hk vk j e' b' hj wK eq Av=>
    refine aa he (Uk (UH (Uk (aa hh (gB (aJ (Y1 _) (.s (.a Z0 (.n 5))) (.n 9900) (.s (.a Z0 (.n 25))) (.n 9900) hu rfl) hb Iq Db.pS Db.vm hk vk (aa hj (Uk (VO hb rfl (aa wK (UH (eq W.prog W.w _ _ ?_)))))))))))
    rcases Av with ⟨rfl,h'⟩ | ⟨rfl,h'⟩
    ·exact Uk (Ń ha rfl (aa (if_neg (by simp)) (Us ⟨i+1,rfl,rfl,t.2.2,t.2.1,aR t.1 h'⟩)))
    ·exact Us (Us (aR h' q))
  ·intro q' s' h
   cases h with | mk i hs hq yb hi h=>
   subst hs hq
   rw [(Ya hi (Nat.le_of_sub_eq_zero (by simpa using (congrArg VA yb).symm))),Ip.length,List.drop_length] at h
   injection h with z0;exact aa z0 (Us q)
end Aw
section
variable {W:Wd}{D:Fn->Option (List Nm×Ss)}{m:Mem}{σ:St}{s:Um}{A:UO}{Er:Uo->Um->Prop}{N:Nat}{h:U1}
theorem nB {nm:String}{a b:UN}{x y:List (V×V)}{r:Bool}{Q:Bool->Um->Prop} (Da:DictAt W.w m N s.heap a x) (Db:DictAt W.w m N s.heap b y) (hu:A.units+25<VN) (hr:if x.length=y.length then uQ y x=some r else r=false) (q:Q r s):UC (UG W.prog W.w) A (Xu nm a b) Q Er s:=
 iK (P:=wN) (by with_unfolding_all exact Aw.u2) (W,m,s,A,Er,N,nm,a,b,x,y,r,Q) Da Db hu hr q
theorem ip {c A B:Prop} [Decidable c] (k:c) (h:A):if c then A else B:=aa (if_pos k) h
theorem Rd {c A B:Prop} [Decidable c] (k:¬c) (h:B):if c then A else B:=aa (if_neg k) h
set_option smartUnfolding false in
theorem Fq {a b:V}{r:Bool} (e:xM σ a b=some r):(∃p p',dictAt σ a=some p/\dictAt σ b=some p'/\if p.2.length=p'.2.length then uQ p'.2 p.2=some r else r=false)\/wu (ew σ 4 a) (ew σ 4 b)=some r:=by
 have key:∀z w:Option (Nat×List (V×V)),(match z,w with | some x,some y=>if x.2.length=y.2.length then (if x.1=y.1 then none else uQ y.2 x.2) else some false | _,_=>wu (ew σ 4 a) (ew σ 4 b))=some r->(∃p p',z=some p/\w=some p'/\if p.2.length=p'.2.length then uQ p'.2 p.2=some r else r=false)\/wu (ew σ 4 a) (ew σ 4 b)=some r:=λz w h=>by
  cases z with
  | none=>exact .inr h
  | some x=>cases w with
   | none=>exact .inr h
   | some y=>exact .inl (i6 x y rfl rfl ((Zm _).elim (λk=>ip k ((Zm (x.1=y.1)).elim (λj=>fg ((if_pos j).symm.trans ((if_pos k).symm.trans h))) λj=>(if_neg j).symm.trans ((if_pos k).symm.trans h))) λk=>Rd k (Uu ((if_neg k).symm.trans h)).symm))
 exact key _ _ e
theorem Nz (S:aB W m σ s.heap) (hb:Lv W.base VM) {x y:V}{u v:Uo}{r:Bool}{Q:Uo->Um->Prop} (e:xM σ x y=some r) (hx:VR s.heap m σ.next x u) (hy:VR s.heap m σ.next y v) (hu:A.units+26<VN) (q:Q (.bool r) s):
 UC (UG W.prog W.w) A (Yf .Eq u v) Q Er s:=by
 refine (Fq e).elim (λh=>eh h λp p' h1 h2 e=>?_) λe=>?_
 ·exact eg (S.dict hb h1 hx) λz1 Da U=>aa z1 (eg (S.dict hb h2 hy) λz2 Db U=>aa z2 (XH (op:=.Eq) Da.typeIs Db.typeIs ZO (UU ZO Da.typeIs PySem.F.entry_dict_eq (Uk (Us (Uk (Wq (T:="dict") Db.typeIs ZF (Uk (Us (Uk (Us (Uk (nB (r:=r) Da Db (by trivial) e (Us (i12 _ rfl ⟨(λx=>nomatch x),by simpa using q⟩)))))))))))) (PySem.F.args_dict_eq_2 _ _)) (aJ (Y1 _) (.s Z0) (.n 9900) (.s (.a Z0 (.n 26))) (.n 9900) hu rfl)))
 ·refine IZ (rV e) λp p' e1 e2 c1 c2 d1 d2 z3=>?_;subst z3
  exact bb (kS S _ e1 hx) λas ra=>bb (kS S _ e2 hy) λbs rb=>compareEq_reads ra rb c1 c2 (aJ (Y3 _ _ _) (.s (.a Z0 Z1)) (.n 9900) (.a (.a (.s (.a Z0 (.n 26))) Z2) Z1) (.a (.a (.n 9900) (.n 20)) Z2) (Uq (Uq hu d1) (Wu _ _)) rfl) q
theorem NA (S:aB W m σ s.heap) (hb:Lv W.base VM) {x y:V}{u v:Uo}{r:Bool}{Q:Uo->Um->Prop} (e:xM σ x y=some r) (hx:VR s.heap m σ.next x u) (hy:VR s.heap m σ.next y v) (hu:A.units+26<VN) (q:Q (.bool (!r)) s):
 UC (UG W.prog W.w) A (Yf .NotEq u v) Q Er s:=by
 refine (Fq e).elim (λh=>eh h λp p' h1 h2 e=>?_) λe=>?_
 ·exact eg (S.dict hb h1 hx) λz1 Da U=>aa z1 (eg (S.dict hb h2 hy) λz2 Db U=>aa z2 (XH (op:=.NotEq) Da.typeIs Db.typeIs ZN (UU ZN Da.typeIs PySem.F.entry_dict_ne (Uk (Us (Uk (Wq (T:="dict") Db.typeIs ZF (Uk (Us (Uk (Us (Uk (nB (r:=r) Da Db (by trivial) e (Us (i12 _ rfl ⟨(λx=>nomatch x),by simpa using q⟩)))))))))))) (PySem.F.args_dict_ne_2 _ _)) (aJ (Y1 _) (.s Z0) (.n 9900) (.s (.a Z0 (.n 26))) (.n 9900) hu rfl)))
 ·refine IZ (rV e) λp p' e1 e2 c1 c2 d1 d2 z3=>?_;subst z3
  exact bb (kS S _ e1 hx) λas ra=>bb (kS S _ e2 hy) λbs rb=>compareNe_reads ra rb c1 c2 (aJ (Y3 _ _ _) (.s (.a Z0 Z1)) (.n 9900) (.a (.a (.s (.a Z0 (.n 26))) Z2) Z1) (.a (.a (.n 9900) (.n 20)) Z2) (Uq (Uq hu d1) (Wu _ _)) rfl) q
noncomputable def Fs (h:U1) (d:Wb) (v:Uo):Bool:=@decide (∃p as,p.canLay0=true/\ú h v p as/\WN p d=true) (XE _)
theorem eOf_eq {d p:Wb}{v:Uo}{as:List UN} (hc:p.canLay0=true) (r:ú h v p as):Fs h d v=WN p d:=by
 by_cases e:WN p d=true
 ·exact aa e (@decide_eq_true _ (XE _) (i6 p as hc r e))
 ·rw [í] at e
  refine aa e (@decide_eq_false _ (XE _) ?_)
  rintro ⟨p',PH,CF,r',e'⟩
  have:=Reads.unique _ _ _ _ _ hc r r'
  clear r' CF PH;subst this;rw [e] at e';exact nomatch e'
theorem GI {d:Wb}:∀ {ds:List Wb}{us:List Uo}{as:List UN},ReadsAll h us ds as->ds.all kH=true->us.any (Fs h d)=ds.any (λy=>WN y d)/\∀u∈us,∃p as,p.canLay0=true/\p.depth<=20/\ú h u p as:=by
 intro z9;induction z9 with
 | nil=>intro us as r U;cases r;exact ⟨rfl,λu hu=>nomatch hu⟩
 | cons p ds ih=>
  intro us as r hf
  cases r with
  | cons r1 r2=>
   rw [List.all_cons,UE] at hf
   refine aU (mM hf.1) λc1 c2=>aU (ih r2 hf.2) λi1 i2=>⟨(List.any_cons.trans (w2 i1 (eOf_eq c1 r1) rfl)),λu hu=>?_⟩
   rcases List.mem_cons.mp hu with rfl | hu
   ·exact i6 p _ c1 c2 r1
   ·exact i2 u hu
set_option smartUnfolding false in
theorem tq {l:Option (List Wb)}{x:Option Wb}{r:Bool} (e:rE l x=some r):∃ds d,l=some ds/\x=some d/\ds.all kH=true/\kH d=true/\r=ds.any λy=>WN y d:=
 eh (As (a:=l) (b:=x) (f:=λl x=>if l.all kH&&kH x then some (l.any λy=>WN y x) else none) e) λds d a b c=>aU (lG c) λc1 c2=>Pl ds d a b (fK c1).1 (fK c1).2 (Uu c2).symm
theorem Ft {is:List Uo}{ds:List Wb}{d:Wb}{u:Uo}{as bs:List UN}{r:Bool} (ra:ReadsAll s.heap is ds as) (rb:ú s.heap u d bs) (h4:ds.all kH=true) (h5:kH d=true) (h6:r=ds.any λy=>WN y d) (hu:A.units+26<VN):
 (∀z,z∈is.toArray->EqAt A.in1 s z u (Fs s.heap d z))/\is.toArray.any (Fs s.heap d)=r:=
 have i:=GI (d:=d) ra h4
 have c:=mM h5
 ⟨λz hz=>(i.2 z (List.mem_toArray.mp hz)).elim λp h=>h.elim λPH h=>by
  rw [eOf_eq h.1 h.2.2];exact eqAt_reads _ _ _ _ _ _ _ _ h.2.2 rb h.1 c.1 (by have:=h.2.1;exact aJ (Y3 _ _ _) (.s (.a (.s Z0) Z1)) (.n 9900) (.a (.a (.s (.a Z0 (.n 26))) Z2) Z1) (.a (.a (.n 9900) (.n 20)) Z2) (Uq (Uq hu c.2) (WT _ _)) rfl),by rw [h6,← i.1];exact List.any_toArray⟩
set_option tactic.hygienic true in
theorem JX (S:aB W m σ s.heap) (hb:Lv W.base VM) {x c:V}{u v:Uo}{r neg:Bool}{Q:Uo->Um->Prop} (e:isin σ x c=some r) (hx:VR s.heap m σ.next x u) (hc:VR s.heap m σ.next c v) (hu:A.units+26<VN)
 (q:∀t,Q (.bool (if neg then !r else r)) {s with toks:=t}):UC (UG W.prog W.w) A (Yf (if neg then .NotIn else .In) u v) Q Er s:=by
 have q0:Q (.bool (if neg then !r else r)) s:=q s.toks
 have tup:∀ {l:List V},c.items=some l->rE (gJ eE l) (eE x)=some r->UC (UG W.prog W.w) A (Yf (if neg then .NotIn else .In) u v) Q Er s:=λ{l} h1 h2=>by
  refine zl (tq h2) λds d h2 h3 h4 h5 h6=>mA (S.tup h1 hc) λa is k z1 ha hr=>aa z1 ((vw fz h2 hr).elim λas ra=>(fz h3 hx).elim λbs rb=>?_)
  have i:=Ft ra rb h4 h5 h6 hu
  cases neg with
  | true=>exact notIn_tupleAt (Fs s.heap d) ⟨_,ha,rfl,k,rfl⟩ i.1 (aa i.2 q0)
  | false=>exact in_tupleAt (Fs s.heap d) ⟨_,ha,rfl,k,rfl⟩ i.1 (aa i.2 q0)
 cases c with
 | ref n=>
  refine (Gv e).elim (λh=>i5 h λd hg hk z=>?_) λh=>aN h λl hg e=>?_
  ·clear h e;subst z
   ·clear tup q0
    refine eg (S.dict hb (v:=.ref n) (p:=(n,d)) (dt hg) hc) λz2 D' U=>aa z2 ?_
    cases neg with
    | true=>exact Uk (PF D' (aJ (Y1 _) (.s (.a Z0 (.n 6))) (.n 9900) (.s (.a Z0 (.n 26))) (.n 9900) hu rfl) hk hx λt=>Us (q t))
    | false=>exact Uk (PF D' (aJ (Y1 _) (.s (.a Z0 (.n 6))) (.n 9900) (.s (.a Z0 (.n 26))) (.n 9900) hu rfl) hk hx λt=>Us (q t))
  ·refine zl (tq e) λds d h2 h3 h4 h5 h6=>qc (S.list (v:=.ref n) (p:=(n,l)) (aZ hg) hc) λis k z3 ha hr U=>aa z3 ((vw (kS S 3) h2 hr).elim λas ra=>(kS S 3 h3 hx).elim λbs rb=>?_)
   have i:=Ft ra rb h4 h5 h6 hu
   cases neg with
   | true=>exact notIn_listAt (Fs s.heap d) ⟨_,ha,rfl,k,rfl⟩ i.1 (aa i.2 q0)
   | false=>exact in_listAt (Fs s.heap d) ⟨_,ha,rfl,k,rfl⟩ i.1 (aa i.2 q0)
 | nil=>exact tup rfl e
 | cons a b=>exact (Option.bind_eq_some_iff.mp e).elim λl h=>tup h.1 h.2
 | none=>contradiction
 | bool _=>contradiction
 | int _=>contradiction
 | str _=>contradiction
end
end
end Mine.Internal
namespace Mine.Internal
noncomputable section
open PySem PySem.W PyProof.Rows PySem.SeqAt
section
variable {prog:Vo}{w:VB}{s:Um}{A:UO}{Er:Uo->Um->Prop}{N:Nat}{m:Mem}
theorem intBits_64 {x:Int} (h:x.natAbs<2 ^ 64):Zr x<=64:=by
 delta Zr
 split
 ·simp
 ·rename_i h0
  have hx:x.natAbs≠0:=by
   intro e
   have:x=0:=by lia
   clear e h;subst this;exact h0 (by rfl)
  have:=(Nat.log2_lt hx).mpr h
  trivial
theorem vx (a b:List Nat):((⟨a.toArray⟩:Uz)++⟨b.toArray⟩)=⟨(a++b).toArray⟩:=by
 show Z6 _ _=_
 simp [Z6]
theorem wO {v:V}{b:Int} (h:eJ v=some b):v=.int b:=by
 cases v with
 | int i=>exact congrArg V.int (Uu h)
 | _=>exact nomatch h
theorem wQ {f:Int->Int->Option V}{x y r:V}{u v:Uo} (e:xN f x y=some r) (hx:VR s.heap m N x u) (hy:VR s.heap m N y v):
 ∃i t j t',u=.int i t/\v=.int j t'/\f i j=some r:=by
 refine aN (Option.bind_eq_some_iff.mp e) λi e1 e=>aN (Option.bind_eq_some_iff.mp e) λj e2 e=>?_
 rw [wO e1] at hx;replace hy:=(wO e2)▸hy
 exact bb (bx.mp hx) λt z1=>aa z1 (bb (bx.mp hy) λt' z2=>aa z2 (Po i t j t' rfl rfl e))
theorem rW {c:Prop} [Decidable c] {a r:V} (e:(if c then some a else none)=some r):c/\a=r:=by
 by_cases h:c
 ·rw [if_pos h] at e;exact ⟨h,Uu e⟩
 ·rw [if_neg h] at e;exact nomatch e
theorem Ax {x y r:V} (e:Gq x y=some r):(∃a b,x=.str a/\y=.str b/\(0<a.length/\0<b.length/\a.length+b.length<1000)/\.str (a++b)=r)\/xN (λx y=>some (.int (x+y))) x y=some r:=by
 cases x with
 | str a=>cases y with
  | str b=>exact .inl (i6 a b rfl rfl (rW e))
  | _=>exact nomatch e
 | _=>exact .inr e
theorem JY {op:Ik}{x y r:V}{u v:Uo}{Q:Uo->Um->Prop} (e:uY op x y=some r) (hx:VR s.heap m N x u) (hy:VR s.heap m N y v)
 (q:∀z t,VR s.heap m N r z->Q z {s with toks:=t}):UC (UG prog w) A (ù (zM op) u v) Q Er s:=by
 cases op with
 | add=>
  rcases Ax e with ⟨a,b,rfl,rfl,hc,rfl⟩ | e
  ·refine bb (cj.mp hx) λt z1=>aa z1 (bb (cj.mp hy) λt' z2=>aa z2 (P.add_str ?_))
   have h1:((⟨a.toArray⟩:Uz).length==0)=false:=by
    simp;exact Vj (aJ (Y1 _) (.s (.n 0)) Z0 (.s (.n 0)) Z0 hc.1 rfl)
   have h2:((⟨b.toArray⟩:Uz).length==0)=false:=by
    simp only [Z5,UL,beq_eq_false_iff_ne];exact Vj (aJ (Y1 _) (.s (.n 0)) Z0 (.s (.n 0)) Z0 hc.2.1 rfl)
   refine w3 h1 h2 (vx ..) ⟨?_,q _ _ (oF _ _)⟩
   simp only [Z5,UL,UA]
   exact aJ (Y2 _ _) (.a Z0 Z1) (.n 16777216) (.s (.a Z0 Z1)) (.n 1000) hc.2.2 rfl
  ·refine CT (wQ e hx hy) λi t j t' z3 z4 e=>w2 z4 z3 ?_
   have z5:=Uu e;subst z5
   exact P.add_int (q _ _ (ey _ _))
 | sub=>
  refine CT (wQ e hx hy) λi t j t' z6 z7 e=>w2 z6 z7 ?_
  have z8:=Uu e;subst z8
  exact P.sub_int (q _ _ (ey _ _))
 | mul=>
  refine CT (wQ e hx hy) λi t j t' z9 JF e=>w2 z9 JF (aU (rW e) λhc JG=>?_);subst JG
  exact P.mul_int (q _ _ (ey _ _)) (IntMulOk.of_left (intBits_64 hc.1))
 | mod=>
  refine CT (wQ e hx hy) λi t j t' JH JI e=>w2 JH JI (aU (rW e) λhc JJ=>?_);subst JJ
  exact mod_int' (Int.ne_of_gt hc) (aa (Int.fmod_eq_emod_of_nonneg _ (Int.le_of_lt hc)) (q _ _ (ey _ _)))
theorem Ay {op:Gp}{x y:V}{a b:Int}{r:Bool}{u v:Uo}{Q:Uo->Um->Prop} (e1:eJ x=some a) (e2:eJ y=some b) (e:cmpInt op a b=some r) (hx:VR s.heap m N x u) (hy:VR s.heap m N y v)
 (q:Q (.bool r) s):UC (UG prog w) A (Yf (s8 op) u v) Q Er s:=by
 rw [wO e1] at hx;rw [wO e2] at hy
 refine bb (bx.mp hx) λt z1=>aa z1 (bb (bx.mp hy) λt' z2=>aa z2 ?_)
 cases op with
 | lt=>obtain rfl:=Uu e;exact P.lt_int q
 | gt=>obtain rfl:=Uu e;exact P.gt_int q
 | le=>obtain rfl:=Uu e;exact P.le_int q
 | _=>exact nomatch e
theorem Fv {W:Wd}{σ:St} (S:aB W m σ s.heap) (hb:Lv W.base VM) {op:Gp}{x y:V}{u v:Uo}{r:Bool}{Q:Uo->Um->Prop} (e:hV σ op x y=some r) (hx:VR s.heap m σ.next x u) (hy:VR s.heap m σ.next y v) (hu:A.units+26<VN)
 (q:∀t,Q (.bool r) {s with toks:=t}):UC (UG W.prog W.w) A (Yf (s8 op) u v) Q Er s:=by
 have hint:∀ {op},((eJ x).bind λa=>(eJ y).bind λb=>cmpInt op a b)=some r->UC (UG W.prog W.w) A (Yf (s8 op) u v) Q Er s:=λ{op} e=>by
  exact aN (Option.bind_eq_some_iff.mp e) λa e1 e=>aN (Option.bind_eq_some_iff.mp e) λb e2 e=>Ay e1 e2 e hx hy (q s.toks)
 cases op with
 | eq=>exact Nz S hb e hx hy hu (q s.toks)
 | ne=>
  simp only [hV,VU] at e
  obtain ⟨r',e,rfl⟩:=e
  exact NA S hb e hx hy hu (q s.toks)
 | isin=>exact JX (neg:=false) S hb e hx hy hu q
 | gU=>
  simp only [hV,VU] at e
  obtain ⟨r',e,rfl⟩:=e
  exact JX (neg:=true) S hb e hx hy hu q
 | lt=>exact hint e
 | gt=>exact hint e
 | le=>exact hint e
theorem ye:∀k:Nat,k<10->(Uj (toString ((k:Nat):Int)))=⟨[48+k].toArray⟩
 | 0,_ | 1,_ | 2,_ | 3,_ | 4,_ | 5,_ | 6,_ | 7,_ | 8,_ | 9,_=>by rfl
 | n+10,h=>by lia
theorem GJ {k:Int}{t:ķ}{Q:Uo->Um->Prop} (h0:0<=k) (h1:k<10) (q:∀t t',Q (.str ⟨[48+k.toNat].toArray⟩ t) {s with toks:=t'}):UC (UG prog w) A (call (.type "str") [.int k t]) Q Er s:=by
 refine bb (Int.eq_ofNat_of_zero_le h0) λn z1=>?_;clear h0;subst z1
 refine P.str_of_int ?_ ?_
 ·exact Vk (Nat.log2_le_self n) (by lia)
 ·have:=q s.toks (s.toks+1)
  rw [show ((n:Int).toNat)=n from rfl] at this
  rw [← (ye n (by lia))] at this
  exact this
end
end
end Mine.Internal
namespace Mine.Internal
noncomputable section
open PySem PySem.W PyProof.Rows PySem.SeqAt
theorem Facts.big {W:Wd}{D:Fn->Option (List Nm×Ss)} (F:Facts W D):Lv W.base VM:=F.mods
theorem aB.Az {W X gK jE cA m σ s}{o:O}{d:UN}{h':U1}{tk:Nat} (T:Step W X gK jE cA m σ.next s) (S:aB W m σ s.heap) (hX:∀b,X b->¬Lv cA.heap b) (hd:¬Lv cA.heap d) (hb:¬Lv W.base d) (hl:Lv h' d) (bX:m.own d=none) (hs:Vh d s.heap h') (sZ:∀l k,s.heap.get? d≠some (cw l k)) (GK:∀l k,h'.get? d≠some (cw l k)) (hO:∀m',(∀n,n<σ.next->m'.ad n=m.ad n)->(∀a l k,TupAt h' m a l k->TupAt h' m' a l k)->OR W.w W.cls h' m' (σ.next+1) o d d):∃m',Step W d8 gK jE cA m' (σ.next+1) {s with heap:=h',toks:=tk}/\aB W m' (σ.push o) h'/\m'.ad σ.next=d/\∀b,b≠d->m'.own b=m.own b:=by
 exact za (S.Gy (o:=o) (tk:=tk) hb hb hl hl bX bX (λb p U o e=>(hs.2 b p).trans e) (λb q l k e=>sZ l k (aR (q.elim id id) e)) λm' h1 h2=>hO m' h1 λb l k e=>have n:b≠d:=λq=>GK l k (aR q e.get);⟨e.get,(h2 b n n).1.trans e.own.1,(h2 b n n).2.trans e.own.2⟩) λm' T' S' z1 z2=>⟨m',((T.wide λb=>.inl).trans (T'.wide λb q=>.inr (q.elim id id))).drop (X:=λb=>X b\/b=d) λb l q=>q.elim (λq=>hX b q l) λq=>hd (aR q l),S',z1,λb n=>z2 b n n⟩
theorem aB.adopt {W X gK jE cA m σ s}{o:O}{d:UN}{h':U1}{tk:Nat} (T:Step W X gK jE cA m σ.next s) (S:aB W m σ s.heap) (hX:∀b,X b->¬Lv cA.heap b) (hd:¬Lv cA.heap d) (hb:¬Lv W.base d) (hl:Lv h' d)
 (bX:m.own d=none) (hs:Vh d s.heap h') (sZ:∀l k,s.heap.get? d≠some (cw l k))
 (GK:∀l k,h'.get? d≠some (cw l k)) (hO:∀m',(∀n,n<σ.next->m'.ad n=m.ad n)->(∀a l k,TupAt h' m a l k->TupAt h' m' a l k)->OR W.w W.cls h' m' (σ.next+1) o d d):
 ∃m',Step W d8 gK jE cA m' (σ.next+1) {s with heap:=h',toks:=tk}/\aB W m' (σ.push o) h'/\m'.ad σ.next=d:=by
 obtain ⟨m',a,b,c,_⟩:=aB.Az T S hX hd hb hl bX hs sZ GK hO
 exact uP m' a b c
def After (W:Wd) (m:Mem) (σ:St) (s:Um) (Q:K1 V) (Q':Uo->Um->Prop):Prop:=
 ∀v σ' m' s' u,Q v σ'->Step W d8 m σ.next s m' σ'.next s'->aB W m' σ' s'.heap->VR s'.heap m' σ'.next v u->Q' u s'
def GL (W:Wd) (m:Mem) (σ:St) (s:Um) (Q:K1 (List V)) (Q':List Uo->Um->Prop):Prop:=
 ∀v σ' m' s' u,Q v σ'->Step W d8 m σ.next s m' σ'.next s'->aB W m' σ' s'.heap->LR s'.heap m' σ'.next v u->Q' u s'
def aw (W:Wd) (C:bz) (k:Nat) (e:E):Prop:=∀⦃x:Ul⦄ ⦃m:Mem⦄ ⦃σ:St⦄ ⦃s:Um⦄ ⦃env:WO⦄ ⦃l:Loc⦄ ⦃A:UO⦄ ⦃Er:Uo->Um->Prop⦄ ⦃Q:K1 V⦄ ⦃Q':Uo->Um->Prop⦄,
 dH W.has env.scope.names e x=true->aB W m σ s.heap->bK W m σ.next s.heap env l->cT k A->aK C e l σ Q->After W m σ s Q Q'->UC (UG W.prog W.w) A (WZ x env) Q' Er s
def jg (W:Wd) (C:bz) (k:Nat) (e:E):Prop:=∀⦃x:Ul⦄ ⦃m:Mem⦄ ⦃σ:St⦄ ⦃s:Um⦄ ⦃env:WO⦄ ⦃l:Loc⦄ ⦃A:UO⦄ ⦃Er:Uo->Um->Prop⦄ ⦃Q:K1 Bool⦄ ⦃Q':Bool->Um->Prop⦄,
 dH W.has env.scope.names e x=true->aB W m σ s.heap->bK W m σ.next s.heap env l->cT k A->aK C e l σ (λv σ=>aC (bc v) λb=>Q b σ)->
 (∀b σ' m' s',Q b σ'->Step W d8 m σ.next s m' σ'.next s'->aB W m' σ' s'.heap->Q' b s')->UC (UG W.prog W.w) A (Y6 x env (WZ x env)) Q' Er s
def oX (W:Wd) (C:bz) (k:Nat) (es:Es):Prop:=∀⦃xs:List Ul⦄ ⦃m:Mem⦄ ⦃σ:St⦄ ⦃s:Um⦄ ⦃env:WO⦄ ⦃l:Loc⦄ ⦃A:UO⦄ ⦃Er:Uo->Um->Prop⦄ ⦃Q:K1 (List V)⦄ ⦃Q':List Uo->Um->Prop⦄ ⦃p:V'⦄,
 f' W.has env.scope.names es xs=true->aB W m σ s.heap->bK W m σ.next s.heap env l->cT k A->iu C es l σ Q->GL W m σ s Q Q'->UC (UG W.prog W.w) A (Zg (WJ p (Vq xs env))) Q' Er s
section
variable {W:Wd}{D:Fn->Option (List Nm×Ss)}{C:bz}{k:Nat}
theorem wR {v:V}{b:Bool} (h:bc v=some b):v=.bool b:=by
 cases v with
 | bool b=>exact congrArg V.bool (Uu h)
 | _=>exact fg h
theorem yf {v:V}{b:Int} (h:eJ v=some b):v=.int b:=by
 cases v with
 | int b=>exact congrArg V.int (Uu h)
 | _=>exact fg h
theorem After.chain {m:Mem}{σ az:St}{m₁:Mem}{s aj:Um}{Q:K1 V}{Q':Uo->Um->Prop} (T:Step W d8 m σ.next s m₁ az.next aj) (h:After W m σ s Q Q'):After W m₁ az aj Q Q':=
 λv σ' m' s' u q T' S' r=>h v σ' m' s' u q (T.trans T') S' r
theorem tu (x:Nm):(x.str==("__debug__":Uz))=false:=(by decide+kernel:∀x:Nm,(x.str==("__debug__":Uz))=false) x
theorem rX (x:Nm):(x.str==("__classdict__":Uz))=false:=(by decide+kernel:∀x:Nm,(x.str==("__classdict__":Uz))=false) x
theorem AA {sc:Sc}{x:Nm} (h:zL sc x=true):sc.lookup x.str=some .local\/sc.lookup x.str=some .cell\/sc.lookup x.str=some .free:=by
 delta zL at h
 rw [VC,VC,beq_iff_eq,beq_iff_eq,beq_iff_eq] at h
 rcases h with (h | h) | h
 ·exact VT h
 ·exact Vw (VT h)
 ·exact Vw (Vw h)
theorem tv {sc:Sc}{x:Nm} (h:qi sc x=true):sc.lookup x.str=some .local\/sc.lookup x.str=some .cell:=by
 delta qi at h
 rw [VC,beq_iff_eq,beq_iff_eq] at h
 exact h
theorem AB {e:E} (h:aw W C k e) (hs:∀ {hs sc x env}{whole:ä Uo},dH hs sc e x=true->Y6 x env whole=(do let v ← whole;ZP x.pos;Zi [v] (Đ v))):jg W C k e:=by
 refine λx m σ s env l A Er Q Q' ho S R hR hw hq=>wpAny_isTrue_value (h ho S R hR hw λv σ' m' s' u q T' S' r=>aN (ai q) λb hb q=>?_) (hs ho)
 replace r:=(wR hb)▸r
 exact aa (dS.mp r) (Vs (hq _ _ _ _ q T' S'))
theorem Fw {x:Nm}:aw W C k (.nm x):=by
 exact λy m σ s env l A Er Q Q' ho S R hR hw hq=>uW (ja ho) λid pos ho=>aU (bf ho) λho hk=>aa (kO ho) (aN (ai hw) λv hv hw=>Gz R hv (AA hk) (tu x) (rX x) λu r=>hq v σ m s u hw .refl S r)
theorem De (F:Facts W D) {x:Nm}:aw W C k (.glob x):=by
 exact λy m σ s env l A Er Q Q' ho S R hR hw hq=>uW (ja ho) λid pos ho=>aU (bf ho) λho hk=>aa (kO ho) (aN (ai hw) λv hv hw=>aN (F.glob x v hv) λu hu hr=>Xs R.kind (kO hk) (ZK (mg:=F.mg) (aa R.glob (F.g.keeps S.base)) hu (hq v σ m s u hw .refl S ((hr m σ.next S.zJ λb l k e=>(S.CE b e).2 l k).mono (λa l k e=>⟨S.base _ _ e.get,e.own⟩) (λU U=>rfl) (Ux _)))) (tu x))
theorem GN {i:Int}:aw W C k (.int i):=by
 exact λy m σ s env l A Er Q Q' ho S R hR hw hq=>lk (oH ho) λc U U ho=>aa (kO ho) (Y5 (hq _ σ m _ _ hw (.toks _) S (ey _ _)))
theorem GO {i:Int}:aw W C k (.neg i):=by
 refine λy m σ s env l A Er Q Q' ho S R hR hw hq=>lk (Io ho) λop e U ho=>aU (bf ho) λh1 h2=>aa (kO h1) (lk (oH h2) λc U U h2=>aa (kO h2) (UnaryOp_ (Y5 (P.neg_int (hq _ σ m _ _ hw (.toks _) S (ey _ _))))))
theorem GP {i:List Nat}:aw W C k (.str i):=by
 exact λy m σ s env l A Er Q Q' ho S R hR hw hq=>lk (oH ho) λc U U ho=>aa (kO ho) (wpAny_Constant_str (hq _ σ m _ _ hw (.toks _) S (oF _ _)))
theorem Df:aw W C k .none:=by
 exact λy m σ s env l A Er Q Q' ho S R hR hw hq=>lk (oH ho) λc U U ho=>aa (kO ho) (Ww (hq _ σ m _ _ hw .refl S (eV.mpr rfl)))
theorem Dg {i:Bool}:aw W C k (.bool i):=by
 exact λy m σ s env l A Er Q Q' ho S R hR hw hq=>lk (oH ho) λc U U ho=>aa (kO ho) (wpAny_Constant_bool (hq _ σ m _ _ hw .refl S (dS.mpr rfl)))
theorem AD {n:Uz}{env:WO}{w:ä Uo}{x:Ul}:oI x=true->WC x n env w=w:=
 @UT (λx=>oI x=true->WC x n env w=w) x (λU U U h=>rfl) (λU U U h=>rfl) (λU U U U h=>rfl) (λU U U h=>rfl) (λU U U U h=>rfl) (λU U U U h=>rfl) (λU U U h=>rfl) (λU U U h=>rfl) (λU U U U h=>rfl) (λU U U U h=>rfl) (λU U U U U h=>rfl) (λU U U U h=>rfl) (λU U h=>rfl) (λU U h=>rfl) (λU U h=>rfl) (λU U U U h=>rfl) (λU U U U h=>ff h) (λU U U U h=>rfl) (λU U h=>rfl) (λU U U h=>rfl) (λU U U h=>rfl) (λU U U h=>rfl) (λU U h=>rfl) (λU U h=>rfl) (λU U h=>rfl) (λU U U h=>rfl) (λU U U U h=>rfl)
theorem yg {n:Uz}{env:WO}{w:ä Uo}{g a:Ul}{as:List Ul}{kw:List Ý}{p:V'}:WC (.Call g (a::as) kw p) n env w=w:=
 @UT (λg=>WC (.Call g (a::as) kw p) n env w=w) g (λU U U=>rfl) (λU U U=>rfl) (λU U U U=>rfl) (λU U U=>rfl) (λU U U U=>rfl) (λU U U U=>rfl) (λU U U=>rfl) (λU U U=>rfl) (λU U U U=>rfl) (λU U U U=>rfl) (λU U U U U=>rfl) (λU U U U=>rfl) (λU U=>rfl) (λU U=>rfl) (λU U=>rfl) (λU U U U=>rfl) (λU U U U=>rfl) (λU U U U=>rfl) (λU U=>rfl) (λU U U=>rfl) (λU U U=>rfl) (λU U U=>rfl) (λU U=>rfl) (λU U=>rfl) (λU U=>rfl) (λU U U=>rfl) (λU U U U=>rfl)
theorem lP {o:Ul} (h:lL o=true) (n:Uz) (env:WO) (w:ä Uo):WC o n env w=w:=by
 refine (Bool.or_eq_true_iff.mp h).elim (λh=>?_) λh=>?_
 ·exact AD h
 ·refine jm (Fe h) λg as kw p z1 h=>aa z1 ((Bool.or_eq_true_iff.mp h).elim (λh=>?_) λh=>?_)
  ·exact nL (qj h) λU U U z2 U=>aa z2 rfl
  ·clear z1;cases as with
   | nil=>contradiction
   | cons a as=>exact yg
theorem Dh (F:Facts W D) {e:E}{n:Nm} (he:aw W C k e):aw W C k (.attr e n):=by
 exact λy m σ s env l A Er Q Q' ho S R hR hw hq=>lk (qj ho) λo id pos ho=>eg (eX ho) λh1 hc ho=>aa (kO h1) (aa (arm_eval_Attribute ..) (aa (lP hc ..) (Uk (he ho S R hR hw λv az m₁ aj u q T aM r=>Uk (Vi (aN (ai q) λp hp q=>aU (bE q) λhf q=>aN (ai q) λz hz q=>Uk (UH (xY F aM r hp hf hz λw t hw=>Uk (wpAny_letTemporaryGo (Us (hq z az m₁ _ w q (T.tok t) aM hw)))))))))))
set_option tactic.hygienic true in
theorem GQ (F:Facts W D) {a i:E} (ha:aw W C k a) (hi:aw W C k i):aw W C k (.sub a i):=by
 refine λy m σ s env l A Er Q Q' ho S R hR hw hq=>lk (pQ ho) λo j pos ho=>eg (eX ho) λhs ho hj=>ZZ (ha ho S R hR hw λva az m₁ aj ua q T aM ra=>hi hj aM (R.step T) hR q λvi cZ m₂ bJ ui q aA aW ri=>aN (ai q) λz hz q=>?_)
 have ra:=aA.vr ra
 have hu:=(aJ (Y2 _ _) (.s (.a Z0 (.n 6))) (.n 9900) (.s (.a (.a Z0 (.m 10 Z1)) (.n 65))) (.n 9900) hR.2.2 rfl)
 have fin:∀u t,VR bJ.heap m₂ cZ.next z u->Q' u {bJ with toks:=t}:=λu t hu=>hq z cZ m₂ _ u q ((T.trans aA).tok t) aW hu
 have J0:=λu h=>fin u bJ.toks h
 have tup:va.items.bind (λl=>if l.length<=1000 then (eJ vi).bind (idx l) else UB)=some z->UC (UG W.prog W.w) A (È o j ua ui) Q' Er bJ:=λh=>by
  refine aN (Option.bind_eq_some_iff.mp h) λxs h1 h=>aU (wA h) λhl h=>aN (Option.bind_eq_some_iff.mp h) λi h3 h4=>mA (aW.tup h1 ra) λa is k z2 qw hr=>aa z2 (bb (bx.mp (aR (yf h3) ri)) λt z3=>?_);exact aa z3 (iV ⟨_,qw,rfl⟩ PySem.F.slot_tuple_getitem.lookup (ya qw hr (Ut hl ((Ui rfl))) h4 J0))
 cases va with
 | ref n=>
  refine (Jc hz).elim (λh=>aN h λl hg hz=>?_) λh=>i5 h λd hg hk hz=>?_
  ·refine aN (Option.bind_eq_some_iff.mp hz) λi h3 h4=>zl (aW.list (v:=.ref n) (p:=(n,l)) (aZ hg) ra) λis k z4 qw hr hl U=>aa z4 (bb (bx.mp (aR (yf h3) ri)) λt z5=>?_);exact aa z5 (iV ⟨_,qw,rfl⟩ PySem.F.slot_list_getitem.lookup (vp qw hr hl h4 J0))
  ·exact eg (aW.dict F.big (v:=.ref n) (p:=(n,d)) (dt hg) ra) λz6 D' U=>aa z6 (iV D'.typeIs PySem.F.slot_dict_getitem.lookup (JN D' hu hk ri hz λv t h=>fin v t h))
 | _=>exact tup hz
end
end
end Mine.Internal
namespace Mine.Internal
noncomputable section
open PySem PySem.W PyProof.Rows PySem.SeqAt
section
variable {M:Z9}{A:UO}{Er:Uo->Um->Prop}{s:Um}{env:WO}
theorem bg {f:Uo}{args:List (Bool×ä Uo)}{Q:Args->Um->Prop} (hp:args.any (·.1)=false) (h:UC M A (Zg args) (λvs s'=>Q ⟨vs,[]⟩ s') Er s):UC M A (evalArgs f true args []) Q Er s:=by
 cases args with
 | nil=>
  exact Uk (Wl h (λvs s' h'=>UH (Uk (Us (Uk (Us (Us h')))))) λU U x=>x)
 | cons x r=>
  obtain ⟨b,x⟩:=x
  cases b with
  | true=>contradiction
  | false=>exact Calls.evalArgs_plain h
theorem mN (xs:List Ul) (env:WO) {x:Ul}:notStar x=true->Vq (x::xs) env=(false,WZ x env)::Vq xs env:=
 @UT (λx=>notStar x=true->Vq (x::xs) env=(false,WZ x env)::Vq xs env) x (λU U U h=>rfl) (λU U U h=>rfl) (λU U U U h=>rfl) (λU U U h=>rfl) (λU U U U h=>rfl) (λU U U U h=>rfl) (λU U U h=>rfl) (λU U U h=>rfl) (λU U U U h=>rfl) (λU U U U h=>rfl) (λU U U U U h=>rfl) (λU U U U h=>rfl) (λU U h=>rfl) (λU U h=>rfl) (λU U h=>rfl) (λU U U U h=>rfl) (λU U U U h=>rfl) (λU U U U h=>rfl) (λU U h=>rfl) (λU U U h=>rfl) (λU U U h=>rfl) (λU U U h=>rfl) (λU U h=>ff h) (λU U h=>rfl) (λU U h=>rfl) (λU U U h=>rfl) (λU U U U h=>rfl)
theorem cB {hs:Fn->Bool}{sc:Sc}{p:V'}:∀ {es:Es}{xs:List Ul},f' hs sc es xs=true->(WJ p (Vq xs env)).any (·.1)=false
 | .nil,xs,h=>by refine aa (oK h) ?_;rfl
 | .cons _ _,[],h=>ff h
 | .cons e r,x::xs,h=>by
  refine aa (mN xs env (eX h).1) (aa (cB (es:=r) (eX h).2.2) ?_);rfl
theorem iW {hs:Fn->Bool}{sc:Sc}{e:E}{r:Es}{x:Ul}{xs:List Ul} (h:f' hs sc (.cons e r) (x::xs)=true):dH hs sc e x=true/\f' hs sc r xs=true/\Vq (x::xs) env=(false,WZ x env)::Vq xs env:=by
 exact fc ((eX h).2.1) ((eX h).2.2) (mN xs env (eX h).1)
theorem vy {q:Ul}{n:Uz}{ap p:V'}{args:List Ul}{Q:Uo->Um->Prop} (hc:lL q=true) (Ir:∀p,(WJ p (Vq args env)).any (·.1)=false) (hn:args.length<30) (hp:(ap.endLine==p.line)=true)
 (h:UC M A (WZ q env) (λov aj=>∀pl,UC M A (Xj ov n pl) (λr bJ=>UC M A (ø p r.1 r.2 (WJ p (Vq args env)) []) Q Er bJ) Er aj) Er s):
 UC M A (WZ (.Call (.Attribute q n ap) args [] p) env) Q Er s:=by
 have e:WZ (.Call (.Attribute q n ap) args [] p) env=(do
  let ov ← WC q n env (WZ q env)
  ZP ap.atName
  methodCall q n ap p env ov (args.length+([]:List Ý).length) (WJ p (Vq args env)) (backToKw p (keywordEach [] env))):=rfl
 refine aa e (aa (lP hc ..) (Uk (Wl h (λov aj h₁=>Uk (Vi ?_)) λU U x=>x)))
 have hf:methodCallForm (args.length+([]:List Ý).length) (WJ p (Vq args env)) (backToKw p (keywordEach [] env))=true:=by
  show ((WJ p (Vq args env)).all (!·.1)&&true&&decide (args.length+0+0<30))=true
  refine aa (Wo ..) (aa (UE ..) ⟨?_,decide_eq_true hn⟩)
  have:=Ir p
  rw [List.any_eq_false] at this
  refine gL YY ?_
  intro x hx
  simpa using (this x hx)
 delta methodCall
 refine aa hf (Uk (UH (Wl (h₁ _) (λr bJ jf=>Uk ?_) λU U x=>x)))
 delta ũ
 exact aa hp (Us jf)
theorem ct {f:Ul}{args:List Ul}{p:V'}{Q:Uo->Um->Prop}{id:Uz}{np:V'}
 (h:UC M A (WZ (.Name id np) env) (λv aj=>UC M A (ø p v [] (WJ p (Vq args env)) []) Q Er aj) Er s):UC M A (WZ (.Call (.Name id np) args [] p) env) Q Er s:=by
 exact Uk h
end
section
variable {W:Wd}{D:Fn->Option (List Nm×Ss)}{C:bz}{k:Nat}
theorem Fx:oX W C k .nil:=by
 intro xs m σ s env l A Er Q Q' p ho S R hR hw hq
 cases xs with
 | nil=>exact WD (hq [] σ m s [] hw .refl S rfl)
 | cons _ _=>contradiction
theorem vz {e:E}{r:Es} (he:aw W C k e) (hr:oX W C k r):oX W C k (.cons e r):=by
 intro xs m σ s env l A Er Q Q' p ho S R hR hw hq
 cases xs with
 | nil=>contradiction
 | cons x xs=>
  exact eg (iW (env:=env) ho) λh1 h2 h3=>aa h3 (Xr (he h1 S R hR hw λv az m₁ aj u q T aM ru=>hr h2 aM (R.step T) hR q λvs cZ m₂ bJ us q aA aW rs=>hq (v::vs) cZ m₂ bJ (u::us) q (T.trans aA) aW ⟨u,us,rfl,aA.vr ru,rs⟩))
theorem qx (F:Facts W D) {m:Mem}{σ:St}{s:Um}{env:WO}{l:Loc}{A:UO}{Er:Uo->Um->Prop}{id:Uz}{np:V'}{y:String}{v:Uo}{Q:Uo->Um->Prop} (S:aB W m σ s.heap) (R:bK W m σ.next s.heap env l)
 (h:jF env.scope.names id y=true) (hy:y∈dI) (hv:Zj (Uj y)=some v) (hn:Uj y≠"__name__") (q:Q v s):UC (UG W.prog W.w) A (WZ (.Name id np) env) Q Er s:=by
 simp only [jF,UE,beq_iff_eq] at h
 obtain ⟨⟨rfl,hk⟩,hd⟩:=h
 refine Xs R.kind hk (ZA (mg:=F.mg) (mb:=F.mb) (aa R.glob (F.g.keeps S.base)) (F.Jx y hy) (aa R.mI (F.b.keeps S.base)) ((F.bi _ hn).trans hv) q) ?_
 simpa using hd
theorem Fy (F:Facts W D) {m:Mem}{σ:St}{s:Um}{env:WO}{l:Loc}{A:UO}{Er:Uo->Um->Prop}{id:Uz}{np:V'}{y:String}{v:Uo}{Q:Uo->Um->Prop} (S:aB W m σ s.heap) (R:bK W m σ.next s.heap env l)
 (h:jF env.scope.names id y=true) (hv:F.mg (Uj y)=some v) (q:Q v s):UC (UG W.prog W.w) A (WZ (.Name id np) env) Q Er s:=by
 simp only [jF,UE,beq_iff_eq] at h
 obtain ⟨⟨rfl,hk⟩,hd⟩:=h
 refine Xs R.kind hk (ZK (mg:=F.mg) (aa R.glob (F.g.keeps S.base)) hv q) ?_
 simpa using hd
theorem AE (F:Facts W D) (H:fQ W C k) {f:Fn}{vs₀:List V}{us₀:List Uo}{as:Es}{xs:List Ul}{m:Mem}{σ:St}{s:Um}{env:WO}{l:Loc}{A:UO}{Er:Uo->Um->Prop}{Q:K1 V}{Q':Uo->Um->Prop}{p:V'}
 (hf:ö W.K (W.fa f)=true) (has:oX W C k as) (ho:f' W.has env.scope.names as xs=true) (S:aB W m σ s.heap) (R:bK W m σ.next s.heap env l) (hR:cT k A) (h₀:LR s.heap m σ.next vs₀ us₀)
 (hw:iu C as l σ λvs σ=>C f (vs₀++vs) σ Q) (hq:After W m σ s Q Q'):UC (UG W.prog W.w) A (ø p (.ref (W.fa f)) us₀ (WJ p (Vq xs env)) []) Q' Er s:=by
 have:∃o fd,W.K.lookup (W.fa f)=some o/\o.data=.func fd:=by
  have key:∀z:Option ć,(match z with | some ⟨_,_,.func _,_⟩=>true | _=>false)=true->∃o fd,z=some o/\o.data=.func fd:=λz h=>by
   cases z with
   | none=>exact nomatch h
   | some o=>cases o with
    | mk a b c d=>cases c with
     | func fd=>exact jo _ fd rfl rfl
     | _=>exact nomatch h
  exact key _ hf
 exact eQ this λo fd hl hd=>Calls.callWith_function (o:=o) (fd:=fd) (bg (cB (es:=as) ho) (has ho S R hR hw λvs az m₁ aj us q T aM rs=>⟨⟨aM.base _ _ (F.X _ _ hl),hd⟩,(ď (H aM ((T.lr h₀).append rs) hR.room q λv cZ m₂ bJ u q aA aW ru=>hq v cZ m₂ bJ u q (T.trans aA) aW ru))⟩))
theorem Di (F:Facts W D) (H:fQ W C k) {f:Fn}{as:Es} (hf:lK f≠"") (has:oX W C k as):aw W C k (.call f as):=by
 exact λy m σ s env l A Er Q Q' ho S R hR hw hq=>aU (bf ho) λhh ho=>Pt (mJ ho) λid np xs p hg ho=>ct (f:=.Name id np) (Fy F S R hg (F.name f hf hh) (AE F H (vs₀:=[]) (us₀:=[]) (F.Jw f hh) has ho S R hR rfl hw hq))
theorem AF (F:Facts W D) (H:fQ W C k) {o:E}{n:Nm}{as:Es} (mO:aw W C k o) (has:oX W C k as):aw W C k (.aY o n as):=by
 exact λy m σ s env l A Er Q Q' ho S R hR hw hq=>Ii (kD ho) λq ap xs p hc hp ho=>eg (eX ho) λhlen Rf J6=>vy hc (λp=>cB (es:=as) J6) (of_decide_eq_true hlen) hp (mO Rf S R hR hw λv az m₁ aj u q T aM ru pl=>aN (ai q) λpp NB q=>aN (ai q) λf hf q=>te F aM ru NB hf (AE F H (vs₀:=[v]) (us₀:=[u]) (F.GF _ _ _ hf).2.2 has J6 aM (R.step T) hR (.one ru) q (hq.chain T)))
theorem yh {σ:St}{v:V} (h:(listAt σ v).isSome=true):∃p,listAt σ v=some p:=Option.isSome_iff_exists.mp h
theorem AG {name:Uz}{id:String} (slot:ĸ "list" name id) (GH:Ŗ (.builtin id)=pure (.type "method_descriptor")) {A:UO}{Er:Uo->Um->Prop}{v:V}{az:St}{m₁:Mem}{aj:Um}{u:Uo}{pl:ä Bool} (h:(listAt az v).isSome=true) (S:aB W m₁ az aj.heap) (r:VR aj.heap m₁ az.next v u)
 {Z:Uo×List Uo->Um->Prop} (z:Z (.builtin id,[u]) aj):UC (UG W.prog W.w) A (Xj u name pl) Z Er aj:=by
 refine bb (yh h) λp hp=>eh (S.list hp r) λis k z1 ha U=>?_;subst z1
 exact vq slot GH ha z
theorem AH (F:Facts W D) {name:Uz}{id:String} (slot:ĸ "dict" name id) (GH:Ŗ (.builtin id)=pure (.type "method_descriptor")) {A:UO}{Er:Uo->Um->Prop}{v:V}{az:St}{m₁:Mem}{aj:Um}{u:Uo}{pl:ä Bool} (h:(dictAt az v).isSome=true) (S:aB W m₁ az aj.heap) (r:VR aj.heap m₁ az.next v u)
 {Z:Uo×List Uo->Um->Prop} (z:Z (.builtin id,[u]) aj):UC (UG W.prog W.w) A (Xj u name pl) Z Er aj:=by
 refine bb (Option.isSome_iff_exists.mp h) λp hp=>eg (S.dict F.big hp r) λz1 D' U=>?_;subst z1
 exact eQ D'.ex λes k hd U=>vt slot GH hd z
set_option tactic.hygienic true in
theorem yj {m:Mem}{σ:St}{s:Um} (S:aB W m σ s.heap) {v:V}{n:Nat} (h:i9 σ v=some n):n<=dj:=by
 have tup:v.items.bind (λl=>if l.length<=1000 then some l.length else UB)=some n->n<=dj:=λh=>by
  exact aN (Option.bind_eq_some_iff.mp h) λxs U h=>Uu (wA h).2▸Ut (wA h).1 (Ui rfl)
 cases v with
 | ref a=>exact (EW h).elim (λh=>aN h λl hg z=>aa z (eh (S.obj _ _ hg) λU U U U hl=>hl)) λh=>aN h λl hg z=>aa z (qc (S.obj _ _ hg) λU U U U hl U=>hl)
 | _=>exact tup h
theorem vA {hs:Fn->Bool}{sc:Sc}{e:E}{x:Ul} (hn:notStar x=true) (h:dH hs sc e x=true):f' hs sc (.cons e .nil) [x]=true:=by
 show (notStar x&&dH hs sc e x&&true)=true
 refine w2 hn h ?_;rfl
theorem Mb {hs:Fn->Bool}{sc:Sc}{e e':E}{x x':Ul} (hn:notStar x=true) (h:dH hs sc e x=true) (u3:notStar x'=true) (h':dH hs sc e' x'=true):f' hs sc (.cons e (.cons e' .nil)) [x,x']=true:=by
 show (notStar x&&dH hs sc e x&&f' hs sc (.cons e' .nil) [x'])=true
 refine w3 hn h (vA u3 h') ?_;rfl
theorem T7 {h:U1}{m:Mem}{N:Nat}{x:V}{us:List Uo} (r:LR h m N [x] us):∃u,us=[u]/\VR h m N x u:=by
 simp only [LR] at r;refine eh r λi r' z1 a z2=>?_;clear r;subst z1;subst z2;exact i12 i rfl a
theorem PI {h:U1}{m:Mem}{N:Nat}{x y:V}{us:List Uo} (r:LR h m N [x,y] us):∃u v,us=[u,v]/\VR h m N x u/\VR h m N y v:=by
 simp only [LR] at r;obtain ⟨i,r',rfl,a,j,PJ,rfl,b,rfl⟩:=r;exact i6 i j rfl a b
theorem AI {x:E}{x1:Ul}{m:Mem}{σ:St}{s:Um}{env:WO}{l:Loc}{A:UO}{Er:Uo->Um->Prop}{Q:K1 V}{Q':List Uo->Um->Prop}{p:V'} (hx:aw W C k x) (h:f' W.has env.scope.names (.cons x .nil) [x1]=true) (S:aB W m σ s.heap) (R:bK W m σ.next s.heap env l) (hR:cT k A) (hw:aK C x l σ Q)
 (q:∀v σ' m' s' u,Q v σ'->Step W d8 m σ.next s m' σ'.next s'->aB W m' σ' s'.heap->VR s'.heap m' σ'.next v u->Q' [u] s'):UC (UG W.prog W.w) A (Zg (WJ p (Vq [x1] env))) Q' Er s:=by
 have h:=iW (env:=env) h
 exact aa h.2.2 (Xr (hx h.1 S R hR hw λv az m₁ aj u q' T aM ru=>WD (q _ _ _ _ _ q' T aM ru)))
theorem J7 {x y:E}{x1 y1:Ul}{m:Mem}{σ:St}{s:Um}{env:WO}{l:Loc}{A:UO}{Er:Uo->Um->Prop}{Q:V->V->St->Prop}{Q':List Uo->Um->Prop}{p:V'} (hx:aw W C k x) (hy:aw W C k y) (h:f' W.has env.scope.names (.cons x (.cons y .nil)) [x1,y1]=true) (S:aB W m σ s.heap) (R:bK W m σ.next s.heap env l) (hR:cT k A) (hw:aK C x l σ λv σ=>aK C y l σ (Q v))
 (q:∀v w σ' m' s' u u',Q v w σ'->Step W d8 m σ.next s m' σ'.next s'->aB W m' σ' s'.heap->VR s'.heap m' σ'.next v u->VR s'.heap m' σ'.next w u'->Q' [u,u'] s'):UC (UG W.prog W.w) A (Zg (WJ p (Vq [x1,y1] env))) Q' Er s:=by
 have h:=iW (env:=env) h
 exact aa h.2.2 (Xr (hx h.1 S R hR hw λv az m₁ aj u q' T aM ru=>AI (p:=p) hy h.2.1 aM (R.step T) hR q' λw cZ m₂ bJ u' q' aA aW NC=>q _ _ _ _ _ _ _ q' (T.trans aA) aW (aA.vr ru) NC))
theorem AJ (F:Facts W D) {x:E}{y:Ul}{m:Mem}{σ:St}{s:Um}{env:WO}{l:Loc}{A:UO}{Er:Uo->Um->Prop}{Q:K1 V}{Q':Uo->Um->Prop}{nm:String}{v:Uo} (hx:aw W C k x) (h:iU env.scope.names nm y (dH W.has env.scope.names x)=true) (hy:nm∈dI) (hv:Zj (Uj nm)=some v) (hn:Uj nm≠"__name__")
 (hk:(∃b,v=.builtin b)\/∃b,v=.type b) (S:aB W m σ s.heap) (R:bK W m σ.next s.heap env l) (hR:cT k A) (hw:aK C x l σ Q)
 (q:∀w σ' m' s' u,Q w σ'->Step W d8 m σ.next s m' σ'.next s'->aB W m' σ' s'.heap->VR s'.heap m' σ'.next w u->UC (UG W.prog W.w) A (call v [u]) Q' Er s'):UC (UG W.prog W.w) A (WZ y env) Q' Er s:=by
 refine zo (fP h) λid np x1 p z1 hg h1 h2=>aa z1 ?_
 have h:=vA h1 h2
 refine ct (f:=.Name id np) (qx F S R hg hy hv hn ?_)
 have z:∀ {J8:List Uo->Um->Prop},(∀u s',UC (UG W.prog W.w) A (call v [u]) Q' Er s'->J8 [u] s')->UC (UG W.prog W.w) A (Zg (WJ p (Vq [x1] env))) J8 Er s:=λf=>AI hx h S R hR hw λw σ' m' s' u q' T S' r=>f u s' (q w σ' m' s' u q' T S' r)
 rcases hk with ⟨b,rfl⟩ | ⟨b,rfl⟩
 ·exact WE (cB h) (bg (cB h) (z λU U h=>h))
 ·exact Wj (cB h) (bg (cB h) (z λU U h=>h))
theorem AK {n:Uz}{y:Ul}{ok:List Ul->Bool}{o:E}{m:Mem}{σ:St}{s:Um}{env:WO}{l:Loc}{A:UO}{Er:Uo->Um->Prop}{Q':Uo->Um->Prop}{id:String}{t:St->V->Bool}{P:V->St->Prop} (mO:aw W C k o)
 (h:kC n y (λq as=>dH W.has env.scope.names o q&&ok as)=true) (S:aB W m σ s.heap) (R:bK W m σ.next s.heap env l) (hR:cT k A)
 (hw:aK C o l σ λv σ=>ei (t σ v) (P v σ))
 (hg:∀ {v az m₁ aj u pl},t az v=true->aB W m₁ az aj.heap->VR aj.heap m₁ az.next v u->∀ {Z:Uo×List Uo->Um->Prop},Z (.builtin id,[u]) aj->UC (UG W.prog W.w) A (Xj u n pl) Z Er aj)
 (hs:∀as,ok as=true->as.length<30/\∀p,(WJ p (Vq as env)).any (·.1)=false)
 (hq:∀as p v σ' m' s' u,ok as=true->P v σ'->Step W d8 m σ.next s m' σ'.next s'->aB W m' σ' s'.heap->VR s'.heap m' σ'.next v u->UC (UG W.prog W.w) A (Zg (WJ p (Vq as env))) (λus s=>UC (UG W.prog W.w) A (call (.builtin id) (u::us)) Q' Er s) Er s'):
 UC (UG W.prog W.w) A (WZ y env) Q' Er s:=by
 refine zo (kD h) λq ap as p z1 hc hp h'=>aa z1 ?_
 have h:=bf h'
 have Ir:=hs as h.2
 exact vy hc Ir.2 Ir.1 hp (mO h.1 S R hR hw λv az m₁ aj u q T aM ru pl=>hg (bE q).1 aM ru (WE (Ir.2 _) (bg (Ir.2 _) (hq as _ v az m₁ aj u h.2 (bE q).2 T aM ru))))
theorem vB {n:Uz}{y:Ul}{o x:E}{m:Mem}{σ:St}{s:Um}{env:WO}{l:Loc}{A:UO}{Er:Uo->Um->Prop}{Q:V->K1 V}{Q':Uo->Um->Prop}{id:String}{t:St->V->Bool} (mO:aw W C k o) (hx:aw W C k x)
 (h:kC n y (λq as=>dH W.has env.scope.names o q&&m1 as (dH W.has env.scope.names x))=true) (S:aB W m σ s.heap) (R:bK W m σ.next s.heap env l) (hR:cT k A)
 (hw:aK C o l σ λv σ=>ei (t σ v) (aK C x l σ (Q v)))
 (hg:∀ {v az m₁ aj u pl},t az v=true->aB W m₁ az aj.heap->VR aj.heap m₁ az.next v u->∀ {Z:Uo×List Uo->Um->Prop},Z (.builtin id,[u]) aj->UC (UG W.prog W.w) A (Xj u n pl) Z Er aj)
 (hq:∀v w σ' m' s' u u',Q v w σ'->Step W d8 m σ.next s m' σ'.next s'->aB W m' σ' s'.heap->VR s'.heap m' σ'.next v u->VR s'.heap m' σ'.next w u'->UC (UG W.prog W.w) A (call (.builtin id) [u,u']) Q' Er s'):
 UC (UG W.prog W.w) A (WZ y env) Q' Er s:=
 AK mO h S R hR hw hg (λas h=>by obtain ⟨x1,rfl,a,b⟩:=i1 h;exact ⟨Ui rfl,λp=>cB (vA a b)⟩) λas p v az m₁ aj u h q T aM r=>by
  obtain ⟨x1,rfl,a,b⟩:=i1 h
  exact AI hx (vA a b) aM (R.step T) hR q λw cZ m₂ bJ u' q aA aW r'=>hq _ _ _ _ _ _ _ q (T.trans aA) aW (aA.vr r) r'
theorem yk {o x:E} (mO:aw W C k o) (hx:aw W C k x):aw W C k (.append o x):=by
 refine λy m σ s env l A Er Q Q' ho S R hR hw hq=>vB mO hx ho S R hR hw (AG Xy PySem.F.type_list_append) λv w σ' m' s' u u' q T S' r r'=>(ai q).elim λp h=>?_
 have q:=bp h.2
 exact Am S' h.1 r r' q.1 λiX nV gb=>hq _ _ _ _ _ q.2 (T.trans nV) gb (eV.mpr rfl)
theorem yl {o x:E} (mO:aw W C k o) (hx:aw W C k x):aw W C k (.extend o x):=by
 refine λy m σ s env l A Er Q Q' ho S R hR hw hq=>vB mO hx ho S R hR hw (AG Zk PySem.F.type_list_extend) λv w σ' m' s' u u' q T S' r r'=>(ai q).elim λp h=>(ai h.2).elim λp' h'=>?_
 have q:=bp (bE h'.2).2
 exact An S' h.1 r h'.1 r' q.1 λiX nV gb=>hq _ _ _ _ _ q.2 (T.trans nV) gb (eV.mpr rfl)
theorem GR {o:E} (mO:aw W C k o):aw W C k (.pop o):=by
 exact λy m σ s env l A Er Q Q' ho S R hR hw hq=>AK mO ho S R hR hw (AG ZH PySem.F.type_list_pop) (λas h=>aa (oK h) ⟨Ui rfl,λp=>cB (hs:=W.has) (sc:=env.scope.names) (es:=.nil) rfl⟩) λas p v az m₁ aj u h q T aM r=>aa (oK h) ((ai q).elim λp h=>(ai h.2).elim λw h'=>WD (JQ aM h.1 r h'.1 λiX x nV gb rx=>hq _ _ _ _ _ h'.2 (T.trans nV) gb rx))
theorem Dj (F:Facts W D) {o x:E} (mO:aw W C k o) (hx:aw W C k x):aw W C k (.oA o x):=by
 refine λy m σ s env l A Er Q Q' ho S R hR hw hq=>vB mO hx ho S R hR hw (AH F ZJ ZE) λv w σ' m' s' u u' q T S' r r'=>(ai q).elim λp h=>?_
 have q:=bE h.2
 exact eg (S'.dict F.big h.1 r) λz1 D' U=>aa z1 (JO D' ((aJ (Y2 _ _) (.s (.a Z0 (.n 6))) (.n 9900) (.s (.a (.a Z0 (.m 10 Z1)) (.n 65))) (.n 9900) hR.2.2 rfl)) q.1 r' λv t rv=>hq _ _ _ _ _ q.2 (T.tok t) S' rv)
theorem Dk (F:Facts W D) {o x z:E} (mO:aw W C k o) (hx:aw W C k x) (hz:aw W C k z):aw W C k (.rD o x z):=by
 intro y m σ s env l A Er Q Q' ho S R hR hw hq
 have J6:∀ {as},m2 as (λa b=>dH W.has env.scope.names x a&&dH W.has env.scope.names z b)=true->∃a b,as=[a,b]/\f' W.has env.scope.names (.cons x (.cons z .nil)) [a,b]=true:=λh=>by
  exact qc (i2 h) λa b z1 h1 h2 h'=>aa z1 (jo a b rfl (Mb h1 (bf h').1 h2 (bf h').2))
 refine AK mO ho S R hR hw (AH F ZJ ZE) (λas h=>by exact eQ (J6 h) λa b z2 h'=>aa z2 ⟨Ui rfl,λp=>cB h'⟩) λas p v az m₁ aj u h q T aM r=>eQ (J6 h) λa b z3 h'=>aa z3 (J7 hx hz h' aM (R.step T) hR q λw w' cZ m₂ bJ u' T8 q aA aW r' PJ=>(ai q).elim λp h=>?_)
 have q:=bE h.2
 exact eg (aW.dict F.big h.1 (aA.vr r)) λz4 D' U=>aa z4 (JP D' ((aJ (Y2 _ _) (.s (.a Z0 (.n 6))) (.n 9900) (.s (.a (.a Z0 (.m 10 Z1)) (.n 65))) (.n 9900) hR.2.2 rfl)) q.1 r' PJ λv t rv=>hq _ _ _ _ _ q.2 ((T.trans aA).tok t) aW rv)
theorem GS (F:Facts W D) {a:E} (ha:aw W C k a):aw W C k (.len a):=by
 exact λy m σ s env l A Er Q Q' ho S R hR hw hq=>AJ F ha ho (by decide) (by kernel_rfl) (by decide) (.inl ⟨"len",rfl⟩) S R hR hw λv cZ m₂ bJ u q aA aW r=>(ai q).elim λn h=>JS aW F.big h.1 r (yj aW h.1) λt t'=>hq _ _ _ _ _ h.2 (aA.tok t') aW (ey _ _)
theorem AL (F:Facts W D) {a:E} (ha:aw W C k a):aw W C k (.strOf a):=by
 refine λy m σ s env l A Er Q Q' ho S R hR hw hq=>AJ F ha ho (by decide) (by kernel_rfl) (by decide) (.inr ⟨"str",rfl⟩) S R hR hw λv cZ m₂ bJ u q aA aW r=>(ai q).elim λn h=>?_
 have q:=bE h.2
 have hb:=q.1
 rw [UE,decide_eq_true_eq,decide_eq_true_eq] at hb
 refine bb (bx.mp (aR (yf h.1) r)) λt z1=>?_;exact aa z1 (GJ hb.1 hb.2 λt t'=>hq _ _ _ _ _ q.2 (aA.tok t') aW (oF _ _))
end
end
end Mine.Internal
namespace Mine.Internal
noncomputable section
open PySem PySem.W PyProof.Rows PySem.SeqAt
section
variable {prog:Vo}{w:VB}{A:UO}{Er:Uo->Um->Prop}{s:Um}
theorem tw (k n:Nat):WV none (some (k:Int)) 1 (n:Int)=(0,((min k n:Nat):Int)):=by
 delta WV
 lia
theorem tB (n:Nat):V0 0 (n:Int) 1=n:=by
 delta V0
 simp
 split<;>lia
theorem lQ {sl:UN}{k n:Nat}{u:ķ}{Q:Int×Int×Nat->Um->Prop} (hs:s.heap.IsSliceOf sl .none (.int k u) .none) (h:Q (0,1,min k n) s):
 UC (UG prog w) A (ŀ (.ref sl) (pure (n:Int))) Q Er s:=by
 refine i5 (id hs) λos J9 PK Iu=>Uk (Uk (VK J9 Iu (x:=.none) rfl (Uk (VK J9 Iu (x:=.int k u) rfl (Uk (VK J9 Iu (x:=.none) rfl (Us ?_)))))))
 show UC _ _ (match WV none (some (k:Int)) 1 (n:Int) with | (lo,hi)=>pure (lo,(1:Int),V0 lo hi 1)) _ _ s
 refine aa (tw k n) ?_
 show UC _ _ (pure ((0:Int),(1:Int),V0 0 ((min k n:Nat):Int) 1)) _ _ s
 exact aa (tB ..) (Us h)
theorem ym (xs:Array Uo) (b:Nat):((VG b).filterMap λ(k:Nat)=>xs[((0:Int)+(k:Int)*1).toNat]?).toArray=(xs.toList.take b).toArray:=by
 have e:(λ(k:Nat)=>xs[((0:Int)+(k:Int)*1).toNat]?)=λk=>xs[0+k]? :=by
  funext k
  have:((0:Int)+(k:Int)*1).toNat=0+k:=by simp
  exact congrArg _ this
 refine aa e ?_
 have:=pick_run xs 0 b
 replace this:=List.filterMap_map▸this
 exact aa this rfl
theorem Dl {t sl:UN}{items:List Uo}{n k:Nat}{u:ķ}{Q:Uo->Um->Prop} (ht:s.heap.get? t=some (cw items n)) (hs:s.heap.IsSliceOf sl .none (.int k u) .none) (hsz:items.length<=VD)
 (hw:items.length<=k->Q (.ref t) s) (h:Q (.ref s.heap.objs.size) {s with heap:=s.heap.push (cw (items.take k) 0)}):UC (UG prog w) A (YJ (.ref t) (.ref sl)) Q Er s:=by
 have dV:IsTup s.heap t items.toArray:=⟨_,ht,rfl,n,rfl⟩
 refine i5 (id hs) λos J9 PK Iu=>?_
 have hT:=dV.typeIs
 delta YJ
 try with_reducible refine UH ?_
 refine Uk (Ze hT (by rfl) ?_)
 refine Uk (Vl (name:=U8 "__getitem__") hT Yh
  (UU Yh hT Ō ?_ (ō _ _)))
 show UC _ _ (Yz (.ref t)>>=_) _ _ s
 refine Uk (tupleItemsOf_ dV (Uk (XG ⟨os,J9,PK⟩ (Uk (lQ hs ?_)))))
 show UC _ _ (if ((0:Int)==0&&(1:Int)==1&&(min k items.toArray.size)==items.toArray.size)=true then _ else _) _ _ s
 by_cases hk:items.length<=k
 ·refine aa (if_pos (by simp [Nat.min_eq_right hk])) (Uk (Uk (XG hT (Us ?_))))
  first
   | exact Uk (VQ (Us (i12 _ rfl (Us (hw hk)))))
 ·refine aa (if_neg (by simp;exact UZ (aJ (Y3 _ _ _) (.s Z0) Z1 (.a (.s Z2) Z0) (.a Z1 Z2) (Uq (Y9 hk) (Wu _ _)) rfl))) (aa (Nat.min_eq_left (aJ (Y2 _ _) Z0 Z1 (.s Z0) Z1 (Y9 hk) rfl)) (aa (ym ..) ?_))
  have hz:sizeOk (.seq (items.toArray.toList.take k).toArray):=by
   show (items.toArray.toList.take k).toArray.size<=VD
   exact aa UL (aa ç (aJ (Y3 _ _ _) Z0 Z1 (.a Z2 Z0) (.a Z1 Z2) (Uq hsz (WT _ _)) rfl))
  first
   | exact Uk (m:=Ŀ _) (ĝ (Us (i12 _ rfl (Us h))) hz)
end
end
end Mine.Internal
namespace Mine.Internal
noncomputable section
open PySem PySem.W PyProof.Rows PySem.SeqAt
section
variable {W:Wd}{D:Fn->Option (List Nm×Ss)}{C:bz}{k:Nat}
theorem AM {i:Int} (h:(decide (0<=i)&&decide (i<=(dj:Int)))=true):∃n:Nat,i=(n:Int)/\n<=dj:=by
 rw [UE,decide_eq_true_eq,decide_eq_true_eq] at h
 exact i12 i.toNat (by lia) (by lia)
theorem GU {α:Type} (l:List α) (n v:Nat) (h:l.length<=v):(l.take n).length<=v+(l.take n).length:=V6 _ _
theorem sliceMade {m:Mem}{σ:St}{s:Um} (S:aB W m σ s.heap) (a b c:Uo):Step W d8 m σ.next s m σ.next {s with heap:=s.heap.push {cls:=.type "slice",data:=.fields #[a,b,c]}}/\aB W m σ (s.heap.push {cls:=.type "slice",data:=.fields #[a,b,c]}):=
 S.grown (tk:=s.toks) (λb o e=>Uv _ e)
theorem vC {a i:E} (ha:aw W C k a) (hi:aw W C k i):aw W C k (.sliceTo a i):=by
 refine λy m σ s env l A Er Q Q' ho S R hR hw hq=>lk (pQ ho) λo sl pos ho=>aU (bf ho) λho hj=>uW (Q5 hj) λj p hj=>ZZ (ha ho S R hR hw λva az m₁ aj ua q T aM ra=>ó (V8 (Y7 (hi hj aM (R.step T) hR q λvi cZ m₂ bJ ui q aA aW ri=>V8 (aN (ai q) λz hz q=>aU (bE q) λhb q=>aN (AM hb) λn z3 hn=>?_)))));subst z3
 replace ri:=(yf hz)▸ri
 refine bb (bx.mp ri) λt z4=>aa z4 (aU (sliceMade aW .none (.int n t) .none) λcm cX=>?_)
 have ra:=cm.vr (aA.vr ra)
 have hs:=XY bJ.heap .none (.int n t) .none
 have TT:=(T.trans aA).trans cm
 have tup:aC va.items (λxs=>ei (decide (xs.length<=1000)) (Q (V.tup (xs.take n)) cZ))->UC (UG W.prog W.w) A (È o (.Slice none (some j) none p) ua (.ref bJ.heap.objs.size)) Q' Er {bJ with heap:=bJ.heap.push {cls:=.type "slice",data:=.fields #[.none,.int n t,.none]}}:=λq=>by
  refine aN (ai q) λxs hx q=>aU (bp q) λhl q=>mA (cX.tup hx ra) λat_ is kk z5 qw hr=>?_;subst z5
  have hlen:=hr.length
  have hz:is.length<=VD:=by exact w2 hlen X7 (aJ (Y1 _) Z0 (.n 16777216) Z0 (.n 1000) hl rfl)
  refine iV ⟨_,qw,rfl⟩ PySem.F.slot_tuple_getitem.lookup (Dl qw hs hz (λhk=>?_) ?_)
  ·rw [List.take_of_length_le (by lia),← d6 hx] at q
   exact hq _ _ _ _ _ q TT cX ra
  ·exact eg (cX.oW (s:={bJ with heap:=bJ.heap.push {cls:=.type "slice",data:=.fields #[.none,.int n t,.none]}}) (t:=bJ.toks) (hr.take n)) λnP rY r=>hq _ _ _ _ _ q (TT.trans nP) rY r
 cases va with
 | ref r=>
  exact aN (ai q) λxs hx q=>aU (bp q) λhl q=>MR (cX.items hx ra) λat_ is kk z6 qw hr hv=>aa z6 (iV ⟨_,qw,rfl⟩ PySem.F.slot_list_getitem.lookup (jL cX qw hr hv hs .none (.int _ _) .none ((of_decide_eq_true rfl)) (ys:=xs.take n) (λ{l} hr=>aa (slicePick_upto' ..) (hr.take n)) hl λm' s' T' S' r=>hq _ _ _ _ _ q (TT.trans T') S' r))
 | nil=>exact tup q
 | cons _ _=>exact tup q
 | none=>exact tup q
 | bool _=>exact tup q
 | int _=>exact tup q
 | str _=>exact tup q
theorem rZ {a i:E} (ha:aw W C k a) (hi:aw W C k i):aw W C k (.sliceFrom a i):=by
 refine λy m σ s env l A Er Q Q' ho S R hR hw hq=>lk (pQ ho) λo sl pos ho=>aU (bf ho) λho hj=>uW (Js hj) λj p hj=>ZZ (ha ho S R hR hw λva az m₁ aj ua q T aM ra=>ó (Y7 (hi hj aM (R.step T) hR q λvi cZ m₂ bJ ui q aA aW ri=>V8 (V8 (aN (ai q) λz hz q=>aU (bE q) λhb q=>aN (AM hb) λn z3 hn=>?_)))));subst z3
 replace ri:=(yf hz)▸ri
 exact bb (bx.mp ri) λt z4=>aa z4 (aU (sliceMade aW (.int n t) .none .none) λcm cX=>aN (ai q) λpp hx q=>aU (bp q) λhl q=>zl (cX.list hx (cm.vr (aA.vr ra))) λis kk z5 qw hr hv U=>aa z5 (iV ⟨_,qw,rfl⟩ PySem.F.slot_list_getitem.lookup (jL cX qw hr hv (XY bJ.heap (.int n t) .none .none) (.int _ _) .none .none ((of_decide_eq_true rfl)) (ys:=pp.2.drop n) (λ{l} hr=>aa (slicePick_from' ..) (hr.drop n)) hl λm' s' T' S' r=>hq _ _ _ _ _ q (((T.trans aA).trans cm).trans T') S' r)))
theorem GV {a:E} (ha:aw W C k a):aw W C k (.rev a):=by
 refine λy m σ s env l A Er Q Q' ho S R hR hw hq=>lk (pQ ho) λo sl pos ho=>aU (bf ho) λho hj=>uW (Jt hj) λj p hj=>lk (Io hj) λop j U hj=>aU (bf hj) λh1 hj=>aa (kO h1) (lk (oH hj) λc kk U hj=>aa (kO hj) (ZZ (ha ho S R hR hw λva az m₁ aj ua q T aM ra=>ó (V8 (V8 (Y7 (UnaryOp_ (Y5 (P.neg_int ?_)))))))))
 obtain ⟨aA,aW⟩:Step W d8 m₁ az.next aj m₁ az.next {aj with toks:=aj.toks+1+1}/\aB W m₁ az aj.heap:=⟨.toks _,aM⟩
 exact aU (sliceMade (s:={aj with toks:=aj.toks+1+1}) aW .none .none (.int (-1) (aj.toks+1))) λcm cX=>aN (ai q) λpp hx q=>aU (bp q) λhl q=>zl (cX.list hx (cm.vr (aA.vr ra))) λis kk z7 qw hr hv U=>aa z7 (iV ⟨_,qw,rfl⟩ PySem.F.slot_list_getitem.lookup (jL cX qw hr hv (XY aj.heap .none .none (.int (-1) (aj.toks+1))) .none .none (.int _ _) ((of_decide_eq_true rfl)) (ys:=pp.2.reverse) (λ{l} hr=>aa (krv_pick ..) hr.reverse) (by simpa using hl) λm' s' T' S' r=>hq _ _ _ _ _ q (((T.trans aA).trans cm).trans T') S' r))
theorem GW {op:Ik}{a b:E} (ha:aw W C k a) (hb:aw W C k b):aw W C k (.bin op a b):=by
 refine λy m σ s env l A Er Q Q' ho S R hR hw hq=>Gn (Jk ho) λx o y pos ho=>eg (eX ho) λh1 hx hy=>aa (kO h1) (wpAny_BinOp (ha hx S R hR hw λva az m₁ aj ua q T aM ra=>hb hy aM (R.step T) hR q λvb cZ m₂ bJ ub q aA aW rb=>?_))
 have ra:=aA.vr ra
 have TT:=T.trans aA
 have plain:aC (uY op va vb) (λr=>Q r cZ)->UC (UG W.prog W.w) A (ù (zM op) ua ub) Q' Er bJ:=λq=>by
  exact aN (ai q) λr hr q=>JY hr ra rb λz t rz=>hq _ _ _ _ _ q (TT.tok t) aW rz
 cases va with
 | ref n=>
  exact aU (bp q) λho q=>aa ho (aN (ai q) λp hp q=>aN (ai q) λp' Af q=>aU (bp q) λhl q=>yc aW hp ra Af rb hl λm' s' w T' S' r=>hq _ _ _ _ _ q (TT.trans T') S' r)
 | cons x y=>
  exact aU (bp q) λho q=>aa ho (aN (ai q) λp hp q=>aN (ai q) λp' Af q=>aU (bp q) λhl q=>Aq aW hp ra Af rb (Ut hl ((Ui rfl))) λs' w T' S' r=>hq _ _ _ _ _ q (TT.trans T') S' r)
 | _=>exact plain q
theorem behind {op:Į}{x:Ul}:jG x=true->Ŭ op x=false:=
 @UT (λx=>jG x=true->Ŭ op x=false) x (λU U U h=>rfl) (λU U U h=>rfl) (λU U U U h=>rfl) (λU U U h=>rfl) (λU U U U h=>rfl) (λU U U U h=>rfl) (λU U U h=>rfl) (λU U U h=>ff h) (λU U U U h=>rfl) (λU U U U h=>rfl) (λU U U U U h=>rfl) (λU U U U h=>rfl) (λU U h=>rfl) (λU U h=>rfl) (λU U h=>rfl) (λU U U U h=>rfl) (λU U U U h=>rfl) (λU U U U h=>rfl) (λU U h=>rfl) (λU U U h=>rfl) (λU U U h=>rfl) (λU U U h=>rfl) (λU U h=>rfl) (λU U h=>rfl) (λU U h=>rfl) (λU U U h=>rfl) (λU U U U h=>rfl)
theorem GX (F:Facts W D) {op:Gp}{a b:E} (ha:aw W C k a) (hb:aw W C k b):aw W C k (.cmp op a b)/\jg W C k (.cmp op a b):=by
 have inv:∀ {hs:Fn->Bool}{sc:Sc}{y:Ul},dH hs sc (.cmp op a b) y=true->∃x z pos,y=.Compare x [s8 op] [z] pos/\jG z=true/\dH hs sc a x=true/\dH hs sc b z=true:=λ{hs sc y} ho=>by
  exact Gn (Fo ho) λx o z pos ho=>eg (eX ho) λh1 hn h2=>aa (kO h1) (CC _ _ _ rfl hn (bf h2))
 constructor
 ·exact λy m σ s env l A Er Q Q' ho S R hR hw hq=>MR (inv ho) λx z pos z3 hn hx hz=>aa z3 (ZV (ha hx S R hR hw λva az m₁ aj ua q T aM ra=>hb hz aM (R.step T) hR q λvb cZ m₂ bJ ub q aA aW rb=>aN (ai q) λr hr q=>Fv aW F.big hr (aA.vr ra) rb (by have:=hR.2.2;exact aJ (Y2 _ _) (.s (.a Z0 (.n 26))) (.n 9900) (.s (.a (.a Z0 (.m 10 Z1)) (.n 65))) (.n 9900) this rfl) λt=>hq _ _ _ _ _ q ((T.trans aA).tok t) aW (dS.mpr rfl)) (behind hn))
 ·exact λy m σ s env l A Er Q Q' ho S R hR hw hq=>MR (inv ho) λx z pos z4 hn hx hz=>aa z4 (Yw (ha hx S R hR hw λva az m₁ aj ua q T aM ra=>hb hz aM (R.step T) hR q λvb cZ m₂ bJ ub q aA aW rb=>aN (ai q) λr hr q=>Fv aW F.big hr (aA.vr ra) rb (by have:=hR.2.2;exact aJ (Y2 _ _) (.s (.a Z0 (.n 26))) (.n 9900) (.s (.a (.a Z0 (.m 10 Z1)) (.n 65))) (.n 9900) this rfl) λt=>Vs (hq _ _ _ _ q ((T.trans aA).tok t) aW)) (behind hn))
theorem j5 {h:U1}{m:Mem}{N:Nat}{v:V}{u:Uo} (r:VR h m N v u):(u==.none)=decide (v=.none):=by
 cases v with
 | none=>refine aa (eV.mp r) ?_;rfl
 | bool b=>refine aa (dS.mp r) ?_;rfl
 | int i=>refine bb (bx.mp r) λt z1=>aa z1 ?_;rfl
 | str i=>refine bb (cj.mp r) λt z2=>aa z2 ?_;rfl
 | ref n=>refine aU (b7.mp r) λU z3=>aa z3 ?_;rfl
 | nil=>refine eQ r λa k z4 U=>aa z4 ?_;rfl
 | cons x y=>refine jm r λa k i r' z5 U=>aa z5 ?_;rfl
theorem r4 {hs:Fn->Bool}{sc:Sc}{a:E}{y:Ul}{op:Į} (ho:tc y (λl o r=>o==op&&pP r (λc U U=>c==.none)&&dH hs sc a l)=true):∃x kk p pos,y=.Compare x [op] [.Constant .none kk p] pos/\dH hs sc a x=true:=by
 exact Gn (Fo ho) λx o z pos ho=>eg (eX ho) λh1 h2 h3=>aa (kO h1) (lk (oH h2) λc kk p h2=>aa (kO h2) (zm _ _ _ _ rfl h3))
theorem yn {a:E} (ha:aw W C k a):aw W C k (.isNone a)/\jg W C k (.isNone a):=by
 constructor
 ·exact λy m σ s env l A Er Q Q' ho S R hR hw hq=>jm (r4 ho) λx kk p pos z1 hx=>aa z1 (ZV (ha hx S R hR hw λva az m₁ aj ua q T aM ra=>Ww (is_none (aa (j5 ra) (hq _ _ _ _ _ q T aM (dS.mpr rfl))))) rfl)
 ·exact λy m σ s env l A Er Q Q' ho S R hR hw hq=>jm (r4 ho) λx kk p pos z2 hx=>aa z2 (Yw (ha hx S R hR hw λva az m₁ aj ua q T aM ra=>Ww (is_none (aa (j5 ra) (Vs (hq _ _ _ _ q T aM))))) rfl)
theorem r5 {a:E} (ha:aw W C k a):aw W C k (.isNotNone a)/\jg W C k (.isNotNone a):=by
 have neg:∀v:V,(!decide (v=.none))=decide (v≠.none):=λv=>by by_cases e:v=.none<;>simp
 constructor
 ·exact λy m σ s env l A Er Q Q' ho S R hR hw hq=>jm (r4 ho) λx kk p pos z1 hx=>aa z1 (ZV (ha hx S R hR hw λva az m₁ aj ua q T aM ra=>Ww (isNot_none (aa (j5 ra) (aa (neg ..) (hq _ _ _ _ _ q T aM (dS.mpr rfl)))))) rfl)
 ·exact λy m σ s env l A Er Q Q' ho S R hR hw hq=>jm (r4 ho) λx kk p pos z2 hx=>aa z2 (Yw (ha hx S R hR hw λva az m₁ aj ua q T aM ra=>Ww (isNot_none (aa (j5 ra) (aa (neg ..) (Vs (hq _ _ _ _ q T aM)))))) rfl)
theorem GY {a:E} (ha:aw W C k a) (ht:jg W C k a):aw W C k (.not a)/\jg W C k (.not a):=by
 constructor
 ·intro y m σ s env l A Er Q Q' ho S R hR hw hq
  replace ho:=Io ho
  refine lk ho λop x pos ho=>?_
  replace ho:=bf ho
  refine aU ho λh1 ho=>aa (kO h1) (wpAny_UnaryOp (ha ho S R hR hw λva az m₁ aj ua q T aM ra=>not_value (aN (ai q) λb hb q=>?_)))
  replace ra:=(wR hb)▸ra
  exact aa (dS.mp ra) (Vs (hq _ _ _ _ _ q T aM (dS.mpr rfl)))
 ·intro y m σ s env l A Er Q Q' ho S R hR hw hq
  replace ho:=Io ho
  refine lk ho λop x pos ho=>?_
  replace ho:=bf ho
  exact aU ho λh1 ho=>aa (kO h1) (wpAny_isTrue_Not (ht (Q:=λb σ=>Q (!b) σ) ho S R hR hw λb σ' m' s' q T S'=>hq _ _ _ _ q T S'))
theorem GZ {c a b:E} (hc:jg W C k c) (ha:aw W C k a) (hb:aw W C k b) (ta:jg W C k a) (tb:jg W C k b):aw W C k (.ite c a b)/\jg W C k (.ite c a b):=by
 constructor
 ·intro y m σ s env l A Er Q Q' ho S R hR hw hq
  replace ho:=Px ho
  refine Gn ho λx y z pos ho=>eg (eX ho) λh1 h2 h3=>wpAny_IfExp (hc (Q:=λt σ=>match t with | true=>aK C a l σ Q | false=>aK C b l σ Q) h1 S R hR hw λt σ' m' s' q T S'=>?_)
  cases t with
  | true=>exact ha h2 S' (R.step T) hR q (hq.chain T)
  | false=>exact hb h3 S' (R.step T) hR q (hq.chain T)
 ·intro y m σ s env l A Er Q Q' ho S R hR hw hq
  replace ho:=Px ho
  refine Gn ho λx y z pos ho=>eg (eX ho) λh1 h2 h3=>Uk (hc (Q:=λt σ=>match t with | true=>aK C a l σ (λv σ=>aC (bc v) λb=>Q b σ) | false=>aK C b l σ (λv σ=>aC (bc v) λb=>Q b σ)) h1 S R hR hw λt σ' m' s' q T S'=>?_)
  cases t with
  | true=>exact ta h2 S' (R.step T) hR q λb bU tC iX q T' gb=>hq _ _ _ _ q (T.trans T') gb
  | false=>exact tb h3 S' (R.step T) hR q λb bU tC iX q T' gb=>hq _ _ _ _ q (T.trans T') gb
end
end
end Mine.Internal
namespace Mine.Internal
noncomputable section
open PySem PySem.W PyProof.Rows PySem.SeqAt
section
variable {W:Wd}{D:Fn->Option (List Nm×Ss)}{C:bz}{k:Nat}
def jM (W:Wd) (C:bz) (k:Nat):Es->Prop
 | .nil=>True
 | .cons e r=>(aw W C k e/\jg W C k e)/\jM W C k r
theorem Mc {c:Bool}{e:E}{l:Loc}{σ:St}{Q:K1 V}:zb C c (.cons e .nil) l σ Q=aK C e l σ λv σ=>aC (bc v) λb=>Q (.bool b) σ:=rfl
theorem Ka {c:Bool}{e e':E}{r:Es}{l:Loc}{σ:St}{Q:K1 V}:zb C c (.cons e (.cons e' r)) l σ Q=aK C e l σ λv σ=>aC (bc v) λb=>if b=c then zb C c (.cons e' r) l σ Q else Q (.bool b) σ:=rfl
noncomputable def G0 (c:Bool):BoolOp:=if c then .And else .Or
theorem G1 {c:Bool}{pos:V'}:∀ {es:Es},jM W C k es->∀ {xs:List Ul}{m:Mem}{σ:St}{s:Um}{env:WO}{l:Loc}{A:UO}{Er:Uo->Um->Prop}{Q:K1 V}{Q':Uo->Um->Prop},
 f' W.has env.scope.names es xs=true->aB W m σ s.heap->bK W m σ.next s.heap env l->cT k A->zb C c es l σ Q->After W m σ s Q Q'->UC (UG W.prog W.w) A (boolOp pos (G0 c) (evalEach xs env)) Q' Er s:=by
 intro es h xs;induction xs generalizing es with
 | nil=>
  intro m σ s env l A Er Q Q' ho S R hR hw hq
  cases es with
  | nil=>exact hw.elim
  | cons _ _=>contradiction
 | cons x xs PE=>
  intro m σ s env l A Er Q Q' ho S R hR hw hq
  cases es with
  | nil=>exact hw.elim
  | cons e r=>
   refine eg (iW (env:=env) ho) λh1 h2 U=>?_
   cases r with
   | nil=>
    cases xs with
    | nil=>
     exact h.1.1 h1 S R hR hw λv σ' m' s' u q T S' r=>aN (ai q) λb hb q=>hq _ _ _ _ _ q T S' (aR (wR hb) r)
    | cons _ _=>contradiction
   | cons e' r=>
    cases xs with
    | nil=>contradiction
    | cons y xs=>
     refine Uk (h.1.1 h1 S R hR hw λv σ' m' s' u q T S' ru=>Uk (Vi (Uk (UH (aN (ai q) λb hb q=>?_)))))
     replace ru:=(wR hb)▸ru
     refine aa (dS.mp ru) (Vs ?_)
     have key:(if b=c then zb C c (.cons e' r) l σ' Q else Q (.bool b) σ')->b=c->UC (UG W.prog W.w) A (boolOp pos (G0 c) (evalEach (y::xs) env)) Q' Er s':=λq Rg=>by
      replace q:=(if_pos Rg)▸q
      exact PE h.2 h2 S' (R.step T) hR q (hq.chain T)
     cases c<;>cases b
     ·exact key q rfl
     ·exact Us (hq _ _ _ _ _ q T S' (dS.mpr rfl))
     ·exact Us (hq _ _ _ _ _ q T S' (dS.mpr rfl))
     ·exact key q rfl
theorem G3 {c:Bool}:∀ {es:Es},jM W C k es->∀ {xs:List Ul}{m:Mem}{σ:St}{s:Um}{env:WO}{l:Loc}{A:UO}{Er:Uo->Um->Prop}{Q:K1 Bool}{Q':Bool->Um->Prop},
 f' W.has env.scope.names es xs=true->aB W m σ s.heap->bK W m σ.next s.heap env l->cT k A->zb C c es l σ (λv σ=>aC (bc v) λb=>Q b σ)->
 (∀b σ' m' s',Q b σ'->Step W d8 m σ.next s m' σ'.next s'->aB W m' σ' s'.heap->Q' b s')->UC (UG W.prog W.w) A (allTrue (G0 c) xs env) Q' Er s:=by
 intro es h xs;induction xs generalizing es with
 | nil=>
  intro m σ s env l A Er Q Q' ho S R hR hw hq
  cases es with
  | nil=>exact hw.elim
  | cons _ _=>contradiction
 | cons x xs ih=>
  intro m σ s env l A Er Q Q' ho S R hR hw hq
  cases es with
  | nil=>exact hw.elim
  | cons e r=>
   refine eg (iW (env:=env) ho) λh1 h2 U=>?_
   cases r with
   | nil=>
    cases xs with
    | nil=>
     have fin:∀ {Z:Bool->Um->Prop},(∀b σ' m' s',Q b σ'->Step W d8 m σ.next s m' σ'.next s'->aB W m' σ' s'.heap->Z b s')->UC (UG W.prog W.w) A (Y6 x env (WZ x env)) Z Er s:=λhz=>h.1.2 h1 S R hR (Q:=Q) hw hz
     cases c
     ·refine â (fin λb σ' m' s' q T S'=>?_)
      cases b
      ·exact wpAny_allTrue_Or_nil (hq _ _ _ _ q T S')
      ·exact hq _ _ _ _ q T S'
     ·refine Ó (fin λb σ' m' s' q T S'=>?_)
      cases b
      ·exact hq _ _ _ _ q T S'
      ·exact wpAny_allTrue_And_nil (hq _ _ _ _ q T S')
    | cons _ _=>contradiction
   | cons e' r=>
    have fin:∀ {Z:Bool->Um->Prop},(∀b σ' m' s',(if b=c then zb C c (.cons e' r) l σ' (λv σ=>aC (bc v) λb=>Q b σ) else Q b σ')->Step W d8 m σ.next s m' σ'.next s'->aB W m' σ' s'.heap->Z b s')->UC (UG W.prog W.w) A (Y6 x env (WZ x env)) Z Er s:=λhz=>h.1.2 h1 S R hR hw hz
    cases c
    ·refine â (fin λb σ' m' s' q T S'=>?_)
     cases b
     ·exact ih h.2 h2 S' (R.step T) hR q λb bU tC iX q T' gb=>hq _ _ _ _ q (T.trans T') gb
     ·exact hq _ _ _ _ q T S'
    ·refine Ó (fin λb σ' m' s' q T S'=>?_)
     cases b
     ·exact hq _ _ _ _ q T S'
     ·exact ih h.2 h2 S' (R.step T) hR q λb bU tC iX q T' gb=>hq _ _ _ _ q (T.trans T') gb
theorem yp {c:Bool}{es:Es} (h:jM W C k es):aw W C k (.bW c es)/\jg W C k (.bW c es):=by
 constructor
 ·intro y m σ s env l A Er Q Q' ho S R hR hw hq
  replace ho:=E8 ho
  refine lk ho λop xs pos ho=>?_
  replace ho:=bf ho
  exact aU ho λh1 ho=>aa (kO h1) (G1 (c:=c) h ho S R hR hw hq)
 ·intro y m σ s env l A Er Q Q' ho S R hR hw hq
  replace ho:=E8 ho
  refine lk ho λop xs pos ho=>?_
  replace ho:=bf ho
  exact aU ho λh1 ho=>aa (kO h1) (wpAny_isTrue_BoolOp (G3 (c:=c) h ho S R hR hw hq))
theorem Dm {es:Es} (h:oX W C k es):aw W C k (.list es):=by
 exact λy m σ s env l A Er Q Q' ho S R hR hw hq=>uW (Fb ho) λxs pos ho=>Uk (Vi (Uk (h ho S R hR hw λvs σ' m' s' us q T S' rs=>aU (bp q) λhl q=>x9 S' rs hl λtC iX nV gb r=>hq _ _ _ _ _ q (T.trans nV) gb r)))
theorem G4 {es:Es} (h:oX W C k es):aw W C k (.tup es):=by
 exact λy m σ s env l A Er Q Q' ho S R hR hw hq=>lk (zO ho) λxs cx pos ho=>Uk (Vi (Uk (h ho S R hR hw λvs σ' m' s' us q T S' rs=>aU (bp q) λhl q=>vo S' rs (Ut hl ((Ui rfl))) λiX nV gb r=>hq _ _ _ _ _ q (T.trans nV) gb r)))
def PR (h:U1) (m:Mem) (N:Nat):List (V×V)->List (Uo×Uo)->Prop
 | [],l=>l=[]
 | p::ps,l=>∃q r,l=q::r/\VR h m N p.1 q.1/\VR h m N p.2 q.2/\PR h m N ps r
theorem PR.mono {h h':U1}{m m':Mem}{N N':Nat} (ht:∀a l k,TupAt h m a l k->TupAt h' m' a l k) (hm:∀n,n<N->m'.ad n=m.ad n) (hN:N<=N'):
 ∀ {x:List (V×V)}{v:List (Uo×Uo)},PR h m N x v->PR h' m' N' x v:=by
 intro z9;induction z9 with
 | nil=>intro v e;exact e
 | cons x xs ih=>
  intro v e
  exact qc e λi r b p1 p2 q=>Ih i r b (VR.mono ht hm hN p1) (VR.mono ht hm hN p2) (ih q)
theorem vD {A:UO}{Er:Uo->Um->Prop}{m:Mem}{N:Nat}{d:UN} (hu:A.units+6<VN):∀ {ps:List (V×V)}{vs:List (Uo×Uo)}{ds AO:List (V×V)}{s:Um}{Q:PUnit->Um->Prop},DictAt W.w m N s.heap d ds->PR s.heap m N ps vs->putAll ds ps=some AO->ds.length+ps.length<=dj->
 (∀h' t,Vh d s.heap h'->DictAt W.w m N h' d AO->AO.length<=ds.length+ps.length->Q PUnit.unit {s with heap:=h',toks:=t})->UC (UG W.prog W.w) A (ř d vs) Q Er s:=by
 intro z9;induction z9 with
 | nil=>
  intro vs ds AO s Q D r hp hl q
  subst r
  injection hp with z0;subst z0
  exact Us (q s.heap s.toks (.refl _ _) D ((Ux _)))
 | cons p ps ih=>
  intro vs ds AO s Q D r hp hl q
  refine qc r λi vs z1 h1 h2 hr=>?_;clear r;subst z1
  dsimp only [putAll] at hp
  split at hp
  ·rename_i hk
   delta ř
   refine aa (Xh ..) (Uk (Uk (mL D ((Vz ‹_›)) hk h1 h2 (aJ (Y2 _ _) Z0 (.n 10000000) (.a Z0 (.s Z1)) (.n 10000000) hl rfl) λh' t sb ⟨es,kk,hd,dr⟩=>Us (eQ D.ex λRh k0 G5 U=>?_))))
   have ht:∀b l k,TupAt s.heap m b l k->TupAt h' m b l k:=λb l k e=>⟨by
    exact (sb.2 b (by rintro rfl;have e:=e.get;rw [G5] at e;simp at e)).trans e.get,e.own⟩
   have xR:=jK ds p.1 p.2
   exact ih (s:={s with heap:=h',toks:=t}) (ds:=dput ds p.1 p.2) ⟨(jo es kk hd dr),kR D.pS,oV D.vm hk,D.nm⟩ (hr.mono ht (λU U=>rfl) (Ux _)) hp (aJ (Y3 _ _ _) (.a Z0 Z1) (.n 10000000) (.a (.a Z2 (.s Z1)) Z0) (.a (.n 10000000) (.s Z2)) (Uq hl xR) rfl) λND t' Ri D' zd=>q ND t' (sb.trans Ri) D' (aJ (Y4 _ _ _ _) Z0 (.a Z1 (.s Z2)) (.a Z3 Z0) (.a (.s Z1) (.a Z3 Z2)) (Uq xR zd) rfl)
  ·contradiction
def AP (W:Wd) (C:bz) (k:Nat) (ps:Ps):Prop:=∀⦃ks:List (Option Ul)⦄ ⦃xs:List Ul⦄ ⦃m:Mem⦄ ⦃σ:St⦄ ⦃s:Um⦄ ⦃env:WO⦄ ⦃l:Loc⦄ ⦃A:UO⦄ ⦃Er:Uo->Um->Prop⦄ ⦃Q:K1 (List (V×V))⦄ ⦃Q':List (Uo×Uo)->Um->Prop⦄ ⦃pos:V'⦄,
 CZ W.has env.scope.names ps ks xs=true->aB W m σ s.heap->bK W m σ.next s.heap env l->cT k A->M7 C ps l σ Q->
 (∀v σ' m' s' u,Q v σ'->Step W d8 m σ.next s m' σ'.next s'->aB W m' σ' s'.heap->PR s'.heap m' σ'.next v u->Q' u s')->UC (UG W.prog W.w) A (evalPairs (pairTrees ks xs env pos)) Q' Er s
theorem Fz:AP W C k .nil:=by
 exact λks xs m σ s env l A Er Q Q' pos ho S R hR hw hq=>aU (bf ho) λh1 h2=>aa (oK h1) (evalPairs_nil (hq [] σ m s [] hw .refl S rfl))
theorem G6 {e e':E}{r:Ps} (he:aw W C k e) (wK:aw W C k e') (hr:AP W C k r):AP W C k (.cons e e' r):=by
 intro ks xs m σ s env l A Er Q Q' pos ho S R hR hw hq
 cases ks with
 | nil=>contradiction
 | cons kx ks=>
  cases kx with
  | none=>contradiction<;>cases ho
  | some kx=>
   cases xs with
   | nil=>contradiction
   | cons x xs=>
    exact eg (eX ho) λh1 h2 h3=>evalPairs_cons (he h1 S R hR hw λv az m₁ aj u q T aM ru=>Uk (wK h2 aM (R.step T) hR q λv' cZ m₂ bJ u' q aA aW NC=>Uk (Vi (Us (hr h3 aW ((R.step T).step aA) hR q λvs AQ xQ kn us q cm cX rs=>hq _ _ _ _ _ q ((T.trans aA).trans cm) cX ⟨(u,u'),us,rfl,cm.vr (aA.vr ru),cm.vr NC,rs⟩)))))
theorem oY {hs:Fn->Bool}{sc:Sc}:∀ {ps:Ps}{ks:List (Option Ul)}{xs:List Ul},CZ hs sc ps ks xs=true->ks.all (·.isSome)=true/\ks.length=xs.length
 | .nil,ks,xs,h=>by exact aa (oK (bf h).1) (aa (oK (bf h).2) ⟨rfl,rfl⟩)
 | .cons k v r,some _::ks,_::xs,h=>by
  exact aU (oY (ps:=r) (eX h).2.2) λa b=>⟨by trivial,by simp [b]⟩
theorem wU (F:Facts W D) {ps:Ps} (h:AP W C k ps):aw W C k (.dict ps):=by
 refine λy m σ s env l A Er Q Q' ho S R hR hw hq=>lk (Fd ho) λks xs pos ho=>aU (bf ho) λhlen ho=>?_
 have hu:=(aJ (Y2 _ _) (.s (.a Z0 (.n 6))) (.n 9900) (.s (.a (.a Z0 (.m 10 Z1)) (.n 65))) (.n 9900) hR.2.2 rfl)
 refine aU (S.grown (h':=s.heap.push (jD [] 0)) (tk:=s.toks) (λb o e=>Uv _ e)) λAR NF=>?_
 have fin:∀ {r:List (V×V)}{az:St}{m₁:Mem}{aj:Um}{us:List (Uo×Uo)},(aC (putAll [] r) λd=>bA az r.length (.dict d) Q)->Step W d8 m σ.next {s with heap:=s.heap.push (jD [] 0)} m₁ az.next aj->aB W m₁ az aj.heap->PR aj.heap m₁ az.next r us->
  UC (UG W.prog W.w) A (ř s.heap.objs.size us) (λU bJ=>Q' (.ref s.heap.objs.size) bJ) Er aj:=λ{r az m₁ aj us} q T aM rs=>by
  refine aN (ai q) λd hd q=>aU (bp q) λhv q=>?_
  have nl:¬Lv s.heap s.heap.objs.size:=λ⟨o,e⟩=>absurd (Vt e) (WX _)
  have vd:m.own s.heap.objs.size=none:=by
   cases e:m.own s.heap.objs.size with
   | none=>rfl
   | some n=>exact absurd (S.fresh _ n e) nl
  have nb:¬Lv W.base s.heap.objs.size:=λ⟨o,e⟩=>nl ⟨o,S.base _ _ e⟩
  have Kb:(s.heap.push (jD [] 0)).get? s.heap.objs.size=some (jD [] 0):=UK s.heap rfl
  have qw:=T.keep _ _ Kb vd (λf=>f)
  have bX:m₁.own s.heap.objs.size=none:=by exact (T.own _ ⟨_,Kb⟩ (λf=>f)).trans vd
  refine vD hu (m:=m₁) (N:=az.next) (ds:=[]) ⟨(jo ([]) 0 qw rfl),Vr,(λp hp=>nomatch hp),λe=>nb (aa e F.mods)⟩ rs hd (by simp;trivial) λh' t sb D' zd=>eQ D'.ex λes kk JA uT=>?_
  obtain ⟨m',T',S',e⟩:=aB.adopt (o:=.dict d) (d:=s.heap.objs.size) (h':=h') (tk:=t) (AR.trans T) aM (λb hb=>hb.elim) nl nb ⟨_,JA⟩ bX sb (λl k e=>by rw [qw] at e;simp at e) (λl k e=>by rw [JA] at e;simp at e)
   λm' hm ht=>⟨es,kk,JA,uT.mono ht hm (US _),by simp at zd;exact aJ (Y2 _ _) Z0 (.n 10000000) (.a Z1 Z0) (.a (.n 10000000) Z1) (Uq hv zd) rfl,D'.pS,D'.vm⟩
  exact hq _ _ _ _ _ q T' S' (b7.mpr ⟨Uw _,(congrArg _ e.symm)⟩)
 by_cases h0:ks=[]
 ·subst h0
  cases ps with
  | cons _ _ _=>contradiction
  | nil=>
   cases xs with
   | cons _ _=>contradiction
   | nil=>
    refine wpAny_Dict_empty ?_
    have Rj:aC (putAll [] []) λd=>bA σ ([]:List (V×V)).length (.dict d) Q:=hw
    refine aN (ai Rj) λd hd q=>?_
    injection hd with z0;subst z0
    exact i5 (S.EZ (o:=.dict []) (ob:=jD [] 0) (tk:=s.toks) rfl rfl λh' m' hm ht hg=>⟨[],0,hg,rfl,U3 _,Vr,λp hp=>nomatch hp⟩) λm' T' S' e=>hq _ _ _ _ _ q T' S' (b7.mpr ⟨Uw _,(congrArg _ e.symm)⟩)
 ·exact aU (oY ho) λgD hl=>wpAny_Dict_any gD hl h0 (of_decide_eq_true hlen) (h ho NF (R.step AR) hR hw λr az m₁ aj us q T aM rs=>fin q T aM rs)
end
end
end Mine.Internal
namespace Mine.Internal
noncomputable section
open PySem PySem.W PyProof.Rows PySem.SeqAt
structure lR (W:Wd) (A:UO) (it:Uo) (g:Gd) (tp:Bool) (X:UN->Prop) (J:Mem->Nat->U1->List V->Prop) (M:Mem->Nat->U1->Uo->List V->Prop):Prop where
 self:∀ {m N s vs Er Q},J m N s.heap vs->Q it s->UC (UG W.prog W.w) A (Zs it) Q Er s
 step:∀ {Y m N s m' N' s' vs},J m N s.heap vs->Step W Y m N s m' N' s'->(∀b,Y b->¬X b)->J m' N' s'.heap vs
 done:∀ {m σ s Er Q},J m σ.next s.heap []->aB W m σ s.heap->g.ok σ=true->(∀s',Step W X m σ.next s m σ.next s'->aB W m σ s'.heap->Q none s')->UC (UG W.prog W.w) A (pyNext it) Q Er s
 next:∀ {m σ s v r Er Q},J m σ.next s.heap (v::r)->aB W m σ s.heap->g.ok σ=true->(∀u s',Step W X m σ.next s m σ.next s'->aB W m σ s'.heap->VR s'.heap m σ.next v u->M m σ.next s'.heap u r->Q (some u) s')->UC (UG W.prog W.w) A (pyNext it) Q Er s
 go:∀ {m σ s u r Er Q} (tg:Ul),M m σ.next s.heap u r->aB W m σ s.heap->(tp=true->∃es c p,tg=.Tuple es c p)->(∀s',Step W X m σ.next s m σ.next s'->aB W m σ s'.heap->J m σ.next s'.heap r->Q () s')->UC (UG W.prog W.w) A (ZM tg it u) Q Er s
section
variable {W:Wd}{D:Fn->Option (List Nm×Ss)}{C:bz}{k:Nat}{m:Mem}{σ:St}{s:Um}{A:UO}{Er:Uo->Um->Prop}
noncomputable def G7 (it a:UN):ä Unit:=do
 let o ← load it
 match o.cls,o.data with
 | .type n,.fields vs=>
  if ["enumerate","zip","dict_itemiterator","dict_reverseitemiterator","odict_iterator","itertools.zip_longest","itertools.pairwise"].contains n&&vs[0]? ==some (ZW a) then
   rule "for.unpacks-the-owned-tuple"
   updateField it 0 .none
 | _,_=>pure ()
theorem wV {tg:Ul}{it:UN}{u:Uo}{P:ä Unit->Prop} (h:∀a,P (G7 it a)) (k:P (pure ())):P (ZM tg (.ref it) u):=by
 cases tg with
 | Tuple a b c=>cases u with
  | ref a=>exact h a
  | _=>exact k
 | List a b=>cases u with
  | ref a=>exact h a
  | _=>exact k
 | _=>exact k
theorem oZ {tg:Ul}{it:UN}{o:ć}{u:Uo}{n:String}{vs:Array Uo}{Q:Unit->Um->Prop} (h:s.heap.get? it=some o) (hc:o.cls=.type n) (hd:o.data=.fields vs) (hn:["enumerate","zip","dict_itemiterator","dict_reverseitemiterator","odict_iterator","itertools.zip_longest","itertools.pairwise"].contains n=false)
 (q:Q () s):UC (UG W.prog W.w) A (ZM tg (.ref it) u) Q Er s:=by
 refine wV (P:=λp=>UC (UG W.prog W.w) A p Q Er s) (λa=>Uk (ZU h (w2 hc hd ?_))) (Us q)
 dsimp only
 exact aa hn ((Us q))
def JL (W:Wd) (ia:UN) (n:Nat) (full:List V) (m:Mem) (N:Nat) (h:U1) (vs:List V):Prop:=
 ∃i,vs=full.drop i/\h.IsListIter ia (m.ad n) i/\m.own ia=none/\¬Lv W.base ia/\n<N
theorem AS (hA:A.handled=none) {ia:UN}{n:Nat}{full:List V}:lR W A (.ref ia) (.obj n (.list full)) false (λb=>b=ia) (JL W ia n full) (λm N h u r=>JL W ia n full m N h r) where
 self:=λj q=>by obtain ⟨_,_,hit,_⟩:=j;exact wpAny_pyIter_listiter hit q
 step:=λ{Y m N s m' N' s' vs} j T hY=>by
  obtain ⟨i,rfl,⟨o,ho,hc,hd⟩,bX,hb,hn⟩:=j
  have hy:=λy=>hY _ y rfl
  exact ⟨i,rfl,⟨o,T.keep _ _ ho bX hy,hc,by rw [(T.ad n hn).1];exact hd⟩,by rw [T.own _ ⟨_,ho⟩ hy];exact bX,hb,UM hn T.le⟩
 done:=λ{m σ s Er Q} j S hg q=>by
  obtain ⟨i,hv,hit,bX,hb,hn⟩:=j
  have Ao:=of_decide_eq_true hg
  obtain ⟨is,kk,ha,hr,hl⟩:=S.obj _ _ Ao
  have hlen:=hr.length
  have hi:full.length<=i:=by
   have:=congrArg VA hv
   simp only [Xg,Wg] at this;lia
  exact wpAny_pyNext_list_end (items:=is.toArray) hA hit ⟨_,ha,rfl,kk,rfl⟩ (by exact List.getElem?_toArray.trans (gL Wk (aJ (Y3 _ _ _) Z0 Z1 (.a Z0 Z2) (.a Z2 Z1) (Uq (UI hlen) hi) rfl))) λh' hs=>i5 hit λo ho hc hd=>aU (S.dP (X:=λb=>b=ia) (tk:=s.toks) bX hb rfl hs (λl k e=>by rw [ho] at e;injection e with z0;subst z0;simp at hc)) λT S'=>q _ T S'
 next:=λ{m σ s v r Er Q} j S hg q=>by
  refine ET j λi hv hit bX hb hn=>eh (S.obj _ _ (of_decide_eq_true hg)) λis kk ha hr hl=>?_
  have o1:full[i]? =some v:=by
   have:=congrArg (λl=>l[0]?) hv
   simpa using this.symm
  have lS:r=full.drop (i+1):=by
   simpa using (congrArg (λl=>l.drop 1) hv)
  exact aN (hr.get o1) λu hu ru=>wpAny_pyNext_list_item (items:=is.toArray) hit ⟨_,ha,rfl,kk,rfl⟩ (List.getElem?_toArray.trans hu) λh' pT hs=>i5 hit λo ho hc hd=>aU (S.dP (X:=λb=>b=ia) (tk:=s.toks) bX hb rfl hs.extBut (λl k e=>by rw [ho] at e;injection e with z0;subst z0;simp at hc)) λT S'=>q u _ T S' (T.vr ru) ⟨i+1,lS,pT,bX,hb,hn⟩
 go:=λ{m σ s u r Er Q} tg j S _ q=>by
  exact i5 j λi U z1 U=>i5 z1 λo ho hc hd=>oZ ho hc hd (by rfl) (q s .refl S j)
theorem tD {Q:Uo->Um->Prop} (hA:A.handled=none) (S:aB W m σ s.heap) {n:Nat}{xs:List V}{u:Uo} (hg:σ.get n=some (.list xs)) (hv:VR s.heap m σ.next (.ref n) u)
 (q:∀it s' X J M,Step W d8 m σ.next s m σ.next s'->aB W m σ s'.heap->lR W A it (.obj n (.list xs)) false X J M->(∀m N h u r,M m N h u r->J m N h r)->J m σ.next s'.heap xs->(∀b,X b->¬Lv s.heap b/\Lv s'.heap b)->Q it s'):UC (UG W.prog W.w) A (Zs u) Q Er s:=by
 exact zl (S.list (v:=.ref n) (p:=(n,xs)) (aZ hg) hv) λis k z1 ha hr hl U=>aa z1 (eg (cH S) λnl nb no=>aU (S.grown (h':=s.heap.push {cls:=.type "list_iterator",data:=.fields #[.ref (m.ad n),.int 0 0]}) (tk:=s.toks) (λb o e=>Uv _ e)) λT S'=>Zf (items:=is.toArray) ⟨_,ha,rfl,k,rfl⟩ (q _ _ _ _ _ T S' (AS hA) (λU U U U U h=>h) ⟨0,rfl,⟨_,UK _ rfl,rfl,rfl⟩,no,nb,(b7.mp hv).1⟩ λb hb=>aa hb ⟨nl,_,UK _ rfl⟩))
def JT (W:Wd) (ia ta:UN) (full:List V) (m:Mem) (N:Nat) (h:U1) (vs:List V):Prop:=
 ∃i is k,vs=full.drop i/\h.IsTupleIter ia ta i/\m.own ia=none/\¬Lv W.base ia/\TupAt h m ta is k/\LR h m N full is
theorem Kc (hA:A.handled=none) {ia ta:UN}{full:List V}:lR W A (.ref ia) .free false (λb=>b=ia) (JT W ia ta full) (λm N h u r=>JT W ia ta full m N h r) where
 self:=λj q=>by obtain ⟨_,_,_,_,hit,_⟩:=j;exact wpAny_pyIter_tupleiter hit q
 step:=λ{Y m N s m' N' s' vs} j T hY=>by
  obtain ⟨i,is,k,rfl,⟨o,ho,hc,hd⟩,bX,hb,ht,hr⟩:=j
  have hy:=λy=>hY _ y rfl
  exact ⟨i,is,k,rfl,⟨o,T.keep _ _ ho bX hy,hc,hd⟩,by rw [T.own _ ⟨_,ho⟩ hy];exact bX,hb,T.tup _ _ _ ht,T.lr hr⟩
 done:=λ{m σ s Er Q} j S hg q=>by
  obtain ⟨i,is,kk,hv,hit,bX,hb,ht,hr⟩:=j
  have hlen:=hr.length
  have hi:full.length<=i:=by
   have:=congrArg VA hv
   simp only [Xg,Wg] at this;lia
  exact wpAny_pyNext_tuple_end (items:=is.toArray) hA hit ⟨_,ht.get,rfl,kk,rfl⟩ (by exact List.getElem?_toArray.trans (gL Wk (aJ (Y3 _ _ _) Z0 Z1 (.a Z0 Z2) (.a Z2 Z1) (Uq (UI hlen) hi) rfl))) λh' hs=>i5 hit λo ho hc hd=>aU (S.dP (X:=λb=>b=ia) (tk:=s.toks) bX hb rfl hs (λl k e=>by rw [ho] at e;injection e with z0;subst z0;simp at hc)) λT S'=>q _ T S'
 next:=λ{m σ s v r Er Q} j S hg q=>by
  refine LV j λi is kk hv hit bX hb ht hr=>?_
  have o1:full[i]? =some v:=by
   have:=congrArg (λl=>l[0]?) hv
   simpa using this.symm
  have lS:r=full.drop (i+1):=by
   simpa using (congrArg (λl=>l.drop 1) hv)
  exact aN (hr.get o1) λu hu ru=>wpAny_pyNext_tuple_item (items:=is.toArray) hit ⟨_,ht.get,rfl,kk,rfl⟩ (List.getElem?_toArray.trans hu) λh' pT hs=>i5 hit λo ho hc hd=>aU (S.dP (X:=λb=>b=ia) (tk:=s.toks) bX hb rfl hs.extBut (λl k e=>by rw [ho] at e;injection e with z0;subst z0;simp at hc)) λT S'=>q u _ T S' (T.vr ru) ⟨i+1,is,kk,lS,pT,bX,hb,T.tup _ _ _ ht,T.lr hr⟩
 go:=λ{m σ s u r Er Q} tg j S _ q=>by
  exact mA j λi U U U z1 U=>i5 z1 λo ho hc hd=>oZ ho hc hd (by rfl) (q s .refl S j)
theorem wW {Q:Uo->Um->Prop} (hA:A.handled=none) (S:aB W m σ s.heap) {v:V}{xs:List V}{u:Uo} (hx:v.items=some xs) (hv:VR s.heap m σ.next v u)
 (q:∀it s' X J M,Step W d8 m σ.next s m σ.next s'->aB W m σ s'.heap->lR W A it .free false X J M->(∀m N h u r,M m N h u r->J m N h r)->J m σ.next s'.heap xs->(∀b,X b->¬Lv s.heap b/\Lv s'.heap b)->Q it s'):UC (UG W.prog W.w) A (Zs u) Q Er s:=by
 refine mA (iT.mp (aR (d6 hx) hv)) λa k is z1 ha hr=>?_;exact aa z1 (eg (cH S) λnl nb no=>aU (S.grown (h':=s.heap.push {cls:=.type "tuple_iterator",data:=.fields #[.ref a,.int 0 0]}) (tk:=s.toks) (λb o e=>Uv _ e)) λT S'=>č (items:=is.toArray) ⟨_,ha.get,rfl,k,rfl⟩ (q _ _ _ _ _ T S' (Kc hA) (λU U U U U h=>h) ⟨0,is,k,rfl,⟨_,UK _ rfl,rfl,rfl⟩,no,nb,T.tup _ _ _ ha,T.lr hr⟩ λb hb=>aa hb ⟨nl,_,UK _ rfl⟩))
end
end
end Mine.Internal
namespace Mine.Internal
noncomputable section
open PySem PySem.W PyProof.Rows PySem.SeqAt
def PM (h:U1) (m:Mem) (N:Nat):Fl->Ľ->Prop
 | .next,.next=>True
 | .ret v,.ret u=>VR h m N v u
 | _,_=>False
def o2 (W:Wd) (env:WO) (m:Mem) (σ:St) (s:Um) (Q:Fl->Loc->St->Prop) (Q':Ľ->Um->Prop):Prop:=
 ∀fl l' σ' m' s' pf,Q fl l' σ'->Step W (f9 env) m σ.next s m' σ'.next s'->aB W m' σ' s'.heap->bK W m' σ'.next s'.heap env l'->PM s'.heap m' σ'.next fl pf->Q' pf s'
def kU (W:Wd) (C:bz) (k:Nat) (b:S):Prop:=∀⦃x:UQ⦄ ⦃m:Mem⦄ ⦃σ:St⦄ ⦃s:Um⦄ ⦃env:WO⦄ ⦃l:Loc⦄ ⦃A:UO⦄ ⦃Er:Uo->Um->Prop⦄ ⦃Q:Fl->Loc->St->Prop⦄ ⦃Q':Ľ->Um->Prop⦄,
 L8 W.has env.scope.names b x=true->aB W m σ s.heap->bK W m σ.next s.heap env l->cT k A->wpS C b l σ Q->o2 W env m σ s Q Q'->UC (UG W.prog W.w) A (exec x env) Q' Er s
def pU (W:Wd) (C:bz) (k:Nat) (b:Ss):Prop:=∀⦃xs:List UQ⦄ ⦃m:Mem⦄ ⦃σ:St⦄ ⦃s:Um⦄ ⦃env:WO⦄ ⦃l:Loc⦄ ⦃A:UO⦄ ⦃Er:Uo->Um->Prop⦄ ⦃Q:Fl->Loc->St->Prop⦄ ⦃Q':Ľ->Um->Prop⦄,
 pR W.has env.scope.names b xs=true->aB W m σ s.heap->bK W m σ.next s.heap env l->cT k A->aG C b l σ Q->o2 W env m σ s Q Q'->UC (UG W.prog W.w) A (execs xs env) Q' Er s
def r6 (W:Wd) (C:bz) (k:Nat) (i:It) (tp:Bool):Prop:=∀⦃x:Ul⦄ ⦃m:Mem⦄ ⦃σ:St⦄ ⦃s:Um⦄ ⦃env:WO⦄ ⦃l:Loc⦄ ⦃A:UO⦄ ⦃Er:Uo->Um->Prop⦄ ⦃Q:K1 (List V×Gd)⦄ ⦃Q':Uo->Um->Prop⦄,
 ze W.has env.scope.names i x=true->aB W m σ s.heap->bK W m σ.next s.heap env l->cT k A->pN C i l σ Q->
 (∀p σ' m' s' it X J M,Q p σ'->Step W d8 m σ.next s m' σ'.next s'->aB W m' σ' s'.heap->lR W A it p.2 tp X J M->(tp=false->∀m N h u r,M m N h u r->J m N h r)->J m' σ'.next s'.heap p.1->(∀b,X b->¬Lv s.heap b/\Lv s'.heap b)->Q' it s')->
 UC (UG W.prog W.w) A (WZ x env) (λv aj=>UC (UG W.prog W.w) A (Zs v) Q' Er aj) Er s
section
variable {W:Wd}{D:Fn->Option (List Nm×Ss)}{C:bz}{k:Nat}{m:Mem}{σ:St}{s:Um}{A:UO}{Er:Uo->Um->Prop}{env:WO}{l:Loc}
theorem bK.live (R:bK W m σ.next s.heap env l):∀b,f9 env b->Lv s.heap b:=λb hb=>by
 rcases hb with rfl | ⟨n,hn⟩
 ·obtain ⟨mm,⟨o,_,_,ho,_⟩,_⟩:=R.ns
  exact ⟨o,ho⟩
 ·obtain ⟨⟨o,ob,e,_⟩,_⟩:=R.cell _ _ hn
  exact ⟨ob,e⟩
theorem bK.over {X:UN->Prop}{m':Mem}{N':Nat}{s':Um} (R:bK W m σ.next s.heap env l) (T:Step W X m σ.next s m' N' s') (hX:∀b,f9 env b->¬X b):bK W m' N' s'.heap env l:=by
 refine aN R.ns λmm hn hv=>?_
 have kc:∀n c,env.cells.lookup n=some c->∀o,s.heap.IsCell c o->s'.heap.IsCell c o:=λn c hc o ⟨ob,e,d⟩=>⟨ob,T.keep c ob e (R.cell n c hc).2.1 (hX _ (Vw ⟨n,hc⟩)),d⟩
 refine ⟨R.kind,R.glob,R.mI,(i12 mm ?_ (λx v a b=>?_)),λn c hc=>?_,λx v a b=>?_,R.has,R.above,R.inj,?_⟩
 ·exact nL hn λo es ep ho r=>⟨o,es,ep,T.keep _ _ ho R.free.1 (hX _ (VT rfl)),r⟩
 ·exact aN (hv x v a b) λu e r=>i12 u e (T.vr r)
 ·exact eg (R.cell n c hc) λz1 b c'=>bb z1 λo a=>fc ⟨o,kc n c hc o a⟩ ((T.own c (by exact aN a λob e U=>⟨_,e⟩) (hX _ (Vw ⟨n,hc⟩))).trans b) c'
 ·exact eh (R.s6 x v a b) λc u e f r=>i6 c u e (kc _ _ e _ f) (T.vr r)
 ·exact ⟨(nL hn λol U U uS U=>(T.own _ ⟨_,uS⟩ (hX _ (VT rfl))).trans R.free.1),R.free.2⟩
theorem G8 {it:Uo}{g:Gd}{X:UN->Prop}{J:Mem->Nat->U1->List V->Prop}{M:Mem->Nat->U1->Uo->List V->Prop} (I:lR W A it g false X J M) (hM:∀m N h u r,M m N h u r->J m N h r):
 ∀ {vs:List V}{s:Um}{Q:List Uo->Um->Prop},J m σ.next s.heap vs->aB W m σ s.heap->g.ok σ=true->(∀us s',Step W X m σ.next s m σ.next s'->aB W m σ s'.heap->LR s'.heap m σ.next vs us->J m σ.next s'.heap []->Q us s')->UC (UG W.prog W.w) A (draw it vs.length) Q Er s:=by
 intro z9;induction z9 with
 | nil=>intro s Q j S hg q;exact Us (q [] s .refl S rfl j)
 | cons v r ih=>
  intro s Q j S hg q
  exact Uk (I.next j S hg λu s' T S' ru mm=>Uk (UH (ih (hM _ _ _ _ _ mm) S' hg λus iX T' gb rs j'=>Us (q (u::us) iX (T.trans T') gb ⟨u,us,rfl,T'.vr ru,rs⟩ j'))))
theorem tE {it:Uo}{g:Gd}{X:UN->Prop}{J:Mem->Nat->U1->List V->Prop}{M:Mem->Nat->U1->Uo->List V->Prop}{vs:List V}{Q:List Uo->Um->Prop} (I:lR W A it g false X J M) (hM:∀m N h u r,M m N h u r->J m N h r)
 (j:J m σ.next s.heap vs) (S:aB W m σ s.heap) (hg:g.ok σ=true) (q:∀us s',Step W X m σ.next s m σ.next s'->aB W m σ s'.heap->LR s'.heap m σ.next vs us->Q us s'):
 UC (UG W.prog W.w) A (do
  let items ← Zi [it] (draw it vs.length)
  if items.length<vs.length then
   rule "unpack.too-few";raiseError "ValueError" s!"not enough values to unpack (expected {vs.length}, got {items.length})"
  if (← Zi items (pyNext it)).isSome then
   rule "unpack.too-many";raiseError "ValueError" s!"too many values to unpack (expected {vs.length})"
  return items) Q Er s:=by
 exact Uk (UH (G8 I hM j S hg λus s' T S' rs j'=>aa (if_neg (by exact aa rs.length (WX _))) (Uk (UH (I.done j' S' hg λiX T' gb=>Us (q us iX (T.trans T') gb (T'.lr rs)))))))
set_option tactic.hygienic true in
theorem o3 {v:V}{u:Uo}{vs:List V}{Q:List Uo->Um->Prop} (hA:A.handled=none) (S:aB W m σ s.heap) (hx:gV σ v=some vs) (hv:VR s.heap m σ.next v u)
 (q:∀us s',Step W d8 m σ.next s m σ.next s'->aB W m σ s'.heap->LR s'.heap m σ.next vs us->Q us s'):UC (UG W.prog W.w) A (unpackItems u vs.length none) Q Er s:=by
 have tup:v.items=some vs->UC (UG W.prog W.w) A (unpackItems u vs.length none) Q Er s:=λhx=>by
  refine mA (S.tup hx hv) λa is kk z1 ha hr=>?_;cases z1
  exact Uk (Uk (WG (T:="tuple") ⟨_,ha,rfl⟩ PySem.F.slot_tuple_iter.lookup (Us (Uk (UH (wW hA S hx hv λit s' X J M T S' I hM j hX=>tE I hM j S' rfl λus iX T' gb rs=>q us iX (T.close T' λb hb=>(hX b hb).1) gb rs))))))
 cases v with
 | ref n=>
  have hg:=xP hx
  ·clear tup
   refine qc (S.list (v:=.ref n) (p:=(n,vs)) (aZ hg) hv) λis kk z2 ha hr U=>?_;subst z2
   exact Uk (Uk (WG (T:="list") ⟨_,ha,rfl⟩ PySem.F.slot_list_iter.lookup (Us (Uk (UH (tD hA S hg hv λit s' X J M T S' I hM j hX=>tE I hM j S' (decide_eq_true hg) λus iX T' gb rs=>q us iX (T.close T' λb hb=>(hX b hb).1) gb rs))))))
 | nil=>exact tup hx
 | cons _ _=>exact tup hx
 | none=>contradiction
 | bool _=>contradiction
 | int _=>contradiction
 | str _=>contradiction
theorem kV {id:Uz}{p:V'}{x:Nm}{v:V}{u:Uo}{Q:Unit->Um->Prop} (hk:(id==x.str&&qi env.scope.names x)=true) (S:aB W m σ s.heap) (R:bK W m σ.next s.heap env l) (hv:VR s.heap m σ.next v u)
 (q:∀s',Step W (f9 env) m σ.next s m σ.next s'->aB W m σ s'.heap->bK W m σ.next s'.heap env (l.set x v)->Q () s'):UC (UG W.prog W.w) A (Ė (.Name id p) env u) Q Er s:=by
 rw [UE,beq_iff_eq] at hk
 exact MU hk λhk=>Uk (Vi (zK S R hv (tv hk) q))
theorem o4:∀ {xs:List Nm}{es:List Ul}{vs:List V}{us:List Uo}{l l':Loc}{s:Um}{Q:Unit->Um->Prop},vc env.scope.names xs es=true->bq xs vs l=some l'->aB W m σ s.heap->bK W m σ.next s.heap env l->LR s.heap m σ.next vs us->
 (∀s',Step W (f9 env) m σ.next s m σ.next s'->aB W m σ s'.heap->bK W m σ.next s'.heap env l'->Q () s')->UC (UG W.prog W.w) A (ŭ ((ZY es env).map (·.2)) us) Q Er s:=by
 intro xs;induction xs with
 | nil=>intro es vs us l l' s Q ho hb S R hr q;clear hr;cases es with
  | cons e es=>exact ff ho
  | nil=>cases vs with
   | cons v vs=>exact fg hb
   | nil=>exact Us (q s .refl S (Uu hb▸R))
 | cons x xs ih=>intro es vs us l l' s Q ho hb S R hr q;cases es with
  | nil=>exact ff ho
  | cons e es=>cases vs with
   | nil=>exact fg hb
   | cons v vs=>
    exact eh hr λu us z1 h1 h2=>aa z1 (aU (bf ho) λIv Rk=>uW (ja Iv) λid p Iv=>Uk (UH (kV Iv S R h1 λs' T S' R'=>ih Rk hb S' R' (T.lr h2) λiX T' gb AU=>q iX (T.trans T') gb AU)))
theorem o5:∀ {xs:List Nm}{es:List Ul},vc env.scope.names xs es=true->(ZY es env).length=xs.length/\(ZY es env).findIdx? (·.1)=none:=by
 intro z9;induction z9 with
 | nil=>
  intro y;cases y with
  | nil=>exact λU=>⟨rfl,rfl⟩
  | cons U U=>exact λh=>ff h
 | cons x xs ih=>
  intro y0;cases y0 with
  | nil=>exact λh=>ff h
  | cons e es=>
   refine λh=>eQ (ja (bf h).1) λid p z1 U=>aa z1 (aU (ih (bf h).2) λa b=>⟨by show (ZY es env).length+1=_;exact congrArg _ a,?_⟩)
   refine List.findIdx?_cons.trans (aa b ?_);rfl
theorem AV {t:Tg}{tg:Ul}{v:V}{u:Uo}{l':Loc}{Q:Unit->Um->Prop} (hA:A.handled=none) (ho:Ni env.scope.names t tg=true) (hb:kB t v l=some l') (S:aB W m σ s.heap) (R:bK W m σ.next s.heap env l) (hv:VR s.heap m σ.next v u)
 (q:∀s',Step W (f9 env) m σ.next s m σ.next s'->aB W m σ s'.heap->bK W m σ.next s'.heap env l'->Q () s'):UC (UG W.prog W.w) A (Ė tg env u) Q Er s:=by
 cases t with
 | one x=>
  refine eQ (ja ho) λid p z1 hn=>aa z1 ?_
  injection hb with z0;subst z0
  exact kV hn S R hv q
 | many xs=>
  refine lk (zO ho) λes c p ho=>aN (Option.bind_eq_some_iff.mp hb) λvs hx hb=>aU (o5 ho) λh1 h2=>aa (ĵ ..) ?_
  delta unpack
  refine w2 h1 h2 (aR (cP hb) ?_)
  have Rl:gV σ v=some vs:=by cases v<;>first | exact hx | contradiction
  exact Uk (Vi (Uk (UH (o3 hA S Rl hv λus s' T S' rs=>o4 ho hb S' (R.step T) rs λiX T' gb AU=>q iX (T.weaken.trans T') gb AU))))
end
end
end Mine.Internal
namespace Mine.Internal
noncomputable section
open PySem PySem.W PyProof.Rows PySem.SeqAt
section
variable {W:Wd}{D:Fn->Option (List Nm×Ss)}{C:bz}{k:Nat}{m:Mem}{σ:St}{s:Um}{A:UO}{Er:Uo->Um->Prop}{env:WO}{l:Loc}
inductive FL (W:Wd) (C:bz) (env:WO) (J:Mem->Nat->U1->List V->Prop) (X:UN->Prop) (g:Gd) (t:Tg) (b:Ss) (Q:Fl->Loc->St->Prop) (m:Mem) (σ:St) (s:Um) (n:Nat) (s':Um):Prop
 | mk (vs:List V) (l:Loc) (σ':St) (m':Mem) (hn:vs.length=n) (T:Step W (λb=>f9 env b\/X b) m σ.next s m' σ'.next s') (S:aB W m' σ' s'.heap) (E:bK W m' σ'.next s'.heap env l) (j:J m' σ'.next s'.heap vs) (hw:forL g t (λl σ Q=>aG C b l σ Q) vs l σ' Q)
theorem yq {g:Gd}{tp:Bool}{X:UN->Prop}{J:Mem->Nat->U1->List V->Prop}{M:Mem->Nat->U1->Uo->List V->Prop}{it:Uo}{t:Tg}{tg:Ul}{b:Ss}{body:List UQ}{Q:Fl->Loc->St->Prop}{R:Ö->Um->Prop}{vs:List V}
 (I:lR W A it g tp X J M) (NG:tp=true->∃es c p,tg=.Tuple es c p) (hb:pU W C k b) (Iw:Ni env.scope.names t tg=true) (NH:pR W.has env.scope.names b body=true) (hR:cT k A) (hX:∀b,f9 env b->¬X b)
 (S:aB W m σ s.heap) (E:bK W m σ.next s.heap env l) (j:J m σ.next s.heap vs) (hw:forL g t (λl σ Q=>aG C b l σ Q) vs l σ Q)
 (hq:∀fl l' σ' m' s' pf,Q fl l' σ'->Step W (λb=>f9 env b\/X b) m σ.next s m' σ'.next s'->aB W m' σ' s'.heap->bK W m' σ'.next s'.heap env l'->PM s'.heap m' σ'.next fl pf->R (.ok pf) s'):
 YK (UG W.prog W.w) A (.forLoop tg it body [] env) R s:=by
 refine codeAny_forLoop_any (FL W C env J X g t b Q m σ s) ?_ vs.length ⟨vs,l,σ,m,rfl,.refl,S,E,j,hw⟩
 intro n aj h
 cases h with | mk vs l az m₁ hn T aM Kd Ke eM=>
 cases vs with
 | nil=>
  have eM:=bE eM
  exact I.done Ke aM eM.1 λbJ aA aW=>Ys (hq _ _ _ _ _ _ eM.2 (T.trans (aA.wide λb h=>Vw h)) aW (Kd.over aA hX) trivial)
 | cons v r=>
  have eM:=bE eM
  refine I.next Ke aM eM.1 λu bJ aA aW ru mm=>?_
  have T:=T.trans (aA.wide λb h=>Vw h)
  refine I.go tg mm aW NG λkn cm cX NI=>?_
  have T:=T.trans (cm.wide λb h=>Vw h)
  refine (ai eM.2).elim λl' h=>AV hR.1 Iw h.1 cX ((Kd.over aA hX).over cm hX) (cm.vr ru) λAW nP rY NJ=>?_
  have T:=T.trans (nP.wide λb h=>VT h)
  refine hb NH rY NJ hR h.2 λfl Im wX Dn Dp pf q vE yt Kf hf=>?_
  have T:=T.trans (vE.wide λb h=>VT h)
  cases fl with
  | next=>
   cases pf with
   | next=>exact ⟨r.length,aR hn (Uw _),r,Im,wX,Dn,rfl,T,yt,Kf,(I.step (I.step NI nP hX) vE hX),q⟩
   | _=>exact hf.elim
  | ret v'=>
   cases pf with
   | ret u'=>exact hq _ _ _ _ _ (.ret u') q T yt Kf hf
   | _=>exact hf.elim
theorem AX (env:WO) (v:Uo) {x:Ul}:jG x=true->ĥ x env v=pure v:=
 @UT (λx=>jG x=true->ĥ x env v=pure v) x (λU U U h=>rfl) (λU U U h=>rfl) (λU U U U h=>rfl) (λU U U h=>rfl) (λU U U U h=>rfl) (λU U U U h=>rfl) (λU U U h=>rfl) (λU U U h=>ff h) (λU U U U h=>rfl) (λU U U U h=>rfl) (λU U U U U h=>rfl) (λU U U U h=>rfl) (λU U h=>rfl) (λU U h=>rfl) (λU U h=>rfl) (λU U U U h=>rfl) (λU U U U h=>rfl) (λU U U U h=>rfl) (λU U h=>rfl) (λU U U h=>rfl) (λU U U h=>rfl) (λU U U h=>rfl) (λU U h=>rfl) (λU U h=>rfl) (λU U h=>rfl) (λU U U h=>rfl) (λU U U U h=>rfl)
theorem tF {hs:Fn->Bool}{sc:Sc}{i:It}{y:Ul} (h:ze hs sc i y=true):jG y=true:=by
 cases i with
 | of e=>exact (bf h).1
 | range e=>refine jm (fP h) λU U U U z1 U=>aa z1 ?_;rfl
 | zip a b=>refine QU (zY h) λU U U U U z2 U=>aa z2 ?_;rfl
 | items o=>refine jm (kD h) λU U U U z3 U=>aa z3 ?_;rfl
theorem ig {t:Tg}{i:It}{b:Ss}{tp:Bool} (hi:r6 W C k i tp) (hb:pU W C k b) (NG:tp=true->∃xs,t=.many xs):kU W C k (.for t i b):=by
 refine λx m σ s env l A Er Q Q' ho S R hR hw hq=>QX (Nf ho) λtg iter body Rm pos ho=>?_
 replace ho:=bf ho
 obtain ⟨h1,ho⟩:=ho
 refine aa (oK h1) (eg (eX ho) λIw AY NH=>wpAny_For (hi AY S R hR hw λp σ' m' s' it X J M q T S' I U j hX=>yq I (λh=>bb (NG h) λxs z3=>?_) hb Iw NH hR (λb hb hx=>(hX b hx).1 (R.live b hb)) S' (R.step T) j q λfl l' bU tC iX pf q' T' gb Rn hf=>hq _ _ _ _ _ _ q' (T.weaken.Jg T' λb hb=>(hX b hb).1) gb Rn hf) (λx=>AX env x (tF AY)));subst z3
 exact nL (zO Iw) λU U U z4 U=>aa z4 (Pm _ _ _ rfl)
set_option tactic.hygienic true in
theorem Kg {e:E} (he:aw W C k e):r6 W C k (.of e) false:=by
 refine λx m σ s env l A Er Q Q' ho S R hR hw hq=>he (bf ho).2 S R hR hw λv az m₁ aj u q T aM ru=>aN (ai q) λp hp q=>?_
 have tup:v.items.map (λl=>(l,Gd.free))=some p->UC (UG W.prog W.w) A (Zs u) Q' Er aj:=λh=>by
  refine aN (Option.map_eq_some_iff.mp h) λxs hx z1=>?_;subst z1
  exact wW hR.1 aM hx ru λit s' X J M T' S' I hM j hX=>hq _ _ _ _ _ X J M q (T.trans T') S' I (λU=>hM) j λb hb=>⟨λlv=>(hX b hb).1 (T.live b lv λf=>f),(hX b hb).2⟩
 cases v with
 | ref n=>
  refine aN (wB hp) λxs hg z0=>?_
  ·subst z0
   exact tD hR.1 aM hg ru λit s' X J M T' S' I hM j hX=>hq _ _ _ _ _ X J M q (T.trans T') S' I (λU=>hM) j λb hb=>⟨λlv=>(hX b hb).1 (T.live b lv λf=>f),(hX b hb).2⟩
 | _=>exact tup hp
def JR (W:Wd) (ia:UN) (n:Nat) (m:Mem) (N:Nat) (h:U1) (vs:List V):Prop:=
 ∃i,i<=n/\vs=((VG n).drop i).map (λ(j:Nat)=>V.int (j:Int))/\IsRangeIter h ia i ((n - i:Nat):Int) 1/\m.own ia=none/\¬Lv W.base ia
theorem Dq (hA:A.handled=none) {ia:UN}{n:Nat}:lR W A (.ref ia) .free false (λb=>b=ia) (JR W ia n) (λm N h u r=>JR W ia n m N h r) where
 self:=λj q=>by obtain ⟨_,_,_,hit,_⟩:=j;exact wpAny_pyIter_rangeiter hit q
 step:=λ{Y m N s m' N' s' vs} j T hY=>by
  obtain ⟨i,hi,rfl,ho,bX,hb⟩:=j
  have hy:=λy=>hY _ y rfl
  exact ⟨i,hi,rfl,T.keep _ _ ho bX hy,by rw [T.own _ ⟨_,ho⟩ hy];exact bX,hb⟩
 done:=λ{m σ s Er Q} j S hg q=>by
  obtain ⟨i,hi,hv,hit,bX,hb⟩:=j
  have:n - i=0:=by
   have:=congrArg VA hv
   simp only [UD,Wg,YN] at this;exact Ya (aJ (Y1 _) Z0 (.n 0) Z0 (.n 0) (UI this.symm) rfl) (uO (Y1 _) (.n 0) Z0 rfl)
  exact wpAny_pyNext_range_end hA hit (by lia) λh' hs=>aU (S.dP (X:=λb=>b=ia) (tk:=s.toks) bX hb rfl hs (λl k e=>by rw [hit] at e;simp at e)) λT S'=>q _ T S'
 next:=λ{m σ s v r Er Q} j S hg q=>by
  refine ET j λi hi hv hit bX hb=>?_;clear j
  have zg:i<n:=by
   have:=congrArg VA hv
   simp only [Vm,UD,Wg,YN] at this;lia
  have hd:(VG n).drop i=i::(VG n).drop (i+1):=by
   refine (Zz (by simpa using zg)).trans ?_;simp
  rw [hd,UX,Ç] at hv
  refine aU hv λz1 z2=>?_;clear hv;subst z1;subst z2
  refine wpAny_pyNext_range_item hit (by lia) λh' pT hs=>aU (S.dP (X:=λb=>b=ia) (tk:=s.toks+1) bX hb rfl hs.extBut (λl k e=>by rw [hit] at e;simp at e)) λT S'=>q _ _ T S' (ey _ _) ⟨i+1,zg,rfl,?_,bX,hb⟩
  have e1:((i:Int)+1)=((i+1:Nat):Int):=by rfl
  have e2:(((n - i:Nat):Int) - 1)=((n - (i+1):Nat):Int):=by lia
  rw [e1,e2] at pT
  exact pT
 go:=λ{m σ s u r Er Q} tg j S _ q=>by
  exact za j λi U U ho U=>oZ ho rfl rfl (by rfl) (q s .refl S j)
noncomputable def AZ (n:Int) (t k:Nat):ć:={cls:=.type "range",data:=.fields #[.int 0 k,.int n t,.int 1 (k+1)]}
noncomputable def Kh (n:Nat):ć:={cls:=.type "range_iterator",data:=.fields #[ZW 0,ZW n,ZW 1]}
theorem Dr (hA:A.handled=none) {n:Int}{t:Nat} (hl:n<=10000000) (zd:-10000000<=n) (S:aB W m σ s.heap) {Q':Uo->Um->Prop}
 (q:∀s',Step W d8 m σ.next s m σ.next s'->aB W m σ s'.heap->JR W (s.heap.objs.size+1) n.toNat m σ.next s'.heap (mF n)->Lv s'.heap (s.heap.objs.size+1)->Q' (.ref (s.heap.objs.size+1)) s'):
 UC (UG W.prog W.w) A (Zs (.ref s.heap.objs.size)) Q' Er {s with heap:=s.heap.push (AZ n t s.toks),toks:=s.toks+1+1}:=by
 refine wpAny_pyIter_range (IsRange.new ..) (small_one ((of_decide_eq_true rfl)) ((of_decide_eq_true rfl)) (Int.le_trans ((of_decide_eq_true rfl)) zd) (Int.lt_of_le_of_lt hl ((of_decide_eq_true rfl)))) ?_
 have hsz:Ł 0 n 1=((n.toNat:Nat):Int):=by refine (rangeSize_one ..).trans ?_<;>lia
 refine w2 hsz (VH ..) ?_
 have a:=S.grown (h':=(s.heap.push (AZ n t s.toks)).push (Kh n.toNat)) (tk:=s.toks+1+1) (λb o e=>Uv _ (Uv _ e))
 have e:=UK (s.heap.push (AZ n t s.toks)) (o:=Kh n.toNat) rfl
 rw [VH] at e
 have f:=cH (s:={s with heap:=s.heap.push (AZ n t s.toks)}) (S.grown (h':=s.heap.push (AZ n t s.toks)) (tk:=0) (λb o e=>Uv _ e)).2
 rw [VH] at f
 exact q _ a.1 a.2 ⟨0,U3 _,rfl,by exact e,f.2.2,f.2.1⟩ ⟨_,e⟩
theorem A3 (F:Facts W D) {e:E} (he:aw W C k e):r6 W C k (.range e) false:=by
 refine λy m σ s env l A Er Q Q' ho S R hR hw hq=>AJ F he ho (by decide) (by kernel_rfl) (by decide) (.inr ⟨"range",rfl⟩) S R hR hw λv cZ m₂ bJ u q aA aW r'=>(ai q).elim λn h=>?_
 have q:=bE h.2
 have hb:=q.1
 rw [UE,decide_eq_true_eq,decide_eq_true_eq] at hb
 refine bb (bx.mp (aR (yf h.1) r')) λt z1=>?_;refine aa z1 ?_
 exact call_range_1 (Dr hR.1 hb.1 hb.2 aW λs' T S' j lv=>hq (mF n,.free) cZ m₂ s' _ _ _ _ q.2 (aA.trans T) S' (Dq hR.1 (n:=n.toNat)) (λU U U U U U h=>h) j λb hb=>by
  exact aa hb ⟨λlv=>(aA.live _ lv λf=>f).elim λU e=>absurd (Vt e) (ü (US _)),lv⟩)
end
end
end Mine.Internal
namespace Mine.Internal
noncomputable section
open PySem PySem.W PyProof.Rows PySem.SeqAt
section
variable {W:Wd}{D:Fn->Option (List Nm×Ss)}{C:bz}{k:Nat}{m:Mem}{σ:St}{s:Um}{A:UO}{Er:Uo->Um->Prop}{env:WO}{l:Loc}
def Good (env:WO) (cl:List (Uz×UN)):Prop:=∀n c,cl.lookup n=some c->env.cells.lookup n=some c
theorem tG {body:Uz×Yk->List (Uz×UN)->ä (ForInStep (List (Uz×UN)))}
 (hb:∀n kd acc,body (n,kd) acc=if (kd==Vv)=true then (ĕ env n>>=λa=>pure (VI ((n,a)::acc))) else pure (VI acc)):
 ∀(names:List (Uz×Yk)) (acc:List (Uz×UN)),(∀p∈names,p.2=.free->∃c,env.cells.lookup p.1=some c)->Good env acc->
  ∃cl,forIn names acc body=pure cl/\Good env cl/\(∀p∈names,p.2=.free->∃c,cl.lookup p.1=some c)/\∀n c,acc.lookup n=some c->∃c',cl.lookup n=some c':=by
 intro z9;induction z9 with
 | nil=>exact λacc U hg=>Ig acc rfl hg (λU h=>nomatch h) (λn c h=>⟨c,h⟩)
 | cons y r ih=>
  intro acc hn hg;obtain ⟨n,kd⟩:=y
  refine aa (Xh ..) (aa (hb ..) ?_)
  by_cases hk:(kd==Vv)=true
  ·refine bb (hn (n,kd) (Ur) (by simpa using hk)) λc hc=>?_
   have Ao:Good env ((n,c)::acc):=λn' c' h=>by
    rw [Vc] at h
    by_cases e:n'=n
    ·clear hn;subst e;simp at h;exact aR h hc
    ·rw [beq_eq_false_iff_ne.mpr e] at h;exact hg _ _ h
   refine za (ih ((n,c)::acc) (λp hp=>hn p (by simp [hp])) Ao) λcl e g f1 f2=>Ig cl ?_ g (λp hp hf=>?_) (λn' c' h=>?_)
   ·refine aa (if_pos hk) ?_
    have:ĕ env n=pure c:=by delta ĕ;exact aa hc rfl
    rw [this,pure_bind,pure_bind];exact e
   ·rcases List.mem_cons.mp hp with rfl | hp
    ·exact f2 n c (by simp)
    ·exact f1 p hp hf
   ·by_cases e':n'=n
    ·subst e';exact f2 n' c (by simp)
    ·exact f2 n' c' (by exact List.lookup_cons.trans (aa (beq_eq_false_iff_ne.mpr e') h))
  ·refine za (ih acc (λp hp=>hn p (by simp [hp])) hg) λcl e g f1 f2=>Ig cl ?_ g (λp hp hf=>?_) f2
   ·exact aa (if_neg hk) (e)
   ·rcases List.mem_cons.mp hp with rfl | hp
    ·exact absurd (by simpa using hf) hk
    ·exact f1 p hp hf
theorem yu {scope:ZC} (hn:∀p∈scope.names,p.2=.free->∃c,env.cells.lookup p.1=some c):∃cl,closureFor scope env=pure cl/\Good env cl/\∀p∈scope.names,p.2=.free->∃c,cl.lookup p.1=some c:=by
 obtain ⟨cl,e,g,f,_⟩:=tG (env:=env) (body:=λx cs=>match x with
  | (name,kind)=>if (kind==Vv)=true then (ĕ env name>>=λa=>pure (VI ((name,a)::cs))) else pure (VI cs)) (λn kd acc=>rfl) scope.names [] hn (λU U h=>nomatch h)
 refine uP cl ?_ g f
 have:closureFor scope env=(forIn scope.names [] (λx cs=>match x with
  | (name,kind)=>if (kind==Vv)=true then (ĕ env name>>=λa=>pure (VI ((name,a)::cs))) else pure (VI cs))>>=λcs=>pure cs):=by
  first | rfl | (congr 1<;>rfl) | skip
 refine this.trans (aa e ?_);rfl
theorem vF {M:Z9}{x:Nm}{v:V}{u:Uo}{Q:Unit->Um->Prop} (S:aB W m σ s.heap) (R:bK W m σ.next s.heap env l) (hv:VR s.heap m σ.next v u) (hk:env.kindOf x.str=some .local)
 (q:∀s',Step W (λb=>b=env.locals) m σ.next s m σ.next s'->aB W m σ s'.heap->bK W m σ.next s'.heap env (l.set x v)->Q () s'):UC M A (storeName env x.str u) Q Er s:=by
 refine aN R.ns λmm hn hm=>mA hn λol es ep uS xR U=>á hk hn (λh' u3 hs=>?_) (aa R.kind rfl)
 have sZ:∀l k,s.heap.get? env.locals≠some (cw l k):=λl k e=>by rw [uS] at e;injection e with z0;subst z0;contradiction
 refine aU (S.s7 (X:=λb=>b=env.locals) (tk:=s.toks+1) R.free.1 R.free.2 rfl hs sZ) λT S'=>q _ T S' ⟨R.kind,R.glob,R.mI,(i12 _ u3 (λy w a b=>?_)),λn c hc=>?_,λy w a b=>?_,R.has,R.above,R.inj,R.free⟩
 ·unfold Loc.set at a
  by_cases e:y=x
  ·subst e;rw [if_pos rfl] at a;injection a with z0;subst z0;exact i12 u (by simp) (T.vr hv)
  ·replace a:=(if_neg e)▸a
   exact aN (hm y w a b) λu' p r=>i12 u' ((if_neg (λz=>e (str_inj z))).trans p) (T.vr r)
 ·exact eg (R.cell n c hc) λz1 b c'=>bb z1 λo a=>fc ⟨o,a.sameBut hs c'⟩ b c'
 ·unfold Loc.set at a
  by_cases e:y=x
  ·subst e;replace b:=hk▸b<;>contradiction
  ·replace a:=(if_neg e)▸a
   exact eh (R.s6 y w a b) λc u' p f r=>i6 c u' p (f.sameBut hs (R.cell _ _ p).2.2) (T.vr r)
theorem Ds (y:Nm):y.str≠(".0":Uz):=(by decide+kernel:∀y:Nm,y.str≠(".0":Uz)) y
theorem jN {env:WO}:∀ {names:List (Uz×Yk)}{n:Uz},(names.map λ(n,k)=>if (k==Vv&&env.scope.kind==.function&&env.kindOf n==some .cell) then (n,Yj) else (n,k)).lookup n=
 (names.lookup n).map λk=>if (k==Vv&&env.scope.kind==.function&&env.kindOf n==some .cell) then Yj else k:=by
 intro names n;induction names with
 | nil=>rfl
 | cons p r ih=>
  obtain ⟨n',k⟩:=p
  show List.lookup n ((if (k==Vv&&env.scope.kind==.function&&env.kindOf n'==some .cell)=true then (n',Yj) else (n',k))::_)=_
  by_cases e:n=n'
  ·subst e
   by_cases hc:(k==Vv&&env.scope.kind==.function&&env.kindOf n==some .cell)=true
   ·exact aa (if_pos hc) (w2 Vc Vc (aa (beq_self_eq_true ..) (aa (YW ..) (aa (if_pos hc) rfl))))
   ·exact w2 Vc (if_neg hc) (List.lookup_cons.trans (aa (beq_self_eq_true ..) (aa (YW ..) (aa (if_neg hc) rfl))))
  ·have e':=beq_eq_false_iff_ne.mpr e
   by_cases hc:(k==Vv&&env.scope.kind==.function&&env.kindOf n'==some .cell)=true
   ·exact aa (if_pos hc) (List.lookup_cons.trans (aa Vc (aa e' ih)))
   ·exact aa (if_neg hc) (List.lookup_cons.trans (aa Vc (aa e' ih)))
noncomputable def kW (names:List (Uz×Yk)) (l:Loc):Loc:=λy=>if names.lookup y.str=some .local then UB else l y
set_option tactic.hygienic true in
theorem A5 {x:Nm}{scope:ZC}{cl:List (Uz×UN)}{L:UN} (R:bK W m σ.next s.heap env l) (ho:oN env.scope.names x scope=true) (hg:Good env cl) (hf:∀p∈scope.names,p.2=.free->∃c,cl.lookup p.1=some c)
 (hL:s.heap.Ns L (λU=>none)) (bX:m.own L=none) (hb:¬Lv W.base L) (wJ:∀b,f9 env b->b≠L):bK W m σ.next s.heap (YH scope cl L env) (kW scope.names l):=by
 delta oN at ho
 rw [UE,UE,beq_iff_eq,YY] at ho
 refine aU ho λz1 gD=>aU z1 λwY U=>?_
 have key:∀n kd,(YH scope cl L env).kindOf n=some kd->(kd=.local/\scope.names.lookup n=some .local)\/kd=.globalImplicit\/(scope.names.lookup n=some .free/\(env.kindOf n=some .cell\/env.kindOf n=some .free)/\(kd=.cell->env.kindOf n=some .cell)/\∃c,cl.lookup n=some c):=by
  intro n kd h
  have h1:(Ô scope env).names.lookup n=some kd:=h
  refine aN (Option.map_eq_some_iff.mp (jN.symm.trans h1)) λk0 h2 h3=>?_
  have hp:=gD _ (Vd h2)
  rw [UE] at hp
  have PO:=hp.2
  simp only [VC,UE,beq_iff_eq] at PO
  rcases PO with (⟨e,_⟩ | e) | ⟨e,hc⟩
  ·left;subst e;exact ⟨h3.symm,h2⟩
  ·right;left;cases e;exact h3.symm
  ·right;right;subst e
   refine zk h2 hc (λIy=>?_) (hf _ (Vd h2) rfl)
   by_cases q:((Vv==Vv)&&env.scope.kind==.function&&env.kindOf n==some .cell)=true
   ·rw [UE,beq_iff_eq (a:=env.kindOf n)] at q;exact q.2
   ·rw [if_neg q] at h3;rw [← h3] at Iy;exact nomatch Iy
 refine ⟨wY,R.glob,R.mI,(i12 _ hL (λy w a b=>?_)),λn c hc=>?_,λy w a b=>?_,λn hn=>?_,λn c hk hc=>?_,λn n' c h h'=>?_,bX,hb⟩
 ·rcases key _ _ b with ⟨_,h⟩ | h | ⟨_,_,_,_⟩
  ·simp only [kW,h,if_true] at a;exact nomatch a
  ·contradiction
  ·rename_i h _ _ _
   rcases key _ _ b with ⟨_,h'⟩ | h' | ⟨h',_⟩
   ·rw [h] at h';contradiction
   ·contradiction
   ·have h1:(Ô scope env).names.lookup y.str=some .local:=b
    delta Ô at h1
    rw [jN,h] at h1
    simp only [YW,Yi] at h1
    split at h1<;>contradiction
 ·have CF:=hg n c hc
  exact eg (R.cell n c CF) λa b d=>fc a b (wJ c (Vw ⟨n,CF⟩))
 ·have hk:scope.names.lookup y.str=some .free/\(env.kindOf y.str=some .cell\/env.kindOf y.str=some .free)/\∃c,cl.lookup y.str=some c:=by
   refine b.elim (λb=>?_) λb=>?_<;>(rcases key _ _ b with ⟨h,_⟩ | h | ⟨h1,h2,_,h3⟩<;>first | (contradiction) | exact fc h1 h2 h3)
  obtain ⟨h1,h2,c,h3⟩:=hk
  refine eh (R.s6 y w (by simpa [kW,h1] using a) h2) λc' u e f r=>?_
  have:=hg _ _ h3
  rw [e] at this;cases this
  exact i6 c u h3 f r
 ·refine hn.elim (λb=>?_) λb=>?_<;>(rcases key _ _ b with ⟨h,_⟩ | h | ⟨_,_,_,h3⟩<;>first | (contradiction) | exact h3)
 ·rcases key _ _ hk with ⟨h,_⟩ | h | ⟨_,_,h2,_⟩
  ·contradiction
  ·contradiction
  ·exact R.above n c (h2 rfl) (hg _ _ hc)
 ·exact R.inj n n' c (hg _ _ h) (hg _ _ h')
end
end
end Mine.Internal
namespace Mine.Internal
noncomputable section
open PySem PySem.W PyProof.Rows PySem.SeqAt
section
variable {W:Wd}{D:Fn->Option (List Nm×Ss)}{C:bz}{k:Nat}{m:Mem}{σ:St}{s:Um}{A:UO}{Er:Uo->Um->Prop}{env:WO}{l:Loc}
noncomputable abbrev tH (env:WO):Ul->Bool->ä (ForInStep Bool):=λc r=>if r=true then do let ok ← Y6 c env (WZ c env);pure (VI ok) else pure (VI r)
theorem tI {M:Z9}:∀ {cs:List Ul}{s:Um}{Q:Bool->Um->Prop},Q false s->UC M A (forIn cs false (tH env)) Q Er s:=by
 intro z9;induction z9 with
 | nil=>intro s Q q;exact Us q
 | cons c cs ih=>
  intro s Q q
  exact aa (Xh ..) (Uk (Us (ih q)))
theorem Dt:∀ {es:Es},jM W C k es->∀ {cs:List Ul}{m:Mem}{σ:St}{s:Um}{Q:K1 Bool}{Q':Bool->Um->Prop},f' W.has env.scope.names es cs=true->aB W m σ s.heap->bK W m σ.next s.heap env l->cT k A->uR C es l σ Q->
 (∀b σ' m' s',Q b σ'->Step W d8 m σ.next s m' σ'.next s'->aB W m' σ' s'.heap->Q' b s')->UC (UG W.prog W.w) A (forIn cs true (tH env)) Q' Er s:=by
 intro es h cs;induction cs generalizing es with
 | nil=>
  intro m σ s Q Q' ho S R hR hw hq
  cases es with
  | nil=>exact Us (hq _ _ _ _ hw .refl S)
  | cons _ _=>contradiction
 | cons c cs ih=>
  intro m σ s Q Q' ho S R hR hw hq
  cases es with
  | nil=>contradiction
  | cons e r=>
   refine eg (iW (env:=env) ho) λh1 h2 U=>aa (Xh ..) (Uk (Uk (h.1.2 (Q:=λb σ=>match b with | true=>uR C r l σ Q | false=>Q false σ) h1 S R hR hw λb σ' m' s' q T S'=>Us ?_)))
   cases b with
   | true=>exact ih h.2 h2 S' (R.step T) hR q λb bU tC iX q T' gb=>hq _ _ _ _ q (T.trans T') gb
   | false=>exact tI (hq _ _ _ _ q T S')
structure CS (W:Wd) (env:WO) (J:Mem->Nat->U1->List V->Prop) (d:UN) (m:Mem) (σ:St) (s:Um) (l₀:Loc) (vs acc:List V) (is:List Uo) (kk:Nat):Prop where
 S:aB W m σ s.heap
 E:bK W m σ.next s.heap env l₀
 j:J m σ.next s.heap vs
 hd:s.heap.get? d=some (fh is kk)
 ha:LR s.heap m σ.next acc is
 ho:m.own d=none
theorem CS.over {X:UN->Prop}{J J':Mem->Nat->U1->List V->Prop}{d:UN}{l₀ o6:Loc}{vs ws acc:List V}{is:List Uo}{kk:Nat}{m':Mem}{σ':St}{s':Um} (c:CS W env J d m σ s l₀ vs acc is kk) (T:Step W X m σ.next s m' σ'.next s') (hX:¬X d)
 (S:aB W m' σ' s'.heap) (E:bK W m' σ'.next s'.heap env o6) (j:J' m' σ'.next s'.heap ws):CS W env J' d m' σ' s' o6 ws acc is kk:=
 ⟨S,E,j,T.keep _ _ c.hd c.ho hX,T.lr c.ha,(T.own _ ⟨_,c.hd⟩ hX).trans c.ho⟩
theorem CS.step {J:Mem->Nat->U1->List V->Prop}{it:Uo}{g:Gd}{X:UN->Prop}{M:Mem->Nat->U1->Uo->List V->Prop} (I:lR W A it g false X J M) {d:UN}{l₀:Loc}{vs acc:List V}{is:List Uo}{kk:Nat}{m':Mem}{σ':St}{s':Um} (c:CS W env J d m σ s l₀ vs acc is kk) (T:Step W d8 m σ.next s m' σ'.next s')
 (S:aB W m' σ' s'.heap):CS W env J d m' σ' s' l₀ vs acc is kk:=
 c.over T (λf=>f) S (c.E.step T) (I.step c.j T (λU hb=>hb.elim))
inductive CL (W:Wd) (C:bz) (env:WO) (l:Loc) (J:Mem->Nat->U1->List V->Prop) (X:UN->Prop) (g:Gd) (x:Nm) (ifs:Es) (e:E) (d:UN) (Q:K1 (List V)) (m:Mem) (σ:St) (s:Um) (n:Nat) (s':Um):Prop
 | mk (vs:List V) (l₀:Loc) (σ':St) (m':Mem) (acc:List V) (is:List Uo) (kk:Nat) (hn:vs.length=n) (T:Step W (λb=>b=env.locals\/X b\/b=d) m σ.next s m' σ'.next s') (c:CS W env J d m' σ' s' l₀ vs acc is kk)
  (hl:∀v,l₀.set x v=l.set x v) (Md:acc.length<=dj) (hw:gx g (.one x) (λl σ Q=>uR C ifs l σ Q) (λl σ Q=>aK C e l σ Q) l vs acc σ' Q)
theorem set_set (l:Loc) (x:Nm) (v v':V):(l.set x v).set x v'=l.set x v':=by
 funext y;simp only [Loc.set];split<;>rfl
theorem vG {g:Gd}{X:UN->Prop}{J:Mem->Nat->U1->List V->Prop}{M:Mem->Nat->U1->Uo->List V->Prop}{it:Uo}{x:Nm}{px pos:V'}{iter elt:Ul}{cs:List Ul}{scope:ZC}{e:E}{ifs:Es}{Q:K1 (List V)}{R:Ö->Um->Prop}{vs:List V}{d:UN}{l₀:Loc}
 (I:lR W A it g false X J M) (hM:∀m N h u r,M m N h u r->J m N h r) (he:aw W C k e) (Ki:jM W C k ifs) (hx:env.kindOf x.str=some .local) (r7:dH W.has env.scope.names e elt=true) (AY:f' W.has env.scope.names ifs cs=true) (hR:cT k A)
 (Me:∀b,f9 env b->¬X b) (Mf:¬f9 env d) (NK:¬X d) (Na:¬Lv W.base d) (Ro:¬X env.locals)
 (S:aB W m σ s.heap) (E:bK W m σ.next s.heap env l₀) (hl:∀v,l₀.set x v=l.set x v) (j:J m σ.next s.heap vs) {acc:List V}{is:List Uo}{kk:Nat} (hd:s.heap.get? d=some (fh is kk)) (NL:LR s.heap m σ.next acc is) (bX:m.own d=none) (Md:acc.length<=dj)
 (hw:gx g (.one x) (λl σ Q=>uR C ifs l σ Q) (λl σ Q=>aK C e l σ Q) l vs acc σ Q)
 (hq:∀ys σ' m' s' js jj,Q ys σ'->Step W (λb=>b=env.locals\/X b\/b=d) m σ.next s m' σ'.next s'->aB W m' σ' s'.heap->(∃mm,s'.heap.Ns env.locals mm)->m'.own env.locals=none->s'.heap.get? d=some (fh js jj)->LR s'.heap m' σ'.next ys js->m'.own d=none->ys.length<=dj->R (.ok .next) s'):
 YK (UG W.prog W.w) A (.compLoop (.ListComp elt [⟨.Name x.str px,iter,cs,0⟩] scope pos) 0 it (.ref d) env) R s:=by
 refine codeAny_compLoop_tests (CL W C env l J X g x ifs e d Q m σ s) ?_ vs.length ⟨vs,l₀,σ,m,acc,is,kk,rfl,.refl,⟨S,E,j,hd,NL,bX⟩,hl,Md,hw⟩
 intro n aj h
 cases h with | mk vs o6 az m₁ acc is kk hn T c₁ Kj vH eM=>
 cases vs with
 | nil=>
  have eM:=bE eM
  refine I.done c₁.j c₁.S eM.1 λbJ aA aW=>?_
  have Du:=c₁.E.over aA Me
  exact Du.ns.elim λmm h=>hq _ _ _ _ _ _ eM.2 (T.trans (aA.wide λb h=>Vw (VT h))) aW ⟨mm,h.1⟩ Du.free.1 (aA.keep _ _ c₁.hd c₁.ho NK) (aA.lr c₁.ha) c₁.ho vH
 | cons v r=>
  have eM:=bE eM
  refine I.next c₁.j c₁.S eM.1 λu bJ aA aW ru mm=>?_
  have c₂:=c₁.over aA NK aW (c₁.E.over aA Me) (hM _ _ _ _ _ mm)
  have TT:=T.trans (aA.wide λb h=>Vw (VT h))
  refine Uk (Vi (Uk (UH (YD (Uk (vF c₂.S c₂.E ru hx λkn cm cX Kk=>YD ?_))))))
  rw [Kj] at Kk
  have G9:=c₂.over cm (λz=>Mf (VT z)) cX Kk (I.step c₂.j cm (λb hb=>aa hb Ro))
  have TT:=TT.trans (cm.wide λb h=>VT h)
  refine Dt (env:=env) Ki AY G9.S G9.E hR eM.2 λb FA Kl AW q nP rY=>?_
  have Dv:=G9.step I nP rY
  have TT:=TT.trans nP.weaken
  cases b with
  | false=>
   exact ⟨r.length,aR hn (Uw _),r,l.set x v,FA,Kl,acc,is,kk,rfl,TT,Dv,set_set l x v,vH,q⟩
  | true=>
   refine he r7 Dv.S Dv.E hR q λy wX Dn Dp w q vE yt aa=>?_
   have o7:=Dv.step I vE yt
   have q:=bp q
   have hz:is.toArray.size<=VD:=by rw [UL,o7.ha.length];exact Ut vH du
   have yv:=o7.S.s7 (X:=λb=>b=d) (tk:=Dp.toks) o7.ho Na rfl (Vu Dp.heap d (Wc λl=>l.push w)) (λl k e=>by rw [o7.hd] at e;simp at e)
   exact Yq Xy ⟨_,o7.hd,rfl⟩ Y' (Y8 _ _) (list_append _ is.toArray kk w hz) ⟨o7.hd,r.length,aR hn (Uw _),r,l.set x v,wX,Dn,acc++ [y],is++ [w],_,rfl,(TT.trans vE.weaken).trans (yv.1.wide λb h=>Vw (Vw h)),
    ⟨yv.2,o7.E.over yv.1 (λb hb z=>Mf (aR z hb)),I.step o7.j yv.1 (λb hb=>by rw [hb];exact NK),by simpa using (Þ (o7.hd) (λl=>l.push w)),(yv.1.lr o7.ha).append (.one (yv.1.vr aa)),o7.ho⟩,set_set l x v,by simpa using q.1,q.2⟩
end
end
end Mine.Internal
namespace Mine.Internal
noncomputable section
open PySem PySem.W PyProof.Rows PySem.SeqAt
section
variable {W:Wd}{D:Fn->Option (List Nm×Ss)}{C:bz}{k:Nat}
theorem qy {use:Option (Uo->ä Unit)}{e:E}{x:Nm}{i:It}{ifs:Es}{elt iter:Ul}{px pos NM:V'}{cs:List Ul}{scope:ZC}{m:Mem}{σ:St}{s:Um}{env:WO}{l:Loc}{A:UO}{Er:Uo->Um->Prop}{Q:K1 V}{Q':Uo->Um->Prop}
 (he:aw W C k e) (hi:r6 W C k i false) (Ki:jM W C k ifs) (Iz:oN env.scope.names x scope=true) (AY:ze W.has env.scope.names i iter=true) (G':f' W.has (qm env.scope.names scope.names) ifs cs=true) (r7:dH W.has (qm env.scope.names scope.names) e elt=true)
 (S:aB W m σ s.heap) (R:bK W m σ.next s.heap env l) (hR:cT k A) (hw:aK C (.comp e (.one x) i ifs) l σ Q)
 (hq:∀v σ' m' s' u C mm,Q v σ'->Step W d8 m σ.next s m' σ'.next s'->aB W m' σ' s'.heap->VR s'.heap m' σ'.next v u->s'.heap.Ns C mm->m'.own C=none->¬Lv W.base C->¬Lv s.heap C->compPost (UG W.prog W.w) A Er use Q' u C (.ok .next) s'):
 UC (UG W.prog W.w) A (Ū (.ListComp elt [⟨.Name x.str px,iter,cs,0⟩] scope pos) scope env NM (newList []) false (WZ iter env) use) Q' Er s:=by
 have Ha:=Iz
 unfold oN at Ha
 rw [UE,UE,beq_iff_eq,beq_iff_eq,YY] at Ha
 refine aU Ha λz1 gD=>aU z1 λwY NN=>?_
 have A6:∀p∈scope.names,scope.names.lookup p.1=some p.2/\((p.2=.local)\/p.2=.globalImplicit\/(p.2=.free/\(env.scope.names.lookup p.1=some .cell\/env.scope.names.lookup p.1=some .free))):=λp hp=>by
  have:=gD p hp
  simp only [UE,VC,beq_iff_eq] at this
  refine ⟨this.1,?_⟩
  rcases this.2 with (⟨h,_⟩ | h) | h
  ·exact VT h
  ·exact Vw (VT h)
  ·exact Vw (Vw h)
 obtain ⟨cl,Km,FC,Kn⟩:=yu (env:=env) (scope:=scope) (λp hp hf=>by
  rcases (A6 p hp).2 with h | h | ⟨_,h⟩
  ·rw [hf] at h;contradiction
  ·rw [hf] at h;contradiction
  ·exact R.has _ h)
 refine wpAny_comprehension_free (use:=use) (g:=⟨.Name x.str px,iter,cs,0⟩) (gs:=[]) rfl (λv=>AX env v (tF AY)) Km wY (λp hp hl=>(((A6 p hp).1).trans (congrArg _ hl))) (hi AY S R hR hw λp az m₁ aj it X J M q T aM I hM j hX=>YU ?_ ((U3 _)))
 refine wpAny_newFunctionEnv (λp hp h=>by rcases (A6 p hp).2 with h' | h' | ⟨h',_⟩<;>(rw [h] at h';contradiction)) (λp hp=>nomatch hp) (λh₁ yw PQ=>?_) wY
 have Ko:(Ô scope env).names=qm env.scope.names scope.names:=by
  delta Ô qm Env.kindOf
  simp only [R.kind,beq_self_eq_true,Wo]
 have Kp:(aj.heap.push (fh [] 0)).objs.size=aj.heap.objs.size+1:=VH ..
 have kp:∀b o,aj.heap.get? b=some o->h₁.get? b=some o:=λb o e=>by
  have:=Vt e
  exact (PQ.2 b (aa Kp (UZ (UR this)))).trans (Uv _ (Uv _ e))
 have nl:∀b,aj.heap.objs.size<=b->¬Lv aj.heap b:=λb hb ⟨o,e⟩=>absurd (Vt e) (Nat.not_lt.mpr hb)
 have nb:∀b,aj.heap.objs.size<=b->¬Lv W.base b:=λb hb ⟨o,e⟩=>nl b hb ⟨o,aM.base _ _ e⟩
 have no:∀b,aj.heap.objs.size<=b->m₁.own b=none:=λb hb=>by
  cases e:m₁.own b with
  | none=>rfl
  | some n=>exact absurd (aM.fresh b n e) (nl b hb)
 have hd:h₁.get? aj.heap.objs.size=some (fh [] 0):=by
  exact (PQ.2 aj.heap.objs.size (aa Kp (UZ (Uw _)))).trans (Uv _ (UK _ rfl))
 have FD:aj.heap.objs.size<=(aj.heap.push (fh [] 0)).objs.size:=by exact aa Kp (US _)
 refine aU (aM.grown (h':=h₁) (tk:=aj.toks+0) kp) λaA aW=>?_
 have vJ:=R.step T
 have Du:bK W m₁ az.next h₁ (YH scope cl (aj.heap.push (fh [] 0)).objs.size env) (kW scope.names l):=
  A5 (vJ.step aA) Iz FC Kn yw (no _ FD) (nb _ FD) λb hb z=>nl b (aa z FD) (vJ.live b hb)
 have wZ:∀b,f9 (YH scope cl (aj.heap.push (fh [] 0)).objs.size env) b->b=(aj.heap.push (fh [] 0)).objs.size\/f9 env b:=λb hb=>by
  rcases hb with rfl | ⟨n,hn⟩
  ·exact VT rfl
  ·exact Vw (Vw ⟨n,FC _ _ hn⟩)
 have Me:∀b,f9 (YH scope cl (aj.heap.push (fh [] 0)).objs.size env) b->¬X b:=λb hb hx=>by
  rcases wZ b hb with rfl | hb
  ·exact nl _ FD (hX _ hx).2
  ·exact (hX b hx).1 (R.live b hb)
 have Mf:¬f9 (YH scope cl (aj.heap.push (fh [] 0)).objs.size env) aj.heap.objs.size:=λhb=>by
  refine (wZ _ hb).elim (λe=>?_) λhb=>?_
  ·rw [Kp] at e;exact absurd e (UZ (Uw _))
  ·exact nl _ (Ux _) (vJ.live _ hb)
 have hl:∀v,(kW scope.names l).set x v=l.set x v:=λv=>by
  funext y
  simp only [Loc.set]
  by_cases e:y=x
  ·exact (if_pos e).trans ((if_pos e).symm)
  ·refine w2 (if_neg e) (if_neg e) ?_
   delta kW
   split
   ·rename_i h
    have:=gD _ (Vd h)
    simp only [UE,VC,beq_iff_eq] at this
    rcases this.2 with (⟨_,h' | h'⟩ | h') | ⟨h',_⟩
    ·exact absurd (str_inj h') e
    ·exact absurd h' (Ds y)
    ·contradiction
    ·contradiction
   ·rfl
 have loop:∀bJ:Um,bJ={aj with heap:=h₁,toks:=aj.toks+0}->YK (UG W.prog W.w) A (.compLoop (.ListComp elt [⟨.Name x.str px,iter,cs,0⟩] scope pos) 0 it (.ref aj.heap.objs.size) (YH scope cl (aj.heap.push (fh [] 0)).objs.size env)) (compPost (UG W.prog W.w) A Er use Q' (.ref aj.heap.objs.size) (aj.heap.push (fh [] 0)).objs.size) bJ:=by
  rintro bJ rfl
  refine vG (l:=l) (l₀:=kW scope.names l) (s:={aj with heap:=h₁,toks:=aj.toks+0}) I (hM rfl) he Ki (lookup_relabel_local NN) (aa Ko r7) (aa Ko G') hR Me Mf (λhx=>nl _ (Ux _) (hX _ hx).2) (nb _ (Ux _)) (λhx=>nl _ FD (hX _ hx).2)
   aW Du hl (I.step j aA λb hb=>hb.elim) hd (show LR h₁ m₁ az.next [] [] from rfl) (no _ (Ux _)) (U3 _) q ?_
  intro ys AQ xQ kn js jj q cm cX ⟨mm,Hb⟩ oL w0 hy od PS
  refine aU (bp q) λhv q=>?_
  have CH:=λb hb lv=>nl b hb (T.live b lv λf=>f)
  have wJ:(aj.heap.push (fh [] 0)).objs.size≠aj.heap.objs.size:=by exact aa Kp (û _)
  obtain ⟨m',T',S',e,ho⟩:=aB.Az (o:=.list ys) (d:=aj.heap.objs.size) (h':=kn.heap) (tk:=kn.toks) (((T.trans aA).weaken).trans cm) cX (λb hb=>by rcases hb with rfl | hb | rfl;exact CH _ FD;exact (hX b hb).1;exact CH _ (Ux _)) (CH _ (Ux _)) (nb _ (Ux _)) ⟨_,w0⟩ od (Xf _ _) (λl k e=>by rw [w0] at e;simp at e) (λl k e=>by rw [w0] at e;simp at e)
   λm' hm ht=>⟨js,jj,w0,(hy.mono ht hm (US _)),hv⟩
  exact hq _ _ _ _ _ _ _ q T' S' (b7.mpr ⟨Uw _,(congrArg _ e.symm)⟩) Hb ((ho _ wJ).trans oL) (nb _ FD) (CH _ FD)
 exact codeAny_compStart_list (loop _ rfl) (I.self (I.step j aA λb hb=>hb.elim) (loop _ rfl))
theorem Dw {e:E}{x:Nm}{i:It}{ifs:Es} (he:aw W C k e) (hi:r6 W C k i false) (Ki:jM W C k ifs):aw W C k (.comp e (.one x) i ifs):=by
 intro y m σ s env l A Er Q Q' ho S R hR hw hq
 replace ho:=rQ ho
 obtain ⟨elt,tg,iter,cs,scope,pos,rfl,ho⟩:=ho
 exact eg (eX ho) λh1 AY h2=>eg (eX h2) λG' hlen r7=>uW (ja h1) λid px h1=>aU (bf h1) λh1 Iz=>aa (kO h1) (qy (use:=none) he hi Ki Iz AY G' r7 S R hR hw λv σ' m' s' u C mm q T S' r yw ho hb hl=>⟨mm,yw,λh' sb=>mA yw λol es ep uS xR U=>aU (S'.dP (X:=λb=>b=C) (tk:=s'.toks) ho hb rfl sb.extBut (λl k e=>by rw [uS] at e;injection e with z0;subst z0;contradiction)) λaA aW=>hq v σ' m' _ u q (T.close aA λb Av=>aa Av hl) aW (aA.vr r)⟩)
end
end
end Mine.Internal
namespace Mine.Internal
noncomputable section
open PySem PySem.W PyProof.Rows PySem.SeqAt
section
variable {W:Wd}{D:Fn->Option (List Nm×Ss)}{C:bz}{k:Nat}
theorem Hc:pU W C k .nil:=by
 exact λxs m σ s env l A Er Q Q' ho S R hR hw hq=>aa (oK ho) (Ys (hq .next l σ m s .next hw .refl S R trivial))
theorem Dx {b:S}{r:Ss} (hb:kU W C k b) (hr:pU W C k r):pU W C k (.cons b r):=by
 intro xs m σ s env l A Er Q Q' ho S R hR hw hq
 cases xs with
 | nil=>contradiction
 | cons x xs=>
  have ho:=bf ho
  refine į (hb ho.1 S R hR hw λfl l' σ' m' s' pf q T S' R' hf=>?_)
  cases fl with
  | next=>
   cases pf with
   | next=>exact hr ho.2 S' R' hR q λfl Im bU tC iX pf q' T' gb AU hf=>hq _ _ _ _ _ _ q' (T.trans T') gb AU hf
   | _=>exact hf.elim
  | ret v=>
   cases pf with
   | ret u=>exact hq (.ret v) _ _ _ _ (.ret u) q T S' R' hf
   | _=>exact hf.elim
theorem ek {e:E} (he:aw W C k e):kU W C k (.ret e):=by
 exact λx m σ s env l A Er Q Q' ho S R hR hw hq=>uW (Jp ho) λv pos ho=>Pq (wI ho) λv ho=>wpAny_Return_some (he ho S R hR hw λv σ' m' s' u q T S' r=>hq (.ret v) _ _ _ _ (.ret u) q T.weaken S' (R.step T) r)
theorem vK:kU W C k .lE:=by
 exact λx m σ s env l A Er Q Q' ho S R hR hw hq=>uW (Jp ho) λv pos ho=>aa (oJ ho) (wpAny_Return_none (hq (.ret .none) l σ m s (.ret .none) hw .refl S R (show VR s.heap m σ.next .none .none from eV.mpr rfl)))
theorem Dy:kU W C k .pass:=by
 exact λx m σ s env l A Er Q Q' ho S R hR hw hq=>aN (Jr ho) λU z1 U=>aa z1 (wpAny_Pass (hq .next l σ m s .next hw .refl S R trivial))
theorem o2.chain {env:WO}{m m₁:Mem}{σ az:St}{s aj:Um}{Q:Fl->Loc->St->Prop}{Q':Ľ->Um->Prop} (T:Step W (f9 env) m σ.next s m₁ az.next aj) (h:o2 W env m σ s Q Q'):o2 W env m₁ az aj Q Q':=
 λfl l' σ' m' s' pf q T' S' R' hf=>h _ _ _ _ _ _ q (T.trans T') S' R' hf
theorem Hd {c:E}{a b:Ss} (hc:jg W C k c) (ha:pU W C k a) (hb:pU W C k b):kU W C k (.ite c a b):=by
 refine λx m σ s env l A Er Q Q' ho S R hR hw hq=>Gn (Q4 ho) λt y z pos ho=>eg (eX ho) λh1 h2 h3=>wpAny_If (hc (Q:=λt σ=>match t with | true=>aG C a l σ Q | false=>aG C b l σ Q) h1 S R hR hw λt σ' m' s' q T S'=>?_)
 cases t with
 | true=>exact ha h2 S' (R.step T) hR q (hq.chain T.weaken)
 | false=>exact hb h3 S' (R.step T) hR q (hq.chain T.weaken)
theorem dJ {c:E}{b:Ss} (hc:jg W C k c) (hb:pU W C k b):kU W C k (.while c b):=by
 refine λx m σ s env l A Er Q Q' ho S R hR hw hq=>Gn (GA ho) λt y Rm pos ho=>aU (bf ho) λh0 ho=>aa (oK h0) (aU (bf ho) λh1 h2=>?_)
 refine wpAny_While (codeAny_whileLoop (λn s'=>∃l' σ' m',Step W (f9 env) m σ.next s m' σ'.next s'/\aB W m' σ' s'.heap/\bK W m' σ'.next s'.heap env l'/\
  oB (λl σ Q=>aK C c l σ λv σ=>aC (bc v) λt=>Q t σ) (λl σ Q=>aG C b l σ Q) n l' σ' Q) ?_ WF (MS l σ m .refl S R hw))
 rintro n aj ⟨o6,az,m₁,jh,aM,vJ,eM⟩
 cases n with
 | zero=>exact eM.elim
 | succ n=>
  refine hc (Q:=λt σ=>match t with | true=>(aG C b o6 σ λf l' σ'=>match f with | .next=>oB (λl σ Q=>aK C c l σ λv σ=>aC (bc v) λt=>Q t σ) (λl σ Q=>aG C b l σ Q) n l' σ' Q | .ret v=>Q (.ret v) l' σ') | false=>Q .next o6 σ) h1 aM vJ hR eM λt cZ m₂ bJ q aA aW=>?_
  cases t with
  | true=>
   refine hb h2 aW (vJ.step aA) hR q λfl NO AQ xQ kn pf q cm cX yx hf=>?_
   have TT:=(jh.trans aA.weaken).trans cm
   cases fl with
   | next=>
    cases pf with
    | next=>exact ⟨n,Uw _,NO,AQ,xQ,TT,cX,yx,q⟩
    | _=>exact hf.elim
   | ret v=>
    cases pf with
    | ret u=>exact hq (.ret v) _ _ _ _ (.ret u) q TT cX yx hf
    | _=>exact hf.elim
  | false=>
   exact Ys (hq .next _ _ _ _ .next q (jh.trans aA.weaken) aW (vJ.step aA) trivial)
end
end
end Mine.Internal
namespace Mine.Internal
noncomputable section
open PySem PySem.W PyProof.Rows PySem.SeqAt
section
variable {W:Wd}{D:Fn->Option (List Nm×Ss)}{C:bz}{k:Nat}
theorem yy {t:Option Ul}{n:Nat}{env:WO}{x:Ul}:rP x=true->Wr x t n env=pure false:=
 @UT (λx=>rP x=true->Wr x t n env=pure false) x (λU U U h=>rfl) (λU U U h=>rfl) (λU U U U h=>rfl) (λU U U h=>rfl) (λU U U U h=>rfl) (λU U U U h=>rfl) (λU U U h=>rfl) (λU U U h=>rfl) (λU U U U h=>ff h) (λU U U U h=>ff h) (λU U U U U h=>ff h) (λU U U U h=>rfl) (λU U h=>rfl) (λU U h=>rfl) (λU U h=>rfl) (λU U U U h=>rfl) (λU U U U h=>rfl) (λU U U U h=>rfl) (λU U h=>rfl) (λU U U h=>rfl) (λU U U h=>rfl) (λU U U h=>rfl) (λU U h=>rfl) (λU U h=>rfl) (λU U h=>rfl) (λU U U h=>rfl) (λU U U U h=>rfl)
theorem Dz {e:E} (he:aw W C k e):kU W C k (.expr e):=by
 refine λx m σ s env l A Er Q Q' ho S R hR hw hq=>uW (Jn ho) λv pos ho=>?_
 have ho:=bf ho
 refine wpAny_Expr_any (he ho.2 S R hR hw λv σ' m' s' u q T S' r=>hq .next l σ' m' s' .next q T.weaken S' (R.step T) trivial) ?_ (yy ho.1)
 delta interactive
 refine aa R.kind ?_
 first | rfl | simp
theorem mP (F:Facts W D) {o i:E} (mO:aw W C k o) (hi:aw W C k i):kU W C k (.del o i):=by
 refine λx m σ s env l A Er Q Q' ho S R hR hw hq=>uW (Ng ho) λts pos ho=>Pq (u7 ho) λt ho=>lk (pQ ho) λq j p ho=>aU (bf ho) λh1 h2=>wpAny_Delete (wpAny_deleteEach_cons (Uk (mO h1 S R hR hw λr az m₁ aj u q T aM ru=>Uk (UH (hi h2 aM (R.step T) hR q λy cZ m₂ bJ w q aA aW aa=>Uk (Vi (Uk (UH (aN (ai q) λp hp q=>aU (bE q) λhk q=>?_)))))))))
 rw [UE] at hk
 refine MP (aW.dict F.big hp (aA.vr ru)) λz4 D' hl hg U=>?_;subst z4
 refine eQ D'.ex λKq NP A7 U=>Nt D' (by have:=hR.2.2;exact aJ (Y2 _ _) (.s (.a Z0 (.n 6))) (.n 9900) (.s (.a (.a Z0 (.m 10 Z1)) (.n 65))) (.n 9900) this rfl) hk.1 aa hk.2 hl λh' t sb ⟨es,kk,hd,NQ⟩=>?_
 have hlen:=(lO p.2 y).length_le
 refine aU (aW.change (o':=.dict (ej p.2 y)) (tk:=t) hg rfl rfl (m₂.ad p.1) (.inl rfl) sb (λl k e=>by rw [A7] at e;simp at e) ⟨_,hd⟩ λht=>⟨es,kk,hd,NQ,aJ (Y2 _ _) Z0 (.n 10000000) (.a Z1 Z0) (.a (.n 10000000) Z1) (Uq hl hlen) rfl,vn D'.pS,Ak D'.vm⟩) λcm cX=>Ť (wpAny_deleteEach_nil (hq .next l _ _ _ .next q ((T.trans aA).trans cm).weaken cX (((R.step T).step aA).step cm) trivial))
theorem tJ (F:Facts W D) {o i:E}{oq j:Ul}{p pos:V'}{v:V}{uv:Uo}{m:Mem}{σ:St}{s:Um}{env:WO}{l:Loc}{A:UO}{Er:Uo->Um->Prop}{Q:Fl->Loc->St->Prop}{Q':Unit->Um->Prop} (mO:aw W C k o) (hi:aw W C k i)
 (h1:dH W.has env.scope.names o oq=true) (h2:dH W.has env.scope.names i j=true) (S:aB W m σ s.heap) (R:bK W m σ.next s.heap env l) (hR:cT k A) (rv:VR s.heap m σ.next v uv)
 (hw:aK C o l σ λr σ=>aK C i l σ λy σ=>aC (dictAt σ r) λp=>ei (keyOk p.2 y) (mG σ p.1 (p.2.length+1) (.dict (dput p.2 y v)) λσ=>Q .next l σ))
 (hq:∀σ' m' s',Q .next l σ'->Step W d8 m σ.next s m' σ'.next s'->aB W m' σ' s'.heap->Q' () s'):UC (UG W.prog W.w) A (Ė (.Subscript oq j p) env uv) Q' Er s:=by
 refine Uk (UH (mO h1 S R hR hw λr az m₁ aj u q T aM ru=>Uk (UH (hi h2 aM (R.step T) hR q λy cZ m₂ bJ w q aA aW aa=>Uk (Vi (Uk (UH (aN (ai q) λp hp q=>aU (bE q) λhk q=>aU (bp q) λhv q=>MP (aW.dict F.big hp (aA.vr ru)) λz1 D' hl hg U=>?_))))))));subst z1
 exact eQ D'.ex λKq NP A7 U=>Nr D' (by have:=hR.2.2;exact aJ (Y2 _ _) (.s (.a Z0 (.n 6))) (.n 9900) (.s (.a (.a Z0 (.m 10 Z1)) (.n 65))) (.n 9900) this rfl) hk aa (aA.vr (T.vr rv)) hl λh' t sb ⟨es,kk,hd,NQ⟩=>aU (aW.change (o':=.dict (dput p.2 y v)) (tk:=t) hg rfl rfl (m₂.ad p.1) (.inl rfl) sb (λl k e=>by rw [A7] at e;simp at e) ⟨_,hd⟩ λht=>⟨es,kk,hd,NQ,Ut (jK p.2 y v) hv,kR D'.pS,oV D'.vm hk⟩) λcm cX=>Ť (hq _ _ _ q ((T.trans aA).trans cm) cX)
end
end
end Mine.Internal
namespace Mine.Internal
noncomputable section
open PySem PySem.W PyProof.Rows PySem.SeqAt
section
variable {W:Wd}{D:Fn->Option (List Nm×Ss)}{C:bz}{k:Nat}
def qz (W:Wd) (C:bz) (k:Nat) (e:E):Prop:=∀e' x i ifs,e=.comp e' (.one x) i ifs->aw W C k e'/\r6 W C k i false/\jM W C k ifs
theorem vL {t:Option Ul}{n:Nat}{env:WO}{x:Ul}:wH x=true->(Wr x t n env=pure false\/∃elt gens scope q,x=.ListComp elt gens scope q):=
 @UT (λx=>wH x=true->(Wr x t n env=pure false\/∃elt gens scope q,x=.ListComp elt gens scope q)) x (λU U U h=>.inl rfl) (λU U U h=>.inl rfl) (λU U U U h=>.inl rfl) (λU U U h=>.inl rfl) (λU U U U h=>.inl rfl) (λU U U U h=>.inl rfl) (λU U U h=>.inl rfl) (λU U U h=>.inl rfl) (λU U U U h=>.inr (Pn _ _ _ _ rfl)) (λU U U U h=>ff h) (λU U U U U h=>ff h) (λU U U U h=>.inl rfl) (λU U h=>.inl rfl) (λU U h=>.inl rfl) (λU U h=>.inl rfl) (λU U U U h=>.inl rfl) (λU U U U h=>.inl rfl) (λU U U U h=>.inl rfl) (λU U h=>.inl rfl) (λU U U h=>.inl rfl) (λU U U h=>.inl rfl) (λU U U h=>.inl rfl) (λU U h=>.inl rfl) (λU U h=>.inl rfl) (λU U h=>.inl rfl) (λU U U h=>.inl rfl) (λU U U U h=>.inl rfl)
theorem vM {v:Ul}{t:Uz}{p:V'}{n:Nat}{env:WO} (h:wH v=true):
 Wr v (some (.Name t p)) n env=pure false\/(Wr v (some (.Name t p)) n env=pure true/\env.kindOf t=some .local/\∃elt gens scope q,v=.ListComp elt gens scope q):=by
 rcases vL (t:=some (.Name t p)) (n:=n) (env:=env) h with h | ⟨elt,gens,scope,q,rfl⟩
 ·exact .inl h
 ·have:Wr (.ListComp elt gens scope q) (some (.Name t p)) n env=pure (env.blockKind==.function&&env.kindOf t==some .local&&p.line==q.line&&!(scope.names.any λ(n,k)=>n==t&&(k==.local||k==.cell))):=rfl
  refine aa this ?_
  cases hb:(env.blockKind==.function&&env.kindOf t==some .local&&p.line==q.line&&!(scope.names.any λ(n,k)=>n==t&&(k==.local||k==.cell)))
  ·exact .inl rfl
  ·exact .inr ⟨rfl,kO (bf (bf (bf hb).1).1).2,_,_,_,_,rfl⟩
theorem r8 {hs:Fn->Bool}{sc:Sc}{e:E}{elt:Ul}{gens:List Î}{scope:ZC}{q:V'} (h:dH hs sc e (.ListComp elt gens scope q)=true):e=.bad\/∃e' z i ifs,e=.comp e' (.one z) i ifs:=by
 cases e with
 | bad=>exact .inl rfl
 | comp e' t i ifs=>
  cases t with
  | one z=>exact .inr (Pn _ _ _ _ rfl)
  | many _=>exact LX (rQ h) λU U U U U U U h=>ff (eX h).1
 | call f as=>exact ff (bf h).2
 | _=>exact ff h
theorem DA {x:Nm}{e:E} (he:aw W C k e) (hc:qz W C k e):kU W C k (.bV x e):=by
 refine λy m σ s env l A Er Q Q' ho S R hR hw hq=>lk (jI ho) λt v pos ho=>eg (eX ho) λh1 Rp r7=>uW (ja h1) λid px h1=>aU (bf h1) λh1 hk=>aa (kO h1) ?_
 clear ho;rcases vM (t:=x.str) (p:=px) (n:=pos.line) (env:=env) Rp with hs | ⟨hs,Kr,elt,gens,scope,q,rfl⟩
 ·exact wpAny_Assign_Name (he r7 S R hR hw λv σ' m' s' u q T S' r=>storeOk S' (R.step T) r (tv hk) λiX nV gb AU=>hq .next _ _ _ _ .next q (T.weaken.trans nV) gb AU trivial) hs
 ·refine aa (exec_Assign_Name_used _ _ _ _ hs) ?_
  rcases r8 r7 with rfl | ⟨e',z,i,ifs,rfl⟩
  ·exact hw.elim
  refine eg (hc _ _ _ _ rfl) λh1 h2 h3=>LX (rQ r7) λelt tg iter cs scope q e0 r7=>?_
  cases e0
  refine eg (eX r7) λk1 AY k2=>eg (eX k2) λG' hlen Ks=>uW (ja k1) λid pz k1=>aU (bf k1) λk1 Iz=>aa (kO k1) (Uk (Vi (Uk (Uk ?_))))
  have main:UC (UG W.prog W.w) A (Ū (.ListComp elt [⟨.Name z.str pz,iter,cs,0⟩] scope q) scope env (firstIterPos [⟨.Name z.str pz,iter,cs,0⟩] q) (newList []) false (WZ iter env) (some (Ė (.Name x.str px) env))) (λU s'=>Q' .next s') Er s:=by
   refine qy (use:=some (Ė (.Name x.str px) env)) h1 h2 h3 Iz AY G' Ks S R hR hw λv σ' m' s' u C' mm q T S' r yw ho hb hl=>?_
   have NR:=λh=>hl (R.live _ h)
   refine kV (aa (UE ..) ⟨beq_self_eq_true _,hk⟩) S' (R.step T) r λiX nV gb AU=>nL yw λol es ep uS hr=>i12 mm ⟨ol,es,ep,nV.keep _ _ uS ho NR,hr⟩ (λh' sb=>?_)
   have NS:=nV.keep _ _ uS ho NR
   exact aU (gb.dP (X:=λb=>b=C') (tk:=iX.toks) ho hb rfl sb.extBut (λl k e=>by rw [NS] at e;injection e with z0;subst z0;cases hr.1)) λaA aW=>hq .next _ _ _ _ .next q ((T.weaken.trans nV).Jg (aA.wide λb h=>Vw h) λb hb=>aa hb hl) aW (AU.over aA λb h e=>NR (aR e h)) trivial
  exact Wl main (λU s' h=>Us (Us h)) λU U x=>x
end
end
end Mine.Internal
namespace Mine.Internal
noncomputable section
open PySem PySem.W PyProof.Rows PySem.SeqAt
section
variable {W:Wd}{D:Fn->Option (List Nm×Ss)}{C:bz}{k:Nat}
theorem nC {es:List Ul}{c:Nat}{p:V'}{n:Nat}{env:WO}{x:Ul}:true=true->ŧ [.Tuple es c p] x n env=pure false:=
 @UT (λx=>true=true->ŧ [.Tuple es c p] x n env=pure false) x (λU U U h=>rfl) (λU U U h=>rfl) (λU U U U h=>rfl) (λU U U h=>rfl) (λU U U U h=>rfl) (λU U U U h=>rfl) (λU U U h=>rfl) (λU U U h=>rfl) (λU U U U h=>rfl) (λU U U U h=>rfl) (λU U U U U h=>rfl) (λU U U U h=>rfl) (λU U h=>rfl) (λU U h=>rfl) (λU U h=>rfl) (λU U U U h=>rfl) (λU U U U h=>rfl) (λU U U U h=>rfl) (λU U h=>rfl) (λU U U h=>rfl) (λU U U h=>rfl) (λU U U h=>rfl) (λU U h=>rfl) (λU U h=>rfl) (λU U h=>rfl) (λU U U h=>rfl) (λU U U U h=>rfl)
theorem r9 {es:List Ul}{c:Nat}{p:V'}{env:WO}{x:Ul}:true=true->(X8 [.Tuple es c p] x env=pure none\/∃vs c' p',x=.Tuple vs c' p'):=
 @UT (λx=>true=true->(X8 [.Tuple es c p] x env=pure none\/∃vs c' p',x=.Tuple vs c' p')) x (λU U U h=>.inl rfl) (λU U U h=>.inl rfl) (λU U U U h=>.inl rfl) (λU U U h=>.inl rfl) (λU U U U h=>.inl rfl) (λU U U U h=>.inl rfl) (λU U U h=>.inl rfl) (λU U U h=>.inl rfl) (λU U U U h=>.inl rfl) (λU U U U h=>.inl rfl) (λU U U U U h=>.inl rfl) (λU U U U h=>.inl rfl) (λU U h=>.inl rfl) (λU U h=>.inl rfl) (λU U h=>.inl rfl) (λU U U U h=>.inl rfl) (λU U U U h=>.inl rfl) (λU U U U h=>.inl rfl) (λU U h=>.inl rfl) (λU U U h=>.inl rfl) (λU U U h=>.inl rfl) (λU U U h=>.inl rfl) (λU U h=>.inl rfl) (λU U h=>.inl rfl) (λU U h=>.inl rfl) (λU U U h=>.inr (Pm _ _ _ rfl)) (λU U U U h=>.inl rfl)
theorem o8 {q:Ul}{z:Uz}{r:V'}{n:Nat}{env:WO}{x:Ul}:true=true->Wr x (some (.Attribute q z r)) n env=pure false:=
 @UT (λx=>true=true->Wr x (some (.Attribute q z r)) n env=pure false) x (λU U U h=>rfl) (λU U U h=>rfl) (λU U U U h=>rfl) (λU U U h=>rfl) (λU U U U h=>rfl) (λU U U U h=>rfl) (λU U U h=>rfl) (λU U U h=>rfl) (λU U U U h=>rfl) (λU U U U h=>rfl) (λU U U U U h=>rfl) (λU U U U h=>rfl) (λU U h=>rfl) (λU U h=>rfl) (λU U h=>rfl) (λU U U U h=>rfl) (λU U U U h=>rfl) (λU U U U h=>rfl) (λU U h=>rfl) (λU U U h=>rfl) (λU U U h=>rfl) (λU U U h=>rfl) (λU U h=>rfl) (λU U h=>rfl) (λU U h=>rfl) (λU U U h=>rfl) (λU U U U h=>rfl)
theorem yA {q z:Ul}{r:V'}{n:Nat}{env:WO}{x:Ul}:true=true->Wr x (some (.Subscript q z r)) n env=pure false:=
 @UT (λx=>true=true->Wr x (some (.Subscript q z r)) n env=pure false) x (λU U U h=>rfl) (λU U U h=>rfl) (λU U U U h=>rfl) (λU U U h=>rfl) (λU U U U h=>rfl) (λU U U U h=>rfl) (λU U U h=>rfl) (λU U U h=>rfl) (λU U U U h=>rfl) (λU U U U h=>rfl) (λU U U U U h=>rfl) (λU U U U h=>rfl) (λU U h=>rfl) (λU U h=>rfl) (λU U h=>rfl) (λU U U U h=>rfl) (λU U U U h=>rfl) (λU U U U h=>rfl) (λU U h=>rfl) (λU U U h=>rfl) (λU U U h=>rfl) (λU U U h=>rfl) (λU U h=>rfl) (λU U h=>rfl) (λU U h=>rfl) (λU U U h=>rfl) (λU U U U h=>rfl)
theorem tK {sc:Sc}{env:WO}{line:Nat}:∀ {xs:List Nm}{es:List Ul},vc sc xs es=true->
 (es.filterMap λ| YB id pos=>if (env.kindOf id==some .local&&pos.line==line)=true then some id else none | _=>none).length<=es.length/\
 ((es.filterMap λ| YB id pos=>if (env.kindOf id==some .local&&pos.line==line)=true then some id else none | _=>none).length=es.length->
 (es.filterMap λ| YB id pos=>if (env.kindOf id==some .local&&pos.line==line)=true then some id else none | _=>none)=xs.map Nm.str/\∀x∈xs,env.kindOf x.str=some .local):=by
 intro z9;induction z9 with
 | nil=>
  intro y0;cases y0 with
  | nil=>exact λU=>⟨Ux _,λU=>⟨rfl,λx hx=>by contradiction⟩⟩
  | _=>intros;contradiction
 | cons x xs ih=>
  intro y1;cases y1 with
  | cons e es=>
   refine λh=>aU (bf h) λh1 h2=>uW (ja h1) λid p h1=>aa (kO (bf h1).1) (aU (ih h2) λa b=>aa List.filterMap_cons ?_)
   dsimp only
   clear h1 id h2 h;cases hc:(env.kindOf x.str==some .local&&p.line==line) with
   | false=>
    simp only [Xv,if_false]
    exact ⟨UP a,λe=>by rw [e,Vm] at a;exact absurd a (Nat.not_succ_le_self _)⟩
   | true=>
    refine ⟨Vn a,λe=>aU (b (WW e)) λb1 b2=>aa b1 ?_⟩
    rw [UE,beq_iff_eq] at hc
    exact ⟨rfl,λy hy=>by clear b1 e b a h1 es;rcases List.mem_cons.mp hy with rfl | hy;exact hc.1;exact b2 y hy⟩
  | _=>intros;contradiction
theorem pV {env:WO}{v:Ul}{xs:List Nm}{es:List Ul}{c p} (h:vc env.scope.names xs es=true) (hn:qo v=true):
 X8 [.Tuple es c p] v env=pure none\/(X8 [.Tuple es c p] v env=pure (some (xs.map Nm.str))/\∀x∈xs,env.kindOf x.str=some .local):=by
 rcases r9 (es:=es) (c:=c) (p:=p) (env:=env) (x:=v) rfl with h' | ⟨vs,c',p',rfl⟩
 ·exact .inl h'
 delta X8
 dsimp only
 split
 ·exact .inl rfl
 split
 ·exact .inl rfl
 refine aU (tK (env:=env) (line:=(es.head?.map (·.pos.line)).getD 0) h) λa b=>?_
 split
 ·exact .inl rfl
 rename_i hl
 split
 ·exact .inl rfl
 split
 ·rename_i hc
  have u3:(!(vs.all (ŝ 8)))=true:=hn
  exact nomatch (hc▸u3)
 ·rw [VC,not_or] at hl
  have hl:=hl.1
  simp only [bne_iff_ne,ne_eq,Decidable.not_not] at hl
  refine aU (b hl) λb1 b2=>?_
  right
  exact ⟨(congrArg (λz=>(pure (some z):ä (Option (List Uz)))) b1),b2⟩
theorem sa {x:Nm}{v:V}:∀ {xs:List Nm}{vs:List V}{l l':Loc},x∉xs->bq xs vs l=some l'->bq xs vs (l.set x v)=some (l'.set x v):=by
 intro z9;induction z9 with
 | nil=>
  intro y0;cases y0 with
  | nil=>intro l l' U h;injection h with z0;subst z0;rfl
  | _=>intros;contradiction
 | cons y ys ih=>
  intro y1;cases y1 with
  | cons w ws=>
   intro l l' hx h
   rw [Wn,not_or] at hx
   show bq ys ws ((l.set x v).set y w)=_
   have:(l.set x v).set y w=(l.set y w).set x v:=by
    funext z
    simp only [Loc.set]
    by_cases e:z=y
    ·by_cases e':z=x
     ·exact absurd (e'.symm.trans e) hx.1
     ·exact (if_pos e).trans (aa (if_neg e') ((if_pos e).symm))
    ·refine (if_neg e).trans ?_
     by_cases e':z=x
     ·exact (if_pos e').trans ((if_pos e').symm)
     ·exact (if_neg e').trans (aa (if_neg e') ((if_neg e).symm))
   exact aa this (ih hx.2 h)
  | _=>intros;contradiction
theorem pW {x:Nm}{v:V}:∀ {xs:List Nm}{vs:List V}{l l':Loc},bq xs vs l=some l'->bq (xs++ [x]) (vs++ [v]) l=some (l'.set x v):=by
 intro z9;induction z9 with
 | nil=>
  intro y0;cases y0 with
  | nil=>intro l l' h;injection h with z0;subst z0;rfl
  | _=>intros;contradiction
 | cons y ys ih=>
  intro y1;cases y1 with
  | cons w ws=>intro l l' h;exact ih h
  | _=>intros;contradiction
theorem se:∀ {xs:List Nm}{vs:List V}{l l':Loc},xs.Nodup->bq xs vs l=some l'->bq xs.reverse vs.reverse l=some l':=by
 intro z9;induction z9 with
 | nil=>
  intro y0;cases y0 with
  | nil=>intro l l' U h;exact h
  | _=>intros;contradiction
 | cons x xs ih=>
  intro y1;cases y1 with
  | cons v vs=>
   intro l l' hn h
   rw [U5] at hn
   rw [WI,WI]
   have hb:=h
   obtain ⟨o6,h₁⟩:∃o6,bq xs vs l=some o6:=by
    have:∀ {xs:List Nm}{vs:List V}{l l' yB:Loc},bq xs vs l=some l'->∃o6,bq xs vs yB=some o6:=by
     intro xs
     induction xs with
     | nil=>intro vs l l' yB h;cases vs with | nil=>exact ⟨yB,rfl⟩ | cons _ _=>contradiction
     | cons y ys ih=>intro vs l l' yB h;cases vs with | nil=>cases h | cons w ws=>exact ih (vs:=ws) (l:=l.set y w) h
    exact this hb
   have:=sa (v:=v) hn.1 h₁
   replace this:=hb▸this
   exact aa (Uu this) (pW (ih hn.2 h₁))
  | _=>intros;contradiction
theorem vN {m:Mem}{σ:St}{A:UO}{Er:Uo->Um->Prop}{env:WO}:∀ {xs:List Nm}{vs:List V}{us:List Uo}{l l':Loc}{s:Um}{Q:Unit->Um->Prop},(∀x∈xs,env.kindOf x.str=some .local)->bq xs vs l=some l'->aB W m σ s.heap->bK W m σ.next s.heap env l->LR s.heap m σ.next vs us->
 (∀s',Step W (f9 env) m σ.next s m σ.next s'->aB W m σ s'.heap->bK W m σ.next s'.heap env l'->Q () s')->UC (UG W.prog W.w) A (ŭ ((xs.map Nm.str).map λn=>bindName env n) us) Q Er s:=by
 intro z9;induction z9 with
 | nil=>
  intro y0;cases y0 with
  | nil=>
   intro us l l' s Q ho hb S R hr q
   injection hb with z0;subst z0
   exact Us (q s .refl S R)
  | cons U U=>intro U U U U U U hb U U U U;contradiction
 | cons x xs ih=>
  intro y1;cases y1 with
  | nil=>intro U U U U U U hb U U U U;contradiction
  | cons v vs=>
   intro us l l' s Q ho hb S R hr q
   refine eh hr λu us z1 h1 h2=>?_;clear hr;subst z1
   exact Uk (UH (zK S R h1 (.inl (ho x (Ur))) λs' T S' R'=>ih (λy hy=>ho y (by simp [hy])) hb S' R' (T.lr h2) λiX T' gb AU=>q iX (T.trans T') gb AU))
theorem yC {xs:List Nm}{e:E} (he:aw W C k e):kU W C k (.unpack xs e):=by
 refine λy m σ s env l A Er Q Q' ho S R hR hw hq=>lk (jI ho) λt v pos ho=>eg (eX ho) λIw Rq r7=>nL (zO Iw) λes c px z2 Kt=>aa z2 ?_
 rcases pV (c:=c) (p:=px) Kt Rq with hs | ⟨hs,Kr⟩
 ·refine Assign_Tuple (he r7 S R hR hw λv σ' m' s' u q T S' r=>aN (ai q) λvs hv q=>aU (bp q) λCG q=>aN (ai q) λl' hb q=>?_) (nC rfl) hs
  have hlen:=cP hb
  refine aU (o5 Kt) λh1 h2=>aa (ĵ ..) ?_
  delta unpack
  exact w2 h1 h2 (aR hlen (Uk (Vi (Uk (UH (o3 hR.1 S' hv r λus iX nV gb rs=>o4 Kt hb gb ((R.step T).step nV) rs λkn cm cX yx=>hq .next _ _ _ _ .next q ((T.trans nV).weaken.trans cm) cX yx trivial))))))
 ·refine Assign_Tuple_swapped (he r7 S R hR hw λv σ' m' s' u q T S' r=>aN (ai q) λvs hv q=>aU (bp q) λCG q=>aN (ai q) λl' hb q=>?_) (nC rfl) hs
  have hlen:=cP hb
  exact aa (UD ..) (aR hlen (o3 hR.1 S' hv r λus iX nV gb rs=>aR List.map_reverse (vN (λx hx=>Kr x (List.mem_reverse.mp hx)) (se CG hb) gb ((R.step T).step nV) rs.reverse λkn cm cX yx=>hq .next _ _ _ _ .next q ((T.trans nV).weaken.trans cm) cX yx trivial)))
theorem vO (F:Facts W D) {o e:E}{x:Nm} (mO:aw W C k o) (he:aw W C k e):kU W C k (.setattr o x e):=by
 refine λy m σ s env l A Er Q Q' ho S R hR hw hq=>lk (jI ho) λt v pos ho=>aU (bf ho) λh1 h2=>lk (qj h1) λq id px h1=>aU (bf h1) λh0 h1=>aa (kO h0) (Zn (he h2 S R hR hw λv az m₁ aj u q T aM r=>mO h1 aM (R.step T) hR q λA8 cZ m₂ bJ NT q aA aW ro=>aN (ai q) λp hp q=>aU (bE q) λhf q=>?_) (o8 rfl))
 rw [UE,decide_eq_true_eq] at hf
 exact qr F aW ro hp hf.1 hf.2 (aA.vr r) λkn cm cX=>hq .next l _ _ _ .next q ((T.trans aA).trans cm).weaken cX (((R.step T).step aA).step cm) trivial
theorem cC (F:Facts W D) {o i e:E} (mO:aw W C k o) (hi:aw W C k i) (he:aw W C k e):kU W C k (.bw o i e):=by
 exact λy m σ s env l A Er Q Q' ho S R hR hw hq=>lk (jI ho) λt v pos ho=>aU (bf ho) λh1 h3=>lk (pQ h1) λq j px h1=>aU (bf h1) λh1 h2=>aa (exec_Assign_Subscript _ _ _ _ _ (yA rfl)) (Uk (Vi (Uk (he h3 S R hR hw λv az m₁ aj u q T aM r=>Uk (tJ (pos:=pos) F mO hi h1 h2 aM (R.step T) hR r q λcZ m₂ bJ q aA aW=>Us (hq .next l _ _ _ .next q (T.trans aA).weaken aW ((R.step T).step aA) trivial))))))
end
end
end Mine.Internal
namespace Mine.Internal
noncomputable section
open PySem PySem.W PyProof.Rows PySem.SeqAt
section
variable {W:Wd}{D:Fn->Option (List Nm×Ss)}{C:bz}{k:Nat}{m:Mem}{σ:St}{s:Um}{A:UO}{Er:Uo->Um->Prop}
theorem sf {it t:UN}{i:Nat}{items:Array Uo}{x:Uo}{prog:Vo}{w:VB}{E:Uo->Um->Prop}{Q:Uo->Um->Prop} (hit:s.heap.IsTupleIter it t i) (ht:s.heap.IsTuple t items) (hx:items[i]? =some x)
 (hQ:∀h',h'.IsTupleIter it t (i+1)->Vh it s.heap h'->Q x {s with heap:=h'}):UC (UG prog w) A (VS (.ref it)) Q E s:=by
 refine i5 (id hit) λo ho hc hd=>?_
 obtain ⟨ol,uS,_,nl,xR⟩:=ht
 refine Uk (Vl (name:=Uj "__next__") hit.typeIs VL
  (UU VL hit.typeIs Yt ?_ (Yr _)))
 show UC _ _ (field (.ref it) 0>>=_) _ _ s
 refine Uk (VK ho hd (x:=.ref t) rfl (Uk (VK ho hd (x:=.int i 0) rfl (Uk (VX uS xR ?_)))))
 simp only [YT,hx]
 refine Uk (Ŕ ho hd ((Ux _)) (Us (i12 x rfl (Us (hQ _ ?_ (Vu ..))))))
 exact ⟨_,Vy _ ho (Obj.isFreed_of_fields (Ø hd _)),(Obj.cls_mapFields ..).trans hc,by
  exact Ø hd ..⟩
theorem mQ {it t:UN}{i:Nat}{items:Array Uo}{prog:Vo}{w:VB}{E:Uo->Um->Prop}{Q:Uo->Um->Prop} (hh:A.handled=none) (hit:s.heap.IsTupleIter it t i) (ht:s.heap.IsTuple t items) (hx:items[i]? =none)
 (hE:∀h' e,XM it s.heap h'->(∃o,h'.get? e=some o/\o.cls=.type "StopIteration")->E (.ref e) {s with heap:=h'}):UC (UG prog w) A (VS (.ref it)) Q E s:=by
 refine i5 (id hit) λo ho hc hd=>?_
 obtain ⟨ol,uS,_,nl,xR⟩:=ht
 refine Uk (Vl (name:=Uj "__next__") hit.typeIs VL
  (UU VL hit.typeIs Yt ?_ (Yr _)))
 show UC _ _ (field (.ref it) 0>>=_) _ _ s
 refine Uk (VK ho hd (x:=.ref t) rfl (Uk (VK ho hd (x:=.int i 0) rfl (Uk (VX uS xR ?_)))))
 simp only [YT,hx]
 refine Uk (VQ (Uk (Ŕ ho hd ((US _)) (Uk (Uk (m:=firstArgMember _ _) (ð (a:=Ķ) (by first | rfl | (lia)) (ĝ (Uk (wpAny_handled ?_)) (by size_fits))))))))
 first | refine aa (hh) ?_ | rw [hh]
 refine Uk (Us (wpAny_throw ?_))
 exact hE _ _ (((Vu ..).extBut.push _).push _) (i12 _ (UK _ rfl) rfl)
structure fV (W:Wd) (ia:UN) (g:Gd) (J:Mem->Nat->U1->List V->Prop):Prop where
 own:∀ {m N h vs},J m N h vs->m.own ia=none/\¬Lv W.base ia/\Lv h ia/\∀l k,h.get? ia≠some (cw l k)
 step:∀ {Y m N s m' N' s' vs},J m N s.heap vs->Step W Y m N s m' N' s'->¬Y ia->J m' N' s'.heap vs
 next:∀ {A:UO}{m σ s v r Er Q},J m σ.next s.heap (v::r)->aB W m σ s.heap->g.ok σ=true->(∀u h',VR s.heap m σ.next v u->Vh ia s.heap h'->J m σ.next h' r->Q u {s with heap:=h'})->UC (UG W.prog W.w) A (VS (.ref ia)) Q Er s
 done:∀ {A:UO}{m σ s Er Q},A.handled=none->J m σ.next s.heap []->aB W m σ s.heap->g.ok σ=true->(∀h' e,XM ia s.heap h'->(∃o,h'.get? e=some o/\o.cls=.type "StopIteration")->Er (.ref e) {s with heap:=h'})->UC (UG W.prog W.w) A (VS (.ref ia)) Q Er s
theorem DB {ia:UN}{n:Nat}{full:List V}:fV W ia (.obj n (.list full)) (JL W ia n full) where
 own j:=by exact ET j λi U z1 bX hb U=>i5 z1 λo ho hc hd=>zk bX hb ⟨o,ho⟩ (λl k e=>by rw [ho] at e;clear hd ho U;injection e with z0;subst z0;simp at hc)
 step:=λ{Y m N s m' N' s' vs} j T hy=>by
  refine ET j λi z2 z3 bX hb hn=>?_;clear j;subst z2;exact i5 z3 λo ho hc hd=>⟨i,rfl,⟨o,T.keep _ _ ho bX hy,hc,aa ((T.ad n hn).1) hd⟩,(T.own _ ⟨_,ho⟩ hy).trans bX,hb,UM hn T.le⟩
 next:=λ{A m σ s v r Er Q} j S hg q=>by
  refine ET j λi hv hit bX hb hn=>eh (S.obj _ _ (of_decide_eq_true hg)) λis kk ha hr hl=>?_
  have o1:full[i]? =some v:=by
   have:=congrArg (λl=>l[0]?) hv
   simpa using this.symm
  have lS:r=full.drop (i+1):=by
   simpa using (congrArg (λl=>l.drop 1) hv)
  exact aN (hr.get o1) λu hu ru=>wpAny_nextOf_list_item (items:=is.toArray) hit ⟨_,ha,rfl,kk,rfl⟩ (List.getElem?_toArray.trans hu) λh' pT hs=>q u h' ru hs ⟨i+1,lS,pT,bX,hb,hn⟩
 done:=λ{A m σ s Er Q} hA j S hg q=>by
  refine ET j λi hv hit bX hb hn=>?_
  have Ao:=of_decide_eq_true hg
  refine eh (S.obj _ _ Ao) λis kk ha hr hl=>?_
  have hi:full.length<=i:=by
   have:=congrArg VA hv
   simp only [Xg,Wg] at this;lia
  exact wpAny_nextOf_list_end (items:=is.toArray) hA hit ⟨_,ha,rfl,kk,rfl⟩ (by exact List.getElem?_toArray.trans (gL Wk (aJ (Y3 _ _ _) Z0 Z1 (.a Z0 Z2) (.a Z2 Z1) (Uq (UI hr.length) hi) rfl))) λh' e hs he=>q h' e hs he
theorem He {ia ta:UN}{full:List V}:fV W ia .free (JT W ia ta full) where
 own j:=by exact QS j λi is k U z1 bX hb U=>i5 z1 λo ho hc hd=>zk bX hb ⟨o,ho⟩ (λl k e=>by rw [ho] at e;injection e with z0;clear hd ho;subst z0;simp at hc)
 step:=λ{Y m N s m' N' s' vs} j T hy=>by
  refine LV j λi is k z2 z3 bX hb ht hr=>?_;clear j;subst z2;exact i5 z3 λo ho hc hd=>⟨i,is,k,rfl,⟨o,T.keep _ _ ho bX hy,hc,hd⟩,(T.own _ ⟨_,ho⟩ hy).trans bX,hb,T.tup _ _ _ ht,T.lr hr⟩
 next:=λ{A m σ s v r Er Q} j S hg q=>by
  refine LV j λi is kk hv hit bX hb ht hr=>?_
  have o1:full[i]? =some v:=by
   have:=congrArg (λl=>l[0]?) hv
   simpa using this.symm
  have lS:r=full.drop (i+1):=by
   simpa using (congrArg (λl=>l.drop 1) hv)
  exact aN (hr.get o1) λu hu ru=>sf (items:=is.toArray) hit ⟨_,ht.get,rfl,kk,rfl⟩ (List.getElem?_toArray.trans hu) λh' pT hs=>i5 hit λo ho hc hd=>aU (S.dP (X:=λb=>b=ia) (tk:=s.toks) bX hb rfl hs.extBut (λl k e=>by rw [ho] at e;injection e with z0;subst z0;simp at hc)) λT U=>q u h' ru hs ⟨i+1,is,kk,lS,pT,bX,hb,T.tup _ _ _ ht,T.lr hr⟩
 done:=λ{A m σ s Er Q} hA j S hg q=>by
  refine LV j λi is kk hv hit bX hb ht hr=>?_
  have hlen:=hr.length
  have hi:full.length<=i:=by
   have:=congrArg VA hv
   simp only [Xg,Wg] at this;lia
  exact mQ (items:=is.toArray) hA hit ⟨_,ht.get,rfl,kk,rfl⟩ (by exact List.getElem?_toArray.trans (gL Wk (aJ (Y3 _ _ _) Z0 Z1 (.a Z0 Z2) (.a Z2 Z1) (Uq (UI hlen) hi) rfl))) λh' e hs he=>q h' e hs he
end
end
end Mine.Internal
namespace Mine.Internal
noncomputable section
open PySem PySem.W PyProof.Rows PySem.SeqAt
section
variable {W:Wd}{D:Fn->Option (List Nm×Ss)}{C:bz}{k:Nat}{m:Mem}{σ:St}{s:Um}{A:UO}{Er:Uo->Um->Prop}
noncomputable abbrev tL (f0:Uo) (fb:Bool) (TI TO:UN):ć:={cls:=.type "zip",dict:=none,data:=.fields #[f0,.bool fb,.bool false,.ref TI,.ref TO],slots:= #[]}
def F0 (v:Uo):Prop:=v=.none\/∃n:Nat,v=ZW n
theorem DC {M:Z9}{a:UN}{Q:Option ć->Um->Prop} (h:Q (s.heap.get? a) s):UC M A (loadIfAlive a) Q Er s:=λΓ p T9=>by
 exact h
theorem yD {z TI TO:UN}{f0:Uo}{fb:Bool}{Q:Bool->Um->Prop} (hz:s.heap.get? z=some (tL f0 fb TI TO)) (hf:F0 f0) (h1:Q true s)
 (h2:∀h',h'.get? z=some (tL f0 true TI TO)->Vh z s.heap h'->Q false {s with heap:=h'}):UC (UG W.prog W.w) A (ì (.ref z)) Q Er s:=by
 refine Uk (VK hz rfl (x:=f0) rfl ?_)
 rcases hf with rfl | ⟨n,rfl⟩
 ·exact Us h1
 ·refine Uk (DC ?_)
  cases hn:s.heap.get? (Int.toNat (n:Int)) with
  | none=>exact Us h1
  | some o=>
   refine Uk (VK hz rfl (x:=.bool fb) rfl ?_)
   cases fb with
   | true=>exact Us (h2 _ hz (Xf _ _))
   | false=>
    exact Uk (V7 hz ((Ui rfl)) λh' NU NV=>Us (h2 h' NU NV))
structure FE (W:Wd) (z TI TO i1 i2:UN) (J1 J2:Mem->Nat->U1->List V->Prop) (m:Mem) (N:Nat) (h:U1) (xs ys:List V):Prop where
 zz:∃f0 fb,h.get? z=some (tL f0 fb TI TO)/\F0 f0
 ti:h.get? TI=some {cls:=.type "tuple",data:=.seq #[.ref i1,.ref i2]}
 to:∃a b,h.get? TO=some {cls:=.type "tuple",data:=.seq #[a,b]}
 j1:J1 m N h xs
 j2:J2 m N h ys
 own:m.own z=none/\m.own TI=none/\m.own TO=none
 pv:m.pv TO=true
 base:¬Lv W.base z/\¬Lv W.base TO
def ZX (z TI TO i1 i2:UN):UN->Prop:=λb=>b=z\/b=TI\/b=TO\/b=i1\/b=i2
noncomputable def qA (x:V×V):V:=V.tup [x.1,x.2]
def JZ (W:Wd) (z TI TO i1 i2:UN) (J1 J2:Mem->Nat->U1->List V->Prop) (m:Mem) (N:Nat) (h:U1) (vs:List V):Prop:=
 ∃xs ys,FE W z TI TO i1 i2 J1 J2 m N h xs ys/\vs=(xs.zip ys).map qA
variable {z TI TO i1 i2:UN}{g1 g2:Gd}{J1 J2:Mem->Nat->U1->List V->Prop}
theorem FE.step {N:Nat}{Y:UN->Prop}{m':Mem}{N':Nat}{s':Um}{xs ys:List V} (h1:fV W i1 g1 J1) (h2:fV W i2 g2 J2) (Z:FE W z TI TO i1 i2 J1 J2 m N s.heap xs ys) (T:Step W Y m N s m' N' s') (hY:∀b,Y b->¬ZX z TI TO i1 i2 b):FE W z TI TO i1 i2 J1 J2 m' N' s'.heap xs ys:=by
 have y:=λb hb hy=>hY b hy hb
 have yz:=y z (VT rfl);have yi:=y TI (Vw (VT rfl));have yo:=y TO (Vw (Vw (VT rfl)))
 refine eQ Z.zz λf0 fb hz hf=>sQ Z.to λa b CI=>⟨(jo f0 fb (T.keep _ _ hz Z.own.1 yz) hf),T.keep _ _ Z.ti Z.own.2.1 yi,(CR a b (T.keep _ _ CI Z.own.2.2 yo)),h1.step Z.j1 T (y _ (Vw (Vw (Vw (VT rfl))))),h2.step Z.j2 T (y _ (Vw (Vw (Vw (Vw rfl))))),(fc ?_ ?_ ?_),?_,Z.base⟩
 ·exact (T.own _ ⟨_,hz⟩ yz).trans Z.own.1
 ·exact (T.own _ ⟨_,Z.ti⟩ yi).trans Z.own.2.1
 ·exact (T.own _ ⟨_,CI⟩ yo).trans Z.own.2.2
 ·exact (T.pv _ ⟨_,CI⟩ yo).trans Z.pv
structure Zc (W:Wd) (z TI TO i1 i2:UN) (g1 g2:Gd) (J1 J2:Mem->Nat->U1->List V->Prop) (m:Mem) (σ:St):Prop where
 h1:fV W i1 g1 J1
 h2:fV W i2 g2 J2
 n1:i1≠z
 n2:i2≠z
 uU:i1≠i2
 nT:TI≠TO
 Mg:g1.ok σ=true
 Mh:g2.ok σ=true
 own:m.own z=none/\m.own TI=none/\m.own TO=none
 pv:m.pv TO=true
 base:¬Lv W.base z/\¬Lv W.base TO
structure ZS (W:Wd) (z TI TO i1 i2:UN) (J1 J2:Mem->Nat->U1->List V->Prop) (m:Mem) (σ:St) (cA s:Um) (f0:Uo) (fb:Bool) (a b:Uo) (xs ys:List V) (rs:List (V×Uo)):Prop where
 T:Step W (ZX z TI TO i1 i2) m σ.next cA m σ.next s
 S:aB W m σ s.heap
 z:s.heap.get? z=some (tL f0 fb TI TO)
 ti:s.heap.get? TI=some {cls:=.type "tuple",data:=.seq #[.ref i1,.ref i2]}
 to:s.heap.get? TO=some {cls:=.type "tuple",data:=.seq #[a,b]}
 j1:J1 m σ.next s.heap xs
 j2:J2 m σ.next s.heap ys
 r:∀p∈rs,VR s.heap m σ.next p.1 p.2
section
variable {cA:Um}{f0 f0' a b a' b':Uo}{fb fb':Bool}{xs ys C8 zf:List V}{rs:List (V×Uo)}{h':U1}
theorem Mi {o:ć}{f0 fb}{t:String} (e:some o=some (tL f0 fb TI TO)) (h:o.cls=.type t) (n:t≠"zip"):False:=n (Ů (h.symm.trans (congrArg Obj.cls (Uu e))))
theorem zt {f0 fb l k}:some (tL f0 fb TI TO)≠some (cw l k):=λe=>Mi e.symm rfl ((of_decide_eq_true rfl))
theorem ZS.Hf (k:ZS W z TI TO i1 i2 J1 J2 m σ cA s f0 fb a b xs ys rs):TI≠z:=λe=>Mi ((e▸k.ti).symm.trans k.z) rfl ((of_decide_eq_true rfl))
theorem ZS.DD (k:ZS W z TI TO i1 i2 J1 J2 m σ cA s f0 fb a b xs ys rs):TO≠z:=λe=>Mi ((e▸k.to).symm.trans k.z) rfl ((of_decide_eq_true rfl))
theorem ZS.n1 (c:Zc W z TI TO i1 i2 g1 g2 J1 J2 m σ) (k:ZS W z TI TO i1 i2 J1 J2 m σ cA s f0 fb a b xs ys rs):TI≠i1/\TO≠i1:=⟨λe=>(c.h1.own k.j1).2.2.2 [_,_] 0 (aR e k.ti),λe=>(c.h1.own k.j1).2.2.2 [_,_] 0 (aR e k.to)⟩
theorem ZS.n2 (c:Zc W z TI TO i1 i2 g1 g2 J1 J2 m σ) (k:ZS W z TI TO i1 i2 J1 J2 m σ cA s f0 fb a b xs ys rs):TI≠i2/\TO≠i2:=⟨λe=>(c.h2.own k.j2).2.2.2 [_,_] 0 (aR e k.ti),λe=>(c.h2.own k.j2).2.2.2 [_,_] 0 (aR e k.to)⟩
theorem ZS.cz (c:Zc W z TI TO i1 i2 g1 g2 J1 J2 m σ) (k:ZS W z TI TO i1 i2 J1 J2 m σ cA s f0 fb a b xs ys rs) (hz:h'.get? z=some (tL f0' fb' TI TO)) (hs:XM z s.heap h'):ZS W z TI TO i1 i2 J1 J2 m σ cA {s with heap:=h'} f0' fb' a b xs ys rs:=
 have t:=k.S.dP (X:=λb=>b=z) (tk:=s.toks) c.own.1 c.base.1 rfl hs λl k' e=>zt (k.z.symm.trans e)
 ⟨k.T.trans (t.1.wide λb h=>.inl h),t.2,hz,t.1.keep _ _ k.ti c.own.2.1 k.Hf,t.1.keep _ _ k.to c.own.2.2 k.DD,c.h1.step k.j1 t.1 c.n1,c.h2.step k.j2 t.1 c.n2,λp h=>t.1.vr (k.r p h)⟩
theorem ZS.co (c:Zc W z TI TO i1 i2 g1 g2 J1 J2 m σ) (k:ZS W z TI TO i1 i2 J1 J2 m σ cA s f0 fb a b xs ys rs) (ho:h'.get? TO=some {cls:=.type "tuple",data:=.seq #[a',b']}) (hs:Vh TO s.heap h'):ZS W z TI TO i1 i2 J1 J2 m σ cA {s with heap:=h'} f0 fb a' b' xs ys rs:=
 have t:=aB.Gx k.S (X:=λb=>b=TO) (tk:=s.toks) c.pv c.own.2.2 c.base.2 rfl hs (CR ([a',b']) 0 ho)
 ⟨k.T.trans (t.1.wide λb h=>.inr (.inr (.inl h))),t.2,t.1.keep _ _ k.z c.own.1 k.DD.symm,t.1.keep _ _ k.ti c.own.2.1 c.nT,ho,c.h1.step k.j1 t.1 (k.n1 c).2.symm,c.h2.step k.j2 t.1 (k.n2 c).2.symm,λp h=>t.1.vr (k.r p h)⟩
theorem ZS.c1 (c:Zc W z TI TO i1 i2 g1 g2 J1 J2 m σ) (k:ZS W z TI TO i1 i2 J1 J2 m σ cA s f0 fb a b xs ys rs) {x:V}{u:Uo} (r:VR s.heap m σ.next x u) (hs:Vh i1 s.heap h') (j:J1 m σ.next h' C8):ZS W z TI TO i1 i2 J1 J2 m σ cA {s with heap:=h'} f0 fb a b C8 ys ((x,u)::rs):=
 have o:=c.h1.own k.j1
 have t:=k.S.dP (X:=λb=>b=i1) (tk:=s.toks) o.1 o.2.1 rfl hs.extBut o.2.2.2
 ⟨k.T.trans (t.1.wide λb h=>.inr (.inr (.inr (.inl h)))),t.2,t.1.keep _ _ k.z c.own.1 c.n1.symm,t.1.keep _ _ k.ti c.own.2.1 (k.n1 c).1,t.1.keep _ _ k.to c.own.2.2 (k.n1 c).2,j,c.h2.step k.j2 t.1 c.uU.symm,λp h=>t.1.vr ((List.mem_cons.mp h).elim (λe=>aa e r) (k.r p))⟩
theorem ZS.c2 (c:Zc W z TI TO i1 i2 g1 g2 J1 J2 m σ) (k:ZS W z TI TO i1 i2 J1 J2 m σ cA s f0 fb a b xs ys rs) {x:V}{u:Uo} (r:VR s.heap m σ.next x u) (hs:Vh i2 s.heap h') (j:J2 m σ.next h' zf):ZS W z TI TO i1 i2 J1 J2 m σ cA {s with heap:=h'} f0 fb a b xs zf ((x,u)::rs):=
 have o:=c.h2.own k.j2
 have t:=k.S.dP (X:=λb=>b=i2) (tk:=s.toks) o.1 o.2.1 rfl hs.extBut o.2.2.2
 ⟨k.T.trans (t.1.wide λb h=>.inr (.inr (.inr (.inr h)))),t.2,t.1.keep _ _ k.z c.own.1 c.n2.symm,t.1.keep _ _ k.ti c.own.2.1 (k.n2 c).1,t.1.keep _ _ k.to c.own.2.2 (k.n2 c).2,c.h1.step k.j1 t.1 c.uU,j,λp h=>t.1.vr ((List.mem_cons.mp h).elim (λe=>aa e r) (k.r p))⟩
theorem ZS.pair {x y:V}{u w:Uo} (c:Zc W z TI TO i1 i2 g1 g2 J1 J2 m σ) (k:ZS W z TI TO i1 i2 J1 J2 m σ cA s f0 fb a b xs ys [(y,w),(x,u)]):ZS W z TI TO i1 i2 J1 J2 m σ cA {s with heap:=s.heap.push (cw [u,w] 0)} f0 fb a b xs ys [(qA (x,y),.ref s.heap.objs.size)]:=
 have t:=aB.oW k.S (t:=s.toks) (xs:=[x,y]) (is:=[u,w]) ⟨u,[w],rfl,k.r _ (.tail _ (.head _)),w,[],rfl,k.r _ (.head _),rfl⟩
 ⟨k.T.trans t.1.weaken,t.2.1,Uv _ k.z,Uv _ k.ti,Uv _ k.to,c.h1.step k.j1 t.1 (λf=>f),c.h2.step k.j2 t.1 (λf=>f),λp h=>List.mem_singleton.mp h▸t.2.2⟩
theorem ZS.fin (c:Zc W z TI TO i1 i2 g1 g2 J1 J2 m σ) (k:ZS W z TI TO i1 i2 J1 J2 m σ cA s f0 fb a b xs ys rs) {ia e:UN} (hi:ia=i1\/ia=i2) (hs:XM ia s.heap h') (he:∃o,h'.get? e=some o/\o.cls=.type "StopIteration")
 (q:∀e s',Step W (ZX z TI TO i1 i2) m σ.next cA m σ.next s'->aB W m σ s'.heap->(∃o,s'.heap.get? e=some o/\o.cls=.type "StopIteration")->Er (.ref e) s'):
 Er (.ref e) {s with heap:=h'}/\UC (UG W.prog W.w) A (setField (.ref z) 0 .none) (λU iX=>Er (.ref e) iX) Er {s with heap:=h'}:=by
 have o:m.own ia=none/\¬Lv W.base ia/\Lv s.heap ia/\∀l k,s.heap.get? ia≠some (cw l k):=by rcases hi with rfl | rfl;exact c.h1.own k.j1;exact c.h2.own k.j2
 have t:=k.S.dP (X:=λb=>b=ia) (tk:=s.toks) o.1 o.2.1 rfl hs o.2.2.2
 have TT:=k.T.trans (t.1.wide (X:=ZX z TI TO i1 i2) λb h=>.inr (.inr (.inr (aa h hi))))
 refine ⟨q e _ TT t.2 he,he.elim λoe r7=>?_⟩
 have hz:=hs _ _ (λx=>by refine hi.elim (λe=>?_) λe=>?_;exact c.n1 (aR e x.symm);exact c.n2 (aR e x.symm)) k.z
 refine V7 (s:={s with heap:=h'}) hz ((Vb _)) λKu PT FF=>?_
 have t':=aB.dP (s:={s with heap:=h'}) t.2 (X:=λb=>b=z) (tk:=s.toks) c.own.1 c.base.1 rfl FF.extBut λl k' e=>zt (hz.symm.trans e)
 exact q e _ (TT.trans (t'.1.wide λb h=>.inl h)) t'.2 (i12 oe (FF.extBut _ _ (λx=>Mi ((x▸r7.1).symm.trans hz) r7.2 ((of_decide_eq_true rfl))) r7.1) r7.2)
end
end
def zP (W:Wd) (m:Mem) (σ:St) (s:Um) (A:UO) (Er:Uo->Um->Prop) (z:UN) (TI:UN) (TO:UN) (i1:UN) (i2:UN) (g1:Gd) (g2:Gd) (J1:Mem->Nat->U1->List V->Prop) (J2:Mem->Nat->U1->List V->Prop) (Q:Uo->Um->Prop):Prop:=∀(xs ys:List V),A.handled=none->Zc W z TI TO i1 i2 g1 g2 J1 J2 m σ->aB W m σ s.heap->FE W z TI TO i1 i2 J1 J2 m σ.next s.heap xs ys->
 (∀x xr y yr u s',xs=x::xr->ys=y::yr->Step W (ZX z TI TO i1 i2) m σ.next s m σ.next s'->aB W m σ s'.heap->VR s'.heap m σ.next (qA (x,y)) u->FE W z TI TO i1 i2 J1 J2 m σ.next s'.heap xr yr->Q u s')->
 (xs=[]\/ys=[]->∀e s',Step W (ZX z TI TO i1 i2) m σ.next s m σ.next s'->aB W m σ s'.heap->(∃o,s'.heap.get? e=some o/\o.cls=.type "StopIteration")->Er (.ref e) s')->
 UC (UG W.prog W.w) A (Builtin.«zip.__next__» ⟨[.ref z],[]⟩) (λfin s'=>∃v,fin=.done (.ret v)/\Q v s') Er s
noncomputable abbrev zT:=Wd×Mem×St×Um×UO×(Uo->Um->Prop)×UN×UN×UN×UN×UN×Gd×Gd×(Mem->Nat->U1->List V->Prop)×(Mem->Nat->U1->List V->Prop)×(Uo->Um->Prop)
def zQ (c:zT):Prop:=zP c.1 c.2.1 c.2.2.1 c.2.2.2.1 c.2.2.2.2.1 c.2.2.2.2.2.1 c.2.2.2.2.2.2.1 c.2.2.2.2.2.2.2.1 c.2.2.2.2.2.2.2.2.1 c.2.2.2.2.2.2.2.2.2.1 c.2.2.2.2.2.2.2.2.2.2.1 c.2.2.2.2.2.2.2.2.2.2.2.1 c.2.2.2.2.2.2.2.2.2.2.2.2.1 c.2.2.2.2.2.2.2.2.2.2.2.2.2.1 c.2.2.2.2.2.2.2.2.2.2.2.2.2.2.1 c.2.2.2.2.2.2.2.2.2.2.2.2.2.2.2
noncomputable def zc:zT:=ep (⟨default,Ş 1,default,default,λU=>0,λU=>0,λU=>false⟩,gK,⟨0,λU=>none⟩,{},ZR,λU U=>True,0,0,0,0,0,.free,.free,λU U U U=>True,λU U U U=>True,λU U=>True) zQ
namespace Z0
@[irreducible] def W:Wd:=zc.1
@[irreducible] def m:Mem:=zc.2.1
@[irreducible] def σ:St:=zc.2.2.1
@[irreducible] def s:Um:=zc.2.2.2.1
@[irreducible] def A:UO:=zc.2.2.2.2.1
@[irreducible] def Er:Uo->Um->Prop:=zc.2.2.2.2.2.1
@[irreducible] def z:UN:=zc.2.2.2.2.2.2.1
@[irreducible] def TI:UN:=zc.2.2.2.2.2.2.2.1
@[irreducible] def TO:UN:=zc.2.2.2.2.2.2.2.2.1
@[irreducible] def i1:UN:=zc.2.2.2.2.2.2.2.2.2.1
@[irreducible] def i2:UN:=zc.2.2.2.2.2.2.2.2.2.2.1
@[irreducible] def g1:Gd:=zc.2.2.2.2.2.2.2.2.2.2.2.1
@[irreducible] def g2:Gd:=zc.2.2.2.2.2.2.2.2.2.2.2.2.1
@[irreducible] def J1:Mem->Nat->U1->List V->Prop:=zc.2.2.2.2.2.2.2.2.2.2.2.2.2.1
@[irreducible] def J2:Mem->Nat->U1->List V->Prop:=zc.2.2.2.2.2.2.2.2.2.2.2.2.2.2.1
@[irreducible] def Q:Uo->Um->Prop:=zc.2.2.2.2.2.2.2.2.2.2.2.2.2.2.2
theorem k:zP W m σ s A Er z TI TO i1 i2 g1 g2 J1 J2 Q:=by
 refine λxs ys hA c S Z q qe=>eQ Z.zz λf0 fb hz hf=>sQ Z.to λa b CI=>?_
 have k:ZS W z TI TO i1 i2 J1 J2 m σ s s f0 fb a b xs ys []:=⟨.refl,S,hz,Z.ti,CI,Z.j1,Z.j2,λp h=>nomatch h⟩
 have q:∀ {x xr y yr u s' f0 fb a b},xs=x::xr->ys=y::yr->ZS W z TI TO i1 i2 J1 J2 m σ s s' f0 fb a b xr yr [(qA (x,y),u)]->F0 f0->Q u s':=λe e' k h=>q _ _ _ _ _ _ e e' k.T k.S (k.r _ (.head _)) ⟨(jo _ _ k.z h),k.ti,(CR _ _ k.to),k.j1,k.j2,c.own,c.pv,c.base⟩
 clear S Z hz CI
 show UC _ _ (field (.ref z) 2>>=_) _ _ _
 refine Uk (VK k.z rfl (x:=.bool false) rfl (Uk (VK k.z rfl (x:=.ref TI) rfl (Uk (VX k.ti rfl (Uk (yD k.z hf ?_ λh₁ w1 w4=>?_)))))))
 ·refine Uk (VQ (Uk (VK k.z rfl (x:=.ref TO) rfl (Uk (V7 k.z ((Vb _)) λh₁ w1 w4=>?_)))))
  have k:=k.cz c (f0':=.ellipsis) (fb':=fb) w1 (WM w4)
  refine Uk (aa (Xh (m:=ä) ..) (Uk (Uk (ť ?_))))
  cases xs with
  | nil=>exact Uk (c.h1.done hA k.j1 k.S c.Mg λjf e hs he=>(k.fin c (.inl rfl) hs he (qe (.inl rfl))).2)
  | cons x xr=>
  refine Uk (c.h1.next k.j1 k.S c.Mg λu jf ru hs j=>Us ?_)
  have k:=k.c1 c ru hs j
  refine Uk (VX k.to rfl (Uk (î k.to λRr ho hs=>?_)))
  have k:=k.co c (a':=u) (b':=b) ho hs
  refine Uk (ò (Us (Uk (Uk (ť ?_)))))
  cases ys with
  | nil=>exact Uk (c.h2.done hA k.j2 k.S c.Mh λjf e hs he=>(k.fin c (.inr rfl) hs he (qe (.inr rfl))).2)
  | cons y yr=>
  refine Uk (c.h2.next k.j2 k.S c.Mh λw Ku aa hs j=>Us ?_)
  have k:=k.c2 c aa hs j
  refine Uk (VX k.to rfl (Uk (î k.to λKv ho hs=>?_)))
  have k:=k.co c (a':=u) (b':=w) ho hs
  refine Uk (ò (Us (Us (Uk (VX k.to rfl (Uk (YE ?_)))))))
  have k:=k.pair c
  refine Uk (Uk (V7 k.z ((Vb _)) λRt hz hs=>?_))
  have k:=k.cz c (f0':=ZW Kv.objs.size) (fb':=fb) hz (WM hs)
  clear hz hs
  exact V7 k.z ((Ui rfl)) λRu hz hs=>Us (i12 _ rfl (q rfl rfl (k.cz c (f0':=ZW Kv.objs.size) (fb':=false) hz (WM hs)) (.inr ⟨_,rfl⟩)))
 ·have k:=k.cz c w1 (WM w4)
  clear w1 w4
  refine aa (if_neg YC) (Uk (aR YA (Uk (Uk (UH ?_)))))
  cases xs with
  | nil=>exact Uk (c.h1.done hA k.j1 k.S c.Mg λjf e hs he=>(k.fin (A:=A) c (.inl rfl) hs he (qe (.inl rfl))).1)
  | cons x xr=>
  refine Uk (c.h1.next k.j1 k.S c.Mg λu jf ru hs j=>Us (Us ?_))
  have k:=k.c1 c ru hs j
  clear ru hs j
  refine Uk (Uk (UH ?_))
  cases ys with
  | nil=>exact Uk (c.h2.done hA k.j2 k.S c.Mh λjf e hs he=>(k.fin (A:=A) c (.inr rfl) hs he (qe (.inr rfl))).1)
  | cons y yr=>
  refine Uk (c.h2.next k.j2 k.S c.Mh λw Ku aa hs j=>Us (Us (Us ?_)))
  have k:=k.c2 c aa hs j
  clear aa hs j
  exact Uk (YE (Us (i12 _ rfl (q rfl rfl (k.pair c) hf))) (show 2<=VD by exact Ui rfl))
end Z0
theorem w5 {W:Wd}{m:Mem}{σ:St}{s:Um}{A:UO}{Er:Uo->Um->Prop}{z:UN}{TI:UN}{TO:UN}{i1:UN}{i2:UN}{g1:Gd}{g2:Gd}{J1:Mem->Nat->U1->List V->Prop}{J2:Mem->Nat->U1->List V->Prop}{xs ys:List V}{Q:Uo->Um->Prop} (hA:A.handled=none) (c:Zc W z TI TO i1 i2 g1 g2 J1 J2 m σ) (S:aB W m σ s.heap) (Z:FE W z TI TO i1 i2 J1 J2 m σ.next s.heap xs ys)
 (q:∀x xr y yr u s',xs=x::xr->ys=y::yr->Step W (ZX z TI TO i1 i2) m σ.next s m σ.next s'->aB W m σ s'.heap->VR s'.heap m σ.next (qA (x,y)) u->FE W z TI TO i1 i2 J1 J2 m σ.next s'.heap xr yr->Q u s')
 (qe:xs=[]\/ys=[]->∀e s',Step W (ZX z TI TO i1 i2) m σ.next s m σ.next s'->aB W m σ s'.heap->(∃o,s'.heap.get? e=some o/\o.cls=.type "StopIteration")->Er (.ref e) s'):
 UC (UG W.prog W.w) A (Builtin.«zip.__next__» ⟨[.ref z],[]⟩) (λfin s'=>∃v,fin=.done (.ret v)/\Q v s') Er s:=
 iK (P:=zQ) (by with_unfolding_all exact Z0.k) (W,m,σ,s,A,Er,z,TI,TO,i1,i2,g1,g2,J1,J2,Q) xs ys hA c S Z q qe
end
end Mine.Internal
namespace Mine.Internal
noncomputable section
open PySem PySem.W PyProof.Rows PySem.SeqAt
section
variable {W:Wd}{D:Fn->Option (List Nm×Ss)}{C:bz}{k:Nat}{m:Mem}{σ:St}{s:Um}{A:UO}{Er:Uo->Um->Prop}
variable {z TI TO i1 i2:UN}{g1 g2:Gd}{J1 J2:Mem->Nat->U1->List V->Prop}
theorem FG (hA:A.handled=none) (h1:fV W i1 g1 J1) (h2:fV W i2 g2 J2) (n1:i1≠z) (n2:i2≠z) (uU:i1≠i2) (nT:TI≠TO):
 lR W A (.ref z) (.two g1 g2) false (ZX z TI TO i1 i2) (JZ W z TI TO i1 i2 J1 J2) (λm N h u r=>JZ W z TI TO i1 i2 J1 J2 m N h r) where
 self:=λ{m N s vs Er Q} j q=>by
  obtain ⟨xs,ys,Z,_⟩:=j
  obtain ⟨f0,fb,hz,_⟩:=Z.zz
  have hT:s.TypeIs (.ref z) "zip":=⟨_,hz,rfl⟩
  refine wpAny_pyIter_slot hT ZG (UU ZG hT PySem.F.entry_zip_iter ?_ (PySem.F.args_zip_iter_1 _))
  exact Us ⟨_,rfl,"zip",_,hT,PySem.F.slot_zip_next.lookup,q⟩
 step:=λ{Y m N s m' N' s' vs} j T hY=>by
  obtain ⟨xs,ys,Z,e⟩:=j
  exact ⟨xs,ys,Z.step h1 h2 T hY,e⟩
 done:=λ{m σ s Er Q} j S hg q=>by
  obtain ⟨xs,ys,Z,e⟩:=j
  obtain ⟨f0,fb,hz,_⟩:=Z.zz
  have hT:s.TypeIs (.ref z) "zip":=⟨_,hz,rfl⟩
  have he:xs=[]\/ys=[]:=by
   cases xs with
   | nil=>exact .inl rfl
   | cons _ _=>cases ys with
    | nil=>exact .inr rfl
    | cons _ _=>contradiction
  replace hg:=fK hg
  refine Uk (Ŧ (Vl (name:=Uj "__next__") hT WH
   (UU WH hT Zw (w5 hA ⟨h1,h2,n1,n2,uU,nT,hg.1,hg.2,Z.own,Z.pv,Z.base⟩ S Z (λx xr y yr u s' e e'=>he.elim (λh=>nomatch e.symm.trans h) λh=>nomatch e'.symm.trans h) λU e s' T S' he=>?_) (Zp _))))
  exact Uk (Wq (T:="StopIteration") (b:=true) he isSubtype_stop (Us (q _ T S')))
 next:=λ{m σ s v r Er Q} j S hg q=>by
  refine eQ j λxs ys Z e=>?_;clear j
  refine eQ Z.zz λf0 fb hz U=>?_
  have hT:s.TypeIs (.ref z) "zip":=⟨_,hz,rfl⟩
  replace hg:=fK hg
  refine Uk (Ŧ (Vl (name:=Uj "__next__") hT WH
   (UU WH hT Zw
    (w5 hA ⟨h1,h2,n1,n2,uU,nT,hg.1,hg.2,Z.own,Z.pv,Z.base⟩ S Z (λx xr y yr u s' e1 e2 T S' ru Z'=>?_) λh=>?_) (Zp _))))
  ·subst e1 e2
   rw [Ñ,UX,Ç] at e
   refine aU e λz1 z2=>?_;clear e;subst z1;subst z2
   exact Us (q u s' T S' ru ⟨xr,yr,Z',rfl⟩)
  ·rcases h with rfl | rfl
   ·contradiction
   ·rw [List.zip_nil_right] at e;contradiction
 go:=λ{m σ s u r Er Q} tg j S _ q=>by
  have jj:=j
  refine eQ j λxs ys Z e=>?_;clear j
  refine eQ Z.zz λf0 fb hz hf=>wV (P:=λp=>UC (UG W.prog W.w) A p Q Er s) (λa=>?_) (Us (q s .refl S jj))
  ·refine Uk (ZU hz ?_)
   dsimp only
   split
   ·refine V7 hz ((Vb _)) λh' NU NV=>aU (S.dP (X:=λb=>b=z) (tk:=s.toks) Z.own.1 Z.base.1 rfl NV.extBut (λl k e=>by rw [hz] at e;simp at e)) λT S'=>sQ Z.to λa' b' CI=>?_
    have NW:=Z.ti
    have Hf:z≠TI:=by rintro rfl;rw [hz] at NW;simp at NW
    have DD:z≠TO:=by rintro rfl;rw [hz] at CI;simp at CI
    refine q _ (T.wide λb hb=>VT hb) S' ⟨xs,ys,⟨(jo .none fb NU (VT rfl)),T.keep _ _ NW Z.own.2.1 Hf.symm,(CR a' b' (T.keep _ _ CI Z.own.2.2 DD.symm)),h1.step Z.j1 T n1,h2.step Z.j2 T n2,Z.own,Z.pv,Z.base⟩,e⟩
   ·exact Us (q s .refl S jj)
end
end
end Mine.Internal
namespace Mine.Internal
noncomputable section
open PySem PySem.W PyProof.Rows PySem.SeqAt
section
variable {prog:Vo}{w:VB}{A:UO}{E:Uo->Um->Prop}{s:Um}
def SrcAt (h:U1) (c:String) (l:UN):Prop:=(c="list_iterator"/\∃xs,h.IsList l xs)\/(c="tuple_iterator"/\∃xs,h.IsTuple l xs)
theorem SrcAt.keep {h h':U1}{c:String}{l:UN} (H:SrcAt h c l) (k:∀o,h.get? l=some o->h'.get? l=some o):SrcAt h' c l:=by
 rcases H with ⟨e,xs,o,ho,r⟩ | ⟨e,xs,o,ho,r⟩
 ·exact .inl ⟨e,xs,o,k o ho,r⟩
 ·exact .inr ⟨e,xs,o,k o ho,r⟩
noncomputable abbrev IA (c:String) (l:UN):ć:={cls:=.type c,data:=.fields #[.ref l,.int 0 0]}
theorem qB {c:String}{l:UN}{Q:Uo->Um->Prop} (H:SrcAt s.heap c l) (q:Q (.ref s.heap.objs.size) {s with heap:=s.heap.push (IA c l)}):UC (UG prog w) A (Zs (.ref l)) Q E s:=by
 rcases H with ⟨rfl,xs,h⟩ | ⟨rfl,xs,h⟩
 ·exact Zf h q
 ·exact č h q
noncomputable abbrev Hg (h:U1) (c1:String) (l1:UN):U1:=h.push (IA c1 l1)
noncomputable abbrev IB (h:U1) (c1 c2:String) (l1 l2:UN):U1:=(Hg h c1 l1).push (IA c2 l2)
noncomputable abbrev Hh (h:U1) (c1 c2:String) (l1 l2:UN):U1:=(IB h c1 c2 l1 l2).push {cls:=.type "tuple",data:=.seq #[.ref h.objs.size,.ref (Hg h c1 l1).objs.size]}
noncomputable abbrev FH (h:U1) (c1 c2:String) (l1 l2:UN):U1:=(Hh h c1 c2 l1 l2).push {cls:=.type "tuple",data:=.seq #[.none,.none]}
noncomputable abbrev DE (h:U1) (c1 c2:String) (l1 l2:UN):U1:=(FH h c1 c2 l1 l2).push (tL .none false (IB h c1 c2 l1 l2).objs.size (Hh h c1 c2 l1 l2).objs.size)
theorem vP (c1 c2:String) (l1 l2:UN):
 MeetsIn prog w (Builtin.«zip.__new__» ⟨[.type "zip",.ref l1,.ref l2],[]⟩) (λA R s=>SrcAt s.heap c1 l1/\SrcAt s.heap c2 l2/\
  R (.ok (.ret (.ref (FH s.heap c1 c2 l1 l2).objs.size))) {s with heap:=DE s.heap c1 c2 l1 l2}):=
 .of_wp λA R s h=>by
  obtain ⟨hp,g,d,tk,os⟩:=s;obtain ⟨Mj,Rv,h⟩:=h
  have rS:=sub_zip
  have Rw:=Mj
  have Rx:SrcAt (Shared.heap ⟨hp.push (IA c1 l1),g,d,tk,os⟩) c2 l2:=Rv.keep λo e=>Uv _ e
  wp_walk using qB Rw,qB Rx
  exact i12 _ rfl h
theorem A9 {c1 c2:String}{l1 l2:UN}{Q:Uo->Um->Prop} (h1:SrcAt s.heap c1 l1) (h2:SrcAt s.heap c2 l2)
 (h:Q (.ref (FH s.heap c1 c2 l1 l2).objs.size) {s with heap:=DE s.heap c1 c2 l1 l2}):UC (UG prog w) A (call (.type "zip") [.ref l1,.ref l2]) Q E s:=by
 refine callType_newIn PySem.F.called_zip (by rfl) (PySem.F.typeCall_zip_2 _ _) (PySem.F.newCall_zip_2 _ _) (λobj=>PySem.F.args_object_init_3 obj _ _) PySem.F.entry_zip_new
  (vP c1 c2 l1 l2) (fc h1 h2 ?_)
 exact ⟨⟨_,UK _ rfl,rfl⟩,h⟩
end
section
variable {W:Wd}{D:Fn->Option (List Nm×Ss)}{C:bz}{k:Nat}{m:Mem}{σ:St}{s:Um}{A:UO}{Er:Uo->Um->Prop}{env:WO}{l:Loc}
noncomputable def Mem.mark (m:Mem) (d:UN):Mem:=⟨m.ad,m.dd,m.own,λb=>if b=d then true else m.pv b⟩
theorem aB.Hi {d:UN}{h':U1}{tk:Nat} (S:aB W m σ s.heap) (hk:∀b o,s.heap.get? b=some o->h'.get? b=some o) (hd:¬Lv s.heap d) (ht:∃l k,h'.get? d=some (cw l k)):
 Step W d8 m σ.next s (m.mark d) σ.next {s with heap:=h',toks:=tk}/\aB W (m.mark d) σ h':=by
 have nd:∀b o,s.heap.get? b=some o->b≠d:=λb o e x=>hd ⟨o,aR x e⟩
 have tp:∀a l k,TupAt s.heap m a l k->TupAt h' (m.mark d) a l k:=λa l k e=>⟨hk _ _ e.get,e.own.1,by simp only [Mem.mark,nd _ _ e.get];exact e.own.2⟩
 refine ⟨⟨Ux _,λU U=>⟨rfl,rfl⟩,λU U U=>rfl,λb ⟨o,e⟩ _=>⟨o,hk b o e⟩,λb o e U U=>hk b o e,rfl,rfl,tp,λb ⟨o,e⟩ _=>by simp only [Mem.mark,nd _ _ e,if_false]⟩,
  ⟨S.EY,S.own,λn o e=>(S.obj n o e).mono tp (λU U=>rfl) (Ux _) (λo e=>hk _ _ e) (λo e=>hk _ _ e),S.new,λb n e=>by exact bb (S.fresh b n e) λo e'=>⟨o,hk _ _ e'⟩,λb o e=>hk _ _ (S.base b o e),S.zJ,λb e=>?_,S.sW⟩⟩
 simp only [Mem.mark] at e
 by_cases q:b=d
 ·exact aa q ⟨ht,λl k e'=>hd ⟨_,S.base _ _ e'⟩⟩
 ·rw [if_neg q] at e;exact aU (S.CE b e) λz1 x=>sQ z1 λl k e'=>⟨(CR l k (hk _ _ e')),x⟩
set_option tactic.hygienic true in
theorem FJ {N:Nat}{v:V}{p:List V×Gd}{u:Uo} (hp:cG σ v=some p) (S:aB W m σ s.heap) (r:VR s.heap m σ.next v u):
 ∃c l,u=.ref l/\SrcAt s.heap c l/\∀ {m':Mem}{s':Um}{ia:UN},Step W d8 m σ.next s m' σ.next s'->s'.heap.get? ia=some (IA c l)->m'.own ia=none->¬Lv W.base ia->∃J,fV W ia p.2 J/\J m' σ.next s'.heap p.1:=by
 have tup:v.items.map (λl=>(l,Gd.free))=some p->∃c l,u=.ref l/\SrcAt s.heap c l/\∀ {m':Mem}{s':Um}{ia:UN},Step W d8 m σ.next s m' σ.next s'->s'.heap.get? ia=some (IA c l)->m'.own ia=none->¬Lv W.base ia->∃J,fV W ia p.2 J/\J m' σ.next s'.heap p.1:=λh=>by
  refine aN (Option.map_eq_some_iff.mp h) λxs hx z1=>aR z1 (mA (iT.mp (aR (d6 hx) r)) λa k is z2 ha hr=>?_);exact aa z2 (i6 "tuple_iterator" a rfl (.inr ⟨rfl,_,_,ha.get,rfl,k,rfl⟩) (λ{m' s' ia} T hi ho hb=>⟨_,He (full:=xs),0,is,k,rfl,⟨_,hi,rfl,rfl⟩,ho,hb,T.tup _ _ _ ha,T.lr hr⟩))
 cases v with
 | ref n=>
  refine aN (wB hp) λxs hg z0=>?_
  ·clear tup;refine aa z0 (zl (S.list (v:=.ref n) (p:=(n,xs)) (aZ hg) r) λis kk z3 ha hr hl U=>aa z3 ?_)
   have hn:=(b7.mp r).1
   exact i6 "list_iterator" (m.ad n) rfl (.inl ⟨rfl,_,_,ha,rfl,kk,rfl⟩) (λ{m' s' ia} T hi ho hb=>⟨_,DB (n:=n) (full:=xs),0,rfl,⟨_,hi,rfl,aa ((T.ad n hn).1) rfl⟩,ho,hb,hn⟩)
 | _=>exact tup hp
end
end
end Mine.Internal
namespace Mine.Internal
noncomputable section
open PySem PySem.W PyProof.Rows PySem.SeqAt
section
variable {n:Nat}{cmp:Nat->Nat->(Bool->Um->Prop)->Um->Prop}{s:Um}
structure Arr (n:Nat) (p:Array Nat):Prop where
 size:p.size=n
 perm:p.toList.Perm (VG n)
theorem Arr.get {p:Array Nat} (h:Arr n p) {k:Nat} (hk:k<n):∃h:k<p.toList.length,p.getD k 0=p.toList[k]:=by
 have tM:k<p.size:=by exact aa h.size hk
 exact ⟨tM,by simp [Array.getD,tM]⟩
theorem Arr.lt {p:Array Nat} (h:Arr n p) {k:Nat} (hk:k<n):p.getD k 0<n:=by
 exact bb (h.get hk) λhk e=>aa e (List.mem_range.mp (h.perm.mem_iff.mp (Wh hk)))
theorem Arr.inj {p:Array Nat} (h:Arr n p) {k l:Nat} (hk:k<n) (hl:l<n) (e:p.getD k 0=p.getD l 0):k=l:=by
 refine bb (h.get hk) λhk e1=>bb (h.get hl) λhl e2=>?_
 rw [e1,e2] at e
 exact (XW (h.perm.nodup_iff.mpr List.nodup_range)).mp e
def Ask (n:Nat) {α:Type} (P:α->Prop):KasT α->Prop
 | .ret a=>P a
 | .ask i j k=>(i<n/\j<n/\i≠j)/\∀b,Ask n P (k b)
theorem Ask.wp {α:Type}{P:α->Prop}{G:α->Um->Prop} (H:∀i j C,i<n->j<n->i≠j->(∀b,C b s)->cmp i j C s) (q:∀a,P a->G a s):∀ {t:KasT α},Ask n P t->t.kasWp cmp G s
 | .ret a,h=>q a h
 | .ask i j k,h=>H i j _ h.1.1 h.1.2.1 h.1.2.2 λb=>(h.2 b).wp H q
theorem Ask.bind {α β:Type}{P:α->Prop}{R:β->Prop}{f:α->KasT β} (q:∀a,P a->Ask n R (f a)):∀ {t:KasT α},Ask n P t->Ask n R (t.bind f)
 | .ret a,h=>q a h
 | .ask i j k,h=>⟨h.1,λb=>(h.2 b).bind q⟩
theorem o9 {α:Type}{P:α->Prop}{p:Array Nat} (hp:Arr n p) {k l:Nat} (hk:k<n) (hl:l<n) (hn:k≠l) {f:Bool->KasT α} (h:∀b,Ask n P (f b)):Ask n P (.ask (p.getD k 0) (p.getD l 0) f):=
 ⟨(fc (hp.lt hk) (hp.lt hl) (λe=>hn (hp.inj hk hl e))),h⟩
theorem gE {α:Type}{P:α->Prop}{c:Prop} [Decidable c] {t u:KasT α} (h1:c->Ask n P t) (h2:¬c->Ask n P u):Ask n P (if c then t else u):=by
 by_cases h:c
 ·exact aa (if_pos h) (h1 h)
 ·exact aa (if_neg h) (h2 h)
def IC (n m:Nat):Prop:=1<=m/\m<=n
theorem Ba {p:Array Nat} (hp:Arr n p):∀(fuel m:Nat),1<=m->m+fuel<=n->Ask n (IC n) (kas_asc p fuel m):=by
 intro z9;induction z9 with
 | zero=>intro m h1 h;exact ⟨h1,h⟩
 | succ f ih=>intro m h1 h2;exact o9 hp (by lia) (by lia) (by lia) λb=>gE (λU=>⟨h1,aJ (Y3 _ _ _) Z0 Z1 (.a Z0 (.s Z2)) Z1 h2 rfl⟩) λU=>ih (m+1) ((Vb _)) (aJ (Y3 _ _ _) (.a (.s Z0) Z1) Z2 (.a Z0 (.s Z1)) Z2 h2 rfl)
theorem lT {p:Array Nat} (hp:Arr n p) (i m:Nat):Arr n (kas_rev p i m):=
 ⟨(mirror_size _ _ _ _).trans hp.size,(Array.perm_iff_toList_perm.mp (mirror_perm p i m ((m - i)/ 2))).trans hp.perm⟩
theorem nY:∀(fuel:Nat) (p:Array Nat) (m q:Nat),Arr n p->1<=m->m+fuel<=n->Ask n (λr=>Arr n r.1/\IC n r.2.1) (kas_desc fuel p m q)
 | 0,p,m,q,hp,h1,h=>⟨hp,h1,h⟩
 | f+1,p,m,q,hp,h1,h2=>
  have a:m<n:=aJ (Y3 _ _ _) (.s Z0) Z1 (.a Z0 (.s Z2)) Z1 h2 rfl
  have b:m - 1<n:=aJ (Y4 _ _ _ _) (.s Z0) Z1 (.a (.a Z2 (.s Z3)) Z0) (.a Z1 Z2) (Uq h2 (š _ _)) rfl
  have c:m≠m - 1:=by lia
  have d:m+1+f<=n:=aJ (Y3 _ _ _) (.a (.s Z0) Z1) Z2 (.a Z0 (.s Z1)) Z2 h2 rfl
  o9 hp a b c λU=>gE (λU=>gE (λU=>nY f _ _ _ (lT hp _ _) (V6 _ _) d) λU=>nY f _ _ _ hp (V6 _ _) d)
   λU=>o9 hp b a c.symm λU=>gE (λU=>⟨hp,h1,Vz a⟩) λU=>nY f _ _ _ hp (V6 _ _) d
theorem tN {p:Array Nat}{m:Nat} (hp:Arr n p) (hm:IC n m):Ask n (λr=>Arr n r.2/\IC n r.1) (kas_tail3 m n p):=by
 refine Ask.bind (λa h=>?_) (Ba (lT hp 0 m) (n - m) m hm.1 (UI (Yy hm.2)))
 exact ⟨lT hp 0 m,h⟩
theorem nD {p:Array Nat}{m:Nat} (hp:Arr n p) (hm:m<n):Ask n (λr=>Arr n r.2/\IC n r.1) (kas_descPart m n p):=
 (nY (n - (m+1)) p (m+1) 0 hp (V6 _ _) (UI (Yy hm))).bind λa h=>gE (λU=>tN (lT h.1 _ _) h.2) λU=>tN h.1 h.2
theorem Bb {p:Array Nat} (hp:Arr n p) (hn:1<=n):Ask n (λr=>Arr n r.2/\IC n r.1) (kas_count n p):=by
 refine Ask.bind (λm h=>gE (λU=>?_) λe=>?_) (Ba hp (n - 1) 1 (Ux _) (UI (Yy hn)))
 ·exact ⟨hp,h⟩
 ·have hm:=Ú h.2 λx=>e (aa x (beq_self_eq_true n))
  exact gE (λg=>o9 hp hn (by lia) (by lia) λU=>gE (λU=>⟨hp,h⟩) λU=>nD (lT hp _ _) hm) λU=>nD hp hm
theorem pd {p:Array Nat} (hp:Arr n p) {k:Nat} (hk:k<n):∀(fuel l r:Nat),r<=k->Ask n (λU=>True) (kas_place p k fuel l r)
 | 0,l,r,_=>trivial
 | f+1,l,r,h=>gE (λU=>trivial) λe=>
  have a:(l+r)/ 2<k:=by lia
  o9 hp hk (Z8 a hk) (Vj a) λU=>gE (λU=>pd hp hk f _ _ (Vz a)) λU=>pd hp hk f _ _ h
theorem Hj:∀(fuel k:Nat) (p:Array Nat),Arr n p->k+fuel<=n->Ask n (Arr n) (kas_bin fuel p k):=by
 intro z9;induction z9 with
 | zero=>intro k p hp U;exact hp
 | succ f ih=>intro k p hp h;exact (pd hp (by lia) k 0 k (Ux _)).bind λl U=>ih (k+1) _ ⟨(bubble_size _ _ _).trans hp.size,(Array.perm_iff_toList_perm.mp (bubble_perm p k (k - l))).trans hp.perm⟩ (by lia)
theorem DF (hn:1<=n):Ask n (Arr n) (kas_sort n):=
 (Bb ⟨by simp,by rfl⟩ hn).bind λr h=>gE (λU=>Hj _ _ _ h.1 (by have:=h.2.1;lia)) λU=>h.1
end
end
end Mine.Internal
namespace Mine.Internal
noncomputable section
open PySem PySem.W PyProof.Rows PySem.SeqAt
section
variable {prog:Vo}{w:VB}{A:UO}{E:Uo->Um->Prop}{s:Um}{m:Mem}{N:Nat}
noncomputable def Kw (xs:List V) (i:Nat):Int:=(fG (xs.getD i .none)).getD 0
def kX (h:U1) (v:Uo) (a:Int):Prop:=∃b t r k,v=.ref b/\h.get? b=some (cw (.int a t::r) k)
theorem DG {h:U1}{x:V}{u:Uo} (r:VR h m N x u) (e:(fG x).isSome=true):kX h u ((fG x).getD 0):=by
 cases x with
 | cons y z=>
  cases y with
  | int a=>
   refine zo r λb k i q z1 hb hi U=>?_;clear r;subst z1
   refine bb hi λt z2=>?_;clear hi;subst z2
   exact ⟨b,t,q,k,rfl,hb.get⟩
  | _=>contradiction
 | _=>contradiction
theorem Be {h:U1}:∀ {xs:List V}{us:List Uo},LR h m N xs us->(∀x∈xs,(fG x).isSome=true)->∀i,i<us.length->kX h (us.getD i .none) (Kw xs i):=by
 intro z9;induction z9 with
 | nil=>intro us r U i hi;subst r;simp at hi
 | cons x xs ih=>
  intro us r e i hi
  refine eh r λu us z1 r1 r2=>?_;clear r;subst z1
  cases i with
  | zero=>exact DG r1 (e x (Ur))
  | succ i=>exact ih r2 (λy hy=>e y (by simp [hy])) i (by simpa using hi)
theorem DH {h:U1}:∀ {us:List Uo}{g:Nat->Int},(∀i,i<us.length->kX h (us.getD i .none) (g i))->∃fs,KatTups h us fs/\fs.length=us.length/\∀v∈fs,∃a t,v=.int a t:=by
 intro z9;induction z9 with
 | nil=>intro g U;exact uP ([]) trivial rfl (λv hv=>by contradiction)
 | cons u us ih=>
  intro g e
  refine i5 (ih (λi hi=>e (i+1) (by simpa using hi))) λfs h1 h2 h3=>jm (e 0 ((Vb _))) λb t r k hb ho=>?_
  have hb:u=.ref b:=hb
  exact aa hb (uP (.int (g 0) t::fs) (KatTups.cons ho rfl rfl (rfl) h1) (by simp [h2]) (λv hv=>by rcases List.mem_cons.mp hv with rfl | hv;exact CR _ _ rfl;exact h3 v hv))
theorem Bg {a b:Int}{u v:Uo}{C:Bool->Um->Prop} (hu:kX s.heap u a) (hv:kX s.heap v b) (ne:a≠b) (q:C (decide (a<b)) s):UC (UG prog w) A (keyLt' (tuples' true) u v) C (λU U=>False) s:=by
 refine jm hu λx t r k z1 hx=>?_;clear hu;subst z1
 refine jm hv λy t' r' k' z2 hy=>?_;clear hv;subst z2
 exact kat_lt hx rfl hy rfl (kat_cons (İ (aa (show (a==b)=false by simpa using ne) (kat_no (oneLt_int q)))))
theorem sh {a:UN}{us:List Uo}{n:Nat}{g:Nat->Int}{P:ŉ->Um->Prop} (ho:s.heap.get? a=some (VY "list" us.toArray n)) (hg:∀i,i<us.length->kX s.heap (us.getD i .none) (g i)) (inj:∀i j,i<us.length->j<us.length->g i=g j->i=j) (Kx:us.length<64)
 (h:∀p,Arr us.length p->P (.done (.ret .none)) {s with heap:=Ē s.heap a us (p.toList.map λi=>us.getD i .none).toArray}):
 UC (UG prog w) A (Builtin.«list.sort» ⟨[.ref a],[]⟩) P E s:=by
 refine aa (list_sort_plain ..) ?_
 have ha:a<s.heap.objs.size:=Vt ho
 refine Uk (listItems_at ho rfl (Uk (Ê ho rfl ?_ (by exact aa UL (aa X7 (aJ (Y1 _) Z0 (.n 16777216) (.s Z0) (.n 64) Kx rfl))) (U3 _))))
 obtain ⟨e1,Iv⟩:∃e1,(s.heap.update a (Wc λU=> #[])).get? a=some (VY "list" #[] e1):=⟨_,get?_update_seq ho (λU=> #[])⟩
 refine Uk (ô Iv rfl (Uk (YE (Uk (YU (UH ?_) (U3 _))) (by exact aa X7 (aJ (Y1 _) Z0 (.n 16777216) (.s Z0) (.n 64) Kx rfl)))))
 have Mk:(((s.heap.update a (Wc λU=> #[])).push (VY "tuple" us.toArray 0)).push (VY "list" #[] 0)).get? a=some (VY "list" #[] e1):=by
  exact aa (ß _ _ _ (by exact aa (size_push' ..) (aa (ê ..) (UZ (UR ha))))) (aa (ß _ _ _ (by exact aa (ê ..) (UZ ha))) Iv)
 show UC (UG prog w) A _ P E {s with heap:=((s.heap.update a (Wc λU=> #[])).push (VY "tuple" us.toArray 0)).push (VY "list" #[] 0)}
 dsimp only
 have hsz:us.toArray.size=us.length:=by rfl
 by_cases h2:us.toArray.size<2
 ·refine aa (if_pos h2) (aa (if_pos h2) (Uk (Us (aa (StateT.run_pure ..) (Uk (Us ?_))))))
  dsimp only
  refine Uk (ô Mk rfl (Uk (Ê Mk rfl (aa (bne_self_eq_false _) ?_) (hsz2:=by exact aa Array.size_map (aa Array.size_zip (aa hsz (aa X7 (aJ (Y3 _ _ _) Z0 (.s (.n 16777216)) (.a (.a Z2 (.s Z1)) Z0) (.a (.a Z1 (.n 2)) Z2) (Uq (Uq (UI hsz.symm) h2) (WT _ _)) rfl))))))))
  have e:(ZT (YM (λi=>us.getD i Ķ) (ZT (VG us.length)).toList))=Array.map (λx:Keyed=>x.2) (us.toArray.zip us.toArray):=by
   apply Array.toList_inj.mp
   replace h2:=hsz▸h2
   match us,h2 with
   | [],_=>simp
   | [u],_=>simp
   | _::_::_,h2=>simp only [Vm] at h2;lia
  exact Us (e▸(h (ZT (VG us.length)) ⟨by simp,by rfl⟩))
 ·refine aa (if_neg h2) (aa (if_neg h2) ?_)
  have NX:2<=us.length:=by rw [hsz] at h2;exact aJ (Y1 _) (.n 2) Z0 (.n 2) Z0 (WU h2) rfl
  have keep:∀b o,b≠a->s.heap.get? b=some o->(((s.heap.update a (Wc λU=> #[])).push (VY "tuple" us.toArray 0)).push (VY "list" #[] 0)).get? b=some o:=λb o nb e=>
   Uv _ (Uv _ (by exact aa (Heap.get?_update_ne _ _ _ _ nb) e))
  have Ao:∀i,i<us.length->kX (((s.heap.update a (Wc λU=> #[])).push (VY "tuple" us.toArray 0)).push (VY "list" #[] 0)) (us.getD i .none) (g i):=λi hi=>by
   exact jm (hg i hi) λb t r k e hb=>⟨b,t,r,k,e,keep _ _ (by rintro rfl;rw [hb] at ho;simp at ho) hb⟩
  refine i5 (DH Ao) λfs k1 k2 k3=>Uk (kat_kind (T:=.type "int") k1 (aJ (Y3 _ _ _) (.s (.n 0)) Z0 (.a (.a Z1 (.n 2)) Z2) (.a (.a Z2 Z1) Z0) (Uq (Uq (UI hsz) (WU h2)) (UI k2.symm)) rfl) (λv hv=>?_) (by decide) ?_)
  ·exact sQ (k3 v hv) λa' t' z1=>aa z1 (λA Q E s U q=>Us q)
  refine Uk (Wl (kat_run (ks:=us) (vs:=us) (G:=λp s'=>Arr us.length p/\s'={s with heap:=((s.heap.update a (Wc λU=> #[])).push (VY "tuple" us.toArray 0)).push (VY "list" #[] 0)})
   (Q:=λMl s'=>∃p:Array Nat,arrOf Ml=p.map (kas_item (us.toArray.zip us.toArray))/\failedOf Ml=none/\Arr us.length p/\s'={s with heap:=((s.heap.update a (Wc λU=> #[])).push (VY "tuple" us.toArray 0)).push (VY "list" #[] 0)}) rfl NX Kx (λp Ml s' U b c d=>Ig p b c d.1 d.2) ?_) ?_ λU U e=>e)
  ·exact (DF (aJ (Y2 _ _) (.n 1) Z0 (.a Z1 (.n 2)) (.a Z0 Z1) (Uq (UI hsz) (WU h2)) rfl)).wp (λi j C hi hj ne q=>Bg (Ao i hi) (Ao j hj) (λe=>ne (inj i j hi hj e)) (q _)) λp hp=>⟨hp,rfl⟩
  ·rintro ⟨⟨⟩,Ml⟩ s' ⟨p,Ry,hf,hp,rfl⟩
   exact aa (kat_snds (ks:=us) (vs:=us) rfl Ry) (Uk (ô Mk rfl (Uk (Ê Mk rfl (aa hf (aa (bne_self_eq_false _) (Us (h p hp)))) (U3 _) (by exact aa UL (aa (UD ..) (aa Array.length_toList (aa hp.size (aa X7 (aJ (Y1 _) Z0 (.s (.n 16777216)) (.s Z0) (.n 64) Kx rfl))))))))))
end
end
end Mine.Internal
namespace Mine.Internal
noncomputable section
open PySem PySem.W PyProof.Rows PySem.SeqAt
section
variable {h:U1}{m:Mem}{N:Nat}
theorem LR.pick:∀ {l:List Nat}{xs:List V}{us:List Uo},LR h m N xs us->(∀i∈l,i<xs.length)->LR h m N (l.map λi=>xs.getD i .none) (l.map λi=>us.getD i .none):=by
 intro l;induction l with
 | nil=>intro xs us r hl;rfl
 | cons i l ih=>
  intro xs us r hl
  have hi:=hl i (Ur)
  obtain ⟨u,hu,ru⟩:=r.get (i:=i) (x:=xs.getD i .none) (by simp [hi])
  refine ⟨us.getD i .none,_,rfl,?_,ih r λj hj=>hl j (by simp [hj])⟩
  have:us.getD i .none=u:=by refine List.getD_eq_getElem?_getD.trans (aa hu ?_);rfl
  exact aa this ru
theorem DI:∀ {xs:List V}{us:List Uo},LR h m N xs us->xs.all isInt=true->∃ns,IntsAre us ns/\xs=ns.map V.int:=by
 intro xs;induction xs with
 | nil=>exact λ{us} r U=>i12 [] (aa r .nil) rfl
 | cons x xs ih=>
  intro us r a
  refine Pr r λu us r1 r2=>aN (ih r2 (fK a).2) λns h1 h2=>bb (wD (fK a).1) λi z=>bb (bx.mp (aR z r1)) λt z3=>?_
  exact i12 (i::ns) (aa z3 (.cons i t h1)) (nh Ţ z h2)
theorem DJ {ns:List Int}{us:List Uo} (r:IntsAre us ns):LR h m N (ns.map V.int) us:=by
 induction r with
 | nil=>rfl
 | cons n t r ih=>exact i6 _ _ rfl (ey _ _) ih
end
section
variable {W:Wd}{D:Fn->Option (List Nm×Ss)}{C:bz}{k:Nat}{m:Mem}{σ:St}{s:Um}{A:UO}{Er:Uo->Um->Prop}
def FK (W:Wd) (m:Mem) (σ:St) (s:Um) (arg:Uo) (xs:List V):Prop:=∀⦃A:UO⦄ ⦃Er:Uo->Um->Prop⦄ ⦃Q:List Uo->Um->Prop⦄,A.handled=none->
 (∀us h' tk,(∀b o,s.heap.get? b=some o->h'.get? b=some o)->(∀m',(∀a l k,TupAt s.heap m a l k->TupAt h' m' a l k)->m'=m->LR h' m' σ.next xs us)->Q us {s with heap:=h',toks:=tk})->UC (UG W.prog W.w) A (collect arg) Q Er s
theorem qC {s s':Um}{X:UN->Prop}{σ':St}{gK m':Mem}{jE:Nat}{d:UN}{is:List Uo}{xs:List V}{j:Nat} (T:Step W X gK jE s m' σ'.next s') (S:aB W m' σ' s'.heap) (hX:∀b,X b->¬Lv s.heap b) (hd:¬Lv s.heap d) (hb:¬Lv W.base d) (ho:m'.own d=none)
 (hl:s'.heap.get? d=some (fh is j)) (hr:LR s'.heap m' σ'.next xs is) (hv:xs.length<=dj):
 ∃tC,Step W d8 gK jE s tC (σ'.next+1) s'/\aB W tC (σ'.push (.list xs)) s'.heap/\VR s'.heap tC (σ'.next+1) (.ref σ'.next) (.ref d):=by
 obtain ⟨tC,T',S',e⟩:=aB.adopt (o:=.list xs) (d:=d) (h':=s'.heap) (tk:=s'.toks) T S hX hd hb ⟨_,hl⟩ ho (Xf _ _) (λl k e=>by rw [hl] at e;simp at e) (λl k e=>by rw [hl] at e;simp at e)
  λtC hm ht=>⟨is,j,hl,hr.mono ht hm (US _),hv⟩
 exact uP tC T' S' (b7.mpr ⟨Uw _,(congrArg _ e.symm)⟩)
theorem Hk {arg:Uo}{xs:List V}{Q:Uo->Um->Prop} (hA:A.handled=none) (S:aB W m σ s.heap) (hc:FK W m σ s arg xs) (hs:sortable xs=true) (hv:xs.length<=dj)
 (q:∀ys,fY xs ys->∀m' s' u,Step W d8 m σ.next s m' (σ.next+1) s'->aB W m' (σ.push (.list ys)) s'.heap->VR s'.heap m' (σ.next+1) (.ref σ.next) u->Q u s'):
 UC (UG W.prog W.w) A (call (.builtin "sorted") [arg]) Q Er s:=by
 refine aU (bf hs) λKx hs=>Zq kind_sorted plain_sorted entry_sorted (args_sorted1 _) (Uk (m:=checkCount "sorted" 1 1 _) (Us (Uk (hc hA λus h' tk kp hr=>aU (S.grown (h':=h') (tk:=tk) kp) λjh aM=>?_))))
 have Bh:=hr m jh.tup rfl
 have hlen:=Bh.length
 have Ky:us.length<64:=by lia
 refine Uk (YU (eg (cH (s:={s with heap:=h',toks:=tk}) aM) λnl nb no=>?_) (by refine aa X7 ?_;lia))
 have CH:¬Lv s.heap h'.objs.size:=λ⟨o,e⟩=>nl ⟨o,kp _ _ e⟩
 refine aU (aB.grown (s:={s with heap:=h',toks:=tk}) aM (h':=h'.push (VY "list" us.toArray 0)) (tk:=tk) (λb o e=>Uv _ e)) λaA aW=>?_
 have Kz:(h'.push (VY "list" us.toArray 0)).get? h'.objs.size=some (VY "list" us.toArray 0):=UK _ rfl
 have FN:=aA.lr Bh
 have fin:∀(ys:List V) (out:List Uo),fY xs ys->ys.length=xs.length->LR (h'.push (VY "list" us.toArray 0)) m σ.next ys out->
  Q (.ref h'.objs.size) {s with heap:=Ē (h'.push (VY "list" us.toArray 0)) h'.objs.size us out.toArray,toks:=tk}:=λys out hy PS ho=>by
  refine bb (sortedHeap_at (out:=out.toArray) Kz) λe he=>?_
  obtain ⟨cm,cX⟩:=aB.dP (s:={s with heap:=h'.push (VY "list" us.toArray 0),toks:=tk}) aW (X:=λb=>b=h'.objs.size) (tk:=tk) (h':=Ē (h'.push (VY "list" us.toArray 0)) h'.objs.size us out.toArray) no nb rfl
   (λb o Rz eb=>(sortedHeap_old Rz (Vt eb)).trans eb) (λl k eb=>by rw [Kz] at eb;simp at eb)
  exact i5 (qC (((jh.trans aA).weaken).trans cm) cX (λb hb=>aa hb CH) CH nb no he (cm.lr ho) (aa PS hv)) λm' T' S' r'=>q ys hy m' _ _ T' S' r'
 refine Uk (UH (UU slot_list_sort ⟨_,Kz,rfl⟩ entry_list_sort ?body (args_list_sort _)))
 by_cases hi:xs.all isInt=true
 ·refine aN (DI Bh hi) λns hI z1=>?_;subst z1
  exact list_sort_tree Kz hI Ky λout zA a1 a2 a3=>i12 _ rfl (Us (i12 _ rfl (fin (zA.map V.int) out.toList (by delta fY;exact aa (if_pos hi) (Ih ns zA rfl rfl a2 a3)) (by exact (UD ..).trans (aa (UD ..) a2.length_eq)) (DJ a1))))
 ·rw [í] at hi
  rw [hi,ZL] at hs
  refine aU (bf hs) λhh hd=>?_
  have NY:=λx hx=>List.all_eq_true.mp hh x hx
  refine sh Kz (Be FN NY) (λi j hi hj e=>?_) Ky λp hp=>i12 _ rfl (Us (i12 _ rfl ?_))
  ·rw [hlen] at hi hj
   refine (XW (of_decide_eq_true hd) (h₀:=by simpa using hi) (h₁:=by simpa using hj)).mp (w2 (è ..) (è ..) ?_)
   simp only [Kw,List.getD_eq_getElem?_getD,U0 hi,U0 hj,Option.getD_some] at e
   refine bb (Option.isSome_iff_exists.mp (NY _ (Wh hi))) λx hx=>bb (Option.isSome_iff_exists.mp (NY _ (Wh hj))) λy hy=>?_
   rw [hx,hy] at e ⊢
   exact congrArg some e
  ·replace hp:=hlen▸hp
   have FO:(p.toList.map λi=>xs.getD i .none).Perm xs:=by
    have hr:(VG xs.length).map (λi=>xs.getD i .none)=xs:=by
     apply List.ext_getElem (by simp)
     intro i h1 h2
     simp [h2]
    have:=hp.perm.map (λi=>xs.getD i V.none)
    rwa [hr] at this
   exact fin _ _ (by delta fY;exact aa hi (FO)) FO.length_eq (LR.pick (l:=p.toList) FN λi hi=>List.mem_range.mp (hp.perm.mem_iff.mp hi))
end
end
end Mine.Internal
namespace Mine.Internal
noncomputable section
open PySem PySem.W PyProof.Rows PySem.SeqAt
section
variable {M:Z9}{A:UO}{Er:Uo->Um->Prop}{s:Um}{env:WO}
theorem tO {x:Ul} (hn:notStar x=true):Vq [x] env=[(false,WZ x env)]:=mN [] env hn
theorem eN {x:Ul}{p:V'} (hn:notStar x=true):(WJ p (Vq [x] env)).any (·.1)=false:=by
 exact aa (tO hn) rfl
theorem DK {x:Ul}{p:V'}{Q:List Uo->Um->Prop} (hn:notStar x=true) (h:UC M A (WZ x env) (λv s'=>Q [v] s') Er s):UC M A (Zg (WJ p (Vq [x] env))) Q Er s:=by
 exact aa (tO hn) (Xr (Wl h (λv s' q=>WD q) λU U e=>e))
end
section
variable {W:Wd}{D:Fn->Option (List Nm×Ss)}{C:bz}{k:Nat}{m:Mem}{σ:St}{s:Um}{A:UO}{Er:Uo->Um->Prop}{env:WO}{l:Loc}
def Bi (W:Wd) (C:bz) (k:Nat) (i:It):Prop:=∀⦃x:Ul⦄ ⦃m:Mem⦄ ⦃σ:St⦄ ⦃s:Um⦄ ⦃env:WO⦄ ⦃l:Loc⦄ ⦃A:UO⦄ ⦃Er:Uo->Um->Prop⦄ ⦃Q:K1 (List V×Gd)⦄ ⦃Q':Uo->Um->Prop⦄,
 ze W.has env.scope.names i x=true->aB W m σ s.heap->bK W m σ.next s.heap env l->cT k A->pN C i l σ Q->
 (∀p σ' m' s' u,Q p σ'->Step W d8 m σ.next s m' σ'.next s'->aB W m' σ' s'.heap->(p.2.ok σ'=true->p.1.length<=dj->FK W m' σ' s' u p.1)->Q' u s')->UC (UG W.prog W.w) A (WZ x env) Q' Er s
set_option tactic.hygienic true in
theorem FP {v:V}{p:List V×Gd}{u:Uo} (hp:cG σ v=some p) (S:aB W m σ s.heap) (r:VR s.heap m σ.next v u):
 ∃a is k,u=.ref a/\LR s.heap m σ.next p.1 is/\((s.heap.get? a=some (fh is k)/\p.1.length<=dj)\/s.heap.get? a=some (cw is k)):=by
 have tup:v.items.map (λl=>(l,Gd.free))=some p->∃a is k,u=.ref a/\LR s.heap m σ.next p.1 is/\((s.heap.get? a=some (fh is k)/\p.1.length<=dj)\/s.heap.get? a=some (cw is k)):=λh=>by
  refine aN (Option.map_eq_some_iff.mp h) λxs hx z1=>aR z1 (mA (iT.mp (aR (d6 hx) r)) λa k is z2 ha hr=>?_);exact aa z2 (CC a is k rfl hr (.inr ha.get))
 cases v with
 | ref n=>
  refine aN (wB hp) λxs hg z0=>?_
  ·clear tup;exact aa z0 (zl (S.list (v:=.ref n) (p:=(n,xs)) (aZ hg) r) λis kk z3 ha hr hl U=>aa z3 (CC _ is kk rfl hr (.inl ⟨ha,hl⟩)))
 | _=>exact tup hp
theorem Hl {e:E} (he:aw W C k e):Bi W C k (.of e):=by
 refine λx m σ s env l A Er Q Q' ho S R hR hw hq=>he (bf ho).2 S R hR hw λv az m₁ aj u q T aM ru=>aN (ai q) λp hp q=>hq _ _ _ _ _ q T aM λU hl=>λA' PU J8 hA h=>mA (FP hp aM ru) λa is kk z1 hr hh=>aa z1 ?_
 have fin:is.length<=VD->UC (UG W.prog W.w) A' (collect (.ref a)) J8 PU aj:=λhz=>by
  have key:=λh' kp=>
   h is h' aj.toks kp λm' ht e=>by cases e;exact hr.mono ht (λU U=>rfl) (Ux _)
  rcases hh with ⟨hg,_⟩ | hg
  ·exact ğ (hsz:=hz) a (.inl rfl) hg rfl rfl λh' kp=>(key h' kp)
  ·exact ğ (hsz:=hz) a (.inr rfl) hg rfl rfl λh' kp=>(key h' kp)
 exact fin (aa hr.length (Ut hl du))
theorem KA {h:U1}{m:Mem}{N:Nat}:∀ {xs:List V}{us:List Uo},us.length=xs.length->(∀(i:Nat) (x:V) (u:Uo),xs[i]? =some x->us[i]? =some u->VR h m N x u)->LR h m N xs us:=by
 intro z9;induction z9 with
 | nil=>
  intro y;cases y with
  | nil=>intro U U;exact rfl
  | cons U U=>intro e U;contradiction
 | cons x xs ih=>
  intro y0;cases y0 with
  | cons u us=>intro e r;exact ⟨u,us,rfl,r 0 x u rfl rfl,ih (WW e) λi x u a b=>r (i+1) x u (a) (b)⟩
  | _=>intros;contradiction
theorem intPairs {w:VB}{prog:Vo}{h:U1}{m:Mem}{N:Nat}:∀ {d:List (V×V)}{es:List U7},DR w h m N d es->(d.all λx=>isInt x.1)=true->
 ∃kvs:List (Int×Uo),(∀e∈es,∃k,(Zh prog w).is k e.key=true/\e.hash=(Zh prog w).hash k)/\Pairs (Zh prog w) es kvs/\d.map (·.1)=kvs.map (λq=>V.int q.1)/\kvs.length=d.length/\∀(i:Nat) (p:V×V) (q:Int×Uo),d[i]? =some p->kvs[i]? =some q->p.1=.int q.1/\VR h m N p.2 q.2:=by
 intro d;induction d with
 | nil=>exact λ{es} r U=>aa r (Pk [] (λe he=>nomatch he) .nil rfl rfl λi p q a=>nomatch a)
 | cons p d ih=>
  intro es r a
  refine Pr r λe es z1 r=>eg z1 λh1 h2 h3=>ET (ih r (fK a).2) λkvs k1 k2 k3 k4 k5=>bb (wD (fK a).1) λi hi=>bb (bx.mp (aR hi h2)) λt ht=>?_
  have hk:(Zh prog w).is i e.key=true:=(congrArg _ ht).trans (intKind_is _ _ _ _)
  exact Pk ((i,e.val)::kvs) (λe' he=>(List.mem_cons.mp he).elim (λz=>aa z (i12 i hk (h1.trans (congrArg (kh w) hi)))) (k1 e')) (.cons hk rfl k2) (nh Ţ hi k3) (congrArg Nat.succ k4) λj p' q a b=>by
   cases j with
   | zero=>exact Uu a▸Uu b▸⟨hi,h3⟩
   | succ j=>exact k5 j p' q a b
theorem yE (F:Facts W D) {o:E} (mO:aw W C k o):Bi W C k (.items o):=by
 refine λy m σ s env l A Er Q Q' ho S R hR hw hq=>Ii (kD ho) λq ap xs p hc hp ho=>aU (bf ho) λRA ho=>aa (oK ho) (vy hc (λp=>rfl) (Ui rfl) hp (mO RA S R hR hw λv az m₁ aj u q T aM ru pl=>aN (ai q) λp hp q=>aU (bE q) λhi q=>AH F Zo PySem.F.type_dict_items (congrArg _ hp) aM ru (WE rfl (bg rfl (WD (MP (aM.dict F.big hp ru) λz3 D' hl hg U=>aa z3 (eQ D'.ex λes kk hd hr=>ET (intPairs (prog:=W.prog) hr hi) λkvs k1 k2 k3 k4 k5=>?_)))))))
 have pS:(kvs.map (·.1)).Nodup:=by
  have:=D'.pS
  have e:kvs.map (λq=>V.int q.1)=(kvs.map (·.1)).map V.int:=by exact List.map_map.symm
  exact (List.pairwise_map.mp (aR e (aR k3 this))).imp λh e=>h ((congrArg _ e))
 have hD:aj.heap.DictAt (Zh W.prog W.w) (m₁.ad p.1) kvs kk:=⟨_,es.toArray,hd,⟨rfl,rfl,rfl⟩,rfl,λe he=>k1 e (by simpa using he),k2,pS⟩
 refine call_meetsIn Zo hD.dictOf.typeIs PySem.F.entry_dict_items (PySem.F.args_dict_items_1 _) (meets_dict_items (Zh W.prog W.w) (m₁.ad p.1) (by simpa using D'.nm)) ⟨⟨kvs,hD.dictOf⟩,(aU (aM.grown (h':=aj.heap.push {cls:=.type "dict_items",data:=.fields #[.ref (m₁.ad p.1)]}) (tk:=aj.toks) (λb o e=>Uv _ e)) λaA aW=>hq _ _ _ _ _ q (T.trans aA) aW λU zd=>λA' PU J8 hA h=>kdx_collect (knd:=Zh W.prog W.w) (kvs:=kvs) (ep:=kk) hA ⟨_,UK _ rfl,rfl,rfl⟩ (hD.keep λb o e=>Uv _ e) (by exact aa k4 (aR (UD (f:=λx:V×V=>V.tup [x.1,x.2])) (Ut zd du))) λh' tk as kp hlen hG=>h _ h' tk kp λm' ht e=>?_)⟩
 subst e
 refine KA (by simp [hlen,k4]) λi x u hx hu=>?_
 rw [List.getElem?_map,VU] at hx hu
 refine aN hx λpp NB z4=>aR z4 (aN hu λa ha z5=>aR z5 (mA (hG.pairs i a ha) λkey kI xv RB RC o1=>aU (k5 i pp (kI,xv) NB RB) λe1 e2=>?_))
 have nl:¬Lv (aj.heap.push {cls:=.type "dict_items",data:=.fields #[.ref (m'.ad p.1)]}) a:=λ⟨o,e⟩=>absurd (Vt e) (Nat.not_lt.mpr (Vz (hG.above a (Wa ha))))
 refine iT.mpr ⟨a,0,[key,xv],rfl,⟨o1,?_,?_⟩,key,[xv],rfl,?_,xv,[],rfl,?_,rfl⟩
 ·cases e:m'.own a with
  | none=>rfl
  | some n=>exact absurd (aW.fresh a n e) nl
 ·cases e:m'.pv a with
  | false=>rfl
  | true=>exact aU (aW.CE a e) λz6 U=>sQ z6 λl k e'=>absurd ⟨_,e'⟩ nl
 ·exact aa e1 (bb (Value.isInt_shape RC) λt z7=>aa z7 (ey _ _))
 ·exact (aA.vr e2).mono ht (λU U=>rfl) (Ux _)
theorem qD (F:Facts W D) {i:It} (hi:Bi W C k i):aw W C k (.sorted i):=by
 refine λy m σ s env l A Er Q Q' ho S R hR hw hq=>Ii (fP ho) λid np x1 p hg hn ho=>ct (f:=.Name id np) (qx F S R hg ((of_decide_eq_true rfl)) (v:=.builtin "sorted") (by kernel_rfl) ((of_decide_eq_true rfl)) (WE (eN hn) (bg (eN hn) (DK hn (hi ho S R hR hw λp σ' m' s' u q T S' hc=>aU (bE q) λzh q=>?_)))))
 replace zh:=bf zh
 have hl:p.1.length<=dj:=Ut (Vz (of_decide_eq_true (bf zh.2).1)) ((Ui rfl))
 exact Hk hR.1 S' (hc zh.1 hl) zh.2 hl λys hy tC iX u' T' gb r'=>hq _ _ _ _ _ (bp (q ys hy)).2 (T.trans T') gb r'
theorem yF (F:Facts W D) {e:E} (he:aw W C k e):aw W C k (.listOf (.of e)):=by
 refine λy m σ s env l A Er Q Q' ho S R hR hw hq=>Ii (fP ho) λid np x1 p hg hn ho=>ct (f:=.Name id np) (qx F S R hg (by decide) (v:=.type "list") (by kernel_rfl) (by decide) (Wj (eN hn) (bg (eN hn) (DK hn (he ((bf ho).2) S R hR hw λv σ' m' s' u q T S' ru=>aN (ai q) λp hp q=>aU (bE q) λzh q=>aU (bp q) λhv q=>mA (FP hp S' ru) λa is kk z2 hr hh=>aa z2 (eg (cH S') λnl nb no=>?_))))))
 have hz:is.toArray.size<=VD:=by exact aa UL (aa hr.length (Ut hv du))
 have fin:∀h' c',(∀b o',s'.heap.get? b=some o'->h'.get? b=some o')->h'.get? s'.heap.objs.size=some {cls:=.type "list",dict:=none,data:=.seq is.toArray c',slots:= #[]}->Q' (.ref s'.heap.objs.size) {s' with heap:=h'}:=λh' c' kp hd=>by
  exact aU (S'.grown (h':=h') (tk:=s'.toks) kp) λjh aM=>i5 (qC (X:=d8) (s:=s') (s':={s' with heap:=h'}) jh aM (λb hb=>hb.elim) nl nb no hd (jh.lr hr) hv) λtC aA aW A8=>hq _ _ _ _ _ q (T.trans aA) aW A8
 rcases hh with ⟨hg,_⟩ | hg
 ·exact ū (hsz:=hz) a (.inl rfl) hg rfl rfl fin
 ·exact ū (hsz:=hz) a (.inr rfl) hg rfl rfl fin
set_option tactic.hygienic true in
theorem Bj (F:Facts W D) {e:E} (he:aw W C k e):aw W C k (.fo (.of e)):=by
 refine λy m σ s env l A Er Q Q' ho S R hR hw hq=>Ii (fP ho) λid np x1 p hg hn ho=>ct (f:=.Name id np) (qx F S R hg (by decide) (v:=.type "tuple") (by kernel_rfl) (by decide) (Wj (eN hn) (bg (eN hn) (DK hn (he ((bf ho).2) S R hR hw λv σ' m' s' u q T S' ru=>aN (ai q) λp hp q=>aU (bE q) λzh q=>?_)))))
 have tup:v.items.map (λl=>(l,Gd.free))=some p->UC (UG W.prog W.w) A (call (.type "tuple") [u]) Q' Er s':=λh=>by
  refine aN (Option.map_eq_some_iff.mp h) λxs hx z2=>?_;subst z2
  have hv:=ru
  replace hv:=(d6 hx)▸hv
  refine mA (iT.mp hv) λa kk is z3 ha hr=>?_;subst z3
  exact call_tuple_same (items:=is.toArray) ⟨_,ha.get,rfl,kk,rfl⟩ (hq _ _ _ _ _ q T S' hv)
 cases v with
 | ref n=>
  dsimp only [cG] at hp
  split at hp
  ·rename_i xs RD
   injection hp with z0;subst z0
   exact zl (S'.list (v:=.ref n) (p:=(n,xs)) (aZ RD) ru) λis kk z4 ha hr hl U=>aa z4 (call_tuple_list (items:=is.toArray) ⟨_,ha,rfl,kk,rfl⟩ (λh' kp=>aU (S'.grown (h':=h') (tk:=s'.toks) kp) λjh aM=>eg (aB.oW (s:={s' with heap:=h'}) aM (t:=s'.toks) (jh.lr hr)) λaA aW A8=>hq _ _ _ _ _ q ((T.trans jh).trans aA) aW A8) (by exact aa UL (aa hr.length (Ut hl du))))
  ·contradiction
 | nil=>exact tup hp
 | cons _ _=>exact tup hp
 | none=>exact tup hp
 | bool _=>exact tup hp
 | int _=>exact tup hp
 | str _=>exact tup hp
end
end
end Mine.Internal
namespace Mine.Internal
noncomputable section
open PySem
section
theorem mR:XP (.type "zip") "__getattr__"=pure none:=by kernel_rfl
theorem iY:entryFor table "zip.__getattribute__"=some Builtin.«object.__getattribute__»:=
 entryFor_alias (id':="object.__getattribute__") (by kernel_rfl) (by rfl) (by decide+kernel) (by kernel_rfl)
theorem tP:XP (.type "zip") "keys"=pure none:=by refine ?_;kernel_rfl
theorem si:XP (.type "list") "keys"=pure none:=by refine ?_;kernel_rfl
theorem qE:(["__module__","__name__","__qualname__","__doc__","__annotations__"]:List Uz).contains "keys"=false:=by rfl
theorem tQ:("keys":Uz).length+100<=VD:=by exact Ui rfl
theorem pe (a:UN) (xs:Array Uo) (name:Uz) (u:ķ) (w6:XP (.type "zip") name=pure none) (tR:(["__module__","__name__","__qualname__","__doc__","__annotations__"]:List Uz).contains name=false) (hsz:name.length+100<=VD):
 Meets (Builtin.«object.__getattribute__» ⟨[.ref a,.str name u],[]⟩) (λA R s=>s.heap.get? a=some {cls:=.type "zip",dict:=none,data:=.fields xs,slots:= #[]}/\raisesAttr (.ref a) name A R s):=
 Meets.of_wp λprog w A R s hs=>by
  obtain ⟨hp,g,d,tk,os⟩:=s
  obtain ⟨hx,hs⟩:=hs
  have hT:(⟨hp,g,d,tk,os⟩:Um).TypeIs (.ref a) "zip":=⟨_,hx,rfl⟩
  unfold Builtin.«object.__getattribute__»
  repeat (any_goals (first | assumption | wp_step))
  refine aa tR ?_
  repeat (any_goals (first | assumption | wp_step))
  exact wpAny_raiseAttrError hs.1 hs.2 (attrMsg_fits (by decide) hsz)
theorem yG {prog:Vo}{w:VB}{A:UO}{E:Uo->Um->Prop}{s:Um}{a:UN}{xs:Array Uo}{k:Nat}{name:Uz}{Q:Option Uo->Um->Prop} (w6:XP (.type "list") name=pure none) (tR:(["__module__","__name__","__qualname__","__doc__","__annotations__"]:List Uz).contains name=false) (hsz:name.length+100<=VD)
 (hx:s.heap.get? a=some {cls:=.type "list",dict:=none,data:=.seq xs k,slots:= #[]}) (hA:A.handled=none) (h:∀h' tk,(∀b o,s.heap.get? b=some o->h'.get? b=some o)->Q none {s with heap:=h',toks:=tk}):
 UC (UG prog w) A (Ŝ (.ref a) name) Q E s:=by
 obtain ⟨hp,g,d,tk,os⟩:=s
 have hT:∀KC,(⟨hp,g,d,KC,os⟩:Um).TypeIs (.ref a) "list":=λU=>⟨_,hx,rfl⟩
 have f1:=đ
 have f3:=F.slot_list_getattribute.lookup
 have f4:=F.slot_list_getattribute.bind (.ref a)
 have f5:=am_list_getattr_none
 repeat (any_goals (first | assumption | exact hT _ | ((with_reducible show UC _ _ (call (ă "list.__getattribute__") _ _) _ _ _);refine Yq F.slot_list_getattribute (hT _) am_entry_list_getattribute (F.args_list_getattribute_2 _ _) (meets_getattribute_miss_list a xs k #[] name _ w6 tR hsz) ⟨hx,hA,λh' KC e KD=>?_⟩) | wp_step))
 refine sQ KD.there λt' u' he=>?_
 show UC _ _ (Ĕ _ _ _ _ _ _ _) _ _ _
 repeat (any_goals (first | assumption | wp_step))
 exact h _ _ KD.keeps
theorem Bm {prog:Vo}{w:VB}{A:UO}{E:Uo->Um->Prop}{s:Um}{a:UN}{xs:Array Uo}{name:Uz}{Q:Option Uo->Um->Prop} (w6:XP (.type "zip") name=pure none) (tR:(["__module__","__name__","__qualname__","__doc__","__annotations__"]:List Uz).contains name=false) (hsz:name.length+100<=VD)
 (hx:s.heap.get? a=some {cls:=.type "zip",dict:=none,data:=.fields xs,slots:= #[]}) (hA:A.handled=none) (h:∀h' tk,(∀b o,s.heap.get? b=some o->h'.get? b=some o)->Q none {s with heap:=h',toks:=tk}):
 UC (UG prog w) A (Ŝ (.ref a) name) Q E s:=by
 obtain ⟨hp,g,d,tk,os⟩:=s
 have hT:∀KC,(⟨hp,g,d,KC,os⟩:Um).TypeIs (.ref a) "zip":=λU=>⟨_,hx,rfl⟩
 have f1:=đ
 have f3:=F.slot_zip_getattribute.lookup
 have f4:=F.slot_zip_getattribute.bind (.ref a)
 have f5:=mR
 repeat (any_goals (first | assumption | exact hT _ | ((with_reducible show UC _ _ (call (ă "zip.__getattribute__") _ _) _ _ _);refine Yq F.slot_zip_getattribute (hT _) iY (F.args_zip_getattribute_2 _ _) (pe a xs name _ w6 tR hsz) ⟨hx,hA,λh' KC e KD=>?_⟩) | wp_step))
 refine sQ KD.there λt' u' he=>?_
 show UC _ _ (Ĕ _ _ _ _ _ _ _) _ _ _
 repeat (any_goals (first | assumption | wp_step))
 exact h _ _ KD.keeps
end
end
end Mine.Internal
namespace Mine.Internal
noncomputable section
open PySem PySem.W PyProof.Rows PySem.SeqAt
section
variable {W:Wd}{D:Fn->Option (List Nm×Ss)}{C:bz}{k:Nat}{m:Mem}{σ:St}{s:Um}{A:UO}{Er:Uo->Um->Prop}{env:WO}{l:Loc}
theorem jO:entryFor table "dict.update.loop"=some Builtin.«dict.update.loop»:=entryFor_of_fast (by kernel_rfl)
theorem jP:plainId "dict.update.loop"=true:=by decide+kernel
theorem DictAt.step {N:Nat}{X:UN->Prop}{s':Um}{d:UN}{ds:List (V×V)} (D:DictAt W.w m N s.heap d ds) (T:Step W X m N s m N s') (ho:m.own d=none) (hX:¬X d):DictAt W.w m N s'.heap d ds:=by
 exact eQ D.ex λes k hd dr=>⟨(jo es k (T.keep _ _ hd ho hX) (dr.mono T.tup (λU U=>rfl) (Ux _))),D.pS,D.vm,D.nm⟩
theorem tS {x y:V}{u:Uo}{Q:List Uo->Um->Prop}{N:Nat} (h:VR s.heap m N (V.tup [x,y]) u) (q:∀a b,VR s.heap m N x a->VR s.heap m N y b->Q [a,b] s):UC (UG W.prog W.w) A (œ u) Q Er s:=by
 refine mA (iT.mp h) λp k is z1 hp hr=>aa z1 (eh (PI hr) λa b z2 ra rb=>?_);subst z2
 exact Uk (XG (T:="tuple") ⟨_,hp.get,rfl⟩ (Uk (VX hp.get rfl (Us (q a b ra rb)))))
set_option tactic.hygienic true in
theorem Bn {it:Uo}{g:Gd}{X:UN->Prop}{J:Mem->Nat->U1->List V->Prop}{M:Mem->Nat->U1->Uo->List V->Prop}{d:UN}{R:Ö->Um->Prop} (I:lR W A.in1 it g false X J M) (hM:∀m N h u r,M m N h u r->J m N h r) (hu:A.units+9<VN) (hg:g.ok σ=true) (ho:m.own d=none) (hb:¬Lv W.base d) (hX:¬X d):
 ∀ {vs:List V}{ps ds AO:List (V×V)}{s:Um}{i:Int}{t:ķ},J m σ.next s.heap vs->aB W m σ s.heap->jA vs=some ps->DictAt W.w m σ.next s.heap d ds->putAll ds ps=some AO->ds.length+ps.length<=dj->
 (∀s',Step W (λb=>X b\/b=d) m σ.next s m σ.next s'->aB W m σ s'.heap->DictAt W.w m σ.next s'.heap d AO->AO.length<=ds.length+ps.length->R (.ok (.ret .none)) s')->
 YK (UG W.prog W.w) A (.builtin "dict.update.loop" ⟨[.ref d,it,.int i t,.none],[]⟩) R s:=by
 intro vs;induction vs with
 | nil=>
  intro ps ds AO s i t j S hp D nN hl q
  injection hp with z0;subst z0
  injection nN with z0;subst z0
  exact ń jO (Uk (I.done j S hg λs' T S'=>Uk (Us (Us (q s' (T.wide λb h=>VT h) S' (D.step T ho hX) (Ux _))))))
 | cons v vs ih=>
  intro ps ds AO s i t j S hp D nN hl q
  dsimp only [jA] at hp
  split at hp
  ·rename_i x y hv
   refine aN (Option.map_eq_some_iff.mp hp) λps NZ z1=>?_;clear hp;subst z1
   dsimp only [putAll] at nN
   split at nN
   ·rename_i hk
    refine ń jO (Uk (I.next j S hg λu s' T S' ru mm=>?_))
    have D':=D.step T ho hX
    refine Uk (UH (Uk (wpAny_tryCatch (tS (aR (d6 hv) ru) λa b ra rb=>UH (mL D' ((aJ (Y1 _) (.s (.a (.s Z0) (.n 5))) (.n 9900) (.s (.a Z0 (.n 9))) (.n 9900) hu rfl)) hk ra rb (aJ (Y2 _ _) Z0 (.n 10000000) (.a Z0 (.s Z1)) (.n 10000000) hl rfl) λh' t' sb ⟨es,kk,hd,dr⟩=>eQ D'.ex λRh k0 G5 U=>aU (S'.s7 (X:=λb=>b=d) (tk:=t') ho hb rfl sb (λl k e=>by rw [G5] at e;simp at e)) λaA aW=>?_)))))
    have xR:=jK ds x y
    exact Us ⟨Ũ jP _,(ih (s:={s' with heap:=h',toks:=t'}) (ds:=dput ds x y) (I.step (hM _ _ _ _ _ mm) aA (λb hb hx=>hX (aR hb hx))) aW NZ ⟨(jo es kk hd dr),kR D.pS,oV D.vm hk,D.nm⟩ nN (aJ (Y3 _ _ _) (.a Z0 Z1) (.n 10000000) (.a (.a Z2 (.s Z1)) Z0) (.a (.n 10000000) (.s Z2)) (Uq hl xR) rfl) λkn cm cX N0 KG=>q kn (((T.wide λb h=>VT h).trans (aA.wide λb h=>Vw h)).trans cm) cX N0 (by exact aJ (Y4 _ _ _ _) Z0 (.a Z1 (.s Z2)) (.a Z3 Z0) (.a (.s Z1) (.a Z3 Z2)) (Uq xR KG) rfl))⟩
   ·exact nomatch nN
  ·exact nomatch hp
structure lU (W:Wd) (cA:Um) (m:Mem) (σ:St) (s:Um) (u:Uo) (xs:List V) (g:Gd):Prop where
 keep:∀ {s':Um},Step W d8 m σ.next s m σ.next s'->aB W m σ s'.heap->∃T,s'.TypeIs u T/\(XZ T==XZ "dict")=false
 keys:∀ {s':Um}{A:UO}{Er:Uo->Um->Prop}{Q:Option Uo->Um->Prop},Step W d8 m σ.next s m σ.next s'->A.handled=none->(∀h' tk,(∀b o,s'.heap.get? b=some o->h'.get? b=some o)->Q none {s' with heap:=h',toks:=tk})->aB W m σ s'.heap->UC (UG W.prog W.w) A (Ŝ u "keys") Q Er s'
 iter:∀ {s':Um}{A:UO}{Er:Uo->Um->Prop}{Q:Uo->Um->Prop},Step W d8 m σ.next s m σ.next s'->aB W m σ s'.heap->A.handled=none->
  (∀it iX X J M,Step W d8 m σ.next s' m σ.next iX->aB W m σ iX.heap->(∀A':UO,A'.handled=none->lR W A' it g false X J M)->(∀m N h u r,M m N h u r->J m N h r)->J m σ.next iX.heap xs->(∀b,X b->¬Lv cA.heap b/\¬(Lv s'.heap b/\¬Lv s.heap b))->Q it iX)->UC (UG W.prog W.w) A (Zs u) Q Er s'
def vQ (W:Wd) (C:bz) (k:Nat) (i:It):Prop:=∀⦃x:Ul⦄ ⦃m:Mem⦄ ⦃σ:St⦄ ⦃s:Um⦄ ⦃env:WO⦄ ⦃l:Loc⦄ ⦃A:UO⦄ ⦃Er:Uo->Um->Prop⦄ ⦃Q:K1 (List V×Gd)⦄ ⦃Q':Uo->Um->Prop⦄,
 ze W.has env.scope.names i x=true->aB W m σ s.heap->bK W m σ.next s.heap env l->cT k A->pN C i l σ Q->
 (∀p σ' m' s' u,Q p σ'->Step W d8 m σ.next s m' σ'.next s'->aB W m' σ' s'.heap->(p.2.ok σ'=true->p.2.bound=true->lU W s m' σ' s' u p.1 p.2)->Q' u s')->UC (UG W.prog W.w) A (WZ x env) Q' Er s
theorem Bo {cA:Um}{gK:Mem}{jE:Nat}{u:Uo}{xs:List V}{g:Gd}{ps d:List (V×V)}{Q:Uo->Um->Prop} (N4:Lv W.base VM) (hA:A.handled=none) (hu:A.units+15<VN) (AR:Step W d8 gK jE cA m σ.next s) (S:aB W m σ s.heap) (K:lU W cA m σ s u xs g) (hg:g.ok σ=true)
 (hp:jA xs=some ps) (hd:putAll [] ps=some d) (hv:ps.length<=dj)
 (q:∀m' s' u',Step W d8 gK jE cA m' (σ.next+1) s'->aB W m' (σ.push (.dict d)) s'.heap->VR s'.heap m' (σ.next+1) (.ref σ.next) u'->Q u' s'):
 UC (UG W.prog W.w) A (call (.type "dict") [u]) Q Er s:=by
 refine eg (cH S) λnl nb no=>aU (S.grown (h':=s.heap.push {cls:=.type "dict",data:=.dict #[]}) (tk:=s.toks) (λb o e=>Uv _ e)) λjh aM=>?_
 have G5:(s.heap.push {cls:=.type "dict",data:=.dict #[]}).get? s.heap.objs.size=some (jD [] 0):=UK _ rfl
 refine callType_codes (Q₁:=λobj aj=>obj=.ref s.heap.objs.size/\aj={s with heap:=s.heap.push {cls:=.type "dict",data:=.dict #[]}}) PySem.F.kt_called_dict (PySem.F.kt_typeCall_dict_1 _) PySem.F.entry_dict_init (PySem.kt_code_dict_new _ ⟨rfl,rfl⟩) ?_
 rintro obj aj ⟨rfl,rfl⟩
 have PV:Shared.TypeIs {s with heap:=s.heap.push {cls:=.type "dict",data:=.dict #[]}} (.ref s.heap.objs.size) "dict":=⟨_,G5,rfl⟩
 refine fc PV (PySem.F.args_dict_init_2 _ _) (Uk (Uk (Yv PV (Us ?_))))
 show UC _ _ (ő "dict.__init__" s.heap.objs.size u [] .none) _ _ _
 refine aN (K.keep jh aM) λTn hT wJ=>Uk (XG hT (aa (if_pos (by simp [bne,wJ])) (Uk (K.keys (A:=A.in1.in1) jh hA (λjf tk kp=>aU (aB.grown (s:={s with heap:=s.heap.push {cls:=.type "dict",data:=.dict #[]}}) aM (h':=jf) (tk:=tk) kp) λaA aW=>Uk (VQ (Uk (K.iter (A:=A.in1.in1) (jh.trans aA) aW hA λit kn X J M cm cX I hM j hX=>?_)))) aM))))
 have RE:=λhx=>(hX _ hx).2 ⟨⟨_,kp _ _ G5⟩,nl⟩
 refine Us ⟨Ũ jP _,(Bn (ds:=[]) (I A.in1.in1 hA) hM ((aJ (Y1 _) (.s (.a (.s Z0) (.n 9))) (.n 9900) (.s (.a Z0 (.n 15))) (.n 9900) hu rfl)) hg no nb RE j cX hp ⟨(jo ([]) 0 (cm.keep _ _ (aA.keep _ _ G5 no (λf=>f)) no (λf=>f)) rfl),Vr,(by intro p hp;contradiction),λe=>nb (aa e N4)⟩ hd (by simp;trivial) λAW nP rY Hm FQ=>⟨rfl,(eQ Hm.ex λes kk Mm dr=>?_)⟩)⟩
 have CH:=λlv=>nl (AR.live _ lv λf=>f)
 obtain ⟨m',T',S',e⟩:=aB.adopt (o:=.dict d) (d:=s.heap.objs.size) (h':=AW.heap) (tk:=AW.toks) (((((AR.trans jh).trans aA).trans cm).weaken).trans nP) rY (λb hb=>by rcases hb with hb | rfl;exact (hX b hb).1;exact CH) CH nb ⟨_,Mm⟩ no (Xf _ _) (λl k e=>by rw [Mm] at e;simp at e) (λl k e=>by rw [Mm] at e;simp at e)
  λm' hm ht=>⟨es,kk,Mm,dr.mono ht hm (US _),by simp at FQ;exact aJ (Y2 _ _) Z0 (.n 10000000) (.a Z1 Z0) (.a (.n 10000000) Z1) (Uq hv FQ) rfl,Hm.pS,Hm.vm⟩
 exact q _ _ _ T' S' (b7.mpr ⟨Uw _,(congrArg _ e.symm)⟩)
end
end
end Mine.Internal
namespace Mine.Internal
noncomputable section
open PySem PySem.W PyProof.Rows PySem.SeqAt
section
variable {W:Wd}{D:Fn->Option (List Nm×Ss)}{C:bz}{k:Nat}{m:Mem}{σ:St}{s:Um}{A:UO}{Er:Uo->Um->Prop}{env:WO}{l:Loc}
theorem Bp {cA:Um}{n:Nat}{xs:List V} (hg:σ.get n=some (.list xs)) (hn:n<σ.next) (h0:∀b,Lv cA.heap b->Lv s.heap b):lU W cA m σ s (.ref (m.ad n)) xs (.obj n (.list xs)) where
 keep:=λ{s'} T S=>by
  obtain ⟨is,kk,ha,_⟩:=S.obj _ _ hg
  exact i12 "list" ⟨_,ha,rfl⟩ (by rfl)
 keys:=λ{s' A Er Q} T hA q S=>by
  obtain ⟨is,kk,ha,_⟩:=S.obj _ _ hg
  exact yG si qE tQ ha hA q
 iter:=λ{s' A Er Q} T S hA q=>by
  obtain ⟨is,kk,ha,hr,hl⟩:=S.obj _ _ hg
  obtain ⟨nl,nb,no⟩:=cH S
  obtain ⟨T',S'⟩:=S.grown (h':=s'.heap.push {cls:=.type "list_iterator",data:=.fields #[.ref (m.ad n),.int 0 0]}) (tk:=s'.toks) (λb o e=>Uv _ e)
  refine Zf (items:=is.toArray) ⟨_,ha,rfl,kk,rfl⟩ (q _ _ _ _ _ T' S' (λA' N5=>AS N5) (λU U U U U h=>h) ⟨0,rfl,⟨_,UK _ rfl,rfl,rfl⟩,no,nb,hn⟩ λb hb=>?_)
  subst hb
  exact ⟨λlv=>nl (T.live _ (h0 _ lv) λf=>f),λ⟨lv,_⟩=>nl lv⟩
theorem DL {e:E} (he:aw W C k e):vQ W C k (.of e):=by
 refine λx m σ s env l A Er Q Q' ho S R hR hw hq=>he (bf ho).2 S R hR hw λv az m₁ aj u q T aM ru=>aN (ai q) λp hp q=>hq _ _ _ _ _ q T aM λU hb=>?_
 have tup:v.items.map (λl=>(l,Gd.free))=some p->lU W s m₁ az aj u p.1 p.2:=λh=>by
  refine aN (Option.map_eq_some_iff.mp h) λxs hx z1=>?_;subst z1
  contradiction
 cases v with
 | ref n=>
  refine aN (wB hp) λxs hg z0=>?_
  ·exact aa z0 (aU (b7.mp ru) λhn z2=>aa z2 (Bp hg hn λb lv=>T.live b lv λf=>f))
 | _=>exact tup hp
theorem DM {cA:Um}{z TI TO i1 i2:UN}{g1 g2:Gd}{J1 J2:Mem->Nat->U1->List V->Prop}{vs:List V} (h1:fV W i1 g1 J1) (h2:fV W i2 g2 J2) (n1:i1≠z) (n2:i2≠z) (uU:i1≠i2) (nT:TI≠TO)
 (j:JZ W z TI TO i1 i2 J1 J2 m σ.next s.heap vs) (hX:∀b,ZX z TI TO i1 i2 b->¬Lv cA.heap b/\Lv s.heap b):lU W cA m σ s (.ref z) vs (.two g1 g2) where
 keep:=λ{s'} T S=>by
  obtain ⟨xs,ys,Z,_⟩:=j
  obtain ⟨f0,fb,hz,_⟩:=Z.zz
  exact i12 "zip" ⟨_,T.keep _ _ hz Z.own.1 (λf=>f),rfl⟩ (by rfl)
 keys:=λ{s' A Er Q} T hA q S=>by
  obtain ⟨xs,ys,Z,_⟩:=j
  obtain ⟨f0,fb,hz,_⟩:=Z.zz
  exact Bm tP qE tQ (T.keep _ _ hz Z.own.1 (λf=>f)) hA q
 iter:=λ{s' A Er Q} T S hA q=>by
  have I:=λ(A':UO) (N5:A'.handled=none)=>FG (W:=W) (A:=A') N5 h1 h2 n1 n2 uU nT
  have j':=(I A hA).step j T (λb hb=>hb.elim)
  exact (I A hA).self j' (q _ _ _ _ _ .refl S I (λU U U U U h=>h) j' λb hb=>⟨(hX b hb).1,λx=>x.2 (hX b hb).2⟩)
theorem DN {Q:Uo->Um->Prop}{va vb:V}{ua ub:Uo}{p q:List V×Gd} (S:aB W m σ s.heap) (hp:cG σ va=some p) (hq:cG σ vb=some q) (ra:VR s.heap m σ.next va ua) (rb:VR s.heap m σ.next vb ub)
 (f:∀z TI TO i1 i2 J1 J2 m' s',Step W d8 m σ.next s m' σ.next s'->aB W m' σ s'.heap->fV W i1 p.2 J1->fV W i2 q.2 J2->i1≠z->i2≠z->i1≠i2->TI≠TO->JZ W z TI TO i1 i2 J1 J2 m' σ.next s'.heap ((p.1.zip q.1).map qA)->(∀b,ZX z TI TO i1 i2 b->¬Lv s.heap b/\Lv s'.heap b)->Q (.ref z) s'):
 UC (UG W.prog W.w) A (call (.type "zip") [ua,ub]) Q Er s:=by
 refine eh (FJ (N:=0) hp S ra) λc1 l1 z1 h1 f1=>aa z1 (eh (FJ (N:=0) hq S rb) λc2 l2 z2 h2 f2=>aa z2 ?_)
 have e1:(Hg s.heap c1 l1).objs.size=s.heap.objs.size+1:=VH ..
 have e2:(IB s.heap c1 c2 l1 l2).objs.size=s.heap.objs.size+2:=((VH ..).trans (congrArg _ e1))
 have e3:(Hh s.heap c1 c2 l1 l2).objs.size=s.heap.objs.size+3:=((VH ..).trans (congrArg _ e2))
 have e4:(FH s.heap c1 c2 l1 l2).objs.size=s.heap.objs.size+4:=((VH ..).trans (congrArg _ e3))
 have kp:∀b o,s.heap.get? b=some o->(DE s.heap c1 c2 l1 l2).get? b=some o:=λb o e=>Uv _ (Uv _ (Uv _ (Uv _ (Uv _ e))))
 have g5:(DE s.heap c1 c2 l1 l2).get? (FH s.heap c1 c2 l1 l2).objs.size=some _:=UK _ rfl
 have g4:(DE s.heap c1 c2 l1 l2).get? (Hh s.heap c1 c2 l1 l2).objs.size=some _:=Uv _ (UK _ rfl)
 have g3:(DE s.heap c1 c2 l1 l2).get? (IB s.heap c1 c2 l1 l2).objs.size=some _:=Uv _ (Uv _ (UK _ rfl))
 have g2:(DE s.heap c1 c2 l1 l2).get? (Hg s.heap c1 l1).objs.size=some _:=Uv _ (Uv _ (Uv _ (UK _ rfl)))
 have g1:(DE s.heap c1 c2 l1 l2).get? s.heap.objs.size=some _:=Uv _ (Uv _ (Uv _ (Uv _ (UK _ rfl))))
 have nl:∀b,s.heap.objs.size<=b->¬Lv s.heap b:=λb hb ⟨o,e⟩=>absurd (Vt e) (Nat.not_lt.mpr hb)
 have nb:∀b,s.heap.objs.size<=b->¬Lv W.base b:=λb hb ⟨o,e⟩=>nl b hb ⟨o,S.base _ _ e⟩
 have no:∀b,s.heap.objs.size<=b->m.own b=none:=λb hb=>by
  cases e:m.own b with
  | none=>rfl
  | some n=>exact absurd (S.fresh b n e) (nl b hb)
 have a1:s.heap.objs.size≠(FH s.heap c1 c2 l1 l2).objs.size:=by exact aa e4 (UZ (Nat.lt_add_of_pos_right ((Vb _))))
 have a2:(Hg s.heap c1 l1).objs.size≠(FH s.heap c1 c2 l1 l2).objs.size:=by exact w2 e4 e1 (λh=>absurd (Ð h) ((of_decide_eq_true rfl)))
 have a3:s.heap.objs.size≠(Hg s.heap c1 l1).objs.size:=by exact aa e1 (UZ (Uw _))
 have a4:(IB s.heap c1 c2 l1 l2).objs.size≠(Hh s.heap c1 c2 l1 l2).objs.size:=by exact w2 e3 e2 (λh=>absurd (Ð h) ((of_decide_eq_true rfl)))
 have l4:s.heap.objs.size<=(FH s.heap c1 c2 l1 l2).objs.size:=by exact aa e4 (U9 _ _)
 have l3:s.heap.objs.size<=(Hh s.heap c1 c2 l1 l2).objs.size:=by exact aa e3 (U9 _ _)
 have PW:s.heap.objs.size<=(IB s.heap c1 c2 l1 l2).objs.size:=by exact aa e2 (U9 _ _)
 have N6:s.heap.objs.size<=(Hg s.heap c1 l1).objs.size:=by exact aa e1 (U9 _ _)
 refine aU (S.Hi (h':=DE s.heap c1 c2 l1 l2) (tk:=s.toks) (d:=(Hh s.heap c1 c2 l1 l2).objs.size) kp (nl _ l3) (CR _ _ g4)) λT S'=>A9 h1 h2 (aN (f1 T g1 (no _ (Ux _)) (nb _ (Ux _))) λJ1 s1 j1=>aN (f2 T g2 (no _ N6) (nb _ N6)) λJ2 s2 j2=>f _ _ _ _ _ J1 J2 _ _ T S' s1 s2 a1 a2 a3 a4 ⟨p.1,q.1,⟨(jo _ _ g5 (.inl rfl)),g3,(CR _ _ g4),j1,j2,(fc (no _ l4) (no _ PW) (no _ l3)),by simp [Mem.mark],nb _ l4,nb _ l3⟩,rfl⟩ (λb hb=>Yx hb (λhb=>?_) λz0=>Yx z0 (λhb=>?_) λz0=>Yx z0 (λhb=>?_) λz0=>Yx z0 (λhb=>?_) λhb=>?_))
 ·exact aa hb ⟨nl _ l4,_,g5⟩
 ·exact aa hb ⟨nl _ PW,_,g3⟩
 ·exact aa hb ⟨nl _ l3,_,g4⟩
 ·exact aa hb ⟨nl _ (Ux _),_,g1⟩
 ·exact aa hb ⟨nl _ N6,_,g2⟩
theorem w7 (F:Facts W D) {a b:E} (ha:aw W C k a) (hb:aw W C k b) {y:Ul}{Q:K1 (List V×Gd)}{Q':Uo->Um->Prop} (ho:ze W.has env.scope.names (.zip a b) y=true) (S:aB W m σ s.heap) (R:bK W m σ.next s.heap env l) (hR:cT k A) (hw:pN C (.zip a b) l σ Q)
 (f:∀p σ' z TI TO i1 i2 J1 J2 g1 g2 m' s',Q p σ'->p.2=.two g1 g2->Step W d8 m σ.next s m' σ'.next s'->aB W m' σ' s'.heap->fV W i1 g1 J1->fV W i2 g2 J2->i1≠z->i2≠z->i1≠i2->TI≠TO->JZ W z TI TO i1 i2 J1 J2 m' σ'.next s'.heap p.1->(∀b,ZX z TI TO i1 i2 b->¬Lv s.heap b/\Lv s'.heap b)->Q' (.ref z) s'):
 UC (UG W.prog W.w) A (WZ y env) Q' Er s:=by
 refine QY (zY ho) λid np x1 x2 p hg hn u3 ho=>aU (bf ho) λho ID=>ct (f:=.Name id np) (qx F S R hg (by decide) (v:=.type "zip") (by kernel_rfl) (by decide) (Wj (cB (es:=.cons a (.cons b .nil)) (Mb hn ho u3 ID)) (bg (cB (es:=.cons a (.cons b .nil)) (Mb hn ho u3 ID)) (vz ha (vz hb Fx) (Q:=λvs σ=>match vs with | [va,vb]=>aC (cG σ va) λp=>aC (cG σ vb) λq=>Q ((p.1.zip q.1).map (λx=>V.tup [x.1,x.2]),.two p.2 q.2) σ | _=>False) (Mb hn ho u3 ID) S R hR hw λvs cZ m₂ bJ us q aA aW rs=>?_))))
 match vs,q,rs with
 | [va,vb],q,rs=>
  exact eh (PI rs) λua ub z2 ra rb=>aa z2 (aN (ai q) λp hp q=>aN (ai q) λp' Af q=>DN aW hp Af ra rb λz TI TO i1 i2 J1 J2 m' s' T' S' h1 h2 n1 n2 uU nT j hX=>f _ _ _ _ _ _ _ J1 J2 _ _ _ _ q rfl (aA.trans T') S' h1 h2 n1 n2 uU nT j λb hb=>⟨λlv=>(hX b hb).1 (aA.live b lv λf=>f),(hX b hb).2⟩)
theorem Hn (F:Facts W D) {a b:E} (ha:aw W C k a) (hb:aw W C k b):r6 W C k (.zip a b) false:=by
 refine λy m σ s env l A Er Q Q' ho S R hR hw hq=>w7 F ha hb ho S R hR hw λp σ' z TI TO i1 i2 J1 J2 g1 g2 m' s' q e T S' h1 h2 n1 n2 uU nT j hX=>?_
 have I:=FG (W:=W) (A:=A) hR.1 h1 h2 n1 n2 uU nT
 exact I.self j (hq _ _ _ _ _ (ZX z TI TO i1 i2) (JZ W z TI TO i1 i2 J1 J2) (λm N h u r=>JZ W z TI TO i1 i2 J1 J2 m N h r) q T S' (aa e I) (λU U U U U U h=>h) j hX)
theorem Bq (F:Facts W D) {a b:E} (ha:aw W C k a) (hb:aw W C k b):vQ W C k (.zip a b):=by
 exact λy m σ s env l A Er Q Q' ho S R hR hw hq=>w7 F ha hb ho S R hR hw λp σ' z TI TO i1 i2 J1 J2 g1 g2 m' s' q e T S' h1 h2 n1 n2 uU nT j hX=>hq _ _ _ _ _ q T S' λU U=>aa e (DM h1 h2 n1 n2 uU nT j hX)
theorem qF (F:Facts W D) {i:It} (hi:vQ W C k i):aw W C k (.dictOf i):=by
 refine λy m σ s env l A Er Q Q' ho S R hR hw hq=>Ii (fP ho) λid np x1 p hg hn ho=>ct (f:=.Name id np) (qx F S R hg ((of_decide_eq_true rfl)) (v:=.type "dict") (by kernel_rfl) ((of_decide_eq_true rfl)) (Wj (eN hn) (bg (eN hn) (DK hn (hi ho S R hR hw λp σ' m' s' u q T S' hc=>aU (bE q) λzh q=>?_)))))
 rw [UE] at zh
 exact aN (ai q) λps NZ q=>aN (ai q) λd hd q=>aU (bp q) λhv q=>Bo F.mods hR.1 ((aJ (Y2 _ _) (.s (.a Z0 (.n 15))) (.n 9900) (.s (.a (.a Z0 (.m 10 Z1)) (.n 65))) (.n 9900) hR.2.2 rfl)) T S' (hc zh.1 zh.2) zh.1 NZ hd hv λtC iX u' T' gb r=>hq _ _ _ _ _ q T' gb r
end
end
end Mine.Internal
namespace Mine.Internal
noncomputable section
open PySem PySem.W PyProof.Rows PySem.SeqAt
section
variable {W:Wd}{D:Fn->Option (List Nm×Ss)}{C:bz}{k:Nat}{m:Mem}{σ:St}{s:Um}{A:UO}{Er:Uo->Um->Prop}{env:WO}{l:Loc}
theorem aB.KH {s:Um}{c:kA}{tk:Nat} (S:aB W m σ s.heap):
 ∃m',Step W d8 m σ.next s m' (σ.next+1) {s with heap:=(s.heap.push XN).push (XI (W.cls c) s.heap.objs.size),toks:=tk}/\aB W m' (σ.push (.inst c [])) ((s.heap.push XN).push (XI (W.cls c) s.heap.objs.size))/\m'.ad σ.next=s.heap.objs.size+1:=by
 have hsz:(s.heap.push XN).objs.size=s.heap.objs.size+1:=VH ..
 have kp:∀b o',s.heap.get? b=some o'->((s.heap.push XN).push (XI (W.cls c) s.heap.objs.size)).get? b=some o':=λb o' e=>Uv _ (Uv _ e)
 have g1:((s.heap.push XN).push (XI (W.cls c) s.heap.objs.size)).get? (s.heap.objs.size+1)=some (XI (W.cls c) s.heap.objs.size):=by exact aR hsz (UK _ rfl)
 have g0:((s.heap.push XN).push (XI (W.cls c) s.heap.objs.size)).get? s.heap.objs.size=some (jD [] 0):=Uv _ (UK _ rfl)
 have f:=cH S
 have nl:¬Lv s.heap (s.heap.objs.size+1):=λe=>e.elim λo e=>WX _ (Nat.lt_of_succ_lt (Vt e))
 exact za (S.Gy (o:=.inst c []) (a:=s.heap.objs.size+1) (d:=s.heap.objs.size) (tk:=tk) (λe=>e.elim λo e=>nl ⟨o,S.base _ _ e⟩) f.2.1 ⟨_,g1⟩ ⟨_,g0⟩ (S.dead nl) f.2.2 (λb U U o e=>kp b o e) (λb q l k e=>q.elim (λq=>nl ⟨_,aR q e⟩) λq=>f.1 ⟨_,aR q e⟩) λm' h1 h2=>⟨g1,[],0,g0,rfl,û _,(λp hp=>nomatch hp),U3 _,Vr⟩) λm' T S' z1 z2=>
  ⟨m',Step.close .refl T λb q l=>q.elim (λq=>nl (aR q l)) λq=>f.1 (aR q l),S',z1⟩
theorem vR {A:UO}{a:UN}{rest:List Uo} (h:cT k A):C1 k (A.under (.builtin "type.__call__" ⟨.ref a::rest,[]⟩)):=by
 have e1:(ĭ "type.__call__" ⟨.ref a::rest,[]⟩).weight=1:=by kernel_rfl
 have e2:(ĭ "type.__call__" ⟨.ref a::rest,[]⟩).cUnits=1:=by kernel_rfl
 refine ⟨h.1,?_,?_⟩
 ·show A.depth+_+2*k<_
  refine ?_;have:=h.2.1;exact aJ (Y2 _ _) (.s (.a (.s Z0) (.m 2 Z1))) (.n 1000) (.s (.s (.a Z0 (.m 2 Z1)))) (.n 1000) this rfl
 ·show A.units+_+10*k+60<_
  refine ?_;have:=h.2.2;exact aJ (Y2 _ _) (.s (.a (.a (.s Z0) (.m 10 Z1)) (.n 60))) (.n 9900) (.s (.a (.a Z0 (.m 10 Z1)) (.n 65))) (.n 9900) this rfl
theorem Ho (F:Facts W D) (H:fQ W C k) {c:kA}{as:Es} (has:oX W C k as):aw W C k (.new c as):=by
 refine λy m σ s env l A Er Q Q' ho S R hR hw hq=>Pt (mJ ho) λid np xs p hg ho=>ct (f:=.Name id np) (Fy F S R hg (F.Jv c) ?_)
 have main:∀ {vs:List V}{az:St}{m₁:Mem}{aj:Um}{us:List Uo},(bA az 0 (.inst c []) λr σ=>C (jz c) (r::vs) σ λv σ=>ei (decide (v=.none)) (Q r σ))->Step W d8 m σ.next s m₁ az.next aj->aB W m₁ az aj.heap->LR aj.heap m₁ az.next vs us->
  UC (UG W.prog W.w) A (call (.ref (W.cls c)) us) Q' Er aj:=λ{vs az m₁ aj us} q T aM rs=>by
  refine i5 (aM.KH (c:=c) (tk:=aj.toks)) λm₂ aA aW e=>eg (F.make c) λx1 x2 x3=>?_
  have X:=F.X.keeps aM.base
  refine ď (make_core (h:=aj.heap) (g:=aj.gens) (d:=aj.drawn) (t:=aj.toks) (os:=aj.os) (makes_of X x1) (looks_findIn X x2) (λself=>bind_fn X self x3) (.inl rfl) ?_)
  have hr:VR ((aj.heap.push XN).push (XI (W.cls c) aj.heap.objs.size)) m₂ (az.next+1) (.ref az.next) (.ref (aj.heap.objs.size+1)):=b7.mpr ⟨Uw _,(congrArg _ e.symm)⟩
  refine H (s:={aj with heap:=(aj.heap.push XN).push (XI (W.cls c) aj.heap.objs.size),toks:=aj.toks}) aW (vs:=.ref az.next::vs) ⟨_,us,rfl,hr,aA.lr rs⟩ (vR hR) q λv σ' m' s' u q T' S' ru=>aU (bp q) λhv q=>?_
  subst hv
  exact ⟨eV.mp ru,(hq _ _ _ _ _ q ((T.trans aA).trans T') S' (T'.vr hr))⟩
 cases xs with
 | nil=>
  cases as with
  | cons _ _=>contradiction
  | nil=>
   exact callWith_K0 (F.X.keeps S.base) (F.Aa c) (main hw .refl S rfl)
 | cons x xs=>
  cases as with
  | nil=>contradiction
  | cons a as=>
   exact eg (iW (env:=env) ho) λh1 h2 h3=>callWith_K (F.X) (F.Aa c) (has ho S R hR hw λvs az m₁ aj us q T aM rs=>⟨F.X.keeps aM.base,main q T aM rs⟩) h3 (cB (es:=as) h2)
end
end
end Mine.Internal
namespace Mine.Internal
noncomputable section
open PySem PySem.W PyProof.Rows PySem.SeqAt
section
variable {W:Wd}{D:Fn->Option (List Nm×Ss)}{C:bz}{k:Nat}
noncomputable def N7:E->Bool
 | .not _ | .bW _ _ | .cmp _ _ _ | .isNone _ | .isNotNone _ | .ite _ _ _ | .bad=>true
 | _=>false
noncomputable def sj (y:Ul):Bool:=
 @UT (λU=>Bool) y (λU U U=>false) (λU U U=>true) (λU U U U=>true) (λU U U=>false) (λU U U U=>true) (λU U U U=>false) (λU U U=>true) (λU U U=>true) (λU U U U=>true) (λU U U U=>true) (λU U U U U=>true) (λU U U U=>true) (λU U=>true) (λU U=>true) (λU U=>true) (λU U U U=>false) (λU U U U=>true) (λU U U U=>true) (λU U=>true) (λU U U=>true) (λU U U=>true) (λU U U=>true) (λU U=>true) (λU U=>true) (λU U=>true) (λU U U=>true) (λU U U U=>true)
noncomputable def Hq (x:Ul):Bool:=sj x||Ji x λo U U=>o==.USub
theorem pX {env:WO}{whole:ä Uo}{x:Ul}:sj x=true->Y6 x env whole=(do let v ← whole;ZP x.pos;Zi [v] (Đ v)):=
 @UT (λx=>sj x=true->Y6 x env whole=(do let v ← whole;ZP x.pos;Zi [v] (Đ v))) x (λU U U h=>ff h) (λU U U h=>rfl) (λU U U U h=>rfl) (λU U U h=>ff h) (λU U U U h=>rfl) (λU U U U h=>ff h) (λU U U h=>rfl) (λU U U h=>rfl) (λU U U U h=>rfl) (λU U U U h=>rfl) (λU U U U U h=>rfl) (λU U U U h=>rfl) (λU U h=>rfl) (λU U h=>rfl) (λU U h=>rfl) (λU U U U h=>ff h) (λU U U U h=>rfl) (λU U U U h=>rfl) (λU U h=>rfl) (λU U U h=>rfl) (λU U U h=>rfl) (λU U U h=>rfl) (λU U h=>rfl) (λU U h=>rfl) (λU U h=>rfl) (λU U U h=>rfl) (λU U U U h=>rfl)
theorem isTrue_plain {x:Ul}{env:WO}{whole:ä Uo} (h:Hq x=true):Y6 x env whole=(do let v ← whole;ZP x.pos;Zi [v] (Đ v)):=by
 refine (Bool.or_eq_true_iff.mp h).elim (λh=>?_) λh=>?_
 ·exact pX h
 ·refine nL (Io h) λo e p z1 h=>aa z1 (aa (kO h) ?_);rfl
theorem tf {P:Prop} (h:true=false):P:=YZ h
theorem vS {hs:Fn->Bool}{sc:Sc}{e:E} (h:N7 e=false) {x:Ul}{env:WO}{whole:ä Uo} (ho:dH hs sc e x=true):Y6 x env whole=(do let v ← whole;ZP x.pos;Zi [v] (Đ v)):=by
 refine isTrue_plain ?_
 cases e with
 | nm _=>refine eQ (ja ho) λU U z1 U=>aa z1 ?_;rfl
 | glob _=>refine eQ (ja ho) λU U z2 U=>aa z2 ?_;rfl
 | int _=>refine nL (oH ho) λU U U z3 U=>aa z3 ?_;rfl
 | neg _=>refine nL (Io ho) λop U U z4 ho=>aa z4 (aa (kO (bf ho).1) ?_);rfl
 | str _=>refine nL (oH ho) λU U U z5 U=>aa z5 ?_;rfl
 | none=>refine nL (oH ho) λU U U z6 U=>aa z6 ?_;rfl
 | bool _=>refine nL (oH ho) λU U U z7 U=>aa z7 ?_;rfl
 | attr _ _=>refine nL (qj ho) λU U U z8 U=>aa z8 ?_;rfl
 | sub _ _=>refine nL (pQ ho) λU U U z9 U=>aa z9 ?_;rfl
 | sliceTo _ _=>refine nL (pQ ho) λU U U JF U=>aa JF ?_;rfl
 | sliceFrom _ _=>refine nL (pQ ho) λU U U JG U=>aa JG ?_;rfl
 | rev _=>refine nL (pQ ho) λU U U JH U=>aa JH ?_;rfl
 | call f as=>refine jm (mJ (bf ho).2) λU U U U JI U=>aa JI ?_;rfl
 | aY _ _ _=>refine jm (kD ho) λU U U U JJ U=>aa JJ ?_;rfl
 | new _ _=>refine jm (mJ ho) λU U U U RF U=>aa RF ?_;rfl
 | bin _ _ _=>refine jm (Jk ho) λU U U U RG U=>aa RG ?_;rfl
 | list _=>refine eQ (Fb ho) λU U RH U=>aa RH ?_;rfl
 | tup _=>refine nL (zO ho) λU U U RI U=>aa RI ?_;rfl
 | dict _=>refine nL (Fd ho) λU U U RJ U=>aa RJ ?_;rfl
 | comp _ _ _ _=>refine LX (rQ ho) λU U U U U U RK U=>aa RK ?_;rfl
 | len _=>refine jm (fP ho) λU U U U RL U=>aa RL ?_;rfl
 | listOf _=>refine jm (fP ho) λU U U U RM U=>aa RM ?_;rfl
 | fo _=>refine jm (fP ho) λU U U U RN U=>aa RN ?_;rfl
 | dictOf _=>refine jm (fP ho) λU U U U RO U=>aa RO ?_;rfl
 | sorted _=>refine jm (fP ho) λU U U U RP U=>aa RP ?_;rfl
 | strOf _=>refine jm (fP ho) λU U U U RQ U=>aa RQ ?_;rfl
 | append _ _=>refine jm (kD ho) λU U U U RR U=>aa RR ?_;rfl
 | extend _ _=>refine jm (kD ho) λU U U U RS U=>aa RS ?_;rfl
 | pop _=>refine jm (kD ho) λU U U U RT U=>aa RT ?_;rfl
 | oA _ _=>refine jm (kD ho) λU U U U RU U=>aa RU ?_;rfl
 | rD _ _ _=>refine jm (kD ho) λU U U U RV U=>aa RV ?_;rfl
 | ir=>exact ff ho
 | _=>exact tf h
theorem KI {a b c:Bool} (h:(a&&b&&c)=true):(a=true/\b=true)/\c=true:=⟨bf (bf h).1,(bf h).2⟩
theorem PX {a b c d:Bool} (h:(a&&b&&c&&d)=true):((a=true/\b=true)/\c=true)/\d=true:=⟨KI (bf h).1,(bf h).2⟩
theorem Br {e:E} (h:N7 e=false) (he:aw W C k e):jg W C k e:=AB he λ{hs sc x env whole} ho=>vS h ho
def CP (W:Wd) (C:bz) (k:Nat) (e:E):Prop:=aw W C k e/\jg W C k e/\qz W C k e
noncomputable def Bs:E->Bool
 | .comp .. =>true
 | _=>false
theorem jQ {e:E} (hc:Bs e=false) (he:aw W C k e/\jg W C k e):CP W C k e:=⟨he.1,he.2,λe' x i ifs e=>nomatch (congrArg Bs e).symm.trans hc⟩
theorem bD {e:E} (h:N7 e=false) (hc:Bs e=false) (he:aw W C k e):CP W C k e:=jQ hc ⟨he,Br h he⟩
theorem Hr:aw W C k .bad:=by
 exact λy m σ s env l A Er Q Q' ho S R hR hw hq=>hw.elim
theorem Hs:jg W C k .bad:=by
 exact λy m σ s env l A Er Q Q' ho S R hR hw hq=>hw.elim
theorem Ht:kU W C k .bad:=by
 exact λy m σ s env l A Er Q Q' ho S R hR hw hq=>hw.elim
def IP (W:Wd) (C:bz) (k:Nat) (i:It):Prop:=(Nj i=true->r6 W C k i false)/\(∀e,i=.of e->aw W C k e)/\(∀a b,i=.zip a b->aw W C k a/\aw W C k b)/\∀a,i=.items a->aw W C k a
theorem DO {e:E}{x:Nm}{i:It}{ifs:Es} (h1:CP W C k e) (h2:r6 W C k i false) (h3:oX W C k ifs/\jM W C k ifs):CP W C k (.comp e (.one x) i ifs):=
 have he:aw W C k (.comp e (.one x) i ifs):=Dw (x:=x) h1.1 h2 h3.2
 ⟨he,Br rfl he,λe' x' i' RW e=>E.noConfusion e λa U b c=>a▸b▸c▸fc h1.1 h2 h3.2⟩
theorem FT {e:E} (he:aw W C k e):IP W C k (.of e):=⟨λU=>Kg he,λe' q=>It.noConfusion q λh=>aR h he,λU U q=>It.noConfusion q,λU q=>It.noConfusion q⟩
theorem tU (F:Facts W D) {e:E} (he:aw W C k e):IP W C k (.range e):=⟨λU=>A3 F he,λe' q=>It.noConfusion q,λU U q=>It.noConfusion q,λU q=>It.noConfusion q⟩
theorem Bu (F:Facts W D) {a b:E} (h1:aw W C k a) (h2:aw W C k b):IP W C k (.zip a b):=⟨λU=>Hn F h1 h2,λe' q=>It.noConfusion q,λU U q=>It.noConfusion q λh k=>aR h (aR k ⟨h1,h2⟩),λU q=>It.noConfusion q⟩
theorem tV {a:E} (h:aw W C k a):IP W C k (.items a):=⟨(λq=>nomatch q),λe' q=>It.noConfusion q,λU U q=>It.noConfusion q,λU q=>It.noConfusion q λk=>aR k h⟩
theorem cp (F:Facts W D) (H:fQ W C k) (e:E):bL e=true->CP W C k e:=
 @E.rec (λe=>bL e=true->CP W C k e) (λes=>lM es=true->oX W C k es/\jM W C k es) (λps=>zZ ps=true->AP W C k ps) (λi=>C0 i=true->IP W C k i)
  (λU U=>bD rfl rfl Fw)
  (λU U=>bD rfl rfl (De F))
  (λU U=>bD rfl rfl GN)
  (λU U=>bD rfl rfl GO)
  (λU U=>bD rfl rfl GP)
  (λU=>bD rfl rfl Df)
  (λU U=>bD rfl rfl Dg)
  (λU U i h=>bD rfl rfl (Dh F (i h).1))
  (λU U i j h=>bD rfl rfl (GQ F (i (fK h).1).1 (j (fK h).2).1))
  (λU U i j h=>bD rfl rfl (vC (i (fK h).1).1 (j (fK h).2).1))
  (λU U i j h=>bD rfl rfl (rZ (i (fK h).1).1 (j (fK h).2).1))
  (λU i h=>bD rfl rfl (GV (i h).1))
  (λU U i h=>bD rfl rfl (Di F H (of_decide_eq_true (fK h).1) (i (fK h).2).1))
  (λU U U i j h=>bD rfl rfl (AF F H (i (fK h).1).1 (j (fK h).2).1))
  (λU U i h=>bD rfl rfl (Ho F H (i h).1))
  (λh=>ff h)
  (λU U U i j h=>bD rfl rfl (GW (i (fK h).1).1 (j (fK h).2).1))
  (λU U U i j h=>jQ rfl (GX F (i (fK h).1).1 (j (fK h).2).1))
  (λU i h=>jQ rfl (yn (i h).1))
  (λU i h=>jQ rfl (r5 (i h).1))
  (λU U i h=>jQ rfl (yp (i h).2))
  (λU i h=>jQ rfl (GY (i h).1 (i h).2.1))
  (λU U U i j l h=>jQ rfl (GZ (i (lq h).1.1).2.1 (j (lq h).1.2).1 (l (lq h).2).1 (j (lq h).1.2).2.1 (l (lq h).2).2.1))
  (λU i h=>bD rfl rfl (Dm (i h).1))
  (λU i h=>bD rfl rfl (G4 (i h).1))
  (λU i h=>bD rfl rfl (wU F (i h)))
  (λe t it U i j l=>by
   cases t with
   | one x=>exact λh=>aU (fK h) λh h3=>aU (lq h) λh1 h2=>DO (i h1.1) ((j h2).1 h1.2) (l h3)
   | many _=>exact λh=>ff h)
  (λU i h=>bD rfl rfl (GS F (i h).1))
  (λit i=>by
   cases it with
   | of e=>exact λh=>bD rfl rfl (yF F ((i h).2.1 e rfl))
   | _=>exact λh=>ff h)
  (λit i=>by
   cases it with
   | of e=>exact λh=>bD rfl rfl (Bj F ((i h).2.1 e rfl))
   | _=>exact λh=>ff h)
  (λit i=>by
   cases it with
   | of e=>exact λh=>bD rfl rfl (qF F (DL ((i h).2.1 e rfl)))
   | zip a b=>exact λh=>bD rfl rfl (qF F (Bq F ((i h).2.2.1 a b rfl).1 ((i h).2.2.1 a b rfl).2))
   | _=>exact λh=>ff h)
  (λit i=>by
   cases it with
   | of e=>exact λh=>bD rfl rfl (qD F (Hl ((i h).2.1 e rfl)))
   | items e=>exact λh=>bD rfl rfl (qD F (yE F ((i h).2.2.2 e rfl)))
   | _=>exact λh=>ff h)
  (λU i h=>bD rfl rfl (AL F (i h).1))
  (λU U i j h=>bD rfl rfl (yk (i (fK h).1).1 (j (fK h).2).1))
  (λU U i j h=>bD rfl rfl (yl (i (fK h).1).1 (j (fK h).2).1))
  (λU i h=>bD rfl rfl (GR (i h).1))
  (λU U i j h=>bD rfl rfl (Dj F (i (fK h).1).1 (j (fK h).2).1))
  (λU U U i j l h=>bD rfl rfl (Dk F (i (lq h).1.1).1 (j (lq h).1.2).1 (l (lq h).2).1))
  (λU=>jQ rfl ⟨Hr,Hs⟩)
  (λU=>⟨Fx,trivial⟩)
  (λU U i j h=>⟨vz (i (fK h).1).1 (j (fK h).2).1,⟨(i (fK h).1).1,(i (fK h).1).2.1⟩,(j (fK h).2).2⟩)
  (λU=>Fz)
  (λU U U i j l h=>G6 (i (lq h).1.1).1 (j (lq h).1.2).1 (l (lq h).2))
  (λU i h=>FT (i h).1)
  (λU i h=>tU F (i h).1)
  (λU U i j h=>Bu F (i (fK h).1).1 (j (fK h).2).1)
  (λU i h=>tV (i h).1)
  e
theorem DP (F:Facts W D) (H:fQ W C k) (i:It):C0 i=true->IP W C k i:=by
 cases i with
 | of e=>exact λh=>FT (cp F H e h).1
 | range e=>exact λh=>tU F (cp F H e h).1
 | zip a b=>exact λh=>Bu F (cp F H a (fK h).1).1 (cp F H b (fK h).2).1
 | items a=>exact λh=>tV (cp F H a h).1
theorem Bv (F:Facts W D) (H:fQ W C k) (s:Ss):kE s=true->pU W C k s:=
 @Ss.rec (λs=>Ju s=true->kU W C k s) (λs=>kE s=true->pU W C k s)
  (λe h=>Dz (cp F H e h).1)
  (λU e h=>DA (cp F H e h).1 (cp F H e h).2.2)
  (λU e h=>yC (cp F H e h).1)
  (λo U e h=>vO F (cp F H o (fK h).1).1 (cp F H e (fK h).2).1)
  (λo i e h=>cC F (cp F H o (lq h).1.1).1 (cp F H i (lq h).1.2).1 (cp F H e (lq h).2).1)
  (λc U U i j h=>Hd (cp F H c (lq h).1.1).2.1 (i (lq h).1.2) (j (lq h).2))
  (λc U i h=>dJ (cp F H c (fK h).1).2.1 (i (fK h).2))
  (λU i U j h=>ig ((DP F H i (lq h).1.2).1 (lq h).1.1) (j (lq h).2) nofun)
  (λe h=>ek (cp F H e h).1)
  (λU=>vK)
  (λo i h=>mP F (cp F H o (fK h).1).1 (cp F H i (fK h).2).1)
  (λU=>Dy)
  (λU=>Ht)
  (λU=>Hc)
  (λU U i j h=>Dx (i (fK h).1) (j (fK h).2))
  s
end
end
end Mine.Internal
namespace Mine.Internal
noncomputable section
open PySem PySem.W PyProof.Rows PySem.SeqAt
noncomputable def w8:Ss:=.cons (.expr .ir) (.cons (.setattr (.nm .ae) .dZ (.dict .nil)) .nil)
structure pg (W:Wd) where
 o:ć
 fd:Á
 p0:V'
 p1:V'
 ap:V'
 p:V'
 ep:V'
 st:UQ
 cc:UN
 Mn:UN
 ar:Arg
 oc:ć
 vs:Array Uo
 file:Uz
 tf:ķ
 oD:ć
 cd:ClassData
 at_:W.base.get? (W.fa .aI)=some o
 data:o.data=.func fd
 L9:fd.body=.stmts [.Expr (.Call (.Attribute (.Call (.Name "super" p0) [] [] p1) "__init__" ap) [] [] p) ep,st]
 ok:L8 W.has fd.scope.names (.setattr (.nm .ae) .dZ (.dict .nil)) st=true
 co:fd.scope.isCoroutine=false
 gen:fd.scope.isGenerator=false
 kind:fd.scope.kind=.function
 code:W.base.CodeRec fd.code fd.qualname
 glob:fd.globals=U'
 mI:fd.builtins=XS
 gX:fd.closure=[(("__class__":Uz),cc)]
 PY:fd.code=.ref Mn
 bind:∀us:List Uo,us.length=1->Yg fd ⟨us,[]⟩=pure (([Nm.ae].map Nm.str).zip us)
 head:(fd.params.posonlyargs++fd.params.args).head? =some ar
 PZ:ar.arg=Nm.ae.str
 tW:fd.scope.names.lookup Nm.ae.str=some .local
 N8:fd.scope.names.lookup ("super":Uz)=some .globalImplicit
 Iy:fd.scope.names.lookup ("__class__":Uz)=some .free
 Bw:∀x∈fd.scope.names,x.2≠.cell
 frees:∀x∈fd.scope.names,x.2=.free->x.1="__class__"
 DQ:W.base.get? Mn=some oc
 P0:oc.data=.fields vs
 cv:vs[2]? =some (.str file tf)
 FU:((W.prog.main.file:Uz)==file)=true
 tX:(W.prog.main.scope.names.lookup ("super":Uz)).isSome=false
 cell:W.base.IsCell cc (some (.ref (W.cls .av)))
 clsAt:W.base.get? (W.cls .av)=some oD
 DS:oD.data=.cls cd
 Hu:clsIn W.K (W.cls .av)=some cd
 sub:mroIn W.K (W.cls .av) (.ref (W.cls .av))=some true
 Mo:YF W.K cStatics "thirdparty.any"=some none
 sup:ks_superIn W.K (W.cls .av) (W.cls .av) "__init__"=some (some (.ref (W.fa .b6)))
 Mp:∃of,W.base.get? (W.fa .b6)=some of/\of.cls=.type "function"
 Mq:ö W.K (W.fa .b6)=true
 hp:(ap.endLine==p.line)=true
section
variable {W:Wd}{D:Fn->Option (List Nm×Ss)}{n k:Nat}
theorem DT {M:Z9}{A:UO}{Er:Uo->Um->Prop}{s:Um}{env:WO}{c:Code}{q:Ul}{nm:Uz}{ap p:V'}{Q:Uo->Um->Prop} (hp:(ap.endLine==p.line)=true)
 (h:_root_.PySem.wpAt M A c (WC q nm env (WZ q env)) (λov aj=>∀pl,UC M A (Xj ov nm pl) (λr bJ=>UC M A (ø p r.1 r.2 (WJ p (Vq [] env)) []) Q Er bJ) Er aj) Er s):
 _root_.PySem.wpAt M A c (WZ (.Call (.Attribute q nm ap) [] [] p) env) Q Er s:=by
 refine _root_.PySem.wpAt_bind (ks_wpAt_mono h (λov aj h₁=>ţ (Uk (Vi (Uk (UH (Wl (h₁ _) (λr bJ jf=>Uk ?_) λU U x=>x)))))) λU U x=>x)
 delta ũ
 exact aa hp (Us jf)
theorem vT {C:bz}{o e:E}{x:Nm} (F:Facts W D) (mO:aw W C k o) (he:aw W C k e) {y:UQ}{m:Mem}{σ:St}{s:Um}{env:WO}{l:Loc}{A:UO}{Er:Uo->Um->Prop}{Q:Fl->Loc->St->Prop}{Q':Ľ->Um->Prop}
 (ho:L8 W.has env.scope.names (.setattr o x e) y=true) (S:aB W m σ s.heap) (R:bK W m σ.next s.heap env l) (hR:cT k A) (hw:wpS C (.setattr o x e) l σ Q)
 (hq:∀σ' m' s',Q .next l σ'->Step W d8 m σ.next s m' σ'.next s'->aB W m' σ' s'.heap->Q' .next s'):UC (UG W.prog W.w) A (exec y env) Q' Er s:=by
 refine lk (jI ho) λt v pos ho=>aU (bf ho) λh1 h2=>lk (qj h1) λq id px h1=>aU (bf h1) λh0 h1=>aa (kO h0) (Zn (he h2 S R hR hw λv az m₁ aj u q T aM r=>mO h1 aM (R.step T) hR q λA8 cZ m₂ bJ NT q aA aW ro=>aN (ai q) λp hp q=>aU (bE q) λhf q=>?_) (o8 rfl))
 rw [UE,decide_eq_true_eq] at hf
 exact qr F aW ro hp hf.1 hf.2 (aA.vr r) λkn cm cX=>hq _ _ _ q ((T.trans aA).trans cm) cX
theorem kY {cc:UN}{x:Uz}{c:UN} (h:([(("__class__":Uz),cc)]:List (Uz×UN)).lookup x=some c):x="__class__"/\c=cc:=by
 rw [Vc] at h
 by_cases e:x="__class__"
 ·subst e;exact ⟨rfl,(Uu h).symm⟩
 ·rw [beq_eq_false_iff_ne.mpr e] at h;exact nomatch h
noncomputable def tY (B:pg W) (a:UN):WO:=callEnv B.fd a (W.fa .aI)
theorem Hv (B:pg W) {m:Mem}{N:Nat}{h:U1}{a:UN}{v:V}{u:Uo}{mm:Uz->Option Uo} (yw:h.Ns a mm) (hm:mm Nm.ae.str=some u) (ru:VR h m N v u) (IE:h.IsCell B.cc (some (.ref (W.cls .av)))) (KJ:m.own B.cc=none) (no:m.own a=none) (nb:¬Lv W.base a):
 bK W m N h (tY B a) (Loc.set (λU=>none) .ae v):=by
 have N9:(tY B a).cells=[(("__class__":Uz),B.cc)]:=B.gX
 have get:∀ {x w},Loc.set (λU=>none) .ae v x=some w->x=.ae/\w=v:=λ{x w} hx=>by
  by_cases e:x=.ae
  ·exact ⟨e,by rw [Loc.set,if_pos e] at hx;exact (Uu hx).symm⟩
  ·rw [Loc.set,if_neg e] at hx;exact nomatch hx
 have nc:∀ {n},(tY B a).kindOf n≠some .cell:=λhk=>absurd rfl (B.Bw _ (Vd hk))
 refine ⟨B.kind,B.glob,B.mI,(i12 _ yw (λx w hx U=>?_)),λn c RX=>?_,λx w hx hk=>?_,λn RY=>?_,λn c hk U=>absurd hk nc,λa b c ha hb=>?_,no,nb⟩
 ·exact aU (get hx) λz1 z2=>w2 z1 z2 (i12 u hm ru)
 ·refine aU (kY (aR N9 RX)) λU z3=>?_;exact aa z3 (fc ⟨_,IE⟩ KJ (λe=>nb (by exact aN B.cell λob e' U=>⟨ob,aR (show B.cc=a from e) e'⟩)))
 ·refine aU (get hx) λz4 U=>?_;subst z4
  refine hk.elim (λhk=>?_) λhk=>?_
  ·exact nomatch (B.tW.symm.trans hk)
  ·exact nomatch (B.tW.symm.trans hk)
 ·refine RY.elim (λhk=>?_) λhk=>?_
  ·exact absurd hk nc
  ·have z5:=B.frees _ (Vd hk) rfl;subst z5
   exact ⟨B.cc,congrArg _ N9⟩
 ·rw [N9] at ha hb
  exact (kY ha).1.trans (kY hb).1.symm
theorem DU (F:Facts W D) (B:pg W) {C:bz} (H:fQ W C k) {s:Um}{m:Mem}{σ:St}{a:UN}{i:Nat}{A:UO}{Er:Uo->Um->Prop}{Q:Ľ->Um->Prop}{Q':K1 V}{mm:Uz->Option Uo} (S:aB W m σ s.heap) (hx:s.heap.get? (m.ad i)=some (XI (W.cls .av) (m.dd i))) (hn:i<σ.next)
 (yw:s.heap.Ns a mm) (hm:mm Nm.ae.str=some (.ref (m.ad i))) (IE:s.heap.IsCell B.cc (some (.ref (W.cls .av)))) (KJ:m.own B.cc=none) (no:m.own a=none) (nb:¬Lv W.base a) (hR:cT k A)
 (hc:C .b6 [.ref i] σ λU σ=>aG C (.cons (.setattr (.nm .ae) .dZ (.dict .nil)) .nil) (Loc.set (λU=>none) .ae (.ref i)) σ λfl U σ=>match fl with | .next=>Q' .none σ | .ret v=>Q' v σ)
 (hq:∀σ' m' s',Q' .none σ'->Step W d8 m σ.next s m' σ'.next s'->aB W m' σ' s'.heap->Q .next s'):
 _root_.PySem.wpAt (UG W.prog W.w) A (.func [.Expr (.Call (.Attribute (.Call (.Name "super" B.p0) [] [] B.p1) "__init__" B.ap) [] [] B.p) B.ep,B.st] (tY B a)) (execs [.Expr (.Call (.Attribute (.Call (.Name "super" B.p0) [] [] B.p1) "__init__" B.ap) [] [] B.p) B.ep,B.st] (tY B a)) Q Er s:=by
 refine ks_wpAt_execs_cons (ks_wpAt_Expr_any (DT B.hp (ks_wpAt_super_base (f:=W.fa .aI) (cc:=B.Mn) (of:=B.o) (oc:=B.oc) (fd:=B.fd) (ar:=B.ar) (vs:=B.vs) (file:=B.file) (tf:=B.tf) B.N8 B.Iy (by decide) rfl (S.base _ _ B.at_) B.data B.head B.PY (S.base _ _ B.DQ) B.P0 B.cv B.FU B.tX (ks_loadName_global B.kind B.N8 (ZA (mg:=F.mg) (mb:=F.mb) (aa (show (tY B a).globals=U' from B.glob) (F.g.keeps S.base)) (F.Jx "super" ((of_decide_eq_true rfl))) (aa (show (tY B a).builtins=XS from B.mI) (F.b.keeps S.base)) ((F.bi _ ((of_decide_eq_true rfl))).trans (show Zj (Uj "super")=some (.type "super") by kernel_rfl)) ⟨rfl,?_⟩)))) (by delta interactive;exact aa (B.kind) rfl) rfl)
 refine Ă B.kind B.Iy (congrArg _ (show (tY B a).cells=[(("__class__":Uz),B.cc)] from B.gX)) IE ?_ ((of_decide_eq_true rfl))
 refine aa B.PZ (ñ B.kind B.tW yw hm ?_)
 have RZ:m.ad i≠W.cls .av:=λe=>by
  exact nomatch ((Uu ((e▸hx).symm.trans (S.base _ _ B.clsAt))).symm▸B.DS)
 refine ks_wpAny_isType_cls (S.base _ _ B.clsAt) B.DS ⟨rfl,(ks_wpAny_call_super (S.base _ _ B.clsAt) B.DS hx rfl (λc e=>by contradiction) (looks_mroIn (F.X.keeps S.base) B.sub) λjf R0 k₂=>aU (S.grown (tk:=s.toks) k₂) λaA aW=>λpl=>aN B.Mp λof Ks Oa=>?_)⟩
 have Hw:=F.X.keeps aW.base
 refine aN (Option.bind_eq_some_iff.mp B.sup) λR1 Ob Md=>ks_wpAny_getMethod_super (l₀:=R1.mro) R0 (looks_opaque Hw B.Mo) (λA Q E s k q=>Uk ((looks_clsIn Hw Ob) A _ E s k (Us q))) rfl Hw Md (aW.base _ _ Ks) Oa RZ (by decide) (aU (aB.grown (s:={s with heap:=jf,toks:=s.toks}) aW (h':=jf.push {cls:=.type "method",data:=.fields #[.ref (W.fa .b6),.ref (m.ad i)]}) (tk:=s.toks+1) (λb o e=>Uv _ e)) λcm cX=>?_)
 have hb:=UK jf (o:={cls:=.type "method",data:=.fields #[.ref (W.fa .b6),.ref (m.ad i)]}) rfl
 exact callWith_M0 ⟨hb,F.X.keeps cX.base⟩ B.Mq (ď (ks_codeAny_call_bound hb (H cX (vs:=[.ref i]) ⟨_,[],rfl,b7.mpr ⟨hn,rfl⟩,rfl⟩ hR.room hc λR2 FA Kl AW R3 Oc nP rY R4=>ţ (į (vT F Fw (wU F Fz) B.ok rY ((((Hv B yw hm (b7.mpr ⟨hn,rfl⟩) IE KJ no nb).step aA).step cm).step nP) hR Oc λwX Dn Dp Od vE yt=>Ys (hq _ _ _ Od (((aA.trans cm).trans nP).trans vE) yt))))))
theorem Hx (F:Facts W D) (B:pg W) (hD:D .aI=some ([.ae],w8)) (H:fQ W (aE D n) k):Ab W (aE D (n+1)) (k+1) .aI:=by
 refine λvs us m σ s A Q R S L hR hc q=>aN (ai hc) λd hd hc=>?_
 have z1:=Uu (hD.symm.trans hd);clear hd hD;subst z1
 refine aN (ai hc) λl hl hc=>?_
 have hm:=oO hl
 have hlen:=L.length.trans (cP hm)
 refine bb (Gw (cP hm)) λv z3=>?_;subst z3
 have z2:=Uu hm;clear hl hm hlen;subst z2
 refine eh L λu r e ru z=>?_;clear L
 have e:=e.trans (congrArg (u::·) z);refine aa e (aN (ai hc) λpi P1 hc=>aU (bp hc) λOe hc=>aU (nW P1) λz5 hg=>?_);clear P1;subst z5
 refine aU (b7.mp ru) λhn z6=>aa z6 (eg (cH S) λnl nb no=>?_)
 have KJ:m.own B.cc=none:=by
  cases e:m.own B.cc with
  | none=>rfl
  | some n=>exact absurd B.cell (S.sW _ n _ e)
 refine ks_codeAny_call_defAt (by have:=hR.2.1;exact aJ (Y2 _ _) (.s Z0) (.n 1000) (.s (.a Z0 (.m 2 (.s Z1)))) (.n 1000) this rfl) (S.base _ _ B.at_) B.data (F.lim.keeps S.base) (B.code.keeps S.base) B.L9 (BindsTo.of_eq (B.bind [.ref (m.ad pi.1)] rfl)) B.Bw (λx hx=>aa (List.mem_singleton.mp hx) B.tW) (λh₁ yw kp=>aU (S.grown (h':=h₁) (tk:=s.toks+1) kp) λjh aM=>?_) B.co B.gen B.kind
 exact DU F B H (s:={s with heap:=h₁,toks:=s.toks+1}) aM (kp _ _ (aR Oe ((S.obj _ _ hg).1))) hn yw rfl (by exact aN B.cell λob e dd=>⟨ob,aM.base _ _ e,dd⟩) KJ no nb
  ⟨hR.1,by have:=hR.2.1;exact aJ (Y2 _ _) (.s (.s (.a (.s Z0) (.m 2 Z1)))) (.n 1000) (.s (.a Z0 (.m 2 (.s Z1)))) (.n 1000) this rfl,(aJ (Y2 _ _) (.s (.a (.a (.a Z0 (.n 3)) (.m 10 Z1)) (.n 65))) (.n 9900) (.s (.a (.a Z0 (.m 10 (.s Z1))) (.n 60))) (.n 9900) hR.2.2 rfl)⟩ hc
  λσ' m' s' q' T' S'=>q _ _ _ _ _ q' (jh.trans T') S' (eV.mpr rfl)
theorem DV (F:Facts W D) {C:bz} (H:fQ W C k):BodyOk W C k:=by
 exact λbody qp m σ s env l A Er Q Q' ho hc S R hR hw hq=>Bv F H body hc ho S R hR hw λfl l' σ' m' s' pf q T S' R' hf=>hq fl l' σ' m' s' pf q T S' R' hf
theorem DW (F:Facts W D) (B:pg W) (hD:D .aI=some ([.ae],w8)) (n:Nat):fQ W (aE D n) n:=by
 induction n with
 | zero=>exact λ_ _ _ _ _ _ _ _ _ S L hR hc q=>hc.elim
 | succ n h=>exact td F (DV F h) (Hx F B hD h)
end
end
end Mine.Internal
namespace Mine.Internal.R
noncomputable section
section
noncomputable abbrev Ed:=V×V×V
abbrev EP:=Ed->Prop
def IF (E:EP) (x y:V):Prop:=∃w,E (x,y,w)\/E (y,x,w)
inductive au (E:EP) (x:V):V->Prop
 | refl:au E x x
 | tail {y z}:au E x y->IF E y z->au E x z
theorem IF.symm {E:EP}{x y:V} (h:IF E x y):IF E y x:=h.imp λU=>Or.symm
theorem au.trans {E:EP}{x y z:V} (h:au E x y) (k:au E y z):au E x z:=by
 induction k with
 | refl=>exact h
 | tail _ a ih=>exact ih.tail a
theorem au.one {E:EP}{x y:V} (h:IF E x y):au E x y:=.tail .refl h
theorem au.symm {E:EP}{x y:V} (h:au E x y):au E y x:=by
 induction h with
 | refl=>exact .refl
 | tail _ a ih=>exact (au.one a.symm).trans ih
theorem au.mono {E F:EP}{x y:V} (i:∀e,E e->F e) (h:au E x y):au F x y:=by
 induction h with
 | refl=>exact .refl
 | tail _ a ih=>exact ih.tail (a.imp λU=>Or.imp (i _) (i _))
theorem au.gF {E:EP}{e:Ed} (h:E e):au E e.1 e.2.1:=.one ⟨e.2.2,.inl h⟩
noncomputable def plus (E:EP) (e:Ed):EP:=λx=>E x\/x=e
noncomputable def less (E:EP) (e:Ed):EP:=λx=>E x/\x≠e
theorem au.plus {E:EP}{e:Ed}{x y:V}:au (plus E e) x y↔au E x y\/(au E x e.1/\au E e.2.1 y)\/(au E x e.2.1/\au E e.1 y):=by
 constructor
 ·intro h
  induction h with
  | refl=>exact .inl .refl
  | @tail y z _ a ih=>
   have key:IF E y z\/(y=e.1/\z=e.2.1)\/(y=e.2.1/\z=e.1):=by
    obtain ⟨w,(h | h) | (h | h)⟩:=a
    ·exact .inl ⟨w,.inl h⟩
    ·exact aR h (.inr (.inl ⟨rfl,rfl⟩))
    ·exact .inl ⟨w,.inr h⟩
    ·exact aR h (.inr (.inr ⟨rfl,rfl⟩))
   clear a;clear a;rcases key with k | ⟨rfl,rfl⟩ | ⟨rfl,rfl⟩
   ·rcases ih with i | ⟨i,j⟩ | ⟨i,j⟩
    ·exact .inl (i.tail k)
    ·exact .inr (.inl ⟨i,j.tail k⟩)
    ·exact .inr (.inr ⟨i,j.tail k⟩)
   ·rcases ih with i | ⟨i,j⟩ | ⟨i,j⟩
    ·exact .inr (.inl ⟨i,.refl⟩)
    ·exact .inr (.inl ⟨i,.refl⟩)
    ·exact .inl i
   ·rcases ih with i | ⟨i,j⟩ | ⟨i,j⟩
    ·exact .inr (.inr ⟨i,.refl⟩)
    ·exact .inl i
    ·exact .inr (.inr ⟨i,.refl⟩)
 ·have m:∀ {x y},au E x y->au (Mine.Internal.R.plus E e) x y:=λh=>h.mono λU=>.inl
  have c:au (Mine.Internal.R.plus E e) e.1 e.2.1:=.gF (.inr rfl)
  rintro (h | ⟨h,k⟩ | ⟨h,k⟩)
  ·exact m h
  ·exact (m h).trans (c.trans (m k))
  ·exact (m h).trans (c.symm.trans (m k))
def dv (E:EP):Prop:=∀e,E e->¬au (less E e) e.1 e.2.1
theorem dv.mono {E F:EP} (i:∀e,E e->F e) (h:dv F):dv E:=λe he c=>h e (i e he) (c.mono λx hx=>⟨i x hx.1,hx.2⟩)
theorem dv.add {E:EP}{e:Ed} (h:dv E) (n:¬au E e.1 e.2.1):dv (plus E e):=by
 intro d hd c
 by_cases q:d=e
 ·clear hd;subst q
  exact n (c.mono λx hx=>hx.1.resolve_right hx.2)
 ·have hd:=hd.resolve_right q
  have c:au (plus (less E d) e) d.1 d.2.1:=c.mono λx hx=>hx.1.elim (λy=>.inl ⟨y,hx.2⟩) .inr
  have m:∀ {x y},au (less E d) x y->au E x y:=λh=>h.mono λU=>And.left
  rcases au.plus.mp c with k | ⟨k,l⟩ | ⟨k,l⟩
  ·exact h d hd k
  ·exact n ((m k).symm.trans ((au.gF hd).trans (m l).symm))
  ·exact n ((m l).trans ((au.gF hd).symm.trans (m k)))
theorem dv.ends {E:EP} (h:dv E) {d e:Ed} (hd:E d) (he:E e) (q:(d.1=e.1/\d.2.1=e.2.1)\/(d.1=e.2.1/\d.2.1=e.1)):d=e:=by
 refine V9 λn=>h d hd ?_
 have c:au (less E d) e.1 e.2.1:=.gF ⟨he,λx=>n x.symm⟩
 rcases q with ⟨a,b⟩ | ⟨a,b⟩
 ·exact aa a (aa b c)
 ·exact aa a (aa b c.symm)
inductive Walk (E:EP) (a:V):List Ed->V->Prop
 | nil:Walk E a [] a
 | snoc {l b c e}:Walk E a l b->E e->((e.1=b/\e.2.1=c)\/(e.1=c/\e.2.1=b))->Walk E a (l++ [e]) c
theorem Walk.conn {E:EP}{F:EP}{a b:V}{l} (h:Walk E a l b) (i:∀e∈l,F e):au F a b:=by
 induction h with
 | nil=>exact .refl
 | @snoc l b c e _ he q ih=>
  have hF:=i e (by simp)
  refine (ih λx hx=>i x ((U4 _ ‹_›))).trans ?_
  clear i ih he a_1 l a E;rcases q with ⟨rfl,rfl⟩ | ⟨rfl,rfl⟩
  ·exact .gF hF
  ·exact (au.gF hF).symm
theorem Walk.mem {E:EP}{a b:V}{l} (h:Walk E a l b):∀e∈l,E e:=by
 induction h with
 | nil=>exact λU h=>by contradiction
 | snoc _ he _ ih=>intro x hx;refine (List.mem_append.mp hx).elim (λh=>?_) λh=>?_
                   ·exact ih x h
                   ·exact aa (List.mem_singleton.mp h) he
theorem Walk.mono {E F:EP}{a b:V}{l} (h:Walk E a l b) (i:∀e∈l,F e):Walk F a l b:=by
 induction h with
 | nil=>exact .nil
 | snoc _ he q ih=>exact .snoc (ih λx hx=>i x ((U4 _ ‹_›))) (i _ (by simp)) q
theorem Walk.trans {E:EP}{a b c:V}{l m} (h:Walk E a l b) (k:Walk E b m c):Walk E a (l++m) c:=by
 induction k with
 | nil=>exact aa (U6 ..) h
 | snoc _ he q ih=>exact aR (UW ..) (.snoc ih he q)
theorem Walk.symm {E:EP}{a b:V}{l} (h:Walk E a l b):Walk E b l.reverse a:=by
 induction h with
 | nil=>exact .nil
 | @snoc l b c e _ he q ih=>
  exact aa List.reverse_append ((Walk.snoc .nil he (q.symm.imp (λx=>x) (λx=>x))).trans ih)
theorem Walk.sep {E:EP} (hE:dv E) {a b:V}{l} (h:Walk E a l b) (hn:l.Nodup) {e}:e∈l↔E e/\¬au (less E e) a b:=by
 constructor
 ·refine λhe=>⟨h.mem e he,λc=>?_⟩
  have key:∀ {l b},Walk E a l b->l.Nodup->e∈l->(au (less E e) a e.1/\au (less E e) e.2.1 b)\/(au (less E e) a e.2.1/\au (less E e) e.1 b):=by
   intro l b h
   induction h with
   | nil=>intro _ h;contradiction
   | @snoc l b c d hw hd q ih=>
    intro hn he
    rw [U2] at hn
    by_cases k:e∈l
    ·have ne:d≠e:=λx=>hn.2.2 e k d (Ur) x.symm
     have cd:au (less E e) b c:=by
      clear k he hn ih hw l h hE;rcases q with ⟨rfl,rfl⟩ | ⟨rfl,rfl⟩
      ·exact .gF ⟨hd,ne⟩
      ·exact (au.gF ⟨hd,ne⟩).symm
     rcases ih hn.1 k with ⟨x,y⟩ | ⟨x,y⟩
     ·exact .inl ⟨x,y.trans cd⟩
     ·exact .inr ⟨x,y.trans cd⟩
    ·have:e=d:=by simpa [k] using he
     clear he hn ih hd h hE;subst this
     have c0:au (less E e) a b:=hw.conn λx hx=>⟨hw.mem x hx,λy=>k (aR y hx)⟩
     clear hw;rcases q with ⟨rfl,rfl⟩ | ⟨rfl,rfl⟩
     ·exact .inl ⟨c0,.refl⟩
     ·exact .inr ⟨c0,.refl⟩
  rcases key h hn he with ⟨x,y⟩ | ⟨x,y⟩
  ·exact hE e (h.mem e he) (x.symm.trans (c.trans y.symm))
  ·exact hE e (h.mem e he) (y.trans (c.symm.trans x))
 ·rintro ⟨he,n⟩
  refine V9 λk=>n (h.conn λx hx=>⟨h.mem x hx,λy=>k (aR y hx)⟩)
theorem dW {α:Type} [DecidableEq α]:∀ {l m:List α},l.Nodup->(∀x∈l,x∈m)->l.length<=m.length
 | [],_,_,_=>U3 _
 | x::l,m,hn,hs=>by
  rw [U5] at hn
  have hx:=hs x (Ur)
  have:=dW (l:=l) (m:=m.erase x) hn.2 λy hy=>(List.mem_erase_of_ne (λq=>hn.1 (by exact aR q hy))).mpr (hs y (by simp [hy]))
  rw [List.length_erase_of_mem hx] at this
  have:=List.length_pos_of_mem hx
  simp only [Vm];lia
theorem vU {α:Type} [DecidableEq α] {l m:List α} (hl:l.Nodup) (hm:m.Nodup) (h:∀x,x∈l↔x∈m):l.length=m.length:=
 Ya (dW hl λx hx=>(h x).mp hx) (dW hm λx hx=>(h x).mpr hx)
end
end
end Mine.Internal.R
namespace Mine.Internal.R
noncomputable section
def nk (C:Fn->List V->St->K1 V->Prop) (r:Ss) (R:Fl->Loc->St->Prop):Fl->Loc->St->Prop:=λf l σ=>match f with | .next=>aG C r l σ R | .ret v=>R (.ret v) l σ
def kt (K:Loc->St->Prop) (R:Fl->Loc->St->Prop):Fl->Loc->St->Prop:=λf l σ=>match f with | .next=>K l σ | .ret v=>R (.ret v) l σ
def fk (Q:K1 V):Fl->Loc->St->Prop:=λf U σ=>match f with | .next=>Q .none σ | .ret v=>Q v σ
def Ev (l:Loc) (σ:St) (e:E) (v:V):Prop:=∀C Q,Q v σ->aK C e l σ Q
def w9 (l:Loc) (σ:St) (e:Es) (v:List V):Prop:=∀C Q,Q v σ->iu C e l σ Q
section
variable {l:Loc}{σ:St}{C:Fn->List V->St->K1 V->Prop}
theorem w9.nil:w9 l σ .nil []:=λU U q=>q
theorem w9.cons {e r v vs} (h:Ev l σ e v) (k:w9 l σ r vs):w9 l σ (.cons e r) (v::vs):=λC Q q=>h C _ (k C _ q)
theorem Ev.nm {x v} (h:l x=some v):Ev l σ (.nm x) v:=λU U q=>ah h q
theorem Ev.glob {x v} (h:wz x=some v):Ev l σ (.glob x) v:=λU U q=>ah h q
theorem Ev.int {i}:Ev l σ (.int i) (.int i):=λU U q=>q
theorem Ev.str {i}:Ev l σ (.str i) (.str i):=λU U q=>q
theorem Ev.none:Ev l σ .none .none:=λU U q=>q
theorem Ev.bool {b}:Ev l σ (.bool b) (.bool b):=λU U q=>q
theorem Ev.attr {e r c fs x v} (h:Ev l σ e (.ref r)) (hr:σ.get r=some (.inst c fs)) (hf:lF fs x=some v) (hk:fieldOf c x=true):Ev l σ (.attr e x) v:=
 λC Q q=>h C _ (ah (a:=(r,c,fs)) (iw hr) (aq hk (ah hf q)))
theorem Ev.sub {a i va vi v} (h:Ev l σ a va) (k:Ev l σ i vi) (e:subAt σ va vi=some v):Ev l σ (.sub a i) v:=
 λC Q q=>h C _ (k C _ (ah e q))
theorem Ev.len {a va n} (h:Ev l σ a va) (e:i9 σ va=some n):Ev l σ (.len a) (.int n):=λC Q q=>h C _ (ah e q)
theorem Ev.cmp {op a b va vb r} (h:Ev l σ a va) (k:Ev l σ b vb) (e:hV σ op va vb=some r):Ev l σ (.cmp op a b) (.bool r):=
 λC Q q=>h C _ (k C _ (ah e q))
theorem Ev.isNone {a va} (h:Ev l σ a va):Ev l σ (.isNone a) (.bool (decide (va=.none))):=λC Q q=>h C _ q
theorem Ev.isNotNone {a va} (h:Ev l σ a va):Ev l σ (.isNotNone a) (.bool (decide (va≠.none))):=λC Q q=>h C _ q
theorem Ev.not {a b} (h:Ev l σ a (.bool b)):Ev l σ (.not a) (.bool (!b)):=λC Q q=>h C _ q
theorem Ev.ko {op a b i j v} (h:Ev l σ a (.int i)) (k:Ev l σ b (.int j)) (e:uY op (.int i) (.int j)=some v):Ev l σ (.bin op a b) v:=
 λC Q q=>h C _ (k C _ (ah e q))
theorem Ev.tup {es vs} (h:w9 l σ es vs) (hl:vs.length<=1000):Ev l σ (.tup es) (V.tup vs):=λC Q q=>h C _ (bP hl q)
theorem Ev.KL {c a r} (h:Ev l σ a (.bool (!c))):Ev l σ (.bW c (.cons a r)) (.bool (!c)):=by
 intro C Q q
 cases r with
 | nil=>exact h C _ q
 | cons b r=>exact h C _ (by clear h;cases c<;>exact q)
theorem Ev.IY {c a b r v} (h:Ev l σ a (.bool c)) (k:Ev l σ (.bW c (.cons b r)) v):Ev l σ (.bW c (.cons a (.cons b r))) v:=by
 refine λC Q q=>h C _ ?_
 show if c=c then _ else _
 exact aa (if_pos rfl) (k C Q q)
theorem Ev.bo {c a b} (h:Ev l σ a (.bool b)):Ev l σ (.bW c (.cons a .nil)) (.bool b):=λC Q q=>h C _ q
theorem Ev.KN {c a b v} (h:Ev l σ c (.bool true)) (k:Ev l σ a v):Ev l σ (.ite c a b) v:=λC Q q=>h C _ (k C Q q)
theorem Ev.KO {c a b v} (h:Ev l σ c (.bool false)) (k:Ev l σ b v):Ev l σ (.ite c a b) v:=λC Q q=>h C _ (k C Q q)
theorem Ev.oA {a ke r d y} (h:Ev l σ a (.ref r)) (hr:σ.get r=some (.dict d)) (k:Ev l σ ke y) (hk:keyOk d y=true):Ev l σ (.oA a ke) ((ag d y).getD .none):=
 λC Q q=>h C _ (aq (congrArg VE (dt hr)) (k C _ (ah (a:=(r,d)) (dt hr) (aq hk q))))
variable {Q:K1 V}{R:Fl->Loc->St->Prop}
theorem a6 {e v} (h:Ev l σ e v) (q:Q v σ):aK C e l σ Q:=h C Q q
theorem bS {es vs} (h:w9 l σ es vs) (hl:vs.length<=dj) (q:Q (.ref σ.next) (σ.push (.list vs))):aK C (.list es) l σ Q:=h C _ (bP hl q)
theorem wp_call {f as vs} (h:w9 l σ as vs) (q:C f vs σ Q):aK C (.call f as) l σ Q:=h C _ q
theorem aF {o m as r c fs f vs} (h:Ev l σ o (.ref r)) (hr:σ.get r=some (.inst c fs)) (hm:gw c m=some f) (k:w9 l σ as vs) (q:C f (.ref r::vs) σ Q):aK C (.aY o m as) l σ Q:=
 h C _ (ah (a:=(r,c,fs)) (iw hr) (ah hm (k C _ q)))
theorem a5 {o x r xs y} (h:Ev l σ o (.ref r)) (hr:σ.get r=some (.list xs)) (k:Ev l σ x y) (hl:xs.length+1<=dj) (q:Q .none (σ.set r (.list (xs++ [y])))):aK C (.append o x) l σ Q:=
 h C _ (aq (congrArg VE (aZ hr)) (k C _ (ah (a:=(r,xs)) (aZ hr) (bP hl q))))
theorem sm {o r xs y} (h:Ev l σ o (.ref r)) (hr:σ.get r=some (.list (xs++ [y]))) (q:Q y (σ.set r (.list xs))):aK C (.pop o) l σ Q:=
 h C _ (aq (congrArg VE (aZ hr)) (ah (a:=(r,xs++ [y])) (aZ hr) (ah (a:=y) (by simp) (by simpa using q))))
theorem fA {a i r xs}{k:Nat} (h:Ev l σ a (.ref r)) (hr:σ.get r=some (.list xs)) (hi:Ev l σ i (.int k)) (hk:k<=dj) (hl:xs.length<=dj) (q:Q (.ref σ.next) (σ.push (.list (xs.take k)))):aK C (.sliceTo a i) l σ Q:=
 h C _ (hi C _ (aq (by simp;trivial) (ah (a:=xs) (oC hr) (bP (by simp;exact aJ (Y2 _ _) Z0 (.n 10000000) (.a Z1 Z0) (.a (.n 10000000) Z1) (Uq hk (Wu _ _)) rfl) q))))
theorem so {a i r xs}{k:Nat} (h:Ev l σ a (.ref r)) (hr:σ.get r=some (.list xs)) (hi:Ev l σ i (.int k)) (hk:k<=dj) (hl:xs.length<=dj) (q:Q (.ref σ.next) (σ.push (.list (xs.drop k)))):aK C (.sliceFrom a i) l σ Q:=
 h C _ (hi C _ (aq (by simp;trivial) (ah (a:=(r,xs)) (aZ hr) (bP (by simp;exact aJ (Y2 _ _) Z0 (.a (.n 10000000) Z1) Z0 (.n 10000000) hl rfl) q))))
variable {r:Ss}
theorem gG {x e} (h:aK C e l σ λv σ=>aG C r (l.set x v) σ R):aG C (.cons (.bV x e) r) l σ R:=h
theorem dT {x e v} (h:Ev l σ e v) (q:aG C r (l.set x v) σ R):aG C (.cons (.bV x e) r) l σ R:=h C _ q
theorem b8 {e} (h:aK C e l σ λU σ=>aG C r l σ R):aG C (.cons (.expr e) r) l σ R:=h
theorem ek {e v} (h:Ev l σ e v) (q:R (.ret v) l σ):aG C (.cons (.ret e) r) l σ R:=h C _ q
theorem KP {xs e v vs l'} (h:Ev l σ e v) (hi:gV σ v=some vs) (hn:decide xs.Nodup=true) (hb:bq xs vs l=some l') (q:aG C r l' σ R):aG C (.cons (.unpack xs e) r) l σ R:=
 h C _ (ah hi (aq hn (ah hb q)))
theorem nE {c a b t} (h:Ev l σ c (.bool t)) (ht:t=true->aG C a l σ (nk C r R)) (hf:t=false->aG C b l σ (nk C r R)):aG C (.cons (.ite c a b) r) l σ R:=
 h C _ (by cases t;exact hf rfl;exact ht rfl)
theorem fB {c a b} (h:Ev l σ c (.bool true)) (q:aG C a l σ (nk C r R)):aG C (.cons (.ite c a b) r) l σ R:=h C _ q
theorem dw {c a b} (h:Ev l σ c (.bool false)) (q:aG C b l σ (nk C r R)):aG C (.cons (.ite c a b) r) l σ R:=h C _ q
theorem cC {o k e v d dd y} (h:Ev l σ e v) (ho:Ev l σ o (.ref d)) (hk:Ev l σ k y) (hd:σ.get d=some (.dict dd)) (hy:keyOk dd y=true) (hl:dd.length+1<=dj)
 (q:aG C r l (σ.set d (.dict (dput dd y v))) R):aG C (.cons (.bw o k e) r) l σ R:=
 h C _ (ho C _ (hk C _ (ah (a:=(d,dd)) (dt hd) (aq hy (bP hl q)))))
theorem mP {o k d dd y} (ho:Ev l σ o (.ref d)) (hk:Ev l σ k y) (hd:σ.get d=some (.dict dd)) (hy:keyOk dd y=true) (hs:(ag dd y).isSome=true)
 (q:aG C r l (σ.set d (.dict (ej dd y))) R):aG C (.cons (.del o k) r) l σ R:=
 ho C _ (hk C _ (ah (a:=(d,dd)) (dt hd) (aq (by rw [hy,hs];rfl) q)))
theorem lV {o x:_}{v:V}{n c fs} (ho:Ev l σ o (.ref n)) (hn:σ.get n=some (.inst c fs)) (hf:fieldOf c x=true) (hl:fs.length<50) (q:aG C r l (σ.set n (.inst c (fM fs x v))) R):
 aK C o l σ λw σ=>aC (eD σ w) λp=>ei (fieldOf p.2.1 x&&decide (p.2.2.length<50)) ((nk C r R) Fl.next l (σ.set p.1 (.inst p.2.1 (fM p.2.2 x v)))):=
 ho C _ (ah (a:=(n,c,fs)) (iw hn) (aq (by simp [hf,hl]) q))
theorem dJ {G:Type} (μ:G->Nat) (I:G->Loc->St->Prop) {c b} (x:G) (hn:μ x<WF) (h0:I x l σ)
 (step:∀x l σ (K:Loc->St->Prop),I x l σ->(∀x' l' σ',μ x'<μ x->I x' l' σ'->K l' σ')->aK C c l σ λv σ=>aC (bc v) λt=>match t with
  | true=>aG C b l σ (kt K R)
  | false=>aG C r l σ R):aG C (.cons (.while c b) r) l σ R:=by
 have key:∀(w:Nat) (x:G) (l:Loc) (σ:St),μ x<w->I x l σ->oB (λl σ Q=>aK C c l σ λv σ=>aC (bc v) λt=>Q t σ) (λl σ Q=>aG C b l σ Q) w l σ (nk C r R):=by
  intro w
  induction w with
  | zero=>intro x l σ h;trivial
  | succ w ih=>intro x l σ hn hI;exact step x l σ _ hI λx' l' σ' hm R5=>ih x' l' σ' (aJ (Y3 _ _ _) (.s Z0) Z1 (.a (.s Z2) (.s Z0)) (.a (.s Z1) Z2) (Uq hn hm) rfl) R5
 exact key WF x l σ hn h0
theorem lW {β G:Type}{f:β->V}{g:Gd}{t:Tg}{b:Ss}{I:G->List β->Loc->St->Prop} (done:∀x l σ,I x [] l σ->g.ok σ=true/\R .next l σ)
 (step:∀x v vs l σ (K:Loc->St->Prop),I x (v::vs) l σ->(∀x' l' σ',I x' vs l' σ'->K l' σ')->g.ok σ=true/\∃l',kB t (f v) l=some l'/\aG C b l' σ (kt K R)):
 ∀(vs:List β) (x:G) (l:Loc) (σ:St),I x vs l σ->forL g t (λl σ Q=>aG C b l σ Q) (vs.map f) l σ R:=by
 intro vs;induction vs with
 | nil=>exact λx l σ h=>aq (done x l σ h).1 (done x l σ h).2
 | cons v vs ih=>
 exact λx l σ h=>(step x v vs l σ (λl σ=>forL g t (λl σ Q=>aG C b l σ Q) (vs.map f) l σ R) h λx' l' σ' h'=>ih x' l' σ' h').elim
  λh1 h2=>h2.elim λl' h2=>aq h1 (ah h2.1 h2.2)
theorem ig {β G:Type} (f:β->V) (I:G->List β->Loc->St->Prop) {t e b v}{vs:List β}{g:Gd} (x:G) (h:Ev l σ e v) (hs:cG σ v=some (vs.map f,g)) (h0:I x vs l σ) (done:∀x l σ,I x [] l σ->g.ok σ=true/\aG C r l σ R)
 (step:∀x v vs l σ (K:Loc->St->Prop),I x (v::vs) l σ->(∀x' l' σ',I x' vs l' σ'->K l' σ')->g.ok σ=true/\∃l',kB t (f v) l=some l'/\aG C b l' σ (kt K R)):
 aG C (.cons (.for t (.of e) b) r) l σ R:=
 h C _ (ah hs (lW (R:=(nk C r R)) done step vs x l σ h0))
theorem sq {e t i v vs g}{f:V->V} (h:∀Q,Q v σ->aK C i l σ Q) (hs:cG σ v=some (vs,g)) (hg:g.ok σ=true) (hl:vs.length<=dj)
 (he:∀x∈vs,∃l',kB t x l=some l'/\Ev l' σ e (f x)) (q:Q (.ref σ.next) (σ.push (.list (vs.map f)))):aK C (.comp e t (.of i) .nil) l σ Q:=by
 refine h _ (ah hs ?_)
 have key:∀(xs acc:List V),(∀x∈xs,x∈vs)->acc.length+xs.length<=dj->bA σ (acc++xs.map f).length (.list (acc++xs.map f)) Q->
  gx g t (λl σ Q=>uR C .nil l σ Q) (λl σ Q=>aK C e l σ Q) l xs acc σ λvs σ=>bA σ vs.length (.list vs) Q:=by
  intro xs
  induction xs with
  | nil=>intro acc _ _ q;exact aq hg (by simpa using q)
  | cons x xs ih=>
   refine λacc hx hl q=>aN (he x (hx x (Ur))) λl' hb wK=>aq hg (ah hb (wK C _ (bP ((aJ (Y2 _ _) (.s Z0) (.n 10000000) (.a Z0 (.s Z1)) (.n 10000000) hl rfl)) (ih _ (λy hy=>hx y (by simp [hy])) (by simp at hl ⊢;exact aJ (Y2 _ _) (.a (.s Z0) Z1) (.n 10000000) (.a Z0 (.s Z1)) (.n 10000000) hl rfl) (by simpa using q)))))
 exact key vs [] (λU h=>h) (by simpa using hl) (bP (by simpa using hl) (q))
end
theorem bH {n:Nat}{f:Fn}{d:List Nm×Ss}{vs:List V}{l:Loc}{σ:St}{Q:K1 V} (hd:aH f=some d) (hb:zy d.1 vs=some l)
 (h:aG (aE aH n) d.2 l σ (fk Q)):aE aH (n+1) f vs σ Q:=
 ah hd (ah hb h)
end
end Mine.Internal.R
namespace Mine.Internal.R
noncomputable section
theorem KQ {k:V}:ag [] k=none:=rfl
theorem bh {p:V×V}{d:List (V×V)}{k:V}:ag (p::d) k=if p.1=k then some p.2 else ag d k:=by
 by_cases h:p.1=k
 ·exact (congrArg (Wm ů) (List.find?_cons_of_pos (p:=λq=>decide (q.1=k)) (a:=p) (l:=d) (decide_eq_true h))).trans (if_pos h).symm
 ·exact (congrArg (Wm ů) (List.find?_cons_of_neg (p:=λq=>decide (q.1=k)) (a:=p) (l:=d) λe=>h (of_decide_eq_true e))).trans (if_neg h).symm
theorem qG {p:V×V}{d:List (V×V)}{k v:V}:dput (p::d) k v=if p.1=k then (k,v)::d.map (λq=>if q.1=k then (q.1,v) else q) else p::dput d k v:=by
 by_cases h:p.1=k
 ·exact ((if_pos ((congrArg (·||_) (decide_eq_true h)).trans rfl)).trans (congrArg (· ::_) ((if_pos h).trans (congrArg (·,v) h)))).trans (if_pos h).symm
 ·have e:((p::d).any λq=>decide (q.1=k))=d.any λq=>decide (q.1=k):=congrArg (·||_) (decide_eq_false h)
  refine Ò ?_ (if_neg h).symm
  by_cases a:(d.any λq=>decide (q.1=k))=true
  ·exact (if_pos (e.trans a)).trans ((congrArg (· ::_) (if_neg h)).trans (congrArg (p::·) (if_pos a).symm))
  ·exact (if_neg λx=>a (e.symm.trans x)).trans (congrArg (p::·) (if_neg a).symm)
theorem Bx {d:List (V×V)}{k v k':V} (h:k≠k'):ag (d.map λq=>if q.1=k then (q.1,v) else q) k'=ag d k':=by
 induction d with
 | nil=>rfl
 | cons p d ih=>
  refine w2 bh UX (bh.trans ((congrArg _ ih).trans ?_))
  by_cases q:p.1=k
  ·have n:¬p.1=k':=λe=>h (q.symm.trans e)
   exact aa (if_pos q) ((if_neg n).trans (if_neg n).symm)
  ·exact aa (if_neg q) rfl
theorem aO {d:List (V×V)}{k v k':V}:ag (dput d k v) k'=if k=k' then some v else ag d k':=by
 induction d with
 | nil=>exact bh
 | cons p d ih=>
  refine aa qG ?_
  by_cases h:p.1=k
  ·refine aa (if_pos h) (bh.trans ?_)
   by_cases q:k=k'
   ·exact (if_pos q).trans (if_pos q).symm
   ·exact (if_neg q).trans ((Bx q).trans (aa bh (aa (if_neg q) ((if_neg (by exact aa h q)).symm))))
  ·refine aa (if_neg h) (bh.trans (aa ih (aa bh ?_)))
   by_cases q:k=k'
   ·exact (if_neg λe=>h (e.trans q.symm)).trans ((if_pos q).trans (if_pos q).symm)
   ·exact (congrArg (λx=>if p.1=k' then some p.2 else x) (if_neg q)).trans (if_neg q).symm
theorem fC {d:List (V×V)}{k k':V}:ag (ej d k) k'=if k=k' then none else ag d k':=by
 induction d with
 | nil=>
  by_cases q:k=k'
  ·exact (if_pos q).symm
  ·exact (if_neg q).symm
 | cons p d ih=>
  by_cases h:p.1=k
  ·have e:ej (p::d) k=ej d k:=List.filter_cons_of_neg λe=>of_decide_eq_true e h
   refine aa e (ih.trans ?_)
   by_cases q:k=k'
   ·exact (if_pos q).trans (if_pos q).symm
   ·exact (if_neg q).trans (aa (if_neg q) (bh.trans (if_neg (by exact aa h q))).symm)
  ·have e:ej (p::d) k=p::ej d k:=List.filter_cons_of_pos (decide_eq_true h)
   refine aa e (bh.trans ((congrArg _ ih).trans (aa bh ?_)))
   by_cases q:k=k'
   ·exact (if_neg λe=>h (e.trans q.symm)).trans ((if_pos q).trans (if_pos q).symm)
   ·exact (congrArg (λx=>if p.1=k' then some p.2 else x) (if_neg q)).trans (if_neg q).symm
structure eR (K:List V) (d:List (V×V)):Prop where
 sub:∀p∈d,p.1∈K
 nd:(d.map (·.1)).Nodup
theorem eR.nil {K}:eR K []:=⟨nofun,Vr⟩
theorem eR.len {K d} (h:eR K d):d.length<=K.length:=by
 have:=dW h.nd (m:=K) λx hx=>by exact aN (List.mem_map.mp hx) λp hp z1=>aR z1 (h.sub p hp)
 rwa [UD] at this
theorem eR.put {K d k v} (h:eR K d) (hk:k∈K):eR K (dput d k v):=by
 delta dput
 split
 ·refine ⟨λp hp=>?_,?_⟩
  ·refine aN (List.mem_map.mp hp) λq hq z1=>aR z1 ?_
   split<;>exact (h.sub q hq)
  ·refine aa We (aa (show ((λx:V×V=>x.1)∘ λp=>if p.1=k then (p.1,v) else p)=(λx=>x.1) from funext λp=>by simp;split<;>rfl) ?_)
   exact h.nd
 ·rename_i hn
  refine ⟨λp hp=>?_,?_⟩
  ·refine (List.mem_append.mp hp).elim (λhp=>?_) λhp=>?_
   ·exact h.sub p hp
   ·exact aa (List.mem_singleton.mp hp) hk
  ·refine aa UJ (gL U2 (fc h.nd ((of_decide_eq_true rfl)) (λa ha b hb e=>hn (aN (List.mem_map.mp ha) λp hp z2=>?_))));clear ha;subst z2
   refine gL YX (i12 p hp (decide_eq_true (e.trans ?_)));simpa using hb
theorem eR.del {K d k} (h:eR K d):eR K (ej d k):=
 ⟨λp hp=>h.sub p (List.mem_filter.mp hp).1,h.nd.sublist (List.filter_sublist.map _)⟩
theorem eR.mem {K d k v} (h:eR K d) (e:ag d k=some v):k∈K:=by
 delta ag at e
 cases q:d.find? (λp=>decide (p.1=k)) with
 | none=>rw [q] at e;contradiction
 | some p=>
  have:=Zb q
  exact aR (of_decide_eq_true this) (h.sub p (XF q))
theorem eR.key {K d k n} (h:eR K d) (hK:∀x∈K,x.kind=some n) (hk:k∈K):keyOk d k=true:=by
 delta keyOk
 refine aa (hK k hk) ?_
 cases d with
 | nil=>rfl
 | cons p d=>exact decide_eq_true (hK _ (h.sub p (Ur)))
inductive Role where | none | fix | q | ma | nw | ls (k:Nat) (t:V)
structure aS where
 root:List (V×V)
 val:List (V×V)
 dk:Nat->List (V×V)
 up:List (V×V)
 table:List (V×V)
 trail:List V
 marks:List V
 queue:List V
 q:Nat
 m:Nat
 nw:Nat
 role:Nat->Role
 L:Nat->V->List V
structure Cfg where
 T:List V
 Ap:List V
 arg:V->V
 dat:V->V
 iZ:List V
 dX:List V
 iA:List V
noncomputable def dx:List (Nm×V):=[(.dE,.ref 5),(.eu,.ref 6),(.cQ,.ref 7),(.eA,.ref 8),(.cV,.ref 9),(.hH,.int 0),(.eB,.ref 10),(.eF,.ref 11),(.dF,.ref 12),(.d5,.ref 13),(.gh,.ref 14),(.fF,.int 1),(.eS,.int 2),(.dZ,.ref 15)]
noncomputable def lX (c:aS):List (Nm×V):=[(.cf,.ref 4),(.a9,.ref 28),(.bQ,.ref 29),(.eC,.ref 30),(.di,.ref 31),(.dR,.ref 32),(.b5,.ref 33),(.hS,.ref 34),(.fE,.ref 35),(.lB,.ref 36),(.dO,.ref 37),(.hJ,.ref c.nw),(.dz,.ref c.q),(.fX,.none),(.et,.int 0),(.cL,.ref 40),(.aQ,.ref c.m)]
noncomputable def eY (i:Nat):Bool:=i==4||i==10||i==11||i==13||(27<=i&&i<=37)||i==40
noncomputable def fR:Nat->Nat
 | 0=>29
 | 1=>30
 | 2=>32
 | _=>33
theorem four {P:Nat->Prop}{k:Nat} (hk:k<4) (h0:P 0) (h1:P 1) (h2:P 2) (h3:P 3):P k:=by
 cases k with
 | zero=>exact h0
 | succ k=>cases k with
  | zero=>exact h1
  | succ k=>cases k with
   | zero=>exact h2
   | succ k=>cases k with
    | zero=>exact h3
    | succ k=>exact absurd hk (ü (V6 4 k))
noncomputable abbrev Hy (c:aS):Role->Option O
 | .q=>some (.list c.queue)
 | .ma=>some (.list c.marks)
 | .nw=>some (.list [])
 | .ls k t=>some (.list (c.L k t))
 | _=>UB
noncomputable def iB (c:aS) (r:Nat):Option O:=Hy c (c.role r)
theorem bG {c:aS}{r ρ} (h:c.role r=ρ):iB c r=Hy c ρ:=congrArg (Hy c) h
structure Rep (g:Cfg) (σ:St) (c:aS):Prop where
 ij:σ.get 4=some (.inst .av dx)
 iZ:σ.get 10=some (.list g.iZ)
 dX:σ.get 11=some (.list g.dX)
 iA:σ.get 13=some (.list g.iA)
 b9:σ.get 27=some (.inst .ak (lX c))
 root:σ.get 28=some (.dict c.root)
 ph:∀k,k<4->σ.get (fR k)=some (.dict (c.dk k))
 val:σ.get 31=some (.dict c.val)
 up:σ.get 34=some (.dict c.up)
 table:σ.get 35=some (.dict c.table)
 told:σ.get 37=some (.dict [])
 trail:σ.get 40=some (.list c.trail)
 dyn:∀r o,iB c r=some o->σ.get r=some o
 top:∀r,σ.next<=r->c.role r=.none
 fix:∀i,eY i=true->c.role i=.fix
 inj:∀r r',c.role r=c.role r'->c.role r≠.none->c.role r≠.fix->r=r'
 rq:c.role c.q=.q
 nF:c.role c.m=.ma
 pK:c.role c.nw=.nw
 ls:∀k t,k<4->t∈g.T->∃r,ag (c.dk k) t=some (.ref r)/\c.role r=.ls k t
structure Ext (σ σ':St):Prop where
 le:σ.next<=σ'.next
 keep:∀r,r<σ.next->σ'.get r=σ.get r
theorem Ext.refl {σ}:Ext σ σ:=⟨Ux _,λU U=>rfl⟩
theorem Ext.trans {σ σ' bU} (h:Ext σ σ') (k:Ext σ' bU):Ext σ bU:=⟨Ut h.le k.le,λr hr=>(k.keep r (UM hr h.le)).trans (h.keep r hr)⟩
theorem Ext.push {σ o}:Ext σ (σ.push o):=⟨US _,λr hr=>if_neg (UZ hr)⟩
theorem Ext.set {σ σ' r o} (h:Ext σ σ') (hr:σ.next<=r):Ext σ (σ'.set r o):=⟨h.le,λi hi=>(if_neg (UZ (UM hi hr))).trans (h.keep i hi)⟩
theorem ao {σ:St}{o}:(σ.push o).get σ.next=some o:=if_pos rfl
theorem cY {σ:St}{r o}:(σ.set r o).get r=some o:=if_pos rfl
theorem bl {σ:St}{r i o} (h:i≠r):(σ.set r o).get i=σ.get i:=if_neg h
theorem aX {σ:St}{i o} (h:i<σ.next):(σ.push o).get i=σ.get i:=if_neg (UZ h)
structure tZ (σ:St) (c:aS) (σ':St) (c':aS):Prop where
 le:σ.next<=σ'.next
 keep:∀r,r<σ.next->c.role r=.none->σ'.get r=σ.get r/\c'.role r=.none
theorem tZ.refl {σ c}:tZ σ c σ c:=⟨Ux _,λU U h=>⟨rfl,h⟩⟩
theorem tZ.trans {σ c σ' c' bU mS} (h:tZ σ c σ' c') (k:tZ σ' c' bU mS):tZ σ c bU mS:=
 ⟨Ut h.le k.le,λr hr hn=>have a:=h.keep r hr hn;have b:=k.keep r (UM hr h.le) a.2;⟨b.1.trans a.1,b.2⟩⟩
theorem Ext.yH {σ σ' c} (h:Ext σ σ'):tZ σ c σ' c:=⟨h.le,λr hr hn=>⟨h.keep r hr,hn⟩⟩
section
variable {g:Cfg}{σ σ':St}{c:aS}
theorem Rep.lt (H:Rep g σ c) {r} (h:c.role r≠.none):r<σ.next:=Y9 λq=>h (H.top r q)
theorem eZ {k:Nat} (hk:k<4):eY (fR k)=true:=four (P:=λk=>eY (fR k)=true) hk rfl rfl rfl rfl
noncomputable def DX (i:Nat):Bool:=i !=fR 0&&(i !=fR 1&&(i !=fR 2&&i !=fR 3))
theorem xa {i k:Nat} (hk:k<4) (h:DX i=true):i≠fR k:=λe=>four (P:=λk=>DX (fR k)=true->False) hk (λh=>nomatch h) (λh=>nomatch h) (λh=>nomatch h) (λh=>nomatch h) (aR e h)
theorem Rep.nZ (H:Rep g σ c) {r} (h:eY r=true):r<σ.next:=H.lt (by rw [H.fix r h];exact Role.noConfusion)
theorem eO {r o} (h:iB c r=some o):c.role r≠.none/\c.role r≠.fix:=
 ⟨λe=>(by have:=(bG e).symm.trans h;contradiction),λe=>(by have:=(bG e).symm.trans h;contradiction)⟩
theorem Rep.ext (H:Rep g σ c) (h:Ext σ σ'):Rep g σ' c where
 ij:=(h.keep _ (H.nZ rfl)).trans H.ij
 iZ:=(h.keep _ (H.nZ rfl)).trans H.iZ
 dX:=(h.keep _ (H.nZ rfl)).trans H.dX
 iA:=(h.keep _ (H.nZ rfl)).trans H.iA
 b9:=(h.keep _ (H.nZ rfl)).trans H.b9
 root:=(h.keep _ (H.nZ rfl)).trans H.root
 ph k hk:=(h.keep _ (H.nZ (eZ hk))).trans (H.ph k hk)
 val:=(h.keep _ (H.nZ rfl)).trans H.val
 up:=(h.keep _ (H.nZ rfl)).trans H.up
 table:=(h.keep _ (H.nZ rfl)).trans H.table
 told:=(h.keep _ (H.nZ rfl)).trans H.told
 trail:=(h.keep _ (H.nZ rfl)).trans H.trail
 dyn r o e:=(h.keep _ (H.lt (eO e).1)).trans (H.dyn r o e)
 top r hr:=H.top r (Ut h.le hr)
 fix:=H.fix
 inj:=H.inj
 rq:=H.rq
 nF:=H.nF
 pK:=H.pK
 ls:=H.ls
theorem Rep.By (H:Rep g σ c) {i o'} (hi:eY i=true):∀r o,iB c r=some o->(σ.set i o').get r=some o:=λr o e=>
 (bl λq=>(eO e).2 (by rw [q];exact H.fix i hi)).trans (H.dyn r o e)
theorem Rep.DY (H:Rep g σ c) {i o c'} (hi:c.role i≠.none) (hr:∀r,c.role r=.none->c'.role r=.none):tZ σ c (σ.set i o) c':=
 ⟨Ux _,λr U hn=>⟨bl λq=>hi (by rw [← q];exact hn),hr r hn⟩⟩
theorem Rep.Bz (H:Rep g σ c) {i o c'} (hi:eY i=true) (hr:c'.role=c.role):tZ σ c (σ.set i o) c':=
 H.DY (by rw [H.fix i hi];exact Role.noConfusion) λr h=>by rw [hr];exact h
theorem Rep.KR (H:Rep g σ c) {i o'} (h0:29≠i) (h1:30≠i) (h2:32≠i) (h3:33≠i):∀k,k<4->(σ.set i o').get (fR k)=some (.dict (c.dk k)):=λk hk=>
 (bl (four (P:=λk=>fR k≠i) hk h0 h1 h2 h3)).trans (H.ph k hk)
theorem Rep.Hz (H:Rep g σ c) (d):Rep g (σ.set 28 (.dict d)) {c with root:=d}:={H with root:=cY,dyn:=H.By rfl,ph:=H.KR ((of_decide_eq_true rfl)) ((of_decide_eq_true rfl)) ((of_decide_eq_true rfl)) ((of_decide_eq_true rfl))}
theorem Rep.KS (H:Rep g σ c) (d):Rep g (σ.set 31 (.dict d)) {c with val:=d}:={H with val:=cY,dyn:=H.By rfl,ph:=H.KR ((of_decide_eq_true rfl)) ((of_decide_eq_true rfl)) ((of_decide_eq_true rfl)) ((of_decide_eq_true rfl))}
theorem Rep.Of (H:Rep g σ c) (d):Rep g (σ.set 34 (.dict d)) {c with up:=d}:={H with up:=cY,dyn:=H.By rfl,ph:=H.KR ((of_decide_eq_true rfl)) ((of_decide_eq_true rfl)) ((of_decide_eq_true rfl)) ((of_decide_eq_true rfl))}
theorem Rep.DZ (H:Rep g σ c) (d):Rep g (σ.set 35 (.dict d)) {c with table:=d}:={H with table:=cY,dyn:=H.By rfl,ph:=H.KR ((of_decide_eq_true rfl)) ((of_decide_eq_true rfl)) ((of_decide_eq_true rfl)) ((of_decide_eq_true rfl))}
theorem Rep.sr (H:Rep g σ c) (d):Rep g (σ.set 40 (.list d)) {c with trail:=d}:={H with trail:=cY,dyn:=H.By rfl,ph:=H.KR ((of_decide_eq_true rfl)) ((of_decide_eq_true rfl)) ((of_decide_eq_true rfl)) ((of_decide_eq_true rfl))}
theorem Rep.sd (H:Rep g σ c) {i o} (hi:c.role i≠.none/\c.role i≠.fix) {r} (hr:eY r=true):(σ.set i o).get r=σ.get r:=bl λq=>hi.2 (by rw [← q];exact H.fix r hr)
theorem Rep.BA (H:Rep g σ c) {i o c'} (hi:c.role i≠.none/\c.role i≠.fix) (hc:c'={c with queue:=c'.queue,marks:=c'.marks,L:=c'.L})
 (h1:iB c' i=some o) (h2:∀r,c.role r≠c.role i->iB c' r=iB c r):Rep g (σ.set i o) c' where
 ij:=(H.sd hi rfl).trans H.ij
 iZ:=(H.sd hi rfl).trans H.iZ
 dX:=(H.sd hi rfl).trans H.dX
 iA:=(H.sd hi rfl).trans H.iA
 b9:=(H.sd hi rfl).trans (by rw [hc];exact H.b9)
 root:=(H.sd hi rfl).trans (by rw [hc];exact H.root)
 ph k hk:=(H.sd hi (eZ hk)).trans (by rw [hc];exact H.ph k hk)
 val:=(H.sd hi rfl).trans (by rw [hc];exact H.val)
 up:=(H.sd hi rfl).trans (by rw [hc];exact H.up)
 table:=(H.sd hi rfl).trans (by rw [hc];exact H.table)
 told:=(H.sd hi rfl).trans H.told
 trail:=(H.sd hi rfl).trans (by rw [hc];exact H.trail)
 dyn r o e:=by
  by_cases q:r=i
  ·clear h2 hc hi H;subst q;rw [h1] at e;injection e with z0;subst z0;exact cY
  ·refine (bl q).trans (H.dyn r o ?_)
   rw [← h2 r λx=>q ?_];exact e
   exact (H.inj i r x.symm hi.1 hi.2).symm
 top:=by exact aa hc H.top
 fix:=by exact aa hc H.fix
 inj:=by exact aa hc H.inj
 rq:=by exact aa hc H.rq
 nF:=by exact aa hc H.nF
 pK:=by exact aa hc H.pK
 ls:=by exact aa hc H.ls
end
end
end Mine.Internal.R
namespace Mine.Internal.R
noncomputable section
noncomputable abbrev Up:=V->Option V
inductive Pre (up:Up):V->List Ed->V->Prop
 | nil {a}:Pre up a [] a
 | cons {a p w l b}:up a=some (V.tup [p,w])->Pre up p l b->Pre up a ((a,p,w)::l) b
section
variable {up:Up}
theorem Pre.mem {a l b} (h:Pre up a l b):∀e∈l,up e.1=some (V.tup [e.2.1,e.2.2]):=by
 induction h with
 | nil=>exact nofun
 | cons e _ ih=>intro x hx;rcases List.mem_cons.mp hx with rfl | hx
                ·exact e
                ·exact ih x hx
theorem dK {a b c d:V} (h:V.tup [a,b]=V.tup [c,d]):a=c/\b=d:=by
 cases h;exact ⟨rfl,rfl⟩
theorem Pre.det {a l t l' t'} (h:Pre up a l t) (k:Pre up a l' t') (ht:up t=none) (dV:up t'=none):l=l'/\t=t':=by
 induction h generalizing l' with
 | nil=>cases k with
  | nil=>exact ⟨rfl,rfl⟩
  | cons e _=>rw [ht] at e;contradiction
 | cons e _ ih=>cases k with
  | nil=>rw [dV] at e;contradiction
  | cons e' k=>
   rw [e] at e'
   obtain ⟨rfl,rfl⟩:=dK (Uu e')
   exact MU (ih k ht) λz2=>aa z2 ⟨rfl,rfl⟩
theorem Pre.suffix {a l t} (h:Pre up a l t):∀e∈l,∃m,Pre up e.2.1 m t/\m.length<l.length/\(∀x∈m,x∈l):=by
 induction h with
 | nil=>exact nofun
 | @cons a p w l b e k ih=>
  intro x hx
  rcases List.mem_cons.mp hx with rfl | hx
  ·exact uP l k (Uw _) (λy hy=>Uy _ hy)
  ·exact i5 (ih x hx) λm h1 h2 h3=>uP m h1 (UR h2) (λy hy=>Uy _ (h3 y hy))
theorem Pre.xb {a l t} (h:Pre up a l t) {e} (he:e∈l):∃m,Pre up e.1 m t/\m.length<=l.length/\(∀x∈m,x∈l):=by
 exact i5 (h.suffix e he) λm h1 h2 h3=>uP (e::m) (.cons (h.mem e he) h1) h2 (λy hy=>(List.mem_cons.mp hy).elim (λq=>aa q he) (h3 y))
theorem Pre.start {a l t} (h:Pre up a l t) (ht:up t=none):∀e∈l,e.2.1≠a:=λe he q=>by
 obtain ⟨m,h1,h2,_⟩:=h.suffix e he
 rw [q] at h1
 rw [(h1.det h ht ht).1] at h2
 exact Gl (Y1 _) (.s Z0) Z0 h2 rfl
theorem Pre.nodup {a l t} (h:Pre up a l t) (ht:up t=none):(l.map (·.1)).Nodup/\(l.map (·.2.1)).Nodup:=by
 induction h with
 | nil=>exact ⟨Vr,Vr⟩
 | @cons a p w l b e k ih=>
  refine aU (ih ht) λi j=>⟨List.nodup_cons.mpr ⟨λq=>?_,i⟩,List.nodup_cons.mpr ⟨λq=>?_,j⟩⟩
  ·refine aN (List.mem_map.mp q) λx hx q=>i5 (k.xb hx) λm h1 h2 U=>?_
   have:=(((q)▸h1).det (.cons e k) ht ht).1
   rw [this] at h2;exact Gl (Y1 _) (.s Z0) Z0 h2 rfl
  ·exact aN (List.mem_map.mp q) λx hx q=>i5 (k.suffix x hx) λm h1 h2 U=>Gl (Y1 _) (.s Z0) Z0 (((((q)▸h1).det k ht ht).1)▸h2) rfl
theorem mem_unique {β γ:Type}{f:β->γ}:∀ {l:List β},(l.map f).Nodup->∀ {a b},a∈l->b∈l->f a=f b->a=b:=by
 intro z9;induction z9 with
 | nil=>intro U U U h U U;contradiction
 | cons x l ih=>
  intro h a b ha hb e
  rw [UX,U5] at h
  rcases List.mem_cons.mp ha with rfl | P4<;>rcases List.mem_cons.mp hb with rfl | Av
  ·rfl
  ·exact absurd (List.mem_map.mpr (i12 b Av e.symm)) h.1
  ·exact absurd (List.mem_map.mpr (i12 a P4 e)) h.1
  ·exact ih h.2 P4 Av e
theorem Pre.trans {a l b m c} (h:Pre up a l b) (k:Pre up b m c):Pre up a (l++m) c:=by
 induction h with
 | nil=>exact k
 | cons e _ ih=>exact .cons e (ih k)
theorem Pre.mono {up':Up}{a l b} (h:Pre up a l b) (i:∀e∈l,up' e.1=up e.1):Pre up' a l b:=by
 induction h with
 | nil=>exact .nil
 | @cons a p w l b e _ ih=>exact .cons ((i (a,p,w) (Ur)).trans e) (ih λx hx=>i x (by simp [hx]))
end
noncomputable def bR (d:List (V×V)) (l:List Ed):List (V×V):=l.foldl (λd e=>dput d e.2.1 (V.tup [e.1,e.2.2])) (l.foldl (λd e=>ej d e.1) d)
theorem iC {l:List Ed}:∀ {d:List (V×V)}{z:V},ag (l.foldl (λd e=>ej d e.1) d) z=if z∈l.map (·.1) then none else ag d z:=by
 induction l with
 | nil=>intro d z;rfl
 | cons e l ih=>
  intro d z
  refine aa ih (w2 fC UX ?_)
  by_cases q:z∈l.map (·.1)
  ·exact (if_pos q).trans ((if_pos (Uy _ q)).symm)
  ·by_cases r:e.1=z
   ·exact (if_neg q).trans ((if_pos r).trans ((if_pos (by simp [r])).symm))
   ·exact (if_neg q).trans (w2 (if_neg λx=>(List.mem_cons.mp x).elim (λy=>r y.symm) q) (if_neg r) rfl)
theorem jR {l:List Ed}:∀ {d:List (V×V)}{z:V},z∉l.map (·.2.1)->ag (l.foldl (λd e=>dput d e.2.1 (V.tup [e.1,e.2.2])) d) z=ag d z:=by
 induction l with
 | nil=>intro d z _;rfl
 | cons e l ih=>
  intro d z h
  rw [UX,Wn,not_or] at h
  exact (ih h.2).trans (aO.trans (if_neg (λq=>h.1 q.symm)))
theorem BB {l:List Ed}:∀ {d:List (V×V)}{e:Ed},(l.map (·.2.1)).Nodup->e∈l->ag (l.foldl (λd e=>dput d e.2.1 (V.tup [e.1,e.2.2])) d) e.2.1=some (V.tup [e.1,e.2.2]):=by
 induction l with
 | nil=>intro d e _ h;contradiction
 | cons x l ih=>
  intro d e hn h
  rw [UX,U5] at hn
  rcases List.mem_cons.mp h with rfl | h
  ·exact (jR hn.1).trans (aO.trans (if_pos rfl))
  ·exact ih hn.2 h
noncomputable def lY (e:Ed):Ed:=(e.2.1,e.1,e.2.2)
section
variable {d:List (V×V)}{a t:V}{l:List Ed}
theorem lZ (h:Pre (ag d) a l t) (ht:ag d t=none) {e} (he:e∈l):ag (bR d l) e.2.1=some (V.tup [e.1,e.2.2]):=BB (h.nodup ht).2 he
theorem fD (h:Pre (ag d) a l t) (ht:ag d t=none):ag (bR d l) a=none:=by
 delta bR
 rw [jR λq=>?_,iC]
 ·cases h with
  | nil=>split<;>first | rfl | exact ht
  | cons e k=>rw [if_pos (by exact Ur)]
 ·exact aN (List.mem_map.mp q) λx hx q=>h.start ht x hx q
theorem iD {z:V} (hz:∀e∈l,e.1≠z/\e.2.1≠z):ag (bR d l) z=ag d z:=by
 delta bR
 rw [jR λq=>?_,iC,if_neg λq=>?_]
 ·exact aN (List.mem_map.mp q) λx hx q=>(hz x hx).1 q
 ·exact aN (List.mem_map.mp q) λx hx q=>(hz x hx).2 q
theorem Pre.child {up:Up}{a l t} (h:Pre up a l t):∀e∈l,e.1=a\/∃e'∈l,e'.2.1=e.1:=by
 induction h with
 | nil=>exact nofun
 | @cons a p w l b e k ih=>
  intro x hx
  rcases List.mem_cons.mp hx with rfl | hx
  ·exact .inl rfl
  ·right
   rcases ih x hx with q | ⟨y,hy,q⟩
   ·exact i12 (a,p,w) (Ur) q.symm
   ·exact i12 y (by simp [hy]) q
theorem Pre.front {up:Up}{a l t} (h:Pre up a l t):∀e∈l,∃m,Pre up a m e.2.1/\∀x∈m,x∈l:=by
 induction h with
 | nil=>exact nofun
 | @cons a p w l b e k ih=>
  intro x hx
  rcases List.mem_cons.mp hx with rfl | hx
  ·exact i12 _ (.cons e .nil) (λy hy=>(U4 _ ‹_›))
  ·exact aN (ih x hx) λm h1 h2=>i12 _ (.cons e h1) (λy hy=>(List.mem_cons.mp hy).elim (λq=>by simp [q]) λq=>by simp [h2 y q])
theorem iE {up:Up} (h:Pre up a l t) (z:V):(∃e∈l,e.2.1=z)\/z=a\/∀e∈l,e.1≠z/\e.2.1≠z:=by
 by_cases p:∃e∈l,e.2.1=z
 ·exact .inl p
 ·by_cases q:z=a
  ·exact .inr (.inl q)
  ·refine .inr (.inr λe he=>⟨λr=>?_,λr=>p (i12 e he r)⟩)
   rcases h.child e he with x | ⟨y,hy,x⟩
   ·exact q (r.symm.trans x)
   ·exact p (i12 y hy (x.trans r))
theorem HA {up:Up} (h:Pre up a l t) (ht:up t=none) {x y w:V} (hx:up x=some (V.tup [y,w])):(x,y,w)∈l\/(x≠a/\∀e∈l,e.1≠x/\e.2.1≠x):=by
 have key:∀ {m},Pre up x m t->(∀z∈m,z∈l)->(x,y,w)∈l:=λ{m} k i=>by
  cases k with
  | nil=>rw [ht] at hx;contradiction
  | cons e k=>
   refine aU (dK (Uu (hx▸e))) λz1 z2=>?_;exact w2 z1 z2 (i _ (Ur))
 clear hx;rcases iE h x with ⟨e,he,rfl⟩ | rfl | q
 ·exact i5 (h.suffix e he) λm h1 U h2=>.inl (key h1 h2)
 ·exact .inl (key h λU h=>h)
 ·by_cases r:x=a
  ·subst r;exact .inl (key h λU h=>h)
  ·exact .inr ⟨r,q⟩
theorem BC (h:Pre (ag d) a l t) (ht:ag d t=none) {x y w:V}:
 (ag (bR d l) x=some (V.tup [y,w])\/ag (bR d l) y=some (V.tup [x,w]))↔(ag d x=some (V.tup [y,w])\/ag d y=some (V.tup [x,w])):=by
 have A:∀ {x y},ag (bR d l) x=some (V.tup [y,w])->ag d x=some (V.tup [y,w])\/ag d y=some (V.tup [x,w]):=λ{x y} e=>by
  rcases iE h x with ⟨z,hz,rfl⟩ | rfl | q
  ·refine aU (dK (Uu ((lZ h ht hz)▸e))) λz1 z2=>?_;exact w2 z1.symm z2.symm (.inr (h.mem z hz))
  ·rw [fD h ht] at e;exact nomatch e
  ·rw [iD q] at e;exact .inl e
 have B:∀ {x y},ag d x=some (V.tup [y,w])->ag (bR d l) x=some (V.tup [y,w])\/ag (bR d l) y=some (V.tup [x,w]):=λ{x y} e=>by
  refine (HA h ht e).elim (λq=>?_) λq=>?_
  ·exact .inr (lZ h ht q)
  ·exact .inl ((iD q.2).trans e)
 exact ⟨λq=>q.elim A λr=>(A r).symm,λq=>q.elim B λr=>(B r).symm⟩
theorem Pre.turned {up up':Up}{a l t} (h:Pre up a l t) (i:∀e∈l,up' e.2.1=some (V.tup [e.1,e.2.2])):Pre up' t (l.reverse.map lY) a:=by
 induction h with
 | nil=>exact .nil
 | @cons a p w l b e k ih=>
  exact aa WI (aa UJ ((ih λx hx=>i x (by simp [hx])).trans (.cons (i (a,p,w) (Ur)) .nil)))
theorem qH (h:Pre (ag d) a l t) (ht:ag d t=none):Pre (ag (bR d l)) t (l.reverse.map lY) a:=h.turned λe he=>lZ h ht he
theorem yI (h:Pre (ag d) a l t) (ht:ag d t=none) (z:V):ag (bR (bR d l) (l.reverse.map lY)) z=ag d z:=by
 have h1:=qH h ht
 have s:=fD h ht
 have off:∀ {e},e∈l.reverse.map lY->∃e'∈l,e=lY e':=λ{e} he=>by
  exact aN (List.mem_map.mp he) λe' h' z1=>aR z1 (i12 e' (by simpa using h') rfl)
 rcases iE h1 z with ⟨e,he,rfl⟩ | rfl | q
 ·exact (lZ h1 s he).trans (aN (off he) λe' wK z2=>aa z2 (h.mem e' wK).symm)
 ·exact (fD h1 s).trans (ht.symm)
 ·exact (iD q).trans (iD λe he=>(q (lY e) (List.mem_map.mpr (i12 e (by simpa using he) rfl))).symm)
def yJ (up:Up):Prop:=∀x,∃l t,Pre up x l t/\up t=none
theorem BD (F:yJ (ag d)) (h:Pre (ag d) a l t) (ht:ag d t=none) {b m t' why} (k:Pre (ag d) b m t') (dV:ag d t'=none) (n:t≠t'):
 yJ (ag (dput (bR d l) a (V.tup [b,why]))):=by
 have gd:∀z,z≠a->ag (dput (bR d l) a (V.tup [b,why])) z=ag (bR d l) z:=λz q=>(aO.trans (if_neg λr=>q r.symm))
 have ga:ag (dput (bR d l) a (V.tup [b,why])) a=some (V.tup [b,why]):=(aO.trans (if_pos rfl))
 have toT:∀z,((∃e∈l,e.2.1=z)\/z=a)->∃m,Pre (ag d) z m t:=λz q=>by
  clear ga gd;rcases q with ⟨e,he,rfl⟩ | rfl
  ·exact aN (h.suffix e he) λm h1 U=>⟨m,h1⟩
  ·exact ⟨l,h⟩
 have off:∀z k,Pre (ag d) z k t'->ag (dput (bR d l) a (V.tup [b,why])) z=ag d z:=λz k hk=>by
  have no:=λq=>by
   exact bb (toT z q) λm hm=>n (hm.det hk ht dV).2
  rcases iE h z with q | q | q
  ·exact absurd (.inl q) no
  ·exact absurd (.inr q) no
  ·exact (gd z λr=>no (.inr r)).trans (iD q)
 have fb:=k.mono λe he=>by
  exact aN (k.xb he) λm' h1 U=>off _ _ h1
 have ft:=(off t' [] .nil).trans dV
 have fa:Pre (ag (dput (bR d l) a (V.tup [b,why]))) a ((a,b,why)::m) t':=.cons ga fb
 have way:∀z,((∃e∈l,e.2.1=z)\/z=a)->∃yB KU,Pre (ag (dput (bR d l) a (V.tup [b,why]))) z yB KU/\ag (dput (bR d l) a (V.tup [b,why])) KU=none:=λz q=>by
  clear fb off toT ga;rcases q with ⟨e,he,rfl⟩ | rfl
  ·exact aN (h.front e he) λm0 h1 h2=>jo _ _ ((h1.turned (up':=ag (dput (bR d l) a (V.tup [b,why]))) λx hx=>(gd _ (h.start ht x (h2 x hx))).trans (lZ h ht (h2 x hx))).trans fa) ft
  ·exact jo _ _ fa ft
 have step:∀z,((∃e∈l,e.2.1=z)\/z=a)\/ag (dput (bR d l) a (V.tup [b,why])) z=ag d z:=λz=>by
  rcases iE h z with q | q | q
  ·exact .inl (.inl q)
  ·exact .inl (.inr q)
  ·by_cases r:z=a
   ·exact .inl (.inr r)
   ·exact .inr ((gd z r).trans (iD q))
 refine λz=>eQ (F z) λlz tz kz hz=>?_
 induction kz with
 | @nil z=>refine (step z).elim (λq=>?_) λq=>?_
           ·exact way z q
           ·exact jo ([]) z .nil (q.trans hz)
 | @cons z p w lz tz e _ ih=>refine (step z).elim (λq=>?_) λq=>?_
                             ·exact way z q
                             ·exact eQ (ih hz) λl' R6 h1 h2=>jo _ R6 (.cons (q.trans e) h1) h2
end
def D3 (up:Up) (E:EP):Prop:=∀a b w,(up a=some (V.tup [b,w])\/up b=some (V.tup [a,w]))↔(E (a,b,w)\/E (b,a,w))
theorem D3.D4 {d:List (V×V)}{a b t why:V}{l:List Ed}{E:EP} (hc:D3 (ag d) E) (h:Pre (ag d) a l t) (ht:ag d t=none):
 D3 (ag (dput (bR d l) a (V.tup [b,why]))) (plus E (a,b,why)):=by
 have key:∀x y w,ag (dput (bR d l) a (V.tup [b,why])) x=some (V.tup [y,w])↔ag (bR d l) x=some (V.tup [y,w])\/(x,y,w)=(a,b,why):=λx y w=>by
  refine aa aO ?_
  by_cases q:a=x
  ·refine aR q (w2 (fD h ht) (if_pos rfl) ?_)
   constructor
   ·exact λe=>aU (dK (Uu e)) λz1 z2=>w2 z1 z2 (.inr rfl)
   ·rintro (e | e)
    ·contradiction
    ·cases e;rfl
  ·exact aa (if_neg q) ⟨.inl,λe=>e.elim id λe=>by injection e with z0;clear snd_eq e ht h;subst z0;exact absurd rfl q⟩
 refine λx y w=>gL (key ..) (gL (key ..) ?_)
 have:=(BC h ht (x:=x) (y:=y) (w:=w)).trans (hc x y w)
 constructor
 ·rintro ((e | e) | (e | e))
  ·exact (this.mp (.inl e)).imp .inl .inl
  ·exact .inl (.inr e)
  ·exact (this.mp (.inr e)).imp .inl .inl
  ·exact .inr (.inr e)
 ·rintro ((e | e) | (e | e))
  ·exact (this.mpr (.inl e)).imp .inl .inl
  ·exact .inl (.inr e)
  ·exact (this.mpr (.inr e)).imp .inl .inl
  ·exact .inr (.inr e)
theorem Pre.conn {up:Up}{E:EP} (hc:D3 up E) {a l b} (h:Pre up a l b):au E a b:=by
 induction h with
 | nil=>exact .refl
 | @cons a p w l b e _ ih=>exact (au.one ⟨w,(hc a p w).mp (.inl e)⟩).trans ih
theorem au.root {up:Up}{E:EP} (hc:D3 up E) {a b t l} (h:au E a b) (k:Pre up a l t) (ht:up t=none):∃m,Pre up b m t:=by
 induction h with
 | refl=>exact ⟨l,k⟩
 | @tail y z _ e ih=>
  refine bb ih λm hm=>bb e λw e=>((hc y z w).mpr e).elim (λe=>?_) λe=>?_
  ·clear ih;clear a_1;cases hm with
   | nil=>rw [ht] at e;contradiction
   | cons e' hm=>
    refine aU (dK (Uu (e▸e'))) λz1 z2=>?_;exact aa z1 ⟨_,hm⟩
  ·exact ⟨_,.cons e hm⟩
end
end Mine.Internal.R
namespace Mine.Internal.R
noncomputable section
theorem lim {n:Nat} (h:n<=1000):n+1<=dj:=Ut (Vn h) ((Ui rfl))
theorem eR.lim {K d} (h:eR K d) (k:K.length<=100):d.length+1<=dj:=Mine.Internal.R.lim (Ut h.len (Ut k ((Ui rfl))))
structure aP (g:Cfg):Prop where
 int:∀t∈g.T,∃i:Int,t=.int i
 len:g.T.length<=8
 nd:g.T.Nodup
 ap:∀t∈g.Ap,t∈g.T/\g.arg t∈g.T/\(∃j:Int,g.dat t=.int j)/\∃i:Int,t=.int i/\idx g.dX i=some (V.tup [g.arg t])/\idx g.iA i=some (g.dat t)
 IG:g.Ap.length<=4
 and:g.Ap.Nodup
theorem aP.kind {g:Cfg} (G:aP g):∀t∈g.T,t.kind=some 0:=λt h=>by obtain ⟨i,rfl⟩:=G.int t h;rfl
section
variable {l:Loc}{σ:St}{r:Nat}
theorem vV {d x v} (h:σ.get r=some (.dict d)) (k:keyOk d x=true) (e:ag d x=some v):hV σ .isin x (.ref r)=some true:=(rF h k).trans (congrArg (λz=>some (VE z)) e)
theorem vW {d x} (h:σ.get r=some (.dict d)) (k:keyOk d x=true) (e:ag d x=UB):hV σ .isin x (.ref r)=some false:=(rF h k).trans (congrArg (λz=>some (VE z)) e)
theorem l7 {d x} (h:σ.get r=some (.dict d)) (k:keyOk d x=true) (e:ag d x=UB):hV σ .gU x (.ref r)=some true:=(congrArg (Wm (! ·)) (rF h k)).trans (congrArg (λz=>some (!(VE z))) e)
theorem j6 {d x v} (h:σ.get r=some (.dict d)) (k:keyOk d x=true) (e:ag d x=some v):hV σ .gU x (.ref r)=some false:=(congrArg (Wm (! ·)) (rF h k)).trans (congrArg (λz=>some (!(VE z))) e)
theorem nG {d x v} (h:σ.get r=some (.dict d)) (k:keyOk d x=true) (e:ag d x=some v):subAt σ (.ref r) x=some v:=(congrArg (λz=>subAt (S1 z) (.ref r) x) h).trans ((if_pos k).trans e)
theorem fW {xs v}{i:Int} (h:σ.get r=some (.list xs)) (e:idx xs i=some v):subAt σ (.ref r) (.int i)=some v:=(congrArg (λz=>subAt (S1 z) (.ref r) (.int i)) h).trans e
theorem pj {i j:Int}:xM σ (.int i) (.int j)=some (decide (i=j)):=by
 by_cases h:i=j<;>rfl
theorem t5 {x y:V} (hx:∃i:Int,x=.int i) (hy:∃i:Int,y=.int i):hV σ .eq x y=some (decide (x=y)):=by
 exact I6 hx λi=>I6 hy λj=>(pj (σ:=σ)).trans (congrArg some (decide_eq_decide.mpr ⟨congrArg V.int,λq=>by cases q;rfl⟩))
theorem qI {x y:V} (hx:∃i:Int,x=.int i) (hy:∃i:Int,y=.int i):hV σ .ne x y=some (!decide (x=y)):=congrArg (Wm (! ·)) (t5 hx hy)
theorem KV {j:Int}:xM σ .none (.int j)=some false:=by
 rfl
theorem jb {C x y e1 e2 s}{R:Fl->Loc->St->Prop} (hn:decide [x,y].Nodup=true) (h:aK C e1 l σ λv σ=>aK C e2 l σ λw σ=>aG C s ((l.set x v).set y w) σ R):
 aG C (.cons (.unpack [x,y] (.tup (.cons e1 (.cons e2 .nil)))) s) l σ R:=by
 show aK C e1 l σ λv σ=>aK C e2 l σ λw σ=>ei (decide [x,y].Nodup) _
 exact aa hn h
theorem KW {C x y z e1 e2 e3 s}{R:Fl->Loc->St->Prop} (hn:decide [x,y,z].Nodup=true) (h:aK C e1 l σ λv σ=>aK C e2 l σ λw σ=>aK C e3 l σ λu σ=>aG C s (((l.set x v).set y w).set z u) σ R):
 aG C (.cons (.unpack [x,y,z] (.tup (.cons e1 (.cons e2 (.cons e3 .nil))))) s) l σ R:=by
 show aK C e1 l σ λv σ=>aK C e2 l σ λw σ=>aK C e3 l σ λu σ=>ei (decide [x,y,z].Nodup) _
 exact aa hn h
end
def Go (g:Cfg) (σ:St) (c:aS) (σ':St) (c':aS):Prop:=Rep g σ' c'/\tZ σ c σ' c'
section
variable {g:Cfg}{σ σ' bU:St}{c c':aS}{l:Loc}
theorem Go.refl (H:Rep g σ c):Go g σ c σ c:=⟨H,tZ.refl⟩
theorem Go.ext (h:Go g σ c σ' c') (e:Ext σ' bU):Go g σ c bU c':=⟨h.1.ext e,h.2.trans e.yH⟩
theorem Go.trans {mS} (h:Go g σ c σ' c') (k:Go g σ' c' bU mS):Go g σ c bU mS:=⟨k.1,h.2.trans k.2⟩
theorem Go.up (h:Go g σ c σ' c') (d):Go g σ c (σ'.set 34 (.dict d)) {c' with up:=d}:=⟨h.1.Of d,h.2.trans (h.1.Bz rfl rfl)⟩
theorem Go.root (h:Go g σ c σ' c') (d):Go g σ c (σ'.set 28 (.dict d)) {c' with root:=d}:=⟨h.1.Hz d,h.2.trans (h.1.Bz rfl rfl)⟩
theorem Go.val (h:Go g σ c σ' c') (d):Go g σ c (σ'.set 31 (.dict d)) {c' with val:=d}:=⟨h.1.KS d,h.2.trans (h.1.Bz rfl rfl)⟩
theorem Go.table (h:Go g σ c σ' c') (d):Go g σ c (σ'.set 35 (.dict d)) {c' with table:=d}:=⟨h.1.DZ d,h.2.trans (h.1.Bz rfl rfl)⟩
theorem Go.trail (h:Go g σ c σ' c') (d):Go g σ c (σ'.set 40 (.list d)) {c' with trail:=d}:=⟨h.1.sr d,h.2.trans (h.1.Bz rfl rfl)⟩
theorem Rep.lo (H:Rep g σ c):41<=σ.next:=H.nZ (r:=40) rfl
theorem Ev.b9 (H:Rep g σ c) (hl:l .ae=some (.ref 27)) {x v} (hf:lF (lX c) x=some v) (hk:fieldOf .ak x=true):Ev l σ (.attr (.nm .ae) x) v:=Ev.attr (Ev.nm hl) H.b9 hf hk
theorem Ev.ji (H:Rep g σ c) (hl:l .ae=some (.ref 27)) {x r d k y v n K} (hf:lF (lX c) x=some (.ref r)) (hk:fieldOf .ak x=true) (hr:σ.get r=some (.dict d)) (hd:eR K d) (hK:∀x∈K,x.kind=some n) (h:Ev l σ k y) (e:ag d y=some v):
 Ev l σ (.sub (.attr (.nm .ae) x) k) v:=Ev.sub (Ev.b9 H hl hf hk) h (nG hr (hd.key hK (hd.mem e)) e)
end
structure Wf (g:Cfg) (c:aS):Prop where
 root:eR g.T c.root
 xc:∀t∈g.T,∃r∈g.T,ag c.root t=some r
 dk:∀k,eR g.T (c.dk k)
 val:eR g.T c.val
 pY:∀t∈g.T,ag c.val t=some (.int 0)
 up:eR g.T c.up
 FV:∀t v,ag c.up t=some v->∃p w,v=V.tup [p,w]/\p∈g.T
 table:∃K,eR K c.table/\K.length<=100/\∀t∈g.Ap,∀r∈g.T,V.tup [g.dat t,r]∈K
 pk:∀p∈c.table,p.1.kind=some 2
 kZ:∀k v,ag c.table k=some v->v∈g.Ap
 L0:∀t∈g.T,∀x∈c.L 0 t,x∈g.T
 L1:∀t∈g.T,∀x∈c.L 1 t,x∈g.Ap
 Ll:∀k,∀t∈g.T,(c.L k t).length<=8
 L2:∀k,2<=k->∀t∈g.T,c.L k t=[]
theorem Pre.pZ {g:Cfg}{c:aS} (W:Wf g c) {a l b} (h:Pre (ag c.up) a l b) (ha:a∈g.T):b∈g.T/\∀e∈l,e.1∈g.T/\e.2.1∈g.T:=by
 induction h with
 | nil=>exact ⟨ha,nofun⟩
 | @cons a p w l b e _ ih=>
  refine eQ (W.FV _ _ e) λp' w' e' hp=>aU (dK e') λz1 z2=>?_;clear e';subst z1
  exact ⟨(ih hp).1,λx hx=>(List.mem_cons.mp hx).elim (λq=>aa q ⟨ha,hp⟩) ((ih hp).2 x)⟩
theorem Pre.short {g:Cfg}{c:aS} (W:Wf g c) (G:aP g) {a l b} (h:Pre (ag c.up) a l b) (ha:a∈g.T) (hb:ag c.up b=none):l.length<=8:=by
 have:=dW (h.nodup hb).1 (m:=g.T) λx hx=>by
  exact aN (List.mem_map.mp hx) λe he z1=>aR z1 ((h.pZ W ha).2 e he).1
 rw [UD] at this
 exact Ut this G.len
noncomputable def Mr (e:Ed):V:=V.tup [e.1,V.tup [e.2.1,e.2.2]]
theorem Pre.inv {up:Up}{y t:V}{l:List Ed}{P:Prop} (h:Pre up y l t) (h0:l=[]->y=t->P) (h1:∀p w m,l=(y,p,w)::m->up y=some (V.tup [p,w])->Pre up p m t->P):P:=by
 cases h with
 | nil=>exact h0 rfl rfl
 | cons e k=>exact h1 _ _ _ rfl e k
structure R7 (σ:St) (c:aS) (ch:List Ed) (t:V) (T:List V) (x:List Ed×List Ed×V) (l:Loc) (σ':St):Prop where
 ch:x.1++x.2.1=ch
 pre:Pre (ag c.up) x.2.2 x.2.1 t
 pZ:x.2.2∈T
 l1:l .ae=some (.ref 27)
 l2:l .aV=some x.2.2
 l3:l .jV=some (.ref σ.next)
 ext:Ext σ σ'
 lt:σ.next<σ'.next
 at_:σ'.get σ.next=some (.list (x.1.map Mr))
structure P5 (g:Cfg) (σ:St) (c:aS) (ch:List Ed) (t:V) (f:List (V×V)->Ed->List (V×V)) (d0:List (V×V)) (N:List Ed->List (V×V)->Prop) (d:List (V×V)) (es:List Ed) (l:Loc) (σ':St):Prop where
 fold:es.foldl f d=d0
 sub:∀e∈es,e∈ch
 N:N es d
 dk:eR g.T d
 l1:l .ae=some (.ref 27)
 l2:l .aV=some t
 l3:l .jV=some (.ref σ.next)
 go:Go g σ c σ' {c with up:=d}
 at_:σ'.get σ.next=some (.list (ch.map Mr))
section
variable {g:Cfg}{σ:St}{c:aS}{n:Nat}{Q:K1 V}
theorem bB {σ:St}{r xs} (h:σ.get r=some (.list xs)):cG σ (.ref r)=some (xs,.obj r (.list xs)):=zB h
theorem xd (G:aP g) (H:Rep g σ c) (W:Wf g c) {x t:V}{ch:List Ed} (h:Pre (ag c.up) x ch t) (ht:ag c.up t=none) (hx:x∈g.T)
 (q:∀σ',Go g σ c σ' {c with up:=bR c.up ch}->Q t σ'):aE aH (n+1) .gR [.ref 27,x] σ Q:=by
 refine bH rfl rfl (jb rfl (bS w9.nil ((U3 _)) (a6 (Ev.nm rfl) ?_)))
 have hT:=(h.pZ W hx).2
 have hlen:=h.short W G hx ht
 have P6:σ.next≠34:=Vj (H.nZ rfl)
 refine dJ (λx=>x.2.1.length) (R7 σ c ch t g.T) ([],ch,x) (Vk hlen ((Ui rfl))) ⟨rfl,h,hx,rfl,rfl,rfl,Ext.push,Uw _,ao⟩ ?_
 intro x l' σ' K I K1
 have H':=H.ext I.ext
 have hk:=W.up.key G.kind I.pZ
 refine I.pre.inv (λe1 e2=>?_) λp w m e1 e hp=>?_
 ·refine a6 (Ev.cmp (Ev.nm I.l2) (Ev.b9 H' I.l1 rfl rfl) (vW H'.up hk (aR e2.symm ht))) ?_
  have e3:x.1=ch:=by have:=I.ch;rwa [e1,U6] at this
  refine ig Mr (P5 g σ c ch t (λd e=>ej d e.1) (ch.foldl (λd e=>ej d e.1) c.up) λes d=>(es.map (·.1)).Nodup/\∀e∈es,(ag d e.1).isSome=true) c.up
   (Ev.nm I.l3) (bB (e3▸I.at_)) ⟨rfl,λU h=>h,⟨(h.nodup ht).1,λe he=>congrArg _ (h.mem e he)⟩,W.up,I.l1,aR e2 I.l2,I.l3,(Go.refl H).ext I.ext,e3▸I.at_⟩ ?_ ?_
  ·refine λd l' σ' J=>⟨decide_eq_true J.at_,?_⟩
   refine ig Mr (P5 g σ c ch t (λd e=>dput d e.2.1 (V.tup [e.1,e.2.2])) (bR c.up ch) λU U=>True) d
    (Ev.nm J.l3) (bB J.at_) ⟨congrArg (ch.foldl (λd e=>dput d e.2.1 (V.tup [e.1,e.2.2]))) J.fold,λU h=>h,trivial,J.dk,J.l1,J.l2,J.l3,J.go,J.at_⟩ ?_ ?_
   ·exact λd l' σ' J=>⟨decide_eq_true J.at_,ek (Ev.nm J.l2) (q _ (aR J.fold J.go))⟩
   ·refine λd e es l' σ' K J K1=>⟨decide_eq_true J.at_,_,rfl,?_⟩
    have he:=(hT e (J.sub e (Ur))).2
    exact cC (Ev.tup (.cons (Ev.nm rfl) (.cons (Ev.sub (Ev.nm rfl) Ev.int rfl) .nil)) (Ui rfl)) (Ev.b9 J.go.1 J.l1 rfl rfl) (Ev.sub (Ev.nm rfl) Ev.int rfl) J.go.1.up (J.dk.key G.kind he) (J.dk.lim (Ut G.len ((Ui rfl)))) (K1 _ _ _ ⟨J.fold,λx hx=>J.sub x (Uy _ hx),trivial,J.dk.put he,J.l1,J.l2,J.l3,J.go.up _,(bl P6).trans J.at_⟩)
  ·refine λd e es l' σ' K J K1=>⟨decide_eq_true J.at_,_,rfl,?_⟩
   have hn:=List.nodup_cons.mp J.N.1
   exact mP (Ev.b9 J.go.1 J.l1 rfl rfl) (Ev.nm rfl) J.go.1.up (J.dk.key G.kind (hT e (J.sub e (by simp))).1) (J.N.2 e (by simp)) (K1 _ _ _ ⟨J.fold,λx hx=>J.sub x (Uy _ hx),⟨hn.2,λx hx=>aa fC (aa (if_neg λq=>hn.1 (List.mem_map.mpr (i12 x hx q.symm))) (J.N.2 x (Uy _ hx)))⟩,J.dk.del,J.l1,J.l2,J.l3,J.go.up _,(bl P6).trans J.at_⟩)
 ·refine a6 (Ev.cmp (Ev.nm I.l2) (Ev.b9 H' I.l1 rfl rfl) (vV H'.up hk e)) (dT (Ev.ji (x:=.hS) H' I.l1 rfl rfl H'.up W.up G.kind (Ev.nm I.l2) e) ?_)
  have hc:ch=x.1++(x.2.2,p,w)::m:=(I.ch.symm.trans (congrArg _ e1))
  refine b8 (a5 (Ev.nm I.l3) I.at_ (Ev.tup (.cons (Ev.nm I.l2) (.cons (Ev.nm rfl) .nil)) (Ui rfl)) (lim (by rw [hc] at hlen;simp at hlen ⊢;exact aJ (Y2 _ _) Z0 (.n 1000) (.a Z0 (.s Z1)) (.n 8) hlen rfl)) (dT (Ev.sub (Ev.nm rfl) Ev.int rfl) (K1 (x.1++ [(x.2.2,p,w)],m,p) _ _ (aa e1 (Uw _)) ⟨by simp [hc],hp,(hT (x.2.2,p,w) (by simp [hc])).2,I.l1,rfl,I.l3,I.ext.set (Ux _),I.lt,?_⟩)))
  exact aa UJ cY
end
end
end Mine.Internal.R
namespace Mine.Internal.R
noncomputable section
section
variable {l:Loc}{σ:St}{C:Fn->List V->St->K1 V->Prop}{Q:K1 V}{R:Fl->Loc->St->Prop}
theorem cN {r xs} (h:σ.get r=some (.list xs)):i9 σ (.ref r)=some xs.length:=by simp only [i9,h]
theorem BE {k v kv vv} (h:Ev l σ k kv) (h':Ev l σ v vv) (hk:keyOk [] kv=true) (q:Q (.ref σ.next) (σ.push (.dict [(kv,vv)]))):aK C (.dict (.cons k v .nil)) l σ Q:=
 h C _ (h' C _ (ah (a:=[(kv,vv)]) (by simp [putAll,hk,dput]) (bP (Ui rfl) q)))
theorem D5 {e} (h:aK C e l σ λv σ=>Q (V.tup [v]) σ):aK C (.tup (.cons e .nil)) l σ Q:=h
theorem il {op a b} (h:aK C a l σ λva σ=>aK C b l σ λvb σ=>xO op va vb σ Q):aK C (.bin op a b) l σ Q:=h
theorem BF {e r} (h:aK C e l σ λv σ=>R (.ret v) l σ):aG C (.cons (.ret e) r) l σ R:=h
theorem xe {r1 r2 p q} (h1:σ.get r1=some (.list p)) (h2:σ.get r2=some (.list q)) (hl:p.length+q.length<=dj) (k:Q (.ref σ.next) (σ.push (.list (p++q)))):xO .add (.ref r1) (.ref r2) σ Q:=
 aq rfl (ah (a:=(r1,p)) (aZ h1) (ah (a:=(r2,q)) (aZ h2) (bP hl k)))
end
theorem fS {n:Nat} (h:n<=1000):n<=dj:=Ut h ((Ui rfl))
theorem Pre.line {up:Up}{a l t} (h:Pre up a l t):a::l.map (·.2.1)=l.map (·.1)++ [t]:=by
 induction h with
 | nil=>rfl
 | cons e _ ih=>refine aa UX (aa ih ?_);rfl
theorem Pre.take {up:Up}{a l t} (h:Pre up a l t):∀ {k m},(a::l.map (·.2.1))[k]? =some m->Pre up a (l.take k) m:=by
 induction h with
 | nil=>intro k m hk;cases k with
  | zero=>injection hk with z0;subst z0;exact .nil
  | succ k=>contradiction
 | cons e _ ih=>intro k m hk;cases k with
  | zero=>injection hk with z0;subst z0;exact .nil
  | succ k=>exact .cons e (ih hk)
structure R8 (σ:St) (c:aS) (a:V) (ch:List Ed) (t:V) (T:List V) (x:List Ed×List Ed×V×List (V×V)) (l:Loc) (σ':St):Prop where
 ch:x.1++x.2.1=ch
 pre:Pre (ag c.up) x.2.2.1 x.2.1 t
 pZ:x.2.2.1∈T
 l1:l .ae=some (.ref 27)
 l2:l .aV=some x.2.2.1
 l3:l .mE=some (.ref σ.next)
 l4:l .jZ=some (.ref (σ.next+1))
 l5:∀v,l .mD=some v->True
 ext:Ext σ σ'
 lt:σ.next+1<σ'.next
 at_:σ'.get σ.next=some (.list (a::x.1.map (·.2.1)))
 HB:σ'.get (σ.next+1)=some (.dict x.2.2.2)
 dk:eR T x.2.2.2
 s1:∀(k:Nat) z,(a::x.1.map (·.2.1))[k]? =some z->ag x.2.2.2 z=some (.int (k:Int))
 s2:∀z,z∉a::x.1.map (·.2.1)->ag x.2.2.2 z=none
structure R9 (σ:St) (c:aS) (b:V) (cb:List Ed) (t:V) (T:List V) (line:List V) (ds:List (V×V)) (r:Nat) (x:List Ed×List Ed×V) (l:Loc) (σ':St):Prop where
 ch:x.1++x.2.1=cb
 pre:Pre (ag c.up) x.2.2 x.2.1 t
 P7:Pre (ag c.up) b x.1 x.2.2
 pZ:x.2.2∈T
 off:∀e∈x.1,e.1∉line
 l1:l .ae=some (.ref 27)
 l2:l .aV=some x.2.2
 l3:l .mE=some (.ref σ.next)
 l4:l .jZ=some (.ref (σ.next+1))
 l5:l .rk=some (.ref r)
 ext:Ext σ σ'
 lt:r<σ'.next
 at_:σ'.get σ.next=some (.list line)
 HB:σ'.get (σ.next+1)=some (.dict ds)
 P8:σ'.get r=some (.list (x.1.map (·.1)))
section
variable {g:Cfg}{σ:St}{c:aS}{n:Nat}{Q:K1 V}
end
def BG (g:Cfg) (σ:St) (c:aS) (n:Nat) (Q:K1 V) (a:V) (b:V) (t:V) (ch:List Ed) (cb:List Ed):Prop:=∀(G:aP g) (H:Rep g σ c) (W:Wf g c) (ha:Pre (ag c.up) a ch t) (hb:Pre (ag c.up) b cb t) (ht:ag c.up t=none) (hx:a∈g.T) (hy:b∈g.T) (q:∀σ' r l1 l2 m,Ext σ σ'->r<σ'.next->σ'.get r=some (.list ((l1++l2).map (·.1)))->Pre (ag c.up) a l1 m->Pre (ag c.up) b l2 m->m∉(l1++l2).map (·.1)->((l1++l2).map (·.1)).Nodup->Q (.ref r) σ'),aE aH (n+1) .cF [.ref 27,a,b] σ Q
noncomputable abbrev BH:=Cfg×St×aS×Nat×(K1 V)×V×V×V×(List Ed)×(List Ed)
def BI (c:BH):Prop:=BG c.1 c.2.1 c.2.2.1 c.2.2.2.1 c.2.2.2.2.1 c.2.2.2.2.2.1 c.2.2.2.2.2.2.1 c.2.2.2.2.2.2.2.1 c.2.2.2.2.2.2.2.2.1 c.2.2.2.2.2.2.2.2.2
noncomputable def iq:BH:=ep (⟨[],[],λU=>.none,λU=>.none,[],[],[]⟩,⟨0,λU=>none⟩,⟨[],[],λU=>[],[],[],[],[],[],0,0,0,λU=>.none,λU U=>[]⟩,0,(λU U=>True),.none,.none,.none,[],[]) BI
namespace FW
@[irreducible] def g:Cfg:=iq.1
@[irreducible] def σ:St:=iq.2.1
@[irreducible] def c:aS:=iq.2.2.1
@[irreducible] def n:Nat:=iq.2.2.2.1
@[irreducible] def Q:K1 V:=iq.2.2.2.2.1
@[irreducible] def a:V:=iq.2.2.2.2.2.1
@[irreducible] def b:V:=iq.2.2.2.2.2.2.1
@[irreducible] def t:V:=iq.2.2.2.2.2.2.2.1
@[irreducible] def ch:List Ed:=iq.2.2.2.2.2.2.2.2.1
@[irreducible] def cb:List Ed:=iq.2.2.2.2.2.2.2.2.2
theorem u2:BG g σ c n Q a b t ch cb:=by
 refine λG H W ha hb ht hx hy q=>bH rfl rfl (KW rfl (bS (.cons (Ev.nm rfl) .nil) (Ui rfl) (BE (Ev.nm rfl) Ev.int (eR.nil.key G.kind hx) (a6 (Ev.nm rfl) ?_))))
 have hlen:=ha.short W G hx ht
 have t6:=hb.short W G hy ht
 have CJ:(a::ch.map (·.2.1)).Nodup:=List.nodup_cons.mpr ⟨λh=>(List.mem_map.mp h).elim λe he=>ha.start ht e he.1 he.2,(ha.nodup ht).2⟩
 refine dJ (λx=>x.2.1.length) (λx l σ'=>R8 σ c a ch t g.T x l σ'/\l .mD=some b) ([],ch,a,[(a,.int 0)]) (Vk hlen (by decide))
  ⟨⟨rfl,ha,hx,rfl,rfl,rfl,rfl,λU U=>trivial,Ext.push.trans Ext.push,Uw _,(aX (Uw _)).trans ao,ao,⟨λp hp=>aa (List.mem_singleton.mp hp) hx,(of_decide_eq_true rfl)⟩,
    λk z h=>?_,λz h=>?_⟩,rfl⟩ ?_
 ·cases k with
  | zero=>cases h;exact bh.trans (if_pos rfl)
  | succ k=>cases h
 ·exact bh.trans (if_neg λq=>h (aR (show a=z from q) Ur))
 intro x l' σ' K I K1
 have Av:=I.2
 replace I:=I.1
 have H':=H.ext I.ext
 have hk:=W.up.key G.kind I.pZ
 refine I.pre.inv (λe1 e2=>?_) λp w m e1 e hp=>?_
 ·refine a6 (Ev.cmp (Ev.nm I.l2) (Ev.b9 H' I.l1 rfl rfl) (vW H'.up hk (aR e2.symm ht))) ?_
  have e3:x.1=ch:=by have:=I.ch;rwa [e1,U6] at this
  refine jb rfl (bS w9.nil ((Ui rfl)) (a6 (Ev.nm Av) ?_))
  have tl:t∈a::ch.map (·.2.1):=by refine aa ha.line ?_;simp
  have at_:=I.at_;replace at_:=e3▸at_
  have s2:=I.s2;replace s2:=e3▸s2
  have lt:=I.lt
  refine dJ (λx=>x.2.1.length) (R9 σ c b cb t g.T (a::ch.map (·.2.1)) x.2.2.2 σ'.next) ([],cb,b) (Vk t6 (by decide))
   ⟨rfl,hb,.nil,hy,nofun,I.l1,rfl,I.l3,I.l4,rfl,I.ext.trans Ext.push,Uw _,(aX (aJ (Y2 _ _) (.s Z0) Z1 (.s (.s Z0)) Z1 lt rfl)).trans at_,(aX lt).trans I.HB,ao⟩ ?_
  intro y l' bU K J K1
  have H':=H.ext J.ext
  by_cases KX:y.2.2∈a::ch.map (·.2.1)
  ·obtain ⟨k,hk,hg⟩:=List.mem_iff_getElem.mp KX
   have tM:(a::ch.map (·.2.1))[k]? =some y.2.2:=by exact (U0 hk).trans (congrArg _ hg)
   have P9:=I.s1 k y.2.2 (aa e3 tM)
   have Ua:k<=8:=by simp at hk;exact aJ (Y2 _ _) Z0 (.n 8) (.a Z1 (.s Z0)) (.a (.n 8) (.s Z1)) (Uq hlen hk) rfl
   have P':k<=ch.length:=by simp at hk;exact aJ (Y2 _ _) Z0 Z1 (.s Z0) (.s Z1) hk rfl
   refine a6 (Ev.cmp (Ev.nm J.l2) (Ev.nm J.l4) (j6 J.HB (I.dk.key G.kind J.pZ) P9)) (fA (k:=k) (Ev.nm J.l3) J.at_ (Ev.sub (Ev.nm J.l4) (Ev.nm J.l2) (nG J.HB (I.dk.key G.kind J.pZ) P9)) (fS (aJ (Y2 _ _) Z0 (.n 1000) (.a Z1 Z0) (.a (.n 8) Z1) (Uq hlen P') rfl)) (fS (by simp;exact aJ (Y1 _) Z0 (.n 999) Z0 (.n 8) hlen rfl)) (a6 (Ev.nm J.l5) ?_))
   have Sa:y.1.length<=8:=by have:=congrArg VA J.ch;simp at this;exact aJ (Y3 _ _ _) Z0 (.n 8) (.a Z1 (.a Z0 Z2)) (.a (.n 8) Z1) (Uq t6 (UI this)) rfl
   have tk:(a::ch.map (·.2.1)).take k=(ch.take k).map (·.1):=by exact aa ha.line ((List.take_append_of_le_length (by simpa using P')).trans (List.map_take.symm))
   refine xe (p:=(a::ch.map (·.2.1)).take k) ao ((aX J.lt).trans J.P8) (fS (by simp;exact aJ (Y3 _ _ _) (.a Z0 Z1) (.n 1000) (.a (.a Z2 Z1) Z0) (.a (.a (.n 8) (.n 8)) (.s Z2)) (Uq (Uq hlen Sa) (WT _ _)) rfl)) ?_
   refine aa tk (aR UJ ?_)
   have Mj:∀z∈(ch.take k).map (·.1),z∈a::ch.map (·.2.1)/\z≠y.2.2:=λz hz=>by
    replace hz:=(tk).symm▸hz
    refine ⟨WY hz,λq=>?_⟩
    obtain ⟨i,hi,hz⟩:=List.mem_take_iff_getElem.mp hz
    exact Gl (Y3 _ _ _) (.a (.a (.s Z1) Z0) Z2) (.a (.a Z2 Z1) Z0) (Uq (Uq hi (UI ((XW CJ).mp ((hz.trans q).trans hg.symm)).symm)) (Wu _ _)) rfl
   refine q _ _ (ch.take k) y.1 y.2.2 (J.ext.trans (Ext.push.trans Ext.push)) (Uw _) ao (ha.take tM) J.P7 ?_ ?_
   ·refine aa UJ (gL VZ ?_)
    rintro (h | h)
    ·exact (Mj _ h).2 rfl
    ·exact aN (List.mem_map.mp h) λe he h=>J.off e he (aa h KX)
   ·refine aa UJ (gL U2 (fc (aR tk (CJ.sublist (List.take_sublist _ _))) ?_ (λz hz w hw q=>?_)))
    ·have:=(hb.nodup ht).1
     rw [← J.ch,UJ,U2] at this
     exact this.1
    ·exact aN (List.mem_map.mp hw) λe he h=>J.off e he (by exact aa h (aR q ((Mj z hz).1)))
  ·refine a6 (Ev.cmp (Ev.nm J.l2) (Ev.nm J.l4) (l7 J.HB (I.dk.key G.kind J.pZ) (s2 _ KX))) (J.pre.inv (λU e2=>absurd (aa e2 tl) KX) λp w m e1 e hp=>?_)
   have hc:cb=y.1++(y.2.2,p,w)::m:=by exact aR J.ch (aa e1 rfl)
   refine b8 (a5 (Ev.nm J.l5) J.P8 (Ev.nm J.l2) (lim (by rw [hc] at t6;simp at t6 ⊢;exact aJ (Y2 _ _) Z0 (.n 1000) (.a Z0 (.s Z1)) (.n 8) t6 rfl)) ?_)
   have E2:=J.ext.set (o:=.list (y.1.map (·.1)++ [y.2.2])) I.ext.le
   refine dT (Ev.sub (Ev.ji (x:=.hS) (H.ext E2) J.l1 rfl rfl (H.ext E2).up W.up G.kind (Ev.nm J.l2) e) Ev.int rfl) ?_
   refine K1 (y.1++ [(y.2.2,p,w)],m,p) _ _ (aa e1 (Uw _))
    ⟨by simp [hc],hp,J.P7.trans (.cons e .nil),((hb.pZ W hy).2 (y.2.2,p,w) (by simp [hc])).2,λz hz=>?_,J.l1,rfl,J.l3,J.l4,J.l5,E2,J.lt,(bl (UZ (aJ (Y2 _ _) (.s Z0) Z1 (.s (.s Z0)) Z1 lt rfl))).trans J.at_,(bl (UZ (aJ (Y2 _ _) (.s (.s Z0)) Z1 (.s (.s Z0)) Z1 lt rfl))).trans J.HB,?_⟩
   ·refine (List.mem_append.mp hz).elim (λh=>?_) λh=>?_
    ·exact J.off z h
    ·exact aa (List.mem_singleton.mp h) KX
   ·exact aa UJ cY
 ·have hc:ch=x.1++(x.2.2.1,p,w)::m:=by exact aR I.ch (aa e1 rfl)
  have Og:=(((ha.pZ W hx).2) (x.2.2.1,p,w) (by simp [hc])).2
  refine a6 (Ev.cmp (Ev.nm I.l2) (Ev.b9 H' I.l1 rfl rfl) (vV H'.up hk e)) (dT (Ev.sub (Ev.ji (x:=.hS) H' I.l1 rfl rfl H'.up W.up G.kind (Ev.nm I.l2) e) Ev.int rfl) ?_)
  have lt:=I.lt
  have Qa:σ.next≠σ.next+1:=UZ (uO (Y1 _) (.s Z0) (.s Z0) rfl)
  refine cC (Ev.len (Ev.nm I.l3) (cN I.at_)) (Ev.nm I.l4) (Ev.nm rfl) I.HB (I.dk.key G.kind Og) (I.dk.lim (Ut G.len (by decide))) (b8 (a5 (Ev.nm I.l3) ((bl Qa).trans I.at_) (Ev.nm rfl) (lim (by rw [hc] at hlen;simp at hlen ⊢;exact aJ (Y2 _ _) Z0 (.n 999) (.a Z0 (.s Z1)) (.n 8) hlen rfl)) ?_))
  have HC:p∉a::x.1.map (·.2.1):=λh=>by
   rw [hc,UJ,← XX,U2] at CJ
   exact CJ.2.2 p h p (by simp) rfl
  have hm:∀ {z},z∈a::YM (·.2.1) (x.1++ [(x.2.2.1,p,w)])↔z∈a::x.1.map (·.2.1)\/z=p:=λ{z}=>by
   refine aa UJ (aR XX (gL VZ ?_));simp
  refine K1 (x.1++ [(x.2.2.1,p,w)],m,p,_) _ _ (aa e1 (Uw _))
   ⟨⟨by simp [hc],hp,Og,I.l1,rfl,I.l3,I.l4,λU U=>trivial,(I.ext.set (r:=σ.next+1) (o:=.dict (dput x.2.2.2 p (.int (x.1.map (·.2.1)).length.succ))) (uO (Y1 _) Z0 (.s Z0) rfl)).set (Ux _),I.lt,?_,(bl Qa.symm).trans cY,I.dk.put Og,λk z h=>?_,λz h=>?_⟩,Av⟩
  ·exact aa UJ cY
  ·rw [UJ,← XX] at h
   refine aa aO ?_
   by_cases hk:k<(a::x.1.map (·.2.1)).length
   ·replace h:=(Zy hk)▸h
    exact aa (if_neg λq=>HC (by exact aa q (Wa h))) (I.s1 k z h)
   ·replace h:=(Xt (WU hk))▸h
    cases hq:k - (a::x.1.map (·.2.1)).length with
    | zero=>
     replace h:=hq▸h
     refine aa (if_pos (Uu h)) ?_
     simp only [Vm] at hk hq ⊢
     have:k=(x.1.map (·.2.1)).length+1:=by lia
     exact aa this rfl
    | succ j=>rw [hq] at h;cases h
  ·rw [hm,not_or] at h
   exact aa aO (aa (if_neg λq=>h.2 q.symm) (I.s2 z h.1))
end FW
section
variable {g:Cfg}{σ:St}{c:aS}{n:Nat}{Q:K1 V}
theorem KY (G:aP g) (H:Rep g σ c) (W:Wf g c) {a b t:V}{ch cb:List Ed} (ha:Pre (ag c.up) a ch t) (hb:Pre (ag c.up) b cb t) (ht:ag c.up t=none) (hx:a∈g.T) (hy:b∈g.T) (q:∀σ' r l1 l2 m,Ext σ σ'->r<σ'.next->σ'.get r=some (.list ((l1++l2).map (·.1)))->Pre (ag c.up) a l1 m->Pre (ag c.up) b l2 m->m∉(l1++l2).map (·.1)->((l1++l2).map (·.1)).Nodup->Q (.ref r) σ'):aE aH (n+1) .cF [.ref 27,a,b] σ Q:=
 iK (P:=BI) (by with_unfolding_all exact FW.u2) (g,σ,c,n,Q,a,b,t,ch,cb) G H W ha hb ht hx hy q
end
end
end Mine.Internal.R
namespace Mine.Internal.R
noncomputable section
noncomputable def k7:V:=.str [116,97,98,108,101]
noncomputable def mU:V:=.str [97,114,103,117,109,101,110,116,115]
noncomputable def rt (c:aS) (t:V):V:=(ag c.root t).getD .none
noncomputable def sgn (g:Cfg) (c:aS) (t:V):V:=V.tup [g.dat t,rt c (g.arg t)]
noncomputable def dU (g:Cfg) (c:aS) (t:V):aS:=if ag c.table (sgn g c t)=some t then {c with trail:=c.trail++ [V.tup [k7,sgn g c t,t]],table:=ej c.table (sgn g c t)} else c
noncomputable def dY (g:Cfg) (c:aS) (t:V):aS:=match ag c.table (sgn g c t) with
 | none=>{c with trail:=c.trail++ [V.tup [k7,sgn g c t,.none]],table:=dput c.table (sgn g c t) t}
 | some o=>if rt c o=rt c t then c else {c with queue:=c.queue++ [V.tup [t,o,mU]]}
theorem vX {C l σ e t i v vs gd}{f:V->V}{Q:K1 V} (h:∀Q,Q v σ->aK C i l σ Q) (hs:cG σ v=some (vs,gd)) (hg:gd.ok σ=true) (hl:vs.length<=1000)
 (he:∀x∈vs,∃l',kB t x l=some l'/\Ev l' σ e (f x)) (q:Q (V.tup (vs.map f)) (σ.push (.list (vs.map f)))):aK C (.fo (.of (.comp e t (.of i) .nil))) l σ Q:=
 sq (Q:=λv σ=>aC (cG σ v) λp=>ei (p.2.ok σ&&decide (p.1.length<=1000)) (Q (V.tup p.1) σ)) h hs hg (fS hl) he
  (ah (bB ao) (aq (by simp only [Gd.ok,ao,UD];exact decide_eq_true hl) q))
theorem Ev.l9 {l σ a} (h:Ev l σ a .none):Ev l σ (.isNone a) (.bool true):=λC Q q=>h C _ q
theorem Ev.t7 {l σ a v} (h:Ev l σ a v) (hv:decide (v=.none)=false):Ev l σ (.isNone a) (.bool false):=λC Q q=>h C _ (by rw [hv];exact q)
section
variable {g:Cfg}{σ:St}{c:aS}{n:Nat}{Q:K1 V}
theorem n5 {t} (h:ag c.table (sgn g c t)=none):dY g c t={c with trail:=c.trail++ [V.tup [k7,sgn g c t,.none]],table:=dput c.table (sgn g c t) t}:=by delta dY;exact aa h rfl
theorem n6 {t o} (h:ag c.table (sgn g c t)=some o):dY g c t=if rt c o=rt c t then c else {c with queue:=c.queue++ [V.tup [t,o,mU]]}:=by delta dY;exact aa h rfl
theorem Wf.rt (W:Wf g c) {t:V} (h:t∈g.T):ag c.root t=some (rt c t)/\rt c t∈g.T:=by
 refine aN (W.xc t h) λr h1 h2=>?_
 delta Mine.Internal.R.rt;exact aa h2 ⟨rfl,h1⟩
theorem D6 {t v} (H:Rep g σ c) (h:subAt σ (.ref 13) t=some v) (q:Q v σ):aE aH (n+1) .ng [.ref 4,t] σ Q:=
 bH rfl rfl (ek (Ev.sub (Ev.attr (Ev.nm rfl) H.ij rfl rfl) (Ev.nm rfl) h) q)
theorem xf {t v} (H:Rep g σ c) (h:subAt σ (.ref 11) t=some v) (q:Q v σ):aE aH (n+1) .nf [.ref 4,t] σ Q:=
 bH rfl rfl (ek (Ev.sub (Ev.attr (Ev.nm rfl) H.ij rfl rfl) (Ev.nm rfl) h) q)
theorem BJ (G:aP g) (H:Rep g σ c) (W:Wf g c) {t:V} (ht:t∈g.Ap) (q:∀σ',Ext σ σ'->Q (sgn g c t) σ'):aE aH (n+2) .eU [.ref 27,t] σ Q:=by
 obtain ⟨hT,hA,hD,i,hi,ha,hd⟩:=G.ap t ht
 refine bH rfl rfl (BF (il (D5 (aF (Ev.b9 H rfl rfl rfl) H.ij rfl (.cons (Ev.nm rfl) .nil) (D6 H ((congrArg (subAt σ (.ref 13)) hi).trans (fW H.iA hd)) (vX (v:=V.tup [g.arg t]) (vs:=[g.arg t]) (gd:=.free) (f:=λx=>rt c x) (λQ q=>?_) rfl rfl (Ui rfl) (λx hx=>?_) ?_))))))
 ·exact aF (Ev.b9 H rfl rfl rfl) H.ij rfl (.cons (Ev.nm rfl) .nil) (xf H ((congrArg (subAt σ (.ref 11)) hi).trans (fW H.dX ha)) q)
 ·exact aa (List.mem_singleton.mp hx) (i12 _ rfl (Ev.ji (x:=.a9) H rfl rfl rfl H.root W.root G.kind (Ev.nm rfl) (W.rt hA).1))
 ·exact aq rfl (ah rfl (ah rfl (aq rfl (q _ Ext.push))))
theorem Wf.D7 (W:Wf g c) (G:aP g) {t:V} (ht:t∈g.Ap):keyOk c.table (sgn g c t)=true:=by
 refine CQ (G.ap t ht) λhT hA z1 U=>bb z1 λj hD=>bb (G.int _ (W.rt hA).2) λi hi=>?_
 have hk:(sgn g c t).kind=some 2:=by delta sgn;refine w2 hD hi ?_;rfl
 delta keyOk
 refine aa hk ?_
 cases h:c.table with
 | nil=>rfl
 | cons p d=>exact decide_eq_true (W.pk p (aa h Ur))
theorem Wf.KZ (W:Wf g c):c.table.length+1<=dj:=W.table.elim λK h=>h.1.lim h.2.1
theorem D8 (G:aP g) (H:Rep g σ c) (W:Wf g c) {t:V} (ht:t∈g.Ap) (hl:c.trail.length<=1000000) (q:∀σ',Go g σ c σ' (dU g c t)->Q .none σ'):aE aH (n+3) .fm [.ref 27,t] σ Q:=by
 refine bH rfl rfl (aF (Ev.nm rfl) H.b9 rfl (.cons (Ev.nm rfl) .nil) (BJ G H W ht λσ' hE=>?_))
 have H':=H.ext hE
 refine bb (G.int t (G.ap t ht).1) λi hi=>?_
 have key:∀o,(∀v,o=some v->v∈g.Ap)->hV σ' .eq (o.getD .none) t=some (decide (o=some t)):=λo ho=>by
  cases o with
  | none=>exact (congrArg (xM σ' .none) hi).trans KV
  | some v=>exact (t5 (G.int v (G.ap v (ho v rfl)).1) ⟨i,hi⟩).trans (congrArg some (decide_eq_decide.mpr ⟨congrArg some,Uu⟩))
 refine nE (Ev.cmp (Ev.oA (Ev.b9 H' rfl rfl rfl) H'.table (Ev.nm rfl) (W.D7 G ht)) (Ev.nm rfl) (key _ λv hv=>W.kZ _ v hv)) (λhb=>?_) λhb=>?_
 ·have hb:=of_decide_eq_true hb
  refine b8 (a5 (Ev.b9 H' rfl rfl rfl) H'.trail (Ev.tup (.cons Ev.str (.cons (Ev.nm rfl) (.cons (Ev.nm rfl) .nil))) (Ui rfl)) (Ut (Vn hl) ((Ui rfl))) ?_)
  have H2:=H'.sr (c.trail++ [V.tup [k7,sgn g c t,t]])
  refine mP (Ev.b9 H2 rfl rfl rfl) (Ev.nm rfl) H2.table (W.D7 G ht) (congrArg _ hb) (q _ ?_)
  delta dU
  exact aa (if_pos hb) ((((Go.refl H).ext hE).trail _).table _)
 ·refine q _ ?_
  delta dU
  exact aa (if_neg (of_decide_eq_false hb)) ((Go.refl H).ext hE)
theorem Go.queue {σ' c'} (h:Go g σ c σ' c') (d):Go g σ c (σ'.set c'.q (.list d)) {c' with queue:=d}:=by
 have hr:c'.role c'.q≠.none/\c'.role c'.q≠.fix:=by exact aa h.1.rq ⟨nofun,nofun⟩
 refine ⟨h.1.BA hr rfl (bG (c:={c' with queue:=d}) h.1.rq) λr hn=>?_,h.2.trans (h.1.DY hr.1 λr h=>h)⟩
 rw [h.1.rq] at hn
 delta iB
 cases hq:c'.role r<;>first | rfl | exact absurd hq hn
theorem Rep.queue (H:Rep g σ c):σ.get c.q=some (.list c.queue):=H.dyn _ _ (bG H.rq)
theorem xg (G:aP g) (H:Rep g σ c) (W:Wf g c) {t:V} (ht:t∈g.Ap) (hl:c.trail.length<=1000000) (hq:c.queue.length<=1000) (q:∀σ',Go g σ c σ' (dY g c t)->Q .none σ'):aE aH (n+3) .fH [.ref 27,t] σ Q:=by
 refine bH rfl rfl (aF (Ev.nm rfl) H.b9 rfl (.cons (Ev.nm rfl) .nil) (BJ G H W ht λσ' hE=>?_))
 have H':=H.ext hE
 refine dT (Ev.oA (Ev.b9 H' rfl rfl rfl) H'.table (Ev.nm rfl) (W.D7 G ht)) ?_
 cases ho:ag c.table (sgn g c t) with
 | none=>
  refine fB (Ev.l9 (Ev.nm rfl)) (b8 (a5 (Ev.b9 H' rfl rfl rfl) H'.trail (Ev.tup (.cons Ev.str (.cons (Ev.nm rfl) (.cons Ev.none .nil))) (Ui rfl)) (Ut (Vn hl) ((Ui rfl))) ?_))
  have H2:=H'.sr (c.trail++ [V.tup [k7,sgn g c t,.none]])
  exact cC (Ev.nm rfl) (Ev.b9 H2 rfl rfl rfl) (Ev.nm rfl) H2.table (W.D7 G ht) W.KZ (q _ (n5 ho▸(((Go.refl H).ext hE).trail _).table _))
 | some o=>
  have ID:=W.kZ _ _ ho
  have h1:=W.rt (G.ap o ID).1
  have h2:=W.rt (G.ap t ht).1
  refine bb (G.int o (G.ap o ID).1) λk hk=>?_
  have Kt:decide (o=V.none)=false:=by exact aa hk rfl
  refine dw (Ev.t7 (Ev.nm rfl) Kt) (nE (Ev.cmp (Ev.ji (x:=.a9) H' rfl rfl rfl H'.root W.root G.kind (Ev.nm rfl) h1.1) (Ev.ji (x:=.a9) H' rfl rfl rfl H'.root W.root G.kind (Ev.nm rfl) h2.1) (qI (G.int _ h1.2) (G.int _ h2.2))) (λhb=>?_) λhb=>?_)
  ·have hb:¬rt c o=rt c t:=λq=>by rw [q,decide_eq_true rfl] at hb;exact nomatch hb
   exact b8 (a5 (Ev.b9 H' rfl rfl rfl) H'.queue (Ev.tup (.cons (Ev.nm rfl) (.cons (Ev.nm rfl) (.cons (Ev.glob rfl) .nil))) (Ui rfl)) (lim hq) (q _ (aa ((n6 ho).trans (if_neg hb)) (((Go.refl H).ext hE).queue _))))
  ·have hb:rt c o=rt c t:=of_decide_eq_true (by revert hb<;>simp)
   exact q _ (aa ((n6 ho).trans (if_pos hb)) ((Go.refl H).ext hE))
end
end
end Mine.Internal.R
namespace Mine.Internal.R
noncomputable section
noncomputable def FX:V:=.str [101,100,103,101]
noncomputable def t8:V:=.str [106,111,105,110]
noncomputable def fq (c:aS) (left right why top:V) (ch:List Ed):aS:={c with up:=dput (bR c.up ch) left (V.tup [right,why]),trail:=c.trail++ [V.tup [FX,left,top]]}
noncomputable def dc (L:Nat->V->List V) (k:Nat) (t:V) (xs:List V):Nat->V->List V:=λk' t'=>if k'=k/\t'=t then xs else L k' t'
noncomputable def kx:Nat->Nm
 | 0=>.bQ
 | 1=>.eC
 | 2=>.dR
 | _=>.b5
noncomputable def aS.Qb (c:aS) (k:Nat) (d:List (V×V)):aS:={c with dk:=λk'=>if k'=k then d else c.dk k'}
section
variable {g:Cfg}{σ:St}{c:aS}{n:Nat}{Q:K1 V}{l:Loc}{C:Fn->List V->St->K1 V->Prop}{R:Fl->Loc->St->Prop}{r:Ss}
theorem vY {k:Nat} (hk:k<4):lF (lX c) (kx k)=some (.ref (fR k)):=four (P:=λk=>lF (lX c) (kx k)=some (.ref (fR k))) hk rfl rfl rfl rfl
theorem vZ {k:Nat} (hk:k<4):fieldOf .ak (kx k)=true:=four (P:=λk=>fieldOf .ak (kx k)=true) hk rfl rfl rfl rfl
structure At (σ:St) (c:aS) (k:Nat) (t:V) (r:Nat):Prop where
 key:ag (c.dk k) t=some (.ref r)
 role:c.role r=.ls k t
 get:σ.get r=some (.list (c.L k t))
theorem Rep.at_ (H:Rep g σ c) {k:Nat} (hk:k<4) {t:V} (ht:t∈g.T):∃r,At σ c k t r:=
 (H.ls k t hk ht).elim λr h=>⟨r,h.1,h.2,H.dyn r _ (bG h.2)⟩
theorem At.own {k t r} (h:At σ c k t r):c.role r≠.none/\c.role r≠.fix:=by exact aa h.role ⟨nofun,nofun⟩
theorem Ev.lst (H:Rep g σ c) (W:Wf g c) (G:aP g) (hl:l .ae=some (.ref 27)) {k:Nat} (hk:k<4) {e t r} (h:Ev l σ e t) (a:At σ c k t r):Ev l σ (.sub (.attr (.nm .ae) (kx k)) e) (.ref r):=
 Ev.ji H hl (vY hk) (vZ hk) (H.ph _ hk) (W.dk k) G.kind h a.key
theorem yK {o x r q xs ys} (h:Ev l σ o (.ref r)) (hr:σ.get r=some (.list xs)) (h':Ev l σ x (.ref q)) (hq:σ.get q=some (.list ys)) (ne:r≠q) (hl:xs.length+ys.length<=dj) (k:Q .none (σ.set r (.list (xs++ys)))):aK C (.extend o x) l σ Q:=
 h C _ (aq (congrArg VE (aZ hr)) (h' C _ (ah (a:=(r,xs)) (aZ hr) (ah (a:=(q,ys)) (aZ hq) (bP ne (bP hl k))))))
theorem Go.dc {σ' c'} (h:Go g σ c σ' c') {k t r} (a:At σ' c' k t r) (xs:List V):Go g σ c (σ'.set r (.list xs)) {c' with L:=Mine.Internal.R.dc c'.L k t xs}:=by
 refine ⟨h.1.BA a.own rfl ((bG (c:={c' with L:=Mine.Internal.R.dc c'.L k t xs}) a.role).trans (congrArg (λx=>some (O.list x)) (if_pos ⟨rfl,rfl⟩))) λi hi=>?_,h.2.trans (h.1.DY a.own.1 λU h=>h)⟩
 delta iB
 cases hq:c'.role i with
 | ls k' t'=>exact congrArg (λx=>some (O.list x)) (if_neg λq=>(a.role▸hi) ((hq.trans (w2 q.1 q.2 rfl))))
 | _=>rfl
theorem At.ne {k t r k' t' r'} (a:At σ c k t r) (b:At σ c k' t' r') (h:k≠k'\/t≠t'):r≠r':=λq=>by
 have:=a.role.symm.trans ((congrArg c.role q).trans b.role)
 cases this
 exact h.elim (λx=>x rfl) λx=>x rfl
theorem HD (k:Nat) (hk:k<4) (H:Rep g σ c) (W:Wf g c) (G:aP g) (hl:l .ae=some (.ref 27)) {x y t u} (hx:l x=some t) (hy:l y=some u) (ht:t∈g.T) (hu:u∈g.T) (ne:t≠u)
 (q:∀σ',Go g σ c σ' {c with L:=dc c.L k t (c.L k t++c.L k u)}->aG C r l σ' R):
 aG C (.cons (.expr (.extend (.sub (.attr (.nm .ae) (kx k)) (.nm x)) (.sub (.attr (.nm .ae) (kx k)) (.nm y)))) r) l σ R:=
 (H.at_ hk ht).elim λr a=>(H.at_ hk hu).elim λr' b=>b8 (yK (Ev.lst H W G hl hk (Ev.nm hx) a) a.get (Ev.lst H W G hl hk (Ev.nm hy) b) b.get (a.ne b (.inr ne))
  (fS (Ut (Uq (W.Ll k t ht) (W.Ll k u hu)) ((Ui rfl)))) (q _ ((Go.refl H).dc a _)))
theorem D9 (G:aP g) (H:Rep g σ c) (W:Wf g c) {x y w t:V}{ch:List Ed} (h:Pre (ag c.up) x ch t) (ht:ag c.up t=none) (hx:x∈g.T) (hd:eR g.T (bR c.up ch)) (hl:c.trail.length<=1000000)
 (q:∀σ',Go g σ c σ' (fq c x y w t ch)->Q .none σ'):aE aH (n+2) .gT [.ref 27,x,y,w] σ Q:=by
 refine bH rfl rfl (gG (aF (Ev.nm rfl) H.b9 rfl (.cons (Ev.nm rfl) .nil) (xd G H W h ht hx λσ' hG=>cC (Ev.tup (.cons (Ev.nm rfl) (.cons (Ev.nm rfl) .nil)) (Ui rfl)) (Ev.b9 hG.1 rfl rfl rfl) (Ev.nm rfl) hG.1.up (hd.key G.kind hx) (hd.lim (Ut G.len ((Ui rfl)))) ?_)))
 have IH:=hG.up (dput (bR c.up ch) x (V.tup [y,w]))
 exact b8 (a5 (Ev.b9 IH.1 rfl rfl rfl) IH.1.trail (Ev.tup (.cons Ev.str (.cons (Ev.nm rfl) (.cons (Ev.nm rfl) .nil))) (Ui rfl)) (Ut (Vn hl) ((Ui rfl))) (q _ (IH.trail _)))
noncomputable def pq (c:aS) (t:V):V:=V.tup [.int (c.L 0 t).length,.int (c.L 1 t).length,.int (c.L 2 t).length,.int (c.L 3 t).length]
theorem Ea (G:aP g) (H:Rep g σ c) (W:Wf g c) {t} (ht:t∈g.T) (q:Q (pq c t) σ):aE aH (n+1) .fI [.ref 27,t] σ Q:=
 (H.at_ (k:=0) (by decide) ht).elim λU a=>(H.at_ (k:=1) (by decide) ht).elim λU b=>(H.at_ (k:=2) (by decide) ht).elim λU d=>(H.at_ (k:=3) (by decide) ht).elim λU e=>
 bH rfl rfl (ek (Ev.tup (.cons (Ev.len (Ev.lst (k:=0) H W G rfl (by decide) (Ev.nm rfl) a) (cN a.get)) (.cons (Ev.len (Ev.lst (k:=1) H W G rfl (by decide) (Ev.nm rfl) b) (cN b.get))
  (.cons (Ev.len (Ev.lst (k:=2) H W G rfl (by decide) (Ev.nm rfl) d) (cN d.get)) (.cons (Ev.len (Ev.lst (k:=3) H W G rfl (by decide) (Ev.nm rfl) e) (cN e.get)) .nil)))) (Ui rfl)) q)
theorem su {t e b v}{g:Gd} (h:Ev l σ e v) (hs:cG σ v=some ([],g)) (hg:g.ok σ=true) (q:aG C r l σ R):aG C (.cons (.for t (.of e) b) r) l σ R:=
 h C _ (ah hs (aq hg q))
theorem Eb (G:aP g) (H:Rep g σ c) (W:Wf g c) {t} (ht:t∈g.T) (q:Q .none σ):aE aH (n+1) .eI [.ref 27,t] σ Q:=
 (H.at_ (k:=3) (by decide) ht).elim λU a=>have h:=a.get.trans (by rw [W.L2 3 ((US _)) t ht])
 bH rfl rfl (su (Ev.lst (k:=3) H W G rfl (by decide) (Ev.nm rfl) a) (bB h) (decide_eq_true h) q)
theorem Ec (G:aP g) (H:Rep g σ c) (W:Wf g c) {t} (ht:t∈g.T) (q:Q .none σ):aE aH (n+1) .gS [.ref 27,t] σ Q:=
 (H.at_ (k:=2) (by decide) ht).elim λU a=>have h:=a.get.trans (by rw [W.L2 2 ((Ux _)) t ht])
 bH rfl rfl (su (Ev.lst (k:=2) H W G rfl (by decide) (Ev.nm rfl) a) (bB h) (decide_eq_true h) (ek Ev.none q))
end
end
end Mine.Internal.R
namespace Mine.Internal.R
noncomputable section
theorem eR.turn {K d}{l:List Ed} (h:eR K d) (hl:∀e∈l,e.2.1∈K):eR K (bR d l):=by
 have a:∀(l:List Ed) d,eR K d->eR K (l.foldl (λd e=>ej d e.1) d):=λl=>by
  induction l with
  | nil=>exact λU h=>h
  | cons e l ih=>exact λU h=>ih _ h.del
 have b:∀(l:List Ed),(∀e∈l,e.2.1∈K)->∀d,eR K d->eR K (l.foldl (λd e=>dput d e.2.1 (V.tup [e.1,e.2.2])) d):=λl=>by
  induction l with
  | nil=>exact λU U h=>h
  | cons e l ih=>exact λhl U h=>ih (λx hx=>hl x (Uy _ hx)) _ (h.put (hl e Ur))
 exact b l hl _ (a l d h)
section
variable {g:Cfg}{c:aS}
theorem Wf.Oh (W:Wf g c) (G:aP g) {t} (ht:t∈g.Ap):(sgn g c t).kind=some 2:=by
 refine CQ (G.ap t ht) λhT hA z1 U=>bb z1 λj hD=>bb (G.int _ (W.rt hA).2) λi hi=>?_
 delta sgn;refine w2 hD hi ?_;rfl
theorem pw {d:List (V×V)}{k k' v:V} (h:ag (ej d k) k'=some v):ag d k'=some v:=by
 replace h:=fC▸h
 split at h
 ·exact nomatch h
 ·exact h
theorem jS {d:List (V×V)}{k k' v w:V} (h:ag (dput d k w) k'=some v):v=w\/ag d k'=some v:=by
 rw [aO] at h
 split at h
 ·exact .inl (Uu h).symm
 ·exact .inr h
theorem Wf.take (W:Wf g c) (t:V):Wf g (dU g c t):=by
 delta dU
 split
 ·exact {W with table:=W.table.imp λK h=>⟨h.1.del,h.2⟩,pk:=λp hp=>W.pk p (List.mem_filter.mp hp).1,kZ:=λk v h=>W.kZ k v (pw h)}
 ·exact W
theorem t9 {d:List (V×V)}{k v:V}{p} (h:p∈dput d k v):p.1=k\/∃q∈d,q.1=p.1:=by
 delta dput at h
 split at h
 ·refine aN (List.mem_map.mp h) λq hq z1=>aR z1 ?_
  exact .inr (i12 q hq (by split<;>rfl))
 ·exact (List.mem_append.mp h).elim (λh=>.inr (i12 p h rfl)) λh=>.inl ((congrArg _ (List.mem_singleton.mp h)))
theorem Wf.look (W:Wf g c) (G:aP g) {t:V} (ht:t∈g.Ap):Wf g (dY g c t):=by
 delta dY
 split
 ·exact {W with table:=W.table.imp λK h=>⟨h.1.put (h.2.2 t ht _ (W.rt (G.ap t ht).2.1).2),h.2⟩,
                pk:=λp hp=>(t9 hp).elim (λq=>aa q (W.Oh G ht)) λ⟨q,hq,e⟩=>(aR e (W.pk q hq)),
                kZ:=λk v h=>(jS h).elim (λq=>aa q ht) (W.kZ k v)}
 ·split
  ·exact W
  ·exact {W with}
end
section
variable {g:Cfg}{σ:St}{c:aS}{n:Nat}{Q:K1 V}{l:Loc}{C:Fn->List V->St->K1 V->Prop}{R:Fl->Loc->St->Prop}{r:Ss}
structure FI (g:Cfg) (σ:St) (c:aS) (l0:Loc) (f:aS->V->aS) (fin d:aS) (es:List V) (l:Loc) (σ':St):Prop where
 fold:es.foldl f d=fin
 wf:Wf g d
 ap:∀e∈es,e∈g.Ap
 len:d.trail.length+es.length<=1000000
 Oi:d.queue.length+es.length<=1000
 go:Go g σ c σ' d
 loc:∀x,x≠.cW->l x=l0 x
theorem qJ (f:aS->V->aS) {m F rm} (hm:gw .ak m=some F) (vs:List V)
 (spec:∀σ c t (Q:K1 V),Rep g σ c->Wf g c->t∈g.Ap->c.trail.length<=1000000->c.queue.length<=1000->(∀σ',Go g σ c σ' (f c t)->Q .none σ')->C F [.ref 27,t] σ Q)
 (wf:∀c t,Wf g c->t∈g.Ap->Wf g (f c t)) (tr:∀c t,(f c t).trail.length<=c.trail.length+1/\(f c t).queue.length<=c.queue.length+1)
 (H:Rep g σ c) (W:Wf g c) (ap:∀e∈vs,e∈g.Ap) (ht:c.trail.length+vs.length<=1000000) (hq:c.queue.length+vs.length<=1000) (l1:l .ae=some (.ref 27)) (l2:l .lu=some (.ref rm))
 (hr:rm<σ.next) (hn:c.role rm=.none) (hg:σ.get rm=some (.list vs))
 (q:∀l' σ',Go g σ c σ' (vs.foldl f c)->Wf g (vs.foldl f c)->(∀x,x≠.cW->l' x=l x)->aG C r l' σ' R):
 aG C (.cons (.for (.one .cW) (.of (.nm .lu)) (.cons (.expr (.aY (.nm .ae) m (.cons (.nm .cW) .nil))) .nil)) r) l σ R:=by
 refine ig id (FI g σ c l f (vs.foldl f c)) c (Ev.nm l2) (bB (aa (VF ..) hg)) ⟨rfl,W,ap,ht,hq,Go.refl H,λU U=>rfl⟩ ?_ ?_
 ·exact λd l' σ' I=>⟨decide_eq_true ((I.go.2.keep rm hr hn).1.trans (aa (VF ..) hg)),q _ _ (aR I.fold I.go) (aR I.fold I.wf) I.loc⟩
 ·refine λd v es l' σ' K I K1=>⟨decide_eq_true ((I.go.2.keep rm hr hn).1.trans (aa (VF ..) hg)),_,rfl,?_⟩
  have hv:=I.ap v Ur
  have hl:=I.len;have hq:=I.Oi;have ht:=tr d v
  exact b8 (aF (Ev.nm ((I.loc .ae ((of_decide_eq_true rfl))).trans l1)) I.go.1.b9 hm (.cons (Ev.nm rfl) .nil) (spec _ d v _ I.go.1 I.wf hv (aJ (Y2 _ _) Z0 (.n 1000000) (.a Z0 (.s Z1)) (.n 1000000) hl rfl) (aJ (Y2 _ _) Z0 (.n 1000) (.a Z0 (.s Z1)) (.n 1000) hq rfl) λbU hG=>K1 _ _ _ ⟨I.fold,wf d v I.wf hv,λe he=>I.ap e (Uy _ he),aJ (Y3 _ _ _) (.a Z0 Z1) (.n 1000000) (.a (.a Z2 (.s Z1)) Z0) (.a (.n 1000000) (.s Z2)) (Uq hl ht.1) rfl,aJ (Y3 _ _ _) (.a Z0 Z1) (.n 1000) (.a (.a Z2 (.s Z1)) Z0) (.a (.n 1000) (.s Z2)) (Uq hq ht.2) rfl,I.go.trans hG,λx hx=>(if_neg hx).trans (I.loc x hx)⟩))
structure FR (g:Cfg) (σ:St) (c:aS) (l0:Loc) (v:V) (fin d:List (V×V)) (es:List V) (l:Loc) (σ':St):Prop where
 fold:es.foldl (λd t=>dput d t v) d=fin
 dk:eR g.T d
 ap:∀e∈es,e∈g.T
 go:Go g σ c σ' {c with root:=d}
 loc:∀x,x≠.cW->l x=l0 x
theorem uc {x y s v} (G:aP g) (H:Rep g σ c) (W:Wf g c) (l1:l .ae=some (.ref 27)) (l2:l x=some s) (l3:l y=some v) (ny:y≠.cW) (hs:s∈g.T)
 (q:∀l' σ',Go g σ c σ' {c with root:=(c.L 0 s).foldl (λd t=>dput d t v) c.root}->(∀x,x≠.cW->l' x=l x)->aG C r l' σ' R):
 aG C (.cons (.for (.one .cW) (.of (.sub (.attr (.nm .ae) .bQ) (.nm x))) (.cons (.bw (.attr (.nm .ae) .a9) (.nm .cW) (.nm y)) .nil)) r) l σ R:=by
 refine bb (H.at_ (k:=0) (by decide) hs) λrm a=>?_
 have gd:∀ {σ' d},Go g σ c σ' {c with root:=d}->σ'.get rm=some (.list ((c.L 0 s).map id)):=λ{σ' d} h=>by
  exact aa (VF ..) (h.1.dyn rm _ (bG (c:={c with root:=d}) a.role))
 refine ig id (FR g σ c l v ((c.L 0 s).foldl (λd t=>dput d t v) c.root)) c.root (Ev.lst (k:=0) H W G l1 (by decide) (Ev.nm l2) a) (bB (gd (Go.refl H))) ⟨rfl,W.root,W.L0 s hs,Go.refl H,λU U=>rfl⟩ ?_ ?_
 ·exact λd l' σ' I=>⟨decide_eq_true (gd I.go),q _ _ (aR I.fold I.go) I.loc⟩
 ·intro d e es l' σ' K I K1
  have he:=I.ap e Ur
  exact ⟨decide_eq_true (gd I.go),_,rfl,cC (Ev.nm ((if_neg ny).trans ((I.loc y ny).trans l3))) (Ev.b9 I.go.1 ((I.loc .ae ((of_decide_eq_true rfl))).trans l1) rfl rfl) (Ev.nm rfl) I.go.1.root (I.dk.key G.kind he) (I.dk.lim (Ut G.len ((of_decide_eq_true rfl)))) (K1 (dput d e v) _ _ ⟨I.fold,I.dk.put he,λx hx=>I.ap x (Uy _ hx),I.go.root _,λx hx=>(if_neg hx).trans (I.loc x hx)⟩)⟩
end
end
end Mine.Internal.R
namespace Mine.Internal.R
noncomputable section
section
variable {σ:St}{l:Loc}{C:Fn->List V->St->K1 V->Prop}{R:Fl->Loc->St->Prop}{r:Ss}
theorem BK {es}{Q:K1 V} (h:iu C es l σ λvs σ=>ei (decide (vs.length<=1000)) (Q (V.tup vs) σ)):aK C (.tup es) l σ Q:=h
theorem iF {e es}{Q:K1 (List V)} (h:aK C e l σ λv σ=>iu C es l σ λvs σ=>Q (v::vs) σ):iu C (.cons e es) l σ Q:=h
theorem dM {e es v}{Q:K1 (List V)} (k:Ev l σ e v) (h:iu C es l σ λvs σ=>Q (v::vs) σ):iu C (.cons e es) l σ Q:=k C _ h
theorem fu {Q:K1 (List V)} (h:Q [] σ):iu C .nil l σ Q:=h
theorem pA {o x r xs y}{Q:K1 V} (h:Ev l σ o (.ref r)) (hr:σ.get r=some (.list xs)) (k:∀Q:K1 V,Q y σ->aK C x l σ Q) (hl:xs.length+1<=dj) (q:Q .none (σ.set r (.list (xs++ [y])))):aK C (.append o x) l σ Q:=
 h C _ (aq (congrArg VE (aZ hr)) (k _ (ah (a:=(r,xs)) (aZ hr) (bP hl q))))
theorem Ee {c a b}{Q:K1 V} (h:Ev l σ c (.bool false)) (q:aK C b l σ Q):aK C (.ite c a b) l σ Q:=h C _ q
theorem yL {e r xs}{Q:K1 V} (h:Ev l σ e (.ref r)) (hr:σ.get r=some (.list xs)) (hl:xs.length<=dj) (q:Q (.ref σ.next) (σ.push (.list xs))):aK C (.listOf (.of e)) l σ Q:=
 h C _ (ah (bB hr) (aq (decide_eq_true hr) (bP hl q)))
theorem K0 {i j:Int}:hV σ .gt (.int i) (.int j)=some (decide (i>j)):=rfl
end
noncomputable def e6 (g:Cfg) (c:aS) (x y why top:V) (ch:List Ed):aS:=(c.L 1 (rt c x)).foldl (dU g) (fq c x y why top ch)
noncomputable def jT (c:aS) (k:Nat) (b s:V):aS:={c with L:=dc c.L k b (c.L k b++c.L k s)}
noncomputable def cU (c:aS) (b s:V):aS:=
 let c:={c with trail:=c.trail++ [V.tup [t8,s,b,pq c b,.int 0]]}
 let c:={c with root:=(c.L 0 s).foldl (λd t=>dput d t b) c.root}
 let c:=jT (jT (jT (jT c 0 b s) 1 b s) 2 b s) 3 b s
 {c with val:=dput c.val b (.int 0)}
noncomputable def jU (g:Cfg) (c:aS) (x y why top:V) (ch:List Ed):aS:=(c.L 1 (rt c x)).foldl (dY g) (cU (e6 g c x y why top ch) (rt c y) (rt c x))
def kr (c d:aS):Prop:=d={c with trail:=d.trail,table:=d.table,queue:=d.queue}
theorem kr.refl {c:aS}:kr c c:=rfl
theorem kr.trans {c d e:aS} (h:kr c d) (k:kr d e):kr c e:=(aa k (aa h rfl))
section
variable {g:Cfg}{σ:St}{c:aS}{n:Nat}{Q:K1 V}{l:Loc}{C:Fn->List V->St->K1 V->Prop}{R:Fl->Loc->St->Prop}{r:Ss}
theorem qK {t}:kr c (dU g c t):=by delta dU;split<;>rfl
theorem look_same {t}:kr c (dY g c t):=by
 delta dY;split
 ·rfl
 ·split<;>rfl
theorem fold_same {f:aS->V->aS} (h:∀c t,kr c (f c t)):∀(vs:List V) (c:aS),kr c (vs.foldl f c):=by
 intro z9;induction z9 with
 | nil=>intro U;exact kr.refl
 | cons v vs ih=>intro c;exact (h c v).trans (ih (f c v))
theorem mc {t}:(dU g c t).trail.length<=c.trail.length+1/\(dU g c t).queue.length<=c.queue.length+1:=by
 delta dU;split
 ·exact ⟨by simp,US _⟩
 ·exact ⟨US _,US _⟩
theorem ue {t}:(dY g c t).trail.length<=c.trail.length+1/\(dY g c t).queue.length<=c.queue.length+1:=by
 delta dY;split
 ·exact ⟨by simp,US _⟩
 ·split
  ·exact ⟨US _,US _⟩
  ·exact ⟨US _,by simp⟩
theorem md {f:aS->V->aS} (h:∀c t,(f c t).trail.length<=c.trail.length+1/\(f c t).queue.length<=c.queue.length+1):∀(vs:List V) (c:aS),(vs.foldl f c).trail.length<=c.trail.length+vs.length/\(vs.foldl f c).queue.length<=c.queue.length+vs.length:=by
 intro z9;induction z9 with
 | nil=>intro U;exact ⟨Ux _,Ux _⟩
 | cons v vs ih=>
  intro c
  have a:=h c v
  have b:=ih (f c v)
  simp
  lia
theorem Wf.same {d:aS} (W:Wf g c) (h:kr c d) (ht:d.table=c.table):Wf g d:=by
 exact aa h (aa ht ({W with}))
theorem Wf.D4 (W:Wf g c) {x y w top ch} (hx:x∈g.T) (hy:y∈g.T) (h:Pre (ag c.up) x ch top):Wf g (fq c x y w top ch):=by
 have hT:=(h.pZ W hx).2
 refine {W with up:=(W.up.turn λe he=>(hT e he).2).put hx,FV:=λt v e=>?_}
 have key:∀(l:List Ed) d,(∀e∈l,e.1∈g.T)->(∀t v,ag d t=some v->∃p w,v=V.tup [p,w]/\p∈g.T)->∀t v,ag (l.foldl (λd e=>dput d e.2.1 (V.tup [e.1,e.2.2])) d) t=some v->∃p w,v=V.tup [p,w]/\p∈g.T:=λl=>by
  induction l with
  | nil=>exact λU U h=>h
  | cons e l ih=>exact λd hl h=>ih _ (λx hx=>hl x (Uy _ hx)) λt v q=>(jS q).elim (λq=>jo _ _ q (hl e Ur)) (h t v)
 refine (jS e).elim (λq=>jo _ _ q hy) (key ch _ (λe he=>(hT e he).1) (λt v q=>W.FV t v ?_) t v)
 replace q:=iC▸q
 split at q
 ·exact nomatch q
 ·exact q
noncomputable def joinRest:Ss:=match gy.2 with
 | .cons _ r=>r
 | .nil=>.nil
theorem Wf.ext (W:Wf g c) {k b s} (hk:(c.L k b).length+(c.L k s).length<=8) (hb:b∈g.T) (hs:s∈g.T):Wf g (jT c k b s):=
 {W with
  L0:=λt ht x hx=>by
   by_cases q:0=k/\t=b
   ·rw [show (jT c k b s).L 0 t=_ from if_pos q] at hx
    rw [← q.1] at hx
    exact (List.mem_append.mp hx).elim (W.L0 b hb x) (W.L0 s hs x)
   ·rw [show (jT c k b s).L 0 t=_ from if_neg q] at hx
    exact W.L0 t ht x hx
  L1:=λt ht x hx=>by
   by_cases q:1=k/\t=b
   ·rw [show (jT c k b s).L 1 t=_ from if_pos q] at hx
    rw [← q.1] at hx
    exact (List.mem_append.mp hx).elim (W.L1 b hb x) (W.L1 s hs x)
   ·rw [show (jT c k b s).L 1 t=_ from if_neg q] at hx
    exact W.L1 t ht x hx
  Ll:=λj t ht=>by
   by_cases q:j=k/\t=b
   ·rw [show (jT c k b s).L j t=_ from if_pos q,UA];exact hk
   ·rw [show (jT c k b s).L j t=_ from if_neg q];exact W.Ll j t ht
  L2:=λj hj t ht=>by
   by_cases q:j=k/\t=b
   ·rw [show (jT c k b s).L j t=_ from if_pos q,← q.1,W.L2 j hj b hb,W.L2 j hj s hs];rfl
   ·rw [show (jT c k b s).L j t=_ from if_neg q];exact W.L2 j hj t ht}
theorem Wf.BL (W:Wf g c) {b} (hb:b∈g.T) {d} (hd:∀t,ag d t=ag c.root t\/ag d t=some b) (hk:eR g.T d):Wf g {c with root:=d}:=
 {W with root:=hk,xc:=λt ht=>(hd t).elim (λq=>by show∃r∈_,ag d t=_;rw [q];exact W.xc t ht) λq=>i12 b hb q}
theorem me {b:V}:∀(vs:List V) (d:List (V×V)),(∀t,ag (vs.foldl (λd t=>dput d t b) d) t=if t∈vs then some b else ag d t)/\∀K,eR K d->(∀x∈vs,x∈K)->eR K (vs.foldl (λd t=>dput d t b) d):=by
 intro vs;induction vs with
 | nil=>exact λd=>⟨λt=>(if_neg ((of_decide_eq_true rfl))).symm,λU h U=>h⟩
 | cons v vs ih=>
  intro d
  have ih:=ih (dput d v b)
  refine ⟨λt=>((ih.1 ..).trans (aa aO ?_)),λK h i=>ih.2 K (h.put (i v Ur)) λx hx=>i x (Uy _ hx)⟩
  by_cases p:t∈vs
  ·exact (if_pos p).trans ((if_pos (Uy _ p)).symm)
  ·by_cases q:v=t
   ·exact (if_neg p).trans ((if_pos q).trans ((if_pos (aa q Ur)).symm))
   ·exact (if_neg p).trans ((if_neg q).trans ((if_neg λh=>(List.mem_cons.mp h).elim (λh=>q h.symm) p).symm))
end
end
end Mine.Internal.R
namespace Mine.Internal.R
noncomputable section
section
variable {g:Cfg}{σ:St}{c:aS}{n:Nat}{Q:K1 V}{l:Loc}{C:Fn->List V->St->K1 V->Prop}{R:Fl->Loc->St->Prop}{r:Ss}
theorem pB {x y w t ch}:kr (fq c x y w t ch) (e6 g c x y w t ch):=fold_same (λU U=>qK) _ _
theorem sv (k:Nat) (hk:k<4) {c':aS}{nH c₀} (h:Go g nH c₀ σ c') (W:Wf g c') (G:aP g) (hl:l .ae=some (.ref 27)) {x y t u} (hx:l x=some t) (hy:l y=some u) (ht:t∈g.T) (hu:u∈g.T) (ne:t≠u)
 (q:∀σ',Go g nH c₀ σ' (jT c' k t u)->aG C r l σ' R):
 aG C (.cons (.expr (.extend (.sub (.attr (.nm .ae) (kx k)) (.nm x)) (.sub (.attr (.nm .ae) (kx k)) (.nm y)))) r) l σ R:=
 HD k hk h.1 W G hl hx hy ht hu ne λU h'=>q _ (h.trans h')
structure JL (l:Loc) (x y w:V):Prop where
 l1:l .ae=some (.ref 27)
 l2:l .dy=some x
 l3:l .cR=some y
 l4:l .oz=some w
theorem pC {k b s j t} (h:j≠k):(jT c k b s).L j t=c.L j t:=if_neg λq=>h q.1
end
def pD (g:Cfg) (σ:St) (c:aS) (n:Nat) (l:Loc) (R:Fl->Loc->St->Prop) (x:V) (y:V) (w:V) (t:V) (ch:List Ed):Prop:=∀(G:aP g) (H:Rep g σ c) (W:Wf g c) (L:JL l x y w) (h:Pre (ag c.up) x ch t) (ht:ag c.up t=none) (hx:x∈g.T) (hy:y∈g.T) (ne:rt c x≠rt c y) (h0:(c.L 0 (rt c y)).length+(c.L 0 (rt c x)).length<=8) (h1:(c.L 1 (rt c y)).length+(c.L 1 (rt c x)).length<=8) (pL:c.trail.length<=900000) (FY:c.queue.length<=900) (q:∀σ' l',Go g σ c σ' (jU g c x y w t ch)->Wf g (jU g c x y w t ch)->R .next l' σ'),aG (aE aH (n+4)) joinRest l σ R
noncomputable abbrev pE:=Cfg×St×aS×Nat×Loc×(Fl->Loc->St->Prop)×V×V×V×V×(List Ed)
def pF (c:pE):Prop:=pD c.1 c.2.1 c.2.2.1 c.2.2.2.1 c.2.2.2.2.1 c.2.2.2.2.2.1 c.2.2.2.2.2.2.1 c.2.2.2.2.2.2.2.1 c.2.2.2.2.2.2.2.2.1 c.2.2.2.2.2.2.2.2.2.1 c.2.2.2.2.2.2.2.2.2.2
noncomputable def cI:pE:=ep (⟨[],[],λU=>.none,λU=>.none,[],[],[]⟩,⟨0,λU=>none⟩,⟨[],[],λU=>[],[],[],[],[],[],0,0,0,λU=>.none,λU U=>[]⟩,0,λU=>none,(λU U U=>True),.none,.none,.none,.none,[]) pF
namespace qL
@[irreducible] def g:Cfg:=cI.1
@[irreducible] def σ:St:=cI.2.1
@[irreducible] def c:aS:=cI.2.2.1
@[irreducible] def n:Nat:=cI.2.2.2.1
@[irreducible] def l:Loc:=cI.2.2.2.2.1
@[irreducible] def R:Fl->Loc->St->Prop:=cI.2.2.2.2.2.1
@[irreducible] def x:V:=cI.2.2.2.2.2.2.1
@[irreducible] def y:V:=cI.2.2.2.2.2.2.2.1
@[irreducible] def w:V:=cI.2.2.2.2.2.2.2.2.1
@[irreducible] def t:V:=cI.2.2.2.2.2.2.2.2.2.1
@[irreducible] def ch:List Ed:=cI.2.2.2.2.2.2.2.2.2.2
theorem u2:pD g σ c n l R x y w t ch:=by
 intro G H W L h ht hx hy ne h0 h1 pL FY q
 have Qc:=W.rt hx
 have Qe:=W.rt hy
 have hs:=Qc.2
 have hb:=Qe.2
 refine jb rfl (a6 (Ev.ji (x:=.a9) H L.l1 rfl rfl H.root W.root G.kind (Ev.nm L.l2) Qc.1) (a6 (Ev.ji (x:=.a9) H L.l1 rfl rfl H.root W.root G.kind (Ev.nm L.l3) Qe.1) (b8 (aF (Ev.nm L.l1) H.b9 rfl (.cons (Ev.nm L.l2) (.cons (Ev.nm L.l3) (.cons (Ev.nm L.l4) .nil))) (D9 G H W h ht hx (W.up.turn λe he=>((h.pZ W hx).2 e he).2) (Ut pL (by simp)) λfe Ms=>?_)))))
 have W1:=W.D4 (w:=w) (top:=t) hx hy h
 refine bb (Ms.1.at_ (k:=1) (by decide) hs) λr1 a1=>gG (yL (Ev.lst (k:=1) Ms.1 W1 G (by exact L.l1) (by decide) (Ev.nm rfl) a1) a1.get (fS (Ut (W1.Ll 1 _ hs) (by decide))) ?_)
 have hE:Ext fe (fe.push (.list (c.L 1 (rt c x)))):=Ext.push
 have IH:=Ms.ext hE
 have Qf:c.role fe.next=.none:=Ms.1.top fe.next (Ux _)
 have l8:=W.Ll 1 _ hs
 have Qg:(fq c x y w t ch).trail.length=c.trail.length+1:=by simp [fq]
 refine qJ (c:=fq c x y w t ch) (dU g) rfl (c.L 1 (rt c x)) (λσ c t Q H W ht h1 U q=>D8 G H W ht h1 q) (λc t W U=>W.take t) (λU U=>mc) IH.1 W1 (W1.L1 _ hs) (aJ (Y3 _ _ _) (.a Z0 Z1) (.n 1000000) (.a (.a Z2 Z1) Z0) (.a (.a (.n 900000) (.n 8)) (.s Z2)) (Uq (Uq pL l8) (UI Qg)) rfl) (by exact aJ (Y2 _ _) (.a Z0 Z1) (.n 1000) (.a Z0 Z1) (.a (.n 900) (.n 8)) (Uq FY l8) rfl) L.l1 rfl (Uw _) Qf ao ?_
 intro l3 i3 BM W3 Mt
 have e3:kr (fq c x y w t ch) (e6 g c x y w t ch):=pB
 have BM:Go g (fe.push (.list (c.L 1 (rt c x)))) (fq c x y w t ch) i3 (e6 g c x y w t ch):=BM
 have W3:Wf g (e6 g c x y w t ch):=W3
 have hl:(e6 g c x y w t ch).trail.length<=c.trail.length+9:=by
  exact Ut ((md (f:=dU g) (λU U=>mc) (c.L 1 (rt c x)) (fq c x y w t ch)).1) (aJ (Y3 _ _ _) (.a Z0 Z1) (.a Z2 (.n 9)) (.a Z1 Z0) (.a (.n 8) (.s Z2)) (Uq l8 (UI Qg)) rfl)
 have Oj:(e6 g c x y w t ch).queue.length<=c.queue.length+8:=by
  exact Ut ((md (f:=dU g) (λU U=>mc) (c.L 1 (rt c x)) (fq c x y w t ch)).2) (by exact aJ (Y2 _ _) (.a Z0 Z1) (.a Z0 (.n 8)) Z1 (.n 8) l8 rfl)
 have eL:(e6 g c x y w t ch).L=c.L:=(by have:=congrArg aS.L e3;exact this)
 have s1:l3 .ae=some (.ref 27):=(Mt _ (by decide)).trans L.l1
 have s2:l3 .cS=some (rt c x):=Mt _ (by decide)
 have s3:l3 .br=some (rt c y):=Mt _ (by decide)
 have v3:=W3.pY _ hb
 revert BM W3 hl Oj eL v3
 generalize Sb:e6 g c x y w t ch=c3
 refine λBM W3 hl Oj eL v3=>b8 (pA (Ev.b9 BM.1 s1 rfl rfl) BM.1.trail (y:=V.tup [t8,rt c x,rt c y,pq c3 (rt c y),.int 0]) (λQ q=>?_) (Ut (Vn (Ut hl (Nat.add_le_add_right pL 9))) (by decide)) ?_)
 ·exact BK (dM Ev.str (dM (Ev.nm s2) (dM (Ev.nm s3) (iF (aF (Ev.nm s1) BM.1.b9 rfl (.cons (Ev.nm s3) .nil) (Ea G BM.1 W3 hb (dM (Ev.ji (x:=.di) BM.1 s1 rfl rfl BM.1.val W3.val G.kind (Ev.nm s3) v3) (fu q))))))))
 have Qh:=BM.trail (c3.trail++ [V.tup [t8,rt c x,rt c y,pq c3 (rt c y),.int 0]])
 have W4:Wf g {c3 with trail:=c3.trail++ [V.tup [t8,rt c x,rt c y,pq c3 (rt c y),.int 0]]}:={W3 with}
 refine uc G Qh.1 W4 s1 s2 s3 (by decide) hs ?_
 intro l5 CK Sd Mu
 have fp:=me (b:=rt c y) (c3.L 0 (rt c x)) c3.root
 have W5:=W4.BL hb (d:=(c3.L 0 (rt c x)).foldl (λd t=>dput d t (rt c y)) c3.root) (λt=>by refine aa (fp.1 ..) ?_;split<;>first | exact .inr rfl | exact .inl rfl) (fp.2 _ W3.root (W3.L0 _ hs))
 have t1:l5 .ae=some (.ref 27):=(Mu _ (by decide)).trans s1
 have t2:l5 .cS=some (rt c x):=(Mu _ (by decide)).trans s2
 have t3:l5 .br=some (rt c y):=(Mu _ (by decide)).trans s3
 refine sv 0 (by decide) (Qh.trans Sd) W5 G t1 t3 t2 hb hs ne.symm λOl Se=>?_
 have W6:=W5.ext (k:=0) (aa eL h0) hb hs
 refine sv 1 (by decide) Se W6 G t1 t3 t2 hb hs ne.symm λQi Sf=>?_
 have W7:=W6.ext (k:=1) (by exact w2 (pC (by decide)) (pC (by decide)) (aa eL h1)) hb hs
 refine sv 2 (by decide) Sf W7 G t1 t3 t2 hb hs ne.symm λOm Sg=>?_
 have W8:=W7.ext (k:=2) (by refine w2 (W7.L2 2 (by decide) _ hs) (W7.L2 2 (by decide) _ hb) ?_;decide) hb hs
 refine sv 3 (by decide) Sg W8 G t1 t3 t2 hb hs ne.symm λK2 HE=>?_
 have W9:=W8.ext (k:=3) (by refine w2 (W8.L2 3 (by decide) _ hs) (W8.L2 3 (by decide) _ hb) ?_;decide) hb hs
 refine jb rfl (a6 (Ev.ji (x:=.di) HE.1 t1 rfl rfl HE.1.val W9.val G.kind (Ev.nm t2) (W9.pY _ hs)) (a6 (Ev.ji (x:=.di) HE.1 t1 rfl rfl HE.1.val W9.val G.kind (Ev.nm t3) (W9.pY _ hb)) (fB (Ev.cmp (Ev.nm rfl) Ev.int (pj (σ:=K2))) (cC (Ev.nm rfl) (Ev.b9 HE.1 t1 rfl rfl) (Ev.nm t3) HE.1.val (W9.val.key G.kind hb) (W9.val.lim (Ut G.len (by decide))) ?_))))
 have yM:=HE.val (dput c3.val (rt c y) (.int 0))
 have Sh:Wf g (cU c3 (rt c y) (rt c x)):={W9 with
  val:=W9.val.put hb
  pY:=λt ht=>by
   refine (aO (d:=c3.val)).trans ?_
   split
   ·rfl
   ·exact W9.pY t ht}
 have yM:Go g _ _ _ (cU c3 (rt c y) (rt c x)):=yM
 have hk:=yM.2.keep fe.next (Uw _) Qf
 refine qJ (c:=cU c3 (rt c y) (rt c x)) (rm:=fe.next) (dY g) rfl (c.L 1 (rt c x)) (λσ c t Q H W ht h1 h2 q=>xg G H W ht h1 h2 q) (λc t W ht=>W.look G ht) (λU U=>ue) yM.1 Sh (W.L1 _ hs)
  (by show (c3.trail++ [_]).length+_<=_;simp only [UA,Vm,Xg];exact aJ (Y3 _ _ _) (.a (.a Z0 (.s (.n 0))) Z1) (.n 1000000) (.a (.a Z2 Z1) Z0) (.a (.a (.n 900000) (.n 8)) (.a Z2 (.n 9))) (Uq (Uq pL l8) hl) rfl) (by exact aJ (Y3 _ _ _) (.a Z0 Z1) (.n 1000) (.a (.a Z2 Z1) Z0) (.a (.a (.n 900) (.n 8)) (.a Z2 (.n 8))) (Uq (Uq FY l8) Oj) rfl) t1 ((Mu _ (by decide)).trans (Mt _ (by decide))) (UM (Uw _) yM.2.le) hk.2 (hk.1.trans ao) ?_
 intro Si Ef BN Oo Eg
 have u1:Si .ae=some (.ref 27):=(Eg _ (by decide)).trans t1
 refine gG (Ee (Ev.KL (c:=true) (Ev.cmp (Ev.nm (Eg _ (by decide))) Ev.int (qI ⟨_,rfl⟩ ⟨_,rfl⟩))) (aF (Ev.nm u1) BN.1.b9 rfl (.cons (Ev.nm ((Eg _ (by decide)).trans t2)) .nil) (Ec G BN.1 Oo hs (fB (Ev.l9 (Ev.nm rfl)) (b8 (aF (Ev.nm u1) BN.1.b9 rfl (.cons (Ev.nm ((Eg _ (by decide)).trans t3)) .nil) (Eb G BN.1 Oo hb ?_)))))))
 subst Sb
 exact q _ _ ((IH.trans (yM.trans BN))) Oo
end qL
section
variable {g:Cfg}{σ:St}{c:aS}{n:Nat}{Q:K1 V}{l:Loc}{C:Fn->List V->St->K1 V->Prop}{R:Fl->Loc->St->Prop}{r:Ss}
theorem qM (G:aP g) (H:Rep g σ c) (W:Wf g c) {x y w t:V}{ch:List Ed} (L:JL l x y w) (h:Pre (ag c.up) x ch t) (ht:ag c.up t=none) (hx:x∈g.T) (hy:y∈g.T) (ne:rt c x≠rt c y) (h0:(c.L 0 (rt c y)).length+(c.L 0 (rt c x)).length<=8) (h1:(c.L 1 (rt c y)).length+(c.L 1 (rt c x)).length<=8) (pL:c.trail.length<=900000) (FY:c.queue.length<=900) (q:∀σ' l',Go g σ c σ' (jU g c x y w t ch)->Wf g (jU g c x y w t ch)->R .next l' σ'):aG (aE aH (n+4)) joinRest l σ R:=
 iK (P:=pF) (by with_unfolding_all exact qL.u2) (g,σ,c,n,l,R,x,y,w,t,ch) G H W L h ht hx hy ne h0 h1 pL FY q
end
end
end Mine.Internal.R
namespace Mine.Internal.R
noncomputable section
structure dQ (g:Cfg) (c d:aS):Prop where
 up:∀z,ag c.up z=ag d.up z
 root:∀z,ag c.root z=ag d.root z
 table:∀z,ag c.table z=ag d.table z
 L:∀k t,k<2->t∈g.T->c.L k t=d.L k t
theorem dQ.refl {g c}:dQ g c c:=⟨λU=>rfl,λU=>rfl,λU=>rfl,λU U U U=>rfl⟩
theorem dQ.symm {g c d} (h:dQ g c d):dQ g d c:=⟨λz=>(h.up z).symm,λz=>(h.root z).symm,λz=>(h.table z).symm,λk t a b=>(h.L k t a b).symm⟩
theorem dQ.trans {g c d e} (h:dQ g c d) (k:dQ g d e):dQ g c e:=⟨λz=>(h.up z).trans (k.up z),λz=>(h.root z).trans (k.root z),λz=>(h.table z).trans (k.table z),λi t a b=>(h.L i t a b).trans (k.L i t a b)⟩
theorem dQ.rt {g c d} (h:dQ g c d) (t:V):rt c t=rt d t:=by delta Mine.Internal.R.rt;exact aa (h.root ..) rfl
theorem dQ.sgn {g c d} (h:dQ g c d) (t:V):sgn g c t=sgn g d t:=by delta Mine.Internal.R.sgn;exact aa (h.rt ..) rfl
inductive Log (g:Cfg) (c:aS):V->aS->Prop
 | Eh {t' r t c'}:t'∈g.Ap->r∈g.T->t∈g.Ap->ag c.table (V.tup [g.dat t',r])=none->dQ g c' {c with table:=dput c.table (V.tup [g.dat t',r]) t}->Log g c (V.tup [k7,V.tup [g.dat t',r],.none]) c'
 | Ei {t' r t c'}:t'∈g.Ap->r∈g.T->t∈g.Ap->ag c.table (V.tup [g.dat t',r])=some t->dQ g c' {c with table:=ej c.table (V.tup [g.dat t',r])}->Log g c (V.tup [k7,V.tup [g.dat t',r],t]) c'
 | gF {x y w top ch c'}:x∈g.T->y∈g.T->Pre (ag c.up) x ch top->ag c.up top=none->dQ g c' {c with up:=dput (bR c.up ch) x (V.tup [y,w])}->Log g c (V.tup [FX,x,top]) c'
 | join {s b c'}:s∈g.T->b∈g.T->s≠b->(∀z∈c.L 0 s,ag c.root z=some s)->dQ g c' (cU c b s)->Log g c (V.tup [t8,s,b,pq c b,.int 0]) c'
theorem Log.ext {g c e c' d} (h:Log g c e c') (k:dQ g d c'):Log g c e d:=by
 cases h with
 | Eh a b d e f=>exact .Eh a b d e (k.trans f)
 | Ei a b d e f=>exact .Ei a b d e (k.trans f)
 | gF a b d e f=>exact .gF a b d e (k.trans f)
 | join a b d e f=>exact .join a b d e (k.trans f)
inductive Back (g:Cfg) (c:aS):List V->aS->Prop
 | nil {c'}:dQ g c' c->Back g c [] c'
 | snoc {es c1 e c2}:Back g c es c1->Wf g c1->Log g c1 e c2->Back g c (es++ [e]) c2
theorem Back.ext {g c es c1 c2} (h:Back g c es c1) (k:dQ g c2 c1):Back g c es c2:=by
 cases h with
 | nil e=>exact .nil (k.trans e)
 | snoc a b d=>exact .snoc a b (d.ext k)
theorem Back.trans {g c es c1 nO c2} (h:Back g c es c1) (k:Back g c1 nO c2):Back g c (es++nO) c2:=by
 induction k with
 | nil e=>exact aa (U6 ..) (h.ext e)
 | snoc _ b d ih=>exact aR (UW ..) (.snoc ih b d)
def cu (g:Cfg) (c c':aS):Prop:=∃es,c'.trail=c.trail++es/\Back g c es c'
theorem cu.refl {g c}:cu g c c:=⟨[],by simp,.nil dQ.refl⟩
theorem cu.trans {g c d e} (h:cu g c d) (k:cu g d e):cu g c e:=
 h.elim λes h=>k.elim λnO k=>⟨es++nO,by rw [k.1,h.1,UW],h.2.trans k.2⟩
section
variable {g:Cfg}{c:aS}
theorem cu.log {c':aS}{e:V} (W:Wf g c) (h:Log g c e c') (ht:c'.trail=c.trail++ [e]):cu g c c':=⟨[e],ht,.snoc (es:=[]) (.nil dQ.refl) W h⟩
theorem K3 (G:aP g) (W:Wf g c) {t} (ht:t∈g.Ap):cu g c (dU g c t):=by
 by_cases h:ag c.table (sgn g c t)=some t
 ·exact aa (show dU g c t=_ from if_pos h) (cu.log W (Log.Ei (r:=rt c (g.arg t)) ht (W.rt (G.ap t ht).2.1).2 ht h ⟨λU=>rfl,λU=>rfl,λU=>rfl,λU U U U=>rfl⟩) rfl)
 ·exact aa (show dU g c t=_ from if_neg h) cu.refl
theorem K4 (G:aP g) (W:Wf g c) {t} (ht:t∈g.Ap):cu g c (dY g c t):=by
 cases h:ag c.table (sgn g c t) with
 | none=>
  exact aa (n5 h) (cu.log W (Log.Eh (r:=rt c (g.arg t)) ht (W.rt (G.ap t ht).2.1).2 ht h ⟨λU=>rfl,λU=>rfl,λU=>rfl,λU U U U=>rfl⟩) rfl)
 | some o=>
  refine aa (n6 h) ?_
  split
  ·exact cu.refl
  ·exact ⟨[],by simp,.nil ⟨λU=>rfl,λU=>rfl,λU=>rfl,λU U U U=>rfl⟩⟩
theorem FZ {f:aS->V->aS} (wf:∀c t,Wf g c->t∈g.Ap->Wf g (f c t)) (bt:∀c t,Wf g c->t∈g.Ap->cu g c (f c t)):∀(vs:List V) (c:aS),Wf g c->(∀e∈vs,e∈g.Ap)->cu g c (vs.foldl f c)/\Wf g (vs.foldl f c):=by
 intro z9;induction z9 with
 | nil=>intro U W U;exact ⟨cu.refl,W⟩
 | cons v vs ih=>intro c W h;exact have hv:=h v Ur
  have a:=ih (f c v) (wf c v W hv) λe he=>h e (Uy _ he)
  ⟨(bt c v W hv).trans a.1,a.2⟩
structure Inv (g:Cfg) (c:aS) (E:EP):Prop where
 wf:Wf g c
 fin:yJ (ag c.up)
 Ej:D3 (ag c.up) E
 cls:∀x∈g.T,∀y∈g.T,rt c x=rt c y↔au E x y
 rr:∀x∈g.T,rt c (rt c x)=rt c x
 mem:∀r∈g.T,rt c r=r->(c.L 0 r).Nodup/\∀x,x∈c.L 0 r↔x∈g.T/\rt c x=r
 use:∀r∈g.T,rt c r=r->(c.L 1 r).Nodup/\∀x,x∈c.L 1 r↔x∈g.Ap/\rt c (g.arg x)=r
 Ek:∀t∈g.Ap,∃t',ag c.table (sgn g c t)=some t'
 BO:∀k t,ag c.table k=some t->sgn g c t=k
def bj (E F:EP):Prop:=∀a b w,(E (a,b,w)\/E (b,a,w))↔(F (a,b,w)\/F (b,a,w))
theorem bj.conn {E F:EP} (h:bj E F) {x y}:au E x y↔au F x y:=by
 have key:∀ {E F:EP},bj E F->∀ {x y},au E x y->au F x y:=λ{E F} h {x y} k=>by
  induction k with
  | refl=>exact .refl
  | tail _ a ih=>exact ih.tail (a.imp λw hw=>(h _ _ w).mp hw)
 exact ⟨key h,key λa b w=>(h a b w).symm⟩
theorem Inv.sym {E F:EP} (I:Inv g c E) (h:bj E F):Inv g c F:=
 {I with Ej:=λa b w=>(I.Ej a b w).trans (h a b w),cls:=λx hx y hy=>(I.cls x hx y hy).trans h.conn}
theorem Inv.congr {d:aS}{E:EP} (I:Inv g c E) (W:Wf g d) (h:dQ g d c):Inv g d E where
 wf:=W
 fin:=by exact aa (funext h.up) I.fin
 Ej:=by exact aa (funext h.up) I.Ej
 cls x hx y hy:=by exact w2 (h.rt ..) (h.rt ..) (I.cls x hx y hy)
 rr x hx:=by exact (h.rt ..).trans (aa (h.rt ..) (I.rr x hx))
 mem r hr e:=by rw [h.rt] at e;refine aa (h.L 0 r ((US _)) hr) ?_;simp only [h.rt];exact I.mem r hr e
 use r hr e:=by rw [h.rt] at e;refine aa (h.L 1 r ((Ux _)) hr) ?_;simp only [h.rt];exact I.use r hr e
 Ek t ht:=by exact aa (h.sgn ..) (aa (h.table ..) (I.Ek t ht))
 BO k t e:=by rw [h.table] at e;exact (h.sgn ..).trans (I.BO k t e)
theorem yN {k t':V}:∀(vs:List V) (c:aS),ag (vs.foldl (dU g) c).table k=some t'↔ag c.table k=some t'/\¬(t'∈vs/\sgn g c t'=k):=by
 intro z9;induction z9 with
 | nil=>intro c;simp
 | cons v vs ih=>
  intro c
  have hs:∀t,sgn g (dU g c v) t=sgn g c t:=λt=>aa (qK) rfl
  refine gL (ih ..) (aa (hs ..) ?_)
  by_cases h:ag c.table (sgn g c v)=some v
  ·refine aa (show dU g c v=_ from if_pos h) (aa fC ?_)
   by_cases q:sgn g c v=k
   ·refine aa (if_pos q) ⟨λh=>(by cases h.1),λ⟨h1,h2⟩=>?_⟩
    rw [← q,h] at h1
    clear h hs;injection h1 with z0;subst z0
    exact absurd ⟨Ur,q⟩ h2
   ·refine aa (if_neg q) (gL Wn (and_congr_right λU=>not_congr ⟨λh=>⟨.inr h.1,h.2⟩,λh=>⟨h.1.resolve_left λe=>q (aR e h.2),h.2⟩⟩))
  ·refine aa (show dU g c v=_ from if_neg h) (gL Wn ?_)
   refine and_congr_right λh1=>not_congr ⟨λh=>⟨.inr h.1,h.2⟩,λh2=>⟨h2.1.resolve_left λe=>h (by exact aR e (aa h2.2 h1)),h2.2⟩⟩
end
end
end Mine.Internal.R
namespace Mine.Internal.R
noncomputable section
noncomputable def iI (e:Ed):V:=V.tup [e.1,e.2.1,e.2.2]
section
variable {g:Cfg}{c:aS}
theorem xh {b s t:V}{k:Nat} (hk:k<2):(cU c b s).L k t=if t=b then c.L k b++c.L k s else c.L k t:=by
 by_cases h:k=0
 ·refine aa h ?_
  by_cases q:t=b
  ·exact w2 q (if_pos q) (if_pos ⟨rfl,rfl⟩)
  ·exact aa (if_neg q) (if_neg λh=>q h.2)
 ·have:k=1:=by lia
  refine aa this ?_
  by_cases q:t=b
  ·exact w2 q (if_pos q) ((if_pos ⟨rfl,rfl⟩:(jT _ 1 b s).L 1 b=_).trans (w2 (pC (by decide)) (pC (by decide)) rfl))
  ·refine ((if_neg λh=>q h.2:(jT _ 1 b s).L 1 t=_).trans (pC (by decide))).trans (if_neg q).symm
structure Lk (g:Cfg) (c d:aS) (vs:List V) (kF:List Ed):Prop where
 qu:d.queue=c.queue++kF.map iI
 e1:∀k t,ag d.table k=some t->sgn g c t=k
 e2:∀k t,ag c.table k=some t->ag d.table k=some t
 e3:∀v∈vs,∃t,ag d.table (sgn g c v)=some t/\(rt c t=rt c v\/(v,t,mU)∈kF)
 e4:∀e∈kF,e.2.2=mU/\e.1∈g.Ap/\e.2.1∈g.Ap/\sgn g c e.1=sgn g c e.2.1
theorem K5 (G:aP g):∀(vs:List V) (c:aS),Wf g c->(∀v∈vs,v∈g.Ap)->(∀k t,ag c.table k=some t->sgn g c t=k)->∃kF,Lk g c (vs.foldl (dY g) c) vs kF:=by
 intro z9;induction z9 with
 | nil=>exact λc W U h=>⟨[],by simp,h,λU U h=>h,nofun,nofun⟩
 | cons v vs ih=>
  intro c W hv h
  have hs:∀t,sgn g (dY g c v) t=sgn g c t:=λt=>aa (look_same) rfl
  have hr:∀t,rt (dY g c v) t=rt c t:=λt=>aa (look_same) rfl
  have hA:=hv v Ur
  have one:∃en,Lk g c (dY g c v) [v] en:=by
   cases ho:ag c.table (sgn g c v) with
   | none=>
    refine aa (n5 ho) ?_
    have gd:∀k,ag (dput c.table (sgn g c v) v) k=_:=λk=>aO
    refine ⟨[],by simp,λk t e=>?_,λk t e=>?_,λu hu=>i12 v ?_ (.inl ((congrArg _ (List.mem_singleton.mp hu).symm))),nofun⟩
    ·rw [gd] at e
     split at e
     ·injection e with z0;subst z0;assumption
     ·exact h k t e
    ·exact (gd ..).trans ((if_neg λq=>by rw [← q,ho] at e;contradiction).trans e)
    ·exact aa (List.mem_singleton.mp hu) ((gd ..).trans (if_pos rfl))
   | some o=>
    refine aa (n6 ho) ?_
    by_cases q:rt c o=rt c v
    ·exact aa (if_pos q) ⟨[],by simp,h,λU U h=>h,λu hu=>i12 o (aa (List.mem_singleton.mp hu) ho) (.inl (aa (List.mem_singleton.mp hu) q)),nofun⟩
    ·refine aa (if_neg q) ?_
     exact ⟨[(v,o,mU)],rfl,h,λU U h=>h,λu hu=>i12 o (aa (List.mem_singleton.mp hu) ho) (.inr (aa (List.mem_singleton.mp hu) Ur)),
      λe he=>aa (List.mem_singleton.mp he) (zk rfl hA (W.kZ _ _ ho) ((h _ _ ho).symm))⟩
  refine bb one λe1 A=>?_;clear one
  refine bb (ih (dY g c v) (W.look G hA) (λu hu=>hv u (Uy _ hu)) λk t e=>(hs t).trans (A.e1 k t e)) λe2 B=>⟨e1++e2,?_,λk t e=>(hs t).symm.trans (B.e1 k t e),λk t e=>B.e2 k t (A.e2 k t e),λu hu=>?_,λe he=>?_⟩
  ·exact B.qu.trans (w2 A.qu UJ (UW ..))
  ·clear hA h hv W G;rcases List.mem_cons.mp hu with rfl | hu
   ·exact aN (A.e3 u Ur) λt h1 h2=>i12 t (B.e2 _ _ h1) (h2.imp_right λh=>U4 _ h)
   ·refine aN (B.e3 u hu) λt h1 h2=>?_
    rw [hs] at h1
    rw [hr,hr] at h2
    exact i12 t h1 (h2.imp_right λh=>VJ _ h)
  ·refine (List.mem_append.mp he).elim (λh=>?_) λh=>?_
   ·exact A.e4 e h
   ·have:=B.e4 e h;rw [hs,hs] at this;exact this
noncomputable def CM (E F:EP):EP:=λe=>E e\/F e
theorem Wf.cU (W:Wf g c) {b s:V} (hb:b∈g.T) (hs:s∈g.T) (h0:(c.L 0 b).length+(c.L 0 s).length<=8) (h1:(c.L 1 b).length+(c.L 1 s).length<=8):Wf g (cU c b s):=by
 have fp:=me (b:=b) (c.L 0 s) c.root
 have W7:=((({W with}).BL hb (d:=(c.L 0 s).foldl (λd t=>dput d t b) c.root) (λt=>by refine aa (fp.1 ..) ?_;split<;>first | exact .inr rfl | exact .inl rfl) (fp.2 _ W.root (W.L0 _ hs))).ext (k:=0) h0 hb hs).ext (k:=1) (h1) hb hs
 have W8:=W7.ext (k:=2) (by refine w2 (W7.L2 2 (by decide) _ hs) (W7.L2 2 (by decide) _ hb) ?_;decide) hb hs
 have W9:=W8.ext (k:=3) (by refine w2 (W8.L2 3 (by decide) _ hs) (W8.L2 3 (by decide) _ hb) ?_;decide) hb hs
 exact {W9 with
  val:=W9.val.put hb
  pY:=λt ht=>by
   refine (aO (d:=c.val)).trans ?_
   split
   ·rfl
   ·exact W9.pY t ht}
theorem Inv.app {E:EP} (I:Inv g c E) {b s:V} (hb:b∈g.T) (hs:s∈g.T) (eb:rt c b=b) (es:rt c s=s) (ne:s≠b):(c.L 0 b++c.L 0 s).Nodup/\(c.L 1 b++c.L 1 s).Nodup:=by
 have ms:=I.mem _ hs es
 have mb:=I.mem _ hb eb
 have us:=I.use _ hs es
 have ub:=I.use _ hb eb
 exact ⟨List.nodup_append.mpr (fc mb.1 ms.1 (λp hp q hq e=>ne (by exact aR (((ms.2 q).mp hq).2) (aR e (((mb.2 p).mp hp).2))))),
  List.nodup_append.mpr (fc ub.1 us.1 (λp hp q hq e=>ne (by exact aR (((us.2 q).mp hq).2) (aR e (((ub.2 p).mp hp).2)))))⟩
theorem Inv.pq {E:EP} (I:Inv g c E) (G:aP g) {b s:V} (hb:b∈g.T) (hs:s∈g.T) (eb:rt c b=b) (es:rt c s=s) (ne:s≠b):(c.L 0 b).length+(c.L 0 s).length<=8/\(c.L 1 b).length+(c.L 1 s).length<=8:=by
 have A:=I.app hb hs eb es ne
 have h0:=dW A.1 (m:=g.T) λx hx=>(List.mem_append.mp hx).elim (I.wf.L0 b hb x) (I.wf.L0 s hs x)
 have h1:=dW A.2 (m:=g.Ap) λx hx=>(List.mem_append.mp hx).elim (I.wf.L1 b hb x) (I.wf.L1 s hs x)
 rw [UA] at h0 h1
 exact ⟨Ut h0 G.len,Ut h1 (Ut G.IG ((Ui rfl)))⟩
noncomputable def mV (g:Cfg) (c:aS):Nat:=(g.T.filter λx=>decide (rt c x=x)).length
theorem filter_lt {p q:V->Bool}:∀ {l:List V},(∀x∈l,p x=true->q x=true)->∀ {y},y∈l->q y=true->p y=false->(l.filter p).length<(l.filter q).length:=by
 intro z9;induction z9 with
 | nil=>intro U y h U U;contradiction
 | cons x l ih=>
  intro h y hy h1 h2
  have le:(l.filter p).length<=(l.filter q).length:=by
   have:∀ {l:List V},(∀x∈l,p x=true->q x=true)->(l.filter p).length<=(l.filter q).length:=λ{l}=>by
    induction l with
    | nil=>exact λU=>Ux _
    | cons x l ih=>
     intro h
     have i:=ih λz hz=>h z (Uy _ hz)
     refine w2 Wi Wi ?_
     cases hp:p x
     ·cases q x
      ·exact i
      ·exact UP i
     ·exact aa ((h x Ur) hp) (Vn i)
   exact this λz hz=>h z (Uy _ hz)
  refine w2 Wi Wi ?_
  rcases List.mem_cons.mp hy with rfl | hy
  ·exact w2 h1 h2 (æ le)
  ·have i:=ih (λz hz=>h z (Uy _ hz)) hy h1 h2
   cases hp:p x
   ·cases q x
    ·exact i
    ·exact UR i
   ·exact aa ((h x Ur) hp) (Nat.succ_lt_succ i)
structure nI (g:Cfg) (c c':aS) (E:EP) (Rest:EP) (kF:List Ed):Prop where
 inv:Inv g c' E
 qu:c'.queue=c.queue++kF.map iI
 cl:∀t∈g.Ap,∀t'∈g.Ap,sgn g c' t=sgn g c' t'->au (CM (CM E Rest) (· ∈kF)) t t'
 pair:∀e∈kF,e.2.2=mU/\e.1∈g.Ap/\e.2.1∈g.Ap/\sgn g c' e.1=sgn g c' e.2.1
 keep:∀t∈g.Ap,∀t'∈g.Ap,sgn g c t=sgn g c t'->sgn g c' t=sgn g c' t'
 back:cu g c c'
 dec:mV g c'<mV g c
 tl:c'.trail.length<=c.trail.length+20
 ql:kF.length<=8
 sO:c'.marks=c.marks
theorem El:∀(vs:List V) (c:aS),(vs.foldl (dU g) c).queue=c.queue:=by
 intro z9;induction z9 with
 | nil=>intro U;exact rfl
 | cons v vs ih=>intro c;exact (ih _).trans (by delta dU;split<;>rfl)
end
def qN (g:Cfg) (c:aS) (E:EP) (Rest:EP) (x:V) (y:V) (w:V) (top:V) (ch:List Ed):Prop:=∀(G:aP g) (I:Inv g c E) (hx:x∈g.T) (hy:y∈g.T) (hn:¬au E x y) (hp:Pre (ag c.up) x ch top) (ht:ag c.up top=none) (W':Wf g (jU g c x y w top ch)) (hC:∀t∈g.Ap,∀t'∈g.Ap,sgn g c t=sgn g c t'->au (CM (plus E (x,y,w)) Rest) t t'),∃kF,nI g c (jU g c x y w top ch) (plus E (x,y,w)) Rest kF
noncomputable abbrev qO:=Cfg×aS×EP×EP×V×V×V×V×(List Ed)
def qP (c:qO):Prop:=qN c.1 c.2.1 c.2.2.1 c.2.2.2.1 c.2.2.2.2.1 c.2.2.2.2.2.1 c.2.2.2.2.2.2.1 c.2.2.2.2.2.2.2.1 c.2.2.2.2.2.2.2.2
noncomputable def ef:qO:=ep (⟨[],[],λU=>.none,λU=>.none,[],[],[]⟩,⟨[],[],λU=>[],[],[],[],[],[],0,0,0,λU=>.none,λU U=>[]⟩,λU=>True,λU=>True,.none,.none,.none,.none,[]) qP
namespace uf
@[irreducible] def g:Cfg:=ef.1
@[irreducible] def c:aS:=ef.2.1
@[irreducible] def E:EP:=ef.2.2.1
@[irreducible] def Rest:EP:=ef.2.2.2.1
@[irreducible] def x:V:=ef.2.2.2.2.1
@[irreducible] def y:V:=ef.2.2.2.2.2.1
@[irreducible] def w:V:=ef.2.2.2.2.2.2.1
@[irreducible] def top:V:=ef.2.2.2.2.2.2.2.1
@[irreducible] def ch:List Ed:=ef.2.2.2.2.2.2.2.2
theorem u2:qN g c E Rest x y w top ch:=by
 intro G I hx hy hn hp ht W' hC
 have W:=I.wf
 have hs:=(W.rt hx).2
 have hb:=(W.rt hy).2
 have ne:=λq=>hn ((I.cls x hx y hy).mp q)
 have ft:=FZ (λc t W U=>W.take t) (λc t W ht=>K3 G W ht) (c.L 1 (rt c x)) (fq c x y w top ch) (W.D4 (w:=w) (top:=top) hx hy hp) (W.L1 _ hs)
 have e2:kr (fq c x y w top ch) (e6 g c x y w top ch):=pB
 have Sj:cu g c (fq c x y w top ch):=cu.log W (Log.gF (y:=y) (w:=w) hx hy hp ht ⟨λU=>rfl,λU=>rfl,λU=>rfl,λU U U U=>rfl⟩) rfl
 have Oq:cu g (fq c x y w top ch) (e6 g c x y w top ch):=ft.1
 have W2:Wf g (e6 g c x y w top ch):=ft.2
 have tk:∀k t',ag (e6 g c x y w top ch).table k=some t'↔ag c.table k=some t'/\¬(t'∈c.L 1 (rt c x)/\sgn g c t'=k):=λk t'=>yN (c.L 1 (rt c x)) (fq c x y w top ch)
 have q2:(e6 g c x y w top ch).queue=c.queue:=El _ _
 have tl:(jU g c x y w top ch).trail.length<=c.trail.length+20/\(jU g c x y w top ch).queue.length<=c.queue.length+8:=by
  have a:=(md (f:=dY g) (λU U=>ue) (c.L 1 (rt c x)) (cU (e6 g c x y w top ch) (rt c y) (rt c x)))
  have b:=(md (f:=dU g) (λU U=>mc) (c.L 1 (rt c x)) (fq c x y w top ch)).1
  have h8:=W.Ll 1 _ hs
  have e1:(cU (e6 g c x y w top ch) (rt c y) (rt c x)).trail.length=(e6 g c x y w top ch).trail.length+1:=UA
  have e3:(cU (e6 g c x y w top ch) (rt c y) (rt c x)).queue.length=c.queue.length:=congrArg VA q2
  rw [e1,e3] at a
  replace b:=UA▸b
  exact ⟨Ut a.1 (aJ (Y3 _ _ _) (.a (.s Z0) Z1) (.a Z2 (.n 20)) (.a (.m 2 Z1) Z0) (.a (.m 2 (.n 8)) (.a (.s Z2) Z1)) (Uq (Vf 2 h8) b) rfl),Ut a.2 (aJ (Y2 _ _) (.a Z0 Z1) (.a Z0 (.n 8)) Z1 (.n 8) h8 rfl)⟩
 delta jU at W' tl ⊢
 revert W' tl Oq W2 tk e2 q2
 generalize e6 g c x y w top ch=c2
 intro W' e2 Oq W2 tk q2 tl
 have r2:c2.root=c.root:=by have:=congrArg aS.root e2;exact this
 have L2:c2.L=c.L:=by have:=congrArg aS.L e2;exact this
 have ms:=I.mem _ hs (I.rr x hx)
 have us:=I.use _ hs (I.rr x hx)
 have fp:=(me (b:=rt c y) (c2.L 0 (rt c x)) c2.root).1
 have r3:∀z∈g.T,rt (cU c2 (rt c y) (rt c x)) z=if rt c z=rt c x then rt c y else rt c z:=λz hz=>by
  show (ag ((c2.L 0 (rt c x)).foldl (λd t=>dput d t (rt c y)) c2.root) z).getD .none=_
  refine aa (fp ..) (w2 L2 r2 ?_)
  by_cases q:rt c z=rt c x
  ·refine aa (if_pos ((ms.2 z).mpr ⟨hz,q⟩)) (aa (if_pos q) ?_);rfl
  ·refine w2 (if_neg q) (if_neg λh=>q ((ms.2 z).mp h).2) ?_;rfl
 have s3:∀t∈g.Ap,sgn g (cU c2 (rt c y) (rt c x)) t=V.tup [g.dat t,if rt c (g.arg t)=rt c x then rt c y else rt c (g.arg t)]:=λt ht=>by
  delta sgn;exact aa (r3 _ (G.ap t ht).2.1) rfl
 have sk:∀t∈g.Ap,t∉c.L 1 (rt c x)->sgn g (cU c2 (rt c y) (rt c x)) t=sgn g c t:=λt ht h=>by
  refine (s3 t ht).trans (aa (if_neg λq=>h ((us.2 t).mpr ⟨ht,q⟩)) ?_);rfl
 have keep:∀t∈g.Ap,∀t'∈g.Ap,sgn g c t=sgn g c t'->sgn g (cU c2 (rt c y) (rt c x)) t=sgn g (cU c2 (rt c y) (rt c x)) t':=λt ht t' dV q=>by
  exact aU (dK q) λq1 q2=>w2 (s3 t ht) (s3 t' dV) (w2 (q2) q1 rfl)
 have hlen:=I.pq G hb hs (I.rr y hy) (I.rr x hx) ne
 have W3:=W2.cU hb hs (aa L2 hlen.1) (aa L2 hlen.2)
 have K6:∀t∈g.Ap,t∉c.L 1 (rt c x)->∃t',ag c2.table (sgn g c t)=some t'/\sgn g c t'=sgn g c t/\t'∈g.Ap:=λt ht h=>by
  refine bb (I.Ek t ht) λt' h1=>?_
  have h2:=I.BO _ _ h1
  exact uP t' ((tk _ _).mpr ⟨h1,λq=>h ((us.2 t).mpr ⟨ht,(((dK h2).2).symm.trans ((us.2 t').mp q.1).2)⟩)⟩) h2 (W.kZ _ _ h1)
 have t3:∀k t,ag (cU c2 (rt c y) (rt c x)).table k=some t->sgn g (cU c2 (rt c y) (rt c x)) t=k:=λk t e=>by
  refine aU ((tk k t).mp e) λh1 h2=>?_
  have h3:=I.BO k t h1
  exact (sk t (W.kZ _ _ h1) λq=>h2 ⟨q,h3⟩).trans h3
 refine bb (K5 G (c.L 1 (rt c x)) _ W3 (W.L1 _ hs) t3) λkF K=>?_
 have e4:kr (cU c2 (rt c y) (rt c x)) ((c.L 1 (rt c x)).foldl (dY g) (cU c2 (rt c y) (rt c x))):=fold_same (λU U=>look_same) _ _
 have bT:=(FZ (λc t W ht=>W.look G ht) (λc t W ht=>K4 G W ht) (c.L 1 (rt c x)) _ W3 (W.L1 _ hs)).1
 revert W' tl K e4 bT
 generalize (c.L 1 (rt c x)).foldl (dY g) (cU c2 (rt c y) (rt c x))=d
 intro W' tl K e4 bT
 have II:d.root=(cU c2 (rt c y) (rt c x)).root:=by have:=congrArg aS.root e4;exact this
 have rd:∀z,rt d z=rt (cU c2 (rt c y) (rt c x)) z:=λz=>congrArg (λr=>(ag r z).getD V.none) II
 have sd:∀t,sgn g d t=sgn g (cU c2 (rt c y) (rt c x)) t:=λt=>by delta sgn;exact aa (rd ..) rfl
 have Ld:∀k t,k<2->d.L k t=if t=rt c y then c.L k (rt c y)++c.L k (rt c x) else c.L k t:=λk t hk=>by
  have h:d.L=(cU c2 (rt c y) (rt c x)).L:=by have:=congrArg aS.L e4;exact this
  exact aa h ((xh hk).trans (aa L2 rfl))
 have ud:d.up=(fq c x y w top ch).up:=by have h1:=congrArg aS.up e4;have h2:=congrArg aS.up e2;exact h1.trans h2
 have Mv:∀r∈g.T,rt d r=r->rt c r=r/\r≠rt c x:=λr hr e=>by
  rw [rd,r3 r hr] at e
  by_cases q:rt c r=rt c x
  ·replace e:=(if_pos q)▸e
   exfalso;apply ne
   exact q.symm.trans (aR e (I.rr y hy))
  ·rw [if_neg q] at e;exact ⟨e,λh=>q ((e.trans (h)))⟩
 have cl:∀p q:V,((if p=rt c x then rt c y else p)=if q=rt c x then rt c y else q)↔p=q\/(p=rt c x/\rt c y=q)\/(p=rt c y/\rt c x=q):=λp q=>by
  by_cases h1:p=rt c x<;>by_cases h2:q=rt c x
  ·simp [h1,h2]
  ·exact aa (if_pos h1) (w2 h1 (if_neg h2) ⟨λh=>.inr (.inl ⟨rfl,h⟩),λh=>h.elim (λh=>absurd h.symm h2) λh=>h.elim (·.2) λh=>absurd h.2.symm h2⟩)
  ·exact aa (if_neg h1) (w2 h2 (if_pos h2) ⟨λh=>.inr (.inr ⟨h,rfl⟩),λh=>h.elim (λh=>absurd h h1) λh=>h.elim (λh=>absurd h.1 h1) (·.1)⟩)
  ·exact aa (if_neg h1) (aa (if_neg h2) ⟨.inl,λh=>h.elim id λh=>h.elim (λh=>absurd h.1 h1) λh=>absurd h.2.symm h2⟩)
 have cls:=λp hp q hq=>(iff_of_eq (nh Eq ((rd p).trans (r3 p hp)) ((rd q).trans (r3 q hq)))).trans ((cl _ _).trans ((or_congr (I.cls p hp q hq) (or_congr (and_congr (I.cls p hp x hx) (I.cls y hy q hq)) (and_congr (I.cls p hp y hy) (I.cls x hx q hq)))).trans (au.plus (e:=(x,y,w)) (x:=p) (y:=q)).symm))
 refine ⟨kF,⟨W',?_,?_,cls,?_,?_,?_,?_,?_⟩,?_,?_,?_,?_,?_,?_,?_,?_,?_⟩
 ·exact aa ud (eQ (I.fin y) λm t' k dV=>BD I.fin hp ht k dV λq=>hn ((hp.conn I.Ej).trans (aa q (k.conn I.Ej).symm)))
 ·exact aa ud (I.Ej.D4 hp ht)
 ·refine λz hz=>(rd ..).trans (aa (rd ..) (aa (r3 z hz) ?_))
  by_cases q:rt c z=rt c x
  ·exact aa (if_pos q) ((r3 _ hb).trans ((if_neg λh=>ne (h.symm.trans (I.rr y hy)).symm.symm).trans (I.rr y hy)))
  ·exact aa (if_neg q) ((r3 _ (W.rt hz).2).trans (aa (I.rr z hz) (if_neg q)))
 ·refine λr hr e=>aU (Mv r hr e) λe1 e2=>?_
  have mr:=I.mem r hr e1
  refine aa (Ld 0 r ((US _))) ?_
  by_cases q:r=rt c y
  ·refine aa (if_pos q) ⟨(I.app hb hs (I.rr y hy) (I.rr x hx) ne).1,λz=>gL VZ (gL ((I.mem _ hb (I.rr y hy)).2 ..) (gL (ms.2 ..) (gL (and_or_left).symm (and_congr_right λhz=>aa (rd ..) (w2 (r3 z hz) q ?_)))))⟩
   by_cases h:rt c z=rt c x
   ·exact aa (if_pos h) ⟨λU=>rfl,λU=>.inr h⟩
   ·exact aa (if_neg h) ⟨λk=>k.resolve_right h,.inl⟩
  ·refine aa (if_neg q) ⟨mr.1,λz=>(mr.2 z).trans (and_congr_right λhz=>aa (rd ..) (aa (r3 z hz) ?_))⟩
   by_cases h:rt c z=rt c x
   ·exact aa (if_pos h) ⟨λk=>absurd (k.symm.trans h) e2,λk=>absurd k.symm q⟩
   ·rw [if_neg h]
 ·refine λr hr e=>aU (Mv r hr e) λe1 e2=>?_
  have mr:=I.use r hr e1
  refine aa (Ld 1 r ((Ui rfl))) ?_
  by_cases q:r=rt c y
  ·refine aa (if_pos q) ⟨(I.app hb hs (I.rr y hy) (I.rr x hx) ne).2,λz=>gL VZ (gL ((I.use _ hb (I.rr y hy)).2 ..) (gL (us.2 ..) (gL (and_or_left).symm (and_congr_right λhz=>aa (rd ..) (w2 (r3 _ (G.ap z hz).2.1) q ?_)))))⟩
   by_cases h:rt c (g.arg z)=rt c x
   ·exact aa (if_pos h) ⟨λU=>rfl,λU=>.inr h⟩
   ·exact aa (if_neg h) ⟨λk=>k.resolve_right h,.inl⟩
  ·refine aa (if_neg q) ⟨mr.1,λz=>(mr.2 z).trans (and_congr_right λhz=>aa (rd ..) (aa (r3 _ (G.ap z hz).2.1) ?_))⟩
   by_cases h:rt c (g.arg z)=rt c x
   ·exact aa (if_pos h) ⟨λk=>absurd (k.symm.trans h) e2,λk=>absurd k.symm q⟩
   ·rw [if_neg h]
 ·refine λt ht=>aa (sd ..) ?_
  by_cases h:t∈c.L 1 (rt c x)
  ·exact (K.e3 t h).imp λU h=>h.1
  ·exact aa (sk t ht h) ((K6 t ht h).imp λt' h=>K.e2 _ _ h.1)
 ·exact λk t e=>aa (sd ..) (K.e1 k t e)
 ·exact K.qu.trans (congrArg (· ++_) q2)
 ·
  have tab:∀t∈g.Ap,∃e,ag d.table (sgn g (cU c2 (rt c y) (rt c x)) t)=some e/\au (CM (CM (plus E (x,y,w)) Rest) (· ∈kF)) t e:=λt ht=>by
   by_cases h:t∈c.L 1 (rt c x)
   ·refine aN (K.e3 t h) λe h1 h2=>i12 e h1 (h2.elim (λh2=>?_) λh2=>?_)
    ·rw [← rd,← rd] at h2
     exact ((cls t (G.ap t ht).1 e (G.ap e (W'.kZ _ _ h1)).1).mp h2.symm).mono λU h=>.inl (.inl h)
    ·exact au.gF (e:=(t,e,mU)) (.inr h2)
   ·exact i5 (K6 t ht h) λt' h1 h2 h3=>aa (sk t ht h) (i12 t' (K.e2 _ _ h1) ((hC t ht t' h3 h2.symm).mono λU h=>.inl h))
  intro t ht t' dV q
  rw [sd,sd] at q
  refine aN (tab t ht) λe h1 h2=>aN (tab t' dV) λe' Sk Sl=>?_
  rw [q,Sk] at h1
  injection h1 with z0;subst z0
  exact h2.trans Sl.symm
 ·exact λe he=>aa (sd ..) (aa (sd ..) (K.e4 e he))
 ·exact λt ht t' dV q=>aa (sd ..) (aa (sd ..) (keep t ht t' dV q))
 ·refine Sj.trans (Oq.trans (cu.trans (cu.log W2 (Log.join hs hb ne ?_ dQ.refl) rfl) bT))
  intro z hz
  replace hz:=L2▸hz
  exact aa r2 (aa ((W.rt ((ms.2 z).mp hz).1).1) (aa (((ms.2 z).mp hz).2) rfl))
 ·refine filter_lt (λr hr h=>decide_eq_true (Mv r hr (of_decide_eq_true h)).1) hs (decide_eq_true (I.rr x hx)) (decide_eq_false λh=>(Mv _ hs h).2 rfl)
 ·exact tl.1
 ·have:=tl.2
  rw [K.qu,UA,UD,show (cU c2 (rt c y) (rt c x)).queue=c.queue from q2] at this
  exact aJ (Y2 _ _) Z0 (.n 8) (.a Z1 Z0) (.a Z1 (.n 8)) this rfl
 ·have h2:=congrArg aS.marks e2;exact (congrArg aS.marks e4).trans h2
end uf
section
variable {g:Cfg}{c:aS}
theorem ug (G:aP g) {E Rest:EP} (I:Inv g c E) {x y w top:V}{ch:List Ed} (hx:x∈g.T) (hy:y∈g.T) (hn:¬au E x y) (hp:Pre (ag c.up) x ch top) (ht:ag c.up top=none) (W':Wf g (jU g c x y w top ch)) (hC:∀t∈g.Ap,∀t'∈g.Ap,sgn g c t=sgn g c t'->au (CM (plus E (x,y,w)) Rest) t t'):∃kF,nI g c (jU g c x y w top ch) (plus E (x,y,w)) Rest kF:=
 iK (P:=qP) (by with_unfolding_all exact uf.u2) (g,c,E,Rest,x,y,w,top,ch) G I hx hy hn hp ht W' hC
end
end
end Mine.Internal.R
namespace Mine.Internal.R
noncomputable section
noncomputable def gH (E:EP) (a b x y:V):EP:=λe=>E e\/(e=(a,b,mU)/\au E x y/\¬au E a b)
noncomputable def gY (E:EP) (q:Ed):EP:=λe=>E e\/(e=q/\¬au E q.1 q.2.1)
theorem bj.refl {E:EP}:bj E E:=λU U U=>X9
theorem bj.symm {E F:EP} (h:bj E F):bj F E:=λa b w=>(h a b w).symm
theorem bj.trans {E F G:EP} (h:bj E F) (k:bj F G):bj E G:=λa b w=>(h a b w).trans (k a b w)
theorem bj.of {E F:EP} (h:∀e,E e↔F e):bj E F:=λU U U=>or_congr (h _) (h _)
theorem bj.gH {E F:EP} (h:bj E F) {a b x y:V}:bj (gH E a b x y) (gH F a b x y):=λp q w=>by
 delta Mine.Internal.R.gH
 rw [h.conn,h.conn,or_or_or_comm,or_or_or_comm (a:=F (p,q,w))]
 exact or_congr (h p q w) X9
theorem j7 {E:EP}{a b x y:V} (h:au E x y->au E a b):bj (gH E a b x y) E:=.of λU=>⟨λq=>q.elim id λq=>absurd (h q.2.1) q.2.2,.inl⟩
theorem uh {E:EP}{a b x y:V}{e:Ed} (h:au E x y) (k:¬au E a b) (he:e=(a,b,mU)\/e=(b,a,mU)):bj (gH E a b x y) (plus E e):=λp q w=>by
 have key:∀p q,gH E a b x y (p,q,w)↔E (p,q,w)\/(p,q,w)=(a,b,mU):=λp q=>or_congr_right (and_iff_left ⟨h,k⟩)
 rw [key,key]
 delta plus
 have sw:∀ {p q a b:V},(p,q,w)=(a,b,mU)↔(q,p,w)=(b,a,mU):=λ{p q a b}=>by
  constructor<;>(intro h;cases h;rfl)
 rcases he with rfl | rfl
 ·exact X9
 ·rw [or_or_or_comm,or_or_or_comm (a:=E (p,q,w)) (b:=(p,q,w)=(b,a,mU))]
  exact or_congr_right (or_comm.trans (or_congr sw sw))
structure sx (g:Cfg) (c0 c1 f0 f1 g0 g1:V):Prop where
 ap:g.Ap=[f0,f1,g0,g1]
 af:g.arg f0=c0/\g.arg f1=c1/\g.arg g0=f0/\g.arg g1=f1
 da:g.dat f0=g.dat f1/\g.dat g0=g.dat g1/\g.dat f0≠g.dat g0
noncomputable def gX (c0 c1 f0 f1 g0 g1:V) (E:EP):EP:=gH (gH E f0 f1 c0 c1) g0 g1 f0 f1
def el (g:Cfg) (c:aS) (E:EP):Prop:=∀t∈g.Ap,∀t'∈g.Ap,sgn g c t=sgn g c t'->au E t t'
structure p8 (g:Cfg) (c:aS) (E:EP) (K:EP->EP) (tgt:EP) (rest:List Ed):Prop where
 pair:∀e∈rest,e.2.2=mU/\e.1∈g.Ap/\e.2.1∈g.Ap/\sgn g c e.1=sgn g c e.2.1
 cl:∀t∈g.Ap,∀t'∈g.Ap,sgn g c t=sgn g c t'->au (CM E (· ∈rest)) t t'
 tg:bj (K E) tgt
theorem au.sub {E F:EP} (h:∀e,E e->au F e.1 e.2.1) {x y} (k:au E x y):au F x y:=by
 induction k with
 | refl=>exact .refl
 | tail _ a ih=>obtain ⟨w,a | a⟩:=a
                ·exact ih.trans (h _ a)
                ·exact ih.trans (h _ a).symm
section
variable {g:Cfg}{c c':aS}{E tgt:EP}{K:EP->EP}{rest:List Ed}{q:Ed}
theorem p8.skip (P:p8 g c E K tgt (q::rest)) (h:au E q.1 q.2.1):p8 g c E K tgt rest where
 pair e he:=P.pair e (Uy _ he)
 cl t ht t' dV s:=(P.cl t ht t' dV s).sub λe he=>by
  rcases he with he | he
  ·exact au.gF (.inl he)
  ·rcases List.mem_cons.mp he with rfl | he
   ·exact h.mono λU=>.inl
   ·exact au.gF (.inr he)
 tg:=P.tg
theorem p8.join {kF} (P:p8 g c E K tgt (q::rest)) (h:nI g c c' (plus E q) (· ∈rest) kF) (hk:bj (K (plus E q)) (K E)):p8 g c' (plus E q) K tgt (rest++kF) where
 pair e he:=(List.mem_append.mp he).elim (λhe=>have p:=P.pair e (Uy _ he);(zk p.1 p.2.1 p.2.2.1 (h.keep _ p.2.1 _ p.2.2.1 p.2.2.2))) (h.pair e)
 cl t ht t' dV s:=(h.cl t ht t' dV s).mono λe he=>he.elim (λhe=>he.imp_right λhe=>U4 _ he) λhe=>.inr (VJ _ he)
 tg:=hk.trans P.tg
variable {c0 c1 f0 f1 g0 g1:V}
theorem sx.args (S:sx g c0 c1 f0 f1 g0 g1) (G:aP g) (I:Inv g c E) {t t'} (ht:t∈g.Ap) (dV:t'∈g.Ap) (h:sgn g c t=sgn g c t'):g.dat t=g.dat t'/\au E (g.arg t) (g.arg t'):=
 have h:=dK h
 ⟨h.1,(I.cls _ (G.ap t ht).2.1 _ (G.ap t' dV).2.1).mp h.2⟩
theorem s4 {P:V->Prop}{a b c d x:V} (h:x∈ [a,b,c,d]) (h1:P a) (h2:P b) (h3:P c) (h4:P d):P x:=
 (List.mem_cons.mp h).elim (λe=>aa e h1) λh=>(List.mem_cons.mp h).elim (λe=>aa e h2) λh=>(List.mem_cons.mp h).elim (λe=>aa e h3) λh=>aa (List.mem_singleton.mp h) h4
theorem sx.join (S:sx g c0 c1 f0 f1 g0 g1) (G:aP g) (I:Inv g c E) {q:Ed} (hw:q.2.2=mU) (h1:q.1∈g.Ap) (h2:q.2.1∈g.Ap) (hs:sgn g c q.1=sgn g c q.2.1) (hn:¬au E q.1 q.2.1):
 bj (gX c0 c1 f0 f1 g0 g1 (plus E q)) (gX c0 c1 f0 f1 g0 g1 E):=by
 refine aU (S.args G I h1 h2 hs) λhd ha=>CQ S.af λa0 a1 a2 a3=>eg S.da λd0 d1 d2=>?_
 have ed:au (plus E q) q.1 q.2.1:=au.gF (e:=q) (.inr rfl)
 have F:(q=(f0,f1,mU)\/q=(f1,f0,mU))->au E c0 c1->¬au E f0 f1->au (plus E q) f0 f1->bj (gX c0 c1 f0 f1 g0 g1 (plus E q)) (gX c0 c1 f0 f1 g0 g1 E):=λhe h k k'=>
  ((j7 λU=>k').trans (uh h k he).symm).gH
 have GG:(q=(g0,g1,mU)\/q=(g1,g0,mU))->au E f0 f1->¬au E g0 g1->au (plus E q) g0 g1->bj (gX c0 c1 f0 f1 g0 g1 (plus E q)) (gX c0 c1 f0 f1 g0 g1 E):=λhe h k k'=>
  (((j7 λU=>(λh=>h.mono λU=>.inl) h).gH).trans (j7 λU=>k')).trans ((j7 λU=>h).gH.trans (uh h k he)).symm
 have K:∀x y,(q.1=x->q.2.1=y->q=(x,y,mU)):=λx y h k=>Ű h (Ű k hw)
 have L:∀x y,q.1=x->q.2.1=y->¬g.dat x=g.dat y->bj (gX c0 c1 f0 f1 g0 g1 (plus E q)) (gX c0 c1 f0 f1 g0 g1 E):=λx y h k n=>absurd (aR h (aR k hd)) n
 have M:∀x,q.1=x->q.2.1=x->bj (gX c0 c1 f0 f1 g0 g1 (plus E q)) (gX c0 c1 f0 f1 g0 g1 E):=λx h k=>absurd (h.trans k.symm▸au.refl) hn
 have N1:∀x y,q.1=x->q.2.1=y->au E (g.arg x) (g.arg y)/\¬au E x y/\au (plus E q) x y:=λx y h k=>⟨aR h (aR k ha),aR h (aR k hn),aR h (aR k ed)⟩
 have T:∀x∈ [f0,f1,g0,g1],∀y∈ [f0,f1,g0,g1],q.1=x->q.2.1=y->bj (gX c0 c1 f0 f1 g0 g1 (plus E q)) (gX c0 c1 f0 f1 g0 g1 E):=λx hx y hy=>
  s4 (P:=λx=>q.1=x->q.2.1=y->bj (gX c0 c1 f0 f1 g0 g1 (plus E q)) (gX c0 c1 f0 f1 g0 g1 E)) hx
   (s4 (P:=λy=>q.1=f0->q.2.1=y->bj (gX c0 c1 f0 f1 g0 g1 (plus E q)) (gX c0 c1 f0 f1 g0 g1 E)) hy (M _) (λh k=>have n:=N1 _ _ h k;F (.inl (K _ _ h k)) (aR a0 (aR a1 n.1)) n.2.1 n.2.2) (λh k=>L _ _ h k d2) λh k=>L _ _ h k λe=>d2 (e.trans d1.symm))
   (s4 (P:=λy=>q.1=f1->q.2.1=y->bj (gX c0 c1 f0 f1 g0 g1 (plus E q)) (gX c0 c1 f0 f1 g0 g1 E)) hy (λh k=>have n:=N1 _ _ h k;F (.inr (K _ _ h k)) (aR a0 (aR a1 n.1.symm)) (λh=>n.2.1 h.symm) n.2.2.symm) (M _) (λh k=>L _ _ h k λe=>d2 (d0.trans e)) λh k=>L _ _ h k λe=>d2 (d0.trans (e.trans d1.symm)))
   (s4 (P:=λy=>q.1=g0->q.2.1=y->bj (gX c0 c1 f0 f1 g0 g1 (plus E q)) (gX c0 c1 f0 f1 g0 g1 E)) hy (λh k=>L _ _ h k λe=>d2 e.symm) (λh k=>L _ _ h k λe=>d2 (d0.trans e.symm)) (M _) λh k=>have n:=N1 _ _ h k;GG (.inl (K _ _ h k)) (aR a2 (aR a3 n.1)) n.2.1 n.2.2)
   (s4 (P:=λy=>q.1=g1->q.2.1=y->bj (gX c0 c1 f0 f1 g0 g1 (plus E q)) (gX c0 c1 f0 f1 g0 g1 E)) hy (λh k=>L _ _ h k λe=>d2 (e.symm.trans d1.symm)) (λh k=>L _ _ h k λe=>d2 (d0.trans (e.symm.trans d1.symm))) (λh k=>have n:=N1 _ _ h k;GG (.inr (K _ _ h k)) (aR a2 (aR a3 n.1.symm)) (λh=>n.2.1 h.symm) n.2.2.symm) (M _))
 exact T _ (aR S.ap h1) _ (aR S.ap h2) rfl rfl
theorem p8.done (S:sx g c0 c1 f0 f1 g0 g1) (G:aP g) (I:Inv g c E) (P:p8 g c E (gX c0 c1 f0 f1 g0 g1) tgt []):bj E tgt/\el g c E:=by
 have cl:el g c E:=λt ht t' dV s=>(P.cl t ht t' dV s).mono λe he=>he.elim id nofun
 have mk:∀ {t t'},t∈g.Ap->t'∈g.Ap->g.dat t=g.dat t'->au E (g.arg t) (g.arg t')->au E t t':=λ{t t'} ht dV hd ha=>cl t ht t' dV (by
  delta sgn;exact w2 hd ((I.cls _ (G.ap t ht).2.1 _ (G.ap t' dV).2.1).mpr ha) rfl)
 refine CQ S.af λa0 a1 a2 a3=>?_
 have Mw:=S.ap
 exact ⟨((j7 (λh=>mk (aa Mw Ur) (by refine aa Mw ?_;simp) S.da.1 (by exact w2 a0 a1 h))).gH.trans (j7 (λh=>mk (by refine aa Mw ?_;simp) (by refine aa Mw ?_;simp) S.da.2.1 (by exact w2 a2 a3 h)))).symm.trans P.tg,cl⟩
inductive PN (g:Cfg) (c:aS) (E:EP) (K:EP->EP) (tgt:EP):List Ed->Prop
 | first {p:Ed}:p.1∈g.T->p.2.1∈g.T->el g c E->bj (K (gY E p)) tgt->PN g c E K tgt [p]
 | pend {r:List Ed}:p8 g c E K tgt r->PN g c E K tgt r
theorem PN.pZ (G:aP g) (P:PN g c E K tgt (q::rest)):q.1∈g.T/\q.2.1∈g.T:=by
 cases P with
 | first a b _ _=>exact ⟨a,b⟩
 | pend P=>have p:=P.pair q Ur;exact ⟨(G.ap _ p.2.1).1,(G.ap _ p.2.2.1).1⟩
theorem PN.skip (hK:∀ {E F:EP},bj E F->bj (K E) (K F)) (P:PN g c E K tgt (q::rest)) (h:au E q.1 q.2.1):PN g c E K tgt rest:=by
 cases P with
 | first _ _ C s=>exact .pend ⟨nofun,λt ht t' dV s=>(C t ht t' dV s).mono λU=>.inl,(hK (.of λe=>⟨.inl,λk=>k.elim id λk=>absurd h k.2⟩)).trans s⟩
 | pend P=>exact .pend (P.skip h)
theorem PN.Sm (P:PN g c E K tgt (q::rest)):∀t∈g.Ap,∀t'∈g.Ap,sgn g c t=sgn g c t'->au (CM (plus E q) (· ∈rest)) t t':=by
 cases P with
 | first _ _ C _=>exact λt ht t' dV s=>(C t ht t' dV s).mono λU h=>.inl (.inl h)
 | pend P=>exact λt ht t' dV s=>(P.cl t ht t' dV s).mono λe he=>he.elim (λh=>.inl (.inl h)) λh=>(List.mem_cons.mp h).elim (λh=>.inl (.inr h)) .inr
theorem PN.join {kF} (S:sx g c0 c1 f0 f1 g0 g1) (G:aP g) (I:Inv g c E) (P:PN g c E (gX c0 c1 f0 f1 g0 g1) tgt (q::rest)) (hn:¬au E q.1 q.2.1) (h:nI g c c' (plus E q) (· ∈rest) kF):
 PN g c' (plus E q) (gX c0 c1 f0 f1 g0 g1) tgt (rest++kF):=by
 cases P with
 | first _ _ C s=>exact .pend ⟨h.pair,λt ht t' dV s=>(h.cl t ht t' dV s).mono λe he=>he.imp_left λhe=>he.elim id nofun,(bj.gH (bj.gH (.of λe=>or_congr_right ⟨λk=>⟨k,hn⟩,And.left⟩))).trans s⟩
 | pend P=>
  have p:=P.pair q Ur
  exact .pend (P.join h (S.join G I p.1 p.2.1 p.2.2.1 p.2.2.2 hn))
theorem PN.done (S:sx g c0 c1 f0 f1 g0 g1) (G:aP g) (I:Inv g c E) (P:PN g c E (gX c0 c1 f0 f1 g0 g1) tgt []):bj E tgt/\el g c E:=by
 cases P with
 | pend P=>exact P.done S G I
end
end
end Mine.Internal.R
namespace Mine.Internal.R
noncomputable section
section
variable {g:Cfg}{σ:St}{c:aS}{n:Nat}{Q:K1 V}{l:Loc}{C:Fn->List V->St->K1 V->Prop}{R:Fl->Loc->St->Prop}{r:Ss}
theorem nI.sym {c':aS}{x y w:V}{E Rest:EP}{kF} (P:nI g c c' (plus E (y,x,w)) Rest kF):nI g c c' (plus E (x,y,w)) Rest kF:=by
 have sw:∀ {p q v:V}{a b:V},(p,q,v)=(a,b,w)↔(q,p,v)=(b,a,w):=λ{p q v a b}=>by constructor<;>(intro h;cases h;rfl)
 have s:bj (plus E (y,x,w)) (plus E (x,y,w)):=λp q v=>by
  exact gL or_or_or_comm (gL (or_or_or_comm (a:=E (p,q,v)) (b:=(p,q,v)=(x,y,w))) (or_congr_right (or_comm.trans (or_congr sw sw))))
 refine {P with inv:=P.inv.sym s,cl:=λt ht t' dV q=>(P.cl t ht t' dV q).sub λe he=>?_}
 rcases he with (he | he) | he
 ·exact (s.conn.mp (au.gF he)).mono λU h=>.inl (.inl h)
 ·exact au.gF (.inl (.inr he))
 ·exact au.gF (.inr he)
theorem Em (G:aP g) {E Rest:EP} (H:Rep g σ c) (I:Inv g c E) {x y w:V} (hx:x∈g.T) (hy:y∈g.T) (hn:¬au E x y) (pL:c.trail.length<=900000) (FY:c.queue.length<=900)
 (hC:∀t∈g.Ap,∀t'∈g.Ap,sgn g c t=sgn g c t'->au (CM (plus E (x,y,w)) Rest) t t')
 (q:∀σ' c' kF,Go g σ c σ' c'->nI g c c' (plus E (x,y,w)) Rest kF->Q .none σ'):aE aH (n+5) .gP [.ref 27,x,y,w] σ Q:=by
 have W:=I.wf
 have rx:=W.rt hx
 have ry:=W.rt hy
 have ne:rt c x≠rt c y:=λh=>hn ((I.cls x hx y hy).mp h)
 refine bb (H.at_ (k:=0) (by decide) rx.2) λmx ax=>bb (H.at_ (k:=0) (by decide) ry.2) λmy ay=>eQ (I.fin x) λcx tx px Qj=>eQ (I.fin y) λcy ty py Qk=>?_
 have lx:=I.pq G ry.2 rx.2 (I.rr y hy) (I.rr x hx) ne
 have ly:=I.pq G rx.2 ry.2 (I.rr x hx) (I.rr y hy) ne.symm
 refine bH rfl rfl (nE (Ev.cmp (Ev.len (Ev.lst (k:=0) H W G rfl (by decide) (Ev.ji (x:=.a9) H rfl rfl rfl H.root W.root G.kind (Ev.nm rfl) rx.1) ax) (cN ax.get))
  (Ev.len (Ev.lst (k:=0) H W G rfl (by decide) (Ev.ji (x:=.a9) H rfl rfl rfl H.root W.root G.kind (Ev.nm rfl) ry.1) ay) (cN ay.get)) K0) (λU=>?_) λU=>?_)
 ·refine jb rfl (a6 (Ev.nm rfl) (a6 (Ev.nm rfl) (qM G H W (x:=y) (y:=x) (w:=w) ⟨rfl,rfl,rfl,rfl⟩ py Qk hy hx ne.symm ly.1 ly.2 pL FY λσ' l' hG hW=>?_)))
  have Sn:∀t∈g.Ap,∀t'∈g.Ap,sgn g c t=sgn g c t'->au (CM (plus E (y,x,w)) Rest) t t':=λt ht t' dV s=>(hC t ht t' dV s).sub λe he=>by
   rcases he with (he | rfl) | he
   ·exact au.gF (.inl (.inl he))
   ·exact (au.gF (e:=(y,x,w)) (.inl (.inr rfl))).symm
   ·exact au.gF (.inr he)
  exact bb (ug (Rest:=Rest) G I hy hx (λh=>hn h.symm) py Qk hW Sn) λkF P=>q _ _ _ hG P.sym
 ·exact qM G H W (x:=x) (y:=y) (w:=w) ⟨rfl,rfl,rfl,rfl⟩ px Qj hx hy ne lx.1 lx.2 pL FY λσ' l' hG hW=>bb (ug (Rest:=Rest) G I hx hy hn px Qj hW hC) λkF P=>q _ _ _ hG P
structure qQ (g:Cfg) (σ iJ:St) (c c':aS) (old:Nat):Prop where
 dyn:∀r o,iB c' r=some o->iJ.get r=some o
 top:∀r,iJ.next<=r->c'.role r=.none
 fix:∀i,eY i=true->c'.role i=.fix
 inj:∀r r',c'.role r=c'.role r'->c'.role r≠.none->c'.role r≠.fix->r=r'
 new:c'.role σ.next=c.role old
 ro:∀r ρ,c.role r=ρ->ρ≠.none->ρ≠c.role old->c'.role r=ρ
 yH:tZ σ c iJ c'
theorem Rep.fresh (H:Rep g σ c) {old i0:Nat}{xs:List V}{o0:O}{c':aS} (h1:c.role old≠.none) (h2:c.role old≠.fix) (hi:eY i0=true)
 (uj:c'.role=λr=>if r=σ.next then c.role old else if r=old then .none else c.role r) (HC:iB c' σ.next=some (.list xs)) (hold:∀r,c'.role r=c.role r->c.role r≠c.role old->iB c' r=iB c r):
 qQ g σ ((σ.push (.list xs)).set i0 o0) c c' old:=by
 have nq:∀ {i},c.role i≠.none->i≠σ.next:=λ{i} h q=>h (aa q (H.top _ (Ux _)))
 have new:c'.role σ.next=c.role old:=by exact aa uj (if_pos rfl)
 have gone:old≠σ.next->c'.role old=.none:=λh=>aa uj ((if_neg h).trans (if_pos rfl))
 have rest:∀ {i},i≠σ.next->i≠old->c'.role i=c.role i:=λ{i} h k=>aa uj ((if_neg h).trans (if_neg k))
 have no:=nq h1
 have ro:∀r,c.role r≠.none->c.role r≠c.role old->c'.role r=c.role r:=λr h k=>rest (nq h) λq=>k ((congrArg _ q))
 refine ⟨λi o e=>?_,λi hl=>?_,λi hl=>?_,λi j e k1 k2=>?_,new,λr ρ e h k=>(ro r (aa e h) (aa e k)).trans e,US _,λi hl hn=>⟨?_,?_⟩⟩
 ·by_cases q:i=σ.next
  ·subst q
   rw [HC] at e;injection e with z0;subst z0
   exact (bl (Vj (H.nZ hi))).trans ao
  ·have nn:=(eO e).1
   have K7:i≠old:=λx=>nn (aa x (gone no))
   have hr:=rest q K7
   have e:=(hold i hr λx=>K7 (H.inj i old x (aR hr nn) (aR hr (eO e).2))).symm.trans e
   exact (bl λz=>(eO e).2 (by exact aa z (H.fix i0 hi))).trans ((aX (H.lt (eO e).1)).trans (H.dyn i o e))
 ·have hl:σ.next+1<=i:=hl
  refine aa uj ((if_neg (Vj (aJ (Y2 _ _) (.s Z1) Z0 (.s Z1) Z0 hl rfl))).trans ?_)
  split
  ·rfl
  ·exact H.top i ((Vz ‹_›))
 ·exact (ro i (aa (H.fix i hl) nofun) (aa (H.fix i hl) h2.symm)).trans (H.fix i hl)
 ·have key:∀ {i},c'.role i≠.none->i≠σ.next->i≠old/\c'.role i=c.role i:=λ{i} k q=>have x:=(λx=>k (by exact aa x (gone no)));⟨x,rest q x⟩
  by_cases q:i=σ.next<;>by_cases q':j=σ.next
  ·exact q.trans (q'.symm)
  ·subst q
   have kj:=key (aR e k1) q'
   rw [new,kj.2] at e
   exact absurd (H.inj old j e h1 h2).symm kj.1
  ·subst q'
   have ki:=key k1 q
   rw [new,ki.2] at e
   exact absurd (H.inj i old e (aa e h1) (aa e h2)) ki.1
  ·have ki:=key k1 q
   rw [ki.2] at k1 k2 e
   exact H.inj i j ((key (aR e k1) q').2▸e) k1 k2
 ·exact (bl λz=>by rw [z,H.fix i0 hi] at hn;exact absurd hn nofun).trans (aX hl)
 ·refine aa uj ((if_neg (UZ hl)).trans ?_)
  split
  ·rfl
  ·exact hn
theorem Rep.sy (H:Rep g σ c) {old:Nat}{xs:List V}{c':aS} (F:qQ g σ ((σ.push (.list xs)).set 27 (.inst .ak (lX c'))) c c' old)
 (hc:c'={c with q:=c'.q,m:=c'.m,nw:=c'.nw,queue:=c'.queue,marks:=c'.marks,role:=c'.role}) (rq:c'.role c'.q=.q) (rm:c'.role c'.m=.ma) (rn:c'.role c'.nw=.nw) (hl:∀k t,c.role old≠.ls k t):
 Rep g ((σ.push (.list xs)).set 27 (.inst .ak (lX c'))) c':=by
 have up:∀ {i},eY i=true->i≠27->((σ.push (.list xs)).set 27 (.inst .ak (lX c'))).get i=σ.get i:=λ{i} hi HF=>(bl HF).trans (aX (H.nZ hi))
 exact {ij:=(up rfl ((of_decide_eq_true rfl))).trans H.ij,iZ:=(up rfl ((of_decide_eq_true rfl))).trans H.iZ,dX:=(up rfl ((of_decide_eq_true rfl))).trans H.dX,iA:=(up rfl ((of_decide_eq_true rfl))).trans H.iA,
        b9:=cY,root:=(up rfl ((of_decide_eq_true rfl))).trans (aa hc H.root),ph:=λk hk=>(up (eZ hk) (four (P:=λk=>fR k≠27) hk ((of_decide_eq_true rfl)) ((of_decide_eq_true rfl)) ((of_decide_eq_true rfl)) ((of_decide_eq_true rfl)))).trans (aa hc (H.ph k hk)),
        val:=(up rfl ((of_decide_eq_true rfl))).trans (aa hc H.val),up:=(up rfl ((of_decide_eq_true rfl))).trans (aa hc H.up),table:=(up rfl ((of_decide_eq_true rfl))).trans (aa hc H.table),
        told:=(up rfl ((of_decide_eq_true rfl))).trans H.told,trail:=(up rfl ((of_decide_eq_true rfl))).trans (aa hc H.trail),dyn:=F.dyn,top:=F.top,fix:=F.fix,inj:=F.inj,rq:=rq,nF:=rm,pK:=rn,
        ls:=λk t hk ht=>(H.ls k t hk ht).elim λi h=>i12 i (aa hc h.1) (F.ro i _ h.2 nofun (hl k t).symm)}
noncomputable def nJ (c:aS) (nx:Nat) (xs:List V):aS:={c with queue:=xs,q:=nx,role:=λr=>if r=nx then c.role c.q else if r=c.q then .none else c.role r}
theorem Go.BP {σ':St}{c':aS} (h:Go g σ c σ' c') (xs:List V):Go g σ c ((σ'.push (.list xs)).set 27 (.inst .ak (fM (lX c') .dz (.ref σ'.next)))) (nJ c' σ'.next xs):=by
 have H:=h.1
 have hn:(nJ c' σ'.next xs).role σ'.next=.q:=(if_pos rfl).trans H.rq
 have F:qQ g σ' ((σ'.push (.list xs)).set 27 (.inst .ak (lX (nJ c' σ'.next xs)))) c' (nJ c' σ'.next xs) c'.q:=H.fresh (aa H.rq nofun) (aa H.rq nofun) rfl rfl (bG hn) λr e hr=>by
  refine (bG e).trans ?_
  delta iB
  cases hq:c'.role r<;>first | rfl | exact absurd hq (aR H.rq hr)
 exact ⟨H.sy F rfl hn (F.ro c'.m _ H.nF nofun (aa H.rq nofun)) (F.ro c'.nw _ H.pK nofun (aa H.rq nofun)) (aa H.rq nofun),h.2.trans F.yH⟩
end
end
end Mine.Internal.R
namespace Mine.Internal.R
noncomputable section
theorem mf {l:List V}{k:Nat}:idx l (k:Int)=l[k]? :=if_pos (Int.natCast_nonneg k)
theorem pG {σ:St}{i j:Int}:hV σ .lt (.int i) (.int j)=some (decide (i<j)):=rfl
structure CL (g:Cfg) (σ:St) (c:aS) (K:EP->EP) (tgt:EP) (x:aS×EP×List Ed×List Ed) (l:Loc) (σ':St):Prop where
 go:Go g σ c σ' x.1
 inv:Inv g x.1 x.2.1
 pn:PN g x.1 x.2.1 K tgt x.2.2.2
 qu:x.1.queue=(x.2.2.1++x.2.2.2).map iI
 back:cu g c x.1
 tl:x.1.trail.length+20*mV g x.1<=c.trail.length+160
 ql:x.1.queue.length+8*mV g x.1<=200
 sO:x.1.marks=c.marks
 l1:l .ae=some (.ref 27)
 l2:l .bN=some (.int x.2.2.1.length)
structure After (g:Cfg) (c:aS) (tgt:EP) (c':aS):Prop where
 inv:Inv g c' tgt
 cl:el g c' tgt
 back:cu g c c'
 qu:c'.queue=[]
 sO:c'.marks=c.marks
 tl:c'.trail.length<=c.trail.length+160
section
variable {g:Cfg}{σ:St}{c:aS}{n:Nat}{Q:K1 V}{c0 c1 f0 f1 g0 g1:V}
theorem HG (G:aP g):mV g c<=8:=Ut (Yb _ _) G.len
theorem cu.ext {c' mS:aS} (h:cu g c c') (k:dQ g mS c') (ht:mS.trail=c'.trail):cu g c mS:=h.imp λes h=>⟨ht.trans h.1,h.2.ext k⟩
theorem bj.gX {E F:EP} (h:bj E F):bj (gX c0 c1 f0 f1 g0 g1 E) (gX c0 c1 f0 f1 g0 g1 F):=h.gH.gH
theorem uk (G:aP g) (S:sx g c0 c1 f0 f1 g0 g1) (H:Rep g σ c) {E tgt:EP}{rest:List Ed} (I:Inv g c E) (P:PN g c E (gX c0 c1 f0 f1 g0 g1) tgt rest) (hq:c.queue=rest.map iI) (hl:rest.length<=100) (ht:c.trail.length<=800000)
 (q:∀σ' c',Go g σ c σ' c'->After g c tgt c'->Q .none σ'):aE aH (n+6) .dG [.ref 27] σ Q:=by
 have HH:=HG (c:=c) G
 refine bH rfl rfl (dT Ev.int (dJ (λx=>9*mV g x.1+x.2.2.2.length) (CL g σ c (gX c0 c1 f0 f1 g0 g1) tgt) (c,E,[],rest) (Vk (m:=172) (by show 9*mV g c+rest.length<=172;exact aJ (Y2 _ _) (.a (.m 9 Z0) Z1) (.n 172) (.a Z1 (.m 9 Z0)) (.a (.n 100) (.m 9 (.n 8))) (Uq hl (Vf 9 HH)) rfl) (Ui rfl))
  ⟨Go.refl H,I,P,hq,cu.refl,by show c.trail.length+20*mV g c<=_;exact aJ (Y2 _ _) (.a Z0 (.m 20 Z1)) (.a Z0 (.n 160)) (.m 20 Z1) (.m 20 (.n 8)) (Vf 20 HH) rfl,by show c.queue.length+8*mV g c<=200;exact aa hq (aa (UD ..) (aJ (Y2 _ _) (.a Z0 (.m 8 Z1)) (.n 200) (.a Z0 (.m 8 Z1)) (.a (.n 100) (.m 8 (.n 8))) (Uq hl (Vf 8 HH)) rfl)),rfl,rfl,rfl⟩ ?_))
 intro x l σ' K J K1
 obtain ⟨d,F,dn,rs⟩:=x
 have H':=J.go.1
 have Ql:σ'.get d.q=some (.list ((dn++rs).map iI)):=H'.queue.trans (congrArg (λx=>some (O.list x)) J.qu)
 have hlen:=Ev.len (Ev.b9 H' J.l1 (x:=.dz) rfl rfl) (cN Ql)
 cases rs with
 | nil=>
  refine a6 (Ev.KL (c:=true) (Ev.cmp (Ev.nm J.l2) hlen (pG.trans (congrArg some (decide_eq_false (by simp)))))) (bS .nil (by exact U3 _) (lV (R:=fk Q) (r:=.nil) (Ev.nm J.l1) ((aX (H'.nZ rfl)).trans H'.b9) rfl (Ui rfl) (q _ _ (J.go.BP []) ?_)))
  have dn:=J.pn.done S G J.inv
  have ab:dQ g (nJ d σ'.next []) d:=⟨λU=>rfl,λU=>rfl,λU=>rfl,λU U U U=>rfl⟩
  exact ⟨(J.inv.sym dn.1).congr {J.inv.wf with} ab,λt ht t' dV s=>(dn.2 t ht t' dV s) |>dn.1.conn.mp,J.back.ext ab rfl,rfl,J.sO,Ut (U9 _ _) J.tl⟩
 | cons p rs=>
  have hi:=J.pn.pZ G
  refine a6 (Ev.IY (Ev.cmp (Ev.nm J.l2) hlen (pG.trans (congrArg some (decide_eq_true (by simp;lia))))) (Ev.bo (Ev.l9 (Ev.b9 H' J.l1 (x:=.fX) rfl rfl)))) ?_
  have hp:idx ((dn++p::rs).map iI) (dn.length:Int)=some (iI p):=by refine mf.trans ?_;simp
  refine KP (Ev.sub (Ev.b9 H' J.l1 (x:=.dz) rfl rfl) (Ev.nm J.l2) (fW Ql hp)) rfl rfl rfl (dT (Ev.ko (Ev.nm J.l2) Ev.int rfl) ?_)
  have r1:=J.inv.wf.rt hi.1
  have r2:=J.inv.wf.rt hi.2
  have tl:=J.tl
  have ql:=J.ql
  dsimp only at tl ql
  refine nE (Ev.cmp (Ev.ji (x:=.a9) H' (by exact J.l1) rfl rfl H'.root J.inv.wf.root G.kind (Ev.nm rfl) r1.1) (Ev.ji (x:=.a9) H' (by exact J.l1) rfl rfl H'.root J.inv.wf.root G.kind (Ev.nm rfl) r2.1) (qI (G.int _ r1.2) (G.int _ r2.2))) (λhb=>?_) λhb=>?_
  ·have hn:¬au F p.1 p.2.1:=λh=>by
    rw [decide_eq_true ((J.inv.cls _ hi.1 _ hi.2).mpr h)] at hb;cases hb
   refine b8 (aF (Ev.nm J.l1) H'.b9 rfl (.cons (Ev.nm rfl) (.cons (Ev.nm rfl) (.cons (Ev.nm rfl) .nil))) (Em (c:=d) (w:=p.2.2) (Rest:=(· ∈rs)) G H' J.inv hi.1 hi.2 hn (aJ (Y3 _ _ _) Z0 (.n 900000) (.a Z1 (.a Z0 (.m 20 Z2))) (.a (.n 800000) (.a Z1 (.n 160))) (Uq ht tl) rfl) (aJ (Y2 _ _) Z0 (.n 900) (.a Z0 (.m 8 Z1)) (.n 200) ql rfl) J.pn.Sm λbU d' kF hG P=>?_))
   have dec:mV g d'<mV g d:=P.dec
   have Ub:d'.trail.length<=d.trail.length+20:=P.tl
   have So:=P.ql
   refine K1 (d',plus F p,dn++ [p],rs++kF) _ _ (by simp only [UA,Vm];exact aJ (Y4 _ _ _ _) (.s (.a (.m 9 Z0) (.a Z1 Z2))) (.a (.m 9 Z3) (.s Z1)) (.a (.m 9 (.s Z0)) Z2) (.a (.m 9 Z3) (.n 8)) (Uq (Vf 9 dec) So) rfl)
    ⟨J.go.trans hG,P.inv,J.pn.join S G J.inv hn P,?_,J.back.trans P.back,by show d'.trail.length+20*mV g d'<=_;lia,?_,P.sO.trans J.sO,J.l1,?_⟩
   ·refine P.qu.trans (aa J.qu ?_);simp
   ·show d'.queue.length+8*mV g d'<=200
    refine aa P.qu (aa UA (aa (UD ..) ?_));lia
   ·show some (V.int ((dn.length:Int)+1))=some (V.int ((dn++ [p]).length:Int))
    exact aa UA rfl
  ·have hy:au F p.1 p.2.1:=(J.inv.cls _ hi.1 _ hi.2).mp (of_decide_eq_true (by revert hb;cases decide (rt d p.1=rt d p.2.1)<;>simp))
   refine K1 (d,F,dn++ [p],rs) _ _ (by simp) ⟨J.go,J.inv,J.pn.skip bj.gX hy,?_,J.back,tl,ql,J.sO,J.l1,?_⟩
   ·refine J.qu.trans ?_;simp
   ·exact aa UA rfl
end
end
end Mine.Internal.R
namespace Mine.Internal.R
noncomputable section
section
variable {g:Cfg}{σ:St}{c:aS}{n:Nat}{Q:K1 V}{l:Loc}{C:Fn->List V->St->K1 V->Prop}{R:Fl->Loc->St->Prop}{r:Ss}{c0 c1 f0 f1 g0 g1:V}
theorem Ev.neg {i}:Ev l σ (.neg i) (.int (-i)):=λU U q=>q
theorem After.trans {E F:EP}{c' mS:aS} (h:After g c E c') (k:After g c' F mS) (ht:mS.trail.length<=c'.trail.length):After g c F mS:=
 ⟨k.inv,k.cl,h.back.trans k.back,k.qu,k.sO.trans h.sO,Ut ht h.tl⟩
theorem BQ (G:aP g) (S:sx g c0 c1 f0 f1 g0 g1) {E:EP} (I:Inv g c E) (Cl:el g c E):bj E (gX c0 c1 f0 f1 g0 g1 E):=
 ((p8.done (tgt:=gX c0 c1 f0 f1 g0 g1 E) S G I ⟨nofun,λt ht t' dV s=>(Cl t ht t' dV s).mono λU=>.inl,bj.refl⟩).1)
theorem pH (G:aP g) (S:sx g c0 c1 f0 f1 g0 g1) (H:Rep g σ c) {E:EP} (I:Inv g c E) (Cl:el g c E) (hq:c.queue=[]) (ht:c.trail.length<=800000)
 (q:∀σ' c',Go g σ c σ' c'->After g c E c'->Q .none σ'):aE aH (n+6) .dG [.ref 27] σ Q:=
 uk (rest:=[]) G S H I (.pend ⟨nofun,λt ht t' dV s=>(Cl t ht t' dV s).mono λU=>.inl,bj.refl⟩) hq (by decide) ht λσ' c' hG A=>
  q σ' c' hG (by
   have s:=(BQ G S I Cl).symm
   exact ⟨A.inv.sym s,λt h t' h' e=>s.conn.mp (A.cl t h t' h' e),A.back,A.qu,A.sO,A.tl⟩)
structure AT (σ:St) (t:V) (b:Bool) (l:Loc) (σ':St):Prop where
 ext:Ext σ σ'
 lt:σ.next<σ'.next
 get:σ'.get σ.next=some (.list (if b then [t] else []))
 l1:l .ae=some (.ref 27)
 l2:l .iP=some (.ref σ.next)
theorem BR (G:aP g) (S:sx g c0 c1 f0 f1 g0 g1) (H:Rep g σ c) {E:EP}{t:V} (hT:t∈g.T) (I:Inv g c E) (Cl:el g c E) (hq:c.queue=[]) (ht:c.trail.length<=800000)
 (q:∀σ' c',Go g σ c σ' c'->After g c E c'->Q .none σ'):aE aH (n+7) .cM [.ref 27,t] σ Q:=by
 have hr:=I.wf.rt hT
 have hk:=I.wf.root.key G.kind hT
 refine bH rfl rfl (gG (bS (.cons (Ev.nm rfl) .nil) (Ui rfl) (dJ (λb=>b.toNat) (AT σ t) true (by decide) ⟨Ext.push,Uw _,ao,rfl,rfl⟩ ?_)))
 intro b l σ' K J K1
 have H':=H.ext J.ext
 have CJ:=Ev.cmp (op:=.gt) (Ev.len (Ev.nm J.l2) (cN J.get)) (Ev.int (i:=0)) rfl
 cases b with
 | false=>exact a6 CJ (b8 (aF (Ev.nm J.l1) H'.b9 rfl .nil (pH G S H' I Cl hq ht λbU c' hG A=>q bU c' (((Go.refl H).ext J.ext).trans hG) A)))
 | true=>
  refine a6 CJ (dT (Ev.sub (Ev.nm J.l2) Ev.neg (fW J.get rfl)) (gG (bS .nil (by decide) ?_)))
  have E2:Ext σ (σ'.push (.list [])):=J.ext.trans Ext.push
  have H2:=H.ext E2
  refine dw ((λ(l:Loc) (l1:l .ae=some (.ref 27)) (l2:l .aV=some t)=>Ev.cmp (Ev.nm l2) (Ev.b9 H2 l1 (x:=.a9) rfl rfl) (j6 H2.root hk hr.1)) _ J.l1 rfl) (dw (Ev.cmp (op:=.gt) (Ev.len (Ev.nm rfl) (cN ao)) Ev.int rfl) ?_)
  have hg:=(aX (o:=.list []) J.lt).trans J.get
  refine b8 (sm (xs:=[]) (Ev.nm J.l2) hg ?_)
  have E3:=E2.set (o:=.list []) (Ux σ.next)
  have H3:=H.ext E3
  exact dw (Ev.cmp (Ev.nm rfl) (Ev.b9 H3 J.l1 (x:=.a9) rfl rfl) (j6 H3.root hk hr.1)) (K1 false _ _ (by decide) ⟨E3,UR J.lt,cY,J.l1,J.l2⟩)
theorem BS (G:aP g) (S:sx g c0 c1 f0 f1 g0 g1) (H:Rep g σ c) {E:EP}{a b w:V} (ha:a∈g.T) (hb:b∈g.T) (I:Inv g c E) (Cl:el g c E) (hq:c.queue=[]) (ht:c.trail.length<=700000)
 (q:∀σ' c',Go g σ c σ' c'->Inv g c' (gX c0 c1 f0 f1 g0 g1 (gY E (a,b,w)))->el g c' (gX c0 c1 f0 f1 g0 g1 (gY E (a,b,w)))->cu g c c'->c'.queue=[]->c'.marks=c.marks->c'.trail.length<=c.trail.length+480->Q .none σ'):
 aE aH (n+8) .gn [.ref 27,a,b,w] σ Q:=by
 refine bH rfl rfl (b8 (aF (Ev.nm rfl) H.b9 rfl (.cons (Ev.nm rfl) .nil) (BR G S H ha I Cl hq (aJ (Y1 _) Z0 (.n 800000) Z0 (.n 700000) ht rfl) λfe d1 k1 A1=>?_)))
 have t1:=A1.tl
 refine b8 (aF (Ev.nm rfl) k1.1.b9 rfl (.cons (Ev.nm rfl) .nil) (BR G S k1.1 hb A1.inv A1.cl A1.qu (aJ (Y2 _ _) Z0 (.n 800000) (.a Z1 Z0) (.a (.n 700000) (.a Z1 (.n 160))) (Uq ht t1) rfl) λiJ d2 k2 A2=>?_))
 have t2:=A2.tl
 refine b8 (a5 (Ev.b9 k2.1 rfl rfl rfl) (k2.1.queue.trans (by exact aa A2.qu rfl)) (Ev.tup (.cons (Ev.nm rfl) (.cons (Ev.nm rfl) (.cons (Ev.nm rfl) .nil))) (Ui rfl)) (by decide) ?_)
 have k3:=k2.queue [iI (a,b,w)]
 have B3:cu g d2 {d2 with queue:=[iI (a,b,w)]}:=cu.refl.ext ⟨λU=>rfl,λU=>rfl,λU=>rfl,λU U U U=>rfl⟩ rfl
 exact b8 (aF (Ev.nm rfl) k3.1.b9 rfl .nil (uk (c:={d2 with queue:=[iI (a,b,w)]}) (tgt:=gX c0 c1 f0 f1 g0 g1 (gY E (a,b,w))) (rest:=[(a,b,w)]) G S k3.1 (A2.inv.congr {A2.inv.wf with} ⟨λU=>rfl,λU=>rfl,λU=>rfl,λU U U U=>rfl⟩) (.first ha hb A2.cl bj.refl) rfl (Ui rfl) (by exact aJ (Y3 _ _ _) Z0 (.n 800000) (.a (.a Z1 Z2) Z0) (.a (.a (.n 700000) (.a Z1 (.n 160))) (.a Z2 (.n 160))) (Uq (Uq ht t1) t2) rfl) λyO d4 k4 A4=>q _ _ (k1.trans (k3.trans k4)) A4.inv A4.cl (A1.back.trans (A2.back.trans (B3.trans A4.back))) A4.qu (A4.sO.trans (A2.sO.trans A1.sO)) (aJ (Y4 _ _ _ _) Z0 (.a Z1 (.n 480)) (.a (.a Z2 Z3) Z0) (.a (.a (.a Z1 (.n 160)) (.a Z2 (.n 160))) (.a Z3 (.n 160))) (Uq (Uq t1 t2) A4.tl) rfl)))
theorem Go.marks {σ' c'} (h:Go g σ c σ' c') (d):Go g σ c (σ'.set c'.m (.list d)) {c' with marks:=d}:=by
 have hr:c'.role c'.m≠.none/\c'.role c'.m≠.fix:=by exact aa h.1.nF ⟨nofun,nofun⟩
 refine ⟨h.1.BA hr rfl (bG (c:={c' with marks:=d}) h.1.nF) λr hn=>?_,h.2.trans (h.1.DY hr.1 λr h=>h)⟩
 rw [h.1.nF] at hn
 unfold iB
 cases hq:c'.role r<;>first | rfl | exact absurd hq hn
theorem Rep.marks (H:Rep g σ c):σ.get c.m=some (.list c.marks):=H.dyn _ _ (bG H.nF)
theorem Eo (H:Rep g σ c) (hl:c.marks.length<=1000) (q:∀σ',Go g σ c σ' {c with marks:=c.marks++ [.int c.trail.length]}->Q .none σ'):aE aH (n+1) .eG [.ref 27] σ Q:=
 bH rfl rfl (b8 (a5 (Ev.b9 H rfl (x:=.aQ) rfl rfl) H.marks (Ev.len (Ev.b9 H rfl (x:=.cL) rfl rfl) (cN H.trail)) (lim hl) (q _ ((Go.refl H).marks _))))
end
end
end Mine.Internal.R
namespace Mine.Internal.R
noncomputable section
section
variable {g:Cfg}{σ:St}{c:aS}{n:Nat}{Q:K1 V}{l:Loc}{C:Fn->List V->St->K1 V->Prop}{R:Fl->Loc->St->Prop}{r:Ss}
noncomputable def mh (c:aS) (nx:Nat) (xs:List V):aS:={c with marks:=xs,m:=nx,role:=λr=>if r=nx then c.role c.m else if r=c.m then .none else c.role r}
noncomputable def xi (c:aS) (nx:Nat):aS:={c with nw:=nx,role:=λr=>if r=nx then c.role c.nw else if r=c.nw then .none else c.role r}
noncomputable def zi (c:aS) (k:Nat) (t:V) (xs:List V) (nx old:Nat):aS:={c with dk:=λk'=>if k'=k then dput (c.dk k) t (.ref nx) else c.dk k',role:=λr=>if r=nx then c.role old else if r=old then .none else c.role r,L:=dc c.L k t xs}
theorem Go.Ot {σ':St}{c':aS} (h:Go g σ c σ' c') (xs:List V):Go g σ c ((σ'.push (.list xs)).set 27 (.inst .ak (fM (lX c') .aQ (.ref σ'.next)))) (mh c' σ'.next xs):=by
 have H:=h.1
 have hn:(mh c' σ'.next xs).role σ'.next=.ma:=(if_pos rfl).trans H.nF
 have F:qQ g σ' ((σ'.push (.list xs)).set 27 (.inst .ak (lX (mh c' σ'.next xs)))) c' (mh c' σ'.next xs) c'.m:=H.fresh (aa H.nF nofun) (aa H.nF nofun) rfl rfl (bG hn) λr e hr=>by
  refine (bG e).trans ?_
  delta iB
  cases hq:c'.role r<;>first | rfl | exact absurd hq (aR H.nF hr)
 exact ⟨H.sy F rfl (F.ro c'.q _ H.rq nofun (aa H.nF nofun)) hn (F.ro c'.nw _ H.pK nofun (aa H.nF nofun)) (aa H.nF nofun),h.2.trans F.yH⟩
theorem Go.Ou {σ':St}{c':aS} (h:Go g σ c σ' c'):Go g σ c ((σ'.push (.list [])).set 27 (.inst .ak (fM (lX c') .hJ (.ref σ'.next)))) (xi c' σ'.next):=by
 have H:=h.1
 have hn:(xi c' σ'.next).role σ'.next=.nw:=(if_pos rfl).trans H.pK
 have F:qQ g σ' ((σ'.push (.list [])).set 27 (.inst .ak (lX (xi c' σ'.next)))) c' (xi c' σ'.next) c'.nw:=H.fresh (aa H.pK nofun) (aa H.pK nofun) rfl rfl (bG hn) λr e hr=>by
  refine (bG e).trans ?_
  delta iB
  cases hq:c'.role r<;>rfl
 exact ⟨H.sy F rfl (F.ro c'.q _ H.rq nofun (aa H.pK nofun)) (F.ro c'.m _ H.nF nofun (aa H.pK nofun)) hn (aa H.pK nofun),h.2.trans F.yH⟩
theorem um:∀k,k<4->∀k',k'<4->fR k=fR k'->k=k':=(of_decide_eq_true rfl)
theorem Go.K8 {σ':St}{c':aS} (h:Go g σ c σ' c') {k t old} (hk:k<4) (ht:t∈g.T) (a:At σ' c' k t old) (xs:List V):
 Go g σ c ((σ'.push (.list xs)).set (fR k) (.dict (dput (c'.dk k) t (.ref σ'.next)))) (zi c' k t xs σ'.next old):=by
 have H:=h.1
 have hn:(zi c' k t xs σ'.next old).role σ'.next=.ls k t:=(if_pos rfl).trans a.role
 have F:qQ g σ' ((σ'.push (.list xs)).set (fR k) (.dict (dput (c'.dk k) t (.ref σ'.next)))) c' (zi c' k t xs σ'.next old) old:=H.fresh a.own.1 a.own.2 (eZ hk) rfl ((bG hn).trans (congrArg (λx=>some (O.list x)) (if_pos ⟨rfl,rfl⟩))) λr e hr=>by
  refine (bG e).trans ?_
  delta iB
  cases hq:c'.role r with
  | ls k' t'=>exact congrArg (λx=>some (O.list x)) (if_neg λq=>(a.role▸hr) ((hq.trans (w2 q.1 q.2 rfl))))
  | _=>rfl
 have up:∀ {i},eY i=true->i≠fR k->((σ'.push (.list xs)).set (fR k) (.dict (dput (c'.dk k) t (.ref σ'.next)))).get i=σ'.get i:=λ{i} hi HF=>(bl HF).trans (aX (H.nZ hi))
 have Å:∀ {i},eY i=true->DX i=true->_:=λ{i} h k=>up (i:=i) h (xa hk k)
 exact ⟨{ij:=(Å rfl rfl).trans H.ij,iZ:=(Å rfl rfl).trans H.iZ,dX:=(Å rfl rfl).trans H.dX,iA:=(Å rfl rfl).trans H.iA,
         b9:=(Å rfl rfl).trans H.b9,root:=(Å rfl rfl).trans H.root,
         ph:=λk' tM=>by
          by_cases q:k'=k
          ·exact aa q (cY.trans (congrArg (λx=>some (O.dict x)) (if_pos rfl).symm))
          ·exact (up (eZ tM) λe=>q (um _ tM _ hk e)).trans ((H.ph k' tM).trans (congrArg (λx=>some (O.dict x)) (if_neg q).symm))
         val:=(Å rfl rfl).trans H.val,up:=(Å rfl rfl).trans H.up,table:=(Å rfl rfl).trans H.table,
         told:=(Å rfl rfl).trans H.told,trail:=(Å rfl rfl).trans H.trail,dyn:=F.dyn,top:=F.top,fix:=F.fix,inj:=F.inj,
         rq:=F.ro c'.q _ H.rq nofun (aa a.role nofun),nF:=F.ro c'.m _ H.nF nofun (aa a.role nofun),pK:=F.ro c'.nw _ H.pK nofun (aa a.role nofun),
         ls:=λk' t' tM dV=>by
          by_cases q:k'=k/\t'=t
          ·refine aU q λz1 z2=>?_;clear q;refine aa z1 ?_;subst z2
           exact i12 σ'.next ((congrArg (λd=>ag d t') (if_pos rfl)).trans (aO.trans (if_pos rfl))) hn
          ·refine aN (H.ls k' t' tM dV) λi h1 h2=>i12 i ?_ (F.ro i _ h2 nofun (by refine aa a.role ?_;intro e;cases e;exact q ⟨rfl,rfl⟩))
           by_cases e:k'=k
           ·cases e
            exact (congrArg (λd=>ag d t') (if_pos rfl)).trans (aO.trans ((if_neg λx=>q ⟨rfl,x.symm⟩).trans h1))
           ·exact (congrArg (λd=>ag d t') (if_neg e)).trans h1},h.2.trans F.yH⟩
theorem Wf.ls (W:Wf g c) {k t nx old}{xs:List V} (ht:t∈g.T) (hs:∀x∈xs,x∈c.L k t) (hl:xs.length<=(c.L k t).length):Wf g (zi c k t xs nx old):=
 {W with
  dk:=λk'=>by
   show eR _ (if k'=k then _ else _)
   split
   ·exact (W.dk k).put ht
   ·exact W.dk k'
  L0:=λu hu x hx=>by
   by_cases q:0=k/\u=t
   ·rw [show (zi c k t xs nx old).L 0 u=_ from if_pos q] at hx
    rw [← q.1] at hs;exact W.L0 t ht x (hs x hx)
   ·rw [show (zi c k t xs nx old).L 0 u=_ from if_neg q] at hx;exact W.L0 u hu x hx
  L1:=λu hu x hx=>by
   by_cases q:1=k/\u=t
   ·rw [show (zi c k t xs nx old).L 1 u=_ from if_pos q] at hx
    rw [← q.1] at hs;exact W.L1 t ht x (hs x hx)
   ·rw [show (zi c k t xs nx old).L 1 u=_ from if_neg q] at hx;exact W.L1 u hu x hx
  Ll:=λj u hu=>by
   by_cases q:j=k/\u=t
   ·rw [show (zi c k t xs nx old).L j u=_ from if_pos q];exact Ut hl (W.Ll k t ht)
   ·rw [show (zi c k t xs nx old).L j u=_ from if_neg q];exact W.Ll j u hu
  L2:=λj hj u hu=>by
   by_cases q:j=k/\u=t
   ·rw [show (zi c k t xs nx old).L j u=_ from if_pos q]
    rw [← q.1,W.L2 j hj t ht] at hl
    exact Vp (Nat.le_zero.mp hl)
   ·rw [show (zi c k t xs nx old).L j u=_ from if_neg q];exact W.L2 j hj u hu}
theorem uo {o k d dd y}{v:V} (ho:Ev l σ o (.ref d)) (hk:Ev l σ k y) (hd:σ.get d=some (.dict dd)) (hy:keyOk dd y=true) (hl:dd.length+1<=dj) (q:aG C r l (σ.set d (.dict (dput dd y v))) R):
 aK C o l σ λw σ=>aK C k l σ λy σ=>aC (dictAt σ w) λp=>ei (keyOk p.2 y) (mG σ p.1 (p.2.length+1) (.dict (dput p.2 y v)) λσ=>(nk C r R) Fl.next l σ):=
 ho C _ (hk C _ (ah (a:=(d,dd)) (dt hd) (aq hy (bP hl q))))
theorem uq {o k e} (h:aK C e l σ λv σ=>aK C o l σ λw σ=>aK C k l σ λy σ=>aC (dictAt σ w) λp=>ei (keyOk p.2 y) (mG σ p.1 (p.2.length+1) (.dict (dput p.2 y v)) λσ=>(nk C r R) Fl.next l σ)):
 aG C (.cons (.bw o k e) r) l σ R:=h
def ur (c c':aS):Prop:=c'={c with dk:=c'.dk,role:=c'.role,L:=c'.L}
theorem ur.trans {c d e:aS} (h:ur c d) (k:ur d e):ur c e:=(aa k (aa h rfl))
theorem mi (k:Nat) (hk:k<4) {nH c₀} (h:Go g nH c₀ σ c) (W:Wf g c) (G:aP g) (l1:l .ae=some (.ref 27)) {t} (l2:l .br=some t) (ht:t∈g.T) {e}{m:Nat} (he:Ev l σ e (.int m)) (hm:m<=1000)
 (q:∀σ' c',Go g nH c₀ σ' c'->Wf g c'->ur c c'->c'.L=dc c.L k t ((c.L k t).take m)->aG C r l σ' R):
 aG C (.cons (.bw (.attr (.nm .ae) (kx k)) (.nm .br) (.sliceTo (.sub (.attr (.nm .ae) (kx k)) (.nm .br)) e)) r) l σ R:=by
 refine bb (h.1.at_ hk ht) λold a=>?_
 have H2:=h.1.ext (Ext.push (o:=.list ((c.L k t).take m)))
 exact uq (fA (Ev.lst h.1 W G l1 hk (Ev.nm l2) a) a.get he (fS hm) (fS (Ut (W.Ll k t ht) (by simp))) (uo (Ev.b9 H2 l1 (vY hk) (vZ hk)) (Ev.nm l2) (H2.ph k hk) ((W.dk k).key G.kind ht) ((W.dk k).lim (Ut G.len (by simp))) (q _ _ (h.K8 hk ht a _) (W.ls ht (λx hx=>WY hx) (aa ç (WT _ _))) rfl rfl)))
end
end
end Mine.Internal.R
namespace Mine.Internal.R
noncomputable section
structure Un (g:Cfg) (d d' c:aS):Prop where
 wf:Wf g d'
 ab:dQ g d' c
 tr:d'.trail=d.trail
 qu:d'.queue=d.queue
 sO:d'.marks=d.marks
section
variable {g:Cfg}{σ:St}{c c1 c2 d:aS}{n:Nat}{Q:K1 V}{l:Loc}{C:Fn->List V->St->K1 V->Prop}{R:Fl->Loc->St->Prop}{r:Ss}
theorem e7 {L:Nat->V->List V}{k t xs j u}:dc L k t xs j u=if j=k/\u=t then xs else L j u:=rfl
theorem Ep (G:aP g) (H:Rep g σ d) (W:Wf g d) {s b:V} (hs:s∈g.T) (hb:b∈g.T) (ne:s≠b) (hz:∀z∈c1.L 0 s,ag c1.root z=some s) (W1:Wf g c1) (ab:dQ g d (cU c1 b s))
 (q:∀σ' d',Go g σ d σ' d'->Un g d d' c1->Q .none σ'):aE aH (n+1) .gQ [.ref 27,s,b,pq c1 b,.int 0] σ Q:=by
 have e4:∀k,(c1.L k b).length<=1000:=λk=>Ut (W1.Ll k b hb) (by exact Ui rfl)
 have dL:=λk t hk ht=>(ab.L k t hk ht).trans (xh hk)
 refine bH rfl rfl (mi 0 ((Vb _)) (Go.refl H) W G rfl rfl hb (Ev.sub (Ev.nm rfl) Ev.int rfl) (e4 0) λfe dA h1 V1 s1 L1=>mi 1 ((Ui rfl)) h1 V1 G rfl rfl hb (Ev.sub (Ev.nm rfl) Ev.int rfl) (e4 1) λiJ dB h2 V2 s2 L2=>mi 2 ((Ui rfl)) h2 V2 G rfl rfl hb (Ev.sub (Ev.nm rfl) Ev.int rfl) (e4 2) λi3 dC h3 V3 s3 L3=>mi 3 ((Ui rfl)) h3 V3 G rfl rfl hb (Ev.sub (Ev.nm rfl) Ev.int rfl) (e4 3) λyO dD h4 V4 s4 L4=>cC (Ev.nm rfl) (Ev.b9 h4.1 rfl rfl rfl) (Ev.nm rfl) h4.1.val (V4.val.key G.kind hb) (V4.val.lim (Ut G.len ((Ui rfl)))) ?_)
 have sD:=s1.trans (s2.trans (s3.trans s4))
 have h5:=h4.val (dput dD.val b (.int 0))
 have V5:Wf g {dD with val:=dput dD.val b (.int 0)}:={V4 with
  val:=V4.val.put hb
  pY:=λt ht=>by
   refine (aO (d:=dD.val)).trans ?_
   split
   ·rfl
   ·exact V4.pY t ht}
 have Ls:∀k t,k<2->t∈g.T->dD.L k t=c1.L k t:=λk t hk ht=>by
  refine aa L4 (e7.trans ((if_neg (by lia)).trans (aa L3 (e7.trans ((if_neg (by lia)).trans (aa L2 (e7.trans (aa L1 ?_))))))))
  by_cases q1:k=1/\t=b
  ·exact (if_pos q1).trans (aa e7 (aa q1.1 (aa q1.2 (aa (dL 1 b ((of_decide_eq_true rfl)) hb) (aa (if_pos rfl) (Ym))))))
  ·refine (if_neg q1).trans (e7.trans ?_)
   by_cases q0:k=0/\t=b
   ·exact (if_pos q0).trans (aa q0.1 (aa q0.2 (aa (dL 0 b (by decide) hb) (aa (if_pos rfl) (Ym)))))
   ·rw [if_neg q0,dL k t hk ht,if_neg λe=>by
     have:k=0\/k=1:=by lia
     exact this.elim (λx=>q0 ⟨x,e⟩) λx=>q1 ⟨x,e⟩]
 refine uc G h5.1 V5 rfl rfl rfl ((of_decide_eq_true rfl)) hs λl' σ' h6 U=>q _ _ (h5.trans h6) ?_
 have fp:=me (b:=s) (c1.L 0 s) d.root
 have er:dD.root=d.root:=by have:=congrArg aS.root sD;exact this
 have F1:∀t,ag ((dD.L 0 s).foldl (λd t=>dput d t s) dD.root) t=if t∈c1.L 0 s then some s else ag d.root t:=λt=>by exact aa (Ls 0 s (by decide) hs) (aa er (fp.1 t))
 refine ⟨V5.BL hs (λt=>(F1 t).symm▸?_) ?_,⟨λz=>(congrArg (λx=>ag x z) (by have:=congrArg aS.up sD;exact this)).trans (ab.up z),λz=>(F1 z).trans ?_,λz=>(congrArg (λx=>ag x z) (by have:=congrArg aS.table sD;exact this)).trans (ab.table z),λk t hk ht=>Ls k t hk ht⟩,
  by have:=congrArg aS.trail sD;exact this,by have:=congrArg aS.queue sD;exact this,by have:=congrArg aS.marks sD;exact this⟩
 ·refine aa (er) ?_
  split<;>first | exact .inr rfl | exact .inl rfl
 ·exact aa (Ls 0 s (by decide) hs) (aa er (fp.2 _ W.root (W1.L0 s hs)))
 ·by_cases h:z∈c1.L 0 s
  ·exact (if_pos h).trans ((hz z h).symm)
  ·exact (if_neg h).trans ((ab.root ..).trans (((me (b:=b) (c1.L 0 s) c1.root).1 z).trans (if_neg h)))
theorem HI (G:aP g) {t r} (ht:t∈g.Ap) (hr:r∈g.T):(V.tup [g.dat t,r]).kind=some 2:=by
 refine CQ (G.ap t ht) λU U z1 U=>bb z1 λj hD=>bb (G.int _ hr) λi hi=>w2 hD hi ?_;rfl
theorem Wf.F3 (W:Wf g d) {k} (hk:k.kind=some 2):keyOk d.table k=true:=by
 delta keyOk
 refine aa hk ?_
 cases h:d.table with
 | nil=>rfl
 | cons p d=>exact decide_eq_true (W.pk p (aa h Ur))
theorem uu {a b:List (V×V)} (h:∀z,ag a z=ag b z) (ch:List Ed) (z:V):ag (bR a ch) z=ag (bR b ch) z:=by
 have p:∀(ch:List Ed) a b,(∀z,ag a z=ag b z)->∀z,ag (ch.foldl (λd e=>dput d e.2.1 (V.tup [e.1,e.2.2])) a) z=ag (ch.foldl (λd e=>dput d e.2.1 (V.tup [e.1,e.2.2])) b) z:=λch=>by
  induction ch with
  | nil=>exact λU U h=>h
  | cons e ch ih=>exact λU U h=>ih _ _ λz=>(w2 aO aO (congrArg _ (h ..)))
 exact p ch _ _ (λz=>by exact w2 iC iC (congrArg _ (h ..))) z
theorem Wf.turn (W:Wf g c) {x top ch} (hx:x∈g.T) (h:Pre (ag c.up) x ch top):Wf g {c with up:=bR c.up ch}:=by
 have hT:=(h.pZ W hx).2
 refine {W with up:=W.up.turn λe he=>(hT e he).2,FV:=λt v e=>?_}
 have key:∀(l:List Ed) d,(∀e∈l,e.1∈g.T)->(∀t v,ag d t=some v->∃p w,v=V.tup [p,w]/\p∈g.T)->∀t v,ag (l.foldl (λd e=>dput d e.2.1 (V.tup [e.1,e.2.2])) d) t=some v->∃p w,v=V.tup [p,w]/\p∈g.T:=λl=>by
  induction l with
  | nil=>exact λU U h=>h
  | cons e l ih=>exact λd hl h=>ih _ (λx hx=>hl x (Uy _ hx)) λt v q=>(jS q).elim (λq=>jo _ _ q (hl e Ur)) (h t v)
 refine key ch _ (λe he=>(hT e he).1) (λt v q=>W.FV t v ?_) t v e
 replace q:=iC▸q
 split at q
 ·exact nomatch q
 ·exact q
theorem kq {σ:St}{x y:List Nat}{b:Bool} (h:wu (eE (.str x)) (eE (.str y))=some b):hV σ .eq (.str x) (.str y)=some b:=h
theorem Wf.eqs (W:Wf g c) {d:aS} (h:d={c with trail:=d.trail,queue:=d.queue,marks:=d.marks,q:=d.q,m:=d.m,nw:=d.nw,role:=d.role}):Wf g d:=by exact aa h {W with}
theorem Et (G:aP g) (H:Rep g σ d) (W:Wf g d) (W1:Wf g c1) {e en wa:V} (L:Log g c1 e c2) (ab:dQ g d c2)
 (q:∀σ' d',Go g σ d σ' d'->Un g d d' c1->Q .none σ'):aE aH (n+2) .gO [.ref 27,e,en,wa] σ Q:=by
 cases L with
 | Eh ht hr hv hn h=>
  have k2:=HI G ht hr
  refine bH rfl rfl (dT (Ev.sub (Ev.nm rfl) Ev.int rfl) (dw (Ev.cmp (Ev.nm rfl) Ev.str (kq (by decide+kernel))) (fB (Ev.cmp (Ev.nm rfl) Ev.str (kq (by decide+kernel))) (fB (Ev.l9 (Ev.sub (Ev.nm rfl) Ev.int rfl)) (mP (Ev.b9 H rfl rfl rfl) (Ev.sub (Ev.nm rfl) Ev.int rfl) H.table (W.F3 k2) ?_ ?_)))))
  ·refine aa (ab.table ..) (aa (h.table ..) (aa aO (aa (if_pos rfl) ?_)));rfl
  ·refine q _ _ ((Go.refl H).table _) ⟨{W with table:=W.table.imp λK h=>⟨h.1.del,h.2⟩,pk:=λp hp=>W.pk p (List.mem_filter.mp hp).1,kZ:=λk v h=>W.kZ k v (pw h)},⟨λz=>(ab.up z).trans (h.up z),λz=>(ab.root z).trans (h.root z),λz=>(fC.trans (aa (ab.table ..) (aa (h.table ..) (aa aO ?_)))),λk t a b=>(ab.L k t a b).trans (h.L k t a b)⟩,rfl,rfl,rfl⟩
   split
   ·rename_i hz;exact aR hz (hn.symm)
   ·rfl
 | @Ei t' r t _ ht hr hv hn h=>
  have k2:=HI G ht hr
  refine bb (G.int t (G.ap t hv).1) λi hi=>?_
  have nn:decide (t=V.none)=false:=by exact aa hi rfl
  refine bH rfl rfl (dT (Ev.sub (Ev.nm rfl) Ev.int rfl) (dw (Ev.cmp (Ev.nm rfl) Ev.str (kq (by decide+kernel))) (fB (Ev.cmp (Ev.nm rfl) Ev.str (kq (by decide+kernel))) (dw (Ev.t7 (Ev.sub (Ev.nm rfl) Ev.int rfl) nn) (cC (Ev.sub (Ev.nm rfl) Ev.int rfl) (Ev.b9 H rfl rfl rfl) (Ev.sub (Ev.nm rfl) Ev.int rfl) H.table (W.F3 k2) W.KZ (q _ _ ((Go.refl H).table _) ⟨{W with table:=W.table.imp λK h=>⟨h.1.put (h.2.2 t' ht r hr),h.2⟩,pk:=λp hp=>(t9 hp).elim (λq=>aa q k2) λ⟨q,hq,e⟩=>(aR e (W.pk q hq)),kZ:=λk v h=>(jS h).elim (λq=>aa q hv) (W.kZ k v)},⟨λz=>(ab.up z).trans (h.up z),λz=>(ab.root z).trans (h.root z),λz=>(aO.trans (aa (ab.table ..) (aa (h.table ..) (aa fC ?_)))),λk t a b=>(ab.L k t a b).trans (h.L k t a b)⟩,rfl,rfl,rfl⟩))))))
  split
  ·rename_i hz;exact aR hz (hn.symm)
  ·rfl
 | @gF x y w top ch _ hx hy hp ht h=>
  have ux:ag d.up x=some (V.tup [y,w]):=by exact (ab.up ..).trans ((h.up ..).trans (aO.trans (if_pos rfl)))
  have u1:∀z,ag (ej d.up x) z=ag (bR c1.up ch) z:=λz=>by
   refine fC.trans (aa (ab.up ..) (aa (h.up ..) (aa aO ?_)))
   split
   ·rename_i hz;exact aR hz ((fD hp ht).symm)
   ·rfl
  have e1:ag (ej d.up x)=ag (bR c1.up ch):=funext u1
  have W2:Wf g {d with up:=ej d.up x}:={W with up:=W.up.del,FV:=λt v e=>W.FV t v (pw e)}
  have h2:=(Go.refl H).up (ej d.up x)
  have p2:Pre (ag (ej d.up x)) top (ch.reverse.map lY) x:=by exact aa e1 (qH hp ht)
  have t2:ag (ej d.up x) x=none:=by exact aa e1 (fD hp ht)
  have tT:=(hp.pZ W1 hx).1
  refine bH rfl rfl (dT (Ev.sub (Ev.nm rfl) Ev.int rfl) (dw (Ev.cmp (Ev.nm rfl) Ev.str (kq (by decide+kernel))) (dw (Ev.cmp (Ev.nm rfl) Ev.str (kq (by decide+kernel))) (dw (Ev.cmp (Ev.nm rfl) Ev.str (kq (by decide+kernel))) (fB (Ev.cmp (Ev.nm rfl) Ev.str (kq (by decide+kernel)))
   (mP (Ev.b9 H rfl rfl rfl) (Ev.sub (Ev.nm rfl) Ev.int rfl) H.up (W.up.key G.kind hx) (congrArg _ ux) (b8 (aF (Ev.nm rfl) h2.1.b9 rfl (.cons (Ev.sub (Ev.nm rfl) Ev.int rfl) .nil) (xd G h2.1 W2 p2 t2 tT λσ' h3=>?_)))))))))
  exact q _ _ (h2.trans h3) ⟨W2.turn tT p2,⟨λz=>((uu u1 _ z).trans (yI hp ht z)),λz=>(ab.root z).trans (h.root z),λz=>(ab.table z).trans (h.table z),λk t a b=>(ab.L k t a b).trans (h.L k t a b)⟩,rfl,rfl,rfl⟩
 | join hs hb ne hz h=>
  refine bH rfl rfl (dT (Ev.sub (Ev.nm rfl) Ev.int rfl) (dw (Ev.cmp (Ev.nm rfl) Ev.str (kq (by decide+kernel))) (dw (Ev.cmp (Ev.nm rfl) Ev.str (kq (by decide+kernel))) (fB (Ev.cmp (Ev.nm rfl) Ev.str (kq (by decide+kernel)))
   (b8 (aF (Ev.nm rfl) H.b9 rfl (.cons (Ev.sub (Ev.nm rfl) Ev.int rfl) (.cons (Ev.sub (Ev.nm rfl) Ev.int rfl) (.cons (Ev.sub (Ev.nm rfl) Ev.int rfl) (.cons (Ev.sub (Ev.nm rfl) Ev.int rfl) .nil)))) (Ep G H W hs hb ne hz W1 (ab.trans h) λσ' d' h2 U=>?_)))))))
  exact q _ _ h2 U
end
end
end Mine.Internal.R
namespace Mine.Internal.R
noncomputable section
theorem Back.Ov {g c c0 es c1} (h:Back g c es c1) (k:dQ g c c0):Back g c0 es c1:=by
 induction h with
 | nil e=>exact .nil (e.trans k)
 | snoc _ b d ih=>exact .snoc ih b d
section
variable {g:Cfg}{σ:St}{c:aS}{n:Nat}{Q:K1 V}{l:Loc}{C:Fn->List V->St->K1 V->Prop}{R:Fl->Loc->St->Prop}{r:Ss}{c0 c1 f0 f1 g0 g1:V}
theorem Ev.uw {a} (h:Ev l σ a .none):Ev l σ (.isNotNone a) (.bool false):=λC Q q=>h C _ q
theorem qR {t a b r' xs} (h:Ev l σ a (.ref r')) (hr:σ.get r'=some (.list xs)) (he:xs=[]) (q:aG C r l (σ.push (.list [])) R):aG C (.cons (.for t (.of (.rev a)) b) r) l σ R:=by
 subst he
 exact h C _ (ah (a:=(r',[])) (aZ hr) (aq rfl (ah (bB ao) (aq (decide_eq_true ao) q))))
theorem BU {e t i v ifs}{g:Gd} (h:Ev l σ i v) (hs:cG σ v=some ([],g)) (hg:g.ok σ=true) (q:Q (.ref σ.next) (σ.push (.list []))):aK C (.comp e t (.of i) ifs) l σ Q:=
 h C _ (ah hs (aq hg (aq rfl q)))
theorem nK {o x e} (h:aK C e l σ λv σ=>aK C o l σ λw σ=>aC (eD σ w) λp=>ei (fieldOf p.2.1 x&&decide (p.2.2.length<50)) ((nk C r R) Fl.next l (σ.set p.1 (.inst p.2.1 (fM p.2.2 x v))))):
 aG C (.cons (.setattr o x e) r) l σ R:=h
theorem eP {o m as r c fs f}{Q:K1 V} (h:Ev l σ o (.ref r)) (hr:σ.get r=some (.inst c fs)) (hm:gw c m=some f) (k:iu C as l σ λvs σ=>C f (.ref r::vs) σ Q):aK C (.aY o m as) l σ Q:=
 h C _ (ah (a:=(r,c,fs)) (iw hr) (ah hm k))
theorem Rep.news (H:Rep g σ c):σ.get c.nw=some (.list []):=H.dyn _ _ (bG H.pK)
theorem yP {IJ:St}{c' c0:aS} (h:Go g IJ c0 σ c') (W:Wf g c') (l1:l .ae=some (.ref 27))
 (q:∀σ' mS,Go g IJ c0 σ' mS->dQ g mS c'->Wf g mS->mS.trail=c'.trail->mS.marks=c'.marks->mS.queue=[]->aG C r l σ' R):aG C (.cons (.setattr (.nm .ae) .dz (.list .nil)) r) l σ R:=
 nK (bS .nil (Ui rfl) (lV (Ev.nm l1) ((aX (h.1.nZ rfl)).trans h.1.b9) rfl (Ui rfl) (q _ _ (h.BP []) ⟨λU=>rfl,λU=>rfl,λU=>rfl,λU U U U=>rfl⟩ {W with} rfl rfl rfl)))
theorem yQ {IJ:St}{c' c0:aS}{e t ifs} (h:Go g IJ c0 σ c') (W:Wf g c') (l1:l .ae=some (.ref 27))
 (q:∀σ' mS,Go g IJ c0 σ' mS->dQ g mS c'->Wf g mS->mS.trail=c'.trail->mS.marks=c'.marks->mS.queue=c'.queue->aG C r l σ' R):aG C (.cons (.setattr (.nm .ae) .hJ (.comp e t (.of (.attr (.nm .ae) .hJ)) ifs)) r) l σ R:=
 nK (BU (Ev.b9 h.1 l1 (x:=.hJ) rfl rfl) (bB h.1.news) (decide_eq_true h.1.news) (lV (Ev.nm l1) ((aX (h.1.nZ rfl)).trans h.1.b9) rfl (Ui rfl) (q _ _ h.Ou ⟨λU=>rfl,λU=>rfl,λU=>rfl,λU U U U=>rfl⟩ {W with} rfl rfl rfl)))
structure PL (g:Cfg) (σ:St) (c c0:aS) (nQ:List V) (en wa:Nat) (x:List V×aS×aS) (l:Loc) (σ':St):Prop where
 bk:Back g c0 x.1 x.2.1
 ab:dQ g x.2.2 x.2.1
 wf:Wf g x.2.2
 go:Go g σ c σ' x.2.2
 tr:x.2.2.trail=nQ++x.1
 sO:x.2.2.marks=c.marks
 l1:l .ae=some (.ref 27)
 l2:l .bN=some (.int nQ.length)
 l3:l .gg=some (.ref en)
 l4:l .gi=some (.ref wa)
theorem Back.inv {es:List V}{c0 ck:aS}{P:Prop} (h:Back g c0 es ck) (h0:es=[]->dQ g ck c0->P) (h1:∀vA c1 e,es=vA++ [e]->Back g c0 vA c1->Wf g c1->Log g c1 e ck->P):P:=by
 cases h with
 | nil e=>exact h0 rfl e
 | snoc a b d=>exact h1 _ _ _ rfl a b d
theorem HJ (G:aP g) (S:sx g c0 c1 f0 f1 g0 g1) (H:Rep g σ c) (W:Wf g c) {cb:aS}{E0:EP}{nQ es xj Ow:List V}{many:Nat} (hm:c.marks=xj++ .int nQ.length::Ow) (hn:many=Ow.length+1) (Sp:xj.length<=1000) (K9:c.marks.length<=1000)
 (ht:c.trail=nQ++es) (hb:Back g cb es c) (I:Inv g cb E0) (Cl:el g cb E0) (hl:c.trail.length<=9000) (q:∀σ' c',Go g σ c σ' c'->Inv g c' E0->el g c' E0->(∃nO,c'.trail=nQ++nO/\Back g cb nO c')->c'.queue=[]->c'.marks=xj->c'.trail.length<=nQ.length+160->Q .none σ'):
 aE aH (n+7) .eH [.ref 27,.int many] σ Q:=by
 have Qm:σ.get c.m=some (.list (xj++ .int nQ.length::Ow)):=H.marks.trans (by exact aa hm rfl)
 have Mx:∀(l:Loc) σ,Rep g σ c->l .ae=some (.ref 27)->l .Ij=some (.int many)->Ev l σ (.bin .sub (.len (.attr (.nm .ae) .aQ)) (.nm .Ij)) (.int (xj.length:Nat)):=λl σ H l1 l2=>
  Ev.ko (Ev.len (Ev.b9 H l1 (x:=.aQ) rfl rfl) (cN (H.marks.trans (by exact aa hm rfl)))) (Ev.nm l2) (congrArg (λx=>some (V.int x)) (by simp;lia))
 refine bH rfl rfl (dw (Ev.cmp (op:=.le) (Ev.nm rfl) Ev.int (congrArg some (decide_eq_false (by lia)))) (dT (Ev.sub (Ev.b9 H rfl (x:=.aQ) rfl rfl) (Mx _ _ H rfl rfl) (fW Qm (v:=.int nQ.length) (by refine mf.trans ?_;simp))) (nK (fA (k:=xj.length) (Ev.b9 H rfl (x:=.aQ) rfl rfl) Qm (Mx _ _ H rfl rfl) (fS Sp) (fS (by rw [hm] at K9;exact K9)) (aa Ym (lV (Ev.nm rfl) ((aX (H.nZ rfl)).trans H.b9) rfl (Ui rfl) ?_))))))
 have k1:=(Go.refl H).Ot xj
 have W1:Wf g (mh c σ.next xj):={W with}
 have a1:dQ g (mh c σ.next xj) c:=⟨λU=>rfl,λU=>rfl,λU=>rfl,λU U U U=>rfl⟩
 revert k1 W1 a1
 have Ox:(mh c σ.next xj).trail=nQ++es:=ht
 have La:(mh c σ.next xj).marks=xj:=rfl
 revert Ox La
 generalize mh c σ.next xj=c1
 generalize ((σ.push (.list xj)).set 27 _)=fe
 refine λOx La k1 W1 a1=>jb rfl (bS .nil (by decide) (bS .nil (by decide) ?_))
 have E2:Ext fe ((fe.push (.list [])).push (.list [])):=Ext.push.trans Ext.push
 have ne:c1.role fe.next=.none:=k1.1.top _ (Ux _)
 have zd:es.length<=9000:=by rw [ht,UA] at hl;exact aJ (Y2 _ _) Z0 (.n 9000) (.a Z1 Z0) (.n 9000) hl rfl
 refine dJ (λx=>x.1.length) (PL g ((fe.push (.list [])).push (.list [])) c1 cb nQ fe.next (fe.next+1)) (es,c1,c1) (Vk zd (Ui rfl))
  ⟨hb.ext a1,dQ.refl,W1,Go.refl (k1.1.ext E2),Ox,rfl,rfl,rfl,rfl,rfl⟩ ?_
 intro x l σ' K J K1
 obtain ⟨es,ck,d⟩:=x
 have H':=J.go.1
 have ge:σ'.get fe.next=some (.list []):=(J.go.2.keep _ (UR (Uw _)) ne).1.trans ((aX (Uw _)).trans ao)
 have hlen:=Ev.len (Ev.b9 H' J.l1 (x:=.cL) rfl rfl) (cN H'.trail)
 refine J.bk.inv (λe0 e1=>?_) λvA c2 e e0 Sq W2 L=>?_
 ·have pL:d.trail=nQ:=by have:=J.tr;rw [e0,U6] at this;exact this
  refine a6 (Ev.cmp (op:=.gt) hlen (Ev.nm J.l2) (congrArg some (decide_eq_false (by refine aa pL ?_;simp)))) (yP J.go J.wf J.l1 λiJ d2 k2 a2 W2 t2 m2 q2=>dw (Ev.KL (c:=true) (Ev.uw (Ev.b9 k2.1 J.l1 (x:=.fX) rfl rfl))) (yQ k2 W2 J.l1 λi3 d3 k3 a3 W3 t3 m3 q3=>qR (Ev.nm J.l3) ((k3.2.keep fe.next (UR (Uw _)) ne).1.trans ((aX (Uw _)).trans ao)) rfl ?_))
  have k4:=k3.ext (Ext.push (o:=.list []))
  have My:=a3.trans (a2.trans (J.ab.trans e1))
  have Oy:d3.trail=nQ:=t3.trans (t2.trans pL)
  refine b8 (aF (Ev.nm J.l1) k4.1.b9 rfl .nil (pH G S k4.1 (I.congr W3 My) (λt ht t' dV s=>Cl t ht t' dV (by exact (My.sgn ..).symm.trans (aR (My.sgn ..) s))) (q3.trans q2) (by refine aa Oy ?_;rw [ht,UA] at hl;exact aJ (Y2 _ _) Z0 (.n 800000) (.a Z0 Z1) (.n 9000) hl rfl) λCK c5 k5 A=>?_))
  have k6:=k4.trans k5
  refine qR (Ev.nm J.l4) ((k6.2.keep (fe.next+1) (Uw _) (k1.1.top _ (US _))).1.trans (ao (σ:=fe.push (.list [])))) rfl (aN A.back λnO he hB=>q _ _ ((k1.ext E2).trans (k6.ext (Ext.push (o:=.list [])))) A.inv A.cl (i12 nO (he.trans (congrArg (· ++nO) Oy)) (hB.Ov My)) A.qu (A.sO.trans (m3.trans (m2.trans (J.sO.trans La)))) (Ut A.tl (UI (congrArg (λx=>VA x+160) Oy))))
 ·replace e0:es=vA++ [e]:=e0
  have pL:d.trail=(nQ++vA)++ [e]:=by have:=J.tr;rw [e0,← UW] at this;exact this
  refine a6 (Ev.cmp (op:=.gt) hlen (Ev.nm J.l2) (congrArg some (decide_eq_true (by refine aa pL ?_;simp;lia)))) (b8 (eP (Ev.nm J.l1) H'.b9 rfl (iF (sm (Ev.b9 H' J.l1 (x:=.cL) rfl rfl) (H'.trail.trans (by exact aa pL rfl)) (dM (Ev.nm J.l3) (dM (Ev.nm J.l4) (fu ?_)))))))
  have k2:=J.go.trail (nQ++vA)
  refine Et (c2:=ck) (d:={d with trail:=nQ++vA}) G k2.1 {J.wf with} W2 L ((show dQ g {d with trail:=nQ++vA} d from ⟨λU=>rfl,λU=>rfl,λU=>rfl,λU U U U=>rfl⟩).trans J.ab) λbU d' k3 U=>?_
  exact K1 (vA,c2,d') _ _ (by show vA.length<es.length;exact aa e0 (aa UA (Uw _))) ⟨Sq,U.ab,U.wf,k2.trans k3,U.tr,U.sO.trans J.sO,J.l1,J.l2,J.l3,J.l4⟩
end
end
end Mine.Internal.R
namespace Mine.Internal.R
noncomputable section
section
variable {σ:St}{l:Loc}{C:Fn->List V->St->K1 V->Prop}{Q:K1 V}{R:Fl->Loc->St->Prop}{r:Ss}
def mj (xs:List V):Prop:=∀x∈xs,∃i:Int,x=.int i
theorem BV {n:Nat}:∀ {xs:List V},mj xs->∃ps,gJ (ew σ n) xs=some ps/\Ň ps=true/\Ņ ps<=1/\(ps.isEmpty=xs.isEmpty):=by
 intro z9;induction z9 with
 | nil=>exact λU=>Ig ([]) rfl rfl ((US _)) rfl
 | cons x xs ih=>
  refine λh=>bb (h x Ur) λi z1=>aa z1 (za (ih λy hy=>h y (Uy _ hy)) λps h1 h2 h3 U=>?_)
  have e:ew σ n (.int i)=some (.int i):=by clear z1 h ih x;cases n<;>rfl
  refine Ig (.int i::ps) (CX e h1) ?_ ?_ rfl
  ·trivial
  ·trivial
theorem ne_nil {r r':Nat}{xs:List V} (h:σ.get r=some (.list xs)) (h':σ.get r'=some (.list [])) (hi:mj xs):hV σ .ne (.ref r) (.ref r')=some (!xs.isEmpty):=by
 refine za (BV (σ:=σ) (n:=3) hi) λps h1 h2 h3 h4=>?_
 have a:ew σ 4 (.ref r)=some (.list ps):=wC h h1
 have b:ew σ 4 (.ref r')=some (.list []):=wC h' rfl
 have d:∀x,σ.get x=some (.list xs)\/σ.get x=some (.list [])->dictAt σ (.ref x)=none:=λx hx=>hx.elim sU sU
 show (xM σ (.ref r) (.ref r')).map (! ·)=_
 delta xM
 refine w3 (d r (.inl h)) (d r' (.inr h')) a (aa b ?_)
 have f1:kH (.list ps)=true:=by simp [kH,ň,h2,ņ];exact aJ (Y1 _) Z0 (.n 19) Z0 (.n 1) h3 rfl
 simp only [wu,M6,f1,← h4]
 clear f1 d b a h4 h3 h2 h1 hi h' h xs r' r;cases ps<;>rfl
theorem isin_2 {i j k:Int}:hV σ .isin (.int k) (V.tup [.int i,.int j])=some (decide (i=k)||decide (j=k)):=by
 exact Ò (b:=some (decide (i=k)||(decide (j=k)||false))) rfl (congrArg (λz=>some (decide (i=k)||z)) (Bool.or_false _))
theorem yR {k v kv} (h:Ev l σ k kv) (hk:keyOk [] kv=true) (q:aK C v l σ λvv σ=>Q (.ref σ.next) (σ.push (.dict [(kv,vv)]))):aK C (.dict (.cons k v .nil)) l σ Q:=by
 refine h C _ ?_
 show aK C v l σ λb σ=>aC (if keyOk [] kv then _ else _) _
 exact aa hk q
theorem Ev.F4 {a i va xs}{k:Nat} (h:Ev l σ a va) (hi:Ev l σ i (.int k)) (ht:va.items=some xs) (hr:∀r,va≠.ref r) (hl:xs.length<=1000) (hk:k<=1000):Ev l σ (.sliceTo a i) (V.tup (xs.take k)):=by
 refine λC Q q=>h C _ (hi C _ (aq (b:=decide (0<=(k:Int))&&decide ((k:Int)<=dj)) (by have:(dj:Int)=10000000:=rfl;simp;exact aJ (Y1 _) Z0 (.n 10000000) Z0 (.n 1000) hk rfl) ?_))
 clear C hk hi h i a;cases va with
 | ref r=>exact absurd rfl (hr r)
 | _=>exact ah ht (bP hl q)
end
noncomputable def e8:V:=.str [101,100,103,101,115]
noncomputable def fT:V:=.str [99,97,108,108,115]
theorem Qn:e8≠fT:=(of_decide_eq_true rfl)
structure p9 (σ:St) (wd we wc:Nat) (E:List Ed) (calls:List V):Prop where
 d:σ.get wd=some (.dict [(e8,.ref we),(fT,.ref wc)])
 e:σ.get we=some (.list (E.map iI))
 c:σ.get wc=some (.list calls)
 wl:wd<σ.next/\we<σ.next/\wc<σ.next
 ne:wd≠we/\wc≠we/\wd≠wc
theorem p9.ext {σ σ' wd we wc E calls} (h:p9 σ wd we wc E calls) (x:Ext σ σ'):p9 σ' wd we wc E calls:=
 ⟨(x.keep _ h.wl.1).trans h.d,(x.keep _ h.wl.2.1).trans h.e,(x.keep _ h.wl.2.2).trans h.c,(fc (UM h.wl.1 x.le) (UM h.wl.2.1 x.le) (UM h.wl.2.2 x.le)),h.ne⟩
theorem p9.xk {σ wd we wc E calls} (h:p9 σ wd we wc E calls):subAt σ (.ref wd) e8=some (.ref we):=nG h.d rfl (bh.trans (if_pos rfl))
theorem p9.calls {σ wd we wc E calls} (h:p9 σ wd we wc E calls):subAt σ (.ref wd) fT=some (.ref wc):=nG h.d rfl (bh.trans ((if_neg Qn).trans (bh.trans (if_pos rfl))))
structure TD (T:List V) (E:List Ed) (a:V) (D:List (V×V)) (σ:St):Prop where
 dk:eR T D
 ok:∀z v,ag D z=some v->∃r gZ,v=.ref r/\r<σ.next/\σ.get r=some (.list (gZ.map iI))/\Walk (· ∈E) a gZ z/\gZ.Nodup
 all:∀z,(ag D z).isSome=true↔au (· ∈E) a z
structure TI (T:List V) (σ:St) (E:List Ed) (a:V) (D:List (V×V)) (F:List V) (σ':St):Prop where
 dk:eR T D
 gd:σ'.get (σ.next+1)=some (.dict D)
 gf:σ'.get (σ.next+2)=some (.list F)
 ok:∀z v,ag D z=some v->∃r gZ,v=.ref r/\r≠σ.next+1/\r≠σ.next+2/\r<σ'.next/\σ'.get r=some (.list (gZ.map iI))/\Walk (· ∈E) a gZ z/\gZ.Nodup/\∀e∈gZ,(ag D e.1).isSome=true/\(ag D e.2.1).isSome=true
 Qo:(ag D a).isSome=true
 fr:∀z∈F,(ag D z).isSome=true
 fl:F.length<=8+D.length
 ext:Ext σ σ'
 lt:σ.next+2<σ'.next
def v5 (E:List Ed) (D:List (V×V)) (z:V) (es:List Ed):Prop:=∀e∈E,e∈es\/((e.1=z->(ag D e.2.1).isSome=true)/\(e.2.1=z->(ag D e.1).isSome=true))
section
variable {g:Cfg}{σ:St}{c:aS}{n:Nat}{Q:K1 V}{wd we wc:Nat}{E:List Ed}{calls:List V}
theorem TI.mono {T a D F}{fe iJ:St} (h:TI T σ E a D F fe) (x:Ext fe iJ):TI T σ E a D F iJ:=
 {h with gd:=(x.keep _ (Z8 (Uw _) h.lt)).trans h.gd,gf:=(x.keep _ h.lt).trans h.gf,ext:=h.ext.trans x,lt:=UM h.lt x.le,
         ok:=λz v e=>(h.ok z v e).elim λr h=>h.elim λgZ h=>MQ r gZ h.1 h.2.1 h.2.2.1 (UM h.2.2.2.1 x.le) ((x.keep _ h.2.2.2.1).trans h.2.2.2.2.1) h.2.2.2.2.2}
structure TW (wd:Nat) (T:List V) (σ:St) (E:List Ed) (a:V) (x:List (V×V)×List V) (l:Loc) (σ':St):Prop where
 ti:TI T σ E a x.1 x.2 σ'
 cl:∀z,(ag x.1 z).isSome=true->z∈x.2\/v5 E x.1 z []
 l0:l .aL=some (.ref wd)
 l2:l .bY=some (.ref (σ.next+1))
 l3:l .jW=some (.ref (σ.next+2))
structure TF (wd:Nat) (T:List V) (σ:St) (E:List Ed) (a h:V) (B:Nat) (x:List (V×V)×List V) (es:List Ed) (l:Loc) (σ':St):Prop where
 ti:TI T σ E a x.1 x.2 σ'
 cl:∀z,(ag x.1 z).isSome=true->z∈x.2\/v5 E x.1 z []\/z=h
 ch:v5 E x.1 h es
 sub:∀e∈es,e∈E
 hi:(ag x.1 h).isSome=true
 B:2*(8 - x.1.length)+x.2.length<=B
 l1:l .aV=some h
 l0:l .aL=some (.ref wd)
 l2:l .bY=some (.ref (σ.next+1))
 l3:l .jW=some (.ref (σ.next+2))
theorem v5.mono {D D':List (V×V)}{z es} (h:v5 E D z es) (i:∀z,(ag D z).isSome=true->(ag D' z).isSome=true):v5 E D' z es:=λe he=>(h e he).imp_right λh=>⟨λq=>i _ (h.1 q),λq=>i _ (h.2 q)⟩
theorem iz {d:List (V×V)}{k v:V} (h:ag d k=none):dput d k v=d++ [(k,v)]:=by
 delta dput
 rw [if_neg λq=>?_]
 delta ag at h
 rw [Option.map_eq_none_iff] at h
 exact aN (List.any_eq_true.mp q) λp hp hk=>absurd hk ((List.find?_eq_none.mp h p hp))
theorem n7 {C l op a b va}{σ:St}{Q:K1 V} (h:Ev l σ a va) (q:aK C b l σ λvb σ=>aC (hV σ op va vb) λr=>Q (.bool r) σ):aK C (.cmp op a b) l σ Q:=h C _ q
theorem HK {x y z:V} (hx:∃i:Int,x=.int i) (hy:∃i:Int,y=.int i) (hz:∃i:Int,z=.int i):hV σ .isin z (V.tup [x,y])=some (decide (x=z)||decide (y=z)):=by
 refine bb hx λi z1=>?_;clear hx;subst z1
 refine bb hy λj z2=>?_;clear hy;subst z2
 refine bb hz λk z3=>?_;clear hz;subst z3
 have e:∀i j:Int,decide (V.int i=V.int j)=decide (i=j):=λi j=>decide_eq_decide.mpr ⟨λq=>by cases q;rfl,congrArg V.int⟩
 exact w2 (e ..) (e ..) isin_2
end
def uy (g:Cfg) (σ:St) (n:Nat) (Q:K1 V) (wd:Nat) (we:Nat) (wc:Nat) (E:List Ed) (calls:List V) (a:V):Prop:=∀(G:aP g) (hW:p9 σ wd we wc E calls) (hE:∀e∈E,e.1∈g.T/\e.2.1∈g.T) (hl:E.length<=100) (ha:a∈g.T) (q:∀σ' r D,Ext σ σ'->r<σ'.next->σ'.get r=some (.dict D)->TD g.T E a D σ'->Q (.ref r) σ'),aE aH (n+1) .cq [.ref wd,a] σ Q
noncomputable abbrev uz:=Cfg×St×Nat×(K1 V)×Nat×Nat×Nat×(List Ed)×(List V)×V
def uA (c:uz):Prop:=uy c.1 c.2.1 c.2.2.1 c.2.2.2.1 c.2.2.2.2.1 c.2.2.2.2.2.1 c.2.2.2.2.2.2.1 c.2.2.2.2.2.2.2.1 c.2.2.2.2.2.2.2.2.1 c.2.2.2.2.2.2.2.2.2
noncomputable def ez:uz:=ep (⟨[],[],λU=>.none,λU=>.none,[],[],[]⟩,⟨0,λU=>none⟩,0,(λU U=>True),0,0,0,[],[],.none) uA
namespace xm
@[irreducible] def g:Cfg:=ez.1
@[irreducible] def σ:St:=ez.2.1
@[irreducible] def n:Nat:=ez.2.2.1
@[irreducible] def Q:K1 V:=ez.2.2.2.1
@[irreducible] def wd:Nat:=ez.2.2.2.2.1
@[irreducible] def we:Nat:=ez.2.2.2.2.2.1
@[irreducible] def wc:Nat:=ez.2.2.2.2.2.2.1
@[irreducible] def E:List Ed:=ez.2.2.2.2.2.2.2.1
@[irreducible] def calls:List V:=ez.2.2.2.2.2.2.2.2.1
@[irreducible] def a:V:=ez.2.2.2.2.2.2.2.2.2
theorem u2:uy g σ n Q wd we wc E calls a:=by
 refine λG hW hE hl ha q=>bH rfl rfl (jb rfl (yR (Ev.nm rfl) (eR.nil.key G.kind ha) (bS .nil (by decide) (bS (.cons (Ev.nm rfl) .nil) (Ui rfl) ?_))))
 have ga:∀ {z v},ag [(a,V.ref σ.next)] z=some v->z=a/\v=.ref σ.next:=λ{z v} e=>by
  replace e:=bh▸e
  by_cases h:a=z
  ·rw [if_pos h] at e;cases e;exact ⟨h.symm,rfl⟩
  ·rw [if_neg h] at e;cases e
 have ia:(ag [(a,V.ref σ.next)] a).isSome=true:=by refine aa bh (aa (if_pos rfl) ?_);rfl
 refine dJ (λx=>2*(8 - x.1.length)+x.2.length) (TW wd g.T σ E a) ([(a,.ref σ.next)],[a]) (Vk (m:=15) (UI rfl) (Ui rfl))
  ⟨⟨⟨λp hp=>aa (List.mem_singleton.mp hp) ha,(of_decide_eq_true rfl)⟩,(aX (σ:=(σ.push _).push _) (Uw _)).trans ao,ao (σ:=(σ.push _).push _),λz v e=>?_,ia,λz hz=>aa (List.mem_singleton.mp hz) ia,by show 1<=9;exact Vb _,Ext.push.trans (Ext.push.trans Ext.push),Uw _⟩,
    λz hz=>.inl ?_,rfl,rfl,rfl⟩ ?_
 ·exact aU (ga e) λz1 z2=>w2 z2 z1 ⟨σ.next,[],rfl,UZ (uO (Y1 _) (.s Z0) (.s Z0) rfl),UZ (uO (Y1 _) (.s Z0) (.a Z0 (.n 2)) rfl),UR (UR (Uw _)),(aX (σ:=(σ.push _).push _) (UR (Uw _))).trans ((aX (σ:=σ.push _) (Uw _)).trans ao),.nil,Vr,nofun⟩
 ·exact bb (Option.isSome_iff_exists.mp hz) λv hv=>aa ((ga hv).1) Ur
 intro x l σ' K J K1
 obtain ⟨D,F⟩:=x
 have T0:TI g.T σ E a D F σ':=J.ti
 have Fi:mj F:=λz hz=>G.int z (T0.dk.mem (Option.isSome_iff_exists.mp (T0.fr z hz)).choose_spec)
 refine n7 (Ev.nm J.l3) (bS .nil (by decide) ?_)
 have T1:=T0.mono (Ext.push (σ:=σ') (o:=.list []))
 refine ah (ne_nil T1.gf ao Fi) ?_
 clear Fi;rcases List.eq_nil_or_concat F with rfl | ⟨ys,y,hF⟩
 ·refine ek (Ev.nm J.l2) (q _ _ D T1.ext (UM (UR (Uw _)) T1.lt) T1.gd ⟨T1.dk,λz v e=>(T1.ok z v e).elim λr h=>h.elim λgZ h=>Pl r gZ h.1 h.2.2.2.1 h.2.2.2.2.1 h.2.2.2.2.2.1 h.2.2.2.2.2.2.1,λz=>⟨λh=>?_,λh=>?_⟩⟩)
  ·exact bb (Option.isSome_iff_exists.mp h) λv hv=>IZ (T1.ok z v hv) λr gZ U U U U U hw U=>hw.conn λe he=>hw.mem e he
  ·induction h with
   | refl=>exact T1.Qo
   | @tail y z _ e ih=>
    refine bb e λw e=>?_
    have c0:=(J.cl y ih).resolve_left (by simp)
    refine e.elim (λe=>?_) λe=>?_
    ·exact ((c0 _ e).resolve_left (by simp)).1 rfl
    ·exact ((c0 _ e).resolve_left (by simp)).2 rfl
 ·replace hF:=hF.trans List.concat_eq_append
  subst hF
  rw [show (!(ys++ [y]).isEmpty)=true by simp]
  refine gG (sm (xs:=ys) (Ev.nm J.l3) T1.gf ?_)
  have E2:Ext σ ((σ'.push (.list [])).set (σ.next+2) (.list ys)):=T1.ext.set (uO (Y1 _) Z0 (.a Z0 (.n 2)) rfl)
  have hy:(ag D y).isSome=true:=T0.fr y (by simp)
  have yT:y∈g.T:=T0.dk.mem (Option.isSome_iff_exists.mp hy).choose_spec
  have T2:TI g.T σ E a D ys ((σ'.push (.list [])).set (σ.next+2) (.list ys)):=
   {T1 with gd:=(bl (UZ (uO (Y1 _) (.s (.s Z0)) (.a Z0 (.n 2)) rfl))).trans T1.gd,gf:=cY,ok:=λz v e=>(T1.ok z v e).elim λr h=>h.elim λgZ h=>MQ r gZ h.1 h.2.1 h.2.2.1 h.2.2.2.1 ((bl h.2.2.1).trans h.2.2.2.2.1) h.2.2.2.2.2,
            fr:=λz hz=>T1.fr z (by simp [hz]),fl:=Ut (by simp) T1.fl,ext:=E2}
  have W2:=hW.ext E2
  refine ig iI (TF wd g.T σ E a y (2*(8 - D.length)+ys.length)) (D,ys) (Ev.sub (Ev.nm (x:=.aL) J.l0) Ev.str W2.xk) (bB W2.e)
   ⟨T2,λz hz=>?_,λe he=>.inl he,λU h=>h,hy,Ux _,rfl,J.l0,J.l2,J.l3⟩ ?_ ?_
  ·by_cases h:z=y
   ·exact .inr (.inr h)
   ·refine (J.cl z hz).elim (λk=>?_) λk=>?_
    ·exact .inl ((List.mem_append.mp k).resolve_right (by simpa using h))
    ·exact .inr (.inl k)
  ·refine λx l bU I=>⟨decide_eq_true (hW.ext I.ti.ext).e,K1 x _ _ (Vk I.B (aa UA (Uw _))) ⟨I.ti,λz hz=>(Yx (I.cl z hz) (λk=>?_) λz0=>Yx z0 (λk=>?_) λk=>?_),I.l0,I.l2,I.l3⟩⟩
   ·exact .inl k
   ·exact .inr k
   ·exact aa k (.inr I.ch)
  ·intro x e es l bU K I K1
   obtain ⟨D,F⟩:=x
   refine ⟨decide_eq_true (hW.ext I.ti.ext).e,_,rfl,?_⟩
   have T3:TI g.T σ E a D F bU:=I.ti
   have he:=I.sub e Ur
   refine aU (hE e he) λt1 t2=>?_
   have xR:D.length<=8:=Ut T3.dk.len G.len
   have yS:∀x∈es,x∈E:=λx hx=>I.sub x (Uy _ hx)
   refine nE (Ev.cmp (Ev.nm I.l1) (Ev.F4 (k:=2) (Ev.nm rfl) Ev.int rfl nofun (Ui rfl) (by decide)) (HK (G.int _ t1) (G.int _ t2) (G.int _ yT))) (λhb=>?_) λhb=>?_
   ·have other:∃o,o∈g.T/\((e.1=y/\e.2.1=o)\/(e.1=o/\e.2.1=y))/\Ev (l.set .cO (iI e)) bU (.ite (.cmp .eq (.sub (.nm .cO) (.int 0)) (.nm .aV)) (.sub (.nm .cO) (.int 1)) (.sub (.nm .cO) (.int 0))) o:=by
     have c0:Ev (l.set .cO (iI e)) bU (.cmp .eq (.sub (.nm .cO) (.int 0)) (.nm .aV)) (.bool (decide (e.1=y))):=Ev.cmp (Ev.sub (Ev.nm rfl) Ev.int rfl) (Ev.nm I.l1) (t5 (G.int _ t1) (G.int _ yT))
     by_cases h:e.1=y
     ·exact uP e.2.1 t2 (.inl ⟨h,rfl⟩) (Ev.KN (aR (decide_eq_true h) c0) (Ev.sub (Ev.nm rfl) Ev.int rfl))
     ·rw [decide_eq_false h] at c0 hb
      exact uP e.1 t1 (.inr ⟨rfl,of_decide_eq_true (by simpa using hb)⟩) (Ev.KO c0 (Ev.sub (Ev.nm rfl) Ev.int rfl))
    refine i5 other λo oT ho Mx=>dT Mx ?_
    have ok:=T3.dk.key G.kind oT
    have Qp:∀D',(∀z,(ag D z).isSome=true->(ag D' z).isSome=true)->(ag D' o).isSome=true->(ag D' y).isSome=true->v5 E D' y es:=λD' hm h1 h2 x hx=>by
     refine (I.ch x hx).elim (λk=>?_) λk=>?_
     ·rcases List.mem_cons.mp k with rfl | k
      ·right
       rcases ho with ⟨p1,p2⟩ | ⟨p1,p2⟩
       ·exact ⟨λU=>aa p2 h1,λU=>aa p1 h2⟩
       ·exact ⟨λU=>aa p2 h2,λU=>aa p1 h1⟩
      ·exact .inl k
     ·exact .inr ⟨λq=>hm _ (k.1 q),λq=>hm _ (k.2 q)⟩
    cases hD:ag D o with
    | some v=>
     exact dw (Ev.cmp (Ev.nm rfl) (Ev.nm I.l2) (j6 T3.gd ok hD)) (K1 (D,F) _ _ ⟨T3,I.cl,Qp D (λU h=>h) (congrArg _ hD) I.hi,yS,I.hi,I.B,I.l1,I.l0,I.l2,I.l3⟩)
    | none=>
     refine fB (Ev.cmp (Ev.nm rfl) (Ev.nm I.l2) (l7 T3.gd ok hD)) (bb (Option.isSome_iff_exists.mp I.hi) λvh Qq=>?_)
     obtain ⟨r,gZ,rfl,n1,n2,rl,hr,hw,CG,gD⟩:=T3.ok y vh Qq
     refine uq (il (a6 (Ev.sub (Ev.nm I.l2) (Ev.nm I.l1) (nG T3.gd (T3.dk.key G.kind yT) Qq)) (bS (.cons (Ev.nm rfl) .nil) (Ui rfl) (xe ((aX rl).trans hr) ao (fS (by simp;exact aJ (Y1 _) Z0 (.n 999) Z0 (.n 100) (Ut (dW CG λx hx=>hw.mem x hx) hl) rfl)) ?_))))
     have T4:=T3.mono ((Ext.push (σ:=bU) (o:=.list [iI e])).trans (Ext.push (o:=.list (gZ.map iI++ [iI e]))))
     refine uo (Ev.nm I.l2) (Ev.nm rfl) T4.gd ok (T4.dk.lim (Ut G.len (by decide))) ?_
     have fl:=T4.fl
     have Oz:(dput D o (.ref ((bU.push (.list [iI e])).next))).length=D.length+1:=by refine aa (iz (v:=.ref ((bU.push (.list [iI e])).next)) hD) (List.length_append.trans ?_);rfl
     have Qr:=T4.dk.put (v:=.ref ((bU.push (.list [iI e])).next)) oT
     have Sr:=Ut Qr.len G.len
     have uU:σ.next+2≠σ.next+1:=Vj (uO (Y1 _) (.s (.s Z0)) (.a Z0 (.n 2)) rfl)
     refine b8 (a5 (Ev.nm I.l3) ((bl uU).trans T4.gf) (Ev.nm rfl) (lim (aJ (Y3 _ _ _) Z0 (.n 1000) (.a (.a Z0 (.s Z1)) Z2) (.a (.a (.a (.n 8) Z1) Z2) (.n 8)) (Uq (Uq fl (UI Oz.symm)) Sr) rfl)) ?_)
     have mono:∀z,(ag D z).isSome=true->(ag (dput D o (.ref ((bU.push (.list [iI e])).next))) z).isSome=true:=λz h=>by
      refine aa aO ?_;split
      ·rfl
      ·exact h
     have Mz:(ag (dput D o (.ref ((bU.push (.list [iI e])).next))) o).isSome=true:=by refine aa aO (aa (if_pos rfl) ?_);rfl
     have MA:=T3.lt
     have B:=I.B
     dsimp only at B
     refine K1 (dput D o (.ref ((bU.push (.list [iI e])).next)),F++ [o]) _ _
      ⟨⟨Qr,(bl uU.symm).trans cY,cY,λz v h=>?_,mono _ T4.Qo,λz hz=>?_,by exact aa Oz (aa UA ((aJ (Y2 _ _) (.s Z0) (.a (.n 8) (.s Z1)) Z0 (.a (.n 8) Z1) fl rfl))),(T4.ext.set (uO (Y1 _) Z0 (.s Z0) rfl)).set (uO (Y1 _) Z0 (.a Z0 (.n 2)) rfl),T4.lt⟩,
        λz hz=>?_,Qp _ mono Mz (mono _ I.hi),yS,mono _ I.hi,by refine aa Oz (aa UA (aa List.length_singleton ?_));lia,I.l1,I.l0,I.l2,I.l3⟩
     ·have h:ag (dput D o _) z=some v:=h
      replace h:=aO▸h
      by_cases hz:o=z
      ·rw [if_pos hz] at h;cases h;refine aR hz ⟨bU.next+1,gZ++ [e],rfl,Vj (aJ (Y2 _ _) (.s (.s Z1)) (.s Z0) (.s (.a Z1 (.n 2))) Z0 MA rfl),Vj (aJ (Y2 _ _) (.s (.a Z1 (.n 2))) (.s Z0) (.s (.a Z1 (.n 2))) Z0 MA rfl),Uw _,?_,.snoc hw he ho,?_,λx hx=>?_⟩
       ·exact aa UJ ((bl (Vj (aJ (Y2 _ _) (.s (.a Z1 (.n 2))) (.s Z0) (.s (.a Z1 (.n 2))) Z0 MA rfl))).trans ((bl (Vj (aJ (Y2 _ _) (.s (.s Z1)) (.s Z0) (.s (.a Z1 (.n 2))) Z0 MA rfl))).trans (ao (σ:=bU.push _))))
       ·refine gL U2 (fc CG (by simp) (λx hx y' Su q=>?_))
        replace q:=q.trans (List.mem_singleton.mp Su)
        subst q
        have:=gD x hx
        rcases ho with ⟨_,p2⟩ | ⟨p1,_⟩
        ·rw [p2,hD] at this;cases this.2
        ·rw [p1,hD] at this;cases this.1
       ·refine (List.mem_append.mp hx).elim (λh=>?_) λh=>?_
        ·exact ⟨mono _ (gD x h).1,mono _ (gD x h).2⟩
        ·refine aa (List.mem_singleton.mp h) ?_
         rcases ho with ⟨p1,p2⟩ | ⟨p1,p2⟩
         ·exact aa p1 (aa p2 ⟨mono _ I.hi,Mz⟩)
         ·exact aa p1 (aa p2 ⟨Mz,mono _ I.hi⟩)
      ·replace h:=(if_neg hz)▸h
       obtain ⟨r',OA,e1,m1,m2,m3,m4,m5,m6,m7⟩:=T4.ok z v h
       exact ⟨r',OA,e1,m1,m2,m3,(bl m2).trans ((bl m1).trans m4),m5,m6,λx hx=>⟨mono _ (m7 x hx).1,mono _ (m7 x hx).2⟩⟩
     ·refine (List.mem_append.mp hz).elim (λh=>?_) λh=>?_
      ·exact mono _ (T3.fr z h)
      ·exact aa (List.mem_singleton.mp h) Mz
     ·have hz:(ag (dput D o _) z).isSome=true:=hz
      replace hz:=aO▸hz
      by_cases ho:o=z
      ·exact .inl (by refine aa ho ?_;simp)
      ·replace hz:=(if_neg ho)▸hz
       refine Yx (I.cl z hz) (λk=>?_) λz0=>Yx z0 (λk=>?_) λk=>?_
       ·exact .inl (U4 _ k)
       ·exact .inr (.inl (k.mono mono))
       ·exact .inr (.inr k)
   ·refine K1 (D,F) _ _ ⟨T3,I.cl,λx hx=>((I.ch x hx).elim (λk=>?_) λk=>?_),yS,I.hi,I.B,I.l1,I.l0,I.l2,I.l3⟩
    ·rcases List.mem_cons.mp k with rfl | k
     ·rw [Bool.or_eq_false_iff] at hb
      exact .inr ⟨λq=>absurd q (of_decide_eq_false hb.1),λq=>absurd q (of_decide_eq_false hb.2)⟩
     ·exact .inl k
    ·exact .inr k
end xm
section
variable {g:Cfg}{σ:St}{c:aS}{n:Nat}{Q:K1 V}{wd we wc:Nat}{E:List Ed}{calls:List V}
theorem sA (G:aP g) (hW:p9 σ wd we wc E calls) (hE:∀e∈E,e.1∈g.T/\e.2.1∈g.T) (hl:E.length<=100) {a:V} (ha:a∈g.T) (q:∀σ' r D,Ext σ σ'->r<σ'.next->σ'.get r=some (.dict D)->TD g.T E a D σ'->Q (.ref r) σ'):aE aH (n+1) .cq [.ref wd,a] σ Q:=
 iK (P:=uA) (by with_unfolding_all exact xm.u2) (g,σ,n,Q,wd,we,wc,E,calls,a) G hW hE hl ha q
end
end
end Mine.Internal.R
namespace Mine.Internal.R
noncomputable section
structure k8 (w:Nat) (σ σ':St):Prop where
 le:σ.next<=σ'.next
 keep:∀r,r<σ.next->r≠w->σ'.get r=σ.get r
theorem k8.refl {w σ}:k8 w σ σ:=⟨Ux _,λU U U=>rfl⟩
theorem k8.trans {w σ σ' bU} (h:k8 w σ σ') (k:k8 w σ' bU):k8 w σ bU:=⟨Ut h.le k.le,λr hr n=>(k.keep r (UM hr h.le) n).trans (h.keep r hr n)⟩
theorem Ext.w {w σ σ'} (h:Ext σ σ'):k8 w σ σ':=⟨h.le,λr hr U=>h.keep r hr⟩
theorem k8.set {w σ o}:k8 w σ (σ.set w o):=⟨Ux _,λU U n=>bl n⟩
theorem Rep.Lb {g σ σ' c w} (H:Rep g σ c) (h:k8 w σ σ') (hw:c.role w=.none):Rep g σ' c:=by
 have k:=λ{r} n=>h.keep r (H.lt n) λq=>n (aa q hw)
 have kf:=λ{r} hr=>k (aa (H.fix r hr) nofun)
 exact {ij:=(kf rfl).trans H.ij,iZ:=(kf rfl).trans H.iZ,dX:=(kf rfl).trans H.dX,iA:=(kf rfl).trans H.iA,b9:=(kf rfl).trans H.b9,root:=(kf rfl).trans H.root,
        ph:=λi hi=>(kf (eZ hi)).trans (H.ph i hi),val:=(kf rfl).trans H.val,up:=(kf rfl).trans H.up,table:=(kf rfl).trans H.table,told:=(kf rfl).trans H.told,trail:=(kf rfl).trans H.trail,
        dyn:=λr o e=>(k (eO e).1).trans (H.dyn r o e),top:=λr hr=>H.top r (Ut h.le hr),fix:=H.fix,inj:=H.inj,rq:=H.rq,nF:=H.nF,pK:=H.pK,ls:=H.ls}
noncomputable def g6:V:=.str [115,112,111,116]
noncomputable def e9:V:=.str [99,101,108,108,115]
structure Tp (σ:St) (tp cl:Nat) (s:Nat) (cs:List V):Prop where
 d:σ.get tp=some (.dict [(e9,.ref cl),(g6,.int s)])
 c:σ.get cl=some (.list cs)
 i:mj cs
 ne:tp≠cl
theorem Lc:e9≠g6:=(of_decide_eq_true rfl)
section
variable {g:Cfg}{σ:St}{c:aS}{n:Nat}{Q:K1 V}{tp cl s:Nat}{cs:List V}
theorem Tp.OB (h:Tp σ tp cl s cs):subAt σ (.ref tp) g6=some (.int s):=nG h.d rfl (bh.trans ((if_neg Lc).trans (bh.trans (if_pos rfl))))
theorem Tp.cells (h:Tp σ tp cl s cs):subAt σ (.ref tp) e9=some (.ref cl):=nG h.d rfl (bh.trans (if_pos rfl))
theorem Tp.next (h:Tp σ tp cl s cs):Tp (σ.set tp (.dict [(e9,.ref cl),(g6,.int (s+1:Nat))])) tp cl (s+1) cs:=⟨cY,(bl h.ne.symm).trans h.c,h.i,h.ne⟩
theorem BW {i:Int}{w:Nat} (hw:0<w):∃k:Nat,k<w/\uY .mod (.int i) (.int w)=some (.int k):=by
 have h1:=Int.emod_lt_of_pos i (b:=w) (by lia)
 refine i12 ((i % w).toNat) (by lia) ?_
 show (if 0<(w:Int) then some (V.int (i % w)) else none)=_
 exact (if_pos (by lia)).trans (congrArg (λx=>some (V.int x)) (Int.toNat_of_nonneg (Int.emod_nonneg i (b:=w) (by lia))).symm)
theorem v7 {i j:Int} (hi:i.natAbs<2 ^ 64) (hj:j.natAbs<2 ^ 64):uY .mul (.int i) (.int j)=some (.int (i*j)):=if_pos ⟨hi,hj⟩
theorem xn (h:Tp σ tp cl s cs) (hs:s<=1000) {w:Nat} (hw:0<w) (q:∀k:Nat,k<w->Q (.int k) (σ.set tp (.dict [(e9,.ref cl),(g6,.int (s+1:Nat))]))):
 aE aH (n+1) .a7 [.ref tp,.int w] σ Q:=by
 have h':=h.next
 refine bH rfl rfl (dT (Ev.sub (Ev.nm rfl) Ev.str h.OB) (cC (Ev.ko (Ev.nm rfl) Ev.int rfl) (Ev.nm rfl) Ev.str h.d rfl (Ui rfl) ?_))
 have hc:=Ev.sub (l:=((Loc.set (λU=>none) .bO (.ref tp)).set .rC (.int w)).set .bN (.int s)) (Ev.nm (x:=.bO) rfl) (Ev.str (i:=[99,101,108,108,115])) h'.cells
 refine nE (Ev.cmp (Ev.nm rfl) (Ev.len hc (cN h'.c)) pG) (λhb=>?_) λhb=>?_
 ·have hb:s<cs.length:=by have:=of_decide_eq_true hb;lia
  exact bb (h.i cs[s] (Wh hb)) λi hi=>aN (BW (i:=i) hw) λk hk he=>ek (r:=.nil) (Ev.ko (Ev.sub hc (Ev.nm rfl) (fW h'.c ((mf.trans ((U0 hb).trans (congrArg _ hi)))))) (Ev.nm rfl) he) (q k hk)
 ·refine aN (BW (i:=(7*(s:Int)*s+3*s+2) % 89) hw) λk hk he=>?_
  have b2:(s:Int).natAbs<2 ^ 64:=by lia
  exact ek (r:=.nil) (Ev.ko (Ev.ko (Ev.ko (Ev.ko (Ev.ko (Ev.ko Ev.int (Ev.nm rfl) (v7 ((Ui rfl)) b2)) (Ev.nm rfl) (v7 (by lia) b2)) (Ev.ko Ev.int (Ev.nm rfl) (v7 ((Ui rfl)) b2)) rfl) Ev.int rfl) Ev.int rfl) (Ev.nm rfl) he) (q k hk)
noncomputable abbrev Qd:=V×V×V×V
noncomputable def jc (q:Qd):V:=V.tup [q.1,q.2.1,q.2.2.1,q.2.2.2]
noncomputable def mn (E:EP) (q:Qd):EP:=gH E q.1 q.2.1 q.2.2.1 q.2.2.2
theorem p9.put {we wc wd:Nat}{E:List Ed}{calls} (h:p9 σ wd we wc E calls) (F:List Ed):p9 (σ.set we (.list (F.map iI))) wd we wc F calls:=
 ⟨(bl h.ne.1).trans h.d,cY,(bl h.ne.2.1).trans h.c,h.wl,h.ne⟩
structure TO (g:Cfg) (σ:St) (wd we wc:Nat) (E:List Ed) (calls:List Qd) (tgt:EP) (b:Nat) (x:List Ed) (qs:List Qd) (l:Loc) (σ':St):Prop where
 w:p9 σ' wd we wc x (calls.map jc)
 ext:k8 we σ σ'
 tg:qs.foldl mn (· ∈x)=tgt
 pre:∃tl,x=E++tl
 ends:∀e∈x,e.1∈g.T/\e.2.1∈g.T
 len:x.length+qs.length<=b
 sub:∀q∈qs,q∈calls
 l1:l .aL=some (.ref wd)
theorem xo {E:List Ed}{q:Ed}:(λe=>e∈E++ [q])=λe=>e∈E\/e=q:=funext λe=>propext (by rw [VZ,List.mem_singleton])
theorem BX {E:EP}{a b x y:V} (h:au E x y) (k:¬au E a b):gH E a b x y=λe=>E e\/e=(a,b,mU):=funext λe=>propext (or_congr_right (and_iff_left ⟨h,k⟩))
theorem BY {E:EP}{a b x y:V} (h:¬(au E x y/\¬au E a b)):gH E a b x y=E:=funext λe=>propext ⟨λq=>q.elim id λq=>absurd q.2 h,.inl⟩
theorem xp {E:EP}{q:Ed} (k:¬au E q.1 q.2.1):gY E q=λe=>E e\/e=q:=funext λe=>propext (or_congr_right (and_iff_left k))
theorem xq {E:EP}{q:Ed} (k:au E q.1 q.2.1):gY E q=E:=funext λe=>propext ⟨λq=>q.elim id λq=>absurd k q.2,.inl⟩
theorem TD.none {T E a D} (h:TD T E a D σ) {z} (e:ag D z=none):¬au (· ∈E) a z:=λq=>by have:=(h.all z).mpr q;rw [e] at this;contradiction
theorem TD.some {T E a D} (h:TD T E a D σ) {z v} (e:ag D z=some v):au (· ∈E) a z:=(h.all z).mp (by rw [e];rfl)
theorem mW {C l c a b r}{R:Fl->Loc->St->Prop} (h:aK C c l σ λv σ=>aC (bc v) λt=>match t with
 | true=>aG C a l σ (nk C r R)
 | false=>aG C b l σ (nk C r R)):aG C (.cons (.ite c a b) r) l σ R:=h
theorem Eu {C l e1 e2}{Q:K1 V} (h:aK C e1 l σ λv σ=>aC (bc v) λb=>match b with
 | true=>aK C e2 l σ λv σ=>aC (bc v) λb=>Q (.bool b) σ
 | false=>Q (.bool false) σ):aK C (.bW true (.cons e1 (.cons e2 .nil))) l σ Q:=by
 have e:(λ(v:V) (σ:St)=>aC (bc v) λb=>if b=true then zb C true (.cons e2 .nil) l σ Q else Q (.bool b) σ)=λv σ=>aC (bc v) λb=>match b with
  | true=>aK C e2 l σ λv σ=>aC (bc v) λb=>Q (.bool b) σ
  | false=>Q (.bool false) σ:=funext λv=>funext λσ=>congrArg (aC (bc v)) (funext λb=>by cases b<;>rfl)
 exact (congrArg (aK C e1 l σ) e).mpr h
theorem HL {f:Bool->Prop} (h:f true):aC (bc (.bool true)) f:=h
theorem Ew (G:aP g) {wd we wc:Nat}{E:List Ed}{calls}{x z:V}{nx nz:Nm}{l:Loc} (hW:p9 σ wd we wc E calls) (hE:∀e∈E,e.1∈g.T/\e.2.1∈g.T) (hl:E.length<=100) (l1:l .aL=some (.ref wd)) (l2:l nx=some x) (l3:l nz=some z)
 (hx:x∈g.T) (hz:z∈g.T) (q:∀σ' b,Ext σ σ'->(b=true↔au (· ∈E) x z)->Q (.bool b) σ'):aK (aE aH (n+1)) (.cmp .isin (.nm nz) (.call .cq (.cons (.nm .aL) (.cons (.nm nx) .nil)))) l σ Q:=
 n7 (Ev.nm l3) (wp_call (.cons (Ev.nm l1) (.cons (Ev.nm l2) .nil)) (sA G hW hE hl hx λσ' r D hx U hD hT=>by
  cases h:ag D z with
  | none=>exact ah (vW hD (hT.dk.key G.kind hz) h) (q _ _ hx ⟨nofun,λk=>absurd k (hT.none h)⟩)
  | some v=>exact ah (vV hD (hT.dk.key G.kind hz) h) (q _ _ hx ⟨λU=>hT.some h,λU=>rfl⟩)))
theorem pI (G:aP g) {wd we wc:Nat}{E:List Ed}{calls}{x z:V}{nx nz:Nm}{l:Loc} (hW:p9 σ wd we wc E calls) (hE:∀e∈E,e.1∈g.T/\e.2.1∈g.T) (hl:E.length<=100) (l1:l .aL=some (.ref wd)) (l2:l nx=some x) (l3:l nz=some z)
 (hx:x∈g.T) (hz:z∈g.T) (q:∀σ' b,Ext σ σ'->(b=true↔¬au (· ∈E) x z)->Q (.bool b) σ'):aK (aE aH (n+1)) (.cmp .gU (.nm nz) (.call .cq (.cons (.nm .aL) (.cons (.nm nx) .nil)))) l σ Q:=
 n7 (Ev.nm l3) (wp_call (.cons (Ev.nm l1) (.cons (Ev.nm l2) .nil)) (sA G hW hE hl hx λσ' r D hx U hD hT=>by
  cases h:ag D z with
  | none=>exact ah (l7 hD (hT.dk.key G.kind hz) h) (q _ _ hx ⟨λU=>hT.none h,λU=>rfl⟩)
  | some v=>exact ah (j6 hD (hT.dk.key G.kind hz) h) (q _ _ hx ⟨nofun,λk=>absurd (hT.some h) k⟩)))
theorem xt {wd we wc:Nat}{E:List Ed}{calls e a b w}{l:Loc}{C r}{R:Fl->Loc->St->Prop} (hW:p9 σ wd we wc E calls) (hl:E.length<=100) (l1:l .aL=some (.ref wd)) (h:Ev l σ e (iI (a,b,w)))
 (q:∀σ',k8 we σ σ'->p9 σ' wd we wc (E++ [(a,b,w)]) calls->aG C r l σ' R):aG C (.cons (.expr (.append (.sub (.nm .aL) (.str [101,100,103,101,115])) e)) r) l σ R:=
 b8 (a5 (Ev.sub (Ev.nm l1) Ev.str hW.xk) hW.e h (lim (by rw [UD];exact aJ (Y1 _) Z0 (.n 1000) Z0 (.n 100) hl rfl)) (q _ k8.set (by have:=hW.put (E++ [(a,b,w)]);rw [UJ] at this;exact this)))
theorem Ex (G:aP g) {wd we wc:Nat}{E:List Ed}{calls:List Qd}{a b w:V} (hW:p9 σ wd we wc E (calls.map jc)) (hE:∀e∈E,e.1∈g.T/\e.2.1∈g.T) (hl:E.length<=90) (L6:calls.length<=3)
 (hc:∀q∈calls,q.1∈g.T/\q.2.1∈g.T/\q.2.2.1∈g.T/\q.2.2.2∈g.T) (ha:a∈g.T) (hb:b∈g.T)
 (q:∀σ' F,k8 we σ σ'->p9 σ' wd we wc F (calls.map jc)->(· ∈F)=calls.foldl mn (gY (· ∈E) (a,b,w))->(∃tl,F=E++tl)->(∀e∈F,e.1∈g.T/\e.2.1∈g.T)->F.length<=E.length+4->Q .none σ'):
 aE aH (n+2) .jy [.ref wd,a,b,w] σ Q:=by
 refine bH rfl rfl (mW (pI G hW hE (aJ (Y1 _) Z0 (.n 100) Z0 (.n 90) hl rfl) rfl rfl rfl ha hb λfe t x1 ht=>?_))
 have loop:∀(fe:St) (x:List Ed),TO g σ wd we wc E calls (calls.foldl mn (gY (· ∈E) (a,b,w))) (E.length+4) x calls ((((Loc.set (λU=>none) .aL (.ref wd)).set .jn a).set .mD b).set .dp w) fe->_:=λfe x I0=>
  ig (C:=aE aH (n+1)) (r:=.nil) (R:=(fk Q)) (t:=.many [.m8,.dh,.I8,.I9]) (e:=.sub (.nm .aL) (.str [99,97,108,108,115]))
   (b:=.cons (.ite (.bW true (.cons (.cmp .isin (.nm .I9) (.call .cq (.cons (.nm .aL) (.cons (.nm .I8) .nil)))) (.cons (.cmp .gU (.nm .dh) (.call .cq (.cons (.nm .aL) (.cons (.nm .m8) .nil)))) .nil))) (.cons (.expr (.append (.sub (.nm .aL) (.str [101,100,103,101,115])) (.tup (.cons (.nm .m8) (.cons (.nm .dh) (.cons (.glob .dm) .nil)))))) .nil) .nil) .nil)
   jc (TO g σ wd we wc E calls (calls.foldl mn (gY (· ∈E) (a,b,w))) (E.length+4)) x (Ev.sub (Ev.nm I0.l1) Ev.str I0.w.calls) (bB I0.w.c) I0
   (λx l σ' I=>⟨decide_eq_true I.w.c,q _ x I.ext I.w I.tg I.pre I.ends (by have:=I.len;exact this)⟩)
   (λx d ds l σ' K I K1=>by
    refine ⟨decide_eq_true I.w.c,_,rfl,(CQ (hc d (I.sub d Ur)) λt1 t2 t3 t4=>?_)⟩
    have hlen:=I.len
    have yS:=λq hq=>I.sub q (Uy _ hq)
    have no:∀bU,Ext σ' bU->¬(au (· ∈x) d.2.2.1 d.2.2.2/\¬au (· ∈x) d.1 d.2.1)->K ((((l.set .m8 d.1).set .dh d.2.1).set .I8 d.2.2.1).set .I9 d.2.2.2) bU:=λbU x1 h=>
     K1 x _ _ ⟨I.w.ext x1,I.ext.trans x1.w,by have:=I.tg;rw [Ā,show mn (λe=>e∈x) d=_ from BY h] at this;exact this,I.pre,I.ends,(Vz ‹_›),yS,I.l1⟩
    refine mW (Eu (Ew G I.w I.ends (aJ (Y3 _ _ _) Z0 (.n 100) (.a Z1 (.a Z0 (.s Z2))) (.a (.n 90) (.a Z1 (.n 4))) (Uq hl hlen) rfl) I.l1 rfl rfl t3 t4 λiJ b1 x2 h1=>?_))
    cases b1 with
    | false=>exact no iJ x2 λh=>by have:=h1.mpr h.1;cases this
    | true=>
     refine HL (pI (nx:=.m8) (nz:=.dh) G (I.w.ext x2) I.ends (aJ (Y3 _ _ _) Z0 (.n 100) (.a Z1 (.a Z0 (.s Z2))) (.a (.n 90) (.a Z1 (.n 4))) (Uq hl hlen) rfl) (I.l1) (by rfl) (by rfl) t1 t2 λi3 b2 x3 h2=>?_)
     cases b2 with
     | false=>exact no i3 (x2.trans x3) λh=>by have:=h2.mpr h.2;cases this
     | true=>
      refine xt (I.w.ext (x2.trans x3)) (aJ (Y3 _ _ _) Z0 (.n 100) (.a Z1 (.a Z0 (.s Z2))) (.a (.n 90) (.a Z1 (.n 4))) (Uq hl hlen) rfl) I.l1 (a:=d.1) (b:=d.2.1) (w:=mU) (Ev.tup (.cons (Ev.nm rfl) (.cons (Ev.nm rfl) (.cons (Ev.glob rfl) .nil))) (Ui rfl)) λyO x4 W4=>K1 (x++ [(d.1,d.2.1,mU)]) _ _ ⟨W4,I.ext.trans ((x2.trans x3).w.trans x4),?_,I.pre.elim λtl h=>⟨tl++ [(d.1,d.2.1,mU)],(aa h (UW ..))⟩,λe he=>?_,by exact aa UA ((aJ (Y3 _ _ _) (.a (.s Z0) Z1) (.a Z2 (.n 4)) (.a Z0 (.s Z1)) (.a Z2 (.n 4)) hlen rfl)),yS,I.l1⟩
      ·have:=I.tg
       rw [Ā,show mn (λe=>e∈x) d=_ from BX (h1.mp rfl) (h2.mp rfl),← xo] at this
       exact this
      ·refine (List.mem_append.mp he).elim (λh=>?_) λh=>?_
       ·exact I.ends e h
       ·exact aa (List.mem_singleton.mp h) ⟨t1,t2⟩)
 cases t with
 | true=>
  refine xt (hW.ext x1) (aJ (Y1 _) Z0 (.n 100) Z0 (.n 90) hl rfl) rfl (a:=a) (b:=b) (w:=w) (Ev.tup (.cons (Ev.nm rfl) (.cons (Ev.nm rfl) (.cons (Ev.nm rfl) .nil))) (Ui rfl)) λyO x4 W4=>loop yO (E++ [(a,b,w)]) ⟨W4,x1.w.trans x4,?_,⟨_,rfl⟩,λe he=>?_,by exact aa UA ((aJ (Y2 _ _) (.a (.s Z0) Z1) (.a Z0 (.n 4)) Z1 (.n 3) L6 rfl)),λU h=>h,rfl⟩
  ·exact aa xo (aR (xp (q:=(a,b,w)) (ht.mp rfl)) rfl)
  ·refine (List.mem_append.mp he).elim (λh=>?_) λh=>?_
   ·exact hE e h
   ·exact aa (List.mem_singleton.mp h) ⟨ha,hb⟩
 | false=>
  have hy:=V9 λh=>by have:=ht.mpr h;exact nomatch this
  exact loop fe E ⟨hW.ext x1,x1.w,(aa (xq (q:=(a,b,w)) hy) rfl),⟨[],by simp⟩,hE,aJ (Y2 _ _) (.a Z0 Z1) (.a Z0 (.n 4)) Z1 (.n 3) L6 rfl,λU h=>h,rfl⟩
end
end
end Mine.Internal.R
namespace Mine.Internal.R
noncomputable section
noncomputable def ec (E:List Ed) (t:Ed):Ed:=if t∈E then t else lY t
structure Way (E:List Ed) (a b:V) (l:List Ed):Prop where
 OC:∀t∈l,ec E t∈E
 nd:(l.map (ec E)).Nodup
 sep:∀e,e∈l.map (ec E)↔e∈E/\¬au (less (· ∈E) e) a b
theorem yU {up:Up}{E:List Ed} (hc:D3 up (· ∈E)) (hF:yJ up) (hf:dv (· ∈E)) {a b m:V}{l1 l2:List Ed} (h1:Pre up a l1 m) (h2:Pre up b l2 m) (hn:((l1++l2).map (·.1)).Nodup):Way E a b (l1++l2):=by
 have OD:=λt ht=>(List.mem_append.mp ht).elim (h1.mem t) (h2.mem t)
 have OC:∀t,up t.1=some (V.tup [t.2.1,t.2.2])->ec E t∈E:=λt ht=>by
  delta ec
  split
  ·assumption
  ·rename_i hh;exact ((hc t.1 t.2.1 t.2.2).mp (.inl ht)).resolve_left hh
 have inj:∀t∈l1++l2,∀t'∈l1++l2,ec E t=ec E t'->t.1=t'.1:=λt ht t' dV q=>by
  have Qs:t.1=t'.2.1->t.2.1=t'.1->False:=λq1 q2=>by
   refine eQ (hF t.1) λl top hp tX=>?_
   have u:=OD t ht
   have u':=OD t' dV
   refine hp.inv (λU e1=>by rw [← e1,u] at tX;exact nomatch tX) λp w l' e0 e k=>aU (dK (Uu (u▸e))) λz1 z2=>?_;subst z1
   refine k.inv (λU e1=>by rw [← e1,q2,u'] at tX;exact nomatch tX) λp w Im e2 e' U=>?_
   rw [q2,u'] at e'
   refine aU (dK (Uu e')) λz3 U=>?_;subst z3
   exact (hp.start tX) (t.2.1,t'.2.1,w) (by exact aa e0 (aa e2 (Uy _ Ur))) q1.symm
  delta ec at q
  split at q<;>split at q
  ·exact congrArg _ q
  ·exact (Qs (congrArg _ q) (aa q rfl)).elim
  ·exact (Qs (aR q rfl) (aR q rfl)).elim
  ·exact congrArg (·.1) (congrArg lY q)
 have nd:((l1++l2).map (ec E)).Nodup:=by
  have key:∀l:List Ed,(∀t∈l,t∈l1++l2)->(l.map (·.1)).Nodup->(l.map (ec E)).Nodup:=λl=>by
   induction l with
   | nil=>exact λU U=>Vr
   | cons t l ih=>
    intro hs hn
    rw [UX,U5] at hn ⊢
    exact ⟨λq=>hn.1 (aN (List.mem_map.mp q) λt' dV q=>List.mem_map.mpr (i12 t' dV (inj t' (hs t' (Uy _ dV)) t (hs t Ur) q))),ih (λx hx=>hs x (Uy _ hx)) hn.2⟩
  exact key _ (λU h=>h) hn
 have walk:∀ {x l y},Pre up x l y->Walk (· ∈E) x (l.map (ec E)) y:=λ{x l y} h=>by
  induction h with
  | nil=>exact .nil
  | @cons x p w l y e _ ih=>
   have:Walk (· ∈E) x [ec E (x,p,w)] p:=.snoc (l:=[]) .nil (OC (x,p,w) e) (by delta ec;split<;>first | exact .inl ⟨rfl,rfl⟩ | exact .inr ⟨rfl,rfl⟩)
   exact this.trans ih
 refine ⟨λt ht=>OC t (OD t ht),nd,λe=>?_⟩
 have Sv:(l1.map (ec E)++(l2.map (ec E)).reverse).Nodup:=by
  rw [UJ] at nd
  exact (List.Perm.append_left _ (List.reverse_perm _)).nodup_iff.mpr nd
 rw [← ((walk h1).trans (walk h2).symm).sep hf Sv,UJ,VZ,VZ,List.mem_reverse]
end
end Mine.Internal.R
namespace Mine.Internal.R
noncomputable section
noncomputable def pJ (a b:V):V:=match a,b with
 | .int x,.int y=>if x<=y then V.tup [a,b] else V.tup [b,a]
 | _,_=>.none
theorem Le {p q x y:Int} (h:[p,q].Perm [x,y]):(p=x/\q=y)\/p=y/\q=x:=
 (List.mem_cons.mp (h.mem_iff.mp Ur)).elim (λe=>.inl ⟨e,List.singleton_perm_singleton.mp ((ĉ p).mp (h.trans (YI (congrArg (λz=>[z,y]) e.symm))))⟩)
  λm=>have e:=List.mem_singleton.mp m;.inr ⟨e,List.singleton_perm_singleton.mp ((ĉ p).mp ((h.trans (List.Perm.swap y x [])).trans (YI (congrArg (λz=>[z,x]) e.symm))))⟩
theorem HM {x y:Int}{ys:List V} (h:fY [.int x,.int y] ys):V.tup ys=pJ (.int x) (.int y)/\ys.length=2:=by
 refine qc (show∃ns zA:List Int,[V.int x,V.int y]=ns.map V.int/\ys=zA.map V.int/\zA.Perm ns/\zA.Pairwise (· <=·) from h) λns zA h1 e1 hp hs=>?_
 have e:=sQ (Je ((congrArg VA h1).trans (UD ..)).symm) λp q z=>by
  have h1:=h1.trans (congrArg (YM V.int) z)
  exact z.trans (nh (λa b=>[a,b]) (V.noConfusion (Vx h1).1 λe=>e.symm) (V.noConfusion (Vx (Vx h1).2).1 λe=>e.symm))
 replace hp:=hp.trans (YI e)
 refine sQ (Je hp.length_eq) λp q z=>?_
 have hs:=List.pairwise_pair.mp (aR z hs)
 refine aa (e1.trans (congrArg _ z)) ⟨?_,rfl⟩
 show V.tup [.int p,.int q]=if x<=y then _ else _
 refine (Le (z▸hp)).elim (λh=>?_) λh=>?_
 ·exact (nh (λa b=>V.tup [.int a,.int b]) h.1 h.2).trans (if_pos (w2 h.1.symm h.2.symm hs)).symm
 ·refine (nh (λa b=>V.tup [.int a,.int b]) h.1 h.2).trans ?_
  have hs:y<=x:=w2 h.1.symm h.2.symm hs
  by_cases k:x<=y
  ·exact ((congrArg (λa=>V.tup [.int a,.int x]) (Ċ hs k)).trans (congrArg (λa=>V.tup [.int x,.int a]) (Ċ k hs))).trans (if_pos k).symm
  ·exact (if_neg k).symm
theorem Ey {a b c d:V} (ha:∃i:Int,a=.int i) (hb:∃i:Int,b=.int i) (hc:∃i:Int,c=.int i) (hd:∃i:Int,d=.int i) (h:pJ a b=pJ c d):(a=c/\b=d)\/(a=d/\b=c):=by
 refine bb ha λi z1=>?_;clear ha;subst z1
 refine bb hb λj z2=>?_;clear hb;subst z2
 refine bb hc λk z3=>?_;clear hc;subst z3
 refine bb hd λm z4=>?_;clear hd;subst z4
 replace h:(if i<=j then V.tup [.int i,.int j] else V.tup [.int j,.int i])=if k<=m then V.tup [.int k,.int m] else V.tup [.int m,.int k]:=h
 split at h<;>split at h<;>(refine aU (dK h) λp q=>w2 p q ?_;simp)
theorem BZ {a b:V} (ha:∃i:Int,a=.int i) (hb:∃i:Int,b=.int i):pJ a b=pJ b a:=by
 refine bb ha λi z1=>?_;clear ha;subst z1
 refine bb hb λj z2=>?_;clear hb;subst z2
 show (if i<=j then V.tup [.int i,.int j] else V.tup [.int j,.int i])=if j<=i then V.tup [.int j,.int i] else V.tup [.int i,.int j]
 by_cases h:i=j
 ·exact aa h rfl
 ·split<;>split<;>first | rfl | lia
theorem B0 {a b:V} (ha:∃i:Int,a=.int i) (hb:∃i:Int,b=.int i):(pJ a b).kind=some 2:=by
 refine I6 ha λi=>I6 hb λj=>?_
 show V.kind (if i<=j then _ else _)=_
 split<;>rfl
section
variable {σ:St}{l:Loc}{C:Fn->List V->St->K1 V->Prop}{Q:K1 V}{R:Fl->Loc->St->Prop}{r:Ss}
theorem B5 {e}{x y:V} (hx:∃i:Int,x=.int i) (hy:∃i:Int,y=.int i) (h:∀Q':K1 V,(∀v σ' g,Ext σ σ'->cG σ' v=some ([x,y],g)->g.ok σ'=true->Q' v σ')->aK C e l σ Q')
 (q:∀σ',Ext σ σ'->Q (pJ x y) σ'):aK C (.fo (.of (.sorted (.of e)))) l σ Q:=by
 refine bb hx λi z1=>?_;clear hx;subst z1
 refine bb hy λj z2=>?_;clear hy;subst z2
 exact h (λv σ=>aC (cG σ v) λp=>ei (p.2.ok σ&&sortable p.1) (∀ys,fY p.1 ys->bA σ ys.length (.list ys) λv σ=>aC (cG σ v) λp=>ei (p.2.ok σ&&decide (p.1.length<=1000)) (Q (V.tup p.1) σ))) λv σ' g hE hs hg=>ah hs (aq (aa hg rfl) λys hy=>aU (HM hy) λh1 h2=>bP (aa h2 (Ui rfl)) (ah (bB ao) (aq (aa h2 ((Wo _).trans (decide_eq_true ao))) (aa h1 (q _ (hE.trans Ext.push))))))
theorem uB {β:Type} (f h:β->V) {e t i v g}{vs:List β} (hi:Ev l σ i v) (hs:cG σ v=some (vs.map f,g)) (hg:∀σ',Ext σ σ'->g.ok σ'=true) (hl:vs.length<=dj)
 (he:∀x∈vs,∃l',kB t (f x) l=some l'/\∀(σ':St) (Q:K1 V),Ext σ σ'->(∀bU,Ext σ' bU->Q (h x) bU)->aK C e l' σ' Q) (q:∀σ',Ext σ σ'->Q (.ref σ'.next) (σ'.push (.list (vs.map h)))):aK C (.comp e t (.of i) .nil) l σ Q:=by
 refine hi C _ (ah hs ?_)
 have key:∀(xs:List β) (acc:List V) (σ':St),Ext σ σ'->(∀x∈xs,x∈vs)->acc.length+xs.length<=dj->(∀σ',Ext σ σ'->bA σ' (acc++xs.map h).length (.list (acc++xs.map h)) Q)->
  gx g t (λl σ Q=>uR C .nil l σ Q) (λl σ Q=>aK C e l σ Q) l (xs.map f) acc σ' λvs σ=>bA σ vs.length (.list vs) Q:=by
  intro xs
  induction xs with
  | nil=>intro acc σ' hE _ _ q;exact aq (hg σ' hE) (by simpa using q σ' hE)
  | cons x xs ih=>
   exact λacc σ' hE hx hl q=>aN (he x (hx x Ur)) λl' hb wK=>aq (hg σ' hE) (ah hb (wK σ' _ hE λbU Sw=>bP ((aJ (Y2 _ _) (.s Z0) (.n 10000000) (.a Z0 (.s Z1)) (.n 10000000) hl rfl)) (ih (acc++ [h x]) bU (hE.trans Sw) (λy hy=>hx y (Uy _ hy)) (by simp at hl ⊢;exact aJ (Y2 _ _) (.a (.s Z0) Z1) (.n 10000000) (.a Z0 (.s Z1)) (.n 10000000) hl rfl) λσ' hE=>by simpa using q σ' hE)))
 exact key vs [] σ Ext.refl (λU h=>h) (by simpa using hl) λσ' hE=>bP (by simpa using hl) (q σ' hE)
theorem qS {i:It} (h:pN C i l σ λp σ=>ei (p.2.ok σ&&p.2.bound) (aC (jA p.1) λps=>aC (putAll [] ps) λd=>bA σ ps.length (.dict d) Q)):aK C (.dictOf i) l σ Q:=h
theorem qT {β:Type}{k w:β->V}:∀vs:List β,jA (vs.map λx=>V.tup [k x,w x])=some (vs.map λx=>(k x,w x)):=by
 intro z9;induction z9 with
 | nil=>exact rfl
 | cons x vs ih=>
  show (match some [k x,w x] with | some [k,x]=>(jA _).map ((k,x)::·) | _=>none)=_
  exact aa (ih) rfl
theorem v8 {n:Nat}:∀(ps d:List (V×V)),((d++ps).map (·.1)).Nodup->(∀p∈d++ps,p.1.kind=some n)->putAll d ps=some (d++ps):=by
 intro z9;induction z9 with
 | nil=>intro d U U;exact aa (U6 ..) rfl
 | cons p ps ih=>
  intro d hn hk
  have k1:keyOk d p.1=true:=by
   delta keyOk
   refine aa (hk p (by simp)) ?_
   clear hn;cases d with
   | nil=>rfl
   | cons q d=>exact decide_eq_true (hk q (Ur))
  have k2:dput d p.1 p.2=d++ [p]:=by
   delta dput
   rw [if_neg λq=>?_]
   refine aN (List.any_eq_true.mp q) λx hx hq=>?_
   rw [UJ,U2] at hn
   exact hn.2.2 x.1 (List.mem_map.mpr (i12 x hx rfl)) p.1 (Ur) (of_decide_eq_true hq)
  show (if keyOk d p.1 then _ else _)=_
  refine w2 k1 k2 ?_
  simpa using (ih (d++ [p]) (by simpa using hn) (by simpa using hk))
theorem HN {y:List (V×V)}:∀(x:List (V×V)),(∀p∈x,keyOk y p.1=true/\ag y p.1=some p.2/\wu (eE p.2) (eE p.2)=some true)->uQ y x=some true:=by
 intro z9;induction z9 with
 | nil=>exact λU=>rfl
 | cons p x ih=>
  refine λh=>eg (h p Ur) λh1 h2 h3=>?_
  dsimp only [uQ]
  refine w2 h1 h2 ?_
  show (match wu (eE p.2) (eE p.2) with | some true=>_ | some false=>_ | none=>_)=_
  exact aa h3 (ih λq hq=>h q (Uy _ hq))
theorem mq {d:List (V×V)} (hn:(d.map (·.1)).Nodup):∀p∈d,ag d p.1=some p.2:=by
 induction d with
 | nil=>exact nofun
 | cons q d ih=>
  intro p hp
  rw [UX,U5] at hn
  refine bh.trans ?_
  rcases List.mem_cons.mp hp with rfl | hp
  ·exact if_pos rfl
  ·exact (if_neg λe=>hn.1 (List.mem_map.mpr (i12 p hp e.symm))).trans (ih hn.2 p hp)
end
def Wt (w:V):Prop:=(∃i:Int,w=.int i)\/w=mU
theorem Wt.eq {w:V} (h:Wt w):wu (eE w) (eE w)=some true:=by
 rcases h with ⟨i,rfl⟩ | rfl
 ·simpa [xM,dictAt,ew] using (pj (σ:=⟨0,λU=>none⟩) (i:=i) (j:=i))
 ·decide+kernel
end
end Mine.Internal.R
namespace Mine.Internal.R
noncomputable section
noncomputable def uC (e:Ed):V:=pJ e.1 e.2.1
noncomputable def uD (e:Ed):V×V:=(uC e,e.2.2)
structure sC (g:Cfg) (E:List Ed):Prop where
 f:dv (· ∈E)
 ends:∀e∈E,e.1∈g.T/\e.2.1∈g.T
 wt:∀e∈E,Wt e.2.2
 len:E.length<=100
section
variable {g:Cfg}{σ:St}{c:aS}{n:Nat}{Q:K1 V}{E:List Ed}{l:Loc}{C:Fn->List V->St->K1 V->Prop}{R:Fl->Loc->St->Prop}{r:Ss}
theorem sC.key (G:aP g) (h:sC g E) {d e:Ed} (hd:d∈E) (he:e∈E) (q:uC d=uC e):d=e:=
 h.f.ends hd he (Ey (G.int _ (h.ends d hd).1) (G.int _ (h.ends d hd).2) (G.int _ (h.ends e he).1) (G.int _ (h.ends e he).2) q)
theorem sC.nd (G:aP g) (h:sC g E):∀ {l:List Ed},(∀e∈l,e∈E)->l.Nodup->((l.map uD).map (·.1)).Nodup:=by
 intro z9;induction z9 with
 | nil=>exact λU U=>Vr
 | cons e l ih=>
  intro hs hn
  rw [U5] at hn
  rw [UX,UX,U5]
  refine ⟨λq=>hn.1 (aN (List.mem_map.mp q) λp hp q=>aN (List.mem_map.mp hp) λd hd z1=>?_),ih (λx hx=>hs x (Uy _ hx)) hn.2⟩;clear hp;subst z1
  exact aR (h.key G (hs d (Uy _ hd)) (hs e Ur) q) hd
theorem sC.kd (G:aP g) (h:sC g E) {l:List Ed} (hs:∀e∈l,e∈E):∀p∈l.map uD,p.1.kind=some 2:=λp hp=>by
 obtain ⟨e,he,rfl⟩:=List.mem_map.mp hp
 exact B0 (G.int _ (h.ends e (hs e he)).1) (G.int _ (h.ends e (hs e he)).2)
theorem sC.put (G:aP g) (h:sC g E) {l:List Ed} (hs:∀e∈l,e∈E) (hn:l.Nodup):putAll [] (l.map uD)=some (l.map uD):=v8 (n:=2) _ [] (h.nd G hs hn) (h.kd G hs)
theorem sC.same (G:aP g) (h:sC g E) {l m:List Ed} (hl:∀e∈l,e∈E) (nl:l.Nodup) (nm:m.Nodup) (hm:∀e,e∈l↔e∈m):uQ (m.map uD) (l.map uD)=some true:=
 HN _ λp hp=>by
  have OE:=λe he=>hl e ((hm e).mpr he)
  obtain ⟨e,he,rfl⟩:=List.mem_map.mp hp
  have hk:=h.kd G OE (uD e) (List.mem_map.mpr (i12 e ((hm e).mp he) rfl))
  refine fc ?_ (mq (h.nd G OE nm) (uD e) (List.mem_map.mpr (i12 e ((hm e).mp he) rfl))) ((h.wt e (hl e he)).eq)
  delta keyOk
  rw [hk]
  cases hc:m.map uD with
  | nil=>rfl
  | cons q d=>exact decide_eq_true (h.kd G OE q (by rw [hc];exact Ur))
theorem Ev.MB (H:Rep g σ c) (W:Wf g c) (G:aP g) (l1:l .aT=some (.ref 27)) {e p w v} (h:Ev l σ e v) (u:ag c.up v=some (V.tup [p,w])):Ev l σ (.sub (.attr (.nm .aT) .hS) e) (V.tup [p,w]):=
 Ev.sub (Ev.attr (Ev.nm l1) H.b9 rfl rfl) h (nG H.up (W.up.key G.kind (W.up.mem u)) u)
theorem mu {e}{K:K1 (List V×Gd)} (h:aK C e l σ λv σ=>aC (cG σ v) λp=>K p σ):pN C (.of e) l σ K:=h
theorem B6 {a b}{K:K1 (List V×Gd)} (h:aK C a l σ λva σ=>aK C b l σ λvb σ=>aC (cG σ va) λp=>aC (cG σ vb) λq=>K ((p.1.zip q.1).map (λx=>V.tup [x.1,x.2]),.two p.2 q.2) σ):pN C (.zip a b) l σ K:=h
theorem sE {t e b} (h:aK C e l σ λv σ=>aC (cG σ v) λp=>forL p.2 t (λl σ Q=>aG C b l σ Q) p.1 l σ (nk C r R)):aG C (.cons (.for t (.of e) b) r) l σ R:=h
theorem uE {e1 e2 es} (h:Ev l σ e1 (.bool true)) (q:aK C (.bW true (.cons e2 es)) l σ Q):aK C (.bW true (.cons e1 (.cons e2 es))) l σ Q:=by
 refine h C _ (show (if true=true then zb C true (.cons e2 es) l σ Q else Q (.bool true) σ) from ?_)
 exact q
theorem wp_and_1 {e} (h:aK C e l σ λv σ=>aC (bc v) λb=>Q (.bool b) σ):aK C (.bW true (.cons e .nil)) l σ Q:=h
theorem Ez (G:aP g) (hE:sC g E) {L gZ:List Ed}{m:V}{rf rr rd rw:Nat} (mT:m∈g.T) (yV:∀e∈gZ,e∈E) (hn:gZ.Nodup) (wE:∀e∈L.map (ec E),e∈E) (wn:(L.map (ec E)).Nodup) (wm:∀e,e∈L.map (ec E)↔e∈gZ)
 (l1:l .jr=some m) (l2:l .aV=some m) (l3:l .bY=some (.ref rf)) (l4:l .fx=some (.ref rr)) (l5:l .ky=some (.ref rd)) (l6:l .jx=some (.ref rw))
 (h3:σ.get rf=some (.list (L.map λe=>uC e))) (h4:σ.get rr=some (.list (L.map λe=>e.2.2))) (h5:σ.get rd=some (.list (gZ.map iI))) (h6:σ.get rw=some (.dict (gZ.map uD))) (hw:rw<σ.next)
 (q:∀σ',Ext σ σ'->R (.ret (.bool true)) l σ'):
 aG C (.cons (.ret (.bW true (.cons (.cmp .eq (.nm .jr) (.nm .aV)) (.cons (.cmp .eq (.len (.nm .bY)) (.len (.nm .ky))) (.cons (.cmp .eq (.dictOf (.zip (.nm .bY) (.nm .fx))) (.nm .jx)) .nil))))) r) l σ R:=by
 have len:L.length=gZ.length:=by have:=vU wn hn wm;rwa [UD] at this
 have kv:∀e∈L,uD e=uD (ec E e):=λe he=>by
  have h:=(λe he=>wE _ (List.mem_map.mpr (i12 e he rfl))) e he
  unfold ec at h ⊢
  split at h
  ·rename_i hh;exact congrArg _ (if_pos hh).symm
  ·rename_i hh
   refine aa (if_neg hh) ?_
   have t:=hE.ends _ h
   exact congrArg (·,e.2.2) (BZ (G.int _ t.2) (G.int _ t.1))
 have Qt:L.map uD=(L.map (ec E)).map uD:=by exact aa We (VP kv)
 have c1:=Ev.cmp (op:=.eq) (Ev.nm l1) (Ev.nm l2) (t5 (σ:=σ) (G.int _ mT) (G.int _ mT))
 have c2:=Ev.cmp (op:=.eq) (Ev.len (Ev.nm l3) (cN h3)) (Ev.len (Ev.nm l5) (cN h5)) (pj (σ:=σ))
 rw [decide_eq_true rfl] at c1
 rw [decide_eq_true ((w2 (UD ..) (UD ..) (congrArg _ len)))] at c2
 refine BF (uE c1 (uE c2 (wp_and_1 (qS (B6 ((Ev.nm l3) C _ ((Ev.nm l4) C _ (ah (bB h3) (ah (bB h4) ?_)))))))))
 have hz:((L.map λe=>uC e).zip (L.map λe=>e.2.2)).map (λx=>V.tup [x.1,x.2])=L.map λe=>V.tup [uC e,e.2.2]:=by
  refine aa List.zip_map' (List.map_map.trans ?_);rfl
 refine aa hz (aq ?_ (ah (qT L) (ah (a:=L.map uD) ?_ (bP (fS (aa (UD ..) (aJ (Y2 _ _) Z0 (.n 1000) (.a Z0 Z1) (.a Z1 (.n 100)) (Uq (UI len) (Ut (dW hn yV) hE.len)) rfl))) ?_))))
 ·simp only [Gd.ok,Gd.bound,h3,h4,decide_true,Ĝ]
 ·exact aa Qt (hE.put G wE wn)
 ·refine (Ev.nm l6) C _ (ah (a:=true) ?_ (q _ Ext.push))
  show xM _ _ _=_
  delta xM
  simp only [dictAt,ao,aX hw,h6]
  exact (if_pos (by simp [len])).trans ((if_neg (Vj hw)).trans (aa Qt (hE.same G wE wn hn wm)))
structure WA (c:aS) (l1:List Ed) (m:V) (a b:V) (rt rd:Nat) (x:List Ed×List Ed×V) (l:Loc):Prop where
 ch:x.1++x.2.1=l1
 pre:Pre (ag c.up) x.2.2 x.2.1 m
 l1:l .aT=some (.ref 27)
 l2:l .dO=some (.ref rt)
 l3:l .aV=some x.2.2
 l4:l .bN=some (.int x.1.length)
 l5:l .mD=some b
 l6:l .ky=some (.ref rd)
structure WB (c:aS) (m:V) (rt rd:Nat) (x:V) (es:List Ed) (l:Loc):Prop where
 pre:Pre (ag c.up) x es m
 l1:l .aT=some (.ref 27)
 l2:l .dO=some (.ref rt)
 l3:l .aV=some m
 l4:l .jr=some x
 l6:l .ky=some (.ref rd)
theorem mid {α β:Type} (f:α->β) (a:List α) (x:α) (b:List α):((a++x::b).map f)[a.length]? =some (f x):=by simp
theorem B7 (G:aP g) (H:Rep g σ c) (W:Wf g c) (hc:D3 (ag c.up) (· ∈E)) (hF:yJ (ag c.up)) (hE:sC g E) {a b:V} (ha:a∈g.T) (hb:b∈g.T) {gZ:List Ed}{rd:Nat} (hd:σ.get rd=some (.list (gZ.map iI))) (OF:rd<σ.next)
 (hn:gZ.Nodup) (hm:∀e,e∈gZ↔e∈E/\¬au (less (· ∈E) e) a b) (Ma:au (· ∈E) a b) (q:∀σ',Ext σ σ'->Q (.bool true) σ'):aE aH (n+2) .hU [.ref 27,a,b,.ref rd] σ Q:=by
 refine eQ (hF a) λca t pa ht=>bb (Ma.root hc pa ht) λcb pb=>bH rfl rfl (gG (aF (Ev.nm rfl) H.b9 rfl (.cons (Ev.nm rfl) (.cons (Ev.nm rfl) .nil)) (KY G H W pa pb ht ha hb λfe rt l1 l2 m E1 II xu p1 p2 Sx CG=>?_)))
 have wy:=yU hc hF hE.f p1 p2 CG
 have up:∀t∈l1++l2,ag c.up t.1=some (V.tup [t.2.1,t.2.2]):=λt ht=>(List.mem_append.mp ht).elim (p1.mem t) (p2.mem t)
 have v9:∀t∈l1++l2,t.1∈g.T/\t.2.1∈g.T:=λt ht=>(List.mem_append.mp ht).elim ((p1.pZ W ha).2 t) ((p2.pZ W hb).2 t)
 have mT:m∈g.T:=(p1.pZ W ha).1
 have yV:∀e∈gZ,e∈E:=λe he=>((hm e).mp he).1
 have wE:∀e∈(l1++l2).map (ec E),e∈E:=λe he=>((wy.sep e).mp he).1
 have ll:(l1++l2).length<=100:=by
  have:=dW wy.nd wE;rw [UD] at this;exact Ut this hE.len
 have wT:∀e∈gZ,e.1∈g.T/\e.2.1∈g.T:=λe he=>hE.ends e (yV e he)
 have dl:gZ.length<=100:=Ut (dW hn yV) hE.len
 refine jb rfl (a6 (Ev.nm rfl) (a6 Ev.int (dJ (λx=>x.2.1.length) (λx l σ'=>WA c l1 m a b rt rd x l/\σ'=fe) ([],l1,a) (Vk (m:=100) (by rw [UA] at ll;exact aJ (Y2 _ _) Z0 (.n 100) (.a Z0 Z1) (.n 100) ll rfl) (Ui rfl)) ⟨⟨rfl,p1,rfl,rfl,rfl,rfl,rfl,rfl⟩,rfl⟩ ?_)))
 intro x l σ' K J K1
 obtain ⟨J,rfl⟩:=J
 obtain ⟨m1,m2,x⟩:=x
 have MC:m1++m2=l1:=J.ch
 have hlen:=Ev.len (Ev.nm J.l2) (cN xu)
 have F5:∀ {v},((l1++l2).map (·.1))[m1.length]? =some v->v∈g.T->x∈g.T->Ev l σ' (.bW true (.cons (.cmp .lt (.nm .bN) (.len (.nm .dO))) (.cons (.cmp .eq (.sub (.nm .dO) (.nm .bN)) (.nm .aV)) .nil))) (.bool (decide (v=x))):=λ{v} hv Sy MD=>
  Ev.IY (Ev.cmp (Ev.nm J.l4) hlen (pG.trans (congrArg some (decide_eq_true (by have:=(List.getElem?_eq_some_iff.mp hv).1;show (m1.length:Int)<_;lia))))) (Ev.bo (Ev.cmp (Ev.sub (Ev.nm J.l2) (Ev.nm J.l4) (fW xu (by exact hv))) (Ev.nm J.l3) (t5 (G.int _ Sy) (G.int _ MD))))
 cases m2 with
 | cons e m2=>
  have e1:e.1=x/\Pre (ag c.up) e.2.1 m2 m:=by
   exact J.pre.inv (λh=>by cases h) λp w k hk U hp=>aU (Vx hk) λh1 z2=>w2 z2 h1 ⟨rfl,hp⟩
  have HO:e∈l1++l2:=U4 _ (aR MC (VJ _ Ur))
  have o1:((l1++l2).map (·.1))[m1.length]? =some e.1:=aR MC (aa (UW ..) (mid ..))
  have OG:=F5 o1 (v9 e HO).1 (aR e1.1 (v9 e HO).1)
  replace OG:=(decide_eq_true e1.1)▸OG
  refine a6 OG (jb rfl (a6 (Ev.sub (Ev.MB (H.ext E1) W G J.l1 (Ev.nm J.l3) ((congrArg _ e1.1.symm).trans (up e HO))) Ev.int rfl) (a6 (Ev.ko (Ev.nm J.l4) Ev.int rfl) (K1 (m1++ [e],m2,e.2.1) _ _ (Uw _) ⟨⟨by exact (UW _ _ _).trans MC.symm.symm,e1.2,J.l1,J.l2,rfl,?_,J.l5,J.l6⟩,rfl⟩))))
  exact aa UA rfl
 | nil=>
  have hx:x=m:=by
   exact J.pre.inv (λU h=>h) λU U U h=>by cases h
  subst hx
  have La:m1=l1:=by exact aR MC ((U6 ..).symm)
  subst La
  have Sz:Ev l σ' (.bW true (.cons (.cmp .lt (.nm .bN) (.len (.nm .dO))) (.cons (.cmp .eq (.sub (.nm .dO) (.nm .bN)) (.nm .aV)) .nil))) (.bool false):=by
   cases l2 with
   | nil=>exact Ev.KL (c:=true) (Ev.cmp (Ev.nm J.l4) hlen (pG.trans (congrArg some (decide_eq_false (by simp)))))
   | cons e l2=>
    exact aR (decide_eq_false λh=>Sx (List.mem_map.mpr (i12 e (VJ _ Ur) h))) (F5 (mid (·.1) m1 e l2) (v9 e (VJ _ Ur)).1 mT)
  refine a6 Sz (dT (Ev.nm J.l5) (sE (so (k:=m1.length) (Ev.nm J.l2) xu (Ev.nm J.l4) (fS (by rw [UA] at ll;exact aJ (Y2 _ _) Z0 (.n 1000) (.a Z0 Z1) (.n 100) ll rfl)) (fS (aa (UD ..) (aJ (Y1 _) Z0 (.n 1000) Z0 (.n 100) ll rfl))) ?_)))
  have lS:((m1++l2).map (·.1)).drop m1.length=l2.map (·.1):=by exact (congrArg _ UJ).trans (List.drop_left' (UD _))
  refine aa lS ?_
  have E2:Ext σ (σ'.push (.list (l2.map (·.1)))):=E1.trans Ext.push
  have B8:=(aX (o:=.list (l2.map (·.1))) II).trans xu
  have SA:=(E2.keep rd OF).trans hd
  refine ah (bB ao) (lW (f:=λe:Ed=>e.1) (I:=λy es l bU=>WB c x rt rd y es l/\(∀e∈es,e∈l2)/\bU=σ'.push (.list (l2.map (·.1)))) ?_ ?_ l2 b _ _ (fc ⟨p2,J.l1,J.l2,J.l3,rfl,J.l6⟩ (λU h=>h) rfl))
  ·intro y l' bU I
   obtain ⟨I,_,rfl⟩:=I
   have hy:y=x:=by
    exact I.pre.inv (λU h=>h) λU U U h=>by cases h
   subst hy
   refine ⟨decide_eq_true ao,?_⟩
   generalize OH:σ'.push (.list (l2.map (·.1)))=τ at*
   refine gG (uB (β:=Ed) (λe=>e.1) (λe=>uC e) (Ev.nm I.l2) (bB B8) (λOI hE=>?_) (fS (aJ (Y1 _) Z0 (.n 1000) Z0 (.n 100) ll rfl)) (λe he=>i12 _ rfl (λOI Q hE k=>?_)) λEA X1=>?_)
   ·exact decide_eq_true ((hE.keep rt (aR OH (UR II))).trans B8)
   ·have H3:=H.ext (E2.trans hE)
    refine B5 (G.int _ (v9 e he).1) (G.int _ (v9 e he).2) (λQ' k'=>bS (.cons (Ev.nm rfl) (.cons (Ev.sub (Ev.MB H3 W G (by exact I.l1) (Ev.nm rfl) (up e he)) Ev.int rfl) .nil)) (Ui rfl) (k' _ _ _ Ext.push (bB ao) (decide_eq_true ao))) k
   ·have e5:Ext EA (EA.push (.list ((m1++l2).map λe=>uC e))):=Ext.push
    have xw:=(aX (o:=.list ((m1++l2).map λe=>uC e)) (UM (by exact aR OH (UR II)) X1.le)).trans ((X1.keep rt (aR OH (UR II))).trans B8)
    have HP:(EA.push (.list ((m1++l2).map λe=>uC e))).get EA.next=_:=ao
    have ME:EA.next<(EA.push (.list ((m1++l2).map λe=>uC e))).next:=Uw _
    have E5:=(E2.trans X1).trans e5
    have HQ:=(E5.keep rd OF).trans hd
    have MF:rd<(EA.push (.list ((m1++l2).map λe=>uC e))).next:=UM OF E5.le
    revert xw HP ME E5 HQ MF
    generalize EA.next=rf
    generalize EA.push (.list ((m1++l2).map λe=>uC e))=F6
    refine λxw HP ME E5 HQ MF=>gG (sq (f:=λv=>((ag c.up v).bind V.items).elim .none λp=>p.getD 1 .none) (λQ q=>Ev.nm I.l2 (aE aH (n+1)) Q q) (bB xw) (decide_eq_true xw) (fS (aa (UD ..) (aJ (Y1 _) Z0 (.n 1000) Z0 (.n 100) ll rfl))) (λv hv=>?_) ?_)
    ·exact aN (List.mem_map.mp hv) λe he z4=>aR z4 (i12 _ rfl (aa (up e he) (Ev.sub (Ev.MB (H.ext E5) W G (l:=(l'.set .bY (.ref rf)).set .dg e.1) I.l1 (Ev.nm (x:=.dg) rfl) (up e he)) (Ev.int (i:=1)) (v:=e.2.2) rfl)))
    ·have OJ:YM (λv=>((ag c.up v).bind V.items).elim V.none λp=>p.getD 1 .none) ((m1++l2).map λe=>e.1)=(m1++l2).map λe=>e.2.2:=by
      refine List.map_map.trans (VP λe he=>?_)
      show ((ag c.up e.1).bind V.items).elim _ _=_
      exact aa (up e he) rfl
     refine aa OJ ?_
     have HR:=(aX (o:=.list ((m1++l2).map λe=>e.2.2)) ME).trans HP
     have HT:(F6.push (.list ((m1++l2).map λe=>e.2.2))).get F6.next=_:=ao
     have OK:F6.next<(F6.push (.list ((m1++l2).map λe=>e.2.2))).next:=Uw _
     have HU:rf<(F6.push (.list ((m1++l2).map λe=>e.2.2))).next:=UR ME
     have E6:=E5.trans (Ext.push (o:=.list ((m1++l2).map λe=>e.2.2)))
     have B9:=(aX (o:=.list ((m1++l2).map λe=>e.2.2)) MF).trans HQ
     have MG:rd<(F6.push (.list ((m1++l2).map λe=>e.2.2))).next:=UR MF
     revert HR HT OK HU E6 B9 MG
     generalize F6.next=rr
     generalize F6.push (.list ((m1++l2).map λe=>e.2.2))=Uc
     refine λHR HT OK HU E6 B9 MG=>gG (qS (mu (uB (β:=Ed) iI (λe=>V.tup [uC e,e.2.2]) (Ev.nm I.l6) (bB B9) (λOI hE=>decide_eq_true ((hE.keep rd MG).trans B9)) (fS (aJ (Y1 _) Z0 (.n 1000) Z0 (.n 100) dl rfl)) (λe he=>i12 _ rfl (λOI Q hE k=>?_)) λOL X4=>?_)))
     ·have ee:=wT e he
      refine BK (iF (B5 (x:=e.1) (y:=e.2.1) (G.int _ ee.1) (G.int _ ee.2) (λQ' k'=>Ev.F4 (k:=2) (xs:=[e.1,e.2.1,e.2.2]) (Ev.nm rfl) Ev.int rfl (λ_ (h:V.cons _ _=V.ref _)=>V.noConfusion h) (Ui rfl) (by decide) _ _ (k' _ _ _ Ext.refl rfl rfl)) λSD SE=>dM (Ev.sub (Ev.nm rfl) Ev.int rfl) (fu (aq rfl (k _ SE)))))
     ·refine ah (bB ao) (aq ((Wo _).trans (decide_eq_true ao)) (ah (qT gZ) (ah (hE.put G yV hn) (aq (decide_eq_true (fS (aa (UD ..) (aJ (Y1 _) Z0 (.n 1000) Z0 (.n 100) dl rfl)))) ?_))))
      have X5:=X4.trans (Ext.push.trans (Ext.push (σ:=OL.push (.list (gZ.map λe=>V.tup [uC e,e.2.2]))) (o:=.dict (gZ.map uD))))
      exact Ez G hE (l:=(Loc.set (Loc.set (Loc.set l' .bY (.ref rf)) .fx (.ref rr)) .jx (.ref (OL.push (.list (gZ.map λe=>V.tup [uC e,e.2.2]))).next))) (σ:=(OL.push (.list (gZ.map λe=>V.tup [uC e,e.2.2]))).push (.dict (gZ.map uD))) mT yV hn wE wy.nd (λe=>(wy.sep e).trans (hm e).symm) I.l4 I.l3 rfl rfl I.l6 rfl
       ((X5.keep _ HU).trans HR) ((X5.keep _ OK).trans HT) ((X5.keep _ MG).trans B9) ao (Uw _) λUd X6=>q _ (E6.trans (X5.trans X6))
  ·intro y e es l' bU K I K1
   obtain ⟨I,I2,rfl⟩:=I
   have he:=I2 e Ur
   have HO:e∈m1++l2:=VJ _ he
   have e1:e.1=y/\Pre (ag c.up) e.2.1 es x:=by
    exact I.pre.inv (λh=>by cases h) λp w k hk U hp=>aU (Vx hk) λh1 z6=>w2 z6 h1 ⟨rfl,hp⟩
   have c1:=Ev.cmp (op:=.ne) (l:=l'.set .dg e.1) (σ:=σ'.push (.list (l2.map (·.1)))) (Ev.nm (x:=.dg) rfl) (Ev.nm (x:=.jr) I.l4) (qI (G.int _ (v9 e HO).1) (G.int _ (aR e1.1 (v9 e HO).1)))
   replace c1:=(decide_eq_true e1.1)▸c1
   exact ⟨decide_eq_true ao,_,rfl,dw c1 (dT (Ev.sub (Ev.MB (H.ext E2) W G (by exact I.l1) (Ev.nm rfl) (up e HO)) Ev.int rfl) (K1 e.2.1 _ _ (fc ⟨e1.2,I.l1,I.l2,I.l3,rfl,I.l6⟩ (λx hx=>I2 x (Uy _ hx)) rfl)))⟩
end
end
end Mine.Internal.R
namespace Mine.Internal.R
noncomputable section
theorem lift_map {α β:Type}{f:α->β}{D:List α}:∀ {ys:List β},(∀y∈ys,y∈D.map f)->∃zs:List α,ys=zs.map f/\∀z∈zs,z∈D:=by
 intro z9;induction z9 with
 | nil=>exact λU=>i12 ([]) rfl nofun
 | cons y ys ih=>
  exact λh=>aN (List.mem_map.mp (h y Ur)) λz hz z1=>aR z1 (aN (ih λy hy=>h y (Uy _ hy)) λzs z2 h2=>aa z2 (i12 (z::zs) rfl (λx hx=>(List.mem_cons.mp hx).elim (λe=>aa e hz) (h2 x))))
section
variable {g:Cfg}{σ:St}{c:aS}{n:Nat}{Q:K1 V}{E:List Ed}{l:Loc}{C:Fn->List V->St->K1 V->Prop}{R:Fl->Loc->St->Prop}{r:Ss}
theorem B' (hf:dv (· ∈E)) {a b:V}{gZ:List Ed} (w:Walk (· ∈E) a gZ b) (hn:gZ.Nodup):(∀e,e∈gZ↔e∈E/\¬au (less (· ∈E) e) a b)/\∀e,e∈gZ↔e∈E/\¬au (less (· ∈E) e) b a:=
 ⟨λU=>w.sep hf hn,λU=>(w.sep hf hn).trans (and_congr_right λU=>not_congr ⟨au.symm,au.symm⟩)⟩
theorem HV {e1 e2} (h:aK C e1 l σ λv σ=>aC (bc v) λb=>match b with
 | false=>aK C e2 l σ λv σ=>aC (bc v) λb=>Q (.bool b) σ
 | true=>Q (.bool true) σ):aK C (.bW false (.cons e1 (.cons e2 .nil))) l σ Q:=by
 have e:(λ(v:V) (σ:St)=>aC (bc v) λb=>if b=false then zb C false (.cons e2 .nil) l σ Q else Q (.bool b) σ)=λv σ=>aC (bc v) λb=>match b with
  | false=>aK C e2 l σ λv σ=>aC (bc v) λb=>Q (.bool b) σ
  | true=>Q (.bool true) σ:=funext λv=>funext λσ=>congrArg (aC (bc v)) (funext λb=>by cases b<;>rfl)
 exact (congrArg (aK C e1 l σ) e).mpr h
theorem n8 {e} (h:aK C e l σ λv σ=>aC (bc v) λb=>Q (.bool (!b)) σ):aK C (.not e) l σ Q:=h
theorem sF {b:Bool}{f:Bool->Prop} (h:f b):aC (bc (.bool b)) f:=h
theorem yW {i} (h:pN C i l σ λp σ=>ei (p.2.ok σ&&sortable p.1) (∀ys,fY p.1 ys->bA σ ys.length (.list ys) Q)):aK C (.sorted i) l σ Q:=h
theorem Ca {a}{K:K1 (List V×Gd)} (h:aK C a l σ λva σ=>aC (dictAt σ va) λp=>ei (p.2.all λx=>isInt x.1) (K (p.2.map (λx=>V.tup [x.1,x.2]),.obj p.1 (.dict p.2)) σ)):pN C (.items a) l σ K:=h
theorem HW {wd we wc:Nat}{calls:List V} (G:aP g) (H:Rep g σ c) (W:Wf g c) (hc:D3 (ag c.up) (· ∈E)) (hF:yJ (ag c.up)) (hE:sC g E) (hW:p9 σ wd we wc E calls) {a:V} (ha:a∈g.T) (q:∀σ',Ext σ σ'->Q (.bool true) σ'):
 aE aH (n+3) .dq [.ref wd,.ref 27,a] σ Q:=by
 refine bH rfl rfl (sE (yW (Ca (wp_call (.cons (Ev.nm rfl) (.cons (Ev.nm rfl) .nil)) (sA G hW hE.ends hE.len ha λfe r D E1 hr hD T=>?_)))))
 have Lf:=λp hp=>G.int _ (T.dk.sub p hp)
 have aD:=(T.all a).mpr .refl
 have dl:=Ut T.dk.len G.len
 refine ah (a:=(r,D)) (dt hD) (aq (List.all_eq_true.mpr λp hp=>by exact bb (Lf p hp) λi h=>congrArg _ h) ?_)
 obtain ⟨p0,D0,SF⟩:∃p0 D0,D=p0::D0:=by
  cases D with
  | nil=>contradiction
  | cons p d=>exact CR p d rfl
 have Lg:(D.map λx=>V.tup [x.1,x.2]).all isInt=false:=by exact aa SF rfl
 have Iu:∀D:List (V×V),(∀p∈D,∃i:Int,p.1=.int i)->(D.map (·.1)).Nodup->(D.map λx=>V.tup [x.1,x.2]).all (λv=>(fG v).isSome)=true/\((D.map λx=>V.tup [x.1,x.2]).map fG).Nodup:=λD hk hn=>by
  refine ⟨List.all_eq_true.mpr λv hv=>?_,?_⟩
  ·exact aN (List.mem_map.mp hv) λp hp z1=>aR z1 (bb (hk p hp) λi hi=>aa hi rfl)
  ·refine aa We ?_
   induction D with
   | nil=>exact Vr
   | cons p D ih=>
    rw [UX,U5] at hn ⊢
    refine ⟨λq=>hn.1 (aN (List.mem_map.mp q) λd hd q=>bb (hk p Ur) λi hi=>bb (hk d (Uy _ hd)) λj hj=>?_),ih (λx hx=>hk x (Uy _ hx)) hn.2⟩
    have q:fG (V.cons d.1 (.cons d.2 .nil))=fG (V.cons p.1 (.cons p.2 .nil)):=q
    rw [hi,hj] at q
    injection q with z0;subst z0
    exact List.mem_map.mpr (i12 d hd ((w2 hi hj rfl)))
 have hs:=Iu D Lf T.dk.nd
 refine aq (b:=decide (fe.get r=some (.dict D))&&sortable (D.map λx=>V.tup [x.1,x.2])) ?_ λys hy=>?_
 ·refine aa (decide_eq_true hD) (?_)
  delta sortable
  refine w3 (decide_eq_true hs.2) hs.1 (decide_eq_true (aa (UD ..) (aJ (Y1 _) (.s Z0) (.n 64) Z0 (.n 8) dl rfl))) (aa Lg ?_);rfl
 unfold fY at hy
 rw [if_neg (by refine aa Lg ?_;simp)] at hy
 refine aN (lift_map λy h=>hy.mem_iff.mp h) λzs z2 hz=>?_;subst z2
 have hl:=hy.length_eq
 rw [UD,UD] at hl
 refine bP (fS (aa (UD ..) (aJ (Y2 _ _) Z0 (.n 1000) (.a Z1 Z0) (.a (.n 8) Z1) (Uq dl (UI hl)) rfl))) (ah (bB ao) (lW (f:=λx:V×V=>V.tup [x.1,x.2]) (I:=λ(_:Unit) es l σ'=>Ext (fe.push (.list (zs.map λx=>V.tup [x.1,x.2]))) σ'/\(∀z∈es,z∈D)/\l .aT=some (.ref 27)/\l .jn=some a) ?_ ?_ zs () _ _ (zk Ext.refl hz rfl rfl)))
 ·exact λ_ l' σ' I=>⟨decide_eq_true ((I.1.keep _ (Uw _)).trans ao),ek Ev.bool (q _ (E1.trans (Ext.push.trans I.1)))⟩
 ·refine λ_ z es l' σ' K I K1=>CQ I λI1 I2 I3 I4=>?_;clear I
  obtain ⟨z,v⟩:=z
  have Qu:=I2 (z,v) Ur
  have hg:=mq T.dk.nd _ Qu
  refine zl (T.ok z v hg) λrd gZ z3 lt gr w nd=>aa z3 ?_
  have zT:z∈g.T:=T.dk.sub _ Qu
  have X2:=Ext.push.trans I1
  have sp:=B' hE.f w nd
  have cn:=(T.all z).mp (congrArg _ hg)
  exact ⟨decide_eq_true ((I1.keep _ (Uw _)).trans ao),_,rfl,mW (HV (n8 (wp_call (.cons (Ev.nm (I3)) (.cons (Ev.nm (I4)) (.cons (Ev.nm rfl) (.cons (Ev.nm rfl) .nil)))) (B7 G (H.ext (E1.trans X2)) W hc hF hE ha zT ((X2.keep _ lt).trans gr) (UM lt X2.le) nd sp.1 cn λiJ X3=>sF (sF (n8 (wp_call (.cons (Ev.nm (I3)) (.cons (Ev.nm rfl) (.cons (Ev.nm (I4)) (.cons (Ev.nm rfl) .nil)))) (B7 G (H.ext (E1.trans (X2.trans X3))) W hc hF hE zT ha (((X2.trans X3).keep _ lt).trans gr) (UM lt (X2.trans X3).le) nd sp.2 cn.symm λi3 X4=>sF (sF (sF (K1 () _ _ (zk (I1.trans (X3.trans X4)) (λx hx=>I2 x (Uy _ hx)) I3 I4))))))))))))⟩
end
end
end Mine.Internal.R
namespace Mine.Internal.R
noncomputable section
inductive yX (g:Cfg):List Nat->List Nat->List V->List Ed->aS->Prop
 | nil {tr E c}:yX g [] [] tr E c
 | snoc {ts en tr E cb seg tl c}:yX g ts en tr E cb->Inv g cb (· ∈E)->el g cb (· ∈E)->sC g E->Back g cb seg c->yX g (ts++ [tr.length]) (en++ [E.length]) (tr++seg) (E++tl) c
section
variable {g:Cfg}{c c':aS}{E:List Ed}{ts en:List Nat}{tr:List V}
theorem yX.step {seg tl} (h:yX g ts en tr E c) (b:Back g c seg c'):yX g ts en (tr++seg) (E++tl) c':=by
 cases h with
 | nil=>exact .nil
 | snoc h i k o b0=>exact aa (UW ..) (aa (UW ..) (.snoc h i k o (b0.trans b)))
theorem yX.len (h:yX g ts en tr E c):ts.length=en.length:=by
 induction h with
 | nil=>rfl
 | snoc _ _ _ _ _ ih=>refine w2 UA UA ((congrArg _ ih).trans ?_);rfl
inductive Lh (g:Cfg) (c:aS) (E:List Ed) (tr:List V) (ts en:List Nat) (j:Nat):Prop
 | mk (IK Li wb Lj:List Nat) (nQ:List V) (E0:List Ed) (cb:aS) (seg:List V) (tl:List Ed) (e1:ts=IK++nQ.length::Li) (e2:en=wb++E0.length::Lj) (e3:Li.length=j) (e4:Lj.length=j)
  (MH:yX g IK wb nQ E0 cb) (inv:Inv g cb (· ∈E0)) (cl:el g cb (· ∈E0)) (ok:sC g E0) (back:Back g cb seg c) (tr:tr=nQ++seg) (e:E=E0++tl)
theorem yX.pop (h:yX g ts en tr E c):∀j,j<ts.length->Lh g c E tr ts en j:=by
 induction h with
 | nil=>exact λj h=>absurd h (Zl _)
 | @snoc ts en tr E cb seg tl c h i k o b ih=>
  intro j hj
  cases j with
  | zero=>exact ⟨ts,[],en,[],tr,E,cb,seg,tl,rfl,rfl,rfl,rfl,h,i,k,o,b,rfl,rfl⟩
  | succ j=>
   cases ih j (Nat.lt_of_succ_lt_succ (Ù hj UA)) with
   | mk IK Li wb Lj nQ E0 SG OM SH e1 e2 e3 e4 p1 p2 p3 p4 p5 p6 p7=>
    exact ⟨IK,Li++ [tr.length],wb,Lj++ [E.length],nQ,E0,SG,OM++seg,SH++tl,(congrArg (· ++ [_]) e1).trans (UW ..),(congrArg (· ++ [_]) e2).trans (UW ..),
     List.length_append.trans (congrArg (· +1) e3),List.length_append.trans (congrArg (· +1) e4),p1,p2,p3,p4,p5.trans b,(congrArg (· ++seg) p6).trans (UW ..),(congrArg (· ++tl) p7).trans (UW ..)⟩
end
structure LP (σ:St) (c:aS) (ps:List (Nat×O)):Prop where
 ok:∀q∈ps,q.1<σ.next/\c.role q.1=.none/\σ.get q.1=some q.2
 nd:(ps.map (·.1)).Nodup
section
variable {σ σ':St}{c c':aS}{ps A B:List (Nat×O)}{r r':Nat}{o o':O}
theorem LP.yH (P:LP σ c ps) (h:tZ σ c σ' c'):LP σ' c' ps:=
 ⟨λq hq=>have a:=P.ok q hq;have b:=h.keep q.1 a.1 a.2.1;(fc (UM a.1 h.le) b.2 (b.1.trans a.2.2)),P.nd⟩
theorem LP.upd (P:LP σ c (A++(r,o)::B)) (le:σ.next<=σ'.next) (keep:∀x,x<σ.next->c.role x=.none->x≠r->σ'.get x=σ.get x/\c'.role x=.none) (new:r'<σ'.next/\c'.role r'=.none/\σ'.get r'=some o') (hr:r'=r\/σ.next<=r'):LP σ' c' (A++(r',o')::B):=by
 have nd:=P.nd
 rw [UJ,UX,U2,U5] at nd
 have old:∀q,q∈A\/q∈B->q∈A++(r,o)::B/\q.1≠r:=λq hq=>by
  refine hq.elim (λh=>?_) λh=>?_
  ·exact ⟨(U4 _ ‹_›),λe=>nd.2.2 q.1 (List.mem_map.mpr (i12 q h rfl)) r (Ur) e⟩
  ·exact ⟨by simp [h],λe=>nd.2.1.1 (List.mem_map.mpr (i12 q h e))⟩
 have ne:∀q,q∈A\/q∈B->q.1≠r':=λq hq e=>by
  refine hr.elim (λh=>?_) λh=>?_
  ·exact (old q hq).2 (e.trans h)
  ·exact Gl (Y3 _ _ _) (.a (.a Z1 Z2) (.s Z0)) (.a (.a Z0 Z1) Z2) (Uq (Uq (UI e.symm) h) ((P.ok q (old q hq).1).1)) rfl
 refine ⟨λq hq=>?_,?_⟩
 ·have key:=λh=>by
   have a:=P.ok q (old q h).1
   have b:=keep q.1 a.1 a.2.1 (old q h).2
   exact fc (UM a.1 le) b.2 (b.1.trans a.2.2)
  refine (List.mem_append.mp hq).elim (λh=>?_) λh=>?_
  ·exact key (.inl h)
  ·rcases List.mem_cons.mp h with rfl | h
   ·exact new
   ·exact key (.inr h)
 ·refine aa UJ (gL U2 (gL U5 (fc nd.1 ⟨λh=>?_,nd.2.1.2⟩ (λa ha b hb e=>?_))))
  ·exact aN (List.mem_map.mp h) λq hq e=>ne q (.inr hq) e
  ·rcases List.mem_cons.mp hb with rfl | hb
   ·refine aN (List.mem_map.mp ha) λq hq z1=>?_;subst z1;exact ne q (.inl hq) e
   ·exact nd.2.2 a ha b (by simp [hb]) e
theorem LP.set (P:LP σ c (A++(r,o)::B)):LP (σ.set r o') c (A++(r,o')::B):=
 have a:=P.ok (r,o) (by simp)
 P.upd (Ux _) (λx U hx n=>⟨bl n,hx⟩) (fc a.1 a.2.1 cY) (.inl rfl)
end
theorem LP.at_ {σ:St}{c:aS}{ps:List (Nat×O)}{k r:Nat}{o:O} (P:LP σ c ps) (h:ps[k]? =some (r,o)):r<σ.next/\c.role r=.none/\σ.get r=some o:=P.ok (r,o) (Wa h)
theorem LP.ne {σ:St}{c:aS}{ps:List (Nat×O)}{i j r r':Nat}{o o':O} (P:LP σ c ps) (hi:ps[i]? =some (r,o)) (hj:ps[j]? =some (r',o')) (h:i≠j):r≠r':=λe=>by
 have a:(ps.map (·.1))[i]? =some r:=by refine List.getElem?_map.trans (aa hi ?_);rfl
 have b:(ps.map (·.1))[j]? =some r':=by refine List.getElem?_map.trans (aa hj ?_);rfl
 exact bb (List.getElem?_eq_some_iff.mp a) λa1 a2=>bb (List.getElem?_eq_some_iff.mp b) λb1 b2=>h ((XW P.nd).mp (a2.trans (e.trans b2.symm)))
theorem Rep.set {g:Cfg}{σ:St}{c:aS} (H:Rep g σ c) {r o} (h:c.role r=.none):Rep g (σ.set r o) c:=H.Lb k8.set h
structure Gh where
 c:aS
 E:List Ed
 en:List Nat
 we:Nat
 ml:Nat
 s:Nat
noncomputable abbrev Qv (g:Cfg) (tp cl wd wc tm:Nat) (cs calls:List V) (x:Gh):List (Nat×O):=
 [(tp,.dict [(e9,.ref cl),(g6,.int x.s)]),(cl,.list cs),(wd,.dict [(e8,.ref x.we),(fT,.ref wc)]),(x.we,.list (x.E.map iI)),(wc,.list calls),(x.ml,.list (x.en.map λn=>V.int (n:Nat))),(tm,.list g.T)]
structure LI (g:Cfg) (tp cl wd wc tm:Nat) (cs calls:List V) (x:Gh) (σ:St):Prop where
 H:Rep g σ x.c
 P:LP σ x.c (Qv g tp cl wd wc tm cs calls x)
 I:Inv g x.c (· ∈x.E)
 C:el g x.c (· ∈x.E)
 q:x.c.queue=[]
 ok:sC g x.E
 MH:∃ts,x.c.marks=ts.map (λn=>V.int (n:Nat))/\yX g ts x.en x.c.trail x.E x.c
structure LL (l:Loc) (tp wd mk tm:Nat):Prop where
 t:l .bO=some (.ref tp)
 w:l .aL=some (.ref wd)
 e:l .aT=some (.ref 27)
 m:l .aQ=some (.ref mk)
 s:l .bu=some (.ref tm)
section
variable {g:Cfg}{σ σ':St}{tp cl wd wc tm mk:Nat}{cs calls:List V}{x:Gh}{l:Loc}{n:Nat}{Q:K1 V}
theorem LL.set (L:LL l tp wd mk tm) {y v} (h:decide (y∈([.bO,.aL,.aT,.aQ,.bu]:List Nm))=false):LL (l.set y v) tp wd mk tm:=by
 have k:∀z∈([.bO,.aL,.aT,.aQ,.bu]:List Nm),l.set y v z=l z:=λz hz=>if_neg λe=>of_decide_eq_false h (by exact aR e hz)
 exact ⟨(k _ (Ur)).trans L.t,(k _ ((of_decide_eq_true rfl))).trans L.w,(k _ ((of_decide_eq_true rfl))).trans L.e,(k _ ((of_decide_eq_true rfl))).trans L.m,(k _ ((of_decide_eq_true rfl))).trans L.s⟩
theorem LI.ON (J:LI g tp cl wd wc tm cs calls x σ) (hi:mj cs):Tp σ tp cl x.s cs:=
 ⟨(J.P.at_ (k:=0) rfl).2.2,(J.P.at_ (k:=1) rfl).2.2,hi,J.P.ne (i:=0) (j:=1) rfl rfl (by simp)⟩
theorem LI.uF (J:LI g tp cl wd wc tm cs calls x σ):p9 σ wd x.we wc x.E calls:=
 ⟨(J.P.at_ (k:=2) rfl).2.2,(J.P.at_ (k:=3) rfl).2.2,(J.P.at_ (k:=4) rfl).2.2,(fc ((J.P.at_ (k:=2) rfl).1) ((J.P.at_ (k:=3) rfl).1) ((J.P.at_ (k:=4) rfl).1)),
   J.P.ne (i:=2) (j:=3) rfl rfl (by decide),J.P.ne (i:=4) (j:=3) rfl rfl (by decide),J.P.ne (i:=2) (j:=4) rfl rfl (by decide)⟩
theorem LI.ext (J:LI g tp cl wd wc tm cs calls x σ) (h:Ext σ σ'):LI g tp cl wd wc tm cs calls x σ':={J with H:=J.H.ext h,P:=J.P.yH h.yH}
theorem LI.draw (J:LI g tp cl wd wc tm cs calls x σ):LI g tp cl wd wc tm cs calls {x with s:=x.s+1} (σ.set tp (.dict [(e9,.ref cl),(g6,.int (x.s+1:Nat))])):=
 {J with H:=J.H.set (J.P.at_ (k:=0) rfl).2.1,P:=J.P.set (A:=[])}
theorem xx (J:LI g tp cl wd wc tm cs calls x σ) (hi:mj cs) (hs:x.s<=1000) (l1:l .bO=some (.ref tp)) {e:E}{w:Nat} (hw:0<w) (he:Ev l σ e (.int w))
 (q:∀(k:Nat) σ',k<w->LI g tp cl wd wc tm cs calls {x with s:=x.s+1} σ'->Q (.int k) σ'):aK (aE aH (n+1)) (.call .a7 (.cons (.nm .bO) (.cons e .nil))) l σ Q:=
 wp_call (.cons (Ev.nm l1) (.cons he .nil)) (xn (J.ON hi) hs hw λk hk=>q k _ hk J.draw)
theorem EB {C a i va} (h:Ev l σ a va) (q:aK C i l σ λvi σ=>aC (subAt σ va vi) λr=>Q r σ):aK C (.sub a i) l σ Q:=h C _ q
theorem sG (G:aP g) (h0:0<g.T.length) (J:LI g tp cl wd wc tm cs calls x σ) (hi:mj cs) (hs:x.s<=1000) (L:LL l tp wd mk tm)
 (q:∀t∈g.T,∀σ',LI g tp cl wd wc tm cs calls {x with s:=x.s+1} σ'->Q t σ'):aK (aE aH (n+1)) (.sub (.nm .bu) (.call .a7 (.cons (.nm .bO) (.cons (.len (.nm .bu)) .nil)))) l σ Q:=by
 exact EB (Ev.nm L.s) (xx J hi hs L.t h0 (Ev.len (Ev.nm L.s) (cN ((J.P.at_ (k:=6) rfl).2.2))) λk σ' hk J'=>ah (fW ((J'.P.at_ (k:=6) rfl).2.2) ((mf.trans (U0 hk)))) (q _ (Wh hk) σ' J'))
end
end
end Mine.Internal.R
namespace Mine.Internal.R
noncomputable section
theorem dv.gH {E:EP} (h:dv E) {a b x y:V}:dv (gH E a b x y):=by
 by_cases k:au E x y/\¬au E a b
 ·exact aa (BX k.1 k.2) (h.add k.2)
 ·exact aa (BY k) h
theorem dv.gY {E:EP} (h:dv E) {q:Ed}:dv (gY E q):=by
 by_cases k:au E q.1 q.2.1
 ·exact aa (xq k) h
 ·exact aa (xp k) (h.add k)
theorem sH:∀(qs:List Qd) {E:EP},dv E->dv (qs.foldl mn E):=by
 intro z9;induction z9 with
 | nil=>intro U h;exact h
 | cons U qs ih=>intro U h;exact ih h.gH
theorem Cb:∀(qs:List Qd) {E:EP}{e},(qs.foldl mn E) e->E e\/e.2.2=mU:=by
 intro z9;induction z9 with
 | nil=>intro U U h;exact .inl h
 | cons U qs ih=>intro U U h;exact (ih h).elim (λk=>k.imp_right λk=>by exact aa k.1 rfl) .inr
theorem sC.told {g:Cfg}{E F:List Ed}{qs:List Qd}{a b w:V} (h:sC g E) (hF:(· ∈F)=qs.foldl mn (gY (· ∈E) (a,b,w))) (he:∀e∈F,e.1∈g.T/\e.2.1∈g.T) (hw:Wt w) (hl:F.length<=100):sC g F where
 f:=by exact aa hF (sH qs h.f.gY)
 ends:=he
 wt e hm:=by
  have hm:(λe=>e∈F) e:=hm
  rw [hF] at hm
  exact (Cb qs hm).elim (λk=>k.elim (h.wt e) λk=>aa k.1 hw) .inr
 len:=hl
section
variable {g:Cfg}{σ σ':St}{tp cl wd wc tm:Nat}{cs:List V}{x:Gh}{l:Loc}{n:Nat}{R:Fl->Loc->St->Prop}{c0 c1 f0 f1 g0 g1:V}
noncomputable abbrev i4 (c0 c1 f0 f1 g0 g1:V):List Qd:=[(f0,f1,c0,c1),(g0,g1,f0,f1)]
theorem sx.HX (S:sx g c0 c1 f0 f1 g0 g1) (G:aP g):∀q∈i4 c0 c1 f0 f1 g0 g1,q.1∈g.T/\q.2.1∈g.T/\q.2.2.1∈g.T/\q.2.2.2∈g.T:=by
 have h:=λt (ht:t∈g.Ap)=>G.ap t ht
 have h0:=h f0 (aa S.ap Ur)
 have h1:=h f1 (by refine aa S.ap ?_;simp)
 replace h0:=S.af.1▸h0
 replace h1:=S.af.2.1▸h1
 intro q hq
 rcases List.mem_cons.mp hq with rfl | hq
 ·exact zk h0.1 h1.1 h0.2.1 h1.2.1
 ·exact aa (List.mem_singleton.mp hq) (zk (h g0 (by refine aa S.ap ?_;simp)).1 (h g1 (by refine aa S.ap ?_;simp)).1 h0.1 h1.1)
structure Nx (x x':Gh) (k:Nat):Prop where
 s:x'.s<=x.s+k
 e:x'.E.length<=x.E.length+4
 n:x'.en.length<=x.en.length+1
 t:x'.c.trail.length<=x.c.trail.length+480
noncomputable abbrev xy:Ss:=.cons (.unpack [.jn,.mD] (.tup (.cons (.sub (.nm .bu) (.call .a7 (.cons (.nm .bO) (.cons (.len (.nm .bu)) .nil)))) (.cons (.sub (.nm .bu) (.call .a7 (.cons (.nm .bO) (.cons (.len (.nm .bu)) .nil)))) .nil))))
 (.cons (.bV .dp (.ite (.cmp .eq (.nm .i8) (.int 3)) (.int 0) (.bin .add (.nm .ot) (.int 1))))
 (.cons (.expr (.call .jy (.cons (.nm .aL) (.cons (.nm .jn) (.cons (.nm .mD) (.cons (.nm .dp) .nil))))))
 (.cons (.expr (.aY (.nm .aT) .rB (.cons (.nm .jn) (.cons (.nm .mD) (.cons (.nm .dp) .nil)))))
 .nil)))
theorem wg (G:aP g) (S:sx g c0 c1 f0 f1 g0 g1) (h0:0<g.T.length) (hi:mj cs) (J:LI g tp cl wd wc tm cs ((i4 c0 c1 f0 f1 g0 g1).map jc) x σ) (L:LL l tp wd x.ml tm) {way MI:Int} (l1:l .i8=some (.int way)) (l2:l .ot=some (.int MI))
 (b1:x.s<=900) (b2:x.E.length<=80) (b3:x.c.trail.length<=700000)
 (q:∀l' σ' x',LI g tp cl wd wc tm cs ((i4 c0 c1 f0 f1 g0 g1).map jc) x' σ'->LL l' tp wd x'.ml tm->Nx x x' 2->R .next l' σ'):aG (aE aH (n+8)) xy l σ R:=by
 refine jb rfl (sG G h0 J hi (aJ (Y1 _) Z0 (.n 1000) Z0 (.n 900) b1 rfl) L λa ha fe J1=>sG G h0 J1 hi (by lia) L λb hb iJ J2=>?_)
 have L2:LL ((l.set .jn a).set .mD b) tp wd x.ml tm:=(L.set (by rfl)).set (by rfl)
 have hr:∃w,Wt w/\Ev ((l.set .jn a).set .mD b) iJ (.ite (.cmp .eq (.nm .i8) (.int 3)) (.int 0) (.bin .add (.nm .ot) (.int 1))) w:=by
  have c:=Ev.cmp (op:=.eq) (l:=(l.set .jn a).set .mD b) (σ:=iJ) (Ev.nm (x:=.i8) l1) (Ev.int (i:=3)) (pj (σ:=iJ))
  by_cases h:way=3
  ·rw [decide_eq_true h] at c;exact i12 (.int 0) (.inl ⟨_,rfl⟩) (Ev.KN c Ev.int)
  ·rw [decide_eq_false h] at c;exact i12 (.int (MI+1)) (.inl ⟨_,rfl⟩) (Ev.KO c (Ev.ko (Ev.nm l2) Ev.int rfl))
 refine aN hr λw hw he=>?_
 have L3:=L2.set (y:=.dp) (v:=w) (by rfl)
 refine dT he (b8 (wp_call (.cons (Ev.nm L3.w) (.cons (Ev.nm rfl) (.cons (Ev.nm rfl) (.cons (Ev.nm rfl) .nil)))) (Ex G J2.uF J2.ok.ends (aJ (Y1 _) Z0 (.n 90) Z0 (.n 80) b2 rfl) (Ui rfl) (S.HX G) ha hb λi3 F X3 W3 hF Lm Ln hlen=>?_)))
 have H3:Rep g i3 x.c:=J2.H.Lb X3 (J2.P.at_ (k:=3) rfl).2.1
 refine b8 (aF (Ev.nm L3.e) H3.b9 rfl (.cons (Ev.nm rfl) (.cons (Ev.nm rfl) (.cons (Ev.nm rfl) .nil))) (BS G S H3 ha hb J.I J.C J.q b3 λyO c4 k4 I4 C4 B4 q4 m4 t4=>bb Lm λtl z1=>?_));clear Lm;subst z1
 refine aN B4 λes he hB=>aN J.MH λts hm st=>?_
 have Qw:(λe=>e∈x.E++tl)=gX c0 c1 f0 f1 g0 g1 (gY (λe=>e∈x.E) (a,b,w)):=hF
 exact q _ yO ⟨c4,x.E++tl,x.en,x.we,x.ml,x.s+1+1⟩ ⟨k4.1,(J2.P.upd (A:=[_,_,_]) X3.le (λr hr hn ne=>⟨X3.keep r hr ne,hn⟩) (fc (UM (J2.P.at_ (k:=3) rfl).1 X3.le) ((J2.P.at_ (k:=3) rfl).2.1) W3.e) (.inl rfl)).yH k4.2,aa Qw I4,aa Qw C4,q4,J2.ok.told hF Ln hw (Ut hlen (aJ (Y1 _) (.a Z0 (.n 4)) (.n 100) Z0 (.n 80) b2 rfl)),ts,m4.trans hm,aa he (st.step hB)⟩ L3
  ⟨Ux _,hlen,US _,t4⟩
noncomputable abbrev Cc:Ss:=.cons (.expr (.append (.nm .aQ) (.len (.sub (.nm .aL) (.str [101,100,103,101,115])))))
 (.cons (.expr (.aY (.nm .aT) .iN .nil))
 .nil)
theorem yY {calls:List V} (J:LI g tp cl wd wc tm cs calls x σ) (L:LL l tp wd x.ml tm) (b2:x.en.length<=900)
 (q:∀l' σ' x',LI g tp cl wd wc tm cs calls x' σ'->LL l' tp wd x'.ml tm->Nx x x' 2->R .next l' σ'):aG (aE aH (n+8)) Cc l σ R:=by
 have a:=J.P.at_ (k:=5) rfl
 refine aN J.MH λts hm st=>b8 (a5 (Ev.nm L.m) a.2.2 (Ev.len (Ev.sub (Ev.nm L.w) Ev.str J.uF.xk) (cN J.uF.e)) (lim (aa (UD ..) (aJ (Y1 _) Z0 (.n 1000) Z0 (.n 900) b2 rfl))) ?_)
 have H1:=J.H.set (o:=.list ((x.en.map λn=>V.int (n:Nat))++ [.int ((x.E.map iI).length:Nat)])) a.2.1
 refine b8 (aF (Ev.nm L.e) H1.b9 rfl .nil (Eo H1 (by exact aa hm (aa (UD ..) (aJ (Y2 _ _) Z0 (.n 1000) (.a Z1 Z0) (.a (.n 900) Z1) (Uq b2 (UI st.len)) rfl))) λσ' k=>?_))
 have B:Back g x.c [] {x.c with marks:=x.c.marks++ [.int x.c.trail.length]}:=.nil ⟨λU=>rfl,λU=>rfl,λU=>rfl,λU U U U=>rfl⟩
 refine q _ _ ⟨{x.c with marks:=x.c.marks++ [.int x.c.trail.length]},x.E,x.en++ [x.E.length],x.we,x.ml,x.s⟩
  ⟨k.1,?_,J.I.congr {J.I.wf with} ⟨λU=>rfl,λU=>rfl,λU=>rfl,λU U U U=>rfl⟩,J.C,J.q,J.ok,ts++ [x.c.trail.length],?_,?_⟩ L ⟨U9 _ _,U9 _ _,by simp,U9 _ _⟩
 ·have:=(J.P.set (A:=[_,_,_,_,_]) (o':=.list ((x.en.map λn=>V.int (n:Nat))++ [.int ((x.E.map iI).length:Nat)]))).yH k.2
  rw [UD] at this
  show LP _ _ [_,_,_,_,_,(x.ml,.list ((x.en++ [x.E.length]).map λn=>V.int (n:Nat))),_]
  exact aa UJ this
 ·show x.c.marks++_=_
  refine w2 UJ hm ?_;rfl
 ·have:=yX.snoc (tl:=[]) st J.I J.C J.ok B
  rw [U6,U6] at this;exact this
theorem yZ {u v w:V}:dput [(e8,u),(fT,w)] e8 v=[(e8,v),(fT,w)]:=by rfl
noncomputable abbrev F7:Ss:=.cons (.bV .fw (.bin .add (.int 1) (.call .a7 (.cons (.nm .bO) (.cons (.len (.nm .aQ)) .nil)))))
 (.cons (.bw (.nm .aL) (.str [101,100,103,101,115]) (.sliceTo (.sub (.nm .aL) (.str [101,100,103,101,115])) (.sub (.nm .aQ) (.bin .sub (.len (.nm .aQ)) (.nm .fw)))))
 (.cons (.bV .aQ (.sliceTo (.nm .aQ) (.bin .sub (.len (.nm .aQ)) (.nm .fw))))
 (.cons (.expr (.aY (.nm .aT) .iM (.cons (.nm .fw) .nil)))
 .nil)))
theorem Cd {calls:List V} (G:aP g) (S:sx g c0 c1 f0 f1 g0 g1) (hi:mj cs) (J:LI g tp cl wd wc tm cs calls x σ) (L:LL l tp wd x.ml tm) (h:0<x.en.length)
 (b1:x.s<=900) (b2:x.en.length<=900) (b3:x.c.trail.length<=8000)
 (q:∀l' σ' x',LI g tp cl wd wc tm cs calls x' σ'->LL l' tp wd x'.ml tm->Nx x x' 2->R .next l' σ'):aG (aE aH (n+8)) F7 l σ R:=by
 refine gG (il (a6 Ev.int (xx J hi (aJ (Y1 _) Z0 (.n 1000) Z0 (.n 900) b1 rfl) L.t (by exact aa (UD ..) h) (Ev.len (Ev.nm L.m) (cN (J.P.at_ (k:=5) rfl).2.2)) λj fe hj J1=>?_)))
 rw [UD] at hj
 refine aN J.MH λts hm st=>Lh.casesOn (st.pop j (Ù hj st.len.symm)) λIK Li wb Lj nQ E0 cb seg tl e1 e2 e3 e4 p1 p2 p3 p4 p5 p6 p7=>?_
 have hE:x.E=E0++tl:=p7
 have MJ:x.en.length=wb.length+(j+1):=by exact aa e2 (aa UA (aa Vm (aa e4 rfl)))
 have zj:(nQ++seg).length<=8000:=by exact aR p6 b3
 have OO:x.E.length<=100:=J.ok.len
 have a1:=J1.P.at_ (k:=5) rfl
 have SJ:(1:Int)+(j:Int)=((j+1:Nat):Int):=by lia
 show aG _ (.cons (.bw _ _ _) _) (l.set .fw (.int (1+(j:Int)))) fe _
 refine aa SJ ?_
 have L1:=L.set (y:=.fw) (v:=.int ((j+1:Nat):Int)) (by rfl)
 have rS:∀σ,σ.get x.ml=some (.list (x.en.map λn=>V.int (n:Nat)))->Ev (l.set .fw (.int ((j+1:Nat):Int))) σ (.bin .sub (.len (.nm .aQ)) (.nm .fw)) (.int (wb.length:Nat)):=λσ h=>
  Ev.ko (Ev.len (Ev.nm L1.m) (cN h)) (Ev.nm rfl) (congrArg (λi=>some (V.int i)) (by refine aa (UD ..) (aa MJ ?_);simp))
 have W1:=J1.uF
 have OP:idx (x.en.map λn=>V.int (n:Nat)) (wb.length:Nat)=some (.int (E0.length:Nat)):=by refine aa mf (aa e2 ?_);simp
 refine uq (fA (k:=E0.length) (Ev.sub (Ev.nm L1.w) Ev.str W1.xk) W1.e (Ev.sub (Ev.nm L1.m) (rS fe a1.2.2) (fW a1.2.2 OP)) (fS (by rw [hE,UA] at OO;exact aJ (Y2 _ _) Z0 (.n 1000) (.a Z0 Z1) (.n 100) OO rfl)) (fS (by exact aa (UD ..) (Ut OO (by simp)))) ?_)
 have Lp:(x.E.map iI).take E0.length=E0.map iI:=by exact aa hE (aa UJ (aa (þ (UD _)) rfl))
 refine aa (show ({x with s:=x.s+1}:Gh).E=x.E from rfl) (aa Lp ?_)
 have P2:=J1.P.upd (A:=[_,_,_]) (σ':=fe.push (.list (E0.map iI))) (c':=x.c) (r':=fe.next) (o':=.list (E0.map iI)) (US _) (λr hr hn U=>⟨aX hr,hn⟩) (fc (Uw _) (J1.H.top _ (Ux _)) ao) (.inr (Ux _))
 have b2:=P2.at_ (k:=2) rfl
 refine uo (Ev.nm L1.w) Ev.str b2.2.2 rfl (Ui rfl) (aa (show V.str [101,100,103,101,115]=e8 from rfl) (aa yZ ?_))
 have P3:=P2.set (A:=[_,_]) (o':=.dict [(e8,.ref fe.next),(fT,.ref wc)])
 have H3:=(J1.H.ext (Ext.push (o:=.list (E0.map iI)))).set (o:=.dict [(e8,.ref fe.next),(fT,.ref wc)]) b2.2.1
 have P3:LP ((fe.push (.list (E0.map iI))).set wd (.dict [(e8,.ref fe.next),(fT,.ref wc)])) x.c (Qv g tp cl wd wc tm cs calls ⟨x.c,E0,x.en,fe.next,x.ml,x.s+1⟩):=P3
 revert P3 H3
 generalize (fe.push (.list (E0.map iI))).set wd (.dict [(e8,.ref fe.next),(fT,.ref wc)])=i3
 intro H3 P3
 have a3:=P3.at_ (k:=5) rfl
 refine gG (fA (k:=wb.length) (Ev.nm L1.m) a3.2.2 (rS i3 a3.2.2) (fS (by lia)) (fS (by refine aa (UD ..) ?_;show x.en.length<=1000;lia)) ?_)
 have HY:(x.en.map λn=>V.int (n:Nat)).take wb.length=wb.map λn=>V.int (n:Nat):=by exact aa e2 (aa UJ (aa (þ (UD _)) rfl))
 refine aa HY ?_
 have H4:=H3.ext (Ext.push (o:=.list (wb.map λn=>V.int (n:Nat))))
 have L4:LL ((l.set .fw (.int ((j+1:Nat):Int))).set .aQ (.ref i3.next)) tp wd i3.next tm:=⟨L1.t,L1.w,L1.e,rfl,L1.s⟩
 have OQ:ts.length<=900:=by refine aa st.len ?_;lia
 refine b8 (aF (Ev.nm L4.e) H4.b9 rfl (.cons (Ev.nm rfl) .nil) (HJ (c:=x.c) G S H4 J.I.wf (by exact aa hm (aa e1 (aa UJ (aa UX rfl)))) (by exact aa (UD ..) (aa e3 rfl)) ?_ ?_ p6 p5 p2 p3 (aJ (Y1 _) Z0 (.n 9000) Z0 (.n 8000) b3 rfl) λCK c5 k5 I5 C5 T5 q5 m5 l5=>?_))
 ·rw [e1,UA] at OQ;exact aa (UD ..) (aJ (Y2 _ _) Z0 (.n 1000) (.a Z0 (.s Z1)) (.n 900) OQ rfl)
 ·exact aa hm (aa (UD ..) (aJ (Y1 _) Z0 (.n 1000) Z0 (.n 900) OQ rfl))
 refine aN T5 λnO ht hB=>?_
 replace zj:=UA▸zj
 have:=p1.step (tl:=[]) hB
 rw [U6] at this
 exact q _ CK ⟨c5,E0,wb,fe.next,i3.next,x.s+1⟩ ⟨k5.1,(P3.upd (A:=[_,_,_,_,_]) (σ':=i3.push (.list (wb.map λn=>V.int (n:Nat)))) (c':=x.c) (r':=i3.next) (o':=.list (wb.map λn=>V.int (n:Nat))) (US _) (λr hr hn U=>⟨aX hr,hn⟩) (fc (Uw _) (H3.top _ (Ux _)) ao) (.inr (Ux _))).yH k5.2,I5,C5,q5,p4,IK,m5,by exact aa ht this⟩ L4 ⟨by exact uO (Y1 _) (.s Z0) (.a Z0 (.n 2)) rfl,by exact aa hE (aa UA (uO (Y2 _ _) Z0 (.a (.a Z0 Z1) (.n 4)) rfl)),by exact aJ (Y3 _ _ _) Z0 (.s Z1) (.a Z0 (.s Z2)) Z1 (UI MJ.symm) rfl,Ut l5 (by exact aa p6 (aa UA (uO (Y2 _ _) (.a Z0 (.n 160)) (.a (.a Z0 Z1) (.n 480)) rfl)))⟩
end
end
end Mine.Internal.R
namespace Mine.Internal.R
noncomputable section
section
variable {g:Cfg}{σ σ':St}{tp cl wd wc tm:Nat}{cs:List V}{x:Gh}{l:Loc}{n:Nat}{R:Fl->Loc->St->Prop}{c0 c1 f0 f1 g0 g1:V}{C:Fn->List V->St->K1 V->Prop}{r:Ss}{Q:K1 V}
theorem uG {e}{K:K1 (List V×Gd)} (h:aK C e l σ λv σ=>aC (eJ v) λk=>ei (decide (k<=dj)&&decide (-(dj:Int)<=k)) (K (mF k,.free) σ)):pN C (.range e) l σ K:=h
theorem xA {t i b} (h:pN C i l σ λp σ=>forL p.2 t (λl σ Q=>aG C b l σ Q) p.1 l σ (nk C r R)):aG C (.cons (.for t i b) r) l σ R:=h
theorem Ce {f as} (h:iu C as l σ λvs σ=>C f vs σ Q):aK C (.call f as) l σ Q:=h
noncomputable abbrev wh (e:E):Ss:=.cons (.ite (.not (.call .dq (.cons (.nm .aL) (.cons (.nm .aT) (.cons e .nil))))) (.cons (.ret (.bool false)) .nil) .nil) .nil
noncomputable abbrev Lq:Ss:=.cons (.bV .i8 (.call .a7 (.cons (.nm .bO) (.cons (.int 6) .nil))))
 (.cons (.ite (.cmp .lt (.nm .i8) (.int 4)) xy (.cons (.ite (.cmp .eq (.nm .i8) (.int 4)) Cc (.cons (.ite (.cmp .ne (.nm .aQ) (.list .nil)) F7 .nil) .nil)) .nil))
 (wh (.sub (.nm .bu) (.call .a7 (.cons (.nm .bO) (.cons (.len (.nm .bu)) .nil))))))
noncomputable abbrev Cf:Ss:=.cons (.for (.one .ot) (.range (.bin .add (.int 4) (.call .a7 (.cons (.nm .bO) (.cons (.int 8) .nil))))) Lq)
 (.cons (.for (.one .jn) (.of (.nm .bu)) (wh (.nm .jn)))
 (.cons (.ret (.bool true)) .nil))
theorem F8 {op i j r} (h:uY op (.int i) (.int j)=some r) (q:Q r σ):xO op (.int i) (.int j) σ Q:=ah h q
structure Bd (x:Gh) (m:Nat):Prop where
 s:x.s+4*m<=60
 e:x.E.length+4*m<=60
 n:x.en.length+m<=60
 t:x.c.trail.length+480*m<=7000
theorem LI.all (G:aP g) {calls:List V} (J:LI g tp cl wd wc tm cs calls x σ) {a:V} (ha:a∈g.T) (q:∀σ',LI g tp cl wd wc tm cs calls x σ'->Q (.bool true) σ'):aE aH (n+3) .dq [.ref wd,.ref 27,a] σ Q:=
 HW G J.H J.I.wf J.I.Ej J.I.fin J.ok J.uF ha λσ' hE=>q σ' (J.ext hE)
theorem EC (G:aP g) (S:sx g c0 c1 f0 f1 g0 g1) (h0:0<g.T.length) (hi:mj cs) (J:LI g tp cl wd wc tm cs ((i4 c0 c1 f0 f1 g0 g1).map jc) x σ) (L:LL l tp wd x.ml tm) (b1:x.s<=10) (b2:x.E.length<=10) (b3:x.en.length<=10) (b4:x.c.trail.length<=1000)
 (q:∀l' σ',R (.ret (.bool true)) l' σ'):aG (aE aH (n+8)) Cf l σ R:=by
 refine xA (uG (il (a6 Ev.int (xx J hi (aJ (Y1 _) Z0 (.n 1000) Z0 (.n 10) b1 rfl) L.t (by exact Vb _) Ev.int λk fe hk J1=>F8 (r:=V.int ((4+k:Nat):Int)) (congrArg (λi=>some (V.int i)) (rfl)) (ah (a:=((4+k:Nat):Int)) rfl (aq (b:=decide (((4+k:Nat):Int)<=dj)&&decide (-(dj:Int)<=((4+k:Nat):Int))) (by have:(dj:Int)=10000000:=rfl;simp;lia) ?_))))))
 refine lW (f:=λi:Nat=>V.int i) (I:=λ(y:Gh) vs l σ=>LI g tp cl wd wc tm cs ((i4 c0 c1 f0 f1 g0 g1).map jc) y σ/\LL l tp wd y.ml tm/\Bd y vs.length) ?_ ?_ (VG (4+k)) {x with s:=x.s+1} _ _
  (fc J1 L (aa YN ⟨by lia,aJ (Y2 _ _) (.a Z0 (.m 4 (.a (.n 4) Z1))) (.n 60) (.a Z0 (.m 4 (.s Z1))) (.a (.n 10) (.m 4 (.n 8))) (Uq b2 (Vf 4 hk)) rfl,aJ (Y2 _ _) (.a Z0 (.a (.n 4) Z1)) (.n 60) (.a Z0 (.s Z1)) (.a (.n 10) (.n 8)) (Uq b3 hk) rfl,aJ (Y2 _ _) (.a Z0 (.m 480 (.a (.n 4) Z1))) (.n 7000) (.a Z0 (.m 480 (.s Z1))) (.a (.n 1000) (.m 480 (.n 8))) (Uq b4 (Vf 480 hk)) rfl⟩))
 ·refine λy l' σ' I=>eg I λJ L U=>⟨rfl,?_⟩
  have gt:∀ {σ},LI g tp cl wd wc tm cs ((i4 c0 c1 f0 f1 g0 g1).map jc) y σ->σ.get tm=some (.list (g.T.map id)):=λJ=>aa (VF ..) (J.P.at_ (k:=6) rfl).2.2
  refine ig id (λ(_:Unit) es l σ=>LI g tp cl wd wc tm cs ((i4 c0 c1 f0 f1 g0 g1).map jc) y σ/\LL l tp wd y.ml tm/\∀e∈es,e∈g.T) () (Ev.nm L.s) (bB (gt J)) (fc J L (λU h=>h)) ?_ ?_
  ·exact λ_ l' σ' I=>⟨decide_eq_true (gt I.1),ek Ev.bool (q _ _)⟩
  ·refine λ_ a es l' σ' K I K1=>eg I λJ L ha=>?_
   have L1:=L.set (y:=.jn) (v:=a) (by rfl)
   exact ⟨decide_eq_true (gt J),_,rfl,mW (n8 (wp_call (.cons (Ev.nm L1.w) (.cons (Ev.nm L1.e) (.cons (Ev.nm rfl) .nil))) (J.all G (ha a Ur) λbU J2=>sF (sF (K1 () _ _ (fc J2 L1 (λe he=>ha e (Uy _ he))))))))⟩
 ·refine λy MI vs l' σ' K I K1=>eg I λJ L B=>?_
  obtain ⟨B1,B2,B3,B4⟩:=(Vm▸B)
  have L1:=L.set (y:=.ot) (v:=.int (MI:Nat)) (by rfl)
  refine ⟨rfl,_,rfl,gG (xx J hi (aJ (Y2 _ _) Z0 (.n 1000) (.a Z0 (.m 4 (.s Z1))) (.n 60) B1 rfl) L1.t (by simp) Ev.int λway iJ U J2=>?_)⟩
  have L2:=L1.set (y:=.i8) (v:=.int (way:Nat)) (by decide+kernel)
  have tail:∀l3 i3 (z:Gh),LI g tp cl wd wc tm cs ((i4 c0 c1 f0 f1 g0 g1).map jc) z i3->LL l3 tp wd z.ml tm->Nx {y with s:=y.s+1} z 2->
   aG (aE aH (n+8)) (wh (.sub (.nm .bu) (.call .a7 (.cons (.nm .bO) (.cons (.len (.nm .bu)) .nil))))) l3 i3 (kt K R):=λl3 i3 z J3 L3 N=>by
   obtain ⟨n1,n2,n3,n4⟩:=N
   exact mW (n8 (Ce (dM (Ev.nm L3.w) (dM (Ev.nm L3.e) (iF (sG G h0 J3 hi (Ut n1 (by lia)) L3 λt ht yO J4=>fu (J4.all G ht λCK J5=>sF (sF (K1 _ _ _ (fc J5 L3 ⟨by have:z.s<=y.s+1+2:=n1;lia,by have:z.E.length<=y.E.length+4:=n2;exact aJ (Y3 _ _ _) (.a Z0 (.m 4 Z1)) (.n 60) (.a (.a Z2 (.m 4 (.s Z1))) Z0) (.a (.n 60) (.a Z2 (.n 4))) (Uq B2 n2) rfl,by have:z.en.length<=y.en.length+1:=n3;exact aJ (Y3 _ _ _) (.a Z0 Z1) (.n 60) (.a (.a Z2 (.s Z1)) Z0) (.a (.n 60) (.s Z2)) (Uq B3 n3) rfl,by have:z.c.trail.length<=y.c.trail.length+480:=n4;exact aJ (Y3 _ _ _) (.a Z0 (.m 480 Z1)) (.n 7000) (.a (.a Z2 (.m 480 (.s Z1))) Z0) (.a (.n 7000) (.a Z2 (.n 480))) (Uq B4 n4) rfl⟩))))))))))
  refine nE (Ev.cmp (Ev.nm rfl) Ev.int pG) (λU=>?_) λU=>?_
  ·exact wg G S h0 hi J2 L2 rfl rfl (by exact aJ (Y2 _ _) (.s Z0) (.n 900) (.a Z0 (.m 4 (.s Z1))) (.n 60) B1 rfl) (aJ (Y2 _ _) Z0 (.n 80) (.a Z0 (.m 4 (.s Z1))) (.n 60) B2 rfl) (aJ (Y2 _ _) Z0 (.n 700000) (.a Z0 (.m 480 (.s Z1))) (.n 7000) B4 rfl) λl3 i3 z J3 L3 N=>tail l3 i3 z J3 L3 N
  ·refine nE (Ev.cmp (Ev.nm rfl) Ev.int (pj (σ:=iJ))) (λU=>?_) λU=>?_
   ·exact yY J2 L2 (by exact aJ (Y2 _ _) Z0 (.n 900) (.a Z0 (.s Z1)) (.n 60) B3 rfl) λl3 i3 z J3 L3 N=>tail l3 i3 z J3 L3 N
   ·have a:=J2.P.at_ (k:=5) rfl
    have ie:mj (y.en.map λn=>V.int (n:Nat)):=λv hv=>by exact aN (List.mem_map.mp hv) λi U z1=>aR z1 ⟨_,rfl⟩
    refine mW (n7 (Ev.nm L2.m) (bS .nil (by decide) (ah (ne_nil ((aX a.1).trans a.2.2) ao ie) ?_)))
    have J3:=J2.ext (Ext.push (o:=.list []))
    cases MJ:y.en with
    | nil=>exact tail _ _ _ J3 L2 ⟨U9 _ _,U9 _ _,U9 _ _,U9 _ _⟩
    | cons e en=>exact Cd G S hi J3 L2 (aa MJ (Vb _)) (by exact aJ (Y2 _ _) (.s Z0) (.n 900) (.a Z0 (.m 4 (.s Z1))) (.n 60) B1 rfl) (by exact aJ (Y2 _ _) Z0 (.n 900) (.a Z0 (.s Z1)) (.n 60) B3 rfl) (aJ (Y2 _ _) Z0 (.n 8000) (.a Z0 (.m 480 (.s Z1))) (.n 7000) B4 rfl) λl3 i3 z J3 L3 N=>tail l3 i3 z J3 L3 N
end
end
end Mine.Internal.R
namespace Mine.Internal.R
noncomputable section
structure Hp (σ:St) (os:List O):Prop where
 n:σ.next=os.length
 get:∀i o,os[i]? =some o->σ.get i=some o
theorem Hp.push {σ:St}{os:List O}{o} (h:Hp σ os):Hp (σ.push o) (os++ [o]):=
 ⟨(congrArg Nat.succ h.n).trans (by simp),λi x hx=>by
   show (if i=σ.next then _ else _)=_
   by_cases q:i<os.length
   ·rw [Zy q] at hx
    rw [if_neg (by have:=h.n;exact UZ (aJ (Y3 _ _ _) (.s Z0) Z1 (.a (.s Z0) Z2) (.a Z2 Z1) (Uq q (UI this.symm)) rfl))];exact h.get i x hx
   ·rw [Xt (WU q)] at hx
    have:i - os.length=0:=by
     cases hq:i - os.length with
     | zero=>rfl
     | succ j=>rw [hq] at hx;exact nomatch hx
    replace hx:=this▸hx
    exact (if_pos (by have:=h.n;lia)).trans hx⟩
theorem Hp.set {σ:St}{os:List O}{r o} (h:Hp σ os):Hp (σ.set r o) (os.set r o):=
 ⟨h.n.trans (List.length_set).symm,λi x hx=>by
  show (if i=r then _ else _)=_
  rw [List.getElem?_set] at hx
  by_cases q:r=i
  ·rw [if_pos q] at hx
   rw [if_pos q.symm]
   split at hx
   ·exact hx
   ·exact nomatch hx
  ·rw [if_neg q] at hx
   rw [if_neg λe=>q e.symm];exact h.get i x hx⟩
structure Bk where
 sn:List V
 sw:List V
 fn:List V
 fa:List V
 fr:List V
 ops:List V
 args:List V
 pJ:List V
 dat:List V
 nums:List (V×V)
noncomputable def lay (p0 p1 p2 p3:O) (fs:List (Nm×V)) (b:Bk) (rest:List O):List O:=
 p0::p1::p2::p3::.inst .av fs::.list b.sn::.list b.sw::.list b.fn::.list b.fa::.list b.fr::.list b.ops::.list b.args::.list b.pJ::.list b.dat::.dict b.nums::rest
noncomputable def Bk.mk' (b:Bk) (op a s d:V):Bk:={b with ops:=b.ops++ [op],args:=b.args++ [a],pJ:=b.pJ++ [s],dat:=b.dat++ [d],nums:=dput b.nums (V.tup [op,a,s,d]) (.int b.ops.length)}
noncomputable def Bk.df (b:Bk) (nm as r:V):Bk:={b with fn:=b.fn++ [nm],fa:=b.fa++ [as],fr:=b.fr++ [r]}
structure Bl (k:Nat) (b:Bk):Prop where
 sn:b.sn.length<=k
 sw:b.sw.length<=k
 fn:b.fn.length<=k
 fa:b.fa.length<=k
 fr:b.fr.length<=k
 ops:b.ops.length<=k
 args:b.args.length<=k
 pJ:b.pJ.length<=k
 dat:b.dat.length<=k
 nums:b.nums.length<=k
theorem ED {l:List V}{k:Nat}{x:V} (h:l.length<=k):(l++ [x]).length<=k+1:=by exact aa UA (Vn h)
theorem Bl.df {k b} (B:Bl k b) {nm as r}:Bl (k+1) (b.df nm as r):=⟨UP B.sn,UP B.sw,ED B.fn,ED B.fa,ED B.fr,UP B.ops,UP B.args,UP B.pJ,UP B.dat,UP B.nums⟩
theorem Ci {d:List (V×V)}{k v:V}:(dput d k v).length<=d.length+1:=by
 delta dput;split
 ·exact aa (UD ..) (US _)
 ·exact aa UA (Ux _)
theorem Bl.mk' {k b} (B:Bl k b) {op a s d}:Bl (k+1) (b.mk' op a s d):=⟨UP B.sn,UP B.sw,UP B.fn,UP B.fa,UP B.fr,ED B.ops,ED B.args,ED B.pJ,ED B.dat,Ut Ci (Vn B.nums)⟩
section
variable {σ:St}{p0 p1 p2 p3:O}{fs:List (Nm×V)}{b:Bk}{rest:List O}{n:Nat}{Q:K1 V}{l:Loc}{C:Fn->List V->St->K1 V->Prop}{R:Fl->Loc->St->Prop}{r:Ss}
theorem Ev.rD {a ke de r d y z} (h:Ev l σ a (.ref r)) (hr:σ.get r=some (.dict d)) (k:Ev l σ ke y) (kd:Ev l σ de z) (hk:keyOk d y=true):Ev l σ (.rD a ke de) ((ag d y).getD z):=
 λC Q q=>h C _ (aq (congrArg VE (dt hr)) (k C _ (kd C _ (ah (a:=(r,d)) (dt hr) (aq hk q)))))
theorem ku {n k:Nat} (h:n<=k) (hk:k<=900):n+1<=dj:=lim (Ut h (Ut hk ((Ui rfl))))
theorem qU {i} (h:pN C i l σ λp σ=>ei (p.2.ok σ&&decide (p.1.length<=1000)) (Q (V.tup p.1) σ)):aK C (.fo i) l σ Q:=h
theorem n9 (h:Hp σ (lay p0 p1 p2 p3 fs b rest)) {k:Nat} (B:Bl k b) (K:k<=900) (h1:lF fs .gh=some (.ref 14)) (h2:lF fs .eB=some (.ref 10)) (h3:lF fs .eF=some (.ref 11)) (h4:lF fs .dF=some (.ref 12)) (h5:lF fs .d5=some (.ref 13))
 {op a s d:V} (hk:keyOk b.nums (V.tup [op,a,s,d])=true) (hg:ag b.nums (V.tup [op,a,s,d])=none) (q:∀σ',Hp σ' (lay p0 p1 p2 p3 fs (b.mk' op a s d) rest)->Q (.int b.ops.length) σ'):aE aH (n+1) .m9 [.ref 4,op,a,s,d] σ Q:=by
 refine bH rfl rfl (dT (Ev.tup (.cons (Ev.nm rfl) (.cons (Ev.nm rfl) (.cons (Ev.nm rfl) (.cons (Ev.nm rfl) .nil)))) (Ui rfl)) (dT (Ev.rD (Ev.attr (Ev.nm rfl) (h.get 4 _ rfl) h1 rfl) (h.get 14 _ rfl) (Ev.nm rfl) Ev.int hk) (aa hg (fB (Ev.cmp (Ev.nm rfl) Ev.int (pj (σ:=σ))) (dT (Ev.len (Ev.attr (Ev.nm rfl) (h.get 4 _ rfl) h2 rfl) (cN (h.get 10 _ rfl))) (b8 (a5 (Ev.attr (Ev.nm rfl) (h.get 4 _ rfl) h2 rfl) (h.get 10 _ rfl) (Ev.nm rfl) (ku B.ops K) ?_)))))))
 have k1:=h.set (r:=10) (o:=.list (b.ops++ [op]))
 refine b8 (a5 (Ev.attr (Ev.nm rfl) (k1.get 4 _ rfl) h3 rfl) (k1.get 11 _ rfl) (Ev.nm rfl) (ku B.args K) ?_)
 have k2:=k1.set (r:=11) (o:=.list (b.args++ [a]))
 refine b8 (a5 (Ev.attr (Ev.nm rfl) (k2.get 4 _ rfl) h4 rfl) (k2.get 12 _ rfl) (Ev.nm rfl) (ku B.pJ K) ?_)
 have k3:=k2.set (r:=12) (o:=.list (b.pJ++ [s]))
 refine b8 (a5 (Ev.attr (Ev.nm rfl) (k3.get 4 _ rfl) h5 rfl) (k3.get 13 _ rfl) (Ev.nm rfl) (ku B.dat K) ?_)
 have k4:=k3.set (r:=13) (o:=.list (b.dat++ [d]))
 exact cC (Ev.nm rfl) (Ev.attr (Ev.nm rfl) (k4.get 4 _ rfl) h1 rfl) (Ev.nm rfl) (k4.get 14 _ rfl) hk (ku B.nums K) (ek (r:=.nil) (Ev.nm rfl) (q _ (k4.set (r:=14))))
theorem qg:∀xs:List V,(V.tup xs).items=some xs:=by
 intro z9;induction z9 with
 | nil=>exact rfl
 | cons x xs ih=>exact (congrArg (Wm (x::·)) (ih)).trans rfl
theorem og (xs:List V):cG σ (V.tup xs)=some (xs,.free):=by
 cases xs with
 | nil=>rfl
 | cons x xs=>exact congrArg (Wm λl=>(l,Gd.free)) (qg (x::xs))
theorem Cj (h:Hp σ (lay p0 p1 p2 p3 dx b rest)) {k:Nat} (B:Bl k b) (K:k<=900) {nm r:V}{xs:List V} (hx:xs.length<=1000) (q:∀σ',Hp σ' (lay p0 p1 p2 p3 dx (b.df nm (V.tup xs) r) rest)->Q (.int b.fn.length) σ'):aE aH (n+1) .gq [.ref 4,nm,V.tup xs,r] σ Q:=by
 refine bH rfl rfl (b8 (a5 (Ev.attr (Ev.nm rfl) (h.get 4 _ rfl) (x:=.cQ) rfl rfl) (h.get 7 _ rfl) (Ev.nm rfl) (ku B.fn K) ?_))
 have k1:=h.set (r:=7) (o:=.list (b.fn++ [nm]))
 refine b8 (pA (y:=V.tup xs) (Ev.attr (Ev.nm rfl) (k1.get 4 _ rfl) (x:=.eA) rfl rfl) (k1.get 8 _ rfl) (λQ q=>?_) (ku B.fa K) ?_)
 ·exact qU (mu (a6 (Ev.nm rfl) (ah (og xs) (aq (decide_eq_true hx) q))))
 ·have k2:=k1.set (r:=8) (o:=.list (b.fa++ [V.tup xs]))
  refine b8 (a5 (Ev.attr (Ev.nm rfl) (k2.get 4 _ rfl) (x:=.cV) rfl rfl) (k2.get 9 _ rfl) (Ev.nm rfl) (ku B.fr K) ?_)
  have k3:=k2.set (r:=9) (o:=.list (b.fr++ [r]))
  exact ek (Ev.ko (Ev.len (Ev.attr (Ev.nm rfl) (k3.get 4 _ rfl) (x:=.cQ) rfl rfl) (cN (k3.get 7 _ rfl))) Ev.int (congrArg (λi=>some (V.int i)) (by refine ?_;simp))) (q _ k3)
noncomputable def gc:V:=.str [97,112,112]
theorem Ck (h:Hp σ (lay p0 p1 p2 p3 dx b rest)) {k:Nat} (B:Bl k b) (K:k+1<=900) {nm:V}{s:V} (hk:keyOk b.nums (V.tup [gc,.nil,s,.int b.fn.length])=true) (hg:ag b.nums (V.tup [gc,.nil,s,.int b.fn.length])=none)
 (q:∀σ',Hp σ' (lay p0 p1 p2 p3 dx ((b.df nm .nil s).mk' gc .nil s (.int b.fn.length)) rest)->Q (.int b.ops.length) σ'):aE aH (n+2) .gu [.ref 4,nm,s] σ Q:=by
 exact bH rfl rfl (BF (eP (Ev.nm rfl) (h.get 4 _ rfl) rfl (dM Ev.str (dM (Ev.tup .nil (Ui rfl)) (dM (Ev.nm rfl) (iF (aF (Ev.nm rfl) (h.get 4 _ rfl) rfl (.cons (Ev.nm rfl) (.cons (Ev.tup .nil (Ui rfl)) (.cons (Ev.nm rfl) .nil))) (Cj (xs:=[]) h B (Ut (US k) K) ((U3 _)) λfe h1=>fu (n9 (b:=b.df nm .nil s) h1 B.df K rfl rfl rfl rfl rfl hk hg q)))))))))
theorem HZ (h:Hp σ (lay p0 p1 p2 p3 dx b rest)) {k:Nat} (B:Bl k b) (K:k<=900) {rl:Nat}{t f:Int}{s rs nm:V} (hr:σ.get rl=some (.list [.int t])) (h1:idx b.fa f=some (V.tup [s])) (h2:idx b.fn f=some nm) (h3:idx b.pJ t=some s) (h4:idx b.fr f=some rs) (hs:∃i:Int,s=.int i)
 (hk:keyOk b.nums (V.tup [gc,V.tup [.int t],rs,.int f])=true) (hg:ag b.nums (V.tup [gc,V.tup [.int t],rs,.int f])=none)
 (q:∀σ',Hp σ' (lay p0 p1 p2 p3 dx (b.mk' gc (V.tup [.int t]) rs (.int f)) rest)->Q (.int b.ops.length) σ'):aE aH (n+2) .gp [.ref 4,.int f,.ref rl] σ Q:=by
 refine bH rfl rfl (dT (Ev.sub (Ev.attr (Ev.nm rfl) (h.get 4 _ rfl) (x:=.eA) rfl rfl) (Ev.nm rfl) (fW (h.get 8 _ rfl) h1)) (dw (Ev.cmp (op:=.ne) (l:=((((Loc.set (λU=>none) .ae (.ref 4)).set .EU (.int f)).set .fL (.ref rl)).set .lC (V.tup [s]))) (Ev.len (Ev.nm (x:=.fL) rfl) (cN hr)) (Ev.len (Ev.nm (x:=.lC) rfl) (va:=V.tup [s]) (n:=1) rfl) (qI (σ:=σ) ⟨_,rfl⟩ ⟨_,rfl⟩)) (xA (B6 (a6 (Ev.nm rfl) (a6 (Ev.nm rfl) (ah (bB hr) (ah rfl ?_))))))))
 have gk:Gd.ok (.two (.obj rl (.list [.int t])) .free) σ=true:=by simp only [Gd.ok,hr,decide_true,Ĝ]
 refine aq gk (ah rfl (b8 (aF (Ev.nm rfl) (h.get 4 _ rfl) rfl (.cons (Ev.nm rfl) (.cons (Ev.nm rfl) (.cons (Ev.sub (Ev.attr (Ev.nm rfl) (h.get 4 _ rfl) (x:=.cQ) rfl rfl) (Ev.nm rfl) (fW (h.get 7 _ rfl) h2)) .nil))) ?_)))
 have hw:=Ev.cmp (op:=.ne) (l:=((((Loc.set (λU=>none) .ae (.ref 4)).set .cW (.int t)).set .CU s).set .wo nm)) (Ev.sub (Ev.attr (Ev.nm (x:=.ae) rfl) (h.get 4 _ rfl) (x:=.dF) rfl rfl) (Ev.nm (x:=.cW) rfl) (fW (h.get 12 _ rfl) h3)) (Ev.nm (x:=.CU) rfl) (qI (σ:=σ) hs hs)
 rw [decide_eq_true rfl] at hw
 exact bH rfl rfl (dw hw (aq gk (BF (eP (Ev.nm rfl) (h.get 4 _ rfl) rfl (dM Ev.str (iF (qU (mu (a6 (Ev.nm rfl) (ah (bB hr) (aq ((Wo _).trans (decide_eq_true hr)) (dM (Ev.sub (Ev.attr (Ev.nm rfl) (h.get 4 _ rfl) (x:=.cV) rfl rfl) (Ev.nm rfl) (fW (h.get 9 _ rfl) h4)) (dM (Ev.nm rfl) (fu (n9 h B K rfl rfl rfl rfl rfl hk hg q)))))))))))))))
end
end
end Mine.Internal.R
namespace Mine.Internal.R
noncomputable section
section
variable {σ:St}{os:List O}{p0 p1 p2 p3:O}{fs:List (Nm×V)}{b:Bk}{rest:List O}{n:Nat}{Q:K1 V}{l:Loc}{C:Fn->List V->St->K1 V->Prop}{R:Fl->Loc->St->Prop}{r:Ss}
theorem dN (Q:K1 V) (q:Q (.ref σ.next) (σ.push (.dict []))):aK C (.dict .nil) l σ Q:=by
 exact (aq rfl q)
theorem xB {P B:List O}{a a':O}{i:Nat} (hi:P.length=i):(P++a::B).set i a'=P++a'::B:=by refine (List.set_append_right _ _ (UI hi)).trans (aa hi (aa (ĺ ..) ?_));rfl
theorem Cm {P B:List O}{a:O}{i:Nat} (hi:P.length=i):(P++a::B)[i]? =some a:=by refine (Xt (UI hi)).trans (aa hi (aa (ĺ ..) ?_));rfl
theorem uH {x:Nm}{v:V} (h:(fs.any λp=>decide (p.1=x))=false):fM fs x v=fs++ [(x,v)]:=if_neg (by rw [h];exact nofun)
theorem nR {P B:List O}{c:kA} (h:Hp σ (P++ .inst c fs::B)) {i j:Nat} (hi:P.length=i) (l1:l .ae=some (.ref i)) {x e o} (he:∀Q:K1 V,Q (.ref σ.next) (σ.push o)->aK C e l σ Q) (hf:fieldOf c x=true) (hl:fs.length<50) (hx:(fs.any λp=>decide (p.1=x))=false) (hj:i+(B.length+1)=j)
 (q:∀σ',Hp σ' (P++ .inst c (fs++ [(x,.ref j)])::(B++ [o]))->aG C r l σ' R):aG C (.cons (.setattr (.nm .ae) x e) r) l σ R:=by
 have k:=h.push (o:=o)
 rw [UW,XX] at k
 refine nK (he _ (lV (Ev.nm l1) (k.get i _ (Cm hi)) hf hl (q _ ?_)))
 have hn:σ.next=j:=(h.n.trans (List.length_append.trans (aa hi (hj))))
 exact aa (uH hx) (aa hn (aR (xB hi) (k.set (r:=i) (o:=.inst c (fs++ [(x,.ref j)])))))
theorem EE {P B:List O}{c:kA} (h:Hp σ (P++ .inst c fs::B)) {i:Nat} (hi:P.length=i) (l1:l .ae=some (.ref i)) {x e v} (he:∀Q:K1 V,Q v σ->aK C e l σ Q) (hf:fieldOf c x=true) (hl:fs.length<50) (hx:(fs.any λp=>decide (p.1=x))=false)
 (q:∀σ',Hp σ' (P++ .inst c (fs++ [(x,v)])::B)->aG C r l σ' R):aG C (.cons (.setattr (.nm .ae) x e) r) l σ R:=by
 refine nK (he _ (lV (Ev.nm l1) (h.get i _ (Cm hi)) hf hl (q _ (aa (uH hx) ?_))))
 have:=h.set (r:=i) (o:=.inst c (fs++ [(x,v)]))
 rw [xB hi] at this
 exact this
theorem mX {es vs} (he:w9 l σ es vs) (hl:vs.length<=900) (Q:K1 V) (q:Q (.ref σ.next) (σ.push (.list vs))):aK C (.list es) l σ Q:=bS he (YR (ku hl (Ux _))) q
noncomputable def MK:Bk:=⟨[.str [66,111,111,108],.str [73,110,116],.str [82,101,97,108]],[.int 0,.int 0,.int 0],[],[],[],[.str []],[.nil],[.int 0],[.int 0],[]⟩
noncomputable def y3:Bk:=(MK.mk' (.str [116,114,117,101]) .nil (.int 0) (.int 0)).mk' (.str [102,97,108,115,101]) .nil (.int 0) (.int 0)
theorem Cn:Bl 3 MK:=⟨(Ux _),(Ux _),(U3 _),(U3 _),(U3 _),(Vb _),(Vb _),(Vb _),(Vb _),(Ui rfl)⟩
theorem EF (h:Hp σ [p0,p1,p2,p3,.inst .av []]) (q:∀σ',Hp σ' (lay p0 p1 p2 p3 dx y3 [.dict []])->Q .none σ'):aE aH (n+3) .aI [.ref 4] σ Q:=by
 refine bH rfl rfl (b8 (ah (a:=.ref 4) rfl (ah (a:=(4,.av,[])) (iw (h.get 4 _ rfl)) (aq rfl (bH rfl rfl (nR (P:=[p0,p1,p2,p3]) (B:=[]) (i:=4) (j:=5) h rfl rfl (mX (.cons Ev.str (.cons Ev.str (.cons Ev.str .nil))) (by exact Ui rfl)) rfl (by exact Ui rfl) rfl rfl λfe h1=>nR (j:=6) h1 rfl rfl (mX (.cons Ev.int (.cons Ev.int (.cons Ev.int .nil))) (by exact Ui rfl)) rfl (by exact Ui rfl) rfl rfl λiJ h2=>nR (j:=7) h2 rfl rfl (mX .nil (by decide)) rfl (by exact Ui rfl) rfl rfl λi3 h3=>nR (j:=8) h3 rfl rfl (mX .nil (by decide)) rfl (by exact Ui rfl) rfl rfl λyO h4=>nR (j:=9) h4 rfl rfl (mX .nil (by decide)) rfl (by exact Ui rfl) rfl rfl λCK h5=>EE h5 rfl rfl (λQ q=>q) rfl (by exact Ui rfl) rfl λOl h6=>nR (j:=10) h6 rfl rfl (mX (.cons Ev.str .nil) (by exact Ui rfl)) rfl (by exact Ui rfl) rfl rfl λQi h7=>nR (j:=11) h7 rfl rfl (mX (.cons (Ev.tup .nil (by decide)) .nil) (by exact Vb _)) rfl (by exact Ui rfl) rfl rfl λOm h8=>nR (j:=12) h8 rfl rfl (mX (.cons (Ev.glob rfl) .nil) (by exact Ui rfl)) rfl (by exact Ui rfl) rfl rfl λK2 h9=>nR (j:=13) h9 rfl rfl (mX (.cons Ev.int .nil) (by exact Ui rfl)) rfl (by exact Ui rfl) rfl rfl λLr IL=>nR (j:=14) IL rfl rfl dN rfl (by exact Ui rfl) rfl rfl λEf F9=>?_))))))
 have F9:Hp Ef (lay p0 p1 p2 p3 (dx.take 11) MK []):=F9
 refine nK (aF (Ev.nm rfl) (F9.get 4 _ rfl) rfl (.cons Ev.str (.cons (Ev.tup .nil (by decide)) (.cons (Ev.glob rfl) (.cons Ev.int .nil)))) (n9 F9 Cn (by simp) rfl rfl rfl rfl rfl (by rfl) (by rfl) λH0 CN=>lV (Ev.nm rfl) (CN.get 4 _ rfl) rfl (by exact Ui rfl) ?_))
 have Qx:Hp _ (lay p0 p1 p2 p3 (dx.take 12) (MK.mk' (.str [116,114,117,101]) .nil (.int 0) (.int 0)) []):=CN.set (r:=4) (o:=.inst .av (fM (dx.take 11) .fF (.int 1)))
 refine nK (aF (Ev.nm rfl) (Qx.get 4 _ rfl) rfl (.cons Ev.str (.cons (Ev.tup .nil (by decide)) (.cons (Ev.glob rfl) (.cons Ev.int .nil)))) (n9 Qx Cn.mk' (by simp) rfl rfl rfl rfl rfl (by decide+kernel) (by decide+kernel) λLu EG=>lV (Ev.nm rfl) (EG.get 4 _ rfl) rfl (by decide) (nR (P:=[p0,p1,p2,p3]) (i:=4) (j:=15) (show Hp _ ([p0,p1,p2,p3]++ .inst .av (dx.take 13)::[.list y3.sn,.list y3.sw,.list y3.fn,.list y3.fa,.list y3.fr,.list y3.ops,.list y3.args,.list y3.pJ,.list y3.dat,.dict y3.nums]) from (EG.set (r:=4) (o:=.inst .av (fM (dx.take 12) .eS (.int 2))))) rfl rfl dN rfl (by decide) rfl rfl λLw IM=>?_)))
 exact q _ IM
end
end
end Mine.Internal.R
namespace Mine.Internal.R
noncomputable section
noncomputable def Bk.ds (b:Bk) (nm:V):Bk:={b with sn:=b.sn++ [nm],sw:=b.sw++ [.int 0]}
theorem Bl.ds {k b} (B:Bl k b) {nm}:Bl (k+1) (b.ds nm):=⟨ED B.sn,ED B.sw,UP B.fn,UP B.fa,UP B.fr,UP B.ops,UP B.args,UP B.pJ,UP B.dat,UP B.nums⟩
noncomputable def OS (i:Nat):V:=.str [99,48+i]
noncomputable def bC:Nat->Bk
 | 0=>y3.ds (.str [83])
 | i+1=>((bC i).df (OS i) .nil (.int 3)).mk' gc .nil (.int 3) (.int (i:Nat))
noncomputable def bF (n:Nat):Bk:=((bC n).df (.str [102]) (V.tup [.int 3]) (.int 3)).df (.str [103]) (V.tup [.int 3]) (.int 3)
noncomputable def bI (n:Nat):Bk:=((bF n).mk' gc (V.tup [.int 3]) (.int 3) (.int (n:Nat))).mk' gc (V.tup [.int 4]) (.int 3) (.int (n:Nat))
noncomputable def bZ (n:Nat):Bk:=((bI n).mk' gc (V.tup [.int (n+3:Nat)]) (.int 3) (.int (n+1:Nat))).mk' gc (V.tup [.int (n+4:Nat)]) (.int 3) (.int (n+1:Nat))
theorem Ly:∀i,Bl (6+i*2) (bC i):=by
 intro z9;induction z9 with
 | zero=>exact ⟨(Ui rfl),(Ui rfl),(Ui rfl),(Ui rfl),(Ui rfl),(Ui rfl),(Ui rfl),(Ui rfl),(Ui rfl),(Ui rfl)⟩
 | succ i ih=>exact aa (Ĺ ..) (((ih).df (nm:=OS i) (as:=.nil) (r:=.int 3)).mk' (op:=gc) (a:=.nil) (s:=.int 3) (d:=.int (i:Nat)))
section
variable {σ:St}{os:List O}{p0 p1 p2 p3:O}{fs:List (Nm×V)}{b:Bk}{rest:List O}{n:Nat}{Q:K1 V}{l:Loc}{C:Fn->List V->St->K1 V->Prop}{R:Fl->Loc->St->Prop}{r:Ss}
theorem Lz (h:Hp σ (lay p0 p1 p2 p3 dx b rest)) {k:Nat} (B:Bl k b) (K:k<=900) {nm:V} (q:∀σ',Hp σ' (lay p0 p1 p2 p3 dx (b.ds nm) rest)->Q (.int b.sn.length) σ'):aE aH (n+1) .fU [.ref 4,nm] σ Q:=by
 refine bH rfl rfl (b8 (a5 (Ev.attr (Ev.nm rfl) (h.get 4 _ rfl) (x:=.dE) rfl rfl) (h.get 5 _ rfl) (Ev.nm rfl) (ku B.sn K) ?_))
 have k1:=h.set (r:=5) (o:=.list (b.sn++ [nm]))
 refine b8 (a5 (Ev.attr (Ev.nm rfl) (k1.get 4 _ rfl) (x:=.eu) rfl rfl) (k1.get 6 _ rfl) Ev.int (ku B.sw K) ?_)
 have k2:=k1.set (r:=6) (o:=.list (b.sw++ [.int 0]))
 exact ek (Ev.ko (Ev.len (Ev.attr (Ev.nm rfl) (k2.get 4 _ rfl) (x:=.dE) rfl rfl) (cN (k2.get 5 _ rfl))) Ev.int (congrArg (λi=>some (V.int i)) (by refine ?_;simp))) (q _ k2)
theorem IQ {a i r xs}{k:Nat} (h:Ev l σ a (.ref r)) (hr:σ.get r=some (.args xs)) (hi:Ev l σ i (.int k)) (hk:k<=dj) (hl:(xs.take k).length<=dj) (q:Q (.ref σ.next) (σ.push (.list (xs.take k)))):aK C (.sliceTo a i) l σ Q:=
 h C _ (hi C _ (aq (by simp;exact aJ (Y1 _) Z0 (.n 10000000) Z0 (.n 10000000) hk rfl) (ah (a:=xs) (qf hr) (bP hl q))))
theorem OT {c:kA}{as vs} (h:w9 l σ as vs) (q:C (jz c) (.ref σ.next::vs) (σ.push (.inst c [])) λv σ'=>ei (decide (v=.none)) (Q (.ref σ.next) σ')):aK C (.new c as) l σ Q:=h C _ (aq rfl q)
theorem mv {e t i ifs} (h:pN C i l σ λp σ=>gx p.2 t (λl σ Q=>uR C ifs l σ Q) (λl σ Q=>aK C e l σ Q) l p.1 [] σ λvs σ=>bA σ vs.length (.list vs) Q):aK C (.comp e t i ifs) l σ Q:=h
theorem k9 {g:Gd}{t e}{v:V}{xs acc:List V}{l':Loc}{K:K1 (List V)} (hg:g.ok σ=true) (hb:kB t v l=some l') (ha:acc.length<=900) (h:aK C e l' σ λx σ=>gx g t (λl σ Q=>uR C .nil l σ Q) (λl σ Q=>aK C e l σ Q) l xs (acc++ [x]) σ K):
 gx g t (λl σ Q=>uR C .nil l σ Q) (λl σ Q=>aK C e l σ Q) l (v::xs) acc σ K:=by
 have e1:(λx σ=>ei (decide (acc.length+1<=dj)) (gx g t (λl σ Q=>uR C .nil l σ Q) (λl σ Q=>aK C e l σ Q) l xs (acc++ [x]) σ K))=λx σ=>gx g t (λl σ Q=>uR C .nil l σ Q) (λl σ Q=>aK C e l σ Q) l xs (acc++ [x]) σ K:=
  funext λx=>funext λσ=>aa (decide_eq_true (ku ha (Ux _))) rfl
 exact aq hg (ah hb (aa e1 h))
theorem sI {g:Gd}{t e}{acc:List V}{K:K1 (List V)} (hg:g.ok σ=true) (h:K acc σ):gx g t (λl σ Q=>uR C .nil l σ Q) (λl σ Q=>aK C e l σ Q) l [] acc σ K:=aq hg h
theorem LA {x y r} (h:Gq (.str x) (.str y)=some r) (q:Q r σ):xO .add (.str x) (.str y) σ Q:=ah h q
theorem LC:∀i,i<4->keyOk (bC i).nums (V.tup [gc,.nil,.int 3,.int (i:Nat)])=true/\ag (bC i).nums (V.tup [gc,.nil,.int 3,.int (i:Nat)])=none/\(bC i).fn.length=i/\(bC i).ops.length=3+i:=(of_decide_eq_true rfl)
theorem Ev.strOf {a}{i:Nat} (h:Ev l σ a (.int (i:Nat))) (hi:i<10):Ev l σ (.strOf a) (.str [48+i]):=λC Q q=>h C _ (ah (a:=(i:Int)) rfl (aq (by simp;lia) q))
noncomputable abbrev H5:E:=.aY (.nm .cf) .g9 (.cons (.bin .add (.str [99]) (.strOf (.nm .LY))) (.cons (.nm .iO) .nil))
theorem y4 (l1:l .cf=some (.ref 4)) (l2:l .iO=some (.int 3)):∀(m i:Nat) (σ:St) (acc:List V) (K:K1 (List V)),i+m<=4->acc.length=i->Hp σ (lay p0 p1 p2 p3 dx (bC i) rest)->
 (∀σ',Hp σ' (lay p0 p1 p2 p3 dx (bC (i+m)) rest)->K (acc++(Wx i m).map λj:Nat=>V.int (3+j:Nat)) σ')->
 gx .free (.one .LY) (λl σ Q=>uR (aE aH (n+3)) .nil l σ Q) (λl σ Q=>aK (aE aH (n+3)) H5 l σ Q) l ((Wx i m).map λj:Nat=>V.int (j:Nat)) acc σ K:=by
 intro z9;induction z9 with
 | zero=>exact λi σ acc K U U h q=>sI rfl (by have:=q σ h;rwa [show Wx i 0=[] from rfl,List.map_nil,U6] at this)
 | succ m ih=>
  refine λi σ acc K hm ha h q=>CQ (LC i (aJ (Y2 _ _) (.s Z0) (.n 4) (.a Z0 (.s Z1)) (.n 4) hm rfl)) λk1 k2 k3 k4=>k9 rfl rfl (aJ (Y3 _ _ _) Z0 (.n 900) (.a (.a Z1 (.s Z2)) Z0) (.a (.n 4) Z1) (Uq hm (UI ha)) rfl) (eP (Ev.nm (l1)) (h.get 4 _ rfl) rfl (iF (il (a6 Ev.str (a6 (Ev.strOf (i:=i) (Ev.nm rfl) (aJ (Y2 _ _) (.s Z0) (.n 10) (.a Z0 (.s Z1)) (.n 4) hm rfl)) (LA (r:=OS i) rfl (dM (Ev.nm (l2)) (fu (Ck h (Ly i) (aJ (Y2 _ _) (.s (.a (.n 6) (.q Z0 2))) (.n 900) (.m 2 (.a Z0 (.s Z1))) (.m 2 (.n 4)) (Vf 2 hm) rfl) (by exact k1) (aa k3 k2) λσ' h'=>?_)))))))))
  replace h':=k3▸h'
  refine aa k4 (ih (i+1) σ' _ K (aJ (Y2 _ _) (.a (.s Z0) Z1) (.n 4) (.a Z0 (.s Z1)) (.n 4) hm rfl) (by refine List.length_append.trans ((congrArg _ ha).trans ?_);rfl) h' λbU ND=>?_)
  have:=q bU (by rw [show i+(m+1)=i+1+m by lia];exact ND)
  exact aa (UW ..) this
end
end
end Mine.Internal.R
namespace Mine.Internal.R
noncomputable section
section
variable {σ:St}{os:List O}{fs:List (Nm×V)}{n:Nat}{Q:K1 V}{l:Loc}{C:Fn->List V->St->K1 V->Prop}{R:Fl->Loc->St->Prop}{r:Ss}
theorem eo (h:Hp σ os) {j k:Nat}{o:O} (hj:os.length=j) (hk:k<=900) (q:∀σ',Hp σ' (os++ [o])->Q (.ref j) σ'):bA σ k o Q:=
 bP (YR (ku hk (Ux _))) (by have:=q _ h.push;rwa [← hj,← h.n] at this)
theorem mw {es} (h:iu C es l σ λvs σ=>bA σ vs.length (.list vs) Q):aK C (.list es) l σ Q:=h
theorem xC {c as} (h:iu C as l σ λvs σ=>bA σ 0 (.inst c []) λr σ=>C (jz c) (r::vs) σ λv σ=>ei (decide (v=.none)) (Q r σ)):aK C (.new c as) l σ Q:=h
theorem wi {i} (h:pN C i l σ λp σ=>ei (p.2.ok σ) (bA σ p.1.length (.list p.1) Q)):aK C (.listOf i) l σ Q:=h
theorem qV {a i r xs}{k:Nat} (h:Ev l σ a (.ref r)) (hr:itemsOf σ (.ref r)=some xs) (hi:Ev l σ i (.int k)) (hk:k<=900) (q:bA σ (xs.take k).length (.list (xs.take k)) Q):aK C (.sliceTo a i) l σ Q:=
 h C _ (hi C _ (aq (by have:(dj:Int)=10000000:=rfl;simp;exact aJ (Y1 _) Z0 (.n 10000000) Z0 (.n 900) hk rfl) (ah hr q)))
theorem Co {r1 r2 p q} (h1:σ.get r1=some (.list p)) (h2:σ.get r2=some (.list q)) (k:bA σ (p.length+q.length) (.list (p++q)) Q):xO .add (.ref r1) (.ref r2) σ Q:=
 aq rfl (ah (a:=(r1,p)) (aZ h1) (ah (a:=(r2,q)) (aZ h2) k))
theorem uI {s1 s2:List Nat}{v1 v2} (h1:keyOk [] (.str s1)=true) (h2:∀b,keyOk [(V.str s1,b)] (.str s2)=true) (ne:V.str s1≠.str s2) (h:aK C v1 l σ λb σ=>aK C v2 l σ λd σ=>bA σ 2 (.dict [(.str s1,b),(.str s2,d)]) Q):aK C (.dict (.cons (.str s1) v1 (.cons (.str s2) v2 .nil))) l σ Q:=by
 have e:∀b d,putAll [] [(V.str s1,b),(V.str s2,d)]=some [(.str s1,b),(.str s2,d)]:=λb d=>by
  show (if keyOk [(V.str s1,b)] (.str s2) then putAll (dput [(V.str s1,b)] (.str s2) d) [] else none)=_
  refine (congrArg _ qG).trans ((congrArg _ (if_neg ne)).trans ?_);rfl
 have e2:(λb σ=>aK C v2 l σ λd σ=>aC (putAll [] [(V.str s1,b),(V.str s2,d)]) λx=>bA σ 2 (.dict x) Q)=λb σ=>aK C v2 l σ λd σ=>bA σ 2 (.dict [(.str s1,b),(.str s2,d)]) Q:=by
  funext b σ
  exact congrArg (aK C v2 l σ) (funext λd=>funext λσ=>aa (e ..) rfl)
 exact (congrArg (aK C v1 l σ) e2).mpr h
end
noncomputable abbrev Ga:Ss:=.cons (.expr (.aY (.nm .aT) .gj (.cons (.nm .cW) .nil))) .nil
noncomputable abbrev Cp:E:=.dict (.cons (.str [101,100,103,101,115]) (.list .nil) (.cons (.str [99,97,108,108,115]) (.list (.cons (.fo (.of (.bin .add (.nm .eT) (.sliceTo (.nm .fL) (.int 2))))) (.cons (.fo (.of (.bin .add (.nm .lA) (.nm .eT)))) .nil))) .nil))
noncomputable abbrev xD:Ss:=.cons (.for (.one .cW) (.of (.nm .bu)) Ga) (.cons (.bV .aL Cp) (.cons (.bV .aQ (.list .nil)) Cf))
noncomputable def vI (k:Nat):V:=.int (k:Nat)
noncomputable def g7 (n:Nat):List V:=(Wx 0 n).map λj:Nat=>V.int (3+j:Nat)
noncomputable def Gb:List (Nm×V):=[(.cf,.ref 4),(.a9,.ref 28),(.bQ,.ref 29),(.eC,.ref 30),(.di,.ref 31),(.dR,.ref 32),(.b5,.ref 33),(.hS,.ref 34),(.fE,.ref 35),(.lB,.ref 36),(.dO,.ref 37),(.hJ,.ref 38),(.dz,.ref 39),(.fX,.none),(.et,.int 0),(.cL,.ref 40),(.aQ,.ref 41)]
noncomputable def Qy (n:Nat):List O:=[.dict [],.list (g7 n),.list [vI n,vI (n+1)],.list [vI 3,vI 4],.list [vI 3],.list [vI 4],.list [vI (n+3),vI (n+4)],.list [vI (n+3)],.list [vI (n+4)],.list [vI (n+5),vI (n+6)],.list (g7 n++ [vI (n+3),vI (n+4)]),.list (g7 n++ [vI (n+3),vI (n+4)]++ [vI (n+5),vI (n+6)])]
noncomputable def Qz:List O:=[.dict [],.dict [],.dict [],.dict [],.dict [],.dict [],.dict [],.dict [],.dict [],.dict [],.list [],.list [],.list [],.list []]
noncomputable def ML (n:Nat) (script:List V):List O:=lay (.args script) (.list (script.take 50)) (.list (script.take 50)) (.dict [(e9,.ref 2),(g6,.int 1)]) dx (bZ n) (Qy n++ .inst .ak Gb::Qz)
section
variable {σ:St}{os:List O}{p0 p1 p2 p3:O}{fs:List (Nm×V)}{b:Bk}{rest:List O}{n m:Nat}{Q:K1 V}{l:Loc}{C:Fn->List V->St->K1 V->Prop}{R:Fl->Loc->St->Prop}{r:Ss}
structure LB (l:Loc):Prop where
 t:l .bO=some (.ref 3)
 b:l .cf=some (.ref 4)
 s:l .fL=some (.ref 16)
 i:l .eT=some (.ref 21)
 o:l .lA=some (.ref 24)
 m:l .bu=some (.ref 26)
 e:l .aT=some (.ref 27)
theorem H6 {P:List O} (hP:P.length=27) (h:Hp σ (P++ [.inst .ak []])) (q:∀σ',Hp σ' (P++ .inst .ak Gb::Qz)->Q .none σ'):aE aH (m+1) .fj [.ref 27,.ref 4] σ Q:=by
 refine bH rfl rfl (EE (i:=27) (B:=[]) h hP rfl (λQ q=>Ev.nm rfl _ Q q) rfl ((Vb _)) rfl λIJ h0=>nR (j:=28) h0 hP rfl dN rfl ((Ui rfl)) rfl rfl λfe h1=>nR (j:=29) h1 hP rfl dN rfl ((Ui rfl)) rfl rfl λiJ h2=>nR (j:=30) h2 hP rfl dN rfl ((Ui rfl)) rfl rfl λi3 h3=>nR (j:=31) h3 hP rfl dN rfl ((Ui rfl)) rfl rfl λyO h4=>nR (j:=32) h4 hP rfl dN rfl ((Ui rfl)) rfl rfl λCK h5=>nR (j:=33) h5 hP rfl dN rfl ((Ui rfl)) rfl rfl λOl h6=>nR (j:=34) h6 hP rfl dN rfl ((Ui rfl)) rfl rfl λQi h7=>nR (j:=35) h7 hP rfl dN rfl ((Ui rfl)) rfl rfl λOm h8=>nR (j:=36) h8 hP rfl dN rfl ((Ui rfl)) rfl rfl λK2 h9=>nR (j:=37) h9 hP rfl dN rfl ((Ui rfl)) rfl rfl λLr IL=>nR (j:=38) IL hP rfl (mX .nil (by decide)) rfl ((Ui rfl)) rfl rfl λEf F9=>nR (j:=39) F9 hP rfl (mX .nil (by decide)) rfl ((Ui rfl)) rfl rfl λH0 CN=>EE CN hP rfl (λQ q=>q) rfl ((Ui rfl)) rfl λLu EG=>EE EG hP rfl (λQ q=>q) rfl ((Ui rfl)) rfl λLw IM=>?_)
 exact nR (j:=40) IM hP rfl (mX .nil (by decide)) rfl ((Ui rfl)) rfl rfl λOU LD=>nR (j:=41) LD hP rfl (mX .nil (by decide)) rfl (by exact Ui rfl) rfl rfl λOV IS=>q _ IS
end
end
end Mine.Internal.R
namespace Mine.Internal.R
noncomputable section
abbrev sJ (b:Bk) (t f res:Nat):Prop:=idx b.fa (f:Nat)=some (V.tup [.int 3])/\(idx b.fn (f:Nat)).isSome=true/\idx b.pJ (t:Nat)=some (.int 3)/\idx b.fr (f:Nat)=some (.int 3)/\
 keyOk b.nums (V.tup [gc,V.tup [.int (t:Nat)],.int 3,.int (f:Nat)])=true/\ag b.nums (V.tup [gc,V.tup [.int (t:Nat)],.int 3,.int (f:Nat)])=none/\b.ops.length=res
noncomputable def OW (n:Nat):Bk:=(bF n).mk' gc (V.tup [.int (3:Nat)]) (.int 3) (.int (n:Nat))
noncomputable def OX (n:Nat):Bk:=(bI n).mk' gc (V.tup [.int (n+3:Nat)]) (.int 3) (.int (n+1:Nat))
theorem Bl.mono {k k' b} (B:Bl k b) (h:k<=k'):Bl k' b:=⟨Ut B.sn h,Ut B.sw h,Ut B.fn h,Ut B.fa h,Ut B.fr h,Ut B.ops h,Ut B.args h,Ut B.pJ h,Ut B.dat h,Ut B.nums h⟩
theorem two {P:Nat->Prop} (h3:P 3) (h4:P 4) {n} (h:n=3\/n=4):P n:=h.elim (λe=>e▸h3) λe=>e▸h4
theorem SK {n} (h:n=3\/n=4):sJ (bF n) 3 n (n+3):=two (P:=λn=>sJ (bF n) 3 n (n+3)) (by decide) (by decide) h
theorem SM {n} (h:n=3\/n=4):sJ (OW n) 4 n (n+4):=two (P:=λn=>sJ (OW n) 4 n (n+4)) (by decide) (by decide) h
theorem SN {n} (h:n=3\/n=4):sJ (bI n) (n+3) (n+1) (n+5):=two (P:=λn=>sJ (bI n) (n+3) (n+1) (n+5)) (by decide) (by decide) h
theorem SO {n} (h:n=3\/n=4):sJ (OX n) (n+4) (n+1) (n+6):=two (P:=λn=>sJ (OX n) (n+4) (n+1) (n+6)) (by decide) (by decide) h
theorem QA {n} (h:n=3\/n=4):(bC n).fn.length=n:=two (P:=λn=>(bC n).fn.length=n) (by rfl) (by rfl) h
section
variable {σ:St}{os:List O}{p0 p1 p2 p3:O}{fs:List (Nm×V)}{b:Bk}{rest:List O}{n m:Nat}{Q:K1 V}{l:Loc}{C:Fn->List V->St->K1 V->Prop}{R:Fl->Loc->St->Prop}{r:Ss}
theorem oh (h:Hp σ (lay p0 p1 p2 p3 dx b rest)) {k:Nat} (B:Bl k b) (K:k<=900) {rl t f res:Nat} (hr:σ.get rl=some (.list [vI t])) (F:sJ b t f res) (q:∀σ',Hp σ' (lay p0 p1 p2 p3 dx (b.mk' gc (V.tup [.int (t:Nat)]) (.int 3) (.int (f:Nat))) rest)->Q (vI res) σ'):aE aH (m+2) .gp [.ref 4,vI f,.ref rl] σ Q:=by
 exact Pj F λf1 f2 f3 f4 f5 f6 f7=>bb (Option.isSome_iff_exists.mp f2) λnm hn=>HZ h B K hr f1 hn f3 f4 ⟨_,rfl⟩ f5 f6 λσ' h'=>by exact aa f7 (q σ' h')
theorem H7 {xs e} (h:aK C e l σ λv σ=>aC (gV σ v) λvs=>ei (decide xs.Nodup) (aC (bq xs vs l) λl'=>aG C r l' σ R)):aG C (.cons (.unpack xs e) r) l σ R:=h
end
def qW (σ:St) (m:Nat) (l:Loc) (R:Fl->Loc->St->Prop) (script:List V):Prop:=∀(h:Hp σ [.args script]) (hi:mj script) (l1:l .jv=some (.ref 0)) (q:∀n,n=3\/n=4->∀l' σ',LB l'->Hp σ' (ML n script)->aG (aE aH (m+3)) xD l' σ' R),aG (aE aH (m+3)) rG.2 l σ R
noncomputable abbrev qX:=St×Nat×Loc×(Fl->Loc->St->Prop)×(List V)
def qY (c:qX):Prop:=qW c.1 c.2.1 c.2.2.1 c.2.2.2.1 c.2.2.2.2
noncomputable def iG:qX:=ep (⟨0,λU=>none⟩,0,λU=>none,(λU U U=>True),[]) qY
namespace uJ
@[irreducible] def σ:St:=iG.1
@[irreducible] def m:Nat:=iG.2.1
@[irreducible] def l:Loc:=iG.2.2.1
@[irreducible] def R:Fl->Loc->St->Prop:=iG.2.2.2.1
@[irreducible] def script:List V:=iG.2.2.2.2
theorem u2:qW σ m l R script:=by
 intro h hi l1 q
 have cl:(script.take 50).length<=900:=Ut (List.length_take_le _ _) (by decide)
 refine jb rfl (uI rfl (λU=>rfl) Lc (wi (mu (qV (k:=50) (Ev.nm l1) (qf (h.get 0 _ rfl)) Ev.int (by decide) (eo h (j:=1) rfl cl λfe h1=>ah (bB (h1.get 1 _ rfl)) (aq (decide_eq_true (h1.get 1 _ rfl)) (eo h1 (j:=2) rfl cl λiJ h2=>a6 Ev.int (eo h2 (j:=3) rfl (by decide) λi3 h3=>xC (fu (eo h3 (j:=4) rfl (by decide) λyO h4=>EF h4 λCK h5=>aq rfl (gG (aF (Ev.nm rfl) (h5.get 4 _ rfl) rfl (.cons Ev.str .nil) (Lz h5 Cn.mk'.mk' (by decide) λOl h6=>aa (show ((y3.sn.length:Nat):Int)=3 from rfl) ?_)))))))))))))
 refine gG (mv (uG (il (a6 Ev.int (wp_call (.cons (Ev.nm rfl) (.cons Ev.int .nil)) (xn (w:=2) (s:=0) ⟨h6.get 3 _ rfl,h6.get 2 _ rfl,(λx hx=>hi x (WY hx)),by decide⟩ (by decide) (by decide) λk hk=>?_))))))
 have h7:Hp _ (lay (.args script) (.list (script.take 50)) (.list (script.take 50)) (.dict [(e9,.ref 2),(g6,.int 1)]) dx (bC 0) [.dict []]):=h6.set (r:=3)
 have hn:3+k=3\/3+k=4:=by lia
 refine F8 (r:=V.int ((3+k:Nat):Int)) (congrArg (λi=>some (V.int i)) (by lia)) (ah (a:=((3+k:Nat):Int)) rfl (aq (b:=decide (((3+k:Nat):Int)<=dj)&&decide (-(dj:Int)<=((3+k:Nat):Int))) (by have:(dj:Int)=10000000:=rfl;simp;lia) ?_))
 have SQ:mF ((3+k:Nat):Int)=(Wx 0 (3+k)).map λj:Nat=>V.int (j:Nat):=by unfold mF;exact aa (YT ..) (aa List.range_eq_range' rfl)
 refine aa SQ ?_
 revert hn
 generalize 3+k=n
 refine λhn=>y4 rfl rfl n 0 _ [] _ (by lia) rfl h7 λOm h8=>?_
 rw [YQ] at h8
 have sl:(g7 n).length<=4:=by exact aa (UD ..) (aa List.length_range' (by lia))
 refine eo h8 (j:=16) rfl (Ut sl (by decide)) λK2 h9=>?_
 have h9:Hp K2 (lay (.args script) (.list (script.take 50)) (.list (script.take 50)) (.dict [(e9,.ref 2),(g6,.int 1)]) dx (bC n) [.dict [],.list (g7 n)]):=h9
 have Bc:Bl 20 (bC n):=(Ly n).mono (by lia)
 refine H7 (mv (mu (a6 (Ev.tup (.cons Ev.str (.cons Ev.str .nil)) (by decide)) (ah (og [.str [102],.str [103]]) (k9 rfl rfl (Ui rfl) (aF (Ev.nm rfl) (h9.get 4 _ rfl) rfl (.cons (Ev.nm rfl) (.cons (Ev.tup (.cons (Ev.nm rfl) .nil) (by decide)) (.cons (Ev.nm rfl) .nil))) (Cj (xs:=[.int 3]) h9 Bc (by decide) (by decide) λLr IL=>k9 rfl rfl (Ui rfl) (aF (Ev.nm rfl) (IL.get 4 _ rfl) rfl (.cons (Ev.nm rfl) (.cons (Ev.tup (.cons (Ev.nm rfl) .nil) (by decide)) (.cons (Ev.nm rfl) .nil))) (Cj (xs:=[.int 3]) IL Bc.df (by decide) (by decide) λEf F9=>?_)))))))))
 have SR:(((bC n).df (.str [102]) (V.tup [.int 3]) (.int 3)).fn).length=n+1:=by refine aa UA (aa (QA hn) ?_);rfl
 refine sI rfl (aa SR (aa (QA hn) (eo F9 (j:=17) rfl (Ui rfl) λH0 CN=>?_)))
 have CN:Hp H0 (lay (.args script) (.list (script.take 50)) (.list (script.take 50)) (.dict [(e9,.ref 2),(g6,.int 1)]) dx (bF n) [.dict [],.list (g7 n),.list [vI n,vI (n+1)]]):=CN
 refine ah (a:=[vI n,vI (n+1)]) (by simp only [gV,CN.get 17 _ rfl]) (aq rfl (ah rfl (gG (mv (mu (qV (xs:=g7 n) (k:=2) (Ev.nm rfl) (oC (CN.get 16 _ rfl)) Ev.int (by decide) (aa (two (P:=λn=>(g7 n).take 2=[vI 3,vI 4]) rfl rfl hn) (eo CN (j:=18) rfl (Ui rfl) λLu EG=>ah (bB (EG.get 18 _ rfl)) ?_))))))))
 have Bf:Bl 22 (bF n):=Bc.df.df
 refine k9 (decide_eq_true (EG.get 18 _ rfl)) rfl (Ui rfl) (eP (Ev.nm rfl) (EG.get 4 _ rfl) rfl (dM (Ev.nm rfl) (iF (mw (dM (Ev.nm rfl) (fu (eo EG (j:=19) rfl (by decide) λLw IM=>fu (oh IM Bf (by decide) (IM.get 19 _ rfl) (SK hn) λOU LD=>k9 (decide_eq_true (LD.get 18 _ rfl)) rfl (Ui rfl) (eP (Ev.nm rfl) (LD.get 4 _ rfl) rfl (dM (Ev.nm rfl) (iF (mw (dM (Ev.nm rfl) (fu (eo LD (j:=20) rfl (by decide) λOV IS=>fu (oh (b:=OW n) IS Bf.mk' (by decide) (IS.get 20 _ rfl) (SM hn) λSS QB=>sI (decide_eq_true (QB.get 18 _ rfl)) (eo QB (j:=21) rfl (Ui rfl) λOY IT=>?_)))))))))))))))))
 have IT:Hp OY (lay (.args script) (.list (script.take 50)) (.list (script.take 50)) (.dict [(e9,.ref 2),(g6,.int 1)]) dx (bI n) [.dict [],.list (g7 n),.list [vI n,vI (n+1)],.list [vI 3,vI 4],.list [vI 3],.list [vI 4],.list [vI (n+3),vI (n+4)]]):=IT
 refine gG (mv (mu (a6 (Ev.nm rfl) (ah (bB (IT.get 21 _ rfl)) (k9 (decide_eq_true (IT.get 21 _ rfl)) rfl (Ui rfl) (eP (Ev.nm rfl) (IT.get 4 _ rfl) rfl (dM (Ev.nm rfl) (iF (mw (dM (Ev.nm rfl) (fu (eo IT (j:=22) rfl (Ui rfl) λSU QC=>fu (oh QC Bf.mk'.mk' (by decide) (QC.get 22 _ rfl) (SN hn) λSV OZ=>k9 (decide_eq_true (OZ.get 21 _ rfl)) rfl (Ui rfl) (eP (Ev.nm rfl) (OZ.get 4 _ rfl) rfl (dM (Ev.nm rfl) (iF (mw (dM (Ev.nm rfl) (fu (eo OZ (j:=23) rfl (Ui rfl) λSW LF=>fu (oh (b:=OX n) LF Bf.mk'.mk'.mk' (by decide) (LF.get 23 _ rfl) (SO hn) λSX QD=>sI (decide_eq_true (QD.get 21 _ rfl)) (eo QD (j:=24) rfl (Ui rfl) λO0 LG=>?_))))))))))))))))))))))
 have LG:Hp O0 (lay (.args script) (.list (script.take 50)) (.list (script.take 50)) (.dict [(e9,.ref 2),(g6,.int 1)]) dx (bZ n) [.dict [],.list (g7 n),.list [vI n,vI (n+1)],.list [vI 3,vI 4],.list [vI 3],.list [vI 4],.list [vI (n+3),vI (n+4)],.list [vI (n+3)],.list [vI (n+4)],.list [vI (n+5),vI (n+6)]]):=LG
 exact jb rfl (il (il (a6 (Ev.nm rfl) (a6 (Ev.nm rfl) (Co (LG.get 16 _ rfl) (LG.get 21 _ rfl) (eo LG (j:=25) rfl (by exact aJ (Y1 _) (.a Z0 (.n 2)) (.n 900) Z0 (.n 4) sl rfl) λSY LH=>a6 (Ev.nm rfl) (Co (LH.get 25 _ rfl) (LH.get 24 _ rfl) (eo LH (j:=26) rfl (by exact aa UA (aJ (Y1 _) (.a (.a Z0 (.n 2)) (.n 2)) (.n 900) Z0 (.n 4) sl rfl)) λS0 S2=>xC (dM (Ev.nm rfl) (fu (eo S2 (j:=27) rfl (by decide) λS3 S4=>H6 (P:=lay (.args script) (.list (script.take 50)) (.list (script.take 50)) (.dict [(e9,.ref 2),(g6,.int 1)]) dx (bZ n) (Qy n)) rfl S4 λO2 HF=>aq rfl (q n hn _ O2 ⟨rfl,rfl,rfl,rfl,rfl,rfl,rfl⟩ HF))))))))))))
end uJ
section
variable {σ:St}{os:List O}{p0 p1 p2 p3:O}{fs:List (Nm×V)}{b:Bk}{rest:List O}{n m:Nat}{Q:K1 V}{l:Loc}{C:Fn->List V->St->K1 V->Prop}{R:Fl->Loc->St->Prop}{r:Ss}
theorem Cq {script:List V} (h:Hp σ [.args script]) (hi:mj script) (l1:l .jv=some (.ref 0)) (q:∀n,n=3\/n=4->∀l' σ',LB l'->Hp σ' (ML n script)->aG (aE aH (m+3)) xD l' σ' R):aG (aE aH (m+3)) rG.2 l σ R:=
 iK (P:=qY) (by with_unfolding_all exact uJ.u2) (σ,m,l,R,script) h hi l1 q
end
end
end Mine.Internal.R
namespace Mine.Internal.R
noncomputable section
noncomputable def sP (c:aS) (k:Nat) (t:V) (xs:List V) (nx:Nat):aS:={c with dk:=λk'=>if k'=k then dput (c.dk k) t (.ref nx) else c.dk k',role:=λr=>if r=nx then .ls k t else c.role r,L:=dc c.L k t xs}
section
variable {g:Cfg}{σ σ':St}{c c':aS}{n:Nat}{Q:K1 V}{l:Loc}{C:Fn->List V->St->K1 V->Prop}{R:Fl->Loc->St->Prop}{r:Ss}
theorem Go.O3 (h:Go g σ c σ' c') {k t} (hk:k<4) (hn:∀r,c'.role r≠.ls k t) (ht:t∉g.T) (xs:List V):Go g σ c ((σ'.push (.list xs)).set (fR k) (.dict (dput (c'.dk k) t (.ref σ'.next)))) (sP c' k t xs σ'.next):=by
 have H:=h.1
 have new:(sP c' k t xs σ'.next).role σ'.next=.ls k t:=if_pos rfl
 have old:∀ {r},c'.role r≠.none->(sP c' k t xs σ'.next).role r=c'.role r:=λ{r} e=>if_neg λq=>e (by exact aa q (H.top _ (Ux _)))
 have up:∀ {i},eY i=true->i≠fR k->((σ'.push (.list xs)).set (fR k) (.dict (dput (c'.dk k) t (.ref σ'.next)))).get i=σ'.get i:=λ{i} hi HF=>(bl HF).trans (aX (H.nZ hi))
 have Å:∀ {i},eY i=true->DX i=true->_:=λ{i} h k=>up (i:=i) h (xa hk k)
 have QE:∀ {r},c'.role r≠.fix->r≠fR k:=λ{r} e q=>e (aa q (H.fix _ (eZ hk)))
 refine ⟨{ij:=(Å rfl rfl).trans H.ij,iZ:=(Å rfl rfl).trans H.iZ,dX:=(Å rfl rfl).trans H.dX,iA:=(Å rfl rfl).trans H.iA,
          b9:=(Å rfl rfl).trans H.b9,root:=(Å rfl rfl).trans H.root,
          ph:=λk' tM=>?_,val:=(Å rfl rfl).trans H.val,up:=(Å rfl rfl).trans H.up,table:=(Å rfl rfl).trans H.table,
          told:=(Å rfl rfl).trans H.told,trail:=(Å rfl rfl).trans H.trail,dyn:=λi o e=>?_,top:=λi hi=>?_,fix:=λi hi=>(old (aa (H.fix i hi) nofun)).trans (H.fix i hi),
          inj:=λi j e k1 k2=>?_,rq:=(old (r:=c'.q) (aa H.rq nofun)).trans H.rq,nF:=(old (r:=c'.m) (aa H.nF nofun)).trans H.nF,pK:=(old (r:=c'.nw) (aa H.pK nofun)).trans H.pK,ls:=λk' t' tM dV=>?_},
  h.2.trans ⟨US _,λi hi hr=>⟨(bl (QE (aa hr nofun))).trans (aX hi),(if_neg (UZ hi)).trans hr⟩⟩⟩
 ·by_cases q:k'=k
  ·exact aa q (cY.trans (congrArg (λx=>some (O.dict x)) (if_pos rfl).symm))
  ·exact (up (eZ tM) λe=>q (um _ tM _ hk e)).trans ((H.ph k' tM).trans (congrArg (λx=>some (O.dict x)) (if_neg q).symm))
 ·by_cases q:i=σ'.next
  ·subst q
   replace e:=(bG new)▸e
   have e':some (O.list (Mine.Internal.R.dc c'.L k t xs k t))=some o:=e
   rw [e7,if_pos ⟨rfl,rfl⟩] at e'
   exact ((bl (Vj (H.nZ (eZ hk)))).trans ao).trans e'.symm.symm
  ·have e0:(sP c' k t xs σ'.next).role i=c'.role i:=if_neg q
   have e1:iB c' i=some o:=by
    refine aR e (aa (bG e0) ?_)
    delta iB
    cases hq:c'.role i with
    | ls k' t'=>exact congrArg (λx=>some (O.list x)) (if_neg λz=>hn i ((aa hq (w2 z.1 z.2 rfl)))).symm
    | _=>rfl
   have s:=eO e1
   exact (bl (QE s.2)).trans ((aX (H.lt s.1)).trans (H.dyn i o e1))
 ·have hi:σ'.next+1<=i:=hi
  exact (if_neg (Vj (aJ (Y2 _ _) (.s Z1) Z0 (.s Z1) Z0 hi rfl))).trans (H.top i ((Vz ‹_›)))
 ·by_cases q:i=σ'.next<;>by_cases q':j=σ'.next
  ·exact w2 q q' rfl
  ·subst q
   rw [new,show (sP c' k t xs σ'.next).role j=_ from if_neg q'] at e
   exact absurd e.symm (hn j)
  ·subst q'
   rw [new,show (sP c' k t xs σ'.next).role i=_ from if_neg q] at e
   exact absurd e (hn i)
  ·rw [show (sP c' k t xs σ'.next).role i=_ from if_neg q] at e k1 k2
   exact H.inj i j (e.trans (show (sP c' k t xs σ'.next).role j=_ from if_neg q')) k1 k2
 ·refine aN (H.ls k' t' tM dV) λi h1 h2=>i12 i ?_ ((old (aa h2 nofun)).trans h2)
  by_cases e:k'=k
  ·exact aR e ((congrArg (λd=>ag d t') (if_pos rfl)).trans (aO.trans ((if_neg λx=>ht (by exact aa x dV)).trans h1)))
  ·exact (congrArg (λd=>ag d t') (if_neg e)).trans h1
theorem Rep.grow {T A:List V}{t:V} (H:Rep g σ c) (hT:∀x∈T,x∈g.T\/x=t) (h:∀k,k<4->∃r,ag (c.dk k) t=some (.ref r)/\c.role r=.ls k t):Rep {g with T:=T,Ap:=A} σ c:=
 {H with ls:=λk x hk hx=>(hT x hx).elim (H.ls k x hk) λe=>aa e (h k hk)}
end
structure mz (g:Cfg) (A:List V) (c:aS):Prop where
 root:c.root=g.T.map λx=>(x,x)
 val:c.val=g.T.map λx=>(x,V.int 0)
 dk:∀k,eR g.T (c.dk k)
 up:c.up=[]
 table:c.table=A.map λx=>(V.tup [g.dat x,g.arg x],x)
 L0:∀x∈g.T,c.L 0 x=[x]
 L1:∀x∈g.T,c.L 1 x=g.Ap.filter λy=>decide (g.arg y=x)
 L2:∀k,2<=k->∀x∈g.T,c.L k x=[]
 marks:c.marks=[]
 queue:c.queue=[]
 IU:∀r k t,c.role r=.ls k t->t∈g.T
 Lo:∀k t,t∉g.T->c.L k t=[]
structure Cg (g:Cfg):Prop where
 ok:aP g
 IV:(g.Ap.map λx=>V.tup [g.dat x,g.arg x]).Nodup
section
variable {g:Cfg}{A:List V}{c:aS}
theorem mY {T:List V}{f:V->V}:(T.map λx=>(x,f x)).map (·.1)=T:=by exact List.map_map.trans (VF _)
theorem eR.of {K:List V}{d:List (V×V)} (h:d.map (·.1)=K) (hn:K.Nodup):eR K d:=⟨λp hp=>by rw [← h];exact List.mem_map.mpr (i12 p hp rfl),by rw [h];exact hn⟩
theorem qZ {T:List V}{f:V->V} (hn:T.Nodup) {x} (hx:x∈T):ag (T.map λx=>(x,f x)) x=some (f x):=mq (d:=T.map λx=>(x,f x)) (by rw [mY];exact hn) (x,f x) (List.mem_map.mpr (i12 x hx rfl))
theorem mz.rt (I:mz g A c) (G:Cg g) {x} (hx:x∈g.T):ag c.root x=some x:=by exact aa I.root (qZ (f:=λx=>x) G.ok.nd hx)
theorem EH {A:List V}{f:V->V} (hn:(A.map f).Nodup) {x} (hx:x∈A):ag (A.map λx=>(f x,x)) (f x)=some x:=mq (d:=A.map λx=>(f x,x)) (by rw [We];exact hn) (f x,x) (List.mem_map.mpr (i12 x hx rfl))
theorem sL {d:List (V×V)}{k v:V} (h:ag d k=some v):(k,v)∈d:=by
 delta ag at h
 cases q:d.find? (λp=>decide (p.1=k)) with
 | none=>rw [q] at h;contradiction
 | some p=>
  replace h:=q▸h
  have:=Zb q
  exact aR (of_decide_eq_true this) (aR (Uu h) (XF q))
theorem mz.wf (I:mz g A c) (G:Cg g) (hA:A.Sublist g.Ap):Wf g c where
 root:=by exact aa I.root (eR.of mY G.ok.nd)
 xc t ht:=i12 t ht (I.rt G ht)
 dk:=I.dk
 val:=by exact aa I.val (eR.of (mY (f:=λU=>.int 0)) G.ok.nd)
 pY t ht:=by exact aa I.val (qZ (f:=λU=>.int 0) G.ok.nd ht)
 up:=by exact aa I.up eR.nil
 FV t v e:=by rw [I.up] at e;exact nomatch e
 table:=by
  refine uP (g.Ap.flatMap λt=>g.T.map λr=>V.tup [g.dat t,r]) ⟨λp hp=>?_,?_⟩ ?_ (λt ht r hr=>List.mem_flatMap.mpr (i12 t ht (List.mem_map.mpr (i12 r hr rfl))))
  ·replace hp:=I.table▸hp
   refine aN (List.mem_map.mp hp) λx hx z1=>aR z1 ?_
   have hx:=hA.subset hx
   exact List.mem_flatMap.mpr (i12 x hx (List.mem_map.mpr (i12 _ ((G.ok.ap x hx).2.1) rfl)))
  ·exact aa I.table (aa We (G.IV.sublist (hA.map _)))
  ·have key:∀A:List V,(A.flatMap λt=>g.T.map λr=>V.tup [g.dat t,r]).length=A.length*g.T.length:=λA=>by
    induction A with
    | nil=>simp
    | cons a A ih=>exact List.length_append.trans (w3 ih Vm (UD ..) (w2 (Ĺ ..) (Nat.add_comm ..) rfl))
   exact aa (key ..) (Ut (Nat.mul_le_mul G.ok.IG G.ok.len) ((Ui rfl)))
 pk p hp:=by
  replace hp:=I.table▸hp
  refine aN (List.mem_map.mp hp) λx hx z2=>aR z2 ?_
  have hx:=hA.subset hx
  exact HI G.ok hx (G.ok.ap x hx).2.1
 kZ k v e:=by
  refine aN (List.mem_map.mp (sL (aR I.table e))) λx hx e=>?_
  cases e;exact hA.subset hx
 L0 t ht x hx:=by rw [I.L0 t ht] at hx;exact aa (List.mem_singleton.mp hx) ht
 L1 t ht x hx:=by rw [I.L1 t ht] at hx;exact (List.mem_filter.mp hx).1
 Ll k t ht:=by
  match k with
  | 0=>exact aa (I.L0 t ht) (Ui rfl)
  | 1=>exact aa (I.L1 t ht) (Ut (Yb _ _) (Ut G.ok.IG ((Ui rfl))))
  | k+2=>exact aa (I.L2 (k+2) ((Ui rfl)) t ht) (U3 _)
 L2:=I.L2
end
end
end Mine.Internal.R
namespace Mine.Internal.R
noncomputable section
noncomputable def lg:V:=.str [101,110,116,101,114]
section
variable {g:Cfg}{σ σ':St}{c c':aS}{n:Nat}{Q:K1 V}{l:Loc}{C:Fn->List V->St->K1 V->Prop}{R:Fl->Loc->St->Prop}{r:Ss}{A:List V}
theorem Ge {t v} (H:Rep g σ c) (h:subAt σ (.ref 10) t=some v) (q:Q v σ):aE aH (n+1) .qd [.ref 4,t] σ Q:=
 bH rfl rfl (ek (Ev.sub (Ev.attr (Ev.nm rfl) H.ij rfl rfl) (Ev.nm rfl) h) q)
structure Bt (g:Cfg) (t:V) (xs:List V):Prop where
 i:∃i:Int,t=.int i/\idx g.iZ i=some gc/\idx g.dX i=some (V.tup xs)
theorem Bt.op {t xs} (b:Bt g t xs) (H:Rep g σ c):subAt σ (.ref 10) t=some gc/\subAt σ (.ref 11) t=some (V.tup xs):=by
 exact i5 b.i λi z1 h1 h2=>aa z1 ⟨fW H.iZ h1,fW H.dX h2⟩
theorem Bt.k {t xs} (b:Bt g t xs):t.kind=some 0:=by exact aN b.i λi z1 U=>congrArg _ z1
theorem EI {c a b} (h:aK C c l σ λv σ=>aC (bc v) λt=>match t with
 | true=>aG C a l σ (nk C r R)
 | false=>aG C b l σ (nk C r R)):aG C (.cons (.ite c a b) r) l σ R:=h
theorem xE {op a b} (h:aK C a l σ λva σ=>aK C b l σ λvb σ=>aC (hV σ op va vb) λr=>Q (.bool r) σ):aK C (.cmp op a b) l σ Q:=h
theorem uK {t xs} (H:Rep g σ c) (b:Bt g t xs) (q:Q (V.tup xs) σ):aE aH (n+2) .gv [.ref 27,t] σ Q:=by
 exact bH rfl rfl (EI (xE (aF (Ev.b9 H rfl (x:=.cf) rfl rfl) H.ij rfl (.cons (Ev.nm rfl) .nil) (Ge H (b.op H).1 (a6 Ev.str (ah (a:=true) (kq (by decide+kernel)) (ah rfl (BF (aF (Ev.b9 H rfl (x:=.cf) rfl rfl) H.ij rfl (.cons (Ev.nm rfl) .nil) (xf H (b.op H).2 q))))))))))
theorem eR.EJ {K d k} (h:eR K d) (hK:∀x∈K,x.kind=some 0) (hk:k.kind=some 0):keyOk d k=true:=by
 delta keyOk
 refine aa hk ?_
 cases d with
 | nil=>rfl
 | cons p d=>exact decide_eq_true (hK _ (h.sub p Ur))
theorem oi (k:Nat) (hk:k<4) {nH:St}{c₀:aS} (h:Go g nH c₀ σ c) (G:aP g) (l1:l .ae=some (.ref 27)) {t} (l2:l .cW=some t) (hn:∀r,c.role r≠.ls k t) (ht:t∉g.T) (hi:t.kind=some 0) (hd:eR g.T (c.dk k)) {es xs} (he:w9 l σ es xs) (hx:xs.length<=900)
 (q:∀σ' nx,c.role nx=.none->Go g nH c₀ σ' (sP c k t xs nx)->aG C r l σ' R):aG C (.cons (.bw (.attr (.nm .ae) (kx k)) (.nm .cW) (.list es)) r) l σ R:=
 have H2:=h.1.ext (Ext.push (o:=.list xs))
 uq (bS he (YR (ku hx (Ux _))) (uo (Ev.b9 H2 l1 (vY hk) (vZ hk)) (Ev.nm l2) (H2.ph k hk) (hd.EJ G.kind hi) (hd.lim (Ut G.len ((Ui rfl)))) (q _ _ (h.1.top _ (Ux _)) (h.O3 hk hn ht xs))))
def has (c:aS) (k:Nat) (t:V):Prop:=∃r,ag (c.dk k) t=some (.ref r)/\c.role r=.ls k t
theorem oj {k t xs nx}:has (sP c k t xs nx) k t:=⟨nx,(congrArg (λd=>ag d t) (if_pos rfl)).trans (aO.trans (if_pos rfl)),if_pos rfl⟩
theorem iH {k k' t t' xs nx} (h:has c k t) (hn:c.role nx=.none) (ne:k≠k'):has (sP c k' t' xs nx) k t:=
 h.imp λr h=>⟨(congrArg (λd=>ag d t) (if_neg ne)).trans h.1,(if_neg λe=>by rw [e,hn] at h;exact nomatch h.2).trans h.2⟩
theorem j8 {k k' t xs nx} (h:∀r,c.role r≠.ls k t) (ne:k≠k'):∀r,(sP c k' t xs nx).role r≠.ls k t:=λr e=>by
 replace e:(if r=nx then Role.ls k' t else c.role r)=.ls k t:=e
 split at e
 ·injection e with z0;subst z0;exact ne rfl
 ·exact h r e
noncomputable def O4 (c:aS) (t:V) (n0 n1 n2 n3:Nat):aS:=sP (sP (sP (sP {c with root:=dput c.root t t} 0 t [t] n0) 1 t [] n1) 2 t [] n2) 3 t [] n3
noncomputable def cE (c:aS) (t:V) (n0 n1 n2 n3:Nat):aS:={O4 c t n0 n1 n2 n3 with val:=dput c.val t (.int 0)}
theorem EK {c a b} (h:aK C c l σ λv σ=>aC (bc v) λt=>match t with | true=>aK C a l σ Q | false=>aK C b l σ Q):aK C (.ite c a b) l σ Q:=h
theorem O5:hV σ .isin gc (V.tup [.str [110,117,109],.str [98,118,110,117,109],.str [116,114,117,101],.str [102,97,108,115,101]])=some false:=by
 show (V.items (V.tup [.str [110,117,109],.str [98,118,110,117,109],.str [116,114,117,101],.str [102,97,108,115,101]])).bind (λl=>rE (gJ eE l) (eE gc))=some false
 decide+kernel
noncomputable abbrev H8:Ss:=.cons (.for (.one .gm) (.of (.nm .gN)) (.cons (.expr (.append (.sub (.attr (.nm .ae) .eC) (.nm .gm)) (.nm .cW))) .nil))
 (.cons (.expr (.append (.attr (.nm .ae) .cL) (.tup (.cons (.str [101,110,116,101,114]) (.cons (.nm .cW) (.cons (.nm .gN) .nil))))))
 (.cons (.ite (.cmp .gt (.len (.nm .gN)) (.int 0)) (.cons (.expr (.aY (.nm .ae) .jX (.cons (.nm .cW) .nil))) .nil) .nil) .nil))
theorem uL (G:Cg g) (H:Rep g σ c) (I:mz g A c) (W:Wf g c) {t:V}{xs:List V} (ht:t∉g.T) (b:Bt g t xs) (MM:∀x∈xs,x∈g.T) (NN:xs.length<=8)
 (q:∀σ' n0 n1 n2 n3 hm l',Go g σ c σ' (cE c t n0 n1 n2 n3)->(∀k,k<4->has (cE c t n0 n1 n2 n3) k t)->(cE c t n0 n1 n2 n3).role hm=.none->hm<σ'.next->σ'.get hm=some (.list xs)->l' .ae=some (.ref 27)->l' .cW=some t->l' .gN=some (.ref hm)->
  aG (aE aH (n+4)) H8 l' σ' (fk Q)):aE aH (n+5) .cD [.ref 27,t] σ Q:=by
 have wF:=λk r e=>ht (I.IU r k t e)
 refine bH rfl rfl (cC (Ev.nm rfl) (Ev.b9 H rfl (x:=.a9) rfl rfl) (Ev.nm rfl) H.root (W.root.EJ G.ok.kind b.k) (W.root.lim (Ut G.ok.len (by decide))) (oi 0 ((Vb _)) ((Go.refl H).root (dput c.root t t)) G.ok rfl rfl (wF 0) ht b.k (W.dk 0) (xs:=[t]) (.cons (Ev.nm rfl) .nil) (Ui rfl) λfe n0 r0 k1=>oi 1 ((Ui rfl)) k1 G.ok rfl rfl (j8 (wF 1) ((of_decide_eq_true rfl))) ht b.k (W.dk 1) .nil (by decide) λiJ n1 r1 k2=>oi 2 ((US _)) k2 G.ok rfl rfl (j8 (j8 (wF 2) ((of_decide_eq_true rfl))) ((of_decide_eq_true rfl))) ht b.k (W.dk 2) .nil (by decide) λi3 n2 r2 k3=>oi 3 ((Ux _)) k3 G.ok rfl rfl (j8 (j8 (j8 (wF 3) ((of_decide_eq_true rfl))) ((of_decide_eq_true rfl))) ((of_decide_eq_true rfl))) ht b.k (W.dk 3) .nil (by decide) λyO n3 r3 k4=>uq (EK (xE (aF (Ev.b9 k4.1 rfl (x:=.cf) rfl rfl) k4.1.ij rfl (.cons (Ev.nm rfl) .nil) (Ge k4.1 (b.op k4.1).1 (a6 (Ev.glob rfl) (ah (a:=false) O5 (ah rfl (a6 Ev.int (uo (Ev.b9 k4.1 rfl (x:=.di) rfl rfl) (Ev.nm rfl) k4.1.val (W.val.EJ G.ok.kind b.k) (W.val.lim (Ut G.ok.len (by decide))) ?_)))))))))))
 have k5:Go g σ c _ (cE c t n0 n1 n2 n3):=k4.val (dput c.val t (.int 0))
 refine gG (sq (f:=id) (λQ q=>aF (Ev.nm rfl) k5.1.b9 rfl (.cons (Ev.nm rfl) .nil) (uK k5.1 b q)) (og xs) rfl (fS (Ut NN (by simp))) (λx hx=>i12 _ rfl ?_) ?_)
 ·have MD:=MM x hx
  exact Ev.ji (x:=.a9) k5.1 rfl rfl rfl k5.1.root (eR.put ⟨λp hp=>Uy _ (W.root.sub p hp),W.root.nd⟩ Ur) (λy hy=>(List.mem_cons.mp hy).elim (λe=>aa e b.k) (G.ok.kind y)) (Ev.nm rfl) (aO.trans ((if_neg (λe=>ht (by exact aa e MD))).trans (I.rt G MD)))
 ·exact aa (VF ..) (q _ n0 n1 n2 n3 _ _ (k5.ext Ext.push) (λk hk=>show has (O4 c t n0 n1 n2 n3) k t from four (P:=λk=>has (O4 c t n0 n1 n2 n3) k t) hk (iH (iH (iH oj r1 ((of_decide_eq_true rfl))) r2 ((of_decide_eq_true rfl))) r3 ((of_decide_eq_true rfl))) (iH (iH oj r2 ((of_decide_eq_true rfl))) r3 ((of_decide_eq_true rfl))) (iH oj r3 ((of_decide_eq_true rfl))) oj) (k5.1.top _ (Ux _)) (Uw _) ao rfl rfl rfl)
end
end
end Mine.Internal.R
namespace Mine.Internal.R
noncomputable section
theorem eR.mono {K K':List V}{d} (h:eR K d) (s:∀x∈K,x∈K'):eR K' d:=⟨λp hp=>s _ (h.sub p hp),h.nd⟩
theorem eR.no {K:List V}{d t} (h:eR K d) (ht:t∉K):ag d t=none:=by
 cases e:ag d t with
 | none=>rfl
 | some v=>exact absurd (h.mem e) ht
noncomputable abbrev gC (g:Cfg) (t:V):Cfg:={g with T:=g.T++ [t]}
noncomputable abbrev gA (g:Cfg) (t:V):Cfg:={g with T:=g.T++ [t],Ap:=g.Ap++ [t]}
section
variable {g:Cfg}{σ σ':St}{c c':aS}{n:Nat}{Q:K1 V}{l:Loc}{C:Fn->List V->St->K1 V->Prop}{R:Fl->Loc->St->Prop}{r:Ss}{A:List V}{t:V}
theorem fJ {L:Nat->V->List V}{k j u} (h:j≠k):dc L k t [] j u=L j u:=if_neg λq=>h q.1
theorem cJ {L:Nat->V->List V}{k xs j u} (h:u≠t):dc L k t xs j u=L j u:=if_neg λq=>h q.2
theorem mz.cE (I:mz g A c) (G:Cg g) (W:Wf g c) (ht:t∉g.T) {n0 n1 n2 n3}:mz (gC g t) A (cE c t n0 n1 n2 n3) where
 root:=by
  show dput c.root t t=(g.T++ [t]).map _
  refine (iz (W.root.no ht)).trans (w2 UJ I.root ?_);rfl
 val:=by
  show dput c.val t (.int 0)=(g.T++ [t]).map _
  refine (iz (W.val.no ht)).trans (w2 UJ I.val ?_);rfl
 dk k:=by
  have key:∀(c:aS) k' xs nx,(∀k,eR (g.T++ [t]) (c.dk k))->∀k,eR (g.T++ [t]) ((sP c k' t xs nx).dk k):=λc k' xs nx h k=>by
   show eR _ (if k=k' then _ else _)
   split
   ·exact (h k').put (by simp)
   ·exact h k
  exact key _ 3 [] n3 (key _ 2 [] n2 (key _ 1 [] n1 (key _ 0 [t] n0 λk=>(I.dk k).mono λx hx=>(U4 _ ‹_›)))) k
 up:=I.up
 table:=I.table
 L0 x hx:=by
  by_cases q:x=t
  ·refine aR q ?_
   show dc (dc (dc (dc c.L 0 x [x]) 1 x []) 2 x []) 3 x [] 0 x=_
   exact (fJ (by decide)).trans ((fJ (by decide)).trans ((fJ (by simp)).trans (if_pos ⟨rfl,rfl⟩)))
  ·show dc (dc (dc (dc c.L 0 t [t]) 1 t []) 2 t []) 3 t [] 0 x=_
   exact (cJ q).trans ((cJ q).trans ((cJ q).trans ((cJ q).trans (I.L0 x (by simpa [q] using hx)))))
 L1 x hx:=by
  show dc (dc (dc (dc c.L 0 t [t]) 1 t []) 2 t []) 3 t [] 1 x=_
  by_cases q:x=t
  ·refine aa q ((fJ (by decide)).trans ((fJ (by decide)).trans ((if_pos ⟨rfl,rfl⟩).trans (List.filter_eq_nil_iff.mpr λy hy e=>ht ?_).symm)))
   exact aR (of_decide_eq_true e) (G.ok.ap y hy).2.1
  ·exact aa (cJ q) (aa (cJ q) (aa (cJ q) (I.L1 x (by simpa [q] using hx))))
 L2 k hk x hx:=by
  show dc (dc (dc (dc c.L 0 t [t]) 1 t []) 2 t []) 3 t [] k x=_
  by_cases q:x=t
  ·clear hx;subst q
   by_cases h3:k=3
   ·exact if_pos ⟨h3,rfl⟩
   ·refine (fJ h3).trans ?_
    by_cases h2:k=2
    ·exact if_pos ⟨h2,rfl⟩
    ·exact (fJ h2).trans ((fJ (Vj (aJ (Y1 _) (.s (.n 1)) Z0 (.n 2) Z0 hk rfl))).trans ((if_neg λe=>Gl (Y1 _) (.a (.n 2) Z0) (.a Z0 (.n 0)) (Uq hk (UI e.1)) rfl).trans (I.Lo k x ht)))
  ·exact (cJ q).trans ((cJ q).trans ((cJ q).trans ((cJ q).trans (I.L2 k hk x (by simpa [q] using hx)))))
 marks:=I.marks
 queue:=I.queue
 IU r k u e:=by
  have key:∀(c:aS) k' xs nx,(∀r k u,c.role r=.ls k u->u∈g.T++ [t])->∀r k u,(sP c k' t xs nx).role r=.ls k u->u∈g.T++ [t]:=λc k' xs nx h r k u e=>by
   replace e:(if r=nx then Role.ls k' t else c.role r)=.ls k u:=e
   split at e
   ·cases e;simp
   ·exact h r k u e
  exact key _ 3 [] n3 (key _ 2 [] n2 (key _ 1 [] n1 (key _ 0 [t] n0 λr k u e=>by simp [I.IU r k u e]))) r k u e
 Lo k u hu:=by
  have QF:=hu
  have q:u≠t:=λe=>QF (by simp [e])
  show dc (dc (dc (dc c.L 0 t [t]) 1 t []) 2 t []) 3 t [] k u=_
  exact (cJ q).trans ((cJ q).trans ((cJ q).trans ((cJ q).trans (I.Lo k u λe=>QF ((U4 _ ‹_›))))))
theorem y5 (H:Rep g σ c) (hq:c.queue=[]) (q:∀σ' nx,Go g σ c σ' (nJ c nx [])->Q .none σ'):aE aH (n+1) .dG [.ref 27] σ Q:=by
 refine bH rfl rfl (dT Ev.int (dJ (λ(_:Unit)=>0) (λU l σ'=>l=Loc.set (Loc.set (λU=>none) .ae (.ref 27)) .bN (.int 0)/\σ'=σ) () ((Vb _)) ⟨rfl,rfl⟩ ?_))
 intro _ l σ' K J K1
 exact MU J λz1=>aa z1 (a6 (Ev.KL (c:=true) (Ev.cmp (Ev.nm rfl) (Ev.len (Ev.b9 H rfl (x:=.dz) rfl rfl) (cN H.queue)) (pG.trans (congrArg some (decide_eq_false (by refine aa hq ?_;decide)))))) (nK (bS .nil ((U3 _)) (lV (Ev.nm rfl) ((aX (H.nZ rfl)).trans H.b9) rfl (Ui rfl) (q _ _ ((Go.refl H).BP []))))))
theorem mz.BP (I:mz g A c) (H:Rep g σ c) {nx}:mz g A (nJ c nx []):=by
 have h:∀r k u,(nJ c nx []).role r=.ls k u->u∈g.T:=λr k u e=>by
  replace e:(if r=nx then c.role c.q else if r=c.q then .none else c.role r)=.ls k u:=e
  split at e
  ·rw [H.rq] at e;exact nomatch e
  ·split at e
   ·exact nomatch e
   ·exact I.IU r k u e
 exact {I with queue:=rfl,IU:=h}
structure En (g':Cfg) (A':List V) (σ:St) (c:aS) (σ':St) (c':aS):Prop where
 H:Rep g' σ' c'
 F:tZ σ c σ' c'
 I:mz g' A' c'
 tl:c'.trail.length<=c.trail.length+2
theorem uM (G:Cg g) (H:Rep g σ c) (I:mz g A c) (hA:A.Sublist g.Ap) (ht:t∉g.T) (b:Bt g t []) (zj:c.trail.length<=900) (q:∀σ' c',En (gC g t) A σ c σ' c'->Q .none σ'):aE aH (n+5) .cD [.ref 27,t] σ Q:=by
 have W:=I.wf G hA
 refine uL G H I W ht b nofun (U3 _) λσ' n0 n1 n2 n3 hm l' k hs hr hl hg l1 l2 l3=>su (Ev.nm l3) (bB hg) (decide_eq_true hg) (b8 (a5 (Ev.b9 k.1 l1 (x:=.cL) rfl rfl) k.1.trail (Ev.tup (.cons Ev.str (.cons (Ev.nm l2) (.cons (Ev.nm l3) .nil))) (Ui rfl)) (ku zj ((Ux _))) ?_))
 have k2:=k.trail (c.trail++ [V.tup [lg,t,.ref hm]])
 refine dw (Ev.cmp (op:=.gt) (Ev.len (Ev.nm l3) (cN ((bl λe=>by have:=k.1.fix 40 rfl;rw [← e,hr] at this;exact nomatch this).trans hg))) Ev.int rfl) ?_
 have I1:=I.cE G W ht (n0:=n0) (n1:=n1) (n2:=n2) (n3:=n3)
 exact q _ _ ⟨k2.1.grow (A:=g.Ap) (λx hx=>(List.mem_append.mp hx).imp_right λh=>List.mem_singleton.mp h) hs,k2.2,{I1 with},aa UA (US _)⟩
end
end
end Mine.Internal.R
namespace Mine.Internal.R
noncomputable section
section
variable {g:Cfg}{σ σ':St}{c c':aS}{n:Nat}{Q:K1 V}{l:Loc}{C:Fn->List V->St->K1 V->Prop}{R:Fl->Loc->St->Prop}{r:Ss}{A:List V}{t:V}
theorem y6 (G:Cg g) (G2:Cg (gA g t)) (H:Rep g σ c) (I:mz g g.Ap c) (ht:t∉g.T) {x:V} (hx:x∈g.T) (ha:g.arg t=x) (b:Bt g t [x]) (zj:c.trail.length<=900) (q:∀σ' c',En (gA g t) (g.Ap++ [t]) σ c σ' c'->Q .none σ'):aE aH (n+5) .cD [.ref 27,t] σ Q:=by
 have W:=I.wf G (Xe _)
 refine uL G H I W ht b (λy hy=>aa (List.mem_singleton.mp hy) hx) (Ui rfl) λσ' n0 n1 n2 n3 hm l' k hs hr hl hg l1 l2 l3=>?_
 have I1:=I.cE G W ht (n0:=n0) (n1:=n1) (n2:=n2) (n3:=n3)
 have pL:(cE c t n0 n1 n2 n3).trail=c.trail:=rfl
 revert k hs hr I1 pL
 generalize cE c t n0 n1 n2 n3=d
 intro k hs hr I1 pL
 have tx:x≠t:=λe=>ht (aR e hx)
 refine bb (k.1.at_ (k:=1) (by decide) hx) λru a=>?_
 have kT:∀y∈g.T++ [t],y.kind=some 0:=λy hy=>(List.mem_append.mp hy).elim (G.ok.kind y) λe=>aa (List.mem_singleton.mp e) b.k
 have nr:hm≠ru:=λe=>by have:=a.own.1;rw [← e] at this;exact this hr
 have S5:hm≠40:=λe=>by have:=k.1.fix 40 rfl;rw [← e,hr] at this;exact nomatch this
 have hL:d.L 1 x=g.Ap.filter λy=>decide (g.arg y=x):=I1.L1 x ((U4 _ ‹_›))
 have k3:=k.dc a (d.L 1 x++ [t])
 have QG:=(bl (o:=.list (d.L 1 x++ [t])) nr).trans hg
 refine sE (a6 (Ev.nm l3) (ah (bB hg) (aq (decide_eq_true hg) (ah rfl (b8 (a5 (Ev.ji (x:=.eC) k.1 (by exact l1) rfl rfl (k.1.ph 1 (by decide)) (I1.dk 1) kT (Ev.nm rfl) a.key) a.get (Ev.nm (l2)) (lim (aa hL (Ut (Yb _ _) (Ut G.ok.IG (by simp))))) (aq (decide_eq_true QG) (b8 (a5 (Ev.b9 k3.1 (l1) (x:=.cL) rfl rfl) k3.1.trail (Ev.tup (.cons Ev.str (.cons (Ev.nm (l2)) (.cons (Ev.nm (l3)) .nil))) (Ui rfl)) (ku (show d.trail.length<=900 by exact aa pL zj) ((Ux _))) ?_)))))))))
 have k4:=k3.trail (d.trail++ [V.tup [lg,t,.ref hm]])
 have I4:mz (gA g t) g.Ap {d with L:=dc d.L 1 x (d.L 1 x++ [t]),trail:=d.trail++ [V.tup [lg,t,.ref hm]]}:={I1 with
  L0:=λy hy=>by
   show dc d.L 1 x (d.L 1 x++ [t]) 0 y=_
   exact e7.trans ((I1.L0 y hy))
  L1:=λy hy=>by
   show dc d.L 1 x (d.L 1 x++ [t]) 1 y=(g.Ap++ [t]).filter λz=>decide (g.arg z=y)
   refine aa (VW ..) ?_
   by_cases q:y=x
   ·subst q
    refine e7.trans ((if_pos ⟨rfl,rfl⟩).trans (aa hL ?_))
    rw [show Ļ (λz=>decide (g.arg z=y)) [t]=[t] by refine List.filter_cons.trans (aa ha (aa (decide_eq_true rfl) ?_));rfl]
   ·rw [e7,if_neg (λe=>q e.2),I1.L1 y hy,show Ļ (λz=>decide (g.arg z=y)) [t]=[] by refine List.filter_cons.trans (aa ha (aa (decide_eq_false λe=>q e.symm) ?_));rfl,U6]
  L2:=λk hk y hy=>by
   show dc d.L 1 x (d.L 1 x++ [t]) k y=_
   exact e7.trans ((if_neg (by lia)).trans (I1.L2 k hk y hy))
  Lo:=λk u hu=>by
   show dc d.L 1 x (d.L 1 x++ [t]) k u=_
   exact e7.trans ((if_neg λq=>hu (by refine aa q.2 ?_;simp [hx])).trans (I1.Lo k u hu))}
 have H4:=k4.1.grow (T:=g.T++ [t]) (A:=g.Ap++ [t]) (t:=t) (λx hx=>(List.mem_append.mp hx).imp_right λh=>List.mem_singleton.mp h) hs
 have W4:=I4.wf G2 (List.sublist_append_left _ _)
 have tA:t∈(gA g t).Ap:=by simp
 have xT:x∈(gA g t).T:=by simp [hx]
 refine fB (Ev.cmp (op:=.gt) (Ev.len (Ev.nm (l3)) (cN ((bl (o:=.list (d.trail++ [V.tup [lg,t,.ref hm]])) S5).trans QG))) Ev.int rfl) (b8 (aF (Ev.nm (l1)) H4.b9 rfl (.cons (Ev.nm (l2)) .nil) (xg (g:=gA g t) G2.ok H4 W4 tA (by exact aa UA (aa pL (Ut (Vn zj) ((Ui rfl))))) (aa I1.queue (Ui rfl)) λCK k5=>?_)))
 have QH:sgn (gA g t) {d with L:=dc d.L 1 x (d.L 1 x++ [t]),trail:=d.trail++ [V.tup [lg,t,.ref hm]]} t=V.tup [g.dat t,g.arg t]:=by
  show V.tup [g.dat t,rt _ (g.arg t)]=_
  refine aa ha ?_
  delta rt
  exact aa (I4.rt G2 xT) rfl
 have wF:ag ({d with L:=dc d.L 1 x (d.L 1 x++ [t]),trail:=d.trail++ [V.tup [lg,t,.ref hm]]}:aS).table (sgn (gA g t) {d with L:=dc d.L 1 x (d.L 1 x++ [t]),trail:=d.trail++ [V.tup [lg,t,.ref hm]]} t)=none:=by
  refine w2 I4.table QH ?_
  cases e:ag (g.Ap.map λx=>(V.tup [(gA g t).dat x,(gA g t).arg x],x)) (V.tup [g.dat t,g.arg t]) with
  | none=>rfl
  | some v=>
   refine aN (List.mem_map.mp (sL e)) λy hy e=>?_
   have:=G2.IV
   rw [show (gA g t).Ap=g.Ap++ [t] from rfl,UJ,U2] at this
   exact absurd (congrArg (·.1) e) (this.2.2 _ (List.mem_map.mpr (i12 y hy rfl)) _ (Ur))
 rw [n5 wF] at k5
 refine q CK _ ⟨k5.1,k4.2.trans k5.2,{I4 with table:=?_},?_⟩
 ·show dput _ _ t=(g.Ap++ [t]).map _
  exact (iz wF).trans (aa QH (aa UJ (congrArg (· ++_) I4.table)))
 ·exact aa UA (aa UA (aa pL (Ux _)))
end
end
end Mine.Internal.R
namespace Mine.Internal.R
noncomputable section
section
variable {g g':Cfg}{σ σ':St}{c c':aS}{n:Nat}{Q:K1 V}{l:Loc}{C:Fn->List V->St->K1 V->Prop}{R:Fl->Loc->St->Prop}{r:Ss}{A A':List V}{t:V}
theorem wj {e t i O6 v vs} (hi:∀Q,Q v σ->aK C i l σ Q) (hs:cG σ v=some (vs,.free)) (he:∀x∈vs,∃l',kB t x l=some l'/\Ev l' σ O6 (.bool false)) (q:Q (.ref σ.next) (σ.push (.list []))):aK C (.comp e t (.of i) (.cons O6 .nil)) l σ Q:=by
 refine hi _ (ah hs ?_)
 have key:∀xs:List V,(∀x∈xs,x∈vs)->gx .free t (λl σ Q=>uR C (.cons O6 .nil) l σ Q) (λl σ Q=>aK C e l σ Q) l xs [] σ λvs σ=>bA σ vs.length (.list vs) Q:=λxs=>by
  induction xs with
  | nil=>exact λU=>aq rfl (aq rfl q)
  | cons x xs ih=>
   exact λh=>aN (he x (h x Ur)) λl' hb wK=>aq rfl (ah hb (wK C _ (ih λy hy=>h y (Uy _ hy))))
 exact key vs λU h=>h
structure AN (g':Cfg) (A':List V) (σ:St) (c:aS) (t:V) (b:Bool) (l:Loc) (σ':St):Prop where
 l1:l .ae=some (.ref 27)
 l2:l .iP=some (.ref σ.next)
 lt:σ.next<σ'.next
 get:σ'.get σ.next=some (.list (if b then [t] else []))
 ht:b=true->Ext σ σ'
 hf:b=false->∃c',En g' A' σ c σ' c'/\c'.role σ.next=.none
theorem xF (G:Cg g) (H:Rep g σ c) (I:mz g A c) (W:Wf g c) {xs} (ht:t∉g.T) (b:Bt g t xs) (MM:∀x∈xs,x∈g.T)
 (en:∀σ (Q:K1 V),Rep g σ c->(∀σ' c',En g' A' σ c σ' c'->Q .none σ')->aE aH (n+5) .cD [.ref 27,t] σ Q) (q:∀σ' c',En g' A' σ c σ' c'->Q .none σ'):aE aH (n+6) .cM [.ref 27,t] σ Q:=by
 refine bH rfl rfl (gG (bS (.cons (Ev.nm rfl) .nil) (Ui rfl) (dJ (λb=>b.toNat) (AN g' A' σ c t) true (by decide) ⟨rfl,rfl,Uw _,ao,λU=>Ext.push,nofun⟩ ?_)))
 intro b' l σ' K J K1
 have CJ:=Ev.cmp (op:=.gt) (Ev.len (Ev.nm J.l2) (cN J.get)) (Ev.int (i:=0)) rfl
 cases b' with
 | false=>
  refine aN (J.hf rfl) λc1 E1 hr=>a6 CJ (b8 (aF (Ev.nm J.l1) E1.H.b9 rfl .nil (y5 E1.H E1.I.queue λiJ nx k2=>q iJ _ ⟨k2.1,E1.F.trans k2.2,E1.I.BP E1.H,E1.tl⟩)))
 | true=>
  refine a6 CJ (dT (Ev.sub (Ev.nm J.l2) Ev.neg (fW J.get rfl)) (gG (bS .nil (by decide) ?_)))
  have X2:Ext σ (σ'.push (.list [])):=(J.ht rfl).trans Ext.push
  have H2:=H.ext X2
  have no:=W.root.no ht
  have kt:=W.root.EJ G.ok.kind b.k
  refine fB (Ev.cmp (Ev.nm rfl) (Ev.b9 H2 (by exact J.l1) (x:=.a9) rfl rfl) (l7 H2.root kt no)) (gG (wj (λQ q=>aF (Ev.nm (by exact J.l1)) H2.b9 rfl (.cons (Ev.nm rfl) .nil) (uK H2 b q)) (og xs) (λx hx=>i12 _ rfl ?_) ?_))
  ·exact Ev.cmp (Ev.nm rfl) (Ev.b9 H2 (by exact J.l1) (x:=.a9) rfl rfl) (j6 H2.root (W.root.key G.ok.kind (MM x hx)) (I.rt G (MM x hx)))
  ·have X3:Ext σ ((σ'.push (.list [])).push (.list [])):=X2.trans Ext.push
   refine dw (Ev.cmp (op:=.gt) (Ev.len (Ev.nm rfl) (cN ao)) Ev.int rfl) (b8 (sm (xs:=[]) (Ev.nm (by exact J.l2)) ((aX (o:=.list []) (UR J.lt)).trans ((aX (o:=.list []) J.lt).trans J.get)) ?_))
   have X4:=X3.set (o:=.list []) (Ux σ.next)
   have H4:=H.ext X4
   have MN:σ.next<(((σ'.push (.list [])).push (.list [])).set σ.next (.list [])).next:=UR (UR J.lt)
   have O7:(((σ'.push (.list [])).push (.list [])).set σ.next (.list [])).get σ.next=some (.list []):=cY
   revert X4 H4 MN O7
   generalize ((σ'.push (.list [])).push (.list [])).set σ.next (.list [])=yO
   refine λX4 H4 MN O7=>fB (Ev.cmp (Ev.nm rfl) (Ev.b9 H4 (by exact J.l1) (x:=.a9) rfl rfl) (l7 H4.root kt no)) (b8 (aF (Ev.nm (by exact J.l1)) H4.b9 rfl (.cons (Ev.nm rfl) .nil) (en yO _ H4 λCK c5 E=>?_)))
   have kp:=E.F.keep σ.next MN (H.top _ (Ux _))
   exact K1 false _ _ (by decide) ⟨J.l1,J.l2,UM MN E.F.le,kp.1.trans O7,nofun,λU=>i12 c5 ⟨E.H,X4.yH.trans E.F,E.I,E.tl⟩ kp.2⟩
end
noncomputable def pf (F:Cfg) (D:List V):Cfg:={F with T:=D,Ap:=D.filter λx=>decide (x∈F.Ap)}
structure Fu (F:Cfg):Prop where
 cg:Cg F
 ap:F.T.filter (λx=>decide (x∈F.Ap))=F.Ap
 cls:∀D t R,F.T=D++t::R->(t∉F.Ap/\Bt F t [])\/(t∈F.Ap/\Bt F t [F.arg t]/\F.arg t∈D)
section
variable {F:Cfg}{σ σ':St}{c c':aS}{n:Nat}{Q:K1 V}{l:Loc}{C:Fn->List V->St->K1 V->Prop}{R:Fl->Loc->St->Prop}{r:Ss}
theorem Fu.pf (h:Fu F) {D R':List V} (e:F.T=D++R'):Cg (pf F D) where
 ok:={
  int:=λt ht=>h.cg.ok.int t (by rw [e];exact U4 _ ht)
  len:=Ut (by rw [e,UA];exact U9 _ _) h.cg.ok.len
  nd:=by have:=h.cg.ok.nd;rw [e,U2] at this;exact this.1
  ap:=λt ht=>by
   refine aU (List.mem_filter.mp ht) λhD hA=>?_
   have hA:=of_decide_eq_true hA
   refine CQ (h.cg.ok.ap t hA) λU U a3 a4=>zk hD (sQ (List.append_of_mem hD) λD1 D2 e2=>(h.cls D1 t (D2++R') (by refine e.trans (aa e2 ((UW ..).trans ?_));rfl)).elim (λk=>?_) λk=>?_) a3 a4
   ·exact absurd hA k.1
   ·show F.arg t∈D;exact aa e2 (U4 _ k.2.2)
  IG:=Ut (by have:=congrArg VA h.ap;rw [e,VW,UA] at this;exact Ut (U9 _ _) (UI this)) h.cg.ok.IG
  and:=by have:=h.cg.ok.and;rw [← h.ap,e,VW,U2] at this;exact this.1}
 IV:=by
  have:=h.cg.IV
  rw [← h.ap,e,VW,UJ,U2] at this;exact this.1
theorem LJ {D:List V}{t:V} (h:t∉F.Ap):pf F (D++ [t])=gC (pf F D) t:=by
 unfold pf gC
 exact aa (VW ..) (aa Wi (aa (decide_eq_false h) (aa (U6 ..) rfl)))
theorem H9 {D:List V}{t:V} (h:t∈F.Ap):pf F (D++ [t])=gA (pf F D) t:=by
 unfold pf gA
 refine aa (VW ..) (aa Wi (aa (decide_eq_true h) ?_));rfl
theorem Bt.pf {t xs D} (b:Bt F t xs):Bt (pf F D) t xs:=⟨b.i⟩
theorem add_one (h:Fu F) {D R':List V}{t:V} (e:F.T=D++t::R') (H:Rep (pf F D) σ c) (I:mz (pf F D) (pf F D).Ap c) (zj:c.trail.length<=900) (q:∀σ' c',En (pf F (D++ [t])) (pf F (D++ [t])).Ap σ c σ' c'->Q .none σ'):aE aH (n+6) .cM [.ref 27,t] σ Q:=by
 have G:=h.pf e
 have G2:Cg (pf F (D++ [t])):=h.pf (R':=R') (by refine w2 e (UW ..) ?_;rfl)
 have W:=I.wf G (Xe _)
 have ht:t∉(pf F D).T:=λk=>by
  have:=h.cg.ok.nd
  rw [e,U2] at this
  exact this.2.2 t k t Ur rfl
 rcases h.cls D t R' e with ⟨k,b⟩ | ⟨k,b,ha⟩
 ·replace q:=(LJ k)▸q
  exact xF G H I W ht b.pf nofun (λσ Q H q=>uM G H I (Xe _) ht b.pf zj q) q
 ·rw [H9 k] at q G2
  exact xF G H I W ht b.pf (λx hx=>aa (List.mem_singleton.mp hx) ha) (λσ Q H q=>y6 G G2 H I ht ha rfl b.pf zj q) q
theorem EL (h:Fu F) (H:Rep (pf F []) σ c) (I:mz (pf F []) [] c) (zj:c.trail=[]) (l1:l .aT=some (.ref 27)) (l2:l .bu=some (.ref 26)) (gt:σ.get 26=some (.list F.T)) (hr:c.role 26=.none)
 (q:∀l' σ' c',Rep F σ' c'->mz F F.Ap c'->tZ σ c σ' c'->c'.trail.length<=16->(∀x,x≠.cW->l' x=l x)->aG (aE aH (n+6)) r l' σ' R):aG (aE aH (n+6)) (.cons (.for (.one .cW) (.of (.nm .bu)) Ga) r) l σ R:=by
 have lt:26<σ.next:=UM (by decide) H.lo
 have hT:F.T.length<=8:=h.cg.ok.len
 refine ig id (λ(x:List V×aS) vs l' σ'=>F.T=x.1++vs/\Rep (pf F x.1) σ' x.2/\mz (pf F x.1) (pf F x.1).Ap x.2/\tZ σ c σ' x.2/\x.2.trail.length<=2*x.1.length/\∀y,y≠.cW->l' y=l y) ([],c) (Ev.nm l2) (vs:=F.T) (bB (aa (VF ..) gt)) (Ph rfl H I tZ.refl (aa zj (Ux _)) (λU U=>rfl)) ?_ ?_
 ·refine λx l' σ' J=>Pg J λe H' I' F' t' L'=>?_;clear J
  refine ⟨decide_eq_true ((F'.keep 26 lt hr).1.trans (aa (VF ..) gt)),?_⟩
  rw [U6] at e
  rw [← e] at H' I' t'
  have ep:pf F F.T=F:=by unfold pf;exact aa h.ap rfl
  rw [ep] at H' I'
  exact q l' σ' x.2 H' I' F' (aJ (Y2 _ _) Z0 (.n 16) (.a (.m 2 Z1) Z0) (.a (.m 2 (.n 8)) (.m 2 Z1)) (Uq (Vf 2 hT) t') rfl) L'
 ·refine λx t vs l' σ' K J K1=>Pg J λe H' I' F' t' L'=>?_;clear J
  refine ⟨decide_eq_true ((F'.keep 26 lt hr).1.trans (aa (VF ..) gt)),_,rfl,?_⟩
  have xl:x.1.length<=8:=Ut (by exact aa e (aa UA (U9 _ _))) hT
  exact b8 (aF (Ev.nm ((L' .aT (by decide)).trans l1)) H'.b9 rfl (.cons (Ev.nm rfl) .nil) (add_one h e H' I' (aJ (Y2 _ _) Z0 (.n 900) (.a Z0 (.m 2 Z1)) (.a (.m 2 Z1) (.m 2 (.n 8))) (Uq t' (Vf 2 xl)) rfl) λiJ c2 E=>K1 (x.1++ [t],c2) _ _ (Ph (by refine w2 e (UW ..) ?_;rfl) E.H E.I (F'.trans E.F) (by have:=E.tl;show c2.trail.length<=2*(x.1++ [t]).length;exact aa UA ((aJ (Y3 _ _ _) Z0 (.m 2 (.s Z1)) (.a Z2 Z0) (.a (.m 2 Z1) (.a Z2 (.n 2))) (Uq t' this) rfl))) (λy hy=>(if_neg hy).trans (L' y hy)))))
end
end
end Mine.Internal.R
namespace Mine.Internal.R
noncomputable section
section
variable {g:Cfg}{c:aS}
theorem mz.Gf (I:mz g g.Ap c) (G:Cg g) {x} (hx:x∈g.T):Mine.Internal.R.rt c x=x:=by delta Mine.Internal.R.rt;exact aa (I.rt G hx) rfl
theorem mz.sg (I:mz g g.Ap c) (G:Cg g) {x} (hx:x∈g.Ap):sgn g c x=V.tup [g.dat x,g.arg x]:=by delta sgn;exact aa (I.Gf G (G.ok.ap x hx).2.1) rfl
theorem mz.inv (I:mz g g.Ap c) (G:Cg g):Inv g c (· ∈([]:List Ed)) where
 wf:=I.wf G (Xe _)
 fin x:=jo ([]) x .nil (by rw [I.up];rfl)
 Ej a b w:=by exact aa I.up ⟨λh=>h.elim nofun nofun,λh=>h.elim nofun nofun⟩
 cls x hx y hy:=by
  refine w2 (I.Gf G hy) (I.Gf G hx) ⟨λe=>aR e .refl,λh=>?_⟩
  clear hy;cases h with
  | refl=>rfl
  | tail _ a=>exact a.elim λw h=>h.elim nofun nofun
 rr x hx:=(aa (I.Gf G hx) (I.Gf G hx))
 mem r hr _:=by
  refine aa (I.L0 r hr) ⟨(of_decide_eq_true rfl),λx=>List.mem_singleton.trans ⟨λe=>aa e ⟨hr,I.Gf G hr⟩,λh=>(aR h.2 ((I.Gf G h.1).symm))⟩⟩
 use r hr _:=by
  exact aa (I.L1 r hr) ⟨G.ok.and.sublist Í,λx=>List.mem_filter.trans (and_congr_right λhx=>aa (I.Gf G (G.ok.ap x hx).2.1) decide_eq_true_iff)⟩
 Ek t ht:=⟨t,by exact w2 (I.sg G ht) I.table (EH (f:=λx=>V.tup [g.dat x,g.arg x]) G.IV ht)⟩
 BO k t e:=by
  refine aN (List.mem_map.mp (sL (aR I.table e))) λx hx e=>?_
  cases e;exact I.sg G hx
theorem mz.closed (I:mz g g.Ap c) (G:Cg g):el g c (· ∈([]:List Ed)):=λt ht t' dV e=>by
 rw [I.sg G ht,I.sg G dV] at e
 rw [mem_unique (f:=λx=>V.tup [g.dat x,g.arg x]) G.IV ht dV e];exact .refl
end
noncomputable def fN (n:Nat):Cfg where
 T:=g7 n++ [vI (n+3),vI (n+4)]++ [vI (n+5),vI (n+6)]
 Ap:=[vI (n+3),vI (n+4),vI (n+5),vI (n+6)]
 arg t:=match t with
  | .int i=>match idx (bZ n).args i with
   | some (.cons x .nil)=>x
   | _=>.none
  | _=>.none
 dat t:=match t with
  | .int i=>(idx (bZ n).dat i).getD .none
  | _=>.none
 iZ:=(bZ n).ops
 dX:=(bZ n).args
 iA:=(bZ n).dat
noncomputable def S6 (g:Cfg) (t:V):Bool:=match t with
 | .int i=>decide (t∈g.T)&&(decide (g.arg t∈g.T)&&(isInt (g.dat t)&&(decide (idx g.dX i=some (V.tup [g.arg t]))&&decide (idx g.iA i=some (g.dat t)))))
 | _=>false
noncomputable def O8 (g:Cfg) (t:V) (xs:List V):Bool:=match t with
 | .int i=>decide (idx g.iZ i=some gc)&&decide (idx g.dX i=some (V.tup xs))
 | _=>false
noncomputable def QI (g:Cfg) (k:Nat):Bool:=match g.T[k]? with
 | none=>true
 | some t=>(!decide (t∈g.Ap)&&O8 g t [])||(decide (t∈g.Ap)&&(O8 g t [g.arg t]&&decide (g.arg t∈g.T.take k)))
noncomputable def ck (g:Cfg):Bool:=g.T.all isInt&&(decide (g.T.length<=8)&&(decide g.T.Nodup&&(g.Ap.all (S6 g)&&(decide (g.Ap.length<=4)&&(decide g.Ap.Nodup&&(decide (g.Ap.map λx=>V.tup [g.dat x,g.arg x]).Nodup&&(decide (g.T.filter (λx=>decide (x∈g.Ap))=g.Ap)&&(VG 8).all (QI g))))))))
theorem uN {v:V} (h:isInt v=true):∃i:Int,v=.int i:=by
 cases v with
 | int i=>exact ⟨i,rfl⟩
 | _=>contradiction
theorem Cr {g:Cfg}{t:V}{xs} (h:O8 g t xs=true):Bt g t xs:=by
 cases t with
 | int i=>
  have h:=(UE _ _).mp h
  exact ⟨i,rfl,of_decide_eq_true h.1,of_decide_eq_true h.2⟩
 | _=>contradiction
theorem LK {g:Cfg} (h:ck g=true):Fu g:=by
 delta ck at h
 simp only [UE] at h
 obtain ⟨h1,h2,h3,h4,h5,h6,h7,h8,h9⟩:=h
 refine ⟨⟨⟨λt ht=>uN (List.all_eq_true.mp h1 t ht),(of_decide_eq_true h2),of_decide_eq_true h3,λt ht=>?_,of_decide_eq_true h5,of_decide_eq_true h6⟩,of_decide_eq_true h7⟩,of_decide_eq_true h8,λD t R e=>?_⟩
 ·have k:=List.all_eq_true.mp h4 t ht
  clear ht;cases t with
  | int i=>
   replace k:(decide (V.int i∈g.T)&&(decide (g.arg (.int i)∈g.T)&&(isInt (g.dat (.int i))&&(decide (idx g.dX i=some (V.tup [g.arg (.int i)]))&&decide (idx g.iA i=some (g.dat (.int i)))))))=true:=k
   simp only [UE] at k
   exact ⟨of_decide_eq_true k.1,of_decide_eq_true k.2.1,uN k.2.2.1,i,rfl,of_decide_eq_true k.2.2.2.1,of_decide_eq_true k.2.2.2.2⟩
  | _=>contradiction
 ·have dl:D.length<8:=by have:=congrArg VA e;rw [UA,Vm] at this;lia
  have k:=List.all_eq_true.mp h9 D.length (List.mem_range.mpr dl)
  unfold QI at k
  rw [show g.T[D.length]? =some t by refine aa e ?_;simp,show g.T.take D.length=D by exact aa e (Ym)] at k
  simp only [VC,UE] at k
  exact k.imp (λk=>⟨of_decide_eq_false (by simpa using k.1),Cr k.2⟩) λk=>fc (of_decide_eq_true k.1) (Cr k.2.1) (of_decide_eq_true k.2.2)
theorem O9 {n} (h:n=3\/n=4):Fu (fN n):=LK (two (P:=λn=>ck (fN n)=true) (by rfl) (by rfl) h)
theorem LM {n} (h:n=3\/n=4):sx (fN n) (vI 3) (vI 4) (vI (n+3)) (vI (n+4)) (vI (n+5)) (vI (n+6)) where
 ap:=rfl
 af:=two (P:=λn=>(fN n).arg (vI (n+3))=vI 3/\(fN n).arg (vI (n+4))=vI 4/\(fN n).arg (vI (n+5))=vI (n+3)/\(fN n).arg (vI (n+6))=vI (n+4)) (by decide) (by decide) h
 da:=two (P:=λn=>(fN n).dat (vI (n+3))=(fN n).dat (vI (n+4))/\(fN n).dat (vI (n+5))=(fN n).dat (vI (n+6))/\(fN n).dat (vI (n+3))≠(fN n).dat (vI (n+5))) (by decide) (by decide) h
noncomputable def qa:aS:=⟨[],[],λU=>[],[],[],[],[],[],39,41,38,λr=>if eY r then .fix else if r=38 then .nw else if r=39 then .q else if r=41 then .ma else .none,λU U=>[]⟩
theorem gI (r:Nat):qa.role r=.fix\/(r=38/\qa.role r=.nw)\/(r=39/\qa.role r=.q)\/(r=41/\qa.role r=.ma)\/qa.role r=.none:=by
 by_cases h:eY r=true
 ·exact .inl (if_pos h)
 ·by_cases h1:r=38
  ·exact aa h1 (.inr (.inl ⟨rfl,rfl⟩))
  ·by_cases h2:r=39
   ·exact aa h2 (.inr (.inr (.inl ⟨rfl,rfl⟩)))
   ·by_cases h3:r=41
    ·exact aa h3 (.inr (.inr (.inr (.inl ⟨rfl,rfl⟩))))
    ·refine .inr (.inr (.inr (.inr ?_)))
     show (if eY r then Role.fix else if r=38 then .nw else if r=39 then .q else if r=41 then .ma else .none)=_
     exact (if_neg h).trans ((if_neg h1).trans ((if_neg h2).trans (if_neg h3)))
theorem rep0 {σ:St}{n:Nat}{script:List V} (h:Hp σ (ML n script)):Rep (pf (fN n) []) σ qa where
 ij:=h.get 4 _ rfl
 iZ:=h.get 10 _ rfl
 dX:=h.get 11 _ rfl
 iA:=h.get 13 _ rfl
 b9:=h.get 27 _ rfl
 root:=h.get 28 _ rfl
 ph k hk:=four (P:=λk=>σ.get (fR k)=some (.dict (qa.dk k))) hk (h.get 29 _ rfl) (h.get 30 _ rfl) (h.get 32 _ rfl) (h.get 33 _ rfl)
 val:=h.get 31 _ rfl
 up:=h.get 34 _ rfl
 table:=h.get 35 _ rfl
 told:=h.get 37 _ rfl
 trail:=h.get 40 _ rfl
 dyn r o e:=by
  rcases gI r with k | ⟨rfl,k⟩ | ⟨rfl,k⟩ | ⟨rfl,k⟩ | k
  ·rw [bG k] at e;contradiction
  ·rw [bG k] at e;injection e with z0;subst z0;exact h.get 38 _ rfl
  ·rw [bG k] at e;injection e with z0;subst z0;exact h.get 39 _ rfl
  ·rw [bG k] at e;injection e with z0;subst z0;exact h.get 41 _ rfl
  ·rw [bG k] at e;contradiction
 top r hr:=by
  have hn:σ.next=42:=h.n
  rcases gI r with k | ⟨rfl,k⟩ | ⟨rfl,k⟩ | ⟨rfl,k⟩ | k
  ·by_cases hf:eY r=true
   ·replace hf:=IY hf
    lia
   ·replace k:(if eY r then Role.fix else if r=38 then .nw else if r=39 then .q else if r=41 then .ma else .none)=.fix:=k
    rw [if_neg hf,if_neg (by lia),if_neg (by lia),if_neg (by lia)] at k
    contradiction
  ·lia
  ·lia
  ·lia
  ·exact k
 fix i hi:=if_pos hi
 inj r r' e k1 k2:=by
  rcases gI r with k | ⟨rfl,k⟩ | ⟨rfl,k⟩ | ⟨rfl,k⟩ | k<;>rcases gI r' with k' | ⟨rfl,k'⟩ | ⟨rfl,k'⟩ | ⟨rfl,k'⟩ | k'<;>first | rfl | exact absurd k k2 | exact absurd k k1 | (rw [k,k'] at e;contradiction)
 rq:=rfl
 nF:=rfl
 pK:=rfl
 ls k t _ ht:=nomatch ht
theorem O' {n:Nat}:mz (pf (fN n) []) [] qa where
 root:=rfl
 val:=rfl
 dk _:=eR.nil
 up:=rfl
 table:=rfl
 L0 _ h:=nomatch h
 L1 _ h:=nomatch h
 L2 _ _ _ h:=nomatch h
 marks:=rfl
 queue:=rfl
 IU r k t e:=by
  rcases gI r with k' | ⟨rfl,k'⟩ | ⟨rfl,k'⟩ | ⟨rfl,k'⟩ | k'<;>(rw [k'] at e;contradiction)
 Lo _ _ _:=rfl
end
end Mine.Internal.R
namespace Mine.Internal.R
noncomputable section
section
variable {σ σ':St}{c:aS}{n m:Nat}{Q:K1 V}{l:Loc}{C:Fn->List V->St->K1 V->Prop}{R:Fl->Loc->St->Prop}{r:Ss}
noncomputable def LN (n:Nat):List V:=(i4 (vI 3) (vI 4) (vI (n+3)) (vI (n+4)) (vI (n+5)) (vI (n+6))).map jc
theorem y7 {es} (h:iu C es l σ λvs σ=>bA σ vs.length (.list vs) Q):aK C (.list es) l σ Q:=h
theorem xG {i} (h:pN C i l σ λp σ=>ei (p.2.ok σ&&decide (p.1.length<=1000)) (Q (V.tup p.1) σ)):aK C (.fo i) l σ Q:=h
theorem Cs (hn:n=3\/n=4) (L:LB l) (IS:σ.get 16=some (.list (g7 n))) (LF:σ.get 21=some (.list [vI (n+3),vI (n+4)])) (LH:σ.get 24=some (.list [vI (n+5),vI (n+6)])) (lt:24<σ.next)
 (q:∀σ',Ext σ σ'->σ'.next=σ.next+6->σ'.get σ.next=some (.list [])->σ'.get (σ.next+4)=some (.list (LN n))->σ'.get (σ.next+5)=some (.dict [(e8,.ref σ.next),(fT,.ref (σ.next+4))])->Q (.ref (σ.next+5)) σ'):
 aK C Cp l σ Q:=by
 have sl:=two (P:=λn=>(g7 n).length<=4) ((US _)) ((Ui rfl)) hn
 have X1:Ext σ (σ.push (.list [])):=Ext.push
 have k:∀ {σ' r o},Ext σ σ'->r<=24->σ.get r=some o->σ'.get r=some o:=λ{σ' r o} x hr h=>(x.keep r (aJ (Y2 _ _) (.s Z0) Z1 (.a (.s (.n 24)) Z0) (.a Z1 (.n 24)) (Uq lt hr) rfl)).trans h
 refine uI rfl (λU=>rfl) Qn (bS .nil ((U3 _)) (y7 (iF (xG (mu (il (a6 (Ev.nm L.i) (fA (k:=2) (Ev.nm L.s) (k X1 ((Ui rfl)) IS) Ev.int ((of_decide_eq_true rfl)) (fS (aJ (Y1 _) Z0 (.n 1000) Z0 (.n 4) sl rfl)) (aa (two (P:=λn=>(g7 n).take 2=[vI 3,vI 4]) rfl rfl hn) ?_)))))))))
 have X2:=X1.trans (Ext.push (o:=.list [vI 3,vI 4]))
 refine xe (k X2 (by decide) LF) ao (Ui rfl) (ah (bB ao) (aq ((Wo _).trans (decide_eq_true ao)) (iF (xG (mu (il (a6 (Ev.nm L.o) (a6 (Ev.nm L.i) ?_))))))))
 have X3:=X2.trans (Ext.push (o:=.list ([vI (n+3),vI (n+4)]++ [vI 3,vI 4])))
 refine xe (k X3 ((Ux _)) LH) (k X3 (by decide) LF) (Ui rfl) (ah (bB ao) (aq ((Wo _).trans (decide_eq_true ao)) (fu (aq rfl (aq rfl ?_)))))
 have X4:=X3.trans (Ext.push (o:=.list ([vI (n+5),vI (n+6)]++ [vI (n+3),vI (n+4)])))
 refine q _ ((X4.trans (Ext.push (o:=.list (LN n)))).trans (Ext.push (o:=.dict [(e8,.ref σ.next),(fT,.ref (σ.next+4))]))) rfl ?_ ?_ ao
 ·exact ((Ext.push.trans (Ext.push.trans (Ext.push.trans (Ext.push.trans Ext.push)))).keep σ.next (Uw _)).trans (ao (σ:=σ))
 ·exact (aX (Uw _)).trans ao
end
section
variable {σ:St}{n m:Nat}{l:Loc}{R:Fl->Loc->St->Prop}
theorem Pa {α:Type}{P:α->Prop}{a b c d e f g:α} (h1:P a) (h2:P b) (h3:P c) (h4:P d) (h5:P e) (h6:P f) (h7:P g):∀x∈ [a,b,c,d,e,f,g],P x:=
 List.forall_mem_cons.mpr ⟨h1,List.forall_mem_cons.mpr ⟨h2,List.forall_mem_cons.mpr ⟨h3,List.forall_mem_cons.mpr ⟨h4,List.forall_mem_cons.mpr ⟨h5,List.forall_mem_cons.mpr ⟨h6,List.forall_mem_cons.mpr ⟨h7,λU h=>nomatch h⟩⟩⟩⟩⟩⟩⟩
noncomputable def qb (d i:Nat):Nat:=if i<42 then i else d+i
theorem Gg {d a b:Nat} (h:a<b):qb d a<qb d b:=by
 have le:qb d a<=d+a:=by
  by_cases k:a<42
  ·exact aa (show qb d a=a from if_pos k) (V6 ..)
  ·exact UI (if_neg k)
 by_cases k:b<42
 ·exact aa (show qb d b=b from if_pos k) (aa (show qb d a=a from if_pos (Z8 h k)) h)
 ·exact aa (show qb d b=d+b from if_neg k) (Vk le (Nat.add_lt_add_left h d))
theorem Pb {n k:Nat} (h:42<=n) (e:k=n+6):[3,2,n+5,n,n+4,k,26].Nodup:=by
 have key:∀d,[3,2,d+42+5,d+42,d+42+4,d+42+6,26].Nodup:=λd=>
  (Û (f:=qb d) (l:=[3,2,47,42,46,48,26])).mpr (ļ (S:=λa b=>qb d a≠qb d b) (λ{a b} n e=>(Nat.lt_trichotomy a b).elim (λh=>UZ (Gg h) e) λh=>h.elim n λh=>UZ (Gg h) e.symm) (show [3,2,47,42,46,48,26].Nodup by decide))
 have:=key (n - 42)
 rw [Nat.sub_add_cancel h] at this
 exact aa e this
theorem Pc {script:List V} (h:Hp σ [.args script]) (hi:mj script) (l1:l .jv=some (.ref 0)) (q:∀l' σ',R (.ret (.bool true)) l' σ'):aG (aE aH (m+8)) rG.2 l σ R:=by
 refine Cq (m:=m+5) h hi l1 λn hn l1 fe L1 h1=>?_
 have hf:=O9 hn
 have gr:∀ {r o},(ML n script)[r]? =some o->r<27->fe.get r=some o:=λ{r o} e _=>h1.get r o e
 refine EL (F:=fN n) (n:=m+2) hf (rep0 h1) O' rfl L1.e L1.m (h1.get 26 _ rfl) rfl λl2 iJ c2 H2 I2 F2 t2 hl=>?_
 have n1:fe.next=42:=h1.n
 have kp:∀r,r<42->qa.role r=.none->iJ.get r=fe.get r/\c2.role r=.none:=λr hr h0=>F2.keep r (aa n1 hr) h0
 have N2:42<=iJ.next:=by have:=F2.le;rw [n1] at this;exact this
 have L2:LB l2:=⟨(hl _ ((of_decide_eq_true rfl))).trans L1.t,(hl _ ((of_decide_eq_true rfl))).trans L1.b,(hl _ ((of_decide_eq_true rfl))).trans L1.s,(hl _ ((of_decide_eq_true rfl))).trans L1.i,(hl _ ((of_decide_eq_true rfl))).trans L1.o,(hl _ ((of_decide_eq_true rfl))).trans L1.m,(hl _ ((of_decide_eq_true rfl))).trans L1.e⟩
 refine gG (Cs hn L2 ((kp 16 ((of_decide_eq_true rfl)) rfl).1.trans (h1.get 16 _ rfl)) ((kp 21 ((of_decide_eq_true rfl)) rfl).1.trans (h1.get 21 _ rfl)) ((kp 24 ((of_decide_eq_true rfl)) rfl).1.trans (h1.get 24 _ rfl)) (aJ (Y1 _) (.s (.n 24)) Z0 (.n 42) Z0 N2 rfl) λi3 X3 N3 g3 g4 g5=>gG (bS .nil (by exact U3 _) ?_))
 have X4:=X3.trans (Ext.push (o:=.list []))
 have old:∀r o,r<42->qa.role r=.none->fe.get r=some o->r<(i3.push (.list [])).next/\c2.role r=.none/\(i3.push (.list [])).get r=some o:=λr o hr h0 hg=>
  (fc (by show r<i3.next+1;exact aJ (Y3 _ _ _) (.s Z0) (.s Z1) (.a (.a (.n 42) (.a Z2 (.n 6))) (.s Z0)) (.a (.a Z2 Z1) (.n 42)) (Uq (Uq N2 (UI N3.symm)) hr) rfl) ((kp r hr h0).2) ((X4.keep r (aJ (Y2 _ _) (.s Z0) Z1 (.a (.n 42) (.s Z0)) (.a Z1 (.n 42)) (Uq N2 hr) rfl)).trans ((kp r hr h0).1.trans hg)))
 have new:∀r o,iJ.next<=r->r<i3.next->i3.get r=some o->r<(i3.push (.list [])).next/\c2.role r=.none/\(i3.push (.list [])).get r=some o:=λr o hr h3 hg=>
  (fc (UR h3) (H2.top r hr) ((aX h3).trans hg))
 refine EC (x:=⟨c2,[],[],iJ.next,i3.next,1⟩) (tp:=3) (cl:=2) (wd:=iJ.next+5) (wc:=iJ.next+4) (tm:=26) (cs:=script.take 50) (n:=m) hf.cg.ok (LM hn) (two (P:=λn=>0<(fN n).T.length) (by decide) (by decide) hn) (λx hx=>hi x (WY hx))
  ⟨(H2.ext X4),⟨Pa (old 3 _ (by decide) rfl (h1.get 3 _ rfl)) (old 2 _ (by decide) rfl (h1.get 2 _ rfl)) (new _ _ (by show iJ.next<=iJ.next+5;exact uO (Y1 _) Z0 (.a Z0 (.n 5)) rfl) (by show iJ.next+5<_;exact aJ (Y2 _ _) (.s (.a Z0 (.n 5))) Z1 (.a Z0 (.n 6)) Z1 (UI N3.symm) rfl) g5) (new _ _ (Ux _) (by show iJ.next<_;exact aJ (Y2 _ _) (.s Z0) Z1 (.a Z0 (.n 6)) Z1 (UI N3.symm) rfl) g3) (new _ _ (by show iJ.next<=iJ.next+4;exact uO (Y1 _) Z0 (.a Z0 (.n 4)) rfl) (by show iJ.next+4<_;exact aJ (Y2 _ _) (.s (.a Z0 (.n 4))) Z1 (.a Z0 (.n 6)) Z1 (UI N3.symm) rfl) g4) (fc (Uw _) (H2.top _ (by show iJ.next<=i3.next;exact aJ (Y2 _ _) Z0 Z1 (.a Z0 (.n 6)) Z1 (UI N3.symm) rfl)) ao) (old 26 _ (by decide) rfl (h1.get 26 _ rfl)),Pb N2 N3⟩,(I2.inv hf.cg),I2.closed hf.cg,I2.queue,⟨λU h=>(nomatch h),λU h=>(nomatch h),λU h=>(nomatch h),U3 _⟩,[],I2.marks,.nil⟩ ⟨L2.t,rfl,L2.e,rfl,L2.m⟩ (Ui rfl) (U3 _) (U3 _) (by show c2.trail.length<=_;exact aJ (Y1 _) Z0 (.n 1000) Z0 (.n 16) t2 rfl) q
end
end
end Mine.Internal.R
namespace Mine.Internal
open PySem PySem.W PyProof.Rows
noncomputable section
noncomputable def S7:List Nat:=[974,103,833,415,969,943,195,957,354,359,171,695,457,471,429,548,950,962,202,176,366,166,569,265,209,188,506,380,258,513,326,237,223,230,251,181,527]
noncomputable def pM (f:Fn):UN:=S7.getD f.val 0
noncomputable def jk:kA->UN
 | .ak=>390
 | .av=>934
noncomputable def Ct (f:Fn):Bool:=lK f !=""
noncomputable abbrev Ia (prog:Vo) (w:VB) (K:XU) (h:U1):Wd:=⟨prog,w,K,h,jk,pM,Ct⟩
noncomputable def LO (a:UN):Mem:=⟨λU=>a,λU=>a,λb=>if b=a then some 0 else none,λU=>false⟩
noncomputable def Pd (ns:List Int):St:=⟨1,λn=>if n=0 then some (.args (ns.map V.int)) else none⟩
theorem EM {h:U1}{m:Mem}{N:Nat}{P:ş}{vs:List Uo}{ns:List Int}:WellAll P h vs (ns.map YP)->LR h m N (ns.map V.int) vs:=by
 induction ns generalizing vs with
 | nil=>intro W;cases W;rfl
 | cons n ns ih=>intro W;cases W with
  | cons a b=>cases a;exact i6 _ _ rfl ⟨_,rfl⟩ (ih b)
theorem Pe {prog:Vo}{w:VB}{K:XU}{h:U1}{a:UN}{vs:List Uo}{ns:List Int}{P:ş} (ha:h.get? a=some {cls:=.type "list",data:=.seq vs.toArray}) (W:WellAll P h vs (ns.map YP)) (hn:ns.length<=63):
 aB (Ia prog w K h) (LO a) (Pd ns) h:=by
 have ow:∀ {b n},(LO a).own b=some n->b=a/\n=0:=λ{b n} e=>by
  replace e:(if b=a then some 0 else none)=some n:=e
  split at e
  ·exact ⟨by assumption,(Uu e).symm⟩
  ·exact nomatch e
 have gt:∀ {n o},(Pd ns).get n=some o->n=0/\o=.args (ns.map V.int):=λ{n o} e=>by
  replace e:(if n=0 then some (O.args (ns.map V.int)) else none)=some o:=e
  split at e
  ·exact ⟨by assumption,(Uu e).symm⟩
  ·exact nomatch e
 refine ⟨λn o e=>?_,λn hn=>?_,λn o e=>?_,λn o e q=>?_,λb n e=>?_,λb o e=>e,λb n l k e q=>?_,λb e=>(nomatch e),λb n o e q=>?_⟩
 ·exact aa ((gt e).1) Ë
 ·have:n=0:=by have:n<1:=hn;exact Ya (aJ (Y1 _) Z0 (.n 0) (.s Z0) (.n 1) this rfl) (uO (Y1 _) (.n 0) Z0 rfl)
  exact aa this ⟨if_pos rfl,if_pos rfl⟩
 ·refine aU (gt e) λz1 z2=>aa z2 ⟨vs,0,ha,EM W,?_,List.all_eq_true.mpr λv hv=>?_⟩
  ·exact aa (UD ..) (Ut hn ((Ui rfl)))
  ·exact aN (List.mem_map.mp hv) λi U z3=>congrArg _ z3.symm
 ·refine aU (gt e) λz4 z5=>?_;subst z5;contradiction
 ·exact aa ((ow e).1) ⟨_,ha⟩
 ·have:=ha.symm.trans (aR ((ow e).1) q)
  simp at this
 ·refine aN (((ow e).1)▸q) λob h1 h2=>?_
  have z6:=Uu (h1.symm.trans ha);subst z6
  exact nomatch h2
theorem Cu {prog:Vo}{w:VB}{K:XU}{s:Um}{a:UN}{ns:List Int}{P:ş} (F:Facts (Ia prog w K s.heap) aH) (B:pg (Ia prog w K s.heap)) (W:Well P s.heap (.ref a) (.list (ns.map YP))) (hn:ns.length<=63)
 {R:Ö->Um->Prop} (q:∀s',(∀b o,s.heap.get? b=some o->s'.heap.get? b=some o)->s'.os=s.os->s'.gens=s.gens->R (.ok (.ret (.bool true))) s'):YK (UG prog w) ZR (.call (.ref 974) ⟨[.ref a],[]⟩) R s:=by
 cases W with
 | @list _ vs _ ha W=>
  refine DW F B rfl 9 (f:=.Ja) (vs:=[.ref 0]) (Pe ha W hn) ⟨_,[],rfl,⟨Ë,rfl⟩,rfl⟩ ⟨rfl,(Ui rfl),(Ui rfl)⟩ (Q:=λv U=>v=.bool true) ?_ λv σ' m' s' u hv T S r=>?_
  ·refine Mine.Internal.R.bH (n:=8) rfl rfl (Mine.Internal.R.Pc (m:=0) (σ:=Pd ns) (script:=ns.map V.int) ⟨rfl,λi o e=>?_⟩ (λv hv=>?_) rfl λU U=>rfl)
   ·cases i with
    | zero=>exact e
    | succ i=>contradiction
   ·exact aN (List.mem_map.mp hv) λi U z1=>aR z1 ⟨i,rfl⟩
  ·subst hv
   exact aa (dS.mp r) (q s' S.base T.os T.gens)
end
end Mine.Internal
namespace Mine.Internal
open PySem PySem.W PyProof.Rows
noncomputable section
noncomputable def sM (K:XU) (a:UN):Option (ć×Á×List UQ):=match K.lookup a with
 | some o=>(match o.data with
  | .func fd=>(match fd.body with
   | .stmts pb=>some (o,fd,pb)
   | _=>none)
  | _=>none)
 | none=>none
set_option tactic.hygienic true in
theorem Cv {K:XU}{a:UN}{o:ć}{fd:Á}{pb:List UQ} (h:sM K a=some (o,fd,pb)):K.lookup a=some o/\o.data=.func fd/\fd.body=.stmts pb:=by
 delta sM at h
 split at h
 ·rename_i o' ho
  split at h
  ·rename_i Ue hd
   split at h
   ·rename_i Ug hb
    cases h
    exact fc ho hd hb
   ·contradiction
  ·contradiction
 ·contradiction
noncomputable def Ib (K:XU) (f:Fn) (d:List Nm×Ss):Bool:=match sM K (pM f) with
 | some (_,fd,pb)=>pR Ct fd.scope.names d.2 pb&&(kE d.2&&(!fd.scope.isCoroutine&&(!fd.scope.isGenerator&&(decide (fd.scope.kind=.function)&&(codeIn K fd.code fd.qualname&&(decide (fd.globals=U')&&(decide (fd.builtins=XS) &&
  (fd.closure.isEmpty&&(d.1.all (λx=>decide (fd.scope.names.lookup x.str=some .local)||decide (fd.scope.names.lookup x.str=some .cell))&&(decide d.1.Nodup&&fd.scope.names.all (λp=>decide (p.2≠.free))))))))))))
 | none=>false
def lh (K:XU) (f:Fn) (ps:List Nm):Prop:=∀us:List Uo,us.length=ps.length->(sM K (pM f)).map (λx=>Yg x.2.1 ⟨us,[]⟩)=some (pure ((ps.map Nm.str).zip us))
set_option tactic.hygienic true in
theorem EN {prog:Vo}{w:VB}{K:XU}{h:U1} (X:K.In h) {f:Fn}{d:List Nm×Ss} (c:Ib K f d=true) (b:lh K f d.1):Nonempty (GC (Ia prog w K h) f d.1 d.2):=by
 delta Ib at c
 split at c
 ·rename_i o fd pb e
  refine eg (Cv e) λh1 h2 h3=>?_
  simp only [UE] at c
  obtain ⟨c1,c2,c3,c4,c5,c6,c7,c8,c9,S8,S9,Tc⟩:=c
  refine ⟨⟨o,fd,pb,X _ _ h1,h2,h3,c1,c2,by simpa using c3,by simpa using c4,of_decide_eq_true c5,codeRec_of X c6,of_decide_eq_true c7,of_decide_eq_true c8,List.isEmpty_iff.mp c9,λus hl=>?_,λx hx=>?_,of_decide_eq_true S9,λp hp=>of_decide_eq_true (List.all_eq_true.mp Tc p hp)⟩⟩
  ·have:=b us hl
   replace this:=e▸this
   exact Uu this
  ·have:=List.all_eq_true.mp S8 x hx
   rw [VC] at this
   exact this.imp of_decide_eq_true of_decide_eq_true
 ·contradiction
def xH (Q:Nat->Prop):Nat->Prop
 | 0=>True
 | n+1=>xH Q n/\Q n
theorem xH.at {Q:Nat->Prop}:∀ {n i},xH Q n->i<n->Q i:=by
 intro z9;induction z9 with
 | zero=>intro U U h;exact absurd h (Zl _)
 | succ n ih=>
  intro i h hi
  by_cases e:i=n
  ·exact aa e h.2
  ·exact ih h.1 (by lia)
noncomputable def defAt (i:Nat):List Nm×Ss:=zC.getD i ([],.nil)
noncomputable def Gi (i:Nat):Fn:=Fin.ofNat 37 i
def jl (K:XU) (i:Nat):Prop:=i≠2->Ib K (Gi i) (defAt i)=true/\lh K (Gi i) (defAt i).1
noncomputable def Uh (K:XU) (x:Uz):Option (Option Uo):=YF K U' x
def QJ (K:XU) (x:Uz) (v:Uo):Prop:=YF K U' x=some (some v)
noncomputable def Cw (K:XU) (c:kA):Bool:=ś K (jk c) default&&(ĳ K (jk c)&&((sT c).all (λx=>match YG K (.ref (jk c)) x.str with | some none=>true | _=>false) &&
 ((wq c).all (λp=>(match YG K (.ref (jk c)) p.1.str with | some (some (.ref a))=>decide (a=pM p.2) | _=>false)&&(isFn K (.ref (pM p.2))&&ö K (pM p.2))) &&
 (ı K (jk c)&&(makesIn K (jk c)&&keepIn K (.ref (jk c)))))))
structure rg (K:XU) (c:kA):Prop where
 ck:Cw K c=true
 ns:YF K U' (Uj (u5 c))=some (some (.ref (jk c)))
 C2:YG K (.ref (jk c)) "__setattr__"=some (some (.builtin "object.__setattr__"))
 init:YG K (.ref (jk c)) "__init__"=some (some (.ref (pM (jz c))))
 Td:typeIn K (.ref (pM (jz c)))=some (.type "function")
theorem y8 {K:XU}{c:kA} (h:Cw K c=true):ś K (jk c) default=true/\ĳ K (jk c)=true/\(∀x,fieldOf c x=true->YG K (.ref (jk c)) x.str=some none)/\
 (∀x f,gw c x=some f->YG K (.ref (jk c)) x.str=some (some (.ref (pM f)))/\isFn K (.ref (pM f))=true/\ö K (pM f)=true)/\ı K (jk c)=true/\makesIn K (jk c)=true/\keepIn K (.ref (jk c))=true:=by
 delta Cw at h
 simp only [UE] at h
 refine Pj h λh1 h2 h3 h4 h5 h6 h7=>QQ h1 h2 (λx hx=>?_) (λx f hf=>?_) h5 h6 h7
 ·refine aN (List.any_eq_true.mp hx) λy hy e=>aR (of_decide_eq_true e) ?_
  have:=List.all_eq_true.mp h3 y hy
  split at this
  ·assumption
  ·contradiction
 ·refine aN (Option.map_eq_some_iff.mp hf) λp hp z1=>aR z1 ?_
  have:=List.all_eq_true.mp h4 p (XF hp)
  rw [(of_decide_eq_true (Zb (p:=λp:Nm×Fn=>decide (p.1=x)) hp)),UE,UE] at this
  refine ⟨?_,this.2⟩
  have:=this.1
  split at this
  ·rename_i a ha
   exact ha.trans (aa (of_decide_eq_true this) rfl)
  ·contradiction
structure HeapOk (K:XU):Prop where
 fns:xH (jl K) 37
 cls:∀c,rg K c
 LQ:∃t,YF K U' (Nm.str .mB)=some (some (.int 0 t))
 Te:∃t,YF K U' (Nm.str .dm)=some (some (.str ⟨[97,114,103,117,109,101,110,116,115].toArray⟩ t))
 vals:∃a k t1 t2 t3 t4,YF K U' (Nm.str .gM)=some (some (.ref a))/\K.lookup a=some (cw [.str ⟨[110,117,109].toArray⟩ t1,.str ⟨[98,118,110,117,109].toArray⟩ t2,.str ⟨[116,114,117,101].toArray⟩ t3,.str ⟨[102,97,108,115,101].toArray⟩ t4] k)
 names:∀f,Ct f=true->YF K U' (Uj (lK f))=some (some (.ref (pM f)))/\ö K (pM f)=true
 Jx:∀y∈dI,YF K U' (Uj y)=some none
theorem Cy {prog:Vo}{w:VB}{K:XU}{h:U1}{p:Vo}{loose:List Uz}{Ic:ExcName->Option Uo}{mg mb:Uz->Option Uo} (H:HeapOk K) (X:K.In h) (T:Top p loose Ic mg mb h) (hs:importsNone p=true):Nonempty (Facts (Ia prog w K h) aH):=by
 have fn:∀f d,aH f=some d->f≠.aI->Nonempty (GC (Ia prog w K h) f d.1 d.2):=λf d hd hf=>by
  have q:=H.fns.at f.isLt λe=>hf (ľ e)
  rw [show Gi f.val=f from ľ (ý f.isLt),show defAt f.val=d by delta defAt;refine List.getD_eq_getElem?_getD.trans (aa (show zC[f.val]? =some d from hd) ?_);rfl] at q
  exact EN X q.1 q.2
 have ck:=λc=>y8 (H.cls c).ck
 refine ⟨{mg:=mg,mb:=mb,X:=X,g:=T.g,b:=T.b,bi:=T.builtins,lim:=T.nolimit,glob:=λx v e=>?_,fn:=λf d hd hf=>Classical.choice (fn f d hd hf),name:=λf U hf=>ģ X T.g (H.names f hf).1,Jv:=λc=>ģ X T.g (H.cls c).ns,
          plain:=λc x=>(ck c).1,GD:=λc=>(ck c).2.1,fld:=λc=>(ck c).2.2.1,GF:=λc=>(ck c).2.2.2.1,Jw:=λf hf=>(H.names f hf).2,C2:=λc=>⟨(H.cls c).C2,(ck c).2.2.2.2.1⟩,make:=λc=>fc ((ck c).2.2.2.2.2.1) ((H.cls c).init) ((H.cls c).Td),
          mods:=(T.seer hs).mods.elim λU h=>h.1.elim λo h=>h.elim λU h=>h.elim λU h=>⟨o,h.1⟩,Aa:=λc=>(ck c).2.2.2.2.2.2,Jx:=λy hy=>mg_none_of X T.g (H.Jx y hy)}⟩
 unfold wz uZ wx at e
 simp only [Xi,List.find?_nil] at e
 split at e
 ·rename_i q
  refine aR (of_decide_eq_true q) ?_
  injection e with z0;subst z0
  exact bb H.LQ λt ht=>i12 _ (ģ X T.g ht) (λm N U U=>⟨t,rfl⟩)
 ·split at e
  ·rename_i q
   refine aR (of_decide_eq_true q) ?_
   injection e with z0;subst z0
   exact bb H.Te λt ht=>i12 _ (ģ X T.g ht) (λm N U U=>⟨t,rfl⟩)
  ·split at e
   ·rename_i q
    refine aR (of_decide_eq_true q) ?_
    injection e with z0;subst z0
    refine LX H.vals λa k t1 t2 t3 t4 hv hk=>i12 _ (ģ X T.g hv) (λm N h1 h2=>iT.mpr (CC a k _ rfl ⟨X _ _ hk,?_,?_⟩ ⟨_,_,rfl,⟨t1,rfl⟩,_,_,rfl,⟨t2,rfl⟩,_,_,rfl,⟨t3,rfl⟩,_,_,rfl,⟨t4,rfl⟩,rfl⟩))
    ·cases e:m.own a with
     | none=>rfl
     | some n=>exact absurd (X _ _ hk) (h1 a n _ _ e)
    ·cases e:m.pv a with
     | false=>rfl
     | true=>exact absurd (X _ _ hk) (h2 a _ _ e)
   ·contradiction
end
end Mine.Internal
namespace Mine.Internal
open PySem PySem.W PyProof.Rows
noncomputable section
theorem lj {us:List Uo}{n:Nat} (h:us.length=n+1):∃a t,t.length=n/\us=a::t:=by
 cases us with
 | nil=>exact absurd h (Nat.succ_ne_zero n).symm
 | cons a t=>exact jo a t (WW h) rfl
theorem bind1 {K f ps} (hp:ps.length=1) (h:∀a,(sM K (pM f)).map (λx=>Yg x.2.1 ⟨[a],[]⟩)=some (pure ((ps.map Nm.str).zip [a]))):lh K f ps:=λus hl=>by
 obtain ⟨a,t,h0,rfl⟩:=lj (hl.trans hp)
 rw [Vp h0];exact h a
theorem QK {K f ps} (hp:ps.length=2) (h:∀a b,(sM K (pM f)).map (λx=>Yg x.2.1 ⟨[a,b],[]⟩)=some (pure ((ps.map Nm.str).zip [a,b]))):lh K f ps:=λus hl=>by
 obtain ⟨a,t,h0,rfl⟩:=lj (hl.trans hp)
 obtain ⟨b,t,h1,rfl⟩:=lj h0
 rw [Vp h1];exact h a b
theorem QL {K f ps} (hp:ps.length=3) (h:∀a b c,(sM K (pM f)).map (λx=>Yg x.2.1 ⟨[a,b,c],[]⟩)=some (pure ((ps.map Nm.str).zip [a,b,c]))):lh K f ps:=λus hl=>by
 obtain ⟨a,t,h0,rfl⟩:=lj (hl.trans hp)
 obtain ⟨b,t,h1,rfl⟩:=lj h0
 obtain ⟨c,t,h2,rfl⟩:=lj h1
 rw [Vp h2];exact h a b c
theorem QM {K f ps} (hp:ps.length=4) (h:∀a b c d,(sM K (pM f)).map (λx=>Yg x.2.1 ⟨[a,b,c,d],[]⟩)=some (pure ((ps.map Nm.str).zip [a,b,c,d]))):lh K f ps:=λus hl=>by
 obtain ⟨a,t,h0,rfl⟩:=lj (hl.trans hp)
 obtain ⟨b,t,h1,rfl⟩:=lj h0
 obtain ⟨c,t,h2,rfl⟩:=lj h1
 obtain ⟨d,t,h3,rfl⟩:=lj h2
 rw [Vp h3];exact h a b c d
theorem QN {K f ps} (hp:ps.length=5) (h:∀a b c d e,(sM K (pM f)).map (λx=>Yg x.2.1 ⟨[a,b,c,d,e],[]⟩)=some (pure ((ps.map Nm.str).zip [a,b,c,d,e]))):lh K f ps:=λus hl=>by
 obtain ⟨a,t,h0,rfl⟩:=lj (hl.trans hp)
 obtain ⟨b,t,h1,rfl⟩:=lj h0
 obtain ⟨c,t,h2,rfl⟩:=lj h1
 obtain ⟨d,t,h3,rfl⟩:=lj h2
 obtain ⟨e,t,h4,rfl⟩:=lj h3
 rw [Vp h4];exact h a b c d e
theorem EO {K:XU} (h1:rg K .ak) (h2:rg K .av):∀c,rg K c:=by
 intro z9;induction z9 with
 | ak=>exact h1
 | av=>exact h2
noncomputable def Ie (K:XU) (i:Nat):Bool:=!Ct (Gi i)||((match YF K U' (Uj (lK (Gi i))) with | some (some (.ref a))=>decide (a=pM (Gi i)) | _=>false)&&ö K (pM (Gi i)))
theorem y9 {K:XU} (h:(VG 37).all (Ie K)=true) (f:Fn) (hf:Ct f=true):YF K U' (Uj (lK f))=some (some (.ref (pM f)))/\ö K (pM f)=true:=by
 have q:=List.all_eq_true.mp h f.val (List.mem_range.mpr f.isLt)
 unfold Ie at q
 rw [show Gi f.val=f from ľ (ý f.isLt),hf,Bool.not_true,ZL,UE] at q
 refine ⟨?_,q.2⟩
 have q:=q.1
 split at q
 ·rename_i a e
  exact aa e (aa (of_decide_eq_true q) rfl)
 ·contradiction
theorem ES {K:XU} (h:(dI.all λy=>match YF K U' (Uj y) with | some none=>true | _=>false)=true):∀y∈dI,YF K U' (Uj y)=some none:=λy hy=>by
 have:=List.all_eq_true.mp h y hy
 split at this
 ·assumption
 ·contradiction
noncomputable def xI:Á where
 name:=U8 "__init__"
 qualname:=U8 "TermBank.__init__"
 params:={posonlyargs:=[],args:=[{arg:=U8 "self",annotation:=none,pos:=⟨575,17,575,21⟩}],vararg:=none,kwonlyargs:=[],kw_defaults:=[],kwarg:=none,defaults:=[]}
 body:=.stmts [.Expr (.Call (.Attribute (.Call (.Name "super" ⟨576,8,576,13⟩) [] [] ⟨576,8,576,15⟩) "__init__" ⟨576,8,576,24⟩) [] [] ⟨576,8,576,26⟩) ⟨576,8,576,26⟩,.Assign [.Attribute (.Name "self" ⟨577,8,577,12⟩) "bv_numbers" ⟨577,8,577,23⟩] (.Dict [] [] ⟨577,26,577,28⟩) ⟨577,8,577,28⟩]
 scope:={kind:=.function,names:=[(U8 "self",.local),(U8 "__class__",.free),(U8 "super",.globalImplicit)],isGenerator:=false,isCoroutine:=false}
 globals:=3
 closure:=[(U8 "__class__",821)]
 defaults:=.none
 kwdefaults:=.none
 pyModule:=.str (U8 "minismt.terms") 747
 code:=.ref 832
 closureTuple:=.ref 826
 builtins:=XS
noncomputable def Cz:ClassData:={name:=U8 "TermBank",bases:=[.ref 815],mro:=[.ref 934,.ref 815,.ref 719,.ref 614,.type "object"],ns:=933,qualname:=U8 "TermBank"}
structure Gj (K:XU):Prop where
 at_:(K.lookup 833).map (·.data)=some (.func xI)
 DQ:(K.lookup 832).bind (λo=>match o.data with | .fields vs=>vs[2]? | _=>none)=some (.str (U8 "/claim/cut.py") 1303)
 code:codeIn K xI.code xI.qualname=true
 cell:(K.lookup 821).map (·.data)=some (.cell (some (.ref 934)))
 clsAt:(K.lookup 934).map (·.data)=some (.cls Cz)
 Hu:clsIn K 934=some Cz
 sub:mroIn K 934 (.ref 934)=some true
 Mo:YF K cStatics "thirdparty.any"=some none
 sup:ks_superIn K 934 934 "__init__"=some (some (.ref 415))
 Mp:(K.lookup 415).map (·.cls)=some (.type "function")
 Mq:ö K 415=true
theorem om {α β:Type}{o:Option α}{f:α->β}{b:β} (h:o.map f=some b):∃a,o=some a/\f a=b:=Option.map_eq_some_iff.mp h
set_option tactic.hygienic true in
theorem CA {prog:Vo}{w:VB}{K:XU}{h:U1} (S:Gj K) (X:K.In h) (h1:((prog.main.file:Uz)==U8 "/claim/cut.py")=true) (h2:(prog.main.scope.names.lookup ("super":Uz)).isSome=false):Nonempty (pg (Ia prog w K h)):=by
 refine aN (om S.at_) λo ho hd=>aN (Option.bind_eq_some_iff.mp S.DQ) λoc G' hv=>aN (om S.cell) λTf IE Nb=>aN (om S.clsAt) λoD Th Ti=>aN (om S.Mp) λof Ks Tj=>?_
 split at hv
 ·rename_i vs To
  exact ⟨{o:=o,fd:=xI,p0:=⟨576,8,576,13⟩,p1:=⟨576,8,576,15⟩,ap:=⟨576,8,576,24⟩,p:=⟨576,8,576,26⟩,ep:=⟨576,8,576,26⟩,st:=.Assign [.Attribute (.Name "self" ⟨577,8,577,12⟩) "bv_numbers" ⟨577,8,577,23⟩] (.Dict [] [] ⟨577,26,577,28⟩) ⟨577,8,577,28⟩,
          cc:=821,Mn:=832,ar:={arg:=U8 "self",annotation:=none,pos:=⟨575,17,575,21⟩},oc:=oc,vs:=vs,file:=U8 "/claim/cut.py",tf:=1303,oD:=oD,cd:=Cz,at_:=X _ _ ho,data:=hd,L9:=rfl,ok:=by kernel_rfl,co:=rfl,gen:=rfl,kind:=rfl,code:=codeRec_of X S.code,
          glob:=rfl,mI:=rfl,gX:=rfl,PY:=rfl,bind:=λus hl=>(by refine I6 (Gw hl) λa=>?_;kernel_rfl),head:=rfl,PZ:=by kernel_rfl,tW:=by kernel_rfl,N8:=by kernel_rfl,Iy:=by kernel_rfl,Bw:=(of_decide_eq_true rfl),frees:=(of_decide_eq_true rfl),DQ:=X _ _ G',P0:=To,cv:=hv,FU:=h1,tX:=h2,cell:=⟨Tf,X _ _ IE,Nb⟩,
          clsAt:=X _ _ Th,DS:=Ti,Hu:=S.Hu,sub:=S.sub,Mo:=S.Mo,sup:=S.sup,Mp:=i12 of (X _ _ Ks) Tj,Mq:=S.Mq,hp:=rfl}⟩
 ·contradiction
end
end Mine.Internal
namespace Mine.Internal
open PySem PySem.W PyProof.Rows
noncomputable section
theorem IW {K:XU} (q0:jl K 0) (q1:jl K 1) (q3:jl K 3) (q4:jl K 4) (q5:jl K 5) (q6:jl K 6) (q7:jl K 7) (q8:jl K 8) (q9:jl K 9) (Tq:jl K 10) (Tr:jl K 11) (Ts:jl K 12) (Tt:jl K 13) (Tu:jl K 14) (Tv:jl K 15) (Tw:jl K 16) (Tx:jl K 17) (Tz:jl K 18) (TA:jl K 19) (TB:jl K 20) (TC:jl K 21) (TG:jl K 22) (TH:jl K 23) (TJ:jl K 24) (TK:jl K 25) (TL:jl K 26) (TM:jl K 27) (TN:jl K 28) (TP:jl K 29) (TQ:jl K 30) (TS:jl K 31) (TU:jl K 32) (TV:jl K 33) (TX:jl K 34) (TY:jl K 35) (TZ:jl K 36) (h1:rg K .ak) (h2:rg K .av) (hb:YF K U' (Nm.str .mB)=some (some (.int 0 749))) (hy:YF K U' (Nm.str .dm)=some (some (.str ⟨[97,114,103,117,109,101,110,116,115].toArray⟩ 287)))
 (hv:YF K U' (Nm.str .gM)=some (some (.ref 89))) (ht:K.lookup 89=some (cw [.str ⟨[110,117,109].toArray⟩ 282,.str ⟨[98,118,110,117,109].toArray⟩ 283,.str ⟨[116,114,117,101].toArray⟩ 284,.str ⟨[102,97,108,115,101].toArray⟩ 285] 0))
 (hm:(VG 37).all (Ie K)=true) (hn:(dI.all λy=>match YF K U' (Uj y) with | some none=>true | _=>false)=true):HeapOk K:=by
 exact ⟨⟨⟨⟨⟨⟨⟨⟨⟨⟨⟨⟨⟨⟨⟨⟨⟨⟨⟨⟨⟨⟨⟨⟨⟨⟨⟨⟨⟨⟨⟨⟨⟨⟨⟨⟨⟨⟨trivial,q0⟩,q1⟩,(λh=>absurd rfl h)⟩,q3⟩,q4⟩,q5⟩,q6⟩,q7⟩,q8⟩,q9⟩,Tq⟩,Tr⟩,Ts⟩,Tt⟩,Tu⟩,Tv⟩,Tw⟩,Tx⟩,Tz⟩,TA⟩,TB⟩,TC⟩,TG⟩,TH⟩,TJ⟩,TK⟩,TL⟩,TM⟩,TN⟩,TP⟩,TQ⟩,TS⟩,TU⟩,TV⟩,TX⟩,TY⟩,TZ⟩,EO h1 h2,⟨_,hb⟩,⟨_,hy⟩,(Pp _ _ _ _ _ _ hv ht),y9 hm,ES hn⟩
theorem MO {c:ClaimW}{cl:Uz->Option UN}{Ic LS:ExcName->Option Uo}{args:List WData}{prog:Vo}{w:VB}{K:XU}{P:ş}{s:Um}{a fa:UN}{ns:List Int}{p:Vo}{loose:List Uz}{mg mb:Uz->Option Uo}
 (X:K.In s.heap) (T:Top p loose LS mg mb s.heap) (QO:mg (Uj "law")=some (.ref fa)) (hg:s.gens= #[]) (W:Well P s.heap (.ref a) (ofPy (Ę (ns.map Æ)))) (hn:ns.length<=63) (hp:c.post args (.bool true) args=true) (hr:∀cls,c.raises args cls=false)
 (hs:importsNone p=true) (h1:((prog.main.file:Uz)==U8 "/claim/cut.py")=true) (h2:(prog.main.scope.names.lookup ("super":Uz)).isSome=false) (hl:YF K U' (Uj "law")=some (some (.ref 974))) (S:Gj K) (H:HeapOk K):
 YK (UG prog w) ZR (.call (.ref fa) ⟨[.ref a],[]⟩) (GoodW c cl Ic args s) s:=by
 have e:=(ģ X T.g hl).symm.trans QO
 clear QO;cases e
 have W':Well P s.heap (.ref a) (.list (ns.map YP)):=by
  have e:ofPy (Ę (ns.map Æ))=.list (ns.map YP):=by
   show WData.list (ofPys (ns.map Æ))=_
   refine aa (ofPys_eq ..) (aa We ?_);rfl
  exact aR e W
 obtain ⟨F⟩:=Cy (prog:=prog) (w:=w) H X T hs
 obtain ⟨B⟩:=CA (prog:=prog) (w:=w) S X h1 h2
 exact Cu F B W' hn λs' hk ho NX=>⟨.inl (QT _ (.bool true) ([]) rfl hr (.bool true) hp (λU=>⟨Vr,nofun⟩)),hk,ho,NX.trans hg⟩
end
end Mine.Internal
set_option Elab.async true
set_option tactic.hygienic true
set_option maxHeartbeats 8000000
namespace Mine.Internal.hd
def tw10031117400631392382:0=0:=rfl
def tw6760662844775422206:0=0:=rfl
def tw17015435336251040360:0=0:=rfl
def tw80207222412747470:0=0:=rfl
def tw4901217085786567169:0=0:=rfl
def tw17562630884545722471:0=0:=rfl
def tw2678143867751452360:0=0:=rfl
def tw1080807525618032726:0=0:=rfl
def tw6736383393313580409:0=0:=rfl
def tw1711473549958359125:0=0:=rfl
def tw7943434605978140569:0=0:=rfl
def tw13677020842628307333:0=0:=rfl
def tw10763837439906050012:0=0:=rfl
def tw12179782168187316902:0=0:=rfl
def tw7331053905995067744:0=0:=rfl
def tw16640113483863055521:0=0:=rfl
def tw1532897608927182526:0=0:=rfl
def tw4158538966326616356:0=0:=rfl
def tw9810849677208565135:0=0:=rfl
def tw4195166080166848607:0=0:=rfl
def tw2501938814400721562:0=0:=rfl
def tw4184917019135499818:0=0:=rfl
def tw6758191495299125114:0=0:=rfl
def tw14885124812403076695:0=0:=rfl
def tw6269251234911203764:0=0:=rfl
def tw9285060498679892708:0=0:=rfl
def tw15446708149075816471:0=0:=rfl
def tw13894294492759856728:0=0:=rfl
def tw9342841184166999243:0=0:=rfl
def tw6837933980278877480:0=0:=rfl
def tw6341908896634534438:0=0:=rfl
def tw18183398384106905503:0=0:=rfl
def tw11871245172023452956:0=0:=rfl
def tw3613764528863817497:0=0:=rfl
def tw123068294514122753:0=0:=rfl
def tw16706406908939067481:0=0:=rfl
def tw1527838690883220852:0=0:=rfl
def tw3471617488691342163:0=0:=rfl
def tw11044803229060463981:0=0:=rfl
def tw8886676353466617286:0=0:=rfl
def tw15292561661927768003:0=0:=rfl
def tw12280789728482893115:0=0:=rfl
def tw14727973948776507358:0=0:=rfl
def tw13522595751371437881:0=0:=rfl
def tw4217311925018217667:0=0:=rfl
def tw13034690579477884622:0=0:=rfl
def tw2075781144131075437:0=0:=rfl
def tw6099794974223559636:0=0:=rfl
def tw4239049415839531936:0=0:=rfl
def tw3674186819540265957:0=0:=rfl
def tw8583156150137307454:0=0:=rfl
def tw12469394786265501217:0=0:=rfl
def tw1713613408738466740:0=0:=rfl
def tw4572055151466897615:0=0:=rfl
def tw10169186735810369720:0=0:=rfl
def tw15914279173456535478:0=0:=rfl
def tw10754876068304953247:0=0:=rfl
def tw7529648799523948996:0=0:=rfl
def tw6743835506366012284:0=0:=rfl
def tw15938347017603190336:0=0:=rfl
def tw16203475035833160808:0=0:=rfl
def tw3609727675691564194:0=0:=rfl
def tw13784644807815321581:0=0:=rfl
def tw13152900647210115318:0=0:=rfl
def tw8722938342819674158:0=0:=rfl
def tw6178929325686578268:0=0:=rfl
def tw12752725365382290980:0=0:=rfl
def tw18416071368914092631:0=0:=rfl
def tw17674521349322135176:0=0:=rfl
def tw7095182050415464044:0=0:=rfl
def tw3241314515751092627:0=0:=rfl
def tw2495854087540526761:0=0:=rfl
def tw14987213230683893226:0=0:=rfl
def tw8637924245605089610:0=0:=rfl
def tw13436793889874751463:0=0:=rfl
def tw16876290765625790874:0=0:=rfl
def tw6597962789093873526:0=0:=rfl
def tw13705485828373817184:0=0:=rfl
def tw9108644517948501008:0=0:=rfl
def tw12899943327723670910:0=0:=rfl
def tw2776922457245515730:0=0:=rfl
def tw10326914909029733180:0=0:=rfl
def tw6567288245983111171:0=0:=rfl
def tw7114702342371406679:0=0:=rfl
def tw6872526038962216167:0=0:=rfl
def tw9464389324830640952:0=0:=rfl
def tw6351979084779308449:0=0:=rfl
def tw9522278419015659552:0=0:=rfl
def tw2389079507042779699:0=0:=rfl
def tw9032869535437464162:0=0:=rfl
def tw10932325485557636262:0=0:=rfl
def tw16644025755203776648:0=0:=rfl
def tw6598610022634002709:0=0:=rfl
def tw14831906022683161478:0=0:=rfl
def tw17775649180985745786:0=0:=rfl
def tw13419790239819088309:0=0:=rfl
def tw10478118752892766091:0=0:=rfl
def tw4400060288345857186:0=0:=rfl
def tw7082444589050389901:0=0:=rfl
def tw5784692650032633571:0=0:=rfl
def tw2140662293383983925:0=0:=rfl
def tw10735011138126884216:0=0:=rfl
def tw16221998681652435002:0=0:=rfl
def tw6729940628936871286:0=0:=rfl
def tw8498548277181722101:0=0:=rfl
def tw16874378897286668274:0=0:=rfl
def tw16994832310330321305:0=0:=rfl
def tw670263645769261399:0=0:=rfl
def tw13162475630746883375:0=0:=rfl
def tw6619486752054971423:0=0:=rfl
def tw18066081243835392563:0=0:=rfl
def tw12801012565498045964:0=0:=rfl
def tw5058971680067830842:0=0:=rfl
def tw11244900381572368662:0=0:=rfl
def tw10200059711980206030:0=0:=rfl
def tw4324768590502034390:0=0:=rfl
def tw9700569562226587831:0=0:=rfl
def tw1981489257346161902:0=0:=rfl
def tw3076281753983609132:0=0:=rfl
def tw6281172082808306360:0=0:=rfl
def tw8766153797292197645:0=0:=rfl
def tw4293566933973591676:0=0:=rfl
def tw6734474459372280481:0=0:=rfl
def tw8499867674576427667:0=0:=rfl
def tw5627993144553289949:0=0:=rfl
def tw15213867517606551158:0=0:=rfl
def tw6120635109932432074:0=0:=rfl
def tw690909109011163107:0=0:=rfl
def tw893644547651322600:0=0:=rfl
def tw5216735753287636777:0=0:=rfl
def tw754995371310844855:0=0:=rfl
def tw18143610487759034564:0=0:=rfl
def tw2371586418194438399:0=0:=rfl
def tw61191686967583403:0=0:=rfl
def tw570580334211071369:0=0:=rfl
def tw6812285832159228509:0=0:=rfl
def tw2253076609543119693:0=0:=rfl
def tw1314688719709390951:0=0:=rfl
def tw18352704746069975241:0=0:=rfl
def tw16973133056051306746:0=0:=rfl
def tw126899189614909607:0=0:=rfl
def tw16460976945913506865:0=0:=rfl
def tw3896432864908169337:0=0:=rfl
def tw7510080473698963424:0=0:=rfl
def tw1324119301739381:0=0:=rfl
def tw10875472949588697265:0=0:=rfl
def tw12864325376041727945:0=0:=rfl
def tw17632791038123910024:0=0:=rfl
def tw16671430358935201974:0=0:=rfl
def tw1209259664397189692:0=0:=rfl
def tw1173135590058218265:0=0:=rfl
def tw4873480283540838167:0=0:=rfl
def tw2540508547489348831:0=0:=rfl
def tw3580206924867195457:0=0:=rfl
def tw17186467315314896858:0=0:=rfl
def tw8602555600028458894:0=0:=rfl
def tw880765996842172355:0=0:=rfl
def tw6493439458051767224:0=0:=rfl
def tw15482834225003803977:0=0:=rfl
def tw7181557272237157618:0=0:=rfl
def tw16953484572288141156:0=0:=rfl
def tw7669143873086936922:0=0:=rfl
def tw10193104807299194216:0=0:=rfl
def tw2366270029833321311:0=0:=rfl
def tw10998584579097939537:0=0:=rfl
def tw5585562161386960571:0=0:=rfl
def tw8998826512192558392:0=0:=rfl
def tw16797425033611315937:0=0:=rfl
def tw15419413099817759249:0=0:=rfl
def tw8191383141383413902:0=0:=rfl
def tw4996283469597685290:0=0:=rfl
def tw16349847624731819066:0=0:=rfl
def tw10223230911338949651:0=0:=rfl
def tw11226056209096007788:0=0:=rfl
def tw10610930620100246578:0=0:=rfl
def tw4572914132581569009:0=0:=rfl
def tw10797655095234933175:0=0:=rfl
def tw11656587275550533016:0=0:=rfl
def tw15079966692023321106:0=0:=rfl
def tw5499663076606008585:0=0:=rfl
def tw8113946606531873331:0=0:=rfl
def tw15039365748200984442:0=0:=rfl
def tw6953686225705527895:0=0:=rfl
def tw14843652167993416414:0=0:=rfl
def tw8359198448007392577:0=0:=rfl
def tw8881279393935526575:0=0:=rfl
def tw17553067712141033818:0=0:=rfl
def tw735499216457412341:0=0:=rfl
def tw9666658338934384728:0=0:=rfl
def tw17204449605386721941:0=0:=rfl
def tw10584903055604394054:0=0:=rfl
def tw12842129537826997421:0=0:=rfl
def tw4898932216819464980:0=0:=rfl
def tw2680338956159875683:0=0:=rfl
def tw8151924304054899687:0=0:=rfl
def tw9677542627691614064:0=0:=rfl
def tw2557189256652083335:0=0:=rfl
def tw16874358794406088996:0=0:=rfl
def tw14669425496545353893:0=0:=rfl
def tw6551069468878901323:0=0:=rfl
def tw6046201485432095634:0=0:=rfl
def tw7634684051563534259:0=0:=rfl
def tw6442102004362931456:0=0:=rfl
def tw5257284115718746984:0=0:=rfl
def tw1530186012659733002:0=0:=rfl
def tw6276673660110437445:0=0:=rfl
def tw17295801982453579902:0=0:=rfl
def tw8759374071611058102:0=0:=rfl
def tw13331704739837112769:0=0:=rfl
def tw8480387041410936312:0=0:=rfl
def tw15954617418576163654:0=0:=rfl
def tw7635829786263382596:0=0:=rfl
def tw17648703758258394866:0=0:=rfl
def tw6100019897110745148:0=0:=rfl
def tw6265170123278674144:0=0:=rfl
def tw12978694689486476534:0=0:=rfl
def tw9048959043973113942:0=0:=rfl
def tw15972887241109575105:0=0:=rfl
def tw791894052214622578:0=0:=rfl
def tw7608060696618008248:0=0:=rfl
def tw10800136255964178250:0=0:=rfl
def tw9870564867049460845:0=0:=rfl
def tw16558604503322718569:0=0:=rfl
def tw3228372226667921670:0=0:=rfl
def tw4935679993663727648:0=0:=rfl
def tw17510691922017120571:0=0:=rfl
def tw12806410881072968316:0=0:=rfl
def tw13562634003028335048:0=0:=rfl
def tw9878135420369046608:0=0:=rfl
def tw6351698254187997254:0=0:=rfl
def tw2260383908665594258:0=0:=rfl
def tw9340432698400089522:0=0:=rfl
def tw12209715661091281649:0=0:=rfl
def tw11443670614736355518:0=0:=rfl
def tw5498244211294084031:0=0:=rfl
def tw10540686284600524729:0=0:=rfl
def tw12795287235825905236:0=0:=rfl
def tw3595355477287675206:0=0:=rfl
def tw14569192112799493162:0=0:=rfl
def tw15413546389474711556:0=0:=rfl
def tw10507069991603443811:0=0:=rfl
def tw7522362723090193151:0=0:=rfl
def tw6700630366935767112:0=0:=rfl
def tw16923775255107783495:0=0:=rfl
def tw8402618584194901558:0=0:=rfl
def tw4234769180768666233:0=0:=rfl
def tw1756488131837449251:0=0:=rfl
def tw120949319569067898:0=0:=rfl
def tw6390727810798310923:0=0:=rfl
def tw11804036180299837096:0=0:=rfl
def tw6452426570276761996:0=0:=rfl
def tw2155373148024153087:0=0:=rfl
def tw1006474142936029432:0=0:=rfl
def tw13863886583734531057:0=0:=rfl
def tw17986764984829171165:0=0:=rfl
def tw9807025249006525022:0=0:=rfl
def tw18002567053797782338:0=0:=rfl
def tw11234803216861417679:0=0:=rfl
def tw16538304330064555565:0=0:=rfl
def tw1995303238660393591:0=0:=rfl
def tw15610684576858937276:0=0:=rfl
def tw16834843177216533021:0=0:=rfl
def tw9452872987620912765:0=0:=rfl
def tw226073816358300282:0=0:=rfl
def tw14864250025649883108:0=0:=rfl
def tw1920314895626431374:0=0:=rfl
def tw3778705626984511781:0=0:=rfl
def tw17213202801741711188:0=0:=rfl
def tw10899236745666942599:0=0:=rfl
def tw7928477069593319606:0=0:=rfl
def tw9013603393401162020:0=0:=rfl
def tw5588271506499744379:0=0:=rfl
def tw17745206419663925312:0=0:=rfl
def tw8549650921257051890:0=0:=rfl
def tw7483599358628703746:0=0:=rfl
def tw2267546703583191381:0=0:=rfl
def tw4130825540490128306:0=0:=rfl
def tw8890726212758104139:0=0:=rfl
def tw1488685991154950166:0=0:=rfl
def tw1248928498290534400:0=0:=rfl
def tw12203266531451400970:0=0:=rfl
def tw580786715081773033:0=0:=rfl
def tw7178817707606537756:0=0:=rfl
def tw13078271307976294731:0=0:=rfl
def tw12063813234649006523:0=0:=rfl
def tw7339385377263174568:0=0:=rfl
def tw7309933557424586653:0=0:=rfl
def tw8819627748442131313:0=0:=rfl
def tw2540744197897768420:0=0:=rfl
def tw15610926135251115398:0=0:=rfl
def tw17244905008012452814:0=0:=rfl
def tw58351903789159699:0=0:=rfl
def tw5930415463011625340:0=0:=rfl
def tw14496288281795972469:0=0:=rfl
def tw11875649815601129772:0=0:=rfl
def tw7231647588127744845:0=0:=rfl
def tw4139280733346450165:0=0:=rfl
def tw9180358300632990600:0=0:=rfl
def tw7306873896866421051:0=0:=rfl
def tw41017763157688102:0=0:=rfl
def tw16367322488064149640:0=0:=rfl
def tw13423386743651976425:0=0:=rfl
def tw2780260501866471414:0=0:=rfl
def tw5874622170150204493:0=0:=rfl
def tw8414816662057420513:0=0:=rfl
def tw14019357707464180739:0=0:=rfl
def tw2908595245633717595:0=0:=rfl
def tw17653395014608570344:0=0:=rfl
def tw8431553999049341567:0=0:=rfl
def tw9764821556886614387:0=0:=rfl
def tw10266834256667246075:0=0:=rfl
def tw10290247671117069052:0=0:=rfl
def tw12426564226344084313:0=0:=rfl
def tw4027570223873491336:0=0:=rfl
def tw16561031784554278298:0=0:=rfl
def tw3604189019820491887:0=0:=rfl
def tw12548654655308641768:0=0:=rfl
def tw9027985886240724871:0=0:=rfl
def tw13016227033810113515:0=0:=rfl
def tw13710774639955215449:0=0:=rfl
def tw5469443151430644227:0=0:=rfl
def tw5594199804548315133:0=0:=rfl
def tw13875821200728361853:0=0:=rfl
def tw3609619317189211081:0=0:=rfl
def tw7205870552132398805:0=0:=rfl
def tw8673665949694871306:0=0:=rfl
def tw17327716533671561472:0=0:=rfl
def tw1899478393449861924:0=0:=rfl
def tw15149605427897886594:0=0:=rfl
def tw16555405951933438768:0=0:=rfl
def tw3750811979167540357:0=0:=rfl
def tw11130649375529969920:0=0:=rfl
def tw6742079255410503971:0=0:=rfl
def tw6584964919600876763:0=0:=rfl
def tw477729914001885993:0=0:=rfl
def tw16408791803549164065:0=0:=rfl
def tw7192714274489868344:0=0:=rfl
def tw12961144429417063065:0=0:=rfl
def tw8670876273566594210:0=0:=rfl
def tw12905145899662694839:0=0:=rfl
def tw14585109114721359362:0=0:=rfl
def tw5285049794066362645:0=0:=rfl
def tw13966082070955660426:0=0:=rfl
def tw9812517637422296469:0=0:=rfl
def tw11585793122591300342:0=0:=rfl
def tw1850006992992877954:0=0:=rfl
def tw2382034009712293678:0=0:=rfl
def tw3692403537964248751:0=0:=rfl
def tw6467283406827068179:0=0:=rfl
def tw14941774590477668621:0=0:=rfl
def tw6815161361294328400:0=0:=rfl
def tw4650248630828124516:0=0:=rfl
def tw1479440292816680990:0=0:=rfl
def tw4551586886017427205:0=0:=rfl
def tw7167780255434881355:0=0:=rfl
def tw12023000035769693673:0=0:=rfl
def tw6146999420328679401:0=0:=rfl
def tw10977381208538771487:0=0:=rfl
def tw13054651096227442229:0=0:=rfl
def tw7873400313799303876:0=0:=rfl
def tw10315466174217670915:0=0:=rfl
def tw8513013380502322827:0=0:=rfl
def tw6786659393958316216:0=0:=rfl
def tw461652223194966327:0=0:=rfl
def tw896392117091262416:0=0:=rfl
def tw10305269356859574647:0=0:=rfl
def tw1092365185724088631:0=0:=rfl
def tw18158035491867847236:0=0:=rfl
def tw13814786413287485596:0=0:=rfl
def tw9048594486883216300:0=0:=rfl
def tw11406844259604597016:0=0:=rfl
def tw5246501284691441710:0=0:=rfl
def tw9691164852092459200:0=0:=rfl
def tw17698727481433063041:0=0:=rfl
def tw1948366231462838307:0=0:=rfl
def tw12382532101624025837:0=0:=rfl
def tw6418394132375852581:0=0:=rfl
def tw7703145625051659290:0=0:=rfl
def tw14273016659237327726:0=0:=rfl
def tw5928093246952578990:0=0:=rfl
def tw11192297927005754250:0=0:=rfl
def tw9276349011584097663:0=0:=rfl
def tw13821990636101746223:0=0:=rfl
def tw8753742132941547738:0=0:=rfl
def tw10123922257226166911:0=0:=rfl
def tw7182486151376732564:0=0:=rfl
def tw9869680852686050949:0=0:=rfl
def tw4802584388902134580:0=0:=rfl
def tw2234841607322767675:0=0:=rfl
def tw15364902741380281815:0=0:=rfl
def tw17860502405603952497:0=0:=rfl
def tw10418821070498059912:0=0:=rfl
def tw13675884382191442351:0=0:=rfl
def tw17523582860893176437:0=0:=rfl
def tw9886747476611742599:0=0:=rfl
def tw10478568671102049440:0=0:=rfl
def tw5479632107175813453:0=0:=rfl
def tw7160675850246644485:0=0:=rfl
def tw12859282356559654918:0=0:=rfl
def tw2266067727031820928:0=0:=rfl
def tw15293771430684577509:0=0:=rfl
def tw4096336611382216148:0=0:=rfl
def tw4170544652312619650:0=0:=rfl
def tw1976320048464600139:0=0:=rfl
def tw12887234407305532606:0=0:=rfl
def tw5695148799593641189:0=0:=rfl
def tw1757259352951929482:0=0:=rfl
def tw8594091374061654533:0=0:=rfl
def tw597430841090971830:0=0:=rfl
def tw16808911903280404894:0=0:=rfl
def tw12328740410804925801:0=0:=rfl
def tw14084754144043732904:0=0:=rfl
def tw5487493568022846362:0=0:=rfl
def tw6342410221627838221:0=0:=rfl
def tw14357048138563382964:0=0:=rfl
def tw10521865142931584956:0=0:=rfl
def tw3278898641362494929:0=0:=rfl
def tw17587535071971633485:0=0:=rfl
def tw168201424540246993:0=0:=rfl
def tw3219386304998410691:0=0:=rfl
def tw17525284518677105772:0=0:=rfl
def tw15015567032572629849:0=0:=rfl
def tw13893224023628974537:0=0:=rfl
def tw15315578743034814116:0=0:=rfl
def tw12740448316850118660:0=0:=rfl
def tw18382448096889393371:0=0:=rfl
def tw6767105285010031935:0=0:=rfl
def tw18315960055377521309:0=0:=rfl
def tw12386524454841638718:0=0:=rfl
def tw3503359234994187029:0=0:=rfl
def tw9747750627657676039:0=0:=rfl
def tw17309730176458506095:0=0:=rfl
def tw17873168446024335648:0=0:=rfl
def tw13056049162108353537:0=0:=rfl
def tw18251112825599106275:0=0:=rfl
def tw5463311042859391544:0=0:=rfl
def tw8761934834357262393:0=0:=rfl
def tw3541772276978147337:0=0:=rfl
def tw12176083173453557179:0=0:=rfl
def tw14204155614346801693:0=0:=rfl
def tw7617803963422487118:0=0:=rfl
def tw17777096316016710046:0=0:=rfl
def tw12822435600720695279:0=0:=rfl
def tw15378620127687112918:0=0:=rfl
def tw14791417324727343718:0=0:=rfl
def tw3732530698148308345:0=0:=rfl
def tw9208106234588509766:0=0:=rfl
def tw3058765270845314565:0=0:=rfl
def tw2245258775325047736:0=0:=rfl
def tw3562850618612545023:0=0:=rfl
def tw11912248818721715553:0=0:=rfl
def tw13257976950880005937:0=0:=rfl
def tw9372208762206411727:0=0:=rfl
def tw15360700911483270650:0=0:=rfl
def tw5645415064246725200:0=0:=rfl
def tw7273997582074884960:0=0:=rfl
def tw10812026482400934424:0=0:=rfl
def tw12894091464228559451:0=0:=rfl
def tw11314117055357068600:0=0:=rfl
def tw11203017424089718567:0=0:=rfl
def tw10755821558809116012:0=0:=rfl
def tw9366875484532515407:0=0:=rfl
def tw14246127934150904186:0=0:=rfl
def tw10671393477618117455:0=0:=rfl
def tw12392441046977651542:0=0:=rfl
def tw4303922720696150026:0=0:=rfl
def tw11959612452944106126:0=0:=rfl
def tw4636975807341552304:0=0:=rfl
def tw7688735527202146115:0=0:=rfl
def tw10586524348924607906:0=0:=rfl
def tw15459919231471728178:0=0:=rfl
def tw15662535594664088486:0=0:=rfl
def tw2926546973763661384:0=0:=rfl
def tw18045596184195472670:0=0:=rfl
def tw4499872705259310715:0=0:=rfl
def tw13131669474384156130:0=0:=rfl
def tw10200596682531068870:0=0:=rfl
def tw3093505475390664035:0=0:=rfl
def tw2620797684545610549:0=0:=rfl
def tw4144914912218024235:0=0:=rfl
def tw14938594870626253136:0=0:=rfl
def tw14805315293902769111:0=0:=rfl
def tw13292936899121948504:0=0:=rfl
def tw1523658836675050804:0=0:=rfl
def tw11810988563341916252:0=0:=rfl
def tw5533284921534288411:0=0:=rfl
def tw17314117238199800277:0=0:=rfl
def tw2399103561582609577:0=0:=rfl
def tw1099769379720537770:0=0:=rfl
def tw9156451550823312209:0=0:=rfl
def tw13493074278026115540:0=0:=rfl
def tw541580609670479430:0=0:=rfl
def tw18134286326933579599:0=0:=rfl
def tw11747188248321908775:0=0:=rfl
def tw7587126088831727915:0=0:=rfl
def tw4427974247585970236:0=0:=rfl
def tw567898682632124531:0=0:=rfl
def tw14304563500966998132:0=0:=rfl
def tw7116993658995107447:0=0:=rfl
def tw14323767728887713897:0=0:=rfl
def tw1635092285416264557:0=0:=rfl
def tw11798513794507384182:0=0:=rfl
def tw16954684184137436936:0=0:=rfl
def tw18153037698230563350:0=0:=rfl
def tw15080681613647853314:0=0:=rfl
def tw9821591817271157005:0=0:=rfl
def tw1555437378128666086:0=0:=rfl
def tw4331374464667076758:0=0:=rfl
def tw5578469743405236373:0=0:=rfl
def tw9263913306972830034:0=0:=rfl
def tw14946310595379027892:0=0:=rfl
def tw8038203026324743289:0=0:=rfl
def tw4577393864431605276:0=0:=rfl
def tw12010918843540018363:0=0:=rfl
def tw358998308624483670:0=0:=rfl
def tw6425283475488350215:0=0:=rfl
def tw2871652266406334944:0=0:=rfl
def tw3434591014449323440:0=0:=rfl
def tw11243312107713688672:0=0:=rfl
def tw13673710656853086251:0=0:=rfl
def tw2938735568688020788:0=0:=rfl
def tw3227706676992921592:0=0:=rfl
def tw1979913288306733268:0=0:=rfl
def tw2811318038965151686:0=0:=rfl
def tw5278541085303473619:0=0:=rfl
def tw8386983601427270016:0=0:=rfl
def tw4794295470348331434:0=0:=rfl
def tw11122842944015723790:0=0:=rfl
def tw4068178545649160379:0=0:=rfl
def tw8827373875297307324:0=0:=rfl
def tw3692537525332797038:0=0:=rfl
def tw7498954019459421862:0=0:=rfl
def tw10731177294508112274:0=0:=rfl
def tw15455116640653406654:0=0:=rfl
def tw17772274698961265293:0=0:=rfl
def tw1728196956790604047:0=0:=rfl
def tw588414361728750325:0=0:=rfl
def tw8974285638726340953:0=0:=rfl
def tw1838016361993159935:0=0:=rfl
def tw3992577438768274325:0=0:=rfl
def tw17156858200166860814:0=0:=rfl
def tw9205932166849929317:0=0:=rfl
def tw10796147989822787844:0=0:=rfl
def tw1387449649885023538:0=0:=rfl
def tw16644201821892198081:0=0:=rfl
def tw8913407344586987475:0=0:=rfl
def tw8986037579572391120:0=0:=rfl
def tw1280408269989808285:0=0:=rfl
def tw11266129037736892665:0=0:=rfl
def tw5777426239950281674:0=0:=rfl
def tw11476253306716732098:0=0:=rfl
def tw4022063746063642947:0=0:=rfl
def tw17276195320934711480:0=0:=rfl
def tw17796897283461638403:0=0:=rfl
def tw9789424005658652060:0=0:=rfl
def tw5048557933796377899:0=0:=rfl
def tw1781748603270608967:0=0:=rfl
def tw2782680217427406503:0=0:=rfl
def tw16669484289434262652:0=0:=rfl
def tw3025108057812911590:0=0:=rfl
def tw4412262172769576561:0=0:=rfl
def tw9471604286028564565:0=0:=rfl
def tw17805375393286525145:0=0:=rfl
def tw16531839799347345522:0=0:=rfl
def tw9471679069698626803:0=0:=rfl
def tw13012100217145684311:0=0:=rfl
def tw16826218869028738250:0=0:=rfl
def tw16278950018613345595:0=0:=rfl
def tw16264488296547236668:0=0:=rfl
def tw9735997196182214540:0=0:=rfl
def tw13997896966902399118:0=0:=rfl
def tw10478317699744915354:0=0:=rfl
def tw1243817115420203540:0=0:=rfl
def tw4925474479639805574:0=0:=rfl
def tw16762059770042763196:0=0:=rfl
def tw12945714742577324819:0=0:=rfl
def tw3261694639857263868:0=0:=rfl
def tw10647877414073012905:0=0:=rfl
def tw14645323873262247986:0=0:=rfl
def tw18264486928267264063:0=0:=rfl
def tw15842043797858019231:0=0:=rfl
def tw16116582832771544909:0=0:=rfl
def tw18344054339320819672:0=0:=rfl
def tw3706051270626361977:0=0:=rfl
def tw10868664014757305031:0=0:=rfl
def tw15974211974722447953:0=0:=rfl
def tw16477624312948428049:0=0:=rfl
def tw5267257673517129457:0=0:=rfl
def tw5932558218160036093:0=0:=rfl
def tw12655525799616151746:0=0:=rfl
def tw4887793233202170652:0=0:=rfl
def tw6581903676286546102:0=0:=rfl
def tw14679928423975458991:0=0:=rfl
def tw3244765175273431187:0=0:=rfl
def tw16632024033765633173:0=0:=rfl
def tw5963049168890907350:0=0:=rfl
def tw6825794384878216377:0=0:=rfl
def tw4812048042432436358:0=0:=rfl
def tw8910540313397133072:0=0:=rfl
def tw13819635886744424586:0=0:=rfl
def tw10611771540298893143:0=0:=rfl
def tw6299529512197398807:0=0:=rfl
def tw17847010519790855202:0=0:=rfl
def tw4971707271873142875:0=0:=rfl
def tw324789982251995979:0=0:=rfl
def tw1450175648694293406:0=0:=rfl
def tw4451072393086977611:0=0:=rfl
def tw4323881887774741629:0=0:=rfl
def tw16049856711259736594:0=0:=rfl
def tw187721451887068916:0=0:=rfl
def tw12284123929361467263:0=0:=rfl
def tw15590289154827916315:0=0:=rfl
def tw5875580373042446662:0=0:=rfl
def tw12883188296171978019:0=0:=rfl
def tw1323028282283239234:0=0:=rfl
def tw12560559677533885675:0=0:=rfl
def tw69890677706110351:0=0:=rfl
def tw7575007369245600600:0=0:=rfl
def tw5411588774181628338:0=0:=rfl
def tw9357691260618757973:0=0:=rfl
def tw17480675751169399666:0=0:=rfl
def tw13185518256862622155:0=0:=rfl
def tw17132341959485951477:0=0:=rfl
def tw14739706128910411235:0=0:=rfl
def tw5486493490053360157:0=0:=rfl
def tw5914723586387771985:0=0:=rfl
def tw11521132717034644113:0=0:=rfl
def tw5630533868503338980:0=0:=rfl
def tw5636303146250169470:0=0:=rfl
def tw4085355107048368183:0=0:=rfl
def tw5270485755897854155:0=0:=rfl
def tw14234986236628817851:0=0:=rfl
def tw7746552458522460070:0=0:=rfl
def tw8057657703671246121:0=0:=rfl
def tw16655361398738801047:0=0:=rfl
def tw15797887610175988156:0=0:=rfl
def tw14263468659301548020:0=0:=rfl
def tw16655954734093074254:0=0:=rfl
def tw10981247840145607329:0=0:=rfl
def tw3731684781155429145:0=0:=rfl
def tw5848525411004977341:0=0:=rfl
def tw6103308179388321402:0=0:=rfl
def tw16869773528944115042:0=0:=rfl
def tw7107885837275350853:0=0:=rfl
def tw2945750046319874812:0=0:=rfl
def tw13878465386051367416:0=0:=rfl
def tw9745053878982180236:0=0:=rfl
def tw13043773894940636711:0=0:=rfl
def tw1992405202823017090:0=0:=rfl
def tw1575818370579092412:0=0:=rfl
def tw1769600823664482930:0=0:=rfl
def tw7524951473946329476:0=0:=rfl
def tw736559914600380603:0=0:=rfl
def tw16706120442794172161:0=0:=rfl
def tw14811596470062305402:0=0:=rfl
def tw12135065554953047620:0=0:=rfl
def tw10942831735398218583:0=0:=rfl
def tw4854229051247803819:0=0:=rfl
def tw7238881122909273056:0=0:=rfl
def tw3619886497775549814:0=0:=rfl
def tw4212550544905979133:0=0:=rfl
def tw11864378218710959652:0=0:=rfl
def tw11109855531362756974:0=0:=rfl
def tw1794401647697937491:0=0:=rfl
def tw16753368236840968061:0=0:=rfl
def tw7839861392634791998:0=0:=rfl
def tw13704628199583507327:0=0:=rfl
def tw778996663928911553:0=0:=rfl
def tw686202887544996913:0=0:=rfl
def tw14784423416584386534:0=0:=rfl
def tw567885990545472871:0=0:=rfl
def tw2365020520246788147:0=0:=rfl
def tw10604818783366450682:0=0:=rfl
def tw12398722771655946143:0=0:=rfl
def tw15709432073139065983:0=0:=rfl
def tw4812445951556440385:0=0:=rfl
def tw6585647535407982122:0=0:=rfl
def tw2316390732353752141:0=0:=rfl
def tw302456392228881760:0=0:=rfl
def tw1874159405358719183:0=0:=rfl
def tw8808839054081031943:0=0:=rfl
def tw17682009817383010814:0=0:=rfl
def tw344035087544949089:0=0:=rfl
def tw13291438424144138419:0=0:=rfl
def tw5558443091381482111:0=0:=rfl
def tw13268954446999921834:0=0:=rfl
def tw8048615277679874159:0=0:=rfl
def tw8994223850203857199:0=0:=rfl
def tw16064010049021166651:0=0:=rfl
def tw11980236560753437918:0=0:=rfl
def tw6383293400628747032:0=0:=rfl
def tw13414662886053400026:0=0:=rfl
def tw17214127696359073793:0=0:=rfl
def tw317002116052639653:0=0:=rfl
def tw4215820143475215781:0=0:=rfl
def tw7684266224416042558:0=0:=rfl
def tw3610102804104083065:0=0:=rfl
def tw8582838029754580635:0=0:=rfl
def tw432312013788014763:0=0:=rfl
def tw17263540893757438442:0=0:=rfl
def tw2942616286324163607:0=0:=rfl
def tw17877473435196805177:0=0:=rfl
def tw2107888079280393879:0=0:=rfl
def tw517724198027276119:0=0:=rfl
def tw10483159309910767364:0=0:=rfl
def tw17386589932338058259:0=0:=rfl
def tw5371229575969440175:0=0:=rfl
def tw8667539529067879:0=0:=rfl
def tw8624149140182123753:0=0:=rfl
def tw7903667746670248309:0=0:=rfl
def tw306268748803782688:0=0:=rfl
def tw8252906717003651694:0=0:=rfl
def tw18432477139146500567:0=0:=rfl
def tw10954896027920521500:0=0:=rfl
def tw3867037960071472045:0=0:=rfl
def tw17631733924889304326:0=0:=rfl
def tw6219950571994921479:0=0:=rfl
def tw12538513643702813137:0=0:=rfl
def tw9324410711738953788:0=0:=rfl
def tw16490958093706603973:0=0:=rfl
def tw2217210030526828308:0=0:=rfl
def tw18313958262992902728:0=0:=rfl
def tw9259770788124725997:0=0:=rfl
def tw10708561578853574150:0=0:=rfl
def tw10720887837350958406:0=0:=rfl
def tw367857026772771265:0=0:=rfl
def tw4854368506661825922:0=0:=rfl
def tw8138335841240258086:0=0:=rfl
def tw5662764230424782651:0=0:=rfl
def tw503780265075650398:0=0:=rfl
def tw8715333617671011236:0=0:=rfl
def tw7350544599812273793:0=0:=rfl
def tw3016420499884711631:0=0:=rfl
def tw336506951737951121:0=0:=rfl
def tw5197284449146708579:0=0:=rfl
def tw14523085412063620967:0=0:=rfl
def tw287947231083746679:0=0:=rfl
def tw11239992877300529265:0=0:=rfl
def tw2417802982746472137:0=0:=rfl
def tw7694040772201074070:0=0:=rfl
def tw5891310725916841985:0=0:=rfl
def tw5587868097446475073:0=0:=rfl
def tw5734481751687486110:0=0:=rfl
def tw11835290161127952913:0=0:=rfl
def tw11615864803445427873:0=0:=rfl
def tw14185234552157331069:0=0:=rfl
def tw6264115543738340563:0=0:=rfl
def tw1434398142359552746:0=0:=rfl
def tw3687686028191705147:0=0:=rfl
def tw8971800947757722863:0=0:=rfl
def tw5414534339726536707:0=0:=rfl
def tw10257909930514227660:0=0:=rfl
def tw10624226597165476215:0=0:=rfl
def tw12822537139662283243:0=0:=rfl
def tw16506212381159507844:0=0:=rfl
def tw5079330015975024831:0=0:=rfl
def tw1262521818313538117:0=0:=rfl
def tw4736157901138370405:0=0:=rfl
def tw10913585522690886933:0=0:=rfl
def tw12200847462783376755:0=0:=rfl
def tw11328591614603762405:0=0:=rfl
def tw8577123868205661300:0=0:=rfl
def tw5127809879845470621:0=0:=rfl
def tw7730664659590461041:0=0:=rfl
def tw17630102493349999429:0=0:=rfl
def tw4459829061737920120:0=0:=rfl
def tw4318662949951621594:0=0:=rfl
def tw13655080880385067533:0=0:=rfl
def tw596839332947609430:0=0:=rfl
def tw14260483616928936680:0=0:=rfl
def tw14642527364979015918:0=0:=rfl
def tw808681233213301776:0=0:=rfl
def tw12083575760338326149:0=0:=rfl
def tw12849525874377588401:0=0:=rfl
def tw3780787445193727532:0=0:=rfl
def tw17475676430395871877:0=0:=rfl
def tw14183143666670911114:0=0:=rfl
def tw9673087150982176410:0=0:=rfl
def tw6816647734673517018:0=0:=rfl
def tw16009306857160682382:0=0:=rfl
def tw11303375305619332179:0=0:=rfl
def tw15373592851439433439:0=0:=rfl
def tw6620819106319425202:0=0:=rfl
def tw12071501765572576511:0=0:=rfl
def tw2777310486606898128:0=0:=rfl
def tw4520646222491181370:0=0:=rfl
def tw3331922841121032985:0=0:=rfl
def tw7076120885198085643:0=0:=rfl
def tw124703635131657984:0=0:=rfl
def tw16118823824875299653:0=0:=rfl
def tw10991436397750085239:0=0:=rfl
def tw17581694313120579900:0=0:=rfl
def tw18342914789491032373:0=0:=rfl
def tw977017194038806211:0=0:=rfl
def tw15008555091322755903:0=0:=rfl
def tw7569833724000825925:0=0:=rfl
def tw15638330822065878545:0=0:=rfl
def tw6087493978418456603:0=0:=rfl
def tw12661178830731656644:0=0:=rfl
def tw4639630377994808837:0=0:=rfl
def tw17233589022662653838:0=0:=rfl
def tw5071737660975045499:0=0:=rfl
def tw16192249821931289364:0=0:=rfl
def tw17339922335847191533:0=0:=rfl
def tw3989794210015794800:0=0:=rfl
def tw628478076801646101:0=0:=rfl
def tw3495553720403181153:0=0:=rfl
def tw14874740015416403351:0=0:=rfl
def tw6778391522916555698:0=0:=rfl
def tw9119655138871107046:0=0:=rfl
def tw6902259678686825763:0=0:=rfl
def tw17033410494504267669:0=0:=rfl
def tw5221659035299412244:0=0:=rfl
def tw15722214150439884324:0=0:=rfl
def tw6196946367736269074:0=0:=rfl
def tw14851662188348016525:0=0:=rfl
def tw18146240232297413648:0=0:=rfl
def tw10950900528292386117:0=0:=rfl
def tw6034331834246549318:0=0:=rfl
def tw1086749501690163283:0=0:=rfl
def tw2944121130915620767:0=0:=rfl
def tw7536728726010098992:0=0:=rfl
def tw6809180150348452684:0=0:=rfl
def tw16698072605275554026:0=0:=rfl
def tw9257564877634915833:0=0:=rfl
def tw12289785986931056098:0=0:=rfl
def tw5139909716467530538:0=0:=rfl
def tw12402786825793880664:0=0:=rfl
def tw12675848167991613597:0=0:=rfl
def tw14831431034001966896:0=0:=rfl
def tw740585118569290451:0=0:=rfl
def tw15573792974875501539:0=0:=rfl
def tw9193979096431994668:0=0:=rfl
def tw4950615714455853267:0=0:=rfl
def tw3361780842719999595:0=0:=rfl
def tw16821842716671950988:0=0:=rfl
def tw7529130512179515739:0=0:=rfl
def tw17992777665364332788:0=0:=rfl
def tw5027669282166582034:0=0:=rfl
def tw14321712812228375884:0=0:=rfl
def tw7839665609038958061:0=0:=rfl
def tw4115823564253892186:0=0:=rfl
def tw6553926801971918991:0=0:=rfl
def tw8119415023574550399:0=0:=rfl
def tw2310416840173604703:0=0:=rfl
def tw14658465915341274893:0=0:=rfl
def tw18438121853782319176:0=0:=rfl
def tw14811076978495188195:0=0:=rfl
def tw10980597926105621645:0=0:=rfl
def tw231678842138440352:0=0:=rfl
def tw15232813378086664489:0=0:=rfl
def tw6060171853651468988:0=0:=rfl
def tw1002739005766175229:0=0:=rfl
def tw10961369148470160073:0=0:=rfl
def tw7430934849479919532:0=0:=rfl
def tw2766661427924329419:0=0:=rfl
def tw4329327081025809573:0=0:=rfl
def tw23902888720678887:0=0:=rfl
def tw10142378343001408303:0=0:=rfl
def tw12668248705197315709:0=0:=rfl
def tw14297191025539419138:0=0:=rfl
def tw8754232674301072984:0=0:=rfl
def tw10498207760515217633:0=0:=rfl
def tw2201769383853589397:0=0:=rfl
def tw6424439552836831324:0=0:=rfl
def tw7076078542390164920:0=0:=rfl
def tw11403675791532753748:0=0:=rfl
def tw9167245089561082170:0=0:=rfl
def tw15082021408330104867:0=0:=rfl
def tw7119652698235046276:0=0:=rfl
def tw1479959440485337153:0=0:=rfl
def tw5263473918493443672:0=0:=rfl
def tw15051540443700079324:0=0:=rfl
def tw17052650310773991273:0=0:=rfl
def tw10777565216647047016:0=0:=rfl
def tw420110763358337415:0=0:=rfl
def tw16607972267231536329:0=0:=rfl
def tw8978102704660224085:0=0:=rfl
def tw2655586099545260437:0=0:=rfl
def tw17510342927460740847:0=0:=rfl
def tw7760740165033458314:0=0:=rfl
def tw10126381309830911881:0=0:=rfl
def tw3877861454377741623:0=0:=rfl
def tw16148404707657748683:0=0:=rfl
def tw13308291806819139472:0=0:=rfl
def tw17051707027893714694:0=0:=rfl
def tw17287459089854585945:0=0:=rfl
def tw7882751426655431386:0=0:=rfl
def tw12621257661673282449:0=0:=rfl
def tw1523212933880916979:0=0:=rfl
def tw9321749180303621477:0=0:=rfl
def tw13238961998321641863:0=0:=rfl
def tw15163363291558411915:0=0:=rfl
def tw15127604789221709464:0=0:=rfl
def tw10258465067628124579:0=0:=rfl
def tw17059487216203745038:0=0:=rfl
def tw17924859569552203780:0=0:=rfl
def tw10850427885867537041:0=0:=rfl
def tw7104915865109316593:0=0:=rfl
def tw5739854752329258124:0=0:=rfl
def tw5759647067039785218:0=0:=rfl
def tw16912601836600679760:0=0:=rfl
def tw5512636732973679808:0=0:=rfl
def tw14979002361958829438:0=0:=rfl
def tw141379768648097825:0=0:=rfl
def tw14964370614067952720:0=0:=rfl
def tw4210854329550417504:0=0:=rfl
def tw5246941504419573690:0=0:=rfl
def tw4853578551445522630:0=0:=rfl
def tw1295079835146089599:0=0:=rfl
def tw4229197034057890473:0=0:=rfl
def tw12034656612786429262:0=0:=rfl
def tw16085002494570185179:0=0:=rfl
def tw16413547821465148756:0=0:=rfl
def tw13402166490378460096:0=0:=rfl
def tw856468140157597299:0=0:=rfl
def tw14056547237008328371:0=0:=rfl
def tw15313804776001833728:0=0:=rfl
def tw15834134325217734722:0=0:=rfl
def tw9716150944856294761:0=0:=rfl
def tw12904261374257909793:0=0:=rfl
def tw6236048102885228246:0=0:=rfl
def tw543636222009071611:0=0:=rfl
def tw15850850952774717093:0=0:=rfl
def tw16520977018256573966:0=0:=rfl
def tw11067640033378842373:0=0:=rfl
def tw18212267438146297484:0=0:=rfl
def tw10976678710191227778:0=0:=rfl
def tw9411467720932436458:0=0:=rfl
def tw14228869016593613808:0=0:=rfl
def tw16149103838541710524:0=0:=rfl
def tw15101716383203956559:0=0:=rfl
def tw7011742071773796823:0=0:=rfl
def tw8267077920821831787:0=0:=rfl
def tw3416535462228283139:0=0:=rfl
def tw5509933267665162965:0=0:=rfl
def tw5485745428226439581:0=0:=rfl
def tw11094289645390684026:0=0:=rfl
def tw2601553834287326237:0=0:=rfl
def tw7670109990956578547:0=0:=rfl
def tw10056392159520603492:0=0:=rfl
def tw17413402906406384846:0=0:=rfl
def tw7363439029260755892:0=0:=rfl
def tw5813924530853040166:0=0:=rfl
def tw603594558354810906:0=0:=rfl
def tw7504022934668878425:0=0:=rfl
def tw14661157006325481053:0=0:=rfl
def tw2202738052149791422:0=0:=rfl
def tw16279427001679887495:0=0:=rfl
def tw1886097375651017517:0=0:=rfl
def tw628826382804869247:0=0:=rfl
def tw13971359600739959757:0=0:=rfl
def tw9692193050773601005:0=0:=rfl
def tw3003183182289327622:0=0:=rfl
def tw4535849701284284645:0=0:=rfl
def tw9365843419700471067:0=0:=rfl
def tw15027813657048799489:0=0:=rfl
def tw16159750873741389634:0=0:=rfl
def tw3020274298221478276:0=0:=rfl
def tw8057519182687288901:0=0:=rfl
def tw1037384927157171198:0=0:=rfl
def tw8549678576505192021:0=0:=rfl
def tw5293970474611253079:0=0:=rfl
def tw7600283742025370008:0=0:=rfl
def tw7863745022479089229:0=0:=rfl
def tw4484312828943147451:0=0:=rfl
def tw17825077915755302112:0=0:=rfl
def tw1546340448729182881:0=0:=rfl
def tw7343300513203493971:0=0:=rfl
def tw8816488491593808883:0=0:=rfl
def tw15388080482858252691:0=0:=rfl
def tw639243900295364999:0=0:=rfl
def tw17438882437580071154:0=0:=rfl
def tw18174727709737113557:0=0:=rfl
def tw15793134307803792781:0=0:=rfl
def tw12468848272116607636:0=0:=rfl
def tw17220510071083114264:0=0:=rfl
def tw7404191238989333517:0=0:=rfl
def tw6362447207671622590:0=0:=rfl
def tw15872721093973134059:0=0:=rfl
def tw1041734066939551766:0=0:=rfl
def tw15342760918450512699:0=0:=rfl
def tw7685305048303408588:0=0:=rfl
def tw17106247454124805299:0=0:=rfl
def tw9572024549278143227:0=0:=rfl
def tw15468373810177246615:0=0:=rfl
def tw11015883113180050327:0=0:=rfl
def tw9724669041814001911:0=0:=rfl
def tw18260245816743181511:0=0:=rfl
def tw12343268692668775817:0=0:=rfl
def tw6942949338078487781:0=0:=rfl
def tw1311894858572065410:0=0:=rfl
def tw15831449180804048182:0=0:=rfl
def tw2395360589981782600:0=0:=rfl
def tw15441256140065102201:0=0:=rfl
def tw3434568106166762924:0=0:=rfl
def tw6714678847661489262:0=0:=rfl
def tw17573272137492337276:0=0:=rfl
def tw960524448959485159:0=0:=rfl
def tw16560290962428233049:0=0:=rfl
def tw11869846291161295793:0=0:=rfl
def tw6229570014629185221:0=0:=rfl
def tw5509500717763924342:0=0:=rfl
def tw3312639428575888987:0=0:=rfl
def tw1160317203684671307:0=0:=rfl
def tw4841115729618937879:0=0:=rfl
def tw15990409148406401000:0=0:=rfl
def tw820227566019061362:0=0:=rfl
def tw5165858259965997201:0=0:=rfl
def tw2796045569192068878:0=0:=rfl
def tw2873107717996512030:0=0:=rfl
def tw14194955961183906216:0=0:=rfl
def tw13641004847509316846:0=0:=rfl
def tw12093608987786060565:0=0:=rfl
def tw7098796662738865718:0=0:=rfl
def tw10098858484532871584:0=0:=rfl
def tw11008198952798666568:0=0:=rfl
def tw29851341024097229:0=0:=rfl
def tw7677069738282807967:0=0:=rfl
def tw3779012795390611018:0=0:=rfl
def tw16568257914760601096:0=0:=rfl
def tw6897007368991420636:0=0:=rfl
def tw17548301592722837999:0=0:=rfl
def tw5910955368310942365:0=0:=rfl
def tw16753856019293054950:0=0:=rfl
def tw15972110575474759679:0=0:=rfl
def tw1736350178976864181:0=0:=rfl
def tw6850404167445703353:0=0:=rfl
def tw8866890569696520983:0=0:=rfl
def tw16479881564531537609:0=0:=rfl
def tw6712101261821760373:0=0:=rfl
def tw2562384389655192718:0=0:=rfl
def tw13566373518162323693:0=0:=rfl
def tw1942723855846508794:0=0:=rfl
def tw9012918078620557602:0=0:=rfl
def tw8755810029303015932:0=0:=rfl
def tw8184985727622759877:0=0:=rfl
def tw3634642230348406242:0=0:=rfl
def tw11043565332798135927:0=0:=rfl
def tw7931173958741972122:0=0:=rfl
def tw17232693881448610366:0=0:=rfl
def tw4186443071834478652:0=0:=rfl
def tw8494178379519767217:0=0:=rfl
def tw9844633441911778520:0=0:=rfl
def tw6231300445862588781:0=0:=rfl
def tw18066960732618442621:0=0:=rfl
def tw7793654075249205795:0=0:=rfl
def tw8631647698044649071:0=0:=rfl
def tw13367688621499913182:0=0:=rfl
def tw3751741238260587452:0=0:=rfl
def tw17431136852173646437:0=0:=rfl
def tw8867138011813171871:0=0:=rfl
def tw17133045824648328273:0=0:=rfl
def tw8150992774993933158:0=0:=rfl
def tw5598066291311507204:0=0:=rfl
def tw11082318014727886095:0=0:=rfl
def tw3530395735491656021:0=0:=rfl
def tw6211407954914241527:0=0:=rfl
def tw16093596954561186164:0=0:=rfl
def tw12804790748501761660:0=0:=rfl
def tw6827767141150073894:0=0:=rfl
def tw7535887658832202149:0=0:=rfl
def tw1541199775450033235:0=0:=rfl
def tw16753550483799774095:0=0:=rfl
def tw8547976606474840627:0=0:=rfl
def tw6770055932767112551:0=0:=rfl
def tw8382594148505853963:0=0:=rfl
def tw15170166819509798712:0=0:=rfl
def tw73932630633417052:0=0:=rfl
def tw6156775387982992289:0=0:=rfl
def tw16582145984224169819:0=0:=rfl
def tw15068095265764424882:0=0:=rfl
def tw10982043714301441875:0=0:=rfl
def tw6496468359453899740:0=0:=rfl
def tw5667273915815168098:0=0:=rfl
def tw195797228579154521:0=0:=rfl
def tw2568273125106305562:0=0:=rfl
def tw8715868543458076471:0=0:=rfl
def tw10288849259350499405:0=0:=rfl
def tw2229498832506520899:0=0:=rfl
def tw15834621417332309486:0=0:=rfl
def tw6522067053726604020:0=0:=rfl
def tw7333407450560187677:0=0:=rfl
def tw6920564403339149048:0=0:=rfl
def tw10314690494331789408:0=0:=rfl
def tw15587043529229516289:0=0:=rfl
def tw11026102214843661311:0=0:=rfl
def tw8455509636433690358:0=0:=rfl
def tw3415153176103795331:0=0:=rfl
def tw9417033243287817803:0=0:=rfl
def tw10638500153800496621:0=0:=rfl
def tw13953861978323313743:0=0:=rfl
def tw3952330419289308013:0=0:=rfl
def tw15157931247601712807:0=0:=rfl
def tw13915988487920759594:0=0:=rfl
def tw870252485276807420:0=0:=rfl
def tw17148754175671867601:0=0:=rfl
def tw8943243362205933438:0=0:=rfl
def tw13005405145879189257:0=0:=rfl
def tw15769674674836675847:0=0:=rfl
def tw3731410014628475021:0=0:=rfl
def tw8434754763198761545:0=0:=rfl
def tw2038790695668725586:0=0:=rfl
def tw8620915925392604993:0=0:=rfl
def tw15210470473946732509:0=0:=rfl
def tw17776756044511651994:0=0:=rfl
def tw18257728168264807195:0=0:=rfl
def tw7690266627064258982:0=0:=rfl
def tw11170986363074059871:0=0:=rfl
def tw7081575712417257101:0=0:=rfl
def tw1131009196008226358:0=0:=rfl
def tw2485592187805179729:0=0:=rfl
def tw6915010725816912745:0=0:=rfl
def tw4429364384745439407:0=0:=rfl
def tw14766628837263464153:0=0:=rfl
def tw11911503445448643969:0=0:=rfl
def tw11155353856842241703:0=0:=rfl
def tw17282572219535590950:0=0:=rfl
def tw14154010076438239110:0=0:=rfl
def tw13229510803694398910:0=0:=rfl
def tw14473985656389049187:0=0:=rfl
def tw11574777934848296746:0=0:=rfl
def tw9368504840272485767:0=0:=rfl
def tw15643034517356785631:0=0:=rfl
def tw11423366701579904857:0=0:=rfl
def tw10898578532549830312:0=0:=rfl
def tw1672987069340362256:0=0:=rfl
def tw4292124644429209710:0=0:=rfl
def tw12927277143433365694:0=0:=rfl
def tw11966548221656425832:0=0:=rfl
def tw1764190043647282684:0=0:=rfl
def tw16782738593694554091:0=0:=rfl
def tw4947095375946911149:0=0:=rfl
def tw15265042437909298333:0=0:=rfl
def tw16611703323094282476:0=0:=rfl
def tw1322599901344629079:0=0:=rfl
def tw2634524516542322496:0=0:=rfl
def tw6254241358121603344:0=0:=rfl
def tw1626954789893016217:0=0:=rfl
def tw1664424002330261135:0=0:=rfl
def tw6235530936889558916:0=0:=rfl
def tw8218368388497587944:0=0:=rfl
def tw10287841801749109433:0=0:=rfl
def tw11833278902036403558:0=0:=rfl
def tw17438610683811369668:0=0:=rfl
def tw18224232547471651939:0=0:=rfl
def tw9959168783939394535:0=0:=rfl
def tw13309457129844289811:0=0:=rfl
def tw5635015706410844387:0=0:=rfl
def tw15208779795234195778:0=0:=rfl
def tw1235247223174674489:0=0:=rfl
def tw6387178735628264494:0=0:=rfl
def tw5104757751528397341:0=0:=rfl
def tw2241180450144564393:0=0:=rfl
def tw2337606911067854252:0=0:=rfl
def tw11350916983344032794:0=0:=rfl
def tw4437483791414902797:0=0:=rfl
def tw17245169477016047229:0=0:=rfl
def tw12387470312852788890:0=0:=rfl
def tw6232892379941588703:0=0:=rfl
def tw3241225366106811912:0=0:=rfl
def tw15858063859152535700:0=0:=rfl
def tw3394336870119047908:0=0:=rfl
def tw11990059301537373963:0=0:=rfl
def tw865256926295866735:0=0:=rfl
def tw6064361311239337953:0=0:=rfl
def tw12634883239147335504:0=0:=rfl
def tw2447612040936993662:0=0:=rfl
def tw11815352881546339388:0=0:=rfl
def tw17734745681671571602:0=0:=rfl
def tw5109750279720785074:0=0:=rfl
def tw15614994299816657964:0=0:=rfl
def tw10718497935973042336:0=0:=rfl
def tw4013227346040760583:0=0:=rfl
def tw3713774561306115620:0=0:=rfl
def tw13295757670020842875:0=0:=rfl
def tw803298182361166000:0=0:=rfl
def tw6350475880396880301:0=0:=rfl
def tw18225048404721366151:0=0:=rfl
def tw10168931427177779312:0=0:=rfl
def tw16898703421338395802:0=0:=rfl
def tw16347810527638631630:0=0:=rfl
def tw15768255177571059533:0=0:=rfl
def tw1601565571807774055:0=0:=rfl
def tw1658102840681255752:0=0:=rfl
def tw9061976029859154695:0=0:=rfl
def tw9687556985513317663:0=0:=rfl
def tw4568231203091369911:0=0:=rfl
def tw11445796338385990213:0=0:=rfl
def tw5462893749543862879:0=0:=rfl
def tw8980041911258296626:0=0:=rfl
def tw3420781838494593268:0=0:=rfl
def tw16629463414486148354:0=0:=rfl
def tw738775025143659625:0=0:=rfl
def tw4277449665417238038:0=0:=rfl
def tw7459606713180098869:0=0:=rfl
def tw4136307361423647539:0=0:=rfl
def tw11978532268704778355:0=0:=rfl
def tw1737164910517545198:0=0:=rfl
def tw9503991325330020860:0=0:=rfl
def tw4455062051430825911:0=0:=rfl
def tw8993227998240613506:0=0:=rfl
def tw13721701085657304472:0=0:=rfl
def tw6721296464632655532:0=0:=rfl
def tw9625954409417532054:0=0:=rfl
def tw2114883523508822293:0=0:=rfl
def tw3062554034549116351:0=0:=rfl
def tw8223273226496171019:0=0:=rfl
def tw6275758757913814308:0=0:=rfl
def tw7230039626435586406:0=0:=rfl
def tw16368629955692084229:0=0:=rfl
def tw1884399729814107754:0=0:=rfl
def tw8376689464294639256:0=0:=rfl
def tw16633321846759511662:0=0:=rfl
def tw10002268660128649252:0=0:=rfl
def tw10554151724961605560:0=0:=rfl
def tw2343039922362307056:0=0:=rfl
def tw4790182246096814837:0=0:=rfl
def tw2364733319659085324:0=0:=rfl
def tw11537399940052880508:0=0:=rfl
def tw10419372455594056456:0=0:=rfl
def tw13603198493218928432:0=0:=rfl
def tw1083652316349211561:0=0:=rfl
def tw5764951542481038590:0=0:=rfl
def tw17419490979579898423:0=0:=rfl
def tw4494026699480025259:0=0:=rfl
def tw10237519161082142411:0=0:=rfl
def tw13702962655247883447:0=0:=rfl
def tw2560931123470285748:0=0:=rfl
def tw18061153546308781385:0=0:=rfl
def tw15972030042294211563:0=0:=rfl
def tw14497964095726069059:0=0:=rfl
def tw6831225638078743562:0=0:=rfl
def tw12652299772924304202:0=0:=rfl
def tw2307930045212491506:0=0:=rfl
def tw16732195475098059574:0=0:=rfl
def tw8904193203061881282:0=0:=rfl
def tw5727967610002061669:0=0:=rfl
def tw17259825775893236993:0=0:=rfl
def tw17764615713609121955:0=0:=rfl
def tw4544679596462431387:0=0:=rfl
def tw2974339514598981336:0=0:=rfl
def tw4413494717353474276:0=0:=rfl
def tw16331016480089262388:0=0:=rfl
def tw13082511223303912029:0=0:=rfl
def tw2068406123592202298:0=0:=rfl
def tw6679102955309959600:0=0:=rfl
def tw8621839932002950188:0=0:=rfl
def tw17597415741657687795:0=0:=rfl
def tw14076141398139754965:0=0:=rfl
def tw7349092456717908193:0=0:=rfl
def tw11623240451586125619:0=0:=rfl
def tw1122436896229213571:0=0:=rfl
def tw2414695876002994979:0=0:=rfl
def tw7719632045839163205:0=0:=rfl
def tw17748941975480150062:0=0:=rfl
def tw16575594610192822480:0=0:=rfl
def tw15362009611261821448:0=0:=rfl
def tw5725608563912678902:0=0:=rfl
def tw18272491874396864091:0=0:=rfl
def tw10662918880931068272:0=0:=rfl
def tw13029036752043021494:0=0:=rfl
def tw14903521294893836149:0=0:=rfl
def tw9003164874222133143:0=0:=rfl
def tw9309459007353498140:0=0:=rfl
def tw6671535061982701834:0=0:=rfl
def tw3916285193714390168:0=0:=rfl
def tw8001206370205753959:0=0:=rfl
def tw18403829441425892717:0=0:=rfl
def tw27347020408234108:0=0:=rfl
def tw12917748928761252462:0=0:=rfl
def tw17792526076716820980:0=0:=rfl
def tw1802135716158502341:0=0:=rfl
def tw1665519426611977725:0=0:=rfl
def tw3284363174483386244:0=0:=rfl
def tw14662617371843658649:0=0:=rfl
def tw11745692727488381282:0=0:=rfl
def tw16738745784312259678:0=0:=rfl
def tw5504556581544584004:0=0:=rfl
def tw18280231356768202928:0=0:=rfl
def tw10334311738655131207:0=0:=rfl
def tw5489698587151705762:0=0:=rfl
def tw546453376004863633:0=0:=rfl
def tw16609110625150722024:0=0:=rfl
def tw13707482908480027769:0=0:=rfl
def tw9539737241629129775:0=0:=rfl
def tw4153822554230765228:0=0:=rfl
def tw12305008260806041468:0=0:=rfl
def tw12113259657773216964:0=0:=rfl
def tw6586001862233079623:0=0:=rfl
def tw5129100327938481947:0=0:=rfl
def tw5155557033790407861:0=0:=rfl
def tw17078526466157459939:0=0:=rfl
def tw4011730449221504619:0=0:=rfl
def tw17082179047947594277:0=0:=rfl
def tw15575071372768740936:0=0:=rfl
def tw1525885583670464380:0=0:=rfl
def tw5766817342387943034:0=0:=rfl
def tw10652557068286136655:0=0:=rfl
def tw15876243489191307597:0=0:=rfl
def tw2454814033019696937:0=0:=rfl
def tw5791980126387539862:0=0:=rfl
def tw16607784696358226408:0=0:=rfl
def tw5339606861080546426:0=0:=rfl
def tw10314814847376767113:0=0:=rfl
def tw16271221263835843588:0=0:=rfl
def tw84667575568586083:0=0:=rfl
def tw10503033235834121926:0=0:=rfl
def tw15741303081692602393:0=0:=rfl
def tw8620886767091428669:0=0:=rfl
def tw17085629754188750694:0=0:=rfl
def tw7808421317679229744:0=0:=rfl
def tw11680542252808841068:0=0:=rfl
def tw7075670792697189723:0=0:=rfl
def tw1984363972637095396:0=0:=rfl
def tw13565630665325419216:0=0:=rfl
def tw14616110268253331021:0=0:=rfl
def tw10819485041398963147:0=0:=rfl
def tw4026838921711094595:0=0:=rfl
def tw6038658630603023450:0=0:=rfl
def tw15925481048366180601:0=0:=rfl
def tw4834755124440303813:0=0:=rfl
def tw896041191675105985:0=0:=rfl
def tw11862501624678476012:0=0:=rfl
def tw4836071039612271888:0=0:=rfl
def tw11432382262962725059:0=0:=rfl
def tw11973842944795041657:0=0:=rfl
def tw7955698833483038738:0=0:=rfl
def tw12277506284110850577:0=0:=rfl
def tw17662925508944244659:0=0:=rfl
def tw18001230695176581838:0=0:=rfl
def tw14252316831149585619:0=0:=rfl
def tw2223425423447361994:0=0:=rfl
def tw7086048481527543654:0=0:=rfl
def tw10407268118452713368:0=0:=rfl
def tw15161326946880079398:0=0:=rfl
def tw2738606659493605458:0=0:=rfl
def tw14041867575472867259:0=0:=rfl
def tw2848176756851099411:0=0:=rfl
def tw9308985633192247253:0=0:=rfl
def tw2521811729287596220:0=0:=rfl
def tw3957676037438438435:0=0:=rfl
def tw5765981979616339262:0=0:=rfl
def tw1298781202104834068:0=0:=rfl
def tw3929644205436876891:0=0:=rfl
def tw5063007335932810957:0=0:=rfl
def tw14487415735459167684:0=0:=rfl
def tw17110113439582799386:0=0:=rfl
def tw7155325772150460729:0=0:=rfl
def tw15230860919284253270:0=0:=rfl
def tw17316199666452605741:0=0:=rfl
def tw2394875097976081641:0=0:=rfl
def tw15722331224553798755:0=0:=rfl
def tw4795873937789857368:0=0:=rfl
def tw14117766483522153913:0=0:=rfl
def tw13253541544203528774:0=0:=rfl
def tw4445787948887339598:0=0:=rfl
def tw6888037770979986429:0=0:=rfl
def tw2198320190079138372:0=0:=rfl
def tw5330046652437701267:0=0:=rfl
def tw7416751222084276281:0=0:=rfl
def tw9826395005243518002:0=0:=rfl
def tw1480571949376996046:0=0:=rfl
def tw428484052712917160:0=0:=rfl
def tw3703956732320662906:0=0:=rfl
def tw781112392691160112:0=0:=rfl
def tw16300260667763138969:0=0:=rfl
def tw9240168550403210075:0=0:=rfl
def tw15775876202546382854:0=0:=rfl
def tw9742114404145244758:0=0:=rfl
def tw3847808745515736820:0=0:=rfl
def tw11080624332738626378:0=0:=rfl
def tw15473961653952966477:0=0:=rfl
def tw11570111164570437037:0=0:=rfl
def tw6320518386173553733:0=0:=rfl
def tw9046533771756868877:0=0:=rfl
def tw168994441188853045:0=0:=rfl
def tw11812990402858981387:0=0:=rfl
def tw5880942000477913613:0=0:=rfl
def tw3009570038974986837:0=0:=rfl
def tw6178398987995114456:0=0:=rfl
def tw11796111409470358493:0=0:=rfl
def tw6409171298767135804:0=0:=rfl
def tw14330866029970894518:0=0:=rfl
def tw17400269666878754592:0=0:=rfl
def tw5855808228747519183:0=0:=rfl
end Mine.Internal.hd
open PySem PySem.W PyProof.Rows Mine.Internal in
theorem Mine.Internal.hd : PySem.Challenge.rw_qz0041_02.Holds := by
  w_on; o_law; k_head; (case hw => w_witness2)
  w_strict (
    k_fill
    intro w s₀ s₁ mg mb G Y fa o pm cd doc dV kV ho hd hcd hD hmg hg args vals as hpre hlay hrd hwl hlo
    have KX := kIn_of Y
    refine Ground.open G ?_
    intro T B D TE TW
    clear D
    wrow_args hpre hlay hrd hwl hlo
    refine enter_call ?_
    refine codeAny_mono ?_ (fun _ _ g => GoodW.toG g)
    refine MO KX T hmg hg (by assumption) (by omega) ?_ ?_ ?_ ?_ ?_ ?_ ?_ ?_
    · kernel_rfl
    · intro cls; rfl
    · kernel_rfl
    · kernel_rfl
    · kernel_rfl
    · kernel_rfl
    · exact ⟨by kernel_rfl, by kernel_rfl, by kernel_rfl, by kernel_rfl, by kernel_rfl, by kernel_rfl, by kernel_rfl, by kernel_rfl, by kernel_rfl, by kernel_rfl, by kernel_rfl⟩
    · exact IW (fun _ => ⟨by kernel_rfl, bind1 rfl fun a => by kernel_rfl⟩) (fun _ => ⟨by kernel_rfl, QK rfl fun a b => by kernel_rfl⟩) (fun _ => ⟨by kernel_rfl, bind1 rfl fun a => by kernel_rfl⟩) (fun _ => ⟨by kernel_rfl, QL rfl fun a b c => by kernel_rfl⟩) (fun _ => ⟨by kernel_rfl, QK rfl fun a b => by kernel_rfl⟩) (fun _ => ⟨by kernel_rfl, QM rfl fun a b c d => by kernel_rfl⟩) (fun _ => ⟨by kernel_rfl, QM rfl fun a b c d => by kernel_rfl⟩) (fun _ => ⟨by kernel_rfl, bind1 rfl fun a => by kernel_rfl⟩) (fun _ => ⟨by kernel_rfl, QK rfl fun a b => by kernel_rfl⟩) (fun _ => ⟨by kernel_rfl, QK rfl fun a b => by kernel_rfl⟩) (fun _ => ⟨by kernel_rfl, QL rfl fun a b c => by kernel_rfl⟩) (fun _ => ⟨by kernel_rfl, QM rfl fun a b c d => by kernel_rfl⟩) (fun _ => ⟨by kernel_rfl, QL rfl fun a b c => by kernel_rfl⟩) (fun _ => ⟨by kernel_rfl, QK rfl fun a b => by kernel_rfl⟩) (fun _ => ⟨by kernel_rfl, QN rfl fun a b c d e => by kernel_rfl⟩) (fun _ => ⟨by kernel_rfl, QK rfl fun a b => by kernel_rfl⟩) (fun _ => ⟨by kernel_rfl, QM rfl fun a b c d => by kernel_rfl⟩) (fun _ => ⟨by kernel_rfl, bind1 rfl fun a => by kernel_rfl⟩) (fun _ => ⟨by kernel_rfl, QK rfl fun a b => by kernel_rfl⟩) (fun _ => ⟨by kernel_rfl, QM rfl fun a b c d => by kernel_rfl⟩) (fun _ => ⟨by kernel_rfl, QK rfl fun a b => by kernel_rfl⟩) (fun _ => ⟨by kernel_rfl, QM rfl fun a b c d => by kernel_rfl⟩) (fun _ => ⟨by kernel_rfl, QL rfl fun a b c => by kernel_rfl⟩) (fun _ => ⟨by kernel_rfl, QM rfl fun a b c d => by kernel_rfl⟩) (fun _ => ⟨by kernel_rfl, QK rfl fun a b => by kernel_rfl⟩) (fun _ => ⟨by kernel_rfl, QK rfl fun a b => by kernel_rfl⟩) (fun _ => ⟨by kernel_rfl, QN rfl fun a b c d e => by kernel_rfl⟩) (fun _ => ⟨by kernel_rfl, QK rfl fun a b => by kernel_rfl⟩) (fun _ => ⟨by kernel_rfl, QK rfl fun a b => by kernel_rfl⟩) (fun _ => ⟨by kernel_rfl, QK rfl fun a b => by kernel_rfl⟩) (fun _ => ⟨by kernel_rfl, QK rfl fun a b => by kernel_rfl⟩) (fun _ => ⟨by kernel_rfl, QK rfl fun a b => by kernel_rfl⟩) (fun _ => ⟨by kernel_rfl, QK rfl fun a b => by kernel_rfl⟩) (fun _ => ⟨by kernel_rfl, QM rfl fun a b c d => by kernel_rfl⟩) (fun _ => ⟨by kernel_rfl, QK rfl fun a b => by kernel_rfl⟩) (fun _ => ⟨by kernel_rfl, QK rfl fun a b => by kernel_rfl⟩) ⟨by kernel_rfl, by kernel_rfl, by kernel_rfl, by kernel_rfl, by kernel_rfl⟩ ⟨by kernel_rfl, by kernel_rfl, by kernel_rfl, by kernel_rfl, by kernel_rfl⟩ (by kernel_rfl) (by kernel_rfl) (by kernel_rfl) (by kernel_rfl) (by kernel_rfl) (by kernel_rfl))
theorem PySem.Challenge.cw_qz0041_02_holds : PySem.Challenge.rw_qz0041_02.Holds :=
  Mine.Internal.hd
