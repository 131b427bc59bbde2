import PyProof.Rows.All
import Wide.All
import OpenK.AllK
import Wide.FinOn
import PySem.Challenge.RW_xm0220_01
set_option Elab.async false
set_option maxRecDepth 1000000
set_option maxHeartbeats 8000000
set_option linter.all false
set_option genSizeOf false
set_option genInjectivity false
set_option genCtorIdx false
set_option bootstrap.genMatcherCode false
open Option renaming some->Wb,none->Wc,casesOn->Wo,map_eq_some_iff->WD,isSome_iff_exists->Xt,isNone_iff_eq_none->Yv,bind_eq_some_iff->aak,isSome_eq_false_iff->abm,map->adp,bind_some->ad5,map_some->aek,some->aff,elim->afl
open Bool renaming true->Wd,false->We,casesOn->Wn,or_eq_false_iff->WJ,and_eq_true->W5,and_eq_true_iff->Xe,false_ne_true->Xr,not_eq_true'->Xy,or_eq_true_iff->XR,or_eq_true->XX,not_eq_false'->XY,and_false->aat,not_true->aaH,false_eq_true->abi,noConfusion->abH,or_false->adh,or_true->adC,not_eq_true->adW,not_false->aeu,and_true->aeP
open Nat renaming beq->Wf,le_of_ble_eq_true->Wg,le_trans->Wj,beq_refl->Wx,ble_eq_true_of_le->Wy,blt->WR,le_of_add_right_le->WZ,le_add_right->W0,add_le_add_left->W2,succ_le_succ->W9,lt_of_le_of_lt->Xi,le_of_lt->Xj,le_refl->Xk,le_of_eq->Xo,le_succ->Xp,zero_le->Xz,ne_of_lt->XA,lt_succ_self->XG,add_le_add_right->XP,ble->XQ,le_of_add_left_le->XT,succ_pos->XU,zero_add->XW,succ_ne_self->XZ,succ_ne_zero->Yc,lt_add_of_pos_right->Yg,lt_of_add_right_lt->Ym,le_of_not_lt->Yq,le_add_left->Yy,lt_succ_of_le->YB,add_assoc->YE,succ_add_eq_add_succ->YH,sub_add_cancel->YN,lt_trans->YQ,add_le_add->Y2,ne_of_gt->Y4,le_add_right_of_le->aap,sub_pos_of_lt->aaq,lt_succ_of_lt->aax,not_lt_of_le->aaC,lt_irrefl->aaI,le_antisymm->aaT,not_lt_zero->aaU,mul_le_mul_left->aaX,div->aaZ,add_comm->aa0,add_right_comm->aba,le_succ_of_le->abt,le_of_lt_succ->abu,le_of_succ_le->abw,lt_log2_self->abN,div_eq_of_lt->abU,succ_pred_eq_of_pos->abW,lt_of_succ_lt_succ->ab9,sub_ne_zero_of_lt->acm,sub_eq_zero_of_le->acq,le_sub_of_add_le->acE,succ->acF,add_sub_cancel'->ac8,add_lt_add_left->ac9,lt_of_lt_of_le->ads,eq_zero_or_pos->adv,mod->adA,lt_or_ge->adI,lt_add_right->adU,mod_eq_of_lt->adX,log2_lt->aec,strongRecOn->aeg,min_eq_left->aei,mod_lt->aey,succ_add->aeY,pow_succ->aeZ,mul_comm->ae0
open PySem renaming wpAny_bind->Wh,Shared->Wl,Value->Wm,wpAny_pure->Wq,wpAny->Ws,model->Wt,Around->WN,DictEntry->WY,Expr->W3,wpAny_holding->W6,wpAny_standAt->W7,wpAny_mono->Xg,wpAny_loadPart_at->Xq,constantsAlone->Xv,Comprehension->XH,sysModules->XJ,mainGlobals->XS,sizeLine_eq->X0,wpAny_isSubtype_exc->X6,NameKind->Ya,cellsFrom->Yd,Program->Yi,starEach->Yl,sizeLine->Ys,codeAny->Yu,wpAny_truthy_bool->Yz,wpAny_dictEntries->YA,builtinsNs->YF,foldedForSure->YI,wpAny_call_entry->YL,strKind_is->YR,letOwnedTupleGo->YT,wpAny_execs_nil->YU,holding->YW,standAt->Y5,World->Y6,swappedStores->aac,BoolOp->aaf,wpAny_call->aah,backTo->aas,assign->aay,assignStores->aaz,checkBuiltinCall->aaG,codeAny_call_builtin->aaO,wpAny_field->aaQ,wpAny_richCompare_same_room->aa4,compareOp->aa7,swapsWith->aa8,clausesOf->aa9,findBy->abe,wpAny_loadPart->abg,typeIs_str->abh,wpAny_rule->abj,call_meets->abl,assignEach->abn,CmpOp->abr,wpAny_dictFind_of->abx,dictSet->aby,wpAny_pyIter_list->abz,isTrue->abA,wpAny_assignInOrder_more->abG,Operator->abI,codeAmong->abO,wpAny_askSetting->abQ,wpAny_lookBehind->abR,pastItsLine_dict->abT,slot_list_getitem->abV,noFill_tuple_add->abX,wpAny_callSpecial?_slot->ab0,slot_list_setitem->ab1,pushCells->ab2,spliced->ab4,typeLookup->ab6,wpAny_allTrue_And_cons->acb,concat_meets->acc,rawInt->acd,cameBackBy->ace,wpAny_pyNext_list_item->acg,Result->ach,instanceDict->aci,cLine->acj,codeAny_of_tree->acl,wpAny_notOrdered_dict->acs,wpAny_allTrue_Or_cons->acw,codeAny_call_function->acy,wpAny_storeName_local->acB,wpAny_pyNext_list_end->acC,wpAny_pyIter_listiter->acD,FuncData->acH,wpAny_loadName_local->acL,Model->acN,wpAny_ite_true->acS,binaryOp->acV,wpAny_alloc->acW,wpAny_setField->acX,callWith->acY,compTurn->ac1,compPost->ac2,wpAny_newFunctionEnv->ac3,setFlight->ac5,getMethod->ac6,setItem->ac7,ExceptHandler->adg,Scope->adi,wpAny_newList->adj,seq_tuple_add->adl,frameOf->adm,wpAny_release->adn,comprehension->ado,wpAny_Constant_int->adt,findBy_of_findIdx?->adu,wpAny_setSeqItemAt->adw,getMethod_builtin->adM,wpAny_assign_Name->adN,foldedSetIterable->adO,wpAny_pyIter_enum->adP,wpAny_sequenceKey->adQ,wpAny_Assign_Name->adS,bootBuiltins->adT,wpAny_isInstance->adZ,noteFrame->ad0,exec_Return_some->ad4,Fin->ad7,wpAny_madeBy_exc->ad8,ClassData->ad9,getAttrByItsOwn->aej,wpAny_dictEpoch->ael,wpAny_dropValue->aen,pushCells_keeps->aeo,setAttr->aep,getItem->aeq,wpAny_Name->aew,execs->aeB,bindArgs->aeC,pyIter->aeJ,bindName->aeK,closureFor->aeL,handleBy->aeN,TriplesOk->aeS,raiseStmt->aeX,getAttr->ae3,Builtin->ae4,notedBy->ae8,pyNext->afa,Params->afb
open Option.some renaming inj->Wi
open List renaming length_map->Wp,length_append->Wu,casesOn->Wv,mem_cons->Ww,mem_map->Wz,not_mem_nil->WA,map_append->WM,size_toArray->WP,mem_singleton->WQ,mem_cons_self->WU,mem_append->WV,mem_filter->W1,mem_cons_of_mem->W8,length_cons->Xa,all_eq_true->Xb,lookup_cons->Xl,getElem?_eq_some_iff->Xn,map_cons->Xs,nodup_cons->Xu,append_assoc->Xw,map_map->XB,filter_cons->XF,length_filter_le->XI,any_eq_false->XN,mem_of_getElem?->X1,filterMap_cons->X5,append_nil->X7,getElem?_append_left->X8,pairwise_cons->Yb,any_cons->Yf,map_eq_nil_iff->Yk,any_eq_true->YK,getElem?_set_self->YO,filter_eq_nil_iff->YP,nodup_append->YV,getElem?_map->YY,getElem?_set_ne->YZ,length->Y0,nodup_nil->Y3,drop_eq_getElem_cons->Y7,getElem?_eq_getElem->Y8,find?_cons->aae,range->aag,drop_eq_nil_of_le->aao,getElem?_eq_none->aaB,length_drop->aaD,isEmpty_iff->aaE,all_cons->aaJ,dropLast_concat->aaL,eq_nil_of_length_eq_zero->aaP,length_set->aaR,length_nil->aaS,forIn_cons->aaW,getElem?_drop->abb,append_of_mem->abc,find?_toArray->abf,getD_eq_getElem?_getD->abk,append_inj'->abK,cons_append->abL,length_take->abM,getElem?_singleton->abP,pairwise_singleton->abY,range_succ_eq_map->ab8,eq_nil_or_concat->acn,concat_eq_append->aco,mem_append_right->acp,cons_lt_cons_iff->acv,getLast?_concat->acG,getElem?_append->acJ,range'->acQ,filter_append->adq,any_map->adB,pairwise_map->adD,length_range->adE,reverse_cons->adR,any_toArray->adV,range'_succ->adY,getElem_mem->ad3,map_reverse->ad6,lookup->aed,not_lt->aee,any_append->aeh,tail_drop->aet,mem_range->aev,le_trans->aeQ,all_map->ae5,map->afg,find?->afo
open PySem.Heap renaming get?_push_of_some->Wr,get?_push_size->WW,get?_update_other->Xd,get?_none_of_le->Xf,get?_update_self->XM,lt_size->Yo,size_push->Yt,SameBut->YD
open PySem.PyData renaming keyHash->W4
open PySem.Challenge renaming rw_xm0220_01->Xc
open PySem.NameKind renaming noConfusion->Xh,free->Yp,cell->aad
open PySem.Value renaming isStrOf->Xm,ref->YM,bool->aeE,type->afs
open PySem.W renaming dictOf->XE,findIn->X4,looks_findIn->aau,takerIn->aa2,ghostOf->aa6,isStr_of->abd,findObj_own->abv,instObj->ab3,keepIn->acf,handedIn->acI,CodeHd->acK,looks_clsIn->acO,hasDictIn->ac4,look_both->aea,clsIn->aef,typeIn->aeF,Looks->aeM,plainOver->aeT,get_value->aeU,set_plain->aeV,emptyDict->aeW,tabObj->ae1,getL->ae2
open PySem.F renaming excBase_Exception->X9,slot_str_split->YS,args_tuple_add_2->aaa,args_str_split_2->aab,entry_tuple_add->aal,entry_str_split->aan,slot_tuple_add->aaw,slot_dict_setitem->abq,slot_str_getitem->abB,slot_list_extend->abC,slot_list_remove->abE,sub_dict_dict->acu,slot_list_pop->acz,slot_dict_get->acA,slot_dict_eq->acT,slot_dict_ne->acU
open List.cons renaming inj->Ye
open Classical renaming propDecidable->Yh,byContradiction->Yw
open ForInStep renaming yield->Yj
open PySem.Builtin.Dict renaming samePairs->Yn,dictSlotArgs->abp,showsAll->acr
open Int renaming natCast_nonneg->Yr,ofNat->YJ,fmod_nonneg_of_pos->aar,fmod->aaK,negSucc_lt_zero->aaY,ofNat_lt->aa1,fdiv->abJ,ofNat_le->ab7,neg_le_neg->acP,subNatNat_of_le->ada,toNat_lt->adF,le_trans->adG,add_nonneg->aeI,negSucc->afi
open Array renaming getElem?_eq_getElem->Yx,findIdx?_eq_some_iff_getElem->aai,mem_toList_iff->aaN,toList_inj->abZ
open PySem.Around renaming frames_deeper->YC
open PySem.Obj renaming mapFields->YG,data_mapFields->aaj,isFreed_of_fields->acx,mapSeq->aeG,putName->afh
open PyProof.Rows renaming StrsAre->YX,slot_tuple_getitem->aaA,IsTup->aaM,listItems_at->adL,Call_Name->ad2,modules_low->aeb,tail_any->aez,callWith_type->aeD
open PySem.BoolOp renaming casesOn->Y1
open List.Pairwise renaming imp_of_mem->Y9,nil->aft
open PySem.Builtin.Str renaming occurrences->aam,partsBetween->abF,strKind->adf,strSliceIndices->aer
open Nat.succ renaming inj->aav
open PySem.SeqAt renaming EqAt->aaF,RcNeAt->aa3,RcAt->aca
open PySem.Builtin renaming divisionGoesByPylong->aaV
open PySem.Builtin.List renaming listExtendWith->aa5,listFitsIndex->abo,listTooLong->abD,listSubscript?->aes
open PySem.Data renaming pastItsLine->abS
open PySem.Calls renaming spliced_cons->ab5,spliced_nil->acM,callWith_builtin->ad1
open PySem.SeqAt.EqAt renaming same->ack
open Std.Legacy.Range renaming forIn_eq_forIn_range'->acR,size->afe
open PySem.Value.type renaming inj->acZ
open PySem.AutoListH renaming list_append_list_val_0->ac0
open PySem.SeqAt.RcNeAt renaming tuples->adb,lists_lengths->aeA,none_none->ae6,bool_bool->ae7,none_str->afc,str_none->afd,int_int->afj,str_str->afk,lists->afq
open PySem.Builtin.Int renaming intBits->adc
open PySem.EntryCells renaming newEntry->ade
open PySem.Value.ref renaming inj->adk
open PySem.ScopeKind renaming function->adx
open PySem.Manifest renaming canonical->ady
open PySem.Code renaming quiet_builtin->adz
open PySem.SeqAt.RcAt renaming tuples->adH
open PySem.StrLaws renaming found_one->adJ
open PySem.Str renaming ofString->adK
open PySem.MeetsSeq renaming list_pop_last->aem,list_remove->aeH,EqGives->ae9
open PySem.W.Looks renaming here->aex,of_pure->aeR
open Int.ofNat renaming inj->aeO
open Prod.mk renaming inj->afm
open PySem.W.ReadsW renaming bool->afn
open PySem.Heap.IsSliceOf renaming new->afp
open PUnit renaming unit->afr
noncomputable section
open PySem
namespace Mine
theorem BJ(a b:Nat):a+1+b=a+(b+1):=aeY a b
theorem LH{a b c:Nat}(h:a+(b+1)<=c):a+1+b<=c:=Wj (Xo (BJ a b)) h
theorem MK{a b c d:Nat}(h:a<=b+1)(g:b+(c+1)<=d):a+c<=d:=Wj (XP h c) (LH g)
theorem qC{a b c:Nat}(h:a<=b)(g:XQ b c=Wd):a<=c:=Wj h (Wg g)
theorem BK{a k j:Nat}(h:Wf k j=We):a+k≠a+j:=fun e=>by
 rw[Nat.add_left_cancel e,Wx] at h;exact abH h
theorem LI{u v p q l:Nat}(k:Nat)(h:u+v+p<=l)(g:XQ (k+q) p=Wd):u+k+v+q<=l:=by
 rw[aba u k v,YE];exact Wj (W2 (Wg g) _) h
theorem yL{u m d p q l:Nat}(k:Nat)(h:u+m*(d+1)+p<=l)(g:XQ (k+q) (m+p)=Wd):u+k+m*d+q<=l:=
 LI k (p:=m+p) (by rw[<-YE,YE u];exact h) g
theorem ID{u m d p q l:Nat}(k:Nat)(h1:1<=d)(h:u+m*d+p<=l)(g:XQ (k+q) p=Wd):u+k+m*1+q<=l:=
 LI k (Wj (XP (W2 (aaX m h1) u) p) h) g
theorem dg{p:Prop}(h:We=Wd):p:=abH h
theorem gB{p:Prop}(h:Wd=We):p:=abH h
theorem aH{α:Type}{a:α}{p:Prop}(h:Wc=Wb a):p:=nomatch h
theorem rG{α:Type}{a:α}{p:Prop}(h:Wb a=Wc):p:=nomatch h
theorem k4{R:Nat->Prop}(h0:R 0)(h1:R 1)(a:R 2)(b:R 3)(k:Nat):k<4->R k:=by
 rcases k with _|_|_|_|k
 ·exact fun _=>h0
 ·exact fun _=>h1
 ·exact fun _=>a
 ·exact fun _=>b
 ·exact fun h=>absurd h (aaC (Yy 4 k))
theorem b9{a b:Nat}:Wf a b=Wd->a=b:=Nat.eq_of_beq_eq_true
noncomputable def kZ:Nat->Nat->List Nat
 |0,_=>[]
 |k+1,n=>cond (Wf n 0) [] (adA n 256::kZ k (aaZ n 256))
theorem mP{k n:Nat}:kZ (k+1) n=cond (Wf n 0) [] (adA n 256::kZ k (aaZ n 256)):=rfl
noncomputable def bA(n:Nat):List Nat:=kZ (Nat.log2 n+1) n
noncomputable def len(n:Nat):Nat:=(bA n).length
noncomputable def b7:List Nat->Nat
 | []=>0
 |c::r=>c+256*b7 r
noncomputable def tR(a b:Nat):Nat:=a+b*256 ^ len a
noncomputable def vz:List Nat->List Nat->Bool
 |_,[]=>We
 | [],_::_=>Wd
 |a::r,b::t=>cond (Wf a b) (vz r t) (WR a b)
theorem IF{a b:Nat}{r t:List Nat}:vz (a::r) (b::t)=cond (Wf a b) (vz r t) (WR a b):=rfl
noncomputable def fF(a b:Nat):Bool:=vz (bA a) (bA b)
noncomputable abbrev fg:Nat:=7234924
noncomputable abbrev dz:Nat:=1953720684
noncomputable abbrev cb:Nat:=435611006324
noncomputable abbrev rO:Nat:=7958113
noncomputable abbrev dO:Nat:=478793196199587447665513
noncomputable abbrev fh:Nat:=110386908131187
noncomputable abbrev bx:Nat:=1871507261205758963301
noncomputable abbrev rP:Nat:=7630441
noncomputable abbrev rQ:Nat:=7500915
noncomputable abbrev ce:Nat:=110425311047777
noncomputable abbrev iC:Nat:=7368560
noncomputable abbrev cu:Nat:=110425311311973
noncomputable abbrev cK:Nat:=111559349986674
noncomputable abbrev mQ:Nat:=7628135
noncomputable abbrev fK:Nat:=499984920691
noncomputable abbrev gD:Nat:=32199680942502761
noncomputable abbrev aj:Nat:=28542640894207341
noncomputable abbrev aM:Nat:=1953460339
noncomputable abbrev Fo:Nat:=6872339552563453791
noncomputable abbrev bG:Nat:=8315165955120652624
noncomputable abbrev cV:Nat:=540220137035986520334670
noncomputable abbrev br:Nat:=140747575933921434860023113
noncomputable abbrev cL:Nat:=2147637572233656623438
set_option genCtorIdx false
inductive IT where
 |name(x p:Nat)
 |tup(xs:List (Nat×Nat))(k p:Nat)
mutual
inductive IE where
 |none(p:Nat)
 |bool(b:Bool)(p:Nat)
 |int(i p:Nat)
 |str(s p:Nat)
 |glob(x p:Nat)
 |name(x p:Nat)
 |not(e:IE)(p:Nat)
 |neg(i p1 p:Nat)
 |attr(e:IE)(x p:Nat)
 |sub(o s:IE)(p:Nat)
 |slice(o:IE)(lo c:Option IE)(p1 p:Nat)
 |tup(es:List IE)(k p:Nat)
 |list(m:Bool)(es:List IE)(p:Nat)
 |dict(ks vs:List IE)(p:Nat)
 |cmp(op:abr)(l r:IE)(p:Nat)
 |bop(op:aaf)(es:List IE)(p:Nat)
 |ite(t b o:IE)(p:Nat)
 |bin(op:abI)(l r:IE)(p:Nat)
 |meth(o:IE)(x p1:Nat)(args:List IE)(p:Nat)
 |call(x p1:Nat)(m:Bool)(args:List IE)(p:Nat)
 |callv(x p1 p:Nat)
 |comp(e:IE)(a:List IG)(sc:List (Nat×Nat))(p:Nat)
 |dcomp(k v:IE)(a:List IG)(sc:List (Nat×Nat))(p:Nat)
 |lam(b:IE)(sc:List (Nat×Nat))(p:Nat)
inductive IG where
 |mk(t:IT)(iter:IE)(ifs:List IE)
end
set_option genCtorIdx true
inductive Bm where
 |to(t:IT)
 |attr(e:IE)(x p:Nat)
 |sub(o s:IE)(p:Nat)
set_option genCtorIdx false
inductive IS where
 |expr(e:IE)(p:Nat)
 |asg(t:Bm)(e:IE)(p:Nat)
 |ifs(t:IE)(b o:List IS)(p:Nat)
 |for(t:IT)(iter:IE)(b:List IS)(p:Nat)
 |while(t:IE)(b:List IS)(p:Nat)
 |ret(fz:Bool)(e:Option IE)(p:Nat)
 |raise(x p1:Nat)(args:List IE)(p2 p:Nat)
 |try(b:List IS)(hs:List (Nat×Nat×Nat×List IS×Nat))(p:Nat)
 |pass(p:Nat)
set_option genCtorIdx true
inductive P where
 |none
 |bool(b:Bool)
 |int(i:Int)
 |str(s:Nat)
 |tup(l:List P)
 |list(l:List P)
 |ref(n:Nat)
 |glob(x:Nat)
 |clo(b:IE)(sc:List (Nat×Nat))(p:Nat)(m:List (Nat×P))
 |exc(c:Nat)(a:Nat)(d:P)
inductive O where
 |list(l:List P)
 |dict(es:List (Nat×P))(ep:Nat)
 |inst(c:Nat)(fs:List (Nat×P))
 |tab(k:Nat)
 |dead
noncomputable abbrev VE:=List (Nat×P)
noncomputable abbrev St:=List O
structure Fn where
 ps:List Nat
 ds:List P
 sc:List (Nat×Nat)
 body:List IS
 tb:Option Nat
 g:Bool
noncomputable def P.isClo:P->Bool
 |.clo .. =>Wd
 |_=>We
noncomputable def P.isExc:P->Bool
 |.exc .. =>Wd
 |_=>We
noncomputable def P.isOdd:P->Bool
 |.clo .. =>Wd
 |.exc .. =>Wd
 |_=>We
noncomputable def P.isTup:P->Bool
 |.tup _=>Wd
 |_=>We
structure Bo where
 fn:Nat->Option Fn
 glob:Nat->Option P
 meth:Nat->Nat->Option Nat
 cls:Nat->Option Nat
 fld:Nat->Nat->Bool
 top:Nat->Bool
structure Cx where
 d:Nat
 hd:Bool
 tb:Option Nat
inductive R(α:Type) where
 |ok(a:α)(Z:St)
 |exc(c b:Nat)(d:P)(Z:St)
 |no
inductive Fl where
 |next
 |ret(v:P)
set_option genCtorIdx false
noncomputable def R.bind{α β:Type}:R α->(α->St->R β)->R β
 |.ok a Z,f=>f a Z
 |.exc c m s Z,_=>.exc c m s Z
 |.no,_=>.no
structure dN where
 ev:Cx->IE->VE->St->R P
 ex:Cx->List IS->VE->St->R (Fl×VE)
 wh:Cx->IE->List IS->VE->St->R (Fl×VE)
noncomputable def bZ{α:Type}:List (Nat×α)->Nat->Option α
 | [],_=>Wc
 |(y,v)::r,x=>cond (Wf y x) (Wb v) (bZ r x)
theorem BN{α:Type}{x y:Nat}{v:α}{r:List (Nat×α)}:bZ ((y,v)::r) x=cond (Wf y x) (Wb v) (bZ r x):=rfl
theorem cW{α:Type}:∀{l:List (Nat×α)}{x:Nat}{a:α},bZ l x=Wb a->(x,a)∈l:=by
 intro l
 induction l with
 |nil=>exact fun h=>aH h
 |cons e r c=>
  intro x a h;obtain⟨y,v⟩:=e;rw[BN] at h
  induction b:Wf y x using Wn with
  |true=>rw[b] at h;cases h;rw[b9 b];exact .head _
  |false=>rw[b] at h;exact .tail _ (c h)
noncomputable def get(x:Nat)(l:List (Nat×P)):Option P:=bZ l x
noncomputable def put(x:Nat)(v:P):List (Nat×P)->List (Nat×P)
 | []=>[(x,v)]
 |(y,w)::r=>cond (Wf y x) ((x,v)::r) ((y,w)::put x v r)
theorem j3{x y:Nat}{v:P}{r:List (Nat×P)}:get x ((y,v)::r)=cond (Wf y x) (Wb v) (get x r):=rfl
theorem rR{x y:Nat}{v w:P}{r:List (Nat×P)}:put x v ((y,w)::r)=cond (Wf y x) ((x,v)::r) ((y,w)::put x v r):=rfl
noncomputable def tT(a:List (Nat×P)):List (Nat×P)->List (Nat×P)
 | []=>a
 |(x,v)::r=>tT (put x v a) r
noncomputable def has(x:Nat)(l:List (Nat×P)):Bool:=(get x l).isSome
noncomputable def ai{α:Type}:List α->Nat->Option α
 | [],_=>Wc
 |a::_,0=>Wb a
 |_::r,n+1=>ai r n
noncomputable def ak{α:Type}:List α->Nat->α->List α
 | [],_,_=>[]
 |_::r,0,b=>b::r
 |a::r,n+1,b=>a::ak r n b
theorem aK{α:Type}:∀(l:List α)(n:Nat),ai l n=l[n]?:=by
 intro l
 induction l with
 |nil=>exact fun _=>rfl
 |cons a r b=>
  intro n
  induction n with
  |zero=>rfl
  |succ n=>exact b n
theorem cw{α:Type}:∀(l:List α)(n:Nat)(b:α),ak l n b=l.set n b:=by
 intro l
 induction l with
 |nil=>exact fun _ _=>rfl
 |cons a r c=>
  intro n b
  induction n with
  |zero=>rfl
  |succ n=>exact congrArg (a:: ·) (c n b)
noncomputable def tM(i:Int)(n:Nat):Option Nat:=match i with
 |.ofNat k=>cond (WR k n&&WR k 4611686018427387904) (Wb k) Wc
 |.negSucc k=>cond (WR k n&&WR k 4611686018427387904) (Wb (n - (k+1))) Wc
noncomputable def BO(i:Int)(n:Nat):Nat:=match i with
 |.ofNat k=>cond (WR k n) k n
 |.negSucc k=>cond (WR k n) (n - (k+1)) 0
noncomputable def cut{α:Type}(l:List α)(lo a:Nat):List α:=(l.drop lo).take (a - lo)
noncomputable def qD(f:P->P->Option Bool):List P->List P->Option Bool
 | [],[]=>Wb Wd
 |x::r,y::t=>(f x y).bind fun a=>(qD f r t).map fun b=>a&&b
 |_,_=>Wc
noncomputable def w0(f:P->P->Option Bool)(b:List (Nat×P)):List (Nat×P)->Option Bool
 | []=>Wb Wd
 |(k,v)::r=>match get k b with
  |none=>Wb We
  |some w=>(f v w).bind fun x=>(w0 f b r).map fun y=>x&&y
theorem yM{f:P->P->Option Bool}{y:List (Nat×P)}{e:Nat×P}{r:List (Nat×P)}:w0 f y (e::r)=(match get e.1 y with
  |none=>Wb We
  |some w=>(f e.2 w).bind fun x=>(w0 f y r).map fun y=>x&&y):=rfl
noncomputable def c6(ep x:Nat)(es:List (Nat×P)):Nat:=cond (has x es) ep (ep+1)
noncomputable def yN(ep:Nat)(a:List (Nat×P)):List (Nat×P)->Nat
 | []=>ep
 |(x,v)::r=>yN (c6 ep x a) (put x v a) r
noncomputable def aW:List (Nat×P)->Bool
 | []=>Wd
 |(k,_)::r=>!has k r&&aW r
noncomputable def jK:Option O->Option (List P)
 |some (.list l)=>Wb l
 |_=>Wc
noncomputable def tU:Option O->Option (List (Nat×P))
 |some (.dict es _)=>Wb es
 |_=>Wc
noncomputable def w4:Option O->Option (Nat×List (Nat×P))
 |some (.inst C fs)=>Wb (C,fs)
 |_=>Wc
noncomputable def yO(Z:St):P->Option (List P)
 |.list l=>Wb l
 |.ref n=>jK (ai Z n)
 |_=>Wc
noncomputable def iD(Z:St):P->Option (List (Nat×P))
 |.ref n=>tU (ai Z n)
 |_=>Wc
noncomputable def bN(c:Nat):List Nat->Bool
 | []=>We
 |a::r=>cond (Wf a c) Wd (bN c r)
theorem w6{c a:Nat}{r:List Nat}:bN c (a::r)=cond (Wf a c) Wd (bN c r):=rfl
noncomputable def keys(es:List (Nat×P)):List P:=es.map fun e=>.str e.1
noncomputable def fG(x:Nat):List Nat->List Nat
 | []=>[x]
 |y::r=>cond (fF x y) (x::y::r) (y::fG x r)
theorem yP{x y:Nat}{r:List Nat}:fG x (y::r)=cond (fF x y) (x::y::r) (y::fG x r):=rfl
noncomputable def cg:List Nat->List Nat
 | []=>[]
 |x::r=>fG x (cg r)
noncomputable def dA:List P->Option (List Nat)
 | []=>Wb []
 |.str x::r=>(dA r).map (x:: ·)
 |_=>Wc
noncomputable def mem(x:Nat)(l:List P):Option Bool:=(dA l).map fun ss=>ss.any fun y=>Wf y x
noncomputable def fO:List P->Option (List Bool)
 | []=>Wb []
 |.bool x::r=>(fO r).map (x:: ·)
 |_=>Wc
noncomputable def Bp(s:Nat):List Nat->Option (List Nat)
 | []=>Wc
 |a::r=>cond (Wf a s) (Wb r) ((Bp s r).map (a:: ·))
theorem IH{s a:Nat}{r:List Nat}:Bp s (a::r)=cond (Wf a s) (Wb r) ((Bp s r).map (a:: ·)):=rfl
noncomputable def bh(c:Nat):List Nat->List (List Nat)
 | []=>[[]]
 |a::r=>match bh c r with
  | []=>[[]]
  |w::ws=>cond (Wf a c) ([]::w::ws) ((a::w)::ws)
noncomputable def one{α:Type}:List α->Option α
 | [a]=>Wb a
 |_=>Wc
noncomputable def Fp{α:Type}:List α->Option Unit
 | []=>Wb ()
 |_=>Wc
noncomputable def P.s?:P->Option Nat
 |.str s=>Wb s
 |_=>Option.none
noncomputable def P.i?:P->Option Int
 |.int i=>Wb i
 |_=>Option.none
noncomputable def P.b?:P->Option Bool
 |.bool b=>Wb b
 |_=>Option.none
noncomputable def P.l?:P->Option (List P)
 |.list l=>Wb l
 |_=>Option.none
noncomputable def P.t?:P->Option (List P)
 |.tup l=>Wb l
 |_=>Option.none
noncomputable def P.r?:P->Option Nat
 |.ref n=>Wb n
 |_=>Option.none
noncomputable def lc{α:Type}(b:Bool)(o:Option α):Option α:=cond b o Wc
theorem iE{α:Type}{l:List α}{a:α}(h:one l=Wb a):l=[a]:=by
 rcases l with _|⟨b,_|⟨c,l⟩⟩
 ·exact aH h
 ·exact congrArg (fun a=>[a]) (Wi h)
 ·exact aH h
theorem yQ{α:Type}{l:List α}{u:Unit}(h:Fp l=Wb u):l=[]:=by
 induction l using Wv with
 |nil=>rfl
 |cons=>exact aH h
theorem P.s_is{p:P}{s:Nat}(h:p.s?=Wb s):p=.str s:=by cases p<;>first|exact congrArg _ (Wi h) |exact aH h
theorem P.i_is{p:P}{s:Int}(h:p.i?=Wb s):p=.int s:=by cases p<;>first|exact congrArg _ (Wi h) |exact aH h
theorem P.b_is{p:P}{s:Bool}(h:p.b?=Wb s):p=.bool s:=by cases p<;>first|exact congrArg _ (Wi h) |exact aH h
theorem P.l_is{p:P}{s:List P}(h:p.l?=Wb s):p=.list s:=by cases p<;>first|exact congrArg _ (Wi h) |exact aH h
theorem P.t_is{p:P}{s:List P}(h:p.t?=Wb s):p=.tup s:=by cases p<;>first|exact congrArg _ (Wi h) |exact aH h
theorem P.r_is{p:P}{s:Nat}(h:p.r?=Wb s):p=.ref s:=by cases p<;>first|exact congrArg _ (Wi h) |exact aH h
theorem iF{o:Option O}{l:List P}(h:jK o=Wb l):o=Wb (.list l):=by
 induction o using Wo with
 |none=>exact aH h
 |some o=>induction o<;>first|exact congrArg (fun l=>Wb (O.list l)) (Wi h) |exact aH h
theorem tV{o:Option O}{l:List (Nat×P)}(h:tU o=Wb l):∃ep,o=Wb (.dict l ep):=by
 induction o using Wo with
 |none=>exact aH h
 |some o=>induction o<;>first|exact⟨_,congrArg (fun l=>Wb (O.dict l _)) (Wi h)⟩|exact aH h
theorem yR{o:Option O}{l:Nat×List (Nat×P)}(h:w4 o=Wb l):o=Wb (.inst l.1 l.2):=by
 induction o using Wo with
 |none=>exact aH h
 |some o=>induction o<;>first|exact aH h|exact congrArg (fun l:Nat×List (Nat×P)=>Wb (O.inst l.1 l.2)) (Wi h)
theorem bS{α β:Type}{o:Option α}{f:α->Option β}{b:β}{G:Prop}(h:o.bind f=Wb b)(k:∀a,o=Wb a->f a=Wb b->G):G:=by
 induction o using Wo with
 |none=>exact aH h
 |some a=>exact k a rfl h
theorem pY{α:Type}{b:Bool}{o:Option α}{v:α}{G:Prop}(h:lc b o=Wb v)(k:b=Wd->o=Wb v->G):G:=by
 induction b using Wn with
 |true=>exact k rfl h
 |false=>exact aH h
noncomputable def II(f:P->P->Option Bool)(Z:St)(a b:P):Option Bool:=(yO Z a).bind fun x=>(yO Z b).bind fun y=>cond (Wf x.length y.length) (qD f x y) (Wb We)
noncomputable def yS(f:P->P->Option Bool)(a b:List P):Option Bool:=cond (Wf a.length b.length) (qD f a b) (cond (a.isEmpty||b.isEmpty) (Wb We) Wc)
noncomputable def IJ(f:P->P->Option Bool)(Z:St)(a b:P):Option Bool:=match a with
 |.none=>match b with
  |.none=>Wb Wd
  |.str _=>Wb We
  |_=>Wc
 |.bool a=>b.b?.bind fun b=>Wb (a==b)
 |.int a=>b.i?.bind fun b=>Wb (a==b)
 |.str a=>match b with
  |.str b=>Wb (Wf a b)
  |.none=>Wb We
  |_=>Wc
 |.tup a=>b.t?.bind fun b=>yS f a b
 |a=>II f Z a b
noncomputable def rH:Nat->St->P->P->Option Bool
 |0,_,_,_=>Wc
 |n+1,Z,a,b=>IJ (rH n Z) Z a b
noncomputable def Ej(f:P->P->Option Bool)(x y:List (Nat×P)):Option Bool:=lc (aW x&&aW y) (cond (Wf x.length y.length) (w0 f y x) (Wb We))
noncomputable def ju:Nat->St->P->P->Option Bool
 |0,_,_,_=>Wc
 |n+1,Z,a,b=>match iD Z a,iD Z b with
  |some x,Wb y=>Ej (ju n Z) x y
  |_,_=>rH 30 Z a b
theorem qE{n:Nat}{Z:St}{a b:P}:ju (n+1) Z a b=(match iD Z a,iD Z b with
  |some x,Wb y=>Ej (ju n Z) x y
  |_,_=>rH 30 Z a b):=rfl
theorem mS{α β:Type}{o:Option α}{f:α->β}{b:β}{G:Prop}(h:o.map f=Wb b)(k:∀a,o=Wb a->f a=b->G):G:=by
 induction o using Wo with
 |none=>exact aH h
 |some a=>exact k a rfl (Wi h)
section
variable(T:Bo)
noncomputable def P.isNone:P->Bool
 |.none=>Wd
 |_=>We
noncomputable def aq(n:Nat):Bool:=XQ n 10000
noncomputable def ML:Option O->Option (List P)
 |some (.list l)=>Wb l
 |some (.dict es _)=>cond (aW es&&aq es.length) (Wb (keys es)) Wc
 |_=>Wc
noncomputable def LJ:Option O->Bool
 |some (.list _)=>Wd
 |some (.dict es _)=>aW es&&aq es.length
 |_=>We
theorem IK{o:Option O}{l:List P}(h:ML o=Wb l):o=Wb (.list l)\/∃es ep,o=Wb (.dict es ep)/\(aW es&&aq es.length)=Wd/\l=keys es:=by
 induction o using Wo with
 |none=>exact aH h
 |some o=>induction o using Mine.O.casesOn with
  |list=>exact .inl (congrArg (fun l=>Wb (O.list l)) (Wi h))
  |dict es ep=>
   have h:cond (aW es&&aq es.length) (Wb (keys es)) Wc=Wb l:=h
   induction a:aW es&&aq es.length using Wn with
   |false=>rw[a] at h;exact aH h
   |true=>rw[a] at h;exact .inr ⟨_,_,rfl,a,(Wi h).symm⟩
  |_=>exact aH h
theorem IL{o:Option O}(h:LJ o=Wd):(∃l,o=Wb (.list l))\/∃es ep,o=Wb (.dict es ep)/\(aW es&&aq es.length)=Wd:=by
 induction o using Wo with
 |none=>exact dg h
 |some o=>induction o using Mine.O.casesOn with
  |list=>exact .inl ⟨_,rfl⟩
  |dict es ep=>exact .inr ⟨_,_,rfl,h⟩
  |_=>exact dg h
noncomputable def items(Z:St):P->Option (List P)
 |.tup l=>Wb l
 |.list l=>Wb l
 |.ref n=>ML (ai Z n)
 |_=>Wc
noncomputable def c7(Z:St):P->Option (List P)
 |.tup l=>Wb l
 |.list l=>Wb l
 |.ref n=>jK (ai Z n)
 |_=>Wc
noncomputable def gY(m:Bool)(l:List P)(Z:St):R P:=cond (aq l.length) (cond m (.ok (.ref Z.length) (Z++[.list l])) (.ok (.list l) Z)) .no
noncomputable def ofO{α β:Type}(o:Option α)(f:α->R β):R β:=match o with
 |some a=>f a
 |none=>.no
noncomputable def LK(x:Nat):Option O->Option Bool
 |some (.list l)=>mem x l
 |some (.dict es _)=>Wb (has x es)
 |_=>Wc
noncomputable def Q7(Z:St)(x:Nat):P->Option Bool
 |.tup l=>mem x l
 |.list l=>mem x l
 |.str y=>(one (bA x)).bind fun c=>Wb (bN c (bA y))
 |.ref n=>LK x (ai Z n)
 |_=>Wc
noncomputable def Q8:P->P->Option Bool
 |.int x,b=>b.i?.bind fun y=>Wb (decide (x<y))
 |.str x,b=>b.s?.bind fun y=>Wb (fF x y)
 |_,_=>Wc
noncomputable def Q9(a b:P):Option Bool:=a.i?.bind fun x=>b.i?.bind fun y=>Wb (decide (y<x))
noncomputable def Ra(a b:P):Option Bool:=a.i?.bind fun x=>b.i?.bind fun y=>Wb (decide (y<=x))
noncomputable def MM(z:Bool):P->Option Bool
 |.none=>Wb z
 |_=>Wc
noncomputable def tW(Z:St)(a b:P):Option Bool:=a.s?.bind fun x=>Q7 Z x b
noncomputable def dk(op:abr)(a b:P)(Z:St):Option Bool:=match op with
 |.Eq=>ju 5 Z a b
 |.NotEq=>(ju 5 Z a b).map not
 |.Lt=>Q8 a b
 |.Gt=>Q9 a b
 |.GtE=>Ra a b
 |.Is=>MM a.isNone b
 |.IsNot=>MM (!a.isNone) b
 |.In=>tW Z a b
 |.NotIn=>(tW Z a b).map not
 |_=>Wc
noncomputable def j4(i:Int):Bool:=match i with
 |.ofNat k=>WR k (2 ^ 64)
 |.negSucc k=>WR (k+1) (2 ^ 64)
noncomputable def IM(a b:P)(Z:St):Option P:=match a with
 |.int x=>b.i?.bind fun y=>Wb (.int (x+y))
 |.str x=>b.s?.bind fun y=>lc (aq (len x+len y)) (Wb (.str (tR x y)))
 |.list x=>b.l?.bind fun y=>lc (aq (x.length+y.length)) (Wb (.list (x++y)))
 |.tup x=>b.t?.bind fun y=>lc (aq (x.length+y.length)) (Wb (.tup (x++y)))
 |.ref n=>b.l?.bind fun y=>(jK (ai Z n)).bind fun x=>lc (aq (x.length+y.length)) (Wb (.list (x++y)))
 |_=>Wc
noncomputable def Fq:Int->Option Nat
 |.ofNat (k+1)=>Wb k
 |_=>Wc
noncomputable def Fs:Int->Option Nat
 |.ofNat k=>Wb k
 |_=>Wc
noncomputable def w7(f:Int->Int->Option P)(a b:P):Option P:=a.i?.bind fun x=>b.i?.bind fun y=>f x y
noncomputable def j5(op:abI)(a b:P)(Z:St):Option P:=match op with
 |.Add=>IM a b Z
 |.Sub=>w7 (fun x y=>Wb (.int (x - y))) a b
 |.Mult=>w7 (fun x y=>lc (j4 x||j4 y) (Wb (.int (x*y)))) a b
 |.Mod=>w7 (fun x y=>(Fq y).bind fun k=>Wb (.int (aaK x (k+1)))) a b
 |.FloorDiv=>w7 (fun x y=>(Fq y).bind fun k=>lc (WR k 1000000) (Wb (.int (abJ x (k+1))))) a b
 |.Pow=>w7 (fun x y=>(Fs x).bind fun x=>(Fs y).bind fun y=>lc (Wf x 10&&Wf y 16) (Wb (.int (10 ^ 16)))) a b
 |_=>Wc
theorem yT{i:Int}{k:Nat}(h:Fq i=Wb k):i=.ofNat (k+1):=by
 rcases i with(_|n) |n
 ·exact aH h
 ·exact congrArg (fun n=>YJ (n+1)) (Wi h)
 ·exact aH h
theorem yU{i:Int}{k:Nat}(h:Fs i=Wb k):i=.ofNat k:=by
 cases i with
 |ofNat n=>exact congrArg YJ (Wi h)
 |negSucc=>exact aH h
noncomputable abbrev St.set(Z:St)(n:Nat)(o:O):St:=ak Z n o
noncomputable def rS(T:Bo)(Z:St)(v:P)(x:Nat):Option P:=match v with
 |.ref n=>(w4 (ai Z n)).bind fun C=>cond (T.fld C.1 x) (get x C.2) Wc
 |.exc C m s=>cond (!T.fld C x) Wc<|cond (Wf x aj) (Wb (.str m)) (cond (Wf x aM) (Wb s) Wc)
 |_=>Wc
noncomputable def IP(s:Nat)(k:Int):Option P:=(tM k (len s)).bind fun j=>(ai (bA s) j).bind fun k=>cond (Wf k 0) Wc (Wb (.str k))
noncomputable def BP(Z:St)(v:P)(k:Int):Option P:=(c7 Z v).bind fun l=>(tM k l.length).bind fun j=>ai l j
noncomputable def oZ(Z:St)(v i:P):Option P:=match i with
 |.int k=>match v with
  |.str s=>IP s k
  |v=>BP Z v k
 |.str s=>v.r?.bind fun n=>(tU (ai Z n)).bind fun es=>get s es
 |_=>Wc
noncomputable def Ft(n d:Nat):Option P->Option Nat
 |none=>Wb d
 |some (.int i)=>cond (j4 i) (Wb (BO i n)) Wc
 |_=>Wc
noncomputable def tX(s:Nat):Option P->Option P->Option P
 |none,Wb (.int (.ofNat 1))=>s1 (bA s)
 |_,_=>Wc
where
 s1:List Nat->Option P
  |k::_=>cond (Wf k 0) Wc (Wb (.str k))
  | []=>Wc
noncomputable def yV(l:List P):Option P->Option P->Option P
 |some (.int (.ofNat (a+1))),Wc=>lc (XQ (a+1) l.length&&aq l.length) (Wb (.tup (l.drop (a+1))))
 |_,_=>Wc
noncomputable def yW(l:List P)(lo c:Option P):Option P:=lc (aq l.length) ((Ft l.length 0 lo).bind fun a=>(Ft l.length l.length c).bind fun b=>Wb (.list (cut l a b)))
noncomputable def dQ(Z:St)(v:P)(lo a:Option P):Option P:=match v with
 |.str s=>tX s lo a
 |.tup l=>yV l lo a
 |v=>(c7 Z v).bind fun l=>yW l lo a
noncomputable def LL(v:P)(t:Nat):Option Bool:=
 cond (Wf t cb) (match v with
  |.tup _=>Wb Wd
  |.bool _|.int _|.str _=>Wb We
  |_=>Wc)
 (cond (Wf t rQ) (match v with
  |.str _=>Wb Wd
  |.bool _|.int _|.tup _=>Wb We
  |_=>Wc)
 (cond (Wf t rP) (match v with
  |.int _=>Wb Wd
  |.str _|.tup _=>Wb We
  |_=>Wc) Wc))
noncomputable def yX(x:Nat):Bool:=Wf x fg||Wf x dz||Wf x cb||Wf x rO||Wf x fh||Wf x rP||Wf x rQ||Wf x dO
noncomputable def yY(i:Int):Option Nat:=match i with
 |.ofNat k=>cond (WR k 10) (Wb (48+k)) Wc
 |_=>Wc
noncomputable def MN(a:P)(Z:St):R P:=ofO (c7 Z a) fun l=>cond (aq l.length) (.ok (.int l.length) Z) .no
noncomputable def IQ(m:Bool)(a:P)(Z:St):R P:=ofO (c7 Z a) fun l=>gY m l Z
noncomputable def yZ(a:P)(Z:St):R P:=ofO (c7 Z a) fun l=>cond (aq l.length) (.ok (.tup l) Z) .no
noncomputable def MO(hd:Bool)(a:P)(Z:St):R P:=ofO a.l? fun l=>ofO (fO l) fun b=>cond (hd||!aq l.length) .no (.ok (.bool (b.any id)) Z)
noncomputable def BQ(hd m:Bool)(a:P)(Z:St):R P:=cond (hd||a.isTup) .no (ofO (items Z a) fun l=>ofO (dA l) fun ss=>cond (WR ss.length 64) (gY m ((cg ss).map .str) Z) .no)
noncomputable def MP(a:P)(Z:St):R P:=ofO a.b? fun b=>.ok (.int (cond b 1 0)) Z
noncomputable def MQ(a:P)(Z:St):R P:=ofO a.i? fun i=>ofO (yY i) fun s=>.ok (.str s) Z
noncomputable def MR(a:P)(t:Nat)(Z:St):R P:=ofO (LL a t) fun b=>.ok (.bool b) Z
noncomputable def jL(hd:Bool)(x:Nat)(m:Bool)(a:P)(Z:St):R P:=
 cond (Wf x fg) (MN a Z) (cond (Wf x dz) (IQ m a Z) (cond (Wf x cb) (yZ a Z)
 (cond (Wf x rO) (MO hd a Z) (cond (Wf x fh) (BQ hd m a Z) (cond (Wf x rP) (MP a Z) (cond (Wf x rQ) (MQ a Z) .no))))))
noncomputable def Fu(x:Nat)(a:P)(t:Nat)(Z:St):R P:=cond (Wf x dO) (MR a t Z) .no
noncomputable def callB(hd:Bool)(x:Nat)(m:Bool)(vs:List P)(Z:St):R P:=match vs with
 | [a]=>jL hd x m a Z
 | [a,.glob t]=>Fu x a t Z
 |_=>.no
noncomputable def gZ(n:Nat)(vs:List P)(Z:St):R P:=ofO (jK (ai Z n)) fun l=>ofO (one vs) fun a=>cond (aq l.length&&!a.isOdd) (.ok .none (Z.set n (.list (l++[a])))) .no
noncomputable def tY(n:Nat)(vs:List P)(Z:St):R P:=ofO (jK (ai Z n)) fun l=>ofO (Fp vs) fun _=>ofO l.getLast? fun a=>cond (aq l.length) (.ok a (Z.set n (.list l.dropLast))) .no
noncomputable def hH(n:Nat)(vs:List P)(Z:St):R P:=ofO (jK (ai Z n)) fun l=>ofO (one vs) fun a=>ofO a.l? fun t=>cond (aq (l.length+t.length)) (.ok .none (Z.set n (.list (l++t)))) .no
noncomputable def j6(n:Nat)(vs:List P)(Z:St):R P:=ofO (jK (ai Z n)) fun l=>ofO (one vs) fun a=>ofO a.s? fun s=>ofO (dA l) fun ss=>cond (aq l.length) (ofO (Bp s ss) fun q=>.ok .none (Z.set n (.list (q.map .str)))) .no
noncomputable def Fv(n:Nat)(vs:List P)(Z:St):R P:=ofO (tU (ai Z n)) fun es=>ofO (one vs) fun a=>ofO a.s? fun s=>.ok ((get s es).getD .none) Z
noncomputable def mR(s:Nat)(vs:List P)(Z:St):R P:=ofO (Fp vs) fun _=>ofO (one (bA s)) fun c=>cond (WR c 128) (.ok (.bool (XQ 65 c&&XQ c 90)) Z) .no
noncomputable def tZ(s:Nat)(vs:List P)(Z:St):R P:=ofO (one vs) fun a=>ofO a.s? fun t=>ofO (one (bA t)) fun c=>cond (aq (bA s).length&& (bA s).all fun k=>!Wf k 0) (.ok (.list ((bh c (bA s)).map fun w=>.str (b7 w))) Z) .no
noncomputable def methB(v:P)(x:Nat)(vs:List P)(Z:St):R P:=match v with
 |.ref n=>cond (Wf x ce) (gZ n vs Z) (cond (Wf x iC) (tY n vs Z) (cond (Wf x cu) (hH n vs Z) (cond (Wf x cK) (j6 n vs Z) (cond (Wf x mQ) (Fv n vs Z) .no))))
 |.str s=>cond (Wf x gD) (mR s vs Z) (cond (Wf x fK) (tZ s vs Z) .no)
 |_=>.no
noncomputable def aD(t:IT)(v:P)(m:VE):Option VE:=cond (m.any fun e=>e.2.isExc) Wc (match t with
 |.name x _=>cond v.isOdd Wc (Wb (put x v m))
 |.tup xs _ _=>match v with
  |.tup l=>cond (Wf l.length xs.length) (Wb (go xs l m)) Wc
  |_=>Wc)
where
 go:List (Nat×Nat)->List P->VE->VE
  |(x,_)::r,v::t,m=>go r t (put x v m)
  |_,_,m=>m
theorem vA{α:Type}{p:P}{f:List P->Option α}{w:α}(h:(match p with|.tup l=>f l|_=>Wc)=Wb w):∃l,p=.tup l/\f l=Wb w:=by
 cases p<;>first|exact aH h|exact⟨_,rfl,h⟩
noncomputable def az(sc:List (Nat×Nat))(m:VE):VE:=m.filter fun e=>!sc.any fun k=>Wf k.1 e.1&& (Wf k.2 0||Wf k.2 2)
noncomputable def cM(sc:List (Nat×Nat))(m:VE):VE:=m.filter fun e=>sc.any fun k=>Wf k.1 e.1&&Wf k.2 3
variable(T:Bo)(r:dN)
noncomputable def evs(c:Cx)(m:VE):List IE->St->R (List P)
 | [],Z=>.ok [] Z
 |e::es,Z=>(r.ev c e m Z).bind fun v Z=>(evs c m es Z).bind fun vs Z=>.ok (v::vs) Z
theorem IR{c:Cx}{m:VE}{e:IE}{es:List IE}{Z:St}:evs r c m (e::es) Z=(r.ev c e m Z).bind fun v Z=>(evs r c m es Z).bind fun vs Z=>.ok (v::vs) Z:=rfl
noncomputable def o3(c:Cx)(e:IE)(m:VE)(Z:St):R Bool:=(r.ev c e m Z).bind fun v Z=>match v with
 |.bool b=>.ok b Z
 |_=>.no
noncomputable def evo(c:Cx)(m:VE)(e:Option IE)(Z:St):R (Option P):=match e with
 |none=>.ok Wc Z
 |some e=>(r.ev c e m Z).bind fun v Z=>.ok (Wb v) Z
noncomputable def rT(c:Cx)(m:VE)(op:aaf):List IE->St->R P
 | [],_=>.no
 | [e],Z=>(o3 r c e m Z).bind fun b Z=>.ok (.bool b) Z
 |e::es,Z=>(o3 r c e m Z).bind fun b Z=>match op,b with
  |.And,We=>.ok (.bool We) Z
  |.Or,Wd=>.ok (.bool Wd) Z
  |_,_=>rT c m op es Z
noncomputable def fP:List Nat->List P->List P->Option VE
 | [],[],_=>Wb []
 |x::ps,v::vs,ds=>(fP ps vs ds).map ((x,v):: ·)
 |x::ps,[],ds=>cond (WR ds.length (ps.length+1)) Wc (match ai ds (ds.length - (ps.length+1)) with
  |some d=>(fP ps [] ds).map ((x,d):: ·)
  |none=>Wc)
 |_,_,_=>Wc
theorem vB{x:Nat}{ps:List Nat}{v:P}{vs ds:List P}:fP (x::ps) (v::vs) ds=(fP ps vs ds).map ((x,v):: ·):=rfl
theorem vC{x:Nat}{ps:List Nat}{ds:List P}:fP (x::ps) [] ds=cond (WR ds.length (ps.length+1)) Wc ((ai ds (ds.length - (ps.length+1))).bind fun d=>(fP ps [] ds).map ((x,d):: ·)):=by
 show cond _ Wc (match ai ds (ds.length - (ps.length+1)) with|some d=>_|none=>Wc)=_
 induction ai ds (ds.length - (ps.length+1))<;>rfl
noncomputable def mT:R (Fl×VE)->R P
 |.ok (.ret v,_) Z=>.ok v Z
 |.ok (.next,_) Z=>.ok .none Z
 |.exc c m s Z=>.exc c m s Z
 |.no=>.no
mutual
noncomputable def mU(k:Nat):P->Bool
 |.none=>Wd
 |.bool _=>Wd
 |.int _=>Wd
 |.str _=>Wd
 |.tup l=>mV k l
 |.list l=>mV k l
 |.ref n=>WR n k
 |.glob _=>Wd
 |.clo _ _ _ m=>Ek k m
 |.exc _ _ s=>mU k s
noncomputable def mV(k:Nat):List P->Bool
 | []=>Wd
 |p::r=>mU k p&&mV k r
noncomputable def Ek(k:Nat):List (Nat×P)->Bool
 | []=>Wd
 |e::r=>mU k e.2&&Ek k r
end
noncomputable def El(k:Nat):O->Bool
 |.list l=>mV k l
 |.dict es _=>Ek k es
 |.inst _ fs=>Ek k fs
 |.tab _=>Wd
 |.dead=>Wd
noncomputable def fQ(k:Nat)(v:P)(Z:St):St:=cond (mU k v&& (Z.take k).all (El k)) (Z.take k) Z
noncomputable def gc(k:Nat):R P->R P
 |.ok v Z=>.ok v (fQ k v Z)
 |.exc c m s Z=>.exc c m s (fQ k s Z)
 |.no=>.no
noncomputable def gcIf(b:Bool)(k:Nat)(r:R P):R P:=cond b (gc k r) r
noncomputable def dG(c:Cx)(f:Nat)(vs:List P)(Z:St):R P:=match c.d with
 |0=>.no
 |d+1=>match T.fn f with
  |some fn=>cond (vs.any P.isExc||(vs.any P.isClo&&fn.sc.any fun e=>Wf e.2 2)) .no (match fP fn.ps vs fn.ds with
   |some m=>gcIf fn.g Z.length (mT (r.ex ⟨d,c.hd,fn.tb⟩ fn.body m Z))
   |none=>.no)
  |none=>.no
noncomputable def iq(c:Cx)(x:Nat)(a:Bool)(vs:List P)(Z:St):R P:=match T.cls x with
 |some f=>(dG T r c f (.ref Z.length::vs) (Z++[.inst x []])).bind fun v b=>match v with
  |.none=>.ok (.ref Z.length) b
  |_=>.no
 |none=>cond (T.top x) (dG T r c x vs Z) (callB c.hd x a vs Z)
noncomputable def methF(Z:St)(v:P)(x:Nat):Option Nat:=match v with
 |.ref n=>match ai Z n with
  |some (.inst C fs)=>cond (has x fs) Wc (T.meth C x)
  |_=>Wc
 |_=>Wc
noncomputable def o7(Z:St)(v:P)(x:Nat):Bool:=match v with
 |.ref n=>match ai Z n with
  |some (.list _)=>Wf x ce||Wf x iC||Wf x cu||Wf x cK
  |some (.dict _ _)=>Wf x mQ
  |_=>We
 |.str _=>Wf x gD||Wf x fK
 |_=>We
noncomputable def rU(c:Cx)(m:VE):List IE->St->R Bool
 | [],Z=>.ok Wd Z
 |e::es,Z=>(o3 r c e m Z).bind fun b Z=>cond b (rU c m es Z) (.ok We Z)
noncomputable def loopL{α:Type}(f:P->α->St->R α):List P->α->St->R α
 | [],a,Z=>.ok a Z
 |v::vs,a,Z=>(f v a Z).bind fun a Z=>loopL f vs a Z
noncomputable def loopN{α:Type}(f:P->α->St->R α)(n:Nat):Nat->Nat->α->St->R α
 |0,i,a,Z=>match ai Z n with
  |some (.list l)=>cond (Wf l.length i) (.ok a Z) .no
  |_=>.no
 |k+1,i,a,Z=>match ai Z n with
  |some (.list l)=>cond (Wf l.length (i+(k+1))) (match ai l i with
   |some v=>(f v a Z).bind fun a Z=>loopN f n k (i+1) a Z
   |none=>.no) .no
  |_=>.no
theorem BS{α:Type}{f:P->α->St->R α}{n k i:Nat}{a:α}{Z:St}:loopN f n (k+1) i a Z=(match ai Z n with
  |some (.list l)=>cond (Wf l.length (i+(k+1))) (match ai l i with
   |some v=>(f v a Z).bind fun a Z=>loopN f n k (i+1) a Z
   |none=>.no) .no
  |_=>.no):=rfl
theorem BU{α:Type}{f:P->α->St->R α}{n i:Nat}{a:α}{Z:St}:loopN f n 0 i a Z=(match ai Z n with
  |some (.list l)=>cond (Wf l.length i) (.ok a Z) .no
  |_=>.no):=rfl
noncomputable def loopD{α:Type}(f:P->α->St->R α)(n ep:Nat):Nat->Nat->α->St->R α
 |0,i,a,Z=>match ai Z n with
  |some (.dict es e)=>cond (Wf e ep&&aW es&&Wf es.length i) (.ok a Z) .no
  |_=>.no
 |k+1,i,a,Z=>match ai Z n with
  |some (.dict es e)=>cond (Wf e ep&&aW es&&Wf es.length (i+(k+1))) (match ai (keys es) i with
   |some v=>(f v a Z).bind fun a Z=>loopD f n ep k (i+1) a Z
   |none=>.no) .no
  |_=>.no
theorem BV{α:Type}{f:P->α->St->R α}{n ep k i:Nat}{a:α}{Z:St}:loopD f n ep (k+1) i a Z=(match ai Z n with
  |some (.dict es e)=>cond (Wf e ep&&aW es&&Wf es.length (i+(k+1))) (match ai (keys es) i with
   |some v=>(f v a Z).bind fun a Z=>loopD f n ep k (i+1) a Z
   |none=>.no) .no
  |_=>.no):=rfl
theorem BW{α:Type}{f:P->α->St->R α}{n ep i:Nat}{a:α}{Z:St}:loopD f n ep 0 i a Z=(match ai Z n with
  |some (.dict es e)=>cond (Wf e ep&&aW es&&Wf es.length i) (.ok a Z) .no
  |_=>.no):=rfl
noncomputable def loop{α:Type}(f:P->α->St->R α)(v:P)(a:α)(Z:St):R α:=match v with
 |.tup l=>loopL f l a Z
 |.list l=>loopL f l a Z
 |.ref n=>match ai Z n with
  |some (.list l)=>loopN f n l.length 0 a Z
  |some (.dict es ep)=>cond (aW es&&aq es.length) (loopD f n ep es.length 0 a Z) .no
  |_=>.no
 |_=>.no
noncomputable def c8(Z:St):P->Bool
 |.tup _=>Wd
 |.list _=>Wd
 |.ref n=>LJ (ai Z n)
 |_=>We
noncomputable def eS(t:IT)(m:VE):Bool:=match t with
 |.name x _=>!has x m
 |.tup xs _ _=>xs.all fun e=>!has e.1 m
noncomputable def iG{α:Type}(c:Cx)(t:IT)(ifs:List IE)(m:VE)(d:VE->α->St->R α)(e:P)(a:α)(Z:St):R α:=cond (!eS t m) .no<|loop (fun x a Z=>match aD t x m with
 |some m=>(rU r c m ifs Z).bind fun b Z=>cond b (d m a Z) (.ok a Z)
 |none=>.no) e a Z
noncomputable def lL{α:Type}(c:Cx)(emit:VE->α->St->R α):List IG->VE->α->St->R α
 | [],m,a,Z=>emit m a Z
 |.mk t it ifs::b,m,a,Z=>(r.ev c it m Z).bind fun v Z=>cond (c8 Z v) (iG r c t ifs m (lL c emit b) v a Z) .no
noncomputable def aQ(c:Cx)(e:IE)(m:VE)(Z:St):R P:=match e with
 |.none _=>.ok .none Z
 |.bool b _=>.ok (.bool b) Z
 |.int i _=>.ok (.int i) Z
 |.str s _=>.ok (.str s) Z
 |.glob x _=>ofO (T.glob x) fun v=>.ok v Z
 |.name x _=>ofO (get x m) fun v=>.ok v Z
 |.not e _=>(o3 r c e m Z).bind fun b Z=>.ok (.bool (!b)) Z
 |.neg i _ _=>.ok (.int (-(i:Int))) Z
 |.attr e x _=>(r.ev c e m Z).bind fun v Z=>ofO (rS T Z v x) fun w=>.ok w Z
 |.sub o s _=>(r.ev c o m Z).bind fun v Z=>(r.ev c s m Z).bind fun i Z=>ofO (oZ Z v i) fun w=>.ok w Z
 |.slice o lo y _ _=>(r.ev c o m Z).bind fun v Z=>(evo r c m lo Z).bind fun a Z=>(evo r c m y Z).bind fun b Z=>ofO (dQ Z v a b) fun w=>.ok w Z
 |.tup es _ _=>(evs r c m es Z).bind fun vs Z=>cond (vs.any P.isOdd) .no (.ok (.tup vs) Z)
 |.list n es _=>(evs r c m es Z).bind fun vs Z=>cond (vs.any P.isOdd) .no (gY n vs Z)
 |.dict ks vs _=>match ks,vs with
  | [],[]=>.ok (.ref Z.length) (Z++[.dict [] 0])
  |_,_=>(evd c m ks vs (Z++[.dict [] 0])).bind fun es g=>match ai g Z.length with
   |some (.dict [] e)=>.ok (.ref Z.length) (ak g Z.length (.dict (tT [] es) (yN e [] es)))
   |_=>.no
 |.cmp op l q _=>(r.ev c l m Z).bind fun a Z=>(r.ev c q m Z).bind fun b Z=>ofO (dk op a b Z) fun z=>.ok (.bool z) Z
 |.bop op es _=>rT r c m op es Z
 |.ite t b o _=>(o3 r c t m Z).bind fun z Z=>cond z (r.ev c b m Z) (r.ev c o m Z)
 |.bin op l q _=>(r.ev c l m Z).bind fun a Z=>(r.ev c q m Z).bind fun b Z=>ofO (j5 op a b Z) fun v=>.ok v Z
 |.meth o x _ as _=>(r.ev c o m Z).bind fun v Z=>match methF T Z v x with
  |some f=>(evs r c m as Z).bind fun vs Z=>dG T r c f (v::vs) Z
  |none=>cond (o7 Z v x) ((evs r c m as Z).bind fun vs Z=>methB v x vs Z) .no
 |.call x _ n as _=>cond ((T.cls x).isSome||T.top x||yX x) ((evs r c m as Z).bind fun vs Z=>iq T r c x n vs Z) .no
 |.callv x _ _=>ofO (get x m) fun v=>match v with
  |.clo b sc _ u=>match c.d with
   |0=>.no
   |d+1=>cond (sc.any fun e=>Wf e.2 3&&!has e.1 u) .no<|r.ev ⟨d,c.hd,Wc⟩ b u Z
  |_=>.no
 |.comp e h sc _=>match h with
  |.mk t it ifs::h=>cond (c.hd||m.any fun e=>e.2.isOdd) .no ((r.ev c it m Z).bind fun j Z=>cond (!c8 Z j) .no<|(iG r c t ifs (az sc m) (lL r c (fun m (_:Unit) g=>(r.ev c e m g).bind fun v g=>match ai g Z.length with
   |some (.list l)=>cond (v.isOdd||!aq l.length) .no (.ok () (ak g Z.length (.list (l++[v]))))
   |_=>.no) h) j () (Z++[.list []])).bind fun _ g=>match ai g Z.length with
    |some (.list l)=>.ok (.list l) (ak g Z.length .dead)
    |_=>.no)
  | []=>.no
 |.dcomp k v h sc _=>match h with
  |.mk t it ifs::h=>cond (c.hd||m.any fun e=>e.2.isOdd) .no ((r.ev c it m Z).bind fun j Z=>cond (!c8 Z j) .no<|(iG r c t ifs (az sc m) (lL r c (fun m (_:Unit) g=>(r.ev c k m g).bind fun A g=>(r.ev c v m g).bind fun w g=>match A,ai g Z.length with
   |.str s,Wb (.dict es ep)=>cond (w.isOdd||!aq es.length) .no (.ok () (ak g Z.length (.dict (put s w es) (c6 ep s es))))
   |_,_=>.no) h) j () (Z++[.dict [] 0])).bind fun _ g=>.ok (.ref Z.length) g)
  | []=>.no
 |.lam b sc p=>match c.tb with
  |some k=>match ai Z k with
   |some (.tab B)=>cond (Wf k B&&!((cM sc m).any fun e=>e.2.isOdd) &&aW (cM sc m)) (.ok (.clo b sc p (cM sc m)) (ak Z k (.tab k))) .no
   |_=>.no
  |none=>.no
where
 evd (c:Cx) (m:VE):List IE->List IE->St->R (List (Nat×P))
  | [],[],Z=>.ok [] Z
  |k::ks,v::vs,Z=>(r.ev c k m Z).bind fun kv Z=>(r.ev c v m Z).bind fun w Z=>match kv with
   |.str s=>cond w.isOdd .no ((evd c m ks vs Z).bind fun es Z=>.ok ((s,w)::es) Z)
   |_=>.no
  |_,_,_=>.no
noncomputable def lh(o:P)(x:Nat)(v:P)(m:VE)(Z:St):R VE:=ofO o.r? fun n=>ofO (w4 (ai Z n)) fun c=>cond (v.isOdd||!aq c.2.length||!T.fld c.1 x) .no (.ok m (Z.set n (.inst c.1 (put x v c.2))))
noncomputable def y0(n:Nat)(i v:P)(m:VE)(Z:St)(es:List (Nat×P))(ep:Nat):R VE:=ofO i.s? fun s=>cond (v.isOdd||!aq es.length) .no (.ok m (Z.set n (.dict (put s v es) (c6 ep s es))))
noncomputable def y3(n:Nat)(i v:P)(m:VE)(Z:St)(l:List P):R VE:=ofO i.i? fun k=>ofO (tM k l.length) fun j=>cond v.isOdd .no (.ok m (Z.set n (.list (ak l j v))))
noncomputable def lM(n:Nat)(i v:P)(m:VE)(Z:St):Option O->R VE
 |some (.dict es ep)=>y0 n i v m Z es ep
 |some (.list l)=>y3 n i v m Z l
 |_=>.no
noncomputable def ck(c:Cx)(t:Bm)(v:P)(m:VE)(Z:St):R VE:=match t with
 |.to t=>cond c.hd .no (ofO (aD t v m) fun m=>.ok m Z)
 |.attr e x _=>(r.ev c e m Z).bind fun o Z=>lh T o x v m Z
 |.sub o s _=>(r.ev c o m Z).bind fun o Z=>(r.ev c s m Z).bind fun i Z=>ofO o.r? fun n=>lM n i v m Z (ai Z n)
noncomputable def y4(fz:Bool)(v:P)(Z:St):R P:=cond fz (match v with
 |.ref n=>match ai Z n with
  |some (.list l)=>.ok (.list l) (Z.set n .dead)
  |_=>.no
 |_=>.no) (.ok v Z)
noncomputable def fi:Nat->List P->List P
 |_,[]=>[]
 |k,v::r=>.tup [.int k,v]::fi (k+1) r
noncomputable def turn(c:Cx)(t:IT)(b:List IS):P->Fl×VE->St->R (Fl×VE):=fun v a Z=>match a with
 |(.ret w,m)=>.ok (.ret w,m) Z
 |(.next,m)=>match aD t v m with
  |some m=>(r.ex c b m Z).bind fun a Z=>match a with
   |(.ret w,m)=>.ok (.ret w,m) Z
   |(.next,m)=>cond (m.any fun e=>e.2.isOdd) .no (.ok (.next,m) Z)
  |none=>.no
noncomputable def hR(c:Cx)(t:IT)(it:IE)(b:List IS)(m:VE)(Z:St):R (Fl×VE):=match it with
 |.call x p1 a [e] p=>cond (Wf x bx)
   ((r.ev c e m Z).bind fun v Z=>match v,t with
    |.list l,.tup _ _ _=>loopL (turn r c t b) (fi 0 l) (.next,m) Z
    |_,_=>.no)
   ((r.ev c (.call x p1 a [e] p) m Z).bind fun v Z=>cond (c8 Z v) (loop (turn r c t b) v (.next,m) Z) .no)
 |it=>(r.ev c it m Z).bind fun v Z=>cond (c8 Z v) (loop (turn r c t b) v (.next,m) Z) .no
noncomputable def ba(c:Cx)(s:IS)(m:VE)(Z:St):R (Fl×VE):=match s with
 |.expr e _=>(r.ev c e m Z).bind fun _ Z=>.ok (.next,m) Z
 |.asg t e _=>(r.ev c e m Z).bind fun v Z=>(ck T r c t v m Z).bind fun m Z=>.ok (.next,m) Z
 |.ifs t b o _=>(o3 r c t m Z).bind fun z Z=>cond z (r.ex c b m Z) (r.ex c o m Z)
 |.for t it b _=>cond (c.hd||m.any fun e=>e.2.isOdd) .no (hR r c t it b m Z)
 |.while t b _=>r.wh c t b m Z
 |.ret fz e _=>match e with
  |none=>.ok (.ret .none,m) Z
  |some e=>(r.ev c e m Z).bind fun v Z=>(y4 fz v Z).bind fun v Z=>.ok (.ret v,m) Z
 |.raise x _ as _ _=>cond (c.hd||Wf c.d 0||!T.fld x aj||!T.fld x aM) .no ((evs r c m as Z).bind fun vs Z=>match vs with
  | [.str s]=>.exc x s (.int 0) Z
  | [.str s,.int i]=>.exc x s (.int i) Z
  |_=>.no)
 |.try b hs _=>match b with
  | [.asg a e _]=>match r.ev c e m Z with
   |.exc x s w Z=>cond c.hd .no (hdl hs x s w Z)
   |.ok v Z=>match ck T r c a v m Z with
    |.ok m Z=>.ok (.next,m) Z
    |_=>.no
   |.no=>.no
  | [.ret We (Wb e) _]=>match r.ev c e m Z with
   |.exc x s w Z=>cond c.hd .no (hdl hs x s w Z)
   |.ok v Z=>.ok (.ret v,m) Z
   |.no=>.no
  |_=>.no
 |.pass _=>.ok (.next,m) Z
where
 hdl:List (Nat×Nat×Nat×List IS×Nat)->Nat->Nat->P->St->R (Fl×VE)
  | [],_,_,_,_=>.no
  |(C,n,_,b,_)::hs,x,s,w,Z=>cond (!T.fld C aj||!T.fld C aM||!T.fld x aj||!T.fld x aM||m.any fun e=>e.2.isExc) .no<|cond (Wf C x)
    (match r.ex ⟨c.d,Wd,c.tb⟩ b (put n (.exc x s w) m) Z with
     |.ok (.ret v,m) Z=>cond v.isOdd .no (.ok (.ret v,m) Z)
     |_=>.no)
    (hdl hs x s w Z)
noncomputable def dB(c:Cx):List IS->VE->St->R (Fl×VE)
 | [],m,Z=>.ok (.next,m) Z
 |s::ss,m,Z=>(ba T r c s m Z).bind fun a Z=>match a with
  |(.ret v,m)=>.ok (.ret v,m) Z
  |(.next,m)=>dB c ss m Z
theorem y5{c:Cx}{x:IS}{ss:List IS}{m:VE}{Z:St}:dB T r c (x::ss) m Z=(ba T r c x m Z).bind fun a Z=>(match a with
  |(.ret v,m)=>.ok (.ret v,m) Z
  |(.next,m)=>dB T r c ss m Z):=rfl
noncomputable def Fw(c:Cx)(t:IE)(b:List IS)(m:VE)(Z:St):R (Fl×VE):=(o3 r c t m Z).bind fun z Z=>
 cond z ((r.ex c b m Z).bind fun a Z=>match a with
  |(.ret v,m)=>.ok (.ret v,m) Z
  |(.next,m)=>r.wh c t b m Z) (.ok (.next,m) Z)
noncomputable def run:Nat->dN
 |0=>⟨fun _ _ _ _=>.no,fun _ _ _ _=>.no,fun _ _ _ _ _=>.no⟩
 |n+1=>let r:=run n;⟨aQ T r,dB T r,Fw r⟩
end
noncomputable def Bq(x:Nat):List Nat->Bool
 | []=>We
 |y::r=>cond (Wf y x) Wd (Bq x r)
theorem IU{x y:Nat}{r:List Nat}:Bq x (y::r)=cond (Wf y x) Wd (Bq x r):=rfl
noncomputable abbrev aX:Nat:=8308148726252807311465356088663682832230467
noncomputable abbrev bC:Nat:=2126886073920718671735130973220569262205002062
noncomputable abbrev bO:Nat:=8748127237353426437531219809616553573179726
noncomputable abbrev bE:Nat:=148201863946932375292344205813315791119072011051342
noncomputable abbrev bP:Nat:=526783570651582155779497382061629774
noncomputable abbrev bF:Nat:=146706197305937185784723294130234769915408936689998
noncomputable abbrev cD:Nat:=562966598959781652100513755265065294
noncomputable abbrev ee:Nat:=2199086954942681464027000746107214
noncomputable abbrev dh:Nat:=37571171660849290724267577727752248058190
noncomputable abbrev a5:Nat:=526479574048924982444221366272876878
noncomputable abbrev dC:Nat:=153465845865400417470746382692571242830
noncomputable abbrev cC:Nat:=2462787319932045897905594771526657936697680206
noncomputable abbrev aY:Nat:=10577590996111626074129867217540644201157726673497317710
noncomputable abbrev cO:Nat:=9441286328996051812837890067980964334494030
noncomputable abbrev bX:Nat:=41318714828388149356348077171958170215314951773184334
noncomputable abbrev di:Nat:=34163093366616961225276638911209445089614
noncomputable abbrev dD:Nat:=153387981690908693580311363301462073678
noncomputable abbrev bJ:Nat:=636817740439656764008556910187165226175881923039245888217422
noncomputable abbrev cX:Nat:=2342095099875884289410416575209832
noncomputable abbrev gk:Nat:=121352522152850519634043246
noncomputable abbrev pL:Nat:=121371689044478407082996585
noncomputable abbrev hS:Nat:=544943148383632725143412
noncomputable abbrev cx:Nat:=32453705961925028560411616452019776348496
noncomputable abbrev bQ:Nat:=10052426792954404902458807046365471437971792
noncomputable abbrev du:Nat:=34163093347127528335599099333645076488528
noncomputable abbrev cm:Nat:=136159535386167197944551317705630900560
noncomputable abbrev cZ:Nat:=2340512381544389560798489939763536
noncomputable abbrev eM:Nat:=7956987022256087899027036922192
noncomputable abbrev bR:Nat:=37562718375963639495865548352377552053248477901316432
noncomputable abbrev c0:Nat:=2320227826073796241993409358946640
noncomputable abbrev bT:Nat:=9968708015814364094413471006051814210756944
noncomputable abbrev cn:Nat:=137483774934838630478290967327064416592
noncomputable abbrev jM:Nat:=1999554731685460405343
noncomputable abbrev iI:Nat:=474274252248549332970591
noncomputable abbrev li:Nat:=7308901701084343391
noncomputable abbrev hV:Nat:=1834187043773903629407
noncomputable abbrev lj:Nat:=8389759014583495775
noncomputable abbrev ef:Nat:=1851984723043992824927
noncomputable abbrev j7:Nat:=133460651082215449920891999
noncomputable abbrev gu:Nat:=32010435700295989643366722655
noncomputable abbrev j8:Nat:=138296705931074955972275295
noncomputable abbrev ll:Nat:=7234307533721136223
noncomputable abbrev cE:Nat:=154732543826880782742652800697150565471
noncomputable abbrev jN:Nat:=1870933039033526348895
noncomputable abbrev j9:Nat:=125040764379143793643973727
noncomputable abbrev iJ:Nat:=521662497445562621717599
noncomputable abbrev iK:Nat:=549795218526974865665119
noncomputable abbrev cG:Nat:=154732543826880792317733159080843897951
noncomputable abbrev dR:Nat:=154732543826880787465663015739021421663
noncomputable abbrev cH:Nat:=154732543826880716630960649232481086559
noncomputable abbrev Em:Nat:=7823724
noncomputable def gE:List IS:=[
 .expr (.meth (.glob 2037169923944901474373 5008017) 6872339552563453791 5008026 [.name 1718379891 5027031,.name 28542640894207341 5033040] 5008041) 5008041,
 .asg (.attr (.name 1718379891 6008012) 28542640894207341 6008020) (.name 28542640894207341 6023030) 6008030,
 .asg (.attr (.name 1718379891 7008012) 1953460339 7008017) (.name 1953460339 7020024) 7008024]
noncomputable def ka:List IS:=[
 .asg (.attr (.name 1718379891 16008012) 8320793298381005160 16008021) (.name 8320793298381005160 16024032) 16008032,
 .asg (.attr (.name 1718379891 17008012) 8315165955120652656 17008021) (.name 8315165955120652656 17024032) 17008032,
 .asg (.attr (.name 1718379891 18008012) 7239535 18008016) (.list Wd [.list We [] 18020022] 18019023) 18008023,
 .asg (.attr (.name 1718379891 19008012) 431349919590 19008018) (.dict [] [] 19021023) 19008023,
 .asg (.attr (.name 1718379891 20008012) 110425377629538 20008019) (.dict [] [] 20022024) 20008024,
 .asg (.attr (.name 1718379891 21008012) 431130765409 21008018) (.dict [] [] 21021023) 21008023,
 .asg (.attr (.name 1718379891 22008012) 7815265378425466724 22008021) (.dict [] [] 22024026) 22008026]
noncomputable def iL:List IS:=[
 .ret We (Wb (.call 7958113 25015018 We [.comp (.cmp .In (.name 1701667182 25020024) (.name 7827314 25028031) 25020031) [.mk (.name 7827314 25036039) (.attr (.name 1718379891 25043047) 7239535 25043051) []] [(12334,0),(7827314,0),(1701667182,3)] 25019052] 25015053)) 25008053]
noncomputable def gF:List IS:=[
 .ret We (Wb (.bop .And [.cmp .Eq (.sub (.name 1701147252 28015019) (.int 0 28020021) 28015022) (.str 1701667182 28026032) 28015032,.cmp .In (.sub (.name 1701147252 28037041) (.neg 1 28043044 28042044) 28037045) (.attr (.name 1718379891 28049053) 8315165955120652656 28049062) 28037062,.not (.meth (.name 1718379891 28072076) 28266723620647785 28072084 [.sub (.name 1701147252 28085089) (.neg 1 28091092 28090092) 28085093] 28072094) 28068094] 28015095)) 28008095]
noncomputable def ke:List IS:=[
 .ifs (.meth (.name 1718379891 31011015) 28266723620647785 31011023 [.name 1701667182 31024028] 31011029) [.ret We Wc 32012018] [] 31008032018,
 .ifs (.name 28554821420151657 33011018) [.asg (.sub (.attr (.name 1718379891 34012016) 431349919590 34012022) (.name 1701667182 34023027) 34012028) (.bool Wd 34031035) 34012035] [.asg (.sub (.attr (.name 1718379891 36012016) 7815265378425466724 36012025) (.name 1701667182 36026030) 36012031) (.bool Wd 36034038) 36012038] 33008036038]
noncomputable def gG:List IS:=[
 .ifs (.not (.meth (.name 1718379891 39015019) 28266723620647785 39015027 [.name 1701667182 39028032] 39015033) 39011033) [.asg (.sub (.attr (.name 1718379891 40012016) 431130765409 40012022) (.name 1701667182 40023027) 40012028) (.bool Wd 40031035) 40012035] [] 39008040035]
noncomputable def kg:List IS:=[
 .asg (.sub (.attr (.name 1718379891 43008012) 7239535 43008016) (.neg 1 43018019 43017019) 43008020) (.bin .Add (.sub (.attr (.name 1718379891 43023027) 7239535 43023031) (.neg 1 43033034 43032034) 43023035) (.call 1953720684 43038042 We [.name 495622906222 43043048] 43038049) 43023049) 43008049]
noncomputable def lm:List IS:=[
 .for (.name 1701147252 46012016) (.name 495622386292 46020025) [.ifs (.cmp .IsNot (.name 1701147252 47015019) (.none 47027031) 47015031) [.expr (.meth (.name 1718379891 48016020) 1701147252 48016025 [.name 1701147252 48026030] 48016031) 48016031] [] 47012048031] 46008048031]
noncomputable def jv:List IS:=[
 .expr (.meth (.attr (.name 1718379891 51008012) 7239535 51008016) 110425311047777 51008023 [.call 1953720684 51024028 We [.name 495622906222 51029034] 51024035] 51008036) 51008036,
 .expr (.meth (.name 1718379891 52008012) 7105633 52008016 [.name 495622386292 52017022] 52008023) 52008023,
 .expr (.meth (.attr (.name 1718379891 53008012) 7239535 53008016) 7368560 53008020 [] 53008022) 53008022]
noncomputable def kh:List IS:=[
 .asg (.to (.name 1684957547 56008012)) (.sub (.name 1701147252 56015019) (.int 0 56020021) 56015022) 56008022,
 .ifs (.cmp .Eq (.name 1684957547 57011015) (.str 1701667182 57019025) 57011025) [.ifs (.bop .Or [.cmp .Eq (.call 7234924 58015018 We [.name 1701147252 58019023] 58015024) (.int 3 58028029) 58015029,.cmp .Is (.sub (.name 1701147252 58033037) (.int 2 58038039) 58033040) (.none 58044048) 58033048] 58015048) [.expr (.meth (.name 1718379891 59016020) 1702129518 59016025 [.sub (.name 1701147252 59026030) (.neg 1 59032033 59031033) 59026034] 59016035) 59016035] [.expr (.meth (.name 1718379891 61016020) 474033289659572108423022 61016031 [.sub (.name 1701147252 61032036) (.int 2 61037038) 61032039] 61016040) 61016040] 58012061040] [.ifs (.cmp .Eq (.name 1684957547 62013017) (.str 127970252186995 62021029) 62013029) [.ifs (.cmp .Eq (.sub (.sub (.name 1701147252 63015019) (.int 2 63020021) 63015022) (.int 0 63023024) 63015025) (.str 1701667182 63029035) 63015035) [.expr (.meth (.name 1718379891 64016020) 474033289659572108423022 64016031 [.sub (.sub (.name 1701147252 64032036) (.int 2 64037038) 64032039) (.neg 1 64041042 64040042) 64032043] 64016044) 64016044] [] 63012064044,.ifs (.not (.meth (.name 1718379891 65019023) 478866049223140585730921 65019034 [.sub (.name 1701147252 65035039) (.int 2 65040041) 65035042] 65019043) 65015043) [.asg (.sub (.attr (.name 1718379891 66016020) 110425377629538 66016027) (.sub (.name 1701147252 66028032) (.int 3 66033034) 66028035) 66016036) (.bool Wd 66039043) 66016043] [] 65012066043,.expr (.meth (.name 1718379891 67012016) 1701147252 67012021 [.sub (.name 1701147252 67022026) (.int 2 67027028) 67022029] 67012030) 67012030] [.ifs (.bop .And [.cmp .Eq (.name 1684957547 68013017) (.str 1668183398 68021027) 68013027,.cmp .Eq (.call 7234924 68032035 We [.name 1701147252 68036040] 68032041) (.int 6 68045046) 68032046] 68013046) [.expr (.meth (.name 1718379891 69012016) 7957695015192261990 69012025 [.sub (.name 1701147252 69026030) (.int 2 69031032) 69026033,.sub (.name 1701147252 69035039) (.int 3 69040041) 69035042,.sub (.name 1701147252 69044048) (.int 4 69049050) 69044051,.sub (.name 1701147252 69053057) (.int 5 69058059) 69053060] 69012061) 69012061] [.ifs (.cmp .Eq (.name 1684957547 70013017) (.str 7629164 70021026) 70013026) [.expr (.meth (.name 1718379891 71012016) 30506441441044844 71012024 [.name 1701147252 71025029] 71012030) 71012030] [.ifs (.cmp .In (.name 1684957547 72013017) (.tup [.str 111524889126244 72022030,.str 7496054 72032037,.str 500152823651 72039046,.str 7810197660663576948 72048058] 0 72021059) 72013059) [.expr (.meth (.name 1718379891 73012016) 133507968131445223235741028 73012028 [.name 1701147252 73029033] 73012034) 73012034] [.ifs (.cmp .In (.name 1684957547 74013017) (.tup [.str 461229747298 74022029,.str 26217 74031035,.str 7499622 74037042,.str 435526984050 74044051,.str 114776364119923 74053061,.str 492960730248858808908148 74063075,.str 111546465216611 74077085] 0 74021086) 74013086) [.expr (.meth (.name 1718379891 75012016) 110386908194158 75012023 [.name 1701147252 75024028] 75012029) 75012029] [.expr (.meth (.name 1718379891 77012016) 495874892144 77012022 [.slice (.name 1701147252 77023027) (Wb (.int 2 77028029)) Wc 77028030 77023031] 77012032) 77012032] 74008077032] 72008077032] 70008077032] 68008077032] 62008077032] 57008077032]
noncomputable def jO:List IS:=[
 .for (.name 1953653104 80012016) (.name 495874892144 80020025) [.ifs (.bop .And [.call 478793196199587447665513 81015025 We [.name 1953653104 81026030,.glob 435611006324 81032037] 81015038,.cmp .NotEq (.name 1953653104 81043047) (.tup [] 0 81051053) 81043053] 81015053) [.ifs (.bop .And [.call 478793196199587447665513 82019029 We [.sub (.name 1953653104 82030034) (.int 0 82035036) 82030037,.glob 7500915 82039042] 82019043,.cmp .Gt (.call 7234924 82048051 We [.name 1953653104 82052056] 82048057) (.int 1 82060061) 82048061,.call 478793196199587447665513 82066076 We [.sub (.name 1953653104 82077081) (.int 1 82082083) 82077084,.glob 7630441 82086089] 82066090] 82019090) [.expr (.meth (.name 1718379891 83020024) 1701147252 83020029 [.name 1953653104 83030034] 83020035) 83020035] [.expr (.meth (.name 1718379891 85020024) 495874892144 85020030 [.name 1953653104 85031035] 85020036) 85020036] 82016085036] [] 81012085036] 80008085036]
noncomputable def iu:List IS:=[
 .expr (.meth (.name 1718379891 88008012) 1701147252 88008017 [.name 517097945460 88018023] 88008024) 88008024,
 .expr (.meth (.name 1718379891 89008012) 121399003081079 89008019 [.bin .Add (.call 1953720684 89020024 We [.name 126913623515504 89025031] 89020032) (.call 1953720684 89035039 We [.name 32497631497512306 89040047] 89035048) 89020048,.list We [.name 461229747298 89051056] 89050057] 89008058) 89008058]
noncomputable def fH:List IS:=[
 .asg (.to (.name 495622906222 92008013)) (.bin .Add (.bin .Add (.call 1953720684 92016020 We [.sub (.name 1818453348 92021025) (.int 5 92026027) 92021028] 92016029) (.call 1953720684 92032036 We [.sub (.name 1818453348 92037041) (.int 6 92042043) 92037044] 92032045) 92016045) (.ite (.cmp .IsNot (.sub (.name 1818453348 92065069) (.int 3 92070071) 92065072) (.none 92080084) 92065084) (.list We [.sub (.sub (.name 1818453348 92050054) (.int 3 92055056) 92050057) (.int 0 92058059) 92050060] 92049061) (.list We [] 92090092) 92049092) 92016093) 92008093,
 .expr (.meth (.name 1718379891 93008012) 1701147252 93008017 [.sub (.name 1818453348 93018022) (.int 4 93023024) 93018025] 93008026) 93008026,
 .expr (.meth (.name 1718379891 94008012) 121399003081079 94008019 [.name 495622906222 94020025,.list We [.sub (.name 1818453348 94028032) (.int 7 94033034) 94028035] 94027036] 94008037) 94008037]
noncomputable def iM:List IS:=[
 .asg (.to (.tup [(1684828020,97008012),(544943727926414822039912,97014024)] 0 97008024)) (.tup [.sub (.name 1701147252 97028032) (.int 2 97033034) 97028035,.none 97037041] 0 97027042) 97008042,
 .ifs (.cmp .IsNot (.name 1684828020 98011015) (.none 98023027) 98011027) [.expr (.meth (.name 1718379891 99012016) 1701147252 99012021 [.name 1684828020 99022026] 99012027) 99012027,.ifs (.bop .Or [.cmp .NotEq (.sub (.name 1684828020 100015019) (.int 0 100020021) 100015022) (.str 1701667182 100026032) 100015032,.cmp .IsNot (.sub (.name 1684828020 100036040) (.int 2 100041042) 100036043) (.none 100051055) 100036055,.not (.meth (.name 1718379891 100064068) 28266723620647785 100064076 [.sub (.name 1684828020 100077081) (.int 3 100082083) 100077084] 100064085) 100060085] 100015086) [.asg (.to (.name 544943727926414822039912 101016026)) (.meth (.name 1718379891 101029033) 8320793298381005160 101029042 [.name 1684828020 101043047] 101029048) 101016048] [] 100012101048] [] 98008101048,
 .for (.tup [(7955819,102012015),(435761734006,102017022)] 0 102012022) (.sub (.name 1701147252 102026030) (.int 3 102031032) 102026033) [.ifs (.bop .And [.cmp .IsNot (.name 7955819 103015018) (.none 103026030) 103015030,.cmp .Eq (.sub (.name 7955819 103035038) (.int 0 103039040) 103035041) (.str 1701667182 103045051) 103035051,.cmp .Is (.name 544943727926414822039912 103057067) (.none 103071075) 103057075] 103015076) [.expr (.meth (.name 1718379891 104016020) 1702129518 104016025 [.sub (.name 7955819 104026029) (.int 2 104030031) 104026032,.bool We 104034039] 104016040) 104016040] [.ifs (.bop .And [.cmp .IsNot (.name 7955819 105017020) (.none 105028032) 105017032,.bop .Or [.cmp .NotEq (.sub (.name 7955819 105038041) (.int 0 105042043) 105038044) (.str 1701667182 105048054) 105038054,.name 544943727926414822039912 105058068] 105038068] 105017069) [.expr (.meth (.name 1718379891 106016020) 1701147252 106016025 [.name 7955819 106026029] 106016030) 106016030] [] 105012106030] 103012106030,.expr (.meth (.name 1718379891 107012016) 1701147252 107012021 [.name 435761734006 107022027] 107012028) 107012028] 102008107028]
noncomputable def gw:List IS:=[
 .asg (.to (.name 1684957547 110008012)) (.sub (.name 1701147252 110015019) (.int 0 110020021) 110015022) 110008022,
 .ifs (.cmp .Eq (.name 1684957547 111011015) (.str 111524889126244 111019027) 111011027) [.expr (.meth (.name 1718379891 112012016) 7105633 112012020 [.sub (.name 1701147252 112021025) (.int 3 112026027) 112021028] 112012029) 112012029,.expr (.meth (.name 1718379891 113012016) 1819043188 113012021 [.sub (.name 1701147252 113022026) (.int 2 113027028) 113022029] 113012030) 113012030] [.ifs (.cmp .Eq (.name 1684957547 114013017) (.str 7496054 114021026) 114013026) [.expr (.meth (.name 1718379891 115012016) 7105633 115012020 [.bin .Add (.tup [.sub (.name 1701147252 115022026) (.int 3 115027028) 115022029] 0 115021031) (.call 435611006324 115034039 We [.sub (.name 1701147252 115040044) (.int 4 115045046) 115040047] 115034048) 115021048] 115012049) 115012049,.expr (.meth (.name 1718379891 116012016) 1819043188 116012021 [.sub (.name 1701147252 116022026) (.int 2 116027028) 116022029] 116012030) 116012030] [.ifs (.cmp .Eq (.name 1684957547 117013017) (.str 7810197660663576948 117021031) 117013031) [.expr (.meth (.name 1718379891 118012016) 1819043188 118012021 [.list We [.sub (.name 1701147252 118023027) (.int 2 118028029) 118023030] 118022031] 118012032) 118012032,.expr (.meth (.name 1718379891 119012016) 1701147252 119012021 [.sub (.name 1701147252 119022026) (.int 3 119027028) 119022029] 119012030) 119012030] [.for (.tup [(495622906222,121016021),(517097945460,121023028),(495841212517,121030035),(1635020649,121037041)] 0 121016041) (.sub (.name 1701147252 121045049) (.int 2 121050051) 121045052) [.expr (.meth (.name 1718379891 122016020) 7105633 122016024 [.bin .Add (.tup [.name 517097945460 122026031] 0 122025033) (.call 435611006324 122036041 We [.name 495841212517 122042047] 122036048) 122025048] 122016049) 122016049,.expr (.meth (.name 1718379891 123016020) 1819043188 123016025 [.name 495622906222 123026031] 123016032) 123016032] 121012123032] 117008123032] 114008123032] 111008123032]
noncomputable def jw:List IS:=[
 .asg (.to (.name 1684957547 126008012)) (.sub (.name 1701147252 126015019) (.int 0 126020021) 126015022) 126008022,
 .expr (.meth (.attr (.name 1718379891 127008012) 7239535 127008016) 110425311047777 127008023 [.list We [] 127024026] 127008027) 127008027,
 .ifs (.cmp .Eq (.name 1684957547 128011015) (.str 461229747298 128019026) 128011026) [.expr (.meth (.name 1718379891 129012016) 7105633 129012020 [.sub (.name 1701147252 129021025) (.int 2 129026027) 129021028] 129012029) 129012029] [.ifs (.cmp .Eq (.name 1684957547 130013017) (.str 26217 130021025) 130013025) [.expr (.meth (.name 1718379891 131012016) 7105633 131012020 [.slice (.name 1701147252 131021025) (Wb (.int 2 131026027)) Wc 131026028 131021029] 131012030) 131012030] [.ifs (.cmp .Eq (.name 1684957547 132013017) (.str 7499622 132021026) 132013026) [.expr (.meth (.name 1718379891 133012016) 7105633 133012020 [.list We [.sub (.name 1701147252 133022026) (.int 3 133027028) 133022029,.sub (.name 1701147252 133031035) (.int 4 133036037) 133031038,.sub (.name 1701147252 133040044) (.int 5 133045046) 133040047,.sub (.name 1701147252 133049053) (.int 6 133054055) 133049056] 133021057] 133012058) 133012058] [.ifs (.cmp .Eq (.name 1684957547 134013017) (.str 435526984050 134021028) 134013028) [.expr (.meth (.name 1718379891 135012016) 7105633 135012020 [.list We [.sub (.name 1701147252 135022026) (.int 5 135027028) 135022029] 135021030] 135012031) 135012031,.ifs (.sub (.name 1701147252 136015019) (.int 4 136020021) 136015022) [.expr (.meth (.name 1718379891 137016020) 1819043188 137016025 [.comp (.sub (.name 6647407 137027030) (.int 2 137031032) 137027033) [.mk (.name 6647407 137038041) (.sub (.name 1701147252 137045049) (.int 3 137050051) 137045052) [.cmp .Eq (.sub (.name 6647407 137056059) (.int 0 137060061) 137056062) (.str 1701667182 137066072) 137056072]] [(12334,0),(6647407,0)] 137026073] 137016074) 137016074] [.expr (.meth (.name 1718379891 139016020) 7105633 139016024 [.sub (.name 1701147252 139025029) (.int 3 139030031) 139025032] 139016033) 139016033] 136012139033,.expr (.meth (.name 1718379891 140012016) 7105633 140012020 [.list We [.sub (.name 1701147252 140022026) (.int 6 140027028) 140022029] 140021030] 140012031) 140012031] [.ifs (.cmp .Eq (.name 1684957547 141013017) (.str 111546465216611 141021029) 141013029) [.for (.tup [(1684828020,142016020),(545219922727158839080051,142022032)] 0 142016032) (.sub (.name 1701147252 142036040) (.int 3 142041042) 142036043) [.expr (.meth (.name 1718379891 143016020) 2057669096177774474354473867370851 143016035 [.name 1684828020 143036040,.name 545219922727158839080051 143042052] 143016053) 143016053] 142012143053] [.expr (.meth (.name 1718379891 145012016) 495623299427 145012022 [.name 1701147252 145023027] 145012028) 145012028] 141008145028] 134008145028] 132008145028] 130008145028] 128008145028,
 .expr (.meth (.attr (.name 1718379891 146008012) 7239535 146008016) 7368560 146008020 [] 146008022) 146008022]
noncomputable def jP:List IS:=[
 .ifs (.cmp .Eq (.sub (.name 1701147252 149011015) (.int 0 149016017) 149011018) (.str 114776364119923 149022030) 149011030) [.expr (.meth (.name 1718379891 150012016) 7105633 150012020 [.list We [.sub (.name 1701147252 150022026) (.int 3 150027028) 150022029,.sub (.name 1701147252 150031035) (.int 4 150036037) 150031038] 150021039] 150012040) 150012040,.asg (.to (.tup [(1937207154,151012016),(495622906222,151018023)] 0 151012023)) (.tup [.sub (.name 1701147252 151027031) (.int 5 151032033) 151027034,.list We [] 151036038] 0 151026039) 151012039] [.expr (.meth (.name 1718379891 153012016) 7105633 153012020 [.list We [.sub (.name 1701147252 153022026) (.int 3 153027028) 153022029,.sub (.name 1701147252 153031035) (.int 5 153036037) 153031038] 153021039] 153012040) 153012040,.asg (.to (.tup [(1937207154,154012016),(495622906222,154018023)] 0 154012023)) (.tup [.sub (.name 1701147252 154027031) (.int 6 154032033) 154027034,.ite (.cmp .Is (.sub (.name 1701147252 154042046) (.int 4 154047048) 154042049) (.none 154053057) 154042057) (.list We [] 154036038) (.list We [.sub (.name 1701147252 154064068) (.int 4 154069070) 154064071] 154063072) 154036072] 0 154026073) 154012073] 149008154073,
 .for (.tup [(1684828020,155012016),(545219922727158839080051,155018028)] 0 155012028) (.name 1937207154 155032036) [.expr (.meth (.name 1718379891 156012016) 7105633 156012020 [.ite (.cmp .Is (.name 1684828020 156027031) (.none 156035039) 156027039) (.tup [] 0 156021023) (.name 1684828020 156045049) 156021049] 156012050) 156012050,.expr (.meth (.name 1718379891 157012016) 121399003081079 157012023 [.name 495622906222 157024029,.name 545219922727158839080051 157031041] 157012042) 157012042] 155008157042]
noncomputable def eV:List IS:=[
 .expr (.meth (.attr (.name 1718379891 160008012) 7239535 160008016) 110425311047777 160008023 [.list We [] 160024026] 160008027) 160008027,
 .ifs (.bop .And [.cmp .IsNot (.name 1684828020 161011015) (.none 161023027) 161011027,.cmp .Eq (.sub (.name 1684828020 161032036) (.int 0 161037038) 161032039) (.str 1684956531 161043049) 161032049] 161011049) [.expr (.meth (.name 1718379891 162012016) 7105633 162012020 [.slice (.name 1684828020 162021025) (Wb (.int 2 162026027)) (Wb (.int 4 162028029)) 162026029 162021030] 162012031) 162012031] [.ifs (.cmp .IsNot (.name 1684828020 163013017) (.none 163025029) 163013029) [.expr (.meth (.name 1718379891 164012016) 1701147252 164012021 [.sub (.name 1684828020 164022026) (.int 4 164027028) 164022029] 164012030) 164012030,.ifs (.sub (.name 1684828020 165015019) (.int 3 165020021) 165015022) [.expr (.meth (.name 1718379891 166016020) 1819043188 166016025 [.comp (.sub (.name 6647407 166027030) (.int 2 166031032) 166027033) [.mk (.name 6647407 166038041) (.sub (.name 1684828020 166045049) (.int 2 166050051) 166045052) [.cmp .Eq (.sub (.name 6647407 166056059) (.int 0 166060061) 166056062) (.str 1701667182 166066072) 166056072]] [(12334,0),(6647407,0)] 166026073] 166016074) 166016074] [.expr (.meth (.name 1718379891 168016020) 7105633 168016024 [.sub (.name 1684828020 168025029) (.int 2 168030031) 168025032] 168016033) 168016033] 165012168033] [] 163008168033] 161008168033,
 .expr (.meth (.name 1718379891 169008012) 7105633 169008016 [.name 545219922727158839080051 169017027] 169008028) 169008028,
 .expr (.meth (.attr (.name 1718379891 170008012) 7239535 170008016) 7368560 170008020 [] 170008022) 170008022]
noncomputable def lp:List IS:=[
 .ifs (.cmp .Eq (.sub (.name 517097945460 172007012) (.int 0 172013014) 172007015) (.str 127970521019507 172019027) 172007027) [.ret We (Wb (.bool We 173015020)) 173008020] [] 172004173020,
 .ret We (Wb (.ite (.cmp .In (.sub (.name 517097945460 174019024) (.int 0 174025026) 174019027) (.tup [.str 521325933153 174032039,.str 435459550323 174041048,.str 7364973 174050055] 0 174031056) 174019056) (.bool Wd 174011015) (.none 174062066) 174011066)) 174004066]
noncomputable def jD:List IS:=[
 .asg (.to (.name 125779802220902 176004010)) (.call 540220137035986520334670 176013023 We [.glob 2342095099875884289410416575209832 176024038] 176013039) 176004039,
 .for (.name 1818453348 177008012) (.name 495739692388 177016021) [.ifs (.cmp .Eq (.sub (.name 1818453348 178011015) (.int 0 178016017) 178011018) (.str 7810197660629890406 178022032) 178011032) [.ifs (.cmp .IsNot (.sub (.name 1818453348 179015019) (.int 3 179020021) 179015022) (.none 179030034) 179015034) [.expr (.meth (.name 125779802220902 180016022) 1701147252 180016027 [.sub (.sub (.name 1818453348 180028032) (.int 3 180033034) 180028035) (.int 1 180036037) 180028038] 180016039) 180016039] [] 179012180039,.expr (.meth (.name 125779802220902 181012018) 34178039841792988400915083124 181012031 [.name 1818453348 181032036] 181012037) 181012037] [.expr (.meth (.name 125779802220902 183012018) 1701147252 183012023 [.name 1818453348 183024028] 183012029) 183012029] 178008183029] 177004183029,
 .ret We (Wb (.attr (.name 125779802220902 184011017) 431130765409 184011023)) 184004023]
noncomputable def w8:List IS:=[
 .ret We (Wb (.meth (.slice (.name 1701667182 189011015) Wc (Wb (.int 1 189017018)) 189016018 189011019) 32199680942502761 189011027 [] 189011029)) 189004029]
noncomputable def qF:List IS:=[
 .asg (.to (.name 1685221239 191004008)) (.sub (.name 1818453348 191011015) (.int 0 191016017) 191011018) 191004018,
 .ifs (.cmp .Eq (.name 1685221239 192007011) (.str 7810197660629890406 192015025) 192007025) [.ret We (Wb (.ite (.bop .Or [.cmp .IsNot (.sub (.name 1818453348 193021025) (.int 3 193026027) 193021028) (.none 193036040) 193021040,.cmp .In (.sub (.name 1818453348 193044048) (.int 2 193049050) 193044051) (.tup [.str 1953066601 193056062,.str 95 193064067] 0 193055068) 193044068] 193021068) (.list We [] 193015017) (.list We [.tup [.sub (.name 1818453348 193076080) (.int 2 193081082) 193076083,.str 28262 193085089] 0 193075090] 193074091) 193015091)) 193008091] [] 192004193091,
 .ifs (.cmp .Eq (.name 1685221239 194007011) (.str 7810197660663576948 194015025) 194007025) [.ret We (Wb (.ite (.cmp .NotEq (.sub (.name 1818453348 195038042) (.int 2 195043044) 195038045) (.str 95 195049052) 195038052) (.list We [.tup [.sub (.name 1818453348 195017021) (.int 2 195022023) 195017024,.str 1701869940 195026032] 0 195016033] 195015034) (.list We [] 195058060) 195015060)) 195008060] [] 194004195060,
 .asg (.to (.name 495622906222 196004009)) (.ite (.cmp .Eq (.name 1685221239 196023027) (.str 7496054 196031036) 196023036) (.sub (.name 1818453348 196012016) (.int 2 196017018) 196012019) (.comp (.name 1701667182 196043047) [.mk (.name 7827314 196052055) (.sub (.name 1818453348 196059063) (.int 2 196064065) 196059066) [],.mk (.name 1701667182 196071075) (.sub (.name 7827314 196079082) (.int 0 196083084) 196079085) []] [(12334,0),(7827314,0),(1701667182,0)] 196042086) 196012086) 196004086,
 .ret We (Wb (.comp (.tup [.name 1701667182 197013017,.name 1685221239 197019023] 0 197012024) [.mk (.name 1701667182 197029033) (.name 495622906222 197037042) [.cmp .NotEq (.name 1701667182 197046050) (.str 95 197054057) 197046057]] [(12334,0),(1701667182,0),(1685221239,3)] 197011058)) 197004058]
noncomputable def mn:List IS:=[
 .asg (.attr (.name 1718379891 201008012) 495622842726 201008018) (.dict [] [] 201021023) 201008023,
 .asg (.attr (.name 1718379891 202008012) 495622906222 202008018) (.dict [] [] 202021023) 202008023,
 .for (.tup [(1752457584,203012016),(1684828020,203018022)] 0 203012022) (.name 495622842726 203026031) [.ifs (.bop .Or [.cmp .In (.name 1752457584 204015019) (.attr (.name 1718379891 204023027) 495622842726 204023033) 204015033,.cmp .In (.name 1752457584 204037041) (.glob 336472264267 204045050) 204037050] 204015050) [.raise 140747575933921434860023113 205022033 [.bin .Add (.bin .Add (.str 10026110022884166188082227316 205034048) (.name 1752457584 205051055) 205034055) (.str 2056399598394326701718004502325536 205058074) 205034074] 205022075 205016075] [] 204012205075,.ifs (.bop .Or [.cmp .In (.str 46 206015018) (.name 1752457584 206022026) 206015026,.cmp .In (.str 35 206030033) (.name 1752457584 206037041) 206030041,.cmp .In (.str 126 206045048) (.name 1752457584 206052056) 206045056] 206015056) [.raise 140747575933921434860023113 207022033 [.bin .Add (.bin .Add (.str 52077689641197489141361678128341911922805063138977726315307105 207034062) (.name 1752457584 207065069) 207034069) (.str 49942977652748462022370100780517828686511849220147440567731623531942283124964551037580320 207072111) 207034111] 207022112 207016112] [] 206012207112,.ifs (.bop .Or [.cmp .Eq (.sub (.name 1684828020 208015019) (.int 0 208020021) 208015022) (.str 95 208026029) 208015029,.cmp .NotEq (.cmp .Eq (.sub (.name 1684828020 208034038) (.int 0 208039040) 208034041) (.glob 1313423693 208045049) 208034049) (.cmp .Eq (.name 1752457584 208055059) (.glob 1313423693 208063067) 208055067) 208033068] 208015068) [.raise 140747575933921434860023113 209022033 [.bin .Add (.bin .Add (.str 10026110022884166188082227316 209034048) (.name 1752457584 209051055) 209034055) (.str 34513910796982986584513471757417277646880 209058077) 209034077] 209022078 209016078] [] 208012209078,.asg (.sub (.attr (.name 1718379891 210012016) 495622842726 210012022) (.name 1752457584 210023027) 210012028) (.name 1684828020 210031035) 210012035,.asg (.sub (.attr (.name 1718379891 211012016) 495622906222 211012022) (.name 1752457584 211023027) 211012028) (.meth (.name 1718379891 211031035) 2128684173373565990767 211031045 [.name 1752457584 211046050,.name 1684828020 211052056] 211031057) 211012057] 203008211057,
 .asg (.attr (.name 1718379891 212008012) 474147938676 212008018) (.dcomp (.name 1752457584 212022026) (.meth (.name 1718379891 212028032) 7234316411285302633 212028041 [.name 1752457584 212042046] 212028047) [.mk (.name 1752457584 212052056) (.attr (.name 1718379891 212060064) 495622842726 212060070) []] [(12334,0),(1752457584,0),(1718379891,3)] 212021071) 212008071]
noncomputable def iN:List IS:=[
 .asg (.to (.name 431349919590 215008013)) (.dict [] [] 215016018) 215008018,
 .for (.name 1818453348 216012016) (.sub (.name 1684828020 216020024) (.int 2 216025026) 216020027) [.for (.tup [(1701667182,217016020),(1685221239,217022026)] 0 217016026) (.call 544943148383632725143412 217030040 We [.name 1818453348 217041045] 217030046) [.ifs (.cmp .Eq (.name 1701667182 218019023) (.str 1953066601 218027033) 218019033) [.raise 2147637572233656623438 219026035 [.str 179213749608526965336742640817646353387062399883723884333296125708430044777 219036069,.sub (.name 1818453348 219071075) (.int 1 219076077) 219071078] 219026079 219020079] [] 218016219079,.ifs (.cmp .In (.name 1701667182 220019023) (.name 431349919590 220027032) 220019032) [.raise 2147637572233656623438 221026035 [.bin .Add (.name 1701667182 221036040) (.str 2056399598394326701718004502325536 221043059) 221036059,.sub (.name 1818453348 221061065) (.int 1 221066067) 221061068] 221026069 221020069] [] 220016221069,.asg (.sub (.name 431349919590 222016021) (.name 1701667182 222022026) 222016027) (.name 1685221239 222030034) 222016034] 217012222034] 216008222034,
 .ret We (Wb (.name 431349919590 223015020)) 223008020]
noncomputable def mq:List IS:=[
 .asg (.to (.tup [(431349919590,226008013),(1684370293,226015019)] 0 226008019)) (.tup [.dict [] [] 226023025,.call 121352522152850519634043246 226027038 We [.sub (.sub (.attr (.name 1718379891 226039043) 495622842726 226039049) (.name 1752457584 226050054) 226039055) (.int 2 226056057) 226039058] 226027059] 0 226022060) 226008060,
 .for (.tup [(495555538017,227012017),(110386907865463,227019025),(1953460339,227027031)] 0 227012031) (.sub (.sub (.attr (.name 1718379891 227035039) 495622842726 227035045) (.name 1752457584 227046050) 227035051) (.int 1 227052053) 227035054) [.ifs (.bop .Or [.cmp .Eq (.name 110386907865463 228015021) (.glob 1313423693 228025029) 228015029,.bop .And [.cmp .NotIn (.name 110386907865463 228034040) (.glob 336472264267 228048053) 228034053,.cmp .NotIn (.name 110386907865463 228058064) (.attr (.name 1718379891 228072076) 495622842726 228072082) 228058082] 228034082] 228015083) [.raise 140747575933921434860023113 229022033 [.bin .Add (.str 184949085646998429564496203128812757525962516596 229034056) (.name 110386907865463 229059065) 229034065,.name 1953460339 229067071] 229022072 229016072] [] 228012229072,.asg (.to (.name 1701667182 230012016)) (.ite (.cmp .Is (.name 495555538017 230043048) (.none 230052056) 230043056) (.meth (.name 1718379891 230019023) 28832903138730350 230019031 [.name 110386907865463 230032038] 230019039) (.name 495555538017 230062067) 230019067) 230012067,.ifs (.cmp .Eq (.name 1701667182 231015019) (.str 1953066601 231023029) 231015029) [.raise 140747575933921434860023113 232022033 [.str 179213749608526965336742640817646353387062399883723884333296125708430044777 232034067,.name 1953460339 232069073] 232022074 232016074] [] 231012232074,.ifs (.bop .Or [.cmp .In (.name 1701667182 233015019) (.name 431349919590 233023028) 233015028,.cmp .In (.name 1701667182 233032036) (.sub (.attr (.name 1718379891 233040044) 495622906222 233040050) (.name 1752457584 233051055) 233040056) 233032056] 233015056) [.raise 140747575933921434860023113 234022033 [.bin .Add (.name 1701667182 234034038) (.str 2056399598394326701718004502325536 234041057) 234034057,.name 1953460339 234059063] 234022064 234016064] [] 233012234064,.ifs (.cmp .NotEq (.name 1701667182 235015019) (.str 95 235023026) 235015026) [.ifs (.cmp .NotIn (.name 1701667182 236019023) (.name 1684370293 236031035) 236019035) [.raise 140747575933921434860023113 237026037 [.bin .Add (.bin .Add (.str 10026110022884166188082227316 237038052) (.name 110386907865463 237055061) 237038061) (.str 31071147722668787677634193696 237064078) 237038078,.name 1953460339 237080084] 237026085 237020085] [] 236016237085,.asg (.sub (.name 431349919590 238016021) (.name 1701667182 238022026) 238016027) (.name 110386907865463 238030036) 238016036] [] 235012238036] 227008238036,
 .ret We (Wb (.name 431349919590 239015020)) 239008020]
noncomputable def jQ:List IS:=[
 .ret We (Wb (.ite (.cmp .In (.name 1752457584 242023027) (.glob 336472264267 242031036) 242023036) (.name 1752457584 242015019) (.sub (.sub (.attr (.name 1718379891 242042046) 495622842726 242042052) (.name 1752457584 242053057) 242042058) (.int 0 242059060) 242042061) 242015061)) 242008061]
noncomputable def lq:List IS:=[
 .asg (.to (.name 431349919590 245008013)) (.list Wd [] 245016018) 245008018,
 .for (.tup [(495555538017,246012017),(110386907865463,246019025),(1953460339,246027031)] 0 246012031) (.sub (.sub (.attr (.name 1718379891 246035039) 495622842726 246035045) (.name 1752457584 246046050) 246035051) (.int 1 246052053) 246035054) [.ifs (.bop .And [.cmp .NotIn (.name 110386907865463 247015021) (.glob 336472264267 247029034) 247015034,.cmp .NotIn (.name 110386907865463 247039045) (.name 431349919590 247053058) 247039058] 247015058) [.expr (.meth (.name 431349919590 248016021) 110425311047777 248016028 [.name 110386907865463 248029035] 248016036) 248016036] [] 247012248036] 246008248036,
 .ret Wd (Wb (.name 431349919590 249015020)) 249008020]
noncomputable def mr:List IS:=[
 .ret We (Wb (.meth (.sub (.attr (.name 1718379891 252015019) 495622906222 252015025) (.name 28542640758940016 252026033) 252015034) 7628135 252015038 [.name 1701667182 252039043] 252015044)) 252008044]
noncomputable def iO:List IS:=[
 .asg (.to (.name 431349919590 255008013)) (.meth (.sub (.attr (.name 1718379891 255016020) 495622906222 255016026) (.name 28542640758940016 255027034) 255016035) 7628135 255016039 [.name 1701667182 255040044] 255016045) 255008045,
 .ifs (.bop .Or [.cmp .Is (.name 431349919590 256011016) (.none 256020024) 256011024,.not (.call 121371689044478407082996585 256032043 We [.name 1701667182 256044048] 256032049) 256028049] 256011049) [.raise 2147637572233656623438 257018027 [.bin .Add (.bin .Add (.name 28542640758940016 257028035) (.str 153171251513463346132000 257038050) 257028050) (.name 1701667182 257053057) 257028057,.name 1953460339 257059063] 257018064 257012064] [] 256008257064,
 .ret We (Wb (.name 431349919590 258015020)) 258008020]
noncomputable def gH:List IS:=[
 .asg (.to (.tup [(431349919590,261008013),(1952867692,261015019)] 0 261008019)) (.tup [.list Wd [] 261023025,.call 110386908131187 261027033 Wd [.comp (.name 1752457584 261035039) [.mk (.name 1752457584 261044048) (.attr (.name 1718379891 261052056) 495622842726 261052062) [.cmp .NotEq (.name 1752457584 261066070) (.glob 1313423693 261074078) 261066078]] [(12334,0),(1752457584,0),(1313423693,1)] 261034079] 261027080] 0 261022081) 261008081,
 .expr (.meth (.name 1952867692 262008012) 110425311311973 262008019 [.comp (.name 1752457584 262021025) [.mk (.name 1752457584 262030034) (.attr (.name 1718379891 262038042) 495622842726 262038048) [.cmp .Eq (.name 1752457584 262052056) (.glob 1313423693 262060064) 262052064]] [(12334,0),(1752457584,0),(1313423693,1)] 262020065] 262008066) 262008066,
 .while (.cmp .NotEq (.name 1952867692 263014018) (.list We [] 263022024) 263014024) [.asg (.to (.name 521375147378 264012017)) (.comp (.name 1752457584 264021025) [.mk (.name 1752457584 264030034) (.name 1952867692 264038042) [.cmp .Eq (.meth (.name 1718379891 264046050) 2110956032738202313079 264046060 [.name 1752457584 264061065,.name 431349919590 264067072] 264046073) (.list We [] 264077079) 264046079]] [(12334,0),(1752457584,0),(431349919590,3),(1718379891,3)] 264020080) 264012080,.ifs (.cmp .Eq (.name 521375147378 265015020) (.list We [] 265024026) 265015026) [.raise 140747575933921434860023113 266022033 [.bin .Add (.str 16027803254464394447697008938104373753826846870727836216656085389770369908391780104233328 266034073) (.meth (.name 1718379891 266076080) 29113321770675817 266076088 [.name 1952867692 266089093,.name 431349919590 266095100] 266076101) 266034101] 266022102 266016102] [] 265012266102,.expr (.meth (.name 431349919590 267012017) 110425311047777 267012024 [.sub (.name 521375147378 267025030) (.int 0 267031032) 267025033] 267012034) 267012034,.expr (.meth (.name 1952867692 268012016) 111559349986674 268012023 [.sub (.name 521375147378 268024029) (.int 0 268030031) 268024032] 268012033) 268012033] 263008268033,
 .ret Wd (Wb (.name 431349919590 269015020)) 269008020]
noncomputable def iP:List IS:=[
 .ret We (Wb (.comp (.name 491327616111 272016021) [.mk (.name 491327616111 272026031) (.meth (.name 1718379891 272035039) 495622775156 272035045 [.name 1752457584 272046050] 272035051) [.cmp .NotIn (.name 491327616111 272055060) (.name 431349919590 272068073) 272055073]] [(12334,0),(491327616111,0),(431349919590,3)] 272015074)) 272008074]
noncomputable def jR:List IS:=[
 .asg (.to (.name 1701995880 275008012)) (.sub (.name 1952867692 275015019) (.int 0 275020021) 275015022) 275008022,
 .for (.name 1752457584 276012016) (.name 1952867692 276020024) [.asg (.to (.name 1701995880 277012016)) (.sub (.meth (.name 1718379891 277019023) 2110956032738202313079 277019033 [.name 1701995880 277034038,.name 431349919590 277040045] 277019046) (.int 0 277047048) 277019049) 277012049] 276008277049,
 .ret We (Wb (.name 1701995880 278015019)) 278008019]
noncomputable def mW:List IS:=[
 .asg (.to (.name 1684828020 281004008)) (.ite (.cmp .Gt (.call 7234924 281024027 We [.name 128026154263411 281028034] 281024035) (.int 0 281038039) 281024039) (.sub (.name 128026154263411 281011017) (.int 0 281018019) 281011020) (.int 0 281045046) 281011046) 281004046,
 .asg (.to (.name 1702521203 282004008)) (.ite (.cmp .GtE (.name 1684828020 282019023) (.int 0 282027028) 282019028) (.name 1684828020 282011015) (.bin .Sub (.int 17 282034036) (.bin .Mult (.int 2 282039040) (.name 1684828020 282043047) 282039047) 282034047) 282011047) 282004047,
 .ret We (Wb (.list Wd [.ite (.cmp .GtE (.name 1702521203 283020024) (.bin .Pow (.int 10 283028030) (.int 16 283034036) 283028036) 283020036) (.name 1702521203 283012016) (.int 0 283042043) 283012043,.bin .Mod (.bin .Add (.bin .Add (.bin .Mult (.bin .Mod (.name 1702521203 283046050) (.int 999769 283053059) 283046059) (.int 4 283062063) 283046063) (.call 7630441 283066069 We [.cmp .Lt (.name 1684828020 283070074) (.int 0 283077078) 283070078] 283066079) 283046079) (.int 91 283082084) 283046084) (.int 65519 283088093) 283045093] 283011094)) 283004094]
noncomputable def rV:List IS:=[
 .ifs (.cmp .Gt (.sub (.name 1818584434 285007011) (.int 0 285012013) 285007014) (.int 0 285017018) 285007018) [.asg (.to (.name 431349919590 286008013)) (.bin .Mod (.sub (.name 1818584434 286016020) (.int 0 286021022) 286016023) (.name 2037277037 286026030) 286016030) 286008030,.asg (.sub (.name 1818584434 287008012) (.int 0 287013014) 287008015) (.bin .FloorDiv (.sub (.name 1818584434 287018022) (.int 0 287023024) 287018025) (.name 2037277037 287029033) 287018033) 287008033,.ret We (Wb (.name 431349919590 288015020)) 288008020] [] 285004288020,
 .asg (.sub (.name 1818584434 289004008) (.int 1 289009010) 289004011) (.bin .Mod (.bin .Add (.bin .Mult (.sub (.name 1818584434 289015019) (.int 1 289020021) 289015022) (.int 187 289025028) 289015028) (.int 10007 289031036) 289015036) (.int 65519 289040045) 289014045) 289004045,
 .ret We (Wb (.bin .Mod (.bin .FloorDiv (.sub (.name 1818584434 290011015) (.int 1 290016017) 290011018) (.int 8 290022023) 290011023) (.name 2037277037 290026030) 290011030)) 290004030]
noncomputable def w9:List IS:=[
 .ret We (Wb (.sub (.name 1701670771 292011015) (.call 474274252248549332970591 292016026 We [.name 1818584434 292027031,.call 7234924 292033036 We [.name 1701670771 292037041] 292033042] 292016043) 292011044)) 292004044]
noncomputable def ua:List IS:=[
 .asg (.to (.name 495606196587 294004009)) (.call 435611006324 294012017 We [.comp (.name 1684957547 294019023) [.mk (.tup [(1685221239,294028032),(1684957547,294034038)] 0 294028038) (.name 126913623515504 294042048) []] [(12334,0),(1685221239,0),(1684957547,0)] 294018049] 294012050) 294004050,
 .asg (.to (.name 495606460279 295004009)) (.call 435611006324 295012017 We [.comp (.name 1685221239 295019023) [.mk (.tup [(1685221239,295028032),(1684957547,295034038)] 0 295028038) (.name 126913623515504 295042048) []] [(12334,0),(1685221239,0),(1684957547,0)] 295018049] 295012050) 295004050,
 .ret We (Wb (.tup [.str 7810197660629890406 296012022,.name 1953460339 296024028,.name 1701667182 296030034,.none 296036040,.tup [.str 1668183398 296043049,.int 0 296051052,.name 495606196587 296054059,.tup [] 0 296061063,.bool We 296065070] 0 296042071,.name 495606460279 296073078,.tup [] 0 296080082,.tup [.str 461229747298 296085092,.int 0 296094095,.call 435611006324 296097102 We [.name 545219922727158839080051 296103113] 296097114] 0 296084115] 0 296011116)) 296004116]
noncomputable def xa:List IS:=[
 .ret We (Wb (.tup [.str 1701667182 298012018,.int 0 298020021,.none 298023027,.str 7630441 298029034] 0 298011035)) 298004035]
noncomputable def ub:List IS:=[
 .asg (.to (.tup [(1953653104,300004008),(6579564,300010013)] 0 300004013)) (.tup [.tup [.str 127970252186995 300018026,.int 0 300028029,.tup [.str 1701667182 300032038,.int 0 300040041,.name 1701667182 300043047] 0 300031048,.str 88 300050053] 0 300017054,.tup [.str 1701667182 300057063,.int 0 300065066,.name 1701667182 300068072,.str 88 300074077] 0 300056078] 0 300016079) 300004079,
 .ifs (.cmp .Eq (.name 7954807 301007010) (.int 0 301014015) 301007015) [.ret We (Wb (.tup [.str 7496054 302016021,.int 61 302023025,.tup [.str 95 302028031] 0 302027033,.none 302035039,.tup [.name 1953653104 302042046] 0 302041048] 0 302015049)) 302008049] [] 301004302049,
 .ifs (.cmp .Eq (.name 7954807 303007010) (.int 1 303014015) 303007015) [.ret We (Wb (.tup [.str 7496054 304016021,.int 61 304023025,.tup [.str 95 304028031] 0 304027033,.tup [.str 435459550323 304036043,.int 0 304045046,.name 6579564 304048051] 0 304035052,.tup [] 0 304054056] 0 304015057)) 304008057] [] 303004304057,
 .ifs (.cmp .Eq (.name 7954807 305007010) (.int 2 305014015) 305007015) [.ret We (Wb (.call 1834187043773903629407 306015024 We [.int 61 306025027,.str 95 306029032,.list We [] 306034036,.list We [.tup [.str 1919973477 306040046,.int 0 306048049,.name 1953653104 306051055] 0 306039056,.tup [.str 111524889126244 306059067,.int 0 306069070,.tup [.name 1701667182 306073077] 0 306072079,.tup [.tup [.str 7630441 306083088,.int 0 306090091,.int 1 306093094] 0 306082095] 0 306081097] 0 306058098] 306038099] 306015100)) 306008100] [] 305004306100,
 .ret We (Wb (.call 1834187043773903629407 307011020 We [.int 61 307021023,.str 95 307025028,.list We [.tup [.str 113 307032035,.name 6579564 307037040] 0 307031041] 307030042,.list We [] 307044046] 307011047)) 307004047]
noncomputable def qG:List IS:=[
 .asg (.to (.tup [(1953653104,309004008),(1684828020,309010014)] 0 309004014)) (.tup [.tup [.str 127970252186995 309019027,.int 0 309029030,.tup [.str 1701667182 309033039,.int 0 309041042,.name 1701667182 309044048] 0 309032049,.str 88 309051054] 0 309018055,.tup [.str 111524889126244 309058066,.int 0 309068069,.tup [.name 1701667182 309072076] 0 309071078,.tup [.tup [.str 7630441 309082087,.int 0 309089090,.int 1 309092093] 0 309081094] 0 309080096] 0 309057097] 0 309017098) 309004098,
 .ifs (.cmp .Eq (.name 7954807 310007010) (.int 0 310014015) 310007015) [.ret We (Wb (.call 1834187043773903629407 311015024 We [.int 61 311025027,.str 95 311029032,.list We [.tup [.name 1701667182 311036040,.call 8389759014583495775 311042050 We [] 311042052] 0 311035053] 311034054,.list We [.tup [.str 1919973477 311058064,.int 0 311066067,.name 1953653104 311069073] 0 311057074] 311056075] 311015076)) 311008076] [] 310004311076,
 .ifs (.cmp .Eq (.name 7954807 312007010) (.int 1 312014015) 312007015) [.ret We (Wb (.call 1834187043773903629407 313015024 We [.int 61 313025027,.str 95 313029032,.list We [] 313034036,.list We [.name 1684828020 313039043,.tup [.str 1919973477 313046052,.int 0 313054055,.name 1953653104 313057061] 0 313045062] 313038063] 313015064)) 313008064] [] 312004313064,
 .ret We (Wb (.call 1834187043773903629407 314011020 We [.int 61 314021023,.str 95 314025028,.list We [] 314030032,.list We [.tup [.str 26217 314036040,.int 0 314042043,.name 1684828020 314045049,.name 1953653104 314051055,.tup [.str 461229747298 314058065,.int 0 314067068,.tup [] 0 314070072] 0 314057073,.none 314075079] 0 314035080] 314034081] 314011082)) 314004082]
noncomputable def o9:List IS:=[
 .ifs (.cmp .Eq (.name 7954807 316007010) (.int 0 316014015) 316007015) [.ret We (Wb (.tup [.str 7496054 317016021,.name 1953460339 317023027,.tup [.name 1701667182 317030034,.str 95 317036039] 0 317029040,.call 8389759014583495775 317042050 We [] 317042052,.tup [] 0 317054056] 0 317015057)) 317008057] [] 316004317057,
 .ifs (.cmp .Eq (.name 7954807 318007010) (.int 1 318014015) 318007015) [.ret We (Wb (.tup [.str 500152823651 319016023,.name 1953460339 319025029,.tup [.tup [.tup [.str 95 319034037] 0 319033039,.none 319041045,.tup [.tup [.str 7630441 319049054,.int 0 319056057,.int 1 319059060] 0 319048061] 0 319047063,.int 0 319065066] 0 319032067,.tup [.tup [.name 1701667182 319071075] 0 319070077,.none 319079083,.tup [.tup [.str 7630441 319087092,.int 0 319094095,.int 1 319097098] 0 319086099] 0 319085101,.int 1 319103104] 0 319069105] 0 319031106] 0 319015107)) 319008107] [] 318004319107,
 .ret We (Wb (.ite (.cmp .Eq (.name 7954807 320058061) (.int 2 320065066) 320058066) (.tup [.str 7810197660663576948 320012022,.name 1953460339 320024028,.name 1701667182 320030034,.call 8389759014583495775 320036044 We [] 320036046,.bool We 320048053] 0 320011054) (.call 1834187043773903629407 320072081 We [.name 1953460339 320082086,.name 1701667182 320088092,.list We [] 320094096,.list We [] 320098100] 320072101) 320011101)) 320004101]
noncomputable def qH:List IS:=[
 .try [.ret We (Wb (.callv 1819042147 323015019 323015021)) 323008021] [(140747575933921434860023113,500035838310,324011022,[.ret We (Wb (.tup [.str 128034844732777 325016024,.attr (.name 500035838310 325026031) 1953460339 325026036] 0 325015037)) 325008037],324004325037),(2147637572233656623438,500035838310,326011020,[.ret We (Wb (.tup [.str 1701667182 327016022,.attr (.name 500035838310 327024029) 1953460339 327024034] 0 327015035)) 327008035],326004327035)] 322004327035]
noncomputable def xb:List IS:=[
 .asg (.to (.tup [(431349919590,329004009),(1952867692,329011015)] 0 329004015)) (.tup [.list Wd [] 329019021,.call 1953720684 329023027 Wd [.sub (.name 495605605742 329028033) (.name 1752457584 329034038) 329028039] 329023040] 0 329018041) 329004041,
 .while (.cmp .NotEq (.name 1952867692 330010014) (.list We [] 330018020) 330010020) [.asg (.to (.name 1701995880 331008012)) (.meth (.name 1952867692 331015019) 7368560 331015023 [] 331015025) 331008025,.ifs (.cmp .NotIn (.name 1701995880 332011015) (.name 431349919590 332023028) 332011028) [.expr (.meth (.name 431349919590 333012017) 110425311047777 333012024 [.name 1701995880 333025029] 333012030) 333012030,.expr (.meth (.name 1952867692 334012016) 110425311311973 334012023 [.sub (.name 495605605742 334024029) (.name 1701995880 334030034) 334024035] 334012036) 334012036] [] 332008334036] 330004334036,
 .ret Wd (Wb (.name 431349919590 335011016)) 335004016]
noncomputable def dS:List IS:=[
 .asg (.to (.name 495605605742 337004009)) (.dict [] [] 337012014) 337004014,
 .for (.tup [(1752457584,338008012),(1684828020,338014018)] 0 338008018) (.name 495622842726 338022027) [.asg (.sub (.name 495605605742 339008013) (.name 1752457584 339014018) 339008019) (.comp (.name 491327616111 339023028) [.mk (.tup [(495555538017,339033038),(491327616111,339040045),(1953460339,339047051)] 0 339033051) (.sub (.name 1684828020 339055059) (.int 1 339060061) 339055062) [.cmp .NotEq (.name 491327616111 339066071) (.str 1668184435 339075081) 339066081]] [(12334,0),(495555538017,0),(491327616111,0),(1953460339,0)] 339022082) 339008082] 338004339082,
 .asg (.to (.tup [(495656528242,340004009),(8315165955120652656,340011019)] 0 340004019)) (.tup [.comp (.name 1752457584 340024028) [.mk (.name 1752457584 340033037) (.name 495605605742 340041046) [.cmp .In (.name 1752457584 340050054) (.call 7234307533721136223 340058066 We [.name 495605605742 340067072,.name 1752457584 340074078] 340058079) 340050079]] [(12334,0),(1752457584,0),(7234307533721136223,1),(495605605742,3)] 340023080,.call 8315165955120652624 340082090 We [.name 495622842726 340091096] 340082097] 0 340022098) 340004098,
 .try [.asg (.to (.name 1684828020 342008012)) (.meth (.name 8315165955120652656 342015023) 491327353455 342015029 [] 342015031) 342008031] [(140747575933921434860023113,500035838310,343011022,[.ret We (Wb (.cmp .In (.sub (.meth (.attr (.name 500035838310 344015020) 28542640894207341 344015028) 499984920691 344015034 [.str 32 344035038] 344015039) (.neg 1 344041042 344040042) 344015043) (.name 495656528242 344047052) 344015052)) 344008052],343004344052)] 341004344052,
 .ifs (.bop .Or [.cmp .NotEq (.name 495656528242 345007012) (.list We [] 345016018) 345007018,.cmp .NotEq (.sub (.name 1684828020 345022026) (.neg 1 345028029 345027029) 345022030) (.str 1852399981 345034040) 345022040,.cmp .NotEq (.call 110386908131187 345044050 We [.name 1684828020 345051055] 345044056) (.call 110386908131187 345060066 We [.name 495605605742 345067072] 345060073) 345044073] 345007073) [.ret We (Wb (.bool We 346015020)) 346008020] [] 345004346020,
 .for (.tup [(107,347008009),(1752457584,347011015)] 0 347008015) (.call 1871507261205758963301 347019028 We [.name 1684828020 347029033] 347019034) [.asg (.to (.tup [(431130765409,348008013),(491328397676,348015020)] 0 348008020)) (.tup [.slice (.name 1684828020 348024028) Wc (Wb (.name 107 348030031)) 348029031 348024032,.comp (.name 6647407 348035038) [.mk (.name 6647407 348043046) (.slice (.name 1684828020 348050054) (Wb (.bin .Add (.name 107 348055056) (.int 1 348059060) 348055060)) (Wb (.neg 1 348062063 348061063)) 348055063 348050064) [.cmp .Lt (.name 6647407 348068071) (.name 1752457584 348074078) 348068078]] [(12334,0),(6647407,0),(1752457584,3)] 348034079] 0 348023080) 348008080,.ifs (.cmp .NotEq (.comp (.name 491327616111 349012017) [.mk (.name 491327616111 349022027) (.sub (.name 495605605742 349031036) (.name 1752457584 349037041) 349031042) [.cmp .NotIn (.name 491327616111 349046051) (.name 431130765409 349059064) 349046064]] [(12334,0),(491327616111,0),(431130765409,3)] 349011065) (.list We [] 349069071) 349011071) [.ret We (Wb (.bool We 350019024)) 350012024] [] 349008350024,.ifs (.cmp .NotEq (.comp (.name 6647407 351012015) [.mk (.name 6647407 351020023) (.name 491328397676 351027032) [.cmp .Eq (.comp (.name 491327616111 351037042) [.mk (.name 491327616111 351047052) (.sub (.name 495605605742 351056061) (.name 6647407 351062065) 351056066) [.cmp .NotIn (.name 491327616111 351070075) (.name 431130765409 351083088) 351070088]] [(12334,0),(491327616111,0),(431130765409,3)] 351036089) (.list We [] 351093095) 351036095]] [(12334,0),(6647407,0),(431130765409,3),(495605605742,3)] 351011096) (.list We [] 351100102) 351011102) [.ret We (Wb (.bool We 352019024)) 352012024] [] 351008352024] 347004352024,
 .ret We (Wb (.bool Wd 353011015)) 353004015]
noncomputable def uc:List IS:=[
 .ret We (Wb (.tup [.name 1752457584 355012016,.tup [.name 1701667182 355019023,.call 435611006324 355025030 We [.name 32497657166458217 355031038] 355025039,.call 435611006324 355041046 We [.name 495739692388 355047052] 355041053] 0 355018054] 0 355011055)) 355004055]
noncomputable def qI:List IS:=[
 .asg (.to (.name 32497657166458217 357004011)) (.comp (.tup [.none 357016020,.name 491327616111 357022027,.int 71 357029031] 0 357015032) [.mk (.name 491327616111 357037042) (.name 126935164810351 357046052) []] [(12334,0),(491327616111,0)] 357014053) 357004053,
 .ret We (Wb (.call 1870933039033526348895 358011020 We [.name 1752457584 358021025,.name 1752457584 358027031,.name 32497657166458217 358033040,.comp (.call 1851984723043992824927 358043052 We [.int 0 358053054,.name 491327616111 358056061] 358043062) [.mk (.name 491327616111 358067072) (.name 126935164810351 358076082) []] [(12334,0),(491327616111,0),(1851984723043992824927,1)] 358042083] 358011084)) 358004084]
noncomputable def iQ:List IS:=[
 .asg (.to (.name 495673696624 360004009)) (.slice (.list We [.str 1852399981 360013019,.str 98 360021024,.str 8007521 360026031,.str 6369123 360033038,.str 97 360040043] 360012044) Wc (Wb (.bin .Add (.int 2 360046047) (.call 474274252248549332970591 360050060 We [.name 1818584434 360061065,.int 4 360067068] 360050069) 360046069)) 360045069 360012070) 360004070,
 .asg (.to (.tup [(28549237979444073,361004011),(495622842726,361013018)] 0 361004018)) (.tup [.cmp .Gt (.call 474274252248549332970591 361022032 We [.name 1818584434 361033037,.int 3 361039040] 361022041) (.int 0 361044045) 361022045,.list Wd [] 361047049] 0 361021050) 361004050,
 .for (.tup [(29793,362008010),(1752457584,362012016)] 0 362008016) (.call 1871507261205758963301 362020029 We [.name 495673696624 362030035] 362020036) [.asg (.to (.tup [(32497657166458217,363008015),(495622906222,363017022),(495739692388,363024029)] 0 363008029)) (.tup [.list Wd [] 363033035,.list Wd [] 363037039,.list Wd [] 363041043] 0 363032044) 363008044,.for (.tup [(435459026032,364012017),(491327616111,364019024)] 0 364012024) (.call 1871507261205758963301 364028037 We [.bin .Add (.slice (.name 495673696624 364038043) (Wb (.int 1 364044045)) Wc 364044046 364038047) (.list We [.str 1668184435 364051057] 364050058) 364038058] 364028059) [.ifs (.bop .And [.bop .Or [.cmp .Eq (.name 29793 365016018) (.int 0 365022023) 365016023,.not (.name 28549237979444073 365031038) 365027038,.cmp .GtE (.name 435459026032 365042047) (.name 29793 365051053) 365042053] 365016053,.cmp .Eq (.call 474274252248549332970591 365059069 We [.name 1818584434 365070074,.int 2 365076077] 365059078) (.int 0 365082083) 365059083] 365015083) [.asg (.to (.tup [(495555538017,366016021),(1701667182,366023027)] 0 366016027)) (.tup [.call 7308901701084343391 366031039 We [.name 1818584434 366040044,.list We [.none 366047051,.none 366053057,.bin .Add (.str 107 366059062) (.call 7500915 366065068 We [.name 435459026032 366069074] 366065075) 366059075,.str 95 366077080] 366046081] 366031082,.sub (.meth (.name 491327616111 366084089) 499984920691 366084095 [.str 47 366096099] 366084100) (.neg 1 366102103 366101103) 366084104] 0 366030105) 366016105,.ifs (.bop .And [.cmp .Is (.name 495555538017 367019024) (.none 367028032) 367019032,.cmp .In (.name 1701667182 367037041) (.name 495622906222 367045050) 367037050] 367019050) [.asg (.to (.name 495555538017 368020025)) (.bin .Add (.str 107 368028031) (.call 7500915 368034037 We [.name 435459026032 368038043] 368034044) 368028044) 368020044] [] 367016368044,.expr (.meth (.name 32497657166458217 369016023) 110425311047777 369016030 [.tup [.name 495555538017 369032037,.name 491327616111 369039044,.bin .Add (.int 71 369046048) (.name 435459026032 369051056) 369046056] 0 369031057] 369016058) 369016058,.ifs (.cmp .NotEq (.name 495555538017 370019024) (.str 95 370028031) 370019031) [.expr (.meth (.name 495622906222 371020025) 110425311047777 371020032 [.ite (.cmp .Is (.name 495555538017 371041046) (.none 371050054) 371041054) (.name 1701667182 371033037) (.name 495555538017 371060065) 371033065] 371020066) 371020066,.expr (.meth (.name 495739692388 372020025) 110425311047777 372020032 [.call 1851984723043992824927 372033042 We [.call 474274252248549332970591 372043053 We [.name 1818584434 372054058,.int 4 372060061] 372043062,.sub (.name 495622906222 372064069) (.neg 1 372071072 372070072) 372064073] 372033074] 372020075) 372020075] [] 370016372075] [] 365012372075] 364008372075,.expr (.meth (.name 495622842726 373008013) 110425311047777 373008020 [.call 1870933039033526348895 373021030 We [.name 1752457584 373031035,.sub (.meth (.name 1752457584 373037041) 499984920691 373037047 [.str 47 373048051] 373037052) (.neg 1 373054055 373053055) 373037056,.name 32497657166458217 373058065,.name 495739692388 373067072] 373021073] 373008074) 373008074] 362004373074,
 .asg (.to (.name 1852994932 374004008)) (.call 474274252248549332970591 374011021 We [.name 1818584434 374022026,.call 7234924 374028031 We [.name 495622842726 374032037] 374028038] 374011039) 374004039,
 .ret We (Wb (.bin .Add (.slice (.name 495622842726 375011016) (Wb (.name 1852994932 375017021)) Wc 375017022 375011023) (.slice (.name 495622842726 375026031) Wc (Wb (.name 1852994932 375033037)) 375032037 375026038) 375011038)) 375004038]
noncomputable def fR:List IS:=[
 .asg (.to (.tup [(7954807,377004007),(1701670771,377009013)] 0 377004013)) (.tup [.call 474274252248549332970591 377017027 We [.name 1818584434 377028032,.int 15 377034036] 377017037,.call 474274252248549332970591 377039049 We [.name 1818584434 377050054,.int 3 377056057] 377039058] 0 377016059) 377004059,
 .ifs (.cmp .Eq (.name 7954807 378007010) (.int 0 378014015) 378007015) [.ret We (Wb (.tup [.list We [.call 1870933039033526348895 379017026 We [.str 503306152300 379027034,.str 117 379036039,.list We [] 379041043,.list We [] 379045047] 379017048] 379016049,.list We [] 379051053,.list We [] 379055057,.str 128034844732777 379059067,.int 0 379069070] 0 379015071)) 379008071] [] 378004379071,
 .ifs (.cmp .Eq (.name 7954807 380007010) (.int 1 380014015) 380007015) [.ret We (Wb (.tup [.list We [.call 1870933039033526348895 381017026 We [.sub (.list We [.str 1668184435 381028034,.str 28549272340166002 381036045,.str 1668184435 381047053] 381027054) (.name 1701670771 381055059) 381027060,.str 119 381062065,.list We [] 381067069,.list We [] 381071073] 381017074] 381016075,.list We [] 381077079,.list We [] 381081083,.str 128034844732777 381085093,.int 0 381095096] 0 381015097)) 381008097] [] 380004381097,
 .ifs (.cmp .Eq (.name 7954807 382007010) (.int 2 382014015) 382007015) [.ret We (Wb (.tup [.list We [.call 1870933039033526348895 383017026 We [.bin .Add (.bin .Add (.str 119 383027030) (.sub (.str 8266542 383033038) (.name 1701670771 383039043) 383033044) 383027044) (.str 119 383047050) 383027050,.str 119 383052055,.list We [] 383057059,.list We [] 383061063] 383017064] 383016065,.list We [] 383067069,.list We [] 383071073,.str 128034844732777 383075083,.int 0 383085086] 0 383015087)) 383008087] [] 382004383087,
 .ifs (.cmp .Eq (.name 7954807 384007010) (.int 3 384014015) 384007015) [.ret We (Wb (.tup [.list We [.call 1870933039033526348895 385017026 We [.str 119 385027030,.sub (.list We [.str 95 385033036,.str 1852399981 385038044,.str 95 385046049] 385032050) (.name 1701670771 385051055) 385032056,.list We [] 385058060,.list We [] 385062064] 385017065] 385016066,.list We [] 385068070,.list We [] 385072074,.str 128034844732777 385076084,.int 0 385086087] 0 385015088)) 385008088] [] 384004385088,
 .ifs (.cmp .Eq (.name 7954807 386007010) (.int 4 386014015) 386007015) [.ret We (Wb (.tup [.list We [] 387016018,.list We [.tup [.sub (.list We [.none 387023027,.str 110 387029032,.str 95 387034037] 387022038) (.name 1701670771 387039043) 387022044,.str 28554752517697390 387046055,.int 31 387057059] 0 387021060] 387020061,.list We [.call 1851984723043992824927 387064073 We [.int 0 387074075,.str 110 387077080] 387064081] 387063082,.str 128034844732777 387084092,.int 31 387094096] 0 387015097)) 387008097] [] 386004387097,
 .ifs (.cmp .Eq (.name 7954807 388007010) (.int 5 388014015) 388007015) [.ret We (Wb (.tup [.list We [] 389016018,.list We [.tup [.sub (.list We [.none 389023027,.str 109 389029032,.str 95 389034037] 389022038) (.name 1701670771 389039043) 389022044,.str 1852399981 389046052,.int 31 389054056] 0 389021057] 389020058,.list We [.call 1851984723043992824927 389061070 We [.int 0 389071072,.str 109 389074077] 389061078] 389060079,.str 128034844732777 389081089,.int 31 389091093] 0 389015094)) 389008094] [] 388004389094,
 .ifs (.cmp .Eq (.name 7954807 390007010) (.int 6 390014015) 390007015) [.ret We (Wb (.tup [.list We [] 391016018,.list We [] 391020022,.list We [.call 32010435700295989643366722655 391025037 We [.name 1701670771 391038042,.str 1953066601 391044050,.int 41 391052054] 391025055] 391024056,.str 1701667182 391058064,.int 41 391066068] 0 391015069)) 391008069] [] 390004391069,
 .ifs (.cmp .Eq (.name 7954807 392007010) (.int 7 392014015) 392007015) [.ret We (Wb (.tup [.list We [] 393016018,.list We [] 393020022,.list We [.call 32010435700295989643366722655 393025037 We [.int 3 393038039,.str 116 393041044,.int 40 393046048] 393025049,.call 32010435700295989643366722655 393051063 We [.call 474274252248549332970591 393064074 We [.name 1818584434 393075079,.int 4 393081082] 393064083,.str 116 393085088,.int 41 393090092] 393051093] 393024094,.str 1701667182 393096102,.int 41 393104106] 0 393015107)) 393008107] [] 392004393107,
 .ifs (.cmp .Eq (.name 7954807 394007010) (.int 8 394014015) 394007015) [.ret We (Wb (.tup [.list We [] 395016018,.list We [.tup [.str 1953066601 395022028,.str 1668184435 395030036,.int 31 395038040] 0 395021041] 395020042,.list We [.call 1851984723043992824927 395045054 We [.int 0 395055056,.str 1953066601 395058064] 395045065] 395044066,.str 128034844732777 395068076,.int 31 395078080] 0 395015081)) 395008081] [] 394004395081,
 .ifs (.cmp .Eq (.name 7954807 396007010) (.int 9 396014015) 396007015) [.ret We (Wb (.tup [.list We [.call 1870933039033526348895 397017026 We [.str 119 397027030,.str 1953066601 397032038,.list We [] 397040042,.list We [] 397044046] 397017047] 397016048,.list We [.tup [.none 397052056,.str 119 397058061,.int 31 397063065] 0 397051066] 397050067,.list We [.call 1851984723043992824927 397070079 We [.int 0 397080081,.str 1953066601 397083089] 397070090] 397069091,.str 128034844732777 397093101,.int 31 397103105] 0 397015106)) 397008106] [] 396004397106,
 .ifs (.cmp .Eq (.name 7954807 398007010) (.int 10 398014016) 398007016) [.ret We (Wb (.tup [.list We [] 399016018,.list We [.tup [.str 117 399022025,.str 1668184435 399027033,.int 31 399035037] 0 399021038] 399020039,.list We [] 399041043,.str 128034844732777 399045053,.int 31 399055057] 0 399015058)) 399008058] [] 398004399058,
 .ifs (.cmp .Eq (.name 7954807 400007010) (.int 11 400014016) 400007016) [.ret We (Wb (.tup [.list We [] 401016018,.list We [.tup [.str 115 401022025,.str 1668184435 401027033,.int 31 401035037] 0 401021038,.tup [.str 115 401041044,.str 28549272340166002 401046055,.int 32 401057059] 0 401040060] 401020061,.list We [.call 1851984723043992824927 401064073 We [.name 1701670771 401074078,.str 115 401080083] 401064084] 401063085,.str 128034844732777 401087095,.int 32 401097099] 0 401015100)) 401008100] [] 400004401100,
 .ifs (.cmp .Eq (.name 7954807 402007010) (.int 12 402014016) 402007016) [.ret We (Wb (.tup [.list We [] 403016018,.list We [.tup [.str 7239535 403022027,.str 1668184435 403029035,.int 31 403037039] 0 403021040] 403020041,.list We [.call 32010435700295989643366722655 403044056 We [.name 1701670771 403057061,.str 7239535 403063068,.int 41 403070072] 403044073,.call 1851984723043992824927 403075084 We [.int 3 403085086,.str 7239535 403088093] 403075094] 403043095,.str 128034844732777 403097105,.int 31 403107109] 0 403015110)) 403008110] [] 402004403110,
 .ifs (.cmp .Eq (.name 7954807 404007010) (.int 13 404014016) 404007016) [.ret We (Wb (.tup [.list We [] 405016018,.list We [.tup [.none 405022026,.str 1668184435 405028034,.int 31 405036038] 0 405021039] 405020040,.list We [.call 133460651082215449920891999 405043054 We [.name 1701670771 405055059,.str 1668184435 405061067] 405043068] 405042069,.str 128034844732777 405071079,.int 31 405081083] 0 405015084)) 405008084] [] 404004405084,
 .ret We (Wb (.tup [.list We [.call 1870933039033526348895 406013022 We [.str 7876471 406023028,.str 121 406030033,.list We [] 406035037,.list We [] 406039041] 406013042] 406012043,.list We [.tup [.none 406047051,.str 7876471 406053058,.int 31 406060062] 0 406046063] 406045064,.list We [.call 1851984723043992824927 406067076 We [.name 1701670771 406077081,.str 120 406083086] 406067087] 406066088,.str 128034844732777 406090098,.int 31 406100102] 0 406011103)) 406004103]
noncomputable def a6:List IS:=[
 .asg (.to (.tup [(1701998445,408004008),(32497657166458217,408010017),(495739692388,408019024),(1685221239,408026030),(1953460339,408032036)] 0 408004036)) (.call 549795218526974865665119 408039049 We [.name 1818584434 408050054] 408039055) 408004055,
 .asg (.to (.name 495622842726 409004009)) (.list We [.call 1870933039033526348895 409013022 We [.str 503306152300 409023030,.str 117 409032035,.list We [] 409037039,.list We [] 409041043] 409013044,.call 1870933039033526348895 409046055 We [.str 1852399981 409056062,.str 1852399981 409064070,.list We [.tup [.none 409074078,.str 503306152300 409080087,.int 5 409089090] 0 409073091] 409072092,.list We [.call 1851984723043992824927 409095104 We [.int 1 409105106,.str 117 409108111] 409095112] 409094113] 409046114] 409012115) 409004115,
 .ifs (.cmp .NotEq (.attr (.call 8315165955120652624 410007015 We [.name 495622842726 410016021] 410007022) 474147938676 410007028) (.dict [.str 503306152300 410033040,.str 1852399981 410046052] [.dict [] [] 410042044,.dict [.str 117 410055058] [.str 503306152300 410060067] 410054068] 410032069) 410007069) [.ret We (Wb (.bool We 411015020)) 411008020] [] 410004411020,
 .asg (.to (.name 1701734765 412004008)) (.bin .Add (.list We [.call 1851984723043992824927 412012021 We [.call 474274252248549332970591 412022032 We [.name 1818584434 412033037,.int 4 412039040] 412022041,.str 117 412043046] 412012047] 412011048) (.name 495739692388 412051056) 412011056) 412004056,
 .asg (.to (.name 495622842726 413004009)) (.bin .Add (.list We [.sub (.name 495622842726 413013018) (.int 0 413019020) 413013021,.call 1870933039033526348895 413023032 We [.str 1852399981 413033039,.str 1852399981 413041047,.bin .Add (.list We [.tup [.none 413051055,.str 503306152300 413057064,.int 5 413066067] 0 413050068] 413049069) (.name 32497657166458217 413072079) 413049079,.name 1701734765 413081085] 413023086] 413012087) (.name 1701998445 413090094) 413012094) 413004094,
 .ret We (Wb (.cmp .Eq (.call 138296705931074955972275295 414011022 We [.lam (.call 8315165955120652624 414031039 We [.name 495622842726 414040045] 414031046) [(495622842726,3),(8315165955120652624,1)] 414023046] 414011047) (.tup [.name 1685221239 414052056,.name 1953460339 414058062] 0 414051063) 414011063)) 414004063]
noncomputable def kj:List IS:=[
 .asg (.to (.tup [(474214394992,416004009),(461229747298,416011016)] 0 416004016)) (.tup [.tup [.str 1668183398 416021027,.int 0 416029030,.tup [] 0 416032034,.tup [] 0 416036038,.bool We 416040045] 0 416020046,.tup [.str 461229747298 416049056,.int 0 416058059,.tup [] 0 416061063] 0 416048064] 0 416019065) 416004065,
 .asg (.to (.name 495739692388 417004009)) (.list Wd [.call 1834187043773903629407 417013022 We [.int 11 417023025,.str 1953066601 417027033,.list We [] 417035037,.list We [] 417039041] 417013042,.call 1834187043773903629407 417044053 We [.int 12 417054056,.str 1953066601 417058064,.list We [] 417066068,.list We [] 417070072] 417044073,.call 1834187043773903629407 417075084 We [.int 13 417085087,.str 95 417089092,.list We [] 417094096,.list We [] 417098100] 417075101] 417012102) 417004102,
 .expr (.meth (.name 495739692388 418004009) 110425311047777 418004016 [.tup [.str 7810197660629890406 418018028,.int 14 418030032,.str 116 418034037,.tup [.str 114 418040043,.tup [.str 1701667182 418046052,.int 0 418054055,.none 418057061,.str 84 418063066] 0 418045067] 0 418039068,.name 474214394992 418070075,.tup [] 0 418077079,.tup [] 0 418081083,.name 461229747298 418085090] 0 418017091] 418004092) 418004092,
 .asg (.to (.name 495739692388 419004009)) (.bin .Add (.name 495739692388 419012017) (.list We [.call 32010435700295989643366722655 419021033 We [.int 3 419034035,.str 116 419037040,.int 15 419042044] 419021045,.call 32010435700295989643366722655 419047059 We [.int 0 419060061,.str 118 419063066,.int 16 419068070] 419047071,.call 32010435700295989643366722655 419073085 We [.int 1 419086087,.str 75 419089092,.int 17 419094096] 419073097] 419020098) 419012098) 419004098,
 .asg (.to (.name 495739692388 420004009)) (.bin .Add (.name 495739692388 420012017) (.list We [.call 32010435700295989643366722655 420021033 We [.int 2 420034035,.str 84 420037040,.int 18 420042044] 420021045,.call 32010435700295989643366722655 420047059 We [.int 2 420060061,.str 95 420063066,.int 19 420068070] 420047071,.call 32010435700295989643366722655 420073085 We [.int 0 420086087,.str 95 420089092,.int 20 420094096] 420073097] 420020098) 420012098) 420004098,
 .asg (.to (.name 8315165955120652656 421004012)) (.call 8315165955120652624 421015023 We [.list We [.call 1870933039033526348895 421025034 We [.str 503306152300 421035042,.str 117 421044047,.list We [.tup [.str 95 421051054,.str 1668184435 421056062,.int 9 421064065] 0 421050066] 421049067,.name 495739692388 421069074] 421025075] 421024076] 421015077) 421004077,
 .ifs (.cmp .NotEq (.sub (.attr (.name 8315165955120652656 422007015) 495622906222 422007021) (.str 503306152300 422022029) 422007030) (.dict [.str 116 422035038,.str 118 422046049,.str 75 422058061,.str 84 422072075] [.str 28262 422040044,.str 7496054 422051056,.str 500152823651 422063070,.str 1701869940 422077083] 422034084) 422007084) [.ret We (Wb (.bool We 423015020)) 423008020] [] 422004423020,
 .asg (.to (.name 1684828020 424004008)) (.comp (.call 138296705931074955972275295 424012023 We [.lam (.meth (.name 8315165955120652656 424032040) 7954215013218936886591012890982 424032054 [.str 503306152300 424055062,.name 1701667182 424064068,.int 8 424070071] 424032072) [(1701667182,3),(8315165955120652656,3)] 424024072] 424012073) [.mk (.name 1701667182 424078082) (.list We [.str 75 424087090,.str 118 424092095,.str 1701736270 424097103] 424086104) []] [(12334,0),(1701667182,2),(138296705931074955972275295,1),(8315165955120652656,3)] 424011105) 424004105,
 .ret We (Wb (.bop .And [.cmp .Eq (.name 1684828020 425011015) (.list We [.str 500152823651 425020027,.tup [.str 1701667182 425030036,.int 8 425038039] 0 425029040,.tup [.str 1701667182 425043049,.int 8 425051052] 0 425042053] 425019054) 425011054,.cmp .Eq (.meth (.name 8315165955120652656 425059067) 1684957542 425059072 [.str 503306152300 425073080,.str 118 425082085] 425059086) (.str 7496054 425090095) 425059095] 425011095)) 425004095]
noncomputable def kl:List IS:=[
 .asg (.to (.name 1701670771 427004008)) (.list We [.call 125040764379143793643973727 427012023 We [.str 1852399981 427024030,.list We [.str 99 427033036] 427032037] 427012038,.call 125040764379143793643973727 427040051 We [.str 100 427052055,.list We [] 427057059] 427040060,.call 125040764379143793643973727 427062073 We [.str 97 427074077,.list We [.str 98 427080083] 427079084] 427062085,.call 125040764379143793643973727 427087098 We [.str 98 427099102,.list We [.str 99 427105108] 427104109] 427087110] 427011111) 427004111,
 .ifs (.cmp .NotEq (.meth (.call 8315165955120652624 428007015 We [.bin .Add (.name 1701670771 428016020) (.list We [.call 125040764379143793643973727 428024035 We [.str 99 428036039,.list We [] 428041043] 428024044] 428023045) 428016045] 428007046) 491327353455 428007052 [] 428007054) (.list We [.str 99 428059062,.str 98 428064067,.str 97 428069072,.str 100 428074077,.str 1852399981 428079085] 428058086) 428007086) [.ret We (Wb (.bool We 429015020)) 429008020] [] 428004429020,
 .ifs (.not (.call 154732543826880782742652800697150565471 430011027 We [.list We [.call 125040764379143793643973727 430029040 We [.str 100 430041044,.list We [.str 97 430047050] 430046051] 430029052,.call 125040764379143793643973727 430054065 We [.str 97 430066069,.list We [.str 98 430072075] 430071076] 430054077,.call 125040764379143793643973727 430079090 We [.str 98 430091094,.list We [.str 97 430097100] 430096101] 430079102] 430028103] 430011104) 430007104) [.ret We (Wb (.bool We 431015020)) 431008020] [] 430004431020,
 .asg (.to (.name 1701736300 432004008)) (.list We [.call 1870933039033526348895 432012021 We [.str 1852399981 432022028,.str 1852399981 432030036,.list We [.tup [.none 432040044,.str 1668184435 432046052,.int 31 432054056] 0 432039057] 432038058,.list We [.call 133460651082215449920891999 432061072 We [.int 0 432073074,.str 1668184435 432076082] 432061083] 432060084] 432012085] 432011086) 432004086,
 .ret We (Wb (.bop .And [.cmp .Eq (.call 138296705931074955972275295 433011022 We [.lam (.call 8315165955120652624 433031039 We [.name 1701736300 433040044] 433031045) [(1701736300,3),(8315165955120652624,1)] 433023045] 433011046) (.tup [.str 128034844732777 433051059,.int 31 433061063] 0 433050064) 433011064,.call 154732543826880787465663015739021421663 433069085 We [] 433069087] 433011087)) 433004087]
noncomputable def mX:List IS:=[
 .ifs (.not (.call 154732543826880716630960649232481086559 435011027 We [] 435011029) 435007029) [.ret We (Wb (.bool We 436015020)) 436008020] [] 435004436020,
 .ifs (.bop .Or [.cmp .Eq (.call 7234924 437007010 We [.name 128026154263411 437011017] 437007018) (.int 0 437022023) 437007023,.cmp .Eq (.sub (.name 128026154263411 437027033) (.int 0 437034035) 437027036) (.int 0 437040041) 437027041] 437007041) [.ret We (Wb (.bool Wd 438015019)) 438008019] [] 437004438019,
 .asg (.to (.name 1818584434 439004008)) (.call 1999554731685460405343 439011020 Wd [.name 128026154263411 439021027] 439011028) 439004028,
 .ifs (.not (.call 154732543826880782742652800697150565471 440011027 We [.call 521662497445562621717599 440028038 We [.name 1818584434 440039043] 440028044] 440011045) 440007045) [.ret We (Wb (.bool We 441015020)) 441008020] [] 440004441020,
 .ret We (Wb (.bop .And [.call 154732543826880792317733159080843897951 442011027 We [.name 1818584434 442028032] 442011033,.call 154732543826880792317733159080843897951 442038054 We [.name 1818584434 442055059] 442038060] 442011060)) 442004060]
noncomputable def km:Fn:=⟨[1718379891,28542640894207341,1953460339],[(.int 0)],[(1718379891,0),(28542640894207341,0),(1953460339,0),(2037169923944901474373,1)],gE,Wc,We⟩
noncomputable def fj:Fn:=⟨[1718379891,8320793298381005160,8315165955120652656],[(.tup [])],[(1718379891,0),(8320793298381005160,0),(8315165955120652656,0)],ka,Wc,We⟩
noncomputable def d6:Fn:=⟨[1718379891,1701667182],[],[(1718379891,0),(1701667182,2),(7958113,1)],iL,Wc,We⟩
noncomputable def dp:Fn:=⟨[1718379891,1701147252],[],[(1718379891,0),(1701147252,0)],gF,Wc,We⟩
noncomputable def fk:Fn:=⟨[1718379891,1701667182,28554821420151657],[(.bool Wd)],[(1718379891,0),(1701667182,0),(28554821420151657,0)],ke,Wc,We⟩
noncomputable def dq:Fn:=⟨[1718379891,1701667182],[],[(1718379891,0),(1701667182,0)],gG,Wc,We⟩
noncomputable def fo:Fn:=⟨[1718379891,495622906222],[],[(1718379891,0),(495622906222,0),(1953720684,1)],kg,Wc,We⟩
noncomputable def a7:Fn:=⟨[1718379891,495622386292],[],[(1718379891,0),(495622386292,0),(1701147252,0)],lm,Wc,We⟩
noncomputable def cP:Fn:=⟨[1718379891,495622906222,495622386292],[],[(1718379891,0),(495622906222,0),(495622386292,0),(1953720684,1)],jv,Wc,We⟩
noncomputable def aA:Fn:=⟨[1718379891,1701147252],[],[(1718379891,0),(1701147252,0),(1684957547,0),(7234924,1)],kh,Wc,We⟩
noncomputable def aZ:Fn:=⟨[1718379891,495874892144],[],[(1718379891,0),(495874892144,0),(1953653104,0),(478793196199587447665513,1),(435611006324,1),(7500915,1),(7234924,1),(7630441,1)],jO,Wc,We⟩
noncomputable def hW:Fn:=⟨[1718379891,517097945460,126913623515504,32497631497512306,461229747298],[],[(1718379891,0),(517097945460,0),(126913623515504,0),(32497631497512306,0),(461229747298,0),(1953720684,1)],iu,Wc,We⟩
noncomputable def bL:Fn:=⟨[1718379891,1818453348],[],[(1718379891,0),(1818453348,0),(495622906222,0),(1953720684,1)],fH,Wc,We⟩
noncomputable def iw:Fn:=⟨[1718379891,1701147252],[],[(1718379891,0),(1701147252,0),(1684828020,0),(544943727926414822039912,0),(7955819,0),(435761734006,0)],iM,Wc,We⟩
noncomputable def bk:Fn:=⟨[1718379891,1701147252],[],[(1718379891,0),(1701147252,0),(1684957547,0),(495622906222,0),(517097945460,0),(495841212517,0),(1635020649,0),(435611006324,1)],gw,Wc,We⟩
noncomputable def cQ:Fn:=⟨[1718379891,1701147252],[],[(1718379891,0),(1701147252,0),(1684957547,0),(1684828020,0),(545219922727158839080051,0)],jw,Wc,We⟩
noncomputable def jx:Fn:=⟨[1718379891,1701147252],[],[(1718379891,0),(1701147252,0),(1937207154,0),(495622906222,0),(1684828020,0),(545219922727158839080051,0)],jP,Wc,We⟩
noncomputable def eO:Fn:=⟨[1718379891,1684828020,545219922727158839080051],[],[(1718379891,0),(1684828020,0),(545219922727158839080051,0)],eV,Wc,We⟩
noncomputable def ko:Fn:=⟨[517097945460],[],[(517097945460,0)],lp,Wc,We⟩
noncomputable def iR:Fn:=⟨[495739692388],[],[(495739692388,0),(125779802220902,0),(1818453348,0),(540220137035986520334670,1),(2342095099875884289410416575209832,1)],jD,Wc,We⟩
noncomputable def ud:Fn:=⟨[1701667182],[],[(1701667182,0)],w8,Wc,We⟩
noncomputable def jE:Fn:=⟨[1818453348],[],[(1818453348,0),(1685221239,2),(495622906222,0)],qF,Wc,We⟩
noncomputable def gI:Fn:=⟨[1718379891,495622842726],[],[(1718379891,2),(495622842726,0),(1752457584,0),(1684828020,0),(336472264267,1),(140747575933921434860023113,1),(1313423693,1)],mn,Wc,We⟩
noncomputable def d7:Fn:=⟨[1718379891,1752457584,1684828020],[],[(1718379891,0),(1752457584,0),(1684828020,0),(431349919590,0),(1818453348,0),(1701667182,0),(1685221239,0),(544943148383632725143412,1),(2147637572233656623438,1)],iN,Wc,We⟩
noncomputable def gJ:Fn:=⟨[1718379891,1752457584],[],[(1718379891,0),(1752457584,0),(431349919590,0),(1684370293,0),(495555538017,0),(110386907865463,0),(1953460339,0),(1701667182,0),(121352522152850519634043246,1),(1313423693,1),(336472264267,1),(140747575933921434860023113,1)],mq,Wc,We⟩
noncomputable def eT:Fn:=⟨[1718379891,1752457584],[],[(1718379891,0),(1752457584,0),(336472264267,1)],jQ,Wc,We⟩
noncomputable def fS:Fn:=⟨[1718379891,1752457584],[],[(1718379891,0),(1752457584,0),(431349919590,0),(495555538017,0),(110386907865463,0),(1953460339,0),(336472264267,1)],lq,Wc,We⟩
noncomputable def lr:Fn:=⟨[1718379891,28542640758940016,1701667182],[],[(1718379891,0),(28542640758940016,0),(1701667182,0)],mr,Wc,We⟩
noncomputable def ix:Fn:=⟨[1718379891,28542640758940016,1701667182,1953460339],[(.int 0)],[(1718379891,0),(28542640758940016,0),(1701667182,0),(1953460339,0),(431349919590,0),(121371689044478407082996585,1),(2147637572233656623438,1)],iO,Wc,We⟩
noncomputable def fU:Fn:=⟨[1718379891],[],[(1718379891,2),(431349919590,2),(1952867692,0),(521375147378,0),(110386908131187,1),(140747575933921434860023113,1)],gH,Wc,We⟩
noncomputable def d8:Fn:=⟨[1718379891,1752457584,431349919590],[],[(1718379891,0),(1752457584,0),(431349919590,2)],iP,Wc,We⟩
noncomputable def eU:Fn:=⟨[1718379891,1952867692,431349919590],[],[(1718379891,0),(1952867692,0),(431349919590,0),(1701995880,0),(1752457584,0)],jR,Wc,We⟩
noncomputable def lO:Fn:=⟨[128026154263411],[],[(128026154263411,0),(1684828020,0),(1702521203,0),(7234924,1),(7630441,1)],mW,Wc,We⟩
noncomputable def kq:Fn:=⟨[1818584434,2037277037],[],[(1818584434,0),(2037277037,0),(431349919590,0)],rV,Wc,We⟩
noncomputable def mY:Fn:=⟨[1818584434,1701670771],[],[(1818584434,0),(1701670771,0),(474274252248549332970591,1),(7234924,1)],w9,Wc,We⟩
noncomputable def iS:Fn:=⟨[1953460339,1701667182,126913623515504,545219922727158839080051],[],[(1953460339,0),(1701667182,0),(126913623515504,0),(545219922727158839080051,0),(495606196587,0),(495606460279,0),(435611006324,1)],ua,Wc,We⟩
noncomputable def mZ:Fn:=⟨[],[],[],xa,Wc,We⟩
noncomputable def eG:Fn:=⟨[7954807,1701667182],[],[(7954807,0),(1701667182,0),(1953653104,0),(6579564,0),(1834187043773903629407,1)],ub,Wc,We⟩
noncomputable def pb:Fn:=⟨[7954807,1701667182],[],[(7954807,0),(1701667182,0),(1953653104,0),(1684828020,0),(1834187043773903629407,1),(8389759014583495775,1)],qG,Wc,We⟩
noncomputable def iT:Fn:=⟨[7954807,1701667182,1953460339],[],[(7954807,0),(1701667182,0),(1953460339,0),(8389759014583495775,1),(1834187043773903629407,1)],o9,Wc,We⟩
noncomputable def pd:Fn:=⟨[1819042147],[],[(1819042147,0),(500035838310,0),(140747575933921434860023113,1),(2147637572233656623438,1)],qH,Wc,Wd⟩
noncomputable def m6:Fn:=⟨[495605605742,1752457584],[],[(495605605742,0),(1752457584,0),(431349919590,0),(1952867692,0),(1701995880,0),(1953720684,1)],xb,Wc,We⟩
noncomputable def fp:Fn:=⟨[495622842726],[],[(495622842726,0),(495605605742,2),(1752457584,2),(1684828020,0),(495656528242,0),(8315165955120652656,0),(500035838310,0),(107,0),(431130765409,2),(491328397676,0),(8315165955120652624,1),(140747575933921434860023113,1),(110386908131187,1),(1871507261205758963301,1)],dS,Wc,Wd⟩
noncomputable def lP:Fn:=⟨[1752457584,1701667182,32497657166458217,495739692388],[],[(1752457584,0),(1701667182,0),(32497657166458217,0),(495739692388,0),(435611006324,1)],uc,Wc,We⟩
noncomputable def pe:Fn:=⟨[1752457584,126935164810351],[],[(1752457584,0),(126935164810351,0),(32497657166458217,0),(1870933039033526348895,1)],qI,Wc,We⟩
noncomputable def kr:Fn:=⟨[1818584434],[],[(1818584434,0),(495673696624,0),(28549237979444073,0),(495622842726,0),(29793,0),(1752457584,0),(32497657166458217,0),(495622906222,0),(495739692388,0),(435459026032,0),(491327616111,0),(495555538017,0),(1701667182,0),(1852994932,0),(474274252248549332970591,1),(1871507261205758963301,1),(7308901701084343391,1),(7500915,1),(1851984723043992824927,1),(1870933039033526348895,1),(7234924,1)],iQ,Wc,Wd⟩
noncomputable def ku:Fn:=⟨[1818584434],[],[(1818584434,0),(7954807,0),(1701670771,0),(474274252248549332970591,1),(1870933039033526348895,1),(1851984723043992824927,1),(32010435700295989643366722655,1),(133460651082215449920891999,1)],fR,Wc,Wd⟩
noncomputable def fq:Fn:=⟨[1818584434],[],[(1818584434,0),(1701998445,0),(32497657166458217,0),(495739692388,0),(1685221239,0),(1953460339,0),(1701734765,0),(495622842726,2),(549795218526974865665119,1),(1870933039033526348895,1),(1851984723043992824927,1),(8315165955120652624,1),(474274252248549332970591,1),(138296705931074955972275295,1)],a6,Wb 0,Wd⟩
noncomputable def jS:Fn:=⟨[],[],[(474214394992,0),(461229747298,0),(495739692388,0),(1684828020,0),(8315165955120652656,2),(1834187043773903629407,1),(32010435700295989643366722655,1),(8315165955120652624,1),(1870933039033526348895,1)],kj,Wb 1,Wd⟩
noncomputable def jT:Fn:=⟨[],[],[(1701670771,0),(1701736300,2),(125040764379143793643973727,1),(8315165955120652624,1),(154732543826880782742652800697150565471,1),(1870933039033526348895,1),(133460651082215449920891999,1),(138296705931074955972275295,1),(154732543826880787465663015739021421663,1)],kl,Wb 2,Wd⟩
noncomputable def iU:Fn:=⟨[128026154263411],[],[(128026154263411,0),(1818584434,0),(154732543826880716630960649232481086559,1),(7234924,1),(1999554731685460405343,1),(154732543826880782742652800697150565471,1),(521662497445562621717599,1),(154732543826880792317733159080843897951,1)],mX,Wc,We⟩
noncomputable def Fx:List (Nat×Fn):=[(aX,km),(bC,fj),(bO,d6),(bE,dp),(bP,fk),(bF,dq),(cD,fo),(ee,a7),(dh,cP),(a5,aA),(dC,aZ),(cC,hW),(aY,bL),(cO,iw),(bX,bk),(di,cQ),(dD,jx),(bJ,eO),(cX,ko),(gk,iR),(pL,ud),(hS,jE),(cx,gI),(bQ,d7),(du,gJ),(cm,eT),(cZ,fS),(eM,lr),(bR,ix),(c0,fU),(bT,d8),(cn,eU),(jM,lO),(iI,kq),(li,mY),(hV,iS),(lj,mZ),(ef,eG),(j7,pb),(gu,iT),(j8,pd),(ll,m6),(cE,fp),(jN,lP),(j9,pe),(iJ,kr),(iK,ku),(cG,fq),(dR,jS),(cH,jT),(Em,iU)]
noncomputable def fnT:Nat->Option Fn:=bZ Fx
noncomputable def y6:List (Nat×List (Nat×Nat)):=[
 (cV,[(6872339552563453791,bC),(28266723620647785,bO),(478866049223140585730921,bE),(1702129518,bP),(474033289659572108423022,bF),(1819043188,cD),(7105633,ee),(121399003081079,dh),(1701147252,a5),(495874892144,dC),(7957695015192261990,cC),(34178039841792988400915083124,aY),(30506441441044844,cO),(133507968131445223235741028,bX),(110386908194158,di),(495623299427,dD),(2057669096177774474354473867370851,bJ)]),
 (bG,[(6872339552563453791,cx),(2128684173373565990767,bQ),(7234316411285302633,du),(28832903138730350,cm),(495622775156,cZ),(1684957542,eM),(7954215013218936886591012890982,bR),(491327353455,c0),(2110956032738202313079,bT),(29113321770675817,cn)])]
noncomputable def vD:Nat->Nat->Option Nat:=fun C x=>match bZ y6 C with
 |some l=>bZ l x
 |none=>Wc
noncomputable def Fy:List (Nat×Nat):=[(bG,cx),(cV,bC)]
noncomputable def jy:Nat->Option Nat:=bZ Fy
noncomputable def y7:List (Nat×P):=[(336472264267,.tup [.str 1668184435,.str 28549272340166002]),(1313423693,.str 1852399981),(2342095099875884289410416575209832,.glob 2342095099875884289410416575209832),(435611006324,.glob 435611006324),(7500915,.glob 7500915),(7630441,.glob 7630441)]
noncomputable def rW:Nat->Option P:=bZ y7
noncomputable def Fz:List (Nat×List Nat):=[(cV,[8320793298381005160,8315165955120652656,7239535,431349919590,110425377629538,431130765409,7815265378425466724]),(bG,[495622842726,495622906222,474147938676]),(br,[28542640894207341,1953460339]),(cL,[28542640894207341,1953460339])]
noncomputable def jz:Nat->Nat->Bool:=fun C x=>match bZ Fz C with
 |some l=>Bq x l
 |none=>We
noncomputable def BY:List Nat:=[2342095099875884289410416575209832,121352522152850519634043246,121371689044478407082996585,544943148383632725143412,1999554731685460405343,474274252248549332970591,7308901701084343391,1834187043773903629407,8389759014583495775,1851984723043992824927,133460651082215449920891999,32010435700295989643366722655,138296705931074955972275295,7234307533721136223,154732543826880782742652800697150565471,1870933039033526348895,125040764379143793643973727,521662497445562621717599,549795218526974865665119,154732543826880792317733159080843897951,154732543826880787465663015739021421663,154732543826880716630960649232481086559,7823724]
noncomputable def lu:Nat->Bool:=fun x=>Bq x BY
noncomputable def tab:Bo:=⟨fnT,rW,vD,jy,jz,lu⟩
noncomputable def ag(p:Nat):Pos:=cond (WR p 1000000000) ⟨p / 1000000,p / 1000 % 1000,p / 1000000,p % 1000⟩ ⟨p / 1000000000,p / 1000000 % 1000,p / 1000 % 1000,p % 1000⟩
noncomputable abbrev Sc:=List (Nat×Nat)
noncomputable def ap(sc:Sc)(x:Nat):Option Nat:=bZ sc x
theorem m7{x y k:Nat}{r:Sc}:ap ((y,k)::r) x=cond (Wf y x) (Wb k) (ap r x):=rfl
noncomputable def m8(sc:Sc)(x:Nat):Bool:=match ap sc x with
 |some 0|some 2|some 3=>Wd
 |_=>We
theorem y8{sc:Sc}{x:Nat}(h:m8 sc x=Wd):ap sc x=Wb 0\/ap sc x=Wb 2\/ap sc x=Wb 3:=by
 revert h
 show(match ap sc x with|some 0|some 2|some 3=>Wd|_=>We)=Wd->_;generalize ap sc x=o;rcases o with _|_|_|_|_|o<;>intro h<;>first|exact dg h|exact .inl rfl|exact .inr (.inl rfl) |exact .inr (.inr rfl)
noncomputable def eP(sc:Sc)(x:Nat):Bool:=match ap sc x with
 |some 1=>Wd
 |_=>We
theorem xc{sc:Sc}{x:Nat}(h:eP sc x=Wd):ap sc x=Wb 1:=by
 revert h
 show(match ap sc x with|some 1=>Wd|_=>We)=Wd->_;generalize ap sc x=o;rcases o with _|_|_|o<;>intro h<;>first|exact dg h|exact rfl
noncomputable def gK(sc:Sc)(x:Nat):Bool:=match ap sc x with
 |some 0|some 2=>Wd
 |_=>We
theorem m9{sc:Sc}{x:Nat}(h:gK sc x=Wd):ap sc x=Wb 0\/ap sc x=Wb 2:=by
 revert h
 show(match ap sc x with|some 0|some 2=>Wd|_=>We)=Wd->_;generalize ap sc x=o;rcases o with _|_|_|_|o<;>intro h<;>first|exact dg h|exact .inl rfl|exact .inr rfl
noncomputable def vE:Nat:=1759315279424080076639
noncomputable def dw:Nat:=491328140659
noncomputable def lQ:Nat:=7556217219641643337622556467039
noncomputable def ng(x:Nat):Bool:=!Wf x vE&&!Wf x lQ
noncomputable def bY:List Nat->Bool
 | []=>Wd
 |x::r=>!r.any (fun y=>Wf y x) &&bY r
noncomputable def LM(sc:Sc):IT->Bool
 |.name x _=>gK sc x
 |.tup xs _ _=>xs.all (fun e=>gK sc e.1) &&bY (xs.map (·.1)) &&WR xs.length 100
noncomputable def kz(sc aR:Sc):Bool:=bY (aR.map (·.1)) &&aR.all fun e=>match e.2 with
 |0=>Wd
 |1=>Wd
 |2=>Wd
 |3=>Wf ((ap sc e.1).getD 0) 2||Wf ((ap sc e.1).getD 0) 3
 |_=>We
mutual
noncomputable def bj(sc:Sc):IE->Bool
 |.none _|.bool _ _|.int _ _|.str _ _|.neg _ _ _=>Wd
 |.glob x _=>eP sc x&&ng x
 |.name x _=>m8 sc x&&ng x
 |.not e _=>bj sc e
 |.attr e _ _=>bj sc e
 |.sub o s _=>bj sc o&&bj sc s
 |.slice o lo c _ _=>bj sc o&&HZ sc lo&&HZ sc c
 |.tup es _ _=>bU sc es&&XQ es.length 1000
 |.list _ es _=>bU sc es&&XQ es.length 1000
 |.dict ks vs _=>bU sc ks&&bU sc vs&&Wf ks.length vs.length&&XQ ks.length 15
 |.cmp _ l r _=>bj sc l&&bj sc r
 |.bop _ es _=>bU sc es
 |.ite t b o _=>bj sc t&&bj sc b&&bj sc o
 |.bin _ l r _=>bj sc l&&bj sc r
 |.meth o _ p1 as p=>bj sc o&&bU sc as&&Wf (ag p1).endLine (ag p).line&&XQ as.length 20
 |.call x _ _ as _=>eP sc x&&ng x&&!Wf x dw&&bU sc as&&XQ as.length 20
 |.callv x _ _=>m8 sc x&&ng x&&!Wf x dw
 |.comp e a aR _=>kz sc aR&&bj aR e&&nh sc aR Wd a
 |.dcomp k v a aR _=>kz sc aR&&bj aR k&&bj aR v&&nh sc aR Wd a
 |.lam b aR _=>kz sc aR&&aR.all (fun e=>Wf e.2 1||Wf e.2 3) &&bj aR b
noncomputable def HZ(sc:Sc):Option IE->Bool
 |none=>Wd
 |some e=>bj sc e
noncomputable def bU(sc:Sc):List IE->Bool
 | []=>Wd
 |e::es=>bj sc e&&bU sc es
noncomputable def Rb(sc aR:Sc)(first:Bool):IG->Bool
 |.mk t it fs=>LM aR t&&cond first (bj sc it) (bj aR it) &&bU aR fs
noncomputable def nh(sc aR:Sc)(first:Bool):List IG->Bool
 | []=>!first
 |g::a=>Rb sc aR first g&&nh sc aR We a
end
noncomputable def En(sc:Sc)(b:IE):Bool:=bj sc b&&sc.all (fun e=>Wf e.2 1||Wf e.2 3) &&bY (sc.map (·.1))
end Mine
end
noncomputable section
open PySem
namespace Mine.Wk
noncomputable def Ult{α:Type}(f:Nat->R α)(r:R α):Prop:=∃N,∀n,N<=n->f n=r
theorem Ult.of{α:Type}{f:Nat->R α}{r:R α}(K:Nat)(h:∀n,f (n+K)=r):Ult f r:=⟨K,fun n a=>by
 have:=h (n - K)
 rwa [YN a] at this⟩
theorem Ult.pure{α:Type}{f:Nat->R α}{r:R α}(h:∀n,f n=r):Ult f r:=⟨0,fun n _=>h n⟩
theorem Ult.succ{α:Type}{f:Nat->R α}{r:R α}(h:Ult (fun n=>f (n+1)) r):Ult f r:=by
 obtain⟨N,h⟩:=h;exact⟨N+1,fun n a=>by
  have:=h (n - 1) (by exact acE a);dsimp only at this
  rwa [(YN (by exact Nat.one_le_of_lt a))] at this⟩
theorem Ult.bind{α β:Type}{f:Nat->R α}{g:Nat->α->St->R β}{a:α}{Z:St}{r:R β}(h1:Ult f (.ok a Z))(b:Ult (fun n=>g n a Z) r):Ult (fun n=>(f n).bind (g n)) r:=by
 obtain⟨d,h1⟩:=h1;obtain⟨e,b⟩:=b;refine⟨d+e,fun n c=>?_⟩;show(f n).bind (g n)=r;rw[h1 n (by exact WZ c)];exact b n (by exact XT c)
theorem Ult.exc{α β:Type}{f:Nat->R α}{g:Nat->α->St->R β}{C m:Nat}{s:P}{Z:St}(h1:Ult f (.exc C m s Z)):Ult (fun n=>(f n).bind (g n)) (.exc C m s Z):=by
 obtain⟨a,h1⟩:=h1;refine⟨a,fun n b=>?_⟩;show(f n).bind (g n)=_;rw[h1 n b];rfl
theorem Ult.map{α β:Type}{f:Nat->R α}{g:R α->R β}{a:R α}{r:R β}(h1:Ult f a)(b:g a=r):Ult (fun n=>g (f n)) r:=by
 obtain⟨c,h1⟩:=h1;exact⟨c,fun n d=>by show g (f n)=r;rw[h1 n d,b]⟩
section
variable{c:Cx}{m m1:VE}{Z Z1 Z2 Z3:St}{e e1 e2:IE}{p p1 x:Nat}{v v1 v2:P}
end
noncomputable abbrev EP:=Nat->Nat->P->St->Prop
noncomputable def IV{α:Type}(Q:α->St->Prop)(E:EP):R α->Prop
 |.ok a Z=>Q a Z
 |.exc C s w Z=>E C s w Z
 |.no=>False
noncomputable def W{α:Type}(f:Nat->R α)(Q:α->St->Prop)(E:EP):Prop:=∃r,Ult f r/\IV Q E r
noncomputable def yu:EP:=fun _ _ _ _=>False
section
variable{α β:Type}{Q:α->St->Prop}{E:EP}
theorem W.bind{f:Nat->R β}{g:Nat->β->St->R α}(h:W f (fun a Z=>W (fun n=>g n a Z) Q E) E):W (fun n=>(f n).bind (g n)) Q E:=by
 obtain⟨r,h1,b⟩:=h
 induction r using Mine.R.casesOn with
 |ok a Z=>
  obtain⟨c,d,e⟩:=b;exact⟨c,.bind h1 d,e⟩
 |exc C s w Z=>exact⟨_,.exc h1,b⟩
 |no=>exact b.elim
theorem W.pure{f:Nat->R α}{a:α}{Z:St}(h:∀n,f n=.ok a Z)(q:Q a Z):W f Q E:=⟨_,.pure h,q⟩
theorem W.congr{f g:Nat->R α}(h:W f Q E)(e:∀n,g n=f n):W g Q E:=by
 have:g=f:=funext e;rw[this];exact h
theorem W.succ{f:Nat->R α}(h:W (fun n=>f (n+1)) Q E):W f Q E:=by
 obtain⟨r,h1,a⟩:=h;exact⟨r,.succ h1,a⟩
theorem W.mono{f:Nat->R α}{Q':α->St->Prop}{c:EP}(h:W f Q E)(d:∀a Z,Q a Z->Q' a Z)(e:∀C s w Z,E C s w Z->c C s w Z):W f Q' c:=by
 obtain⟨r,h1,b⟩:=h;refine⟨r,h1,?_⟩;clear h1
 induction r using Mine.R.casesOn with
 |ok a Z=>exact d _ _ b
 |exc C s w Z=>exact e _ _ _ _ b
 |no=>exact b
theorem W.of{f:Nat->R α}{r:R α}(h:Ult f r)(p:IV Q E r):W f Q E:=⟨r,h,p⟩
end
inductive IW(o:Option P)(Q:P->St->Prop)(Z:St):Prop
 |mk(w:P)(h:o=Wb w)(q:Q w Z)
inductive IX(o:Option Bool)(Q:P->St->Prop)(Z:St):Prop
 |mk(w:Bool)(h:o=Wb w)(q:Q (.bool w) Z)
inductive IY(o:Option VE)(N:VE->St->Prop)(Z:St):Prop
 |mk(m1:VE)(h:o=Wb m1)(q:N m1 Z)
inductive FA(r:R P)(Q:P->St->Prop):Prop
 |mk(w:P)(a:St)(h:r=.ok w a)(q:Q w a)
inductive MS(o:Option Nat)(K:Nat->Prop):Prop
 |mk(f:Nat)(h:o=Wb f)(q:K f)
inductive LN(v:P)(Q:Bool->St->Prop)(Z:St):Prop
 |mk(b:Bool)(h:v=.bool b)(q:Q b Z)
inductive Rc(v:P)(Rt:P->St->Prop)(Z:St):Prop
 |mk(n:Nat)(l:List P)(hv:v=.ref n)(a:ai Z n=Wb (.list l))(q:Rt (.list l) (ak Z n .dead))
inductive Rd(x:Nat)(v w:P)(m:VE)(N:VE->St->Prop)(Z:St):Prop
 |mk(n C:Nat)(fs:List (Nat×P))(a:w=.ref n)(b:ai Z n=Wb (.inst C fs))(h1:v.isOdd=We)(c:aq fs.length=Wd)(d:jz C x=Wd)(q:N m (ak Z n (.inst C (put x v fs))))
inductive Rf(v w k:P)(m:VE)(N:VE->St->Prop)(Z:St):Prop
 |mk(n:Nat)(es:List (Nat×P))(ep s:Nat)(a:w=.ref n)(b:k=.str s)(c:ai Z n=Wb (.dict es ep))(h1:v.isOdd=We)(d:aq es.length=Wd)(q:N m (ak Z n (.dict (put s v es) (c6 ep s es))))
inductive Rg(v w k:P)(m:VE)(N:VE->St->Prop)(Z:St):Prop
 |mk(n:Nat)(l:List P)(j:Nat)(z:Int)(a:w=.ref n)(b:k=.int z)(c:ai Z n=Wb (.list l))(h1:v.isOdd=We)(d:tM z l.length=Wb j)(q:N m (ak Z n (.list (ak l j v))))
theorem hE{E:EP}:forall C s w Z,E C s w Z->E C s w Z:=fun _ _ _ _ h=>h
noncomputable def WE(c:Cx)(e:IE)(m:VE)(Z:St)(Q:P->St->Prop)(E:EP):Prop:=W (fun n=>(run tab n).ev c e m Z) Q E
noncomputable def WL(c:Cx)(es:List IE)(m:VE)(Z:St)(Q:List P->St->Prop)(E:EP):Prop:=W (fun n=>evs (run tab n) c m es Z) Q E
noncomputable def WT(c:Cx)(e:IE)(m:VE)(Z:St)(Q:Bool->St->Prop)(E:EP):Prop:=W (fun n=>o3 (run tab n) c e m Z) Q E
noncomputable def WO(c:Cx)(e:Option IE)(m:VE)(Z:St)(Q:Option P->St->Prop)(E:EP):Prop:=W (fun n=>evo (run tab n) c m e Z) Q E
noncomputable def WB(op:aaf)(c:Cx)(es:List IE)(m:VE)(Z:St)(Q:P->St->Prop)(E:EP):Prop:=W (fun n=>rT (run tab n) c m op es Z) Q E
noncomputable def WC(c:Cx)(f:Nat)(vs:List P)(Z:St)(Q:P->St->Prop)(E:EP):Prop:=W (fun n=>dG tab (run tab n) c f vs Z) Q E
noncomputable def LO(N:VE->St->Prop)(Rt:P->St->Prop):Fl×VE->St->Prop:=fun a Z=>match a with
 |(.next,m)=>N m Z
 |(.ret v,_)=>Rt v Z
noncomputable def WX(c:Cx)(ss:List IS)(m:VE)(Z:St)(N:VE->St->Prop)(Rt:P->St->Prop)(E:EP):Prop:=W (fun n=>dB tab (run tab n) c ss m Z) (LO N Rt) E
noncomputable def WS(c:Cx)(s:IS)(m:VE)(Z:St)(N:VE->St->Prop)(Rt:P->St->Prop)(E:EP):Prop:=W (fun n=>ba tab (run tab n) c s m Z) (LO N Rt) E
noncomputable def WH(c:Cx)(t:IE)(b:List IS)(m:VE)(Z:St)(N:VE->St->Prop)(Rt:P->St->Prop)(E:EP):Prop:=W (fun n=>(run tab n).wh c t b m Z) (LO N Rt) E
noncomputable def WI(c:Cx)(es:List IE)(m:VE)(Z:St)(Q:Bool->St->Prop)(E:EP):Prop:=W (fun n=>rU (run tab n) c m es Z) Q E
theorem Pl{b:Bool}{A B:Prop}(h1:b=Wd->A)(a:b=We->B):cond b A B:=by
 cases b
 ·exact a rfl
 ·exact h1 rfl
section
variable{c:Cx}{m:VE}{Z:St}{Q:P->St->Prop}{E:EP}{e e1 e2 e3:IE}{p p1 x:Nat}{v:P}
theorem WE.int{i:Nat}(q:Q (.int i) Z):WE c (.int i p) m Z Q E:=.succ (.pure (fun _=>rfl) q)
theorem WE.str{i:Nat}(q:Q (.str i) Z):WE c (.str i p) m Z Q E:=.succ (.pure (fun _=>rfl) q)
theorem WE.bool{b:Bool}(q:Q (.bool b) Z):WE c (.bool b p) m Z Q E:=.succ (.pure (fun _=>rfl) q)
theorem WE.nne(q:Q .none Z):WE c (.none p) m Z Q E:=.succ (.pure (fun _=>rfl) q)
theorem WE.neg{i:Nat}(q:Q (.int (-(i:Int))) Z):WE c (.neg i p1 p) m Z Q E:=.succ (.pure (fun _=>rfl) q)
theorem WE.name(h:get x m=Wb v)(q:Q v Z):WE c (.name x p) m Z Q E:=.succ (.pure (fun n=>by show ofO (get x m) _=_;rw[h];rfl) q)
theorem WE.glob(h:rW x=Wb v)(q:Q v Z):WE c (.glob x p) m Z Q E:=.succ (.pure (fun n=>by show ofO (rW x) _=_;rw[h];rfl) q)
theorem BZ{o:Option P}(h:IW o Q Z):W (fun _=>ofO o fun w=>.ok w Z) Q E:=by
 obtain⟨w,h,q⟩:=h;subst h;exact⟨_,.pure fun _=>rfl,q⟩
theorem IZ{o:Option Bool}(h:IX o Q Z):W (fun _=>ofO o fun w=>.ok (.bool w) Z) Q E:=by
 obtain⟨w,h,q⟩:=h;subst h;exact⟨_,.pure fun _=>rfl,q⟩
theorem WT.of{Q:Bool->St->Prop}(h:WE c e m Z (fun v Z=>LN v Q Z) E):WT c e m Z Q E:=
 W.bind (W.mono h (fun v Z a=>by obtain⟨b,d,q⟩:=a;subst d;exact .pure (fun _=>rfl) q) hE)
theorem WE.not(h:WT c e m Z (fun b Z=>Q (.bool (!b)) Z) E):WE c (.not e p) m Z Q E:=.succ (.bind (W.mono h (fun _ _ q=>.pure (fun _=>rfl) q) hE))
theorem WE.attr(h:WE c e m Z (fun v Z=>IW (rS tab Z v x) Q Z) E):WE c (.attr e x p) m Z Q E:=.succ (.bind (W.mono h (fun _ _ q=>BZ q) hE))
theorem WE.sub(h:WE c e1 m Z (fun v Z=>WE c e2 m Z (fun i Z=>IW (oZ Z v i) Q Z) E) E):WE c (.sub e1 e2 p) m Z Q E:=
 .succ (.bind (W.mono h (fun _ _ h=>.bind (W.mono h (fun _ _ q=>BZ q) hE)) hE))
theorem WE.cmp{op:abr}(h:WE c e1 m Z (fun v Z=>WE c e2 m Z (fun i Z=>IX (dk op v i Z) Q Z) E) E):WE c (.cmp op e1 e2 p) m Z Q E:=
 .succ (.bind (W.mono h (fun _ _ h=>.bind (W.mono h (fun _ _ q=>IZ q) hE)) hE))
theorem WE.bin{op:abI}(h:WE c e1 m Z (fun v Z=>WE c e2 m Z (fun i Z=>IW (j5 op v i Z) Q Z) E) E):WE c (.bin op e1 e2 p) m Z Q E:=
 .succ (.bind (W.mono h (fun _ _ h=>.bind (W.mono h (fun _ _ q=>BZ q) hE)) hE))
theorem WO.none{Q:Option P->St->Prop}(q:Q Option.none Z):WO c Option.none m Z Q E:=.pure (fun _=>rfl) q
theorem WO.some{Q:Option P->St->Prop}(h:WE c e m Z (fun v Z=>Q (aff v) Z) E):WO c (aff e) m Z Q E:=.bind (W.mono h (fun _ _ q=>.pure (fun _=>rfl) q) hE)
theorem WE.slice{o:IE}{lo d:Option IE}(h:WE c o m Z (fun v Z=>WO c lo m Z (fun a Z=>WO c d m Z (fun b Z=>IW (dQ Z v a b) Q Z) E) E) E):WE c (.slice o lo d p1 p) m Z Q E:=
 .succ (.bind (W.mono h (fun _ _ h=>.bind (W.mono h (fun _ _ h=>.bind (W.mono h (fun _ _ q=>BZ q) hE)) hE)) hE))
theorem WL.nil{Q:List P->St->Prop}(q:Q [] Z):WL c [] m Z Q E:=.pure (fun _=>rfl) q
theorem WL.cons{Q:List P->St->Prop}{es:List IE}(h:WE c e m Z (fun v Z=>WL c es m Z (fun vs Z=>Q (v::vs) Z) E) E):WL c (e::es) m Z Q E:=
 .bind (W.mono h (fun _ _ h=>.bind (W.mono h (fun _ _ q=>.pure (fun _=>rfl) q) hE)) hE)
theorem WE.tup{es:List IE}{k:Nat}(h:WL c es m Z (fun vs Z=>vs.any P.isOdd=We/\Q (.tup vs) Z) E):WE c (.tup es k p) m Z Q E:=
 .succ (.bind (W.mono h (fun vs Z a=>by obtain⟨h1,q⟩:=a;exact .pure (fun _=>by show cond (vs.any P.isOdd) _ _=_;rw[h1];rfl) q) hE))
theorem WE.listF{es:List IE}(h:WL c es m Z (fun vs Z=>vs.any P.isOdd=We/\aq vs.length=Wd/\Q (.list vs) Z) E):WE c (.list We es p) m Z Q E:=
 .succ (.bind (W.mono h (fun vs Z a=>by obtain⟨h1,b,q⟩:=a;exact .pure (fun _=>by show cond (vs.any P.isOdd) _ (cond (aq vs.length) _ _)=_;rw[h1,b];rfl) q) hE))
theorem WE.listT{es:List IE}(h:WL c es m Z (fun vs Z=>vs.any P.isOdd=We/\aq vs.length=Wd/\Q (.ref Z.length) (Z++[.list vs])) E):WE c (.list Wd es p) m Z Q E:=
 .succ (.bind (W.mono h (fun vs Z a=>by obtain⟨h1,b,q⟩:=a;exact .pure (fun _=>by show cond (vs.any P.isOdd) _ (cond (aq vs.length) _ _)=_;rw[h1,b];rfl) q) hE))
theorem WE.dict0(q:Q (.ref Z.length) (Z++[.dict [] 0])):WE c (.dict [] [] p) m Z Q E:=.succ (.pure (fun _=>rfl) q)
theorem WB.last{op:aaf}(h:WT c e m Z (fun b Z=>Q (.bool b) Z) E):WB op c [e] m Z Q E:=.bind (W.mono h (fun _ _ q=>.pure (fun _=>rfl) q) hE)
theorem WB.or{a:IE}{es:List IE}(h:WT c e m Z (fun b Z=>cond b (Q (.bool Wd) Z) (WB .Or c (a::es) m Z Q E)) E):WB .Or c (e::a::es) m Z Q E:=
 .bind (W.mono h (fun b _ q=>by
  induction b using Wn with
  |true=>exact .pure (fun _=>rfl) q
  |false=>exact q) hE)
theorem WB.and{a:IE}{es:List IE}(h:WT c e m Z (fun b Z=>cond b (WB .And c (a::es) m Z Q E) (Q (.bool We) Z)) E):WB .And c (e::a::es) m Z Q E:=
 .bind (W.mono h (fun b _ q=>by
  induction b using Wn with
  |false=>exact .pure (fun _=>rfl) q
  |true=>exact q) hE)
theorem WE.bop{op:aaf}{es:List IE}(h:WB op c es m Z Q E):WE c (.bop op es p) m Z Q E:=.succ h
theorem WE.ite(h:WT c e1 m Z (fun b Z=>WE c (cond b e2 e3) m Z Q E) E):WE c (.ite e1 e2 e3 p) m Z Q E:=
 .succ (.bind (W.mono h (fun b _ q=>by induction b<;>exact q) hE))
theorem WE.call{a:Bool}{as:List IE}(h0:lu x=Wd)(hc:jy x=Option.none)(h:WL c as m Z (fun vs Z=>WC c x vs Z Q E) E):WE c (.call x p1 a as p) m Z Q E:=
 .succ (W.congr (.bind (g:=fun n vs Z=>iq tab (run tab n) c x a vs Z) (W.mono h (fun vs Z h=>W.congr h fun n=>by
  unfold iq;rw[show tab.cls x=Option.none from hc];show cond (lu x) _ _=_;rw[h0];rfl) hE)) fun n=>by
   show cond ((jy x).isSome||lu x||yX x) _ _=_;rw[hc,h0];rfl)
theorem WE.new{b:Bool}{f:Nat}{as:List IE}(hc:jy x=Wb f)(h:WL c as m Z (fun vs Z=>WC c f (.ref Z.length::vs) (Z++[.inst x []]) (fun v a=>v=.none/\Q (.ref Z.length) a) E) E):WE c (.call x p1 b as p) m Z Q E:=
 .succ (W.congr (.bind (g:=fun n vs Z=>iq tab (run tab n) c x b vs Z) (W.mono h (fun vs Z h=>by
  have e1:∀n,iq tab (run tab n) c x b vs Z=(dG tab (run tab n) c f (.ref Z.length::vs) (Z++[.inst x []])).bind fun v a=>match v with
   |.none=>.ok (.ref Z.length) a
   |_=>.no:=fun n=>by
   unfold iq;rw[show tab.cls x=Wb f from hc];try rfl
  refine W.congr (.bind (W.mono h (fun v a d=>?_) hE)) e1;obtain⟨hv,q⟩:=d;subst hv;exact .pure (fun _=>rfl) q) hE)) fun n=>by
   show cond ((jy x).isSome||lu x||yX x) _ _=_;rw[hc];rfl)
theorem WE.callB{a:Bool}{as:List IE}(b:yX x=Wd)(h0:lu x=We)(hc:jy x=Option.none)(h:WL c as m Z (fun vs Z=>FA (Mine.callB c.hd x a vs Z) Q) E):WE c (.call x p1 a as p) m Z Q E:=
 .succ (W.congr (.bind (g:=fun n vs Z=>iq tab (run tab n) c x a vs Z) (W.mono h (fun vs Z d=>by
  obtain⟨w,e,h,q⟩:=d;refine .pure (fun n=>?_) q;show iq tab (run tab n) c x a vs Z=_;unfold iq;rw[show tab.cls x=Option.none from hc];show cond (lu x) _ _=_;rw[h0];exact h) hE)) fun n=>by
   show cond ((jy x).isSome||lu x||yX x) _ _=_;rw[hc,h0,b];rfl)
theorem WE.methF{o:IE}{as:List IE}(h:WE c o m Z (fun v Z=>MS (Mine.methF tab Z v x) fun f=>WL c as m Z (fun vs Z=>WC c f (v::vs) Z Q E) E) E):WE c (.meth o x p1 as p) m Z Q E:=
 .succ (.bind (W.mono h (fun v Z a=>by
  obtain⟨f,hf,h⟩:=a;refine W.congr (.bind (g:=fun n vs Z=>dG tab (run tab n) c f (v::vs) Z) h) fun n=>?_;rw[hf]) hE))
theorem WE.methB{o:IE}{as:List IE}(h:WE c o m Z (fun v Z=>Mine.methF tab Z v x=Option.none/\o7 Z v x=Wd/\WL c as m Z (fun vs Z=>FA (Mine.methB v x vs Z) Q) E) E):WE c (.meth o x p1 as p) m Z Q E:=
 .succ (.bind (W.mono h (fun v Z a=>by
  obtain⟨hf,b,h⟩:=a;refine W.congr (.bind (g:=fun n vs Z=>Mine.methB v x vs Z) (W.mono h (fun vs Z a=>by obtain⟨w,d,h,q⟩:=a;exact .pure (fun _=>h) q) hE)) fun n=>?_;rw[hf,b];rfl) hE))
end
section
variable{c:Cx}{m:VE}{Z:St}{N:VE->St->Prop}{Rt:P->St->Prop}{E:EP}{e e1 e2 e3:IE}{p p1 x:Nat}{v:P}
theorem WX.nil(q:N m Z):WX c [] m Z N Rt E:=.pure (fun _=>rfl) q
theorem WX.cons{s:IS}{ss:List IS}(h:WS c s m Z (fun m Z=>WX c ss m Z N Rt E) Rt E):WX c (s::ss) m Z N Rt E:=
 .bind (W.mono h (fun a Z q=>by
  obtain⟨fl,m⟩:=a
  induction fl using Mine.Fl.casesOn with
  |next=>exact q
  |ret v=>exact .pure (fun _=>rfl) q) hE)
theorem WS.expr(h:WE c e m Z (fun _ Z=>N m Z) E):WS c (.expr e p) m Z N Rt E:=.bind (W.mono h (fun _ _ q=>.pure (fun _=>rfl) q) hE)
theorem WS.asg{t:IT}(hc:c.hd=We)(h:WE c e m Z (fun v Z=>IY (aD t v m) N Z) E):WS c (.asg (.to t) e p) m Z N Rt E:=
 .bind (W.mono h (fun v Z b=>by
  obtain⟨m1,d,q⟩:=b;refine .pure (a:=(.next,m1)) (Z:=Z) (fun _=>?_) q;show R.bind (cond c.hd .no (ofO (aD t v m) fun m=>.ok m Z)) _=_;rw[hc,d];rfl) hE)
theorem WS.ifs{b o:List IS}(h:WT c e m Z (fun z Z=>WX c (cond z b o) m Z N Rt E) E):WS c (.ifs e b o p) m Z N Rt E:=
 .bind (W.mono h (fun z _ q=>by induction z<;>exact .succ q) hE)
theorem WS.ret(h:WE c e m Z Rt E):WS c (.ret We (Wb e) p) m Z N Rt E:=.bind (W.mono h (fun v Z q=>.pure (a:=(.ret v,m)) (Z:=Z) (fun _=>rfl) q) hE)
theorem WS.retz(h:WE c e m Z (fun v Z=>Rc v Rt Z) E):WS c (.ret Wd (Wb e) p) m Z N Rt E:=
 .bind (W.mono h (fun v Z b=>by
  obtain⟨n,l,hv,d,q⟩:=b;refine .pure (a:=(.ret (.list l),m)) (Z:=ak Z n .dead) (fun _=>?_) q;subst hv;show R.bind (match ai Z n with
   |some (.list l)=>R.ok (P.list l) (ak Z n O.dead)
   |_=>.no) _=_
  rw[d];rfl) hE)
theorem WS.pass(q:N m Z):WS c (.pass p) m Z N Rt E:=.pure (a:=(.next,m)) (Z:=Z) (fun _=>rfl) q
theorem WS.asgA{o:IE}(h:WE c e m Z (fun v Z=>WE c o m Z (fun w Z=>Rd x v w m N Z) E) E):WS c (.asg (.attr o x p1) e p) m Z N Rt E:=
 .bind (W.mono h (fun v Z h=>.bind (f:=fun n=>ck tab (run tab n) c (.attr o x p1) v m Z) (g:=fun _ m Z=>(R.ok (Fl.next,m) Z:R (Fl×VE))) (.bind (W.mono h (fun w Z b=>by
  obtain⟨n,C,fs,d,i,h1,j,k,q⟩:=b;refine .pure (a:=m) (Z:=ak Z n (.inst C (put x v fs))) (fun _=>?_) (.pure (a:=(.next,m)) (Z:=ak Z n (.inst C (put x v fs))) (fun _=>rfl) q);subst d;show lh tab (.ref n) x v m Z=_;unfold lh;show ofO (w4 (ai Z n)) _=_;rw[i];show cond (v.isOdd||!aq fs.length||!jz C x) _ _=_;rw[h1,j,k];rfl) hE))) hE)
theorem WS.asgD{o i:IE}(h:WE c e m Z (fun v Z=>WE c o m Z (fun w Z=>WE c i m Z (fun k Z=>Rf v w k m N Z) E) E) E):WS c (.asg (.sub o i p1) e p) m Z N Rt E:=
 .bind (W.mono h (fun v Z h=>.bind (f:=fun n=>ck tab (run tab n) c (.sub o i p1) v m Z) (g:=fun _ m Z=>(R.ok (Fl.next,m) Z:R (Fl×VE))) (.bind (W.mono h (fun w Z h=>.bind (W.mono h (fun k Z b=>by
  obtain⟨n,es,ep,s,d,j,l,h1,r,q⟩:=b;refine .pure (a:=m) (Z:=ak Z n (.dict (put s v es) (c6 ep s es))) (fun _=>?_) (.pure (a:=(.next,m)) (Z:=ak Z n (.dict (put s v es) (c6 ep s es))) (fun _=>rfl) q);subst d j;show lM n (.str s) v m Z (ai Z n)=_;rw[l];show cond (v.isOdd||!aq es.length) _ _=_;rw[h1,r];rfl) hE)) hE))) hE)
theorem WS.asgL{o i:IE}(h:WE c e m Z (fun v Z=>WE c o m Z (fun w Z=>WE c i m Z (fun k Z=>Rg v w k m N Z) E) E) E):WS c (.asg (.sub o i p1) e p) m Z N Rt E:=
 .bind (W.mono h (fun v Z h=>.bind (f:=fun n=>ck tab (run tab n) c (.sub o i p1) v m Z) (g:=fun _ m Z=>(R.ok (Fl.next,m) Z:R (Fl×VE))) (.bind (W.mono h (fun w Z h=>.bind (W.mono h (fun k Z b=>by
  obtain⟨n,l,j,z,d,r,s,h1,t,q⟩:=b;refine .pure (a:=m) (Z:=ak Z n (.list (ak l j v))) (fun _=>?_) (.pure (a:=(.next,m)) (Z:=ak Z n (.list (ak l j v))) (fun _=>rfl) q);subst d r;show lM n (.int z) v m Z (ai Z n)=_;rw[s];show ofO (tM z l.length) _=_;rw[t];rw[h1];rfl) hE)) hE))) hE)
theorem WS.raise1{as:List IE}{p2:Nat}(hc:c.hd=We)(hd:Wf c.d 0=We)(h1:jz x aj=Wd)(a:jz x aM=Wd)(h:WL c as m Z (fun vs Z=>∃s,vs=[.str s]/\E x s (.int 0) Z) E):WS c (.raise x p1 as p2 p) m Z N Rt E:=
 W.congr (.bind (W.mono h (fun vs Z ⟨s,hv,q⟩=>(by subst hv;exact⟨_,.pure fun _=>rfl,q⟩:W (fun _=>match vs with
  | [.str s]=>(R.exc x s (.int 0) Z:R (Fl×VE))
  | [.str s,.int i]=>.exc x s (.int i) Z
  |_=>.no) _ E)) hE)) fun n=>by
   show cond (c.hd||Wf c.d 0||!jz x aj||!jz x aM) _ _=_;rw[hc,hd,h1,a];rfl
theorem WC.of{f d:Nat}{hd:Bool}{tb:Option Nat}{fn:Fn}{vs:List P}{m:VE}{Q:P->St->Prop}(hf:fnT f=Wb fn)(c:fn.g=We)(hv:(vs.any P.isExc||(vs.any P.isClo&&fn.sc.any fun e=>Wf e.2 2))=We)(i:fP fn.ps vs fn.ds=Wb m)(h:WX ⟨d,hd,fn.tb⟩ fn.body m Z (fun _ Z=>Q .none Z) Q E):WC ⟨d+1,hd,tb⟩ f vs Z Q E:=by
 have e1:∀n,dG tab (run tab n) ⟨d+1,hd,tb⟩ f vs Z=mT ((run tab n).ex ⟨d,hd,fn.tb⟩ fn.body m Z):=fun n=>by
  unfold dG;dsimp only;rw[show tab.fn f=Wb fn from hf];dsimp only;show cond (vs.any P.isExc||(vs.any P.isClo&&fn.sc.any fun e=>Wf e.2 2)) _ _=_;rw[hv];dsimp only[cond];rw[i,c];rfl
 refine W.congr ?_ e1;have h:W (fun n=>(run tab n).ex ⟨d,hd,fn.tb⟩ fn.body m Z) _ E:=.succ h;clear hf c hv i e1;obtain⟨r,h1,b⟩:=h;refine⟨mT r,.map h1 rfl,?_⟩;clear f tb vs h h1
 induction r using Mine.R.casesOn with
 |ok a Z=>
  clear d hd fn;obtain⟨fl,m⟩:=a
  induction fl using Mine.Fl.casesOn with
  |next=>exact b
  |ret v=>exact b
 |exc C s w Z=>exact b
 |no=>exact b
theorem WH.of{b:List IS}(h:WT c e m Z (fun z Z=>cond z (WX c b m Z (fun m Z=>WH c e b m Z N Rt E) Rt E) (N m Z)) E):WH c e b m Z N Rt E:=
 .succ (.bind (W.mono h (fun z _ q=>by
  induction z using Wn with
  |false=>exact .pure (fun _=>rfl) q
  |true=>exact .bind (W.mono (.succ q) (fun a Z q=>by
    obtain⟨fl,m⟩:=a
    induction fl using Mine.Fl.casesOn with
    |next=>exact q
    |ret v=>exact .pure (fun _=>rfl) q) hE)) hE))
theorem WS.while{b:List IS}(h:WH c e b m Z N Rt E):WS c (.while e b p) m Z N Rt E:=h
end
theorem aF{α:Type}{l:List α}{n:Nat}{a b:α}(h:ai l n=Wb a):ai (ak l n b) n=Wb b:=by
 rw[aK] at h;rw[aK,cw,YO (Xn.mp h).1]
theorem aB{α:Type}{l:List α}{n k:Nat}{b:α}(h:n≠k):ai (ak l n b) k=ai l k:=by
 rw[aK,aK,cw,YZ h]
theorem ue{α:Type}(l:List α)(n:Nat)(b:α):(ak l n b).length=l.length:=by rw[cw,aaR]
theorem y9{α:Type}{l:List α}{n:Nat}{a:α}(h:ai l n=Wb a):n<l.length:=(Xn.mp ((aK l n).symm.trans h)).1
theorem B0{α:Type}{l:List α}{n:Nat}(h:n<l.length):∃a,ai l n=Wb a:=⟨_,(aK l n).trans (Y8 h)⟩
theorem uf{α:Type}{l t:List α}{n:Nat}{a:α}(h:ai l n=Wb a):ai (l++t) n=Wb a:=by
 rw[aK,X8 (y9 h),<-aK,h]
theorem bH{α:Type}:∀(l:List α)(a:α)(t:List α),ai (l++a::t) l.length=Wb a:=by
 intro b
 induction b with
 |nil=>
  intro _ _;exact rfl
 |cons _ r c=>
  intro a t;exact c a t
theorem eg{α:Type}:∀(l:List α),ai l l.length=Wc:=by
 intro a
 induction a with
 |nil=>
  exact rfl
 |cons _ r b=>
  exact b
theorem mA{α:Type}{l:List α}{i:Nat}{x:α}{r:List α}(h:l.drop i=x::r):ai l i=Wb x/\l.drop (i+1)=r:=by
 refine⟨?_,by rw[<-aet,h];rfl⟩;have e:=abb (xs:=l) (i:=i) (j:=0);rw[h] at e;exact(aK l i).trans e.symm
noncomputable def Keep(Z a:St):Prop:=∀k o,ai Z k=Wb o->ai a k=Wb o
theorem Keep.refl{Z:St}:Keep Z Z:=fun _ _ h=>h
theorem Keep.trans{Z Z1 Z2:St}(h:Keep Z Z1)(b:Keep Z1 Z2):Keep Z Z2:=fun _ _ a=>b _ _ (h _ _ a)
theorem Keep.app{Z U:St}:Keep Z (Z++U):=fun _ _ h=>uf h
theorem Keep.none{Z b:St}{n:Nat}(h:Keep Z b)(a:ai b n=Wc):ai Z n=Wc:=by
 induction e:ai Z n using Wo with
 |none=>rfl
 |some o=>rw[h _ _ e] at a;exact rG a
theorem Keep.set{Z b:St}{n:Nat}{o:O}(h:Keep Z b)(c:ai Z n=Option.none):Keep Z (ak b n o):=fun k d a=>by
 have:n≠k:=fun e=>by subst e;exact aH (c.symm.trans a)
 rw[aB this];exact h _ _ a
theorem Keep.fresh{Z a:St}(h:Keep Z a):ai Z a.length=Option.none:=h.none (eg _)
inductive MT(Z:St)(v:P)(L:List P):Prop
 |mk(n:Nat)(es:List (Nat×P))(ep:Nat)(h1:v=.ref n)(a:ai Z n=Wb (.dict es ep))(b:aW es=Wd)(c:aq es.length=Wd)(d:L=keys es)
inductive Src(Z:St)(v:P)(L:List P):Prop
 |tup(h:v=.tup L):Src Z v L
 |lst(h:v=.list L):Src Z v L
 |ref(n:Nat)(h1:v=.ref n)(a:ai Z n=Wb (.list L)):Src Z v L
 |dct(h:MT Z v L):Src Z v L
theorem Src.keep{Z b:St}{v:P}{L:List P}(h:Src Z v L)(k:Keep Z b):Src b v L:=by
 rcases h with h|h|⟨n,h1,a⟩|⟨n,es,ep,h1,a,c,d,e⟩
 ·exact .tup h
 ·exact .lst h
 ·exact .ref n h1 (k _ _ a)
 ·exact .dct ⟨n,es,ep,h1,k _ _ a,c,d,e⟩
theorem Src.ok{Z:St}{v:P}{L:List P}(h:Src Z v L):c8 Z v=Wd:=by
 rcases h with h|h|⟨n,h1,a⟩|⟨n,es,ep,h1,a,b,c,_⟩
 ·subst h;rfl
 ·subst h;rfl
 ·subst h1;show LJ (ai Z n)=Wd;rw[a];rfl
 ·subst h1;show LJ (ai Z n)=Wd;rw[a];show(aW es&&aq es.length)=Wd;rw[b,c];rfl
section
variable{α:Type}{Q:α->St->Prop}{E:EP}{f:Nat->P->α->St->R α}
theorem W.loopL(I:List P->α->St->Prop)(step:∀x r a Z,I (x::r) a Z->W (fun n=>f n x a Z) (I r) E)(fin:∀a Z,I [] a Z->Q a Z):∀(L:List P)(a:α)(Z:St),I L a Z->W (fun n=>loopL (f n) L a Z) Q E:=by
 intro b
 induction b with
 |nil=>
  intro a Z h;exact .pure (fun _=>rfl) (fin a Z h)
 |cons x r c=>
  intro a Z h;exact W.bind (W.mono (step x r a Z h) (fun a Z h=>c a Z h) hE)
theorem W.loopN{n:Nat}{L:List P}(I:List P->α->St->Prop)(d:∀r a Z,I r a Z->ai Z n=Wb (.list L))(step:∀x r a Z,I (x::r) a Z->W (fun n=>f n x a Z) (I r) E)(fin:∀a Z,I [] a Z->Q a Z):∀(k i:Nat)(a:α)(Z:St),i+k=L.length->I (L.drop i) a Z->W (fun n'=>loopN (f n') n k i a Z) Q E:=by
 intro g
 induction g with
 |zero=>
  intro i a Z b h;have c:Wf L.length i=Wd:=(show L.length=i by exact b.symm)▸(Wx _);have h':=d _ _ _ h;rw[aao (by exact Xo b.symm)] at h;exact .pure (fun _=>by rw[BU,h'];dsimp only;rw[c];rfl) (fin a Z h)
 |succ k j=>
  intro i a Z b h;have c:Wf L.length (i+(k+1))=Wd:=(show L.length=i+(k+1) by exact b.symm)▸(Wx _);have h':=d _ _ _ h
  induction e:L.drop i using Wv with
  |nil=>have:=congrArg Y0 e;rw[aaD] at this;exact absurd this (acm (b▸Yg (XU k)))
  |cons x r=>
   rw[e] at h;refine W.congr (.bind (W.mono (step x r a Z h) (fun a Z h=>j (i+1) a Z ((BJ i k).trans b) (((mA e).2)▸h)) hE)) fun n'=>?_;rw[BS,h'];dsimp only;rw[c,(mA e).1];rfl
theorem W.loopD{n ep:Nat}{es:List (Nat×P)}(d:aW es=Wd)(I:List P->α->St->Prop)(g:∀r a Z,I r a Z->ai Z n=Wb (.dict es ep))(step:∀x r a Z,I (x::r) a Z->W (fun n=>f n x a Z) (I r) E)(fin:∀a Z,I [] a Z->Q a Z):∀(k i:Nat)(a:α)(Z:St),i+k=es.length->I ((keys es).drop i) a Z->W (fun n'=>loopD (f n') n ep k i a Z) Q E:=by
 intro j
 induction j with
 |zero=>
  intro i a Z b h;have c:Wf es.length i=Wd:=by rw[show es.length=i by exact b.symm];exact Wx _
  have h':=g _ _ _ h;rw[aao (by unfold keys;rw[Wp];exact Xo b.symm)] at h;exact .pure (fun _=>by rw[BW,h'];dsimp only;rw[Wx,d,c];rfl) (fin a Z h)
 |succ k l=>
  intro i a Z b h;have c:Wf es.length (i+(k+1))=Wd:=by rw[show es.length=i+(k+1) by exact b.symm];exact Wx _
  have h':=g _ _ _ h
  induction e:(keys es).drop i using Wv with
  |nil=>have:=congrArg Y0 e;unfold keys at this;rw[aaD,Wp] at this;exact absurd this (acm (b▸Yg (XU k)))
  |cons x r=>
   rw[e] at h;refine W.congr (.bind (W.mono (step x r a Z h) (fun a Z h=>l (i+1) a Z ((BJ i k).trans b) (((mA e).2)▸h)) hE)) fun n'=>?_;rw[BV,h'];dsimp only;rw[Wx,d,c,(mA e).1];rfl
theorem W.loop{v:P}{L:List P}{a:α}{Z Zb:St}(I:List P->α->St->Prop)(hs:Src Zb v L)(d:∀r a b,I r a b->Keep Zb b)(h0:I L a Z)(step:∀x r a Z,I (x::r) a Z->W (fun n=>f n x a Z) (I r) E)(fin:∀a Z,I [] a Z->Q a Z):W (fun n=>Mine.loop (f n) v a Z) Q E:=by
 have e:=d _ _ _ h0;rcases hs with h|h|⟨n,h1,c⟩|⟨n,es,ep,h1,c,g,i,j⟩
 ·subst h;exact W.loopL I step fin L a Z h0
 ·subst h;exact W.loopL I step fin L a Z h0
 ·subst h1;refine W.congr (W.loopN (n:=n) (L:=L) I (fun r a b h=>d r a b h _ _ c) step fin L.length 0 a Z (XW _) h0) fun n'=>?_;unfold Mine.loop;dsimp only;rw[e _ _ c]
 ·subst h1 j;refine W.congr (W.loopD (n:=n) (ep:=ep) (es:=es) g I (fun r a b h=>d r a b h _ _ c) step fin es.length 0 a Z (XW _) h0) fun n'=>?_;unfold Mine.loop;dsimp only;rw[e _ _ c];dsimp only;rw[g,i];rfl
end
noncomputable abbrev bc(m:VE):Prop:=(m.any fun e=>e.2.isOdd)=We
section
variable{c:Cx}{m:VE}{Z:St}{N:VE->St->Prop}{Rt:P->St->Prop}{E:EP}{e e1 e2 e3:IE}{p p1 x:Nat}{v:P}{t:IT}{it:IE}{b:List IS}
theorem zb{x:P}{m1:VE}{Q:VE->St->Prop}(i:aD t x m=Wb m1)(h:WX c b m1 Z (fun d Z2=>bc d/\Q d Z2) (fun _ _=>False) E):W (fun n=>turn (run tab n) c t b x (.next,m) Z) (fun a Z=>∃m,a=(.next,m)/\bc m/\Q m Z) E:=by
 refine W.congr (.bind (f:=fun n=>(run tab n).ex c b m1 Z) (g:=fun _ a Z=>(match a with
   |(.ret w,m)=>.ok (.ret w,m) Z
   |(.next,m)=>cond (m.any fun e=>e.2.isOdd) .no (.ok (.next,m) Z):R (Fl×VE))) (W.mono (.succ h) (fun a Z q=>?_) hE)) fun n=>?_
 ·obtain⟨fl,d⟩:=a
  induction fl using Mine.Fl.casesOn with
  |next=>exact .pure (a:=(.next,d)) (Z:=Z) (fun _=>by show cond (d.any fun e=>e.2.isOdd) _ _=_;rw[q.1];rfl) ⟨d,rfl,q⟩
  |ret v=>exact q.elim
 ·unfold turn;dsimp only;rw[i];try rfl
theorem WX.mono{ss:List IS}{b:VE->St->Prop}(h:WX c ss m Z N Rt E)(k:∀m Z,N m Z->b m Z):WX c ss m Z b Rt E:=
 W.mono h (fun a Z q=>by
  obtain⟨fl,m⟩:=a
  induction fl using Mine.Fl.casesOn with
  |next=>exact k m Z q
  |ret v=>exact q) hE
inductive Rh(c:Cx)(t:IT)(b:List IS)(m:VE)(N:VE->St->Prop)(E:EP)(v:P)(Z1:St):Prop
 |mk (L:List P) (I:List P->VE->St->Prop) (Zb:St) (h1:Src Zb v L) (e:∀r m a,I r m a->Keep Zb a) (f:I L m Z1) (g:∀x r m a,bc m->I (x::r) m a->∃m1,aD t x m=Wb m1/\WX c b m1 a (fun d Z2=>bc d/\I r d Z2) (fun _ _=>False) E) (h:∀m a,I [] m a->N m a)
inductive LP(c:Cx)(t:IT)(b:List IS)(m:VE)(N:VE->St->Prop)(E:EP)(v:P)(Z1:St):Prop
 |mk (l:List P) (I:List P->VE->St->Prop) (h1:v=.list l) (e:I (fi 0 l) m Z1) (f:∀x r m a,bc m->I (x::r) m a->∃m1,aD t x m=Wb m1/\WX c b m1 a (fun d Z2=>bc d/\I r d Z2) (fun _ _=>False) E) (g:∀m a,I [] m a->N m a)
theorem WS.for(hc:c.hd=We)(i:bc m)(hs:∀r:dN,hR r c t it b m Z=(r.ev c it m Z).bind fun v Z=>cond (c8 Z v) (loop (turn r c t b) v (.next,m) Z) .no)
  (h:WE c it m Z (Rh c t b m N E) E):WS c (.for t it b p) m Z N Rt E:=by
 refine W.congr (.bind (f:=fun n=>(run tab n).ev c it m Z) (g:=fun n v Z=>cond (c8 Z v) (loop (turn (run tab n) c t b) v (.next,m) Z) .no) (W.mono h (fun v Z1 d=>?_) hE)) fun n=>?_
 ·obtain⟨L,I,Zb,h1,k,l,o,q⟩:=d;refine W.congr (W.loop (f:=fun n=>turn (run tab n) c t b) (fun r a Z=>∃m,a=(.next,m)/\bc m/\I r m Z) h1 (fun r a s d=>by obtain⟨m,_,_,h⟩:=d;exact k r m s h) ⟨m,rfl,i,l⟩ (fun x r a Z d=>?_) (fun a Z d=>by obtain⟨m,j,_,h⟩:=d;subst j;exact q m Z h)) fun n=>by show cond (c8 Z1 v) _ _=_;rw[(h1.keep (k _ _ _ l)).ok];rfl
  obtain⟨m,j,i,h⟩:=d;subst j;obtain⟨m1,u,h⟩:=o x r m Z i h;exact zb u h
 ·show cond (c.hd||m.any fun e=>e.2.isOdd) _ _=_;rw[hc,i,hs];rfl
theorem WS.forE{xs:List (Nat×Nat)}{k d p1 pc:Nat}{q:Bool}(hc:c.hd=We)(j:bc m)
  (h:WE c e m Z (LP c (.tup xs k d) b m N E) E):WS c (.for (.tup xs k d) (.call bx p1 q [e] pc) b p) m Z N Rt E:=by
 refine W.congr (.bind (f:=fun n=>(run tab n).ev c e m Z) (g:=fun n v Z=>(match v,IT.tup xs k d with
    |.list l,.tup _ _ _=>loopL (turn (run tab n) c (.tup xs k d) b) (fi 0 l) (.next,m) Z
    |_,_=>.no:R (Fl×VE))) (W.mono h (fun v Z1 i=>?_) hE)) fun n=>?_
 ·obtain⟨l,I,h1,s,t,u⟩:=i;subst h1;refine W.loopL (f:=fun n=>turn (run tab n) c (.tup xs k d) b) (fun r a Z=>∃m,a=(.next,m)/\bc m/\I r m Z) (fun x r a Z i=>?_) (fun a Z i=>by obtain⟨m,o,_,h⟩:=i;subst o;exact u m Z h) (fi 0 l) (.next,m) Z1 ⟨m,rfl,j,s⟩;obtain⟨m,o,j,h⟩:=i;subst o;obtain⟨m1,w,h⟩:=t x r m Z j h;exact zb w h
 ·show cond (c.hd||m.any fun e=>e.2.isOdd) _ _=_;rw[hc,j];rfl
theorem aE{x:Nat}{v:P}{m:VE}(h:v.isOdd=We)(a:bc m):bc ((x,v)::m):=by
 show(v.isOdd||m.any fun e=>e.2.isOdd)=We;rw[h];exact a
theorem I0:∀{m:VE},bc m->(m.any fun e=>e.2.isExc)=We:=by
 intro a
 induction a with
 |nil=>
  intro _;exact rfl
 |cons b m c=>
  obtain⟨x,v⟩:=b;intro h;have h:(v.isOdd||m.any fun e=>e.2.isOdd)=We:=h;rw[WJ] at h;show(v.isExc||m.any fun e=>e.2.isExc)=We;rw[c h.2];cases v<;>first|rfl|exact h.1
theorem cz{xs:List (Nat×Nat)}{k q:Nat}{l:List P}(a:bc m)(b:Wf l.length xs.length=Wd):aD (.tup xs k q) (.tup l) m=Wb (aD.go xs l m):=by
 unfold aD;rw[I0 a];dsimp only[cond];rw[b]
theorem cB{q:Nat}(a:bc m)(hv:v.isOdd=We):aD (.name x q) v m=Wb (put x v m):=by
 unfold aD;rw[I0 a];dsimp only[cond];rw[hv]
theorem WI.nil{Q:Bool->St->Prop}(q:Q Wd Z):WI c [] m Z Q E:=.pure (fun _=>rfl) q
theorem WI.cons{Q:Bool->St->Prop}{es:List IE}(h:WT c e m Z (fun z Z=>cond z (WI c es m Z Q E) (Q We Z)) E):WI c (e::es) m Z Q E:=
 .bind (W.mono h (fun z _ q=>by
  induction z using Wn with
  |true=>exact q
  |false=>exact .pure (fun _=>rfl) q) hE)
theorem WI.one{Q:Bool->St->Prop}(h:WT c e m Z Q E):WI c [e] m Z Q E:=
 .cons (W.mono h (fun z _ q=>by
  induction z using Wn with
  |true=>exact .nil q
  |false=>exact q) hE)
noncomputable def PB(c:Cx)(t:IT)(ifs:List IE)(e:IE)(b:VE)(Z1:St)(x:P)(o:Option P):Prop:=∀a,Keep Z1 a->∃m1,aD t x b=Wb m1/\WI c ifs m1 a (fun z Z2=>cond z (WE c e m1 Z2 (fun w Z3=>Keep a Z3/\w.isOdd=We/\o=Wb w) yu) (Keep a Z2/\o=Wc)) yu
noncomputable def vF(r:dN)(c:Cx)(t:IT)(ifs:List IE)(f:VE)(e:IE)(n:Nat)(x:P)(a:Unit)(Z:St):R Unit:=match aD t x f with
 |some m=>(rU r c m ifs Z).bind fun b Z=>cond b ((r.ev c e m Z).bind fun v d=>match ai d n with
  |some (.list l)=>cond (v.isOdd||!aq l.length) .no (.ok () (ak d n (.list (l++[v]))))
  |_=>.no) (.ok a Z)
 |none=>.no
noncomputable def qJ(r:dN)(c:Cx)(t:IT)(b:VE)(k e:IE)(n:Nat)(x:P)(_:Unit)(Z:St):R Unit:=match aD t x b with
 |some m=>(r.ev c k m Z).bind fun d a=>(r.ev c e m a).bind fun w a=>match d,ai a n with
  |.str s,Wb (.dict es ep)=>cond (w.isOdd||!aq es.length) .no (.ok () (ak a n (.dict (put s w es) (c6 ep s es))))
  |_,_=>.no
 |none=>.no
inductive Ri(c:Cx)(t:IT)(ifs:List IE)(e:IE)(a:VE)(Q:P->St->Prop)(v:P)(Z1:St):Prop
 |mk(L:List P)(g:P->Option P)(h1:Src Z1 v L)(b:aq L.length=Wd)(d:∀x,x∈L->PB c t ifs e a Z1 x (g x))(f:∀Z2,Keep Z1 Z2->Q (.list (L.filterMap g)) Z2)
inductive Rj(Z1:St)(L:List P)(g:P->Option P)(r:List P)(b:St):Prop
 |mk(a:List P)(h1:ai b Z1.length=Wb (.list a))(c:Keep Z1 b)(d:a++r.filterMap g=L.filterMap g)(e:a.length+r.length<=L.length)(f:∀x,x∈r->x∈L)
theorem WE.comp{Q:P->St->Prop}{ifs:List IE}{sc:List (Nat×Nat)}(hc:c.hd=We)(D:bc m)(hf:eS t (az sc m)=Wd)(h:WE c it m Z (Ri c t ifs e (az sc m) Q) E):WE c (.comp e [.mk t it ifs] sc p) m Z Q E:=by
 refine .succ (W.congr (.bind (f:=fun n=>(run tab n).ev c it m Z) (g:=fun n C Z=>cond (!c8 Z C) .no<|(iG (run tab n) c t ifs (az sc m) (lL (run tab n) c (fun m (_:Unit) b=>((run tab n).ev c e m b).bind fun v b=>match ai b Z.length with
   |some (.list l)=>cond (v.isOdd||!aq l.length) .no (.ok () (ak b Z.length (.list (l++[v]))))
   |_=>.no) []) C () (Z++[.list []])).bind fun _ b=>match ai b Z.length with
    |some (.list l)=>.ok (.list l) (ak b Z.length .dead)
    |_=>.no) (W.mono h (fun v Z1 ⟨L,g,h1,F,G,H⟩=>?_) hE)) fun n=>?_)
 ·refine W.congr (.bind (f:=fun n=>loop (vF (run tab n) c t ifs (az sc m) e Z1.length) v () (Z1++[.list []])) (g:=fun _ _ b=>(match ai b Z1.length with
    |some (.list l)=>R.ok (P.list l) (ak b Z1.length O.dead)
    |_=>.no)) (W.loop (L:=L) (Zb:=Z1) (f:=fun n=>vF (run tab n) c t ifs (az sc m) e Z1.length) (fun r _ b=>Rj Z1 L g r b) h1 ?_ ?_ ?_ ?_)) fun n=>?_
  ·intro r a b i;obtain⟨d,_,h,_⟩:=i;exact h
  ·exact⟨[],bH _ _ _,.app,rfl,by simp,fun _ h=>h⟩
  ·intro x r a b i;obtain⟨d,j,k,o,s,u⟩:=i;obtain⟨m1,I,J⟩:=G x (u x (WU ..)) b k;refine W.congr (.bind (f:=fun n=>rU (run tab n) c m1 ifs b) (g:=fun n z Z=>cond z (((run tab n).ev c e m1 Z).bind fun v b=>match ai b Z1.length with
    |some (.list l)=>cond (v.isOdd||!aq l.length) .no (.ok () (ak b Z1.length (.list (l++[v]))))
    |_=>.no) (.ok () Z)) (W.mono J (fun z Z2 q=>?_) fun _ _ _ _ h=>h.elim)) fun n=>?_
   ·induction z using Wn with
    |false=>
     have q:Keep b Z2/\g x=Wc:=q;refine .pure (a:=()) (Z:=Z2) (fun _=>rfl) ⟨d,q.1 _ _ j,k.trans q.1,?_,?_,fun y A=>u y (W8 _ A)⟩
     ·rw[<-o];exact congrArg _ (by rw[X5,q.2])
     ·rw[Xa] at s;exact Xj s
    |true=>
     refine .bind (W.mono q (fun w Z3 ⟨B,K,M⟩=>.pure (a:=()) (Z:=ak Z3 Z1.length (.list (d++[w]))) (fun _=>?_) ⟨d++[w],aF (B _ _ j),(k.trans B).set (eg _),?_,?_,fun y A=>u y (W8 _ A)⟩) fun _ _ _ _ h=>h.elim)
     ·rw[B _ _ j];show cond (w.isOdd||!aq d.length) _ _=_;rw[K,show aq d.length=Wd from Wy (Wj (WZ s) (Wg F))];rfl
     ·rw[<-o,Xw,X5,M];rfl
     ·rw[Wu];exact LH s
   ·show vF (run tab n) c t ifs (az sc m) e Z1.length x a b=_;unfold vF;rw[I]
  ·intro a b i;obtain⟨d,j,k,o,_,_⟩:=i;refine .pure (a:=.list d) (Z:=ak b Z1.length .dead) (fun _=>by rw[j]) ?_;rw[show d=L.filterMap g from by rw[<-o];simp];exact H _ (k.set (eg _))
  ·show cond (!c8 Z1 v) _ (R.bind (cond (!eS t (az sc m)) _ _) _)=_;rw[h1.ok,hf];rfl
 ·show cond (c.hd||m.any fun e=>e.2.isOdd) _ _=_;rw[hc,D];rfl
noncomputable def PD(c:Cx)(t:IT)(k e:IE)(b:VE)(Z1:St)(x:P):Prop:=∀a,Keep Z1 a->∃m1,aD t x b=Wb m1/\WE c k m1 a (fun d Z2=>∃s,d=.str s/\WE c e m1 Z2 (fun w Z3=>Keep a Z3/\w.isOdd=We) yu) yu
theorem ji{x:Nat}{v:P}:∀{l:List (Nat×P)},(put x v l).length<=l.length+1:=by
 intro a
 induction a with
 |nil=>
  exact Xk _
 |cons b r c=>
  obtain⟨y,w⟩:=b;show(cond (Wf y x) ((x,v)::r) ((y,w)::put x v r)).length<=_;cases Wf y x
  ·exact W9 c
  ·exact Xp _
inductive Rk(c:Cx)(t:IT)(k e:IE)(a:VE)(Q:P->St->Prop)(v:P)(Z1:St):Prop
 |mk(L:List P)(h1:Src Z1 v L)(b:aq L.length=Wd)(d:∀x,x∈L->PD c t k e a Z1 x)(f:∀Z2,Keep Z1 Z2->Q (.ref Z1.length) Z2)
inductive Rl(Z1:St)(L r:List P)(a:St):Prop
 |mk(es:List (Nat×P))(ep:Nat)(h1:ai a Z1.length=Wb (.dict es ep))(b:Keep Z1 a)(c:es.length+r.length<=L.length)(d:∀x,x∈r->x∈L)
theorem WE.dcomp{Q:P->St->Prop}{k:IE}{sc:List (Nat×Nat)}(hc:c.hd=We)(B:bc m)(hf:eS t (az sc m)=Wd)(h:WE c it m Z (Rk c t k e (az sc m) Q) E):WE c (.dcomp k e [.mk t it []] sc p) m Z Q E:=by
 refine .succ (W.congr (.bind (f:=fun n=>(run tab n).ev c it m Z) (g:=fun n u Z=>cond (!c8 Z u) .no<|(iG (run tab n) c t [] (az sc m) (lL (run tab n) c (fun m (_:Unit) b=>((run tab n).ev c k m b).bind fun i b=>((run tab n).ev c e m b).bind fun w b=>match i,ai b Z.length with
   |.str s,Wb (.dict es ep)=>cond (w.isOdd||!aq es.length) .no (.ok () (ak b Z.length (.dict (put s w es) (c6 ep s es))))
   |_,_=>.no) []) u () (Z++[.dict [] 0])).bind fun _ b=>.ok (.ref Z.length) b) (W.mono h (fun v Z1 ⟨L,h1,C,D,F⟩=>?_) hE)) fun n=>?_)
 ·refine W.congr (.bind (f:=fun n=>loop (qJ (run tab n) c t (az sc m) k e Z1.length) v () (Z1++[.dict [] 0])) (g:=fun _ _ b=>(R.ok (P.ref Z1.length) b)) (W.loop (L:=L) (Zb:=Z1) (f:=fun n=>qJ (run tab n) c t (az sc m) k e Z1.length) (fun r _ b=>Rl Z1 L r b) h1 ?_ ?_ ?_ ?_)) fun n=>?_
  ·intro r a b d;obtain⟨_,_,_,h,_⟩:=d;exact h
  ·exact⟨[],0,bH _ _ _,.app,by simp,fun _ h=>h⟩
  ·intro x r a b d;obtain⟨es,ep,l,j,z,A⟩:=d;obtain⟨m1,G,H⟩:=D x (A x (WU ..)) b j;refine W.congr (.bind (f:=fun n=>(run tab n).ev c k m1 b) (g:=fun n i b=>((run tab n).ev c e m1 b).bind fun w b=>(match i,ai b Z1.length with
    |.str s,Wb (.dict es ep)=>cond (w.isOdd||!aq es.length) .no (.ok () (ak b Z1.length (.dict (put s w es) (c6 ep s es))))
    |_,_=>.no:R Unit)) (W.mono H (fun i Z2 ⟨s,hs,q⟩=>?_) fun _ _ _ _ h=>h.elim)) fun n=>?_
   ·subst hs;refine .bind (W.mono q (fun w Z3 ⟨o,I⟩=>.pure (a:=()) (Z:=ak Z3 Z1.length (.dict (put s w es) (c6 ep s es))) (fun _=>?_) ⟨_,_,aF (o _ _ l),(j.trans o).set (eg _),?_,fun y J=>A y (W8 _ J)⟩) fun _ _ _ _ h=>h.elim)
    ·rw[o _ _ l];show cond (w.isOdd||!aq es.length) _ _=_;rw[I,show aq es.length=Wd from Wy (Wj (WZ z) (Wg C))];rfl
    ·exact MK ji z
   ·show qJ (run tab n) c t (az sc m) k e Z1.length x a b=_;unfold qJ;rw[G]
  ·intro a b d;obtain⟨es,ep,l,j,_,_⟩:=d;exact .pure (a:=.ref Z1.length) (Z:=b) (fun _=>rfl) (F _ j)
  ·show cond (!c8 Z1 v) _ (R.bind (cond (!eS t (az sc m)) _ _) _)=_;rw[h1.ok,hf];rfl
 ·show cond (c.hd||m.any fun e=>e.2.isOdd) _ _=_;rw[hc,B];rfl
theorem WS.tryA{j:IT}{C nm k l u:Nat}{f:List IS}(hc:c.hd=We)(h0:jz C aj=Wd)(o:jz C aM=Wd)(t:(m.any fun e=>e.2.isExc)=We)(h:WE c e m Z (fun v Z=>IY (aD j v m) N Z) (fun x s w Z=>x=C/\WX ⟨c.d,Wd,c.tb⟩ f (put nm (.exc x s w) m) Z (fun _ _=>False) (fun v Z=>v.isOdd=We/\Rt v Z) yu)):WS c (.try [.asg (.to j) e u] [(C,nm,k,f,l)] p) m Z N Rt E:=by
 obtain⟨r,h1,y⟩:=h
 induction r using Mine.R.casesOn with
 |ok v Z1=>
  clear h0 o t;obtain⟨m1,F,q⟩:=y;obtain⟨D,h1⟩:=h1;have h1:∀n,D<=n->(run tab n).ev c e m Z=R.ok v Z1:=h1;refine⟨.ok (.next,m1) Z1,⟨D,fun n i=>?_⟩,q⟩;show(match(run tab n).ev c e m Z with
   |.exc x s w Z=>_
   |.ok v Z=>match ck tab (run tab n) c (.to j) v m Z with
    |.ok m Z=>_
    |_=>_
   |.no=>_)=_
  rw[h1 n i];dsimp only;rw[show ck tab (run tab n) c (.to j) v m Z1=.ok m1 Z1 from by
   show cond c.hd .no (ofO (aD j v m) fun m=>.ok m Z1)=_;rw[hc,F];rfl]
 |exc x s w Z1=>
  obtain⟨G,r,b,g⟩:=y;subst G;obtain⟨z,h1⟩:=h1;have h1:∀n,z<=n->(run tab n).ev c e m Z=R.exc x s w Z1:=h1;have b:Ult (fun n=>(run tab n).ex ⟨c.d,Wd,c.tb⟩ f (put nm (.exc x s w) m) Z1) r:=.succ b;obtain⟨A,b⟩:=b;have b:∀n,A<=n->(run tab n).ex ⟨c.d,Wd,c.tb⟩ f (put nm (.exc x s w) m) Z1=r:=b;have B:∀n,z+A<=n->ba tab (run tab n) c (.try [.asg (.to j) e u] [(x,nm,k,f,l)] p) m Z=(match(generalizing:=false) r with
     |.ok (.ret v,m) Z=>cond v.isOdd R.no (R.ok (Fl.ret v,m) Z)
     |_=>R.no):=fun n i=>by
   show(match(run tab n).ev c e m Z with
    |.exc H s w Z=>cond c.hd (R.no:R (Fl×VE)) (ba.hdl tab (run tab n) c m [(x,nm,k,f,l)] H s w Z)
    |.ok v Z=>_
    |.no=>_)=_
   rw[h1 n (by exact WZ i)];dsimp only;rw[hc];show ba.hdl tab (run tab n) c m [(x,nm,k,f,l)] x s w Z1=_;show(cond (!tab.fld x aj||!tab.fld x aM||!tab.fld x aj||!tab.fld x aM||m.any fun e=>e.2.isExc) R.no<|cond (Wf x x) (match(run tab n).ex ⟨c.d,Wd,c.tb⟩ f (put nm (.exc x s w) m) Z1 with|.ok (.ret v,m) Z=>cond v.isOdd R.no (R.ok (Fl.ret v,m) Z) |_=>R.no) _)=_;rw[show tab.fld x aj=Wd from h0,show tab.fld x aM=Wd from o,t,Wx];dsimp only[aaH,adh,cond];rw[b n (by exact XT i)];clear k l u hc h0 o t g h1 b i
   induction r using Mine.R.casesOn with
   |ok a Z=>
    clear h1 b n;obtain⟨fl,m⟩:=a;clear z A b
    induction fl<;>rfl
   |exc=>rfl
   |no=>rfl
  clear hc h0 o t h1 b
  induction r using Mine.R.casesOn with
  |ok a Z2=>
   clear h1 b;obtain⟨fl,I⟩:=a;clear b
   induction fl using Mine.Fl.casesOn with
   |next=>exact g.elim
   |ret v=>
    have g:v.isOdd=We/\Rt v Z2:=g;refine⟨.ok (.ret v,I) Z2,⟨_,fun n i=>(B n i).trans ?_⟩,g.2⟩;show cond v.isOdd _ _=_;rw[g.1];rfl
  |exc C s w Z2=>exact g.elim
  |no=>exact g.elim
 |no=>exact y.elim
end
noncomputable def B1(l:List IS)(n:Nat):IS:=(ai l n).getD (.pass 0)
noncomputable def lR:IS->List IS
 |.for _ _ b _=>b
 |.ifs _ b _ _=>b
 |.while _ b _=>b
 |_=>[]
noncomputable def _root_.Mine.P.isRef:P->Bool
 |.ref _=>Wd
 |_=>We
noncomputable def _root_.Mine.P.flat:P->Bool
 |.none=>Wd
 |.bool _=>Wd
 |.int _=>Wd
 |.str _=>Wd
 |_=>We
noncomputable def zc(v:P):P->Bool
 |.tup []=>match v with
  |.tup _=>Wd
  |_=>We
 |i=>v.flat&&i.flat
noncomputable def vG(op:abr)(v i:P):Bool:=match op with
 |.In=>!i.isRef
 |.NotIn=>!i.isRef
 |.Eq=>zc v i
 |.NotEq=>zc v i
 |_=>Wd
noncomputable def zf:P->Option (List P)
 |.tup l=>Wb l
 |.list l=>Wb l
 |_=>Wc
noncomputable def Eo(x:Nat):List P->Option P
 | [a]=>cond (Wf x fg) ((zf a).bind fun l=>lc (aq l.length) (Wb (.int l.length)))
  (cond (Wf x dz) ((zf a).bind fun l=>lc (aq l.length) (Wb (.list l)))
  (cond (Wf x cb) ((zf a).bind fun l=>lc (aq l.length) (Wb (.tup l))) Wc))
 | [a,.glob t]=>cond (Wf x dO) ((LL a t).map .bool) Wc
 |_=>Wc
section
variable(r:IE->VE->Option P)
noncomputable def H0(m:VE):List IE->Option (List P)
 | []=>Wb []
 |e::es=>(r e m).bind fun v=>(H0 m es).bind fun vs=>Wb (v::vs)
noncomputable def pB:Option P->Option Bool
 |some (.bool b)=>Wb b
 |_=>Wc
noncomputable def B2(m:VE)(op:aaf):List IE->Option Bool
 | []=>Wc
 | [e]=>pB (r e m)
 |e::es=>(pB (r e m)).bind fun b=>match op with
  |.And=>cond b (B2 m op es) (Wb We)
  |.Or=>cond b (Wb Wd) (B2 m op es)
noncomputable def pO(m:VE):Option IE->Option (Option P)
 |none=>Wb Wc
 |some e=>(r e m).map Wb
noncomputable def Ep(e:IE)(m:VE):Option P:=match e with
 |.none _=>Wb .none
 |.bool b _=>Wb (.bool b)
 |.int i _=>Wb (.int i)
 |.str s _=>Wb (.str s)
 |.glob x _=>rW x
 |.name x _=>get x m
 |.neg i _ _=>Wb (.int (-(i:Int)))
 |.not e _=>(pB (r e m)).map fun b=>.bool (!b)
 |.sub a b _=>(r a m).bind fun v=>(r b m).bind fun i=>lc (!v.isRef) (oZ [] v i)
 |.slice o lo c _ _=>(r o m).bind fun v=>(pO r m lo).bind fun a=>(pO r m c).bind fun b=>lc (!v.isRef) (dQ [] v a b)
 |.tup es _ _=>(H0 r m es).bind fun vs=>lc (!vs.any P.isOdd) (Wb (.tup vs))
 |.list We es _=>(H0 r m es).bind fun vs=>lc (!vs.any P.isOdd&&aq vs.length) (Wb (.list vs))
 |.cmp op a b _=>(r a m).bind fun v=>(r b m).bind fun i=>lc (vG op v i) ((dk op v i []).map .bool)
 |.bop op es _=>(B2 r m op es).map .bool
 |.ite t a b _=>(pB (r t m)).bind fun z=>cond z (r a m) (r b m)
 |.bin op a b _=>(r a m).bind fun v=>(r b m).bind fun i=>lc (!v.isRef) (j5 op v i [])
 |.call x _ We as _=>lc (yX x&&!lu x&& (jy x).isNone) ((H0 r m as).bind (Eo x))
 |_=>Wc
end
noncomputable def pM:Nat->IE->VE->Option P
 |0=>fun _ _=>Wc
 |n+1=>Ep (pM n)
structure POk(r:IE->VE->Option P):Prop where
 ev:∀{e m v},r e m=Wb v->∀{c Z Q E},Q v Z->WE c e m Z Q E
theorem rX{α β:Type}{o:Option α}{f:α->Option β}{b:β}(h:o.bind f=Wb b):∃a,o=Wb a/\f a=Wb b:=aak.mp h
theorem I1{α:Type}{b:Bool}{o:Option α}{v:α}(h:lc b o=Wb v):b=Wd/\o=Wb v:=by
 induction b using Wn with
 |true=>exact⟨rfl,h⟩
 |false=>exact aH h
theorem B3{Z:St}{v i w:P}(hv:(!v.isRef)=Wd)(h:oZ [] v i=Wb w):oZ Z v i=Wb w:=by
 induction i using Mine.P.casesOn with
 |int=>cases v<;>first|exact absurd hv Xr|exact h
 |str=>cases v<;>first|exact absurd hv Xr|exact aH h
 |_=>exact aH h
theorem xd{Z:St}{v w:P}{a b:Option P}(hv:(!v.isRef)=Wd)(h:dQ [] v a b=Wb w):dQ Z v a b=Wb w:=by
 induction v using Mine.P.casesOn with
 |ref=>exact dg hv
 |_=>exact h
theorem B4{Z:St}{op:abI}{v i w:P}(hv:(!v.isRef)=Wd)(h:j5 op v i []=Wb w):j5 op v i Z=Wb w:=by
 rw[<-h];clear h;cases op with
 |Add=>cases v<;>first|exact absurd hv Xr|rfl|(cases i<;>rfl)
 |_=>rfl
theorem xe{Z:St}{v i:P}(hv:v.flat=Wd)(a:i.flat=Wd):ju 5 Z v i=ju 5 [] v i:=by
 cases v<;>first|exact absurd hv Xr|(cases i<;>first|exact absurd a Xr|rfl)
theorem rY{Z:St}{v i:P}(h:zc v i=Wd):ju 5 Z v i=ju 5 [] v i:=by
 by_cases q:i=.tup []
 ·subst q;cases v with
  |tup a=>
   clear h
   induction a using Wv with
   |nil=>
    have e:∀Z,ju 5 Z (.tup []) (.tup [])=Wb Wd:=fun _=>rfl;rw[e,e]
   |cons x a=>
    have e:∀Z,ju 5 Z (.tup (x::a)) (.tup [])=Wb We:=fun _=>rfl;rw[e,e]
  |_=>exact dg h
 ·have h:(v.flat&&i.flat)=Wd:=by
   cases i with
   |tup l=>induction l using Wv with
    |nil=>exact absurd rfl q
    |cons=>exact h
   |_=>exact h
  rw[W5] at h;exact xe h.1 h.2
theorem zg{Z:St}{op:abr}{v i:P}(h:vG op v i=Wd):dk op v i Z=dk op v i []:=by
 have b:i.isRef=We->tW Z v i=tW [] v i:=fun c=>by
  clear h;cases v<;>first|rfl|(cases i<;>first|exact absurd c.symm Xr|rfl)
 cases op with
 |In=>exact b (by cases a:i.isRef<;>first|rfl|(rw[show vG .In v i=!i.isRef from rfl,a] at h;exact dg h))
 |NotIn=>exact congrArg (adp not) (b (by cases a:i.isRef<;>first|rfl|(rw[show vG .NotIn v i=!i.isRef from rfl,a] at h;exact dg h)))
 |Eq=>
  exact(rY (Z:=Z) h)
 |NotEq=>
  exact congrArg (adp not) (rY (Z:=Z) h)
 |_=>rfl
theorem I2{Z:St}{a:P}{l:List P}(h:zf a=Wb l):c7 Z a=Wb l:=by
 cases a<;>first|exact h|exact aH h
theorem vI{b:Bool}{o1 a:Option P}{c d:R P}{v:P}{Z:St}(h:cond b o1 a=Wb v)(e:o1=Wb v->c=.ok v Z)(k2:a=Wb v->d=.ok v Z):cond b c d=.ok v Z:=by
 induction b using Wn with
 |true=>exact e h
 |false=>exact k2 h
theorem FC{a v:P}{Z:St}{f:List P->P}{g:List P->R P}(h:((zf a).bind fun l=>lc (aq l.length) (Wb (f l)))=Wb v)(c:∀l,aq l.length=Wd->g l=.ok (f l) Z):ofO (c7 Z a) g=.ok v Z:=by
 obtain⟨l,d,b⟩:=rX h;exact(I2 d)▸(Wi (I1 b).2)▸(c l (I1 b).1)
theorem FD{hd:Bool}{x:Nat}{vs:List P}{v:P}{Z:St}(h:Eo x vs=Wb v):callB hd x We vs Z=.ok v Z:=by
 rcases vs with _|⟨a,_|⟨t,_|⟨u,r⟩⟩⟩
 ·exact aH h
 ·exact vI h (fun h=>FC h fun l h=>by show cond _ _ _=_;rw[h];rfl) fun h=>vI h (fun h=>FC h fun l h=>by show cond _ _ _=_;rw[h];rfl) fun h=>vI h (fun h=>FC h fun l h=>by show cond _ _ _=_;rw[h];rfl) fun h=>aH h
 ·induction t using Mine.P.casesOn with
  |glob t=>exact vI h (fun h=>by
    obtain⟨b,c,d⟩:=WD.mp h;show ofO (LL a t) _=_;rw[c,<-d];rfl) fun h=>aH h
  |_=>exact aH h
 ·cases t<;>exact aH h
section
variable{r:IE->VE->Option P}(H:POk r){c:Cx}{m:VE}{E:EP}
include H
theorem POk.es:∀{es:List IE}{vs:List P},H0 r m es=Wb vs->∀{Z:St}{Q:List P->St->Prop},Q vs Z->WL c es m Z Q E:=by
 intro a
 induction a with
 |nil=>
  intro _ h _ _ q;obtain rfl:=Wi h;exact .nil q
 |cons e es b=>
  intro _ h _ _ q;obtain⟨v,h1,h⟩:=rX h;obtain⟨vs,d,h⟩:=rX h;obtain rfl:=Wi h;exact .cons (H.ev h1 (b d q))
theorem POk.t{e:IE}{b:Bool}(h:pB (r e m)=Wb b){Z:St}{Q:Bool->St->Prop}(q:Q b Z):WT c e m Z Q E:=by
 induction hv:r e m using Wo with
 |none=>rw[hv] at h;exact aH h
 |some v=>
  rw[hv] at h;cases v<;>first|(cases h;exact .of (H.ev hv ⟨_,rfl,q⟩)) |cases h
theorem POk.bop{op:aaf}:∀{es:List IE}{b:Bool},B2 r m op es=Wb b->∀{Z:St}{Q:P->St->Prop},Q (.bool b) Z->WB op c es m Z Q E:=by
 intro es
 induction es with
 |nil=>exact fun h=>aH h
 |cons e es a=>
  intro b h Z Q q
  induction es using Wv with
  |nil=>exact .last (H.t h q)
  |cons d es=>
   obtain⟨b,h1,h⟩:=rX h
   induction op using Y1 with
   |And=>induction b using Wn with
    |true=>exact .and (H.t h1 (a h q))
    |false=>obtain rfl:=Wi h;exact .and (H.t h1 q)
   |Or=>induction b using Wn with
    |false=>exact .or (H.t h1 (a h q))
    |true=>obtain rfl:=Wi h;exact .or (H.t h1 q)
theorem POk.o{e:Option IE}{a:Option P}(h:pO r m e=Wb a){Z:St}{Q:Option P->St->Prop}(q:Q a Z):WO c e m Z Q E:=by
 induction e using Wo with
 |none=>obtain rfl:=Wi h;exact .none q
 |some e=>
  obtain⟨v,h1,b⟩:=WD.mp h;clear h;subst b;exact .some (H.ev h1 q)
theorem POk.step{e:IE}{v:P}(h:Ep r e m=Wb v){Z:St}{Q:P->St->Prop}(q:Q v Z):WE c e m Z Q E:=by
 have f:∀{w:P},Wb w=Wb v->Q w Z:=fun h=>(Wi h).symm▸q
 induction e using Mine.IE.casesOn with
 |none=>exact .nne (f h)
 |bool=>exact .bool (f h)
 |int=>exact .int (f h)
 |str=>exact .str (f h)
 |glob=>exact .glob h q
 |name=>exact .name h q
 |neg=>exact .neg (f h)
 |not=>exact mS h fun b h1 d=>.not (H.t h1 (d.symm▸q))
 |sub=>exact bS h fun v h1 h=>bS h fun i d h=>pY h fun g h=>.sub (H.ev h1 (H.ev d ⟨_,B3 g h,q⟩))
 |slice=>exact bS h fun v h1 h=>bS h fun a d h=>bS h fun b g h=>pY h fun j h=>.slice (H.ev h1 (H.o d (H.o g ⟨_,xd j h,q⟩)))
 |tup=>exact bS h fun vs h1 h=>pY h fun d h=>.tup (H.es h1 ⟨(Xy _).mp d,f h⟩)
 |list k=>
  induction k using Wn with
  |true=>exact aH h
  |false=>exact bS h fun vs h1 h=>pY h fun d h=>.listF (H.es h1 ⟨(Xy _).mp (Xe.mp d).1,(Xe.mp d).2,f h⟩)
 |cmp=>exact bS h fun v h1 h=>bS h fun i d h=>pY h fun g h=>mS h fun z j h=>.cmp (H.ev h1 (H.ev d ⟨_,(zg g).trans j,h.symm▸q⟩))
 |bop=>exact mS h fun b h1 h=>.bop (H.bop h1 (h.symm▸q))
 |ite=>exact bS h fun z h1 h=>.ite (H.t h1 (by induction z<;>exact H.ev h q))
 |bin=>exact bS h fun v h1 h=>bS h fun i d h=>pY h fun g h=>.bin (H.ev h1 (H.ev d ⟨_,B4 g h,q⟩))
 |call x p1 k as p=>
  induction k using Wn with
  |true=>exact aH h
  |false=>exact pY h fun h1 h=>bS h fun vs d h=>.callB (Xe.mp (Xe.mp h1).1).1 ((Xy _).mp (Xe.mp (Xe.mp h1).1).2) (Yv.mp (Xe.mp h1).2) (H.es d ⟨_,_,FD h,q⟩)
 |_=>exact aH h
end
theorem B5:∀n,POk (pM n):=by
 intro a
 induction a with
 |zero=>
  exact⟨fun h=>by exact aH h⟩
 |succ n b=>
  exact⟨fun h=>(b).step h⟩
noncomputable def WK(c:Cx):List (List IS)->VE->St->(VE->St->Prop)->(P->St->Prop)->EP->Prop
 | [],m,Z,N,_,_=>N m Z
 |ss::k,m,Z,N,Rt,E=>WX c ss m Z (fun m Z=>WK c k m Z N Rt E) Rt E
set_option genCtorIdx true in
inductive RK where
 |mk(m:VE)(k:List (List IS))
 |no
noncomputable def qK:Nat->VE->List (List IS)->RK
 |0,m,k=>.mk m k
 |n+1,m,k=>match k with
  | []::k=>qK n m k
  |(.asg (.to t) e p::ss)::k=>match(pM 12 e m).bind fun v=>aD t v m with
   |some m1=>qK n m1 (ss::k)
   |none=>.mk m ((.asg (.to t) e p::ss)::k)
  |(.ifs t a b p::ss)::k=>match pB (pM 12 t m) with
   |some z=>qK n m (cond z a b::ss::k)
   |none=>.mk m ((.ifs t a b p::ss)::k)
  |k=>.mk m k
section
variable{d:Nat}{tb:Option Nat}{c:Cx}{m:VE}{Z:St}{N:VE->St->Prop}{Rt:P->St->Prop}{E:EP}{k:List (List IS)}{ss:List IS}{e o:IE}{x f p p1 p2:Nat}{v:P}{as:List IE}{vs:List P}
theorem WX.of(h:WK c [ss] m Z N Rt E):WX c ss m Z N Rt E:=h
theorem WK.mono{b:VE->St->Prop}(q:∀m Z,N m Z->b m Z){s:IS}(h:WS c s m Z N Rt E):WS c s m Z b Rt E:=W.mono h (fun a Z h=>by
 obtain⟨fl,m⟩:=a
 induction fl using Mine.Fl.casesOn with
 |next=>exact q _ _ h
 |ret v=>exact h) hE
theorem WK.s{s:IS}(h:WS c s m Z (fun m Z=>WK c (ss::k) m Z N Rt E) Rt E):WK c ((s::ss)::k) m Z N Rt E:=WX.cons h
theorem WK.end(h:N m Z):WK c [] m Z N Rt E:=h
theorem WK.nils(h:WK c k m Z N Rt E):WK c ([]::k) m Z N Rt E:=WX.nil h
noncomputable def RK.go(c:Cx)(Z:St)(N:VE->St->Prop)(Rt:P->St->Prop)(E:EP):RK->Prop
 |.mk m k=>WK c k m Z N Rt E
 |.no=>False
theorem WK.run0(hc:c.hd=We)(n:Nat){m:VE}{k:List (List IS)}(h:(qK n m k).go c Z N Rt E):WK c k m Z N Rt E:=by
 induction n generalizing m k with
 |zero=>exact h
 |succ n f=>
  rcases k with _|⟨_|⟨s,ss⟩,k⟩
  ·exact h
  ·exact WK.nils (f h)
  ·induction s using Mine.IS.casesOn with
   |asg t e p=>
    cases t with
    |to t=>
     replace h:(match(pM 12 e m).bind fun v=>aD t v m with
      |some m1=>qK n m1 (ss::k)
      |none=>RK.mk m ((.asg (.to t) e p::ss)::k)).go c Z N Rt E:=h
     induction d:(pM 12 e m).bind fun v=>aD t v m using Wo with
     |none=>rw[d] at h;exact h
     |some m1=>
      rw[d] at h;obtain⟨v,h1,g⟩:=rX d;exact WK.s (.asg hc ((B5 12).ev h1 ⟨m1,g,f h⟩))
    |_=>exact h
   |ifs t a b p=>
    replace h:(match pB (pM 12 t m) with
     |some z=>qK n m (cond z a b::ss::k)
     |none=>RK.mk m ((.ifs t a b p::ss)::k)).go c Z N Rt E:=h
    induction d:pB (pM 12 t m) using Wo with
    |none=>rw[d] at h;exact h
    |some z=>
     rw[d] at h;exact WK.s (.ifs ((B5 12).t d (f h)))
   |_=>exact h
theorem WK.run(n:Nat){a:VE}{b:List (List IS)}(h:qK n m k=.mk a b)(q:WK ⟨d,We,tb⟩ b a Z N Rt E):WK ⟨d,We,tb⟩ k m Z N Rt E:=WK.run0 rfl n (h▸q)
theorem WK.ret(h:pM 12 e m=Wb v)(q:Rt v Z):WK c ((.ret We (Wb e) p::ss)::k) m Z N Rt E:=.s (.ret ((B5 12).ev h q))
noncomputable abbrev H1(m:VE)(es:List IE):Option (List P):=H0 (pM 12) m es
theorem WE.pm{Q:P->St->Prop}(a:pM 12 o m=Wb v)(hf:Mine.methF tab Z v x=Wb f)(b:H1 m as=Wb vs)(h:WC c f (v::vs) Z Q E):WE c (.meth o x p1 as p) m Z Q E:=.methF ((B5 12).ev a ⟨f,hf,(B5 12).es b h⟩)
theorem WE.pc{Q:P->St->Prop}{a:Bool}(h0:lu x=Wd)(hc:jy x=Wc)(b:H1 m as=Wb vs)(h:WC c x vs Z Q E):WE c (.call x p1 a as p) m Z Q E:=.call h0 hc ((B5 12).es b h)
theorem WE.pu{Q:P->St->Prop}(h:pM 12 e m=Wb v)(q:Q v Z):WE c e m Z Q E:=(B5 12).ev h q
theorem WK.exprM(a:pM 12 o m=Wb v)(hf:Mine.methF tab Z v x=Wb f)(b:H1 m as=Wb vs)(h:WC c f (v::vs) Z (fun _ Z=>WK c (ss::k) m Z N Rt E) E):WK c ((.expr (.meth o x p1 as p) p2::ss)::k) m Z N Rt E:=.s (.expr (.pm a hf b h))
theorem WK.callM{b:List (List IS)}{a:VE}(h:qK 40 m k=.mk a ((.expr (.meth o x p1 as p) p2::ss)::b))(c:pM 12 o a=Wb v)(hf:Mine.methF tab Z v x=Wb f)(e:H1 a as=Wb vs)(q:WC ⟨d,We,tb⟩ f (v::vs) Z (fun _ Z=>WK ⟨d,We,tb⟩ (ss::b) a Z N Rt E) E):WK ⟨d,We,tb⟩ k m Z N Rt E:=.run 40 h (.exprM c hf e q)
theorem WC.rn{f:Nat}{fn:Fn}{a:VE}{b:List (List IS)}{Q:P->St->Prop}(hf:fnT f=Wb fn)(c:fn.g=We)(hv:(vs.any P.isExc||(vs.any P.isClo&&fn.sc.any fun e=>Wf e.2 2))=We)(i:fP fn.ps vs fn.ds=Wb m)(h:qK 40 m [fn.body]=.mk a b)(q:WK ⟨d,We,fn.tb⟩ b a Z (fun _ Z=>Q .none Z) Q E):WC ⟨d+1,We,tb⟩ f vs Z Q E:=.of hf c hv i (.of (.run 40 h q))
theorem WK.ifsM{a b:List IS}(d:pM 12 o m=Wb v)(hf:Mine.methF tab Z v x=Wb f)(e:H1 m as=Wb vs)(h:WC c f (v::vs) Z (fun v Z=>LN v (fun z Z=>WK c (cond z a b::ss::k) m Z N Rt E) Z) E):WK c ((.ifs (.meth o x p1 as p) a b p2::ss)::k) m Z N Rt E:=.s (.ifs (.of (.pm d hf e h)))
theorem WK.ifsN{a b:List IS}{d:Nat}(e:pM 12 o m=Wb v)(hf:Mine.methF tab Z v x=Wb f)(g:H1 m as=Wb vs)(h:WC c f (v::vs) Z (fun v Z=>LN v (fun z Z=>WK c (cond z b a::ss::k) m Z N Rt E) Z) E):WK c ((.ifs (.not (.meth o x p1 as p) d) a b p2::ss)::k) m Z N Rt E:=
 .s (.ifs (.of (.not (.of (W.mono (WE.pm (p1:=p1) (p:=p) e hf g h) (fun v Z h=>by
  obtain⟨z,h1,i⟩:=h;exact⟨z,h1,_,rfl,by induction z<;>exact i⟩) hE)))))
end
set_option genCtorIdx false in
inductive fV where
 |v(w:P)
 |m(w:P)(Z:St)
 |s(Z:St)
 |b
 |z(b:Bool)
 |r
 |p
noncomputable def AllP:List Prop->Prop
 | []=>True
 |p::ps=>p/\AllP ps
noncomputable def ug:List Prop->Prop->List Prop
 | [],a=>[a]
 |b::c,a=>b::ug c a
theorem AllP.sn:∀{l:List Prop}{a:Prop},AllP (ug l a)->AllP l/\a:=fun{l a} h=>by
 induction l with
 |nil=>exact⟨trivial,h.1⟩
 |cons b l c=>exact⟨⟨h.1,(c h.2).1⟩,(c h.2).2⟩
set_option genCtorIdx false in
inductive SR(α:Type) where
 |mk(v:α)(Z:St)(q:List fV)(ob:List Prop)
 |no
noncomputable def SR.bind{α β:Type}(x:SR α)(f:α->St->List fV->List Prop->SR β):SR β:=match x with
 |.mk v Z q ob=>f v Z q ob
 |.no=>.no
noncomputable def SP{α:Type}(a:α->St->List Prop->Prop):SR α->Prop
 |.mk v Z _ ob=>a v Z ob
 |.no=>True
theorem SP.bind{α β:Type}{a:α->St->List Prop->Prop}{b:β->St->List Prop->Prop}{x:SR α}{f:α->St->List fV->List Prop->SR β}(h:SP a x)(k:∀v Z q ob,a v Z ob->SP b (f v Z q ob)):SP b (x.bind f):=by
 cases x with
 |mk v Z q ob=>exact k v Z q ob h
 |no=>exact trivial
theorem SP.mono{α:Type}{a b:α->St->List Prop->Prop}{x:SR α}(h:SP a x)(k:∀v Z ob,a v Z ob->b v Z ob):SP b x:=by
 cases x with
 |mk v Z q ob=>exact k v Z ob h
 |no=>exact trivial
noncomputable def I3(q:List fV)(Z:St)(ob:List Prop)(A:P->Prop):SR P:=match q with
 |.v w::q=>.mk w Z q (ug ob (A w))
 |_=>.no
noncomputable def B6(q:List fV)(Z:St)(ob:List Prop)(A:P->St->Prop):SR P:=match q with
 |.v w::q=>.mk w Z q (ug ob (A w Z))
 |.m w a::q=>.mk w a q (ug ob (A w a))
 |_=>.no
theorem qL{a:P->St->List Prop->Prop}{q:List fV}{Z:St}{ob:List Prop}{A:P->Prop}(k:∀w,a w Z (ug ob (A w))):SP a (I3 q Z ob A):=by
 rcases q with _|⟨_|_|_|_|_|_|_,_⟩<;>first|exact k _|exact trivial
theorem vJ{a:P->St->List Prop->Prop}{q:List fV}{Z:St}{ob:List Prop}{A:P->St->Prop}(k:∀w b,a w b (ug ob (A w b))):SP a (B6 q Z ob A):=by
 rcases q with _|⟨_|_|_|_|_|_|_,_⟩<;>first|exact k _ _|exact trivial
noncomputable def Pm(b:Bool)(Z:St)(q:List fV)(ob:List Prop):SR Bool:=match q with
 |.z a::q=>.mk a Z q (ug ob (b=a))
 |q=>.mk b Z q ob
theorem FE{d:Bool->St->List Prop->Prop}{q:List fV}{Z:St}{ob:List Prop}{b:Bool}(k:∀c,(AllP c->AllP ob)->d b Z c)(k2:∀b' c,(AllP c->AllP ob/\b=b')->(b=b'->d b Z c)->d b' Z c):SP d (Pm b Z q ob):=by
 rcases q with _|⟨_|_|_|_|b'|_|_,_⟩<;>first|exact k _ id|exact k2 b' _ (fun a=>a.sn) fun e=>k _ fun a=>a.sn.1
section
variable(r:IE->VE->St->List fV->List Prop->SR P)
noncomputable def FF(m:VE):List IE->St->List fV->List Prop->SR (List P)
 | [],Z,q,ob=>.mk [] Z q ob
 |e::es,Z,q,ob=>(r e m Z q ob).bind fun v Z q ob=>(FF m es Z q ob).bind fun vs Z q ob=>.mk (v::vs) Z q ob
noncomputable def tS(e:IE)(m:VE)(Z:St)(q:List fV)(ob:List Prop):SR Bool:=(r e m Z q ob).bind fun v Z q ob=>match v with
 |.bool b=>Pm b Z q ob
 |_=>.no
noncomputable def B7(m:VE)(op:aaf):List IE->St->List fV->List Prop->SR Bool
 | [],_,_,_=>.no
 | [e],Z,q,ob=>tS r e m Z q ob
 |e::es,Z,q,ob=>(tS r e m Z q ob).bind fun b Z q ob=>match op with
  |.And=>cond b (B7 m op es Z q ob) (.mk We Z q ob)
  |.Or=>cond b (.mk Wd Z q ob) (B7 m op es Z q ob)
noncomputable def FG(e:IE)(m:VE)(Z:St)(q:List fV)(ob:List Prop):SR P:=match e with
 |.attr a x _=>(r a m Z q ob).bind fun v Z q ob=>I3 q Z ob fun w=>rS tab Z v x=Wb w
 |.sub a b _=>(r a m Z q ob).bind fun v Z q ob=>(r b m Z q ob).bind fun i Z q ob=>I3 q Z ob fun w=>oZ Z v i=Wb w
 |.cmp op a b _=>(r a m Z q ob).bind fun v Z q ob=>(r b m Z q ob).bind fun i Z q ob=>I3 q Z ob fun w=>∃z,w=.bool z/\dk op v i Z=Wb z
 |.bin op a b _=>(r a m Z q ob).bind fun v Z q ob=>(r b m Z q ob).bind fun i Z q ob=>I3 q Z ob fun w=>j5 op v i Z=Wb w
 |.not e _=>(tS r e m Z q ob).bind fun b Z q ob=>.mk (.bool (!b)) Z q ob
 |.bop op es _=>(B7 r m op es Z q ob).bind fun b Z q ob=>.mk (.bool b) Z q ob
 |.ite t a b _=>(tS r t m Z q ob).bind fun z Z q ob=>cond z (r a m Z q ob) (r b m Z q ob)
 |.tup es _ _=>(FF r m es Z q ob).bind fun vs Z q ob=>.mk (.tup vs) Z q (ug ob (vs.any P.isOdd=We))
 |.list c es _=>(FF r m es Z q ob).bind fun vs Z q ob=>cond c (.mk (.ref Z.length) (Z++[.list vs]) q (ug ob (vs.any P.isOdd=We/\aq vs.length=Wd))) (.mk (.list vs) Z q (ug ob (vs.any P.isOdd=We/\aq vs.length=Wd)))
 |.dict [] [] _=>.mk (.ref Z.length) (Z++[.dict [] 0]) q ob
 |.call x _ c as _=>cond (yX x&&!lu x&& (jy x).isNone) ((FF r m as Z q ob).bind fun vs Z q ob=>B6 q Z ob fun w d=>callB We x c vs Z=.ok w d) .no
 |.meth o x _ as _=>(r o m Z q ob).bind fun v Z q ob=>(FF r m as Z q (ug ob (methF tab Z v x=Wc/\o7 Z v x=Wd))).bind fun vs Z q ob=>B6 q Z ob fun w d=>methB v x vs Z=.ok w d
 |_=>.no
noncomputable def MU:IE->Bool
 |.bop .. =>Wd
 |.ite .. =>Wd
 |.not .. =>Wd
 |_=>We
noncomputable def I4(e:IE)(m:VE)(Z:St)(q:List fV)(ob:List Prop):SR P:=match cond (MU e) Wc (pM 12 e m) with
 |some v=>.mk v Z q ob
 |none=>FG r e m Z q ob
noncomputable def I5:IE->Bool
 |.none _=>Wd
 |.bool .. =>Wd
 |.int .. =>Wd
 |.str .. =>Wd
 |.glob .. =>Wd
 |.name .. =>Wd
 |.neg .. =>Wd
 |_=>We
noncomputable def MV(e:IE)(m:VE)(Z:St)(q:List fV)(ob:List Prop):SR P:=match q with
 |.r::q=>FG r e m Z q ob
 |.p::q=>I4 r e m Z q ob
 |q=>I4 r e m Z q ob
noncomputable def zh(e:IE)(m:VE)(Z:St)(q:List fV)(ob:List Prop):SR P:=cond (I5 e) (I4 r e m Z q ob) (MV r e m Z q ob)
end
noncomputable def uh:Nat->IE->VE->St->List fV->List Prop->SR P
 |0=>fun _ _ _ _ _=>.no
 |n+1=>zh (uh n)
noncomputable abbrev H2(e:IE)(m:VE)(Z:St)(ob:List Prop)(v:P)(a:St)(b:List Prop):Prop:=AllP b->AllP ob/\∀{d tb E}{Q:P->St->Prop},Q v a->WE ⟨d,We,tb⟩ e m Z Q E
noncomputable abbrev Rm(es:List IE)(m:VE)(Z:St)(ob:List Prop)(v:List P)(a:St)(b:List Prop):Prop:=AllP b->AllP ob/\∀{d tb E}{Q:List P->St->Prop},Q v a->WL ⟨d,We,tb⟩ es m Z Q E
noncomputable abbrev Rn(e:IE)(m:VE)(Z:St)(ob:List Prop)(v:Bool)(a:St)(b:List Prop):Prop:=AllP b->AllP ob/\∀{d tb E}{Q:Bool->St->Prop},Q v a->WT ⟨d,We,tb⟩ e m Z Q E
noncomputable abbrev Ro(op:aaf)(es:List IE)(m:VE)(Z:St)(ob:List Prop)(v:Bool)(a:St)(b:List Prop):Prop:=AllP b->AllP ob/\∀{d tb E}{Q:P->St->Prop},Q (.bool v) a->WB op ⟨d,We,tb⟩ es m Z Q E
section
variable{r:IE->VE->St->List fV->List Prop->SR P}(H:∀e m Z q ob,SP (H2 e m Z ob) (r e m Z q ob)){m:VE}
include H
theorem vK(es:List IE)(Z:St)(q:List fV)(ob:List Prop):SP (Rm es m Z ob) (FF r m es Z q ob):=by
 induction es generalizing Z q ob with
 |nil=>exact fun a=>⟨a,fun q=>.nil q⟩
 |cons e es c=>exact(H e m Z q ob).bind fun v1 Z1 d f b=>(c Z1 d f).bind fun v2 Z2 g h k2 a=>⟨(b (k2 a).1).1,fun q=>.cons ((b (k2 a).1).2 ((k2 a).2 q))⟩
theorem xg(e:IE)(Z:St)(q:List fV)(ob:List Prop):SP (Rn e m Z ob) (tS r e m Z q ob):=(H e m Z q ob).bind fun v1 Z1 f g c=>by
 induction v1 using Mine.P.casesOn with
 |bool b=>
  refine FE (fun d h a=>⟨(c (h a)).1,fun q=>.of ((c (h a)).2 ⟨_,rfl,q⟩)⟩) fun i d h k a=>?_;have e:=(h a).2;clear q h;subst e;exact k rfl a
 |_=>exact trivial
theorem FH(op:aaf)(es:List IE)(Z:St)(q:List fV)(ob:List Prop):SP (Ro op es m Z ob) (B7 r m op es Z q ob):=by
 induction es generalizing Z q ob with
 |nil=>exact trivial
 |cons e es d=>
  induction es using Wv with
  |nil=>exact show SP _ (tS r e m Z q ob) from SP.mono (xg H e Z q ob) fun v f g k a=>⟨(k a).1,fun q=>.last ((k a).2 q)⟩
  |cons j es=>
   refine show SP _ ((tS r e m Z q ob).bind _) from(xg H e Z q ob).bind fun b Z1 h i c=>?_
   induction op using Y1 with
   |And=>induction b using Wn with
    |true=>exact SP.mono (d Z1 h i) fun v f g k a=>⟨(c (k a).1).1,fun q=>.and ((c (k a).1).2 ((k a).2 q))⟩
    |false=>exact fun a=>⟨(c a).1,fun q=>.and ((c a).2 q)⟩
   |Or=>induction b using Wn with
    |false=>exact SP.mono (d Z1 h i) fun v f g k a=>⟨(c (k a).1).1,fun q=>.or ((c (k a).1).2 ((k a).2 q))⟩
    |true=>exact fun a=>⟨(c a).1,fun q=>.or ((c a).2 q)⟩
theorem zi(e:IE)(Z:St)(q:List fV)(ob:List Prop):SP (H2 e m Z ob) (FG r e m Z q ob):=by
 induction e using Mine.IE.casesOn with
 |attr x=>exact(H x m Z q ob).bind fun v1 Z1 c d b=>qL fun w a=>⟨(b a.sn.1).1,fun q=>.attr ((b a.sn.1).2 ⟨_,a.sn.2,q⟩)⟩
 |sub x y=>exact(H x m Z q ob).bind fun v1 Z1 c d b=>(H y m Z1 c d).bind fun v2 Z2 h i k2=>qL fun w a=>⟨(b (k2 a.sn.1).1).1,fun q=>.sub ((b (k2 a.sn.1).1).2 ((k2 a.sn.1).2 ⟨_,a.sn.2,q⟩))⟩
 |cmp op x y=>
  exact(H x m Z q ob).bind fun v1 Z1 c d b=>(H y m Z1 c d).bind fun v2 Z2 h i k2=>qL fun w a=>by
   obtain⟨z,n,hz⟩:=a.sn.2;exact n▸⟨(b (k2 a.sn.1).1).1,fun q=>.cmp ((b (k2 a.sn.1).1).2 ((k2 a.sn.1).2 ⟨_,hz,q⟩))⟩
 |bin op x y=>exact(H x m Z q ob).bind fun v1 Z1 c d b=>(H y m Z1 c d).bind fun v2 Z2 h i k2=>qL fun w a=>⟨(b (k2 a.sn.1).1).1,fun q=>.bin ((b (k2 a.sn.1).1).2 ((k2 a.sn.1).2 ⟨_,a.sn.2,q⟩))⟩
 |not x=>exact(xg H x Z q ob).bind fun v1 Z1 c d b a=>⟨(b a).1,fun q=>.not ((b a).2 q)⟩
 |bop op es=>exact(FH H op es Z q ob).bind fun v1 Z1 c d b a=>⟨(b a).1,fun q=>.bop ((b a).2 q)⟩
 |ite t x y=>
  exact(xg H t Z q ob).bind fun z Z1 c d b=>by
   induction z using Wn with
   |true=>exact SP.mono (H x m Z1 c d) fun v f s k a=>⟨(b (k a).1).1,fun q=>.ite ((b (k a).1).2 ((k a).2 q))⟩
   |false=>exact SP.mono (H y m Z1 c d) fun v f s k a=>⟨(b (k a).1).1,fun q=>.ite ((b (k a).1).2 ((k a).2 q))⟩
 |tup es=>exact(vK H es Z q ob).bind fun vs Z1 c d b a=>⟨(b a.sn.1).1,fun q=>.tup ((b a.sn.1).2 ⟨a.sn.2,q⟩)⟩
 |list j es=>
  exact(vK H es Z q ob).bind fun vs Z1 c d b=>by
   induction j using Wn with
   |true=>exact fun a=>⟨(b a.sn.1).1,fun q=>.listT ((b a.sn.1).2 ⟨a.sn.2.1,a.sn.2.2,q⟩)⟩
   |false=>exact fun a=>⟨(b a.sn.1).1,fun q=>.listF ((b a.sn.1).2 ⟨a.sn.2.1,a.sn.2.2,q⟩)⟩
 |dict ks vs=>
  induction ks using Wv with
  |nil=>induction vs using Wv with
   |nil=>exact fun a=>⟨a,fun q=>.dict0 q⟩
   |cons=>exact trivial
  |cons=>exact trivial
 |call x p1 j as p=>
  show SP _ (cond (yX x&&!lu x&& (jy x).isNone) ((FF r m as Z q ob).bind fun vs Z q ob=>B6 q Z ob fun w f=>callB We x j vs Z=.ok w f) .no)
  induction g:(yX x&&!lu x&& (jy x).isNone) using Wn with
  |false=>exact trivial
  |true=>
   rw[W5,W5] at g;exact(vK H as Z q ob).bind fun vs Z1 c d b=>vJ fun w f a=>⟨(b a.sn.1).1,fun q=>.callB g.1.1 ((Xy _).mp g.1.2) (Yv.mp g.2) ((b a.sn.1).2 ⟨_,_,a.sn.2,q⟩)⟩
 |meth o x p1 as p=>
  exact(H o m Z q ob).bind fun v1 Z1 c d b=>(vK H as Z1 c _).bind fun v2 Z2 h i k2=>vJ fun w f a=>by
   obtain⟨l,k2⟩:=k2 a.sn.1;obtain⟨u,b⟩:=b l.sn.1;exact⟨u,fun q=>.methB (b ⟨l.sn.2.1,l.sn.2.2,k2 ⟨_,_,a.sn.2,q⟩⟩)⟩
 |_=>exact trivial
theorem Er(e:IE)(Z:St)(q:List fV)(ob:List Prop):SP (H2 e m Z ob) (I4 r e m Z q ob):=by
 unfold I4
 induction hp:cond (MU e) Wc (pM 12 e m) using Wo with
 |none=>exact zi H e Z q ob
 |some w=>
  have hp:pM 12 e m=Wb w:=by
   induction b:MU e using Wn with
   |true=>rw[b] at hp;exact aH hp
   |false=>rw[b] at hp;exact hp
  exact fun a=>⟨a,fun q=>(B5 12).ev hp q⟩
theorem B8(e:IE)(Z:St)(q:List fV)(ob:List Prop):SP (H2 e m Z ob) (zh r e m Z q ob):=by
 unfold zh
 induction I5 e using Wn with
 |true=>exact Er H e Z q ob
 |false=>rcases q with _|⟨_|_|_|_|_|_|_,_⟩<;>first|exact Er H e Z _ ob|exact zi H e Z _ ob
end
theorem jF(n:Nat)(e:IE)(m:VE)(Z:St)(q:List fV)(ob:List Prop):SP (H2 e m Z ob) (uh n e m Z q ob):=by
 induction n generalizing e m Z q ob with
 |zero=>exact trivial
 |succ n a=>exact B8 a e Z q ob
noncomputable def FI{α:Type}(q:List fV)(a:α)(ob:List Prop)(A:St->Prop):SR α:=match q with
 |.s b::q=>.mk a b q (ug ob (A b))
 |_=>.no
theorem vM{α:Type}{b:α->St->List Prop->Prop}{q:List fV}{a:α}{ob:List Prop}{A:St->Prop}(k:∀c,b a c (ug ob (A c))):SP b (FI q a ob A):=by
 rcases q with _|⟨_|_|_|_|_|_|_,_⟩<;>first|exact k _|exact trivial
theorem WTg.attr{c:Cx}{o:IE}{x p1:Nat}{v:P}{m:VE}{Z:St}{N:VE->St->Prop}{E:EP}(h:WE c o m Z (fun w Z=>∃a,lh tab w x v m Z=.ok m a/\N m a) E):W (fun n=>ck tab (run tab n) c (.attr o x p1) v m Z) N E:=
 .bind (W.mono h (fun w Z h=>by obtain⟨a,h,q⟩:=h;exact .pure (fun _=>h) q) hE)
theorem WTg.sub{c:Cx}{o i:IE}{p1:Nat}{v:P}{m:VE}{Z:St}{N:VE->St->Prop}{E:EP}(h:WE c o m Z (fun w Z=>WE c i m Z (fun j Z=>∃a,(ofO w.r? fun n=>lM n j v m Z (ai Z n))=.ok m a/\N m a) E) E):W (fun n=>ck tab (run tab n) c (.sub o i p1) v m Z) N E:=
 .bind (W.mono h (fun w Z h=>.bind (W.mono h (fun j Z h=>by obtain⟨a,h,q⟩:=h;exact .pure (fun _=>h) q) hE)) hE)
theorem WS.asgT{c:Cx}{t:Bm}{e:IE}{p:Nat}{m:VE}{Z:St}{N:VE->St->Prop}{Rt:P->St->Prop}{E:EP}(h:WE c e m Z (fun v Z=>W (fun n=>ck tab (run tab n) c t v m Z) N E) E):WS c (.asg t e p) m Z N Rt E:=
 .bind (W.mono h (fun v Z h=>.bind (f:=fun n=>ck tab (run tab n) c t v m Z) (g:=fun _ m Z=>(R.ok (Fl.next,m) Z:R (Fl×VE))) (W.mono h (fun m1 Z1 q=>.pure (a:=(.next,m1)) (Z:=Z1) (fun _=>rfl) q) hE)) hE)
noncomputable def Pn(t:IT)(v:P)(m:VE):VE:=match t with
 |.name x _=>put x v m
 |.tup xs _ _=>match v with
  |.tup l=>aD.go xs l m
  |_=>m
noncomputable def I6(t:IT)(v:P)(m:VE)(Z:St)(q:List fV)(ob:List Prop):SR (VE×List (List IS)):=match q with
 |.b::q=>.mk (Pn t v m,[]) Z q (ug ob (aD t v m=Wb (Pn t v m)))
 |q=>match aD t v m with
  |some m1=>.mk (m1,[]) Z q ob
  |none=>.no
noncomputable def LS(s:IS)(m:VE)(Z:St)(q:List fV)(ob:List Prop):SR (VE×List (List IS)):=match s with
 |.asg (.to t) e _=>(uh 14 e m Z q ob).bind fun v Z q ob=>I6 t v m Z q ob
 |.asg (.attr o x _) e _=>(uh 14 e m Z q ob).bind fun v Z q ob=>(uh 14 o m Z q ob).bind fun w Z q ob=>FI q (m,[]) ob fun c=>lh tab w x v m Z=.ok m c
 |.asg (.sub o i _) e _=>(uh 14 e m Z q ob).bind fun v Z q ob=>(uh 14 o m Z q ob).bind fun w Z q ob=>(uh 14 i m Z q ob).bind fun j Z q ob=>FI q (m,[]) ob fun c=>(ofO w.r? fun n=>lM n j v m Z (ai Z n))=.ok m c
 |.ifs t a b _=>(tS (uh 14) t m Z q ob).bind fun z Z q ob=>.mk (m,[cond z a b]) Z q ob
 |.expr e _=>(uh 14 e m Z q ob).bind fun _ Z q ob=>.mk (m,[]) Z q ob
 |.pass _=>.mk (m,[]) Z q ob
 |_=>.no
set_option genCtorIdx false in
inductive SK where
 |mk(m:VE)(Z:St)(k:List (List IS))(ob:List Prop)
 |no
noncomputable def pg:Nat->VE->St->List (List IS)->List fV->List Prop->SK
 |0,m,Z,k,_,ob=>.mk m Z k ob
 |n+1,m,Z,k,q,ob=>match k with
  | []=>.mk m Z [] ob
  | []::k=>pg n m Z k q ob
  |(s::ss)::k=>match LS s m Z q ob with
   |.mk a Z1 b c=>pg n a.1 Z1 (a.2++ss::k) b c
   |.no=>.mk m Z ((s::ss)::k) ob
noncomputable abbrev B9(s:IS)(m:VE)(Z:St)(ob:List Prop)(a:VE×List (List IS))(b:St)(c:List Prop):Prop:=AllP c->AllP ob/\∀{d tb N Rt E}{ss:List IS}{k:List (List IS)},WK ⟨d,We,tb⟩ (a.2++ss::k) a.1 b N Rt E->WK ⟨d,We,tb⟩ ((s::ss)::k) m Z N Rt E
theorem FJ{e:IE}{t:IT}{p:Nat}{m:VE}{Z Z1:St}{d:List fV}{ob c:List Prop}{v:P}(g:H2 e m Z ob v Z1 c):SP (B9 (.asg (.to t) e p) m Z ob) (I6 t v m Z1 d c):=by
 have fin:∀m1,aD t v m=Wb m1->B9 (.asg (.to t) e p) m Z ob (m1,[]) Z1 c:=fun m1 f a=>⟨(g a).1,fun h=>.s (.asg rfl ((g a).2 ⟨m1,f,h⟩))⟩;have b:SP (B9 (.asg (.to t) e p) m Z ob) (match aD t v m with
  |some m1=>.mk (m1,[]) Z1 d c
  |none=>.no):=by
  induction f:aD t v m using Wo with
  |none=>exact trivial
  |some m1=>exact fin m1 f
 rcases d with _|⟨_|_|_|_|_|_|_,_⟩<;>first|exact b|exact fun a=>fin _ a.sn.2 a.sn.1
theorem I7(s:IS)(m:VE)(Z:St)(q:List fV)(ob:List Prop):SP (B9 s m Z ob) (LS s m Z q ob):=by
 induction s using Mine.IS.casesOn with
 |asg t e p=>
  cases t with
  |to t=>exact(jF 14 e m Z q ob).bind fun v Z1 c d b=>FJ b
  |attr o x p1=>
   exact(jF 14 e m Z q ob).bind fun v Z1 c d b=>(jF 14 o m Z1 c d).bind fun w Z2 f g k2=>vM fun k a=>⟨(b (k2 a.sn.1).1).1,fun h=>.s (WS.asgT ((b (k2 a.sn.1).1).2 (WTg.attr ((k2 a.sn.1).2 ⟨_,a.sn.2,h⟩))))⟩
  |sub o i p1=>
   exact(jF 14 e m Z q ob).bind fun v Z1 c d b=>(jF 14 o m Z1 c d).bind fun w Z2 f g k2=>(jF 14 i m Z2 f g).bind fun j Z3 u A k3=>vM fun k a=>by
    obtain⟨l,k3⟩:=k3 a.sn.1;obtain⟨n,k2⟩:=k2 l;obtain⟨r,b⟩:=b n;exact⟨r,fun h=>.s (WS.asgT (b (WTg.sub (k2 (k3 ⟨_,a.sn.2,h⟩)))))⟩
 |ifs t x y p=>exact(xg (jF 14) t Z q ob).bind fun z Z1 c d b a=>⟨(b a).1,fun h=>.s (.ifs ((b a).2 h))⟩
 |expr e p=>exact(jF 14 e m Z q ob).bind fun v Z1 c d b a=>⟨(b a).1,fun h=>.s (.expr ((b a).2 h))⟩
 |pass p=>exact fun a=>⟨a,fun h=>.s (.pass h)⟩
 |_=>exact trivial
noncomputable def SK.go(d:Nat)(tb:Option Nat)(m:VE)(Z:St)(k:List (List IS))(ob:List Prop):SK->Prop
 |.mk a b c e=>AllP e->AllP ob/\∀{N Rt E},WK ⟨d,We,tb⟩ c a b N Rt E->WK ⟨d,We,tb⟩ k m Z N Rt E
 |.no=>True
theorem FK{d:Nat}{tb:Option Nat}(n:Nat)(m:VE)(Z:St)(k:List (List IS))(q:List fV)(ob:List Prop):SK.go d tb m Z k ob (pg n m Z k q ob):=by
 induction n generalizing m Z k q ob with
 |zero=>exact fun a=>⟨a,id⟩
 |succ n f=>
  rcases k with _|⟨_|⟨s,ss⟩,k⟩
  ·exact fun a=>⟨a,id⟩
  ·have h:=f m Z k q ob;show SK.go d tb m Z ([]::k) ob (pg n m Z k q ob);generalize pg n m Z k q ob=x at h;cases x with
   |mk=>exact fun a=>⟨(h a).1,fun w=>.nils ((h a).2 w)⟩
   |no=>exact trivial
  ·have hs:=I7 s m Z q ob;show SK.go d tb m Z ((s::ss)::k) ob (match LS s m Z q ob with
    |.mk a Z1 c e=>pg n a.1 Z1 (a.2++ss::k) c e
    |.no=>.mk m Z ((s::ss)::k) ob)
   generalize LS s m Z q ob=y at hs;cases y with
   |no=>exact fun a=>⟨a,id⟩
   |mk a Z1 c e=>
    dsimp only;have h:=f a.1 Z1 (a.2++ss::k) c e;generalize pg n a.1 Z1 (a.2++ss::k) c e=x at h;cases x with
    |mk=>exact fun b=>⟨(hs (h b).1).1,fun w=>(hs (h b).1).2 ((h b).2 w)⟩
    |no=>exact trivial
theorem WK.go{d:Nat}{tb:Option Nat}{m b:VE}{Z c:St}{k e:List (List IS)}{ob:List Prop}{N:VE->St->Prop}{Rt:P->St->Prop}{E:EP}(n:Nat)(q:List fV)(h:pg n m Z k q []=.mk b c e ob)(a:AllP ob)(w:WK ⟨d,We,tb⟩ e b c N Rt E):WK ⟨d,We,tb⟩ k m Z N Rt E:=by
 have r:=FK (d:=d) (tb:=tb) n m Z k q [];rw[h] at r;exact(r a).2 w
theorem WE.go{d:Nat}{tb:Option Nat}{e:IE}{m:VE}{Z b:St}{q':List fV}{ob:List Prop}{v:P}{Q:P->St->Prop}{E:EP}(q:List fV)(h:uh 14 e m Z q []=.mk v b q' ob)(a:AllP ob)(w:Q v b):WE ⟨d,We,tb⟩ e m Z Q E:=by
 have r:=jF 14 e m Z q [];rw[h] at r;exact(r a).2 w
theorem WT.go{d:Nat}{tb:Option Nat}{e:IE}{m:VE}{Z b:St}{q':List fV}{ob:List Prop}{v:Bool}{Q:Bool->St->Prop}{E:EP}(q:List fV)(h:tS (uh 14) e m Z q []=.mk v b q' ob)(a:AllP ob)(w:Q v b):WT ⟨d,We,tb⟩ e m Z Q E:=by
 have r:=xg (m:=m) (jF 14) e Z q [];rw[h] at r;exact(r a).2 w
section
variable{d:Nat}{tb:Option Nat}{m:VE}{Z Z1 Zb:St}{N:VE->St->Prop}{Rt:P->St->Prop}{E:EP}{k:List (List IS)}{ss:List IS}{t:IT}{b:List IS}{it e:IE}{p:Nat}{v:P}{L:List P}{q':List fV}{ob:List Prop}
theorem WK.forI(q:List fV)(h:uh 14 it m Z q []=.mk v Z1 q' ob)(a:AllP ob)(I:List P->VE->St->Prop)(hv:Src Zb v L)(f:∀r m c,I r m c->Keep Zb c)(h0:I L m Z1)(g:bc m)(hs:∀r:dN,hR r ⟨d,We,tb⟩ t it b m Z=(r.ev ⟨d,We,tb⟩ it m Z).bind fun v Z=>cond (c8 Z v) (loop (turn r ⟨d,We,tb⟩ t b) v (.next,m) Z) .no)
  (step:∀x r m c,bc m->I (x::r) m c->∃m1,aD t x m=Wb m1/\WK ⟨d,We,tb⟩ [b] m1 c (fun e Z2=>bc e/\I r e Z2) (fun _ _=>False) E) (fin:∀m c,I [] m c->WK ⟨d,We,tb⟩ (ss::k) m c N Rt E):WK ⟨d,We,tb⟩ ((.for t it b p::ss)::k) m Z N Rt E:=
 .s (.for rfl g hs (WE.go q h a ⟨L,I,Zb,hv,f,h0,step,fin⟩))
theorem WK.retS(q:List fV)(h:uh 14 e m Z q []=.mk v Z1 q' ob)(a:AllP ob)(w:Rt v Z1):WK ⟨d,We,tb⟩ ((.ret We (Wb e) p::ss)::k) m Z N Rt E:=.s (.ret (WE.go q h a w))
theorem WK.retz{n:Nat}{l:List P}(q:List fV)(h:uh 14 e m Z q []=.mk (.ref n) Z1 q' ob)(a:AllP ob)(b:ai Z1 n=Wb (.list l))(w:Rt (.list l) (ak Z1 n .dead)):WK ⟨d,We,tb⟩ ((.ret Wd (Wb e) p::ss)::k) m Z N Rt E:=.s (.retz (WE.go q h a ⟨n,l,rfl,b,w⟩))
end
theorem hY:∀(l:List Nat),dA (l.map .str)=Wb l:=by
 intro b
 induction b with
 |nil=>
  exact rfl
 |cons a l c=>
  show(dA (l.map .str)).map _=_;rw[c];rfl
theorem mem_map{x:Nat}{l:List Nat}:mem x (l.map .str)=Wb (l.any fun y=>Wf y x):=by unfold mem;rw[hY];rfl
noncomputable def oU(o:Nat):Bool:=[1668184435,28549272340166002].any fun y=>Wf y o
noncomputable def ui:Option Nat->P
 |none=>.none
 |some s=>.str s
theorem jk{a:Option Nat}:(ui a).isOdd=We:=by induction a<;>rfl
noncomputable abbrev kY:=Option Nat×Nat×Int
noncomputable def eh(i:kY):P:=.tup [ui i.1,.str i.2.1,.int i.2.2]
noncomputable def tk:List Nat->List kY->List Nat
 |aU,[]=>aU
 |aU,(_,o,_)::r=>cond (!oU o&&!(aU.any fun y=>Wf y o)) (tk (aU++[o]) r) (tk aU r)
theorem bt{Z:St}{n C x:Nat}{fs:List (Nat×P)}{v:P}(h:ai Z n=Wb (.inst C fs))(a:jz C x=Wd)(hv:get x fs=Wb v):rS tab Z (.ref n) x=Wb v:=by
 show(w4 (ai Z n)).bind _=_;rw[h];show cond (jz C x) _ _=_;rw[a];exact hv
theorem dU{Z:St}{n s:Nat}{es:List (Nat×P)}{ep:Nat}{v:P}(h:ai Z n=Wb (.dict es ep))(hv:get s es=Wb v):oZ Z (.ref n) (.str s)=Wb v:=by
 show((tU (ai Z n)).bind fun es=>get s es)=Wb v;rw[h];exact hv
theorem vO{Z:St}{n s:Nat}{l:List Nat}(h:ai Z n=Wb (.list (l.map .str))):dk .In (.str s) (.ref n) Z=Wb (l.any fun y=>Wf y s):=by
 show LK s (ai Z n)=_;rw[h];exact mem_map
theorem fu{Z:St}{n s:Nat}{l:List Nat}(h:ai Z n=Wb (.list (l.map .str))):dk .NotIn (.str s) (.ref n) Z=Wb (!(l.any fun y=>Wf y s)):=by
 show(dk .In (.str s) (.ref n) Z).map not=_;rw[vO h];rfl
inductive Rp(n:Nat)(Q:P->St->Prop)(w:P)(Z:St):Prop
 |mk(l:List P)(h1:ai Z n=Wb (.list l))(a:aq l.length=Wd)(b:w.isOdd=We)(q:Q .none (ak Z n (.list (l++[w]))))
inductive ApO(c:Cx)(a:IE)(m:VE)(K:Nat->P->St->Prop)(E:EP)(v:P)(Z:St):Prop
 |mk(n:Nat)(b:List P)(hv:v=.ref n)(h0:ai Z n=Wb (.list b))(h:WE c a m Z (K n) E)
theorem ApO.of{c:Cx}{a:IE}{m:VE}{Z:St}{Q:P->St->Prop}{E:EP}{v:P}{x:Nat}{K:Nat->P->St->Prop}(h:ApO c a m K E v Z)(d:(Wf x ce||Wf x iC||Wf x cu||Wf x cK)=Wd)(k:∀n w Z,v=.ref n->K n w Z->∃u b,Mine.methB v x [w] Z=.ok u b/\Q u b):Mine.methF tab Z v x=Wc/\o7 Z v x=Wd/\WL c [a] m Z (fun vs Z=>FA (Mine.methB v x vs Z) Q) E:=by
 obtain⟨n,g,hv,h0,h⟩:=h;subst hv;refine⟨by unfold Mine.methF;dsimp only;rw[h0],by unfold o7;dsimp only;rw[h0];exact d,.cons (W.mono h (fun w Z f=>.nil ?_) hE)⟩;obtain⟨u,b,e,q⟩:=k n w Z rfl f;exact⟨u,b,e,q⟩
theorem WE.append{c:Cx}{m:VE}{Z:St}{Q:P->St->Prop}{E:EP}{o a:IE}{p1 p:Nat}(h:WE c o m Z (ApO c a m (fun n=>Rp n Q) E) E):WE c (.meth o ce p1 [a] p) m Z Q E:=
 .methB (W.mono h (fun v Z b=>b.of rfl fun n w Z hv b=>by
  clear p1 p;obtain⟨l,h1,d,e,q⟩:=b;refine⟨.none,ak Z n (.list (l++[w])),?_,q⟩;clear b q;subst hv;show gZ n [w] Z=_;unfold gZ;rw[h1];show cond (aq l.length&&!w.isOdd) _ _=_;rw[d,e];rfl) hE)
theorem b8{n:Nat}(h:n<=5000):aq n=Wd:=Wy (by exact Wj h (Wg rfl))
theorem bg{a b:Nat}(h:aq b=Wd)(l:a<=b):aq a=Wd:=Wy (Wj l (Wg h))
noncomputable abbrev LU(rp p n:Nat)(l:List (Nat×P)):VE:=(1718379891,.ref rp)::(1752457584,.str p)::(431349919590,.ref n)::l
inductive Rq(Z:St)(rp p:Nat)(e:List kY)(r:List P)(m:VE)(f:St):Prop
 |mk(d:List Nat)(is:List kY)(g:ai f Z.length=Wb (.list (d.map .str)))(h:Keep Z f)(i:r=is.map eh)(ht:tk d is=tk [] e)(j:d.length+is.length<=e.length)(k:m=LU rp p Z.length []\/∃a b c,m=LU rp p Z.length [(495555538017,a),(110386907865463,b),(1953460339,c)])
theorem pN{Z:St}{n:Nat}{l:List P}{w:P}(h:ai Z n=Wb (.list l))(a:aq l.length=Wd)(b:w.isOdd=We):methB (.ref n) ce [w] Z=.ok .none (ak Z n (.list (l++[w]))):=by
 show gZ n [w] Z=_;unfold gZ;rw[h];show cond (aq l.length&&!w.isOdd) _ _=_;rw[a,b];rfl
theorem LV{Z:St}{n:Nat}{l:List P}(h:ai Z n=Wb (.list l)){x:Nat}(a:(Wf x ce||Wf x iC||Wf x cu||Wf x cK)=Wd):methF tab Z (.ref n) x=Wc/\o7 Z (.ref n) x=Wd:=by
 unfold Mine.methF o7;dsimp only;rw[h];exact⟨rfl,a⟩
theorem Ca{d rp rf:Nat}{tb:Option Nat}{Z:St}{F:List (Nat×P)}{es:List (Nat×P)}{ep p nm:Nat}{g:List kY}{ds:P}{Q:P->St->Prop}{E:EP}
  (h1:ai Z rp=Wb (.inst bG F)) (C:get 495622842726 F=Wb (.ref rf)) (D:ai Z rf=Wb (.dict es ep)) (G:get p es=Wb (.tup [.str nm,.tup (g.map eh),ds])) (H:aq g.length=Wd)
  (q:∀l,Keep Z l->Q (.list ((tk [] g).map .str)) l):WC ⟨d+1,We,tb⟩ cZ [.ref rp,.str p] Z Q E:=by
 refine WC.of (fn:=fS) rfl rfl rfl rfl (WX.of ?_);have w:Keep Z (Z++[.list []]):=.app;refine WK.go 1 [] rfl ⟨⟨rfl,rfl⟩,trivial⟩ ?_;refine WK.forI [.v (.ref rf),.v (.tup [.str nm,.tup (g.map eh),ds]),.v (.tup (g.map eh))] rfl ⟨bt (w _ _ h1) rfl C,dU (w _ _ D) G,rfl,trivial⟩ (Rq Z rp p g) (Zb:=Z) (.tup rfl) (fun r m l h=>by cases h;assumption) ⟨[],g,bH _ _ _,w,rfl,rfl,Xo (XW _),.inl rfl⟩ rfl (fun _=>rfl) ?_ ?_
 ·rintro x r m l I ⟨e,is,f,n,t,ht,k,A⟩
  induction is using Wv with
  |nil=>cases t
  |cons i is=>
   obtain⟨a,o,s⟩:=i;injection t with J K;subst J K;rw[Xa] at k;refine⟨LU rp p Z.length [(495555538017,ui a),(110386907865463,.str o),(1953460339,.int s)],?_,?_⟩
   ·refine(cz I rfl).trans ?_;rcases A with h|⟨a,b,c,h⟩<;>subst h<;>rfl
   ·have B:bc (LU rp p Z.length [(495555538017,ui a),(110386907865463,.str o),(1953460339,.int s)]):=aE rfl (aE rfl (aE rfl (aE jk rfl)));have j:tk e ((a,o,s)::is)=cond (!oU o&&!(e.any fun y=>Wf y o)) (tk (e++[o]) is) (tk e is):=rfl
    induction hz:oU o using Wn with
    |true=>
     rw[hz] at j;refine WK.go 4 [.z We] rfl ⟨by show(!oU o)=We;rw[hz];rfl,trivial⟩ ?_;exact⟨B,e,is,f,n,rfl,j.symm.trans ht,Xj k,.inr ⟨_,_,_,rfl⟩⟩
    |false=>
     rw[hz] at j
     induction u:e.any fun y=>Wf y o using Wn with
     |true=>
      rw[u] at j;refine WK.go 4 [.z Wd,.v (.bool We)] rfl ⟨by show(!oU o)=Wd;rw[hz];rfl,⟨_,rfl,by rw[fu f,u];rfl⟩,trivial⟩ ?_;exact⟨B,e,is,f,n,rfl,j.symm.trans ht,Xj k,.inr ⟨_,_,_,rfl⟩⟩
     |false=>
      rw[u] at j;refine WK.go 5 [.z Wd,.v (.bool Wd),.m .none _] rfl ⟨by show(!oU o)=Wd;rw[hz];rfl,⟨_,rfl,by rw[fu f,u];rfl⟩,LV f rfl,pN f (bg H (by rw[Wp];exact Wj (W0 _ _) k)) rfl,trivial⟩ ?_;refine⟨B,e++[o],is,?_,n.set (eg _),rfl,j.symm.trans ht,?_,.inr ⟨_,_,_,rfl⟩⟩
      ·rw[WM];exact aF f
      ·rw[Wu];exact LH k
 ·rintro m l ⟨e,is,f,n,t,ht,k,A⟩;obtain rfl:is=[]:=Yk.mp t.symm;have ht:e=tk [] g:=ht;refine WK.s (WS.retz (WE.name (v:=.ref Z.length) ?_ ⟨_,_,rfl,f,?_⟩))
  ·rcases A with h|⟨a,b,c,h⟩<;>subst h<;>rfl
  ·rw[ht];exact q _ (n.set (eg _))
theorem uj{Z:St}{l:List P}:dk .Eq (.list l) (.list []) Z=Wb l.isEmpty:=by induction l<;>rfl
theorem uk{Z:St}{l:List P}:dk .NotEq (.list l) (.list []) Z=Wb (!l.isEmpty):=by induction l<;>rfl
theorem jU{Z:St}{n:Nat}{l:List P}(h:ai Z n=Wb (.list l)):dk .NotEq (.ref n) (.list []) Z=Wb (!l.isEmpty):=by
 show(ju 5 Z (.ref n) (.list [])).map not=_;have e:ju 5 Z (.ref n) (.list [])=rH 30 Z (.ref n) (.list []):=by
  rw[qE,show iD Z (.ref n)=Wc by show tU (ai Z n)=Wc;rw[h];rfl]
 rw[e];show adp not ((yO Z (.ref n)).bind _)=_;rw[show yO Z (.ref n)=Wb l from by show jK (ai Z n)=_;rw[h];rfl];clear h e
 induction l<;>rfl
theorem au{Z:St}{n C x f:Nat}{fs:List (Nat×P)}(h:ai Z n=Wb (.inst C fs))(a:has x fs=We)(b:vD C x=Wb f):methF tab Z (.ref n) x=Wb f:=by
 unfold methF;dsimp only;rw[h];show cond (has x fs) Wc (vD C x)=_;rw[a,b];rfl
noncomputable def gS(b:Nat->Bool):P->Option P
 |.str s=>cond (b s) (Wb (.str s)) Wc
 |_=>Wc
theorem qM(b:Nat->Bool):∀l:List Nat,(l.map .str).filterMap (gS b)=(l.filter b).map .str:=by
 intro d
 induction d with
 |nil=>
  exact rfl
 |cons a l c=>
  rw[Xs,X5,XF,show gS b (.str a)=cond (b a) (Wb (.str a)) Wc from rfl];cases e:b a
  ·dsimp only[cond];exact c
  ·dsimp only[cond];rw[c];rfl
inductive Rr(Z:St)(rp:Nat)(ks:List Nat)(im:Nat->List kY):Prop
 |mk(rf rn a:Nat)(es:List (Nat×P))(ep:Nat)(h1:ai Z rp=Wb (.inst bG [(495622842726,.ref rf),(495622906222,.ref rn),(474147938676,.ref a)]))(b:ai Z rf=Wb (.dict es ep))(c:aW es=Wd)(d:keys es=ks.map .str)(e:∀p∈ks,∃nm ds,get p es=Wb (.tup [.str nm,.tup ((im p).map eh),ds]))
structure Pk(Z:St)(rp:Nat)(ks:List Nat)(im:Nat->List kY)(B:Nat):Prop where
 ex:Rr Z rp ks im
 hB:aq B=Wd
 hks:ks.length<=B
 I8:∀p∈ks,(im p).length<=B
theorem Pk.keep{Z a:St}{rp B:Nat}{ks:List Nat}{im:Nat->List kY}(h:Pk Z rp ks im B)(k:Keep Z a):Pk a rp ks im B:=by
 obtain⟨⟨rf,rn,b,es,ep,h1,c,d,e,f⟩,g,i,j⟩:=h;exact⟨⟨rf,rn,b,es,ep,k _ _ h1,k _ _ c,d,e,f⟩,g,i,j⟩
theorem Pk.meth{Z:St}{rp B x f:Nat}{ks:List Nat}{im:Nat->List kY}(h:Pk Z rp ks im B)(d:∀a b c:P,has x [(495622842726,a),(495622906222,b),(474147938676,c)]=We)(e:vD bG x=Wb f):methF tab Z (.ref rp) x=Wb f:=by
 obtain⟨⟨rf,rn,g,es,ep,h1,_⟩,_⟩:=h;exact au h1 (d _ _ _) e
theorem FL:∀(is:List kY)(b:List Nat),(tk b is).length<=b.length+is.length:=by
 intro d
 induction d with
 |nil=>
  intro _;exact Xk _
 |cons e is c=>
  obtain⟨a,o,s⟩:=e;intro b;show(cond _ (tk (b++[o]) is) (tk b is)).length<=b.length+(is.length+1);cases !oU o&&!(b.any fun y=>Wf y o)
  ·have:=c b;exact Wj this (by exact Xp _)
  ·have:=c (b++[o]);rw[Wu] at this;exact Wj this (Xo (BJ _ _))
noncomputable def wt(im:Nat->List kY)(fl:List Nat)(p:Nat):List Nat:=(tk [] (im p)).filter fun o=>!(fl.any fun y=>Wf y o)
section
variable{d rp B p a:Nat}{tb:Option Nat}{Z:St}{ks fl:List Nat}{im:Nat->List kY}{Q:P->St->Prop}{E:EP}
theorem vP(hp:Pk Z rp ks im B)(b:p∈ks)(h:ai Z a=Wb (.list (fl.map .str)))(q:∀c,Keep Z c->Q (.list ((wt im fl p).map .str)) c):WC ⟨d+2,We,tb⟩ bT [.ref rp,.str p,.ref a] Z Q E:=by
 obtain⟨⟨rf,rn,r,es,ep,h1,i,t,u,j⟩,e,l,f⟩:=hp;obtain⟨nm,ds,m⟩:=j p b;refine WC.of (fn:=d8) rfl rfl rfl rfl (WX.of (WK.s (.ret (.comp rfl rfl rfl (.pm rfl (au h1 rfl rfl) rfl (Ca h1 rfl i m (bg e (f p b)) fun Z1 g=>?_))))));refine⟨_,gS fun o=>!(fl.any fun y=>Wf y o),.lst rfl,?_,?_,fun Z2 k2=>by rw[qM];exact q _ (g.trans k2)⟩
 ·rw[Wp];exact bg e (Wj (FL _ _) (by have:=f p b;simpa using this))
 ·intro x n c k;obtain⟨o,_,rfl⟩:=Wz.mp n;refine⟨_,rfl,WI.one (WT.go [.v (.bool _)] rfl ⟨⟨_,rfl,fu (k _ _ (g _ _ h))⟩,trivial⟩ ?_)⟩;show cond (!(fl.any fun y=>Wf y o)) _ _;cases hz:fl.any fun y=>Wf y o
  ·refine WE.name rfl ⟨.refl,rfl,?_⟩;show cond (!(fl.any fun y=>Wf y o)) _ _=_;rw[hz];rfl
  ·refine⟨.refl,?_⟩;show cond (!(fl.any fun y=>Wf y o)) _ _=_;rw[hz];rfl
theorem ul{Z:St}{n j:Nat}{k:Int}{v:P}{l:List P}(h:ai Z n=Wb (.list l))(a:tM k l.length=Wb j)(hv:ai l j=Wb v):oZ Z (.ref n) (.int k)=Wb v:=by
 show BP Z (.ref n) k=Wb v;unfold BP;rw[show c7 Z (.ref n)=Wb l by show jK (ai Z n)=_;rw[h];rfl];show(tM k l.length).bind _=_;rw[a];exact hv
noncomputable def nx(im:Nat->List kY)(fl:List Nat)(p:Nat):Nat:=(wt im fl p).headD 0
noncomputable def iV(f:Nat->Nat):Nat->Nat->Nat
 |0,x=>x
 |n+1,x=>iV f n (f x)
noncomputable abbrev MW(rp b a c:Nat)(l:List (Nat×P)):VE:=(1718379891,.ref rp)::(1952867692,.ref b)::(431349919590,.ref a)::(1701995880,.str c)::l
inductive Ru(Z:St)(rp b a:Nat)(im:Nat->List kY)(fl:List Nat)(h0:Nat)(lf:List Nat)(r:List P)(m:VE)(d:St):Prop
 |mk(c:Nat)(rs:List Nat)(e:r=rs.map .str)(f:Keep Z d)(g:c∈h0::lf)(h:iV (nx im fl) rs.length c=iV (nx im fl) (h0::lf).length h0)(i:m=MW rp b a c []\/∃x,m=MW rp b a c [(1752457584,x)])
theorem FN{b h0:Nat}{lf:List Nat}(hp:Pk Z rp ks im B)(n:ai Z a=Wb (.list (fl.map .str)))(i:ai Z b=Wb (.list ((h0::lf).map .str)))(hs:∀p∈h0::lf,p∈ks/\∃o r,wt im fl p=o::r/\o∈h0::lf)(q:∀g,Keep Z g->Q (.str (iV (nx im fl) (h0::lf).length h0)) g):WC ⟨d+3,We,tb⟩ cn [.ref rp,.ref b,.ref a] Z Q E:=by
 refine WC.of (fn:=eU) rfl rfl rfl rfl (WX.of ?_);refine WK.go 1 [.v (.str h0)] rfl ⟨ul (j:=0) i rfl rfl,trivial⟩ ?_;refine WK.forI [] rfl trivial (Ru Z rp b a im fl h0 lf) (Zb:=Z) (.ref _ rfl i) (fun r m g h=>by cases h;assumption) ⟨h0,h0::lf,rfl,.refl,WU ..,rfl,.inl rfl⟩ rfl (fun _=>rfl) ?_ ?_
 ·intro x r m g A u;clear i q;obtain⟨c,rs,k,e,l,f,w⟩:=u
  induction rs using Wv with
  |nil=>cases k
  |cons y rs=>
   injection k with D F;subst D F;obtain⟨h1,o,t,z,C⟩:=hs c l;refine⟨MW rp b a c [(1752457584,.str y)],?_,?_⟩
   ·refine(cB A rfl).trans ?_;clear hp n hs A e l f h1 z C;rcases w with h|⟨x,h⟩<;>subst h<;>rfl
   ·obtain⟨⟨rf,rn,I,es,ep,G,_⟩,_⟩:=hp.keep e;refine WK.s (.asg rfl (.sub (.pm rfl (au G rfl rfl) rfl (vP (hp.keep e) h1 (e _ _ n) fun Z1 H=>.int ⟨.str o,?_,_,rfl,?_⟩))))
    ·rw[z];rfl
    ·refine WK.nils (WK.end ⟨rfl,o,rs,rfl,e.trans H,C,?_,.inr ⟨_,rfl⟩⟩);rw[<-f];show _=iV (nx im fl) rs.length (nx im fl c);unfold nx;rw[z];rfl
 ·intro m g u;clear hp n i hs;obtain⟨c,rs,k,e,l,f,w⟩:=u;clear l;obtain rfl:rs=[]:=Yk.mp k.symm;have f:c=iV (nx im fl) (h0::lf).length h0:=f;refine WK.s (WS.ret (WE.name (v:=.str c) ?_ ?_))
  ·rcases w with h|⟨x,h⟩<;>subst h<;>rfl
  ·rw[f];exact q _ e
end
noncomputable def er(s:Nat):List Nat->List Nat
 | []=>[]
 |a::r=>cond (Wf a s) r (a::er s r)
theorem I9{s:Nat}:∀{l:List Nat},s∈l->Bp s l=Wb (er s l):=by
 intro b
 induction b with
 |nil=>
  intro h;exact absurd h WA
 |cons a r c=>
  intro h;show cond (Wf a s) (Wb r) ((Bp s r).map (a:: ·))=Wb (cond (Wf a s) r (a::er s r));cases e:Wf a s
  ·have:s∈r:=by
    rcases Ww.mp h with h|h
    ·subst h;rw[Wx] at e;exact gB e
    ·exact h
   rw[c this];rfl
  ·rfl
theorem qN{s:Nat}:∀{l:List Nat},s∈l->(er s l).length+1=l.length:=by
 intro b
 induction b with
 |nil=>
  intro h;exact absurd h WA
 |cons a r c=>
  intro h;show(cond (Wf a s) r (a::er s r)).length+1=r.length+1;cases e:Wf a s
  ·have:s∈r:=by
    rcases Ww.mp h with h|h
    ·subst h;rw[Wx] at e;exact gB e
    ·exact h
   exact congrArg (· +1) (c this)
  ·rfl
noncomputable def rdy(im:Nat->List kY)(fl:List Nat)(p:Nat):Bool:=(wt im fl p).isEmpty
inductive Kh(im:Nat->List kY)(a:List Nat):List Nat->List Nat->Prop
 |start:Kh im a [] a
 |step{fl lf:List Nat}{r:Nat}{t:List Nat}:Kh im a fl lf->lf.filter (rdy im fl)=r::t->Kh im a (fl++[r]) (er r lf)
theorem Kh.len{im:Nat->List kY}{a fl lf:List Nat}(h:Kh im a fl lf):fl.length+lf.length=a.length:=by
 induction h with
 |start=>exact XW _
 | @step fl lf r t h e b=>
  have:r∈lf:=(W1.mp (e▸WU .. :r∈lf.filter (rdy im fl))).1;have:=qN this;rw[Wu];exact(BJ _ _).trans ((congrArg (fl.length+ ·) this).trans b)
theorem Kh.sub{im:Nat->List kY}{c fl lf:List Nat}(h:Kh im c fl lf):∀p,p∈fl\/p∈lf↔p∈c:=by
 induction h with
 |start=>intro p;simp
 | @step fl lf r t h e b=>
  intro p;rw[<-b p];have h1:∀l:List Nat,r∈l->(p=r\/p∈er r l↔p∈l):=by
   intro l
   induction l with
   |nil=>intro h;exact absurd h WA
   |cons a l b=>
    intro d;show p=r\/p∈cond (Wf a r) l (a::er r l)↔_;cases e:Wf a r
    ·have:r∈l:=by
      rcases Ww.mp d with h|h
      ·subst h;rw[Wx] at e;exact gB e
      ·exact h
     have:=b this;dsimp only[cond];rw[Ww,Ww,<-this];constructor
     ·rintro(h|h|h)
      ·exact .inr (.inl h)
      ·exact .inl h
      ·exact .inr (.inr h)
     ·rintro(h|h|h)
      ·exact .inr (.inl h)
      ·exact .inl h
      ·exact .inr (.inr h)
    ·have:=b9 e;clear d e h;exact this.symm▸Ww.symm
  rw[<-h1 lf ((W1.mp (e▸WU .. :r∈lf.filter (rdy im fl))).1),WV,WQ];constructor
  ·rintro((h|h) |h)
   ·exact .inl h
   ·exact .inr (.inl h)
   ·exact .inr (.inr h)
  ·rintro(h|h|h)
   ·exact .inl (.inl h)
   ·exact .inl (.inr h)
   ·exact .inr h
noncomputable abbrev pre:Nat:=16027803254464394447697008938104373753826846870727836216656085389770369908391780104233328
noncomputable abbrev bq:Nat:=1852399981
noncomputable def cI(ks:List Nat):List Nat:=cg (ks.filter fun p=>!Wf p bq)++ks.filter fun p=>Wf p bq
theorem Cb{Z:St}{p:Nat}:dk .NotEq (.str p) (.str bq) Z=Wb (!Wf p bq):=rfl
theorem Cc{Z:St}{p:Nat}:dk .Eq (.str p) (.str bq) Z=Wb (Wf p bq):=rfl
inductive Rv(n:Nat)(Q:P->St->Prop)(w:P)(Z:St):Prop
 |mk(l t:List P)(a:w=.list t)(h1:ai Z n=Wb (.list l))(b:aq (l.length+t.length)=Wd)(q:Q .none (ak Z n (.list (l++t))))
inductive Rw(n:Nat)(Q:P->St->Prop)(w:P)(Z:St):Prop
 |mk(l:List Nat)(s:Nat)(a:w=.str s)(h1:ai Z n=Wb (.list (l.map .str)))(b:aq l.length=Wd)(c:s∈l)(q:Q .none (ak Z n (.list ((er s l).map .str))))
theorem WE.extend{c:Cx}{m:VE}{Z:St}{Q:P->St->Prop}{E:EP}{o a:IE}{p1 p:Nat}(h:WE c o m Z (ApO c a m (fun n=>Rv n Q) E) E):WE c (.meth o cu p1 [a] p) m Z Q E:=
 .methB (W.mono h (fun v Z b=>b.of rfl fun n w Z hv b=>by
  clear p1 p;obtain⟨l,t,d,h1,e,q⟩:=b;refine⟨.none,ak Z n (.list (l++t)),?_,q⟩;clear b q;subst hv d;show hH n [.list t] Z=_;unfold hH;rw[h1];show cond (aq (l.length+t.length)) _ _=_;rw[e];rfl) hE)
theorem WE.remove{c:Cx}{m:VE}{Z:St}{Q:P->St->Prop}{E:EP}{o a:IE}{p1 p:Nat}(h:WE c o m Z (ApO c a m (fun n=>Rw n Q) E) E):WE c (.meth o cK p1 [a] p) m Z Q E:=
 .methB (W.mono h (fun v Z b=>b.of rfl fun n w Z hv b=>by
  clear p1 p;obtain⟨l,s,d,h1,e,f,q⟩:=b;refine⟨.none,ak Z n (.list ((er s l).map .str)),?_,q⟩;clear b q;subst hv d;show j6 n [.str s] Z=_;unfold j6;rw[h1];show ofO (dA (l.map .str)) _=_;rw[hY];show cond (aq (l.map P.str).length) (ofO (Bp s l) _) _=_;rw[Wp,e,I9 f];rfl) hE)
theorem r3{hd a:Bool}{Z:St}{l:List Nat}(b:hd=We)(h:WR l.length 64=Wd):callB hd fh a [.list (l.map .str)] Z=gY a ((cg l).map .str) Z:=by
 subst b;show ofO (dA (l.map .str)) _=_;rw[hY];show cond (WR l.length 64) _ _=_;rw[h];rfl
theorem iW:∀l:List Nat,(cg l).length=l.length:=by
 intro a
 induction a with
 |nil=>
  exact rfl
 |cons x r b=>
  have h:∀l:List Nat,(fG x l).length=l.length+1:=by
   intro l
   induction l with
   |nil=>rfl
   |cons y l c=>
    show(cond (fF x y) (x::y::l) (y::fG x l)).length=_;cases fF x y
    ·exact congrArg (· +1) c
    ·rfl
  show(fG x (cg r)).length=_;rw[h,b];rfl
section
variable{d rp B:Nat}{tb:Option Nat}{Z:St}{ks:List Nat}{im:Nat->List kY}{Q:P->St->Prop}{E:EP}
theorem vQ{op:abr}{c:Cx}{m:VE}{f:Nat->Bool}{p1 p2 w y z A C i:Nat}{sc:List (Nat×Nat)}(hc:c.hd=We)(j:bc m)(hs:get 1718379891 m=Wb (.ref rp))(hf:eS (.name 1752457584 p2) (az sc m)=Wd)(l:bc (az sc m))(d:∀b p,dk op (.str p) (.str bq) b=Wb (f p))(hp:Pk Z rp ks im B)
  (q:∀b,Keep Z b->Q (.list ((ks.filter f).map .str)) b):WE c (.comp (.name 1752457584 p1) [.mk (.name 1752457584 p2) (.attr (.name 1718379891 w) 495622842726 y) [.cmp op (.name 1752457584 z) (.glob 1313423693 A) C]] sc i) m Z Q E:=by
 have K:=hp;obtain⟨⟨rf,rn,D,es,ep,h1,n,r,g,F⟩,h,a,G⟩:=hp;refine WE.comp hc j hf ?_;refine WE.attr (WE.name hs ?_);refine⟨_,bt h1 rfl rfl,?_⟩;have s:es.length=ks.length:=by
  have:=congrArg Y0 g
  rwa [keys,Wp,Wp] at this
 refine⟨ks.map .str,gS f,.dct ⟨rf,es,ep,rfl,n,r,bg h (s▸a),g.symm⟩,bg h (by rw[Wp];exact a),?_,?_⟩
 ·intro x t b k;clear i hc j hs hf h1 n r g F h a G s k;obtain⟨o,_,H⟩:=Wz.mp t;clear rf rn D es ep t;subst H;have u:get 1752457584 (put 1752457584 (P.str o) (az sc m))=Wb (.str o):=by
   generalize az sc m=v;clear l d b
   induction v with
   |nil=>rfl
   |cons e v I=>
    show get _ (cond (Wf e.1 1752457584) _ _)=_;cases J:Wf e.1 1752457584
    ·show cond (Wf e.1 1752457584) _ _=_;rw[J];exact I
    ·rfl
  refine⟨_,cB l rfl,?_⟩;refine WI.one (WT.of (WE.cmp (WE.name u (WE.glob rfl ⟨_,d _ _,_,rfl,?_⟩))));clear d;cases hz:f o
  ·refine⟨.refl,?_⟩;show cond (f o) _ _=_;rw[hz];rfl
  ·refine WE.name u ⟨.refl,rfl,?_⟩;show cond (f o) _ _=_;rw[hz];rfl
 ·intro Z2 k;rw[qM];exact q _ k
end
theorem WH.ind{c:Cx}{e:IE}{b:List IS}{N:VE->St->Prop}{Rt:P->St->Prop}{E:EP}(I:Nat->VE->St->Prop)(step:∀n m Z,I n m Z->WT c e m Z (fun z Z1=>cond z (WX c b m Z1 (fun m Z=>∃n',n'<n/\I n' m Z) Rt E) (N m Z1)) E):∀n m Z,I n m Z->WH c e b m Z N Rt E:=by
 intro n
 induction n using aeg with
 |_ n d=>
  intro m Z h;refine WH.of (W.mono (step n m Z h) (fun z Z1 q=>?_) hE)
  induction z using Wn with
  |false=>exact q
  |true=>exact W.mono (α:=Fl×VE) q (fun a Z2 q=>by
    obtain⟨fl,f⟩:=a
    induction fl using Mine.Fl.casesOn with
    |next=>
     obtain⟨n',h1,g⟩:=q;exact d n' h1 f Z2 g
    |ret v=>exact q) hE
theorem vR{l:List P}{Z:St}(h:aq l.length=Wd):gY Wd l Z=.ok (.ref Z.length) (Z++[.list l]):=by unfold gY;rw[h];rfl
theorem eZ{l:List Nat}:(l.map P.str).isEmpty=l.isEmpty:=by induction l<;>rfl
section
variable{d rp B a b:Nat}{tb:Option Nat}{Z:St}{ks fl lf:List Nat}{im:Nat->List kY}{Q:P->St->Prop}{E:EP}
theorem Cd{c:Cx}{m:VE}{p1 p2 f F G H I g h i j:Nat}{sc:List (Nat×Nat)}(hc:c=⟨d+3,We,tb⟩)(l:bc m)(hs:∀v,get 1718379891 (put 1752457584 v (az sc m))=Wb (.ref rp))(n:∀v,get 431349919590 (put 1752457584 v (az sc m))=Wb (.ref a))(r:∀v,get 1752457584 (put 1752457584 v (az sc m))=Wb v)(s:get 1952867692 m=Wb (.ref b))(hf:eS (.name 1752457584 p2) (az sc m)=Wd)(t:bc (az sc m))(hp:Pk Z rp ks im B)(u:ai Z a=Wb (.list (fl.map .str)))(w:ai Z b=Wb (.list (lf.map .str)))(y:∀p∈lf,p∈ks)(z:aq lf.length=Wd)
  (q:∀e,Keep Z e->Q (.list ((lf.filter (rdy im fl)).map .str)) e):WE c (.comp (.name 1752457584 p1) [.mk (.name 1752457584 p2) (.name 1952867692 f) [.cmp .Eq (.meth (.name 1718379891 F) 2110956032738202313079 G [.name 1752457584 H,.name 431349919590 I] g) (.list We [] h) i]] sc j) m Z Q E:=by
 subst hc;refine WE.comp rfl l hf (WE.name s ?_);refine⟨lf.map .str,gS (rdy im fl),.ref b rfl w,by rw[Wp];exact z,?_,?_⟩
 ·intro x A e k;clear f j l s hf w z;obtain⟨o,C,J⟩:=Wz.mp A;clear A;subst J;refine⟨_,cB t rfl,?_⟩;refine WI.one (WT.of (WE.cmp (WE.methF (WE.name (hs _) ⟨_,(hp.keep k).meth (fun _ _ _=>rfl) rfl,WL.cons (WE.name (r _) (WL.cons (WE.name (n _) (WL.nil ?_))))⟩))));refine vP (hp.keep k) (y o C) (k _ _ u) fun Z1 D=>?_;refine WE.listF (WL.nil ⟨rfl,rfl,_,uj,_,rfl,?_⟩);rw[eZ];clear g h i hs n t hp u y k C;cases hz:(wt im fl o).isEmpty
  ·refine⟨D,?_⟩;show cond (wt im fl o).isEmpty _ _=_;rw[hz];rfl
  ·refine WE.name (r _) ⟨D,rfl,?_⟩;show cond (wt im fl o).isEmpty _ _=_;rw[hz];rfl
 ·intro Z2 k;rw[qM];exact q _ k
theorem pP{p:Nat}(h:p∈cI ks):p∈ks:=by
 have hs:∀l:List Nat,p∈cg l->p∈l:=by
  intro l
  induction l with
  |nil=>exact id
  |cons x l a=>
   have b:∀l:List Nat,p∈fG x l->p=x\/p∈l:=by
    intro l
    induction l with
    |nil=>intro h;exact .inl (WQ.mp h)
    |cons y l a=>
     intro h;have h:p∈cond (fF x y) (x::y::l) (y::fG x l):=h;cases hz:fF x y<;>rw[hz] at h
     ·rcases Ww.mp h with h|h
      ·exact .inr (Ww.mpr (.inl h))
      ·rcases a h with h|h
       ·exact .inl h
       ·exact .inr (Ww.mpr (.inr h))
     ·exact Ww.mp h
   intro h;rcases b _ h with h|h
   ·exact Ww.mpr (.inl h)
   ·exact Ww.mpr (.inr (a h))
 rcases WV.mp h with h|h
 ·exact(W1.mp (hs _ h)).1
 ·exact(W1.mp h).1
theorem xi:(cI ks).length=ks.length:=by
 unfold cI;rw[Wu,iW];have:∀l:List Nat,(l.filter fun p=>!Wf p bq).length+(l.filter fun p=>Wf p bq).length=l.length:=by
  intro l
  induction l with
  |nil=>rfl
  |cons x l a=>
   rw[XF,XF];cases Wf x bq
   ·simp only[aeu,Xa];simp;exact(BJ _ _).trans (congrArg acF a)
   ·simp only[aaH,Xa];simp;exact congrArg acF a
 exact this ks
noncomputable def Jb:List IS:=lR (B1 gH 2)
noncomputable abbrev LX(rp a b:Nat)(t:VE):VE:=(1718379891,.ref rp)::(431349919590,.ref a)::(1952867692,.ref b)::t
noncomputable abbrev LY(l:List P):VE:=[(521375147378,.list l)]
noncomputable abbrev Jc:List (Nat×Nat):=[(12334,0),(1752457584,0),(431349919590,3),(1718379891,3)]
structure Pt(rp a b:Nat)(m:VE):Prop where
 o:bc m
 gf:eS (.name 1752457584 264030034) (az Jc m)=Wd
 gd:bc (az Jc m)
 gs:∀v,get 1718379891 (put 1752457584 v (az Jc m))=Wb (.ref rp)
 ga:∀v,get 431349919590 (put 1752457584 v (az Jc m))=Wb (.ref a)
 gp:∀v,get 1752457584 (put 1752457584 v (az Jc m))=Wb v
 gb:∀l,aD (.name 521375147378 264012017) (.list l) m=Wb (LX rp a b (LY l))
theorem FP{rp a b:Nat}{t:VE}(h:t=[]\/∃l,t=LY l):Pt rp a b (LX rp a b t):=by
 rcases h with h|⟨l,h⟩<;>subst h<;>exact⟨rfl,rfl,rfl,fun _=>rfl,fun _=>rfl,fun _=>rfl,fun _=>rfl⟩
inductive Rx(rp i j:Nat)(Z:St)(b:List Nat)(im:Nat->List kY)(n:Nat)(m:VE)(a:St):Prop
 |mk(fl lf:List Nat)(t:VE)(c:lf.length=n)(d:Kh im b fl lf)(e:ai a i=Wb (.list (fl.map .str)))(f:ai a j=Wb (.list (lf.map .str)))(g:Keep Z a)(ht:t=[]\/∃l,t=LY l)(h:m=LX rp i j t)
theorem vT{n B:Nat}(h:n<=B)(a:B<=60):aq n=Wd:=b8 (Wj h (Wj a (Wg rfl)))
theorem FQ{lf:List Nat}(hs:∀p∈lf,∃o r,wt im fl p=o::r/\o∈lf)(n:Nat):∀x,x∈lf->iV (nx im fl) n x∈lf:=by
 induction n with
 |zero=>exact fun x h=>h
 |succ n a=>exact fun x h=>a _ (by
   obtain⟨o,r,e,b⟩:=hs x h;unfold nx;rw[e];exact b)
theorem Jd{N:VE->St->Prop}{Rt:P->St->Prop}{m:VE}{h0:Nat}{f:St}(hp:Pk f rp ks im B)(j:B<=60)(c:Pt rp a b m)(A:a≠b)(u:get 1952867692 m=Wb (.ref b))(k:ai f a=Wb (.list (fl.map .str)))(n:ai f b=Wb (.list ((h0::lf).map .str)))(e:∀p∈h0::lf,p∈ks)(C:fl.length<=B)(v:(h0::lf).length<=B)
  (hs:(h0::lf).filter (rdy im fl)=[]->∀p∈h0::lf,∃o r,wt im fl p=o::r/\o∈h0::lf) (D:∀p∈ks,aq (len pre+len p)=Wd)
  (hE:∀h,(h0::lf).filter (rdy im fl)=[]->Keep f h->E br (tR pre (iV (nx im fl) (h0::lf).length h0)) (.int 0) h)
  (q:∀r t g l,(h0::lf).filter (rdy im fl)=r::t->r∈h0::lf->Keep f g->N (LX rp a b (LY l)) (ak (ak g a (.list ((fl++[r]).map .str))) b (.list ((er r (h0::lf)).map .str)))):WX ⟨d+3,We,tb⟩ Jb m f N Rt E:=by
 refine WX.cons (WS.asg rfl (Cd rfl c.o c.gs c.ga c.gp u c.gf c.gd hp k n e (vT v j) fun g k4=>⟨_,c.gb _,?_⟩));refine WX.cons (WS.ifs (WT.of (WE.cmp (WE.name rfl (WE.listF (WL.nil ⟨rfl,rfl,_,uj,_,rfl,?_⟩))))));rw[eZ];have s:=k4 _ _ k;have w:=k4 _ _ n;have x:=hp.keep k4;clear c u k n hp;cases i:(h0::lf).filter (rdy im fl) with
 |nil=>
  have hs:=hs i;refine WX.cons (WS.raise1 rfl rfl rfl rfl (WL.cons (WE.bin (WE.str (WE.methF (WE.name rfl ⟨_,x.meth (fun _ _ _=>rfl) rfl,WL.cons (WE.name rfl (WL.cons (WE.name rfl (WL.nil (FN x s w (fun p hp=>⟨e p hp,hs p hp⟩) fun h F=>?_)))))⟩))))));refine⟨.str _,?_,WL.nil ⟨_,rfl,hE h i (k4.trans F)⟩⟩;show cond (aq (len pre+len _)) _ _=_;rw[D _ (e _ (FQ hs _ _ (WU ..)))];rfl
 |cons r t=>
  have y:r∈h0::lf:=(W1.mp (i▸WU .. :r∈(h0::lf).filter (rdy im fl))).1;refine WX.nil (WX.cons (WS.expr (WE.append (WE.name rfl ⟨_,_,rfl,s,WE.sub (WE.name rfl (WE.int ⟨.str r,rfl,_,s,by rw[Wp];exact vT C j,rfl,?_⟩))⟩))));rw[show fl.map P.str++[.str r]=(fl++[r]).map .str by rw[WM];rfl];have z:ai (ak g a (O.list ((fl++[r]).map P.str))) b=Wb (.list ((h0::lf).map .str)):=by rw[aB A];exact w
  exact WX.cons (WS.expr (WE.remove (WE.name rfl ⟨_,_,rfl,z,WE.sub (WE.name rfl (WE.int ⟨.str r,rfl,h0::lf,r,rfl,z,vT v j,y,WX.nil (q r t g _ i y k4)⟩))⟩)))
theorem Ce(hp:Pk Z rp ks im B)(f:B<=60)(D:∀fl lf,Kh im (cI ks) fl lf->lf.filter (rdy im fl)=[]->∀p∈lf,∃o r,wt im fl p=o::r/\o∈lf)(F:∀p∈ks,aq (len pre+len p)=Wd)
  (G:∀c fl,Keep Z c->Kh im (cI ks) fl []->Q (.list (fl.map .str)) c)
  (hE:∀c fl h0 lf,Keep Z c->Kh im (cI ks) fl (h0::lf)->(h0::lf).filter (rdy im fl)=[]->E br (tR pre (iV (nx im fl) (h0::lf).length h0)) (.int 0) c):WC ⟨d+4,We,tb⟩ c0 [.ref rp] Z Q E:=by
 have a:=hp.hks;have g:=XI (fun p=>!Wf p bq) ks;refine WC.of (fn:=fU) rfl rfl rfl rfl ?_;refine WX.cons (WS.asg rfl (WE.tup (WL.cons (WE.listT (WL.nil ⟨rfl,rfl,WL.cons (WE.callB rfl rfl rfl (WL.cons ?_))⟩)))));refine vQ rfl rfl rfl rfl rfl (fun _ _=>Cb) (hp.keep .app) fun Z1 q=>WL.nil ⟨_,_,(r3 rfl (Wy (W9 (Wj g (Wj a (Wj f (Wg rfl))))))).trans (vR (by rw[Wp,iW];exact vT (Wj g a) f)),WL.nil ⟨rfl,_,rfl,?_⟩⟩;have i:Keep Z Z1:=Keep.trans .app q;have s:ai Z1 Z.length=Wb (.list []):=q _ _ (bH _ _ _);refine WX.cons (WS.expr (WE.extend (WE.name rfl ⟨Z1.length,_,rfl,bH _ _ _,?_⟩)));refine vQ rfl rfl rfl rfl rfl (fun _ _=>Cc) (hp.keep (i.trans .app)) fun Z3 k3=>?_;refine⟨_,_,rfl,k3 _ _ (bH _ _ _),?_,?_⟩
 ·rw[Wp,Wp,iW];have:=XI (fun p=>Wf p bq) ks;exact b8 (Wj (Y2 (Wj g (Wj a f)) (Wj this (Wj a f))) (Wg rfl))
 rw[<-WM];have y:Z.length<Z1.length:=y9 s;have j:Z.length≠Z1.length:=XA y;have nb:ai Z Z1.length=Wc:=i.fresh;have z:ai (ak Z3 Z1.length (O.list ((cI ks).map P.str))) Z.length=Wb (.list []):=by
  rw[aB (Ne.symm j)];exact k3 _ _ (uf s)
 have A:=aF (b:=O.list ((cI ks).map P.str)) (k3 _ _ (bH _ _ _));have C:=((i.trans .app).trans k3).set (o:=O.list ((cI ks).map P.str)) nb;clear i q k3 s y g;refine WX.cons (WS.while (WH.ind (Rx rp Z.length Z1.length Z (cI ks) im) (fun n m c H=>?_) _ _ _ ⟨[],cI ks,[],rfl,.start,z,A,C,.inl rfl,rfl⟩));clear z A C;obtain⟨fl,lf,t,I,e,u,v,k,ht,J⟩:=H;subst J;refine WT.of (WE.cmp (WE.name rfl (WE.listF (WL.nil ⟨rfl,rfl,_,jU v,_,rfl,?_⟩))))
 induction lf using Wv with
 |nil=>exact WX.cons (WS.retz (WE.name rfl ⟨_,_,rfl,u,G _ _ (k.set (eg _)) e⟩))
 |cons h0 lf=>
  have w:=e.len;rw[xi] at w;refine Jd (hp.keep k) f (FP ht) j rfl u v (fun p h=>pP ((e.sub p).mp (.inr h))) (Wj (W0 _ _) (w▸a)) (Wj (Yy _ _) (w▸a)) (D fl _ e) F (fun K x L=>hE K fl h0 lf (k.trans L) e x) fun r t N l x M k4=>?_;refine⟨(er r (h0::lf)).length,Xo ((qN M).trans I),fl++[r],er r (h0::lf),_,rfl,.step e x,?_,aF (by rw[aB j];exact k4 _ _ v),((k.trans k4).set (eg _)).set nb,.inr ⟨_,rfl⟩,rfl⟩;rw[aB (Ne.symm j)];exact aF (k4 _ _ u)
end
inductive Ry(Q:P->St->Prop)(v:P)(Z:St):Prop
 |mk(n:Nat)(l:List P)(a:P)(hv:v=.ref n)(h0:ai Z n=Wb (.list (l++[a])))(h1:aq (l.length+1)=Wd)(q:Q a (ak Z n (.list l)))
theorem WE.pop{c:Cx}{m:VE}{Z:St}{Q:P->St->Prop}{E:EP}{o:IE}{p1 p:Nat}(h:WE c o m Z (Ry Q) E):WE c (.meth o iC p1 [] p) m Z Q E:=
 .methB (W.mono h (fun v Z b=>by
  obtain⟨n,l,a,hv,h0,h1,q⟩:=b;subst hv;refine⟨?_,?_,.nil ⟨a,ak Z n (.list l),?_,q⟩⟩
  ·unfold Mine.methF;dsimp only;rw[h0]
  ·unfold o7;dsimp only;rw[h0];rfl
  ·show tY n [] Z=_;unfold tY;rw[h0];show ofO (l++[a]).getLast? (fun d=>cond (aq (l++[a]).length) (R.ok d (ak Z n (.list (l++[a]).dropLast))) R.no)=_;rw[acG];show cond (aq (l++[a]).length) (R.ok a (ak Z n (.list (l++[a]).dropLast))) .no=_;rw[aaL,Wu,show l.length+[a].length=l.length+1 from rfl,h1];rfl) hE)
inductive gN(N:Nat->List Nat)(p:Nat):Nat->Prop
 |one{x:Nat}:x∈N p->gN N p x
 |step{x y:Nat}:gN N p x->y∈N x->gN N p y
noncomputable def ws(N:Nat->List Nat)(fd:List Nat):List Nat->Nat
 | []=>0
 |k::ks=>cond (fd.any fun y=>Wf y k) 0 (N k).length+ws N fd ks
theorem vU{fd:List Nat}{x k:Nat}:((fd++[x]).any fun y=>Wf y k)=((fd.any fun y=>Wf y k) ||Wf x k):=by rw[aeh];simp
theorem Et{N:Nat->List Nat}{fd:List Nat}{x:Nat}:∀ks:List Nat,ws N (fd++[x]) ks<=ws N fd ks
 | []=>Xk _
 |k::ks=>by
  have:=Et (N:=N) (fd:=fd) (x:=x) ks;show cond ((fd++[x]).any fun y=>Wf y k) 0 (N k).length+ws N (fd++[x]) ks<=cond (fd.any fun y=>Wf y k) 0 (N k).length+ws N fd ks;rw[vU];cases fd.any fun y=>Wf y k
  ·cases Wf x k
   ·exact W2 this _
   ·exact Y2 (Xz _) this
  ·exact W2 this _
theorem Eu{N:Nat->List Nat}{fd:List Nat}{x:Nat}(a:(fd.any fun y=>Wf y x)=We):∀ks:List Nat,x∈ks->ws N (fd++[x]) ks+(N x).length<=ws N fd ks
 | [],h=>by cases h
 |k::ks,h=>by
  have h1:=Et (N:=N) (fd:=fd) (x:=x) ks;show cond ((fd++[x]).any fun y=>Wf y k) 0 (N k).length+ws N (fd++[x]) ks+(N x).length<=cond (fd.any fun y=>Wf y k) 0 (N k).length+ws N fd ks;rw[vU];rcases Ww.mp h with h|h
  ·subst h;rw[a,Wx];show 0+_+_<=_;rw[XW,aa0];exact W2 h1 _
  ·have:=Eu (N:=N) a ks h;rw[YE];cases fd.any fun y=>Wf y k
   ·cases Wf x k
    ·exact W2 this _
    ·exact Y2 (Xz _) this
   ·exact W2 this _
theorem fW{x:Nat}{l:List Nat}:(l.any fun y=>Wf y x)=Wd↔x∈l:=by
 rw[YK];constructor
 ·rintro⟨y,h1,a⟩;rw[<-b9 a];exact h1
 ·exact fun h=>⟨x,h,Wx x⟩
theorem dV{x:Nat}{l:List Nat}:(l.any fun y=>Wf y x)=We↔¬x∈l:=by
 rw[<-fW];cases(l.any fun y=>Wf y x)<;>simp
theorem FR{hd:Bool}{Z:St}{l:List P}(h:aq l.length=Wd):callB hd dz Wd [.list l] Z=.ok (.ref Z.length) (Z++[.list l]):=by
 unfold callB;dsimp only;unfold jL;rw[show Wf dz fg=We from rfl,show Wf dz dz=Wd from rfl];exact vR h
theorem FT{Z:St}{n:Nat}{l:List P}{a:P}(h0:ai Z n=Wb (.list (l++[a])))(h1:aq (l.length+1)=Wd):methB (.ref n) iC [] Z=.ok a (ak Z n (.list l)):=by
 show tY n [] Z=_;unfold tY;rw[h0];show ofO (l++[a]).getLast? (fun b=>cond (aq (l++[a]).length) (R.ok b (ak Z n (.list (l++[a]).dropLast))) R.no)=_;rw[acG];show cond (aq (l++[a]).length) (R.ok a (ak Z n (.list (l++[a]).dropLast))) .no=_;rw[aaL,Wu,show l.length+[a].length=l.length+1 from rfl,h1];rfl
theorem xj{Z:St}{n:Nat}{l t:List P}(h1:ai Z n=Wb (.list l))(a:aq (l.length+t.length)=Wd):methB (.ref n) cu [.list t] Z=.ok .none (ak Z n (.list (l++t))):=by
 show hH n [.list t] Z=_;unfold hH;rw[h1];show cond (aq (l.length+t.length)) _ _=_;rw[a];rfl
structure LdP(N:Nat->List Nat)(p:Nat)(ks fd lf:List Nat):Prop where
 h1:∀x,x∈fd\/x∈lf->gN N p x/\x∈ks
 h2:∀x∈N p,x∈fd\/x∈lf
 h3:∀x∈fd,∀y∈N x,y∈fd\/y∈lf
section
variable{N:Nat->List Nat}{p x:Nat}{ks fd lf:List Nat}
theorem Pz{y:Nat}(h:y∈fd\/y∈lf++[x])(t:List Nat):y∈fd++[x]\/y∈lf++t:=by
 rcases h with h|h
 ·exact .inl (WV.mpr (.inl h))
 ·rcases WV.mp h with h|h
  ·exact .inr (WV.mpr (.inl h))
  ·exact .inl (WV.mpr (.inr h))
theorem LdP.new(h:LdP N p ks fd (lf++[x]))(b:∀q∈ks,∀o∈N q,o∈ks):LdP N p ks (fd++[x]) (lf++N x):=by
 have a:=h.h1 x (.inr (WV.mpr (.inr (WQ.mpr rfl))));refine⟨fun y hy=>?_,fun y hy=>Pz (h.h2 y hy) _,fun y hy z hz=>?_⟩
 ·rcases hy with hy|hy
  ·rcases WV.mp hy with hy|hy
   ·exact h.h1 y (.inl hy)
   ·rw[WQ.mp hy];exact a
  ·rcases WV.mp hy with hy|hy
   ·exact h.h1 y (.inr (WV.mpr (.inl hy)))
   ·exact⟨.step a.1 hy,b x a.2 y hy⟩
 ·rcases WV.mp hy with hy|hy
  ·exact Pz (h.h3 y hy z hz) _
  ·rw[WQ.mp hy] at hz;exact .inr (WV.mpr (.inr hz))
theorem PA{y:Nat}(a:x∈fd)(h:y∈fd\/y∈lf++[x]):y∈fd\/y∈lf:=by
 rcases h with h|h
 ·exact .inl h
 ·rcases WV.mp h with h|h
  ·exact .inr h
  ·rw[WQ.mp h];exact .inl a
theorem LdP.old(h:LdP N p ks fd (lf++[x]))(b:x∈fd):LdP N p ks fd lf:=⟨fun y a=>h.h1 y (a.imp id fun a=>WV.mpr (.inl a)),fun y a=>PA b (h.h2 y a),fun y a z hz=>PA b (h.h3 y a z hz)⟩
theorem LdP.all(h:LdP N p ks fd [])(x:Nat):x∈fd↔gN N p x:=⟨fun q=>(h.h1 x (.inl q)).1,fun q=>by
 induction q with
 |one q=>exact(h.h2 _ q).resolve_right (WA)
 |step _ q a=>exact(h.h3 _ a _ q).resolve_right (WA)⟩
end
noncomputable abbrev MZ(rn p n b:Nat)(t:VE):VE:=(495605605742,.ref rn)::(1752457584,.str p)::(431349919590,.ref n)::(1952867692,.ref b)::t
section
variable{d rn p ep:Nat}{tb:Option Nat}{Z:St}{ks:List Nat}{es:List (Nat×P)}{N:Nat->List Nat}{Q:P->St->Prop}{E:EP}
inductive Rz(N:Nat->List Nat)(Z:St)(rn p:Nat)(ks:List Nat)(b:Nat)(n:Nat)(m:VE)(a:St):Prop
 |mk(fd lf:List Nat)(t:VE)(c:lf.length+ws N fd ks=n)(d:fd.length+n<=10000)(e:LdP N p ks fd lf)(f:ai a Z.length=Wb (.list (fd.map .str)))(g:ai a b=Wb (.list (lf.map .str)))(i:Keep Z a)(ht:t=[]\/∃h,t=[(1701995880,.str h)])(j:m=MZ rn p Z.length b t)
theorem Je(F:ai Z rn=Wb (.dict es ep))(G:∀q∈ks,get q es=Wb (.list ((N q).map .str)))(H:∀q∈ks,∀o∈N q,o∈ks)(hp:p∈ks)(w:(N p).length+ws N [] ks<=10000)(q:∀(g:St)(fd:List Nat),Keep Z g->(∀x,x∈fd↔gN N p x)->fd.length<=10000->Q (.list (fd.map .str)) g):WC ⟨d+1,We,tb⟩ ll [.ref rn,.str p] Z Q E:=by
 have k:∀n,n<=10000->aq n=Wd:=fun n h=>Wy h;refine WC.of (fn:=m6) rfl rfl rfl rfl (WX.of ?_);have I:Keep Z (Z++[.list []]):=.app;have J:(Z++[O.list []]).length=Z.length+1:=by simp
 refine WK.go 1 [.r,.v (.list ((N p).map .str)),.m (.ref (Z++[O.list []]).length) ((Z++[.list []])++[.list ((N p).map .str)])] rfl ⟨⟨rfl,rfl⟩,dU (I _ _ F) (G p hp),FR (by rw[Wp];exact k _ (by exact WZ w)),rfl,trivial⟩ ?_;generalize K:(Z++[O.list []]).length=b at*;have z:b≠Z.length:=fun e=>XZ _ (J.symm.trans e);have L:ai Z b=Wc:=K▸(Keep.fresh .app);refine WK.s (.while (WH.ind (Rz N Z rn p ks b) ?_ _ _ _ ⟨[],N p,[],rfl,by simp;exact w,⟨?_,fun x h=>.inr h,fun x h=>absurd h WA⟩,uf (bH _ _ _),by rw[<-K];exact bH _ _ _,Keep.trans .app .app,.inl rfl,rfl⟩))
 ·intro n m g W;clear hp w I J;obtain⟨fd,lf,t,A,i,u,M,c,P,ht,X⟩:=W;subst X;rcases acn lf with h|⟨a,x,h⟩
  ·subst h;refine WT.go [.v (.bool We)] rfl ⟨⟨_,rfl,jU c⟩,trivial⟩ ?_;exact WK.retz [] rfl trivial M (q _ fd (P.set (eg _)) u.all (by exact WZ i))
  ·rw[aco] at h;clear q;subst h;have R:=u.h1 x (.inr (by simp));rw[Wu] at A;have j:a.length+ws N fd ks<n:=Xo ((BJ _ _).symm.trans A);have S:n<=10000:=XT i;have Y:bc (MZ rn p Z.length b t):=by rcases ht with h|⟨l,h⟩<;>subst h<;>rfl
   have M0:put 1701995880 (.str x) t=[(1701995880,.str x)]:=by rcases ht with h|⟨l,h⟩<;>subst h<;>rfl
   refine WT.go [.v (.bool Wd)] rfl ⟨⟨_,rfl,(jU c).trans (by rw[eZ];induction a<;>rfl)⟩,trivial⟩ (WX.of ?_);rw[WM] at c;refine WK.go 1 [.m (.str x) (ak g b (.list (a.map .str))),.b] rfl ⟨LV c rfl,FT c (k _ (by rw[Wp];exact Wj (W0 _ _) (Wj (Xo A) S))),cB Y rfl,trivial⟩ ?_;show WK _ _ (MZ rn p Z.length b (put 1701995880 (.str x) t)) _ _ _ _;rw[M0];generalize B:ak g b (O.list (a.map .str))=Z2;have f:ai Z2 Z.length=Wb (.list (fd.map .str)):=by rw[<-B,aB z];exact M
   have T:ai Z2 b=Wb (.list (a.map .str)):=B▸(aF c);have U:Keep Z Z2:=B▸(P.set L)
   induction hz:fd.any fun y=>Wf y x using Wn with
   |false=>
    have d9:=Eu (N:=N) hz ks R.2;have C:a.length+(N x).length+ws N (fd++[x]) ks<=a.length+ws N fd ks:=by rw[YE,aa0 (N x).length];exact W2 d9 _
    have D:ai (ak Z2 Z.length (.list (fd.map .str++[.str x]))) b=Wb (.list (a.map .str)):=by rw[aB (Ne.symm z)];exact T
    have V:=U.set (o:=.list (fd.map .str++[.str x])) (eg Z);refine WK.go 5 [.v (.bool Wd),.m .none (ak Z2 Z.length (.list (fd.map .str++[.str x]))),.v (.list ((N x).map .str)),.m .none _] rfl ⟨⟨_,rfl,(fu f).trans (by rw[hz];rfl)⟩,LV f rfl,pN f (by rw[Wp];exact k _ (by exact Wj (W0 _ _) i)) rfl,LV D rfl,dU (V _ _ F) (G x R.2),xj D (by rw[Wp,Wp];exact k _ (Wj (W0 _ _) (Wj C (Wj (Xj j) S)))),trivial⟩ ?_;refine WK.end ⟨(a++N x).length+ws N (fd++[x]) ks,?_,fd++[x],a++N x,_,rfl,?_,u.new H,?_,?_,V.set L,.inr ⟨_,rfl⟩,rfl⟩
    ·rw[Wu];exact Xi C j
    ·rw[Wu,Wu];exact LH (Wj (W2 (Xi C j) _) i)
    ·rw[aB z,WM];exact aF f
    ·rw[WM];exact aF D
   |true=>
    refine WK.go 3 [.v (.bool We)] rfl ⟨⟨_,rfl,(fu f).trans (by rw[hz];rfl)⟩,trivial⟩ ?_;exact WK.end ⟨a.length+ws N fd ks,j,fd,a,_,rfl,Wj (W2 (Xj j) _) i,u.old (fW.mp hz),f,T,U,.inr ⟨_,rfl⟩,rfl⟩
 ·rintro x (h|h)
  ·exact absurd h WA
  ·exact⟨.one h,H p hp x h⟩
end
noncomputable def rows(own:List (List Nat)):List P:=own.map fun row=>.list (row.map .str)
noncomputable def jA(own:List (List Nat))(x:Nat):Bool:=own.any fun row=>row.any fun y=>Wf y x
noncomputable abbrev Jf(r:Nat):O:=.inst cV [(8320793298381005160,.glob cX),(8315165955120652656,.tup []),(7239535,.ref (r+1)),(431349919590,.ref (r+2)),(110425377629538,.ref (r+3)),(431130765409,.ref (r+4)),(7815265378425466724,.ref (r+5))]
inductive PG(Z:St)(k n:Nat):Prop
 |mk(es:List (Nat×P))(ep:Nat)(h:ai Z k=Wb (.dict es ep))(l:es.length<=n)
structure FS(Z0 Z:St)(own:List (List Nat))(ah:List (Nat×P))(n:Nat):Prop where
 k:Keep Z0 Z
 hi:ai Z Z0.length=Wb (Jf Z0.length)
 ho:ai Z (Z0.length+1)=Wb (.list (rows own))
 hf:PG Z (Z0.length+2) n
 hb:PG Z (Z0.length+3) n
 ha:∃ep,ai Z (Z0.length+4)=Wb (.dict ah ep)
 hl:ah.length<=n
 hr:∀row∈own,row.length<=n
 hw:own.length<=n
inductive RB(Z0:St)(own:List (List Nat))(ah:List (Nat×P))(n:Nat)(v:P)(a:St):Prop
 |mk(e:v=.none)(h:FS Z0 a own ah n)
theorem WC.fs{c:Cx}{f:Nat}{vs:List P}{Z:St}{Q:P->St->Prop}{E:EP}(Z0:St)(own:List (List Nat))(ah:List (Nat×P))(n:Nat)(h:WC c f vs Z (RB Z0 own ah n) E)(k:∀a,FS Z0 a own ah n->Q .none a):WC c f vs Z Q E:=
 W.mono h (fun v a b=>by
  obtain⟨e,h⟩:=b;exact e▸k a h) hE
theorem pQ{α:Type}{l:List α}{n:Nat}(h:l.length<=n):ai l n=Wc:=(aK l n).trans (aaB h)
section
variable{Z0 Z:St}{own:List (List Nat)}{ah:List (Nat×P)}{n d:Nat}{tb:Option Nat}{Q:P->St->Prop}{E:EP}{nm:Nat}
theorem FS.keep{a:St}(h:FS Z0 Z own ah n)(k:Keep Z a):FS Z0 a own ah n:=by
 obtain⟨b,c,d,⟨es,ep,hf,e⟩,⟨f,g,i,j⟩,⟨l,m⟩,o,p,q⟩:=h;exact⟨b.trans k,k _ _ c,k _ _ d,⟨es,ep,k _ _ hf,e⟩,⟨f,g,k _ _ i,j⟩,⟨l,k _ _ m⟩,o,p,q⟩
theorem FS.setO{a:List (List Nat)}{n':Nat}(h:FS Z0 Z own ah n)(b:n<=n')(h1:∀row∈a,row.length<=n')(c:a.length<=n'):FS Z0 (ak Z (Z0.length+1) (.list (rows a))) a ah n':=by
 obtain⟨d,o,e,⟨es,ep,hf,f⟩,⟨g,i,p,k⟩,⟨l,q⟩,m,r,s⟩:=h;refine⟨d.set (pQ (by exact Xp _)),?_,aF e,⟨es,ep,?_,by exact Wj f b⟩,⟨g,i,?_,by exact Wj k b⟩,⟨l,?_⟩,by exact Wj m b,h1,c⟩<;>rw[aB (by first|exact BK rfl|exact BK (j:=0) rfl)]<;>assumption
theorem FS.setF{es:List (Nat×P)}{ep n':Nat}(h:FS Z0 Z own ah n)(a:n<=n')(h1:es.length<=n'):FS Z0 (ak Z (Z0.length+2) (.dict es ep)) own ah n':=by
 obtain⟨b,l,m,⟨_,_,hf,o⟩,⟨c,d,p,e⟩,⟨f,q⟩,g,i,k⟩:=h;refine⟨b.set (pQ (by exact W0 _ _)),?_,?_,⟨es,ep,aF hf,h1⟩,⟨c,d,?_,by exact Wj e a⟩,⟨f,?_⟩,by exact Wj g a,fun r h=>Wj (i r h) a,by exact Wj k a⟩<;>rw[aB (by first|exact BK rfl|exact BK (j:=0) rfl)]<;>assumption
theorem FS.setB{es:List (Nat×P)}{ep n':Nat}(h:FS Z0 Z own ah n)(a:n<=n')(h1:es.length<=n'):FS Z0 (ak Z (Z0.length+3) (.dict es ep)) own ah n':=by
 obtain⟨b,m,o,⟨c,d,hf,e⟩,⟨_,_,f,p⟩,⟨g,q⟩,i,k,l⟩:=h;refine⟨b.set (pQ (by exact W0 _ _)),?_,?_,⟨c,d,?_,by exact Wj e a⟩,⟨es,ep,aF f,h1⟩,⟨g,?_⟩,by exact Wj i a,fun r h=>Wj (k r h) a,by exact Wj l a⟩<;>rw[aB (by first|exact BK rfl|exact BK (j:=0) rfl)]<;>assumption
theorem FS.setA{es:List (Nat×P)}{ep n':Nat}(h:FS Z0 Z own ah n)(a:n<=n')(h1:es.length<=n'):FS Z0 (ak Z (Z0.length+4) (.dict es ep)) own es n':=by
 obtain⟨b,o,p,⟨c,d,hf,e⟩,⟨f,g,q,i⟩,⟨s,k⟩,t,l,m⟩:=h;refine⟨b.set (pQ (by exact W0 _ _)),?_,?_,⟨c,d,?_,by exact Wj e a⟩,⟨f,g,?_,by exact Wj i a⟩,⟨ep,aF k⟩,h1,fun r h=>Wj (l r h) a,by exact Wj m a⟩<;>rw[aB (by first|exact BK rfl|exact BK (j:=0) rfl)]<;>assumption
theorem r6:∀l:List Bool,fO (l.map .bool)=Wb l:=by
 intro a
 induction a with
 |nil=>
  exact rfl
 |cons b l c=>
  show(fO (l.map .bool)).map _=_;rw[c];rfl
theorem Jg{Z:St}{l:List Bool}(h:aq l.length=Wd):callB We rO We [.list (l.map .bool)] Z=.ok (.bool (l.any id)) Z:=by
 show ofO (fO (l.map .bool)) _=_;rw[r6];show cond (!aq (l.map P.bool).length) R.no _=_;rw[Wp,h];rfl
noncomputable def tG(nm:Nat):P->Option P
 |.list l=>(mem nm l).map .bool
 |_=>Wc
theorem zk(h:FS Z0 Z own ah n)(a:n<=5000)(q:∀b,FS Z0 b own ah n->Q (.bool (jA own nm)) b):WC ⟨d+1,We,tb⟩ bO [.ref Z0.length,.str nm] Z Q E:=by
 refine WC.of (fn:=d6) rfl rfl rfl rfl ?_;refine WX.cons (WS.ret (WE.callB rfl rfl rfl (WL.cons (WE.comp rfl rfl rfl (WE.attr (WE.name rfl ⟨_,bt h.hi rfl rfl,?_⟩))))));have c:∀own:List (List Nat),(rows own).filterMap (tG nm)=(own.map fun row=>row.any fun y=>Wf y nm).map .bool:=by
  intro own;clear h a q
  induction own with
  |nil=>rfl
  |cons row own f=>
   show List.filterMap (tG nm) (.list (row.map .str)::rows own)=_;rw[X5,show tG nm (.list (row.map .str))=Wb (.bool (row.any fun y=>Wf y nm)) from by
    show(mem nm (row.map .str)).map _=_;rw[mem_map];rfl]
   dsimp only;rw[f];rfl
 refine⟨rows own,tG nm,.ref _ rfl h.ho,b8 (by unfold rows;rw[Wp];have:=h.hw;exact Wj this a),?_,?_⟩
 ·intro x e b k;clear h a q c k;obtain⟨row,_,g⟩:=Wz.mp e;clear e;subst g;refine⟨_,rfl,WI.nil (WE.cmp (WE.name rfl (WE.name rfl ⟨_,mem_map,.refl,rfl,?_⟩)))⟩;show(mem nm (row.map .str)).map _=_;rw[mem_map];rfl
 ·intro Z2 k;rw[c];refine WL.nil ⟨_,_,Jg ?_,?_⟩
  ·rw[Wp];have:=h.hw;exact b8 (by exact Wj this a)
  rw[show((own.map fun row=>row.any fun y=>Wf y nm).any id)=jA own nm from by rw[adB];rfl];exact q _ (h.keep k)
theorem vW(h:FS Z0 Z own ah n)(a:n<=4000)(ht:jA own nm=We)(q:∀b,FS Z0 b own (put nm (.bool Wd) ah) (n+1)->Q .none b):WC ⟨d+2,We,tb⟩ bF [.ref Z0.length,.str nm] Z Q E:=by
 refine WC.of (fn:=dq) rfl rfl rfl rfl ?_;refine WX.cons (WS.ifs (WT.of (WE.not (WT.of (WE.methF (WE.name rfl ⟨_,au h.hi rfl rfl,WL.cons (WE.name rfl (WL.nil (zk h (by exact Wj a (Wg rfl)) fun Z1 h1=>?_)))⟩))))));refine⟨_,rfl,_,rfl,?_⟩;rw[ht];obtain⟨ep,c⟩:=h1.ha;refine WX.cons (WS.asgD (WE.bool (WE.attr (WE.name rfl ⟨_,bt h1.hi rfl rfl,WE.name rfl ⟨_,_,_,_,rfl,rfl,c,rfl,b8 (by have:=h1.hl;exact Wj this (Wj a (Wg rfl))),?_⟩⟩))));exact WX.nil (WX.nil (q _ (h1.setA (by exact Xp _) (Wj ji (W9 h1.hl)))))
theorem FU(h:FS Z0 Z own ah n)(a:n<=4000)(ht:jA own nm=We)(q:∀b,FS Z0 b own ah (n+1)->Q .none b):WC ⟨d+2,We,tb⟩ bP [.ref Z0.length,.str nm] Z Q E:=by
 refine WC.of (fn:=fk) rfl rfl rfl rfl ?_;refine WX.cons (WS.ifs (WT.of (WE.methF (WE.name rfl ⟨_,au h.hi rfl rfl,WL.cons (WE.name rfl (WL.nil (zk h (by exact Wj a (Wg rfl)) fun Z1 h1=>?_)))⟩))));refine⟨_,rfl,?_⟩;rw[ht];obtain⟨es,ep,hf,c⟩:=h1.hf;refine WX.nil (WX.cons (WS.ifs (WT.of (WE.name rfl ⟨_,rfl,?_⟩))));refine WX.cons (WS.asgD (WE.bool (WE.attr (WE.name rfl ⟨_,bt h1.hi rfl rfl,WE.name rfl ⟨_,_,_,_,rfl,rfl,hf,rfl,b8 (by exact Wj c (Wj a (Wg rfl))),?_⟩⟩))));exact WX.nil (WX.nil (q _ (h1.setF (by exact Xp _) (by have:=ji (x:=nm) (v:=.bool Wd) (l:=es);exact Wj this (W9 c)))))
theorem qO{α:Type}:∀(l:List α)(a:α),ai (l++[a]) l.length=Wb a:=fun l a=>bH l a []
theorem zl{α:Type}:∀(l:List α)(a b:α),ak (l++[a]) l.length b=l++[b]:=by
 intro c
 induction c with
 |nil=>
  intro _ _;exact rfl
 |cons x l d=>
  intro a b;show x::ak (l++[a]) l.length b=_;rw[d a b];rfl
theorem nk{n:Nat}(h:n<=5000):tM (-1:Int) (n+1)=Wb n:=by
 show cond (WR 0 (n+1) &&WR 0 4611686018427387904) (Wb (n+1 - (0+1))) Wc=_;rw[show WR 0 (n+1)=Wd from Wy (by exact XU _)];rfl
theorem Ci{hd:Bool}{Z:St}{l:List P}{v:P}(hv:v=.tup l\/v=.list l)(h:aq l.length=Wd):callB hd dz We [v] Z=.ok (.list l) Z:=by
 have hs:c7 Z v=Wb l:=by rcases hv with h|h<;>subst h<;>rfl
 unfold callB;dsimp only;unfold jL;rw[show Wf dz fg=We from rfl,show Wf dz dz=Wd from rfl];show ofO (c7 Z v) _=_;rw[hs];show gY We l Z=_;unfold gY;rw[h];rfl
theorem um{row ns:List Nat}{v:P}(h:FS Z0 Z (own++[row]) ah n)(b:n+ns.length<=4000)(hv:v=.tup (ns.map .str)\/v=.list (ns.map .str))(q:∀e,FS Z0 e (own++[row++ns]) ah (n+ns.length)->Q .none e):WC ⟨d+1,We,tb⟩ cD [.ref Z0.length,v] Z Q E:=by
 have a:=h.hw;rw[Wu] at a;simp only[Xa,aaS] at a;have i:rows (own++[row])=rows own++[.list (row.map .str)]:=by unfold rows;rw[WM];rfl
 have c:=h.ho;rw[i] at c;have j:(rows own).length=own.length:=by unfold rows;rw[Wp]
 have f:tM (-1:Int) (rows own++[P.list (row.map .str)]).length=Wb (rows own).length:=by rw[Wu];exact nk (Wj (Xo j) (Wj (Xj a) (qC (WZ b) rfl)))
 have fin:aq (row.map P.str++ns.map P.str).length=Wd:=by
  have:=h.hr row (by simp);rw[Wu,Wp,Wp];exact b8 (qC (Wj (XP this _) b) rfl)
 have g:v.isExc=We/\v.isClo=We:=by rcases hv with h|h<;>subst h<;>exact⟨rfl,rfl⟩
 refine WC.of (fn:=fo) rfl rfl (by show(We||(v.isExc||false) ||((We||(v.isClo||false)) &&_))=We;rw[g.1,g.2];rfl) (m:=[(1718379891,.ref Z0.length),(495622906222,v)]) rfl ?_;refine WX.cons (WS.asgL ?_);refine WE.bin (WE.sub (WE.attr (WE.name rfl ⟨_,bt h.hi rfl rfl,WE.neg ⟨_,ul c f (qO _ _),WE.callB rfl rfl rfl (WL.cons (WE.name rfl (WL.nil ⟨_,_,Ci hv (by rw[Wp];exact b8 (qC (XT b) rfl)),.list (row.map .str++ns.map .str),?_,?_⟩)))⟩⟩)))
 ·show cond (aq ((row.map P.str).length+(ns.map P.str).length)) _ _=_;rw[<-Wu,fin];rfl
 refine WE.attr (WE.name rfl ⟨_,bt h.hi rfl rfl,WE.neg ⟨_,_,_,_,rfl,rfl,c,rfl,f,?_⟩⟩);rw[zl,show rows own++[P.list (row.map P.str++ns.map P.str)]=rows (own++[row++ns]) from by unfold rows;rw[WM,<-WM];rfl];refine WX.nil (q _ (h.setO (by exact W0 _ _) ?_ ?_))
 ·intro r hr;rcases WV.mp hr with hr|hr
  ·exact Wj (h.hr r (WV.mpr (.inl hr))) (by exact W0 _ _)
  ·rw[WQ.mp hr,Wu];have:=h.hr row (by simp);exact XP this _
 ·rw[Wu];simp;exact aap a
end
theorem PJ{b:Bool}{A B:Prop}(h:b=We)(a:B):cond b A B:=by subst h;exact a
noncomputable def WF(c:Cx)(t:IT)(b:List IS)(L:List P)(m:VE)(Z:St)(N:VE->St->Prop)(E:EP):Prop:=W (fun n=>loopL (turn (run tab n) c t b) L (.next,m) Z) (fun a Z=>∃m,a=(.next,m)/\bc m/\N m Z) E
section
variable{c:Cx}{t:IT}{b:List IS}{m:VE}{Z:St}{N:VE->St->Prop}{Rt:P->St->Prop}{E:EP}{it:IE}{p:Nat}
theorem WF.nil(d:bc m)(q:N m Z):WF c t b [] m Z N E:=.pure (a:=(.next,m)) (Z:=Z) (fun _=>rfl) ⟨m,rfl,d,q⟩
theorem WF.cons{x:P}{r:List P}{m1:VE}(e:aD t x m=Wb m1)(h:WX c b m1 Z (fun d Z2=>bc d/\WF c t b r d Z2 N E) (fun _ _=>False) E):WF c t b (x::r) m Z N E:=by
 refine W.bind (f:=fun n=>turn (run tab n) c t b x (.next,m) Z) (g:=fun n a Z=>loopL (turn (run tab n) c t b) r a Z) (W.mono (zb e h) ?_ (hE));intro a j q;obtain⟨k,i,_,q⟩:=q;subst i;exact q
theorem WS.forU(hc:c.hd=We)(i:bc m)(hs:∀r:dN,hR r c t it b m Z=(r.ev c it m Z).bind fun v Z=>cond (c8 Z v) (loop (turn r c t b) v (.next,m) Z) .no)
  (h:WE c it m Z (fun v Z1=>∃L,(v=.tup L\/v=.list L)/\WF c t b L m Z1 N E) E):WS c (.for t it b p) m Z N Rt E:=by
 refine W.congr (.bind (f:=fun n=>(run tab n).ev c it m Z) (g:=fun n v Z=>cond (c8 Z v) (loop (turn (run tab n) c t b) v (.next,m) Z) .no) (W.mono h (fun v Z1 ⟨L,h1,d⟩=>?_) hE)) fun n=>?_
 ·have d:W (fun n=>loopL (turn (run tab n) c t b) L (.next,m) Z1) (LO N Rt) E:=by
   refine W.mono d ?_ hE;intro a Z q;obtain⟨m,j,_,q⟩:=q;subst j;exact q
  rcases h1 with h1|h1
  ·subst h1;exact d
  ·subst h1;exact d
 ·show cond (c.hd||m.any fun e=>e.2.isOdd) _ _=_;rw[hc,i,hs];rfl
end
section
variable{d:Nat}{tb:Option Nat}{c:Cx}{m:VE}{Z:St}{N:VE->St->Prop}{Rt:P->St->Prop}{E:EP}{k:List (List IS)}{ss:List IS}{t:IT}{b:List IS}{it:IE}{p:Nat}{v:P}{L:List P}
theorem WK.for(hc:c.hd=We)(a:bc m)(hs:∀r:dN,hR r c t it b m Z=(r.ev c it m Z).bind fun v Z=>cond (c8 Z v) (loop (turn r c t b) v (.next,m) Z) .no)
  (h:pM 12 it m=Wb v) (hv:v=.tup L\/v=.list L) (q:WF c t b L m Z (fun m Z=>WK c (ss::k) m Z N Rt E) E):WK c ((.for t it b p::ss)::k) m Z N Rt E:=.s (.forU hc a hs ((B5 12).ev h ⟨L,hv,q⟩))
end
noncomputable abbrev vN(nm:Nat):P:=.tup [.str 1701667182,.int 0,.str nm]
noncomputable abbrev vL(nm:Nat):P:=.tup [.str 1701667182,.int 0,.str nm,.str 88]
noncomputable abbrev vS(nm:Nat):P:=.tup [.str 127970252186995,.int 0,vN nm,.str 88]
section
variable{Z0 Z:St}{own:List (List Nat)}{ah:List (Nat×P)}{n d:Nat}{tb:Option Nat}{Q:P->St->Prop}{E:EP}{nm:Nat}
theorem Cj(h:FS Z0 Z own ah n)(b:n<=4000)(ht:jA own nm=We)(q:∀a,FS Z0 a own ah (n+1)->Q .none a):WC ⟨d+3,We,tb⟩ a5 [.ref Z0.length,vN nm] Z Q E:=by
 refine WC.rn (fn:=aA) rfl rfl rfl rfl rfl ?_;refine WK.exprM rfl (au h.hi rfl rfl) rfl ?_;refine FU h b ht fun Z1 h1=>?_;refine WK.run 40 rfl ?_;exact q _ h1
theorem vX(h:FS Z0 Z own ah n)(b:n<=4000)(ht:jA own nm=We)(q:∀a,FS Z0 a own (put nm (.bool Wd) ah) (n+1)->Q .none a):WC ⟨d+3,We,tb⟩ a5 [.ref Z0.length,vL nm] Z Q E:=by
 refine WC.rn (fn:=aA) rfl rfl rfl rfl rfl ?_;refine WK.exprM rfl (au h.hi rfl rfl) rfl (vW h b ht fun Z1 h1=>WK.run 40 rfl ?_);exact q _ h1
theorem FV(h:FS Z0 Z own ah n)(q:Q (.bool We) Z):WC ⟨d+1,We,tb⟩ bE [.ref Z0.length,vN nm] Z Q E:=by
 refine WC.of (fn:=dp) rfl rfl rfl rfl (WX.of (WK.s (.ret (.bop (.and (.of (.pu rfl ⟨_,rfl,.and (.of (.cmp (.pu rfl (.attr (.pu rfl ⟨_,bt h.hi rfl rfl,_,rfl,_,rfl,?_⟩)))))⟩)))))));exact q
theorem vY(h:FS Z0 Z own ah n)(a:n<=3000)(ht:jA own nm=We)(q:∀b,FS Z0 b own (put nm (.bool Wd) ah) (n+3)->Q .none b):WC ⟨d+4,We,tb⟩ a5 [.ref Z0.length,vS nm] Z Q E:=by
 refine WC.rn (fn:=aA) rfl rfl rfl rfl rfl ?_;refine WK.exprM rfl (au h.hi rfl rfl) rfl (vW h (by exact Wj a (Wg rfl)) ht fun Z1 h1=>WK.run 40 rfl ?_);refine WK.ifsN rfl (au h1.hi rfl rfl) rfl (FV h1 ⟨_,rfl,?_⟩);obtain⟨es,ep,f,c⟩:=h1.hb;refine WK.s (.asgD (.pu rfl (.attr (.pu rfl ⟨_,bt h1.hi rfl rfl,.pu rfl ⟨_,_,_,_,rfl,rfl,f,rfl,b8 (Wj c (qC (W9 a) rfl)),WK.run 40 rfl ?_⟩⟩))));have e:=h1.setB (es:=put 88 (.bool Wd) es) (ep:=c6 ep 88 es) (n':=n+2) (by exact Xp _) (by have:=ji (x:=88) (v:=.bool Wd) (l:=es);exact Wj this (W9 c));refine WK.exprM rfl (au e.hi rfl rfl) rfl (Cj e (qC (XP a 2) rfl) ht fun Z3 g=>WK.run 40 rfl ?_);exact q _ g
noncomputable abbrev yB(nm:Nat):P:=.tup [.str 7496054,.int 61,.tup [.str 95],.none,.tup [vS nm]]
noncomputable abbrev H5(nm:Nat):P:=.tup [.str 7496054,.int 61,.tup [.str 95],.tup [.str 435459550323,.int 0,vL nm],.tup []]
theorem Ck{row:List Nat}(h:FS Z0 Z [row] ah n)(a:n<=3000)(ht:jA [row] nm=We)(q:∀b,FS Z0 b [row++[95]] (put nm (.bool Wd) ah) (n+4)->Q .none b):WC ⟨d+7,We,tb⟩ a5 [.ref Z0.length,yB nm] Z Q E:=by
 refine WC.rn (fn:=aA) rfl rfl rfl rfl rfl ?_;refine WK.exprM rfl (au h.hi rfl rfl) rfl ?_;refine WC.rn (fn:=bk) rfl rfl rfl rfl rfl ?_;refine WK.exprM rfl (au h.hi rfl rfl) rfl ?_;refine WC.rn (fn:=a7) rfl rfl rfl rfl rfl ?_;refine WK.for rfl rfl (fun _=>rfl) rfl (.inl rfl) (WF.cons rfl (WX.of ?_));refine WK.run 40 rfl ?_;refine⟨rfl,WF.cons rfl (WX.of ?_)⟩;refine WK.callM rfl rfl (au h.hi rfl rfl) rfl ?_;refine vY h (by exact a) ht fun Z1 h1=>?_;refine WK.run 40 rfl ?_;refine⟨rfl,WF.nil rfl ?_⟩;refine WK.run 40 rfl ?_;refine WK.end (WK.run 40 rfl ?_);refine WK.exprM rfl (au h1.hi rfl rfl) rfl ?_;refine um (own:=[]) (ns:=[95]) h1 (by simp;exact Wj a (Wg rfl)) (.inl rfl) fun Z2 c=>?_;refine WK.run 40 rfl ?_;refine WK.end (WK.run 40 rfl ?_);exact q _ c
theorem Cm{row:List Nat}(h:FS Z0 Z [row] ah n)(a:n<=3000)(ht:jA [row] nm=We)(q:∀b,FS Z0 b [row++[95]] (put nm (.bool Wd) ah) (n+2)->Q .none b):WC ⟨d+8,We,tb⟩ a5 [.ref Z0.length,H5 nm] Z Q E:=by
 refine WC.rn (fn:=aA) rfl rfl rfl rfl rfl ?_;refine WK.exprM rfl (au h.hi rfl rfl) rfl ?_;refine WC.rn (fn:=bk) rfl rfl rfl rfl rfl ?_;refine WK.exprM rfl (au h.hi rfl rfl) rfl ?_;refine WC.rn (fn:=a7) rfl rfl rfl rfl rfl ?_;refine WK.for rfl rfl (fun _=>rfl) rfl (.inl rfl) (WF.cons rfl (WX.of ?_));refine WK.callM rfl rfl (au h.hi rfl rfl) rfl ?_;refine WC.rn (fn:=aA) rfl rfl rfl rfl rfl ?_;refine WK.exprM rfl (au h.hi rfl rfl) rfl ?_;refine WC.rn (fn:=aZ) rfl rfl rfl rfl rfl ?_;refine WK.for rfl rfl (fun _=>rfl) rfl (.inl rfl) (WF.cons rfl (WX.of ?_));refine WK.callM rfl rfl (au h.hi rfl rfl) rfl ?_;refine vX h (by exact Wj a (Wg rfl)) ht fun Z1 h1=>?_;refine WK.run 40 rfl ?_;refine⟨rfl,WF.nil rfl ?_⟩;refine WK.run 40 rfl ?_;refine WK.end (WK.run 40 rfl ?_);refine WK.end (WK.run 40 rfl ?_);refine⟨rfl,WF.nil rfl ?_⟩;refine WK.run 40 rfl ?_;refine WK.end (WK.run 40 rfl ?_);refine WK.exprM rfl (au h1.hi rfl rfl) rfl ?_;refine um (own:=[]) (ns:=[95]) h1 (by simp;exact Wj a (Wg rfl)) (.inl rfl) fun Z2 c=>?_;refine WK.run 40 rfl ?_;refine WK.end (WK.run 40 rfl ?_);exact q _ c
end
section
variable{Z0 Z:St}{own:List (List Nat)}{ah:List (Nat×P)}{n d:Nat}{tb:Option Nat}{Q:P->St->Prop}{E:EP}{nm:Nat}
theorem kA{c:Cx}{m:VE}{p1 p2 b d:Nat}{a:IE}(h:FS Z0 Z own ah n)(hs:get 1718379891 m=Wb (.ref Z0.length))(e:WE c a m Z (fun w Z1=>∃ns:List Nat,w=.list (ns.map .str)/\FS Z0 Z1 own ah n/\ns.length+n<=4000/\∀Z2,FS Z0 Z2 (own++[ns]) ah (n+ns.length+1)->Q .none Z2) E):WE c (.meth (.attr (.name 1718379891 p1) 7239535 p2) ce b [a] d) m Z Q E:=by
 refine WE.append (WE.attr (WE.name hs ⟨_,bt h.hi rfl rfl,_,_,rfl,h.ho,W.mono e (fun w Z1 q=>?_) hE⟩));obtain⟨ns,f,h1,g,q⟩:=q;subst f;have i:(rows own).length=own.length:=by unfold rows;rw[Wp]
 have:=h1.hw;refine⟨_,h1.ho,b8 (Wj (Xo i) (Wj this (qC (XT g) rfl))),rfl,?_⟩;rw[show rows own++[P.list (ns.map .str)]=rows (own++[ns]) from by unfold rows;rw[WM];rfl];refine q _ (h1.setO (by exact Wj (W0 _ _) (Xp _)) ?_ ?_)
 ·intro r hr;rcases WV.mp hr with hr|hr
  ·exact Wj (h1.hr r hr) (by exact Wj (W0 _ _) (Xp _))
  ·rw[WQ.mp hr];exact abt (Yy _ _)
 ·rw[Wu];simp;exact aap this
theorem kB{c:Cx}{m:VE}{p1 p2 b d:Nat}{row:List Nat}(h:FS Z0 Z (own++[row]) ah n)(hs:get 1718379891 m=Wb (.ref Z0.length))(q:n<=5000/\∀Z2,FS Z0 Z2 own ah n->Q (.list (row.map .str)) Z2):WE c (.meth (.attr (.name 1718379891 p1) 7239535 p2) iC b [] d) m Z Q E:=by
 have e:(rows own).length=own.length:=by unfold rows;rw[Wp]
 have a:=h.hw;rw[Wu] at a;simp only[Xa,aaS] at a;refine WE.pop (WE.attr (WE.name hs ⟨_,bt h.hi rfl rfl,_,rows own,.list (row.map .str),rfl,?_,b8 (Wj (Xo (congrArg acF e)) (Wj a q.1)),q.2 _ (h.setO (Xk _) (fun r f=>h.hr r (WV.mpr (.inl f))) (by exact Xj a))⟩));rw[h.ho];unfold rows;rw[WM];rfl
theorem r7{own:List (List Nat)}{ns:List Nat}{x:Nat}:jA (own++[ns]) x=(jA own x||ns.any fun y=>Wf y x):=by
 unfold jA;rw[aeh];simp
end
noncomputable abbrev L5(nm:Nat):P:=.tup [.str 7810197660629890406,.int 61,.str 95,.none,.tup [.str 1668183398,.int 0,.tup [],.tup [],.bool We],.tup [],.tup [],.tup [.str 461229747298,.int 0,.tup [.tup [.str 1919973477,.int 0,vS nm],.tup [.str 111524889126244,.int 0,.tup [.str nm],.tup [.tup [.str 7630441,.int 0,.int 1]]]]]]
noncomputable abbrev Jj(nm:Nat):P:=.tup [.str 7810197660629890406,.int 61,.str 95,.none,.tup [.str 1668183398,.int 0,.tup [vL nm],.tup [],.bool We],.tup [.str 113],.tup [],.tup [.str 461229747298,.int 0,.tup []]]
section
variable{Z0 Z:St}{own:List (List Nat)}{ah:List (Nat×P)}{n d:Nat}{tb:Option Nat}{Q:P->St->Prop}{E:EP}{nm:Nat}
theorem FW{row:List Nat}(h:FS Z0 Z [row] ah n)(a:n<=3000)(ht:jA [row] nm=We)(q:∀f,FS Z0 f [row] (put nm (.bool Wd) ah) (n+4)->Q .none f):WC ⟨d+9,We,tb⟩ aY [.ref Z0.length,Jj nm] Z Q E:=by
 have k:n<=4000:=Wj a (Wg rfl);refine WC.rn (fn:=bL) rfl rfl rfl rfl rfl ?_;refine WK.exprM rfl (au h.hi rfl rfl) rfl (WC.fs Z0 [row] (put nm (.bool Wd) ah) (n+1) ?_ fun Z1 h1=>?_)
 ·refine WC.rn (fn:=aA) rfl rfl rfl rfl rfl ?_;refine WK.exprM rfl (au h.hi rfl rfl) rfl ?_;refine WC.rn (fn:=aZ) rfl rfl rfl rfl rfl ?_;refine WK.for rfl rfl (fun _=>rfl) rfl (.inl rfl) (WF.cons rfl (WX.of ?_));refine WK.callM rfl rfl (au h.hi rfl rfl) rfl (WC.fs Z0 [row] (put nm (.bool Wd) ah) (n+1) ?_ fun Z1 h1=>?_)
  ·refine WC.rn (fn:=aZ) rfl rfl rfl rfl rfl ?_;refine WK.for rfl rfl (fun _=>rfl) rfl (.inl rfl) (WF.cons rfl (WX.of ?_));refine WK.callM rfl rfl (au h.hi rfl rfl) rfl ?_;refine vX h (by exact Wj a (Wg rfl)) ht fun Z1 h1=>?_;refine WK.run 40 rfl ?_;refine⟨rfl,WF.nil rfl ?_⟩;refine WK.run 40 rfl ?_;exact WK.end ⟨rfl,h1⟩
  refine WK.run 40 rfl ?_;refine⟨rfl,WF.cons rfl (WX.of ?_)⟩;refine WK.run 40 rfl ?_;refine⟨rfl,WF.cons rfl (WX.of ?_)⟩;refine WK.run 40 rfl ?_;refine⟨rfl,WF.nil rfl ?_⟩;refine WK.run 40 rfl ?_;refine WK.end (WK.run 40 rfl ?_);exact WK.end ⟨rfl,h1⟩
 refine WK.callM rfl rfl (au h1.hi rfl rfl) rfl (WC.fs Z0 [row] (put nm (.bool Wd) ah) (n+4) ?_ fun j e=>?_)
 ·refine WC.rn (fn:=cP) rfl rfl rfl rfl rfl ?_;refine WK.s (.expr (kA h1 rfl (.pu rfl ⟨[113],rfl,h1,Wj (W2 (W9 a) 1) (Wg rfl),fun Z2 b=>?_⟩)));refine WK.callM rfl rfl (au b.hi rfl rfl) rfl (WC.fs Z0 [row,[113]] (put nm (.bool Wd) ah) (n+4) ?_ fun g c=>?_)
  ·refine WC.rn (fn:=a7) rfl rfl rfl rfl rfl ?_;refine WK.for rfl rfl (fun _=>rfl) rfl (.inr rfl) (WF.cons rfl (WX.of ?_));refine WK.callM rfl rfl (au b.hi rfl rfl) rfl (WC.fs Z0 [row,[113]] (put nm (.bool Wd) ah) (n+4) ?_ fun g c=>?_)
   ·refine WC.rn (fn:=aA) rfl rfl rfl rfl rfl ?_;refine WK.exprM rfl (au b.hi rfl rfl) rfl ?_;refine WC.rn (fn:=cQ) rfl rfl rfl rfl rfl ?_;refine WK.s (.expr (kA b rfl (.pu rfl ⟨[],rfl,b,by simp;exact Wj a (Wg rfl),fun Z3 i=>?_⟩)));refine WK.callM rfl rfl (au i.hi rfl rfl) rfl ?_;refine WC.rn (fn:=a7) rfl rfl rfl rfl rfl ?_;refine WK.for rfl rfl (fun _=>rfl) rfl (.inl rfl) (WF.nil rfl ?_);refine WK.run 40 rfl ?_;refine WK.end (WK.run 40 rfl ?_);refine WK.s (.expr (kB (own:=[row,[113]]) i rfl ⟨by simp;exact Wj a (Wg rfl),fun g c=>?_⟩));refine WK.run 40 rfl ?_;refine WK.end (WK.run 40 rfl ?_);exact WK.end ⟨rfl,c⟩
   refine WK.run 40 rfl ?_;refine⟨rfl,WF.nil rfl ?_⟩;refine WK.run 40 rfl ?_;exact WK.end ⟨rfl,c⟩
  refine WK.run 40 rfl ?_;refine WK.s (.expr (kB (own:=[row]) c rfl ⟨by simp;exact Wj a (Wg rfl),fun j e=>?_⟩));refine WK.run 40 rfl ?_;exact WK.end ⟨rfl,e⟩
 refine WK.run 40 rfl ?_;exact WK.end (q _ e)
theorem FX{row:List Nat}(h:FS Z0 Z [row] ah n)(c:n<=2000)(ht:jA [row] nm=We)(q:∀k,FS Z0 k [row] (put nm (.bool Wd) ah) (n+6)->Q .none k):WC ⟨d+12,We,tb⟩ aY [.ref Z0.length,L5 nm] Z Q E:=by
 refine WC.rn (fn:=bL) rfl rfl rfl rfl rfl ?_;refine WK.exprM rfl (au h.hi rfl rfl) rfl (WC.fs Z0 [row] ah n ?_ fun Z1 h1=>?_)
 ·refine WC.rn (fn:=aA) rfl rfl rfl rfl rfl ?_;refine WK.exprM rfl (au h.hi rfl rfl) rfl ?_;refine WC.rn (fn:=aZ) rfl rfl rfl rfl rfl ?_;refine WK.for rfl rfl (fun _=>rfl) rfl (.inl rfl) (WF.cons rfl (WX.of ?_));refine WK.run 40 rfl ?_;refine⟨rfl,WF.cons rfl (WX.of ?_)⟩;refine WK.run 40 rfl ?_;refine⟨rfl,WF.cons rfl (WX.of ?_)⟩;refine WK.run 40 rfl ?_;refine⟨rfl,WF.nil rfl ?_⟩;refine WK.run 40 rfl ?_;refine WK.end (WK.run 40 rfl ?_);exact WK.end ⟨rfl,h⟩
 refine WK.callM rfl rfl (au h1.hi rfl rfl) rfl (WC.fs Z0 [row] (put nm (.bool Wd) ah) (n+6) ?_ fun m g=>?_)
 ·clear h;refine WC.rn (fn:=cP) rfl rfl rfl rfl rfl ?_;refine WK.s (.expr (kA h1 rfl (.pu rfl ⟨[],rfl,h1,by simp;exact Wj c (Wg rfl),fun Z2 e=>?_⟩)));refine WK.callM rfl rfl (au e.hi rfl rfl) rfl (WC.fs Z0 [row,[]] (put nm (.bool Wd) ah) (n+6) ?_ fun i b=>?_)
  ·refine WC.rn (fn:=a7) rfl rfl rfl rfl rfl ?_;refine WK.for rfl rfl (fun _=>rfl) rfl (.inr rfl) (WF.cons rfl (WX.of ?_));refine WK.callM rfl rfl (au e.hi rfl rfl) rfl (WC.fs Z0 [row,[]] (put nm (.bool Wd) ah) (n+6) ?_ fun i b=>?_)
   ·refine WC.rn (fn:=aA) rfl rfl rfl rfl rfl ?_;refine WK.exprM rfl (au e.hi rfl rfl) rfl (WC.fs Z0 [row,[]] (put nm (.bool Wd) ah) (n+6) ?_ fun i b=>?_)
    ·refine WC.rn (fn:=cQ) rfl rfl rfl rfl rfl ?_;refine WK.s (.expr (kA e rfl (.pu rfl ⟨[],rfl,e,by simp;exact Wj c (Wg rfl),fun Z3 f=>?_⟩)));refine WK.callM rfl rfl (au f.hi rfl rfl) rfl (WC.fs Z0 [row,[],[nm]] (put nm (.bool Wd) ah) (n+6) ?_ fun l a=>?_)
     ·refine WC.rn (fn:=a7) rfl rfl rfl rfl rfl ?_;refine WK.for rfl rfl (fun _=>rfl) rfl (.inl rfl) (WF.cons rfl (WX.of ?_));refine WK.callM rfl rfl (au f.hi rfl rfl) rfl (WC.fs Z0 [row,[],[]] (put nm (.bool Wd) ah) (n+5) ?_ fun l a=>?_)
      ·refine WC.rn (fn:=aA) rfl rfl rfl rfl rfl ?_;refine WK.exprM rfl (au f.hi rfl rfl) rfl ?_;refine WC.rn (fn:=aZ) rfl rfl rfl rfl rfl ?_;refine WK.for rfl rfl (fun _=>rfl) rfl (.inl rfl) (WF.cons rfl (WX.of ?_));refine WK.callM rfl rfl (au f.hi rfl rfl) rfl ?_;refine vY f (by simp;exact Wj c (Wg rfl)) (by rw[r7,r7,ht];rfl) fun l a=>?_;refine WK.run 40 rfl ?_;refine⟨rfl,WF.nil rfl ?_⟩;refine WK.run 40 rfl ?_;refine WK.end (WK.run 40 rfl ?_);exact WK.end ⟨rfl,a⟩
      refine WK.run 40 rfl ?_;refine⟨rfl,WF.cons rfl (WX.of ?_)⟩;refine WK.callM rfl rfl (au a.hi rfl rfl) rfl (WC.fs Z0 [row,[],[nm]] (put nm (.bool Wd) ah) (n+6) ?_ fun o j=>?_)
      ·refine WC.rn (fn:=aA) rfl rfl rfl rfl rfl ?_;refine WK.exprM rfl (au a.hi rfl rfl) rfl ?_;refine WC.rn (fn:=bk) rfl rfl rfl rfl rfl ?_;refine WK.exprM rfl (au a.hi rfl rfl) rfl ?_;refine WC.rn (fn:=a7) rfl rfl rfl rfl rfl ?_;refine WK.for rfl rfl (fun _=>rfl) rfl (.inl rfl) (WF.cons rfl (WX.of ?_));refine WK.callM rfl rfl (au a.hi rfl rfl) rfl ?_;refine WC.rn (fn:=aA) rfl rfl rfl rfl rfl ?_;refine WK.exprM rfl (au a.hi rfl rfl) rfl ?_;refine WC.rn (fn:=aZ) rfl rfl rfl rfl rfl ?_;refine WK.for rfl rfl (fun _=>rfl) rfl (.inl rfl) (WF.cons rfl (WX.of ?_));refine WK.run 40 rfl ?_;refine⟨rfl,WF.nil rfl ?_⟩;refine WK.run 40 rfl ?_;refine WK.end (WK.run 40 rfl ?_);refine WK.end (WK.run 40 rfl ?_);refine⟨rfl,WF.nil rfl ?_⟩;refine WK.run 40 rfl ?_;refine WK.end (WK.run 40 rfl ?_);refine WK.exprM rfl (au a.hi rfl rfl) rfl ?_;refine um (own:=[row,[]]) (row:=[]) (ns:=[nm]) a (by simp;exact Wj c (Wg rfl)) (.inl rfl) fun o j=>?_;refine WK.run 40 rfl ?_;refine WK.end (WK.run 40 rfl ?_);exact WK.end ⟨rfl,j⟩
      refine WK.run 40 rfl ?_;refine⟨rfl,WF.nil rfl ?_⟩;refine WK.run 40 rfl ?_;exact WK.end ⟨rfl,j⟩
     refine WK.run 40 rfl ?_;refine WK.s (.expr (kB (own:=[row,[]]) a rfl ⟨by simp;exact Wj c (Wg rfl),fun i b=>?_⟩));refine WK.run 40 rfl ?_;exact WK.end ⟨rfl,b⟩
    refine WK.run 40 rfl ?_;exact WK.end ⟨rfl,b⟩
   refine WK.run 40 rfl ?_;refine⟨rfl,WF.nil rfl ?_⟩;refine WK.run 40 rfl ?_;exact WK.end ⟨rfl,b⟩
  refine WK.run 40 rfl ?_;refine WK.s (.expr (kB (own:=[row]) b rfl ⟨by simp;exact Wj c (Wg rfl),fun m g=>?_⟩));refine WK.run 40 rfl ?_;exact WK.end ⟨rfl,g⟩
 refine WK.run 40 rfl ?_;exact WK.end (q _ g)
end
theorem ia{Z l:St}{o:O}:(Z++o::l).length=Z.length+(l.length+1):=by rw[Wu];rfl
theorem ib{Z l:St}{o x:O}:(Z++o::l)++[x]=Z++o::(l++[x]):=by rw[Xw];rfl
theorem dW:∀{Z l:St}{o x:O},ak (Z++o::l) Z.length x=Z++x::l:=by
 intro b
 induction b with
 |nil=>
  intro _ _ _;exact rfl
 |cons a Z c=>
  intro l o x;show a::ak (Z++o::l) Z.length x=_;rw[c];rfl
theorem eW:∀{Z l:St}{o:O}{i:Nat},ai (Z++o::l) (Z.length+(i+1))=ai l i
 | [],_,_,i=>by show ai (_::_) (0+(i+1))=_;rw[XW];rfl
 |a::Z,l,o,i=>by
  show ai (a::(Z++o::l)) (Z.length+1+(i+1))=_;rw[show Z.length+1+(i+1)=Z.length+(i+1)+1 by exact aba _ _ _];exact eW (Z:=Z)
noncomputable def a8:Nat×Nat->P
 |(0,nm)=>yB nm
 |(1,nm)=>H5 nm
 |(2,nm)=>L5 nm
 |(_,nm)=>Jj nm
theorem vZ{x y:Nat}{v:P}:∀{l:List (Nat×P)},has x (put y v l)=(Wf y x||has x l):=by
 intro l
 induction l with
 |nil=>
  show(get x [(y,v)]).isSome=_;show(cond (Wf y x) (Wb v) Wc).isSome=_
  induction Wf y x<;>rfl
 |cons c r a=>
  obtain⟨k,w⟩:=c;show(get x (cond (Wf k y) ((y,v)::r) ((k,w)::put y v r))).isSome=(Wf y x||(cond (Wf k x) (Wb w) (get x r)).isSome);unfold has at a;cases e:Wf k y
  ·show(cond (Wf k x) (Wb w) (get x (put y v r))).isSome=_;clear e;cases e2:Wf k x
   ·exact a
   ·simp
  ·have:=b9 e;clear a e;subst this;show(cond (Wf k x) (Wb v) (get x r)).isSome=_;cases e2:Wf k x<;>rfl
section
variable{Z:St}{d:Nat}{tb:Option Nat}{Q:P->St->Prop}{E:EP}{L:List (Nat×Nat)}
theorem zm(q:∀a,FS Z a [[]] [] 1->Q .none a):WC ⟨d+1,We,tb⟩ bC [.ref Z.length,.glob cX] (Z++[.inst cV []]) Q E:=by
 refine WC.of (fn:=fj) rfl rfl rfl rfl ?_;refine WX.cons (WS.asgA (WE.name rfl (WE.name rfl ⟨_,_,_,rfl,bH _ _ _,rfl,rfl,rfl,?_⟩)));rw[dW];refine WX.cons (WS.asgA (WE.name rfl (WE.name rfl ⟨_,_,_,rfl,bH _ _ _,rfl,rfl,rfl,?_⟩)));rw[dW];refine WX.cons (WS.asgA (WE.listT (WL.cons (WE.listF (WL.nil ⟨rfl,rfl,WL.nil ⟨rfl,rfl,WE.name rfl ?_⟩⟩)))));simp only[ib,ia];refine⟨_,_,_,rfl,bH _ _ _,rfl,rfl,rfl,?_⟩;rw[dW];refine WX.cons (WS.asgA (WE.dict0 (WE.name rfl ?_)));simp only[ib,ia];refine⟨_,_,_,rfl,bH _ _ _,rfl,rfl,rfl,?_⟩;rw[dW];refine WX.cons (WS.asgA (WE.dict0 (WE.name rfl ?_)));simp only[ib,ia];refine⟨_,_,_,rfl,bH _ _ _,rfl,rfl,rfl,?_⟩;rw[dW];refine WX.cons (WS.asgA (WE.dict0 (WE.name rfl ?_)));simp only[ib,ia];refine⟨_,_,_,rfl,bH _ _ _,rfl,rfl,rfl,?_⟩;rw[dW];refine WX.cons (WS.asgA (WE.dict0 (WE.name rfl ?_)));simp only[ib,ia];refine⟨_,_,_,rfl,bH _ _ _,rfl,rfl,rfl,?_⟩;rw[dW];refine WX.nil (q _ ⟨.app,bH _ _ _,?_,⟨[],0,?_,Xz _⟩,⟨[],0,?_,Xz _⟩,⟨0,?_⟩,Xz _,?_,Xk _⟩)
 ·exact eW
 ·exact eW
 ·exact eW
 ·exact eW
 ·intro row b;rw[WQ.mp b];exact Xz _
noncomputable def Ey:List IS:=lR (B1 jD 1)
noncomputable abbrev L6(L:List (Nat×Nat))(a:Nat)(t:VE):VE:=(495739692388,.tup (L.map a8))::(125779802220902,.ref a)::t
inductive M1(Z:St)(L:List (Nat×Nat))(r:List P)(m:VE)(a:St):Prop
 |mk(rs:List (Nat×Nat))(row:List Nat)(ah:List (Nat×P))(n:Nat)(t:VE)(b:r=rs.map a8)(h:FS Z a [row] ah n)(c:n+8*rs.length<=1+8*L.length)(d:∀x∈row,x=95)(e:∀w∈L,w∈rs\/has w.2 ah=Wd)(hs:∀w∈rs,w∈L)(ht:t=[]\/∃x,t=[(1818453348,x)])(f:m=L6 L Z.length t)
inductive RF(Z:St)(L:List (Nat×Nat))(row:List Nat)(ah:List (Nat×P))(nm n:Nat)(x:P)(m:VE)(b:St):Prop
 |mk(a:List Nat)(n':Nat)(h:FS Z b [a] (put nm (.bool Wd) ah) n')(c:n'<=n+8)(d:a=row\/a=row++[95])(e:m=L6 L Z.length [(1818453348,x)])
theorem FY{e:St}{row:List Nat}{ah:List (Nat×P)}{n nm:Nat}(h:FS Z e [row] ah n)(f:n<=2000)(ht:jA [row] nm=We)(a:Nat):WX ⟨d+13,We,tb⟩ Ey (L6 L Z.length [(1818453348,a8 (a,nm))]) e (RF Z L row ah nm n (a8 (a,nm))) (fun _ _=>False) E:=by
 have c:n<=3000:=Wj f (Wg rfl);refine WX.of ?_;rcases a with _|_|_|w
 ·exact WK.callM rfl rfl (au h.hi rfl rfl) rfl (Ck h c ht fun Z2 b=>WK.run 40 rfl (WK.end ⟨_,_,b,W2 (Wg rfl) n,.inr rfl,rfl⟩))
 ·exact WK.callM rfl rfl (au h.hi rfl rfl) rfl (Cm h c ht fun Z2 b=>WK.run 40 rfl (WK.end ⟨_,_,b,W2 (Wg rfl) n,.inr rfl,rfl⟩))
 ·exact WK.callM rfl rfl (au h.hi rfl rfl) rfl (FX h f ht fun Z2 b=>WK.run 40 rfl (WK.end ⟨_,_,b,W2 (Wg rfl) n,.inl rfl,rfl⟩))
 ·exact WK.callM rfl rfl (au h.hi rfl rfl) rfl (FW h c ht fun Z2 b=>WK.run 40 rfl (WK.end ⟨_,_,b,W2 (Wg rfl) n,.inl rfl,rfl⟩))
theorem kC(w:Nat×Nat):(a8 w).isOdd=We:=by
 obtain⟨w,nm⟩:=w;rcases w with _|_|_|w<;>rfl
theorem Cn{x:P}{r:List P}{m:VE}{o:St}(C:L.length<=100)(p:∀w∈L,w.2≠95)(f:bc m)(D:M1 Z L (x::r) m o):∃m1,aD (.name 1818453348 177008012) x m=Wb m1/\WX ⟨d+13,We,tb⟩ Ey m1 o (fun g Z2=>bc g/\M1 Z L r g Z2) (fun _ _=>False) E:=by
 obtain⟨rs,row,ah,n,t,i,h,j,b,q,hs,s,F⟩:=D
 induction rs using Wv with
 |nil=>cases i
 |cons w rs=>
  obtain⟨G,H⟩:=Ye i;subst G H F;rw[Xa] at j;clear i;obtain⟨a,nm⟩:=w;have k:=p _ (hs (a,nm) (WU ..));have ht:jA [row] nm=We:=by
   show((row.any fun y=>Wf y nm) ||false)=We;rw[adh];exact dV.mpr fun h=>k (b _ h)
  have c:=kC (a,nm);refine⟨L6 L Z.length [(1818453348,a8 (a,nm))],?_,W.mono (FY h (Wj (WZ j) (qC (W2 (aaX 8 C) 1) rfl)) ht a) (fun z Z2 hz=>?_) hE⟩
  ·refine(cB f c).trans ?_;clear f b q hs k ht c;rcases s with h|⟨x,h⟩<;>subst h<;>rfl
  clear p k ht f s h;obtain⟨fl,g⟩:=z
  induction fl using Mine.Fl.casesOn with
  |ret v=>exact hz
  |next=>
   obtain⟨I,n',u,A,B,l⟩:=hz;refine⟨l▸aE rfl (aE rfl (aE c rfl)),rs,I,_,n',_,rfl,u,Wj (XP A _) (Wj (Xo ((YE _ _ _).trans (congrArg (n+ ·) (aa0 _ _)))) j),?_,?_,fun w h=>hs w (W8 _ h),.inr ⟨_,rfl⟩,l⟩
   ·rcases B with e|e
    ·rw[e];exact b
    ·rw[e];intro x h;exact(WV.mp h).elim (b x) WQ.mp
   ·intro w h;rw[vZ];clear hs c u A B l;rcases q w h with h|h
    ·rcases Ww.mp h with h|h
     ·subst h;right;rw[Wx];rfl
     ·exact .inl h
    ·rw[h,adC];exact .inr rfl
theorem zp(c:L.length<=100)(e:∀w∈L,w.2≠95)(q:∀a es ep,Keep Z a->ai a (Z.length+4)=Wb (.dict es ep)->(∀w∈L,has w.2 es=Wd)->Q (.ref (Z.length+4)) a):WC ⟨d+14,We,tb⟩ gk [.tup (L.map a8)] Z Q E:=by
 refine WC.of (fn:=iR) rfl rfl rfl rfl ?_;refine WX.cons (WS.asg rfl (WE.new rfl (WL.cons (WE.glob rfl (WL.nil (zm fun Z1 h1=>⟨rfl,_,rfl,?_⟩))))));refine WX.cons (WS.for rfl rfl (fun _=>rfl) (WE.name rfl ⟨L.map a8,M1 Z L,Z,.tup rfl,fun r m a b=>?_,⟨L,[],[],1,[],rfl,h1,Xk _,(fun x h=>absurd h WA),(fun w h=>.inl h),(fun w h=>h),.inl rfl,rfl⟩,fun x r m a f b=>Cn c e f b,fun m a b=>?_⟩))
 ·obtain⟨_,_,_,_,_,_,h,_,_,_,_,_,_⟩:=b;exact h.k
 ·obtain⟨rs,row,ah,n,t,g,h,p,s,i,hs,u,j⟩:=b;have:rs=[]:=Yk.mp g.symm;subst this j;obtain⟨ep,l⟩:=h.ha;exact WX.cons (WS.ret (WE.attr (WE.name (v:=.ref Z.length) rfl ⟨_,bt h.hi rfl rfl,q _ _ _ h.k l fun w o=>(i w o).resolve_left WA⟩)))
end
structure Sl where
 al:Option Nat
 ot:Nat
 sp:Int
 nm:Nat
 way:Nat
structure Fi where
 p:Nat
 nm:Nat
 sl:List Sl
noncomputable def Sl.imp(s:Sl):kY:=(s.al,s.ot,s.sp)
noncomputable def j2(s:Sl):Bool:=match s.al with
 |some a=>Wf a 95
 |none=>We
noncomputable def Fi.L(f:Fi):List (Nat×Nat):=(f.sl.filter fun s=>!j2 s).map fun s=>(s.way,s.nm)
noncomputable def Fi.val(f:Fi):P:=.tup [.str f.nm,.tup ((f.sl.map Sl.imp).map eh),.tup (f.L.map a8)]
noncomputable def dm(g:Fi->P)(fs:List Fi):List (Nat×P):=fs.map fun f=>(f.p,g f)
noncomputable def aL(fs:List Fi):List Nat:=fs.map Fi.p
theorem qP{g:Fi->P}:∀{fs:List Fi}{f:Fi},(aL fs).Nodup->f∈fs->get f.p (dm g fs)=Wb (g f):=by
 intro c
 induction c with
 |nil=>
  intro _ _ h;exact absurd h WA
 |cons a fs d=>
  intro f b h;obtain⟨h1,i⟩:=Xu.mp (show(a.p::aL fs).Nodup from b);show cond (Wf a.p f.p) (Wb (g a)) (get f.p (dm g fs))=_;clear b;rcases Ww.mp h with h|h
  ·subst h;rw[Wx];rfl
  ·cases e:Wf a.p f.p
   ·exact d i h
   ·exact absurd (Wz.mpr ⟨f,h,(b9 e).symm⟩) h1
theorem nr{g:Fi->P}{x:Nat}:∀{fs:List Fi},has x (dm g fs)=(aL fs).any fun y=>Wf y x:=by
 intro b
 induction b with
 |nil=>
  exact rfl
 |cons a fs c=>
  show(cond (Wf a.p x) (Wb (g a)) (get x (dm g fs))).isSome=(Wf a.p x||(aL fs).any fun y=>Wf y x);cases e:Wf a.p x
  ·exact c
  ·rfl
theorem v6{x:Nat}{v:P}:∀{l:List (Nat×P)},has x l=We->put x v l=l++[(x,v)]:=by
 intro a
 induction a with
 |nil=>
  intro _;exact rfl
 |cons b r c=>
  obtain⟨y,w⟩:=b;intro h;have h:(cond (Wf y x) (Wb w) (get x r)).isSome=We:=h;show cond (Wf y x) _ _=_;cases e:Wf y x
  ·rw[e] at h;show(y,w)::put x v r=_;rw[c h];rfl
  ·rw[e] at h;exact gB h
theorem jl{g:Fi->P}:∀{fs:List Fi},(aL fs).Nodup->aW (dm g fs)=Wd:=by
 intro c
 induction c with
 |nil=>
  intro _;exact rfl
 |cons a fs d=>
  intro b;show(!has a.p (dm g fs) &&aW (dm g fs))=Wd;rw[nr,dV.mpr (Xu.mp (show(a.p::aL fs).Nodup from b)).1,d (Xu.mp (show(a.p::aL fs).Nodup from b)).2];rfl
theorem mC{g:Fi->P}{fs:List Fi}:keys (dm g fs)=(aL fs).map .str:=by
 unfold keys dm aL;rw[XB,XB];rfl
structure RH(p nm:Nat):Prop where
 k:oU p=We
 d1:bN 46 (bA p)=We
 d2:bN 35 (bA p)=We
 d3:bN 126 (bA p)=We
 n1:Wf nm 95=We
 n2:Wf nm bq=Wf p bq
 ft:aq (len pre+len p)=Wd
 sf:(aq (bA (tR pre p)).length&& (bA (tR pre p)).all fun k=>!Wf k 0)=Wd
 sp:∃l,(bh 32 (bA (tR pre p))).map b7=l++[p]/\l.length<=5000
structure Jl(fs:List Fi)(s:Sl):Prop where
 o1:Wf s.ot bq=We
 o2:oU s.ot=Wd\/s.ot∈aL fs
 nm:j2 s=Wd\/(s.nm≠95/\s.nm≠1953066601/\(s.al=Wb s.nm\/(s.al=Wc/\((oU s.ot=Wd/\s.ot=s.nm)\/(oU s.ot=We/\∃f∈fs,f.p=s.ot/\f.nm=s.nm)))))
structure qQ(fs:List Fi):Prop where
 nd:(aL fs).Nodup
 okp:∀f∈fs,RH f.p f.nm
 oks:∀f∈fs,∀s∈f.sl,Jl fs s
 nds:∀f∈fs,(f.L.map Prod.snd).Nodup
 l1:∀f∈fs,f.sl.length<=20
 l2:fs.length<=20
section
variable{Z:St}{d:Nat}{tb:Option Nat}{Q:P->St->Prop}{E:EP}
theorem Co(w:Nat×Nat)(q:∀b,Keep Z b->Q (.list []) b):WC ⟨d+1,We,tb⟩ hS [a8 w] Z Q E:=by
 obtain⟨a,nm⟩:=w;refine WC.of (m:=[(1818453348,a8 (a,nm))]) (fn:=jE) rfl rfl ?_ rfl (WX.of ?_)
 ·match a with
  |0=>rfl
  |1=>rfl
  |2=>rfl
  |w+3=>rfl
 match a with
 |0=>
  refine WK.run 40 rfl ?_;refine WK.s (.ret (.comp rfl rfl rfl (.pu rfl ⟨[.str 95],fun _=>Wc,.tup rfl,rfl,?_,q⟩)));intro x c b k;rw[WQ.mp c];exact⟨_,rfl,WI.one (.of (.pu rfl ⟨We,rfl,.refl,rfl⟩))⟩
 |1=>
  refine WK.run 40 rfl ?_;refine WK.s (.ret (.comp rfl rfl rfl (.pu rfl ⟨[.str 95],fun _=>Wc,.tup rfl,rfl,?_,q⟩)));intro x c b k;rw[WQ.mp c];exact⟨_,rfl,WI.one (.of (.pu rfl ⟨We,rfl,.refl,rfl⟩))⟩
 |2=>
  refine WK.run 40 rfl ?_;exact WK.ret rfl (q _ .refl)
 |w+3=>
  refine WK.run 40 rfl ?_;exact WK.ret rfl (q _ .refl)
theorem FZ{rp p:Nat}{a b:P}{L:List (Nat×Nat)}(k:L.length<=100)(e:b.isOdd=We/\a.isOdd=We)(q:∀c,Keep Z c->ai c Z.length=Wb (.dict [] 0)->Q (.ref Z.length) c):WC ⟨d+2,We,tb⟩ bQ [.ref rp,.str p,.tup [a,b,.tup (L.map a8)]] Z Q E:=by
 refine WC.of (fn:=d7) rfl rfl rfl rfl ?_;refine WX.cons (WS.asg rfl (WE.dict0 ⟨_,rfl,?_⟩));refine WX.cons (WS.for rfl rfl (fun _=>rfl) (WE.pu rfl ?_));refine⟨L.map a8,fun r m c=>∃(rs:List (Nat×Nat)),r=rs.map a8/\Keep Z c/\ai c Z.length=Wb (.dict [] 0)/\(m=[(1718379891,.ref rp),(1752457584,.str p),(1684828020,.tup [a,b,.tup (L.map a8)]),(431349919590,.ref Z.length)]\/∃x,m=[(1718379891,.ref rp),(1752457584,.str p),(1684828020,.tup [a,b,.tup (L.map a8)]),(431349919590,.ref Z.length),(1818453348,x)]),Z,.tup rfl,?_,?_,?_,?_⟩
 ·intro r m c f;clear k e q;obtain⟨_,_,h,_⟩:=f;exact h
 ·exact⟨L,rfl,.app,bH _ _ _,.inl rfl⟩
 ·intro x r m c o f;clear k q;obtain⟨rs,j,g,i,l⟩:=f
  induction rs using Wv with
  |nil=>cases j
  |cons w rs=>
   injection j with t u;subst t u;have n:(a8 w).isOdd=We:=kC w;have e:bc [(1718379891,.ref rp),(1752457584,.str p),(1684828020,.tup [a,b,.tup (L.map a8)]),(431349919590,.ref Z.length),(1818453348,a8 w)]:=aE rfl (aE rfl (aE rfl (aE rfl (aE n rfl))));refine⟨[(1718379891,.ref rp),(1752457584,.str p),(1684828020,.tup [a,b,.tup (L.map a8)]),(431349919590,.ref Z.length),(1818453348,a8 w)],?_,?_⟩
   ·refine(cB o n).trans ?_;clear o rs g i n e;rcases l with h|⟨x,h⟩<;>subst h<;>rfl
   refine WX.cons (WS.forU rfl e (fun _=>rfl) (WE.call rfl rfl (WL.cons (WE.name rfl (WL.nil (Co w fun Z1 s=>⟨[],.inr rfl,WF.nil e ?_⟩))))));exact WX.nil ⟨e,rs,rfl,g.trans s,s _ _ i,.inr ⟨_,rfl⟩⟩
 ·intro m c f;clear k e;obtain⟨rs,j,g,i,l⟩:=f;refine WX.cons (WS.ret (WE.name (v:=.ref Z.length) ?_ (q _ g i)));clear q j g i;rcases l with h|⟨x,h⟩<;>subst h<;>rfl
theorem zq{p:Nat}:dk .In (.str p) (.tup [.str 1668184435,.str 28549272340166002]) Z=Wb (oU p):=rfl
theorem Ez{p:Nat}:dk .NotIn (.str p) (.tup [.str 1668184435,.str 28549272340166002]) Z=Wb (!oU p):=rfl
theorem mD{n s:Nat}{es:List (Nat×P)}{ep:Nat}(h:ai Z n=Wb (.dict es ep)):dk .In (.str s) (.ref n) Z=Wb (has s es):=by
 show LK s (ai Z n)=_;rw[h];rfl
theorem nt{n s:Nat}{es:List (Nat×P)}{ep:Nat}(h:ai Z n=Wb (.dict es ep)):dk .NotIn (.str s) (.ref n) Z=Wb (!has s es):=by
 show(dk .In (.str s) (.ref n) Z).map not=_;rw[mD h];rfl
theorem zr{rp rf ep p nm:Nat}{F es:List (Nat×P)}(h1:ai Z rp=Wb (.inst bG F))(c:get 495622842726 F=Wb (.ref rf))(f:ai Z rf=Wb (.dict es ep))(h:(oU p=Wd/\p=nm)\/(oU p=We/\∃a b,get p es=Wb (.tup [.str nm,a,b])))(q:Q (.str nm) Z):WC ⟨d+1,We,tb⟩ cm [.ref rp,.str p] Z Q E:=by
 refine WC.of (fn:=eT) rfl rfl rfl rfl ?_;refine WX.cons (WS.ret (WE.ite (WT.of (WE.cmp (WE.name rfl (WE.glob rfl ⟨_,zq,_,rfl,?_⟩))))));rcases h with⟨h,e⟩|⟨h,a,b,e⟩
 ·exact h▸e▸(WE.name rfl q)
 ·rw[h];exact WE.sub (WE.sub (WE.attr (WE.name rfl ⟨_,bt h1 rfl c,WE.name rfl ⟨_,dU f e,WE.int ⟨_,rfl,q⟩⟩⟩)))
end
noncomputable def nu(rs:List Sl):List Nat:=(rs.filter fun s=>!j2 s).map Sl.nm
theorem nv{s:Sl}{rs:List Sl}:nu (s::rs)=cond (j2 s) (nu rs) (s.nm::nu rs):=by
 unfold nu;rw[XF]
 induction j2 s<;>rfl
theorem PL{n ep s:Nat}{es:List (Nat×P)}{v:P}{m:VE}{Z:St}(a:ai Z n=Wb (.dict es ep))(h1:v.isOdd=We)(b:aq es.length=Wd):(ofO (P.r? (.ref n)) fun n=>lM n (.str s) v m Z (ai Z n))=.ok m (ak Z n (.dict (put s v es) (c6 ep s es))):=by
 show lM n (.str s) v m Z (ai Z n)=_;rw[a];show cond (v.isOdd||!aq es.length) _ _=_;rw[h1,b];rfl
theorem M4{op:abr}{a b:P}{Z:St}{z:Bool}(h:dk op a b Z=Wb z):∃y,P.bool z=.bool y/\dk op a b Z=Wb y:=⟨_,rfl,h⟩
theorem r8{op:abr}{a b:P}{Z:St}{z y:Bool}(h:dk op a b Z=Wb z)(e:z=y):∃c,P.bool y=.bool c/\dk op a b Z=Wb c:=e▸M4 h
theorem qR{a b:Nat}(h:a≠b):Wf a b=We:=by
 cases c:Wf a b
 ·rfl
 ·exact absurd (b9 c) h
theorem WK.goB{d:Nat}{tb:Option Nat}{m a:VE}{Z c:St}{k e:List (List IS)}{f g:List Prop}{N:VE->St->Prop}{Rt:P->St->Prop}{E:EP}(b:Bool)(n:Nat)(h i:List fV)(h1:pg n m Z k h []=.mk a c e f)(j:pg n m Z k i []=.mk a c e g)(l:b=Wd->AllP f)(o:b=We->AllP g)(w:WK ⟨d,We,tb⟩ e a c N Rt E):WK ⟨d,We,tb⟩ k m Z N Rt E:=by
 induction b using Wn with
 |true=>exact WK.go n h h1 (l rfl) w
 |false=>exact WK.go n i j (o rfl) w
noncomputable abbrev F5(rp p a u:Nat)(t:VE):VE:=(1718379891,.ref rp)::(1752457584,.str p)::(431349919590,.ref a)::(1684370293,.ref u)::t
noncomputable abbrev H6(a b c:P)(t:VE):VE:=(495555538017,a)::(110386907865463,b)::(1953460339,c)::t
section
variable{Z:St}{d:Nat}{tb:Option Nat}{Q:P->St->Prop}{E:EP}
inductive RI(f:Fi)(h:List (Nat×P))(i:Nat)(Z:St)(rp u:Nat)(r:List P)(m:VE)(d:St):Prop
 |mk(rs:List Sl)(g:List (Nat×P))(j:Nat)(t:VE)(k:r=(rs.map Sl.imp).map eh)(l:Keep Z d)(n:ai d Z.length=Wb (.dict g j))(o:ai d u=Wb (.dict h i))(q:g.length+rs.length<=20)(hs:∀s∈rs,s∈f.sl)(v:∀x,has x g=Wd->x≠95/\¬x∈nu rs)(w:(nu rs).Nodup)(ht:t=[]\/∃a b c e,t=H6 a b c [(1701667182,e)])(y:m=F5 rp f.p Z.length u t)
theorem Cp{rp p a u:Nat}{x y z:P}{t:VE}(d:bc (F5 rp p a u t))(ht:t=[]\/∃a b c e,t=H6 a b c [(1701667182,e)])(g:x.isOdd=We)(i:y.isOdd=We)(hz:z.isOdd=We):∃f,(∀v,put 1701667182 v f=[(1701667182,v)])/\bc (F5 rp p a u (H6 x y z f))/\aD (.tup [(495555538017,227012017),(110386907865463,227019025),(1953460339,227027031)] 0 227012031) (.tup [x,y,z]) (F5 rp p a u t)=Wb (F5 rp p a u (H6 x y z f)):=by
 rcases ht with h|⟨j,b,c,e,h⟩
 ·subst h;exact⟨[],fun _=>rfl,aE rfl (aE rfl (aE rfl (aE rfl (aE g (aE i (aE hz rfl)))))),cz d rfl⟩
 ·subst h;refine⟨[(1701667182,e)],fun _=>rfl,aE rfl (aE rfl (aE rfl (aE rfl (aE g (aE i (aE hz (aE ?_ rfl))))))),cz d rfl⟩;have h:(We||(We||(We||(We||(j.isOdd||(b.isOdd||(c.isOdd||(e.isOdd||false))))))))=We:=d;simp at h;exact h.2.2.2
noncomputable def yC(s:Sl):Nat:=s.al.getD s.nm
theorem zt{s:Sl}(h:j2 s=Wd):yC s=95:=by
 unfold j2 at h;unfold yC
 induction b:s.al using Wo with
 |none=>rw[b] at h;exact dg h
 |some a=>rw[b] at h;exact b9 h
theorem zu{fs:List Fi}{s:Sl}(ok:Jl fs s)(h:j2 s=We):yC s=s.nm:=by
 unfold yC
 induction b:s.al using Wo with
 |none=>rfl
 |some a=>
  have c:=ok.nm.resolve_left (by rw[h];decide);rcases c.2.2 with h|h
  ·rw[b] at h;injection h
  ·rw[b] at h;cases h.1
theorem Jm{fs:List Fi}{s:Sl}(ok:Jl fs s):yC s≠1953066601:=by
 induction h:j2 s using Wn with
 |true=>rw[zt h];decide
 |false=>rw[zu ok h];exact(ok.nm.resolve_left (by rw[h];decide)).2.1
theorem Jn{fs:List Fi}{s:Sl}{rs:List Sl}{a:List (Nat×P)}(ok:Jl fs s)(d:∀x,has x a=Wd->x≠95/\¬x∈nu (s::rs)):has (yC s) a=We:=by
 induction e:has (yC s) a using Wn with
 |false=>rfl
 |true=>
  obtain⟨h1,c⟩:=d _ e
  induction b:j2 s using Wn with
  |true=>exact absurd (zt b) h1
  |false=>
   rw[nv,b,zu ok b] at c;exact absurd (WU ..) c
theorem Cq{rp rf ep:Nat}{fs:List Fi}{s:Sl}{m:VE}{tb:Option Nat}{rn:Nat}(ok:Jl fs s)(f:qQ fs)(h1:ai Z rp=Wb (.inst bG [(495622842726,.ref rf),(495622906222,.ref rn)]))(g:ai Z rf=Wb (.dict (dm Fi.val fs) ep))(i:get 1718379891 m=Wb (.ref rp))(b:get 495555538017 m=Wb (ui s.al))(j:get 110386907865463 m=Wb (.str s.ot))(q:Q (.str (yC s)) Z):WE ⟨d+14,We,tb⟩ (.ite (.cmp .Is (.name 495555538017 230043048) (.none 230052056) 230043056) (.meth (.name 1718379891 230019023) 28832903138730350 230019031 [.name 110386907865463 230032038] 230019039) (.name 495555538017 230062067) 230019067) m Z Q E:=by
 unfold yC at q
 induction c:s.al using Wo with
 |none=>
  rw[c] at b q;have k:j2 s=We:=by unfold j2;rw[c]
  have l:=(ok.nm.resolve_left (by rw[k];decide)).2.2.resolve_left (by rw[c];intro h;exact aH h);refine WE.ite (WT.of (WE.cmp (WE.name b (WE.nne ⟨Wd,rfl,_,rfl,?_⟩))));refine WE.methF (WE.name i ⟨_,au h1 rfl rfl,WL.cons (WE.name j (WL.nil (zr h1 rfl g ?_ q)))⟩);rcases l.2 with h|⟨h,e,n,e1,e2⟩
  ·exact .inl h
  ·refine .inr ⟨h,(.tup ((e.sl.map Sl.imp).map eh)),.tup (e.L.map a8),?_⟩;exact e1▸e2▸(qP f.nd n)
 |some a=>
  rw[c] at b q;exact WE.ite (WT.of (WE.cmp (WE.name b (WE.nne ⟨We,rfl,_,rfl,WE.name b q⟩))))
theorem F6{rp rf rn ep W kn:Nat}{fs:List Fi}{f:Fi}{K:List (Nat×P)}(h1:ai Z rp=Wb (.inst bG [(495622842726,.ref rf),(495622906222,.ref rn)]))(D:ai Z rf=Wb (.dict (dm Fi.val fs) ep))(X:ai Z rn=Wb (.dict K W))(Y:get f.p K=Wb (.ref kn))(h6:ai Z kn=Wb (.dict [] 0))(C:qQ fs)(hf:f∈fs)(q:∀F,Keep Z F->Q (.ref Z.length) F):WC ⟨d+15,We,tb⟩ du [.ref rp,.str f.p] Z Q E:=by
 refine WC.of (fn:=gJ) rfl rfl rfl rfl (WX.of ?_);have i:Keep Z (Z++[.dict [] 0]):=.app;have bB:(Z++[O.dict [] 0]).length=Z.length+1:=Wu;have H:=C.l1 f hf;have c:=qP (g:=Fi.val) C.nd hf;refine WK.s (WS.asg rfl (WE.tup (WL.cons (WE.dict0 (WL.cons (WE.call rfl rfl (WL.cons (WE.go [.v (.ref rf),.v f.val,.v (.tup (f.L.map a8))] rfl ⟨bt (i _ _ h1) rfl rfl,dU (i _ _ D) c,rfl,trivial⟩ (WL.nil (zp ?_ ?_ fun Z1 xk vV G b xn=>?_))))))))))
 ·unfold Fi.L;rw[Wp];exact Wj (XI (fun s=>!j2 s) f.sl) (Wj H (Wg rfl))
 ·intro w hw;clear h1 D X Y h6 q i bB H c;obtain⟨s,hs,F8⟩:=Wz.mp hw;have:=W1.mp hs;clear ep W kn K hw hs;subst F8;exact((C.oks f hf s this.1).nm.resolve_left (by have:=this.2;cases h:j2 s<;>rw[h] at this<;>first|decide|exact dg this)).1
 have M:(Z++[O.dict [] 0]).length+4≠Z.length:=by rw[Wu];exact BK (k:=5) (j:=0) rfl
 generalize (Z++[O.dict [] 0]).length+4=u at b M;refine WL.nil ⟨rfl,_,rfl,?_⟩;refine WK.forI [.v (.ref rf),.v f.val,.v (.tup ((f.sl.map Sl.imp).map eh))] rfl ⟨bt (G _ _ (i _ _ h1)) rfl rfl,dU (G _ _ (i _ _ D)) c,rfl,trivial⟩ (RI f xk vV Z rp u) (Zb:=Z) (.tup rfl) (fun r m F h=>by cases h;assumption) ⟨f.sl,[],0,[],rfl,i.trans G,(G _ _ (bH _ _ _)),b,by rw[aaS,XW];exact H,fun s h=>h,(fun x h=>dg h),?_,.inl rfl,rfl⟩ rfl (fun _=>rfl) ?_ ?_
 ·have:=C.nds f hf;unfold Fi.L at this;rw[XB] at this;exact this
 ·intro x r m F lx N;clear q i bB H c G;obtain⟨rs,R,M5,t,I,a,n,b,o,hs,e,A,ht,S⟩:=N
  induction rs using Wv with
  |nil=>cases I
  |cons s rs=>
   injection I with xh rZ;subst xh rZ S;rw[Xa] at o;have T:=hs s (WU ..);have ok:=C.oks f hf s T;have kD:∀s∈rs,s∈f.sl:=fun s h=>hs s (W8 _ h);clear hf hs;obtain⟨t2,hp,ho,hb⟩:=Cp (x:=ui s.al) (y:=.str s.ot) (z:=.int s.sp) lx ht jk rfl rfl;refine⟨_,hb,?_⟩;refine WK.goB (oU s.ot) 2 [.z We,.z We] [.z We,.z Wd,.v (.ref rf),.v (.bool We)] rfl rfl (fun h=>⟨ok.o1,congrArg not h,trivial⟩) (fun h=>⟨ok.o1,congrArg not h,bt (a _ _ h1) rfl rfl,r8 (nt (a _ _ D)) (by rw[nr,fW.mpr (ok.o2.resolve_left (by rw[h];decide))];rfl),trivial⟩) ?_;refine WK.s (WS.asg rfl (Cq ok C (a _ _ h1) (a _ _ D) rfl rfl rfl ⟨_,cB ho rfl,?_⟩));show WK _ _ (F5 rp f.p Z.length u (H6 (ui s.al) (.str s.ot) (.int s.sp) (put 1701667182 (.str (yC s)) t2))) _ _ _ _;rw[hp];have U:bc (F5 rp f.p Z.length u (H6 (ui s.al) (.str s.ot) (.int s.sp) [(1701667182,.str (yC s))])):=aE rfl (aE rfl (aE rfl (aE rfl (aE jk rfl))));refine WK.go 4 [.z We,.v (.bool We),.v (.ref rn),.v (.ref kn),.v (.bool We)] rfl ⟨qR (Jm ok),r8 (mD n) (Jn ok e),bt (a _ _ h1) rfl rfl,dU (a _ _ X) Y,r8 (mD (a _ _ h6)) rfl,trivial⟩ ?_;clear lx ht hp ho hb
   induction B:j2 s using Wn with
   |false=>
    have J:=zu ok B;have hn:=(ok.nm.resolve_left (by rw[B];decide)).1;rw[nv,B] at A e;obtain⟨M7,M8⟩:=Xu.mp (show(s.nm::nu rs).Nodup from A);refine WK.go 8 [.z Wd,.v (.bool We),.s _] rfl ⟨?_,r8 (nt b) ?_,PL n rfl (b8 (by exact Wj (W0 _ _) (Wj o (by decide)))),trivial⟩ ?_
    ·rw[qR (by rw[J];exact hn)];rfl
    ·rw[J,xn (s.way,s.nm) (Wz.mpr ⟨s,W1.mpr ⟨T,by rw[B];rfl⟩,rfl⟩)];rfl
    have v7:=ji (x:=yC s) (v:=.str s.ot) (l:=R);refine WK.end ⟨U,rs,_,_,_,rfl,a.set (eg _),aF n,(aB (Ne.symm M)).trans b,MK v7 o,kD,fun x V=>?_,M8,.inr ⟨_,_,_,_,rfl⟩,rfl⟩;rw[vZ] at V;clear t a n b o A T ok t2 U B v7;rcases XR.mp V with h|h
    ·have:=b9 h;clear b e V h;subst this;exact⟨by rw[J];exact hn,by rw[J];exact M7⟩
    ·obtain⟨h1,h2⟩:=e x h;exact⟨h1,fun h=>h2 (W8 _ h)⟩
   |true=>
    rw[nv,B] at A e;refine WK.go 5 [.z We] rfl ⟨by rw[zt B];rfl,trivial⟩ ?_;exact WK.end ⟨U,rs,R,_,_,rfl,a,n,b,by exact Xj o,kD,e,A,.inr ⟨_,_,_,_,rfl⟩,rfl⟩
 ·intro m F N;clear M;obtain⟨rs,R,M5,t,I,a,n,b,o,hs,e,A,ht,S⟩:=N;clear I n b o hs e A ht;subst S;exact WK.retS [] rfl trivial (q _ a)
end
noncomputable def bz(f:Fi):P:=.tup [.str f.p,f.val]
theorem kE{x y:Nat}{v:P}:∀{l:List (Nat×P)},get x (put y v l)=cond (Wf y x) (Wb v) (get x l):=by
 intro a
 induction a with
 |nil=>
  exact rfl
 |cons b r c=>
  obtain⟨k,w⟩:=b;show get x (cond (Wf k y) ((y,v)::r) ((k,w)::put y v r))=cond (Wf y x) (Wb v) (cond (Wf k x) (Wb w) (get x r));cases e:Wf k y
  ·show cond (Wf k x) (Wb w) (get x (put y v r))=_;rw[c];cases e2:Wf k x
   ·rfl
   ·have:=b9 e2;clear e2;subst this;cases e3:Wf y k
    ·rfl
    ·have:=b9 e3;clear e3;subst this;rw[Wx] at e;exact gB e
  ·have:=b9 e;clear e;subst this;show cond (Wf k x) (Wb v) (get x r)=_;cases e2:Wf k x<;>rfl
theorem Jo{Z:St}{p:Nat}:dk .In (.str 46) (.str p) Z=Wb (bN 46 (bA p)):=by
 show(match bA 46 with
  | [c]=>Wb (bN c (bA p))
  |_=>Wc)=_
 rw[show bA 46=[46] from by decide+kernel]
theorem Jp{Z:St}{p:Nat}:dk .In (.str 35) (.str p) Z=Wb (bN 35 (bA p)):=by
 show(match bA 35 with
  | [c]=>Wb (bN c (bA p))
  |_=>Wc)=_
 rw[show bA 35=[35] from by decide+kernel]
theorem Gc{Z:St}{p:Nat}:dk .In (.str 126) (.str p) Z=Wb (bN 126 (bA p)):=by
 show(match bA 126 with
  | [c]=>Wb (bN c (bA p))
  |_=>Wc)=_
 rw[show bA 126=[126] from by decide+kernel]
noncomputable def jV:List Fi->Nat->List kY
 | [],_=>[]
 |f::r,p=>cond (Wf f.p p) (f.sl.map Sl.imp) (jV r p)
theorem r9:∀{fs:List Fi}{f:Fi},(aL fs).Nodup->f∈fs->jV fs f.p=f.sl.map Sl.imp:=by
 intro c
 induction c with
 |nil=>
  intro _ _ h;exact absurd h WA
 |cons a fs d=>
  intro f b h;obtain⟨h1,g⟩:=Xu.mp (show(a.p::aL fs).Nodup from b);show cond (Wf a.p f.p) _ _=_;clear b;rcases Ww.mp h with h|h
  ·subst h;rw[Wx];rfl
  ·cases e:Wf a.p f.p
   ·exact d g h
   ·exact absurd (Wz.mpr ⟨f,h,(b9 e).symm⟩) h1
section
variable{Z0:St}{d:Nat}{tb:Option Nat}{Q:P->St->Prop}{E:EP}{fs:List Fi}
noncomputable abbrev F2(r:Nat):List (Nat×P):=[(495622842726,.ref (r+1)),(495622906222,.ref (r+2))]
inductive PM(Z:St)(n p:Nat)(a:List (Nat×P)):Prop
 |mk(k:Nat)(h1:get p a=Wb (.ref k))(b:n<k)(c:ai Z k=Wb (.dict [] 0))
inductive RM(Z:St)(n:Nat)(done:List Fi):Prop
 |mk(a:List (Nat×P))(ep:Nat)(h1:ai Z n=Wb (.dict a ep))(b:a.length<=done.length)(c:∀g∈done,PM Z n g.p a)
structure PI(Z0 Z:St)(done:List Fi):Prop where
 k:Keep Z0 Z
 hi:ai Z Z0.length=Wb (.inst bG (F2 Z0.length))
 hf:∃ep,ai Z (Z0.length+1)=Wb (.dict (dm Fi.val done) ep)
 hn:RM Z (Z0.length+2) done
noncomputable abbrev Gd(r:Nat)(l:P)(t:VE):VE:=(1718379891,.ref r)::(495622842726,l)::t
noncomputable abbrev M9(a b:P):VE:=[(1752457584,a),(1684828020,b)]
inductive RN(fs:List Fi)(Z0:St)(r:List P)(m:VE)(d:St):Prop
 |mk(c ar:List Fi)(t:VE)(e:fs=c++ar)(f:r=ar.map bz)(hp:PI Z0 d c)(ht:t=[]\/∃(a:Nat) (b:Fi),t=M9 (.str a) b.val)(g:m=Gd Z0.length (.list (fs.map bz)) t)
theorem Cr{r f:Nat}{l v:P}{t:VE}(c:bc (Gd r l t))(ht:t=[]\/∃(a:Nat) (b:Fi),t=M9 (.str a) b.val):aD (.tup [(1752457584,203012016),(1684828020,203018022)] 0 203012022) (.tup [.str f,v]) (Gd r l t)=Wb (Gd r l (M9 (.str f) v)):=by
 refine(cz c rfl).trans ?_;clear c;rcases ht with h|⟨a,b,h⟩<;>subst h<;>rfl
theorem zv{a ar:List Fi}{f:Fi}(h:(aL (a++f::ar)).Nodup):¬f.p∈aL a:=by
 unfold aL at h;rw[WM] at h;exact fun hd=>(YV.mp h).2.2 f.p hd f.p (WU ..) rfl
theorem RO{a b:Bool}(h:a=b):(!(a==b))=We:=by subst h;induction a<;>rfl
theorem PI.add{b:List Fi}{f:Fi}{a d:St}{c:List (Nat×P)}{ep h:Nat}(m:¬f.p∈aL b)(hp:PI Z0 a b)(hf:ai a (Z0.length+1)=Wb (.dict (dm Fi.val b) ep))(i:ai a (Z0.length+2)=Wb (.dict c h))(n:c.length<=b.length)(o:∀g∈b,PM a (Z0.length+2) g.p c)(k4:Keep (ak a (Z0.length+1) (.dict (dm Fi.val (b++[f])) (c6 ep f.p (dm Fi.val b)))) d)(q:ai d a.length=Wb (.dict [] 0)):PI Z0 (ak d (Z0.length+2) (.dict (put f.p (.ref a.length) c) (c6 h f.p c))) (b++[f]):=by
 have j:=y9 i;refine⟨?_,?_,⟨_,by rw[aB (by exact XZ _)];exact k4 _ _ (aF hf)⟩,⟨_,_,aF (k4 _ _ (by rw[aB (by exact XA (XG _))];exact i)),?_,?_⟩⟩
 ·exact Keep.set (Keep.trans (Keep.set hp.k (pQ (by exact Xp _))) k4) (pQ (by exact W0 _ _))
 ·rw[aB (by exact Y4 (Yg (Wg rfl)))];exact k4 _ _ (by rw[aB (by exact XZ _)];exact hp.hi)
 ·rw[Wu];exact Wj (ji (x:=f.p) (v:=.ref a.length) (l:=c)) (W9 n)
 ·intro g H7;rcases WV.mp H7 with H7|H7
  ·obtain⟨k,e1,e2,e3⟩:=o g H7;refine⟨k,?_,e2,?_⟩
   ·rw[kE,qR fun e=>m (Wz.mpr ⟨g,H7,e.symm⟩)];exact e1
   ·rw[aB (by exact XA e2)];refine k4 _ _ ?_;rw[aB (by exact XA (Nat.lt_of_succ_lt e2))];exact e3
  ·rw[WQ.mp H7];refine⟨a.length,by rw[kE,Wx];rfl,j,?_⟩;rw[aB (by exact XA j)];exact q
theorem Ge(e:qQ fs)(q:∀u,Keep Z0 u->Pk u Z0.length (aL fs) (jV fs) 20->Q .none u):WC ⟨d+17,We,tb⟩ cx [.ref Z0.length,.list (fs.map bz)] (Z0++[.inst bG []]) Q E:=by
 refine WC.of (fn:=gI) rfl rfl rfl rfl (WX.of ?_);refine WK.s (WS.asgA (WE.dict0 (WE.name rfl ?_)));simp only[ib,ia];refine⟨_,_,_,rfl,bH _ _ _,rfl,rfl,rfl,?_⟩;rw[dW];refine WK.s (WS.asgA (WE.dict0 (WE.name rfl ?_)));simp only[ib,ia];refine⟨_,_,_,rfl,bH _ _ _,rfl,rfl,rfl,?_⟩;rw[dW];refine WK.forI [] rfl trivial (RN fs Z0) (Zb:=Z0) (.lst rfl) (fun r m u h=>by cases h with|mk _ _ _ _ _ h=>exact h.k) ⟨[],fs,[],rfl,rfl,⟨.app,bH _ _ _,⟨0,eW⟩,⟨[],0,eW,Xk _,fun g h=>by cases h⟩⟩,.inl rfl,rfl⟩ rfl (fun _=>rfl) ?_ ?_
 ·intro x r m u I F;clear q;obtain⟨w,ar,t,n,B,hp,ht,G⟩:=F
  induction ar using Wv with
  |nil=>cases B
  |cons f ar=>
   injection B with O P;subst O P G;have J:f∈fs:=by rw[n];exact WV.mpr (.inr (WU ..))
   have c:=e.okp f J;have H:¬f.p∈aL w:=zv (n▸e.nd);have hdl:w.length<=20:=by
    have i:=e.l2;rw[n,Wu] at i;exact WZ i
   refine⟨_,Cr I ht,?_⟩;clear I ht;obtain⟨ep,hf⟩:=hp.hf;have K:put f.p f.val (dm Fi.val w)=dm Fi.val (w++[f]):=by rw[v6 (nr▸(dV.mpr H))];unfold dm;rw[WM];rfl
   refine WK.go 7 [.v (.ref (Z0.length+1)),.v (.bool We),.p,.z We,.r,.r,.v (.bool We),.r,.v (.bool We),.r,.v (.bool We),.r,.z We,.z We,.v (.ref (Z0.length+1)),.s _] rfl ⟨bt hp.hi rfl rfl,r8 (mD hf) (by rw[nr,dV.mpr H]),c.k,r8 Jo c.d1,r8 Jp c.d2,r8 Gc c.d3,c.n1,RO c.n2,bt hp.hi rfl rfl,PL hf rfl (by unfold dm;rw[Wp];exact b8 (by exact Wj hdl (Wg rfl))),trivial⟩ ?_;rw[K];clear t c K;obtain⟨R,S,C,o,y⟩:=hp.hn;refine WK.s (WS.asgD (WE.methF (WE.name rfl ⟨_,au (by rw[aB (by exact XZ _)];exact hp.hi) rfl rfl,WL.cons (WE.name rfl (WL.cons (WE.name rfl (WL.nil (FZ ?_ ⟨rfl,rfl⟩ fun T k4 M=>?_)))))⟩)))
   ·unfold Fi.L;rw[Wp];exact Wj (XI (fun s=>!j2 s) f.sl) (Wj (e.l1 f J) (Wg rfl))
   rw[ue] at M ⊢;refine WE.go [.v (.ref (Z0.length+2))] rfl ⟨bt (k4 _ _ (by rw[aB (by exact XZ _)];exact hp.hi)) rfl rfl,trivial⟩ (WE.name rfl ⟨_,_,_,_,rfl,rfl,k4 _ _ (by rw[aB (by exact XA (XG _))];exact C),rfl,b8 (by exact Wj o (Wj hdl (Wg rfl))),?_⟩);exact WK.nils (WK.end ⟨rfl,w++[f],ar,_,by rw[n,Xw];rfl,rfl,hp.add H hf C o y k4 M,.inr ⟨_,_,rfl⟩,rfl⟩)
 ·intro m u F;obtain⟨w,ar,t,n,B,hp,ht,G⟩:=F;have:ar=[]:=Yk.mp B.symm;clear B;subst this;rw[X7] at n;subst n G;obtain⟨ep,hf⟩:=hp.hf;obtain⟨R,S,C,o,y⟩:=hp.hn;have i:=e.l2;have A:bc (Gd Z0.length (.list (fs.map bz)) t)/\eS (.name 1752457584 212052056) (az [(12334,0),(1752457584,0),(1718379891,3)] (Gd Z0.length (.list (fs.map bz)) t))=Wd/\∀p:Nat,∃m1,aD (.name 1752457584 212052056) (.str p) (az [(12334,0),(1752457584,0),(1718379891,3)] (Gd Z0.length (.list (fs.map bz)) t))=Wb m1/\get 1718379891 m1=Wb (.ref Z0.length)/\get 1752457584 m1=Wb (.str p):=by
   clear hp hf C o y i;rcases ht with h|⟨a,b,h⟩<;>subst h<;>exact⟨rfl,rfl,fun p=>⟨_,rfl,rfl,rfl⟩⟩
  refine WK.s (WS.asgA (WE.dcomp rfl A.1 A.2.1 (WE.attr (WE.name rfl ⟨_,bt hp.hi rfl rfl,(aL fs).map .str,.dct ⟨_,_,_,rfl,hf,jl e.nd,?_,mC.symm⟩,?_,?_,fun Z2 k2=>?_⟩))))
  ·unfold dm;rw[Wp];exact b8 (by exact Wj i (Wg rfl))
  ·unfold aL;rw[Wp,Wp];exact b8 (by exact Wj i (Wg rfl))
  ·intro x N Z3 k3;clear ht o i;obtain⟨p,j,U⟩:=Wz.mp N;clear N;subst U;obtain⟨f,l,D⟩:=Wz.mp j;clear j;subst D;obtain⟨m1,V,e1,e2⟩:=A.2.2 f.p;clear A;obtain⟨kn,e3,_,W⟩:=y f l;refine⟨m1,V,WE.name e2 ⟨_,rfl,WE.methF (WE.name e1 ⟨_,au (k3 _ _ hp.hi) rfl rfl,WL.cons (WE.name e2 (WL.nil ?_))⟩)⟩⟩;exact F6 (k3 _ _ hp.hi) (k3 _ _ hf) (k3 _ _ C) e3 (k3 _ _ W) e l fun T k4=>⟨k4,rfl⟩
  ·refine WE.name rfl ⟨_,_,_,rfl,k2 _ _ hp.hi,rfl,rfl,rfl,WK.nils (q _ ((hp.k.trans k2).set (eg _)) ⟨⟨_,_,_,dm Fi.val fs,ep,aF (k2 _ _ hp.hi),?_,jl e.nd,mC,?_⟩,rfl,?_,?_⟩)⟩
   ·rw[aB (by exact XA (XG _))];exact k2 _ _ hf
   ·intro p j;clear o y i A k2;obtain⟨f,l,D⟩:=Wz.mp j;clear Z2 j;subst D;refine⟨f.nm,.tup (f.L.map a8),?_⟩;rw[qP e.nd l,r9 e.nd l];rfl
   ·unfold aL;rw[Wp];exact i
   ·intro p j;clear o y i A k2;obtain⟨f,l,D⟩:=Wz.mp j;clear Z2 j;subst D;rw[r9 e.nd l,Wp];exact e.l1 f l
end
inductive RQ(c:Cx)(x:Nat)(o3:IE)(d:VE)(Q:P->St->Prop)(v:P)(Z1:St):Prop
 |mk (L:List Nat) (b:Nat->Bool) (h1:Src Z1 v (L.map .str)) (e:aq L.length=Wd) (f:∀o∈L,∀a,Keep Z1 a->WT c o3 (put x (.str o) d) a (fun z Z2=>Keep a Z2/\z=b o) yu) (g:∀Z2,Keep Z1 Z2->Q (.list ((L.filter b).map .str)) Z2)
theorem sb{c:Cx}{m:VE}{Z:St}{Q:P->St->Prop}{E:EP}{x p1 p2 p:Nat}{it o3:IE}{sc:List (Nat×Nat)}(hc:c.hd=We)(a:bc m)(hf:eS (.name x p2) (az sc m)=Wd)(d:bc (az sc m))(h:WE c it m Z (RQ c x o3 (az sc m) Q) E):WE c (.comp (.name x p1) [.mk (.name x p2) it [o3]] sc p) m Z Q E:=by
 refine WE.comp hc a hf (W.mono h (fun v Z1 q=>?_) hE);clear p hc a hf;obtain⟨L,b,h1,e,f,g⟩:=q;refine⟨L.map .str,gS b,h1,by rw[Wp];exact e,?_,?_⟩
 ·intro y i n k;clear h1 e g;obtain⟨o,j,r⟩:=Wz.mp i;clear i;subst r;refine⟨_,cB d rfl,WI.one (W.mono (f o j n k) (fun z Z2 q=>?_) hE)⟩;clear p2 d f k j h;obtain⟨k2,hz⟩:=q;clear it o3 Z1 L;subst hz;cases l:b o
  ·refine⟨k2,?_⟩;show cond (b o) _ _=_;rw[l];rfl
  ·refine WE.name (v:=.str o) ?_ ⟨k2,rfl,?_⟩
   ·rw[kE,Wx];rfl
   ·show cond (b o) _ _=_;rw[l];rfl
 ·intro Z2 k;rw[qM];exact g _ k
theorem pS:∀{Z c:St},Keep Z c->c.take Z.length=Z
 | [],_,_=>rfl
 |a::Z,[],h=>by have:=h 0 a rfl;exact aH this
 |a::Z,b::c,h=>by
  have h0:=h 0 a rfl;have h0:=Wi h0;subst h0;show b::c.take Z.length=_;rw[pS (fun k o d=>h (k+1) o d)]
theorem uq{Z a:St}{v:P}(h:Keep Z a)(hv:mU Z.length v=Wd)(b:Z.all (El Z.length)=Wd):fQ Z.length v a=Z:=by
 unfold fQ;rw[pS h,hv,b];rfl
theorem WC.ofG{f d:Nat}{hd:Bool}{tb:Option Nat}{fn:Fn}{vs:List P}{m:VE}{Z:St}{Q:P->St->Prop}{E:EP}(hf:fnT f=Wb fn)(c:fn.g=Wd)(hv:(vs.any P.isExc||(vs.any P.isClo&&fn.sc.any fun e=>Wf e.2 2))=We)(i:fP fn.ps vs fn.ds=Wb m)(h:WX ⟨d,hd,fn.tb⟩ fn.body m Z (fun _ _=>False) (fun v j=>Q v (fQ Z.length v j)) yu):WC ⟨d+1,hd,tb⟩ f vs Z Q E:=by
 have e1:∀n,dG tab (run tab n) ⟨d+1,hd,tb⟩ f vs Z=gc Z.length (mT ((run tab n).ex ⟨d,hd,fn.tb⟩ fn.body m Z)):=fun n=>by
  unfold dG;dsimp only;rw[show tab.fn f=Wb fn from hf];dsimp only;show cond (vs.any P.isExc||(vs.any P.isClo&&fn.sc.any fun e=>Wf e.2 2)) _ _=_;rw[hv];dsimp only[cond];rw[i,c];rfl
 refine W.congr ?_ e1;have h:W (fun n=>(run tab n).ex ⟨d,hd,fn.tb⟩ fn.body m Z) _ yu:=.succ h;clear hf c hv i e1;obtain⟨r,h1,b⟩:=h;refine⟨gc Z.length (mT r),.map (g:=fun r=>gc Z.length (mT r)) h1 rfl,?_⟩;clear f tb vs h h1
 induction r using Mine.R.casesOn with
 |ok a Z=>
  clear d hd fn;obtain⟨fl,m⟩:=a
  induction fl using Mine.Fl.casesOn with
  |next=>exact b.elim
  |ret v=>exact b
 |exc C s w Z=>exact b.elim
 |no=>exact b.elim
noncomputable def nd(f:Fi):List Nat:=(f.sl.map Sl.ot).filter fun o=>!Wf o 1668184435
noncomputable def H9(f:Fi):P:=.list ((nd f).map .str)
noncomputable def Na:P->Option P
 |.tup [_,.str o,_]=>cond (!Wf o 1668184435) (Wb (.str o)) Wc
 |_=>Wc
theorem Ct:∀l:List Sl,((l.map Sl.imp).map eh).filterMap Na=((l.map Sl.ot).filter fun o=>!Wf o 1668184435).map .str:=by
 intro b
 induction b with
 |nil=>
  exact rfl
 |cons s l a=>
  rw[Xs,Xs,Xs,X5,XF,show Na (eh s.imp)=cond (!Wf s.ot 1668184435) (Wb (.str s.ot)) Wc from rfl];cases c:Wf s.ot 1668184435
  ·dsimp only[aeu,cond];rw[a];rfl
  ·dsimp only[aaH,cond];rw[a];rfl
section
variable{Z:St}{d:Nat}{tb:Option Nat}{Q:P->St->Prop}{E:EP}{fs:List Fi}
noncomputable abbrev PO(F:P)(a:Nat)(t:VE):VE:=(495622842726,F)::(495605605742,.ref a)::t
noncomputable abbrev Nb(p:Nat)(v:P):VE:=[(1752457584,.str p),(1684828020,v)]
inductive Nc(fs:List Fi)(Z:St)(r:List P)(m:VE)(c:St):Prop
 |mk(done ar:List Fi)(ep:Nat)(t:VE)(d:fs=done++ar)(e:r=ar.map bz)(f:Keep Z c)(g:ai c Z.length=Wb (.dict (dm H9 done) ep))(ht:(t=[]/\done=[])\/∃(a:Nat) (b:Fi),t=Nb a b.val)(h:m=PO (.list (fs.map bz)) Z.length t)
theorem Cu{c:Cx}{x:P}{r:List P}{m:VE}{q:St}(hc:c.hd=We)(e:qQ fs)(k:bc m)(B:Nc fs Z (x::r) m q):∃m1,aD (.tup [(1752457584,338008012),(1684828020,338014018)] 0 338008018) x m=Wb m1/\WX c (lR (.for (.tup [(1752457584,338008012),(1684828020,338014018)] 0 338008018) (.name 495622842726 338022027) [.asg (.sub (.name 495605605742 339008013) (.name 1752457584 339014018) 339008019) (.comp (.name 491327616111 339023028) [.mk (.tup [(495555538017,339033038),(491327616111,339040045),(1953460339,339047051)] 0 339033051) (.sub (.name 1684828020 339055059) (.int 1 339060061) 339055062) [.cmp .NotEq (.name 491327616111 339066071) (.str 1668184435 339075081) 339066081]] [(12334,0),(495555538017,0),(491327616111,0),(1953460339,0)] 339022082) 339008082] 338004339082)) m1 q (fun u Z2=>bc u/\Nc fs Z r u Z2) (fun _ _=>False) E:=by
 obtain⟨done,ar,ep,t,d,g,l,j,ht,C⟩:=B
 induction ar using Wv with
 |nil=>cases g
 |cons f ar=>
  obtain⟨D,F⟩:=Ye g;subst D F C;have n:f∈fs:=by rw[d];exact WV.mpr (.inr (WU ..))
  have o:¬f.p∈aL done:=zv (d▸e.nd);have hdl:done.length<=20:=by
   have v:=e.l2;rw[d,Wu] at v;exact WZ v
  refine⟨PO (.list (fs.map bz)) Z.length (Nb f.p f.val),?_,?_⟩
  ·refine(cz k rfl).trans ?_;clear hc e k d g l j n o hdl;rcases ht with⟨h,_⟩|⟨a,b,h⟩<;>subst h<;>rfl
  clear k ht;refine WX.cons (WS.asgD (WE.comp hc rfl rfl (WE.sub (WE.name rfl (WE.int ⟨_,rfl,(f.sl.map Sl.imp).map eh,Na,.tup rfl,by rw[Wp,Wp];exact b8 (Wj (e.l1 f n) (Wg rfl)),?_,fun Z2 k2=>?_⟩)))))
  ·intro y w Z3 k3;clear l j o hdl k3 n d g;clear done ar ep t;obtain⟨i,z,G⟩:=Wz.mp w;obtain⟨s,hs,H⟩:=Wz.mp z;clear z hs w;subst G H;refine⟨_,cz rfl rfl,WI.one (WT.of (WE.cmp (WE.name rfl (WE.str ⟨_,rfl,_,rfl,?_⟩))))⟩;show cond (!Wf s.ot 1668184435) _ _;cases A:Wf s.ot 1668184435
   ·refine WE.name rfl ⟨.refl,rfl,?_⟩;show cond (!Wf s.ot 1668184435) _ _=_;rw[A];rfl
   ·refine⟨.refl,?_⟩;show cond (!Wf s.ot 1668184435) _ _=_;rw[A];rfl
  ·rw[Ct];refine WE.name rfl (WE.name rfl ⟨_,_,_,_,rfl,rfl,k2 _ _ j,rfl,by unfold dm;rw[Wp];exact b8 (Wj hdl (Wg rfl)),WX.nil ⟨rfl,done++[f],ar,c6 ep f.p (dm H9 done),Nb f.p f.val,by rw[d,Xw];rfl,rfl,(l.trans k2).set (eg _),(aF (k2 _ _ j)).trans ?_,.inr ⟨_,_,rfl⟩,rfl⟩⟩);rw[v6 (by rw[nr];exact dV.mpr o)];unfold dm;rw[WM];rfl
theorem Cv{c:Cx}{N:VE->St->Prop}{Rt:P->St->Prop}{ss:List IS}(hc:c.hd=We)(f:qQ fs)(q:∀d m ep,Keep Z d->ai d Z.length=Wb (.dict (dm H9 fs) ep)->((m=[(495622842726,.list (fs.map bz)),(495605605742,.ref Z.length)]/\fs=[])\/∃(a:Nat) (b:Fi),m=[(495622842726,.list (fs.map bz)),(495605605742,.ref Z.length),(1752457584,.str a),(1684828020,b.val)])->WX c ss m d N Rt E):
  WX c (.for (.tup [(1752457584,338008012),(1684828020,338014018)] 0 338008018) (.name 495622842726 338022027) [.asg (.sub (.name 495605605742 339008013) (.name 1752457584 339014018) 339008019) (.comp (.name 491327616111 339023028) [.mk (.tup [(495555538017,339033038),(491327616111,339040045),(1953460339,339047051)] 0 339033051) (.sub (.name 1684828020 339055059) (.int 1 339060061) 339055062) [.cmp .NotEq (.name 491327616111 339066071) (.str 1668184435 339075081) 339066081]] [(12334,0),(495555538017,0),(491327616111,0),(1953460339,0)] 339022082) 339008082] 338004339082::ss) [(495622842726,.list (fs.map bz)),(495605605742,.ref Z.length)] (Z++[.dict [] 0]) N Rt E:=by
 refine WX.cons (WS.for hc rfl (fun _=>rfl) (WE.name rfl ⟨fs.map bz,Nc fs Z,Z,.lst rfl,fun r m d e=>?_,⟨[],fs,0,[],rfl,rfl,.app,bH _ _ _,.inl ⟨rfl,rfl⟩,rfl⟩,fun x r m d j e=>Cu hc f j e,fun m d e=>?_⟩))
 ·obtain⟨_,_,_,_,_,_,h,_,_,_⟩:=e;exact h
 ·obtain⟨done,ar,ep,t,g,i,k,l,ht,n⟩:=e;have:ar=[]:=Yk.mp i.symm;clear hc f i;subst this;rw[X7] at g;subst g n;exact q _ _ _ k l (ht.imp (fun h=>⟨by rw[h.1],h.2⟩) fun⟨a,b,h⟩=>⟨a,b,by rw[h]⟩)
end
noncomputable def Nf(fs:List Fi)(p:Nat):List Nat:=((jV fs p).map fun i=>i.2.1).filter fun o=>!Wf o 1668184435
theorem Jr{fs:List Fi}{f:Fi}(h:(aL fs).Nodup)(hf:f∈fs):Nf fs f.p=nd f:=by
 unfold Nf nd;rw[r9 h hf,XB];rfl
theorem ut{fs:List Fi}{p:Nat}(h:(aL fs).Nodup)(hp:p∈aL fs):get p (dm H9 fs)=Wb (.list ((Nf fs p).map .str)):=by
 obtain⟨f,hf,e⟩:=Wz.mp hp;clear hp;subst e;rw[qP h hf,Jr h hf];rfl
noncomputable def Nd(N:Nat->List Nat)(p:Nat):Bool:=@decide (gN N p p) (Yh _)
theorem jm{Z:St}{l:List P}{a:P}(h:l.length<=5000):oZ Z (.list (l++[a])) (.int (-1))=Wb a:=by
 show(tM (-1) (l++[a]).length).bind _=_;rw[Wu,show l.length+[a].length=l.length+1 from rfl,nk h];exact qO _ _
theorem zw{Z:St}{s c:Nat}(hc:bA c=[c])(h:(aq (bA s).length&& (bA s).all fun k=>!Wf k 0)=Wd):methB (.str s) fK [.str c] Z=.ok (.list (((bh c (bA s)).map b7).map .str)) Z:=by
 show ofO (one (bA c)) _=_;rw[hc];show cond (aq (bA s).length&& (bA s).all fun k=>!Wf k 0) _ _=_;rw[h,XB];rfl
theorem Cw{Z:St}{s:Nat}(h:(aq (bA s).length&& (bA s).all fun k=>!Wf k 0)=Wd):methB (.str s) fK [.str 32] Z=.ok (.list (((bh 32 (bA s)).map b7).map .str)) Z:=zw (by decide+kernel) h
theorem xo{Z:St}{l:List Nat}(h:l.length<64):callB We fh We [.list (l.map .str)] Z=.ok (.list ((cg l).map .str)) Z:=by
 rw[r3 rfl (Wy h)];unfold gY;rw[Wp,iW,b8 (by exact Wj (Xj h) (Wg rfl))];rfl
theorem xp{Z:St}{n ep:Nat}{es:List (Nat×P)}{l:List Nat}(b:ai Z n=Wb (.dict es ep))(c:aW es=Wd)(a:keys es=l.map .str)(h:l.length<64):callB We fh We [.ref n] Z=.ok (.list ((cg l).map .str)) Z:=by
 have d:es.length=l.length:=by
  have:=congrArg Y0 a
  rwa [keys,Wp,Wp] at this
 have e:items Z (.ref n)=Wb (l.map .str):=by
  show ML (ai Z n)=_;rw[b];show cond _ _ _=_;rw[c,d,b8 (by exact Wj (Xj h) (Wg rfl)),a];rfl
 show ofO (items Z (.ref n)) _=_;rw[e];show ofO (dA (l.map .str)) _=_;rw[hY];show cond (WR l.length 64) (gY We ((cg l).map .str) Z) _=_;rw[show WR l.length 64=Wd from Wy h];show gY We ((cg l).map .str) Z=_;unfold gY;rw[Wp,iW,b8 (by exact Wj (Xj h) (Wg rfl))];rfl
theorem Cy{Z:St}(l:List Nat):dk .NotEq (.list (l.map .str)) (.list (l.map .str)) Z=Wb We:=by
 have h:∀l:List Nat,qD (rH 29 Z) (l.map .str) (l.map .str)=Wb Wd:=by
  intro l
  induction l with
  |nil=>rfl
  |cons a l b=>
   show((rH 29 Z (.str a) (.str a)).bind fun x=>(qD (rH 29 Z) (l.map .str) (l.map .str)).map fun y=>x&&y)=_;rw[b,show rH 29 Z (.str a) (.str a)=Wb (Wf a a) from rfl,Wx];rfl
 show adp not (cond (Wf (l.map P.str).length (l.map P.str).length) (qD (rH 29 Z) (l.map .str) (l.map .str)) (Wb We))=_;rw[Wx,h];rfl
theorem nA{Z:St}{s:Nat}{l:List Nat}:dk .NotIn (.str s) (.list (l.map .str)) Z=Wb (!(l.any fun y=>Wf y s)):=by
 show(mem s (l.map .str)).map not=_;rw[mem_map];rfl
theorem v8{Z:St}{s:Nat}{l:List Nat}:dk .In (.str s) (.list (l.map .str)) Z=Wb (l.any fun y=>Wf y s):=mem_map
theorem zx{Z:St}{a post:List P}{x:P}(h:(a++x::post).length<=5000):dQ Z (.list (a++x::post)) Wc (Wb (.int a.length))=Wb (.list a):=by
 have d:(a++x::post).length=a.length+(post.length+1):=by rw[Wu];rfl
 have c:a.length< (a++x::post).length:=d▸Yg (XU _);show lc (aq (a++x::post).length) ((cond (WR a.length (2 ^ 64)) (Wb (cond (WR a.length (a++x::post).length) a.length (a++x::post).length)) Wc).bind fun b=>Wb (P.list (cut (a++x::post) 0 b)))=_;rw[b8 h,show WR a.length (2 ^ 64)=Wd from Wy (Wj c (qC h rfl)),show WR a.length (a++x::post).length=Wd from Wy c];show Wb (P.list (((a++x::post).drop 0).take (a.length - 0)))=_;simp
theorem xq{Z:St}{b post:List P}{x:P}(h:(b++x::post).length<=5000):dQ Z (.list (b++x::post)) (Wb (.int ((b.length+1:Nat):Int))) (Wb (.int (-1)))=Wb (.list post.dropLast):=by
 have d:(b++x::post).length=b.length+(post.length+1):=by rw[Wu];rfl
 have c:b.length< (b++x::post).length:=d▸Yg (XU _);show lc (aq (b++x::post).length) ((cond (WR (b.length+1) (2 ^ 64)) (Wb (cond (WR (b.length+1) (b++x::post).length) (b.length+1) (b++x::post).length)) Wc).bind fun a=>Wb (P.list (cut (b++x::post) a (cond (WR 0 (b++x::post).length) ((b++x::post).length - (0+1)) 0))))=_;rw[b8 h,show WR (b.length+1) (2 ^ 64)=Wd from Wy (Wj (W9 c) (qC (W9 h) rfl)),show WR 0 (b++x::post).length=Wd from Wy (Xi (Xz _) c)];show Wb (P.list (((b++x::post).drop (cond (WR (b.length+1) (b++x::post).length) (b.length+1) (b++x::post).length)).take ((b++x::post).length - (0+1) - (cond (WR (b.length+1) (b++x::post).length) (b.length+1) (b++x::post).length))))=_;have e:cond (WR (b.length+1) (b++x::post).length) (b.length+1) (b++x::post).length=b.length+1:=by
  cases f:WR (b.length+1) (b++x::post).length
  ·show(b++x::post).length=_;have:¬b.length+1< (b++x::post).length:=fun h=>by
    rw[show WR (b.length+1) (b++x::post).length=Wd from Wy h] at f;exact gB f
   exact aaT (Yq this) c
  ·rfl
 rw[e,d,show b.length+(post.length+1) - (0+1) - (b.length+1)=post.length - 1 by show b.length+post.length - (b.length+1)=_;rw[<-Nat.sub_sub,Nat.add_sub_cancel_left],show(b++x::post).drop (b.length+1)=post from by rw[<-List.drop_drop,List.drop_left];rfl,<-List.dropLast_eq_take]
section
variable{Z:St}{d:Nat}{tb:Option Nat}{Q:P->St->Prop}{E:EP}{fs:List Fi}
theorem ek{k:Nat}{v:P}{l:List P}:fi k (v::l)=.tup [.int k,v]::fi (k+1) l:=rfl
noncomputable def Ng:List IS:=lR (B1 dS 5)
noncomputable abbrev oM(F:P)(a b:Nat)(x l:P)(t:VE):VE:=(495622842726,F)::(495605605742,.ref a)::(1752457584,x)::(1684828020,l)::(495656528242,.list [])::(8315165955120652656,.ref b)::t
noncomputable abbrev oT(k:Nat)(a b:List P):VE:=[(107,.int k),(431130765409,.list a),(491328397676,.list b)]
inductive OI(fl:List Nat)(F:P)(a b:Nat)(d:St)(r:List P)(m:VE)(e:St):Prop
 |mk(c ar:List Nat)(x:Nat)(t:VE)(h:fl=c++ar)(i:r=fi c.length (ar.map .str))(j:Keep d e)(ht:t=[]\/∃k f g,t=oT k f g)(l:m=oM F a b (.str x) (.list (fl.map .str)) t)
inductive OB(F:P)(a b:Nat)(l:P)(k:Nat)(y:P)(m m1:VE):Prop
 |mk(e:aD (.tup [(107,347008009),(1752457584,347011015)] 0 347008015) (.tup [.int k,y]) m=Wb m1)(f:bc m1)(g:get 1684828020 m1=Wb l)(h:get 107 m1=Wb (.int k))(i:eS (.name 6647407 348043046) (az [(12334,0),(6647407,0),(1752457584,3)] m1)=Wd)(j:bc (az [(12334,0),(6647407,0),(1752457584,3)] m1))
  (n:∀v,get 6647407 (put 6647407 v (az [(12334,0),(6647407,0),(1752457584,3)] m1))=Wb v) (o:∀v,get 1752457584 (put 6647407 v (az [(12334,0),(6647407,0),(1752457584,3)] m1))=Wb y) (p:∀c d:List P,aD.go [(431130765409,348008013),(491328397676,348015020)] [.list c,.list d] m1=oM F a b y l (oT k c d))
theorem Cz{fl:List Nat}{L:List P}{a b k y x:Nat}{t:VE}(e:bc (oM (.list L) a b (.str x) (.list (fl.map .str)) t))(ht:t=[]\/∃k c d,t=oT k c d):∃m1,OB (.list L) a b (.list (fl.map .str)) k (.str y) (oM (.list L) a b (.str x) (.list (fl.map .str)) t) m1:=by
 rcases ht with h|⟨k,c,d,h⟩<;>subst h<;>exact⟨_,cz e rfl,rfl,rfl,rfl,rfl,rfl,fun _=>rfl,fun _=>rfl,fun _ _=>rfl⟩
theorem xr{a ar:List Nat}{y:Nat}(h:(a++y::ar).length<=20):(a.map P.str++P.str y::ar.map P.str).length<=5000/\ar.dropLast.length<=5000:=by
 rw[Wu,Xa] at h;rw[Wu,Xa,Wp,Wp,List.length_dropLast];exact⟨Wj h (Wg rfl),Wj (Wj (Nat.sub_le _ _) (Wj (Xp _) (Wj (Yy _ _) h))) (Wg rfl)⟩
theorem xt{fs:List Fi}{a:List Nat}{y:Nat}(h:∀o∈Nf fs y,o∈a):(Nf fs y).filter (fun o=>!(a.any fun w=>Wf w o))=[]:=by
 rw[YP];intro o c b;rw[fW.mpr (h o c)] at b;exact dg b
theorem xu{fs:List Fi}{a l:List Nat}{y:Nat}(h:∀z∈l,fF z y=Wd->∃o∈Nf fs z,¬o∈a):(l.filter fun z=>fF z y).filter (fun z=>((Nf fs z).filter fun o=>!(a.any fun w=>Wf w o)).isEmpty)=[]:=by
 rw[YP];intro z hz b;obtain⟨o,c,d⟩:=h z (W1.mp hz).1 (W1.mp hz).2;rw[aaE,YP] at b;exact b o c (by rw[dV.mpr d];rfl)
structure EA(fs:List Fi)(pr:List Nat)(y:Nat)(ar:List Nat):Prop where
 k:y∈aL fs
 n:∀o∈Nf fs y,o∈pr
 m:∀z∈ar.dropLast,z∈aL fs
 l:∀z∈ar.dropLast,fF z y=Wd->∃o∈Nf fs z,¬o∈pr
theorem CA{b r:Nat}{fl a ar:List Nat}{y ep:Nat}{c:St}{m m1:VE}{N:VE->St->Prop}{Rt:P->St->Prop}(s:qQ fs)(L:∀p∈aL fs,(Nf fs p).length<=10000)(t:fl=a++y::ar)(M:fl.length<=20)(ob:OB (.list (fs.map bz)) b r (.list (fl.map .str)) a.length (.str y) m m1)(st:EA fs a y ar)
  (O:ai c b=Wb (.dict (dm H9 fs) ep)) (q:∀Z2 (Q R:List P),Keep c Z2->N (oM (.list (fs.map bz)) b r (.str y) (.list (fl.map .str)) (oT a.length Q R)) Z2):WX ⟨d,We,tb⟩ Ng m1 c N Rt E:=by
 obtain⟨_,e,f,g,u,v,x,A,B⟩:=ob;have C:fl.map P.str=a.map .str++ .str y::ar.map .str:=by rw[t,WM];rfl
 have D:(a.map P.str).length=a.length:=Wp ..;obtain⟨F,G⟩:=xr (t▸M);refine WX.cons (WS.asg rfl (WE.tup (WL.cons (WE.slice (WE.name f (WO.none (WO.some (WE.name g ⟨.list (a.map .str),by rw[C,<-D];exact zx F,WL.cons ?_⟩))))))));refine sb rfl e u v (WE.slice (WE.name f (WO.some (WE.bin (WE.name g (WE.int ⟨.int ((a.length+1:Nat):Int),rfl,WO.some (WE.neg ⟨.list (ar.dropLast.map .str),by rw[C,<-D,List.map_dropLast];exact xq F,?_⟩)⟩))))));refine⟨ar.dropLast,fun z=>fF z y,.lst rfl,b8 G,?_,fun S h=>WL.nil ⟨rfl,_,cz e rfl,?_⟩⟩
 ·exact fun z hz S h=>WT.of (WE.cmp (WE.name (x _) (WE.name (A _) ⟨_,rfl,_,rfl,.refl,rfl⟩)))
 rw[B];clear e f g u v x A B;have H:∀z∈aL fs,aq (Nf fs z).length=Wd:=fun z hz=>Wy (L z hz);have I:=h _ _ O;refine WX.cons (WS.ifs (WT.of (WE.cmp (sb rfl rfl rfl rfl (WE.sub (WE.name rfl (WE.name rfl ⟨_,dU I (ut s.nd st.k),Nf fs y,fun o=>!(a.any fun w=>Wf w o),.lst rfl,H y st.k,?_,fun T i=>WE.listF (WL.nil ⟨rfl,rfl,_,uk,_,rfl,?_⟩)⟩)))))))
 ·exact fun o _ T i=>WT.of (WE.cmp (WE.name rfl (WE.name rfl ⟨_,nA,_,rfl,.refl,rfl⟩)))
 rw[eZ,xt st.n];refine WX.nil (WX.cons (WS.ifs (WT.of (WE.cmp (sb rfl rfl rfl rfl (WE.name rfl ⟨ar.dropLast.filter fun z=>fF z y,fun z=>((Nf fs z).filter fun o=>!(a.any fun w=>Wf w o)).isEmpty,.lst rfl,b8 (Wj (XI _ _) G),?_,fun U j=>WE.listF (WL.nil ⟨rfl,rfl,_,uk,_,rfl,?_⟩)⟩))))))
 ·intro z hz U j;have J:=st.m z (W1.mp hz).1;refine WT.of (WE.cmp (sb rfl rfl rfl rfl (WE.sub (WE.name rfl (WE.name rfl ⟨_,dU (j _ _ (i _ _ I)) (ut s.nd J),Nf fs z,fun o=>!(a.any fun w=>Wf w o),.lst rfl,H z J,?_,fun V K=>WE.listF (WL.nil ⟨rfl,rfl,_,uj,_,rfl,K,eZ⟩)⟩)))));exact fun o _ V K=>WT.of (WE.cmp (WE.name rfl (WE.name rfl ⟨_,nA,_,rfl,.refl,rfl⟩)))
 exact eZ▸(xu st.l)▸(WX.nil (WX.nil (q _ _ _ ((h.trans i).trans j))))
theorem CB{e j:Nat}{fl tP:List Nat}{x:Nat}{ep:Nat}{f:St}{N:VE->St->Prop}{Rt:P->St->Prop}(l:qQ fs)(z:∀p∈aL fs,(Nf fs p).length<=10000)(v:fl=tP++[bq])(A:cg fl=cg (aL fs))(g:fl.length<=20)(B:∀c x post,fl=c++x::post->EA fs c x post)
  (w:ai f e=Wb (.dict (dm H9 fs) ep)) (q:∀h,Keep f h->Rt (.bool Wd) h):WX ⟨d,We,tb⟩ (dS.drop 4) (oM (.list (fs.map bz)) e j (.str x) (.list (fl.map .str)) []) f N Rt E:=by
 have C:=l.l2;refine WX.cons (WS.ifs (WT.of (WE.bop (WB.or (WT.of (WE.cmp (WE.name rfl (WE.listF (WL.nil ⟨rfl,rfl,_,uk,_,rfl,?_⟩)))))))));refine WB.or (WT.of (WE.cmp (WE.sub (WE.name rfl (WE.neg ⟨.str bq,?_,WE.str ⟨_,rfl,_,rfl,?_⟩⟩)))))
 ·rw[v,WM];refine jm ?_;rw[Wp];rw[v,Wu] at g;exact Wj (WZ g) (Wg rfl)
 refine WB.last (WT.of (WE.cmp (WE.callB rfl rfl rfl (WL.cons (WE.name rfl (WL.nil ⟨_,_,xo (by exact Xi g (Wg rfl)),WE.callB rfl rfl rfl (WL.cons (WE.name rfl (WL.nil ⟨_,_,xp w (jl l.nd) mC (by rw[show(aL fs).length=fs.length from Wp ..];exact Xi C (Wg rfl)),?_⟩)))⟩))))));rw[A];refine⟨_,Cy _,_,rfl,_,rfl,WX.nil ?_⟩;refine WX.cons (WS.forE rfl rfl (WE.name rfl ⟨fl.map .str,OI fl (.list (fs.map bz)) e j f,rfl,⟨[],fl,x,[],rfl,rfl,.refl,.inl rfl,rfl⟩,?_,?_⟩))
 ·intro u r m h D n;obtain⟨c,ar,x,t,o,s,i,ht,F⟩:=n;subst F
  induction ar using Wv with
  |nil=>cases s
  |cons y ar=>
   obtain⟨m1,ob⟩:=Cz (a:=e) (b:=j) (L:=fs.map bz) (k:=c.length) (y:=y) D ht;rw[(Ye (s.trans (by rw[Xs,ek]))).1];refine⟨m1,ob.1,CA l z o g ob (B _ _ _ o) (i _ _ w) fun Z2 G H k2=>⟨rfl,c++[y],ar,y,_,by rw[o,Xw];rfl,by rw[(Ye (s.trans (by rw[Xs,ek]))).2,Wu];rfl,i.trans k2,.inr ⟨_,_,_,rfl⟩,rfl⟩⟩
 ·intro m h n;obtain⟨_,_,_,_,_,_,i,_,_⟩:=n;exact WX.cons (WS.ret (WE.bool (q _ i)))
theorem zy(N:Z.all (El Z.length)=Wd)(c:qQ fs)(O:fs≠ [])(F:∀p∈aL fs,(Nf fs p).length+ws (Nf fs) [] (aL fs)<=10000)(G:∀q∈aL fs,∀o∈Nf fs q,o∈aL fs)
  (P:∀fl lf,Kh (jV fs) (cI (aL fs)) fl lf->lf.filter (rdy (jV fs) fl)=[]->∀p∈lf,∃o r,wt (jV fs) fl p=o::r/\o∈lf)
  (R:∀fl h0 lf,Kh (jV fs) (cI (aL fs)) fl (h0::lf)->(h0::lf).filter (rdy (jV fs) fl)=[]->iV (nx (jV fs) fl) (h0::lf).length h0∈aL fs/\gN (Nf fs) (iV (nx (jV fs) fl) (h0::lf).length h0) (iV (nx (jV fs) fl) (h0::lf).length h0))
  (S:∀fl,Kh (jV fs) (cI (aL fs)) fl []->(∀p∈aL fs,¬gN (Nf fs) p p)/\(∃tP,fl=tP++[bq])/\cg fl=cg (aL fs)/\fl.length<=20/\∀i x post,fl=i++x::post->x∈aL fs/\(∀o∈Nf fs x,o∈i)/\∀y∈post.dropLast,y∈aL fs/\(fF y x=Wd->∃o∈Nf fs y,¬o∈i))
  (q:Q (.bool Wd) Z):WC ⟨d+18,We,tb⟩ cE [.list (fs.map bz)] Z Q E:=by
 refine WC.ofG (fn:=fp) rfl rfl rfl rfl ?_;have fin:∀j,Keep Z j->Q (.bool Wd) (fQ Z.length (.bool Wd) j):=fun j k=>by rw[uq k rfl N];exact q
 have T:(aL fs).length=fs.length:=by unfold aL;rw[Wp]
 have n:=c.l2;refine WX.cons (WS.asg rfl (WE.dict0 ⟨_,rfl,?_⟩));refine Cv rfl c fun Z1 m ep v s w=>?_;rcases w with⟨_,h⟩|⟨a,b,w⟩
 ·exact absurd h O
 subst w;refine WX.cons (WS.asg rfl (WE.tup (WL.cons (sb rfl rfl rfl rfl (WE.name rfl ⟨aL fs,Nd (Nf fs),.dct ⟨_,_,_,rfl,s,jl c.nd,?_,mC.symm⟩,b8 (Wj (Xo T) (qC n rfl)),?_,fun Z2 k2=>WL.cons (WE.new rfl (WL.cons (WE.name rfl (WL.nil (Ge c fun Z3 k3 t=>⟨rfl,WL.nil ⟨rfl,_,rfl,?_⟩⟩)))))⟩)))))
 ·unfold dm;rw[Wp];exact b8 (by exact Wj n (Wg rfl))
 ·intro o A j k;refine WT.of (WE.cmp (WE.name rfl (WE.call rfl rfl (WL.cons (WE.name rfl (WL.cons (WE.name rfl (WL.nil ?_))))))));refine Je (k _ _ s) (fun q U=>ut c.nd U) G A (F o A) fun H fd k4 I B=>?_;refine⟨_,v8,_,rfl,k4,?_⟩;unfold Nd;clear fin n v s a b A k q k4 B;cases J:fd.any fun y=>Wf y o
  ·exact(@decide_eq_false _ (Yh _) (fun h=>dV.mp J ((I o).mpr h))).symm
  ·exact(@decide_eq_true _ (Yh _) ((I o).mp (fW.mp J))).symm
 have C:Keep Z Z3:=(v.trans k2).trans k3;have V:=t;clear G n v q;obtain⟨⟨rf,rn,W,es,vV,h1,_⟩,_⟩:=V;refine WX.cons (WS.tryA rfl rfl rfl rfl (WE.methF (WE.name rfl ⟨_,au h1 rfl rfl,WL.nil (Ce t (by exact Yy _ _) P ?_ ?_ ?_)⟩)))
 ·intro p hp;clear k3 C t h1;obtain⟨f,hf,e⟩:=Wz.mp hp;clear rn W hp;subst e;exact(c.okp f hf).ft
 ·
  intro H fl k4 u;clear t h1;obtain⟨X,⟨tP,Y⟩,Nh,B,uu⟩:=S fl u;refine⟨_,rfl,?_⟩;rw[show(aL fs).filter (Nd (Nf fs))=[] from by
   rw[YP];intro p hp h;exact X p hp (@of_decide_eq_true _ (Yh _) h)]
  exact CB c (fun p hp=>WZ (F p hp)) Y Nh B (fun i x post e=>by obtain⟨s1,s2,s3⟩:=uu i x post e;exact⟨s1,s2,fun z h=>(s3 z h).1,fun z h=>(s3 z h).2⟩) (k4 _ _ (k3 _ _ (k2 _ _ s))) fun j k=>fin _ ((C.trans k4).trans k)
 ·
  intro H fl h0 lf k4 u K;clear h1;obtain⟨D,L⟩:=R fl h0 lf u K;generalize iV (nx (jV fs) fl) (h0::lf).length h0=M at D L;clear u K;obtain⟨f,hf,e⟩:=Wz.mp D;have g:=c.okp f hf;rw[e] at g;clear fl h0 lf hf e;obtain⟨l,v9,R2⟩:=g.sp;refine⟨rfl,WX.cons (WS.ret (WE.cmp (WE.sub (WE.methB (WE.attr (WE.name rfl ⟨_,rfl,rfl,rfl,WL.cons (WE.str (WL.nil ⟨_,_,Cw g.sf,?_⟩))⟩))))))⟩;rw[v9,WM];refine WE.neg ⟨_,jm (by rw[Wp];exact R2),WE.name rfl ⟨_,v8,rfl,?_⟩⟩;rw[fW.mpr (W1.mpr ⟨D,@decide_eq_true _ (Yh _) L⟩)];exact fin _ (C.trans k4)
end
theorem qT{a b:Nat}:WR a b=Wd↔a<b:=⟨fun h=>Wg h,fun h=>Wy h⟩
theorem xw:∀{a b c:List Nat},vz a b=Wd->vz b c=Wd->vz a c=Wd:=by
 intro a
 induction a with
 |nil=>
  intro b c h1 d
  induction c using Wv with
  |nil=>induction b<;>exact dg d
  |cons=>rfl
 |cons x a e=>
  intro b c h1 d
  induction b using Wv with
  |nil=>exact dg h1
  |cons y b=>
  induction c using Wv with
  |nil=>exact dg d
  |cons z c=>
  have h1:cond (Wf x y) (vz a b) (WR x y)=Wd:=h1;have d:cond (Wf y z) (vz b c) (WR y z)=Wd:=d;show cond (Wf x z) (vz a c) (WR x z)=Wd;cases e1:Wf x y<;>cases e2:Wf y z<;>rw[e1] at h1<;>rw[e2] at d
  ·have h1:=qT.mp h1;have d:=qT.mp d;rw[show Wf x z=We from by
    cases h:Wf x z
    ·rfl
    ·exact absurd (b9 h) (XA (YQ h1 d))]
   exact qT.mpr (by exact YQ h1 d)
  ·have:=b9 e2;clear e2 d;clear d;subst this;rw[e1];exact h1
  ·have:=b9 e1;clear e1 h1;clear h1;subst this;rw[e2];exact d
  ·have:=b9 e1;clear e1;subst this;rw[e2];exact e h1 d
theorem CC:∀{a:List Nat},vz a a=We:=by
 intro b
 induction b with
 |nil=>
  exact rfl
 |cons x a c=>
  show cond (Wf x x) (vz a a) (WR x x)=We;rw[Wx];exact c
theorem jn{a b c:Nat}(h:fF a b=Wd)(d:fF b c=Wd):fF a c=Wd:=xw h d
theorem iY{a b:Nat}(h:fF a b=Wd):fF b a=We:=by
 cases c:fF b a
 ·rfl
 ·have d:vz (bA a) (bA a)=Wd:=jn h c;exact dg (CC.symm.trans d)
theorem a9{x y:Nat}{l:List Nat}:fG x (y::l)=cond (fF x y) (x::y::l) (y::fG x l):=rfl
theorem xx{x y:Nat}(h:fF x y=Wd\/fF y x=Wd\/x=y):∀l:List Nat,fG x (fG y l)=fG y (fG x l):=by
 intro c
 induction c with
 |nil=>
  show fG x [y]=fG y [x];rw[a9,a9];rcases h with h|h|h
  ·rw[h,iY h];rfl
  ·rw[h,iY h];rfl
  ·subst h;rfl
 |cons z l d=>
  rw[a9,a9 (x:=x)];cases h1:fF x z<;>cases a:fF y z<;>dsimp only[cond]
  ·rw[a9,a9 (x:=y),h1,a];dsimp only[cond];rw[d]
  ·rw[a9 (x:=x),a9 (x:=y) (y:=z),a];have:fF x y=We:=by
    cases b:fF x y
    ·rfl
    ·rw[jn b a] at h1;exact gB h1
   rw[this];dsimp only[cond];rw[a9,h1];rfl
  ·rw[a9 (x:=x),h1,a9 (x:=y)];have:fF y x=We:=by
    cases b:fF y x
    ·rfl
    ·rw[jn b h1] at a;exact gB a
   rw[this];dsimp only[cond];rw[a9,a];rfl
  ·rw[a9,a9 (x:=y)];rcases h with h|h|h
   ·rw[h,iY h];dsimp only[cond];rw[a9,a];rfl
   ·rw[h,iY h];dsimp only[cond];rw[a9,h1];rfl
   ·subst h;rfl
theorem xy{l e:List Nat}(h:l.Perm e)(t:∀x∈l,∀y∈l,fF x y=Wd\/fF y x=Wd\/x=y):cg l=cg e:=by
 induction h with
 |nil=>rfl
 |cons a _ f=>exact congrArg (fG a) (f fun x c y d=>t x (W8 _ c) y (W8 _ d))
 |swap a b l=>exact xx (t _ (WU ..) _ (W8 _ (WU ..))) _
 |trans h1 _ g i=>exact(g t).trans (i fun x c y d=>t x (h1.mem_iff.mpr c) y (h1.mem_iff.mpr d))
theorem sg(x:Nat):∀l:List Nat,(fG x l).Perm (x::l):=by
 intro a
 induction a with
 |nil=>
  exact .refl _
 |cons y l b=>
  rw[a9];cases fF x y
  ·exact((b).cons y).trans (.swap x y l)
  ·exact .refl _
theorem fw:∀l:List Nat,(cg l).Perm l:=by
 intro a
 induction a with
 |nil=>
  exact .refl _
 |cons x l b=>
  exact(sg x _).trans ((b).cons x)
theorem ie(ks:List Nat):(cI ks).Perm ks:=by
 unfold cI;refine((fw _).append_right _).trans ?_
 induction ks with
 |nil=>exact .refl _
 |cons a l b=>
  rw[XF,XF];cases Wf a bq
  ·exact b.cons a
  ·exact(List.perm_middle).trans (b.cons a)
theorem qU{s:Nat}:∀{l:List Nat},s∈l->l.Perm (s::er s l)
 | [],h=>by cases h
 |a::r,h=>by
  show(a::r).Perm (s::cond (Wf a s) r (a::er s r));cases e:Wf a s
  ·have:s∈r:=by
    rcases Ww.mp h with h|h
    ·subst h;rw[Wx] at e;exact gB e
    ·exact h
   exact((qU this).cons a).trans (.swap ..)
  ·have:=b9 e;clear e h;subst this;exact .refl _
theorem qV{s:Nat}:∀{l:List Nat},(er s l).Sublist l
 | []=>.slnil
 |a::r=>by
  show(cond (Wf a s) r (a::er s r)).Sublist (a::r);cases Wf a s
  ·exact qV.cons₂ a
  ·exact List.sublist_cons_self ..
theorem CD:∀l:List Nat,(cg l).Pairwise fun a b=>fF b a=We:=by
 intro c
 induction c with
 |nil=>
  exact .nil
 |cons x l d=>
  have h:∀l:List Nat,l.Pairwise (fun a b=>fF b a=We)->(fG x l).Pairwise fun a b=>fF b a=We:=by
   intro l
   induction l with
   |nil=>intro _;exact .cons (fun _ h=>by cases h) .nil
   |cons y l f=>
    intro hp;obtain⟨h1,g⟩:=Yb.mp hp;rw[a9];cases e:fF x y
    ·refine .cons (fun z hz=>?_) (f g);clear hp;rcases Ww.mp ((sg x l).mem_iff.mp hz) with h|h
     ·subst h;exact e
     ·exact h1 z h
    ·refine .cons (fun z hz=>?_) hp;clear hp;rcases Ww.mp hz with h|h
     ·subst h;exact iY e
     ·cases e2:fF z x
      ·rfl
      ·have:=h1 z h;rw[jn e2 e] at this;exact gB this
  exact h _ (d)
theorem Gg{o:Nat}:∀{is:List kY}{b:List Nat},o∈tk b is↔o∈b\/(oU o=We/\∃i∈is,i.2.1=o):=by
 intro d
 induction d with
 |nil=>
  intro b;show o∈b↔_;simp
 |cons f is c=>
  obtain⟨a,x,s⟩:=f;intro b;show o∈cond (!oU x&&!(b.any fun y=>Wf y x)) (tk (b++[x]) is) (tk b is)↔_;cases h1:oU x
  ·cases g:b.any fun y=>Wf y x
   ·show o∈tk (b++[x]) is↔_;rw[c,WV,WQ];constructor
    ·rintro((h|h) |⟨h,i,hi,e⟩)
     ·exact .inl h
     ·subst h;exact .inr ⟨h1,_,WU ..,rfl⟩
     ·exact .inr ⟨h,i,W8 _ hi,e⟩
    ·rintro(h|⟨h,i,hi,e⟩)
     ·exact .inl (.inl h)
     ·rcases Ww.mp hi with hi|hi
      ·subst hi;exact .inl (.inr e.symm)
      ·exact .inr ⟨h,i,hi,e⟩
   ·show o∈tk b is↔_;rw[c];constructor
    ·rintro(h|⟨h,i,hi,e⟩)
     ·exact .inl h
     ·exact .inr ⟨h,i,W8 _ hi,e⟩
    ·rintro(h|⟨h,i,hi,e⟩)
     ·exact .inl h
     ·rcases Ww.mp hi with hi|hi
      ·subst hi;subst e;exact .inl (fW.mp g)
      ·exact .inr ⟨h,i,hi,e⟩
  ·show o∈tk b is↔_;rw[c];constructor
   ·rintro(h|⟨h,i,hi,e⟩)
    ·exact .inl h
    ·exact .inr ⟨h,i,W8 _ hi,e⟩
   ·rintro(h|⟨h,i,hi,e⟩)
    ·exact .inl h
    ·rcases Ww.mp hi with hi|hi
     ·subst hi;subst e;exact gB (h1.symm.trans h)
     ·exact .inr ⟨h,i,hi,e⟩
noncomputable abbrev RR(x y:Nat):Prop:=x≠bq/\(y=bq\/fF y x=We)
theorem zA{ks:List Nat}(f:ks.Nodup):(cI ks).Pairwise RR:=by
 unfold cI;refine List.pairwise_append.mpr ⟨?_,?_,?_⟩
 ·refine Y9 ?_ (CD (ks.filter fun p=>!Wf p bq));intro a b c d h;refine⟨?_,.inr h⟩;have:=(W1.mp ((fw _).mem_iff.mp c)).2;intro e;clear f c d h;subst e;rw[Wx] at this;exact dg this
 ·have h:=f.filter (fun p=>Wf p bq);refine Y9 ?_ h;intro a b c d h;exact absurd ((b9 (W1.mp c).2).trans (b9 (W1.mp d).2).symm) h
 ·intro a c b d;refine⟨?_,.inl (b9 (W1.mp d).2)⟩;have:=(W1.mp ((fw _).mem_iff.mp c)).2;intro e;clear f c d;subst e;rw[Wx] at this;exact dg this
theorem Gh:∀(l:List Nat){lf:List Nat},l.Nodup->(∀x∈l,x∈lf)->l.length<=lf.length:=by
 intro f
 induction f with
 |nil=>
  intro _ _ _;exact Xz _
 |cons a l g=>
  intro lf c h;obtain⟨h1,i⟩:=Xu.mp c;have b:=h a (WU ..);have:=qN b;have:=g (lf:=er a lf) i fun x d=>by
   have:=(qU b).mem_iff.mp (h x (W8 _ d));clear c h b;rcases Ww.mp this with e|e
   ·subst e;exact absurd d h1
   ·exact e
  exact qN b▸W9 this
theorem jo(f:Nat->Nat):∀(a b x:Nat),iV f (a+b) x=iV f b (iV f a x):=by
 intro c
 induction c with
 |zero=>
  intro b x;rw[XW];rfl
 |succ a d=>
  intro b x;rw[show a+1+b=(a+b)+1 by exact aba _ _ _];exact d b (f x)
theorem zB{f:Nat->Nat}{lf:List Nat}{h0:Nat}(c:∀x∈lf,f x∈lf)(d:h0∈lf):∃k,iV f (k+1) (iV f lf.length h0)=iV f lf.length h0:=by
 have h:∀k,iV f k h0∈lf:=by
  intro k
  induction k with
  |zero=>exact d
  |succ k n=>rw[jo f k 1];exact c _ n
 have hex:∃i j,i<j/\j<=lf.length/\iV f i h0=iV f j h0:=by
  refine Yw fun l=>?_;have hd:((aag (lf.length+1)).map fun k=>iV f k h0).Nodup:=by
   refine adD.mpr (Y9 ?_ List.pairwise_lt_range);intro a b r o p e;exact l ⟨a,b,p,by have:=aev.mp o;exact abu this,e⟩
  have:=Gh _ (lf:=lf) hd fun x m=>by
   clear c d l hd;obtain⟨k,_,e⟩:=Wz.mp m;clear m;subst e;exact h k
  rw[Wp,adE] at this;exact aaI _ this
 clear c d h;obtain⟨i,j,g,q,e⟩:=hex;refine⟨j - i - 1,?_⟩;rw[show j - i - 1+1=j - i from YN (aaq g)];have e1:iV f lf.length h0=iV f (lf.length - i) (iV f i h0):=by rw[<-jo,ac8 (Wj (Xj g) q)]
 have e2:iV f (j - i) (iV f i h0)=iV f i h0:=by rw[<-jo,e,ac8 (Xj g)]
 rw[e1,<-jo,show lf.length - i+(j - i)=(j - i)+(lf.length - i) by exact aa0 _ _,jo,e2]
section
variable{ks:List Nat}{im:Nat->List kY}{N:Nat->List Nat}
structure Gr(ks:List Nat)(im:Nat->List kY)(N:Nat->List Nat):Prop where
 nd:ks.Nodup
 n:∀p,N p=((im p).map fun i=>i.2.1).filter fun o=>!Wf o 1668184435
 a:∀p∈ks,∀i∈im p,i.2.1≠bq/\(i.2.1=1668184435\/(oU i.2.1=We/\i.2.1∈ks))
 c:bq∈ks
 t:∀x∈ks,∀y∈ks,fF x y=Wd\/fF y x=Wd\/x=y
variable(g:Gr ks im N)
include g
theorem Gr.mem{p o:Nat}(hp:p∈ks):o∈tk [] (im p)↔o∈N p:=by
 rw[Gg,g.n,W1,Wz];constructor
 ·rintro(h|⟨h,i,b,e⟩)
  ·exact absurd h WA
  ·refine⟨⟨i,b,e⟩,?_⟩;clear hp;cases c:Wf o 1668184435
   ·rfl
   ·have:=b9 c;clear c;subst this;exact gB h
 ·rintro⟨⟨i,b,e⟩,h⟩;rcases(g.a p hp i b).2 with h2|h2
  ·rw[e] at h2;rw[h2,Wx] at h;exact dg h
  ·rw[e] at h2;exact .inr ⟨h2.1,i,b,e⟩
theorem Gr.sub{p o:Nat}(hp:p∈ks)(h:o∈N p):o∈ks/\o≠bq:=by
 rw[g.n,W1,Wz] at h;obtain⟨⟨i,b,e⟩,h⟩:=h;obtain⟨h1,h2⟩:=g.a p hp i b;rw[e] at h1 h2;rcases h2 with h2|h2
 ·rw[h2,Wx] at h;exact dg h
 ·exact⟨h2.2,h1⟩
theorem Gr.wt{p o:Nat}{fl:List Nat}(hp:p∈ks):o∈wt im fl p↔o∈N p/\¬o∈fl:=by
 unfold Wk.wt;rw[W1,g.mem hp];constructor
 ·rintro⟨h1,a⟩;refine⟨h1,fun h=>?_⟩;rw[fW.mpr h] at a;exact dg a
 ·rintro⟨h1,a⟩;exact⟨h1,by rw[dV.mpr a];rfl⟩
theorem Gr.rdy{p:Nat}{fl:List Nat}(hp:p∈ks):rdy im fl p=Wd↔∀o∈N p,o∈fl:=by
 unfold Wk.rdy;rw[aaE,List.eq_nil_iff_forall_not_mem];constructor
 ·intro h o a;exact Yw fun b=>h o ((g.wt hp).mpr ⟨a,b⟩)
 ·intro h o a;exact((g.wt hp).mp a).2 (h o ((g.wt hp).mp a).1)
structure KI(ks:List Nat)(im:Nat->List kY)(N:Nat->List Nat)(fl lf:List Nat):Prop where
 p:(fl++lf).Perm (cI ks)
 s:lf.Sublist (cI ks)
 tp:∀pr x post,fl=pr++x::post->∀o∈N x,o∈pr
 fs:∀pr x post,fl=pr++x::post->∀y,y∈post\/y∈lf->Wk.rdy im pr y=Wd->RR x y
theorem Gr.ki{fl lf:List Nat}(h:Kh im (cI ks) fl lf):KI ks im N fl lf:=by
 induction h with
 |start=>exact⟨.refl _,.refl _,(fun b x post e=>by cases b<;>cases e),(fun b x post e=>by cases b<;>cases e)⟩
 | @step fl lf r t h e c=>
  have j:=W1.mp (e▸WU .. :r∈lf.filter (Wk.rdy im fl));have f:=j.1;have i:=qU f;have d:∀x∈lf,x∈ks:=fun x q=>(ie ks).mem_iff.mp (c.s.subset q);have split:∀b x post,fl++[r]=b++x::post->(post=[]/\b=fl/\x=r)\/∃n,post=n++[r]/\fl=b++x::n:=by
   intro b x post e2;clear e j f i d;rcases acn post with h|⟨l,z,h⟩
   ·subst h;have:=abK e2 rfl;clear e2 h;obtain⟨h1,a⟩:=this;injection a with a;exact .inl ⟨rfl,h1.symm,a.symm⟩
   ·rw[aco] at h;subst h;rw[<-abL,<-Xw] at e2;obtain⟨h1,a⟩:=abK e2 rfl;clear e2 h;injection a with a;subst a;exact .inr ⟨l,rfl,h1⟩
  refine⟨?_,qV.trans c.s,?_,?_⟩
  ·rw[Xw];exact(i.symm.append_left fl).trans c.p
  ·intro b x post e2;clear e i h;rcases split b x post e2 with⟨h1,a,m⟩|⟨l,h1,a⟩
   ·subst h1 a m;exact(g.rdy (d _ f)).mp j.2
   ·exact c.tp _ _ _ a
  ·intro b x post e2 y hy k;clear j d;rcases split b x post e2 with⟨h1,a,m⟩|⟨l,h1,a⟩
   ·subst h1 a m;have hy:y∈er x lf:=hy.resolve_left (fun h=>by cases h);have o:y∈lf:=qV.subset hy;have u:y≠x:=by
     intro e3;clear fl e f split e2 k h o;subst e3;exact(Xu.mp (i.nodup_iff.mp (((ie ks).nodup_iff.mpr g.nd).sublist c.s))).1 hy
    have:y∈x::t:=e▸W1.mpr ⟨o,k⟩;have v:(x::t).Pairwise RR:=by
     exact e▸(((zA g.nd).sublist c.s).sublist List.filter_sublist)
    exact(Yb.mp v).1 y ((Ww.mp this).resolve_left u)
   ·refine c.fs _ _ _ a y ?_ k;clear e i split e2 k a h;rcases hy with hy|hy
    ·rw[h1] at hy;clear b x h1;rcases WV.mp hy with hy|hy
     ·exact .inl hy
     ·rw[WQ.mp hy];exact .inr f
    ·exact .inr (qV.subset hy)
theorem Gr.s1{fl lf:List Nat}(h:Kh im (cI ks) fl lf)(c:lf.filter (Wk.rdy im fl)=[]):∀p∈lf,p∈ks/\∃o r,Wk.wt im fl p=o::r/\o∈lf/\o∈N p:=by
 intro p hp;have a:p∈ks:=pP ((h.sub p).mp (.inr hp));refine⟨a,?_⟩
 induction b:Wk.wt im fl p using Wv with
 |nil=>
  have:p∈lf.filter (Wk.rdy im fl):=W1.mpr ⟨hp,by unfold Wk.rdy;rw[b];rfl⟩;rw[c] at this;exact absurd this WA
 |cons o r=>
  obtain⟨h1,d⟩:=(g.wt (fl:=fl) a).mp (b▸WU .. :o∈Wk.wt im fl p);refine⟨o,r,rfl,?_,h1⟩;have:=(h.sub o).mpr ((ie ks).mem_iff.mpr (g.sub a h1).1);exact this.resolve_left d
theorem Gr.s2{fl lf:List Nat}{h0:Nat}(h:Kh im (cI ks) fl (h0::lf))(f:(h0::lf).filter (Wk.rdy im fl)=[]):iV (nx im fl) (h0::lf).length h0∈ks/\gN N (iV (nx im fl) (h0::lf).length h0) (iV (nx im fl) (h0::lf).length h0):=by
 have hs:=g.s1 h f;have a:∀p∈h0::lf,nx im fl p∈h0::lf/\nx im fl p∈N p:=by
  intro p hp;obtain⟨_,o,r,e,h1,i⟩:=hs p hp;unfold nx;rw[e];exact⟨h1,i⟩
 have c:∀k x,x∈h0::lf->iV (nx im fl) k x∈h0::lf:=by
  intro k
  induction k with
  |zero=>exact fun x h=>h
  |succ k b=>exact fun x h=>b _ (a x h).1
 obtain⟨k,d⟩:=zB (fun x j=>(a x j).1) (WU .. :h0∈h0::lf);have hz:=c (h0::lf).length h0 (WU ..);generalize iV (nx im fl) (h0::lf).length h0=z at d hz;refine⟨(hs z hz).1,?_⟩;have l:∀k,gN N z (iV (nx im fl) (k+1) z):=by
  intro k
  induction k with
  |zero=>exact .one (a z hz).2
  |succ k b=>
   rw[jo (nx im fl) (k+1) 1];exact .step b (a _ (c _ _ hz)).2
 have:=l k
 rwa [d] at this
theorem Gr.fin{fl:List Nat}(h:Kh im (cI ks) fl []):(∀p∈ks,¬gN N p p)/\(∃tP,fl=tP++[bq])/\cg fl=cg ks/\fl.length=ks.length/\∀a x post,fl=a++x::post->x∈ks/\(∀o∈N x,o∈a)/\∀y∈post.dropLast,y∈ks/\(fF y x=Wd->∃o∈N y,¬o∈a):=by
 have ki:=g.ki h;have hp:fl.Perm ks:=by
  have:=ki.p;rw[X7] at this;exact this.trans (ie ks)
 have b:fl.Nodup:=hp.nodup_iff.mpr g.nd;have k:∃tP,fl=tP++[bq]:=by
  clear b;obtain⟨a,post,e⟩:=abc (hp.mem_iff.mpr g.c)
  induction post using Wv with
  |nil=>exact⟨a,e⟩
  |cons y post=>
   exfalso;have d:y∈ks:=hp.mem_iff.mp (by rw[e];simp);have h2:Wk.rdy im a y=Wd:=(g.rdy d).mpr fun o i=>by
    clear hp;rcases WV.mp ((ki.tp (a++[bq]) y post (by rw[e];simp)) o i) with h|h
    ·exact h
    ·exact absurd (WQ.mp h) (g.sub d i).2
   exact(ki.fs a bq (y::post) e y (.inl (WU ..)) h2).1 rfl
 refine⟨?_,k,xy hp fun x l y j=>g.t x (hp.mem_iff.mp l) y (hp.mem_iff.mp j),hp.length_eq,?_⟩
 ·intro p q r;clear k;obtain⟨a,post,e⟩:=abc (hp.mem_iff.mpr q);have m:∀x,gN N p x->x∈a:=by
   intro x l;clear hp b q r
   induction l with
   |one h=>exact ki.tp a p post e _ h
   | @step x y _ h z=>
    obtain⟨p1,p2,e2⟩:=abc z;have:=ki.tp p1 x (p2++p::post) (by rw[e,e2];simp) y h;rw[e2];exact WV.mpr (.inl this)
  rw[e] at b;exact(YV.mp b).2.2 p (m p r) p (WU ..) rfl
 ·intro a x post e;have s:x∈ks:=hp.mem_iff.mp (by rw[e];simp);refine⟨s,ki.tp a x post e,fun y j=>?_⟩;have f:y∈post:=List.dropLast_subset _ j;have d:y∈ks:=hp.mem_iff.mp (by rw[e];simp[f]);refine⟨d,fun u=>?_⟩;refine Yw fun v=>?_;have w:Wk.rdy im a y=Wd:=(g.rdy d).mpr fun o i=>Yw fun A=>v ⟨o,i,A⟩;obtain⟨h1,h2⟩:=ki.fs a x post e y (.inl f) w;clear ki hp s d v w;rcases h2 with h2|h2
  ·subst h2;clear u;obtain⟨tP,n⟩:=k;have B:post≠ []:=fun h=>by rw[h] at f;cases f
   have:fl=(a++x::post.dropLast)++[post.getLast B]:=by
    rw[e,Xw,abL,List.dropLast_concat_getLast]
   rw[this] at n;obtain⟨e1,e2⟩:=abK n rfl;rw[this] at b;clear e f n h;injection e2 with e2;rw[e2] at b;exact(YV.mp b).2.2 bq (by simp[j]) bq (WQ.mpr rfl) rfl
  ·exact gB (u.symm.trans h2)
end
noncomputable abbrev s3:St:=[.tab 0,.tab 1,.tab 2]
theorem CE:∀n,dG tab (run tab (n+68)) ⟨25,We,Wc⟩ cH [] s3=.ok (.bool Wd) s3:=fun n=>by
 kernel_rfl
noncomputable abbrev RS(a b:Int)(U:St):St:=.tab 0:: .tab 1:: .tab 2:: .list [.int a,.int b]::U
section
variable{d:Nat}{tb:Option Nat}{Q:P->St->Prop}{E:EP}{a b:Int}{U:St}
theorem sh{x:Int}{k:Nat}{Z:St}(h:0<k):j5 .Mod (.int x) (.int (k:Int)) Z=Wb (.int (aaK x k)):=by
 induction k with
 |zero=>exact absurd h (by decide)
 |succ k=>rfl
theorem zD{x:Int}{k:Nat}{Z:St}(h:0<k)(a:k<=1000):j5 .FloorDiv (.int x) (.int (k:Int)) Z=Wb (.int (abJ x k)):=by
 induction k with
 |zero=>exact absurd h (by decide)
 |succ k=>
  show cond (WR k 1000000) (Wb (P.int (abJ x (k+1)))) Wc=_;rw[show WR k 1000000=Wd from Wy (by exact Wj a (Wg rfl))];rfl
theorem zE{x:Int}{Z:St}:j5 .Mult (.int x) (.int 187) Z=Wb (.int (x*187)):=by
 show cond (j4 x||true) _ _=_;rw[adC];rfl
theorem si{x:Int}{k:Nat}(h:0<k):∃w:Nat,aaK x k=w/\w<k:=by
 have h1:=aar x (show(0:Int) <k by exact aa1.mpr h);have a:=Int.fmod_lt_of_pos x (show(0:Int) <k by exact aa1.mpr h);exact⟨(aaK x k).toNat,(Int.toNat_of_nonneg h1).symm,(adF h1).mpr a⟩
theorem eC{k:Nat}(g:0<=a)(l:0<=b)(c:0<k)(m:k<=1000)(q:∀ (w:Nat) i j,w<k->0<=i->0<=j->Q (.int w) (RS i j U)):WC ⟨d+1,We,tb⟩ iI [.ref 3,.int k] (RS a b U) Q E:=by
 refine WC.of (fn:=kq) rfl rfl rfl rfl (WX.of ?_);have hc:dk .Gt (.int a) (.int 0) (RS a b U)=Wb (decide (0<a)):=rfl;by_cases h:0<a
 ·obtain⟨w,e,f⟩:=si (x:=a) c;refine WK.go 3 [.v (.int a),.v (.bool Wd),.v (.int a),.v (.int w),.v (.int a),.v (.int (abJ a k)),.s (RS (abJ a k) b U)] rfl ⟨rfl,⟨_,rfl,((decide_eq_true h)▸hc)⟩,rfl,e▸sh c,rfl,zD c m,rfl,trivial⟩ (WK.ret rfl (q w _ b f ?_ l));rw[Int.fdiv_eq_ediv_of_nonneg _ (by exact Yr _)];exact Int.ediv_nonneg g (by exact Yr _)
 ·obtain⟨w,e,f⟩:=si (x:=abJ (aaK (b*187+10007) 65519) 8) c;exact WK.go 3 [.v (.int a),.v (.bool We),.v (.int b),.v (.int (b*187)),.v (.int (b*187+10007)),.v (.int (aaK (b*187+10007) 65519)),.s (RS a (aaK (b*187+10007) 65519) U)] rfl ⟨rfl,⟨_,rfl,((decide_eq_false h)▸hc)⟩,rfl,zE,rfl,rfl,rfl,trivial⟩
   (WK.retS [.v (.int (aaK (b*187+10007) 65519)),.v (.int (abJ (aaK (b*187+10007) 65519) 8)),.v (.int w)] rfl ⟨rfl,rfl,e▸sh c,trivial⟩ (q w a _ f g (aar _ (by decide))))
end
noncomputable def Ju:P->Option P
 |.tup [_,k]=>Wb k
 |_=>Wc
noncomputable def Jv:P->Option P
 |.tup [w,_]=>Wb w
 |_=>Wc
section
variable{d:Nat}{tb:Option Nat}{Q:P->St->Prop}{E:EP}{Z:St}
theorem jp{hd a:Bool}{l:List P}(h:aq l.length=Wd):callB hd cb a [.list l] Z=.ok (.tup l) Z:=by
 unfold callB;dsimp only;unfold jL;rw[show Wf cb fg=We from rfl,show Wf cb dz=We from rfl,show Wf cb cb=Wd from rfl];show cond (aq l.length) (R.ok (P.tup l) Z) R.no=_;rw[h];rfl
theorem sj{hd a:Bool}{n:Nat}{l:List P}(b:ai Z n=Wb (.list l))(h:aq l.length=Wd):callB hd cb a [.ref n] Z=.ok (.tup l) Z:=by
 have e:c7 Z (.ref n)=Wb l:=by show jK (ai Z n)=_;rw[b];rfl
 unfold callB;dsimp only;unfold jL;rw[show Wf cb fg=We from rfl,show Wf cb dz=We from rfl,show Wf cb cb=Wd from rfl];show ofO (c7 Z (.ref n)) _=_;rw[e];show cond (aq l.length) _ _=_;rw[h];rfl
theorem wb{b:Int}{nm:Nat}{a:List P}(hs:aq a.length=Wd)(q:∀c,Keep Z c->Q (.tup [.str 7810197660629890406,.int b,.str nm,.none,.tup [.str 1668183398,.int 0,.tup [],.tup [],.bool We],.tup [],.tup [],.tup [.str 461229747298,.int 0,.tup a]]) c):WC ⟨d+1,We,tb⟩ hV [.int b,.str nm,.list [],.list a] Z Q E:=by
 refine WC.of (fn:=iS) rfl rfl rfl rfl ?_;refine WX.cons (WS.asg rfl (WE.callB rfl rfl rfl (WL.cons (WE.comp rfl rfl rfl (WE.name rfl ⟨[],Ju,.lst rfl,rfl,(fun x h=>by cases h),fun Z1 e=>WL.nil ⟨_,_,jp rfl,_,rfl,?_⟩⟩)))));refine WX.cons (WS.asg rfl (WE.callB rfl rfl rfl (WL.cons (WE.comp rfl rfl rfl (WE.name rfl ⟨[],Jv,.lst rfl,rfl,(fun x h=>by cases h),fun Z2 k2=>WL.nil ⟨_,_,jp rfl,_,rfl,?_⟩⟩)))));exact WX.of (WK.retS [.r,.p,.p,.r,.r,.v (.tup a)] rfl ⟨jp hs,rfl,rfl,trivial⟩ (q _ (e.trans k2)))
theorem CG{f:Int}{nm a:Nat}{k:P}{b:List P}(g:k.isOdd=We)(hs:aq b.length=Wd)(q:∀c,Keep Z c->Q (.tup [.str 7810197660629890406,.int f,.str nm,.none,.tup [.str 1668183398,.int 0,.tup [k],.tup [],.bool We],.tup [.str a],.tup [],.tup [.str 461229747298,.int 0,.tup b]]) c):WC ⟨d+1,We,tb⟩ hV [.int f,.str nm,.list [.tup [.str a,k]],.list b] Z Q E:=by
 refine WC.of (fn:=iS) rfl rfl rfl rfl ?_;refine WX.cons (WS.asg rfl (WE.callB rfl rfl rfl (WL.cons (WE.comp rfl rfl rfl (WE.name rfl ⟨[.tup [.str a,k]],Ju,.lst rfl,rfl,?_,fun Z1 h=>WL.nil ⟨_,_,jp rfl,_,rfl,?_⟩⟩)))))
 ·intro x e c i;rw[WQ.mp e];exact⟨_,rfl,WI.nil (WE.name rfl ⟨.refl,g,rfl⟩)⟩
 refine WX.cons (WS.asg rfl (WE.callB rfl rfl rfl (WL.cons (WE.comp rfl rfl rfl (WE.name rfl ⟨[.tup [.str a,k]],Jv,.lst rfl,rfl,?_,fun Z2 k2=>WL.nil ⟨_,_,jp rfl,_,rfl,?_⟩⟩)))))
 ·intro x e c i;rw[WQ.mp e];exact⟨_,rfl,WI.nil (WE.name rfl ⟨.refl,rfl,rfl⟩)⟩
 exact WX.of (WK.retS [.r,.p,.p,.r,.r,.v (.tup b)] rfl ⟨jp hs,rfl,rfl,trivial⟩ (q _ (h.trans k2)))
theorem Gi{w nm:Nat}(b:w<4):(∀a,Keep Z a->Q (a8 (w,nm)) a)->WC ⟨d+2,We,tb⟩ ef [.int w,.str nm] Z Q E:=
 k4 (R:=fun w=>(∀a,Keep Z a->Q (a8 (w,nm)) a)->WC ⟨d+2,We,tb⟩ ef [.int w,.str nm] Z Q E)
  (fun q=>WC.rn (fn:=eG) rfl rfl rfl rfl rfl ((WK.ret rfl (q _ .refl))))
  (fun q=>WC.rn (fn:=eG) rfl rfl rfl rfl rfl ((WK.ret rfl (q _ .refl))))
  (fun q=>WC.of (fn:=eG) rfl rfl rfl rfl (WX.of (WK.run 40 rfl (WK.s (.ret (.pc rfl rfl rfl (wb rfl q)))))))
  (fun q=>WC.of (fn:=eG) rfl rfl rfl rfl (WX.of (WK.run 40 rfl (WK.s (.ret (.pc rfl rfl rfl (CG rfl rfl q))))))) w b
theorem Gj{p nm i j:Nat}{I D:List P}(a:ai Z i=Wb (.list I))(b:ai Z j=Wb (.list D))(h1:aq I.length=Wd)(c:aq D.length=Wd)(q:Q (.tup [.str p,.tup [.str nm,.tup I,.tup D]]) Z):WC ⟨d+1,We,tb⟩ jN [.str p,.str nm,.ref i,.ref j] Z Q E:=by
 exact WC.of (fn:=lP) rfl rfl rfl rfl (WX.of (WK.retS [.r,.r,.r,.v (.tup I),.r,.v (.tup D)] rfl ⟨sj a h1,sj b c,rfl,rfl,trivial⟩ q))
theorem zF{hd a:Bool}{l:List P}(h:aq l.length=Wd):callB hd fg a [.list l] Z=.ok (.int l.length) Z:=by
 unfold callB;dsimp only;unfold jL;rw[show Wf fg fg=Wd from rfl];show cond (aq l.length) (R.ok (P.int l.length) Z) R.no=_;rw[h];rfl
theorem Gk{hd a:Bool}{n:Nat}{l:List P}(b:ai Z n=Wb (.list l))(h:aq l.length=Wd):callB hd fg a [.ref n] Z=.ok (.int l.length) Z:=by
 have e:c7 Z (.ref n)=Wb l:=by show jK (ai Z n)=_;rw[b];rfl
 unfold callB;dsimp only;unfold jL;rw[show Wf fg fg=Wd from rfl];show ofO (c7 Z (.ref n)) _=_;rw[e];show cond (aq l.length) _ _=_;rw[h];rfl
theorem Jw{a b:Int}{U:St}{l:List P}(h:0<=a)(i:0<=b)(j:0<l.length)(f:l.length<=1000)(q:∀ (w:Nat) v c e,ai l w=Wb v->0<=c->0<=e->Q v (RS c e U)):WC ⟨d+2,We,tb⟩ li [.ref 3,.list l] (RS a b U) Q E:=by
 refine WC.of (fn:=mY) rfl rfl rfl rfl ?_;refine WX.cons (WS.ret (WE.sub (WE.name rfl (WE.call rfl rfl (WL.cons (WE.name rfl (WL.cons (WE.callB rfl rfl rfl (WL.cons (WE.name rfl (WL.nil ⟨.int l.length,RS a b U,?_,WL.nil ?_⟩)))))))))))
 ·exact zF (b8 (by exact Wj f (Wg rfl)))
 refine eC h i j f fun w c e g k m=>?_;obtain⟨v,hv⟩:=B0 g;refine⟨v,?_,q w v c e hv k m⟩;show(tM (w:Int) l.length).bind _=_;rw[show tM (w:Int) l.length=Wb w from by
  show cond (WR w l.length&&WR w 4611686018427387904) _ _=_;rw[show WR w l.length=Wd from Wy g,show WR w 4611686018427387904=Wd from Wy (by exact Wj g (Wj f (Wg rfl)))];rfl]
 exact hv
end
theorem eQ{x:Nat}{v:P}{m:VE}:get x (put x v m)=Wb v:=by rw[kE,Wx];rfl
theorem bi{x y:Nat}{v:P}{m:VE}(h:Wf y x=We):get x (put y v m)=get x m:=by rw[kE,h];rfl
theorem fX{x:Nat}{v:P}(hv:v.isOdd=We):∀{m:VE},bc m->bc (put x v m):=by
 intro a
 induction a with
 |nil=>
  intro _;exact aE hv rfl
 |cons b m c=>
  obtain⟨y,w⟩:=b;intro h;have h':(w.isOdd||m.any fun e=>e.2.isOdd)=We:=h;rw[WJ] at h';show bc (cond (Wf y x) ((x,v)::m) ((y,w)::put x v m));cases Wf y x
  ·exact aE h'.1 (c h'.2)
  ·exact aE hv h'.2
noncomputable abbrev EE:List Nat:=[1852399981,98,8007521,6369123,97,1668184435]
noncomputable def lT(p:Nat):Nat:=((bh 47 (bA p)).map b7).getLastD 0
noncomputable def tP(p:Nat):List Nat:=((bh 47 (bA p)).map b7).dropLast
noncomputable def kn(k:Nat):Nat:=tR 107 (48+k)
theorem mI:∀o∈EE,(aq (bA o).length&& (bA o).all fun k=>!Wf k 0)=Wd/\(bh 47 (bA o)).map b7=tP o++[lT o]/\(tP o).length<=10/\lT o≠95/\lT o≠1953066601/\(∀k∈[0,1,2,3,4],kn k≠lT o):=by decide+kernel
theorem mJ:∀k∈[0,1,2,3,4],kn k≠95/\kn k≠1953066601/\aq (len 107+len (48+k))=Wd/\WR k 10=Wd/\∀j∈[0,1,2,3,4],kn k=kn j->k=j:=by decide+kernel
theorem xA{k:Nat}(h:k<5):k∈[0,1,2,3,4]:=(aev (n:=5)).mpr h
theorem CH{l:List Nat}{x y:Nat}(a:¬x∈l)(b:y∈l):Wf y x=We:=by
 cases h:Wf y x
 ·rfl
 ·exact absurd (b9 h▸b) a
noncomputable def yD(sl:List Sl):List (Nat×Nat):=(sl.filter fun s=>!j2 s).map fun s=>(s.way,s.nm)
structure DS(U:St)(L:Nat)(F:List P)(sl:List Sl):Prop where
 a0:ai U 0=Wb (.list F)
 a1:ai U (L+1)=Wb (.list ((sl.map Sl.imp).map eh))
 a2:ai U (L+2)=Wb (.list ((nu sl).map .str))
 a3:ai U (L+3)=Wb (.list ((yD sl).map a8))
theorem zG{α:Type}{l:List α}{a:α}(h:ai l 0=Wb a):∃t,l=a::t:=by
 induction l using Wv with
 |nil=>exact aH h
 |cons b t=>exact⟨t,by rw[show b=a from Wi h]⟩
theorem qW{a b:Int}{U c:St}(h:Keep (RS a b U) c):∃d,c=RS a b d/\Keep U d:=by
 obtain⟨c,e⟩:=zG (h 0 _ rfl);subst e;obtain⟨c,e⟩:=zG (l:=c) (h 1 _ rfl);subst e;obtain⟨c,e⟩:=zG (l:=c) (h 2 _ rfl);subst e;obtain⟨c,e⟩:=zG (l:=c) (h 3 _ rfl);subst e;exact⟨c,rfl,fun k o f=>h (k+4) o f⟩
structure EF(sl:List Sl)(k o:Nat)(s:Sl):Prop where
 ot:s.ot=o
 sp:s.sp=71+(k:Int)
 nm:s.al=Wb 95\/(s.way<4/\((s.al=Wb (kn k)/\s.nm=kn k)\/(s.al=Wc/\s.nm=lT o/\¬s.nm∈nu sl)))
section
variable{d:Nat}{tb:Option Nat}{E:EP}{a b:Int}{U:St}{m:VE}{L k o:Nat}{F:List P}{sl:List Sl}
noncomputable abbrev jW:Nat:=1818584434
noncomputable abbrev nB:Nat:=32497657166458217
noncomputable abbrev lU:Nat:=495622906222
noncomputable abbrev lV:Nat:=495739692388
noncomputable abbrev lW:Nat:=495555538017
noncomputable abbrev lX:Nat:=1701667182
noncomputable abbrev sk:Nat:=435459026032
noncomputable abbrev sm:Nat:=491327616111
inductive PostI(m:VE)(L k o:Nat)(F:List P)(sl:List Sl)(b:VE)(Z2:St):Prop
 |mk(h1:bc b)(f:∀x,Wf lW x=We->Wf lX x=We->get x b=get x m)(c d:Int)(e:St)(a:List Sl)(g:Z2=RS c d e)(h:0<=c)(i:0<=d)(j:DS e L F a)(l:a=sl\/∃s,a=sl++[s]/\EF sl k o s)
theorem wc{s:Sl}:yD (sl++[s])=yD sl++cond (j2 s) [] [(s.way,s.nm)]:=by
 unfold yD;rw[adq,WM]
 congr 1
 rw[XF]
 induction j2 s<;>rfl
theorem mK{s:Sl}:nu (sl++[s])=nu sl++cond (j2 s) [] [s.nm]:=by
 unfold nu;rw[adq,WM]
 congr 1
 rw[XF]
 induction j2 s<;>rfl
theorem EG{Z:St}{hd a:Bool}(h:k<5):callB hd 7500915 a [.int k] Z=.ok (.str (48+k)) Z:=by
 show ofO (cond (WR k 10) (Wb (48+k)) Wc) _=_;rw[(mJ k (xA h)).2.2.2.1];rfl
theorem PW{Z:St}(h:k<5):j5 .Add (.str 107) (.str (48+k)) Z=Wb (.str (kn k)):=by
 show cond (aq (len 107+len (48+k))) _ _=_;rw[(mJ k (xA h)).2.2.1];rfl
noncomputable def pT:List IS:=lR (B1 iQ 2)
noncomputable def Gl:List IS:=lR (B1 pT 1)
noncomputable def qX:List IS:=lR (B1 Gl 0)
noncomputable def zH:List IS:=qX.drop 2
structure TS(U:St)(L:Nat)(F I N D:List P):Prop where
 a0:ai U 0=Wb (.list F)
 a1:ai U (L+1)=Wb (.list I)
 a2:ai U (L+2)=Wb (.list N)
 a3:ai U (L+3)=Wb (.list D)
theorem TS.keep{a:St}{I N D:List P}(h:TS U L F I N D)(k:Keep U a):TS a L F I N D:=⟨k _ _ h.a0,k _ _ h.a1,k _ _ h.a2,k _ _ h.a3⟩
theorem TS.i{I N D:List P}(h:TS U L F I N D)(a:List P):TS (ak U (L+1) (.list a)) L F a N D:=
 ⟨(aB (Yc _)).trans h.a0,aF h.a1,(aB (XA (XG _))).trans h.a2,(aB (XA (ac9 (Wg rfl) _))).trans h.a3⟩
theorem TS.n{I N D:List P}(h:TS U L F I N D)(a:List P):TS (ak U (L+2) (.list a)) L F I a D:=
 ⟨(aB (Yc _)).trans h.a0,(aB (XZ _)).trans h.a1,aF h.a2,(aB (XA (XG _))).trans h.a3⟩
theorem TS.e{I N D:List P}(h:TS U L F I N D)(a:List P):TS (ak U (L+3) (.list a)) L F I N a:=
 ⟨(aB (Yc _)).trans h.a0,(aB (Y4 (ac9 (Wg rfl) _))).trans h.a1,(aB (XZ _)).trans h.a2,aF h.a3⟩
theorem DS.ts(h:DS U L F sl):TS U L F ((sl.map Sl.imp).map eh) ((nu sl).map .str) ((yD sl).map a8):=⟨h.a0,h.a1,h.a2,h.a3⟩
theorem TS.named{s:Sl}(h:TS U L F ((sl.map Sl.imp).map eh++[eh s.imp]) ((nu sl).map .str++[.str s.nm]) ((yD sl).map a8++[a8 (s.way,s.nm)]))(a:j2 s=We):DS U L F (sl++[s]):=by
 refine⟨h.a0,?_,?_,?_⟩
 ·rw[h.a1,WM,WM];rfl
 ·rw[h.a2,mK,a,WM];rfl
 ·rw[h.a3,wc,a,WM];rfl
theorem TS.unnamed{s:Sl}(h:TS U L F ((sl.map Sl.imp).map eh++[eh s.imp]) ((nu sl).map .str) ((yD sl).map a8))(a:j2 s=Wd):DS U L F (sl++[s]):=by
 refine⟨h.a0,?_,?_,?_⟩
 ·rw[h.a1,WM,WM];rfl
 ·rw[h.a2,mK,a];exact congrArg (fun x=>Wb (O.list (afg P.str x))) (X7 _).symm
 ·rw[h.a3,wc,a];exact congrArg (fun x=>Wb (O.list (afg a8 x))) (X7 _).symm
theorem we{nm:Nat}{I N D:List P}{l:VE->St->Prop}{Rt:P->St->Prop}(o:0<=a)(p:0<=b)(h:TS U L F I N D)(i:N.length<=20)(y:D.length<=20)(r:get jW m=Wb (.ref 3))(j:get lU m=Wb (.ref (L+6)))(s:get lV m=Wb (.ref (L+7)))
  (hv:WE ⟨d+3,We,tb⟩ (.ite (.cmp .Is (.name 495555538017 371041046) (.none 371050054) 371041054) (.name 1701667182 371033037) (.name 495555538017 371060065) 371033065) m (RS a b U) (fun v Z=>v=.str nm/\Z=RS a b U) E) (q:∀w c f t,w<4->0<=c->0<=f->TS t L F I (N++[.str nm]) (D++[a8 (w,nm)])->l m (RS c f t)):WX ⟨d+3,We,tb⟩ (lR (B1 zH 1)) m (RS a b U) l Rt E:=by
 refine WX.cons (WS.expr (WE.append (WE.name j ⟨L+6,_,rfl,h.a2,W.mono hv (fun v Z hv=>?_) hE⟩)));obtain⟨hv,z⟩:=hv;subst hv z;refine⟨_,h.a2,b8 (Wj i (Wg rfl)),rfl,?_⟩;have g:=h.n (N++[.str nm]);show WX _ _ m (RS a b (ak U (L+2) (.list (N++[.str nm])))) _ _ _;generalize ak U (L+2) (.list (N++[.str nm]))=A at g;clear h;refine WX.cons (WS.expr (WE.append (WE.name s ⟨L+7,_,rfl,g.a3,WE.call rfl rfl (WL.cons (WE.call rfl rfl (WL.cons (WE.name r (WL.cons (WE.int (WL.nil (eC (k:=4) o p (by decide) (by decide) fun w c f u B C=>?_))))))))⟩)));refine WL.cons (WE.sub (WE.name j (WE.neg ⟨.str nm,ul (n:=L+6) (Z:=RS c f A) g.a2 (by rw[Wu];exact nk (Wj i (Wg rfl))) (qO _ _),WL.nil (Gi u fun G x=>?_)⟩)));clear o p i r j s hv;obtain⟨H,e,k3⟩:=qW x;clear x;exact e▸⟨_,(g.keep k3).a3,b8 (Wj y (Wg rfl)),kC _,WX.nil (q w c f _ u B C ((g.keep k3).e _))⟩
structure TE(m:VE)(L k o:Nat):Prop where
 h:bc m
 g1:get jW m=Wb (.ref 3)
 g2:get nB m=Wb (.ref (L+5))
 g3:get lU m=Wb (.ref (L+6))
 g4:get lV m=Wb (.ref (L+7))
 g7:get sk m=Wb (.int k)
 g8:get sm m=Wb (.str o)
theorem TE.put{x:Nat}{v:P}(e:TE m L k o)(a:x=lW\/x=lX)(hv:v.isOdd=We):TE (put x v m) L k o:=by
 rcases a with h|h<;>subst h<;>exact⟨fX hv e.h,(bi rfl).trans e.g1,(bi rfl).trans e.g2,(bi rfl).trans e.g3,(bi rfl).trans e.g4,(bi rfl).trans e.g7,(bi rfl).trans e.g8⟩
theorem PostI.lift{m1 a:VE}{b:St}(e:∀x,Wf lW x=We->Wf lX x=We->get x m1=get x m)(h:PostI m1 L k o F sl a b):PostI m L k o F sl a b:=by
 obtain⟨d,f,g,i,j,l,n,p,q,r,s⟩:=h;exact⟨d,fun x h1 c=>(f x h1 c).trans (e x h1 c),g,i,j,l,n,p,q,r,s⟩
theorem qY{al:Option Nat}{Rt:P->St->Prop}(g:0<=a)(j:0<=b)(c:TE m L k o)(l:DS U L F sl)(n:sl.length<=20)(D:k<5)(e:get lW m=Wb (ui al))(B:get lX m=Wb (.str (lT o)))
  (G:al=Wb 95\/al=Wb (kn k)\/(al=Wc/\¬lT o∈nu sl)):WX ⟨d+3,We,tb⟩ zH m (RS a b U) (PostI m L k o F sl) Rt E:=by
 have hf:=Wj (XI (fun s=>!j2 s) sl) n;have p:((nu sl).map P.str).length<=20:=by unfold nu;rw[Wp,Wp];exact hf
 have q:((yD sl).map a8).length<=20:=by unfold yD;rw[Wp,Wp];exact hf
 refine WX.cons (WS.expr (WE.append (WE.name c.g2 ⟨L+5,_,rfl,l.a1,WE.tup (WL.cons (WE.name e (WL.cons (WE.name c.g8 (WL.cons (WE.bin (WE.int (WE.name c.g7 ⟨_,rfl,WL.nil ?_⟩))))))))⟩)));refine⟨?_,((sl.map Sl.imp).map eh),l.a1,by rw[Wp,Wp];exact b8 (Wj n (Wg rfl)),rfl,?_⟩
 ·show((ui al).isOdd||(We||(We||false)))=We;rw[jk];rfl
 have f:=l.ts.i ((sl.map Sl.imp).map eh++[eh (al,o,71+(k:Int))]);show WX _ _ m (RS a b (ak U (L+1) (.list ((sl.map Sl.imp).map eh++[eh (al,o,71+(k:Int))])))) _ _ _;generalize ak U (L+1) (.list ((sl.map Sl.imp).map eh++[eh (al,o,71+(k:Int))]))=H at f;clear l hf n;refine WX.cons (WS.ifs (WT.of (WE.cmp (WE.name e (WE.str ⟨!(match al with|some x=>Wf x 95|none=>We),by induction al<;>rfl,_,rfl,?_⟩)))));rcases G with h|h|⟨h,I⟩
 ·subst h;exact WX.nil (WX.nil ⟨c.h,fun _ _ _=>rfl,a,b,H,sl++[⟨Wb 95,o,71+(k:Int),0,0⟩],rfl,g,j,TS.unnamed (s:=⟨Wb 95,o,71+(k:Int),0,0⟩) f rfl,.inr ⟨_,rfl,rfl,rfl,.inl rfl⟩⟩)
 ·subst h;have C:Wf (kn k) 95=We:=by
   clear Rt g j c e B p q f;cases h:Wf (kn k) 95
   ·rfl
   ·exact absurd (b9 h) (mJ k (xA D)).1
  show WX _ (cond (!(Wf (kn k) 95)) _ _) _ _ _ _ _;rw[C];exact we (nm:=kn k) g j f p q c.g1 c.g3 c.g4 (WE.ite (WT.of (WE.cmp (WE.name e (WE.nne ⟨We,rfl,_,rfl,WE.name e ⟨rfl,rfl⟩⟩))))) fun w r t u v y z A=>WX.nil ⟨c.h,fun _ _ _=>rfl,r,t,u,sl++[⟨Wb (kn k),o,71+(k:Int),kn k,w⟩],rfl,y,z,TS.named (s:=⟨Wb (kn k),o,71+(k:Int),kn k,w⟩) A C,.inr ⟨_,rfl,rfl,rfl,.inr ⟨v,.inl ⟨rfl,rfl⟩⟩⟩⟩
 ·subst h;exact we (nm:=lT o) g j f p q c.g1 c.g3 c.g4 (WE.ite (WT.of (WE.cmp (WE.name e (WE.nne ⟨Wd,rfl,_,rfl,WE.name B ⟨rfl,rfl⟩⟩))))) fun w r t u v y z A=>WX.nil ⟨c.h,fun _ _ _=>rfl,r,t,u,sl++[⟨Wc,o,71+(k:Int),lT o,w⟩],rfl,y,z,TS.named (s:=⟨Wc,o,71+(k:Int),lT o,w⟩) A rfl,.inr ⟨_,rfl,rfl,rfl,.inr ⟨v,.inr ⟨rfl,rfl,I⟩⟩⟩⟩
end
section
variable{d:Nat}{tb:Option Nat}{E:EP}{a b:Int}{U:St}{m:VE}{L k o i:Nat}{F:List P}{sl:List Sl}{tame:Bool}
noncomputable abbrev xB:Nat:=29793
noncomputable abbrev nC:Nat:=28549237979444073
theorem wg{Z:St}{s:Nat}(h:(aq (bA s).length&& (bA s).all fun k=>!Wf k 0)=Wd):methB (.str s) fK [.str 47] Z=.ok (.list (((bh 47 (bA s)).map b7).map .str)) Z:=zw (by decide+kernel) h
theorem CI{al:Option Nat}{Rt:P->St->Prop}(i:0<=a)(j:0<=b)(c:TE m L k o)(f:DS U L F sl)(l:sl.length<=20)(e:k<5)(n:get lW m=Wb (ui al))(g:get lX m=Wb (.str (lT o)))(p:al=Wb 95\/al=Wb (kn k)\/al=Wc):WX ⟨d+3,We,tb⟩ (qX.drop 1) m (RS a b U) (PostI m L k o F sl) Rt E:=by
 refine WX.cons (WS.ifs (WT.of (WE.bop (WB.and (WT.of (WE.cmp (WE.name n (WE.nne ⟨(ui al).isNone,rfl,_,rfl,?_⟩))))))));rcases p with h|h|h
 ·subst h;exact⟨_,rfl,WX.nil (qY i j c f l e n g (.inl rfl))⟩
 ·subst h;exact⟨_,rfl,WX.nil (qY i j c f l e n g (.inr (.inl rfl)))⟩
 ·subst h;refine WB.last (WT.of (WE.cmp (WE.name g (WE.name c.g3 ⟨_,vO f.a2,_,rfl,_,rfl,?_⟩))));cases hz:(nu sl).any fun y=>Wf y (lT o)
  ·exact WX.nil (qY i j c f l e n g (.inr (.inr ⟨rfl,dV.mp hz⟩)))
  ·refine WX.cons (WS.asg rfl (WE.bin (WE.str (WE.callB rfl rfl rfl (WL.cons (WE.name c.g7 (WL.nil ⟨_,_,EG e,_,PW e,_,cB c.h rfl,WX.nil ?_⟩)))))));exact WX.mono (qY (al:=Wb (kn k)) i j (c.put (.inl rfl) rfl) f l e eQ ((bi rfl).trans g) (.inr (.inl rfl))) fun _ _ h=>h.lift fun x h1 _=>bi h1
theorem Gm{w k:Nat}{v:P}(h:ai [P.none,.none,.str (kn k),.str 95] w=Wb v):∃al:Option Nat,(al=Wb 95\/al=Wb (kn k)\/al=Wc)/\v=ui al:=by
 rcases w with _|_|_|_|w
 ·exact⟨Wc,.inr (.inr rfl),(Wi h).symm⟩
 ·exact⟨Wc,.inr (.inr rfl),(Wi h).symm⟩
 ·exact⟨Wb (kn k),.inr (.inl rfl),(Wi h).symm⟩
 ·exact⟨Wb 95,.inl rfl,(Wi h).symm⟩
 ·induction w<;>exact aH h
theorem Gn{Rt:P->St->Prop}(f:0<=a)(g:0<=b)(c:TE m L k o)(i:DS U L F sl)(j:sl.length<=20)(e:k<5)(l:o∈EE):WX ⟨d+3,We,tb⟩ qX m (RS a b U) (PostI m L k o F sl) Rt E:=by
 have hs:=mI o l;refine WX.cons (WS.asg rfl (WE.tup (WL.cons (WE.call rfl rfl (WL.cons (WE.name c.g1 (WL.cons (WE.listF (WL.cons (WE.nne (WL.cons (WE.nne (WL.cons (WE.bin (WE.str (WE.callB rfl rfl rfl (WL.cons (WE.name c.g7 (WL.nil ⟨_,_,EG e,_,PW e,WL.cons (WE.str (WL.nil ⟨rfl,rfl,WL.nil ?_⟩))⟩)))))))))))))))))));refine Jw f g (by decide:0<4) (by decide:4<=1000) fun w v n p hv q r=>?_;obtain⟨al,s,t⟩:=Gm hv;clear hv f g;subst t;refine WL.cons (WE.sub (WE.methB (WE.name c.g8 ⟨rfl,rfl,WL.cons (WE.str (WL.nil ⟨.list ((tP o++[lT o]).map .str),RS n p U,by rw[<-hs.2.1];exact wg hs.1,WE.neg ⟨.str (lT o),by rw[WM];exact jm (by rw[Wp];exact Wj hs.2.2.1 (Wg rfl)),WL.nil ⟨?_,put lX (.str (lT o)) (put lW (ui al) m),cz c.h rfl,?_⟩⟩⟩))⟩)))
 ·show((ui al).isOdd||(We||false))=We;rw[jk];rfl
 exact WX.mono (CI q r ((c.put (.inl rfl) jk).put (.inr rfl) rfl) i j e ((bi rfl).trans eQ) eQ s) fun _ _ h=>h.lift fun x h1 u=>(bi u).trans (bi h1)
theorem Nn{Rt:P->St->Prop}(c:0<=a)(e:0<=b)(f:TE m L k o)(j:DS U L F sl)(p:sl.length<=20)(q:k<5)(r:o∈EE)(g:get xB m=Wb (.int i))(l:get nC m=Wb (.bool tame)):WX ⟨d+3,We,tb⟩ Gl m (RS a b U) (PostI m L k o F sl) Rt E:=by
 have stop:∀a b,0<=a->0<=b->PostI m L k o F sl m (RS a b U):=fun a b c e=>⟨f.h,fun _ _ _=>rfl,a,b,U,sl,rfl,c,e,j,.inl rfl⟩;have n:WB .And ⟨d+3,We,tb⟩ [.cmp .Eq (.call 474274252248549332970591 365059069 We [.name 1818584434 365070074,.int 2 365076077] 365059078) (.int 0 365082083) 365059083] m (RS a b U) (fun v Z=>LN v (fun z Z=>WX ⟨d+3,We,tb⟩ (cond z qX []) m Z (fun u Z=>WX ⟨d+3,We,tb⟩ [] u Z (PostI m L k o F sl) Rt E) Rt E) Z) E:=by
  refine WB.last (WT.of (WE.cmp (WE.call rfl rfl (WL.cons (WE.name f.g1 (WL.cons (WE.int (WL.nil (eC (k:=2) c e (by decide) (by decide) fun w y A x s t=>WE.int ⟨_,rfl,_,rfl,_,rfl,?_⟩)))))))));clear g l c e x;cases((w:Int)==((0:Nat):Int))
  ·exact WX.nil (WX.nil (stop _ _ s t))
  ·exact WX.mono (Gn (Rt:=Rt) s t f j p q r) fun _ _ h=>WX.nil h
 refine WX.cons (WS.ifs (WT.of (WE.bop (WB.and (WT.of (WE.bop (WB.or (WT.of (WE.cmp (WE.name g (WE.int ⟨_,rfl,_,rfl,?_⟩)))))))))));clear j p q r;cases((i:Int)==((0:Nat):Int))
 ·refine WB.or (WT.of (WE.not (WT.of (WE.name l ⟨_,rfl,_,rfl,?_⟩))));clear l;cases tame
  ·exact⟨_,rfl,n⟩
  ·refine WB.last (WT.of (WE.cmp (WE.name f.g7 (WE.name g ⟨_,rfl,_,rfl,_,rfl,?_⟩))));clear f g;cases decide ((i:Int)<=(k:Int))
   ·exact⟨_,rfl,WX.nil (WX.nil (stop _ _ c e))⟩
   ·exact n
 ·exact⟨_,rfl,n⟩
end
noncomputable abbrev pn:List (List Nat):=[[1852399981,98],[1852399981,98,8007521],[1852399981,98,8007521,6369123],[1852399981,98,8007521,6369123,97]]
noncomputable def Gp(p:Nat):Prop:=(aq (bA p).length&& (bA p).all fun k=>!Wf k 0)=Wd/\(bh 47 (bA p)).map b7=tP p++[lT p]/\(tP p).length<=10
theorem CJ{Z:St}:∀ps∈pn,dQ Z (.list (ps.map .str)) (Wb (.int ((1:Nat):Int))) Wc=Wb (.list (ps.tail.map .str)):=by
 intro ps h;simp only[Ww,WA,or_false] at h;rcases h with h|h|h|h<;>subst h<;>rfl
noncomputable abbrev uw(ps:List Nat):List Nat:=ps.tail++[1668184435]
theorem qZ:∀ps∈pn,(∀p∈ps,p∈EE)/\(∀o∈uw ps,o∈EE)/\(uw ps).length<=5/\ps.length<=5:=by decide+kernel
noncomputable def Jz(ps:List Nat)(s:Sl):Prop:=s.ot∈uw ps/\(s.al=Wb 95\/(s.nm≠95/\s.nm≠1953066601/\(s.al=Wb s.nm\/(s.al=Wc/\s.nm=lT s.ot))))
structure SI(ps dn:List Nat)(sl:List Sl):Prop where
 l:sl.length<=dn.length
 o:∀s∈sl,Jz ps s
 n:(nu sl).Nodup
 m:∀x∈nu sl,(∃k,k<dn.length/\x=kn k)\/∃o∈EE,x=lT o
structure xC(ps:List Nat)(f:Fi):Prop where
 p:f.p∈ps
 nm:f.nm=lT f.p
 o:∀s∈f.sl,Jz ps s
 n:(nu f.sl).Nodup
 l:f.sl.length<=5
theorem SI.add{ps b ar:List Nat}{sl:List Sl}{o:Nat}{s:Sl}(h:SI ps b sl)(j:uw ps=b++o::ar)(p:∀o∈uw ps,o∈EE)(q:(uw ps).length<=5)(n:EF sl b.length o s):SI ps (b++[o]) (sl++[s]):=by
 have d:o∈uw ps:=by rw[j];simp
 have f:b.length<5:=by rw[j,Wu,Xa] at q;exact Ym q
 have r:=mI o (p o d);have g:=mJ _ (xA f);refine⟨by rw[Wu,Wu];simp[h.l],?_,?_,?_⟩
 ·intro s' kD;rcases WV.mp kD with kD|kD
  ·exact h.o s' kD
  ·rw[WQ.mp kD];refine⟨by rw[n.ot];exact d,?_⟩;rcases n.nm with h1|⟨_,h1|h1⟩
   ·exact .inl h1
   ·exact .inr ⟨by rw[h1.2];exact g.1,by rw[h1.2];exact g.2.1,.inl (by rw[h1.1,h1.2])⟩
   ·exact .inr ⟨by rw[h1.2.1];exact r.2.2.2.1,by rw[h1.2.1];exact r.2.2.2.2.1,.inr ⟨h1.1,by rw[h1.2.1,n.ot]⟩⟩
 ·rw[mK];cases a:j2 s
  ·refine YV.mpr ⟨h.n,Xu.mpr ⟨(by simp),Y3⟩,?_⟩;intro x hx y i e;rw[WQ.mp i] at e;rcases n.nm with h1|⟨_,h1|h1⟩
   ·unfold j2 at a;rw[h1] at a;exact gB a
   ·rw[h1.2] at e;rcases h.m x hx with⟨k,c,e2⟩|⟨t,u,e2⟩
    ·rw[e2] at e;have:=g.2.2.2.2 k (xA (by exact YQ c f)) e.symm;exact absurd this (Y4 c)
    ·rw[e2] at e;exact(mI t u).2.2.2.2.2 _ (xA f) e.symm
   ·exact h1.2.2 (e▸hx)
  ·exact YV.mpr ⟨h.n,Y3,fun x _ y i=>by cases i⟩
 ·intro x hx;rw[mK] at hx;rcases WV.mp hx with hx|hx
  ·rcases h.m x hx with⟨k,c,e2⟩|h2
   ·exact .inl ⟨k,by rw[Wu];exact adU _ c,e2⟩
   ·exact .inr h2
  ·cases a:j2 s
   ·rw[a] at hx;rw[WQ.mp hx];rcases n.nm with h1|⟨_,h1|h1⟩
    ·unfold j2 at a;rw[h1] at a;exact gB a
    ·exact .inl ⟨_,by rw[Wu];exact XG _,h1.2⟩
    ·exact .inr ⟨o,p o d,h1.2.1⟩
   ·rw[a] at hx;exact absurd hx WA
theorem SI.skip{ps a:List Nat}{sl:List Sl}{o:Nat}(h:SI ps a sl):SI ps (a++[o]) sl:=
 ⟨by rw[Wu];have:=h.l;exact aap this,h.o,h.n,fun x b=>by
  rcases h.m x b with⟨k,c,e2⟩|h2
  ·exact .inl ⟨k,by rw[Wu];exact adU _ c,e2⟩
  ·exact .inr h2⟩
section
variable{d:Nat}{tb:Option Nat}{E:EP}{a b:Int}{U:St}{m:VE}{fs:List Fi}{tame:Bool}{ps:List Nat}
noncomputable abbrev wi:Nat:=495673696624
noncomputable abbrev pU:Nat:=495622842726
noncomputable abbrev so:Nat:=1752457584
noncomputable abbrev JA:List Nat:=[xB,so,nB,lU,lV,sk,sm,lW,lX]
inductive JB(m:VE)(ps:List Nat)(p:Nat)(fs:List Fi)(a:VE)(Z2:St):Prop
 |mk(h1:bc a)(e:∀x,¬x∈JA->get x a=get x m)(b c:Int)(d:St)(f:Fi)(g:Z2=RS b c d)(h:0<=b)(i:0<=c)(j:ai d 0=Wb (.list ((fs++[f]).map bz)))(k:xC ps f)(l:f.p=p)
noncomputable abbrev Mf:List Nat:=[sk,sm,lW,lX]
structure OE(m:VE)(L:Nat)(i p:Nat)(tame:Bool)(ps:List Nat):Prop where
 o:bc m
 k1:get jW m=Wb (.ref 3)
 k2:get nB m=Wb (.ref (L+5))
 k3:get lU m=Wb (.ref (L+6))
 k4:get lV m=Wb (.ref (L+7))
 k5:get so m=Wb (.str p)
 k6:get wi m=Wb (.list (ps.map .str))
 k7:get pU m=Wb (.ref 4)
 k9:get xB m=Wb (.int i)
 kt:get nC m=Wb (.bool tame)
inductive CK(ps:List Nat)(L:Nat)(F:List P)(m1:VE)(r:List P)(b:VE)(Z:St):Prop
 |mk(a ar:List Nat)(c d:Int)(e:St)(sl:List Sl)(f:uw ps=a++ar)(g:r=fi a.length (ar.map .str))(h:Z=RS c d e)(i:0<=c)(j:0<=d)(k:DS e L F sl)(l:SI ps a sl)(m:∀x,¬x∈Mf->get x b=get x m1)(n:bc b)
theorem zI{F:List P}{m1 f:VE}{L i p:Nat}{x:P}{r:List P}{w:St}(y:∀o∈uw ps,o∈EE)(m:(uw ps).length<=5)(a:OE m1 L i p tame ps)(n:bc f)(h:CK ps L F m1 (x::r) f w):
  ∃A,aD (.tup [(sk,364012017),(sm,364019024)] 0 364012024) x f=Wb A/\WX ⟨d+3,We,tb⟩ Gl A w (fun q D=>bc q/\CK ps L F m1 r q D) (fun _ _=>False) E:=by
 obtain⟨g,ar,X,Y,U',sl,j,t,G,H,I,J,u,B,K⟩:=h
 induction ar using Wv with
 |nil=>cases t
 |cons o ar=>
  obtain⟨e1,e2⟩:=Ye (t.trans (by rw[Xs,ek]));subst e1 e2 G;have C:g.length<5:=by rw[j,Wu,Xa] at m;exact Ym m
  have b:∀x,¬x∈Mf->get x (put sm (.str o) (put sk (.int g.length) f))=get x m1:=fun x c=>
   ((bi (CH c (by decide))).trans (bi (CH c (by decide)))).trans (B x c)
  refine⟨_,cz n rfl,W.mono (Nn (Rt:=fun _ _=>False) (k:=g.length) (o:=o) (i:=i) (tame:=tame) H I ⟨fX rfl (fX rfl n),(b _ (by decide)).trans a.k1,(b _ (by decide)).trans a.k2,(b _ (by decide)).trans a.k3,(b _ (by decide)).trans a.k4,(bi rfl).trans eQ,eQ⟩ J (Wj u.l (Wj (Xj C) (Wg rfl))) C (y o (by rw[j];exact acp _ (.head _))) ((b _ (by decide)).trans a.k9) ((b _ (by decide)).trans a.kt)) (fun z Z h=>?_) hE⟩;clear t B a n K;obtain⟨fl,q⟩:=z
  induction fl using Mine.Fl.casesOn with
  |ret v=>exact h
  |next=>
   obtain⟨h1,M,N,b2,O,Q,R,S,T,U,e⟩:=h;refine⟨h1,g++[o],ar,N,b2,O,Q,by rw[j,Xw];rfl,by rw[Wu];rfl,R,S,T,U,?_,fun x c=>(M x (CH c (by decide)) (CH c (by decide))).trans (b x c),h1⟩;rcases e with e|⟨s,e,V⟩
   ·exact e▸u.skip
   ·exact e▸u.add j y m V
theorem zJ{n:Nat}{l:List Nat}(h:(l.tail++[n]).length<=5):aq ((l.tail.map P.str).length+1)=Wd:=by
 rw[Wu] at h;rw[Wp];exact b8 (Wj h (Wg rfl))
theorem CL{m1 b:VE}{L i p:Nat}{w:St}{N:VE->St->Prop}{Rt:P->St->Prop}(hs:Gp p)(y:(uw ps).length<=5)(z:fs.length<=20)(hp:p∈ps)(c:OE m1 L i p tame ps)(h:CK ps L (fs.map bz) m1 [] b w)(q:∀e g k f,bc b->(∀x,¬x∈Mf->get x b=get x m1)->0<=e->0<=g->ai k 0=Wb (.list ((fs++[f]).map bz))->xC ps f->f.p=p->N b (RS e g k)):WX ⟨d+3,We,tb⟩ (pT.drop 2) b w N Rt E:=by
 obtain⟨G,ar,e,g,k,sl,r,t,A,B,C,m,u,a,D⟩:=h;have F:ar=[]:=by
  induction ar using Wv with
  |nil=>rfl
  |cons o ar=>rw[Xs,ek] at t;cases t
 subst F A;rw[X7] at r;have v:sl.length<=5:=by have:=u.l;rw[<-r] at this;exact Wj this y
 clear t r;refine WX.cons (WS.expr (WE.append (WE.name ((a _ (by decide)).trans c.k7) ⟨4,fs.map bz,rfl,m.a0,?_⟩)));refine WE.call rfl rfl (WL.cons (WE.name ((a _ (by decide)).trans c.k5) (WL.cons (WE.sub (WE.methB (WE.name ((a _ (by decide)).trans c.k5) ⟨rfl,rfl,WL.cons (WE.str (WL.nil ⟨.list ((tP p++[lT p]).map .str),RS e g k,by rw[<-hs.2.1];exact wg hs.1,WE.neg ⟨.str (lT p),by rw[WM];exact jm (by rw[Wp];exact Wj hs.2.2 (Wg rfl)),?_⟩⟩))⟩))))));refine WL.cons (WE.name ((a _ (by decide)).trans c.k2) (WL.cons (WE.name ((a _ (by decide)).trans c.k4) (WL.nil (Gj (i:=L+5) (j:=L+7) m.a1 m.a3 ?_ ?_ ⟨fs.map bz,m.a0,?_,rfl,?_⟩)))))
 ·rw[Wp,Wp];exact b8 (by exact Wj v (Wg rfl))
 ·unfold yD;rw[Wp,Wp];exact b8 (Wj (XI (fun s=>!j2 s) sl) (Wj v (Wg rfl)))
 ·rw[Wp];exact b8 (by exact Wj z (Wg rfl))
 exact WX.nil (q e g (ak k 0 (.list (fs.map bz++[bz ⟨p,lT p,sl⟩]))) ⟨p,lT p,sl⟩ D a B C (by rw[WM];exact aF m.a0) ⟨hp,rfl,u.o,u.n,v⟩ rfl)
theorem JC{i p:Nat}{Rt:P->St->Prop}(B:0<=a)(C:0<=b)(l:bc m)(t:ai U 0=Wb (.list (fs.map bz)))(D:fs.length<=20)(gy:ps∈pn)(hp:p∈ps)
  (u:get jW m=Wb (.ref 3)) (v:get wi m=Wb (.list (ps.map .str))) (w:get pU m=Wb (.ref 4)) (y:get so m=Wb (.str p)) (z:get xB m=Wb (.int i)) (A:get nC m=Wb (.bool tame)):WX ⟨d+3,We,tb⟩ pT m (RS a b U) (JB m ps p fs) Rt E:=by
 obtain⟨F,G,n,Z⟩:=qZ ps gy;obtain⟨c,H⟩:=zG t;subst H;clear t;refine WX.cons (WS.asg rfl (WE.tup (WL.cons (WE.listT (WL.nil ⟨rfl,rfl,WL.cons (WE.listT (WL.nil ⟨rfl,rfl,WL.cons (WE.listT (WL.nil ⟨rfl,rfl,WL.nil ⟨rfl,_,cz l rfl,?_⟩⟩))⟩))⟩)))));obtain⟨L,k,e1,e2,e3,es,I⟩:∃L k,(RS a b (.list (fs.map bz)::c)).length=L+5/\(RS a b (.list (fs.map bz)::c)++[O.list []]).length=L+6/\((RS a b (.list (fs.map bz)::c)++[O.list []])++[O.list []]).length=L+7/\((RS a b (.list (fs.map bz)::c)++[O.list []])++[O.list []])++[O.list []]=RS a b k/\DS k L (fs.map bz) []:=
  ⟨c.length,.list (fs.map bz)::(c++[.list [],.list [],.list []]),rfl,by simp,by simp,by simp,rfl,bH _ _ _,eW,eW⟩
 rw[e1,e2,e3,es];clear e1 e2 e3 es;show WX _ (B1 pT 1::pT.drop 2) (put lV (.ref (L+7)) (put lU (.ref (L+6)) (put nB (.ref (L+5)) m))) (RS a b k) _ _ _;have e:∀x,¬x∈JA->get x (put lV (.ref (L+7)) (put lU (.ref (L+6)) (put nB (.ref (L+5)) m)))=get x m:=fun x g=>((bi (CH g (by decide))).trans (bi (CH g (by decide)))).trans (bi (CH g (by decide)));have j:OE (put lV (.ref (L+7)) (put lU (.ref (L+6)) (put nB (.ref (L+5)) m))) L i p tame ps:=
  ⟨fX rfl (fX rfl (fX rfl l)),(e jW (by decide)).trans u,(bi rfl).trans ((bi rfl).trans eQ),(bi rfl).trans eQ,eQ,((bi rfl).trans ((bi rfl).trans (bi rfl))).trans y,(e wi (by decide)).trans v,(e pU (by decide)).trans w,((bi rfl).trans ((bi rfl).trans (bi rfl))).trans z,(e nC (by decide)).trans A⟩
 generalize put lV (.ref (L+7)) (put lU (.ref (L+6)) (put nB (.ref (L+5)) m))=m1 at e j;clear u v w y z A l;refine WX.cons (WS.forE rfl j.o (WE.bin (WE.slice (WE.name j.k6 (WO.some (WE.int (WO.none ⟨_,CJ ps gy,WE.listF (WL.cons (WE.str (WL.nil ⟨rfl,rfl,.list ((uw ps).map .str),?_,?_⟩)))⟩)))))))
 ·show cond (aq ((ps.tail.map P.str).length+1)) (Wb (P.list (ps.tail.map P.str++[P.str 1668184435]))) Wc=_;rw[zJ n,WM];rfl
 refine⟨(uw ps).map .str,CK ps L (fs.map bz) m1,rfl,⟨[],uw ps,a,b,k,[],rfl,rfl,rfl,B,C,I,⟨Xk _,(fun s h=>absurd h WA),Y3,fun x h=>absurd h WA⟩,fun _ _=>rfl,j.o⟩,fun x r J K M q=>zI G n j M q,fun J K q=>?_⟩;have hs:=mI p (F p hp);exact CL ⟨hs.1,hs.2.1,hs.2.2.1⟩ n D hp j q fun N Q R f h1 S T V W X Y=>⟨h1,fun x g=>(S x fun h=>g ((by decide:∀x∈Mf,x∈JA) x h)).trans (e x g),N,Q,R,f,rfl,T,V,W,X,Y⟩
end
theorem nE{α:Type}{k:Nat}{g:α->P}(h:∀x,mU k (g x)=Wd):∀l:List α,mV k (l.map g)=Wd:=by
 intro a
 induction a with
 |nil=>
  rfl
 |cons x l b=>
  rw[Xs];show(mU k (g x) &&mV k (l.map g))=Wd;rw[h x,b];rfl
theorem Gq{k:Nat}(i:kY):mU k (eh i)=Wd:=by
 obtain⟨a,o,s⟩:=i
 induction a<;>rfl
theorem CM{k:Nat}(w:Nat×Nat):mU k (a8 w)=Wd:=by
 obtain⟨w,n⟩:=w;rcases w with _|_|_|w<;>rfl
theorem Gs{k:Nat}(f:Fi):mU k (bz f)=Wd:=by
 show(Wd&& ((Wd&& (mV k ((f.sl.map Sl.imp).map eh) && (mV k (f.L.map a8) &&Wd))) &&Wd))=Wd;rw[nE Gq,nE CM];rfl
theorem uy{Z:St}{n t:Nat}{l:List P}(b:ai Z n=Wb (.list l))(ht:t<l.length)(h:l.length<=5000):dQ Z (.ref n) (Wb (.int t)) Wc=Wb (.list (l.drop t)):=by
 show(c7 Z (.ref n)).bind _=_;rw[show c7 Z (.ref n)=Wb l by show jK (ai Z n)=_;rw[b];rfl];show lc (aq l.length) ((cond (WR t (2 ^ 64)) (Wb (cond (WR t l.length) t l.length)) Wc).bind fun a=>Wb (P.list (cut l a l.length)))=_;rw[b8 h,show WR t (2 ^ 64)=Wd from Wy (Wj ht (qC h rfl)),show WR t l.length=Wd from Wy ht];show Wb (P.list ((l.drop t).take (l.length - t)))=_;rw[List.take_of_length_le (by rw[aaD];exact Xk _)]
theorem uz{Z:St}{n t:Nat}{l:List P}(a:ai Z n=Wb (.list l))(ht:t<l.length)(h:l.length<=5000):dQ Z (.ref n) Wc (Wb (.int t))=Wb (.list (l.take t)):=by
 show(c7 Z (.ref n)).bind _=_;rw[show c7 Z (.ref n)=Wb l by show jK (ai Z n)=_;rw[a];rfl];show lc (aq l.length) ((cond (WR t (2 ^ 64)) (Wb (cond (WR t l.length) t l.length)) Wc).bind fun b=>Wb (P.list (cut l 0 b)))=_;rw[b8 h,show WR t (2 ^ 64)=Wd from Wy (Wj ht (qC h rfl)),show WR t l.length=Wd from Wy ht];rfl
section
variable{d:Nat}{tb:Option Nat}{Q:P->St->Prop}{E:EP}{a b:Int}
noncomputable abbrev dM(ps:List Nat)(tame:Bool):VE:=[(jW,.ref 3),(wi,.list (ps.map .str)),(nC,.bool tame),(pU,.ref 4)]
inductive Mg(ps:List Nat)(tame:Bool)(r:List P)(m:VE)(Z:St):Prop
 |mk(a ar:List Nat)(b c:Int)(d:St)(fs:List Fi)(e:ps=a++ar)(g:r=fi a.length (ar.map .str))(h:Z=RS b c d)(i:0<=b)(j:0<=c)(k:ai d 0=Wb (.list (fs.map bz)))(l:aL fs=a)(n:∀f∈fs,xC ps f)(o:∀x,¬x∈JA->get x m=get x (dM ps tame))(p:bc m)
theorem CN{ps:List Nat}{tame:Bool}{x:P}{r:List P}{m:VE}{o:St}(gy:ps∈pn)(c:ps.length<=5)(e:bc m)(h:Mg ps tame (x::r) m o):
  ∃m1,aD (.tup [(xB,362008010),(so,362012016)] 0 362008016) x m=Wb m1/\WX ⟨d+3,We,tb⟩ pT m1 o (fun q Z2=>bc q/\Mg ps tame r q Z2) (fun _ _=>False) E:=by
 obtain⟨j,ar,N,O,Q,fs,k,l,u,w,y,s,n,A,t,B⟩:=h
 induction ar using Wv with
 |nil=>cases l
 |cons p ar=>
  obtain⟨e1,e2⟩:=Ye (l.trans (by rw[Xs,ek]));subst e1 e2 u;have C:fs.length<=20:=by
   rw[k,<-n,Wu] at c;unfold aL at c;rw[Wp] at c;exact Wj (WZ c) (Wg rfl)
  have b:∀x,¬x∈JA->get x (put so (.str p) (put xB (.int j.length) m))=get x (dM ps tame):=fun x a=>
   ((bi (CH a (by decide))).trans (bi (CH a (by decide)))).trans (t x a)
  refine⟨_,cz e rfl,W.mono (JC (Rt:=fun _ _=>False) (i:=j.length) (p:=p) (tame:=tame) w y (fX rfl (fX rfl e)) s C gy (by rw[k];exact acp _ (.head _)) ((b _ (by decide)).trans rfl) ((b _ (by decide)).trans rfl) ((b _ (by decide)).trans rfl) eQ ((bi rfl).trans eQ) ((b _ (by decide)).trans rfl)) (fun z Z h=>?_) hE⟩;clear l t e B s;obtain⟨fl,R⟩:=z
  induction fl using Mine.Fl.casesOn with
  |ret v=>exact h
  |next=>
   obtain⟨h1,D,F,b2,G,f,H,I,J,K,L,M⟩:=h;refine⟨h1,j++[p],ar,F,b2,G,fs++[f],by rw[k,Xw];rfl,by rw[Wu];rfl,H,I,J,K,?_,?_,fun x a=>(D x a).trans (b x a),h1⟩
   ·unfold aL at n ⊢;rw[WM,n,<-M];rfl
   ·intro g hg;rcases WV.mp hg with hg|hg
    ·exact A g hg
    ·rw[WQ.mp hg];exact L
theorem Gu{ps:List Nat}{tame:Bool}{m:VE}{u:St}{N:VE->St->Prop}{Rt:P->St->Prop}(h0:0<ps.length)(v:ps.length<=5)(h:Mg ps tame [] m u)(q:∀fs b c a,0<=b->0<=c->(aL fs).Perm ps->(∀f∈fs,xC ps f)->Rt (.list (fs.map bz)) (RS b c a)):WX ⟨d+3,We,tb⟩ (iQ.drop 3) m u N Rt E:=by
 obtain⟨O,ar,b,c,a,fs,e,g,C,D,F,w,i,G,j,H⟩:=h;have I:ar=[]:=by
  induction ar using Wv with
  |nil=>rfl
  |cons o ar=>rw[Xs,ek] at g;cases g
 subst I C;rw[X7] at e;rw[<-e] at i;have l:fs.length=ps.length:=by rw[<-i];unfold aL;rw[Wp]
 have p:(fs.map bz).length=fs.length:=Wp ..;have r:(fs.map bz).length<=5:=by rw[p,l];exact v
 have J:0< (fs.map bz).length:=by rw[p,l];exact h0
 have K:get jW m=Wb (.ref 3):=(j _ (by decide)).trans rfl;have x:get pU m=Wb (.ref 4):=(j _ (by decide)).trans rfl;clear e g j v h0 l p;refine WX.cons (WS.asg rfl (WE.call rfl rfl (WL.cons (WE.name K (WL.cons (WE.callB rfl rfl rfl (WL.cons (WE.name x (WL.nil ⟨_,RS b c a,Gk (n:=4) w (b8 (Wj r (Wg rfl))),WL.nil (eC (k:=(fs.map bz).length) D F J (Wj r (Wg rfl)) fun t y z ht L M=>⟨_,cB H rfl,?_⟩)⟩)))))))));have A:get pU (put 1852994932 (.int t) m)=Wb (.ref 4):=(bi rfl).trans x;have hd:ai (RS y z a) 4=Wb (.list (fs.map bz)):=w;have s:=Wj r (Wg rfl:5<=5000);refine WX.cons (WS.ret (WE.bin (WE.slice (WE.name A (WO.some (WE.name eQ (WO.none ⟨_,uy hd ht s,WE.slice (WE.name A (WO.none (WO.some (WE.name eQ ⟨_,uz hd ht s,.list ((fs.drop t++fs.take t).map bz),?_,?_⟩))))⟩)))))))
 ·show cond (aq (((fs.map bz).drop t).length+((fs.map bz).take t).length)) (Wb (P.list ((fs.map bz).drop t++(fs.map bz).take t))) Wc=_;rw[show aq (((fs.map bz).drop t).length+((fs.map bz).take t).length)=Wd from by
   rw[aaD,abM,aei (Xj ht),YN (Xj ht)];exact b8 s,WM,List.map_drop,List.map_take];rfl
 have B:(fs.drop t++fs.take t).Perm fs:=by
  refine List.perm_append_comm.trans ?_;rw[List.take_append_drop]
 refine q _ y z a L M ?_ fun f hf=>G f (B.mem_iff.mp hf);exact i▸(B.map _)
theorem Gv(w:Nat)(h:w<4):∀Z,∃ps∈pn,dQ Z (.list [.str 1852399981,.str 98,.str 8007521,.str 6369123,.str 97]) Wc (Wb (.int (2+(w:Int))))=Wb (.list (ps.map .str)):=
 k4 (R:=fun w=>∀Z,∃ps∈pn,dQ Z (.list [.str 1852399981,.str 98,.str 8007521,.str 6369123,.str 97]) Wc (Wb (.int (2+((w:Nat):Int))))=Wb (.list (ps.map .str)))
  (fun _=>⟨[1852399981,98],by decide,rfl⟩) (fun _=>⟨[1852399981,98,8007521],by decide,rfl⟩) (fun _=>⟨[1852399981,98,8007521,6369123],by decide,rfl⟩) (fun _=>⟨[1852399981,98,8007521,6369123,97],by decide,rfl⟩) w h
theorem CO(i:0<=a)(j:0<=b)(q:∀fs c e ps,ps∈pn->0<=c->0<=e->(aL fs).Perm ps->(∀f∈fs,xC ps f)->Q (.list (fs.map bz)) (RS c e [])):WC ⟨d+4,We,tb⟩ iJ [.ref 3] (RS a b []) Q E:=by
 refine WC.ofG (fn:=kr) rfl rfl rfl rfl ?_;refine WX.cons (WS.asg rfl (WE.slice (WE.listF (WL.cons (WE.str (WL.cons (WE.str (WL.cons (WE.str (WL.cons (WE.str (WL.cons (WE.str (WL.nil ⟨rfl,rfl,WO.none (WO.some (WE.bin (WE.int (WE.call rfl rfl (WL.cons (WE.name rfl (WL.cons (WE.int (WL.nil (eC (k:=4) i j (by decide) (by decide) fun w p s l t u=>?_))))))))))⟩))))))))))))));obtain⟨ps,gy,n⟩:=Gv w l (RS p s []);refine⟨_,rfl,_,n,_,rfl,?_⟩;clear i j n l;refine WX.cons (WS.asg rfl (WE.tup (WL.cons (WE.cmp (WE.call rfl rfl (WL.cons (WE.name rfl (WL.cons (WE.int (WL.nil (eC (k:=3) t u (by decide) (by decide) fun v y b2 J z A=>WE.int ⟨_,rfl,WL.cons (WE.listT (WL.nil ⟨rfl,rfl,WL.nil ⟨rfl,_,rfl,?_⟩⟩))⟩)))))))))));generalize decide (((0:Nat):Int) < (v:Int))=tame;have o:=(qZ ps gy).2.2.2;refine WX.cons (WS.forE rfl rfl (WE.name rfl ⟨ps.map .str,Mg ps tame,rfl,⟨[],ps,y,b2,_,[],rfl,rfl,rfl,z,A,rfl,rfl,(fun f h=>absurd h WA),fun _ _=>rfl,rfl⟩,fun x r m B C g=>CN gy o C g,fun m B g=>Gu ((by decide:∀ps∈pn,0<ps.length) ps gy) o g fun fs c e D h1 F G H=>?_⟩));have I:fQ (RS a b []).length (.list (fs.map bz)) (RS c e D)=RS c e []:=by
  show cond (mV 4 (fs.map bz) &&Wd) (RS c e []) _=_;rw[nE Gs];rfl
 rw[I];exact q fs c e ps gy h1 F G H
end
noncomputable abbrev cF:Cx:=⟨24,We,Wb 0⟩
noncomputable abbrev Gw:Nat:=1701998445
noncomputable abbrev Gx:Nat:=32497657166458217
noncomputable abbrev Gy:Nat:=495739692388
noncomputable abbrev Gz:Nat:=1685221239
noncomputable abbrev GA:Nat:=1953460339
noncomputable abbrev GB:Nat:=1701734765
noncomputable abbrev uA:Nat:=495622842726
noncomputable abbrev EJ:List IS:=(a6.drop 1).take 2
noncomputable def mE(v1 v2 a:List P)(b:Nat)(c:Int):VE:=[(1818584434,.ref 3),(Gw,.list v1),(Gx,.list v2),(Gy,.list a),(Gz,.str b),(GA,.int c)]
noncomputable def d5:Nat->Nat->Int->P
 |0,nm,a=>.tup [.str 7496054,.int a,.tup [.str nm,.str 95],.tup [.str 1701667182,.int 0,.none,.str 7630441],.tup []]
 |1,nm,a=>.tup [.str 500152823651,.int a,.tup [.tup [.tup [.str 95],.none,.tup [.tup [.str 7630441,.int 0,.int 1]],.int 0],.tup [.tup [.str nm],.none,.tup [.tup [.str 7630441,.int 0,.int 1]],.int 1]]]
 |2,nm,a=>.tup [.str 7810197660663576948,.int a,.str nm,.tup [.str 1701667182,.int 0,.none,.str 7630441],.bool We]
 |_,nm,a=>.tup [.str 7810197660629890406,.int a,.str nm,.none,.tup [.str 1668183398,.int 0,.tup [],.tup [],.bool We],.tup [],.tup [],.tup [.str 461229747298,.int 0,.tup []]]
noncomputable abbrev fz(p n:Nat):P:=.tup [.str p,.tup [.str n,.tup [],.tup []]]
noncomputable def GC:P:=.list [fz 503306152300 117,.tup [.str 1852399981,.tup [.str 1852399981,.tup [.tup [.none,.str 503306152300,.int 5]],.tup [H5 117]]]]
noncomputable def sr:St:=[.inst 8315165955120652624 [(495622842726,.ref 5),(495622906222,.ref 6),(474147938676,.ref 10)],.dict [(503306152300,.tup [.str 117,.tup [],.tup []]),(1852399981,.tup [.str 1852399981,.tup [.tup [.none,.str 503306152300,.int 5]],.tup [H5 117]])] 2,.dict [(503306152300,.ref 7),(1852399981,.ref 8)] 2,.dict [] 0,.dict [] 0,.dead,.dict [(503306152300,.ref 11),(1852399981,.ref 18)] 2,.dict [] 0,.inst 540220137035986520334670 [(8320793298381005160,.glob 2342095099875884289410416575209832),(8315165955120652656,.tup []),(7239535,.ref 13),(431349919590,.ref 14),(110425377629538,.ref 15),(431130765409,.ref 16),(7815265378425466724,.ref 17)],.list [.list []],.dict [] 0,.dict [] 0,.dict [] 0,.dict [] 0,.dict [(117,.str 503306152300)] 1,.inst 540220137035986520334670 [(8320793298381005160,.glob 2342095099875884289410416575209832),(8315165955120652656,.tup []),(7239535,.ref 20),(431349919590,.ref 21),(110425377629538,.ref 22),(431130765409,.ref 23),(7815265378425466724,.ref 24)],.list [.list [.str 95]],.dict [] 0,.dict [] 0,.dict [(117,.bool Wd)] 1,.dict [] 0,.dead,.dict [(503306152300,.ref 27),(1852399981,.ref 28)] 2,.dict [] 0,.dict [(117,.str 503306152300)] 1]
theorem JD(a b:Int)(v1 v2 c:List P)(d:Nat)(e:Int)(n:Nat):dB tab (run tab (n+60)) cF EJ (mE v1 v2 c d e) (RS a b [])=.ok (.next,mE v1 v2 c d e++[(uA,GC)]) (RS a b sr):=by kernel_rfl
structure fI where
 mo:List P
 im:List P
 de:List P
 wo:Nat
 sp:Int
noncomputable def pq(f:fI):P:=.tup [.list f.mo,.list f.im,.list f.de,.str f.wo,.int f.sp]
noncomputable def fM(a Wb:Nat):VE:=[(1818584434,.ref 3),(7954807,.int a),(1701670771,.int Wb)]
noncomputable def dd(k:Nat):St:=cond (WR k 2) [] [.dead,.dead]
noncomputable def tE(f:fI)(k:Nat):VE:=mE f.mo f.im f.de f.wo f.sp++[(uA,GC),(GB,.list (a8 (k,117)::f.de))]
noncomputable def nF(f:fI)(k:Nat):Prop:=∀(a b:Int)(n:Nat),gc 4 (mT (dB tab (run tab (n+82)) cF (a6.drop 4) (tE f k) (RS a b (sr++dd k))))=.ok (.bool Wd) (RS a b [])
noncomputable def cf(f:fI):Prop:=f.de.length<=10/\mU 4 (pq f)=Wd/\∀k,k<4->nF f k
theorem cJ{f:fI}(h1:f.de.length<=10)(a:mU 4 (pq f)=Wd)(b:nF f 0)(c:nF f 1)(k2:nF f 2)(k3:nF f 3):cf f:=⟨h1,a,k4 b c k2 k3⟩
noncomputable def JE(c Wb:Nat)(f:fI)(U:St):Prop:=∀(a b:Int)(n:Nat),dB tab (run tab (n+16)) ⟨23,We,Wc⟩ (fR.drop 1) (fM c Wb) (RS a b [])=.ok (.ret (pq f),fM c Wb) (RS a b U)
theorem Sa(k:Nat)(h:k<4)(a b:Int)(n:Nat):dG tab (run tab (n+30)) cF ef [.int k,.str 117] (RS a b sr)=.ok (a8 (k,117)) (RS a b (sr++dd k)):=by
 revert a b n
 exact k4 (R:=fun k=>∀a b:Int,∀n:Nat,dG tab (run tab (n+30)) cF ef [.int k,.str 117] (RS a b sr)=.ok (a8 (k,117)) (RS a b (sr++dd k))) (fun a b n=>by kernel_rfl) (fun a b n=>by kernel_rfl) (fun a b n=>by kernel_rfl) (fun a b n=>by kernel_rfl) k h
noncomputable def EK:fI:=⟨[fz 503306152300 117],[],[],128034844732777,0⟩
noncomputable def Nt:fI:=⟨[fz 1668184435 119],[],[],128034844732777,0⟩
noncomputable def PZ:fI:=⟨[fz 28549272340166002 119],[],[],128034844732777,0⟩
noncomputable def P0:fI:=⟨[fz 7810679 119],[],[],128034844732777,0⟩
noncomputable def P1:fI:=⟨[fz 7807863 119],[],[],128034844732777,0⟩
noncomputable def P2:fI:=⟨[fz 7831159 119],[],[],128034844732777,0⟩
noncomputable def Nu:fI:=⟨[fz 119 95],[],[],128034844732777,0⟩
noncomputable def P8:fI:=⟨[fz 119 1852399981],[],[],128034844732777,0⟩
noncomputable def P9:fI:=⟨[],[.tup [.none,.str 28554752517697390,.int 31]],[yB 110],128034844732777,31⟩
noncomputable def Qa:fI:=⟨[],[.tup [.str 110,.str 28554752517697390,.int 31]],[yB 110],128034844732777,31⟩
noncomputable def JF:fI:=⟨[],[.tup [.str 95,.str 28554752517697390,.int 31]],[yB 110],128034844732777,31⟩
noncomputable def JG:fI:=⟨[],[.tup [.none,.str 1852399981,.int 31]],[yB 109],128034844732777,31⟩
noncomputable def JH:fI:=⟨[],[.tup [.str 109,.str 1852399981,.int 31]],[yB 109],128034844732777,31⟩
noncomputable def JI:fI:=⟨[],[.tup [.str 95,.str 1852399981,.int 31]],[yB 109],128034844732777,31⟩
noncomputable def JJ:fI:=⟨[],[],[d5 0 1953066601 41],1701667182,41⟩
noncomputable def JK:fI:=⟨[],[],[d5 1 1953066601 41],1701667182,41⟩
noncomputable def JL:fI:=⟨[],[],[d5 2 1953066601 41],1701667182,41⟩
noncomputable def CP:fI:=⟨[],[.tup [.str 1953066601,.str 1668184435,.int 31]],[yB 1953066601],128034844732777,31⟩
noncomputable def CQ:fI:=⟨[fz 119 1953066601],[.tup [.none,.str 119,.int 31]],[yB 1953066601],128034844732777,31⟩
noncomputable def CR:fI:=⟨[],[.tup [.str 117,.str 1668184435,.int 31]],[],128034844732777,31⟩
noncomputable def JM:fI:=⟨[],[.tup [.str 115,.str 1668184435,.int 31],.tup [.str 115,.str 28549272340166002,.int 32]],[yB 115],128034844732777,32⟩
noncomputable def JN:fI:=⟨[],[.tup [.str 115,.str 1668184435,.int 31],.tup [.str 115,.str 28549272340166002,.int 32]],[H5 115],128034844732777,32⟩
noncomputable def JO:fI:=⟨[],[.tup [.str 115,.str 1668184435,.int 31],.tup [.str 115,.str 28549272340166002,.int 32]],[L5 115],128034844732777,32⟩
noncomputable def JP:fI:=⟨[],[.tup [.str 7239535,.str 1668184435,.int 31]],[d5 0 7239535 41,Jj 7239535],128034844732777,31⟩
noncomputable def JQ:fI:=⟨[],[.tup [.str 7239535,.str 1668184435,.int 31]],[d5 1 7239535 41,Jj 7239535],128034844732777,31⟩
noncomputable def JR:fI:=⟨[],[.tup [.str 7239535,.str 1668184435,.int 31]],[d5 2 7239535 41,Jj 7239535],128034844732777,31⟩
noncomputable def JS:fI:=⟨[],[.tup [.none,.str 1668184435,.int 31]],[.tup [.str 7810197660629890406,.int 61,.str 95,.none,.tup [.str 1668183398,.int 0,.tup [.tup [.str 1701667182,.int 0,.none,.str 7630441]],.tup [],.bool We],.tup [.str 1668184435],.tup [],.tup [.str 461229747298,.int 0,.tup [.tup [.str 1919973477,.int 0,vS 1668184435]]]]],128034844732777,31⟩
noncomputable def JT:fI:=⟨[],[.tup [.none,.str 1668184435,.int 31]],[.tup [.str 7810197660629890406,.int 61,.str 95,.none,.tup [.str 1668183398,.int 0,.tup [],.tup [],.bool We],.tup [],.tup [],.tup [.str 461229747298,.int 0,.tup [.tup [.str 111524889126244,.int 0,.tup [.str 1668184435],.tup [.tup [.str 7630441,.int 0,.int 1]]],.tup [.str 1919973477,.int 0,vS 1668184435]]]]],128034844732777,31⟩
noncomputable def JU:fI:=⟨[],[.tup [.none,.str 1668184435,.int 31]],[.tup [.str 7810197660629890406,.int 61,.str 95,.none,.tup [.str 1668183398,.int 0,.tup [],.tup [],.bool We],.tup [],.tup [],.tup [.str 461229747298,.int 0,.tup [.tup [.str 26217,.int 0,.tup [.str 111524889126244,.int 0,.tup [.str 1668184435],.tup [.tup [.str 7630441,.int 0,.int 1]]],vS 1668184435,.tup [.str 461229747298,.int 0,.tup []],.none]]]]],128034844732777,31⟩
noncomputable def JV:fI:=⟨[fz 7876471 121],[.tup [.none,.str 7876471,.int 31]],[yB 120],128034844732777,31⟩
noncomputable def JW:fI:=⟨[fz 7876471 121],[.tup [.none,.str 7876471,.int 31]],[H5 120],128034844732777,31⟩
noncomputable def JX:fI:=⟨[fz 7876471 121],[.tup [.none,.str 7876471,.int 31]],[L5 120],128034844732777,31⟩
noncomputable def JY:fI:=⟨[],[],[d5 3 116 40,d5 0 116 41],1701667182,41⟩
noncomputable def JZ:fI:=⟨[],[],[d5 3 116 40,d5 1 116 41],1701667182,41⟩
noncomputable def J0:fI:=⟨[],[],[d5 3 116 40,d5 2 116 41],1701667182,41⟩
noncomputable def J1:fI:=⟨[],[],[d5 3 116 40,d5 3 116 41],1701667182,41⟩
theorem Nv:cf EK:=cJ (by decide) (by kernel_rfl) (fun _ _ _=>by kernel_rfl) (fun _ _ _=>by kernel_rfl) (fun _ _ _=>by kernel_rfl) (fun _ _ _=>by kernel_rfl)
theorem Qb:cf Nt:=cJ (by decide) (by kernel_rfl) (fun _ _ _=>by kernel_rfl) (fun _ _ _=>by kernel_rfl) (fun _ _ _=>by kernel_rfl) (fun _ _ _=>by kernel_rfl)
theorem Sb:cf PZ:=cJ (by decide) (by kernel_rfl) (fun _ _ _=>by kernel_rfl) (fun _ _ _=>by kernel_rfl) (fun _ _ _=>by kernel_rfl) (fun _ _ _=>by kernel_rfl)
theorem Sd:cf P0:=cJ (by decide) (by kernel_rfl) (fun _ _ _=>by kernel_rfl) (fun _ _ _=>by kernel_rfl) (fun _ _ _=>by kernel_rfl) (fun _ _ _=>by kernel_rfl)
theorem Se:cf P1:=cJ (by decide) (by kernel_rfl) (fun _ _ _=>by kernel_rfl) (fun _ _ _=>by kernel_rfl) (fun _ _ _=>by kernel_rfl) (fun _ _ _=>by kernel_rfl)
theorem Sf:cf P2:=cJ (by decide) (by kernel_rfl) (fun _ _ _=>by kernel_rfl) (fun _ _ _=>by kernel_rfl) (fun _ _ _=>by kernel_rfl) (fun _ _ _=>by kernel_rfl)
theorem Qc:cf Nu:=cJ (by decide) (by kernel_rfl) (fun _ _ _=>by kernel_rfl) (fun _ _ _=>by kernel_rfl) (fun _ _ _=>by kernel_rfl) (fun _ _ _=>by kernel_rfl)
theorem Sg:cf P8:=cJ (by decide) (by kernel_rfl) (fun _ _ _=>by kernel_rfl) (fun _ _ _=>by kernel_rfl) (fun _ _ _=>by kernel_rfl) (fun _ _ _=>by kernel_rfl)
theorem Sh:cf P9:=cJ (by decide) (by kernel_rfl) (fun _ _ _=>by kernel_rfl) (fun _ _ _=>by kernel_rfl) (fun _ _ _=>by kernel_rfl) (fun _ _ _=>by kernel_rfl)
theorem Si:cf Qa:=cJ (by decide) (by kernel_rfl) (fun _ _ _=>by kernel_rfl) (fun _ _ _=>by kernel_rfl) (fun _ _ _=>by kernel_rfl) (fun _ _ _=>by kernel_rfl)
theorem Nw:cf JF:=cJ (by decide) (by kernel_rfl) (fun _ _ _=>by kernel_rfl) (fun _ _ _=>by kernel_rfl) (fun _ _ _=>by kernel_rfl) (fun _ _ _=>by kernel_rfl)
theorem Ny:cf JG:=cJ (by decide) (by kernel_rfl) (fun _ _ _=>by kernel_rfl) (fun _ _ _=>by kernel_rfl) (fun _ _ _=>by kernel_rfl) (fun _ _ _=>by kernel_rfl)
theorem Nz:cf JH:=cJ (by decide) (by kernel_rfl) (fun _ _ _=>by kernel_rfl) (fun _ _ _=>by kernel_rfl) (fun _ _ _=>by kernel_rfl) (fun _ _ _=>by kernel_rfl)
theorem NA:cf JI:=cJ (by decide) (by kernel_rfl) (fun _ _ _=>by kernel_rfl) (fun _ _ _=>by kernel_rfl) (fun _ _ _=>by kernel_rfl) (fun _ _ _=>by kernel_rfl)
theorem NB:cf JJ:=cJ (by decide) (by kernel_rfl) (fun _ _ _=>by kernel_rfl) (fun _ _ _=>by kernel_rfl) (fun _ _ _=>by kernel_rfl) (fun _ _ _=>by kernel_rfl)
theorem NC:cf JK:=cJ (by decide) (by kernel_rfl) (fun _ _ _=>by kernel_rfl) (fun _ _ _=>by kernel_rfl) (fun _ _ _=>by kernel_rfl) (fun _ _ _=>by kernel_rfl)
theorem ND:cf JL:=cJ (by decide) (by kernel_rfl) (fun _ _ _=>by kernel_rfl) (fun _ _ _=>by kernel_rfl) (fun _ _ _=>by kernel_rfl) (fun _ _ _=>by kernel_rfl)
theorem GD:cf CP:=cJ (by decide) (by kernel_rfl) (fun _ _ _=>by kernel_rfl) (fun _ _ _=>by kernel_rfl) (fun _ _ _=>by kernel_rfl) (fun _ _ _=>by kernel_rfl)
theorem GF:cf CQ:=cJ (by decide) (by kernel_rfl) (fun _ _ _=>by kernel_rfl) (fun _ _ _=>by kernel_rfl) (fun _ _ _=>by kernel_rfl) (fun _ _ _=>by kernel_rfl)
theorem GG:cf CR:=cJ (by decide) (by kernel_rfl) (fun _ _ _=>by kernel_rfl) (fun _ _ _=>by kernel_rfl) (fun _ _ _=>by kernel_rfl) (fun _ _ _=>by kernel_rfl)
theorem NE:cf JM:=cJ (by decide) (by kernel_rfl) (fun _ _ _=>by kernel_rfl) (fun _ _ _=>by kernel_rfl) (fun _ _ _=>by kernel_rfl) (fun _ _ _=>by kernel_rfl)
theorem NF:cf JN:=cJ (by decide) (by kernel_rfl) (fun _ _ _=>by kernel_rfl) (fun _ _ _=>by kernel_rfl) (fun _ _ _=>by kernel_rfl) (fun _ _ _=>by kernel_rfl)
theorem NG:cf JO:=cJ (by decide) (by kernel_rfl) (fun _ _ _=>by kernel_rfl) (fun _ _ _=>by kernel_rfl) (fun _ _ _=>by kernel_rfl) (fun _ _ _=>by kernel_rfl)
theorem NH:cf JP:=cJ (by decide) (by kernel_rfl) (fun _ _ _=>by kernel_rfl) (fun _ _ _=>by kernel_rfl) (fun _ _ _=>by kernel_rfl) (fun _ _ _=>by kernel_rfl)
theorem NI:cf JQ:=cJ (by decide) (by kernel_rfl) (fun _ _ _=>by kernel_rfl) (fun _ _ _=>by kernel_rfl) (fun _ _ _=>by kernel_rfl) (fun _ _ _=>by kernel_rfl)
theorem NJ:cf JR:=cJ (by decide) (by kernel_rfl) (fun _ _ _=>by kernel_rfl) (fun _ _ _=>by kernel_rfl) (fun _ _ _=>by kernel_rfl) (fun _ _ _=>by kernel_rfl)
theorem NK:cf JS:=cJ (by decide) (by kernel_rfl) (fun _ _ _=>by kernel_rfl) (fun _ _ _=>by kernel_rfl) (fun _ _ _=>by kernel_rfl) (fun _ _ _=>by kernel_rfl)
theorem NL:cf JT:=cJ (by decide) (by kernel_rfl) (fun _ _ _=>by kernel_rfl) (fun _ _ _=>by kernel_rfl) (fun _ _ _=>by kernel_rfl) (fun _ _ _=>by kernel_rfl)
theorem NM:cf JU:=cJ (by decide) (by kernel_rfl) (fun _ _ _=>by kernel_rfl) (fun _ _ _=>by kernel_rfl) (fun _ _ _=>by kernel_rfl) (fun _ _ _=>by kernel_rfl)
theorem NN:cf JV:=cJ (by decide) (by kernel_rfl) (fun _ _ _=>by kernel_rfl) (fun _ _ _=>by kernel_rfl) (fun _ _ _=>by kernel_rfl) (fun _ _ _=>by kernel_rfl)
theorem NO:cf JW:=cJ (by decide) (by kernel_rfl) (fun _ _ _=>by kernel_rfl) (fun _ _ _=>by kernel_rfl) (fun _ _ _=>by kernel_rfl) (fun _ _ _=>by kernel_rfl)
theorem NP:cf JX:=cJ (by decide) (by kernel_rfl) (fun _ _ _=>by kernel_rfl) (fun _ _ _=>by kernel_rfl) (fun _ _ _=>by kernel_rfl) (fun _ _ _=>by kernel_rfl)
theorem NQ:cf JY:=cJ (by decide) (by kernel_rfl) (fun _ _ _=>by kernel_rfl) (fun _ _ _=>by kernel_rfl) (fun _ _ _=>by kernel_rfl) (fun _ _ _=>by kernel_rfl)
theorem NR:cf JZ:=cJ (by decide) (by kernel_rfl) (fun _ _ _=>by kernel_rfl) (fun _ _ _=>by kernel_rfl) (fun _ _ _=>by kernel_rfl) (fun _ _ _=>by kernel_rfl)
theorem NS:cf J0:=cJ (by decide) (by kernel_rfl) (fun _ _ _=>by kernel_rfl) (fun _ _ _=>by kernel_rfl) (fun _ _ _=>by kernel_rfl) (fun _ _ _=>by kernel_rfl)
theorem NT:cf J1:=cJ (by decide) (by kernel_rfl) (fun _ _ _=>by kernel_rfl) (fun _ _ _=>by kernel_rfl) (fun _ _ _=>by kernel_rfl) (fun _ _ _=>by kernel_rfl)
noncomputable def NU:List fI:=[EK,EK,EK,Nt,PZ,Nt,P0,P1,P2,Nu,P8,Nu,P9,Qa,JF,JG,JH,JI,JJ,JK,JL,EK,EK,EK,CP,CP,CP,CQ,CQ,CQ,CR,CR,CR,JM,JN,JO,JP,JQ,JR,JS,JT,JU,JV,JW,JX]
noncomputable def Ih(w s:Nat):fI:=(ai NU (3*w+s)).getD EK
noncomputable def NV(w s:Nat):St:=cond (Bq (3*w+s) [35,36,37,38,39,40,41,44]) [.dead,.dead] []
theorem k3{R:Nat->Prop}(h0:R 0)(h1:R 1)(a:R 2)(k:Nat):k<3->R k:=by
 rcases k with _|_|_|k
 ·exact fun _=>h0
 ·exact fun _=>h1
 ·exact fun _=>a
 ·exact fun h=>absurd h (aaC (Yy 3 k))
theorem kS{R:Nat->Prop}{n:Nat}(h:∀k,k<n->R k)(a:R n)(k:Nat)(b:k<n+1):R k:=by
 rcases Nat.lt_or_eq_of_le (abu b) with q|q
 ·exact h k q
 ·exact q▸a
noncomputable abbrev FO(a Wb:Nat):Prop:=JE a Wb (Ih a Wb) (NV a Wb)/\cf (Ih a Wb)
theorem GH:∀c,c<15->c≠7->∀Wb,Wb<3->FO c Wb:=
 kS (kS (kS (kS (kS (kS (kS (kS (kS (kS (kS (kS (kS (kS (kS (fun k h=>absurd h (aaU k))
 (fun _=>k3 ⟨fun a b n=>by kernel_rfl,Nv⟩ ⟨fun a b n=>by kernel_rfl,Nv⟩ ⟨fun a b n=>by kernel_rfl,Nv⟩))
 (fun _=>k3 ⟨fun a b n=>by kernel_rfl,Qb⟩ ⟨fun a b n=>by kernel_rfl,Sb⟩ ⟨fun a b n=>by kernel_rfl,Qb⟩))
 (fun _=>k3 ⟨fun a b n=>by kernel_rfl,Sd⟩ ⟨fun a b n=>by kernel_rfl,Se⟩ ⟨fun a b n=>by kernel_rfl,Sf⟩))
 (fun _=>k3 ⟨fun a b n=>by kernel_rfl,Qc⟩ ⟨fun a b n=>by kernel_rfl,Sg⟩ ⟨fun a b n=>by kernel_rfl,Qc⟩))
 (fun _=>k3 ⟨fun a b n=>by kernel_rfl,Sh⟩ ⟨fun a b n=>by kernel_rfl,Si⟩ ⟨fun a b n=>by kernel_rfl,Nw⟩))
 (fun _=>k3 ⟨fun a b n=>by kernel_rfl,Ny⟩ ⟨fun a b n=>by kernel_rfl,Nz⟩ ⟨fun a b n=>by kernel_rfl,NA⟩))
 (fun _=>k3 ⟨fun a b n=>by kernel_rfl,NB⟩ ⟨fun a b n=>by kernel_rfl,NC⟩ ⟨fun a b n=>by kernel_rfl,ND⟩))
 (fun h=>absurd rfl h))
 (fun _=>k3 ⟨fun a b n=>by kernel_rfl,GD⟩ ⟨fun a b n=>by kernel_rfl,GD⟩ ⟨fun a b n=>by kernel_rfl,GD⟩))
 (fun _=>k3 ⟨fun a b n=>by kernel_rfl,GF⟩ ⟨fun a b n=>by kernel_rfl,GF⟩ ⟨fun a b n=>by kernel_rfl,GF⟩))
 (fun _=>k3 ⟨fun a b n=>by kernel_rfl,GG⟩ ⟨fun a b n=>by kernel_rfl,GG⟩ ⟨fun a b n=>by kernel_rfl,GG⟩))
 (fun _=>k3 ⟨fun a b n=>by kernel_rfl,NE⟩ ⟨fun a b n=>by kernel_rfl,NF⟩ ⟨fun a b n=>by kernel_rfl,NG⟩))
 (fun _=>k3 ⟨fun a b n=>by kernel_rfl,NH⟩ ⟨fun a b n=>by kernel_rfl,NI⟩ ⟨fun a b n=>by kernel_rfl,NJ⟩))
 (fun _=>k3 ⟨fun a b n=>by kernel_rfl,NK⟩ ⟨fun a b n=>by kernel_rfl,NL⟩ ⟨fun a b n=>by kernel_rfl,NM⟩))
 (fun _=>k3 ⟨fun a b n=>by kernel_rfl,NN⟩ ⟨fun a b n=>by kernel_rfl,NO⟩ ⟨fun a b n=>by kernel_rfl,NP⟩)
noncomputable def CS(k:Nat):fI:=(ai [JY,JZ,J0] k).getD J1
theorem CT:∀a,a<4->cf (CS a):=k4 NQ NR NS NT
noncomputable def WG(k:Nat)(c:Cx)(ss:List IS)(m:VE)(Z:St)(Q:P->St->Prop):Prop:=W (fun n=>gc k (mT (dB tab (run tab n) c ss m Z))) Q yu
section
variable{k:Nat}{c:Cx}{m:VE}{Z:St}{Q:P->St->Prop}
theorem WG.cons{s:IS}{ss:List IS}(h:WS c s m Z (fun m Z=>WG k c ss m Z Q) (fun _ _=>False) yu):WG k c (s::ss) m Z Q:=by
 obtain⟨r,h1,b⟩:=h
 induction r using Mine.R.casesOn with
 |ok a Z1=>
  obtain⟨fl,m1⟩:=a
  induction fl using Mine.Fl.casesOn with
  |next=>
   obtain⟨f,d,g⟩:=b;obtain⟨i,h1⟩:=h1;obtain⟨j,d⟩:=d;refine⟨f,⟨i+j,fun n e=>?_⟩,g⟩;have e1:ba tab (run tab n) c s m Z=.ok (.next,m1) Z1:=h1 n (by exact WZ e);refine Eq.trans ?_ (d n (by exact XT e));show gc k (mT ((ba tab (run tab n) c s m Z).bind _))=_;rw[e1];rfl
  |ret v=>exact b.elim
 |exc C s w Z=>exact b.elim
 |no=>exact b.elim
theorem WG.app{s1 ss:List IS}(h:WX c s1 m Z (fun m Z=>WG k c ss m Z Q) (fun _ _=>False) yu):WG k c (s1++ss) m Z Q:=by
 obtain⟨r,h1,b⟩:=h;have d:∀n (s1:List IS) m Z,dB tab (run tab n) c (s1++ss) m Z=(dB tab (run tab n) c s1 m Z).bind fun a Z=>match a with
   |(.ret v,m)=>.ok (.ret v,m) Z
   |(.next,m)=>dB tab (run tab n) c ss m Z:=by
  intro n s1
  induction s1 with
  |nil=>intro m Z;rfl
  |cons s s1 g=>
   intro m Z;show(ba tab (run tab n) c s m Z).bind _=((ba tab (run tab n) c s m Z).bind _).bind _
   induction ba tab (run tab n) c s m Z using Mine.R.casesOn with
   |ok a Z1=>
    obtain⟨fl,m1⟩:=a
    induction fl using Mine.Fl.casesOn with
    |next=>exact g m1 Z1
    |ret v=>rfl
   |exc=>rfl
   |no=>rfl
 induction r using Mine.R.casesOn with
 |ok a Z1=>
  obtain⟨fl,m1⟩:=a
  induction fl using Mine.Fl.casesOn with
  |next=>
   obtain⟨i,e,j⟩:=b;obtain⟨l,h1⟩:=h1;obtain⟨o,e⟩:=e;refine⟨i,⟨l+o,fun n f=>?_⟩,j⟩;have e1:dB tab (run tab n) c s1 m Z=.ok (.next,m1) Z1:=h1 n (by exact WZ f);refine Eq.trans ?_ (e n (by exact XT f));show gc k (mT _)=_;rw[d,e1];rfl
  |ret v=>exact b.elim
 |exc C s w Z=>exact b.elim
 |no=>exact b.elim
theorem WC.ofWG{f d:Nat}{hd:Bool}{tb:Option Nat}{fn:Fn}{vs:List P}{m:VE}{E:EP}(hf:fnT f=Wb fn)(a:fn.g=Wd)(hv:(vs.any P.isExc||(vs.any P.isClo&&fn.sc.any fun e=>Wf e.2 2))=We)(b:fP fn.ps vs fn.ds=Wb m)(h:WG Z.length ⟨d,hd,fn.tb⟩ fn.body m Z Q):WC ⟨d+1,hd,tb⟩ f vs Z Q E:=by
 have e1:∀n,dG tab (run tab (n+1)) ⟨d+1,hd,tb⟩ f vs Z=gc Z.length (mT (dB tab (run tab n) ⟨d,hd,fn.tb⟩ fn.body m Z)):=fun n=>by
  unfold dG;dsimp only;rw[show tab.fn f=Wb fn from hf];dsimp only;show cond (vs.any P.isExc||(vs.any P.isClo&&fn.sc.any fun e=>Wf e.2 2)) _ _=_;rw[hv];dsimp only[cond];rw[b,a];rfl
 refine .succ (W.congr (W.mono h (fun _ _ q=>q) fun _ _ _ _ h=>h.elim) e1)
end
section
variable{d:Nat}{tb:Option Nat}{Q:P->St->Prop}{E:EP}{Z:St}{a b:Int}
theorem EL(q:Q (.tup [.str 1701667182,.int 0,.none,.str 7630441]) Z):WC ⟨d+1,We,tb⟩ lj [] Z Q E:=by
 refine WC.of (fn:=mZ) rfl rfl rfl rfl (WX.of ?_);exact WK.ret rfl q
theorem Qd:∀{k:Nat},k<4->k=0\/k=1\/k=2\/k=3:=fun{k}=>(by decide:∀k,k<4->k=0\/k=1\/k=2\/k=3) k
theorem wk{k nm:Nat}{a:Int}(c:k<4)(q:∀b,Keep Z b->Q (d5 k nm a) b):WC ⟨d+2,We,tb⟩ gu [.int k,.str nm,.int a] Z Q E:=by
 refine WC.of (fn:=iT) rfl rfl rfl rfl (WX.of ?_);rcases Qd c with h|h|h|h<;>subst h
 ·refine WK.run 40 rfl ?_;exact WK.s (.ret (.tup (.cons (.pu rfl (.cons (.pu rfl (.cons (.pu rfl (.cons (.pc rfl rfl rfl (EL (.cons (.pu rfl (.nil ⟨rfl,q _ .refl⟩))))))))))))))
 ·refine WK.run 40 rfl ?_;exact WK.ret rfl (q _ .refl)
 ·refine WK.run 40 rfl ?_;exact WK.s (.ret (.ite (.of (.pu rfl ⟨_,rfl,.tup (.cons (.pu rfl (.cons (.pu rfl (.cons (.pu rfl (.cons (.pc rfl rfl rfl (EL (.cons (.pu rfl (.nil ⟨rfl,q _ .refl⟩))))))))))))⟩))))
 ·refine WK.run 40 rfl ?_;exact WK.s (.ret (.ite (.of (.pu rfl ⟨_,rfl,.pc rfl rfl rfl (wb rfl q)⟩))))
theorem zK{j k nm:Nat}{a:Int}:mU j (d5 k nm a)=Wd:=by
 rcases k with _|_|_|k<;>rfl
theorem CU(k:Nat)(a:k<4):pq (CS k)=.tup [.list [],.list [],.list [d5 3 116 ((40:Nat):Int),d5 k 116 ((41:Nat):Int)],.str 1701667182,.int ((41:Nat):Int)]:=by
 rcases Qd a with h|h|h|h<;>subst h<;>rfl
theorem CV(p:0<=a)(r:0<=b)(q:∀f t u,0<=t->0<=u->cf f->Q (pq f) (RS t u [])):WC cF iK [.ref 3] (RS a b []) Q E:=by
 refine WC.ofG (d:=23) (fn:=ku) rfl rfl rfl rfl ?_;show WX ⟨23,We,Wc⟩ fR [(1818584434,.ref 3)] (RS a b []) _ _ _;refine WX.cons (WS.asg rfl (WE.tup (WL.cons (WE.call rfl rfl (WL.cons (WE.name rfl (WL.cons (WE.int (WL.nil (eC (k:=15) p r (by decide) (by decide) fun c B C v w x=>WL.cons (WE.call rfl rfl (WL.cons (WE.name rfl (WL.cons (WE.int (WL.nil (eC (k:=3) w x (by decide) (by decide) fun Wb i b2 hs m n=>WL.nil ⟨rfl,_,rfl,?_⟩)))))))))))))))));show WX ⟨23,We,Wc⟩ (fR.drop 1) (fM c Wb) (RS i b2 []) _ _ _;by_cases y:c=7
 ·subst y;refine WX.of ?_;refine WK.run 40 rfl ?_;refine WK.s (.ret (.tup (.cons (.pu rfl (.cons (.pu rfl (.cons (.listF (.cons (.pc rfl rfl rfl (wk (k:=3) (by decide) fun Z1 z=>?_)))))))))));clear p r v w x hs;obtain⟨H,e1,_⟩:=qW z;clear B C z;subst e1;refine WL.cons (WE.call rfl rfl (WL.cons (WE.call rfl rfl (WL.cons (WE.name rfl (WL.cons (WE.int (WL.nil (eC (k:=4) m n (by decide) (by decide) fun g j l o D F=>?_)))))))));refine WL.cons (WE.str (WL.cons (WE.int (WL.nil (wk o fun Z2 k2=>?_)))));clear m n;obtain⟨I,e2,_⟩:=qW k2;clear i b2 k2;subst e2;have ot:(d5 g 116 ((41:Nat):Int)).isOdd=We:=by rcases g with _|_|_|k<;>rfl
  have G:[d5 3 116 ((40:Nat):Int),d5 g 116 ((41:Nat):Int)].any P.isOdd=We:=by
   show(We||((d5 g 116 ((41:Nat):Int)).isOdd||false))=We;rw[ot];rfl
  refine WL.nil ⟨G,rfl,WL.cons (.pu rfl (WL.cons (.pu rfl (WL.nil ⟨rfl,?_⟩))))⟩;have e:∀U:St,fQ (RS a b []).length (.tup [.list [],.list [],.list [d5 3 116 ((40:Nat):Int),d5 g 116 ((41:Nat):Int)],.str 1701667182,.int ((41:Nat):Int)]) (RS j l U)=RS j l []:=fun U=>by
   show cond ((Wd&& (Wd&& ((mU 4 (d5 3 116 ((40:Nat):Int)) && (mU 4 (d5 g 116 ((41:Nat):Int)) &&Wd)) && (Wd&& (Wd&&Wd))))) &&Wd) (RS j l []) _=_;rw[zK,zK];rfl
  rw[e];have h:=q (CS g) j l D F (CT g o);have e2:pq (CS g)=.tup [.list [],.list [],.list [d5 3 116 ((40:Nat):Int),d5 g 116 ((41:Nat):Int)],.str 1701667182,.int ((41:Nat):Int)]:=CU g o;rw[e2] at h;exact h
 ·obtain⟨h1,A⟩:=GH c v y Wb hs;refine W.of (Ult.of 16 (h1 i b2)) ?_;show Q (pq (Ih c Wb)) (fQ 4 (pq (Ih c Wb)) (RS i b2 (NV c Wb)));have e:fQ 4 (pq (Ih c Wb)) (RS i b2 (NV c Wb))=RS i b2 []:=by
   show cond (mU 4 (pq (Ih c Wb)) &&Wd) (RS i b2 []) _=_;rw[A.2.1];rfl
  rw[e];exact q _ i b2 m n A
theorem wl{d:Nat}{tb:Option Nat}(hd:d=24)(l:0<=a)(m:0<=b)(q:∀h i,0<=h->0<=i->Q (.bool Wd) (RS h i [])):WC ⟨d+1,We,tb⟩ cG [.ref 3] (RS a b []) Q E:=by
 subst hd;refine WC.ofWG (d:=24) (fn:=fq) rfl rfl rfl rfl ?_;show WG 4 cF a6 [(1818584434,.ref 3)] (RS a b []) Q;refine WG.cons (WS.asg rfl (WE.call rfl rfl (WL.cons (WE.name rfl (WL.nil (CV l m fun f e g n o hf=>⟨mE f.mo f.im f.de f.wo f.sp,rfl,?_⟩))))));show WG 4 cF (EJ++a6.drop 3) (mE f.mo f.im f.de f.wo f.sp) (RS e g []) Q;refine WG.app (W.of (Ult.of 60 (JD e g _ _ _ _ _)) ?_);show WG 4 cF (B1 a6 3::a6.drop 4) (mE f.mo f.im f.de f.wo f.sp++[(uA,GC)]) (RS e g sr) Q;refine WG.cons (WS.asg rfl (WE.bin (WE.listF (WL.cons (WE.call rfl rfl (WL.cons (WE.call rfl rfl (WL.cons (WE.name rfl (WL.cons (WE.int (WL.nil (eC (k:=4) n o (by decide) (by decide) fun k c b2 j p r=>?_)))))))))))));refine WL.cons (WE.str (WL.nil (W.of (Ult.of 30 (Sa k j c b2)) (WL.nil ?_))));have ot:(a8 (k,117)).isOdd=We:=kC (k,117);have s:[a8 (k,117)].any P.isOdd=We:=by
  show((a8 (k,117)).isOdd||false)=We;rw[ot];rfl
 refine⟨s,rfl,WE.name rfl ⟨.list (a8 (k,117)::f.de),?_,_,rfl,?_⟩⟩
 ·show cond (aq (1+f.de.length)) (Wb (P.list ([a8 (k,117)]++f.de))) Wc=_;rw[b8 (qC (W2 hf.1 1) rfl)];rfl
 show WG 4 cF (a6.drop 4) (tE f k) (RS c b2 (sr++dd k)) Q;exact W.of (Ult.of 82 (hf.2.2 k j c b2)) (q c b2 p r)
end
noncomputable abbrev CW:List Nat:=[1852399981,98,8007521,6369123,97]
noncomputable def lst(p:Nat):List Nat:=((bh 32 (bA (tR pre p))).map b7).dropLast
theorem eD:∀p∈CW,oU p=We/\bN 46 (bA p)=We/\bN 35 (bA p)=We/\bN 126 (bA p)=We/\Wf (lT p) 95=We/\Wf (lT p) bq=Wf p bq/\aq (len pre+len p)=Wd/\(aq (bA (tR pre p)).length&& (bA (tR pre p)).all fun k=>!Wf k 0)=Wd/\(bh 32 (bA (tR pre p))).map b7=lst p++[p]/\(lst p).length<=5000:=by decide+kernel
theorem CX:∀x∈CW,∀y∈CW,fF x y=Wd\/fF y x=Wd\/x=y:=by decide+kernel
theorem uB:∀ps∈pn,ps.Nodup/\(∀p∈ps,p∈CW)/\1852399981∈ps/\∀o∈uw ps,Wf o bq=We/\(o=1668184435\/(oU o=We/\o∈ps)):=by decide+kernel
theorem zL:lT 1668184435=1668184435:=by decide+kernel
section
variable{fs:List Fi}{ps:List Nat}(gy:ps∈pn)(hp:(aL fs).Perm ps)(hf:∀f∈fs,xC ps f)
include gy hp hf
theorem zM:fs.length<=5:=by
 have h:=hp.length_eq;unfold aL at h;rw[Wp] at h;have:=(qZ ps gy).2.2.2;exact le_of_eq_of_le h this
theorem q9:qQ fs:=by
 obtain⟨b,a,c,go⟩:=uB ps gy;refine⟨hp.nodup_iff.mpr b,?_,?_,?_,?_,?_⟩
 ·intro f h;have k:=hf f h;clear b c go h;exact⟨(eD f.p (a _ k.p)).1,(eD f.p (a _ k.p)).2.1,(eD f.p (a _ k.p)).2.2.1,(eD f.p (a _ k.p)).2.2.2.1,by rw[k.nm];exact(eD f.p (a _ k.p)).2.2.2.2.1,by rw[k.nm];exact(eD f.p (a _ k.p)).2.2.2.2.2.1,(eD f.p (a _ k.p)).2.2.2.2.2.2.1,(eD f.p (a _ k.p)).2.2.2.2.2.2.2.1,⟨_,(eD f.p (a _ k.p)).2.2.2.2.2.2.2.2.1,(eD f.p (a _ k.p)).2.2.2.2.2.2.2.2.2⟩⟩
 ·intro f h s hs;have k:=(hf f h).o s hs;obtain⟨o1,d⟩:=go _ k.1;refine⟨o1,?_,?_⟩
  ·rcases d with e|e
   ·rw[e];exact .inl rfl
   ·exact .inr (hp.mem_iff.mpr e.2)
  ·rcases k.2 with e|⟨i,j,e⟩
   ·left;unfold j2;rw[e];rfl
   ·refine .inr ⟨i,j,?_⟩;clear b a c go h hs k i j;rcases e with e|⟨e,e2⟩
    ·exact .inl e
    ·refine .inr ⟨e,?_⟩;clear f e;rcases d with e3|e3
     ·left;rw[e2,e3];exact⟨rfl,zL.symm⟩
     ·right;obtain⟨g,m,q⟩:=Wz.mp (hp.mem_iff.mpr e3.2);exact⟨e3.1,g,m,q,by rw[(hf g m).nm,q,e2]⟩
 ·intro f h;show((yD f.sl).map Prod.snd).Nodup;unfold yD;rw[XB];exact((hf f h).n)
 ·intro f h;have:=(hf f h).l;exact Wj this (Wg rfl)
 ·have:=zM gy hp hf;exact Wj this (Wg rfl)
theorem J2:Gr (aL fs) (jV fs) (Nf fs):=by
 have a:=q9 gy hp hf;obtain⟨j,b,d,go⟩:=uB ps gy;refine⟨a.nd,fun _=>rfl,?_,hp.mem_iff.mpr d,?_⟩
 ·intro p g i c;clear j b d;obtain⟨f,h,e⟩:=Wz.mp g;clear g;subst e;rw[r9 a.nd h] at c;clear a;obtain⟨s,hs,e⟩:=Wz.mp c;clear c;subst e;obtain⟨o1,k⟩:=go _ ((hf f h).o s hs).1;refine⟨?_,?_⟩
  ·intro e;have e:s.ot=bq:=e;rw[e,Wx] at o1;exact gB o1
  ·rcases k with e|e
   ·exact .inl e
   ·exact .inr ⟨e.1,hp.mem_iff.mpr e.2⟩
 ·exact fun x l y m=>CX x (b x (hp.mem_iff.mp l)) y (b y (hp.mem_iff.mp m))
theorem zN{p:Nat}(a:p∈aL fs):(Nf fs p).length<=5:=by
 obtain⟨f,h,e⟩:=Wz.mp a;clear a;subst e;unfold Nf;rw[r9 (q9 gy hp hf).nd h];refine Wj (XI _ _) ?_;rw[Wp,Wp];exact(hf f h).l
theorem su{N:Nat->List Nat}:∀{ks:List Nat},(∀p∈ks,(N p).length<=5)->ws N [] ks<=5*ks.length
 | [],_=>Xz _
 |k::ks,h=>by
  have h1:=h k (WU ..);have a:=su (ks:=ks) fun p hp=>h p (W8 _ hp);show(N k).length+ws N [] ks<=_;exact Wj (Y2 h1 a) (Xo (aa0 _ _))
theorem zO{d:Nat}{tb:Option Nat}{Q:P->St->Prop}{E:EP}{a b:Int}(q:Q (.bool Wd) (RS a b [])):WC ⟨d+18,We,tb⟩ cE [.list (fs.map bz)] (RS a b []) Q E:=by
 have f:=J2 gy hp hf;have c:=zM gy hp hf;have g:(aL fs).length=fs.length:=Wp ..;refine zy rfl (q9 gy hp hf) ?_ ?_ (fun q j o k=>(f.sub j k).1) ?_ (fun fl h0 lf h st=>f.s2 h st) ?_ q
 ·intro e;clear d tb E f c g q;subst e;have:=hp.mem_iff.mpr (uB ps gy).2.2.1;clear Q a b;exact absurd this WA
 ·intro p l;have h1:=zN gy hp hf l;have i:=su gy hp hf (N:=Nf fs) (ks:=aL fs) fun p h=>zN gy hp hf h;exact Wj (Y2 h1 (Wj i (aaX 5 (g▸c)))) (Wg rfl)
 ·intro fl lf h st p g;clear d tb E c q;obtain⟨_,o,r,e,h1,_⟩:=f.s1 h st p g;exact⟨o,r,e,h1⟩
 ·intro fl h;have m:=c;obtain⟨h1,i,n,s,c⟩:=f.fin h;exact⟨h1,i,n,Wj (Xo (s.trans g)) (qC m rfl),c⟩
end
section
variable{d:Nat}{tb:Option Nat}{Q:P->St->Prop}{E:EP}
theorem NX{x:Int}{Z:St}:j5 .Mult (.int ((2:Nat):Int)) (.int x) Z=Wb (.int (2*x)):=rfl
theorem NY{x:Int}{Z:St}:j5 .Mult (.int x) (.int ((4:Nat):Int)) Z=Wb (.int (x*4)):=by
 show cond (j4 x||true) _ _=_;rw[adC];rfl
theorem GI{Z:St}{hd a b:Bool}:callB hd 7630441 a [.bool b] Z=.ok (.int (cond b 1 0)) Z:=by
 rfl
theorem J3{Z:St}:j5 .Pow (.int ((10:Nat):Int)) (.int ((16:Nat):Int)) Z=Wb (.int (10 ^ 16)):=rfl
theorem GJ{x:Int}{r:List Int}(f:(x::r).length<=63)(q:∀a b,0<=a->0<=b->Q (.ref 3) (RS a b [])):WC ⟨d+1,We,tb⟩ jM [.list ((x::r).map .int)] s3 Q E:=by
 refine WC.of (fn:=lO) rfl rfl rfl rfl ?_;refine WX.cons (WS.asg rfl (WE.ite (WT.of (WE.cmp (WE.callB rfl rfl rfl (WL.cons (WE.name rfl (WL.nil ⟨_,_,zF (by rw[Wp];exact b8 (by exact Wj f (Wg rfl))),WE.int ⟨Wd,?_,_,rfl,WE.sub (WE.name rfl (WE.int ⟨.int x,?_,_,rfl,?_⟩))⟩⟩))))))))
 ·show Wb (decide (((0:Nat):Int) < (((x::r).map P.int).length:Int)))=_;rw[decide_eq_true];rw[Wp,Xa];exact Int.compare_eq_gt.mp rfl
 ·rfl
 have e:∀c:Int,0<=c->WX ⟨d,We,Wc⟩ (mW.drop 2) [(128026154263411,.list ((x::r).map .int)),(1684828020,.int x),(1702521203,.int c)] s3 (fun _ Z=>Q .none Z) Q E:=by
  intro c hs;have fin:∀v:Int,0<=v->WE ⟨d,We,Wc⟩ (.bin .Mod (.bin .Add (.bin .Add (.bin .Mult (.bin .Mod (.name 1702521203 283046050) (.int 999769 283053059) 283046059) (.int 4 283062063) 283046063) (.call 7630441 283066069 We [.cmp .Lt (.name 1684828020 283070074) (.int 0 283077078) 283070078] 283066079) 283046079) (.int 91 283082084) 283046084) (.int 65519 283088093) 283045093) [(128026154263411,.list ((x::r).map .int)),(1684828020,.int x),(1702521203,.int c)] s3 (fun w Z=>WL ⟨d,We,Wc⟩ [] [(128026154263411,.list ((x::r).map .int)),(1684828020,.int x),(1702521203,.int c)] Z (fun vs Z=>(P.int v::w::vs).any P.isOdd=We/\aq (P.int v::w::vs).length=Wd/\Q (.ref Z.length) (Z++[.list (P.int v::w::vs)])) E) E:=by
   intro v hv;refine WE.bin (WE.bin (WE.bin (WE.bin (WE.bin (WE.name rfl (WE.int ⟨_,rfl,WE.int ⟨_,NY,WE.callB rfl rfl rfl (WL.cons (WE.cmp (WE.name rfl (WE.int ⟨_,rfl,WL.nil ⟨_,_,GI,_,rfl,WE.int ⟨_,rfl,WE.int ⟨_,rfl,WL.nil ⟨rfl,rfl,q v _ hv ?_⟩⟩⟩⟩⟩))))⟩⟩))))));exact aar _ (by decide)
  refine WX.cons (WS.ret (WE.listT (WL.cons (WE.ite (WT.of (WE.cmp (WE.name rfl (WE.bin (WE.int (WE.int ⟨_,J3,_,rfl,_,rfl,?_⟩))))))))));cases decide ((10:Int) ^ 16<=c)
  ·exact WE.int (WL.cons (fin 0 (by decide)))
  ·exact WE.name rfl (WL.cons (fin c hs))
 refine WX.cons (WS.asg rfl (WE.ite (WT.of (WE.cmp (WE.name rfl (WE.int ⟨_,rfl,_,rfl,?_⟩))))));show WE _ (cond (decide ((0:Int)<=x)) _ _) _ _ _ _;by_cases h:(0:Int)<=x
 ·rw[decide_eq_true h];exact WE.name rfl ⟨_,rfl,e x h⟩
 ·rw[decide_eq_false h];exact WE.bin (WE.int (WE.bin (WE.int (WE.name rfl ⟨_,NX,_,rfl,_,rfl,e (17 - 2*x) (Int.sub_nonneg_of_le (adG (Int.mul_nonpos_of_nonneg_of_nonpos (by decide) (Int.le_of_not_le h)) (by decide)))⟩))))
noncomputable abbrev GK(Z:St):Prop:=ai Z 0=Wb (.tab 0)/\ai Z 1=Wb (.tab 1)/\ai Z 2=Wb (.tab 2)
theorem J4{L:List Int}(c:L.length<=63):WX ⟨25,We,Wc⟩ mX [(128026154263411,.list (L.map .int))] s3 (fun _ _=>False) (fun v Z=>v=.bool Wd/\GK Z) yu:=by
 refine WX.cons (WS.ifs (WT.of (WE.not (WT.of (WE.call rfl rfl (WL.nil (W.of (Ult.of 68 CE) ⟨_,rfl,_,rfl,WX.nil ?_⟩)))))));refine WX.cons (WS.ifs (WT.of (WE.bop (WB.or (WT.of (WE.cmp (WE.callB rfl rfl rfl (WL.cons (WE.name rfl (WL.nil ⟨_,_,zF (by rw[Wp];exact b8 (by exact Wj c (Wg rfl))),WE.int ⟨_,rfl,_,rfl,?_⟩⟩))))))))))
 induction L using Wv with
 |nil=>exact⟨_,rfl,WX.cons (WS.ret (WE.bool ⟨rfl,rfl,rfl,rfl⟩))⟩
 |cons x r=>
  have h0:((((x::r).map P.int).length:Int)==((0:Nat):Int))=We:=by
   rw[Wp,Xa];cases h:(((r.length+1:Nat):Int)==((0:Nat):Int))
   ·rfl
   ·have:=eq_of_beq h;exact absurd (aeO this) (Yc _)
  rw[h0];refine WB.last (WT.of (WE.cmp (WE.sub (WE.name rfl (WE.int ⟨.int x,rfl,WE.int ⟨_,rfl,_,rfl,_,rfl,?_⟩⟩)))));cases((x:Int)==((0:Nat):Int))
  ·refine WX.nil (WX.cons (WS.asg rfl (WE.call rfl rfl (WL.cons (WE.name rfl (WL.nil (GJ c fun a b d e=>⟨_,rfl,?_⟩)))))));refine WX.cons (WS.ifs (WT.of (WE.not (WT.of (WE.call rfl rfl (WL.cons (WE.call rfl rfl (WL.cons (WE.name rfl (WL.nil (CO d e fun fs l m ps gy f g hp i=>WL.nil (zO gy hp i ⟨_,rfl,_,rfl,WX.nil ?_⟩))))))))))));refine WX.cons (WS.ret (WE.bop (WB.and (WT.of (WE.call rfl rfl (WL.cons (WE.name rfl (WL.nil (wl rfl f g fun n b2 j k=>⟨_,rfl,?_⟩)))))))));exact WB.last (WT.of (WE.call rfl rfl (WL.cons (WE.name rfl (WL.nil (wl rfl j k fun o p q s=>⟨_,rfl,rfl,rfl,rfl,rfl⟩))))))
  ·exact WX.cons (WS.ret (WE.bool ⟨rfl,rfl,rfl,rfl⟩))
end
theorem plain{L:List Int}(d:L.length<=63):∃n e c,(run tab n).ex ⟨25,We,Wc⟩ mX [(128026154263411,.list (L.map .int))] s3=.ok (.ret (.bool Wd),e) c/\ai c 0=Wb (.tab 0)/\ai c 1=Wb (.tab 1)/\ai c 2=Wb (.tab 2):=by
 obtain⟨r,⟨N,h1⟩,b⟩:=J4 d
 induction r using Mine.R.casesOn with
 |ok a Z=>
  obtain⟨fl,m⟩:=a
  induction fl using Mine.Fl.casesOn with
  |next=>exact b.elim
  |ret v=>
   exact b.1▸⟨N+1,m,Z,h1 N (Xk _),b.2⟩
 |exc C s w Z=>exact b.elim
 |no=>exact b.elim
end Mine.Wk
end
noncomputable section
open PySem PyProof.Rows PySem.Calls PySem.W
namespace Mine
theorem c3{n k:Nat}(h:n<2 ^ (k+1)):n / 256<2 ^ k:=by
 refine Nat.div_lt_of_lt_mul (ads h ?_);rw[aeZ,ae0];exact Nat.mul_le_mul_right _ (Wg rfl)
theorem pV:∀(k n:Nat),n<2 ^ k->b7 (kZ k n)=n:=by
 intro a
 induction a with
 |zero=>
  intro n h;have:n=0:=by simpa using h
  clear h;subst this;rfl
 |succ k b=>
  intro n h;rw[mP]
  induction c:Wf n 0 using Wn with
  |true=>
   rw[b9 c];rfl
  |false=>
   show adA n 256+256*b7 (kZ k (aaZ n 256))=n;rw[b (aaZ n 256) (c3 h)];exact Nat.mod_add_div _ 256
theorem gO(n:Nat):b7 (bA n)=n:=pV _ n abN
theorem CY{a b:Nat}(h:bA a=bA b):a=b:=by rw[<-gO a,<-gO b,h]
noncomputable def af(n:Nat):Str:=⟨(bA n).toArray⟩
theorem eX{a b:Nat}(h:af a=af b):a=b:=CY (by
 have:=congrArg (fun s:Str=>s.cps.toList) h;simpa [af] using this)
theorem ig{a b:Nat}(h:a≠b):af a≠af b:=fun e=>h (eX e)
theorem kF(n:Nat):(af n).length=len n:=by simp[af,Str.length,len]
noncomputable def aI:Nat->Ya
 |0=>.local
 |1=>.globalImplicit
 |2=>.cell
 |_=>.free
theorem Qf:∀k,k<4->aI k=.free->k=3:=by decide
theorem Sk:∀k,k<3->aI k=.cell->k=2:=by decide
theorem wm{x:Nat}{l:List (Nat×P)}{p:P}(h:get x l=Wb p):(x,p)∈l:=cW h
theorem iZ{x:Nat}{l:List (Nat×P)}{p:P}(h:get x l=Wb p):∃e∈l,e.2=p:=⟨_,wm h,rfl⟩
theorem aS{x k:Nat}{sc:Sc}(h:ap sc x=Wb k):(x,k)∈sc:=cW h
noncomputable def aw(sc:List (Nat×Nat)):adi:={kind:=.function,names:=sc.map fun e=>(af e.1,aI e.2),isGenerator:=We,isCoroutine:=We,more:=[]}
noncomputable def jX:Arguments:=⟨[],[],Wc,[],[],Wc,[]⟩
noncomputable def Bw:IT->W3
 |.name x p=>.Name (af x) (ag p)
 |.tup xs k p=>.Tuple (xs.map fun e=>.Name (af e.1) (ag e.2)) k (ag p)
mutual
noncomputable def aV:IE->W3
 |.none p=>.Constant .none 0 (ag p)
 |.bool b p=>.Constant (.bool b) 0 (ag p)
 |.int i p=>.Constant (.int i) 0 (ag p)
 |.str s p=>.Constant (.str (af s)) 0 (ag p)
 |.glob x p=>.Name (af x) (ag p)
 |.name x p=>.Name (af x) (ag p)
 |.not e p=>.UnaryOp .Not (aV e) (ag p)
 |.neg i p1 p=>.UnaryOp .USub (.Constant (.int i) 0 (ag p1)) (ag p)
 |.attr e x p=>.Attribute (aV e) (af x) (ag p)
 |.sub o s p=>.Subscript (aV o) (aV s) (ag p)
 |.slice o lo c p1 p=>.Subscript (aV o) (.Slice (Ii lo) (Ii c) Wc (ag p1)) (ag p)
 |.tup es k p=>.Tuple (bw es) k (ag p)
 |.list _ es p=>.List (bw es) (ag p)
 |.dict ks vs p=>.Dict (xE ks) (bw vs) (ag p)
 |.cmp op l r p=>.Compare (aV l) [op] [aV r] (ag p)
 |.bop op es p=>.BoolOp op (bw es) (ag p)
 |.ite t b o p=>.IfExp (aV t) (aV b) (aV o) (ag p)
 |.bin op l r p=>.BinOp (aV l) op (aV r) (ag p)
 |.meth o x p1 as p=>.Call (.Attribute (aV o) (af x) (ag p1)) (bw as) [] (ag p)
 |.call x p1 _ as p=>.Call (.Name (af x) (ag p1)) (bw as) [] (ag p)
 |.callv x p1 p=>.Call (.Name (af x) (ag p1)) [] [] (ag p)
 |.comp e a sc p=>.ListComp (aV e) (nG a) (aw sc) (ag p)
 |.dcomp k v a sc p=>.DictComp (aV k) (aV v) (nG a) (aw sc) (ag p)
 |.lam b sc p=>.Lambda jX (aV b) (aw sc) (ag p)
noncomputable def Ii:Option IE->Option W3
 |none=>Wc
 |some e=>Wb (aV e)
noncomputable def bw:List IE->List W3
 | []=>[]
 |e::es=>aV e::bw es
noncomputable def xE:List IE->List (Option W3)
 | []=>[]
 |e::es=>Wb (aV e)::xE es
noncomputable def Sm:IG->XH
 |.mk t it fs=>⟨Bw t,aV it,bw fs,0⟩
noncomputable def nG:List IG->List XH
 | []=>[]
 |g::a=>Sm g::nG a
end
noncomputable def sx:Bm->W3
 |.to t=>Bw t
 |.attr e x p=>.Attribute (aV e) (af x) (ag p)
 |.sub o s p=>.Subscript (aV o) (aV s) (ag p)
mutual
noncomputable def i0:IS->Stmt
 |.expr e p=>.Expr (aV e) (ag p)
 |.asg t e p=>.Assign [sx t] (aV e) (ag p)
 |.ifs t b o p=>.If (aV t) (gQ b) (gQ o) (ag p)
 |.for t it b p=>.For (Bw t) (aV it) (gQ b) [] (ag p)
 |.while t b p=>.While (aV t) (gQ b) [] (ag p)
 |.ret _ e p=>.Return (Ii e) (ag p)
 |.raise x p1 as p2 p=>.Raise (Wb (.Call (.Name (af x) (ag p1)) (bw as) [] (ag p2))) Wc (ag p)
 |.try b hs p=>.Try (gQ b) (sy hs) [] [] (ag p)
 |.pass p=>.Pass (ag p)
noncomputable def gQ:List IS->List Stmt
 | []=>[]
 |s::ss=>i0 s::gQ ss
noncomputable def sy:List (Nat×Nat×Nat×List IS×Nat)->List ExceptHandler
 | []=>[]
 |(x,n,p1,b,p)::hs=>.ExceptHandler (Wb (.Name (af x) (ag p1))) (Wb (af n)) (gQ b) (ag p)::sy hs
end
noncomputable abbrev aG:=List (Option (Addr×Addr))
inductive own(V:aG)(b:Addr):Prop
 |mk(n:Nat)(c:Addr×Addr)(e:ai V n=Wb (Wb c))(h:b=c.1\/b=c.2)
structure ao where
 prog:Yi
 w:Y6
 h₀:Heap
 K:Frag
 T:Bo
 fA:Nat->Addr
 gV:Nat->Option Wm
 cA:Nat->Addr
 tabA:Nat->Addr
 tabQ:Nat->Str
noncomputable def UpTo(o:Obj)(h':Heap)(b:Addr):Prop:=∃sl,h'.get? b=Wb {o with slots:=sl}
noncomputable def Keep(N:Addr->Prop)(h h':Heap):Prop:=∀b o,h.get? b=Wb o->¬N b->UpTo o h' b
structure Le(V:aG)(h:Heap)(V':aG):Prop where
 more:∀n x,ai V n=Wb x->ai V' n=Wb x\/ai V' n=Wb Wc
 dead:∀n,ai V n=Wb Wc->ai V' n=Wb Wc
 fresh:∀b,own V' b->own V b\/h.get? b=Wc
theorem Le.refl(V:aG)(h:Heap):Le V h V:=⟨fun _ _ e=>.inl e,fun _ e=>e,fun _ e=>.inl e⟩
theorem UpTo.refl{o:Obj}{h:Heap}{b:Addr}(e:h.get? b=Wb o):UpTo o h b:=⟨o.slots,e⟩
theorem Keep.of_grow{N:Addr->Prop}{h h':Heap}(k:∀b o,h.get? b=Wb o->h'.get? b=Wb o):Keep N h h':=fun _ _ e _=>.refl (k _ _ e)
inductive zP(h:Heap)(V:aG)(R:List Wm->Prop)(v:Wm):Prop
 |mk(a:Addr)(vs:List Wm)(e:v=.ref a)(n:¬own V a)(t:aaM h a vs.toArray)(r:R vs)
inductive CZ(h:Heap)(V:aG)(R:List Wm->Prop)(v:Wm):Prop
 |mk(a:Addr)(vs:List Wm)(e:v=.ref a)(n:¬own V a)(t:h.IsList a vs.toArray)(r:R vs)
inductive C0(odd:Bool)(R:Wm->Prop)(S:List Wm->Prop)(vs:List Wm):Prop
 |mk(v:Wm)(r:List Wm)(e:vs=v::r)(o:odd=We)(a:R v)(b:S r)
inductive NZ(h:Heap)(V:aG)(b:IE)(sc:List (Nat×Nat))(R:List (Str×Addr)->Prop)(v:Wm):Prop
 |mk(a:Addr)(o:Obj)(fd:acH)(e:v=.ref a)(c:¬own V a)(g:h.get? a=Wb o)(hc:o.cls=.type "function")(hd:o.data=.func fd)(d:fd.body=.expr (aV b))(hs:fd.scope=aw sc)(hp:fd.params=jX)(f:fd.globals=XS)(i:fd.builtins=YF)
   (j:h.CodeRec fd.code fd.qualname) (k:∀cc,fd.code=.ref cc->¬own V cc) (l:fd.defaults=.none) (m:(fd.closure.map (·.2)).Nodup/\En sc b=Wd) (r:R fd.closure)
inductive GL(a h:Heap)(V:aG)(cl:List (Str×Addr))(x:Nat)(odd:Bool)(R:Wm->Prop):Prop
 |mk(c:Addr)(w:Wm)(lk:cl.lookup (af x)=Wb c/\a.get? c=Wc)(n:¬own V c)(b:h.IsCell c (Wb w))(d:odd=We)(r:R w)
inductive J5(f:Addr)(h:Heap)(V:aG)(g:Nat)(R:Wm->Prop)(v:Wm):Prop
 |mk(a d:Addr)(vs:Array Wm)(b:List WY)(n:Nat)(sl sd:Array (Option Wm))(e:v=.ref a)(i:¬own V a)(nd:¬own V d)(j:h.get? a=Wb ⟨.ref f,Wb d,.fields vs,sl⟩)(k:h.get? d=Wb {XE b n with slots:=sd})
   (l:∃t,getL (af aj) b=Wb (Wb (.str (af g) t))) (c:Wm) (hs:getL (af aM) b=Wb (Wb c)) (r:R c)
section
variable(B:ao)(h:Heap)(V:aG)
mutual
noncomputable def VR:P->Wm->Prop
 |.none,v=>v=.none
 |.bool b,v=>v=.bool b
 |.int i,v=>∃t,v=.int i t
 |.str s,v=>∃t,v=.str (af s) t
 |.tup l,v=>zP h V (VRs l) v
 |.list l,v=>CZ h V (VRs l) v
 |.ref n,v=>∃a,v=.ref a/\((∃c,ai V n=Wb (Wb c)/\a=c.1)\/ai V n=Wb Wc)
 |.glob x,v=>B.gV x=Wb v/\acI v=Wd/\(v==.none)=We
 |.clo b sc _ m,v=>NZ h V b sc (fun cl=>VRc cl m) v
 |.exc C d e,v=>J5 (B.cA C) h V d (VR e) v
noncomputable def VRs:List P->List Wm->Prop
 | [],vs=>vs=[]
 |p::ps,vs=>C0 p.isOdd (VR p) (VRs ps) vs
noncomputable def VRc(cl:List (Str×Addr)):List (Nat×P)->Prop
 | []=>True
 |e::m=>GL B.h₀ h V cl e.1 e.2.isOdd (VR e.2)/\VRc cl m
end
end
section
variable{B:ao}{h h':Heap}{V V':aG}
theorem Ij{i:Int}{t:Tok}:VR B h V (.int i) (.int i t):=Exists.intro t rfl
theorem GN{s:Nat}{t:Tok}:VR B h V (.str s) (.str (af s) t):=Exists.intro t rfl
theorem J6{n:Nat}{a:Addr}(z:(∃c,ai V n=Wb (Wb c)/\a=c.1)\/ai V n=Wb Wc):VR B h V (.ref n) (.ref a):=Exists.intro a (And.intro rfl z)
theorem Sn{x:Nat}{v:Wm}(a:B.gV x=Wb v)(b:acI v=Wd)(c:(v==.none)=We):VR B h V (.glob x) v:=And.intro a (And.intro b c)
theorem T5:VRs B h V [] []:=rfl
theorem vrC{p:P}{v:Wm}{l:List P}{vs:List Wm}(o:p.isOdd=We)(a:VR B h V p v)(r:VRs B h V l vs):VRs B h V (p::l) (v::vs):=C0.mk v vs rfl o a r
theorem Le.notOwn(l:Le V h V'){b:Addr}{o:Obj}(e:h.get? b=Wb o)(n:¬own V b):¬own V' b:=fun q=>(l.fresh b q).elim n fun z=>by exact rG (e.symm.trans z)
theorem Le.trans{c:aG}(a:Le V h V')(ex:∀b o,h.get? b=Wb o->∃d,h'.get? b=Wb d)(b:Le V' h' c):Le V h c:=by
 refine⟨fun n x e=>?_,fun n e=>b.dead n (a.dead n e),fun x q=>?_⟩
 ·rcases a.more n x e with z|z
  ·exact b.more n x z
  ·exact .inr (b.dead n z)
 ·rcases b.fresh x q with z|z
  ·exact a.fresh x z
  ·refine .inr ?_
   induction e:h.get? x using Wo with
   |none=>rfl
   |some o=>obtain⟨d,f⟩:=ex x o e;exact aH (z.symm.trans f)
theorem nH{a:Addr}{xs:Array Wm}(k:Keep (own V) h h')(n:¬own V a)(t:aaM h a xs):aaM h' a xs:=by
 obtain⟨o,e,c,d⟩:=t;obtain⟨sl,z⟩:=k a o e n;exact⟨_,z,c,d⟩
theorem i4{a:Addr}{xs:Array Wm}(k:Keep (own V) h h')(n:¬own V a)(t:h.IsList a xs):h'.IsList a xs:=by
 obtain⟨o,e,c,d⟩:=t;obtain⟨sl,z⟩:=k a o e n;exact⟨_,z,c,d⟩
theorem lY{a:Addr}{v:Option Wm}(k:Keep (own V) h h')(n:¬own V a)(t:h.IsCell a v):h'.IsCell a v:=by
 obtain⟨o,e,d⟩:=t;obtain⟨sl,z⟩:=k a o e n;exact⟨_,z,d⟩
theorem C5{a:Addr}{m:Str->Option Wm}(k:Keep (own V) h h')(n:¬own V a)(t:h.Ns a m):h'.Ns a m:=by
 obtain⟨o,es,ep,e,d⟩:=t;obtain⟨sl,z⟩:=k a o e n;exact⟨_,es,ep,z,d⟩
theorem ij{v:Wm}{q:Str}(k:Keep (own V) h h')(n:∀c,v=.ref c->¬own V c)(t:h.CodeRec v q):h'.CodeRec v q:=by
 obtain⟨c,o,vs,tt,e,g,d⟩:=t;obtain⟨sl,z⟩:=k c o g (n c e);exact⟨c,_,vs,tt,e,z,d⟩
theorem nI{a:Addr}{xs:Array Wm}(l:Le V h V')(n:¬own V a)(t:aaM h a xs):¬own V' a:=let ⟨_,e,_⟩:=t;l.notOwn e n
theorem lZ{a:Addr}{xs:Array Wm}(l:Le V h V')(n:¬own V a)(t:h.IsList a xs):¬own V' a:=let ⟨_,e,_⟩:=t;l.notOwn e n
theorem i5{a:Addr}{v:Option Wm}(l:Le V h V')(n:¬own V a)(t:h.IsCell a v):¬own V' a:=let ⟨_,e,_⟩:=t;l.notOwn e n
theorem jq{a:Addr}{m:Str->Option Wm}(l:Le V h V')(n:¬own V a)(t:h.Ns a m):¬own V' a:=let ⟨_,_,_,e,_⟩:=t;l.notOwn e n
mutual
theorem VR.step(k:Keep (own V) h h')(l:Le V h V'):∀(p:P){v:Wm},VR B h V p v->VR B h' V' p v
 |.none,_,x=>x
 |.bool _,_,x=>x
 |.int _,_,x=>x
 |.str _,_,x=>x
 |.tup ps,v,x=>by
  obtain⟨a,vs,e,n,t,r⟩:=x;exact⟨a,vs,e,nI l n t,nH k n t,VRs.step k l ps r⟩
 |.list ps,v,x=>by
  obtain⟨a,vs,e,n,t,r⟩:=x;exact⟨a,vs,e,lZ l n t,i4 k n t,VRs.step k l ps r⟩
 |.ref n,v,x=>by
  obtain⟨a,e,z⟩:=x;refine⟨a,e,?_⟩;rcases z with⟨c,q,ac⟩|q
  ·rcases l.more n _ q with z|z
   ·exact .inl ⟨c,z,ac⟩
   ·exact .inr z
  ·exact .inr (l.dead n q)
 |.glob _,_,x=>x
 |.clo b sc p m,v,x=>by
  obtain⟨a,o,fd,e,n,g,hc,hd,y,hs,hp,A,D,f,i,E,F,r⟩:=x;obtain⟨sl,z⟩:=k a o g n;refine⟨a,_,fd,e,l.notOwn g n,z,hc,hd,y,hs,hp,A,D,ij k i f,fun cc q=>?_,E,F,VRc.step k l m r⟩;obtain⟨c,o,vs,tt,j,G,d⟩:=f;rw[j] at q;cases q;exact l.notOwn G (i _ j)
 |.exc C Q H,v,x=>by
  obtain⟨a,d,vs,I,n,sl,sd,e,s,nd,u,w,J,K,hs,r⟩:=x;obtain⟨L,M⟩:=k a _ u s;obtain⟨N,O⟩:=k d _ w nd;exact⟨a,d,vs,I,n,L,N,e,l.notOwn u s,l.notOwn w nd,M,O,J,K,hs,VR.step k l H r⟩
theorem VRs.step(k:Keep (own V) h h')(l:Le V h V'):∀(ps:List P){vs:List Wm},VRs B h V ps vs->VRs B h' V' ps vs
 | [],_,x=>x
 |p::ps,vs,x=>by
  obtain⟨v,r,e,o,a,b⟩:=x;exact⟨v,r,e,o,VR.step k l p a,VRs.step k l ps b⟩
theorem VRc.step(k:Keep (own V) h h')(l:Le V h V'){cl:List (Str×Addr)}:∀(m:List (Nat×P)),VRc B h V cl m->VRc B h' V' cl m
 | [],_=>trivial
 |e::m,x=>by
  obtain⟨⟨c,w,lk,n,a,b,r⟩,ar⟩:=x;exact⟨⟨c,w,lk,i5 l n a,lY k n a,b,VR.step k l e.2 r⟩,VRc.step k l m ar⟩
end
end
inductive N0(hash:Int)(x:Nat)(odd:Bool)(R:Wm->Prop)(S:List WY->Prop)(a:List WY):Prop
 |mk(d:WY)(r:List WY)(e1:a=d::r)(e2:d.hash=hash)(e3:∃t,d.key=.str (af x) t)(b:odd=We)(v:R d.val)(ar:S r)
noncomputable def ER(B:ao)(h:Heap)(V:aG):List (Nat×P)->List WY->Prop
 | [],a=>a=[]
 |e::es,a=>N0 (W4 B.w.params (af e.1)) e.1 e.2.isOdd (VR B h V e.2) (ER B h V es) a
inductive N3(B:ao)(h:Heap)(V:aG)(l:List P)(c:Addr×Addr):Prop
 |mk(a:c.2=c.1)(vs:List Wm)(n:Nat)(g:h.get? c.1=Wb (listOf vs.toArray n))(r:VRs B h V l vs)
inductive N4(B:ao)(h:Heap)(V:aG)(es:List (Nat×P))(ep:Nat)(c:Addr×Addr):Prop
 |mk(a:c.2=c.1)(b:List WY)(n:Nat)(g:h.get? c.1=Wb (XE b n))(r:ER B h V es b/\n=ep)
inductive N5(B:ao)(h:Heap)(V:aG)(C:Nat)(fs:List (Nat×P))(c:Addr×Addr):Prop
 |mk(a:c.2≠c.1)(g:h.get? c.1=Wb (ab3 (B.cA C) c.2))(b:List WY)(n:Nat)(d:h.get? c.2=Wb (XE b n))(r:ER B h V fs b/\(B.T.cls C).isSome=Wd)
inductive N6(B:ao)(h:Heap)(V:aG)(k:Nat)(c:Addr×Addr):Prop
 |mk(a:c.2=c.1)(d:c.1=B.tabA k)(ps:Array Wm)(g:h.get? c.1=Wb (ae1 ps))(t:aeS ps.toList)(q:∀pos b,abO pos ps.toList=Wb b->∃cc,b=.ref cc/\¬own V cc/\h.CodeRec b (B.tabQ k))
noncomputable def OR(B:ao)(h:Heap)(V:aG):O->Addr×Addr->Prop
 |.list l,c=>N3 B h V l c
 |.dict es ep,c=>N4 B h V es ep c
 |.inst C fs,c=>N5 B h V C fs c
 |.tab k,c=>N6 B h V k c
 |.dead,_=>False
structure Rel(B:ao)(V:aG)(Z:St)(h:Heap):Prop where
 base:∀b o,B.h₀.get? b=Wb o->h.get? b=Wb o
 objs:∀n,match ai V n,ai Z n with
  |some (Wb c),Wb o=>OR B h V o c
  |some Wc,Wb o=>o=.dead
  |none,Wc=>True
  |_,_=>False
 sep:∀n m c d,ai V n=Wb (Wb c)->ai V m=Wb (Wb d)->n≠m->c.1≠d.1/\c.1≠d.2/\c.2≠d.1/\c.2≠d.2
 new:∀b,own V b->B.h₀.get? b=Wc
 len:V.length=Z.length
 low:∀b,own V b->XJ<b
theorem ER.step{B:ao}{h h':Heap}{V V':aG}(k:Keep (own V) h h')(l:Le V h V'):∀(es:List (Nat×P)){a:List WY},ER B h V es a->ER B h' V' es a:=by
 intro b
 induction b with
 |nil=>
  intro _ x;exact x
 |cons e es c=>
  intro a x;obtain⟨d,r,e1,e2,e3,f,v,ar⟩:=x;exact⟨d,r,e1,e2,e3,f,VR.step k l e.2 v,c ar⟩
theorem OR.step{B:ao}{h h':Heap}{V V':aG}{c:Addr×Addr}(k:Keep (own V) h h')(l:Le V h V')(e1:h'.get? c.1=h.get? c.1)(e2:h'.get? c.2=h.get? c.2):∀{o:O},OR B h V o c->OR B h' V' o c
 |.list i,x=>by
  clear e2;obtain⟨a,vs,n,g,r⟩:=x;exact⟨a,vs,n,e1.trans g,VRs.step k l i r⟩
 |.dict es ep,x=>by
  clear e2;obtain⟨a,b,n,g,r⟩:=x;exact⟨a,b,n,e1.trans g,ER.step k l es r.1,r.2⟩
 |.inst C fs,x=>by
  obtain⟨a,g,b,n,j,r⟩:=x;exact⟨a,e1.trans g,b,n,e2.trans j,ER.step k l fs r.1,r.2⟩
 |.tab v,x=>by
  clear e2;obtain⟨a,e,ps,g,t,q⟩:=x;refine⟨a,e,ps,e1.trans g,t,fun pos m hc=>?_⟩;clear e1 a e g t;obtain⟨cc,p,n,f⟩:=q pos m hc;clear hc;subst p;clear pos;obtain⟨w,o,vs,tt,s,u,d⟩:=id f;clear d;cases s;exact⟨cc,rfl,l.notOwn u n,ij k (fun c q=>by cases q;exact n) f⟩
 |.dead,x=>x
theorem Rel.grow{B:ao}{V:aG}{Z:St}{h h':Heap}(R:Rel B V Z h)(k:∀b o,h.get? b=Wb o->h'.get? b=Wb o):Rel B V Z h':=by
 refine⟨fun b o e=>k _ _ (R.base b o e),fun n=>?_,R.sep,R.new,R.len,R.low⟩;have q:=R.objs n
 revert q
 induction e1:ai V n using Wo with
 |none=>induction ai Z n<;>exact id
 |some x=>induction x using Wo with
  |none=>induction ai Z n<;>exact id
  |some c=>induction e2:ai Z n using Wo with
   |none=>exact id
   |some o=>
    intro q;have d:∀a,(∃ob,h.get? a=Wb ob)->h'.get? a=h.get? a:=fun a f=>by obtain⟨ob,e⟩:=f;exact(k a ob e).trans e.symm
    refine OR.step (Keep.of_grow k) (Le.refl V h) (d _ ?_) (d _ ?_) q
    ·induction o using Mine.O.casesOn with
     |list l=>obtain⟨a,vs,n,g,r⟩:=q;exact⟨_,g⟩
     |dict l ep=>obtain⟨a,vs,n,g,r⟩:=q;exact⟨_,g⟩
     |inst C fs=>obtain⟨a,g,r⟩:=q;exact⟨_,g⟩
     |tab i=>obtain⟨a,j,ps,g,r⟩:=q;exact⟨_,g⟩
     |dead=>exact q.elim
    ·induction o using Mine.O.casesOn with
     |list l=>obtain⟨a,vs,n,g,r⟩:=q;rw[a];exact⟨_,g⟩
     |dict l ep=>obtain⟨a,vs,n,g,r⟩:=q;rw[a];exact⟨_,g⟩
     |inst C fs=>obtain⟨a,g,p,n,m,r⟩:=q;exact⟨_,m⟩
     |tab i=>obtain⟨a,j,ps,g,r⟩:=q;rw[a];exact⟨_,g⟩
     |dead=>exact q.elim
structure Own(h:Heap)(C:Prop)(X:Addr->Prop):Prop where
 is:∀b,X b->∃o,h.get? b=Wb o/\((∃es n,o.data=.dict es n)\/(C/\∃v,o.data=.cell v))
section
variable{B:ao}{h h':Heap}{V V':aG}{X:Addr->Prop}{C:Prop}
theorem Own.seq(x:Own h C X){b:Addr}{o:Obj}{xs:Array Wm}{n:Nat}(e:h.get? b=Wb o)(d:o.data=.seq xs n):¬X b:=fun q=>by
 obtain⟨c,a,z⟩:=x.is b q;obtain rfl:=(Wi (e.symm.trans a)).symm;rcases z with⟨es,n,z⟩|⟨_,v,z⟩<;>rw[d] at z<;>cases z
theorem Own.func(x:Own h C X){b:Addr}{o:Obj}{fd:acH}(e:h.get? b=Wb o)(d:o.data=.func fd):¬X b:=fun q=>by
 obtain⟨c,a,z⟩:=x.is b q;obtain rfl:=(Wi (e.symm.trans a)).symm;rcases z with⟨es,n,z⟩|⟨_,v,z⟩<;>rw[d] at z<;>cases z
theorem Own.fields(x:Own h C X){b:Addr}{o:Obj}{vs:Array Wm}(e:h.get? b=Wb o)(d:o.data=.fields vs):¬X b:=fun q=>by
 obtain⟨c,a,z⟩:=x.is b q;obtain rfl:=Wi (e.symm.trans a);rcases z with⟨es,n,z⟩|⟨_,v,z⟩<;>rw[d] at z<;>cases z
theorem Own.cell(x:Own h False X){b:Addr}{v:Option Wm}(t:h.IsCell b v):¬X b:=fun q=>by
 obtain⟨o,e,d⟩:=t;obtain⟨c,a,z⟩:=x.is b q;obtain rfl:=(Wi (e.symm.trans a)).symm;rcases z with⟨es,n,z⟩|⟨z,_⟩
 ·rw[d] at z;cases z
 ·exact z
theorem pW{b:Addr}{o:Obj}(k:Keep (fun b=>own V b\/X b) h h')(e:h.get? b=Wb o)(n:¬own V b)(x:¬X b):UpTo o h' b:=k b o e fun q=>q.elim n x
mutual
theorem VR.stepN(w:∀{a o xs n},h.get? a=Wb o->o.data=.seq xs n->¬X a)(k:Keep (fun b=>own V b\/X b) h h')(l:Le V h V'):∀(p:P){v:Wm},p.isOdd=We->VR B h V p v->VR B h' V' p v
 |.none,_,_,x=>x
 |.bool _,_,_,x=>x
 |.int _,_,_,x=>x
 |.str _,_,_,x=>x
 |.tup ps,v,_,x=>by
  obtain⟨a,vs,e,n,t,r⟩:=x;refine⟨a,vs,e,nI l n t,?_,VRs.stepN w k l ps r⟩;clear l r;obtain⟨o,e,c,d⟩:=t;obtain⟨sl,z⟩:=pW k e n (by obtain⟨_,d⟩:=d;exact w e d);exact⟨_,z,c,d⟩
 |.list ps,v,_,x=>by
  obtain⟨a,vs,e,n,t,r⟩:=x;refine⟨a,vs,e,lZ l n t,?_,VRs.stepN w k l ps r⟩;clear l r;obtain⟨o,e,c,d⟩:=t;obtain⟨sl,z⟩:=pW k e n (by obtain⟨_,d⟩:=d;exact w e d);exact⟨_,z,c,d⟩
 |.ref n,v,_,x=>by
  clear w k;obtain⟨a,e,z⟩:=x;refine⟨a,e,?_⟩;clear e;rcases z with⟨c,q,ac⟩|q
  ·rcases l.more n _ q with z|z
   ·exact .inl ⟨c,z,ac⟩
   ·exact .inr z
  ·exact .inr (l.dead n q)
 |.glob _,_,_,x=>x
 |.clo b sc p m,v,o,x=>gB o
 |.exc C f g,v,o,x=>gB o
theorem VRs.stepN(w:∀{a o xs n},h.get? a=Wb o->o.data=.seq xs n->¬X a)(k:Keep (fun b=>own V b\/X b) h h')(l:Le V h V'):∀(ps:List P){vs:List Wm},VRs B h V ps vs->VRs B h' V' ps vs
 | [],_,x=>x
 |p::ps,vs,x=>by
  obtain⟨v,r,e,o,a,b⟩:=x;exact⟨v,r,e,o,VR.stepN w k l p o a,VRs.stepN w k l ps b⟩
end
theorem VR.stepX(w:Own h C X)(k:Keep (fun b=>own V b\/X b) h h')(l:Le V h V')(p:P){v:Wm}(o:p.isOdd=We)(x:VR B h V p v):VR B h' V' p v:=VR.stepN w.seq k l p o x
theorem VRs.stepX(w:Own h C X)(k:Keep (fun b=>own V b\/X b) h h')(l:Le V h V')(ps:List P){vs:List Wm}(x:VRs B h V ps vs):VRs B h' V' ps vs:=VRs.stepN w.seq k l ps x
theorem VRc.stepX(w:Own h False X)(k:Keep (fun b=>own V b\/X b) h h')(l:Le V h V'){cl:List (Str×Addr)}:∀(m:List (Nat×P)),VRc B h V cl m->VRc B h' V' cl m:=by
 intro g
 induction g with
 |nil=>
  intro _;exact trivial
 |cons e m i=>
  intro x;obtain⟨⟨c,v,lk,n,a,f,r⟩,ar⟩:=x;refine⟨⟨c,v,lk,i5 l n a,?_,f,VR.stepX w k l e.2 f r⟩,i ar⟩;have j:=w.cell a;clear w l lk f r ar;obtain⟨o,e,d⟩:=a;obtain⟨sl,z⟩:=pW k e n j;exact⟨_,z,d⟩
theorem VR.stepC(w:Own h False X)(k:Keep (fun b=>own V b\/X b) h h')(l:Le V h V'):∀{p:P}{v:Wm},p.isExc=We->VR B h V p v->VR B h' V' p v
 |.clo b sc p m,v,_,x=>by
  obtain⟨a,o,fd,e,n,g,hc,hd,j,hs,hp,s,t,u,y,A,D,r⟩:=x;obtain⟨sl,z⟩:=pW k g n (w.func g hd);obtain⟨c,oc,vs,tt,d,f,i,q'⟩:=u;have nc:=y _ d;obtain⟨F,E⟩:=pW k f nc (w.fields f i);refine⟨a,_,fd,e,l.notOwn g n,z,hc,hd,j,hs,hp,s,t,⟨c,_,vs,tt,d,E,i,q'⟩,fun cc q=>?_,A,D,VRc.stepX w k l m r⟩;rw[d] at q;cases q;exact l.notOwn f nc
 |.none,_,_,x=>x
 |.bool _,_,_,x=>x
 |.int _,_,_,x=>x
 |.str _,_,_,x=>x
 |.tup ps,v,_,x=>VR.stepX w k l _ rfl x
 |.list ps,v,_,x=>VR.stepX w k l _ rfl x
 |.ref n,v,_,x=>VR.stepX w k l _ rfl x
 |.glob _,_,_,x=>x
 |.exc C G H,v,o,x=>gB o
end
section
variable{B:ao}{h h':Heap}{V:aG}{Z:St}
theorem Rel.has(R:Rel B V Z h){b:Addr}(q:own V b):∃o,h.get? b=Wb o:=by
 obtain⟨n,c,e,z⟩:=q;have w:=R.objs n;rw[e] at w;clear R e
 induction e2:ai Z n using Wo with
 |none=>rw[e2] at w;exact w.elim
 |some o=>
  rw[e2] at w;have w:OR B h V o c:=w;clear e2
  induction o using Mine.O.casesOn with
  |list l=>
   clear n;obtain⟨x,vs,k,g,_⟩:=w;clear w;rcases z with z|z
   ·rw[z];exact⟨_,g⟩
   ·rw[z,x];exact⟨_,g⟩
  |dict l ep=>
   clear n;obtain⟨x,vs,k,g,_⟩:=w;clear w;rcases z with z|z
   ·rw[z];exact⟨_,g⟩
   ·rw[z,x];exact⟨_,g⟩
  |inst C l=>
   clear n;obtain⟨x,g,d,k,a,_⟩:=w;clear w x;rcases z with z|z
   ·rw[z];exact⟨_,g⟩
   ·rw[z];exact⟨_,a⟩
  |tab f=>
   clear n;obtain⟨x,_,vs,g,_⟩:=w;clear w;rcases z with z|z
   ·rw[z];exact⟨_,g⟩
   ·rw[z,x];exact⟨_,g⟩
  |dead=>exact w.elim
theorem jr{h h':Heap}(k:∀b o,h.get? b=Wb o->h'.get? b=Wb o){b:Addr}(e:h'.get? b=Wc):h.get? b=Wc:=by
 induction z:h.get? b using Wo with
 |none=>rfl
 |some o=>exact aH (e.symm.trans (k b o z))
theorem Rel.nb(R:Rel B V Z h){b:Addr}(e:h.get? b=Wc):B.h₀.get? b=Wc:=jr R.base e
theorem Rel.nown(R:Rel B V Z h){b:Addr}(e:h.get? b=Wc):¬own V b:=fun q=>by
 obtain⟨o,z⟩:=R.has q;exact aH (e.symm.trans z)
theorem nJ{c:Addr×Addr}{b:Addr}(q:own (V++[Wb c]) b):own V b\/b=c.1\/b=c.2:=by
 obtain⟨n,d,e,z⟩:=q;rw[aK,acJ] at e;split at e
 ·exact .inl ⟨n,d,by rw[aK];exact e,z⟩
 ·rw[abP] at e;split at e
  ·cases e;exact .inr z
  ·exact aH e
theorem Le.snoc{c:Addr×Addr}(h1:h.get? c.1=Wc)(d:h.get? c.2=Wc):Le V h (V++[Wb c]):=by
 have a:∀n x,ai V n=Wb x->ai (V++[Wb c]) n=Wb x:=fun n x e=>by
  rw[aK] at e ⊢;rw[X8 (Xn.mp e).1];exact e
 refine⟨fun n x e=>.inl (a n x e),fun n e=>a n _ e,fun b q=>?_⟩;rcases nJ q with q|q|q
 ·exact .inl q
 ·exact .inr (q▸h1)
 ·exact .inr (q▸d)
theorem OR.grow{V':aG}{c:Addr×Addr}(k:∀b o,h.get? b=Wb o->h'.get? b=Wb o)(l:Le V h V'){o:O}(q:OR B h V o c):OR B h' V' o c:=by
 have d:∀a,(∃ob,h.get? a=Wb ob)->h'.get? a=h.get? a:=fun a f=>by obtain⟨ob,e⟩:=f;exact(k a ob e).trans e.symm
 refine OR.step (Keep.of_grow k) l (d _ ?_) (d _ ?_) q
 ·induction o using Mine.O.casesOn with
  |list l=>obtain⟨a,vs,n,g,r⟩:=q;exact⟨_,g⟩
  |dict l ep=>obtain⟨a,vs,n,g,r⟩:=q;exact⟨_,g⟩
  |inst C fs=>obtain⟨a,g,r⟩:=q;exact⟨_,g⟩
  |tab i=>obtain⟨a,j,ps,g,r⟩:=q;exact⟨_,g⟩
  |dead=>exact q.elim
 ·induction o using Mine.O.casesOn with
  |list l=>obtain⟨a,vs,n,g,r⟩:=q;rw[a];exact⟨_,g⟩
  |dict l ep=>obtain⟨a,vs,n,g,r⟩:=q;rw[a];exact⟨_,g⟩
  |inst C fs=>obtain⟨a,g,p,n,m,r⟩:=q;exact⟨_,m⟩
  |tab i=>obtain⟨a,j,ps,g,r⟩:=q;rw[a];exact⟨_,g⟩
  |dead=>exact q.elim
theorem Rel.alloc(R:Rel B V Z h)(k:∀b o,h.get? b=Wb o->h'.get? b=Wb o){c:Addr×Addr}(h1:h.get? c.1=Wc)(s:h.get? c.2=Wc)(A:XJ<c.1)(C:XJ<c.2){o:O}(q:OR B h' (V++[Wb c]) o c):
  Rel B (V++[Wb c]) (Z++[o]) h':=by
 have cut:∀n (x:Option (Addr×Addr)),ai (V++[Wb c]) n=Wb x->(ai V n=Wb x)\/(n=V.length/\x=Wb c):=fun n x e=>by
  rw[aK] at e ⊢;rw[acJ] at e;split at e
  ·exact .inl e
  ·rename_i D;rw[abP] at e;split at e
   ·rename_i E;obtain rfl:=Wi e;exact .inr ⟨aaT (Nat.le_of_sub_eq_zero E) (Yq D),rfl⟩
   ·exact aH e
 have p:∀b,own V b->b≠c.1/\b≠c.2:=fun b q=>by
  obtain⟨o,e⟩:=R.has q;constructor
  ·intro z;rw[z,h1] at e;exact aH e
  ·intro z;rw[z,s] at e;exact aH e
 refine⟨fun b o e=>k _ _ (R.base b o e),fun n=>?_,fun n m a d F v g=>?_,fun b q=>?_,by simp[R.len],fun b q=>(nJ q).elim (R.low b) fun q=>q.elim (fun q=>q▸A) fun q=>q▸C⟩
 ·by_cases g:n<V.length
  ·have e1:ai (V++[Wb c]) n=ai V n:=by rw[aK,aK,X8 g]
   have e2:ai (Z++[o]) n=ai Z n:=by rw[aK,aK,X8 (R.len▸g)]
   have w:=R.objs n;rw[e1,e2]
   revert w
   induction e1:ai V n using Wo with
   |none=>induction ai Z n<;>exact id
   |some x=>induction x using Wo with
    |none=>induction ai Z n<;>exact id
    |some c=>induction e2:ai Z n using Wo with
     |none=>exact id
     |some o=>exact fun w=>OR.grow k (Le.snoc h1 s) w
  ·by_cases t:n=V.length
   ·have e1:ai (V++[Wb c]) n=Wb (Wb c):=by rw[aK,t];simp
    have e2:ai (Z++[o]) n=Wb o:=by rw[aK,t,R.len];simp
    rw[e1,e2];exact q
   ·have y:V.length+1<=n:=Nat.lt_of_le_of_ne (Yq g) (Ne.symm t);have e1:ai (V++[Wb c]) n=Wc:=by rw[aK];exact aaB (by rw[Wu];exact y)
    have e2:ai (Z++[o]) n=Wc:=by rw[aK];exact aaB (by rw[Wu,<-R.len];exact y)
    rw[e1,e2];trivial
 ·rcases cut _ _ F with i|⟨i,u⟩
  ·rcases cut _ _ v with f|⟨f,r⟩
   ·exact R.sep n m a d i f g
   ·have r:=Wi r;have j:=p a.1 ⟨n,a,i,.inl rfl⟩;have l:=p a.2 ⟨n,a,i,.inr rfl⟩;exact r▸⟨j.1,j.2,l.1,l.2⟩
  ·have u:=Wi u;rcases cut _ _ v with f|⟨f,r⟩
   ·have j:=p d.1 ⟨m,d,f,.inl rfl⟩;have l:=p d.2 ⟨m,d,f,.inr rfl⟩;exact u▸⟨j.1.symm,l.1.symm,j.2.symm,l.2.symm⟩
   ·exact absurd (i.trans f.symm) g
 ·rcases nJ q with q|q
  ·exact R.new b q
  ·induction e:B.h₀.get? b using Wo with
   |none=>rfl
   |some G=>
    have:=R.base b G e;rcases q with q|q
    ·rw[q,h1] at this;exact aH this
    ·rw[q,s] at this;exact aH this
theorem Rel.turn(R:Rel B V Z h){n:Nat}{c:Addr×Addr}(e:ai V n=Wb (Wb c))(k:∀b o,h.get? b=Wb o->b≠c.1->b≠c.2->h'.get? b=Wb o){o:O}(q:OR B h' V o c):
  Rel B V (ak Z n o) h':=by
 have m:Keep (own V) h h':=fun b ob f nb=>.refl (k b ob f (fun z=>nb ⟨n,c,e,.inl z⟩) fun z=>nb ⟨n,c,e,.inr z⟩);refine⟨fun b ob f=>k _ _ (R.base b ob f) ?_ ?_,fun j=>?_,R.sep,R.new,by rw[cw,aaR];exact R.len,R.low⟩
 ·intro z;have:=R.new b ⟨n,c,e,.inl z⟩;exact rG (f.symm.trans this)
 ·intro z;have:=R.new b ⟨n,c,e,.inr z⟩;exact rG (f.symm.trans this)
 ·by_cases l:n=j
  ·subst l;have e2:ai (ak Z n o) n=Wb o:=by rw[aK,cw,YO (by rw[<-R.len];exact(by rw[aK] at e;exact(Xn.mp e).1))]
   rw[e,e2];exact q
  ·have e2:ai (ak Z n o) j=ai Z j:=by rw[aK,aK,cw,YZ l]
   have w:=R.objs j;rw[e2]
   revert w
   induction e1:ai V j using Wo with
   |none=>induction ai Z j<;>exact id
   |some x=>induction x using Wo with
    |none=>induction ai Z j<;>exact id
    |some d=>induction e3:ai Z j using Wo with
     |none=>exact id
     |some r=>
      intro w;have i:=R.sep n j c d e e1 l;have g:∀a,(∃ob,h.get? a=Wb ob)->a≠c.1->a≠c.2->h'.get? a=h.get? a:=fun a p x y=>by obtain⟨ob,e⟩:=p;exact(k a ob e x y).trans e.symm
      exact OR.step m (Le.refl V h) (g _ (R.has ⟨j,d,e1,.inl rfl⟩) i.1.symm i.2.2.1.symm) (g _ (R.has ⟨j,d,e1,.inr rfl⟩) i.2.1.symm i.2.2.2.symm) w
theorem Rel.obj(R:Rel B V Z h){n:Nat}{c:Addr×Addr}{o:O}(e:ai V n=Wb (Wb c))(e2:ai Z n=Wb o):OR B h V o c:=by
 have w:=R.objs n;rw[e,e2] at w;exact w
theorem Rel.ref(R:Rel B V Z h){n:Nat}{v:Wm}(hv:VR B h V (.ref n) v){o:O}(e2:ai Z n=Wb o)(nd:o≠ .dead):∃c,ai V n=Wb (Wb c)/\v=.ref c.1/\OR B h V o c:=by
 obtain⟨a,rfl,z⟩:=hv;rcases z with⟨c,e,rfl⟩|e
 ·exact⟨c,e,rfl,R.obj e e2⟩
 ·have w:=R.objs n;rw[e,e2] at w;exact absurd w nd
end
inductive N7(B:ao)(V:aG)(h:Heap)(m:VE)(env:Env)(x:Nat):Prop
 |mk(c:Addr)(a:Option Wm)(lk:env.cells.lookup (af x)=Wb c)(n:¬own V c)(b:B.h₀.get? c=Wc)(d:h.IsCell c a)(q:∀p,get x m=Wb p->∃v,a=Wb v/\VR B h V p v)
inductive J9(B:ao)(V:aG)(h:Heap)(m:VE)(env:Env):Prop
 |mk(a:Str->Option Wm)(ns:h.Ns env.locals a)(q:∀x p,env.kindOf (af x)=Wb .local->get x m=Wb p->∃v,a (af x)=Wb v/\VR B h V p v)
structure EnvR(B:ao)(V:aG)(h:Heap)(m:VE)(env:Env):Prop where
 kind:env.scope.kind=.function
 glob:env.globals=XS
 bui:env.builtins=YF
 locN:¬own V env.locals
 locB:B.h₀.get? env.locals=Wc
 loc:J9 B V h m env
 cel:∀x,(env.kindOf (af x)=Wb .cell\/env.kindOf (af x)=Wb .free)->N7 B V h m env x
 inj:∀x y c,(env.kindOf (af x)=Wb .cell\/env.kindOf (af x)=Wb .free)->(env.kindOf (af y)=Wb .cell\/env.kindOf (af y)=Wb .free)->env.cells.lookup (af x)=Wb c->env.cells.lookup (af y)=Wb c->x=y
 clo:(∃x,env.kindOf (af x)=Wb .cell)->∀x p,get x m=Wb p->p.isClo=We
theorem EnvR.step{B:ao}{h h':Heap}{V V':aG}{m:VE}{env:Env}(k:Keep (own V) h h')(l:Le V h V')(e:EnvR B V h m env):EnvR B V' h' m env:=by
 refine⟨e.kind,e.glob,e.bui,?_,e.locB,?_,?_,e.inj,e.clo⟩
 ·obtain⟨f,n,_⟩:=e.loc;exact jq l e.locN n
 ·obtain⟨f,n,q⟩:=e.loc;exact⟨f,C5 k e.locN n,fun x p a b=>let ⟨v,c,d⟩:=q x p a b;⟨v,c,VR.step k l p d⟩⟩
 ·intro x j;obtain⟨c,o,lk,n,r,i,q⟩:=e.cel x j;exact⟨c,o,lk,i5 l n i,r,lY k n i,fun p g=>let ⟨v,a,b⟩:=q p g;⟨v,a,VR.step k l p b⟩⟩
inductive Sp(B:ao)(V:aG)(h:Heap)(e:Env):Prop
 |mk(a:e.scope.kind≠ .module)(L:Addr)(o:Obj)(b:e.frame=Wb L)(c:B.h₀.get? L=Wc)(d:¬own V L)(g:h.get? L=Wb o)(i:∀vs,o.data≠ .fields vs)
noncomputable def FrOK(B:ao)(V:aG)(h:Heap)(l:List Env):Prop:=∀e∈l,Sp B V h e
theorem FrOK.step{B:ao}{h h':Heap}{V V':aG}{l:List Env}(k:Keep (own V) h h')(le:Le V h V')(f:FrOK B V h l):FrOK B V' h' l:=fun e j=>by
 obtain⟨a,L,o,b,c,d,g,i⟩:=f e j;obtain⟨sl,z⟩:=k L o g d;exact⟨a,L,_,b,c,le.notOwn g d,z,i⟩
inductive LP(B:ao)(A:WN)(env:Env)(V:aG)(h:Heap):Prop
 |mk(e1:Env)(a:List Env)(h1:A.frames=Wb (e1::a))(b:env.frame=e1.frame)(c:FrOK B V h (e1::a))
structure Amb(B:ao)(A:WN)(c:Cx)(env:Env)(V:aG)(h:Heap):Prop where
 fr:LP B A env V h
 dep:A.depth+3*c.d+3<=recursionLimit
 un:A.units+40*c.d+100<=acj
 hd:c.hd=We->A.handled=Wc
 cod:∀k,c.tb=Wb k->∃cc,env.code=.ref cc/\acK B.h₀ cc (B.tabA k)/\env.qual++"<lambda>" =B.tabQ k
theorem Amb.step{B:ao}{A:WN}{c:Cx}{env:Env}{h h':Heap}{V V':aG}(k:Keep (own V) h h')(le:Le V h V')(a:Amb B A c env V h):Amb B A c env V' h':=
 ⟨let ⟨e1,o,x,y,z⟩:=a.fr;⟨e1,o,x,y,z.step k le⟩,a.dep,a.un,a.hd,a.cod⟩
noncomputable abbrev no:Addr->Prop:=fun _=>False
theorem ir{h h':Heap}{b:Addr}{m:Str->Option Wm}(a:h.Ns b m)(k:∀o,h.get? b=Wb o->(∀vs,o.data≠ .fields vs)->UpTo o h' b):h'.Ns b m:=by
 obtain⟨o,es,ep,e,d,r⟩:=a;obtain⟨sl,z⟩:=k o e (fun vs q=>by rw[d] at q;cases q);exact⟨_,es,ep,z,d,r⟩
structure Stp(X:Addr->Prop)(V:aG)(s:Wl)(V':aG)(s':Wl):Prop where
 keep:Keep (fun b=>own V b\/X b) s.heap s'.heap
 le:Le V s.heap V'
 ex:∀b o,s.heap.get? b=Wb o->∃o',s'.heap.get? b=Wb o'/\((∀vs,o.data≠ .fields vs)->∀vs,o'.data≠ .fields vs)
 gens:s'.gens=s.gens
 drawn:s'.drawn=s.drawn
 os:s'.os=s.os
 fl:∀b o vs,s.heap.get? b=Wb o->o.data=.fields vs->¬ (own V b\/X b)->s'.heap.get? b=Wb o
 ns:∀b m,¬own V b->s.heap.Ns b m->∃m',s'.heap.Ns b m'
theorem Stp.refl(X:Addr->Prop)(V:aG)(s:Wl):Stp X V s V s:=⟨fun _ _ e _=>.refl e,.refl _ _,fun _ o e=>⟨o,e,id⟩,rfl,rfl,rfl,fun _ _ _ e _ _=>e,fun _ m _ n=>⟨m,n⟩⟩
theorem Stp.trans{X:Addr->Prop}{V V' f:aG}{s s' g:Wl}(a:Stp X V s V' s')(b:Stp X V' s' f g):Stp X V s f g:=by
 refine⟨fun x o e n=>?_,a.le.trans (fun x o e=>let ⟨c,q,_⟩:=a.ex x o e;⟨c,q⟩) b.le,fun x o e=>?_,b.gens.trans a.gens,b.drawn.trans a.drawn,b.os.trans a.os,fun x o vs e d n=>b.fl x o vs (a.fl x o vs e d n) d ?_,fun x m no n=>let ⟨h,n'⟩:=a.ns x m no n;b.ns x h (jq a.le no n) n'⟩
 ·obtain⟨sl,z⟩:=a.keep x o e n;have nn:¬ (own V' x\/X x):=by
   rintro(q|q)
   ·rcases a.le.fresh x q with q|q
    ·exact n (.inl q)
    ·exact rG (e.symm.trans q)
   ·exact n (.inr q)
  obtain⟨i,j⟩:=b.keep x _ z nn;exact⟨i,j⟩
 ·obtain⟨c,k,q⟩:=a.ex x o e;obtain⟨l,e2,p⟩:=b.ex x c k;exact⟨l,e2,fun z=>p (q z)⟩
 ·rintro(q|q)
  ·rcases a.le.fresh x q with q|q
   ·exact n (.inl q)
   ·exact rG (e.symm.trans q)
  ·exact n (.inr q)
theorem Stp.grow{X:Addr->Prop}{V:aG}{s s':Wl}(k:∀b o,s.heap.get? b=Wb o->s'.heap.get? b=Wb o)(g:s'.gens=s.gens:=by rfl)(d:s'.drawn=s.drawn:=by rfl)(o:s'.os=s.os:=by rfl):Stp X V s V s':=
 ⟨.of_grow k,.refl _ _,fun _ o e=>⟨o,k _ _ e,id⟩,g,d,o,fun _ _ _ e _ _=>k _ _ e,fun _ m _ n=>⟨m,n.keeps k⟩⟩
theorem Stp.absent{X:Addr->Prop}{V V':aG}{s s':Wl}(a:Stp X V s V' s'){b:Addr}(e:s'.heap.get? b=Wc):s.heap.get? b=Wc:=by
 induction q:s.heap.get? b using Wo with
 |none=>rfl
 |some o=>obtain⟨c,z,_⟩:=a.ex b o q;exact aH (e.symm.trans z)
theorem Stp.mono{X Y:Addr->Prop}{V V':aG}{s s':Wl}(a:Stp X V s V' s')(h:∀b,X b->Y b):Stp Y V s V' s':=
 ⟨fun b o e n=>a.keep b o e fun q=>n (q.imp id (h b)),a.le,a.ex,a.gens,a.drawn,a.os,fun b o vs e d n=>a.fl b o vs e d fun q=>n (q.imp id (h b)),a.ns⟩
theorem Stp.any{X:Addr->Prop}{V V':aG}{s s':Wl}(a:Stp no V s V' s'):Stp X V s V' s':=a.mono fun _ h=>h.elim
theorem Stp.k{V V':aG}{s s':Wl}(a:Stp no V s V' s'):Keep (own V) s.heap s'.heap:=fun b o e n=>a.keep b o e fun q=>q.elim n id
theorem Stp.fresh{X:Addr->Prop}{V V':aG}{s s':Wl}(a:Stp X V s V' s')(h:∀b,X b->s.heap.get? b=Wc):Stp no V s V' s':=by
 have c:∀b o,s.heap.get? b=Wb o->¬ (own V b\/no b)->¬ (own V b\/X b):=by
  rintro b o e n (q|q)
  ·exact n (.inl q)
  ·rw[h b q] at e;exact aH e
 exact⟨fun b o e n=>a.keep b o e (c b o e n),a.le,a.ex,a.gens,a.drawn,a.os,fun b o vs e d n=>a.fl b o vs e d (c b o e n),a.ns⟩
inductive Qh(hs h:Heap)(V:aG)(a d:Addr)(tb:Wm):Prop
 |mk(T:Addr)(oT:Obj)(ts:Array Wm)(b:tb=.ref T)(c:T≠a)(e:T≠d)(f:¬own V T)(g:hs.get? T=Wc)(i:h.get? T=Wb oT)(j:oT.data=.fields ts)(k:3<ts.size)(l:∀q t,ts[1]?≠Wb (.str q t))
inductive N8(B:ao)(hs h:Heap)(V:aG)(C g:Nat)(c:P)(e:Wm):Prop
 |mk(a d:Addr)(vs:Array Wm)(b:List WY)(n:Nat)(sl sd:Array (Option Wm))(tb:Wm)(e1:e=.ref a)(e2:¬own V a)(e3:¬own V d)(i:hs.get? a=Wc)(j:hs.get? d=Wc)(k:a≠d)
  (l:h.get? a=Wb ⟨.ref (B.cA C),Wb d,.fields vs,sl⟩) (m:h.get? d=Wb {XE b n with slots:=sd})
  (o:∃t,getL (af aj) b=Wb (Wb (.str (af g) t))) (p:∃f,getL (af aM) b=Wb (Wb f)/\VR B h V c f/\c.isOdd=We)
  (q:vs[1]?=Wb tb) (r:tb=.none\/Qh hs h V a d tb)
structure ExcR(B:ao)(hs h:Heap)(V:aG)(C dP:Nat)(aP:P)(e:Wm):Prop where
 it:N8 B hs h V C dP aP e
noncomputable def Fin{α β:Type}(B:ao)(X:Addr->Prop)(RA:Heap->aG->α->β->Prop)(V:aG)(s:Wl)(res:R α)(Q:β->Wl->Prop)(E:Wm->Wl->Prop):Prop:=
 match res with
 |.ok a b=>∀V' s' v,Stp X V s V' s'->Rel B V' b s'.heap->RA s'.heap V' a v->Q v s'
 |.exc C c d b=>∀V' s' e,Stp X V s V' s'->Rel B V' b s'.heap->ExcR B s.heap s'.heap V' C c d e->E e s'
 |.no=>False
theorem ExcR.earlier{B:ao}{hs f h:Heap}{V:aG}{C g:Nat}{i:P}{e:Wm}(k:∀b,f.get? b=Wc->hs.get? b=Wc)(x:ExcR B f h V C g i e):ExcR B hs h V C g i e:=by
 obtain⟨a,d,vs,j,n,sl,sd,tb,e1,e2,e3,l,m,o,p,q,r,s,t,c⟩:=x;refine⟨a,d,vs,j,n,sl,sd,tb,e1,e2,e3,k _ l,k _ m,o,p,q,r,s,t,?_⟩;rcases c with c|⟨T,oT,ts,u,v,w,y,z,A,D,E,F⟩
 ·exact .inl c
 ·exact .inr ⟨T,oT,ts,u,v,w,y,k _ z,A,D,E,F⟩
section
variable{α β γ δ ε:Type}{B:ao}{X:Addr->Prop}{RA:Heap->aG->α->β->Prop}{RC:Heap->aG->γ->δ->Prop}{V V1 V':aG}{s s1 s':Wl}{res:R α}{Q:β->Wl->Prop}{E:Wm->Wl->Prop}
theorem Fin.shift(st:Stp X V s V1 s1)(f:Fin B X RA V s res Q E):Fin B X RA V1 s1 res Q E:=by
 induction res using Mine.R.casesOn with
 |ok a d=>exact fun V' s' v a b c=>f V' s' v (st.trans a) b c
 |exc C g h d=>exact fun V' s' e a b c=>f V' s' e (st.trans a) b (c.earlier fun b z=>st.absent z)
 |no=>exact f
theorem Fin.less{Y:Addr->Prop}(f:Fin B X RA V s res Q E)(h:∀b,Y b->X b):Fin B Y RA V s res Q E:=by
 induction res using Mine.R.casesOn with
 |ok a d=>exact fun V' s' v a b c=>f V' s' v (a.mono h) b c
 |exc C g i d=>exact fun V' s' e a b c=>f V' s' e (a.mono h) b c
 |no=>exact f
theorem Fin.bind{x:R α}{f:α->St->R γ}{Q:δ->Wl->Prop}{Q':β->Wl->Prop}
  (F:Fin B X RC V s (x.bind f) Q E)
  (k:∀a Z1 V1 s1 v,Stp X V s V1 s1->Rel B V1 Z1 s1.heap->RA s1.heap V1 a v->Fin B X RC V1 s1 (f a Z1) Q E->Q' v s1):Fin B X RA V s x Q' E:=by
 induction x using Mine.R.casesOn with
 |ok a b=>exact fun V' s' v st rl c=>k a b V' s' v st rl c (F.shift st)
 |exc C d e b=>exact F
 |no=>exact F
theorem Fin.bindE{x:R α}{f:α->St->R γ}{Q:δ->Wl->Prop}{Q':β->Wl->Prop}
  (F:Fin B X RC V s (x.bind f) Q E)
  (k:∀a Z1 V1 s1 v,Stp no V s V1 s1->Rel B V1 Z1 s1.heap->RA s1.heap V1 a v->Fin B X RC V1 s1 (f a Z1) Q E->Q' v s1):Fin B no RA V s x Q' E:=by
 induction x using Mine.R.casesOn with
 |ok a d=>exact fun V' s' v st rl g=>k a d V' s' v st rl g (F.shift st.any)
 |exc C h i d=>exact fun V' s' e a b c=>F V' s' e a.any b c
 |no=>exact F
theorem Fin.ok{a:α}{b:St}(F:Fin B X RA V s (.ok a b) Q E){v:β}(st:Stp X V s V' s')(rl:Rel B V' b s'.heap)(c:RA s'.heap V' a v):Q v s':=F V' s' v st rl c
theorem lz{C:Prop}:Fin B X RA V s (.no:R α) Q E->C:=fun F=>F.elim
theorem Fin.cN{b:Bool}(F:Fin B X RA V s (cond b .no res) Q E):b=We/\Fin B X RA V s res Q E:=by
 induction b using Wn with
 |true=>exact F.elim
 |false=>exact⟨rfl,F⟩
theorem Fin.cY{b:Bool}(F:Fin B X RA V s (cond b res .no) Q E):b=Wd/\Fin B X RA V s res Q E:=by
 induction b using Wn with
 |true=>exact⟨rfl,F⟩
 |false=>exact F.elim
theorem Fin.y{b:Bool}{G:Prop}(F:Fin B X RA V s (cond b res .no) Q E)(k:b=Wd->Fin B X RA V s res Q E->G):G:=k F.cY.1 F.cY.2
theorem Fin.n{b:Bool}{G:Prop}(F:Fin B X RA V s (cond b .no res) Q E)(k:b=We->Fin B X RA V s res Q E->G):G:=k F.cN.1 F.cN.2
theorem Fin.d{b:Bool}{a:R α}{G:Prop}(F:Fin B X RA V s (cond b res a) Q E)(k:b=Wd->Fin B X RA V s res Q E->G)(c:Fin B X RA V s a Q E->G):G:=by
 induction b using Wn with
 |true=>exact k rfl F
 |false=>exact c F
theorem Fin.o{o:Option γ}{f:γ->R α}{G:Prop}(F:Fin B X RA V s (Mine.ofO o f) Q E)(k:∀a,o=Wb a->Fin B X RA V s (f a) Q E->G):G:=by
 induction o using Wo with
 |none=>exact F.elim
 |some a=>exact k a rfl F
theorem Fin.bo{o:Option ε}{f:ε->R γ}{g:γ->St->R α}{G:Prop}(F:Fin B X RA V s ((Mine.ofO o f).bind g) Q E)(k:∀a,o=Wb a->Fin B X RA V s ((f a).bind g) Q E->G):G:=by
 induction o using Wo with
 |none=>exact F.elim
 |some a=>exact k a rfl F
theorem Fin.l{o:Option O}{f:List P->R α}{G:Prop}(F:Fin B X RA V s (match o with|some (.list l)=>f l|_=>.no) Q E)(k:∀l,o=Wb (.list l)->Fin B X RA V s (f l) Q E->G):G:=by
 induction o using Wo with
 |none=>exact F.elim
 |some o=>induction o<;>first|exact F.elim|exact k _ rfl F
theorem Fin.bl{o:Option O}{f:List P->R γ}{g:γ->St->R α}{G:Prop}(F:Fin B X RA V s (R.bind (match o with|some (.list l)=>f l|_=>.no) g) Q E)(k:∀l,o=Wb (.list l)->Fin B X RA V s ((f l).bind g) Q E->G):G:=by
 induction o using Wo with
 |none=>exact F.elim
 |some o=>induction o<;>first|exact F.elim|exact k _ rfl F
theorem Fin.dc{o:Option O}{f:List (Nat×P)->Nat->R α}{G:Prop}(F:Fin B X RA V s (match o with|some (.dict es e)=>f es e|_=>.no) Q E)(k:∀es e,o=Wb (.dict es e)->Fin B X RA V s (f es e) Q E->G):G:=by
 induction o using Wo with
 |none=>exact F.elim
 |some o=>induction o<;>first|exact F.elim|exact k _ _ rfl F
theorem Fin.tb{o:Option O}{f:Nat->R α}{G:Prop}(F:Fin B X RA V s (match o with|some (.tab k)=>f k|_=>.no) Q E)(k:∀j,o=Wb (.tab j)->Fin B X RA V s (f j) Q E->G):G:=by
 induction o using Wo with
 |none=>exact F.elim
 |some o=>induction o<;>first|exact F.elim|exact k _ rfl F
theorem Fin.d0{o:Option O}{f:Nat->R α}{G:Prop}(F:Fin B X RA V s (match o with|some (.dict [] e)=>f e|_=>.no) Q E)(k:∀e,o=Wb (.dict [] e)->Fin B X RA V s (f e) Q E->G):G:=by
 rcases o with _|_|⟨_|_⟩<;>first|exact F.elim|exact k _ rfl F
theorem Fin.rf{v:P}{Z:St}{f:Nat->List P->R γ}{g:γ->St->R α}{G:Prop}(F:Fin B X RA V s ((match v with|.ref n=>(match ai Z n with|some (.list l)=>f n l|_=>.no) |_=>.no).bind g) Q E)(k:∀n l,v=.ref n->ai Z n=Wb (.list l)->Fin B X RA V s ((f n l).bind g) Q E->G):G:=by
 cases v<;>first|exact F.elim|exact Fin.bl F fun l h F=>k _ _ rfl h F
theorem Fin.cl{v:P}{f:IE->Sc->Nat->VE->R α}{G:Prop}(F:Fin B X RA V s (match v with|.clo b sc p m=>f b sc p m|_=>.no) Q E)(k:∀b sc p m,v=.clo b sc p m->Fin B X RA V s (f b sc p m) Q E->G):G:=by
 cases v<;>first|exact F.elim|exact k _ _ _ _ rfl F
theorem Fin.bn{b:Bool}{x:R γ}{g:γ->St->R α}{G:Prop}(F:Fin B X RA V s ((cond b .no x).bind g) Q E)(k:b=We->Fin B X RA V s (x.bind g) Q E->G):G:=by
 induction b using Wn with
 |true=>exact F.elim
 |false=>exact k rfl F
theorem Fin.ofO{o:Option γ}{f:γ->R α}(F:Fin B X RA V s (ofO o f) Q E):∃a,o=Wb a/\Fin B X RA V s (f a) Q E:=by
 induction o using Wo with
 |none=>exact F.elim
 |some a=>exact⟨a,rfl,F⟩
end
structure EN(sc:Sc)(env:Env):Prop where
 loc:∀x,ap sc x=Wb 0->env.kindOf (af x)=Wb .local
 glob:∀x,ap sc x=Wb 1->env.kindOf (af x)=Wb .globalImplicit
 cell:∀x,ap sc x=Wb 2->env.kindOf (af x)=Wb .cell
 free:∀x,ap sc x=Wb 3->env.kindOf (af x)=Wb .cell\/env.kindOf (af x)=Wb .free
section
variable{B:ao}{V:aG}{h:Heap}{m:VE}{env:Env}{sc:Sc}
theorem N9(a:∀y,env.kindOf (af y)=(ap sc y).map aI){y:Nat}{K:Ya}(h:env.kindOf (af y)=Wb K):∃k,ap sc y=Wb k/\aI k=K:=WD.mp ((a y).symm.trans h)
theorem nK(c:∀y,env.kindOf (af y)=(ap sc y).map aI)(d:∀e∈sc,e.2=0\/e.2=1)(y:Nat):¬ (env.kindOf (af y)=Wb .cell\/env.kindOf (af y)=Wb .free):=by
 have a:∀K,env.kindOf (af y)=Wb K->K=.local\/K=.globalImplicit:=fun K h=>by
  obtain⟨k,h1,b⟩:=N9 c h;exact(d _ (aS h1)).imp (fun e=>by rw[<-b,show k=0 from e];rfl) (fun e=>by rw[<-b,show k=1 from e];rfl)
 exact fun h=>h.elim (fun h=>(a _ h).elim nofun nofun) fun h=>(a _ h).elim nofun nofun
theorem EO(a:∀y,env.kindOf (af y)=(ap sc y).map aI)(b:∀e∈sc,e.2=0\/e.2=1):EN sc env:=
 ⟨fun y q=>by rw[a,q];rfl,fun y q=>by rw[a,q];rfl,fun y q=>(b _ (aS q)).elim nofun nofun,fun y q=>(b _ (aS q)).elim nofun nofun⟩
theorem zR(c:∀y,env.kindOf (af y)=(ap sc y).map aI)(d:∀e∈sc,e.2=0\/e.2=1)(k:env.scope.kind=.function)(g:env.globals=XS)(b:env.builtins=YF)(f:¬own V env.locals)(i:B.h₀.get? env.locals=Wc)
  (loc:J9 B V h m env):EnvR B V h m env:=
 ⟨k,g,b,f,i,loc,fun y a=>absurd a (nK c d y),fun y z cc a=>absurd a (nK c d y),fun⟨y,a⟩=>absurd (.inl a) (nK c d y)⟩
theorem FrOK.cons{l:List Env}(a:EnvR B V h m env)(b:env.frame=Wb env.locals)(f:FrOK B V h l):FrOK B V h (env::l):=fun e he=>by
 rcases Ww.mp he with z|he
 ·subst z;obtain⟨i,⟨c,es,ep,g,d,_⟩,_⟩:=a.loc;exact⟨by rw[a.kind];decide,e.locals,c,b,a.locB,a.locN,g,fun vs q=>by rw[d] at q;cases q⟩
 ·exact f e he
end
noncomputable def SimE(B:ao)(r:dN):Prop:=∀(c:Cx)(e:IE)(m:VE)(Z:St)(A:WN)(s:Wl)(V:aG)(env:Env)(sc:Sc)(Q:Wm->Wl->Prop)(E:Wm->Wl->Prop),
 bj sc e=Wd->EN sc env->Rel B V Z s.heap->EnvR B V s.heap m env->Amb B A c env V s.heap->Fin B no (VR B) V s (r.ev c e m Z) Q E->Ws (Wt B.prog B.w) A (eval (aV e) env) Q E s
noncomputable abbrev ra{α:Type}:Heap->aG->α->α->Prop:=fun _ _ a b=>a=b
noncomputable def SimT(B:ao)(r:dN):Prop:=∀(c:Cx)(e:IE)(m:VE)(Z:St)(A:WN)(s:Wl)(V:aG)(env:Env)(sc:Sc)(Q:Bool->Wl->Prop)(E:Wm->Wl->Prop),
 bj sc e=Wd->EN sc env->Rel B V Z s.heap->EnvR B V s.heap m env->Amb B A c env V s.heap->Fin B no ra V s (o3 r c e m Z) Q E->Ws (Wt B.prog B.w) A (abA (aV e) env (eval (aV e) env)) Q E s
structure At(B:ao)(A:WN)(c:Cx)(sc:Sc)(m:VE)(env:Env)(V:aG)(Z:St)(h:Heap):Prop where
 scr:EN sc env
 rel:Rel B V Z h
 envr:EnvR B V h m env
 amb:Amb B A c env V h
section
variable{α β:Type}{B:ao}{r:dN}{c:Cx}{m:VE}{Z Z1:St}{A:WN}{s s1:Wl}{V V1:aG}{env:Env}{sc:Sc}{X:Addr->Prop}{RC:Heap->aG->α->β->Prop}{Q:β->Wl->Prop}{E:Wm->Wl->Prop}
theorem At.step(a:At B A c sc m env V Z s.heap)(st:Stp no V s V1 s1)(rl:Rel B V1 Z1 s1.heap):At B A c sc m env V1 Z1 s1.heap:=
 ⟨a.scr,rl,a.envr.step st.k st.le,a.amb.step st.k st.le⟩
theorem SimE.use(S:SimE B r){e:IE}{f:P->St->R α}{Q':Wm->Wl->Prop}(b:bj sc e=Wd)(a:At B A c sc m env V Z s.heap)(F:Fin B X RC V s ((r.ev c e m Z).bind f) Q E)
  (k:∀p Z1 V1 s1 v,Stp no V s V1 s1->At B A c sc m env V1 Z1 s1.heap->VR B s1.heap V1 p v->Fin B X RC V1 s1 (f p Z1) Q E->Q' v s1):Ws (Wt B.prog B.w) A (eval (aV e) env) Q' E s:=
 S c e m Z A s V env sc Q' E b a.scr a.rel a.envr a.amb (F.bindE fun p Z1 V1 s1 v st rl d f=>k p Z1 V1 s1 v st (a.step st rl) d f)
theorem SimT.use(S:SimT B r){e:IE}{f:Bool->St->R α}{Q':Bool->Wl->Prop}(d:bj sc e=Wd)(a:At B A c sc m env V Z s.heap)(F:Fin B X RC V s ((o3 r c e m Z).bind f) Q E)
  (k:∀b Z1 V1 s1,Stp no V s V1 s1->At B A c sc m env V1 Z1 s1.heap->Fin B X RC V1 s1 (f b Z1) Q E->Q' b s1):Ws (Wt B.prog B.w) A (abA (aV e) env (eval (aV e) env)) Q' E s:=
 S c e m Z A s V env sc Q' E d a.scr a.rel a.envr a.amb (F.bindE fun p Z1 V1 s1 v st rl g f=>by cases g;exact k p Z1 V1 s1 st (a.step st rl) f)
end
structure aJ(B:ao):Prop where
 X:B.K.In B.h₀
 nolimit:B.h₀.NoLimit
 glob:∀x v,B.gV x=Wb v->(∃mg,B.h₀.Ns XS mg/\mg (af x)=Wb v)\/∃mg mb,B.h₀.Ns XS mg/\mg (af x)=Wc/\B.h₀.Ns YF mb/\mb (af x)=Wb v
 fld:∀C x,B.T.fld C x=Wd->(B.T.cls C).isSome=Wd->X4 B.K (.ref (B.cA C)) "__getattribute__" =Wb (Wb (.builtin "object.__getattribute__"))/\ac4 B.K (B.cA C)=Wd/\(∃attr,X4 B.K (.ref (B.cA C)) (af x)=Wb attr/\noGet B.K attr=Wd)/\
  X4 B.K (.ref (B.cA C)) "__setattr__" =Wb (Wb (.builtin "object.__setattr__"))/\aeT B.K (B.cA C)=Wd/\aa2 B.K (B.cA C) (af x)=Wb Wc
 xfld:∀C x,B.T.fld C x=Wd->(B.T.cls C).isSome=We->X4 B.K (.ref (B.cA C)) "__getattribute__" =Wb (Wb (.builtin "BaseException.__getattribute__"))/\ac4 B.K (B.cA C)=Wd/\(∃attr,X4 B.K (.ref (B.cA C)) (af x)=Wb attr/\noGet B.K attr=Wd)/\
  X4 B.K (.ref (B.cA C)) "__getattr__" =Wb Wc/\subIn B.K (.ref (B.cA C)) (.type "BaseException")=Wb Wd
 val:∀x p,B.T.glob x=Wb p->∃v,B.gV x=Wb v/\p.isOdd=We/\∀h V,(∀b o,B.h₀.get? b=Wb o->h.get? b=Wb o)->(∀b,own V b->B.h₀.get? b=Wc)->VR B h V p v
section
variable{α β:Type}{B:ao}{r:dN}{c:Cx}{m:VE}{Z Z1:St}{A:WN}{s s1:Wl}{V V1:aG}{env:Env}{sc:Sc}{Q:Wm->Wl->Prop}{E:Wm->Wl->Prop}
theorem bM(V:aG)(s:Wl)(tk:Tok){X:Addr->Prop}:Stp X V s V {s with toks:=tk}:=.grow fun _ _ e=>e
theorem bV{X:Addr->Prop}(V:aG)(s:Wl)(o:Obj)(tk:Tok):Stp X V s V {s with heap:=s.heap.push o,toks:=tk}:=.grow fun _ _ e=>Wr _ e
theorem Rel.push{h:Heap}(R:Rel B V Z h)(o:Obj):Rel B V Z (h.push o):=R.grow fun _ _ e=>Wr _ e
theorem C6{p:Nat}(a:At B A c sc m env V Z s.heap)(F:Fin B no (VR B) V s (aQ B.T r c (.none p) m Z) Q E):Ws (Wt B.prog B.w) A (eval (aV (.none p)) env) Q E s:=
 wpAny_Constant_none (F.ok (.refl _ _ _) a.rel rfl)
theorem C7{b:Bool}{p:Nat}(a:At B A c sc m env V Z s.heap)(F:Fin B no (VR B) V s (aQ B.T r c (.bool b p) m Z) Q E):Ws (Wt B.prog B.w) A (eval (aV (.bool b p)) env) Q E s:=
 wpAny_Constant_bool (F.ok (.refl _ _ _) a.rel rfl)
theorem GP{i p:Nat}(a:At B A c sc m env V Z s.heap)(F:Fin B no (VR B) V s (aQ B.T r c (.int i p) m Z) Q E):Ws (Wt B.prog B.w) A (eval (aV (.int i p)) env) Q E s:=
 adt (F.ok (bM _ _ _) a.rel Ij)
theorem GQ{x p:Nat}(a:At B A c sc m env V Z s.heap)(F:Fin B no (VR B) V s (aQ B.T r c (.str x p) m Z) Q E):Ws (Wt B.prog B.w) A (eval (aV (.str x p)) env) Q E s:=
 wpAny_Constant_str (F.ok (bM _ _ _) a.rel GN)
theorem zS:("__debug__" :Str)=af vE:=by decide+kernel
theorem rb:("__classdict__" :Str)=af lQ:=by decide+kernel
theorem fc{x:Nat}(h:ng x=Wd):((af x)==("__debug__" :Str))=We:=by
 rw[zS];exact beq_eq_false_iff_ne.mpr (ig (fun e=>by subst e;simp[ng] at h))
theorem pw{x:Nat}(h:ng x=Wd):((af x)==("__classdict__" :Str))=We:=by
 rw[rb];exact beq_eq_false_iff_ne.mpr (ig (fun e=>by subst e;simp[ng] at h))
theorem pX{x:Nat}(a:At B A c sc m env V Z s.heap)(d:m8 sc x=Wd)(f:ng x=Wd){p:P}(hp:get x m=Wb p)(h:∀v,VR B s.heap V p v->Q v s):
  Ws (Wt B.prog B.w) A (loadName env (af x)) Q E s:=by
 have cell:(env.kindOf (af x)=Wb .cell\/env.kindOf (af x)=Wb .free)->Ws (Wt B.prog B.w) A (loadName env (af x)) Q E s:=by
  intro hk;obtain⟨cc,g,lk,n,i,b,q⟩:=a.envr.cel x hk;obtain⟨v,rfl,hv⟩:=q p hp;rcases hk with hk|hk
  ·exact wpAny_loadName_cell a.envr.kind hk lk b (h v hv)
  ·exact wpAny_loadName_free a.envr.kind hk lk b (h v hv) (pw f)
 rcases y8 d with e|e|e
 ·obtain⟨j,n,q⟩:=a.envr.loc;obtain⟨v,e1,e2⟩:=q x p (a.scr.loc x e) hp;exact acL a.envr.kind (a.scr.loc x e) n e1 (h v e2)
 ·exact cell (.inl (a.scr.cell x e))
 ·exact cell (a.scr.free x e)
theorem aa{a b:Bool}(h:(a&&b)=Wd):a=Wd:=(Xe.mp h).1
theorem ay{a b:Bool}(h:(a&&b)=Wd):b=Wd:=(Xe.mp h).2
theorem C8{x p:Nat}(b:bj sc (.name x p)=Wd)(a:At B A c sc m env V Z s.heap)(F:Fin B no (VR B) V s (aQ B.T r c (.name x p) m Z) Q E):Ws (Wt B.prog B.w) A (eval (aV (.name x p)) env) Q E s:=by
 obtain⟨q,d,F⟩:=Fin.ofO F;have b:(m8 sc x&&ng x)=Wd:=b;exact aew (pX a (aa b) (ay b) d fun v hv=>F.ok (.refl _ _ _) a.rel hv) (fc (ay b))
theorem dH(e:aJ B){x:Nat}(a:At B A c sc m env V Z s.heap)(f:eP sc x=Wd)(g:ng x=Wd){p:Pos}{v:Wm}(hv:B.gV x=Wb v)(h:Q v s):Ws (Wt B.prog B.w) A (eval (.Name (af x) p) env) Q E s:=by
 refine Name_function_global a.envr.kind (a.scr.glob x (xc f)) ?_ (fc g);rcases e.glob x v hv with⟨mg,b,d⟩|⟨mg,mb,b,d,i,j⟩
 ·exact loadGlobal_global (by rw[a.envr.glob];exact b.keeps a.rel.base) d h
 ·exact loadGlobal_builtin (by rw[a.envr.glob];exact b.keeps a.rel.base) d (by rw[a.envr.bui];exact i.keeps a.rel.base) j h
theorem C9(d:aJ B){x p:Nat}(b:bj sc (.glob x p)=Wd)(a:At B A c sc m env V Z s.heap)(F:Fin B no (VR B) V s (aQ B.T r c (.glob x p) m Z) Q E):Ws (Wt B.prog B.w) A (eval (aV (.glob x p)) env) Q E s:=by
 obtain⟨q,e,F⟩:=Fin.ofO F;have b:(eP sc x&&ng x)=Wd:=b;obtain⟨v,hv,_,f⟩:=d.val x q e;exact dH d a (aa b) (ay b) hv (F.ok (.refl _ _ _) a.rel (f _ _ a.rel.base a.rel.new))
theorem GR{i p1 p:Nat}(a:At B A c sc m env V Z s.heap)(F:Fin B no (VR B) V s (aQ B.T r c (.neg i p1 p) m Z) Q E):Ws (Wt B.prog B.w) A (eval (aV (.neg i p1 p)) env) Q E s:=
 UnaryOp_ (adt (neg_int (F.ok (bM _ _ _) a.rel Ij)))
theorem uC{e:IE}(ST:SimT B r){f:Bool->St->R α}{RC:Heap->aG->α->β->Prop}{Q:β->Wl->Prop}{X:Addr->Prop}{Q':Wm->Wl->Prop}(S:SimE B r)(h:bj sc e=Wd)(a:At B A c sc m env V Z s.heap)(F:Fin B X RC V s ((o3 r c e m Z).bind f) Q E)
  (k:∀b Z1 V1 s1,Stp no V s V1 s1->At B A c sc m env V1 Z1 s1.heap->Fin B X RC V1 s1 (f b Z1) Q E->Q' (.bool b) s1):Ws (Wt B.prog B.w) A (eval (aV e) env) Q' E s:=by
 unfold o3 at F;have e1:∀{γ δ ε:Type}(x:R γ)(f:γ->St->R δ)(g:δ->St->R ε),(x.bind f).bind g=x.bind fun a Z=>(f a Z).bind g:=fun x f g=>by induction x<;>rfl
 rw[e1] at F;refine S.use h a F fun p Z1 V1 s1 v st i hv d=>?_
 induction p using Mine.P.casesOn with
 |bool b=>
  subst hv;exact k b Z1 V1 s1 st i d
 |_=>exact d.elim
theorem GS{e:IE}{p:Nat}(S:SimE B r)(ST:SimT B r)(d:bj sc (.not e p)=Wd)(a:At B A c sc m env V Z s.heap)(F:Fin B no (VR B) V s (aQ B.T r c (.not e p) m Z) Q E):Ws (Wt B.prog B.w) A (eval (aV (.not e p)) env) Q E s:=by
 exact UnaryOp_ (uC ST S d a F fun b Z1 V1 s1 st f g=>not_of (Yz (g.ok (.refl _ _ _) f.rel rfl)))
theorem GU{t b o:IE}{p:Nat}(S:SimE B r)(ST:SimT B r)(e:bj sc (.ite t b o p)=Wd)(a:At B A c sc m env V Z s.heap)(F:Fin B no (VR B) V s (aQ B.T r c (.ite t b o p) m Z) Q E):Ws (Wt B.prog B.w) A (eval (aV (.ite t b o p)) env) Q E s:=by
 have e:((bj sc t&&bj sc b) &&bj sc o)=Wd:=e;refine wpAny_IfExp (ST.use (aa (aa e)) a F fun z Z1 V1 s1 st d f=>?_)
 induction z using Wn with
 |true=>exact S _ _ _ _ _ _ _ _ _ _ _ (ay (aa e)) d.scr d.rel d.envr d.amb f
 |false=>exact S _ _ _ _ _ _ _ _ _ _ _ (ay e) d.scr d.rel d.envr d.amb f
end
theorem aT{γ δ ε:Type}(x:R γ)(f:γ->St->R δ)(g:δ->St->R ε):(x.bind f).bind g=x.bind fun a Z=>(f a Z).bind g:=by induction x<;>rfl
theorem pA(env:Env):∀es:List IE,evalEach (bw es) env=es.map fun e=>eval (aV e) env:=by
 intro a
 induction a with
 |nil=>
  exact rfl
 |cons e es b=>
  show eval (aV e) env::evalEach (bw es) env=_;rw[b];rfl
theorem xF(e:IE)(ar:List W3)(env:Env):Yl (aV e::ar) env=(We,eval (aV e) env)::Yl ar env:=by
 cases e<;>rfl
theorem eH(pos:Pos)(env:Env):∀es:List IE,aas pos (Yl (bw es) env)=es.map fun e=>(We,eval (aV e) env):=by
 intro a
 induction a with
 |nil=>
  exact rfl
 |cons e es b=>
  show aas pos (Yl (aV e::bw es) env)=_;rw[xF];show(We,eval (aV e) env)::aas pos (Yl (bw es) env)=_;rw[b];rfl
noncomputable def VRl(B:ao)(h:Heap)(V:aG):List P->List Wm->Prop
 | [],vs=>vs=[]
 |p::ps,vs=>∃v r,vs=v::r/\VR B h V p v/\VRl B h V ps r
theorem VRl.step{B:ao}{h h':Heap}{V V':aG}(k:Keep (own V) h h')(l:Le V h V'):∀{ps:List P}{vs:List Wm},VRl B h V ps vs->VRl B h' V' ps vs:=by
 intro ps
 induction ps with
 |nil=>exact fun x=>x
 |cons p ps c=>
  intro vs x;obtain⟨v,r,e,a,b⟩:=x;exact⟨v,r,e,a.step k l,c b⟩
theorem VRl.odd{B:ao}{h:Heap}{V:aG}:∀{ps:List P}{vs:List Wm},VRl B h V ps vs->ps.any P.isOdd=We->VRs B h V ps vs:=by
 intro ps
 induction ps with
 |nil=>exact fun x _=>x
 |cons p ps c=>
  intro vs x o;obtain⟨v,r,e,a,b⟩:=x;rw[Yf,WJ] at o;exact C0.mk v r e o.1 a (c b o.2)
theorem VRs.l{B:ao}{h:Heap}{V:aG}:∀{ps:List P}{vs:List Wm},VRs B h V ps vs->VRl B h V ps vs:=by
 intro ps
 induction ps with
 |nil=>exact fun x=>x
 |cons p ps c=>
  intro vs x;obtain⟨v,r,e,_,a,b⟩:=x;exact⟨v,r,e,a,c b⟩
theorem VRl.length{B:ao}{h:Heap}{V:aG}:∀{ps:List P}{vs:List Wm},VRl B h V ps vs->vs.length=ps.length:=by
 intro ps
 induction ps with
 |nil=>exact fun x=>x▸rfl
 |cons p ps a=>
  intro vs x;obtain⟨v,r,e,_,b⟩:=x;exact e▸congrArg acF (a b)
theorem VRs.length{B:ao}{h:Heap}{V:aG}{ps:List P}{vs:List Wm}(x:VRs B h V ps vs):vs.length=ps.length:=x.l.length
theorem bg{n:Nat}(h:aq n=Wd):n<=10000:=Wg h
theorem c4{n:Nat}(h:n<=10000):n<=Ys:=by rw[X0];exact Wj h (Wg rfl)
section
variable{α β:Type}{B:ao}{r:dN}{c:Cx}{m:VE}{Z Z1:St}{A:WN}{s s1:Wl}{V V1:aG}{env:Env}{sc:Sc}{Q:Wm->Wl->Prop}{E:Wm->Wl->Prop}
theorem SimE.evs(S:SimE B r){X:Addr->Prop}{RC:Heap->aG->α->β->Prop}{Q:β->Wl->Prop}{Q':List Wm->Wl->Prop}:∀(es:List IE){f:List P->St->R α}{Z:St}{s:Wl}{V:aG},bU sc es=Wd->
  At B A c sc m env V Z s.heap->Fin B X RC V s ((evs r c m es Z).bind f) Q E->
  (∀ps Z1 V1 s1 vs,Stp no V s V1 s1->At B A c sc m env V1 Z1 s1.heap->VRl B s1.heap V1 ps vs->ps.length=es.length->Fin B X RC V1 s1 (f ps Z1) Q E->Q' vs s1)->
  Ws (Wt B.prog B.w) A (ab4 (es.map fun e=>(We,eval (aV e) env))) Q' E s:=by
 intro es
 induction es generalizing Q' with
 |nil=>exact fun _ a F k=>acM (k [] _ _ _ [] (.refl _ _ _) a rfl rfl F)
 |cons e es h=>
  intro f Z s V b a F k;have b:(bj sc e&&bU sc es)=Wd:=b;rw[IR] at F;rw[aT] at F;refine ab5 (S.use (aa b) a F fun p Z1 V1 s1 v st i hv g=>?_);rw[aT] at g;refine h (ay b) i g fun ps Z2 j s2 vs d l bI n F2=>?_;exact k (p::ps) Z2 j s2 (v::vs) (st.trans d) l ⟨v,vs,rfl,hv.step d.k d.le,bI⟩ (by simp[n]) F2
theorem nM(h:Heap)(vs:List Wm):aaM (h.push {cls:=.type "tuple",data:=.seq vs.toArray}) h.objs.size vs.toArray:=⟨_,WW h rfl,rfl,_,rfl⟩
theorem sA(h:Heap)(vs:List Wm):(h.push {cls:=.type "list",data:=.seq vs.toArray}).IsList h.objs.size vs.toArray:=⟨_,WW h rfl,rfl,_,rfl⟩
theorem aC(h:Heap):h.get? h.objs.size=Wc:=Xf (Xk _)
theorem Rel.notOwn_size{h:Heap}(R:Rel B V Z h):¬own V h.objs.size:=fun q=>by
 obtain⟨o,e⟩:=R.has q;rw[aC] at e;exact aH e
theorem lA(a:At B A c sc m env V Z s.heap){ps:List P}{vs:List Wm}(hv:VRs B s.heap V ps vs)(tk:Tok):
  VR B (s.heap.push {cls:=.type "tuple",data:=.seq vs.toArray}) V (.tup ps) (.ref s.heap.objs.size):=by
 exact zP.mk _ vs rfl a.rel.notOwn_size (nM _ _) (VRs.step (bV (X:=no) V s _ tk).k (.refl _ _) ps hv)
theorem ik(a:At B A c sc m env V Z s.heap){ps:List P}{vs:List Wm}(hv:VRs B s.heap V ps vs)(tk:Tok):
  VR B (s.heap.push {cls:=.type "list",data:=.seq vs.toArray}) V (.list ps) (.ref s.heap.objs.size):=by
 exact CZ.mk _ vs rfl a.rel.notOwn_size (sA _ _) (VRs.step (bV (X:=no) V s _ tk).k (.refl _ _) ps hv)
theorem eI(b:aJ B)(a:At B A c sc m env V Z s.heap):XJ<s.heap.objs.size:=aeb (b.nolimit.keeps a.rel.base)
theorem Dc(b:aJ B)(a:At B A c sc m env V Z s.heap){X:Addr->Prop}{d:Bool}{ps:List P}{vs:List Wm}(hv:VRs B s.heap V ps vs)(F:Fin B X (VR B) V s (gY d ps Z) Q E):Ws (Wt B.prog B.w) A (newList vs) Q E s:=by
 unfold gY at F;refine Fin.y F fun hf F=>?_;refine adj ?_ (by rw[hv.length];exact c4 (bg hf))
 induction d using Wn with
 |false=>exact F.ok (bV V s _ s.toks) (a.rel.push _) (ik a hv s.toks)
 |true=>
  have h1:=aC s.heap;refine F.ok (V':=V++[Wb (s.heap.objs.size,s.heap.objs.size)]) ⟨.of_grow fun _ _ e=>Wr _ e,Le.snoc h1 h1,fun _ o e=>⟨o,Wr _ e,id⟩,rfl,rfl,rfl,fun _ _ _ e _ _=>Wr _ e,fun _ m _ n=>⟨m,n.push _⟩⟩ ?_ ?_
  ·refine a.rel.alloc (fun _ _ e=>Wr _ e) h1 h1 (eI b a) (eI b a) ⟨rfl,vs,0,WW _ rfl,?_⟩;exact VRs.step (.of_grow fun _ _ e=>Wr _ e) (Le.snoc h1 h1) ps hv
  ·refine J6 (.inl ⟨(s.heap.objs.size,s.heap.objs.size),?_,rfl⟩);rw[aK,<-a.rel.len];simp
theorem GV{es:List IE}{k p:Nat}(S:SimE B r)(b:bj sc (.tup es k p)=Wd)(a:At B A c sc m env V Z s.heap)(F:Fin B no (VR B) V s (aQ B.T r c (.tup es k p) m Z) Q E):Ws (Wt B.prog B.w) A (eval (aV (.tup es k p)) env) Q E s:=by
 have b:(bU sc es&&XQ es.length 1000)=Wd:=b;refine Tuple_ (show Ws _ _ (ab4 (aas _ (Yl (bw es) env))) _ _ _ from ?_);rw[eH];refine S.evs es (aa b) a F fun ps Z1 V1 s1 vs st e hv f d=>?_;refine Fin.n d fun g d=>?_;exact wpAny_newTuple (Fin.ok d (bV V1 s1 _ s1.toks) (e.rel.push _) (lA e (hv.odd g) s1.toks)) (by rw[hv.length,f,X0];exact Wj (Wg (ay b)) (Wg rfl))
theorem Dd{d:Bool}{es:List IE}{p:Nat}(f:aJ B)(S:SimE B r)(g:bj sc (.list d es p)=Wd)(a:At B A c sc m env V Z s.heap)(F:Fin B no (VR B) V s (aQ B.T r c (.list d es p) m Z) Q E):Ws (Wt B.prog B.w) A (eval (aV (.list d es p)) env) Q E s:=by
 refine List_ (show Ws _ _ (ab4 (aas _ (Yl (bw es) env))) _ _ _ from ?_);rw[eH];refine S.evs es (aa g) a F fun ps Z1 V1 s1 vs st h hv i b=>?_
 induction e:ps.any P.isOdd using Wn with
 |true=>rw[e] at b;exact b.elim
 |false=>rw[e] at b;exact Dc f h (hv.odd e) b
theorem sC{pos:Pos}{op:aaf}{x y:Sem Wm}{ar:List (Sem Wm)}{M:acN}(h:Ws M A x (fun v s1=>∃b,v=.bool b/\match op,b with|.And,We=>Q (.bool We) s1|.Or,Wd=>Q (.bool Wd) s1|_,_=>Ws M A (boolOp pos op (y::ar)) Q E s1) E s):
  Ws M A (boolOp pos op (x::y::ar)) Q E s:=by
 show Ws M A (x>>=_) Q E s;refine Wh (Xg h (fun v s1 h1=>?_) fun _ _ e=>e);clear h;obtain⟨b,rfl,h1⟩:=h1;refine Wh (W7 (Wh (W6 (Yz ?_))));clear x
 induction op<;>induction b<;>first|exact Wq h1|exact h1
theorem De(S:SimE B r)(ST:SimT B r){pos:Pos}{op:aaf}:∀(es:List IE){Z:St}{s:Wl}{V:aG},bU sc es=Wd->At B A c sc m env V Z s.heap->Fin B no (VR B) V s (rT r c m op es Z) Q E->
  Ws (Wt B.prog B.w) A (boolOp pos op (es.map fun e=>eval (aV e) env)) Q E s:=by
 intro es
 induction es with
 |nil=>exact fun _ _ F=>F.elim
 |cons e es h=>
  intro Z s V d a F;have d:(bj sc e&&bU sc es)=Wd:=d
  induction es using Wv with
  |nil=>exact uC ST S (aa d) a F fun b Z1 V1 s1 st f g=>g.ok (.refl _ _ _) f.rel rfl
  |cons i es=>
   refine sC (uC ST S (aa d) a F fun b Z1 V1 s1 st f g=>⟨b,rfl,?_⟩)
   induction op<;>cases b
   ·exact Fin.ok g (.refl _ _ _) f.rel rfl
   ·exact h (ay d) f g
   ·exact h (ay d) f g
   ·exact Fin.ok g (.refl _ _ _) f.rel rfl
theorem GW{op:aaf}{es:List IE}{p:Nat}(S:SimE B r)(ST:SimT B r)(b:bj sc (.bop op es p)=Wd)(a:At B A c sc m env V Z s.heap)(F:Fin B no (VR B) V s (aQ B.T r c (.bop op es p) m Z) Q E):Ws (Wt B.prog B.w) A (eval (aV (.bop op es p)) env) Q E s:=by
 show Ws _ _ (boolOp (ag p) op (evalEach (bw es) env)) _ _ _;rw[pA];exact De S ST es b a F
end
theorem eJ(x y:Nat)(t:Tok):Xm (af x) (.str (af y) t)=Wf y x:=by
 have:Xm (af x) (.str (af y) t)=decide (af x=af y):=by
  rw[<-abd];show((af y)==(af x))=_;by_cases h:af y=af x
  ·simp[h]
  ·have a:¬af x=af y:=fun e=>h e.symm;simp[h,a]
 rw[this];by_cases h:y=x
 ·subst h;simp[Wx]
 ·have h1:Wf y x=We:=by
   induction q:Wf y x using Wn with
   |true=>exact absurd (b9 q) h
   |false=>rfl
  exact h1▸(decide_eq_false fun e=>h (eX e).symm)
section
variable{B:ao}{h:Heap}{V:aG}
theorem ER.find(x:Nat):∀{es:List (Nat×P)}{a:List WY},ER B h V es a->match get x es with
  |some p=>p.isOdd=We/\∃v,abe Xm a.toArray (af x)=Wb v/\VR B h V p v
  |none=>abe Xm a.toArray (af x)=Wc:=by
 intro i
 induction i with
 |nil=>
  intro a e;cases e;rfl
 |cons c es j=>
  intro a e;obtain⟨d,r,rfl,_,⟨t,k⟩,l,hv,m⟩:=e;have f:=j m;rw[j3];have b:Xm (af x) d.key=Wf c.1 x:=k▸(eJ x c.1 t);unfold abe at f ⊢;rw[abf] at f ⊢
  induction g:Wf c.1 x using Wn with
  |true=>
   rw[List.find?_cons_of_pos (by rw[b,g])];exact⟨l,_,rfl,hv⟩
  |false=>
   rw[List.find?_cons_of_neg (by rw[b,g];exact Xr)];exact f
theorem ER.keys{x:Nat}:∀{es:List (Nat×P)}{a:List WY},ER B h V es a->∀e∈a,∃y t,e.key=.str (af y) t/\e.hash=W4 B.w.params (af y):=by
 intro es
 induction es with
 |nil=>exact fun e=>e▸fun _ h=>absurd h WA
 |cons c es b=>
  intro a e;obtain⟨d,r,e1,f,⟨t,g⟩,_,_,i⟩:=e;intro e he;rcases Ww.mp (e1▸he) with z|he
  ·exact z▸⟨c.1,t,g,f⟩
  ·exact b i e he
theorem ER.mapOf{es:List (Nat×P)}{b:List WY}{n:Nat}{a:Addr}(g:h.get? a=Wb (XE b n))(e:ER B h V es b):h.MapOf (strKind B.prog B.w) a (fun k=>abe Xm b.toArray k):=
 ⟨_,_,_,g,⟨rfl,rfl,rfl⟩,rfl,fun d hd=>by
  obtain⟨y,t,e1,e2⟩:=e.keys (x:=0) d (aaN.mpr hd);exact⟨af y,by rw[e1];exact YR B.prog B.w (af y) t,e2⟩,fun _=>rfl⟩
theorem ER.refKey:∀{es:List (Nat×P)}{a:List WY},ER B h V es a->a.any (·.refKey)=We:=by
 intro b
 induction b with
 |nil=>
  intro a e;cases e;rfl
 |cons c es f=>
  obtain⟨y,p⟩:=c;intro a e;dsimp only[ER] at e;obtain⟨d,r,rfl,j,⟨t,g⟩,_,_,i⟩:=e;rw[Yf,f i,adh];show d.refKey=We;unfold WY.refKey;rw[g]
theorem ER.getL(x:Nat):∀{es:List (Nat×P)}{a:List WY},ER B h V es a->match get x es with
  |some p=>p.isOdd=We/\∃v,getL (af x) a=Wb (Wb v)/\VR B h V p v
  |none=>ae2 (af x) a=Wb Wc:=by
 intro es a e;have q:=ER.find x e;unfold abe at q;rw[abf] at q;have e2:(fun e:WY=>Xm (af x) e.key)=fun e=>e.key.isStr (af x):=funext fun e=>(abd (af x) e.key).symm;rw[e2] at q;unfold ae2
 induction b:Mine.get x es using Wo with
 |none=>
  rw[b] at q;dsimp only at q ⊢;cases hf:afo (fun e:WY=>e.key.isStr (af x)) a with
  |none=>simp[(ER.refKey e)]
  |some d=>rw[hf] at q;exact rG q
 |some p=>
  obtain⟨c,v,hv,f⟩:=(b▸q);cases hf:afo (fun e:WY=>e.key.isStr (af x)) a with
  |none=>rw[hf] at hv;exact aH hv
  |some d=>rw[hf] at hv;cases hv;exact⟨c,_,rfl,f⟩
end
theorem uD:("super" :Str)=af dw:=by decide+kernel
theorem pZ{x:Nat}{p1 p:Pos}{n:Str}{env:Env}{w:Sem Wm}(b:(!Wf x dw)=Wd){as:List IE}:
  attributeBase (.Call (.Name (af x) p1) (bw as) [] p) n env w=w:=by
 induction as using Wv with
 |nil=>
  have b:x≠dw:=fun e=>by subst e;simp at b
  have e:(af x !=("super" :Str))=Wd:=by rw[uD];simp[ig b]
  exact if_pos (by rw[e];rfl)
 |cons a r=>rfl
theorem fY{sc:Sc}{n:Str}{env:Env}{w:Sem Wm}(e:IE):bj sc e=Wd->attributeBase (aV e) n env w=w:=by
 induction e using Mine.IE.casesOn with
 |call x p1 a as p=>exact fun h=>pZ (ay (aa (aa (show((((eP sc x&&ng x) &&!Wf x dw) &&bU sc as) &&XQ as.length 20)=Wd from h))))
 |callv x p1 p=>exact fun h=>pZ (as:=[]) (ay (show((m8 sc x&&ng x) &&!Wf x dw)=Wd from h))
 |_=>exact fun _=>rfl
section
variable{α β:Type}{B:ao}{r:dN}{c:Cx}{m:VE}{Z Z1:St}{A:WN}{s s1:Wl}{V V1:aG}{env:Env}{sc:Sc}{Q:Wm->Wl->Prop}{E:Wm->Wl->Prop}
theorem VR.handed{h:Heap}:∀{p:P}{v:Wm},VR B h V p v->acI v=Wd
 |.none,v,x=>by subst x;rfl
 |.bool _,v,x=>by subst x;rfl
 |.int _,v,x=>by obtain⟨_,rfl⟩:=x;rfl
 |.str _,v,x=>by obtain⟨_,rfl⟩:=x;rfl
 |.tup _,v,x=>by obtain⟨_,_,rfl,_⟩:=x;rfl
 |.list _,v,x=>by obtain⟨_,_,rfl,_⟩:=x;rfl
 |.ref _,v,x=>by obtain⟨_,rfl,_⟩:=x;rfl
 |.glob _,v,x=>by exact x.2.1
 |.clo _ _ _ _,v,x=>by obtain⟨_,_,_,rfl,_⟩:=x;rfl
 |.exc _ _ _,v,x=>by obtain⟨_,_,_,_,_,_,_,rfl,_⟩:=x;rfl
theorem lC{h:Heap}{C x a:Addr}{b:List WY}{n:Nat}(h1:h.get? x=Wb (ab3 C a))(c:h.get? a=Wb (XE b n)):InstAt h x (ab3 C a) C (Wb (XE b n)):=⟨h1,rfl,rfl,c⟩
theorem xG(b:aJ B)(a:At B A c sc m env V Z s.heap){n C:Nat}{fs:List (Nat×P)}{v:Wm}(hv:VR B s.heap V (.ref n) v)(e:ai Z n=Wb (.inst C fs)){x:Nat}{p:P}(hf:B.T.fld C x=Wd)(f:get x fs=Wb p){expr:Bool}
  (h:∀w,VR B s.heap V p w->p.isOdd=We->Q w {s with toks:=s.toks+1}):Ws (Wt B.prog B.w) A (ae3 v (af x) expr) Q E s:=by
 obtain⟨cc,e1,rfl,_,g,y,k,i,er,hc⟩:=a.rel.ref hv e (by simp);obtain⟨j,l,⟨attr,o,r⟩,_⟩:=b.fld C x hf hc;have q:=er.getL x;rw[f] at q;obtain⟨t,w,u,d⟩:=q;exact aeU (b.X.keeps a.rel.base) (lC g i) j (abv l o r (by rw[lookIn_dict];exact u)) d.handed (h w d t)
end
section
variable{prog:Yi}{w:Y6}{A:WN}{E:Wm->Wl->Prop}{s:Wl}
theorem nN{a:Addr}{name:Str}{v:Wm}{es:List WY}{n:Nat}{Q:Unit->Wl->Prop}(D:s.heap.get? a=Wb (XE es n))(d:(getL name es).isSome=Wd)
  (h:∀h',(∀b o,s.heap.get? b=Wb o->b≠a->h'.get? b=Wb o)->h'.get? a=Wb (XE (putL name (W4 w.params name) (.str name s.toks) v es) (putN name es n))->Q () {s with heap:=h',toks:=s.toks+1}):
  Ws (Wt prog w) A (nsSet a name v) Q E s:=by
 have f:afh name (W4 w.params name) (.str name s.toks) v (XE es n)=XE (putL name (W4 w.params name) (.str name s.toks) v es) (putN name es n):=putName_dict ..;have i:(s.heap.update a (afh name (W4 w.params name) (.str name s.toks) v)).get? a=Wb (XE (putL name (W4 w.params name) (.str name s.toks) v es) (putN name es n)):=by
  rw[XM _ D (f▸rfl),f]
 have c:(!es.toArray.any (·.key.isStr name) &&es.toArray.any (·.refKey))=We:=by
  rw[adV,adV];unfold getL at d;split at d
  ·rename_i j g;have:es.any (·.key.isStr name)=Wd:=YK.mpr ⟨j,List.mem_of_find?_eq_some g,List.find?_some (p:=fun x:WY=>x.key.isStr name) g⟩;rw[this];rfl
  ·split at d
   ·exact dg d
   ·rename_i z;rw[adW] at z;rw[z,aat]
 unfold nsSet;refine Wh (Wh (abQ (Wq (Wh (wpAny_mkText (Wh (abg D ?_)))))));dsimp only;rw[aRefKeyMayBeTheName_at,c];refine wpAny_updatePart D ?_;exact h _ (fun b o e z=>by rw[Xd _ _ (Ne.symm z)];exact e) i
theorem uE{K:Frag}{x c C:Addr}{name:Str}{v:Wm}{es:List WY}{n:Nat}{Q:Unit->Wl->Prop}(X:K.In s.heap)(d:s.heap.get? x=Wb (ab3 C c))(D:s.heap.get? c=Wb (XE es n))
  (hs:X4 K (.ref C) "__setattr__" =Wb (Wb (.builtin "object.__setattr__"))) (hp:aeT K C=Wd) (ht:aa2 K C name=Wb Wc) (e:ac4 K C=Wd)
  (f:(getL name es).isSome=Wd) (hz:(putL name (W4 w.params name) (.str name (s.toks+1)) v es).length<=Ys+1)
  (h:∀h',(∀b o,s.heap.get? b=Wb o->b≠c->h'.get? b=Wb o)->h'.get? c=Wb (XE (putL name (W4 w.params name) (.str name (s.toks+1)) v es) (putN name es n))->Q () {s with heap:=h',toks:=s.toks+2}):
  Ws (Wt prog w) A (aep (.ref x) name v) Q E s:=by
 have I:=lC d D;obtain⟨cd,hc,g⟩:=any_some e;refine aeV X I hs (osa_open (s:={s with toks:=s.toks+1}) X I hp ht fun b=>?_);refine Wh (Wq (Wh (Wh (abg d (Wh (aex (s:={s with toks:=s.toks+1}) (acO X hc) ?_))))));rw[g];refine Wq (a:=Wb c) (Wh (Wq (Wh ?_)));refine nN (s:={s with toks:=s.toks+1}) D f fun h' i k2=>?_;refine Wh (abR k2 (show abS (.dict (putL name (W4 w.params name) (.str name (s.toks+1)) v es).toArray _)=Wc from abT (by rw[WP];exact hz)) ?_);exact Wq (h h' i k2)
end
section
variable{prog:Yi}{w:Y6}{A:WN}{E:Wm->Wl->Prop}{s:Wl}
theorem sD{K:Frag}{x C:Addr}{c b:Obj}{name:Str}{v:Wm}{expr:Bool}{Q:Wm->Wl->Prop}(X:K.In s.heap)(I:InstAt s.heap x c C (Wb b))(f:X4 K (.ref C) "__getattribute__" =Wb (Wb (.builtin "BaseException.__getattribute__")))
  (i:X4 K (.ref C) "__getattr__" =Wb Wc) (hf:findObj K C (Wb b) name=Wb (.value v)) (j:subIn K (.ref C) (.type "BaseException")=Wb Wd) (hv:acI v=Wd) (h:Q v {s with toks:=s.toks+1}):
  Ws (Wt prog w) A (ae3 (.ref x) name expr) Q E s:=by
 obtain⟨m,g,d,t,os⟩:=s;have a:=I.type (M:=Wt prog w);have k:=aau (M:=Wt prog w) X f;have l:=looks_find (M:=Wt prog w) X I hf;have S:=PySem.F.attrBase_Exception.ga;unfold ae3 getAttrBy;refine Wh (wpAny_mkText (W6 (Wh (a.at (Wh (k.at ?_))))));show Ws _ _ (aej (.ref x) (.str name t) (.ref C) (.builtin "BaseException.__getattribute__") Wd expr) _ _ _;unfold aej;refine Wh (show Ws _ _ (ab6 (.ref C) "__getattr__") _ _ _ from(aau (M:=Wt prog w) X i).at ?_);refine Wh (wpAny_attempt (W6 ?_));have e:callGetattribute (.ref x) (.str name t) (.builtin "BaseException.__getattribute__") expr=boundAndCalled (.builtin "BaseException.__getattribute__") (.ref x) (.str name t):=by induction expr<;>rfl
 rw[e];unfold boundAndCalled;rw[S.bind];refine Wh (Wq (aah ?_));refine aaO S.plain PySem.F.entry_bexc_ga (@check_slot (Wt prog w) _ _ _ "BaseException.__getattribute__" "BaseException" "__getattribute__" (.ref x) [.str name t] [] _ (by decide+kernel) (by decide+kernel) (a.andThen (looks_subIn X j)) (PySem.F.args_bexc_ga (.ref x) (.str name t)) ?_);unfold ae4.«object.__getattribute__»;refine Wh (Wq (Wh (Wq (Wh (a.at (Wh (l.at ?_)))))));refine Wq ?_;show Ws _ _ (handedOut v) _ _ _;rw[handedOut_of hv];exact Wq h
end
section
variable{α β:Type}{B:ao}{r:dN}{c:Cx}{m:VE}{Z Z1:St}{A:WN}{s s1:Wl}{V V1:aG}{env:Env}{sc:Sc}{Q:Wm->Wl->Prop}{E:Wm->Wl->Prop}
theorem Df(q:aJ B)(a:At B A c sc m env V Z s.heap){p w:P}{v:Wm}(hv:VR B s.heap V p v){x:Nat}(b:rS B.T Z p x=Wb w){expr:Bool}
  (h:∀r,VR B s.heap V w r->Q r {s with toks:=s.toks+1}):Ws (Wt B.prog B.w) A (ae3 v (af x) expr) Q E s:=by
 induction p using Mine.P.casesOn with
 |ref n=>
  refine bS (show(w4 (ai Z n)).bind (fun C=>cond (B.T.fld C.1 x) (get x C.2) Wc)=Wb w from b) fun C J b=>?_
  induction hf:B.T.fld C.1 x using Wn with
  |false=>rw[hf] at b;exact aH b
  |true=>rw[hf] at b;exact xG q a hv (yR J) hf b fun r L _=>h r L
 |exc C z M=>
  replace b:(cond (!B.T.fld C x) Wc<|cond (Wf x aj) (Wb (.str z)) (cond (Wf x aM) (Wb M) Wc))=Wb w:=b
  induction hf:B.T.fld C x using Wn with
  |false=>rw[hf] at b;exact aH b
  |true=>
   rw[hf] at b;obtain⟨ad,d,vs,D,n,sl,sd,rfl,N,nd,t,u,⟨F,y⟩,O,hs,i⟩:=hv;have X:B.K.In s.heap:=q.X.keeps a.rel.base;clear a N nd
   induction hc:(B.T.cls C).isSome using Wn with
   |true=>
    obtain⟨j,k,⟨attr,l,o⟩,_⟩:=q.fld C x hf hc;have I:InstAt s.heap ad ⟨.ref (B.cA C),Wb d,.fields vs,sl⟩ (B.cA C) (Wb {XE D n with slots:=sd}):=⟨t,rfl,rfl,u⟩;clear hf t u hc
    induction f:Wf x aj using Wn with
    |true=>
     rw[f] at b;cases b;have e:=b9 f;clear hs i f;subst e;exact aeU X I j (abv k l o y) rfl (h _ GN)
    |false=>
     rw[f] at b;clear y f
     induction g:Wf x aM using Wn with
     |true=>
      rw[g] at b;cases b;have e:=b9 g;clear z F g;subst e;exact aeU X I j (abv k l o hs) i.handed (h _ i)
     |false=>rw[g] at b;exact aH b
   |false=>
    obtain⟨j,k,⟨attr,l,o⟩,G,H⟩:=q.xfld C x hf hc;have I:InstAt s.heap ad ⟨.ref (B.cA C),Wb d,.fields vs,sl⟩ (B.cA C) (Wb {XE D n with slots:=sd}):=⟨t,rfl,rfl,u⟩;clear hf t u hc
    induction f:Wf x aj using Wn with
    |true=>
     rw[f] at b;cases b;have e:=b9 f;clear hs i f;subst e;exact sD X I j G (abv k l o y) H rfl (h _ GN)
    |false=>
     rw[f] at b;clear y f
     induction g:Wf x aM using Wn with
     |true=>
      rw[g] at b;cases b;have e:=b9 g;clear z F g;subst e;exact sD X I j G (abv k l o hs) H i.handed (h _ i)
     |false=>rw[g] at b;exact aH b
 |_=>exact aH b
theorem Dg{e:IE}{x p:Nat}(f:aJ B)(S:SimE B r)(b:bj sc (.attr e x p)=Wd)(a:At B A c sc m env V Z s.heap)(F:Fin B no (VR B) V s (aQ B.T r c (.attr e x p) m Z) Q E):Ws (Wt B.prog B.w) A (eval (aV (.attr e x p)) env) Q E s:=by
 have b:bj sc e=Wd:=b;show Ws _ _ (eval (.Attribute (aV e) (af x) (ag p)) env) _ _ _;rw[arm_eval_Attribute,fY e b];refine Wh (S.use b a F fun q Z1 V1 s1 v st d hv g=>Wh (W7 (Wh (W6 ?_))));obtain⟨w,h,F2⟩:=Fin.ofO g;exact Df f d hv h fun i b=>Wh (wpAny_letTemporaryGo (Wq (F2.ok (bM _ _ _) d.rel b)))
theorem Ob(j:Nat): -(2 ^ 63)<=(j:Int):=adG (show -(2 ^ 63)<=(0:Int) by decide) (Yr j)
theorem Kc{j:Nat}(h:j<4611686018427387904):(j:Int) <2 ^ 63:=aa1.mpr (YQ h (Wg rfl))
theorem rc{k:Int}{n j:Nat}(h:tM k n=Wb j):seqIndex? k n=Wb j/\ -(2 ^ 63)<=k/\k<2 ^ 63/\((0<=k/\k<n/\j=k.toNat)\/(k<0/\ -(n:Int)<=k/\j=(k+n).toNat)):=by
 unfold tM at h;split at h
 ·rename_i i
  induction a:(WR i n&&WR i 4611686018427387904) using Wn with
  |false=>rw[a] at h;exact aH h
  |true=>
   rw[a] at h;cases h;have h1:j<n:=Wg (aa a);have b:j<4611686018427387904:=Wg (ay a);refine⟨?_,Ob j,Kc b,.inl ⟨by show(0:Int)<=(j:Int);exact Yr _,by show(j:Int) <n;exact aa1.mpr h1,rfl⟩⟩;have:=seqIndex_of (k:=(j:Int)) (n:=n) (by exact Yr _) (by exact aa1.mpr h1);rw[show YJ j=(j:Int) from rfl,this];simp
 ·rename_i i
  induction a:(WR i n&&WR i 4611686018427387904) using Wn with
  |false=>rw[a] at h;exact aH h
  |true=>
   rw[a] at h;have h:=Wi h;have h1:i<n:=Wg (aa a);have b:i<4611686018427387904:=Wg (ay a);refine⟨?_,adG (show -(2 ^ 63)<= -((4611686018427387904:Nat):Int) by decide) (show -((4611686018427387904:Nat):Int)<= -((i+1:Nat):Int) from acP (ab7.mpr b)),Int.lt_trans (aaY i) (show(0:Int) <2 ^ 63 by decide),.inr ⟨aaY i,acP (ab7.mpr h1),h.symm.trans (congrArg Int.toNat (ada h1)).symm⟩⟩;rw[seqIndex_neg (k:=afi i) (n:=n) (aaY i) (acP (ab7.mpr h1))];exact congrArg Wb ((congrArg Int.toNat (ada h1)).trans h)
theorem VRs.at{h:Heap}{ps:List P}{vs:List Wm}(x:VRs B h V ps vs){j:Nat}{p:P}(e:ai ps j=Wb p):∃v,vs[j]?=Wb v/\VR B h V p v/\p.isOdd=We:=by
 induction ps generalizing vs j with
 |nil=>exact aH e
 |cons q r c=>
  obtain⟨v,t,rfl,o,a,b⟩:=x
  induction j with
  |zero=>obtain rfl:=Wi e;exact⟨v,rfl,a,o⟩
  |succ j=>exact c b e
theorem kG(a:At B A c sc m env V Z s.heap){p:P}{l:List P}{v:Wm}(hv:VR B s.heap V p v)(hs:c7 Z p=Wb l):∃ad vs,v=.ref ad/\VRs B s.heap V l vs/\(aaM s.heap ad vs.toArray\/s.heap.IsList ad vs.toArray):=by
 induction p using Mine.P.casesOn with
 |tup=>obtain⟨ad,vs,rfl,_,t,q⟩:=hv;exact⟨ad,vs,rfl,Wi hs▸q,.inl t⟩
 |list=>obtain⟨ad,vs,rfl,_,t,q⟩:=hv;exact⟨ad,vs,rfl,Wi hs▸q,.inr t⟩
 |ref n=>
  obtain⟨cc,e1,rfl,_,vs,k,g,q⟩:=a.rel.ref hv (iF hs) nofun
  exact⟨cc.1,vs,rfl,q,.inr ⟨_,g,rfl,_,rfl⟩⟩
 |_=>exact aH hs
theorem wq(n:Nat):(af n).cps=(bA n).toArray:=rfl
theorem zT(k c:Nat)(h:c<256)(h0:c≠0):kZ (k+1) c=[c]:=by
 rw[mP];have:Wf c 0=We:=by cases q:Wf c 0 with|true=>exact absurd (b9 q) h0|false=>rfl
 rw[this];show adA c 256::kZ k (aaZ c 256)=_;have e1:adA c 256=c:=adX h;have e2:aaZ c 256=0:=abU h;rw[e1,e2]
 induction k<;>rfl
theorem Dh:∀(k n:Nat),∀c∈kZ k n,c<256:=by
 intro b
 induction b with
 |zero=>
  intro n c h;exact nomatch h
 |succ k d=>
  intro n c h;rw[mP] at h
  induction a:Wf n 0 using Wn with
  |true=>rw[a] at h;exact nomatch h
  |false=>
   rw[a] at h;rcases Ww.mp h with rfl|h
   ·exact aey _ (by decide)
   ·exact d _ c h
theorem uF{n c:Nat}(h:c∈bA n):c<256:=Dh _ _ c h
theorem wr{c:Nat}(h:c<256)(h0:c≠0):bA c=[c]:=zT _ c h h0
theorem wu{c:Nat}(h:c<256)(h0:c≠0):af c=⟨#[c]⟩:=by
 show(⟨(bA c).toArray⟩:Str)=_;rw[wr h h0]
end
section
variable{α β:Type}{B:ao}{r:dN}{c:Cx}{m:VE}{Z Z1:St}{A:WN}{s s1:Wl}{V V1:aG}{env:Env}{sc:Sc}{Q:Wm->Wl->Prop}{E:Wm->Wl->Prop}
theorem nO(l:List Wm)(j:Nat){v:Wm}(h:l[j]?=Wb v):l.toArray[j]?=Wb v:=by simpa using h
theorem sE{ad:Addr}{vs:List Wm}{k:Int}{t:Tok}{j:Nat}{v:Wm}(ht:aaM s.heap ad vs.toArray\/s.heap.IsList ad vs.toArray)(b:tM k vs.length=Wb j)(a:vs[j]?=Wb v)(h:Q v s):
  Ws (Wt B.prog B.w) A (aeq (.ref ad) (.int k t)) Q E s:=by
 obtain⟨e1,e2,e3,c⟩:=rc b;clear b;rcases ht with ht|ht
 ·exact getItem_tuple ht e2 e3 (by rw[WP];exact e1) (nO _ _ a) h
 ·rcases c with⟨h0,e,rfl⟩|⟨h0,d,rfl⟩
  ·exact wpAny_getItem_list ht h0 e3 (nO _ _ a) h
  ·exact wpAny_getItem_list_neg ht h0 (by rw[WP];exact d) e2 (by rw[WP];exact nO _ _ a) h
theorem uG(z:aJ B)(a:At B A c sc m env V Z s.heap){p i w:P}{v iv:Wm}(hv:VR B s.heap V p v)(u:VR B s.heap V i iv)(b:oZ Z p i=Wb w)
  (h:∀f tk,VR B s.heap V w f->Q f {s with toks:=tk}):Ws (Wt B.prog B.w) A (aeq v iv) Q E s/\∃T id,s.TypeIs v T/\ab6 (.type T) "__getitem__" =pure (Wb (.builtin id)):=by
 have y:∀{k:Int},BP Z p k=Wb w->i=.int k->Ws (Wt B.prog B.w) A (aeq v iv) Q E s/\∃T id,s.TypeIs v T/\ab6 (.type T) "__getitem__" =pure (Wb (.builtin id)):=by
  intro k d J;clear z b;subst J;refine bS d fun l C d=>bS d fun j o d=>?_;obtain⟨t,rfl⟩:=u;obtain⟨ad,vs,rfl,bI,ht⟩:=kG a hv C;clear a hv C;obtain⟨x,D,G,_⟩:=bI.at d;refine⟨sE ht (bI.length▸o) D (h x s.toks G),?_⟩;clear o d t bI D G;rcases ht with ht|ht
  ·exact⟨_,_,ht.typeIs,aaA.lookup⟩
  ·exact⟨_,_,ht.typeIs,abV.lookup⟩
 clear z
 induction i using Mine.P.casesOn with
 |int k=>
  clear a
  induction p using Mine.P.casesOn with
  |str x=>
   clear y;obtain⟨K,rfl⟩:=hv;obtain⟨tk,rfl⟩:=u;refine bS (show IP x k=Wb w from b) fun j o b=>bS b fun cc hc b=>?_
   induction h0:Wf cc 0 using Wn with
   |true=>exact aH (show Wc=Wb w by rw[h0] at b;exact b)
   |false=>
    rw[h0] at b;obtain⟨e1,e2,e3,_⟩:=rc o;rw[aK] at hc;have L:cc≠0:=fun e=>by subst e;exact gB h0
    refine⟨?_,_,_,abh s _ K,abB.lookup⟩;refine P.getItem_str (c:=cc) (by simp only[WJ,decide_eq_false_iff_not];exact⟨Int.not_lt.mpr e2,Int.not_le.mpr e3⟩) ?_ (h _ _ (by rw[<-Wi b];exact⟨_,by rw[wu (uF (X1 hc)) L]⟩));rw[kF,show len x=len x from rfl,e1];simpa [wq] using hc
  |_=>exact y b rfl
 |str x=>
  refine bS b fun n H b=>bS b fun es r b=>?_;clear y;obtain⟨ep,r⟩:=tV r;rw[P.r_is H] at hv;clear H;obtain⟨t,rfl⟩:=u;obtain⟨cc,e1,rfl,_,O,k,g,er,_⟩:=a.rel.ref hv r (by simp);have I:=er.mapOf g;have q:=er.find x;rw[b] at q;clear b r e1 g er;obtain⟨_,f,M,N⟩:=q;exact⟨wpAny_getItem_of (YR B.prog B.w (af x) t) I M (h f _ N),_,_,I.typeIs,PySem.F.slot_dict_getitem.lookup⟩
 |_=>exact aH b
theorem uH:∀(e:IE)(o i:Wm),subscripted (aV e) We o i=operate [o,i] (aeq o i):=by
 intro e o i;cases e<;>rfl
theorem GX{o i:IE}{p:Nat}(f:aJ B)(S:SimE B r)(b:bj sc (.sub o i p)=Wd)(a:At B A c sc m env V Z s.heap)(F:Fin B no (VR B) V s (aQ B.T r c (.sub o i p) m Z) Q E):Ws (Wt B.prog B.w) A (eval (aV (.sub o i p)) env) Q E s:=by
 have b:(bj sc o&&bj sc i)=Wd:=b;refine Subscript_ (S.use (aa b) a F fun q Z1 V1 s1 v st h hv l=>S.use (ay b) h l fun j Z2 y s2 iv d e n F2=>?_);obtain⟨w,t,u⟩:=Fin.ofO F2;obtain⟨g,T,id,h1,x⟩:=uG (Q:=Q) (E:=E) f e (hv.step d.k d.le) n t fun z tk b=>u.ok (bM _ _ _) e.rel b;exact aez h1 x g (uH i v iv)
end
section
variable{α β:Type}{B:ao}{r:dN}{c:Cx}{m:VE}{Z Z1:St}{A:WN}{s s1:Wl}{V V1:aG}{env:Env}{sc:Sc}{Q:Wm->Wl->Prop}{E:Wm->Wl->Prop}
noncomputable def VRo(B:ao)(h:Heap)(V:aG):Option P->Wm->Prop
 |none,v=>v=.none
 |some p,v=>VR B h V p v
theorem VRo.step{h h':Heap}{V':aG}(k:Keep (own V) h h')(l:Le V h V'):∀{p:Option P}{v:Wm},VRo B h V p v->VRo B h' V' p v
 |none,_,x=>x
 |some p,_,x=>VR.step k l p x
theorem SimE.evo(S:SimE B r){X:Addr->Prop}{RC:Heap->aG->α->β->Prop}{Q:β->Wl->Prop}{Q':Wm->Wl->Prop}{e:Option IE}{f:Option P->St->R α}(b:HZ sc e=Wd)(a:At B A c sc m env V Z s.heap)(F:Fin B X RC V s ((Mine.evo r c m e Z).bind f) Q E)
  (k:∀p Z1 V1 s1 v,Stp no V s V1 s1->At B A c sc m env V1 Z1 s1.heap->VRo B s1.heap V1 p v->Fin B X RC V1 s1 (f p Z1) Q E->Q' v s1):Ws (Wt B.prog B.w) A (evalPart (Ii e) env) Q' E s:=by
 induction e using Wo with
 |none=>exact Wq (k Wc Z V s _ (.refl _ _ _) a rfl F)
 |some e=>
  unfold Mine.evo at F;rw[aT] at F;exact S.use (show bj sc e=Wd from b) a F fun q Z1 V1 s1 v st d hv g=>k (Wb q) Z1 V1 s1 v st d hv g
theorem nP(a b:Option W3)(p:Pos)(o i:Wm):subscripted (.Slice a b Wc p) We o i=operate [i,o] (aeq o i):=rfl
theorem Di(i:Int)(n:Nat):clipAt n i=BO i n:=by
 unfold BO;split
 ·rename_i k;show clipAt n (k:Int)=_;rw[clipAt_nat]
  induction h:WR k n using Wn with
  |true=>have:=Wg h;exact aei (abw this)
  |false=>
   have:¬k<n:=fun q=>by have:=Wy q;unfold WR at h;exact gB (this.symm.trans h)
   exact Nat.min_eq_right (Yq this)
 ·rename_i k;rw[show afi k= -((k+1:Nat):Int) from rfl,clipAt_neg n (k+1) (by exact XU _)]
  induction h:WR k n using Wn with
  |true=>rfl
  |false=>
   have:¬k<n:=fun q=>by have:=Wy q;unfold WR at h;exact gB (this.symm.trans h)
   exact acq (abt (Yq this))
theorem end_is{h:Heap}{p:Option P}{v:Wm}{n d e:Nat}(hv:VRo B h V p v)(a:Ft n d p=Wb e):∃k,IsPart v k/\e=k.elim d (clipAt n):=by
 cases p with
 |none=>
  obtain rfl:=Wi a;have:v=.none:=hv;clear hv a;subst this;exact⟨Wc,.none,rfl⟩
 |some p=>induction p using Mine.P.casesOn with
 |int i=>
  have a:cond (j4 i) (Wb (BO i n)) Wc=Wb e:=a
  induction hs:j4 i using Wn with
  |false=>rw[hs] at a;exact aH a
  |true=>
   rw[hs] at a;cases a;clear hs;obtain⟨t,rfl⟩:=hv;exact⟨Wb i,.int i t,(Di i n).symm⟩
 |_=>exact aH a
theorem VRs.drop{h:Heap}:∀(n:Nat){ps:List P}{vs:List Wm},VRs B h V ps vs->VRs B h V (ps.drop n) (vs.drop n):=by
 intro n
 induction n with
 |zero=>exact fun x=>x
 |succ n a=>
  intro ps vs x
  induction ps using Wv with
  |nil=>exact x▸rfl
  |cons p ps=>
   obtain⟨v,r,e,_,_,b⟩:=x;exact e▸a b
theorem VRs.take{h:Heap}:∀(n:Nat){ps:List P}{vs:List Wm},VRs B h V ps vs->VRs B h V (ps.take n) (vs.take n):=by
 intro n
 induction n with
 |zero=>exact fun _=>rfl
 |succ n a=>
  intro ps vs x
  induction ps using Wv with
  |nil=>exact x▸rfl
  |cons p ps=>
   obtain⟨v,r,e,o,q,b⟩:=x;exact e▸vrC o q (a b)
theorem Dj(a:At B A c sc m env V Z s.heap){p:P}{l:List P}{v:Wm}(hv:VR B s.heap V p v)(hs:c7 Z p=Wb l)(b:∀d,p=.tup d->False):∃ad vs,v=.ref ad/\VRs B s.heap V l vs/\s.heap.IsList ad vs.toArray:=by
 induction p using Mine.P.casesOn with
 |tup=>exact(b _ rfl).elim
 |list=>obtain⟨ad,vs,rfl,_,t,q⟩:=hv;exact⟨ad,vs,rfl,Wi hs▸q,t⟩
 |ref n=>
  obtain⟨cc,e1,rfl,_,vs,k,g,q⟩:=a.rel.ref hv (iF hs) nofun
  exact⟨cc.1,vs,rfl,q,⟨_,g,rfl,_,rfl⟩⟩
 |_=>exact aH hs
inductive Oc(x:Nat):Option P->Option P->P->Prop
 |mk(k:Nat)(ks:List Nat)(hd:bA x=k::ks)(a:k≠0):Oc x Wc (Wb (.int (.ofNat 1))) (.str k)
theorem xH{x:Nat}{l u:Option P}{w:P}(h:tX x l u=Wb w):Oc x l u w:=by
 rcases l with _|l
 ·rcases u with _|(_|_|((_|_|k) |k) |_|_|_|_|_|_|_)<;>try exact aH h
  replace h:tX.s1 (bA x)=Wb w:=h;generalize hd:bA x=a at h
  induction a using Wv with
  |nil=>exact aH h
  |cons k ks=>
   induction k with
   |zero=>exact aH h
   |succ k=>rw[<-Wi h];exact⟨_,ks,hd,Yc k⟩
 ·rcases l with _|_|((_|_|k) |k) |_|_|_|_|_|_|_<;>exact aH h
inductive Od(t:List P):Option P->Option P->P->Prop
 |mk(n:Nat)(h:(XQ (n+1) t.length&&aq t.length)=Wd):Od t (Wb (.int (.ofNat (n+1)))) Wc (.tup (t.drop (n+1)))
theorem xI{t:List P}{l u:Option P}{w:P}(h:yV t l u=Wb w):Od t l u w:=by
 rcases l with _|(_|_|((_|n) |k) |_|_|_|_|_|_|_)<;>try exact aH h
 rcases u with _|u
 ·refine pY h fun a h=>?_;rw[<-Wi h];exact⟨n,a⟩
 ·exact aH h
theorem zU{Z:St}{v w:P}{l u:Option P}{G:Prop}(h:dQ Z v l u=Wb w)(a:∀x,v=.str x->Oc x l u w->G)(k2:∀t,v=.tup t->Od t l u w->G)(k3:(∀t,v=.tup t->False)->((c7 Z v).bind fun t=>yW t l u)=Wb w->G):G:=by
 induction v using Mine.P.casesOn with
 |str x=>exact a x rfl (xH h)
 |tup t=>exact k2 t rfl (xI h)
 |_=>exact k3 (fun _ e=>nomatch e) h
theorem zV{o:IE}{lo S:Option IE}{p:Pos}{q w:P}{l u:Option P}{v j r:Wm}{y:Addr}(a:At B A c sc m env V Z s.heap)(hv:VR B s.heap V q v)(g:VRo B s.heap V l j)(f:VRo B s.heap V u r)(z:s.heap.IsSliceOf y j r .none)(b:dQ Z q l u=Wb w)(F:Fin B no (VR B) V s (.ok w Z) Q E):
  Ws (Wt B.prog B.w) A (subscriptTail (aV o) (.Slice (Ii lo) (Ii S) Wc p) v (.ref y)) Q E s:=by
 refine zU b (fun x C d=>?_) (fun D C d=>?_) fun G b=>?_
 ·subst C;clear b;cases d with
  |mk k ks hd H=>
   have T:j=.none:=g;clear g;obtain⟨t,rfl⟩:=hv;obtain⟨I,rfl⟩:=f;subst T;obtain⟨os,h1,i,J⟩:=z;have U:s.heap.IsSlice y Wc (Wb (.ofNat 1,I)) Wc:=⟨os,h1,i,J⟩;have K:(af x).length=ks.length+1:=by rw[kF];unfold len;rw[hd];rfl
   have W:(af x).cps[0]?=Wb k:=by rw[wq,hd];rfl
   have d:k<256:=uF (n:=x) (by rw[hd];exact .head _);have L:slicePicked (af x) Wc (Wb (.ofNat 1,I)) Wc=[0]:=by
    unfold slicePicked aer;rw[K];have M:min (1:Int) ((ks.length:Int)+1)=1:=Int.min_eq_left (ab7.mpr (W9 (Xz ks.length)));have e1:(max 0 (min (1:Int) ((ks.length+1:Nat):Int)))=1:=congrArg (max 0) M;simp only[Option.map_none,aek,Option.getD_none];simp[sliceRange];rw[M];rfl
   have N:∀v,(∃tk,v=.str (af k) tk)->∀tk,Q v {s with toks:=tk}:=fun v h tk=>F.ok (bM _ _ _) a.rel h;refine aez (abh _ _ t) abB.lookup (wpAny_getItem_str_slice U rfl ?_) (nP ..);unfold sliceMade;rw[L];clear a F h1 i J L;split
   ·rename_i hc;have X:ks=[]:=by
     simp only[Xa,aaS,W5,beq_iff_eq] at hc;rw[K] at hc;exact aaP (aav hc.2).symm
    have Y:x=k:=by
     rw[<-gO x,<-gO k,hd,X,wr d H]
    exact N _ ⟨t,by rw[Y]⟩ s.toks
   ·simp only[X5,W,List.filterMap_nil];refine⟨(by show 1<=Ys;decide),?_⟩;exact N _ ⟨_,by rw[wu d H]⟩ _
 ·subst C;clear b;cases d with
  |mk n O=>
   have f:r=.none:=f;obtain⟨ad,vs,rfl,_,ht,bI⟩:=hv;obtain⟨tl,rfl⟩:=g;subst f;refine aez ht.typeIs aaA.lookup (getItem_tuple_from ht z (by exact XU _) (by rw[WP];exact(by rw[bI.length];exact Wg (aa O))) ?_ (by rw[WP,bI.length];exact c4 (bg (ay O)))) (nP ..);exact F.ok (bV V s _ s.toks) (a.rel.push _) (lA a (VRs.drop (n+1) bI) s.toks)
 ·refine bS b fun D R b=>pY b fun hf b=>bS b fun e1 h1 b=>bS b fun e2 i b=>?_;rw[<-Wi b] at F;clear b;obtain⟨ad,vs,rfl,bI,ht⟩:=Dj a hv R G;clear G R b;obtain⟨k1,i1,rfl⟩:=end_is g h1;clear h1 b;obtain⟨k2,i2,rfl⟩:=end_is f i;refine aez ht.typeIs abV.lookup (wpAny_getItem_list_slice ht z i1 i2 .none (by intro e;exact aH e) ?_ (by rw[WP,bI.length];exact c4 (bg hf))) (nP ..);have e:vs.toArray.size=D.length:=by rw[WP,bI.length]
  rw[slicePick_plain,e];exact F.ok (bV V s _ s.toks) (a.rel.push _) (ik a (VRs.take _ (VRs.drop _ bI)) s.toks)
theorem zW{o:IE}{lo f:Option IE}{p1 p:Nat}(K:aJ B)(S:SimE B r)(d:bj sc (.slice o lo f p1 p)=Wd)(a:At B A c sc m env V Z s.heap)(F:Fin B no (VR B) V s (aQ B.T r c (.slice o lo f p1 p) m Z) Q E):Ws (Wt B.prog B.w) A (eval (aV (.slice o lo f p1 p)) env) Q E s:=by
 have d:((bj sc o&&HZ sc lo) &&HZ sc f)=Wd:=d;refine Subscript_ (S.use (aa (aa d)) a F fun q Z1 V1 s1 v st x hv y=>?_);refine wpAny_Slice (S.evo (ay (aa d)) x y fun l Z2 L s2 z n C e F2=>S.evo (ay d) C F2 fun u Z3 h s3 D g t i G=>Wq ?_);obtain⟨w,H,I⟩:=Fin.ofO G;replace hv:=(hv.step n.k n.le).step g.k g.le;replace e:=e.step g.k g.le;generalize j:({s3 with heap:=s3.heap.push {cls:=.type "slice",data:=.fields #[z,D,.none]}}:Wl)=J;have b:Stp no h s3 h J:=by rw[<-j];exact bV h s3 _ s3.toks
 replace hv:=hv.step b.k b.le;replace e:=e.step b.k b.le;replace i:=i.step b.k b.le;exact zV (t.step b (by rw[<-j];exact t.rel.push _)) hv e i (by rw[<-j];exact afp ..) H (I.shift b)
end
section
variable{B:ao}{Z:St}{V:aG}{h:Heap}{A:WN}{s:Wl}
theorem nQ(n:Nat)(e:Nat->Bool):(aag (n+1)).all e=(e 0&& (aag n).all fun j=>e (j+1)):=by
 rw[ab8,aaJ,ae5];rfl
inductive Og(A:WN)(s:Wl)(vs a:List Wm)(z:Bool):Prop
 |mk(l:vs.length=a.length)(e:Nat->Bool)(b:∀j (h1:j<vs.length) (c:j<a.length),aaF A s vs[j] a[j] (e j))(d:(aag vs.length).all e=z)
theorem ww{f:P->P->Option Bool}(h:∀p q v u z,f p q=Wb z->VR B s.heap V p v->VR B s.heap V q u->aaF A s v u z){ps c:List P}{vs d:List Wm}{z:Bool}(hz:qD f ps c=Wb z)(hv:VRs B s.heap V ps vs)(g:VRs B s.heap V c d):Og A s vs d z:=by
 induction ps generalizing c vs d z with
 |nil=>
  induction c using Wv with
  |nil=>
   rw[show vs=[] from hv,show d=[] from g];exact⟨rfl,fun _=>Wd,fun j h1 _=>absurd h1 (aaU _),Wi hz⟩
  |cons=>exact aH hz
 |cons p ps i=>
  induction c using Wv with
  |nil=>exact aH hz
  |cons q c=>
   obtain⟨v,x,rfl,_,v1,v2⟩:=hv;obtain⟨u,y,rfl,_,k,m⟩:=g;refine bS hz fun a n hz=>mS hz fun b o hz=>?_;obtain⟨l,e,r,t⟩:=i o v2 m;refine⟨congrArg acF l,fun j=>j.rec a fun j _=>e j,fun j h1 w=>?_,?_⟩
   ·induction j with
    |zero=>exact h _ _ _ _ _ n v1 k
    |succ j=>exact r j (ab9 h1) (ab9 w)
   ·rw[Xa,nQ,<-hz,<-t];rfl
theorem qa{f:P->P->Option Bool}(d:∀p q v z,f p q=Wb z->VR B h V p v->VR B h V q v->z=Wd){ps c:List P}{vs:List Wm}{z:Bool}(hz:qD f ps c=Wb z)(hv:VRs B h V ps vs)(g:VRs B h V c vs):z=Wd:=by
 induction ps generalizing c vs z with
 |nil=>
  clear d hv g
  induction c using Wv with
  |nil=>exact(Wi hz).symm
  |cons=>exact aH hz
 |cons p ps i=>
  induction c using Wv with
  |nil=>exact aH hz
  |cons q c=>
   obtain⟨v,n,rfl,_,v1,v2⟩:=hv;obtain⟨u,o,e,_,j,k⟩:=g;cases e;refine bS hz fun a l hz=>mS hz fun b m hz=>?_;rw[<-hz,d _ _ _ _ l v1 j,i m v2 k];rfl
inductive Su(B:ao)(h:Heap)(V:aG)(l:List P)(v:Wm):Prop
 |mk(ad:Addr)(vs:List Wm)(e:v=.ref ad)(r:VRs B h V l vs)(t:h.IsList ad vs.toArray)
theorem mL(R:Rel B V Z h){p:P}{l:List P}{v:Wm}(hv:VR B h V p v)(hs:yO Z p=Wb l):Su B h V l v:=by
 induction p using Mine.P.casesOn with
 |list=>obtain⟨ad,vs,rfl,_,t,q⟩:=hv;exact⟨ad,vs,rfl,Wi hs▸q,t⟩
 |ref n=>
  obtain⟨cc,e1,rfl,_,vs,k,g,q⟩:=R.ref hv (iF (show jK (ai Z n)=Wb l from hs)) (by simp);exact⟨cc.1,vs,rfl,q,⟨_,g,rfl,_,rfl⟩⟩
 |_=>exact aH hs
inductive Sv(B:ao)(Z:St)(V:aG)(h:Heap)(l:List (Nat×P))(p:P)(v:Wm):Prop
 |mk(n:Nat)(c:Addr×Addr)(a:List WY)(k:Nat)(ep:p=.ref n)(e1:ai V n=Wb (Wb c))(e2:∃ep,ai Z n=Wb (.dict l ep))(ev:v=.ref c.1)(g:h.get? c.1=Wb (XE a k))(r:ER B h V l a)
theorem kH(R:Rel B V Z h){p:P}{l:List (Nat×P)}{v:Wm}(hv:VR B h V p v)(hs:iD Z p=Wb l):Sv B Z V h l p v:=by
 induction p using Mine.P.casesOn with
 |ref n=>
  obtain⟨ep,a⟩:=tV (show tU (ai Z n)=Wb l from hs);obtain⟨cc,e1,rfl,_,b,k,g,q⟩:=R.ref hv a (by simp);exact⟨n,cc,b,k,rfl,e1,⟨_,a⟩,rfl,g,q.1⟩
 |_=>exact aH hs
theorem xJ{a:Addr}{xs c:List Wm}(x:h.IsList a xs.toArray)(y:h.IsList a c.toArray):xs=c:=by
 obtain⟨o,e,_,n,d⟩:=x;obtain⟨g,f,_,n',b⟩:=y;obtain rfl:=Wi (e.symm.trans f);rw[d] at b;clear e d f;injection b with b _;simpa using b
theorem zX{a:Addr}{xs c:List Wm}(x:aaM h a xs.toArray)(y:aaM h a c.toArray):xs=c:=by
 obtain⟨o,e,_,n,d⟩:=x;obtain⟨g,f,_,n',b⟩:=y;obtain rfl:=Wi (e.symm.trans f);rw[d] at b;injection b with b _;simpa using b
theorem qb:∀{l:List (Nat×P)},aW l=Wd->∀{x:Nat}{p:P},(x,p)∈l->get x l=Wb p:=by
 intro l
 induction l with
 |nil=>exact fun _ _ _ h=>absurd h WA
 |cons e r d=>
  intro a x p hm;obtain⟨y,w⟩:=e;have a:(!has y r&&aW r)=Wd:=a;rw[j3];rcases Ww.mp hm with e|hm
  ·cases e;rw[Wx];rfl
  ·have b:=d (ay a) hm;clear hm
   induction c:Wf y x using Wn with
   |true=>
    have e:=b9 c;clear hm c;subst e;have:=aa a;simp[has,b] at this
   |false=>exact b
theorem qc{f:P->P->Option Bool}(d:∀p z,f p p=Wb z->z=Wd)(l:List (Nat×P))(g:aW l=Wd){r:List (Nat×P)}{z:Bool}(c:∀e∈r,e∈l)(hz:w0 f l r=Wb z):z=Wd:=by
 induction r generalizing z with
 |nil=>exact(Wi hz).symm
 |cons e r h=>
  rw[yM] at hz;rw[qb g (c e (.head _))] at hz;refine bS hz fun a i hz=>mS hz fun b j hz=>?_;rw[<-hz,d _ _ i,h (fun e k=>c e (.tail _ k)) j];rfl
theorem qd{f:P->P->Option Bool}(c:∀p z,f p p=Wb z->z=Wd){r:List P}{z:Bool}(hz:qD f r r=Wb z):z=Wd:=by
 induction r generalizing z with
 |nil=>exact(Wi hz).symm
 |cons p r d=>
  refine bS hz fun a e hz=>mS hz fun b g hz=>?_;rw[<-hz,c _ _ e,d g];rfl
inductive By(f:P->P->Option Bool)(Z:St):P->P->Bool->Prop
 |nn:By f Z .none .none Wd
 |ns(s:Nat):By f Z .none (.str s) We
 |sn(s:Nat):By f Z (.str s) .none We
 |bb(a b:Bool):By f Z (.bool a) (.bool b) (a==b)
 |ii(a b:Int):By f Z (.int a) (.int b) (a==b)
 |ss(a b:Nat):By f Z (.str a) (.str b) (Wf a b)
 |tt(a b:List P)(z:Bool)(h:yS f a b=Wb z):By f Z (.tup a) (.tup b) z
 |qq(a b:P)(z:Bool)(h:II f Z a b=Wb z):By f Z a b z
theorem uK{n:Nat}{a b:P}{z:Bool}(h:rH (n+1) Z a b=Wb z):By (rH n Z) Z a b z:=by
 replace h:IJ (rH n Z) Z a b=Wb z:=h
 induction a using Mine.P.casesOn with
 |none=>induction b using Mine.P.casesOn with
  |none=>rw[<-Wi h];exact .nn
  |str=>rw[<-Wi h];exact .ns _
  |_=>exact aH h
 |bool a=>exact bS h fun c h1 d=>by rw[P.b_is h1,<-Wi d];exact .bb a c
 |int a=>exact bS h fun c h1 d=>by rw[P.i_is h1,<-Wi d];exact .ii a c
 |str a=>induction b using Mine.P.casesOn with
  |none=>rw[<-Wi h];exact .sn _
  |str b=>rw[<-Wi h];exact .ss a b
  |_=>exact aH h
 |tup a=>exact bS h fun c h1 d=>by rw[P.t_is h1];exact .tt a c z d
 |_=>exact .qq _ _ z h
theorem rd{α β:Type}{a:List α}{b:List β}(h:a.length=b.length):Wf a.length b.length=Wd:=h▸Wx _
theorem zY(n:Nat)(p:P)(z:Bool)(hz:rH n Z p p=Wb z):z=Wd:=by
 induction n generalizing p z with
 |zero=>exact aH hz
 |succ n d=>
  generalize c:p=q at hz;have hc:By (rH n Z) Z p q z:=uK (c▸hz);clear hz;cases hc with
  |nn=>rfl
  |ns=>exact nomatch c
  |sn=>exact nomatch c
  |bb a b=>cases c;exact beq_self_eq_true a
  |ii a b=>cases c;exact beq_self_eq_true a
  |ss a b=>cases c;exact Wx a
  |tt a b z h=>
   cases c;unfold yS at h;rw[Wx] at h;exact qd d h
  |qq a b z h=>
   subst c;refine bS h fun x e h=>bS h fun y f h=>?_;obtain rfl:=Wi (e.symm.trans f);rw[Wx] at h;exact qd d h
theorem xK(n:Nat)(p:P)(z:Bool)(hz:ju n Z p p=Wb z):z=Wd:=by
 induction n generalizing p z with
 |zero=>exact aH hz
 |succ n a=>
  rw[qE] at hz
  induction hd:iD Z p using Wo with
  |none=>rw[hd] at hz;exact zY _ _ _ hz
  |some l=>
   rw[hd] at hz;refine pY hz fun b hz=>?_;rw[Wx] at hz;exact qc a l (aa b) (fun e c=>c) hz
theorem nR(R:Rel B V Z h)(n:Nat)(p q:P)(v:Wm)(z:Bool)(hz:rH n Z p q=Wb z)(hv:VR B h V p v)(c:VR B h V q v):z=Wd:=by
 induction n generalizing p q v z with
 |zero=>exact aH hz
 |succ n i=>
  have hc:=uK hz;clear hz
  induction hc with
  |nn=>rfl
  |ns s=>obtain rfl:=show v=.none from hv;obtain⟨t,e⟩:=c;cases e
  |sn s=>obtain rfl:=show v=.none from c;obtain⟨t,e⟩:=hv;cases e
  |bb a b=>rw[show v=.bool a from hv] at c;cases c;exact beq_self_eq_true a
  |ii a b=>obtain⟨t,rfl⟩:=hv;obtain⟨j,e⟩:=c;cases e;exact beq_self_eq_true a
  |ss a b=>
   obtain⟨t,rfl⟩:=hv;obtain⟨j,e⟩:=c;injection e with e1 e2;rw[eX e1];exact Wx _
  |tt a b z h=>
   obtain⟨ad,vs,rfl,_,f,v1⟩:=hv;obtain⟨k,l,e,_,g,d⟩:=c;cases e;obtain rfl:=zX f g;unfold yS at h;rw[rd (v1.length.symm.trans d.length)] at h;exact qa i h v1 d
  |qq a b z h=>
   refine bS h fun x m h=>bS h fun y o h=>?_;obtain⟨ad,vs,rfl,v1,f⟩:=mL R hv m;obtain⟨k,l,e,d,g⟩:=mL R c o;cases e;obtain rfl:=xJ f g;rw[rd (v1.length.symm.trans d.length)] at h;exact qa i h v1 d
end
section
variable{B:ao}{Z:St}{V:aG}{A:WN}{s:Wl}
theorem cR{h:Heap}{a:Addr}{xs:Array Wm}(t:aaM h a xs):h.IsTuple a xs:=t
theorem Dl{v u:Wm}{vs a:List Wm}{l b:Addr}(c:s.heap.IsList l vs.toArray)(d:s.heap.IsList b a.toArray)(f:A.units<acj){z:Bool}(x:Og A.in1 s vs a z):
  aca A s (.ref l) (.ref b) z/\aa3 A s (.ref l) (.ref b) (!z):=by
 obtain⟨g,e,k,rfl⟩:=x;have h:∀j (h1:j<vs.toArray.size) (i:j<a.toArray.size),aaF A.in1 s vs.toArray[j] a.toArray[j] (e j):=fun j h1 i=>by simpa using k j (by simpa using h1) (by simpa using i)
 exact⟨aca.lists c d (by simpa using g) f h,afq c d (by simpa using g) f h⟩
theorem Dm{vs c:List Wm}{l b:Addr}(d:aaM s.heap l vs.toArray)(f:aaM s.heap b c.toArray)(g:A.units<acj){z:Bool}(x:Og A.in1 s vs c z):
  aca A s (.ref l) (.ref b) z/\aa3 A s (.ref l) (.ref b) (!z):=by
 obtain⟨h,e,m,rfl⟩:=x;have i:∀j (h1:j<vs.toArray.size) (k:j<c.toArray.size),aaF A.in1 s vs.toArray[j] c.toArray[j] (e j):=fun j h1 k=>by simpa using m j h1 (by simpa using k)
 have a:=adH (cR d) (cR f) g i;have b:=adb (cR d) (cR f) g i;have hs:(vs.toArray.size==c.toArray.size)=Wd:=by simpa using h
 have n:min vs.toArray.size c.toArray.size=vs.length:=by simp[h]
 rw[hs,n,aeP] at a b;exact⟨a,b⟩
theorem pC{vs c:List Wm}{l b:Addr}(d:aaM s.heap l vs.toArray)(e:aaM s.heap b c.toArray)(f:A.units<acj)(k:vs=[]\/c=[])(g:vs.length≠c.length):
  aca A s (.ref l) (.ref b) We/\aa3 A s (.ref l) (.ref b) Wd:=by
 have h:∀j (h1:j<vs.toArray.size) (i:j<c.toArray.size),aaF A.in1 s vs.toArray[j] c.toArray[j] ((fun _=>Wd) j):=fun j h1 i=>by
  clear d e f g;rcases k with rfl|rfl
  ·exact absurd h1 (aaU _)
  ·exact absurd i (aaU _)
 have a:=adH (cR d) (cR e) f h;have b:=adb (cR d) (cR e) f h;have hs:(vs.toArray.size==c.toArray.size)=We:=by simpa using g
 rw[hs,aat] at a b;exact⟨a,b⟩
end
section
variable{B:ao}{Z:St}{V:aG}{A:WN}{s:Wl}{h:Heap}
theorem eE(R:Rel B V Z h){n:Nat}{c:Addr×Addr}(e:ai V n=Wb (Wb c)):(c.1==XJ)=We:=
 beq_eq_false_iff_ne.mpr (Y4 (R.low c.1 ⟨n,c,e,.inl rfl⟩))
theorem re{α β:Type}{a:List α}{b:List β}(h:Wf a.length b.length=We):a.length≠b.length:=fun e=>gB ((rd e).symm.trans h)
structure Ql(A:WN)(s:Wl)(v u:Wm)(z:Bool):Prop where
 r:aca A s v u z
 n:aa3 A s v u (!z)
 e:aaF A s v u z
theorem GY(R:Rel B V Z s.heap)(n:Nat)(A:WN)(p q:P)(v u:Wm)(z:Bool)(w:A.units+n<acj)(hz:rH n Z p q=Wb z)(hv:VR B s.heap V p v)(f:VR B s.heap V q u):Ql A s v u z:=by
 induction n generalizing A p q v u z with
 |zero=>exact aH hz
 |succ n g=>
  have g:∀p q v u z,rH n Z p q=Wb z->VR B s.heap V p v->VR B s.heap V q u->aaF A.in1 s v u z:=fun p q v u z a b c=>(g A.in1 p q v u z (by show A.units+1+n<acj;rw[BJ];exact w) a b c).e;have i:A.units<acj:=by exact Ym w
  have d:∀{l b:Addr},v=.ref l->u=.ref b->aca A s (.ref l) (.ref b) z/\aa3 A s (.ref l) (.ref b) (!z)->Ql A s v u z:=by
   intro l b e1 e2 j;by_cases D:l=b
   ·subst D;have I:=nR R (n+1) p q v z hz hv (by rw[e1,<-e2];exact f);clear R w hv f g i hz;clear g p q;subst e1 e2 I;exact⟨j.1,j.2,ack _⟩
   ·subst e1 e2;exact⟨j.1,j.2,aaF.of_refs D j.1⟩
  clear w;have hc:=uK hz;clear hz
  induction hc with
  |nn=>rw[show v=.none from hv,show u=.none from f];exact⟨aca.none_none,ae6,ack _⟩
  |ns a=>rw[show v=.none from hv];obtain⟨t,rfl⟩:=f;exact⟨aca.none_str _ _,afc _ _,aaF.none_str _ _⟩
  |sn a=>rw[show u=.none from f];obtain⟨t,rfl⟩:=hv;exact⟨aca.str_none _ _,afd _ _,aaF.str_none _ _⟩
  |bb a b=>rw[show v=.bool a from hv,show u=.bool b from f];exact⟨aca.bool_bool _ _,ae7 _ _,aaF.bool_bool _ _⟩
  |ii a b=>obtain⟨t,rfl⟩:=hv;obtain⟨E,rfl⟩:=f;exact⟨aca.int_int _ _ _ _,afj _ _ _ _,aaF.int_int _ _ _ _⟩
  |ss x y=>
   clear R i d;clear g;obtain⟨t,rfl⟩:=hv;obtain⟨E,rfl⟩:=f;have e:Wf x y=(af x==af y):=by
    clear g A t E
    induction C:Wf x y using Wn with
    |true=>rw[b9 C];exact(beq_self_eq_true _).symm
    |false=>exact(beq_eq_false_iff_ne.mpr (ig fun e=>by rw[e,Wx] at C;exact gB C)).symm
   exact e▸⟨aca.str_str _ _ _ _,afk _ _ _ _,aaF.str_str _ _ _ _⟩
  |tt x y z h=>
   clear R;obtain⟨ad,vs,e1,_,m,v1⟩:=id hv;clear hv;obtain⟨J,F,e2,_,o,r⟩:=id f;refine d e1 e2 ?_;unfold yS at h;clear f d e1 e2;clear v
   induction k:Wf x.length y.length using Wn with
   |true=>
    rw[k] at h;exact Dm m o i (ww g h v1 r)
   |false=>
    rw[k] at h;refine pY h fun he h=>?_;rw[<-Wi h];refine pC m o i ?_ (by rw[v1.length,r.length];exact re k);clear u i m o k h;clear h;rcases XR.mp he with he|he
    ·left;rw[aaE] at he;subst he;exact v1
    ·right;rw[aaE] at he;subst he;exact r
  |qq a b z h=>
   refine bS h fun x j h=>bS h fun y G h=>?_;obtain⟨ad,vs,e1,v1,m⟩:=mL R hv j;clear hv j;obtain⟨J,F,e2,r,o⟩:=mL R f G;refine d e1 e2 ?_;clear f d G e1 e2
   induction k:Wf x.length y.length using Wn with
   |true=>
    rw[k] at h;exact Dl (v:=v) (u:=u) m o i (ww g h v1 r)
   |false=>
    rw[k] at h;rw[<-Wi h];have H:(vs.toArray.size !=F.toArray.size)=Wd:=by
     have:=re k;simpa [v1.length,r.length] using this
    exact⟨aca.lists_lengths m o H i,aeA m o H i⟩
theorem xM(R:Rel B V Z h)(n:Nat)(p q:P)(v:Wm)(z:Bool)(hz:ju n Z p q=Wb z)(hv:VR B h V p v)(b:VR B h V q v):z=Wd:=by
 induction n with
 |zero=>exact aH hz
 |succ n=>
  rw[qE] at hz
  induction a:iD Z p using Wo with
  |none=>rw[a] at hz;exact nR R _ _ _ _ _ hz hv b
  |some x=>
   induction f:iD Z q using Wo with
   |none=>rw[a,f] at hz;exact nR R _ _ _ _ _ hz hv b
   |some y=>
    rw[a,f] at hz;obtain⟨i,c,m,k,rfl,e1,⟨_,e2⟩,rfl,o,r⟩:=kH R hv a;clear hv a o r;obtain⟨j,d,s,t,rfl,l,⟨_,u⟩,e,w,A⟩:=kH R b f;have g:i=j:=by
     by_cases g:i=j
     ·exact g
     ·exact absurd (adk e) (R.sep i j c d e1 l g).1
    clear R b f m k e1 l w A;subst g;clear s t;cases e2.symm.trans u;refine pY hz fun C hz=>?_;rw[Wx] at hz;exact qc (fun p z=>xK n p z) x (aa C) (fun e D=>D) hz
end
section
variable{prog:Yi}{w:Y6}{A:WN}{s:Wl}
noncomputable def EqW(prog:Yi)(w:Y6)(A:WN)(s:Wl)(v u:Wm)(z:Bool):Prop:=∀(E:Wm->Wl->Prop)(Q:Bool->Wl->Prop),Q z s->Ws (Wt prog w) A (eqBool v u) Q E s
noncomputable def G3(prog:Yi)(w:Y6)(A:WN)(s:Wl)(op:abr)(v u:Wm)(z:Bool):Prop:=∀(E:Wm->Wl->Prop)(Q:Wm->Wl->Prop),Q (.bool z) s->Ws (Wt prog w) A (richCompare op v u) Q E s
theorem EqW.of_refs{l b:Addr}{z:Bool}(a:l≠b)(h:G3 prog w A s .Eq (.ref l) (.ref b) z):EqW prog w A s (.ref l) (.ref b) z:=fun E Q c=>by
 unfold eqBool;refine W6 ?_;refine wpAny_ite_split (fun d=>absurd (by have:=eq_of_beq d;injection this) a) (fun _=>?_);exact Wh (h E _ (Yz c))
inductive Dn(prog:Yi)(w:Y6)(A:WN)(s:Wl)(a:Str->Option Wm)(d:WY)(R:Bool->Prop)(z:Bool):Prop
 |miss(x:Str)(t:Tok)(e1:d.key=.str x t)(e2:d.hash=W4 w.params x)(e3:a x=Wc)(c:z=We):Dn prog w A s a d R z
 |hit(x:Str)(t:Tok)(y:Wm)(e b:Bool)(e1:d.key=.str x t)(e2:d.hash=W4 w.params x)(e3:a x=Wb y)(f:EqW prog w A s d.val y e)(g:R b)(c:z=(e&&b)):Dn prog w A s a d R z
noncomputable def wx(prog:Yi)(w:Y6)(A:WN)(s:Wl)(a:Str->Option Wm):List WY->Bool->Prop
 | [],z=>z=Wd
 |d::r,z=>Dn prog w A s a d (wx prog w A s a r) z
theorem uM{i n x:Nat}{ar:List Nat}(a:x::ar=acQ i (n - i)):i<n/\x=i/\ar=acQ (i+1) (n - (i+1)):=by
 have b:i<n:=by
  rcases adI i n with h|h
  ·exact h
  ·rw[acq h] at a;simp at a
 have e:n - i=(n - (i+1))+1:=(abW (aaq b)).symm;rw[e,adY] at a;exact⟨b,(Ye a).1,(Ye a).2⟩
theorem xN{i n:Nat}(a:[]=acQ i (n - i))(b:i<=n):i=n:=by
 rcases adI i n with h|h
 ·have e:n - i=(n - (i+1))+1:=(abW (aaq h)).symm;rw[e,adY] at a;exact nomatch a
 ·exact aaT b h
theorem zZ{α:Type}{M:acN}{A:WN}{m:Sem α}{P:α->Wl->Prop}{E:Wm->Wl->Prop}{s:Wl}(h:∀a:α->Wl->Prop,(∀r s,P r s->a r s)->Ws M A m a E s):Ws M A m P E s:=h P fun _ _ h=>h
inductive Sx(prog:Yi)(w:Y6)(A:WN)(s:Wl)(a b:List WY)(z:Bool)(ar:List Nat)(s':Wl):Prop
 |mk (i:Nat) (hs:s'=s) (c:ar=acQ i (a.length - i)) (d:i<=a.length) (e:wx prog w A s (fun x=>abe Xm b.toArray x) (a.drop i) z)
theorem rg{nm:String}{a b:Addr}{f c:List WY}{G nb:Nat}{z:Bool}{Q:Bool->Wl->Prop}{E:Wm->Wl->Prop}(H:(a==XJ)=We)(I:(b==XJ)=We)
  (n:s.heap.get? a=Wb (XE f G)) (o:s.heap.get? b=Wb (XE c nb)) (C:KeysOf (strKind prog w) c.toArray) (J:f.length=c.length)
  (m:wx prog w A s (fun x=>abe Xm c.toArray x) f z) (h:Q z s):Ws (Wt prog w) A (Yn nm a b) Q E s:=by
 unfold Yn acr;rw[if_neg (H▸Xr),if_neg (by rw[I];exact Xr)];refine Wh (Wq (Wh (Wq (Wh (YA n rfl (Wh (YA o rfl ?_)))))));rw[if_neg (by rw[WP,WP,J];simp)];refine Wh (ael n rfl (Wh ?_));rw[acR];simp only[afe,Nat.sub_zero,Nat.add_sub_cancel,Nat.div_one];refine wpAny_forIn_list _ (fun ar q s'=>Sx prog w A s f c z ar s'/\q=(Wc,())) _ ?_ ?_ _ _ ⟨⟨0,rfl,by simp,Xz _,m⟩,rfl⟩
 ·rintro x ar q s' ⟨⟨i,rfl,v,D,g⟩,rfl⟩;refine zZ fun P B=>?_;obtain⟨p,rfl,K⟩:=uM v;refine Wh (YA n rfl ?_);rw[Yx p];have L:f.toArray[x]'p=f[x]:=by simp
  rw[L];have M:f.drop x=f[x]::f.drop (x+1):=Y7 p;rw[M] at g;generalize hd:f[x]=d at g;have find:∀{y:Str}{t:Tok},d.key=.str y t->(strKind prog w).is y d.key=Wd:=fun e=>by rw[e];exact YR prog w _ _
  have F:∀y:Str,abe (strKind prog w).is c.toArray y=abe Xm c.toArray y:=fun _=>rfl;show Ws _ _ (YW [d.key,d.val] _>>=_) _ _ _;rcases(show Dn prog w A s' _ d _ z from g) with⟨y,t,e1,e2,e3,r⟩|⟨y,t,N,e,O,e1,e2,e3,R,S,r⟩
  ·rw[e2];refine Wh (W6 (Wh (abx (knd:=strKind prog w) (k:=y) (find e1) o rfl C ?_)));rw[<-F,adu] at e3
   induction l:c.toArray.findIdx? (fun e=>(strKind prog w).is y e.key) using Wo with
   |none=>
    refine Wq ?_;show Ws _ _ (if(!We)=Wd then _ else _) _ _ _;exact acS rfl (Wq (B _ _ (Wq (r▸h))))
   |some j=>
    rw[l] at e3;simp[Yx (aai.mp l).1] at e3
  ·rw[e2];refine Wh (W6 (Wh (abx (knd:=strKind prog w) (k:=y) (find e1) o rfl C ?_)));rw[<-F,adu] at e3
   induction l:c.toArray.findIdx? (fun e=>(strKind prog w).is y e.key) using Wo with
   |none=>rw[l] at e3;exact aH e3
   |some j=>
    obtain⟨u,_,_⟩:=aai.mp l;rw[l] at e3;refine Wh (YA o rfl ?_);have T:(c.toArray[j]'u).val=N:=by simpa [Yx u] using e3
    rw[Yx u];refine W6 ?_;show Ws _ _ (eqBool d.val (c.toArray[j]'u).val) _ _ _;rw[T];refine R _ _ ?_
    induction e using Wn with
    |false=>
     show Ws _ _ (if(!We)=Wd then _ else _) _ _ _;exact acS rfl (Wq (B _ _ (Wq (r.trans (Bool.false_and O)▸h))))
    |true=>
     show Ws _ _ (if(!Wd)=Wd then _ else _) _ _ _;rw[if_neg (by decide)];refine Wh (ael n rfl ?_);rw[if_neg (by simp)];exact Wq (B _ _ ⟨⟨x+1,rfl,K,p,by rw[r,Bool.true_and];exact S⟩,rfl⟩)
 ·rintro q s' ⟨⟨i,rfl,v,D,g⟩,rfl⟩;rw[xN v D,List.drop_length] at g;exact Wq ((show z=Wd from g)▸h)
end
section
variable{prog:Yi}{w:Y6}{A:WN}{s:Wl}
theorem l3{nm:String}{a b:Addr}{n:Nat}{c:List WY}{Q:Wm×Wm->Wl->Prop}{E:Wm->Wl->Prop}(d:s.heap.get? a=Wb (XE c n))(h:Q (.ref a,.ref b) s):
  Ws (Wt prog w) A (abp nm ⟨[.ref a,.ref b],[]⟩) Q E s:=by
 unfold abp;refine Wh (acs (args:=⟨[.ref a,.ref b],[]⟩) (⟨_,d,rfl⟩) ?_);exact Wq h
theorem xO{a b:Addr}{f g:List WY}{i nb:Nat}{z:Bool}(k:(a==XJ)=We)(l:(b==XJ)=We)
  (d:s.heap.get? a=Wb (XE f i)) (j:s.heap.get? b=Wb (XE g nb)) (e:A.units<acj)
  (hs:∀nm E (Q:Bool->Wl->Prop),Q z s->Ws (Wt prog w) A.in1 (Yn nm a b) Q E s):G3 prog w A s .Eq (.ref a) (.ref b) z/\G3 prog w A s .NotEq (.ref a) (.ref b) (!z):=by
 have c:s.TypeIs (.ref a) "dict" :=⟨_,d,rfl⟩;have tb:s.TypeIs (.ref b) "dict" :=⟨_,j,rfl⟩;constructor
 ·intro E Q h;refine aa4 (op:=.Eq) c tb acT (YL acT c PySem.F.entry_dict_eq ?_ (PySem.F.args_dict_eq_2 _ _)) e;refine Wh (l3 d ?_);refine Wh (adZ (T:="dict") tb acu ?_);simp only[aaH,abi,if_false];refine Wh (Wq (Wh (Wq (Wh (hs _ _ _ ?_)))));exact Wq ⟨_,rfl,(fun x=>nomatch x),by induction z<;>exact h⟩
 ·intro E Q h;refine aa4 (op:=.NotEq) c tb acU (YL acU c PySem.F.entry_dict_ne ?_ (PySem.F.args_dict_ne_2 _ _)) e;refine Wh (l3 d ?_);refine Wh (adZ (T:="dict") tb acu ?_);simp only[aaH,abi,if_false];refine Wh (Wq (Wh (Wq (Wh (hs _ _ _ ?_)))));exact Wq ⟨_,rfl,(fun x=>nomatch x),by induction z<;>exact h⟩
theorem mx{nm:String}{a b:Addr}{c d:List WY}{e nb:Nat}{Q:Bool->Wl->Prop}{E:Wm->Wl->Prop}(f:(a==XJ)=We)(g:(b==XJ)=We)
  (i:s.heap.get? a=Wb (XE c e)) (j:s.heap.get? b=Wb (XE d nb)) (k:c.length≠d.length) (h:Q We s):Ws (Wt prog w) A (Yn nm a b) Q E s:=by
 unfold Yn acr;rw[if_neg (by rw[f];exact Xr),if_neg (by rw[g];exact Xr)];refine Wh (Wq (Wh (Wq (Wh (YA i rfl (Wh (YA j rfl ?_)))))));rw[if_pos (by rw[WP,WP];simpa using k)];exact Wh (abj (Wq h))
end
section
variable{B:ao}{Z:St}{V:aG}{A:WN}{s:Wl}{h:Heap}
theorem ER.length{es:List (Nat×P)}{a:List WY}(e:ER B h V es a):a.length=es.length:=by
 induction es generalizing a with
 |nil=>rw[show a=[] from e];rfl
 |cons q es b=>
  obtain⟨d,r,rfl,_,_,_,_,c⟩:=e;rw[Xa,b c];rfl
theorem xP{f:P->P->Option Bool}(k:∀p q v u z,f p q=Wb z->VR B s.heap V p v->VR B s.heap V q u->EqW B.prog B.w A s v u z){y:List (Nat×P)}{g:List WY}(l:ER B s.heap V y g)
  {x:List (Nat×P)} {c:List WY} {z:Bool} (hz:w0 f y x=Wb z) (ex:ER B s.heap V x c):wx B.prog B.w A s (fun x=>abe Xm g.toArray x) c z:=by
 induction x generalizing c z with
 |nil=>rw[show c=[] from ex,<-Wi hz];exact rfl
 |cons e x m=>
  obtain⟨d,r,rfl,h,⟨t,i⟩,_,hv,n⟩:=ex;have q:=l.find e.1;rw[yM] at hz
  induction j:get e.1 y using Wo with
  |none=>
   rw[j] at q hz;exact .miss _ _ i h q (Wi hz).symm
  |some w=>
   rw[j] at q hz;obtain⟨_,F,o,C⟩:=q;refine bS hz fun a D hz=>mS hz fun b E hz=>?_;exact .hit _ _ _ _ _ i h o (k _ _ _ _ _ D hv C) (m E n) hz.symm
structure Qm(B:ao)(A:WN)(s:Wl)(v u:Wm)(z:Bool):Prop where
 r:G3 B.prog B.w A s .Eq v u z
 n:G3 B.prog B.w A s .NotEq v u (!z)
 e:EqW B.prog B.w A s v u z
theorem wy(R:Rel B V Z s.heap)(n:Nat)(A:WN)(p q:P)(v u:Wm)(z:Bool)(I:A.units+n+30<acj)(hz:ju n Z p q=Wb z)(hv:VR B s.heap V p v)(J:VR B s.heap V q u):Qm B A s v u z:=by
 induction n generalizing A p q v u z with
 |zero=>exact aH hz
 |succ n M=>
  have N:=hz;have f:rH 30 Z p q=Wb z->Qm B A s v u z:=fun hz=>by
   have k:=GY R 30 A p q v u z (Xi (XP (W0 A.units (n+1)) 30) I) hz hv J;exact⟨fun E Q h=>k.r _ _ _ _ h,fun E Q h=>k.n _ _ _ _ h,fun E Q h=>k.e _ _ _ _ h⟩
  rw[qE] at hz
  induction C:iD Z p using Wo with
  |none=>rw[C] at hz;exact f hz
  |some x=>
  induction K:iD Z q using Wo with
  |none=>rw[C,K] at hz;exact f hz
  |some y=>
   rw[C,K] at hz;clear f;obtain⟨i,c,X,k,ep,e1,e2,ev,D,F⟩:=kH R hv C;obtain⟨j,d,Y,k',O,G,S,T,m,t⟩:=kH R J K;have l:G3 B.prog B.w A s .Eq (.ref c.1) (.ref d.1) z/\G3 B.prog B.w A s .NotEq (.ref c.1) (.ref d.1) (!z):=by
    refine xO (eE R e1) (eE R G) D m (Xi (Wj (W0 A.units (n+1)) (W0 _ 30)) I) fun nm E Q h=>pY hz fun hn hz=>?_
    induction H:Wf x.length y.length using Wn with
    |true=>
     rw[H] at hz;refine rg (eE R e1) (eE R G) D m ?_ (by rw[F.length,t.length];exact b9 H) (xP (fun p q v u z a b c=>(M A.in1 p q v u z (by show A.units+1+n+30<acj;rw[BJ];exact I) a b c).e) t hz F) h;obtain⟨o,es,Qn,g,_,hd,U,_⟩:=t.mapOf m;obtain rfl:=Wi (m.symm.trans g);cases hd;exact U
    |false=>
     rw[H] at hz;rw[<-Wi hz] at h;exact mx (eE R e1) (eE R G) D m (by rw[F.length,t.length];exact re H) h
   clear D F O G S m t hz;subst ev T;refine⟨l.1,l.2,?_⟩;by_cases L:c.1=d.1
   ·have W:=xM R (n+1) p q (.ref c.1) z N hv (L▸J);exact W▸L▸(fun E Q h=>ack _ _ _ _ _ h)
   ·exact EqW.of_refs L l.1
end
theorem uN:∀a b:List Nat,vz a b=decide (a<b):=by
 intro a
 induction a with
 |nil=>intro b;induction b<;>rfl
 |cons a r d=>
  intro b;cases b with
  |nil=>rfl
  |cons b t=>
  rw[IF];rw[d t]
  induction h:Wf a b using Wn with
  |true=>
   have e:=b9 h;clear h;subst e;simp
  |false=>
   have e:a≠b:=fun e=>by subst e;rw[Wx] at h;cases h
   clear h
   induction c:WR a b using Wn with
   |true=>
    have l:a<b:=Wg c;simp[acv,l]
   |false=>
    have l:¬a<b:=fun q=>by have:=Wy q;unfold WR at c;exact gB (this.symm.trans c)
    simp[acv,l,e]
theorem uO(c:Nat):∀l:List Nat,bN c l=decide (c∈l):=by
 intro b
 induction b with
 |nil=>
  rfl
 |cons a r d=>
  rw[w6];rw[d]
  induction h:Wf a c using Wn with
  |true=>
   have e:=b9 h;clear h;obtain rfl:=e.symm;simp
  |false=>
   have e:c≠a:=fun e=>by subst e;rw[Wx] at h;cases h
   simp[e]
section
variable{B:ao}{Z:St}{V:aG}{A:WN}{s:Wl}{h:Heap}{Q:Wm->Wl->Prop}{E:Wm->Wl->Prop}
theorem nU:∀{l:List P}{ss:List Nat}{vs:List Wm},dA l=Wb ss->VRs B h V l vs->YX vs (ss.map af):=by
 intro a
 induction a with
 |nil=>
  intro ss vs e hv;obtain rfl:=Wi e;subst hv;exact .nil
 |cons p l b=>
  intro ss vs e hv;obtain⟨v,r,rfl,_,v1,v2⟩:=hv
  induction p using Mine.P.casesOn with
  |str x=>
   replace e:(dA l).map (x:: ·)=Wb ss:=e;obtain⟨t,ht,rfl⟩:=WD.mp e;obtain⟨tk,rfl⟩:=v1;exact .cons _ _ (b ht v2)
  |_=>exact aH e
theorem Dp(x:Nat)(ss:List Nat):(ss.map af).any (· ==af x)=ss.any fun y=>Wf y x:=by
 rw[adB]
 congr 1
 funext y
 induction a:Wf y x using Wn with
 |true=>rw[b9 a];simp
 |false=>
  have:y≠x:=fun e=>by subst e;rw[Wx] at a;cases a
  exact beq_eq_false_iff_ne.mpr (ig this)
inductive Ke(B:ao)(s:Wl)(x:Nat)(a:Tok):Wm->Bool->Prop
 |sq(ad:Addr)(vs:List Wm)(ss:List Nat)(ht:aaM s.heap ad vs.toArray\/s.heap.IsList ad vs.toArray)(q:YX vs (ss.map af)):Ke B s x a (.ref ad) ((ss.map af).any (· ==af x))
 |st(cc y:Nat)(tb:Tok)(e:af x=⟨#[cc]⟩):Ke B s x a (.str (af y) tb) (decide (cc∈(af y).cps.toList))
 |dc(ad:Addr)(es:List (Nat×P))(b:List WY)(k:Nat)(V:aG)(lo:(ad==XJ)=We)(er:ER B s.heap V es b)(g:s.heap.get? ad=Wb (XE b k)):Ke B s x a (.ref ad) (has x es)
theorem EU(R:Rel B V Z s.heap){a b:P}{h f:Wm}{z:Bool}(i:VR B s.heap V a h)(c:VR B s.heap V b f)(hz:tW Z a b=Wb z):∃x d,h=.str (af x) d/\Ke B s x d f z:=by
 refine bS hz fun x j hz=>?_;rw[P.s_is j] at i;clear j;obtain⟨d,rfl⟩:=i;refine⟨x,d,rfl,?_⟩;have e:∀{l:List P}{ad:Addr}{vs:List Wm},mem x l=Wb z->VRs B s.heap V l vs->(aaM s.heap ad vs.toArray\/s.heap.IsList ad vs.toArray)->Ke B s x d (.ref ad) z:=by
  intro l ad vs p hv ht;clear R c hz;clear f hz;obtain⟨ss,hs,rfl⟩:=WD.mp p;rw[<-Dp];exact .sq ad vs ss ht (nU hs hv)
 induction b using Mine.P.casesOn with
 |tup=>
  clear R;obtain⟨ad,vs,rfl,_,t,q⟩:=c;exact e hz q (.inl t)
 |list=>
  clear R;obtain⟨ad,vs,rfl,_,t,q⟩:=c;exact e hz q (.inr t)
 |str y=>
  clear R e;obtain⟨tb,rfl⟩:=c;refine bS hz fun cc hc hz=>?_;rw[<-Wi hz,show bN cc (bA y)=decide (cc∈(af y).cps.toList) by rw[uO];rfl];exact .st cc y tb (by show(⟨(bA x).toArray⟩:Str)=_;rw[iE hc])
 |ref n=>
  replace hz:LK x (ai Z n)=Wb z:=hz;generalize m:ai Z n=o at hz;rcases o with _|_|_|_|_|_
  ·exact aH hz
  ·obtain⟨cc,e1,rfl,_,vs,k,g,q⟩:=R.ref c m (by simp);exact e hz q (.inr ⟨_,g,rfl,_,rfl⟩)
  ·obtain⟨cc,e1,rfl,_,r,k,g,er,_⟩:=R.ref c m (by simp);exact(Wi hz)▸(.dc _ _ r k V (eE R e1) er g)
  ·exact aH hz
  ·exact aH hz
  ·exact aH hz
 |_=>exact aH hz
theorem ER.has{x:Nat}{es:List (Nat×P)}{a:List WY}(er:ER B h V es a):(abe Xm a.toArray (af x)).isSome=Mine.has x es:=by
 have q:=er.find x;unfold Mine.has;clear er
 induction b:get x es using Wo with
 |none=>rw[b] at q;rw[q];rfl
 |some p=>rw[b] at q;obtain⟨_,v,hv,_⟩:=q;rw[hv];rfl
theorem Kf(R:Rel B V Z s.heap){a b:P}{c d:Wm}{z:Bool}(f:VR B s.heap V a c)(h:VR B s.heap V b d)(hz:tW Z a b=Wb z)(h1:∀tk,Q (.bool z) {s with toks:=tk}):
  Ws (Wt B.prog B.w) A (aa7 .In c d) Q E s:=by
 obtain⟨x,i,rfl,hc⟩:=EU R f h hz;clear R f h hz;cases hc with
 |sq ad vs ss ht q=>
  clear a b;rcases ht with ht|ht
  ·exact in_tuple_strs ht q (h1 s.toks)
  ·exact in_list_strs ht q (h1 s.toks)
 |st cc y tb e=>
  refine P.in_str ?_;rw[e,adJ];exact h1 s.toks
 |dc ad es j k V' lo er g=>
  refine wpAny_in_of (YR B.prog B.w (af x) i) lo (er.mapOf g) ?_;exact(er.has▸h1) _
theorem z7(R:Rel B V Z s.heap){a b:P}{c d:Wm}{z:Bool}(f:VR B s.heap V a c)(h:VR B s.heap V b d)(hz:tW Z a b=Wb z)(h1:∀tk,Q (.bool (!z)) {s with toks:=tk}):
  Ws (Wt B.prog B.w) A (aa7 .NotIn c d) Q E s:=by
 obtain⟨x,i,rfl,hc⟩:=EU R f h hz;clear R f h hz;cases hc with
 |sq ad vs ss ht q=>
  clear a b;rcases ht with ht|ht
  ·exact notin_tuple_strs ht q (h1 s.toks)
  ·exact notin_list_strs ht q (h1 s.toks)
 |st cc y tb e=>
  refine P.notIn_str ?_;rw[e,adJ];exact h1 s.toks
 |dc ad es j k V' lo er g=>
  refine wpAny_notIn_of (YR B.prog B.w (af x) i) lo (er.mapOf g) ?_;exact(er.has▸h1) _
theorem qg:∀{p:P}{v:Wm},VR B h V p v->(v==.none)=p.isNone
 |.none,v,x=>by subst x;rfl
 |.bool _,v,x=>by subst x;rfl
 |.int _,v,x=>by obtain⟨_,rfl⟩:=x;rfl
 |.str _,v,x=>by obtain⟨_,rfl⟩:=x;rfl
 |.tup _,v,x=>by obtain⟨_,_,rfl,_⟩:=x;rfl
 |.list _,v,x=>by obtain⟨_,_,rfl,_⟩:=x;rfl
 |.ref _,v,x=>by obtain⟨_,rfl,_⟩:=x;rfl
 |.glob _,v,x=>by exact x.2.2
 |.clo _ _ _ _,v,x=>by obtain⟨_,_,_,rfl,_⟩:=x;rfl
 |.exc _ _ _,v,x=>by obtain⟨_,_,_,_,_,_,_,rfl,_⟩:=x;rfl
theorem wA{M:acN}{op:abr}{f:Int->Int->Bool}{x y:P}{a b:Wm}{z:Bool}(c:VR B s.heap V x a)(d:VR B s.heap V y b)(hz:(x.i?.bind fun x=>y.i?.bind fun y=>Wb (f x y))=Wb z)(k:∀i j t u,z=f i j->Ws M A (aa7 op (.int i t) (.int j u)) Q E s):Ws M A (aa7 op a b) Q E s:=by
 refine bS hz fun i h1 hz=>bS hz fun j e hz=>?_;rw[P.i_is h1] at c;rw[P.i_is e] at d;obtain⟨t,rfl⟩:=c;obtain⟨u,rfl⟩:=d;exact k i j t u (Wi hz).symm
theorem z8{M:acN}{op:abr}{y:P}{b a:Wm}{z w:Bool}(c:VR B s.heap V y a)(hz:MM w y=Wb z)(k:z=w->Ws M A (aa7 op b .none) Q E s):Ws M A (aa7 op b a) Q E s:=by
 cases y with
 |none=>rw[show a=.none from c];exact k (Wi hz).symm
 |_=>exact aH hz
theorem z9(m:aJ B)(R:Rel B V Z s.heap)(k:A.units+40<acj){op:abr}{a b:P}{g h:Wm}{z:Bool}(d:VR B s.heap V a g)(c:VR B s.heap V b h)(hz:dk op a b Z=Wb z)(h1:∀tk,Q (.bool z) {s with toks:=tk}):
  Ws (Wt B.prog B.w) A (aa7 op g h) Q E s:=by
 cases op with
 |Eq=>exact(wy R 5 A a b g h z (Xi (W0 _ 5) k) hz d c).r E Q (h1 s.toks)
 |NotEq=>
  obtain⟨l,i,rfl⟩:=WD.mp hz;exact(wy R 5 A a b g h l (Xi (W0 _ 5) k) i d c).n E Q (h1 s.toks)
 |Lt=>
  induction a using Mine.P.casesOn with
  |int x=>
   refine bS hz fun y j hz=>?_;rw[P.i_is j] at c;rw[<-Wi hz] at h1;obtain⟨t,rfl⟩:=d;obtain⟨u,rfl⟩:=c;exact P.lt_int (h1 s.toks)
  |str x=>
   refine bS hz fun y j hz=>?_;rw[P.s_is j] at c;rw[<-Wi hz] at h1;obtain⟨t,rfl⟩:=d;obtain⟨u,rfl⟩:=c;refine P.lt_str ?_;have e:decide ((af x).cps.toList< (af y).cps.toList)=fF x y:=(uN (bA x) (bA y)).symm;rw[e];exact h1 s.toks
  |_=>exact aH hz
 |Gt=>exact wA (f:=fun x y=>decide (y<x)) d c hz fun x y t u e=>P.gt_int (e▸h1 s.toks)
 |GtE=>exact wA (f:=fun x y=>decide (y<=x)) d c hz fun x y t u e=>P.ge_int (e▸h1 s.toks)
 |LtE=>exact aH hz
 |Is=>exact z8 c hz fun e=>is_none (by rw[qg d,<-e];exact h1 s.toks)
 |IsNot=>exact z8 c hz fun e=>isNot_none (by rw[qg d,<-e];exact h1 s.toks)
 |In=>exact Kf R d c hz h1
 |NotIn=>
  obtain⟨l,i,rfl⟩:=WD.mp hz;exact z7 R d c i h1
end
section
variable{α β:Type}{B:ao}{r:dN}{c:Cx}{m:VE}{Z Z1:St}{A:WN}{s s1:Wl}{V V1:aG}{env:Env}{sc:Sc}{Q:Wm->Wl->Prop}{E:Wm->Wl->Prop}
theorem wB(op:abr):∀(e:IE),behindInMarks op (aV e)=We:=by intro e;cases e<;>rfl
theorem Amb.line(a:Amb B A c env V s.heap):A.units+40<acj:=Wj (Y2 (W0 A.units (40*c.d)) (show 41<=100 from Wg rfl)) a.un
theorem G4{op:abr}{l e:IE}{p:Nat}(g:aJ B)(S:SimE B r)(b:bj sc (.cmp op l e p)=Wd)(a:At B A c sc m env V Z s.heap)(F:Fin B no (VR B) V s (aQ B.T r c (.cmp op l e p) m Z) Q E):Ws (Wt B.prog B.w) A (eval (aV (.cmp op l e p)) env) Q E s:=by
 have b:(bj sc l&&bj sc e)=Wd:=b;refine wpAny_Compare1 (S.use (aa b) a F fun q Z1 V1 s1 v st h hv i=>S.use (ay b) h i fun j Z2 u s2 iv f d n F2=>?_) (wB op e);obtain⟨w,o,t⟩:=Fin.ofO F2;exact z9 g d.rel d.amb.line (hv.step f.k f.le) n o fun tk=>t.ok (bM _ _ _) d.rel rfl
theorem Dq{op:abr}{l e:IE}{p:Nat}{Q:Bool->Wl->Prop}{d:Sem Wm}(t:aJ B)(S:SimE B r)(g:bj sc (.cmp op l e p)=Wd)(a:At B A c sc m env V Z s.heap)
  (F:Fin B no ra V s ((aQ B.T r c (.cmp op l e p) m Z).bind fun v Z=>match v with|.bool b=>.ok b Z|_=>.no) Q E):Ws (Wt B.prog B.w) A (abA (aV (.cmp op l e p)) env d) Q E s:=by
 have g:(bj sc l&&bj sc e)=Wd:=g;unfold aQ at F;rw[aT] at F;refine wpAny_isTrue_Compare1 (S.use (aa g) a F fun q Z1 V1 s1 v st u hv i=>?_) (wB op e);rw[aT] at i;refine S.use (ay g) u i fun j Z2 D s2 iv n h x F2=>?_;have e2:∀(o:Option Bool)(f:P->St->R Bool),(ofO o fun z=>R.ok (P.bool z) Z2).bind f=ofO o fun z=>f (.bool z) Z2:=fun o f=>by induction o<;>rfl
 rw[e2] at F2;obtain⟨w,y,C⟩:=Fin.ofO F2;exact z9 t h.rel h.amb.line (hv.step n.k n.le) x y fun tk=>Yz (Fin.ok C (bM _ _ _) h.rel rfl)
theorem Dr{e:IE}{p:Nat}{Q:Bool->Wl->Prop}{d:Sem Wm}(ST:SimT B r)(f:bj sc (.not e p)=Wd)(a:At B A c sc m env V Z s.heap)
  (F:Fin B no ra V s ((aQ B.T r c (.not e p) m Z).bind fun v Z=>match v with|.bool b=>.ok b Z|_=>.no) Q E):Ws (Wt B.prog B.w) A (abA (aV (.not e p)) env d) Q E s:=by
 unfold aQ at F;rw[aT] at F;exact wpAny_isTrue_Not (ST.use f a F fun b Z1 V1 s1 st g h=>Fin.ok h (.refl _ _ _) g.rel rfl)
theorem G5{op:aaf}{e:IE}:rT r c m op [e] Z=(o3 r c e m Z).bind fun b Z=>.ok (.bool b) Z:=rfl
theorem G6{op:aaf}{e a:IE}{es:List IE}:rT r c m op (e::a::es) Z=(o3 r c e m Z).bind fun b Z=>match op,b with
  |.And,We=>.ok (.bool We) Z
  |.Or,Wd=>.ok (.bool Wd) Z
  |_,_=>rT r c m op (a::es) Z:=rfl
theorem Aa(ST:SimT B r){op:aaf}{Q:Bool->Wl->Prop}:∀(es:List IE){Z:St}{s:Wl}{V:aG},bU sc es=Wd->At B A c sc m env V Z s.heap->Fin B no ra V s ((rT r c m op es Z).bind fun v Z=>match v with|.bool b=>.ok b Z|_=>.no) Q E->
  Ws (Wt B.prog B.w) A (allTrue op (bw es) env) Q E s:=by
 intro es
 induction es with
 |nil=>exact fun _ _ F=>F.elim
 |cons e es h=>
  intro Z s V g a F;have g:(bj sc e&&bU sc es)=Wd:=g
  induction es using Wv with
  |nil=>
   rw[G5] at F;rw[aT] at F
   induction op using Y1 with
   |And=>
    refine acb (ST.use (aa g) a F fun b Z1 V1 s1 st d f=>?_)
    induction b using Wn with
    |true=>exact wpAny_allTrue_And_nil (Fin.ok f (.refl _ _ _) d.rel rfl)
    |false=>exact Fin.ok f (.refl _ _ _) d.rel rfl
   |Or=>
    refine acw (ST.use (aa g) a F fun b Z1 V1 s1 st d f=>?_)
    induction b using Wn with
    |true=>exact Fin.ok f (.refl _ _ _) d.rel rfl
    |false=>exact wpAny_allTrue_Or_nil (Fin.ok f (.refl _ _ _) d.rel rfl)
  |cons i es=>
   rw[G6] at F;rw[aT] at F
   induction op using Y1 with
   |And=>
    refine acb (ST.use (aa g) a F fun b Z1 V1 s1 st d f=>?_)
    induction b using Wn with
    |true=>exact h (ay g) d f
    |false=>exact Fin.ok f (.refl _ _ _) d.rel rfl
   |Or=>
    refine acw (ST.use (aa g) a F fun b Z1 V1 s1 st d f=>?_)
    induction b using Wn with
    |true=>exact Fin.ok f (.refl _ _ _) d.rel rfl
    |false=>exact h (ay g) d f
theorem Ds{t b o:IE}{p:Nat}{Q:Bool->Wl->Prop}{d:Sem Wm}(ST:SimT B r)(f:bj sc (.ite t b o p)=Wd)(a:At B A c sc m env V Z s.heap)
  (F:Fin B no ra V s ((aQ B.T r c (.ite t b o p) m Z).bind fun v Z=>match v with|.bool b=>.ok b Z|_=>.no) Q E):Ws (Wt B.prog B.w) A (abA (aV (.ite t b o p)) env d) Q E s:=by
 have f:((bj sc t&&bj sc b) &&bj sc o)=Wd:=f;unfold aQ at F;rw[aT] at F;show Ws _ _ (abA (.IfExp (aV t) (aV b) (aV o) (ag p)) env d) _ _ _;rw[arm_isTrue_IfExp];refine Wh (ST.use (aa (aa f)) a F fun z Z1 V1 s1 st e g=>?_)
 induction z using Wn with
 |true=>exact ST _ _ _ _ _ _ _ _ _ _ _ (ay (aa f)) e.scr e.rel e.envr e.amb g
 |false=>exact ST _ _ _ _ _ _ _ _ _ _ _ (ay f) e.scr e.rel e.envr e.amb g
theorem xQ{e:IE}{Q:Bool->Wl->Prop}{d:Sem Wm}(a:At B A c sc m env V Z s.heap)
  (F:Fin B no ra V s ((aQ B.T r c e m Z).bind fun v Z=>match v with|.bool b=>.ok b Z|_=>.no) Q E)
  (h:∀Q,Fin B no (VR B) V s (aQ B.T r c e m Z) Q E->Ws (Wt B.prog B.w) A d Q E s)
  (g:abA (aV e) env d=(do let v <-d;Y5 (aV e).pos;YW [v] (truthy v))):Ws (Wt B.prog B.w) A (abA (aV e) env d) Q E s:=by
 refine wpAny_isTrue_value (h _ (F.bindE fun p Z1 V1 s1 v st rl hv f=>?_)) g
 induction p using Mine.P.casesOn with
 |bool b=>subst hv;exact Yz (Fin.ok f (.refl _ _ _) rl rfl)
 |_=>exact f.elim
theorem nV{i:Int}(h:j4 i=Wd):adc i<=64:=by
 unfold adc;split
 ·exact Xz _
 ·rename_i hz;have hz:i≠0:=by simpa using hz
  refine(fun n h1 a=>(aec a).mpr h1) _ ?_ (Int.natAbs_ne_zero.mpr hz);unfold j4 at h;clear hz;clear hz;split at h
  ·exact Wg h
  ·exact Wg h
theorem uP{k:Nat}(h:k<1000000)(x:Int):aaV x (YJ k+1)=We:=by
 unfold aaV;have h1:(YJ k+1:Int).natAbs=k+1:=rfl;have a:(k+1).log2<20:=(aec (by exact Yc _)).mpr (Xi h (Wg rfl));have b:¬ (if(YJ k+1:Int)==0 then 0 else(YJ k+1:Int).natAbs.log2 / 30+1) >300:=by
  rw[h1];split
  ·exact nofun
  ·rw[abU (YQ a (Wg rfl))];exact nofun
 show(decide _&&_)=We;rw[decide_eq_false b];rfl
theorem Dt{l b:Addr}{vs ws:List Wm}(g:s.heap.IsList l vs.toArray)(i:s.heap.IsList b ws.toArray)(j:vs.length+ws.length<=Ys)
  (h:Q (.ref s.heap.objs.size) {s with heap:=s.heap.push {cls:=.type "list",data:=.seq (vs++ws).toArray}}):Ws (Wt B.prog B.w) A (acV .Add (.ref l) (.ref b)) Q E s:=by
 obtain⟨⟨r,k,t,m⟩,a,e1,n,c⟩:=g;obtain⟨⟨k2,o,u,p⟩,d,e2,q,f⟩:=i;simp only at e1 c e2 f;subst e1 c e2 f;have e:vs.toArray++ws.toArray=(vs++ws).toArray:=by simp
 rw[<-e] at h;exact acc ⟨_,a,rfl⟩ ⟨_,d,rfl⟩ noFill_list_add seq_list_add PySem.F.slot_list_add PySem.F.entry_list_add (PySem.F.args_list_add_2 _ _) (list_addW l b vs.toArray ws.toArray n q k o m p j) ⟨a,d,h⟩
theorem Du{t b:Addr}{vs ws:List Wm}(ht:aaM s.heap t vs.toArray)(o:aaM s.heap b ws.toArray)(p:vs.length+ws.length<=Ys)
  (h0:vs=[]->Q (.ref b) s) (h1:ws=[]->Q (.ref t) s)
  (h:Q (.ref s.heap.objs.size) {s with heap:=s.heap.push {cls:=.type "tuple",data:=.seq (vs++ws).toArray}}):Ws (Wt B.prog B.w) A (acV .Add (.ref t) (.ref b)) Q E s:=by
 obtain⟨⟨q,d,r,f⟩,a,e1,g,m⟩:=ht;obtain⟨⟨k2,i,u,j⟩,c,e2,k,n⟩:=o;simp only at e1 m e2 n;subst e1 m e2 n;have e:vs.toArray++ws.toArray=(vs++ws).toArray:=by simp
 by_cases hv:vs=[]
 ·exact acc ⟨_,a,rfl⟩ ⟨_,c,rfl⟩ abX adl aaw aal (aaa _ _) (tuple_addW0 t b vs.toArray ws.toArray g k d i f j (by simp[hv])) ⟨a,c,h0 hv⟩
 ·by_cases l:ws=[]
  ·exact acc ⟨_,a,rfl⟩ ⟨_,c,rfl⟩ abX adl aaw aal (aaa _ _) (tuple_addW1 t b vs.toArray ws.toArray g k d i f j (by simpa using hv) (by simp[l])) ⟨a,c,h1 l⟩
  ·exact acc ⟨_,a,rfl⟩ ⟨_,c,rfl⟩ abX adl aaw aal (aaa _ _) (tuple_addW2 t b vs.toArray ws.toArray g k d i f j (by simpa using hv) (by simpa using l) (by simpa using p)) ⟨a,c,(e▸h)⟩
theorem sG:∀(l t:List Nat),b7 (l++t)=b7 l+b7 t*256 ^ l.length:=by
 intro a
 induction a with
 |nil=>
  intro t;exact((XW _).trans (Nat.mul_one _)).symm
 |cons c l b=>
  intro t;show c+256*b7 (l++t)=(c+256*b7 l)+b7 t*256 ^ (l.length+1);rw[b t,aeZ,Nat.mul_add,YE]
  congr 2
  rw[ae0 256,Nat.mul_assoc]
noncomputable def Signs:List Nat->Prop
 | []=>True
 | [c]=>c<256/\c≠0
 |c::d::r=>c<256/\Signs (d::r)
theorem Signs.tail{c:Nat}{r:List Nat}(h:Signs (c::r)):Signs r:=by cases r with|nil=>trivial|cons d r=>exact h.2
theorem Signs.head{c:Nat}{r:List Nat}(h:Signs (c::r)):c<256:=by cases r with|nil=>exact h.1|cons d r=>exact h.1
theorem Signs.pos:∀{l:List Nat},Signs l->l≠ []->0<b7 l
 | [],_,h=>absurd rfl h
 | [c],h,_=>by have:=h.2;show 0<c+256*0;exact Nat.pos_of_ne_zero this
 |c::d::r,h,_=>by have:=Signs.pos h.2 nofun;exact ads this (Wj (Nat.le_mul_of_pos_left _ (XU 255)) (Yy _ c))
theorem xR:∀(k:Nat)(l:List Nat),Signs l->b7 l<2 ^ k->kZ k (b7 l)=l:=by
 intro b
 induction b with
 |zero=>
  intro l h a
  induction l using Wv with
  |nil=>rfl
  |cons c r=>exact absurd (h.pos (by simp)) (aaC (abu a))
 |succ k d=>
  intro l h a
  induction l using Wv with
  |nil=>rfl
  |cons c r=>
   have hp:=h.pos (by simp);rw[mP];have h0:Wf (b7 (c::r)) 0=We:=by
    cases q:Wf (b7 (c::r)) 0 with
    |false=>rfl
    |true=>exact absurd (b9 q) (Y4 hp)
   rw[h0];have hc:=h.head;have e:b7 (c::r)=c+256*b7 r:=rfl;have e1:adA (b7 (c::r)) 256=c:=(Nat.add_mul_mod_self_left c 256 (b7 r)).trans (adX hc);have e2:aaZ (b7 (c::r)) 256=b7 r:=(Nat.add_mul_div_left c (b7 r) (XU 255)).trans (by rw[abU hc,XW]);rw[e1,e2];show c::kZ k (b7 r)=c::r;rw[d r h.tail (e2▸c3 a)]
theorem sH{l:List Nat}(h:Signs l):bA (b7 l)=l:=xR _ l h abN
theorem uQ:∀(k n:Nat),n<2 ^ k->Signs (kZ k n):=by
 intro f
 induction f with
 |zero=>
  intro n _;exact trivial
 |succ k g=>
  intro n b;rw[mP]
  induction h0:Wf n 0 using Wn with
  |true=>trivial
  |false=>
   have c:=g (aaZ n 256) (c3 b);have a:=pV k (aaZ n 256) (c3 b)
   induction hd:kZ k (aaZ n 256) using Wv with
   |nil=>
    rw[hd] at a;have a:0=n / 256:=a;have h:n≠0:=fun e=>by subst e;simp at h0
    exact⟨aey _ (by decide),fun z=>h ((Nat.div_add_mod n 256).symm.trans (by rw[<-a,show n % 256=0 from z]))⟩
   |cons d r=>rw[hd] at c;exact⟨aey _ (by decide),c⟩
theorem qi(n:Nat):Signs (bA n):=uQ _ n abN
theorem Signs.append:∀{l t:List Nat},Signs l->Signs t->Signs (l++t)
 | [],_,_,h=>h
 | [c],t,h,a=>by
  induction t using Wv with
  |nil=>exact h
  |cons d r=>exact⟨h.1,a⟩
 |c::d::r,t,h,a=>⟨h.1,Signs.append (l:=d::r) h.2 a⟩
theorem Dv(x y:Nat):bA (tR x y)=bA x++bA y:=by
 have e:tR x y=b7 (bA x++bA y):=by rw[sG,gO,gO];rfl
 rw[e,sH ((qi x).append (qi y))]
theorem Dw(x y:Nat):af (tR x y)=af x++af y:=by
 show(⟨(bA (tR x y)).toArray⟩:Str)=_;rw[Dv];show _=(⟨(bA x).toArray++(bA y).toArray⟩:Str);simp
theorem VRs.append{h:Heap}:∀{ps c:List P}{vs ws:List Wm},VRs B h V ps vs->VRs B h V c ws->VRs B h V (ps++c) (vs++ws):=by
 intro ps
 induction ps with
 |nil=>exact fun x y=>x▸y
 |cons p ps d=>
  intro c vs ws x y;obtain⟨v,r,e,o,a,b⟩:=x;exact e▸⟨v,_,rfl,o,a,d b y⟩
theorem VRs.nil_of{h:Heap}{ps:List P}(x:VRs B h V ps []):ps=[]:=by cases ps with|nil=>rfl|cons p ps=>obtain⟨v,r,e,_⟩:=x;cases e
theorem Ab(k:Nat):¬ (YJ (k+1)==0)=Wd:=by
 have:(YJ (k+1))≠0:=fun h=>Yc k (aeO h);simpa using this
theorem sI{M:acN}{op:abI}{f:Int->Int->Option P}{x y w:P}{a b:Wm}(c:VR B s.heap V x a)(d:VR B s.heap V y b)(hz:w7 f x y=Wb w)(k:∀i j t u,f i j=Wb w->Ws M A (acV op (.int i t) (.int j u)) Q E s):Ws M A (acV op a b) Q E s:=by
 refine bS hz fun i h1 hz=>bS hz fun j e hz=>?_;rw[P.i_is h1] at c;rw[P.i_is e] at d;obtain⟨t,rfl⟩:=c;obtain⟨u,rfl⟩:=d;exact k i j t u hz
theorem G7(G:aJ B)(a:At B A c sc m env V Z s.heap){op:abI}{x y w:P}{C D:Wm}(f:VR B s.heap V x C)(d:VR B s.heap V y D)(hz:j5 op x y Z=Wb w)
  (F:Fin B no (VR B) V s (.ok w Z) Q E):Ws (Wt B.prog B.w) A (acV op C D) Q E s:=by
 have int:∀i:Int,w=.int i->(Made.int i).post Q s:=fun i e=>by subst e;exact F.ok (bM _ _ _) a.rel Ij
 have q:∀{l z:List P}{ad o:Addr}{vs ws:List Wm},VRs B s.heap V l vs->VRs B s.heap V z ws->s.heap.IsList ad vs.toArray->s.heap.IsList o ws.toArray->w=.list (l++z)->aq (l.length+z.length)=Wd->Ws (Wt B.prog B.w) A (acV .Add (.ref ad) (.ref o)) Q E s:=by
  intro l z ad o vs ws h1 b r I J hf;clear G f d hz int;clear op x y C D;subst J;exact Dt r I (by rw[h1.length,b.length];exact c4 (bg hf)) (F.ok (bV V s _ s.toks) (a.rel.push _) (ik a (h1.append b) s.toks))
 clear G;cases op with
 |Add=>
  replace hz:IM x y Z=Wb w:=hz
  induction x using Mine.P.casesOn with
  |int i=>
   refine bS hz fun j h1 b=>?_;rw[P.i_is h1] at d;clear a hz q h1;obtain⟨t,rfl⟩:=f;clear y;obtain⟨u,rfl⟩:=d;exact AutoIntOps.add_0 (int _ (Wi b).symm)
  |str i=>
   refine bS hz fun j h1 b=>pY b fun hf b=>?_;rw[P.s_is h1] at d;clear hz int q h1;obtain⟨t,rfl⟩:=f;clear y;obtain⟨u,rfl⟩:=d;exact SB.add (fun t k=>((Wi b)▸F).ok (bM _ _ _) a.rel ⟨t,by rw[Dw]⟩) (by rw[kF,kF];exact c4 (bg hf))
  |list l=>
   refine bS hz fun j h1 b=>pY b fun hf b=>?_;rw[P.l_is h1] at d;clear a hz int;obtain⟨ad,vs,rfl,_,r,h1⟩:=f;obtain⟨o,ws,rfl,_,v,h⟩:=d;exact q h1 h r v (Wi b).symm hf
  |tup l=>
   refine bS hz fun j h1 b=>pY b fun hf b=>?_;rw[P.t_is h1] at d;rw[<-Wi b] at F;have K:=f;have L:=d;clear hz int q b;obtain⟨ad,vs,rfl,_,r,h1⟩:=f;clear b;clear w;obtain⟨o,ws,rfl,_,v,h⟩:=d;refine Du r v (by rw[h1.length,h.length];exact c4 (bg hf)) (fun e=>?_) (fun e=>?_) (F.ok (bV V s _ s.toks) (a.rel.push _) (lA a (h1.append h) s.toks))
   ·subst e;exact(h1.nil_of▸F).ok (.refl _ _ _) a.rel L
   ·subst e;rw[h.nil_of,X7] at F;exact F.ok (.refl _ _ _) a.rel K
  |ref n=>
   refine bS hz fun j h1 b=>bS b fun x H b=>pY b fun hf b=>?_;rw[P.l_is h1] at d;clear hz int;obtain⟨cc,e1,rfl,_,vs,k,g,h1⟩:=a.rel.ref f (iF H) (by simp);clear f H e1;obtain⟨o,ws,rfl,_,v,h⟩:=d;exact q h1 h ⟨_,g,rfl,_,rfl⟩ v (Wi b).symm hf
  |_=>exact aH hz
 |Sub=>
  refine sI f d hz fun x y t u hz=>?_;exact AutoIntOps.sub_0 (int _ (Wi hz).symm)
 |Mult=>
  refine sI f d hz fun x y t u hz=>pY hz fun hs hz=>AutoIntOps.mul_0 (int _ (Wi hz).symm) ?_;clear f d t u hz;clear hz;clear hz;rcases XR.mp hs with hs|hs
  ·exact IntMulOk.of_left (nV hs)
  ·exact IntMulOk.of_right (nV hs)
 |Mod=>
  refine sI f d hz fun x y t u hz=>bS hz fun k p hz=>?_;exact(yT p)▸(AutoIntOps.mod_1 (Ab k) (int _ (Wi hz).symm))
 |FloorDiv=>
  refine sI f d hz fun x y t u hz=>bS hz fun k p hz=>pY hz fun M hz=>?_;rw[yT p];refine AutoIntOps.floordiv_1 (Ab k) ?_ (int _ (Wi hz).symm);have:=uP (Wg M) x;rw[show YJ (k+1)=YJ k+1 from rfl,this];simp
 |Pow=>
  refine sI f d hz fun x y t u hz=>bS hz fun N h1 hz=>bS hz fun O b hz=>pY hz fun p hz=>?_;rw[yU h1,yU b,b9 (aa p),b9 (ay p)];exact AutoIntOps.pow_4 (by decide) (by decide) (by decide) (by decide) (by decide) (int _ (Wi hz).symm)
 |_=>exact aH hz
theorem G8{op:abI}{l e:IE}{p:Nat}(f:aJ B)(S:SimE B r)(b:bj sc (.bin op l e p)=Wd)(a:At B A c sc m env V Z s.heap)(F:Fin B no (VR B) V s (aQ B.T r c (.bin op l e p) m Z) Q E):Ws (Wt B.prog B.w) A (eval (aV (.bin op l e p)) env) Q E s:=by
 have b:(bj sc l&&bj sc e)=Wd:=b;refine wpAny_BinOp (S.use (aa b) a F fun q Z1 V1 s1 v st g hv h=>S.use (ay b) g h fun j Z2 u s2 iv d i n F2=>?_);obtain⟨w,o,t⟩:=Fin.ofO F2;exact G7 f i (hv.step d.k d.le) n o t
end
section
variable{α β:Type}{B:ao}{r:dN}{c:Cx}{m:VE}{Z Z1:St}{A:WN}{s s1:Wl}{V V1:aG}{env:Env}{sc:Sc}{Q:Wm->Wl->Prop}{E:Wm->Wl->Prop}
theorem ER.put{h:Heap}{x:Nat}{p:P}{v:Wm}{t:Tok}(hv:VR B h V p v)(g:p.isOdd=We):∀{es:List (Nat×P)}{c:List WY},ER B h V es c->ER B h V (Mine.put x p es) (putL (af x) (W4 B.w.params (af x)) (.str (af x) t) v c):=by
 intro m
 induction m with
 |nil=>
  intro c e;cases e;exact⟨_,[],rfl,rfl,⟨t,rfl⟩,g,hv,rfl⟩
 |cons a es n=>
  intro c e;obtain⟨d,r,rfl,i,⟨tk,f⟩,j,k,ar⟩:=e;have b:d.key.isStr (af x)=Wf a.1 x:=by rw[f,abd];exact eJ x a.1 tk
  rw[show Mine.put x p (a::es)=cond (Wf a.1 x) ((x,p)::es) (a::Mine.put x p es) from rfl];unfold putL;rw[b];clear b
  induction l:Wf a.1 x using Wn with
  |true=>
   have e:=b9 l;clear j k l;exact e▸⟨_,r,rfl,i,⟨tk,f⟩,g,hv,ar⟩
  |false=>
   exact⟨d,_,rfl,i,⟨tk,f⟩,j,k,n ar⟩
theorem l4(x:Str)(hs:Int)(a v:Wm):∀b:List WY,(putL x hs a v b).length<=b.length+1:=by
 intro d
 induction d with
 |nil=>
  simp[putL]
 |cons e r c=>
  have:=c;unfold putL;split
  ·exact Xp _
  ·exact W9 c
theorem sJ{α:Type}(p:α->Bool):∀l:List α,(l.findIdx? p).isSome=(l.find? p).isSome:=by
 intro b
 induction b with
 |nil=>
  exact rfl
 |cons a r c=>
  rw[List.findIdx?_cons,aae]
  induction p a using Wn with
  |true=>rfl
  |false=>simpa using c
theorem jY{d:Addr}{x:Nat}{t:Tok}{v:Wm}{es:List (Nat×P)}{c:List WY}{n:Nat}{Q:Unit->Wl->Prop}(D:s.heap.get? d=Wb (XE c n))(er:ER B s.heap V es c)(u:es.length<=10000)
  (h:∀h',(∀b o,s.heap.get? b=Wb o->b≠d->h'.get? b=Wb o)->h'.get? d=Wb (XE (putL (af x) (W4 B.w.params (af x)) (.str (af x) t) v c) (c6 n x es))->Q () {s with heap:=h',toks:=s.toks+1}):
  Ws (Wt B.prog B.w) A (aby d (.str (af x) t) v) Q E s:=by
 have l:=YR B.prog B.w (af x) t;have C:KeysOf (strKind B.prog B.w) c.toArray:=fun e F=>by
  obtain⟨y,t,e1,e2⟩:=er.keys (x:=0) e (aaN.mpr F);exact⟨af y,by rw[e1];exact YR B.prog B.w (af y) t,e2⟩
 have g:∀f,∀b o,s.heap.get? b=Wb o->b≠d->(s.heap.update d f).get? b=Wb o:=fun f b o e z=>by rw[Xd _ _ (Ne.symm z)];exact e
 have j:=putL_find (af x) (W4 B.w.params (af x)) (.str (af x) t) v c;have G:(c.toArray.findIdx? fun e=>(strKind B.prog B.w).is (af x) e.key)=c.findIdx? fun e=>e.key.isStr (af x):=by
  rw[List.findIdx?_toArray]
  congr 1
  funext e
  rw[abd];rfl
 unfold aby;refine W6 (Wh ((strKind B.prog B.w).pyHash l ?_));unfold dictSetHashed;refine W6 (Wh (abx (s:={s with toks:=s.toks+1}) l D rfl C ?_));have k:c6 n x es=if(c.findIdx? fun e=>e.key.isStr (af x)).isSome then n else n+1:=by
  have q:=er.find x;unfold c6 has;unfold abe at q;rw[abf] at q;have e2:(fun e:WY=>Xm (af x) e.key)=fun e=>e.key.isStr (af x):=funext fun e=>(abd (af x) e.key).symm;rw[e2] at q;rw[(sJ _ _)]
  induction m:Mine.get x es using Wo with
  |none=>
   rw[m] at q;have:(c.find? fun e=>e.key.isStr (af x))=Wc:=by
    induction z:c.find? fun e=>e.key.isStr (af x) using Wo with
    |none=>rfl
    |some e=>dsimp only at q;rw[z] at q;exact rG q
   rw[this];rfl
  |some p=>
   obtain⟨_,v,hv,_⟩:=(m▸q)
   induction z:c.find? fun e=>e.key.isStr (af x) using Wo with
   |none=>rw[z] at hv;exact aH hv
   |some e=>rfl
 rw[G]
 induction r:c.findIdx? fun e=>e.key.isStr (af x) using Wo with
 |some i=>
  rw[r] at j k;refine Wh (abj (Wh (wpAny_updateDict (s:={s with toks:=s.toks+1}) D rfl (wpAny_point (h _ (g _) ?_)))));rw[XM _ D rfl];rw[<-j,k];exact congrArg (fun a=>Wb ({cls:=.type "dict",data:=.dict a n}:Obj)) (List.modify_toArray ..)
 |none=>
  rw[r] at j k;refine Wh (abj (wpAny_updateDictKeys (hz:=(by rw[WP,er.length];exact c4 u)) (s:={s with toks:=s.toks+1}) D rfl (h _ (g _) ?_)));rw[XM _ D rfl];rw[<-j,k];exact congrArg (fun a=>Wb ({cls:=.type "dict",data:=.dict a (n+1)}:Obj)) (List.push_toArray ..)
theorem uS(x:Nat)(p:P):∀es:List (Nat×P),(Mine.put x p es).length<=es.length+1:=by
 intro b
 induction b with
 |nil=>
  exact Xk 1
 |cons c r a=>
  obtain⟨y,w⟩:=c;have:=a;rw[rR];cases Wf y x
  ·exact W9 a
  ·exact Xp _
theorem uT(b:aJ B)(a:At B A c sc m env V Z s.heap){X:Addr->Prop}(F:Fin B X (VR B) V s (.ok (.ref Z.length) (Z++[.dict [] 0])) Q E):Ws (Wt B.prog B.w) A newDict Q E s:=by
 have h1:=aC s.heap;refine Wh (acW (Wq ?_));refine F.ok (V':=V++[Wb (s.heap.objs.size,s.heap.objs.size)]) ⟨.of_grow fun _ _ e=>Wr _ e,Le.snoc h1 h1,fun _ o e=>⟨o,Wr _ e,id⟩,rfl,rfl,rfl,fun _ _ _ e _ _=>Wr _ e,fun _ m _ n=>⟨m,n.push _⟩⟩ ?_ ?_
 ·refine a.rel.alloc (fun _ _ e=>Wr _ e) h1 h1 (eI b a) (eI b a) ⟨rfl,[],0,WW _ rfl,rfl,rfl⟩
 ·refine J6 (.inl ⟨(s.heap.objs.size,s.heap.objs.size),?_,rfl⟩);rw[aK,<-a.rel.len];simp
end
section
variable{α β:Type}{B:ao}{r:dN}{c:Cx}{m:VE}{Z Z1:St}{A:WN}{s s1:Wl}{V V1:aG}{env:Env}{sc:Sc}{Q:Wm->Wl->Prop}{E:Wm->Wl->Prop}
noncomputable def VRp(B:ao)(h:Heap)(V:aG):List (Nat×P)->List (Wm×Wm)->Prop
 | [],vs=>vs=[]
 |e::es,vs=>∃t w r,vs=(.str (af e.1) t,w)::r/\e.2.isOdd=We/\VR B h V e.2 w/\VRp B h V es r
theorem VRp.step{h h':Heap}{V':aG}(k:Keep (own V) h h')(l:Le V h V'):∀{es:List (Nat×P)}{vs:List (Wm×Wm)},VRp B h V es vs->VRp B h' V' es vs:=by
 intro es
 induction es with
 |nil=>exact fun x=>x
 |cons e es c=>
  intro vs x;obtain⟨t,w,r,e,o,a,b⟩:=x;exact⟨t,w,r,e,o,VR.step k l _ a,c b⟩
theorem SimE.evd(S:SimE B r){pos:Pos}{X:Addr->Prop}{RC:Heap->aG->α->β->Prop}{Q:β->Wl->Prop}{Q':List (Wm×Wm)->Wl->Prop}:∀(ks vs:List IE){f:List (Nat×P)->St->R α}{Z:St}{s:Wl}{V:aG},bU sc ks=Wd->bU sc vs=Wd->
  At B A c sc m env V Z s.heap->Fin B X RC V s ((aQ.evd r c m ks vs Z).bind f) Q E->
  (∀ps Z1 V1 s1 pv,Stp no V s V1 s1->At B A c sc m env V1 Z1 s1.heap->VRp B s1.heap V1 ps pv->ps.length=ks.length->Fin B X RC V1 s1 (f ps Z1) Q E->Q' pv s1)->
  Ws (Wt B.prog B.w) A (evalPairs (pairTrees (xE ks) (bw vs) env pos)) Q' E s:=by
 intro ks
 induction ks generalizing Q' with
 |nil=>
  intro vs f Z s V _ _ a F k
  induction vs using Wv with
  |nil=>exact pairTrees_nil_walk (k [] Z V s [] (.refl _ _ _) a rfl rfl F)
  |cons=>exact F.elim
 |cons e ks l=>
  intro vs f Z s V b d a F k
  induction vs using Wv with
  |nil=>exact F.elim
  |cons i vs=>
   have b:(bj sc e&&bU sc ks)=Wd:=b;have d:(bj sc i&&bU sc vs)=Wd:=d;replace F:Fin B X RC V s (((r.ev c e m Z).bind fun n Z=>(r.ev c i m Z).bind fun w Z=>match(generalizing:=false) n with
    |.str s=>cond w.isOdd .no ((aQ.evd r c m ks vs Z).bind fun es Z=>.ok ((s,w)::es) Z)
    |_=>.no).bind f) Q E:=F
   rw[aT] at F;refine pairTrees_cons_walk (S.use (aa b) a F fun p Z1 V1 s1 v st j hv g=>?_);rw[aT] at g;refine S.use (aa d) j g fun q Z2 J s2 u o y z F2=>?_;clear j g F a
   induction p using Mine.P.casesOn with
   |str x=>
    clear Z1;obtain⟨t,e⟩:=hv;refine Fin.bn F2 fun C F2=>?_;rw[aT] at F2;exact l vs (ay b) (ay d) y F2 fun ps Z3 D s3 pv h G bI H I=>k ((x,q)::ps) Z3 D s3 ((v,u)::pv) ((st.trans o).trans h) G ⟨t,u,pv,by rw[e],C,z.step h.k h.le,bI⟩ (congrArg acF H) I
   |_=>exact F2.elim
theorem sL{d:Addr}{Q:PUnit->Wl->Prop}:∀(ps:List (Nat×P)){pv:List (Wm×Wm)}{s:Wl}{es:List (Nat×P)}{a:List WY}{n:Nat},
  own V d->s.heap.get? d=Wb (XE a n)->ER B s.heap V es a->VRp B s.heap V ps pv->es.length+ps.length<=10000->
  (∀h' f tk,(∀b o,s.heap.get? b=Wb o->b≠d->h'.get? b=Wb o)->h'.get? d=Wb (XE f (yN n es ps))->ER B h' V (tT es ps) f->Q afr {s with heap:=h',toks:=tk})->
  Ws (Wt B.prog B.w) A (storeAll d pv) Q E s:=by
 intro j
 induction j with
 |nil=>
  intro pv s es a n c D er hp hs h;clear c hs;cases hp;show Ws _ _ (pure afr) _ _ _;exact Wq (h s.heap a s.toks (fun _ _ e _=>e) D er)
 |cons k ps l=>
  obtain⟨x,p⟩:=k;intro pv s es a n c D er hp hs h;obtain⟨t,w,r,rfl,m,hv,hp⟩:=hp;unfold storeAll;rw[aaW];have F:es.length+ps.length+1<=10000:=by simpa [YE] using hs
  refine Wh (Wh (jY D er (by exact WZ hs) fun h' g k2=>Wq ?_));have i:Keep (own V) s.heap h':=fun b o e nb=>.refl (g b o e fun z=>nb (z▸c));refine l (s:={s with heap:=h',toks:=s.toks+1}) c k2 (ER.step i (.refl _ _) _ (er.put hv m)) (hp.step i (.refl _ _)) ?_ ?_
  ·have:=uS x p es;exact MK this hs
  ·intro q u tk v y C;exact h q u tk (fun b o e z=>v b o (g b o e z) z) y C
theorem i6:∀ks:List IE,(xE ks).length=ks.length
 | []=>rfl
 |_::ks=>by show(xE ks).length+1=_;rw[i6 ks];rfl
theorem l6:∀ks:List IE,(bw ks).length=ks.length:=by
 intro a
 induction a with
 |nil=>
  exact rfl
 |cons _ ks b=>
  show(bw ks).length+1=_;rw[b];rfl
theorem xS:∀ks:List IE,(xE ks).all (·.isSome)=Wd:=by
 intro a
 induction a with
 |nil=>
  exact rfl
 |cons _ ks b=>
  exact b
theorem Dx{ks vs:List IE}{p:Nat}(l:aJ B)(S:SimE B r)(f:bj sc (.dict ks vs p)=Wd)(a:At B A c sc m env V Z s.heap)(F:Fin B no (VR B) V s (aQ B.T r c (.dict ks vs p) m Z) Q E):Ws (Wt B.prog B.w) A (eval (aV (.dict ks vs p)) env) Q E s:=by
 have f:(((bU sc ks&&bU sc vs) &&Wf ks.length vs.length) &&XQ ks.length 15)=Wd:=f;have t:ks.length=vs.length:=b9 (ay (aa f));have h:ks.length<=15:=Wg (ay f)
 induction ks using Wv with
 |nil=>
  clear S f h;clear f
  induction vs using Wv with
  |nil=>
   show Ws _ _ (eval (.Dict [] [] (ag p)) env) _ _ _;rw[eval_Dict_empty];exact Wh (W7 (uT l a F))
  |cons _ _=>cases t
 |cons J ks=>
  have h1:=aC s.heap;generalize u:s.heap.objs.size=d at h1;have v:XJ<d:=u▸eI l a;refine wpAny_Dict_any (xS _) (by rw[i6,l6];exact t) (List.cons_ne_nil _ _) (by rw[i6];exact h) ?_;rw[u];generalize x:({s with heap:=s.heap.push {cls:=.type "dict",data:=.dict #[]}}:Wl)=s0;have st:Stp no V s (V++[Wb (d,d)]) s0:=x▸(⟨.of_grow fun _ _ e=>Wr _ e,Le.snoc h1 h1,fun _ o e=>⟨o,Wr _ e,id⟩,rfl,rfl,rfl,fun _ _ _ e _ _=>Wr _ e,fun _ m _ n=>⟨m,n.push _⟩⟩);have rl:Rel B (V++[Wb (d,d)]) (Z++[.dict [] 0]) s0.heap:=a.rel.alloc (x▸(fun _ _ e=>Wr _ e)) h1 h1 v v ⟨rfl,[],0,(by rw[<-x,<-u];exact WW _ rfl),rfl,rfl⟩;have y:ai (V++[Wb (d,d)]) Z.length=Wb (Wb (d,d)):=by rw[aK,<-a.rel.len];simp
  have a0:At B A c sc m env (V++[Wb (d,d)]) (Z++[.dict [] 0]) s0.heap:=a.step st rl;refine S.evd (J::ks) vs (aa (aa (aa f))) (ay (aa (aa f))) a0 (F.shift st) fun ps Z2 C s2 pv D j hp G F2=>?_;clear l S a F f t h1 v st rl a0;refine Fin.d0 F2 fun ep k H=>?_
  ·clear F2;have er:ai C Z.length=Wb (Wb (d,d)):=by
    clear f h hp G H;rcases D.le.more _ _ y with z|z
    ·exact z
    ·have w:=j.rel.objs Z.length;rw[z,k] at w;clear y ps pv D j k z;clear Z2;cases w
   clear f y D;obtain⟨_,K,n,g,q,I⟩:=j.rel.obj er k;have e:K=[]:=q;clear p k;obtain rfl:=I.symm;clear I;obtain rfl:=e.symm;refine sL ps (E:=E) (V:=C) ⟨_,_,er,.inl rfl⟩ g (es:=[]) rfl hp (by rw[G];simp at h ⊢;exact Wj h (Wg rfl)) fun h' L tk i k2 k3=>?_;refine Fin.ok H (s':={s2 with heap:=h',toks:=tk}) (V':=C) ⟨fun b o e nb=>.refl (i b o e fun z=>nb (.inl ⟨_,_,er,.inl z⟩)),.refl _ _,fun b o e=>?_,rfl,rfl,rfl,fun b o _ e _ nb=>i b o e fun z=>nb (.inl ⟨_,_,er,.inl z⟩),fun b m no nn=>⟨m,ir nn fun o M _=>.refl (i b o M fun z=>no ⟨_,_,er,.inl z⟩)⟩⟩ ?_ ?_
   ·by_cases z:b=d
    ·subst z;exact⟨_,k2,fun _ vs q=>by cases q⟩
    ·exact⟨o,i b o e z,id⟩
   ·exact j.rel.turn er (fun b o e z _=>i b o e z) ⟨rfl,L,_,k2,k3,rfl⟩
   ·exact J6 (.inl ⟨(d,d),er,rfl⟩)
end
noncomputable def NoSeq(h:Heap)(X:Addr->Prop):Prop:=∀b o,X b->h.get? b=Wb o->(∀xs n,o.data≠ .seq xs n)/\∀vs q t,o.data=.fields vs->vs[1]?≠Wb (.str q t)
section
variable{B:ao}{h h':Heap}{V V':aG}{Z:St}{X:Addr->Prop}
theorem NoSeq.seq(w:NoSeq h X){a:Addr}{o:Obj}{xs:Array Wm}{n:Nat}(e:h.get? a=Wb o)(d:o.data=.seq xs n):¬X a:=fun q=>(w a o q e).1 xs n d
theorem VR.stepQ(w:NoSeq h X)(k:Keep (fun b=>own V b\/X b) h h')(l:Le V h V')(p:P){v:Wm}(o:p.isOdd=We)(x:VR B h V p v):VR B h' V' p v:=VR.stepN w.seq k l p o x
theorem VRs.stepQ(w:NoSeq h X)(k:Keep (fun b=>own V b\/X b) h h')(l:Le V h V')(ps:List P){vs:List Wm}(x:VRs B h V ps vs):VRs B h' V' ps vs:=VRs.stepN w.seq k l ps x
theorem ER.stepQ(w:NoSeq h X)(k:Keep (fun b=>own V b\/X b) h h')(l:Le V h V'):∀(es:List (Nat×P)){a:List WY},ER B h V es a->ER B h' V' es a:=by
 intro f
 induction f with
 |nil=>
  intro _ x;exact x
 |cons e es g=>
  intro a x;obtain⟨d,r,e1,e2,e3,c,v,ar⟩:=x;exact⟨d,r,e1,e2,e3,c,VR.stepQ w k l e.2 c v,g ar⟩
theorem OR.stepQ{c:Addr×Addr}(w:NoSeq h X)(k:Keep (fun b=>own V b\/X b) h h')(l:Le V h V')(e1:h'.get? c.1=h.get? c.1)(e2:h'.get? c.2=h.get? c.2):∀{o:O},OR B h V o c->OR B h' V' o c
 |.list p,x=>by
  clear e2;obtain⟨a,vs,n,g,r⟩:=x;exact⟨a,vs,n,e1.trans g,VRs.stepQ w k l p r⟩
 |.dict es ep,x=>by
  clear e2;obtain⟨a,e,n,g,r⟩:=x;exact⟨a,e,n,e1.trans g,ER.stepQ w k l es r.1,r.2⟩
 |.inst C fs,x=>by
  obtain⟨a,g,e,n,s,r⟩:=x;exact⟨a,e1.trans g,e,n,e2.trans s,ER.stepQ w k l fs r.1,r.2⟩
 |.tab A,x=>by
  clear e2;obtain⟨a,i,ps,g,t,q⟩:=x;refine⟨a,i,ps,e1.trans g,t,fun pos u hc=>?_⟩;clear e1 a i g t;obtain⟨cc,v,n,j⟩:=q pos u hc;clear c hc;subst v;clear pos;obtain⟨D,o,vs,tt,y,f,d,m⟩:=id j;clear j;cases y;obtain⟨sl,z⟩:=k cc o f fun q=>q.elim n fun q=>(w _ _ q f).2 vs _ _ d m;exact⟨cc,rfl,l.notOwn f n,⟨cc,_,vs,tt,rfl,z,d,m⟩⟩
 |.dead,x=>x
theorem Rel.stepQ(R:Rel B V Z h)(w:NoSeq h X)(k:Keep (fun b=>own V b\/X b) h h')(same:∀b,own V b->h'.get? b=h.get? b)(a:∀b o,B.h₀.get? b=Wb o->h'.get? b=Wb o):Rel B V Z h':=by
 refine⟨a,fun n=>?_,R.sep,R.new,R.len,R.low⟩;have q:=R.objs n
 revert q
 induction e1:ai V n using Wo with
 |none=>induction ai Z n<;>exact id
 |some x=>induction x using Wo with
  |none=>induction ai Z n<;>exact id
  |some c=>induction e2:ai Z n using Wo with
   |none=>exact id
   |some o=>exact fun q=>OR.stepQ w k (Le.refl V h) (same _ ⟨n,c,e1,.inl rfl⟩) (same _ ⟨n,c,e1,.inr rfl⟩) q
end
section
variable{B:ao}{A:WN}{s s0:Wl}{V V0:aG}{Z:St}{env:Env}{X:Addr->Prop}{E:Wm->Wl->Prop}
theorem FrOK.fun{h:Heap}:∀{l:List Env},FrOK B V h l->h.FunFrames B.h₀ l:=by
 intro c
 induction c with
 |nil=>
  intro _;exact trivial
 |cons e l g=>
  intro f;obtain⟨z,L,o,a,b,_,d,i⟩:=f e (.head _);exact⟨z,⟨L,o,a,b,d,i⟩,g fun e j=>f e (.tail _ j)⟩
theorem FrOK.mem{h:Heap}{l:List Env}(f:FrOK B V h l){b:Addr}(g:b∈l.filterMap (·.frame)):B.h₀.get? b=Wc/\¬own V b/\∃o,h.get? b=Wb o/\∀vs,o.data≠ .fields vs:=by
 obtain⟨e,j,hf⟩:=List.mem_filterMap.mp g;clear g;obtain⟨_,L,o,a,k,c,d,i⟩:=f e j;clear f j;exact(Wi (a.symm.trans hf))▸⟨k,c,o,d,i⟩
structure uV(B:ao)(A:WN)(env:Env)(V:aG)(h:Heap):Prop where
 fr:LP B A env V h
theorem uW(f:uV B A env V s.heap){Q:Wm->Wl->Prop}
  (h:∀L h',env.frame=Wb L->(∀b,own V b->h'.get? b=s.heap.get? b)->(∀b o,B.h₀.get? b=Wb o->s.heap.get? b=Wb o->h'.get? b=Wb o)->(∀b o vs,s.heap.get? b=Wb o->o.data=.fields vs->h'.get? b=Wb o)->(∀b o,s.heap.get? b=Wb o->UpTo o h' b)->h'.objs.size=s.heap.objs.size->
   (∀b,h'.get? b=s.heap.get? b\/∃o,s.heap.get? b=Wb o/\∀vs,o.data≠ .fields vs)->Q (.ref L) {s with heap:=h'}):Ws (Wt B.prog B.w) A (adm env) Q E s:=by
 obtain⟨e1,c,k,hf,ok⟩:=f.fr;obtain⟨_,L,o,j,p,r,t,hd⟩:=ok e1 (.head _);unfold adm;refine Wh (wpAny_frameEnvs k ?_);have l:((e1::c).dropWhile fun x=>x.frame !=env.frame)=e1::c:=by rw[hf];simp[List.dropWhile]
 rw[l];unfold frameObject;refine Wh (Wh (wpAny_readyFrames_fun ok.fun fun d a=>Wq ?_));rw[j];refine Wq (h L d (hf.trans j) (fun b q=>a.2.1 b fun m=>(ok.mem m).2.1 q) (fun b o e g=>?_) (fun b o vs g e=>?_) a.2.2 a.1 fun b=>?_)
 ·exact(a.2.1 b fun m=>by rw[(ok.mem m).1] at e;exact aH e).trans g
 ·exact(a.2.1 b fun m=>by
   obtain⟨u,n,i⟩:=(ok.mem m).2.2;obtain rfl:=Wi (g.symm.trans n);exact i vs e).trans g
 ·by_cases m:b∈(e1::c).filterMap (·.frame)
  ·exact .inr (ok.mem m).2.2
  ·exact .inl (a.2.1 b m)
theorem nW{h:Heap}{a:Addr}{o:Obj}{vs:Array Wm}(c:h.get? a=Wb o)(d:o.data=.fields vs)(n:∀q t,vs[1]?≠Wb (.str q t)):NoSeq h (fun b=>b=a):=fun b i f g=>by
 have e:=Wi (c.symm.trans (f▸g));rw[<-e,d];exact⟨nofun,fun j q t hd=>by cases hd;exact n q t⟩
theorem Ae{hs h:Heap}{a d:Addr}{tb:Wm}(x:tb=.none\/Qh hs h V a d tb){vs:Array Wm}(h1:vs[1]?=Wb tb)(q:Str)(t:Tok):vs[1]?≠Wb (.str q t):=fun z=>by
 have e:=Wi (h1.symm.trans z);rcases x with x|⟨_,_,_,x,_⟩<;>(rw[x] at e;cases e)
theorem Stp.record{s':Wl}{T:Addr}{oT:Obj}{ts:Array Wm}(st:Stp X V0 s0 V s)(rl:Rel B V Z s.heap)(g:∀b o,B.h₀.get? b=Wb o->s0.heap.get? b=Wb o)
  (h:¬own V T) (a:s0.heap.get? T=Wc) (c:s.heap.get? T=Wb oT) (f:oT.data=.fields ts) (i:∀q t,ts[1]?≠Wb (.str q t))
  (k:∀b,b≠T->s'.heap.get? b=s.heap.get? b) (v:∃j,s'.heap.get? T=Wb j) (e1:s'.gens=s.gens) (e2:s'.drawn=s.drawn) (e3:s'.os=s.os):
  Stp X V0 s0 V s'/\Rel B V Z s'.heap:=by
 refine⟨⟨fun b o e n=>?_,st.le,fun b o e=>?_,e1.trans st.gens,e2.trans st.drawn,e3.trans st.os,fun b o vs e d n=>(k b fun q=>by rw[q,a] at e;exact aH e).trans (st.fl b o vs e d n),fun b m no n=>let ⟨l,n'⟩:=st.ns b m no n;⟨l,ir n' fun o e p=>.refl ((k b fun q=>p ts (Wi ((q▸e).symm.trans c)▸f)).trans e)⟩⟩,rl.stepQ (nW c f i) (fun b o e n=>.refl ((k b fun q=>n (.inr q)).trans e)) (fun b q=>k b fun z=>h (z▸q)) fun b o e=>(k b fun z=>?_).trans (rl.base b o e)⟩
 ·obtain⟨sl,z⟩:=st.keep b o e n;exact⟨sl,(k b fun q=>by rw[q,a] at e;exact aH e).trans z⟩
 ·obtain⟨r,z,u⟩:=st.ex b o e;by_cases q:b=T
  ·exact aH (a.symm.trans (q▸e))
  ·exact⟨r,(k b q).trans z,u⟩
 ·have:=g b o e;rw[z,a] at this;exact aH this
theorem ExcR.record{C u:Nat}{v:P}{e:Wm}{hs h h':Heap}{T:Addr}{oT:Obj}{ts:Array Wm}(f:h.get? T=Wb oT)(g:oT.data=.fields ts)(N:∀q t,ts[1]?≠Wb (.str q t))(k:∀b,b≠T->h'.get? b=h.get? b)
  {i:Obj} {c:Array Wm} (O:h'.get? T=Wb i) (Q:i.data=.fields c) (R:c.size=ts.size) (S:c[1]?=ts[1]?) (U:∀a,e=.ref a->T≠a) (x:ExcR B hs h V C u v e):ExcR B hs h' V C u v e:=by
 obtain⟨a,d,vs,W,n,sl,sd,tb,rfl,w,nd,y,hd,z,A,j,D,⟨E,F,G,l⟩,h1,m⟩:=x;have H:d≠T:=fun q=>by subst q;obtain rfl:=Wi (f.symm.trans j);cases g
 have I:NoSeq h (fun b=>b=T):=nW f g N;have ky:Keep (fun b=>own V b\/b=T) h h':=fun b o e n=>.refl ((k b fun q=>n (.inr q)).trans e);refine⟨a,d,vs,W,n,sl,sd,tb,rfl,w,nd,y,hd,z,(k a ((U a rfl).symm)).trans A,(k d H).trans j,D,⟨E,F,VR.stepQ I ky (.refl _ _) _ l G,l⟩,h1,?_⟩;clear w nd y z A j D F G l h1 H I vs hd ky n;rcases m with m|⟨p,X,Y,e1,e2,e3,J,K,r,s,L,M⟩
 ·exact .inl m
 ·by_cases q:p=T
  ·subst q;clear E;obtain rfl:=Wi (f.symm.trans r);rw[g] at s;cases s;clear r;exact .inr ⟨p,i,c,e1,e2,e3,J,K,O,Q,by exact Wj L (Xo R.symm),fun q t=>by rw[S];exact M q t⟩
  ·exact .inr ⟨p,X,Y,e1,e2,e3,J,K,(k _ q).trans r,s,L,M⟩
inductive wC(h:Heap)(e:Wm):Prop
 |mk(a:Addr)(ob:Obj)(vs:Array Wm)(T:Addr)(h1:e=.ref a)(b:h.get? a=Wb ob)(c:ob.data=.fields vs)(d:vs[1]?=Wb (.ref T))
theorem sN{C Y:Nat}{aP:P}{e head:Wm}{L:Addr}{Dy:Bool}{Q:Unit->Wl->Prop}(f:uV B A env V s.heap)(hL:env.frame=Wb L)(st:Stp X V0 s0 V s)(rl:Rel B V Z s.heap)(hb:∀b o,B.h₀.get? b=Wb o->s0.heap.get? b=Wb o)
  (hx:ExcR B s0.heap s.heap V C Y aP e) (h:∀s',Stp X V0 s0 V s'->Rel B V Z s'.heap->ExcR B s0.heap s'.heap V C Y aP e->wC s'.heap e->Q () s'):
  Ws (Wt B.prog B.w) A (do let a <-adm env;let pl <-entryPlaceOf L Dy;let b <-ade head a .none (acd L) .none pl;setField e 1 b) Q E s:=by
 obtain⟨a,d,vs,aO,n,sl,sd,tb,rfl,na,nd,p,hd,EV,v,J,hm,⟨sv,qj,ph,sM⟩,h1,rM⟩:=hx;refine Wh (uW f fun L' c Qo same kb K l sz k=>?_);clear f k;obtain rfl:=Wi (hL.symm.trans Qo);refine Wh (wpAny_entryPlaceOf fun pl v7=>?_);unfold ade newFields;refine Wh (wpAny_newObj_type ?_ (v7.sizeOk5 _ _ _ _ _));generalize Qp:({cls:=.type "traceback",dict:=Wc,data:=.fields ([head,.ref L,.none,acd L,.none]++(if pl.isEmpty then List.replicate 6 Wm.none else pl)).toArray}:Obj)=ob;have M:∃ts,ob.data=.fields ts/\3<ts.size/\∀q t,ts[1]?≠Wb (.str q t):=⟨_,by rw[<-Qp],by simp,fun q t=>by simp⟩;have N:ob.isFreed=We:=Qp▸rfl;generalize O:c.objs.size=T;have R:c.get? a=Wb _:=K a _ vs v rfl;have D:=Wr (h:=c) ob R;have r:1<vs.size:=(Array.getElem?_eq_some_iff.mp h1).1;have F:T=s.heap.objs.size:=O▸sz;have absent:∀b o,s.heap.get? b=Wb o->b≠T:=fun b o g q=>aaI _ (Nat.lt_of_lt_of_eq (Yo g) (F.symm.trans q.symm));have G:a≠T:=absent a _ v;refine acX D rfl r ?_;generalize S:(c.push ob).update a (YG (·.setIfInBounds 1 (YM T)))=u;have o1:∀b,b≠a->b≠T->u.get? b=c.get? b:=fun b x y=>by
  rw[<-S,Xd _ _ (Ne.symm x)];clear h1 rM Qo same kb K l sz v7 M N R D r F absent G x
  induction g:c.get? b using Wo with
  |some o=>exact Wr _ g
  |none=>
   induction H:(c.push ob).get? b using Wo with
   |none=>rfl
   |some o=>
    rcases Heap.get?_push_cases H with⟨z,_⟩|z
    ·exact absurd (z.trans O) y
    ·exact aH (g.symm.trans z)
 have oa:u.get? a=Wb ⟨.ref (B.cA C),Wb d,.fields (vs.setIfInBounds 1 (YM T)),sl⟩:=by
  rw[<-S,XM _ D rfl];rfl
 have oT:u.get? T=Wb ob:=by
  rw[<-S,Xd _ _ G,<-O];exact WW c N
 have I:NoSeq s.heap (fun b=>b=a):=nW v rfl (Ae rM h1);have Qq:s.heap.get? T=Wc:=by rw[F];exact aC _
 have U:¬own V T:=rl.nown Qq;have W:s0.heap.get? T=Wc:=st.absent Qq;have ky:Keep (fun b=>own V b\/b=a) s.heap u:=fun b o g q=>by
  clear M N R D r F G oa oT I hd U W;obtain⟨Bt,z⟩:=l b o g;exact⟨Bt,(o1 b (fun w=>q (.inr w)) (absent b o g)).trans z⟩
 refine h {s with heap:=u} ⟨fun b o g q=>?_,st.le,fun b o g=>?_,st.gens,st.drawn,st.os,fun b o vs g dd q=>?_,fun b m no n=>let ⟨m',n'⟩:=st.ns b m no n;⟨m',ir n' fun o e nf=>let ⟨s2,i⟩:=l b o e;⟨s2,(o1 b (fun w=>nf _ (congrArg Obj.data (Wi ((w▸e).symm.trans v)))) (absent b _ e)).trans i⟩⟩⟩ (rl.stepQ I ky (fun b q=>?_) fun b o g=>?_) ⟨?_⟩ ⟨a,_,_,T,rfl,oa,rfl,by simp[r]⟩
 ·obtain⟨s1,j⟩:=st.keep b o g q;clear oT I hd U W ky q;obtain⟨s2,i⟩:=l b _ j;exact⟨s2,(o1 b (fun w=>aH (p.symm.trans (w▸g))) (absent b _ j)).trans i⟩
 ·obtain⟨o',j,zz⟩:=st.ex b o g;by_cases w:b=a
  ·exact aH (p.symm.trans (w▸g))
  ·obtain⟨s2,i⟩:=l b _ j;exact⟨_,(o1 b w (absent b _ j)).trans i,zz⟩
 ·have j:=st.fl b o vs g dd q;exact(o1 b (fun w=>aH (p.symm.trans (w▸g))) (absent b _ j)).trans (K b o vs j dd)
 ·obtain⟨o,g⟩:=rl.has q;exact(o1 b (fun w=>na (w▸q)) (absent b o g)).trans (same b q)
 ·have H:=rl.base b o g;exact(o1 b (fun w=>aH (p.symm.trans (hb a o (w▸g)))) (absent b o H)).trans (kb b o g H)
 ·obtain⟨s2,i⟩:=l d _ J;refine⟨a,d,vs.setIfInBounds 1 (YM T),aO,n,sl,s2,.ref T,rfl,na,nd,p,hd,EV,oa,(o1 d EV.symm (absent d _ J)).trans i,hm,⟨sv,qj,VR.stepQ I ky (.refl _ _) _ sM ph,sM⟩,by simp[r],?_⟩;clear hd ky i;obtain⟨ts,d1,d2⟩:=M;exact .inr ⟨T,ob,ts,rfl,G.symm,fun q=>absent d _ J q.symm,U,W,oT,d1,d2.1,d2.2⟩
theorem kI{C t:Nat}{u:P}{e:Wm}{Q:Unit->Wl->Prop}(f:uV B A env V s.heap)(st:Stp X V0 s0 V s)(rl:Rel B V Z s.heap)(i:∀b o,B.h₀.get? b=Wb o->s0.heap.get? b=Wb o)
  (v:ExcR B s0.heap s.heap V C t u e) (h:∀s',Stp X V0 s0 V s'->Rel B V Z s'.heap->ExcR B s0.heap s'.heap V C t u e->wC s'.heap e->Q () s'):
  Ws (Wt B.prog B.w) A (ad0 e env) Q E s:=by
 obtain⟨e1,c,O,hf,ok⟩:=f.fr;obtain⟨_,L,o,l,_⟩:=ok e1 (.head _);have l:env.frame=Wb L:=hf.trans l;have m:=v;obtain⟨a,d,vs,R,n,sl,sd,tb,rfl,S,nd,U,hd,W,p,Y,hm,v9,h1,rM⟩:=v;unfold ad0;simp only[l];refine Wh (aaQ p rfl h1 ?_);clear S nd U hd W Y hm v9;rcases rM with rfl|⟨T,oT,ts,rfl,y,Qs,z,D,j,g,F,r⟩
 ·rw[if_neg (by decide)];exact sN f l st rl i m h
 ·rw[if_pos (show(YM T !=Wm.none)=Wd from by simp)];refine Wh (aaQ j g (x:=ts[3]) (by simp[F]) ?_);by_cases G:(ts[3]==acd L)=Wd
  ·rw[if_pos G];exact Wq (h s st rl m ⟨a,_,_,T,rfl,p,rfl,h1⟩)
  ·rw[if_neg G];refine Wh (acX j g F ?_);have k:∀b,b≠T->(s.heap.update T (YG (·.setIfInBounds 3 Wm.none))).get? b=s.heap.get? b:=fun b i=>Xd _ _ (Ne.symm i);have H:=XM (YG (·.setIfInBounds 3 Wm.none)) j (acx (aaj g _));clear R n sd p h1 Qs;obtain⟨I,J⟩:=Stp.record (s':={s with heap:=s.heap.update T (YG (·.setIfInBounds 3 Wm.none))}) st rl i z D j g r k ⟨_,H⟩ rfl rfl rfl;refine sN (s:={s with heap:=s.heap.update T (YG (·.setIfInBounds 3 Wm.none))}) ⟨e1,c,O,hf,fun e he=>?_⟩ l I J i (m.record j g r k H (aaj g _) (by simp) (by simp) (fun _ q=>by cases q;exact y)) h;clear y z D r i I J;obtain⟨z1,K,o2,z2,z3,z4,M,N⟩:=ok e he;exact⟨z1,K,o2,z2,z3,z4,(k K fun q=>by subst q;obtain rfl:=Wi (j.symm.trans M);exact N ts g).trans M,N⟩
theorem el{C l:Nat}{m:P}{e:Wm}{fl:Option Addr}{Q:Unit->Wl->Prop}(st:Stp X V0 s0 V s)(rl:Rel B V Z s.heap)(i:∀b o,B.h₀.get? b=Wb o->s0.heap.get? b=Wb o)
  (p:ExcR B s0.heap s.heap V C l m e) (h:∀s',Stp X V0 s0 V s'->Rel B V Z s'.heap->ExcR B s0.heap s'.heap V C l m e->Q () s'):
  Ws (Wt B.prog B.w) A (ac5 e fl) Q E s:=by
 have r:=p;obtain⟨a,d,vs,I,n,sl,sd,tb,rfl,J,nd,K,hd,L,v,M,N,O,h1,x⟩:=p;unfold ac5;refine Wh (aaQ v rfl h1 ?_);rcases x with rfl|⟨T,oT,ts,rfl,y,R,z,D,g,c,F,t⟩
 ·rw[if_neg (by decide)];exact Wq (h s st rl r)
 ·rw[if_pos (show(YM T !=Wm.none)=Wd from by simp)];refine acX g c F ?_;generalize (fl.elim Wm.none fun f=>acd f)=j;have k:∀b,b≠T->(s.heap.update T (YG (·.setIfInBounds 3 j))).get? b=s.heap.get? b:=fun b i=>Xd _ _ (Ne.symm i);have u:=XM (YG (·.setIfInBounds 3 j)) g (acx (aaj c _));obtain⟨G,H⟩:=Stp.record (s':={s with heap:=s.heap.update T (YG (·.setIfInBounds 3 j))}) st rl i z D g c t k ⟨_,u⟩ rfl rfl rfl;exact h _ G H (r.record g c t k u (aaj c _) (by simp) (by simp) (fun _ q=>by cases q;exact y))
theorem DA{C c:Nat}{i:P}{e:Wm}(f:uV B A env V s.heap)(st:Stp X V0 s0 V s)(rl:Rel B V Z s.heap)(j:∀b o,B.h₀.get? b=Wb o->s0.heap.get? b=Wb o)
  (k:ExcR B s0.heap s.heap V C c i e) (h:∀s',Stp X V0 s0 V s'->Rel B V Z s'.heap->ExcR B s0.heap s'.heap V C c i e->E e s'):
  ae8 (Wt B.prog B.w) A env (fun e s'=>ace (Wt B.prog B.w) A env E e s') e s:=by
 refine kI f st rl j k fun s1 l m n ⟨a,ob,vs,T,p,g,d,v1⟩=>?_;obtain rfl:=p.symm;unfold ace;refine Wh (aaQ g d v1 ?_);rw[if_neg (by simp)];exact el l m j n fun s2 q r t=>h s2 q r t
end
noncomputable def IE.isComp:IE->Bool
 |.comp .. =>Wd
 |.dcomp .. =>Wd
 |_=>We
noncomputable def jB(sc:Sc):Bm->Bool
 |.to (.name x _)=>gK sc x
 |.to (.tup xs _ _)=>xs.all (fun e=>gK sc e.1) &&bY (xs.map (·.1)) &&WR xs.length 100
 |.attr e _ _=>bj sc e
 |.sub o s _=>bj sc o&&bj sc s
noncomputable def Ip:IE->Bool
 |.name .. |.glob .. |.attr .. |.list .. |.dict .. |.call .. |.meth .. |.comp .. |.dcomp .. |.ite .. |.cmp .. |.callv .. |.lam .. |.bop .. =>Wd
 |_=>We
noncomputable def Ot:IE->Bool
 |.tup es _ _=>es.any Ip
 |e=>Ip e
noncomputable def nc:IE->Bool
 |.sub o _ _=>Ip o
 |.tup es _ _=>es.any Ot
 |e=>Ip e
noncomputable def Mq:IE->Bool
 |.none .. |.bool .. |.int .. |.str .. =>Wd
 |.tup [] _ _=>Wd
 |_=>We
noncomputable def Mr:IE->Bool
 |.tup es _ _=>es.all Mq
 |e=>Mq e
noncomputable def Iq:Bm->IE->Bool
 |.to (.tup _ _ _),.tup es _ _=>es.any nc||es.all Mr
 |_,_=>Wd
noncomputable def Af:List IS->Bool
 | [.asg (.to (.name _ _)) e _]=>!e.isComp
 | [.ret We (Wb _) _]=>Wd
 |_=>We
mutual
noncomputable def wD(sc:Sc):IS->Bool
 |.expr e _=>bj sc e&&!e.isComp
 |.asg t e _=>jB sc t&&bj sc e&&Iq t e
 |.ifs t b o _=>bj sc t&&ew sc b&&ew sc o
 |.for t it b _=>jB sc (.to t) &&bj sc it&&ew sc b
 |.while t b _=>bj sc t&&ew sc b
 |.ret _ e _=>HZ sc e
 |.raise x _ as _ _=>eP sc x&&ng x&&!Wf x dw&&bU sc as&&XQ as.length 20
 |.try b hs _=>ew sc b&&sO sc hs&&Af b&&!hs.isEmpty
 |.pass _=>Wd
noncomputable def ew(sc:Sc):List IS->Bool
 | []=>Wd
 |s::ss=>wD sc s&&ew sc ss
noncomputable def sO(sc:Sc):List (Nat×Nat×Nat×List IS×Nat)->Bool
 | []=>Wd
 |(x,n,_,b,_)::hs=>eP sc x&&ng x&&Wf ((ap sc n).getD 9) 0&&!b.isEmpty&&ew sc b&&sO sc hs
end
noncomputable def dK(env:Env)(b:Addr):Prop:=b=env.locals\/∃x:Nat,env.kindOf (af x)=Wb .cell/\env.cells.lookup (af x)=Wb b
noncomputable def Xow(sc:Sc)(env:Env)(b:Addr):Prop:=b=env.locals\/∃x:Nat,gK sc x=Wd/\env.kindOf (af x)=Wb .cell/\env.cells.lookup (af x)=Wb b
theorem Xow.of{sc:Sc}{env:Env}{b:Addr}(h:Xow sc env b):dK env b:=h.imp id fun a=>by obtain⟨x,_,q⟩:=a;exact⟨x,q⟩
noncomputable def RX(B:ao)(env:Env)(h:Heap)(V:aG)(a:Fl×VE)(f:Flow):Prop:=match a with
 |(.next,m)=>f=.next/\EnvR B V h m env
 |(.ret p,_)=>∃v,f=.ret v/\VR B h V p v
noncomputable def gz(B:ao)(r:dN):Prop:=∀(c:Cx)(ss:List IS)(m:VE)(Z:St)(A:WN)(s:Wl)(V:aG)(env:Env)(sc:Sc)(Q:Flow->Wl->Prop)(E:Wm->Wl->Prop),
 ew sc ss=Wd->At B A c sc m env V Z s.heap->Fin B (dK env) (RX B env) V s (r.ex c ss m Z) Q E->Ws (Wt B.prog B.w) A (aeB (gQ ss) env) Q E s
theorem c5(sc:Sc)(x:Nat):(sc.map fun e=>(af e.1,aI e.2)).lookup (af x)=(ap sc x).map aI:=by
 induction sc with
 |nil=>rfl
 |cons e r a=>
  obtain⟨y,k⟩:=e;show aed (af x) ((af y,aI k)::_)=_;rw[Xl];rw[m7];by_cases h:y=x
  ·obtain rfl:=h.symm;rw[Wx];simp
  ·have h1:Wf y x=We:=by
    induction q:Wf y x using Wn with
    |false=>rfl
    |true=>exact absurd (b9 q) h
   rw[h1,(beq_eq_false_iff_ne.mpr (ig (Ne.symm h)))];exact a
theorem fy(x:Str):∀(names:List (Str×Ya))(k:Nat)(c:List (Str×Addr)),(names.lookup x=Wb .cell\/(c.lookup x).isSome=Wd)->((Yd k names c).lookup x).isSome=Wd:=by
 intro d
 induction d with
 |nil=>
  intro k c h;rcases h with h|h
  ·exact aH h
  ·exact h
 |cons f r a=>
  obtain⟨y,kd⟩:=f;intro k c h;unfold Yd;rw[Xl] at h
  induction b:x==y using Wn with
  |true=>
   rw[b] at h;have e:=beq_iff_eq.mp b;split
   ·exact a _ _ (.inr (by rw[Xl,b];rfl))
   ·rename_i g;rcases h with h|h
    ·have h:kd=.cell:=by simpa using h
     subst h;exact absurd g (by decide)
    ·exact a _ _ (.inr h)
  |false=>
   rw[b] at h;split
   ·rcases h with h|h
    ·exact a _ _ (.inl h)
    ·exact a _ _ (.inr (by rw[Xl,b];exact h))
   ·exact a _ _ h
noncomputable def BR(B:ao)(h:Heap)(V:aG):VE->List (Str×Wm)->Prop
 | [],a=>a=[]
 |e::m,a=>∃v r,a=(af e.1,v)::r/\VR B h V e.2 v/\BR B h V m r
section
variable{B:ao}{h:Heap}{V:aG}
theorem BR.names:∀{m:VE}{a:List (Str×Wm)},BR B h V m a->a.map (·.1)=m.map fun e=>af e.1:=by
 intro m
 induction m with
 |nil=>exact fun x=>x▸rfl
 |cons e m b=>
  intro a c;obtain⟨v,r,e1,_,q⟩:=c;subst e1;exact congrArg (af e.1:: ·) (b q)
theorem uY(kd:Str->Option Ya){x:Str}:∀(a:List (Str×Wm))(b:Str->Option Wm),x∉a.map (·.1)->bindL kd a b x=b x:=by
 intro a
 induction a with
 |nil=>exact fun _ _=>rfl
 |cons e r d=>
  intro b c;obtain⟨n,v⟩:=e;unfold bindL;rw[d _ fun e=>c (.tail _ e)];have:x≠n:=fun e=>c (Ww.mpr (.inl e));split
  ·simp[this]
  ·rfl
theorem uZ(kd:Str->Option Ya){x:Str}:∀(b:List (Str×Wm))(a:Str->Option Wm),x∉b.map (·.1)->bindC kd b a x=a x:=by
 intro d
 induction d with
 |nil=>
  intro a _;exact rfl
 |cons f r g=>
  intro a c;unfold bindC;rw[g _ fun e=>c (by simp[e])];have:x≠f.1:=fun e=>c (by simp[e]);split
  ·rfl
  ·simp[this]
theorem dF{x:Nat}{r:List Nat}(h:bY (x::r)=Wd):x∉r/\bY r=Wd:=by
 have h:(!r.any (fun y=>Wf y x) &&bY r)=Wd:=h;refine⟨fun q=>?_,ay h⟩;have h1:=aa h;rw[Xy] at h1;have:=XN.mp h1 x q;exact this (Wx x)
theorem mM{x:Nat}{r:List Nat}(h:af x∈r.map af):x∈r:=by
 obtain⟨y,a,e⟩:=Wz.mp h;rw[<-eX e];exact a
theorem BR.loc{kd:Str->Option Ya}{x:Nat}(j:kd (af x)=Wb .local):∀{m:VE}{d:List (Str×Wm)}{f:Str->Option Wm}{p:P},BR B h V m d->bY (m.map (·.1))=Wd->get x m=Wb p->∃v,bindL kd d f (af x)=Wb v/\VR B h V p v:=by
 intro m
 induction m with
 |nil=>exact fun _ _ h=>aH h
 |cons e m k=>
  intro d f p a g c;obtain⟨y,q⟩:=e;obtain⟨v,r,e,hv,b⟩:=a;subst e;have i:=dF g;rw[j3] at c;unfold bindL;clear g
  induction a:Wf y x using Wn with
  |true=>
   rw[a] at c;cases c;have e:=b9 a;clear a;subst e;exact(uY kd r _ (by rw[b.names];intro z;exact i.1 (mM (by simpa [XB] using z))))▸(if_pos j)▸⟨v,by simp,hv⟩
  |false=>
   rw[a] at c;exact k b i.2 c
theorem BR.cell{kd:Str->Option Ya}{x:Nat}(j:kd (af x)=Wb .cell):∀{m:VE}{d:List (Str×Wm)}{f:Str->Option Wm}{p:P},BR B h V m d->bY (m.map (·.1))=Wd->get x m=Wb p->∃v,bindC kd d f (af x)=Wb v/\VR B h V p v:=by
 intro m
 induction m with
 |nil=>exact fun _ _ h=>aH h
 |cons e m k=>
  intro d f p a g c;obtain⟨y,q⟩:=e;obtain⟨v,r,e,hv,b⟩:=a;subst e;have i:=dF g;rw[j3] at c;unfold bindC;clear g
  induction a:Wf y x using Wn with
  |true=>
   rw[a] at c;cases c;have e:=b9 a;clear a;subst e;rw[uZ kd r _ (by rw[b.names];intro z;exact i.1 (mM (by simpa [XB] using z))),if_neg (by rw[j];decide)];exact⟨v,by simp,hv⟩
  |false=>
   rw[a] at c;exact k b i.2 c
theorem BR.step{h':Heap}{V':aG}(k:Keep (own V) h h')(l:Le V h V'):∀{m:VE}{c:List (Str×Wm)},BR B h V m c->BR B h' V' m c:=by
 intro m
 induction m with
 |nil=>exact fun x=>x
 |cons p m d=>
  intro c x;obtain⟨v,r,e,a,b⟩:=x;exact⟨v,r,e,a.step k l,d b⟩
end
structure Kk(B:ao)(f:Nat)(fn:Fn)(fd:acH):Prop where
 isAt:∃o,B.h₀.get? (B.fA f)=Wb o/\o.data=.func fd
 scope:fd.scope.names=(aw fn.sc).names
 kind:fd.scope.kind=.function
 gen:fd.scope.isGenerator=We
 co:fd.scope.isCoroutine=We
 body:fd.body=.stmts (gQ fn.body)
 clo:fd.closure=[]
 glob:fd.globals=XS
 bui:fd.builtins=YF
 code:B.h₀.CodeRec fd.code fd.qualname
 wf:ew fn.sc fn.body=Wd
 kinds:(fn.sc.all fun e=>XQ e.2 2)=Wd
 nodup:bY fn.ps=Wd
 ps:(fn.ps.all (gK fn.sc))=Wd
 tb:∀k,fn.tb=Wb k->∃cc,fd.code=.ref cc/\acK B.h₀ cc (B.tabA k)/\(fd.qualname++".<locals>.")++"<lambda>" =B.tabQ k
 bind:∃dv:List Wm,(∀h V,(∀b o,B.h₀.get? b=Wb o->h.get? b=Wb o)->(∀b,own V b->B.h₀.get? b=Wc)->VRs B h V fn.ds dv)/\
  ∀(vals:List Wm)(m:VE)(ps:List P),fP fn.ps ps fn.ds=Wb m->ps.length=vals.length->∀(A:WN)(E:Wm->Wl->Prop)(s:Wl)(Q:List (Str×Wm)->Wl->Prop),(∀b o,B.h₀.get? b=Wb o->s.heap.get? b=Wb o)->
   Q ((fn.ps.map af).zip (vals++dv.drop (fn.ds.length+vals.length - fn.ps.length))) s->Ws (Wt B.prog B.w) A (aeC fd ⟨vals,[]⟩) Q E s
structure i7(B:ao):Prop where
 fn:∀f fn,B.T.fn f=Wb fn->∃fd,Kk B f fn fd
section
variable{B:ao}{h:Heap}{V:aG}
theorem xT(ps:List Nat):∀{pv:List P}{ds:List P}{m:VE}{a c:List Wm},fP ps pv ds=Wb m->VRl B h V pv a->VRs B h V ds c->
  BR B h V m ((ps.map af).zip (a++c.drop (ds.length+a.length - ps.length)))/\m.map (·.1)=ps/\∀e∈m,e.2∈pv\/e.2∈ds:=by
 induction ps with
 |nil=>
  intro pv ds m a c b hv hd
  induction pv using Wv with
  |nil=>exact Wi b▸⟨rfl,rfl,fun _ h=>absurd h WA⟩
  |cons=>exact aH b
 |cons x ps i=>
  intro pv ds m a c b hv hd
  induction pv using Wv with
  |cons p pv=>
   obtain⟨v,r,e,t,j⟩:=hv;subst e;obtain⟨s,k,e⟩:=WD.mp (vB.symm.trans b);obtain⟨f,l,n⟩:=i k j hd;rw[<-Nat.add_sub_add_right (ds.length+r.length) 1 ps.length] at f;subst e;refine⟨⟨v,_,rfl,t,f⟩,congrArg (x:: ·) l,fun e he=>?_⟩;rcases Ww.mp he with q|he
   ·exact .inl (q▸ .head _)
   ·exact(n e he).imp (fun q=>.tail _ q) id
  |nil=>
   have hv:a=[]:=hv;subst hv;rw[vC] at b
   induction g:WR ds.length (ps.length+1) using Wn with
   |true=>rw[g] at b;exact aH b
   |false=>
    rw[g] at b;have u:ps.length+1<=ds.length:=Yq fun q=>gB ((Wy q).symm.trans g);obtain⟨d,o,b⟩:=aak.mp b;obtain⟨s,k,e⟩:=WD.mp b;obtain⟨f,l,n⟩:=i (pv:=[]) k rfl hd;obtain⟨v,hv,j,_⟩:=hd.at o;clear g b i hd;subst e;obtain⟨w,y⟩:=Xn.mp hv;have e:c.drop (ds.length - (ps.length+1))=v::c.drop (ds.length - ps.length):=by
     rw[Y7 w,y,show ds.length - (ps.length+1)+1=ds.length - ps.length from YN (aaq u)]
    refine⟨?_,congrArg (x:: ·) l,fun e he=>?_⟩
    ·show BR B h V ((x,d)::s) ((af x::ps.map af).zip (c.drop (ds.length - (ps.length+1))));rw[e];exact⟨v,_,rfl,j,f⟩
    ·rcases Ww.mp he with q|he
     ·rw[aK] at o;exact .inr (q▸X1 o)
     ·exact n e he
theorem VRs.notOdd{ps:List P}{vs:List Wm}(x:VRs B h V ps vs):∀p∈ps,p.isOdd=We:=by
 induction ps generalizing vs with
 |nil=>exact(fun _ h=>absurd h WA)
 |cons q r a=>
  obtain⟨v,t,_,o,_,b⟩:=x;intro p hp;rcases Ww.mp hp with rfl|hp
  ·exact o
  ·exact a b p hp
end
theorem fZ{α:Type}{l:List α}{k n:Nat}:ai (l.take k) n=if n<k then ai l n else Wc:=by rw[aK,aK,List.getElem?_take]
section
variable{B:ao}{h:Heap}{V:aG}{k:Nat}
theorem bW{b:Addr}(q:own (V.take k) b):own V b:=by
 obtain⟨n,c,e,z⟩:=q;rw[fZ] at e;split at e
 ·exact⟨n,c,e,z⟩
 ·exact aH e
mutual
theorem VR.cut:∀(p:P){v:Wm},mU k p=Wd->VR B h V p v->VR B h (V.take k) p v
 |.none,_,_,x=>x
 |.bool _,_,_,x=>x
 |.int _,_,_,x=>x
 |.str _,_,_,x=>x
 |.tup ps,v,ok,x=>by
  obtain⟨a,vs,e,n,t,r⟩:=x;exact⟨a,vs,e,fun q=>n (bW q),t,VRs.cut ps ok r⟩
 |.list ps,v,ok,x=>by
  obtain⟨a,vs,e,n,t,r⟩:=x;exact⟨a,vs,e,fun q=>n (bW q),t,VRs.cut ps ok r⟩
 |.ref n,v,ok,x=>by
  obtain⟨a,e,z⟩:=x;refine⟨a,e,?_⟩;exact fZ▸(if_pos (Wg ok))▸z
 |.glob _,_,_,x=>x
 |.clo b sc p m,v,ok,x=>by
  obtain⟨a,o,fd,e,n,g,hc,hd,c,hs,hp,f,i,j,l,s,u,r⟩:=x;exact⟨a,o,fd,e,fun q=>n (bW q),g,hc,hd,c,hs,hp,f,i,j,fun cc q z=>l cc q (bW z),s,u,VRc.cut m ok r⟩
 |.exc C H w,v,ok,x=>by
  obtain⟨a,d,vs,y,n,sl,sd,e,A,nd,D,E,F,G,hs,r⟩:=x;exact⟨a,d,vs,y,n,sl,sd,e,fun q=>A (bW q),fun q=>nd (bW q),D,E,F,G,hs,VR.cut w ok r⟩
theorem VRs.cut:∀(ps:List P){vs:List Wm},mV k ps=Wd->VRs B h V ps vs->VRs B h (V.take k) ps vs
 | [],_,_,x=>x
 |p::ps,vs,ok,x=>by
  replace ok:=Xe.mp (show(mU k p&&mV k ps)=Wd from ok);obtain⟨v,r,e,o,a,b⟩:=x;exact⟨v,r,e,o,VR.cut p ok.1 a,VRs.cut ps ok.2 b⟩
theorem VRc.cut{cl:List (Str×Addr)}:∀(m:List (Nat×P)),Ek k m=Wd->VRc B h V cl m->VRc B h (V.take k) cl m
 | [],_,_=>trivial
 |e::m,ok,x=>by
  replace ok:=Xe.mp (show(mU k e.2&&Ek k m)=Wd from ok);obtain⟨⟨c,w,lk,n,a,b,r⟩,ar⟩:=x;exact⟨⟨c,w,lk,fun q=>n (bW q),a,b,VR.cut e.2 ok.1 r⟩,VRc.cut m ok.2 ar⟩
end
theorem ER.cut:∀(es:List (Nat×P)){a:List WY},Ek k es=Wd->ER B h V es a->ER B h (V.take k) es a:=by
 intro b
 induction b with
 |nil=>
  intro _ _ x;exact x
 |cons e es c=>
  intro a ok x;replace ok:=Xe.mp (show(mU k e.2&&Ek k es)=Wd from ok);obtain⟨d,r,e1,e2,e3,f,v,ar⟩:=x;exact⟨d,r,e1,e2,e3,f,VR.cut e.2 ok.1 v,c ok.2 ar⟩
theorem OR.cut{c:Addr×Addr}:∀{o:O},El k o=Wd->OR B h V o c->OR B h (V.take k) o c
 |.list d,ok,x=>by
  obtain⟨a,vs,n,g,r⟩:=x;exact⟨a,vs,n,g,VRs.cut d ok r⟩
 |.dict es ep,ok,x=>by
  obtain⟨a,b,n,g,r⟩:=x;exact⟨a,b,n,g,ER.cut es ok r.1,r.2⟩
 |.inst C fs,ok,x=>by
  obtain⟨a,g,b,n,e,r⟩:=x;exact⟨a,g,b,n,e,ER.cut fs ok r.1,r.2⟩
 |.tab m,_,x=>by
  obtain⟨a,f,ps,g,t,q⟩:=x;refine⟨a,f,ps,g,t,fun pos i hc=>?_⟩;obtain⟨cc,j,n,l⟩:=q pos i hc;exact⟨cc,j,fun z=>n (bW z),l⟩
 |.dead,_,x=>x
theorem Rel.take{Z:St}(R:Rel B V Z h)(ok:(Z.take k).all (El k)=Wd):Rel B (V.take k) (Z.take k) h:=by
 refine⟨R.base,fun n=>?_,fun n m c d e1 e2 f=>?_,fun b q=>R.new b (bW q),by rw[abM,abM,R.len],fun b q=>R.low b (bW q)⟩
 ·rw[fZ]
  induction hs:ai (Z.take k) n using Wo with
  |none=>
   rw[fZ] at hs;split at hs
   ·rename_i a;rw[if_pos a];have w:=R.objs n;rw[hs] at w
    revert w
    induction ai V n using Wo with
    |none=>exact id
    |some x=>induction x<;>exact id
   ·rename_i a;rw[if_neg a];trivial
  |some o=>
   have g:El k o=Wd:=Xb.mp ok o (by rw[aK] at hs;exact X1 hs);rw[fZ] at hs;split at hs
   ·rename_i a;rw[if_pos a];have w:=R.objs n;rw[hs] at w
    induction e:ai V n using Wo with
    |none=>rw[e] at w;exact w
    |some x=>induction x using Wo with
     |none=>rw[e] at w;exact w
     |some c=>rw[e] at w;exact OR.cut g w
   ·exact aH hs
 ·rw[fZ] at e1 e2;split at e1
  ·split at e2
   ·exact R.sep n m c d e1 e2 f
   ·exact aH e2
  ·exact aH e1
theorem Le.take{V':aG}(l:Le V h V')(c:V.length=k):Le V h (V'.take k):=by
 have a:∀n x,ai V n=Wb x->n<k:=fun n x e=>by rw[aK] at e;exact c▸(Xn.mp e).1
 refine⟨fun n x e=>?_,fun n e=>?_,fun b q=>l.fresh b (bW q)⟩
 ·rw[fZ,if_pos (a n x e)];exact l.more n x e
 ·rw[fZ,if_pos (a n _ e)];exact l.dead n e
theorem Stp.take{X:Addr->Prop}{V':aG}{s s':Wl}(a:Stp X V s V' s')(b:V.length=k):Stp X V s (V'.take k) s':=⟨a.keep,a.le.take b,a.ex,a.gens,a.drawn,a.os,a.fl,a.ns⟩
theorem ExcR.take{hs:Heap}{C f:Nat}{b:P}{e:Wm}(ok:mU k b=Wd)(x:ExcR B hs h V C f b e):ExcR B hs h (V.take k) C f b e:=by
 obtain⟨a,d,vs,g,n,sl,sd,tb,e1,e2,e3,i,j,l,m,o,p,⟨r,s,t,u⟩,v,c⟩:=x;refine⟨a,d,vs,g,n,sl,sd,tb,e1,fun q=>e2 (bW q),fun q=>e3 (bW q),i,j,l,m,o,p,⟨r,s,VR.cut b ok t,u⟩,v,?_⟩;rcases c with c|⟨T,oT,ts,w,y,t3,z,A,D,E,F,G⟩
 ·exact .inl c
 ·exact .inr ⟨T,oT,ts,w,y,t3,fun q=>z (bW q),A,D,E,F,G⟩
theorem Fin.gc{X:Addr->Prop}{s:Wl}{res:R P}{Q:Wm->Wl->Prop}{E:Wm->Wl->Prop}(c:V.length=k)(F:Fin B X (VR B) V s (Mine.gc k res) Q E):Fin B X (VR B) V s res Q E:=by
 induction res using Mine.R.casesOn with
 |ok v a=>
  intro V' s' w st rl hv;replace F:Fin B X (VR B) V s (.ok v (fQ k v a)) Q E:=F;unfold fQ at F
  induction hc:(mU k v&& (a.take k).all (El k)) using Wn with
  |false=>rw[hc] at F;exact F V' s' w st rl hv
  |true=>
   rw[hc] at F;rw[W5] at hc;exact F (V'.take k) s' w (st.take c) (rl.take hc.2) (VR.cut v hc.1 hv)
 |exc C f b a=>
  intro V' s' e st rl d;replace F:Fin B X (VR B) V s (.exc C f b (fQ k b a)) Q E:=F;unfold fQ at F
  induction hc:(mU k b&& (a.take k).all (El k)) using Wn with
  |false=>rw[hc] at F;exact F V' s' e st rl d
  |true=>
   rw[hc] at F;rw[W5] at hc;exact F (V'.take k) s' e (st.take c) (rl.take hc.2) (d.take hc.1)
 |no=>exact F
end
theorem Fin.gcIf{B:ao}{V:aG}{k:Nat}{b:Bool}{X:Addr->Prop}{s:Wl}{res:R P}{Q:Wm->Wl->Prop}{E:Wm->Wl->Prop}(a:V.length=k)(F:Fin B X (VR B) V s (Mine.gcIf b k res) Q E):Fin B X (VR B) V s res Q E:=by
 induction b using Wn with
 |true=>exact Fin.gc a F
 |false=>exact F
structure Ag(B:ao)(A:WN)(c:Cx)(V:aG)(h:Heap):Prop where
 fr:∃l,A.frames=Wb l/\FrOK B V h l
 dep:A.depth+3*c.d+1<=recursionLimit
 un:A.units+40*c.d+70<=acj
 hd:c.hd=We->A.handled=Wc
theorem nX{B:ao}{r:dN}{c:Cx}{Z:St}{s:Wl}{V:aG}{A:WN}{Q:Wm->Wl->Prop}{E:Wm->Wl->Prop}(OK:aJ B)(BF:i7 B)(SX:gz B r){f:Nat}{vs:List P}{BB:List Wm}
  (rl:Rel B V Z s.heap) (M:Ag B A c V s.heap) (hv:VRl B s.heap V vs BB) (F:Fin B no (VR B) V s (dG B.T r c f vs Z) Q E):
  Yu (Wt B.prog B.w) A (.call (.ref (B.fA f)) ⟨BB,[]⟩) (fun r s'=>match r with|.ok (.ret v)=>Q v s'|.ok _=>False|.error e=>E e s') s:=by
 obtain⟨d,hd,tb⟩:=c;unfold dG at F
 induction d with
 |zero=>exact F.elim
 |succ d=>
 dsimp only at F;split at F
 ·rename_i fn Qt;refine Fin.n F fun dZ F=>?_;split at F
  ·rename_i m U;replace F:=Fin.gcIf rl.len F;obtain⟨fd,K⟩:=BF.fn f fn Qt;clear BF Qt;obtain⟨o,W,nY⟩:=K.isAt;obtain⟨dv,Km,nZ⟩:=K.bind;have Hb:=Km s.heap V rl.base rl.new;clear Km;obtain⟨G,n4,Kn⟩:=xT fn.ps U hv Hb;have X:∀x,fd.scope.names.lookup (af x)=(ap fn.sc x).map aI:=fun x=>by rw[K.scope];exact c5 _ _
   obtain⟨l,my,n5⟩:=M.fr;have EW:∀(N:List (Str×Wm)),BR B s.heap V m N->∀x∈N,fd.scope.names.lookup x.1=Wb .local\/(fd.scope.names.lookup x.1=Wb .cell/\((Yd (s.heap.objs.size+1) fd.scope.names []).lookup x.1).isSome=Wd):=by
    intro N Y x O;have Ov:x.1∈N.map (·.1):=Wz.mpr ⟨x,O,rfl⟩;rw[Y.names] at Ov;clear dZ F U nY nZ Hb G Kn my n5 Y O;obtain⟨e,h,hex⟩:=Wz.mp Ov;have gy:e.1∈fn.ps:=by rw[<-n4];exact Wz.mpr ⟨e,h,rfl⟩
    have W:=Xb.mp K.ps _ gy;rw[<-hex,X];clear K dv n4 l N Ov h hex gy;rcases m9 W with q|q
    ·rw[q];exact .inl rfl
    ·rw[q];exact .inr ⟨rfl,fy _ _ _ _ (.inl (by rw[X,q];rfl))⟩
   refine acy (by have:=M.dep;exact Ym this) (rl.base _ _ W) nY K.co K.gen K.body (K.code.keeps rl.base) ?_;rw[K.clo];refine nZ BB m vs U hv.length.symm A.in1 _ s _ rl.base ?_;refine wpAny_newFunctionEnv_cells K.kind (EW _ G) fun env h s' x=>?_;have wF:=x.toInCall.keep;refine⟨(OK.nolimit.keeps rl.base).keeps wF,codeAny_func ?_⟩;clear OK U nY nZ EW W;obtain⟨h1,tk1,kD⟩:=x.toInCall.same;have st:Stp no V s V s':=.grow wF (by rw[kD]) (by rw[kD]) (by rw[kD]);have H:env.locals=s.heap.objs.size:=by rw[h];rfl
   have fresh:∀b,s.heap.objs.size<=b->s.heap.get? b=Wc:=fun b Y=>Xf Y;have t:s.heap.get? env.locals=Wc:=fresh _ (H▸(Xk _));have nb:∀b,s.heap.get? b=Wc->B.h₀.get? b=Wc:=fun b=>rl.nb;have nown:∀b,s.heap.get? b=Wc->¬own V b:=fun b=>rl.nown;have I:∀n cc,env.cells.lookup n=Wb cc->s.heap.get? cc=Wc:=fun n cc hc=>fresh _ (by
    have:=x.above n cc (mem_of_lookup hc);exact Xj (H▸this))
   have j:∀y,env.kindOf (af y)=(ap fn.sc y).map aI:=fun y=>by rw[h];exact X y
   have i:∀y k,ap fn.sc y=Wb k->k<=2:=fun y k q=>by
    clear x wF kD st H fresh t nb nown o I j;exact Wg (Xb.mp K.kinds _ (aS q))
   have knd:m.map (·.1)=fn.ps:=n4;have nd:bY (m.map (·.1))=Wd:=by rw[knd];exact K.nodup
   have Ko:=G.step st.k st.le;have scr:EN fn.sc env:=⟨fun y q=>by rw[j,q];rfl,fun y q=>by rw[j,q];rfl,fun y q=>by rw[j,q];rfl,fun y q=>absurd (i y 3 q) (by decide)⟩;have ve:EnvR B V s'.heap m env:=by
    refine⟨by rw[h];exact K.kind,by rw[h];exact K.glob,by rw[h];exact K.bui,nown _ t,nb _ t,⟨_,x.toInCall.ns,fun y p q g=>Ko.loc q nd g⟩,fun y hy=>?_,fun y z cc _ _ e1 e2=>eX (name_of_addr x.apart (mem_of_lookup e1) (mem_of_lookup e2)),fun⟨y,hy⟩ z p g=>?_⟩
    ·have hy:env.kindOf (af y)=Wb .cell:=by
      clear H fresh t nb nown o I h knd nd G scr;rcases hy with hy|hy
      ·exact hy
      ·rw[j] at hy;clear j;obtain⟨k,u,e⟩:=WD.mp hy;have:=i y k u;exact absurd (Qf k (YB (abt this)) e▸this) (by decide)
     have SJ:(env.cells.lookup (af y)).isSome=Wd:=by
      have:env.cells=Yd (s.heap.objs.size+1) fd.scope.names []:=by rw[h];rfl
      exact this▸(fy _ _ _ _ (.inl (by rw[X,<-j];exact hy)))
     clear st H fresh t o j i h knd G scr;obtain⟨cc,gA⟩:=Xt.mp SJ;exact⟨cc,_,gA,nown _ (I _ _ gA),nb _ (I _ _ gA),x.cell _ _ gA,fun p g=>Ko.cell hy nd g⟩
    ·rw[j] at hy;clear st H fresh t nb nown o I j h knd nd G scr;obtain⟨k,u,e⟩:=WD.mp hy;have lS:k=2:=Sk k (YB (i y k u)) e;clear i hy;subst lS;have Kp:(fn.sc.any fun e=>Wf e.2 2)=Wd:=YK.mpr ⟨_,aS u,rfl⟩;rw[Kp,aeP,WJ] at dZ;clear u Kp e;obtain⟨e3,Ms,rfl⟩:=iZ g;clear y g;rcases Kn e3 Ms with q|q
     ·have:=XN.mp dZ.2 _ q;simpa using this
     ·have:=Hb.notOdd _ q
      revert this
      clear Ms q;cases e3.2<;>intro z<;>first|rfl|exact gB z
   have f0:FrOK B V s'.heap (env::l):=.cons ve (by rw[h];rfl) (n5.step st.k st.le);have BD:At B (A.deeper env) ⟨d,hd,fn.tb⟩ fn.sc m env V Z s'.heap:=by
    refine⟨scr,(rl.grow wF),ve,⟨⟨env,l,YC my,rfl,f0⟩,?_,?_,M.hd,fun k u=>by rw[h];exact K.tb k u⟩⟩
    ·exact yL (m:=3) (d:=d) 1 M.dep rfl
    ·exact yL (m:=40) (d:=d) 3 M.un rfl
   have xf:∀b,dK env b->s.heap.get? b=Wc:=by
    rintro b (q|⟨y,_,q⟩)
    ·rw[q];exact t
    ·exact I _ _ q
   refine SX _ _ _ _ _ _ _ _ _ _ _ K.wf BD ?_
   revert F
   clear scr ve BD
   induction Hc:r.ex ⟨d,hd,fn.tb⟩ fn.body m Z using Mine.R.casesOn with
   |no=>exact lz
   |ok a Z2=>
    clear f0 Hc;obtain⟨fl,m2⟩:=a;intro F V2 s2 fv J S hr;have D:Stp no V s V2 s2:=((st.any).trans J).fresh xf;clear xf J
    induction fl using Mine.Fl.casesOn with
    |next=>
     obtain⟨rfl,_⟩:=hr;exact F _ _ _ D S rfl
    |ret p=>
     obtain⟨v,rfl,hv⟩:=hr;exact F _ _ _ D S hv
   |exc C dP aP Z2=>
    intro F V2 s2 e J S O;have D:Stp no V s V2 s2:=((st.any).trans J).fresh xf;have fm:uV B (A.deeper env) env V2 s2.heap:=by
     refine⟨env,l,YC my,rfl,fun e Mt=>?_⟩;clear xf Hc hv F S O;rcases Ww.mp Mt with rfl|Mt
     ·obtain⟨q1,L,o,q2,q3,q4,q5,q6⟩:=f0 e (.head _);clear F D Mt;obtain⟨o2,z1,z2⟩:=J.ex L o q5;refine⟨q1,L,o2,q2,q3,fun w=>?_,z1,z2 q6⟩;exact J.le.notOwn q5 q4 w
     ·exact n5.step D.k D.le e Mt
    unfold leaving;refine Wh (kI fm D S rl.base (O.earlier fun b z=>st.absent z) fun s3 uJ rN EX _=>?_);exact el uJ rN rl.base EX fun s4 Ow Kq Ox=>F _ _ _ Ow Kq Ox
  ·exact F.elim
 ·exact F.elim
structure n6(B:ao):Prop where
 len:B.gV fg=Wb (.builtin "len")
 list:B.gV dz=Wb (.type "list")
 tuple:B.gV cb=Wb (.type "tuple")
 any:B.gV rO=Wb (.builtin "any")
 isi:B.gV dO=Wb (.builtin "isinstance")
 sorted:B.gV fh=Wb (.builtin "sorted")
 int:B.gV rP=Wb (.type "int")
 str:B.gV rQ=Wb (.type "str")
 enum:B.gV bx=Wb (.type "enumerate")
 fn:∀x,B.T.top x=Wd->B.T.cls x=Wc->B.gV x=Wb (.ref (B.fA x))/\(B.T.fn x).isSome=Wd
section
variable{B:ao}{r:dN}{c:Cx}{m:VE}{Z:St}{A:WN}{s:Wl}{V:aG}{env:Env}{sc:Sc}{Q:Wm->Wl->Prop}{E:Wm->Wl->Prop}
theorem eK(pos:Pos)(env:Env)(as:List IE):(aas pos (Yl (bw as) env)).any (·.1)=We:=by
 rw[eH]
 induction as with
 |nil=>rfl
 |cons e es a=>simpa using a
theorem dI{f:Wm}{Q:Args->Wl->Prop}{as:List IE}{pos:Pos}(h:Ws (Wt B.prog B.w) A (ab4 (as.map fun e=>(We,eval (aV e) env))) (fun vs s'=>Q ⟨vs,[]⟩ s') E s):
  Ws (Wt B.prog B.w) A (evalArgs f Wd (aas pos (Yl (bw as) env)) []) Q E s:=by
 rw[eH]
 induction as using Wv with
 |nil=>
  unfold evalArgs;refine Wh (Xg h (fun vs s1 h1=>?_) fun _ _ e=>e);refine Wh (Wq ?_);refine W6 ?_;first
   |exact Wq h1
   |exact Wh (Wq (Wq h1))
 |cons e es=>exact evalArgs_plain h
theorem fB{f:Wm}{as:List IE}{pos:Pos}(hf:(∃T,f=.type T)\/∃id,f=.builtin id)(h:Ws (Wt B.prog B.w) A (ab4 (as.map fun e=>(We,eval (aV e) env))) (fun vs s'=>Ws (Wt B.prog B.w) A (call f vs) Q E s') E s):
  Ws (Wt B.prog B.w) A (acY pos f [] (aas pos (Yl (bw as) env)) []) Q E s:=by
 rcases hf with⟨T,rfl⟩|⟨id,rfl⟩
 ·exact aeD (eK pos env as) (dI h)
 ·refine ad1 (eK pos env as) (dI h)
theorem u0{h:Heap}{p:P}{vs:List Wm}(x:VRl B h V [p] vs):∃v,vs=[v]/\VR B h V p v:=by
 obtain⟨v,r,rfl,a,rfl⟩:=x;exact⟨v,rfl,a⟩
theorem Kr{h:Heap}{p q:P}{vs:List Wm}(x:VRl B h V [p,q] vs):∃v u,vs=[v,u]/\VR B h V p v/\VR B h V q u:=by
 obtain⟨v,r,rfl,a,u,c,rfl,b,rfl⟩:=x;exact⟨v,u,rfl,a,b⟩
theorem Ks{n:Nat}(h:n<=10000):(n:Int) <2 ^ 63:=Kc (Xi h (Wg rfl))
theorem i9(j:aJ B)(a:At B A c sc m env V Z s.heap){X:Addr->Prop}{f:Bool}{ps:List P}{vs:List Wm}{D:Addr}{h':Heap}{tk:Tok}{n:Nat}(k:∀b o,s.heap.get? b=Wb o->h'.get? b=Wb o)(d:s.heap.get? D=Wc)(h:XJ<D)(g:h'.get? D=Wb (listOf vs.toArray n))(hv:VRs B s.heap V ps vs)
  (F:Fin B X (VR B) V s (gY f ps Z) Q E):Q (.ref D) {s with heap:=h',toks:=tk}:=by
 unfold gY at F;refine Fin.y F fun hf F=>?_
 induction f using Wn with
 |false=>
  refine F.ok (s':={s with heap:=h',toks:=tk}) (.grow k) (a.rel.grow k) ?_;have i:¬own V D:=fun q=>by
   obtain⟨o,z⟩:=a.rel.has q;exact aH (d.symm.trans z)
  exact CZ.mk D vs rfl i ⟨_,g,rfl,_,rfl⟩ (VRs.step (.of_grow k) (.refl _ _) ps hv)
 |true=>
  refine F.ok (s':={s with heap:=h',toks:=tk}) (V':=V++[Wb (D,D)]) ⟨.of_grow k,Le.snoc d d,fun _ o e=>⟨o,k _ _ e,id⟩,rfl,rfl,rfl,fun _ _ _ e _ _=>k _ _ e,fun _ m _ n=>⟨m,n.keeps k⟩⟩ ?_ ?_
  ·exact a.rel.alloc k d d h h ⟨rfl,vs,n,g,VRs.step (.of_grow k) (Le.snoc d d) ps hv⟩
  ·refine J6 (.inl ⟨(D,D),?_,rfl⟩);rw[aK,<-a.rel.len];simp
theorem DB(f:aJ B)(a:At B A c sc m env V Z s.heap){X:Addr->Prop}{q:Bool}{p:P}{l:List P}{v:Wm}(hv:VR B s.heap V p v)(hs:c7 Z p=Wb l)(F:Fin B X (VR B) V s (gY q l Z) Q E):Ws (Wt B.prog B.w) A (call (.type "list") [v]) Q E s:=by
 obtain⟨ad,vs,rfl,bI,ht⟩:=kG a hv hs;have h:vs.toArray.size<=Ys:=by
  unfold gY at F
  induction hf:aq l.length using Wn with
  |false=>rw[hf] at F;exact F.elim
  |true=>rw[WP,bI.length];exact c4 (bg hf)
 have fin:∀h' i,(∀b j,s.heap.get? b=Wb j->h'.get? b=Wb j)->h'.get? s.heap.objs.size=Wb {cls:=.type "list",dict:=Wc,data:=.seq vs.toArray i,slots:= #[]}->Q (.ref s.heap.objs.size) {s with heap:=h'}:=
  fun h' i k g=>i9 f a (tk:=s.toks) k (aC _) (eI f a) g bI F
 rcases ht with ht|ht
 ·obtain⟨o,g,e,n,d⟩:=ht;exact call_list_seq ad (.inr rfl) g e d fin h
 ·obtain⟨o,g,e,n,d⟩:=ht;exact call_list_seq ad (.inl rfl) g e d fin h
theorem t3{t d e f:Nat}{a b c:Option Bool}{z:Bool}{G:Prop}(h:cond (Wf t d) a (cond (Wf t e) b (cond (Wf t f) c Wc))=Wb z)(j:t=d->a=Wb z->G)(k2:t=e->b=Wb z->G)(k3:t=f->c=Wb z->G):G:=by
 induction h1:Wf t d using Wn with
 |true=>rw[h1] at h;exact j (b9 h1) h
 |false=>
  rw[h1] at h
  induction g:Wf t e using Wn with
  |true=>rw[g] at h;exact k2 (b9 g) h
  |false=>
   rw[g] at h
   induction i:Wf t f using Wn with
   |true=>rw[i] at h;exact k3 (b9 i) h
   |false=>rw[i] at h;exact aH h
theorem Hd(f:aJ B)(G:n6 B)(a:At B A c sc m env V Z s.heap){p:P}{t:Nat}{z:Bool}{v d:Wm}(hv:VR B s.heap V p v)(ht:VR B s.heap V (.glob t) d)(hz:LL p t=Wb z)(h:∀tk,Q (.bool z) {s with toks:=tk}):
  Ws (Wt B.prog B.w) A (call (.builtin "isinstance") [v,d]) Q E s:=by
 clear f a;have ht:=ht.1;have fin:∀{V T:Wm}{b:Bool},v=V->B.gV t=Wb T->Wb b=Wb z->((∀tk,Q (.bool b) {s with toks:=tk})->Ws (Wt B.prog B.w) A (call (.builtin "isinstance") [V,T]) Q E s)->Ws (Wt B.prog B.w) A (call (.builtin "isinstance") [v,d]) Q E s:=fun e1 e2 e3 k=>by
  rw[e1,Wi (ht.symm.trans e2)];exact k (Wi e3▸h)
 clear ht h
 induction p using Mine.P.casesOn with
 |tup l=>
  obtain⟨ad,vs,ev,_,⟨o,g,e,_⟩,_⟩:=hv;exact t3 hz (fun e1 e2=>fin ev (e1▸G.tuple) e2 fun h=>IsiPair.tuple_tuple g e (h s.toks)) (fun e1 e2=>fin ev (e1▸G.str) e2 fun h=>IsiPair.tuple_str g e (h _)) fun e1 e2=>fin ev (e1▸G.int) e2 fun h=>IsiPair.tuple_int g e (h _)
 |bool b=>exact t3 hz (fun e1 e2=>fin hv (e1▸G.tuple) e2 fun h=>IsiPair.bool_tuple (h _)) (fun e1 e2=>fin hv (e1▸G.str) e2 fun h=>IsiPair.bool_str (h _)) fun _ h=>aH h
 |int i=>
  obtain⟨t,ev⟩:=hv;exact t3 hz (fun e1 e2=>fin ev (e1▸G.tuple) e2 fun h=>IsiPair.int_tuple (h _)) (fun e1 e2=>fin ev (e1▸G.str) e2 fun h=>IsiPair.int_str (h _)) fun e1 e2=>fin ev (e1▸G.int) e2 fun h=>IsiPair.int_int (h s.toks)
 |str i=>
  obtain⟨t,ev⟩:=hv;exact t3 hz (fun e1 e2=>fin ev (e1▸G.tuple) e2 fun h=>IsiPair.str_tuple (h _)) (fun e1 e2=>fin ev (e1▸G.str) e2 fun h=>IsiPair.str_str (h s.toks)) fun e1 e2=>fin ev (e1▸G.int) e2 fun h=>IsiPair.str_int (h _)
 |_=>exact t3 hz (fun _ h=>aH h) (fun _ h=>aH h) fun _ h=>aH h
theorem Ah:∀k:Nat,k<10->(adK (toString (YJ k)))=af (48+k):=by decide+kernel
theorem He(a:At B A c sc m env V Z s.heap){i:Int}{x:Nat}{v:Wm}(hv:VR B s.heap V (.int i) v)(hz:yY i=Wb x)(h:∀t tk,Q (.str (af x) t) {s with toks:=tk}):Ws (Wt B.prog B.w) A (call (.type "str") [v]) Q E s:=by
 obtain⟨t,rfl⟩:=hv;cases i with
 |negSucc=>exact aH hz
 |ofNat k=>
  replace hz:cond (WR k 10) (Wb (48+k)) Wc=Wb x:=hz
  induction b:WR k 10 using Wn with
  |false=>rw[b] at hz;exact aH hz
  |true=>
   rw[b] at hz;cases hz;have d:k<10:=Wg b;refine P.str_of_int ?_ ?_
   ·show k.log2<1920;rcases adv k with rfl|hp
    ·decide
    ·have:k.log2<4:=(aec (by exact Y4 hp)).mpr (YQ d (Wg rfl));exact Wj this (Wg rfl)
   ·have e:=Ah k d;exact e▸(h _ _)
end
theorem qk(x:Nat):∀l,(fG x l).Perm (x::l):=by
 intro a
 induction a with
 |nil=>
  exact .refl _
 |cons y r b=>
  rw[yP]
  induction fF x y using Wn with
  |true=>exact .refl _
  |false=>exact((b).cons y).trans (.swap x y r)
theorem fw:∀l,(cg l).Perm l:=by
 intro a
 induction a with
 |nil=>
  exact .refl _
 |cons x r b=>
  exact(qk x (cg r)).trans ((b).cons x)
noncomputable def It(a b:Nat):Prop:=bA a<=bA b
theorem sQ(x:Nat):∀l,l.Pairwise It->(fG x l).Pairwise It:=by
 intro l
 induction l with
 |nil=>exact fun _=>abY _ _
 |cons y r e=>
  intro h;obtain⟨h1,b⟩:=Yb.mp h;rw[yP]
  induction a:fF x y using Wn with
  |true=>
   have c:bA x<bA y:=of_decide_eq_true (by rw[<-uN];exact a);have d:It x y:=aee.mp fun q=>List.lt_irrefl _ (List.lt_trans q c);refine Yb.mpr ⟨fun z hz=>?_,h⟩;clear b a c;rcases Ww.mp hz with rfl|hz
   ·exact d
   ·exact aeQ d (h1 z hz)
  |false=>
   have f:It y x:=aee.mp (of_decide_eq_false (by rw[<-uN];exact a));refine Yb.mpr ⟨fun z hz=>?_,e b⟩;clear b a;rcases Ww.mp ((qk x r).mem_iff.mp hz) with rfl|hz
   ·exact f
   ·exact h1 z hz
theorem rh:∀l,(cg l).Pairwise It:=by
 intro a
 induction a with
 |nil=>
  exact .nil
 |cons x r b=>
  exact sQ x _ (b)
theorem lD:∀(l:List Str),sortedS l=Wd->l.Pairwise fun a b=>a.cps.toList<=b.cps.toList:=by
 have rs:∀(l:List Str)(p:Str),risingS p l=Wd->(p::l).Pairwise fun a b=>a.cps.toList<=b.cps.toList:=by
  intro l
  induction l with
  |nil=>exact fun p _=>abY _ _
  |cons x r d=>
   intro p h;have h:(!Spec.ltCps x.cps.toList p.cps.toList&&risingS x r)=Wd:=h;have h1:=aa h;rw[ltCps_eq,Xy] at h1;have c:p.cps.toList<=x.cps.toList:=aee.mp (of_decide_eq_false h1);have q:=d x (ay h);refine Yb.mpr ⟨fun z hz=>?_,q⟩;clear h h1;clear h;rcases Ww.mp hz with rfl|hz
   ·exact c
   ·exact aeQ c ((Yb.mp q).1 z hz)
 intro l h
 induction l using Wv with
 |nil=>exact .nil
 |cons x r=>exact rs r x h
theorem l7{ss:List Nat}{ts:List Str}(hp:ts.Perm (ss.map af))(hs:sortedS ts=Wd):ts=(cg ss).map af:=by
 refine List.Perm.eq_of_pairwise (le:=fun a b:Str=>a.cps.toList<=b.cps.toList) (fun a b _ _ h1 c=>?_) (lD _ hs) ?_ (hp.trans ((fw ss).map af).symm)
 ·have:=List.le_antisymm h1 c;clear hp hs h1 c;cases a;cases b;simp only at this
  congr 1
  exact abZ.mp this
 ·rw[adD];exact(rh ss).imp fun h=>by simpa [af,It] using h
section
variable{B:ao}{r:dN}{c:Cx}{m:VE}{Z:St}{A:WN}{s:Wl}{V:aG}{env:Env}{sc:Sc}{Q:Wm->Wl->Prop}{E:Wm->Wl->Prop}
theorem kK{h:Heap}:∀{ss:List Nat}{vs:List Wm},YX vs (ss.map af)->VRs B h V (ss.map .str) vs:=by
 intro a
 induction a with
 |nil=>
  intro vs x;cases x;exact rfl
 |cons y ss b=>
  intro vs x;cases x with
  |cons _ t r=>
   exact vrC rfl GN (b r)
theorem ER.pairs{h:Heap}{es:List (Nat×P)}{b:List WY}(er:ER B h V es b):∃a:List (Str×Wm),Pairs (strKind B.prog B.w) b a/\a.map (·.1)=es.map fun e=>af e.1:=by
 induction es generalizing b with
 |nil=>cases er;exact⟨[],.nil,rfl⟩
 |cons e es c=>
  obtain⟨d,r,rfl,_,⟨t,f⟩,_,_,ar⟩:=er;obtain⟨a,h1,g⟩:=c ar;exact⟨(af e.1,d.val)::a,.cons (f▸(YR _ _ _ _)) rfl h1,by simp[g]⟩
theorem ri:∀{es:List (Nat×P)},aW es=Wd->(es.map fun e=>af e.1).Nodup:=by
 intro a
 induction a with
 |nil=>
  intro _;exact .nil
 |cons b r c=>
  obtain⟨x,p⟩:=b;intro h;have h:(!has x r&&aW r)=Wd:=h;refine Xu.mpr ⟨fun q=>?_,c (ay h)⟩;obtain⟨e,d,f⟩:=Wz.mp q;have:=qb (ay h) (x:=e.1) (p:=e.2) (by cases e;exact d);rw[(eX f)] at this;have h1:=aa h;unfold has at h1;rw[this] at h1;exact dg h1
theorem ER.dictAt{h:Heap}{es:List (Nat×P)}{b:List WY}{n:Nat}{d:Addr}(er:ER B h V es b)(g:h.get? d=Wb (XE b n))(f:aW es=Wd):∃a,h.DictAt (strKind B.prog B.w) d a n/\a.map (·.1)=es.map fun e=>af e.1:=by
 obtain⟨a,h1,c⟩:=er.pairs;refine⟨a,⟨_,_,g,⟨rfl,rfl,rfl⟩,rfl,fun e i=>?_,h1,by rw[c];exact ri f⟩,c⟩;obtain⟨y,t,e1,e2⟩:=er.keys (x:=0) e (aaN.mpr i);exact⟨af y,by rw[e1];exact YR _ _ _ _,e2⟩
theorem sR:∀(es:List (Nat×P)),dA (keys es)=Wb (es.map (·.1)):=by
 intro a
 induction a with
 |nil=>
  exact rfl
 |cons e es b=>
  show(dA (keys es)).map (e.1:: ·)=_;rw[b];rfl
theorem xU(y:aJ B)(a:At B A c sc m env V Z s.heap)(T:A.handled=Wc){mu:Bool}{p:P}{l:List P}{ss:List Nat}{v:Wm}(hv:VR B s.heap V p v)(r:items Z p=Wb l)(hs:dA l=Wb ss)(d:ss.length<64)
  (hp:∀l',p≠ .tup l') (F:Fin B no (VR B) V s (gY mu ((cg ss).map .str) Z) Q E):Ws (Wt B.prog B.w) A (call (.builtin "sorted") [v]) Q E s:=by
 have lst:∀{ad:Addr}{vs:List Wm},VRs B s.heap V l vs->s.heap.IsList ad vs.toArray->Ws (Wt B.prog B.w) A (call (.builtin "sorted") [.ref ad]) Q E s:=by
  intro ad vs bI f;have q:=nU hs bI;refine sorted_strs f q (by rw[q.length,Wp];exact d) fun out SM M C a3=>?_;clear T hv r hs d bI f q;obtain⟨e,U⟩:=sortedAll_at s.heap vs out;have W:=l7 C a3;clear l v ad C a3;subst W;have Hf:out=out.toList.toArray:=by simp
  exact i9 y a (tk:=s.toks) (fun _ _=>sortedAll_old) (Xf (Xp _)) (aax (eI y a)) (Hf▸U) (kK M) F
 induction p using Mine.P.casesOn with
 |tup=>exact absurd rfl (hp _)
 |list=>obtain rfl:=Wi r;obtain⟨ad,vs,rfl,_,t,q⟩:=hv;exact lst q t
 |ref n=>
  rcases IK r with N|⟨es,ep,N,jG,e⟩
  ·clear y T hs d r;obtain⟨cc,e1,rfl,_,vs,k,g,q⟩:=a.rel.ref hv N (by simp);exact lst q ⟨_,g,rfl,_,rfl⟩
  ·clear lst r
   ·subst e;rw[sR] at hs;cases hs;obtain⟨cc,e1,rfl,_,aO,k,g,er,_⟩:=a.rel.ref hv N (by simp);clear N;obtain⟨X,Y,D⟩:=er.dictAt g (aa jG);have O:X.length=es.length:=by have:=congrArg Y0 D;simpa using this
    have d:es.length<64:=by simpa using d
    refine Calls.call_function_entry kind_sorted plain_sorted entry_sorted (args_sorted1 _) ?_;unfold ae4.«sorted»;refine Wh (m:=checkCount "sorted" 1 1 _) (Wq ?_);refine Wh (kdu_collect (A:=A.in1) (kdl_dict (eE a.rel e1)) T Y (by rw[O,X0];exact Wj (Xj d) (Wg rfl)) fun h' tk u G H=>?_);have i:u.toList.length=es.length:=Array.length_toList▸(H.1.trans O);have R:YX u.toList ((es.map (·.1)).map af):=by
     have I:∀(vs:List Wm)(ks:List Str),vs.length=ks.length->(∀(j:Nat)(v:Wm),vs[j]?=Wb v->∃k,ks[j]?=Wb k/\(strKind B.prog B.w).is k v=Wd)->YX vs ks:=by
      intro vs;clear jG e1 g er Y D O d tk G H i
      induction vs with
      |nil=>intro ks f _;cases ks with|nil=>exact .nil|cons _ _=>cases f
      |cons v vs ih=>
       intro ks f J;clear aO X d h' u
       induction ks using Wv with
       |nil=>cases f
       |cons k ks=>
        obtain⟨k',e,K⟩:=J 0 v rfl;obtain rfl:=Wi e;have hv:∃t,v=.str k t:=by
         have K:Xm k v=Wd:=K;clear f J e hv;cases v with
         |str x t=>
          have:x=k:=by simpa [Xm] using K
          exact⟨t,by rw[this]⟩
         |_=>exact dg K
        clear e K;obtain⟨t,rfl⟩:=hv;exact .cons k t (ih ks (aav f) fun j v h=>J (j+1) v h)
     refine I _ _ (by rw[i];simp) fun j v J=>?_;clear e1 g er Y O d tk G i I hv;obtain⟨k,x,SN,SO⟩:=H.2 j v ((Array.getElem?_toList)▸J);refine⟨k,?_,SO⟩;have:(X.map (·.1))[j]?=Wb k:=by rw[YY,SN];rfl
     rw[XB];exact(D▸this)
    refine Wh (adj ?_ (by rw[i,X0];exact Wj (Xj d) (Wg rfl)));generalize hL:h'.objs.size=L;have S:(h'.push (seqObj "list" u.toList.toArray 0)).get? L=Wb (seqObj "list" u.toList.toArray 0):=hL▸(WW _ rfl);have hn:h'.get? L=Wc:=hL▸(aC h');have Qw:s.heap.get? L=Wc:=by
     clear H i R hv D S
     induction z:s.heap.get? L using Wo with
     |none=>rfl
     |some o=>rw[G _ _ z] at hn;exact rG hn
    have lw:XJ<L:=by
     exact hL▸(aeb ((y.nolimit.keeps a.rel.base).keeps G))
    refine Wh (W6 (YL slot_list_sort ⟨_,S,rfl⟩ entry_list_sort (list_sort_treeK strKind_oneLt S R.keysOf (fun v₁ v₂ ar e=>keyKind_strs (e▸R)) (by rw[i];exact d) fun uX M C=>⟨_,rfl,?_⟩) (args_list_sort _)));clear H i hv D hn;obtain⟨SM,b1,b2,b3⟩:=sorted_out_str R M C;have W:=l7 b2 b3;clear M C b2 b3;subst W;obtain⟨e,U⟩:=sortedHeap_at (out:=(arrOf uX).map (·.2)) S;generalize (arrOf uX).map (·.2)=out at*;refine Wq ⟨_,rfl,?_⟩;refine i9 y a (tk:=tk) (fun b o z=>?_) Qw lw U (kK b1) F;have z2:=Wr (seqObj "list" u.toList.toArray 0) (G b o z);exact(sortedHeap_old (fun w=>by rw[w,Qw] at z;exact aH z) (Yo z2)).trans z2
 |_=>exact aH r
theorem Ak{h:Heap}:∀{l:List P}{a:List Bool}{vs:List Wm},fO l=Wb a->VRs B h V l vs->vs=a.map .bool:=by
 intro b
 induction b with
 |nil=>
  intro a vs e hv;obtain rfl:=Wi e;exact hv
 |cons p l c=>
  intro a vs e hv;obtain⟨v,r,rfl,_,v1,v2⟩:=hv
  induction p using Mine.P.casesOn with
  |bool x=>
   replace e:(fO l).map (x:: ·)=Wb a:=e;obtain⟨t,ht,rfl⟩:=WD.mp e;subst v1;rw[c ht v2];rfl
  |_=>exact aH e
theorem xV(a:List Bool):((aag a.length).any fun i=>a.getD i We)=a.any id:=by
 induction a with
 |nil=>rfl
 |cons b r c=>
  rw[Xa,ab8,Yf,adB,Yf]
  congr 1
theorem Hg(a:At B A c sc m env V Z s.heap)(n:A.handled=Wc){l:List P}{d:List Bool}{v:Wm}(hv:VR B s.heap V (.list l) v)(j:fO l=Wb d)(h:∀h' tk,(∀b o,s.heap.get? b=Wb o->h'.get? b=Wb o)->Q (.bool (d.any id)) {s with heap:=h',toks:=tk}):
  Ws (Wt B.prog B.w) A (call (.builtin "any") [v]) Q E s:=by
 clear a;obtain⟨ad,vs,rfl,_,f,bI⟩:=hv;have e:=Ak j bI;clear bI;subst e;refine call_any_walk (abz f ?_);have p:ad≠s.heap.objs.size:=fun e=>by obtain⟨o,g,_⟩:=f;exact aaI _ (e▸Yo g)
 refine⟨s.heap.objs.size,_,_,_,_,_,fun i=>d.getD i We,rfl,Walks.list (A:=A.in1) n s.heap.objs.size ad p (d.map aeE).toArray,⟨⟨_,WW _ rfl,rfl,rfl⟩,?_⟩,?_,?_⟩
 ·obtain⟨o,g,z⟩:=f;exact⟨o,Wr _ g,z⟩
 ·intro i v s' Q' t q r;have:(d.map aeE)[i]?=Wb v:=by simpa using q
  rw[YY] at this;clear n h f p q;obtain⟨b,j,rfl⟩:=WD.mp this;refine Yz ?_;have:d.getD i We=b:=by rw[abk,j];rfl
  rw[<-this];exact r
 ·intro h' tk k;have e:((d.map aeE).toArray.size)=d.length:=by simp
  rw[e,xV];exact h h' tk fun b o z=>k b o (fun w=>by
   have:b=s.heap.objs.size:=by simpa using w
   exact aaI _ (this▸Yo z)) (Wr _ z)
end
structure Al(B:ao):Prop where
 cls:∀x f,B.T.cls x=Wb f->B.gV x=Wb (.ref (B.cA x))/\makesIn B.K (B.cA x)=Wd/\X4 B.K (.ref (B.cA x)) "__init__" =Wb (Wb (.ref (B.fA f)))/\aeF B.K (.ref (B.fA f))=Wb (.type "function")/\acf B.K (.ref (B.cA x))=Wd
 fn:∀x,B.T.top x=Wd->acf B.K (.ref (B.fA x))=Wd
section
variable{B:ao}{r:dN}{c:Cx}{m:VE}{Z:St}{A:WN}{s:Wl}{V:aG}{env:Env}{sc:Sc}{Q:Wm->Wl->Prop}{E:Wm->Wl->Prop}
theorem kL(A:WN)(a:Args):(A.under (.builtin "type.__call__" a)).frames=A.frames:=by
 rfl
theorem l8(A:WN)(C:Addr)(ar:List Wm):(A.under (.builtin "type.__call__" ⟨.ref C::ar,[]⟩)).depth=A.depth+1:=by
 show A.depth+(0+1+(if guardIds.contains "type.__call__" then 1 else 0)+0)=A.depth+1;rw[show guardIds.contains "type.__call__" =We by decide+kernel];rfl
theorem l9(A:WN)(a:Args):(A.under (.builtin "type.__call__" a)).units=A.units+1:=rfl
theorem Am(j:aJ B)(I:i7 B)(J:Al B)(L:gz B r){x f:Nat}{vs:List P}{l:List Wm}(y:B.T.cls x=Wb f)
  (rl:Rel B V Z s.heap) (a:Amb B A c env V s.heap) (hv:VRl B s.heap V vs l)
  (F:Fin B no (VR B) V s ((dG B.T r c f (.ref Z.length::vs) (Z++[.inst x []])).bind fun v M=>match v with|.none=>.ok (.ref Z.length) M|_=>.no) Q E):
  Yu (Wt B.prog B.w) A (.call (.ref (B.cA x)) ⟨l,[]⟩) (fun r s'=>match r with|.ok (.ret v)=>Q v s'|.ok _=>False|.error e=>E e s') s:=by
 obtain⟨h,g,d,t,os⟩:=s;obtain⟨_,N,b2,O,_⟩:=J.cls x f y;have X:B.K.In h:=j.X.keeps rl.base;refine make_core (makes_of X N) (aau X b2) (fun self=>bind_fn X self O) (.inl rfl) ?_;generalize i:(⟨(h.push aeW).push (ab3 (B.cA x) h.objs.size),g,d,t,os⟩:Wl)=s1;have q:s1.heap=(h.push aeW).push (ab3 (B.cA x) h.objs.size):=by rw[<-i]
 have k:∀b o,h.get? b=Wb o->s1.heap.get? b=Wb o:=fun b o e=>by rw[q];exact Wr _ (Wr _ e)
 have C:h.get? (h.objs.size+1)=Wc:=Xf (Xp _);have D:h.get? h.objs.size=Wc:=aC h;have G:XJ<h.objs.size:=aeb (j.nolimit.keeps rl.base);have R:s1.heap.get? (h.objs.size+1)=Wb (ab3 (B.cA x) h.objs.size):=by
  rw[q];have:=WW (h.push aeW) (o:=ab3 (B.cA x) h.objs.size) rfl
  rwa [Yt] at this
 have st:Stp no V ⟨h,g,d,t,os⟩ (V++[Wb (h.objs.size+1,h.objs.size)]) s1:=⟨.of_grow k,Le.snoc C D,fun _ o e=>⟨o,k _ _ e,id⟩,by rw[<-i],by rw[<-i],by rw[<-i],fun _ _ _ e _ _=>k _ _ e,fun _ m _ n=>⟨m,n.keeps k⟩⟩;have S:Rel B (V++[Wb (h.objs.size+1,h.objs.size)]) (Z++[.inst x []]) s1.heap:=rl.alloc k C D (aax G) G ⟨by simp,R,[],0,(by rw[q];exact Wr _ (WW h rfl)),rfl,by rw[y];rfl⟩;have H:ai (V++[Wb (h.objs.size+1,h.objs.size)]) Z.length=Wb (Wb (h.objs.size+1,h.objs.size)):=by rw[aK,<-rl.len];simp
 obtain⟨e1,u,U,q2,W⟩:=(a.step st.k st.le).fr;have Y:Ag B (A.under (.builtin "type.__call__" ⟨.ref (B.cA x)::l,[]⟩)) c (V++[Wb (h.objs.size+1,h.objs.size)]) s1.heap:=by
  refine⟨⟨_,(kL _ _).trans U,W⟩,?_,?_,a.hd⟩
  ·rw[l8];exact LI 1 a.dep rfl
  ·rw[l9];exact LI 1 a.un rfl
 refine codeAny_mono (nX (E:=E) (Q:=fun v s'=>v=.none/\Q (.ref (h.objs.size+1)) s') j I L S Y (vs:=.ref Z.length::vs) ⟨_,_,rfl,?_,hv.step st.k st.le⟩ ?_) fun rr s' z=>?_
 ·exact J6 (.inl ⟨_,H,rfl⟩)
 ·refine(F.shift st).bindE fun p Z2 V2 s2 v bp kJ hv F2=>?_;cases p with
  |none=>
   subst hv;refine⟨rfl,Fin.ok F2 (.refl _ _ _) kJ ?_⟩;refine⟨_,rfl,?_⟩;rcases bp.le.more _ _ H with z|z
   ·exact .inl ⟨_,z,rfl⟩
   ·exact .inr z
  |_=>exact F2.elim
 ·cases rr with
  |error e=>exact z
  |ok f=>induction f<;>first|exact z|exact z.elim
end
section
variable{B:ao}{r:dN}{c:Cx}{m:VE}{Z:St}{A:WN}{s:Wl}{V:aG}{env:Env}{sc:Sc}{Q:Wm->Wl->Prop}{E:Wm->Wl->Prop}
theorem il(a:aJ B){f:Wm}(c:acf B.K f=Wd){as:List IE}{pos:Pos}
  (h:Ws (Wt B.prog B.w) A (ab4 (as.map fun e=>(We,eval (aV e) env))) (fun vs s'=>(∀b o,B.h₀.get? b=Wb o->s'.heap.get? b=Wb o)/\Ws (Wt B.prog B.w) A (call f vs) Q E s') E s):
  Ws (Wt B.prog B.w) A (acY pos f [] (aas pos (Yl (bw as) env)) []) Q E s:=
 callWith_of (P:=fun h=>B.K.In h) (by rw[eK];rfl) (keeps_K c) (dI (Xg h (fun vs s' h'=>⟨a.X.keeps h'.1,h'.2⟩) fun _ _ e=>e))
theorem xW(a:At B A c sc m env V Z s.heap){p:P}{v:Wm}(hp:VR B s.heap V p v)(F:Fin B no (VR B) V s (yZ p Z) Q E):Ws (Wt B.prog B.w) A (call (.type "tuple") [v]) Q E s:=by
 refine Fin.o F fun l j F=>F.y fun i F=>?_;obtain⟨ad,vs,rfl,bI,ht⟩:=kG a hp j;clear hp j;rcases ht with ht|ht
 ·refine call_tuple_tup ht (Fin.ok F (.refl _ _ _) a.rel (zP.mk ad vs rfl ?_ ht bI));rintro⟨n,cc,e1,z⟩;clear i F bI;obtain⟨o1,d,f,h,r⟩:=ht;have w:=a.rel.objs n;rw[e1] at w;generalize ai Z n=t at w;clear a F r;rcases t with _|(_|_|_|_|_)
  ·exact w
  ·obtain⟨q,vs,k,g,_⟩:=w;rw[show ad=cc.1 from z.elim id (·.trans q),g] at d;clear l F h q g;obtain rfl:=Wi d;exact absurd (acZ f) (by decide)
  ·obtain⟨q,vs,k,g,_⟩:=w;rw[show ad=cc.1 from z.elim id (·.trans q),g] at d;clear l F h q g;obtain rfl:=Wi d;exact absurd (acZ f) (by decide)
  ·obtain⟨q,g,x,k,u,_⟩:=w;clear l F h vs q;rcases z with z|z
   ·rw[z,g] at d;obtain rfl:=Wi d;cases f
   ·rw[z,u] at d;obtain rfl:=Wi d;exact absurd (acZ f) (by decide)
  ·obtain⟨q,_,ps,g,_⟩:=w;rw[show ad=cc.1 from z.elim id (·.trans q),g] at d;clear l F h vs z q g;obtain rfl:=Wi d;cases f
  ·exact w
 ·refine call_tuple_list ht (fun h' k=>?_) (by rw[WP,bI.length];exact c4 (bg i));refine Fin.ok F (s':={s with heap:=h'.push {cls:=.type "tuple",data:=.seq vs.toArray}}) (.grow fun b o e=>Wr _ (k b o e)) (a.rel.grow fun b o e=>Wr _ (k b o e)) ?_;refine zP.mk _ vs rfl (fun q=>?_) (nM _ _) (VRs.step (.of_grow fun b o e=>Wr _ (k b o e)) (.refl _ _) l bI);clear i F bI ht vs;obtain⟨o,z⟩:=a.rel.has q;exact aaI _ (Yo (k _ _ z))
theorem gi{x q:Nat}{g:Nat->Option Wm}{u v:Wm}(h:Wf x q=Wd)(a:g q=Wb u)(hf:g x=Wb v):v=u:=by
 rw[b9 h] at hf;exact Wi (hf.symm.trans a)
theorem An(j:aJ B)(G:n6 B)(a:At B A c sc m env V Z s.heap){x:Nat}{I:Bool}{vs:List P}{C:List Wm}{q:Wm}(hf:B.gV x=Wb q)(hv:VRl B s.heap V vs C)
  (F:Fin B no (VR B) V s (callB c.hd x I vs Z) Q E):Ws (Wt B.prog B.w) A (call q C) Q E s:=by
 match vs,hv,F with
 | [],_,F=>exact F.elim
 | [p],hv,F=>
  obtain⟨v,rfl,hp⟩:=u0 hv;refine F.d (fun h F=>?_) fun F=>F.d (fun h F=>?_) fun F=>F.d (fun h F=>?_) fun F=>F.d (fun h F=>?_) fun F=>F.d (fun h F=>?_) fun F=>F.d (fun h F=>?_) fun F=>F.y fun h F=>?_
  ·rw[gi h G.len hf];refine Fin.o F fun l f F=>F.y fun D F=>?_;clear j G hf hv h;obtain⟨ad,vs,rfl,bI,ht⟩:=kG a hp f;have r:vs.toArray.size=l.length:=by rw[WP,bI.length]
   have fin:Q (.int vs.toArray.size (s.toks+1)) {s with toks:=s.toks+1+1}:=by
    exact r▸(Fin.ok F (bM _ _ _) a.rel ⟨_,rfl⟩)
   have H:(vs.toArray.size:Int) <2 ^ 63:=r▸(Ks (bg D));clear a q hv hp f D F bI r;rcases ht with ht|ht
   ·exact len_tuple ht H fin
   ·exact len_list ht H fin
  ·exact(gi h G.list hf)▸(Fin.o F fun l f F=>DB j a hp f F)
  ·exact(gi h G.tuple hf)▸(xW a hp F)
  ·rw[gi h G.any hf];refine Fin.o F fun l f F=>Fin.o F fun L g F=>F.n fun hc F=>?_;rw[WJ] at hc;rw[P.l_is f] at hp;exact Hg a (a.amb.hd hc.1) hp g fun h' tk k=>Fin.ok F (s':={s with heap:=h',toks:=tk}) (.grow k) (a.rel.grow k) rfl
  ·rw[gi h G.sorted hf];refine Fin.n F fun hc F=>F.o fun l f F=>F.o fun ss J F=>F.y fun g F=>?_;rw[WJ] at hc;exact xU j a (a.amb.hd hc.1) hp f J (Wg g) (fun M e=>by rw[e] at hc;exact gB hc.2) F
  ·rw[gi h G.int hf];refine Fin.o F fun b f F=>?_;rw[P.b_is f] at hp;rw[show v=.bool b from hp];exact call_int_bool (Fin.ok F (bM _ _ _) a.rel ⟨_,by induction b<;>rfl⟩)
  ·rw[gi h G.str hf];refine Fin.o F fun i f F=>F.o fun z hz F=>?_;exact He a ((P.i_is f)▸hp) hz fun t tk=>Fin.ok F (bM _ _ _) a.rel ⟨_,rfl⟩
 | [p,u],hv,F=>
  induction u using Mine.P.casesOn with
  |glob t=>
   obtain⟨v,u,rfl,h1,K⟩:=Kr hv;refine Fin.y F fun h F=>Fin.o F fun b g F=>?_;exact(gi h G.isi hf)▸(Hd j G a h1 K g fun tk=>Fin.ok F (bM _ _ _) a.rel rfl)
  |_=>exact F.elim
 |p::u::_::_,_,F=>cases u<;>exact F.elim
theorem Hi(G:n6 B){x:Nat}(h:yX x=Wd):∃v,B.gV x=Wb v/\((∃T,v=.type T)\/∃id,v=.builtin id):=by
 unfold yX at h;simp only[XX] at h;rcases h with((((((h|h) |h) |h) |h) |h) |h) |h<;>(have e:=b9 h;subst e)
 ·exact⟨_,G.len,.inr ⟨_,rfl⟩⟩
 ·exact⟨_,G.list,.inl ⟨_,rfl⟩⟩
 ·exact⟨_,G.tuple,.inl ⟨_,rfl⟩⟩
 ·exact⟨_,G.any,.inr ⟨_,rfl⟩⟩
 ·exact⟨_,G.sorted,.inr ⟨_,rfl⟩⟩
 ·exact⟨_,G.int,.inl ⟨_,rfl⟩⟩
 ·exact⟨_,G.str,.inl ⟨_,rfl⟩⟩
 ·exact⟨_,G.isi,.inr ⟨_,rfl⟩⟩
theorem Amb.room(a:Amb B A c env V s.heap):Ag B A c V s.heap:=by
 obtain⟨e1,b,d,f,e⟩:=a.fr;refine⟨⟨_,d,e⟩,?_,?_,a.hd⟩
 ·exact Wj (W0 _ 2) a.dep
 ·exact Wj (W0 _ 30) a.un
theorem DD{x p1 p:Nat}{k:Bool}{as:List IE}(e:aJ B)(G:n6 B)(q:i7 B)(l:Al B)(S:SimE B r)(t:gz B r)(h:bj sc (.call x p1 k as p)=Wd)(a:At B A c sc m env V Z s.heap)(F:Fin B no (VR B) V s (aQ B.T r c (.call x p1 k as p) m Z) Q E):Ws (Wt B.prog B.w) A (eval (aV (.call x p1 k as p)) env) Q E s:=by
 have h:((((eP sc x&&ng x) &&!Wf x dw) &&bU sc as) &&XQ as.length 20)=Wd:=h;have h1:=aa (aa (aa (aa h)));have n:=ay (aa (aa (aa h)));have o:=ay (aa h);refine Fin.y F fun u F=>?_;refine ad2 rfl ?_
 induction g:B.T.cls x using Wo with
 |some f=>
  obtain⟨j,_,_,_,C⟩:=l.cls x f g;refine dH e a h1 n j (il e C (S.evs as o a F fun ps Z1 V1 s1 vs st d hv z b=>⟨d.rel.base,?_⟩));unfold iq at b;rw[g] at b;exact aah (Am e q l t g d.rel d.amb hv b)
 |none=>
  induction i:B.T.top x using Wn with
  |true=>
   refine dH e a h1 n (G.fn x i g).1 (il e (l.fn x i) (S.evs as o a F fun ps Z1 V1 s1 vs st d hv z b=>⟨d.rel.base,?_⟩));unfold iq at b;rw[g,i] at b;exact aah (nX e q t d.rel d.amb.room hv b)
  |false=>
   obtain⟨v,j,D⟩:=Hi G (by rw[g,i] at u;exact u);refine dH e a h1 n j (fB D (S.evs as o a F fun ps Z1 V1 s1 vs st d hv z b=>?_));unfold iq at b;rw[g,i] at b;exact An e G d j hv b
end
section
variable{B:ao}{r:dN}{c:Cx}{m:VE}{Z:St}{A:WN}{s:Wl}{V:aG}{env:Env}{sc:Sc}{Q:Wm->Wl->Prop}{E:Wm->Wl->Prop}
theorem Ap{D:Addr}{vs:List Wm}{n:Nat}(g:s.heap.get? D=Wb (listOf vs.toArray n))(f:Array Wm->Array Wm):
  (∀b o,s.heap.get? b=Wb o->b≠D->(s.heap.update D (aeG f)).get? b=Wb o)/\∃n',(s.heap.update D (aeG f)).get? D=Wb (listOf (f vs.toArray).toList.toArray n'):=by
 refine⟨fun b o e z=>by rw[Xd _ _ (Ne.symm z)];exact e,_,get?_update_seq (c:="list") (xs:=vs.toArray) g f⟩
noncomputable abbrev LQ(Q:Wm->Wl->Prop)(s:Wl)(D:Addr)(vs:List Wm)(v:Wm):Prop:=∀h' n',(∀b o,s.heap.get? b=Wb o->b≠D->h'.get? b=Wb o)->h'.get? D=Wb (listOf vs.toArray n')->Q v {s with heap:=h'}
theorem qo{D:Addr}{vs:List Wm}{n:Nat}{x:Wm}(g:s.heap.get? D=Wb (listOf vs.toArray n))(hz:vs.length<=Ys)(h:LQ Q s D (vs++[x]) .none):Ws (Wt B.prog B.w) A (call (.builtin "list.append") [.ref D,x]) Q E s:=by
 obtain⟨k,n',a⟩:=Ap g fun xs=>xs.push x;exact abl slot_list_append ⟨_,g,rfl⟩ entry_list_append (args_list_append _ _) (ac0 D vs.toArray n x (by rw[WP];exact hz)) ⟨g,h _ n' k (by simpa using a)⟩
theorem Hj{D:Addr}{vs:List Wm}{n:Nat}{x:Wm}(g:s.heap.get? D=Wb (listOf (vs++[x]).toArray n))(hz:(vs++[x]).length<=Ys)(h:LQ Q s D vs x):Ws (Wt B.prog B.w) A (call (.builtin "list.pop") [.ref D]) Q E s:=by
 obtain⟨k,n',b⟩:=Ap g fun xs=>xs.eraseIdxIfInBounds ((vs++[x]).toArray.size - 1);have a:(vs++[x]).toArray.size - 1=vs.length:=by rw[WP,Wu];rfl
 refine abl acz ⟨_,g,rfl⟩ PySem.F.entry_list_pop (PySem.F.args_list_pop_1 _) (aem D _ n x (by rw[a];simp) (by rw[WP];exact hz)) ⟨g,h _ n' k ?_⟩;have e:((vs++[x]).toArray.eraseIdxIfInBounds ((vs++[x]).toArray.size - 1))=vs.toArray:=by rw[a,kl_erase,X7]
 rw[b,e]
theorem xX{D b:Addr}{vs ws:List Wm}{n:Nat}(g:s.heap.get? D=Wb (listOf vs.toArray n))(a:s.heap.IsList b ws.toArray)(hz:vs.length+ws.length<=10000)(h:LQ Q s D (vs++ws) .none):Ws (Wt B.prog B.w) A (call (.builtin "list.extend") [.ref D,.ref b]) Q E s:=by
 obtain⟨o,go,hc,m,hd⟩:=a;obtain⟨k,n',c⟩:=Ap g fun xs=>xs++ws.toArray;refine YL abC ⟨_,g,rfl⟩ PySem.F.entry_list_extend ?_ (PySem.F.args_list_extend_2 _ _);show Ws _ _ (aa5 (.ref D) (.ref b) .none) _ _ s;unfold aa5;refine Wh (wpAny_typeOf (T:="list") ⟨o,go,hc⟩ ?_);have ht:(afs "list" ==afs "list")=Wd:=by rfl
 rw[if_pos (by rw[ht];simp)];refine Wh (adL go hd ?_);refine Wh (adL (xs:=vs.toArray) (n:=n) g rfl ?_);rw[if_neg (by
  have:abD (vs.toArray.size+ws.toArray.size)=We:=by
   unfold abD;simp only[WP,decide_eq_false_iff_not];rw[X0];exact aaC (qC hz rfl)
  rw[this];simp)]
 refine Wh (listUpdate_at (xs:=vs.toArray) (n:=n) g rfl ?_ (by rw[WP,X0];exact qC (WZ hz) rfl) (by show(vs.toArray++ws.toArray).size<=Ys+1;rw[Array.size_append,WP,WP,X0];exact Wj hz (Wg rfl)));refine Wh (Wq (Wq ⟨_,rfl,h _ n' k ?_⟩));have e:vs.toArray++ws.toArray=(vs++ws).toArray:=by simp
 rw[c,e]
theorem Aq{x:Nat}:∀{ss q:List Nat},Bp x ss=Wb q->∃pre post,ss=pre++x::post/\q=pre++post/\x∉pre:=by
 intro ss
 induction ss with
 |nil=>exact fun h=>aH h
 |cons a r c=>
  intro q h;rw[IH] at h
  induction b:Wf a x using Wn with
  |true=>
   rw[b] at h;cases h;exact⟨[],_,by rw[b9 b];rfl,rfl,by simp⟩
  |false=>
   rw[b] at h;obtain⟨q',d,rfl⟩:=WD.mp h;obtain⟨pre,post,rfl,rfl,e⟩:=c d;refine⟨a::pre,post,rfl,rfl,fun z=>?_⟩;rcases Ww.mp z with z|z
   ·subst z;rw[Wx] at b;exact gB b
   ·exact e z
theorem pD:∀{pre:List Str}{y:Str}{post:List Str}{vs:List Wm},YX vs (pre++y::post)->∃p t q,vs=p++ .str y t::q/\YX p pre/\YX q post:=by
 intro b
 induction b with
 |nil=>
  intro y post vs h;cases h with
  |cons _ t r=>exact⟨[],t,_,rfl,.nil,r⟩
 |cons a pre c=>
  intro y post vs h;cases h with
  |cons _ t r=>
   obtain⟨p,d,q,rfl,h1,e⟩:=c r;exact⟨.str a t::p,d,q,rfl,.cons _ _ h1,e⟩
theorem sS{p q:List Wm}{a b:List Str}(h:YX p a)(c:YX q b):YX (p++q) (a++b):=by
 induction h with
 |nil=>exact c
 |cons y t r d=>exact .cons y t d
theorem xY{D:Addr}{vs:List Wm}{ss q:List Nat}{n x:Nat}{t:Tok}(g:s.heap.get? D=Wb (listOf vs.toArray n))(hv:YX vs (ss.map af))(o:Bp x ss=Wb q)(hz:vs.length<=Ys)(h:∀ws,YX ws (q.map af)->LQ Q s D ws .none):
  Ws (Wt B.prog B.w) A (call (.builtin "list.remove") [.ref D,.str (af x) t]) Q E s:=by
 obtain⟨pre,post,rfl,rfl,b⟩:=Aq o;rw[WM,Xs] at hv;clear o;obtain⟨p,a,q,rfl,h1,c⟩:=pD hv;obtain⟨k,n',d⟩:=Ap g fun xs=>xs.eraseIdxIfInBounds p.length;have v:∀y,y∈(p++ .str (af x) a::q).toArray->ae9 y (.str (af x) t) (match y with|.str z _=>z.cps.toList==(af x).cps.toList|_=>We):=fun y f=>by
  clear g hz h b h1 c k d;obtain⟨z,u,rfl⟩:=(fun y f=>hv.all y (by simpa using f)) y f;exact PySem.SeqRoads2.EqGives.str z (af x) u t
 refine abl abE ⟨_,g,rfl⟩ PySem.F.entry_list_remove (PySem.F.args_list_remove_2 _ _) (aeH D (p++ .str (af x) a::q).toArray n (.str (af x) t) _ v p.length (by simp) (by simp) (fun j C i=>?_) (by rw[WP];exact hz)) ⟨g,h (p++q) ?_ _ n' k ?_⟩
 ·have G:(p++ .str (af x) a::q).toArray[j]=p[j]:=by simp[List.getElem_append_left i]
  rw[G];clear g hv c k d v G;obtain⟨z,u,e⟩:=h1.all p[j] (ad3 i);rw[e];have hz:z∈pre.map af:=by
   have m:∀{p:List Wm}{l:List Str},YX p l->∀z u,Wm.str z u∈p->z∈l:=by
    intro p l hs;clear b h1 n' C hz
    induction hs with
    |nil=>exact(fun _ _ h=>absurd h WA)
    |cons y t r I=>
     intro z u hm;clear a q p l h;rcases Ww.mp hm with e|hm
     ·cases e;exact .head _
     ·exact .tail _ (I z u hm)
   exact m h1 z u (e▸ad3 i)
  have H:z≠af x:=fun e=>b (mM (e▸hz));rw[beq_eq_false_iff_ne];intro w;apply H;clear h1 n' C hz h H e;cases z;simp only at w
  congr 1
  exact abZ.mp w
 ·rw[WM];exact sS h1 c
 ·have e:=kl_erase p q (.str (af x) a);rw[d,e]
theorem Hk{d:Addr}{x:Nat}{t:Tok}{es:List (Nat×P)}{b:List WY}{n:Nat}(hd:(d==XJ)=We)(g:s.heap.get? d=Wb (XE b n))(er:ER B s.heap V es b)(h:∀v,VR B s.heap V ((get x es).getD .none) v->Q v {s with toks:=s.toks+1}):
  Ws (Wt B.prog B.w) A (call (.builtin "dict.get") [.ref d,.str (af x) t]) Q E s:=by
 have c:=er.mapOf g;refine call_meetsIn acA c.typeIs PySem.F.entry_dict_get (PySem.F.args_dict_get_2 _ _) (meets_dict_get (strKind B.prog B.w) d (YR B.prog B.w (af x) t) hd) ⟨_,c,?_⟩;have q:=er.find x
 induction a:get x es using Wo with
 |none=>rw[a] at q;rw[a] at h;dsimp only at q;rw[q];exact h _ rfl
 |some p=>
  rw[a] at q;rw[a] at h;obtain⟨_,v,hv,e⟩:=q;rw[hv];exact h v e
end
noncomputable def sU(c:Nat):List (List Nat)->List Nat
 | []=>[]
 | [w]=>w
 |w::v::r=>w++c::sU c (v::r)
theorem gR(c a:Nat)(r:List Nat):bh c (a::r)=match bh c r with| []=>[[]] |w::ws=>cond (Wf a c) ([]::w::ws) ((a::w)::ws):=rfl
theorem ma{c:Nat}:∀{w:List Nat},c∉w->bh c w=[w]
 | [],_=>rfl
 |a::w,h=>by
  have b:Wf a c=We:=by
   induction q:Wf a c using Wn with
   |false=>rfl
   |true=>exact absurd (b9 q) fun e=>h (e▸(.head _))
  rw[gR,ma (fun z=>h (.tail _ z))];simp only[b,cond]
theorem sV{c:Nat}{t:List Nat}:∀{w:List Nat},c∉w->bh c (w++c::t)=w::bh c t:=by
 intro b
 induction b with
 |nil=>
  intro _;show bh c (c::t)=_;rw[gR]
  induction h:bh c t using Wv with
  |nil=>
   exfalso
   induction t using Wv with
   |nil=>cases h
   |cons a t=>
    rw[gR] at h
    revert h
    induction bh c t using Wv with
    |nil=>intro h;cases h
    |cons w ws=>dsimp only;induction Wf a c<;>intro h<;>cases h
  |cons w ws=>simp only[Wx,cond]
 |cons a w d=>
  intro h;have f:Wf a c=We:=by
   induction q:Wf a c using Wn with
   |false=>rfl
   |true=>exact absurd (b9 q) fun e=>h (e▸(.head _))
  show bh c (a::(w++c::t))=_;rw[gR,d (fun z=>h (.tail _ z))];simp only[f,cond]
theorem mc{c:Nat}:∀{ps:List (List Nat)},ps≠ []->(∀p∈ps,c∉p)->bh c (sU c ps)=ps
 | [],h,_=>absurd rfl h
 | [w],_,h=>ma (h w (.head _))
 |w::v::r,_,h=>by
  show bh c (w++c::sU c (v::r))=_;rw[sV (h w (.head _)),mc (by simp) fun p hp=>h p (.tail _ hp)]
theorem n7(c:Nat):∀ps:List Str,(Str.join ⟨#[c]⟩ ps).cps.toList=sU c (ps.map fun p=>p.cps.toList)
 | []=>rfl
 | [w]=>rfl
 |w::v::r=>by
  show((w++⟨#[c]⟩)++Str.join ⟨#[c]⟩ (v::r)).cps.toList=w.cps.toList++c::sU c ((v::r).map fun p=>p.cps.toList);rw[<-n7 c (v::r)];have e:∀a b:Str,(a++b).cps=a.cps++b.cps:=fun _ _=>rfl;rw[e,e];simp
theorem Ar(x c:Nat):(Txt.split (af x) ⟨#[c]⟩).map (fun p=>p.cps.toList)=bh c (bA x):=by
 have f:=StrLaws.split_free (af x) c;have b:=split_len (af x) c;have d:=congrArg (fun s:Str=>s.cps.toList) (StrLaws.join_split (af x) ⟨#[c]⟩);rw[n7] at d;have e:(af x).cps.toList=bA x:=by simp[af]
 rw[e] at d;rw[<-d];refine(mc (fun z=>?_) fun p hp=>?_).symm
 ·have:Txt.split (af x) ⟨#[c]⟩=[]:=Yk.mp z;rw[this] at b;have hc:∀l:List Nat,0<=cnt c l:=by
   intro l;clear f b d e z
   induction l with
   |nil=>exact Int.le_refl _
   |cons a r g=>rw[cnt_cons];split;exact aeI (by decide) g;exact aeI (by decide) g
  have:=hc (af x).cps.toList;simp at b;exact absurd (b▸Int.add_le_add_left this 1:(1:Int)+0<=0) (by decide)
 ·obtain⟨q,h,rfl⟩:=Wz.mp hp;exact f q h
theorem qp:∀{w:List Nat},(∀d∈w,d<256/\d≠0)->Signs w
 | [],_=>trivial
 | [c],h=>h c (.head _)
 |c::d::r,h=>⟨(h c (.head _)).1,qp fun e a=>h e (.tail _ a)⟩
theorem n8{c:Nat}:∀{l:List Nat},∀w∈bh c l,∀d∈w,d∈l:=by
 intro l
 induction l with
 |nil=>exact fun w hw d hd=>absurd ((WQ.mp hw)▸hd) WA
 |cons a r b=>
  intro w hw d hd;rw[gR] at hw
  revert hw b
  induction bh c r using Wv with
  |nil=>
   intro _ hw;have:w=[]:=WQ.mp hw;clear hw;subst this;exact absurd hd WA
  |cons v vs=>
   intro b hw;dsimp only at hw
   induction e:Wf a c using Wn with
   |true=>
    rw[e] at hw;clear e;rcases Ww.mp hw with rfl|hw
    ·exact absurd hd WA
    ·exact .tail _ (b w hw d hd)
   |false=>
    rw[e] at hw;clear e;rcases Ww.mp hw with rfl|hw
    ·rcases Ww.mp hd with rfl|hd
     ·exact .head _
     ·exact .tail _ (b v (.head _) d hd)
    ·exact .tail _ (b w (.tail _ hw) d hd)
theorem sW{x c:Nat}(hz:∀d∈bA x,d≠0):Txt.split (af x) ⟨#[c]⟩=((bh c (bA x)).map b7).map af:=by
 have e:∀w∈bh c (bA x),af (b7 w)=⟨w.toArray⟩:=fun w a=>by
  show(⟨(bA (b7 w)).toArray⟩:Str)=_;rw[sH (qp fun d hd=>⟨uF (n8 w a d hd),hz d (n8 w a d hd)⟩)]
 rw[<- (Ar x c)] at e ⊢;rw[XB,XB];have:∀p∈Txt.split (af x) ⟨#[c]⟩,p=af (b7 p.cps.toList):=fun p hp=>by
  rw[e _ (Wz.mpr ⟨p,hp,rfl⟩)]
 conv=>lhs;rw[<-List.map_id (Txt.split (af x) ⟨#[c]⟩)]
 exact List.map_congr_left fun p hp=>this p hp
section
variable{B:ao}{A:WN}{s:Wl}{Q:Wm->Wl->Prop}{E:Wm->Wl->Prop}
theorem As{x c:Nat}{t u:Tok}(hz:∀d∈bA x,d≠0)(f:(bA x).length<=10000)
  (h:∀vs tk,YX vs (((bh c (bA x)).map b7).map af)->Q (.ref s.heap.objs.size) {s with heap:=s.heap.push (listOf vs.toArray 0),toks:=tk}):Ws (Wt B.prog B.w) A (call (.builtin "str.split") [.str (af x) t,.str ⟨#[c]⟩ u]) Q E s:=by
 have a:(af x).length<=10000:=by rw[kF];exact f
 rw[<-sW hz] at h;generalize i:af x=X at h a ⊢;have b:((⟨#[c]⟩:Str).length==0)=We:=rfl;have g:(abF X (aam X ⟨#[c]⟩ 0 X.length (X.length+1)) (⟨#[c]⟩:Str).length).length<=Ys:=by
  have e1:=StrLaws.occ_length_le X ⟨#[c]⟩ 0 X.length (X.length+1);rw[length_partsBetween,X0];exact Wj (W9 e1) (qC (XP a 2) rfl)
 have fin:∀(l:List (Str×Tok))(tk:Tok),l.map (·.1)=Txt.split X ⟨#[c]⟩->Q (.ref s.heap.objs.size) {s with heap:=s.heap.push (listOf (strValues l).toArray 0),toks:=tk}:=fun l tk e=>h _ tk (e▸(strsAre_of_values l));cases h1:(decide (X.length< (⟨#[c]⟩:Str).length) ||decide (adf X<adf ⟨#[c]⟩))
 ·cases hf:(aam X ⟨#[c]⟩ 0 X.length (X.length+1)).isEmpty
  ·refine abl YS (abh _ _ _) aan (aab _ _) (meets_str_split_sep X ⟨#[c]⟩ t u h1 b hf (by rw[X0];exact Wj a (Wg rfl)) g) ?_;show wants Q E _ {s with toks:=_,heap:=s.heap.push {cls:=.type "list",data:=.seq (strsFrom s.toks (abF X (aam X ⟨#[c]⟩ 0 X.length (X.length+1)) (⟨#[c]⟩:Str).length)).toArray}};rw[strsFrom_eq];exact fin (numbered s.toks _) _ ((numbered_texts _ _).trans ((if_neg (ne_true_of_eq_false h1)).trans (if_neg (ne_true_of_eq_false hf))).symm)
  ·exact abl YS (abh _ _ _) aan (aab _ _) (meets_str_split_not_found X ⟨#[c]⟩ t u h1 b hf) (fin [(X,t)] s.toks ((if_neg (ne_true_of_eq_false h1)).trans (if_pos hf)).symm)
 ·exact abl YS (abh _ _ _) aan (aab _ _) (meets_str_split_cannot_occur X ⟨#[c]⟩ t u h1) (fin [(X,t)] s.toks (if_pos h1).symm)
end
structure Av(B:ao):Prop where
 meth:∀C x f,B.T.meth C x=Wb f->(B.T.cls C).isSome=Wd->X4 B.K (.ref (B.cA C)) "__getattribute__" =Wb (Wb (.builtin "object.__getattribute__"))/\X4 B.K (.ref (B.cA C)) "__getattr__" =Wb Wc/\
  X4 B.K (.ref (B.cA C)) (af x)=Wb (Wb (.ref (B.fA f)))/\aeF B.K (.ref (B.fA f))=Wb (.type "function")/\acf B.K (.ref (B.fA f))=Wd
section
variable{B:ao}{r:dN}{c:Cx}{m:VE}{Z:St}{A:WN}{s:Wl}{V:aG}{env:Env}{sc:Sc}{Q:Wm->Wl->Prop}{E:Wm->Wl->Prop}
theorem pE(a:aJ B){f self:Wm}(c:acf B.K f=Wd){as:List IE}{pos:Pos}
  (h:Ws (Wt B.prog B.w) A (ab4 (as.map fun e=>(We,eval (aV e) env))) (fun vs s'=>(∀b o,B.h₀.get? b=Wb o->s'.heap.get? b=Wb o)/\Ws (Wt B.prog B.w) A (call f (self::vs)) Q E s') E s):
  Ws (Wt B.prog B.w) A (acY pos f [self] (aas pos (Yl (bw as) env)) []) Q E s:=
 callWith_of (P:=fun h=>B.K.In h) (by rw[eK];rfl) (keeps_K c) (dI (Xg h (fun vs s' h'=>⟨a.X.keeps h'.1,h'.2⟩) fun _ _ e=>e))
theorem eR{id:String}{self:Wm}{as:List IE}{pos:Pos}(h:Ws (Wt B.prog B.w) A (ab4 (as.map fun e=>(We,eval (aV e) env))) (fun vs s'=>Ws (Wt B.prog B.w) A (call (.builtin id) (self::vs)) Q E s') E s):
  Ws (Wt B.prog B.w) A (acY pos (.builtin id) [self] (aas pos (Yl (bw as) env)) []) Q E s:=
 ad1 (eK pos env as) (dI h)
theorem me{o:IE}{x p1 p:Nat}{as:List IE}(g:bj sc o=Wd)(i:Wf (ag p1).endLine (ag p).line=Wd)(j:as.length<=20)
  (h:Ws (Wt B.prog B.w) A (eval (aV o) env) (fun ov a=>∀pl,Ws (Wt B.prog B.w) A (ac6 ov (af x) pl) (fun f b=>Ws (Wt B.prog B.w) A (acY (ag p) f.1 f.2 (aas (ag p) (Yl (bw as) env)) []) Q E b) E a) E s):
  Ws (Wt B.prog B.w) A (eval (aV (.meth o x p1 as p)) env) Q E s:=by
 show Ws _ _ (eval (.Call (.Attribute (aV o) (af x) (ag p1)) (bw as) [] (ag p)) env) _ _ _;rw[arm_eval_Call,fY o g];refine Wh (Xg h (fun ov a c=>?_) fun _ _ e=>e);refine Wh (W7 ?_);have k:methodCallForm ((bw as).length+([]:List Keyword).length) (aas (ag p) (Yl (bw as) env)) (backToKw (ag p) (keywordEach [] env))=Wd:=by
  unfold methodCallForm;have h1:(aas (ag p) (Yl (bw as) env)).all (fun x=>!x.1)=Wd:=by
   rw[eH];clear g i j c
   induction as with
   |nil=>rfl
   |cons e es m=>simp
  rw[h1,l6];rw[decide_eq_true (by exact Xi j (Wg rfl))];rfl
 have l:methodCallPos Wd (aV o) env (ag p1) (ag p)=pure (ag p):=by
  unfold methodCallPos;have:((ag p1).endLine==(ag p).line)=Wd:=by rw[b9 i];simp
  simp[this]
 unfold methodCall;rw[k];refine Wh (W6 (Xg (c _) (fun f b d=>?_) fun _ _ e=>e));exact Wh (wpAny_of_eq l d)
theorem xZ{M:acN}{s1:Wl}{nm:Str}{z:Wm}{i:String}{pl:Sem Bool}{Q:Wm×List Wm->Wl->Prop}(a:Slot "str" nm i)(b:typeOf (.builtin i)=pure (.type "method_descriptor"))(h:Q (.builtin i,[z]) s1)(t:(∃x t,z=.str x t)):
  Ws M A (ac6 z nm pl) Q E s1:=by
 refine PySem.GM.of _ ?_ a b ?_ h
 ·obtain⟨x,t,rfl⟩:=t;exact abh s1 x t
 ·obtain⟨x,t,rfl⟩:=t;exact fun ad e=>nomatch e
theorem SQ:Wf cu ce=We:=by decide+kernel
theorem SS:Wf cK ce=We:=by decide+kernel
theorem SU:Wf cK cu=We:=by decide+kernel
theorem vb:af ce=("append" :Str):=by decide+kernel
theorem DE:af iC=("pop" :Str):=by decide+kernel
theorem vc:af cu=("extend" :Str):=by decide+kernel
theorem vd:af cK=("remove" :Str):=by decide+kernel
theorem DF:af mQ=("get" :Str):=by decide+kernel
theorem sX:af gD=("isupper" :Str):=by decide+kernel
theorem x1:af fK=("split" :Str):=by decide+kernel
theorem Rel.at(R:Rel B V Z s.heap){n:Nat}{cc:Addr×Addr}{V':aG}{a:St}{h h':Heap}(e:ai V n=Wb (Wb cc))(l:Le V h V')(R':Rel B V' a h'){o:O}(e2:ai a n=Wb o)(nd:o≠ .dead):ai V' n=Wb (Wb cc):=by
 rcases l.more _ _ e with z|z
 ·exact z
 ·have w:=R'.objs n;rw[z,e2] at w;exact absurd w nd
theorem Fin.list{X:Addr->Prop}{n:Nat}{cc:Addr×Addr}{ps:List P}{vs:List Wm}{n':Nat}{h':Heap}{p:P}{v:Wm}(rl:Rel B V Z s.heap)(e:ai V n=Wb (Wb cc))(d:cc.2=cc.1)(hv:VRs B s.heap V ps vs)(k:∀b o,s.heap.get? b=Wb o->b≠cc.1->h'.get? b=Wb o)(g:h'.get? cc.1=Wb (listOf vs.toArray n'))
  (F:Fin B X (VR B) V s (.ok p (ak Z n (.list ps))) Q E) (hp:VR B s.heap V p v):Q v {s with heap:=h'}:=by
 have c:Keep (own V) s.heap h':=fun b o a nb=>.refl (k b o a fun z=>nb ⟨n,cc,e,.inl z⟩);refine F.ok (s':={s with heap:=h'}) (V':=V) ⟨fun b o a nb=>c b o a fun z=>nb (.inl z),.refl _ _,fun b o a=>?_,rfl,rfl,rfl,fun b o _ a _ nb=>k b o a fun z=>nb (.inl ⟨n,cc,e,.inl z⟩),fun b m no nn=>⟨m,ir nn fun o a _=>.refl (k b o a fun z=>no ⟨n,cc,e,.inl z⟩)⟩⟩ ?_ (hp.step c (.refl _ _))
 ·by_cases z:b=cc.1
  ·subst z;exact⟨_,g,fun _ vs q=>by cases q⟩
  ·exact⟨o,k b o a z,id⟩
 ·exact rl.turn e (fun b o a z _=>k b o a z) ⟨d,vs,n',g,VRs.step c (.refl _ _) ps hv⟩
theorem VRs.snoc{h:Heap}:∀{ps:List P}{p:P}{vs:List Wm},VRs B h V (ps++[p]) vs->∃ws w,vs=ws++[w]/\VRs B h V ps ws/\VR B h V p w:=by
 intro c
 induction c with
 |nil=>
  intro p vs x;obtain⟨v,r,rfl,_,a,rfl⟩:=x;exact⟨[],v,rfl,rfl,a⟩
 |cons q ps d=>
  intro p vs x;obtain⟨v,r,rfl,o,a,b⟩:=x;obtain⟨ws,w,rfl,h1,e⟩:=d b;exact⟨v::ws,w,rfl,vrC o a h1,e⟩
theorem Aw:∀cc,cc<128->inR 65 90 ⟨#[cc]⟩=(XQ 65 cc&&XQ cc 90):=by decide+kernel
section
variable{X:Addr->Prop}{RA:Heap->aG->P->Wm->Prop}{n:Nat}{ps:List P}{z:Nat}{G:Prop}
theorem Fin.append(F:Fin B X RA V s (gZ n ps Z) Q E)(k:∀l y,ai Z n=Wb (.list l)->ps=[y]->aq l.length=Wd->y.isOdd=We->Fin B X RA V s (.ok .none (ak Z n (.list (l++[y])))) Q E->G):G:=
 Fin.o F fun l h1 F=>F.o fun y a F=>F.y fun h F=>k l y (iF h1) (iE a) (aa h) ((Xy _).mp (ay h)) F
theorem Fin.pop(F:Fin B X RA V s (tY n ps Z) Q E)(k:∀l y,ai Z n=Wb (.list l)->ps=[]->l.getLast?=Wb y->aq l.length=Wd->Fin B X RA V s (.ok y (ak Z n (.list l.dropLast))) Q E->G):G:=
 Fin.o F fun l h1 F=>F.o fun _ a F=>F.o fun y b F=>F.y fun h F=>k l y (iF h1) (yQ a) b h F
theorem Fin.extend(F:Fin B X RA V s (hH n ps Z) Q E)(k:∀l t,ai Z n=Wb (.list l)->ps=[.list t]->aq (l.length+t.length)=Wd->Fin B X RA V s (.ok .none (ak Z n (.list (l++t)))) Q E->G):G:=
 Fin.o F fun l h1 F=>F.o fun y a F=>F.o fun t b F=>F.y fun h F=>k l t (iF h1) (P.l_is b▸iE a) h F
theorem Fin.remove(F:Fin B X RA V s (j6 n ps Z) Q E)(k:∀l z ss q,ai Z n=Wb (.list l)->ps=[.str z]->dA l=Wb ss->aq l.length=Wd->Bp z ss=Wb q->Fin B X RA V s (.ok .none (ak Z n (.list (q.map .str)))) Q E->G):G:=
 Fin.o F fun l h1 F=>F.o fun y a F=>F.o fun t b F=>F.o fun ss c F=>F.y fun h F=>F.o fun q d F=>k l t ss q (iF h1) (P.s_is b▸iE a) c h d F
theorem Fin.get(F:Fin B X RA V s (Fv n ps Z) Q E)(k:∀es ep z,ai Z n=Wb (.dict es ep)->ps=[.str z]->Fin B X RA V s (.ok ((Mine.get z es).getD .none) Z) Q E->G):G:=
 Fin.o F fun es h1 F=>F.o fun y a F=>F.o fun t b F=>(tV h1).elim fun ep h1=>k es ep t h1 (P.s_is b▸iE a) F
theorem Fin.isupper(F:Fin B X RA V s (mR z ps Z) Q E)(k:∀c,ps=[]->bA z=[c]->WR c 128=Wd->Fin B X RA V s (.ok (.bool (XQ 65 c&&XQ c 90)) Z) Q E->G):G:=
 Fin.o F fun _ h1 F=>F.o fun c a F=>F.y fun h F=>k c (yQ h1) (iE a) h F
theorem Fin.split(F:Fin B X RA V s (tZ z ps Z) Q E)(k:∀t c,ps=[.str t]->bA t=[c]->(aq (bA z).length&& (bA z).all fun k=>!Wf k 0)=Wd->Fin B X RA V s (.ok (.list ((bh c (bA z)).map fun w=>.str (b7 w))) Z) Q E->G):G:=
 Fin.o F fun y h1 F=>F.o fun t a F=>F.o fun c b F=>F.y fun h F=>k t c (P.s_is a▸iE h1) (iE b) h F
end
section
variable{n:Nat}{cc:Addr×Addr}{ps:List P}{vs:List Wm}(rl:Rel B V Z s.heap)(er:∀o,ai Z n=Wb o->o≠ .dead->ai V n=Wb (Wb cc))(bI:VRl B s.heap V ps vs)
include rl er bI
theorem Ax(F:Fin B no (VR B) V s (gZ n ps Z) Q E):Ws (Wt B.prog B.w) A (call (.builtin "list.append") (.ref cc.1::vs)) Q E s:=by
 refine Fin.append F fun c y a gy d e f=>?_;clear F;subst gy;have er:=er _ a (by simp);obtain⟨g,l,k2,h,b⟩:=rl.obj er a;clear a;obtain⟨v,rfl,i⟩:=u0 bI;exact qo h (by rw[b.length];exact c4 (bg d)) fun h' n' j k=>Fin.list rl er g (ps:=c++[y]) (b.append (C0.mk v [] rfl e i rfl)) j k f (by exact rfl)
theorem Kx(F:Fin B no (VR B) V s (tY n ps Z) Q E):Ws (Wt B.prog B.w) A (call (.builtin "list.pop") (.ref cc.1::vs)) Q E s:=by
 refine Fin.pop F fun l y a gy b d e=>?_;clear F;subst gy;have er:=er _ a nofun
 obtain⟨f,m,k2,g,c⟩:=rl.obj er a;clear a;cases bI;obtain⟨o,rfl⟩:=List.getLast?_eq_some_iff.mp b;clear b;obtain⟨ws,u,rfl,h,i⟩:=c.snoc;exact Hj g (c.length▸c4 (bg d)) fun h' n' j k=>Fin.list rl er f h j k (aaL▸e) i
theorem Ay(F:Fin B no (VR B) V s (hH n ps Z) Q E):Ws (Wt B.prog B.w) A (call (.builtin "list.extend") (.ref cc.1::vs)) Q E s:=by
 refine Fin.extend F fun l t a gy d e=>?_;clear F;subst gy;have er:=er _ a nofun
 obtain⟨f,m,k2,g,b⟩:=rl.obj er a;clear a;obtain⟨v,rfl,h⟩:=u0 bI;obtain⟨ad,ws,rfl,_,i,c⟩:=h;exact xX g i (by rw[b.length,c.length];exact bg d) fun h' n' j k=>Fin.list rl er f (b.append c) j k e (by exact rfl)
theorem Az(F:Fin B no (VR B) V s (j6 n ps Z) Q E):Ws (Wt B.prog B.w) A (call (.builtin "list.remove") (.ref cc.1::vs)) Q E s:=by
 refine Fin.remove F fun l z ss q a gy c d e f=>?_;clear F;subst gy;have er:=er _ a nofun
 obtain⟨g,m,k2,h,b⟩:=rl.obj er a;clear a;obtain⟨v,rfl,t,rfl⟩:=u0 bI;exact xY h (nU c b) e (by rw[b.length];exact c4 (bg d)) fun ws i h' n' j k=>Fin.list rl er g (kK i) j k f (by exact rfl)
theorem Ky(F:Fin B no (VR B) V s (Fv n ps Z) Q E):Ws (Wt B.prog B.w) A (call (.builtin "dict.get") (.ref cc.1::vs)) Q E s:=by
 refine Fin.get F fun es ep z a gy b=>?_;clear F;subst gy;have er:=er _ a (by simp);obtain⟨c,f,k2,d,e,_⟩:=rl.obj er a;clear a c;obtain⟨v,rfl,t,rfl⟩:=u0 bI;exact Hk (eE rl er) d e fun v hv=>b.ok (bM _ _ _) rl hv
omit er
theorem x2{z:Nat}{t:Tok}(F:Fin B no (VR B) V s (mR z ps Z) Q E):Ws (Wt B.prog B.w) A (call (.builtin "str.isupper") (.str (af z) t::vs)) Q E s:=by
 refine Fin.isupper F fun cc gy hd b c=>?_;clear F;subst gy;cases bI;refine PySem.SC.isupper ?_;have e:af z=⟨#[cc]⟩:=by show(⟨(bA z).toArray⟩:Str)=_;rw[hd]
 have a:cc<128:=Wg b;rw[e,one_isupper cc a,Aw cc a];exact Fin.ok c (.refl _ _ _) rl (by exact rfl)
end
theorem DG{z:Nat}{t:Tok}{ps:List P}{vs:List Wm}(a:At B A c sc m env V Z s.heap)(bI:VRl B s.heap V ps vs)(F:Fin B no (VR B) V s (tZ z ps Z) Q E):Ws (Wt B.prog B.w) A (call (.builtin "str.split") (.str (af z) t::vs)) Q E s:=by
 refine Fin.split F fun tt cc gy hd b f=>?_;clear F;subst gy;obtain⟨v2,rfl,u,rfl⟩:=u0 bI;have e:af tt=⟨#[cc]⟩:=by show(⟨(bA tt).toArray⟩:Str)=_;rw[hd]
 have hz:∀d∈bA z,d≠0:=fun d g i=>by
  have:=Xb.mp (ay b) d g;rw[i] at this;exact dg this
 rw[e];refine As hz (bg (aa b)) fun vs tk j=>Fin.ok f (bV V s _ tk) (a.rel.push _) ?_;have q:=ik a (kK (B:=B) (V:=V) (h:=s.heap) j) tk;rw[XB] at q;exact q
inductive S2(T:Bo)(Z:St)(v:P)(x f:Nat):Prop
 |mk(n C:Nat)(fs:List (Nat×P))(hv:v=.ref n)(a:ai Z n=Wb (.inst C fs))(b:has x fs=We)(c:T.meth C x=Wb f)
theorem AA{T:Bo}{Z:St}{v:P}{x f:Nat}(h:methF T Z v x=Wb f):S2 T Z v x f:=by
 induction v using Mine.P.casesOn with
 |ref n=>
  have h:(match(generalizing:=false) ai Z n with
   |some (.inst C fs)=>cond (has x fs) Wc (T.meth C x)
   |_=>Wc)=Wb f:=h
  generalize b:ai Z n=o at h;rcases o with _|o
  ·exact aH h
  ·induction o using Mine.O.casesOn with
   |inst C fs=>
    have h:cond (has x fs) Wc (T.meth C x)=Wb f:=h
    induction a:has x fs using Wn with
    |true=>rw[a] at h;exact aH h
    |false=>rw[a] at h;exact⟨n,C,fs,rfl,b,a,h⟩
   |_=>exact aH h
 |_=>exact aH h
theorem DH{Z:St}{v:P}{x:Nat}{G:Prop}(h:o7 Z v x=Wd)(b:∀n l,v=.ref n->ai Z n=Wb (.list l)->(Wf x ce||Wf x iC||Wf x cu||Wf x cK)=Wd->G)(k2:∀n es ep,v=.ref n->ai Z n=Wb (.dict es ep)->Wf x mQ=Wd->G)(k3:∀z,v=.str z->(Wf x gD||Wf x fK)=Wd->G):G:=by
 induction v using Mine.P.casesOn with
 |str z=>exact k3 z rfl h
 |ref n=>
  have h:(match(generalizing:=false) ai Z n with
   |some (.list _)=>Wf x ce||Wf x iC||Wf x cu||Wf x cK
   |some (.dict _ _)=>Wf x mQ
   |_=>We)=Wd:=h
  generalize a:ai Z n=o at h;rcases o with _|o
  ·exact dg h
  ·induction o using Mine.O.casesOn with
   |list l=>exact b n l rfl a h
   |dict es ep=>exact k2 n es ep rfl a h
   |_=>exact dg h
 |_=>exact dg h
section
variable{v:Wm}{x p:Nat}{as:List IE}{pl:Sem Bool}
noncomputable abbrev qr(B:ao)(A:WN)(v:Wm)(x:Nat)(pl:Sem Bool)(p:Nat)(as:List IE)(env:Env)(Q:Wm->Wl->Prop)(E:Wm->Wl->Prop)(s:Wl):Prop:=
 Ws (Wt B.prog B.w) A (ac6 v (af x) pl) (fun b a=>Ws (Wt B.prog B.w) A (acY (ag p) b.1 b.2 (aas (ag p) (Yl (bw as) env)) []) Q E a) E s
theorem x3{q:P}{f:Nat}(b:aJ B)(i:i7 B)(j:Av B)(S:SimE B r)(l:gz B r)(o:bU sc as=Wd)(a:At B A c sc m env V Z s.heap)(hv:VR B s.heap V q v)(hf:methF B.T Z q x=Wb f)(F:Fin B no (VR B) V s ((evs r c m as Z).bind fun vs Z=>dG B.T r c f (q::vs) Z) Q E):qr B A v x pl p as env Q E s:=by
 obtain⟨n,C,fs,t,e,u,w⟩:=AA hf;subst t;obtain⟨cc,e1,e3,e2,y,z,k,D,er,hc⟩:=a.rel.ref hv e nofun
 clear e e1 e2;rw[e3] at hv ⊢;obtain⟨G,b2,H,I,J⟩:=j.meth C x f w hc;have K:Mine.get x fs=Wc:=abm.mp u|>Yv.mp;have g:=er.getL x;rw[K] at g;refine method_fn (b.X.keeps a.rel.base) (lC y D) G b2 H I (by show(lookIn (af x) (XE z k)).map _=_;rw[lookIn_dict,g];rfl) ?_;refine pE b J (S.evs as o a F fun ps Z2 L s2 vs h d bI M F2=>⟨d.rel.base,?_⟩);exact aah (nX b i l d.rel d.amb.room (vs:=P.ref n::ps) ⟨_,vs,rfl,hv.step h.k h.le,bI⟩ F2)
theorem x4{n:Nat}{l:List P}(S:SimE B r)(i:bU sc as=Wd)(a:At B A c sc m env V Z s.heap)(hv:VR B s.heap V (.ref n) v)(j:ai Z n=Wb (.list l))(hb:(Wf x ce||Wf x iC||Wf x cu||Wf x cK)=Wd)(F:Fin B no (VR B) V s ((evs r c m as Z).bind fun vs Z=>methB (.ref n) x vs Z) Q E):qr B A v x pl p as env Q E s:=by
 obtain⟨cc,e1,e3,e2,y,z,g,_⟩:=a.rel.ref hv j nofun
 have go:∀{id:String}(_:Slot "list" (af x) id)(_:typeOf (.builtin id)=pure (.type "method_descriptor")),
   (∀ps Z2 b s2 vs,Rel B b Z2 s2.heap->(∀o,ai Z2 n=Wb o->o≠ .dead->ai b n=Wb (Wb cc))->VRl B s2.heap b ps vs->Fin B no (VR B) b s2 (methB (.ref n) x ps Z2) Q E->Ws (Wt B.prog B.w) A (call (.builtin id) (.ref cc.1::vs)) Q E s2)->
   qr B A v x pl p as env Q E s:=fun f q t=>by
  rw[e3];exact adM ⟨_,g,rfl⟩ PySem.F.plainAttrs_list f q (fun ad e=>by cases e;exact⟨_,g,rfl⟩) (eR (S.evs as i a F fun ps Z2 b s2 vs u k bI C F2=>t ps Z2 b s2 vs k.rel (fun o h d=>a.rel.at e1 u.le k.rel h d) bI F2))
 clear j e1 e2 g hv e3 F a S i;rw[XX,XX,XX] at hb;rcases hb with((hb|hb) |hb) |hb<;>(have ex:=b9 hb;subst ex)
 ·exact go (vb▸PySem.F.slot_list_append) PySem.F.type_list_append fun ps Z2 b s2 vs a er bI F=>Ax a er bI F
 ·exact go (DE▸acz) PySem.F.type_list_pop fun ps Z2 b s2 vs a er bI F=>Kx a er bI F
 ·exact go (vc▸abC) PySem.F.type_list_extend fun ps Z2 b s2 vs a er bI F=>Ay a er bI F
 ·exact go (vd▸abE) PySem.F.type_list_remove fun ps Z2 b s2 vs a er bI F=>Az a er bI F
theorem x5{n ep:Nat}{es:List (Nat×P)}(S:SimE B r)(g:bU sc as=Wd)(a:At B A c sc m env V Z s.heap)(hv:VR B s.heap V (.ref n) v)(i:ai Z n=Wb (.dict es ep))(F:Fin B no (VR B) V s ((evs r c m as Z).bind fun vs Z=>methB (.ref n) mQ vs Z) Q E):qr B A v mQ pl p as env Q E s:=by
 obtain⟨cc,e1,e3,e2,k,l,b,_⟩:=a.rel.ref hv i nofun
 rw[e3];exact adM ⟨_,b,rfl⟩ PySem.F.plainAttrs_dict (DF▸acA) PySem.F.type_dict_get (fun ad e=>by cases e;exact⟨_,b,rfl⟩) (eR (S.evs as g a F fun ps Z2 q s2 vs j f bI t F2=>Ky f.rel (fun o h d=>a.rel.at e1 j.le f.rel h d) bI F2))
theorem AC{e:Nat}(S:SimE B r)(g:bU sc as=Wd)(a:At B A c sc m env V Z s.heap)(hv:VR B s.heap V (.str e) v)(hb:(Wf x gD||Wf x fK)=Wd)(F:Fin B no (VR B) V s ((evs r c m as Z).bind fun vs Z=>methB (.str e) x vs Z) Q E):qr B A v x pl p as env Q E s:=by
 obtain⟨k,f⟩:=hv;have go:∀{id:String}(_:Slot "str" (af x) id)(_:typeOf (.builtin id)=pure (.type "method_descriptor")),
   (∀ps Z2 b s2 vs,At B A c sc m env b Z2 s2.heap->VRl B s2.heap b ps vs->Fin B no (VR B) b s2 (methB (.str e) x ps Z2) Q E->Ws (Wt B.prog B.w) A (call (.builtin id) (v::vs)) Q E s2)->
   qr B A v x pl p as env Q E s:=fun d h i=>
  xZ d h (eR (S.evs as g a F fun ps Z2 b s2 vs l j bI n F2=>i ps Z2 b s2 vs j bI F2)) ⟨_,_,f⟩
 clear F a S g;rw[XX] at hb;rcases hb with hb|hb<;>(have ex:=b9 hb;subst ex)
 ·exact go (sX▸PySem.F.slot_str_isupper) PySem.F.type_str_isupper fun ps Z2 b s2 vs a bI F=>by rw[f];exact x2 a.rel bI F
 ·exact go (x1▸YS) PySem.F.type_str_split fun ps Z2 b s2 vs a bI F=>by rw[f];exact DG a bI F
end
theorem DI{o:IE}{x p1 p:Nat}{as:List IE}(k:aJ B)(t:i7 B)(u:Av B)(S:SimE B r)(C:gz B r)(d:bj sc (.meth o x p1 as p)=Wd)(a:At B A c sc m env V Z s.heap)(F:Fin B no (VR B) V s (aQ B.T r c (.meth o x p1 as p) m Z) Q E):Ws (Wt B.prog B.w) A (eval (aV (.meth o x p1 as p)) env) Q E s:=by
 have d:(((bj sc o&&bU sc as) &&Wf (ag p1).endLine (ag p).line) &&XQ as.length 20)=Wd:=d;have h:=ay (aa (aa d));refine me (aa (aa (aa d))) (ay (aa d)) (Wg (ay d)) (S.use (aa (aa (aa d))) a F fun q Z1 V1 s1 v st i hv b pl=>?_);clear d st a F;replace b:Fin B no (VR B) V1 s1 (match(generalizing:=false) methF B.T Z1 q x with
  |some f=>(evs r c m as Z1).bind fun vs Z=>dG B.T r c f (q::vs) Z
  |none=>cond (o7 Z1 q x) ((evs r c m as Z1).bind fun vs Z=>methB q x vs Z) .no) Q E:=b
 induction hf:methF B.T Z1 q x using Wo with
 |some f=>rw[hf] at b;exact x3 k t u S C h i hv hf b
 |none=>
  rw[hf] at b;refine Fin.y b fun D b=>DH D (fun n l e j g=>?_) (fun n es ep e j g=>?_) fun z e g=>?_
  ·subst e;exact x4 S h i hv j g b
  ·subst e;have ex:=b9 g;subst ex;exact x5 S h i hv j b
  ·subst e;exact AC S h i hv g b
end
theorem bK(x:Nat)(p:P):∀m:VE,get x (put x p m)=Wb p:=by
 intro a
 induction a with
 |nil=>
  show cond (Wf x x) (Wb p) Wc=_;rw[Wx];rfl
 |cons b r c=>
  obtain⟨y,w⟩:=b;rw[rR]
  induction d:Wf y x using Wn with
  |true=>show cond (Wf x x) (Wb p) _=_;rw[Wx];rfl
  |false=>show cond (Wf y x) _ (get x (put x p r))=_;rw[d];exact c
theorem lE{x y:Nat}(h:x≠y):Wf x y=We:=by
 induction q:Wf x y using Wn with
 |false=>rfl
 |true=>exact absurd (b9 q) h
theorem be{x y:Nat}(p:P)(h:y≠x):∀m:VE,get y (put x p m)=get y m:=by
 intro m
 induction m with
 |nil=>show cond (Wf x y) _ Wc=_;rw[lE (Ne.symm h)];rfl
 |cons e r b=>
  obtain⟨z,w⟩:=e;rw[rR]
  induction a:Wf z x using Wn with
  |true=>
   have e:=b9 a;clear a;subst e;show cond (Wf z y) _ (get y r)=cond (Wf z y) _ (get y r);rw[lE (Ne.symm h)];rfl
  |false=>
   show cond (Wf z y) _ (get y (put x p r))=cond (Wf z y) _ (get y r);rw[b]
theorem rj{m:VE}(h:(m.any fun e=>e.2.isExc)=We){x:Nat}{p:P}(g:get x m=Wb p):p.isExc=We:=by
 obtain⟨e,a,rfl⟩:=iZ g;have:=XN.mp h e a;simpa using this
theorem Hl{p:P}(h1:p.isExc=We)(a:p.isClo=We):p.isOdd=We:=by
 induction p using Mine.P.casesOn with
 |clo=>exact gB a
 |exc=>exact gB h1
 |_=>rfl
section
variable{B:ao}{c:Cx}{m:VE}{Z:St}{A:WN}{s:Wl}{V:aG}{env:Env}{sc:Sc}{E:Wm->Wl->Prop}
theorem Amb.stepX{A:WN}{env:Env}{s s':Wl}{V V':aG}{X:Addr->Prop}(st:Stp X V s V' s')(a:Amb B A c env V s.heap):Amb B A c env V' s'.heap:=by
 obtain⟨e1,o,x,y,z⟩:=a.fr;refine⟨⟨e1,o,x,y,fun e d=>?_⟩,a.dep,a.un,a.hd,a.cod⟩;obtain⟨f,L,ob,g,h,i,b,j⟩:=z e d;obtain⟨k,l,m⟩:=st.ex L ob b;exact⟨f,L,k,g,h,st.le.notOwn b i,l,m j⟩
structure One(B:ao)(Z:St)(V:aG)(s s1:Wl)(D:Addr):Prop where
 same:∀b,b≠D->s1.heap.get? b=s.heap.get? b
 ky:Keep (fun b=>own V b\/b=D) s.heap s1.heap
 rl:Rel B V Z s1.heap
 st:∀X:Addr->Prop,X D->Stp X V s V s1
theorem One.of{s1:Wl}{D:Addr}{o c:Obj}(rl:Rel B V Z s.heap)(i:¬own V D)(j:B.h₀.get? D=Wc)(g:s.heap.get? D=Wb o)(d:(∀xs n,o.data≠ .seq xs n)/\∀vs,o.data≠ .fields vs)(k:s1.heap.get? D=Wb c)(l:∀vs,c.data≠ .fields vs)(same:∀b,b≠D->s1.heap.get? b=s.heap.get? b)(e1:s1.gens=s.gens)(e2:s1.drawn=s.drawn)(e3:s1.os=s.os)(ns:∀m,s.heap.Ns D m->∃p,s1.heap.Ns D p):One B Z V s s1 D:=by
 have ky:Keep (fun b=>own V b\/b=D) s.heap s1.heap:=fun b o e n=>.refl ((same b fun q=>n (.inr q)).trans e);have nq:NoSeq s.heap (fun b=>b=D):=fun b f a h=>by
  rw[a,g] at h;rw[<-Wi h];exact⟨fun xs n hd=>absurd hd (d.1 xs n),fun vs q t hd=>absurd hd (d.2 vs)⟩
 refine⟨same,ky,rl.stepQ nq ky (fun b q=>same b fun z=>i (z▸q)) fun b o e=>(same b fun z=>by rw[z,j] at e;exact aH e).trans (rl.base b o e),fun X a=>⟨fun b o e n=>.refl ((same b fun q=>n (.inr (q▸a))).trans e),.refl _ _,fun b f e=>?_,e1,e2,e3,fun b o _ e _ n=>(same b fun q=>n (.inr (q▸a))).trans e,fun b m _ n=>?_⟩⟩
 ·by_cases q:b=D
  ·exact⟨c,q▸k,fun _=>l⟩
  ·exact⟨f,(same b q).trans e,id⟩
 ·by_cases q:b=D
  ·exact q▸ns m (q▸n)
  ·exact⟨m,ir n fun o e _=>.refl ((same b q).trans e)⟩
theorem wG{p:P}(h:p.isOdd=We):p.isClo=We:=by
 revert h;cases p<;>intro h<;>first|rfl|exact gB h
theorem sY{p:P}(h:p.isOdd=We):p.isExc=We:=by
 revert h;cases p<;>intro h<;>first|rfl|exact gB h
theorem wH{x:Nat}{p:P}(b:p.isClo=We)(h:∀y q,get y m=Wb q->q.isClo=We)(y:Nat)(q:P)(g:get y (put x p m)=Wb q):q.isClo=We:=by
 by_cases a:y=x
 ·rw[a,bK] at g;exact Wi g▸b
 ·rw[be p a] at g;exact h y q g
theorem wI{h':Heap}{tk:Tok}{c d:Str->Option Wm}(rl:Rel B V Z s.heap)(e:EnvR B V s.heap m env)(ns:s.heap.Ns env.locals c)(a:h'.Ns env.locals d)(hs:YD env.locals s.heap h'):One B Z V s {s with heap:=h',toks:=tk} env.locals:=by
 obtain⟨i,es,ep,f,b,_⟩:=ns;obtain⟨j,k,l,g,h,_⟩:=id a;exact .of rl e.locN e.locB f ⟨fun xs n q=>(by rw[b] at q;cases q),fun vs q=>(by rw[b] at q;cases q)⟩ g (fun vs q=>by rw[h] at q;cases q) hs.2 rfl rfl rfl fun _ _=>⟨_,a⟩
theorem One.vrC{s1:Wl}{a:Str->Option Wm}(O:One B Z V s s1 env.locals)(ns:s.heap.Ns env.locals a){q:P}{u:Wm}(c:q.isExc=We)(d:VR B s.heap V q u):VR B s1.heap V q u:=by
 obtain⟨e,es,ep,f,g,_⟩:=ns;have w:Own s.heap False (fun b=>b=env.locals):=⟨fun b h=>⟨e,h▸f,.inl ⟨es,ep,g⟩⟩⟩;exact VR.stepC w O.ky (.refl _ _) c d
theorem sZ{s1:Wl}{x:Nat}{p:P}{v:Wm}{b:Str->Option Wm}(O:One B Z V s s1 env.locals)(e:EnvR B V s.heap m env)(j:env.kindOf (af x)=Wb .local)(hex:(m.any fun e=>e.2.isExc)=We)(hv:VR B s1.heap V p v)(k:p.isClo=We)(ns:s.heap.Ns env.locals b)(l:∀y q,env.kindOf (af y)=Wb .local->get y m=Wb q->∃u,b (af y)=Wb u/\VR B s.heap V q u)(r:s1.heap.Ns env.locals (fun y=>if y=af x then Wb v else b y)):EnvR B V s1.heap (put x p m) env:=by
 have i:∀{q:P}{u:Wm},q.isExc=We->VR B s.heap V q u->VR B s1.heap V q u:=fun c a=>O.vrC ns c a;obtain⟨G,es,ep,t,w,_⟩:=ns;refine⟨e.kind,e.glob,e.bui,e.locN,e.locB,⟨_,r,fun y q A g=>?_⟩,fun y hy=>?_,e.inj,fun hc=>wH k (e.clo hc)⟩
 ·by_cases hy:y=x
  ·rw[hy,bK] at g;exact⟨v,by rw[hy,if_pos rfl],Wi g▸hv⟩
  ·rw[be p hy] at g;obtain⟨u,a,f⟩:=l y q A g;exact⟨u,by rw[if_neg (ig hy)];exact a,i (rj hex g) f⟩
 ·obtain⟨cc,C,lk,n,D,⟨o,g,d⟩,c⟩:=e.cel y hy;have E:cc≠env.locals:=fun z=>by rw[z,t] at g;rw[<-Wi g,w] at d;cases d
  have F:y≠x:=fun z=>by rw[z,j] at hy;rcases hy with hy|hy<;>exact Xh (Wi hy)
  refine⟨cc,C,lk,n,D,⟨o,(O.same cc E).trans g,d⟩,fun q h=>?_⟩;rw[be p F] at h;obtain⟨u,a,f⟩:=c q h;exact⟨u,a,i (rj hex h) f⟩
theorem AD{s1:Wl}{x:Nat}{p:P}{v:Wm}{cc:Addr}{G:Option Wm}(O:One B Z V s s1 cc)(e:EnvR B V s.heap m env)(f:env.kindOf (af x)=Wb .cell)(hex:(m.any fun e=>e.2.isExc)=We)(hv:VR B s.heap V p v)(D:p.isOdd=We)(lk:env.cells.lookup (af x)=Wb cc)(n:¬own V cc)(h:B.h₀.get? cc=Wc)(H:s.heap.IsCell cc G)(I:s1.heap.IsCell cc (Wb v)):EnvR B V s1.heap (put x p m) env:=by
 obtain⟨oc,gc,dc⟩:=H;have w:Own s.heap True (fun b=>b=cc):=⟨fun b h=>⟨oc,h▸gc,.inr ⟨trivial,_,dc⟩⟩⟩;have i:∀{q:P}{u:Wm},q.isOdd=We->VR B s.heap V q u->VR B s1.heap V q u:=fun J c=>VR.stepX w O.ky (.refl _ _) _ J c;have odd:∀{y q},get y m=Wb q->q.isOdd=We:=fun g=>Hl (rj hex g) (e.clo ⟨x,f⟩ _ _ g);obtain⟨K,⟨L,es,ep,j,k,r⟩,M⟩:=e.loc;have N:env.locals≠cc:=fun z=>by rw[z,gc] at j;rw[<-Wi j,dc] at k;cases k
 refine⟨e.kind,e.glob,e.bui,e.locN,e.locB,⟨K,⟨L,es,ep,(O.same _ N).trans j,k,r⟩,fun y q l g=>?_⟩,fun y E=>?_,e.inj,fun hc=>wH (wG D) (e.clo hc)⟩
 ·have a:y≠x:=fun z=>by rw[z,f] at l;exact Xh (Wi l)
  rw[be p a] at g;obtain⟨u,c,t⟩:=M y q l g;exact⟨u,c,i (odd g) t⟩
 ·by_cases a:y=x
  ·refine⟨cc,Wb v,a▸lk,n,h,I,fun q g=>?_⟩;rw[a,bK] at g;exact⟨v,rfl,Wi g▸i D hv⟩
  ·obtain⟨A,Q,F,R,S,⟨o,g,d⟩,T⟩:=e.cel y E;have U:A≠cc:=fun z=>a (e.inj _ _ _ E (.inl f) F (z▸lk));refine⟨A,Q,F,R,S,⟨o,(O.same A U).trans g,d⟩,fun q C=>?_⟩;rw[be p a] at C;obtain⟨u,c,t⟩:=T q C;exact⟨u,c,i (odd C) t⟩
theorem jb{x:Nat}{p:P}{v:Wm}{Q:Unit->Wl->Prop}(k:gK sc x=Wd)(a:At B A c sc m env V Z s.heap)(hex:(m.any fun e=>e.2.isExc)=We)(hv:VR B s.heap V p v)(f:p.isOdd=We)
  (h:∀s',Stp (Xow sc env) V s V s'->At B A c sc (put x p m) env V Z s'.heap->Q () s'):Ws (Wt B.prog B.w) A (storeName env (af x) v) Q E s:=by
 rcases m9 k with hk|hk
 ·have b:=a.scr.loc x hk;obtain⟨C,ns,u⟩:=a.envr.loc;refine acB b ns (fun h' l i=>?_) (a.envr.kind▸rfl);have O:=wI (tk:=s.toks+1) a.rel a.envr ns l i;exact h _ (O.st _ (.inl rfl)) ⟨a.scr,O.rl,sZ O a.envr b hex (O.vrC ns (sY f) hv) (wG f) ns u l,a.amb.stepX (O.st (Xow sc env) (.inl rfl))⟩
 ·have b:=a.scr.cell x hk;obtain⟨cc,D,lk,n,o,j,_⟩:=a.envr.cel x (.inl b);refine wpAny_storeName_cell a.envr.kind b lk j fun h' r i=>?_;obtain⟨oc,gc,dc⟩:=id j;obtain⟨F,y,z⟩:=id r;have t:Xow sc env cc:=.inr ⟨x,k,b,lk⟩;have O:One B Z V s {s with heap:=h'} cc:=.of a.rel n o gc ⟨fun xs n q=>(by rw[dc] at q;cases q),fun vs q=>(by rw[dc] at q;cases q)⟩ y (fun vs q=>by rw[z] at q;cases q) i.2 rfl rfl rfl fun _ nn=>by obtain⟨_,_,_,g,d,_⟩:=nn;rw[gc] at g;rw[<-Wi g,dc] at d;cases d
  exact h _ (O.st _ t) ⟨a.scr,O.rl,AD O a.envr b hex hv f lk n o j r,a.amb.stepX (O.st _ t)⟩
end
theorem wJ{m:VE}{x:Nat}{p:P}(h:(m.any fun e=>e.2.isExc)=We)(hp:p.isExc=We):((put x p m).any fun e=>e.2.isExc)=We:=by
 induction m with
 |nil=>show(p.isExc||false)=We;rw[hp];rfl
 |cons e r a=>
  rw[Yf,WJ] at h;rw[rR]
  induction Wf e.1 x using Wn with
  |true=>show(p.isExc||r.any _)=We;rw[hp,h.2];rfl
  |false=>show(e.2.isExc||(put x p r).any _)=We;rw[a h.2];simpa using h.1
theorem wK{p:P}(h:p.isOdd=We):p.isExc=We:=by revert h;cases p<;>intro h<;>first|rfl|exact gB h
noncomputable def cp(xs:List (Nat×Nat)):List W3:=xs.map fun e=>.Name (af e.1) (ag e.2)
theorem eA(env:Env):∀xs:List (Nat×Nat),abn (cp xs) env=xs.map fun e=>(We,aay (.Name (af e.1) (ag e.2)) env):=by
 intro a
 induction a with
 |nil=>
  exact rfl
 |cons e xs b=>
  show(We,aay (.Name (af e.1) (ag e.2)) env)::abn (cp xs) env=_;rw[b];rfl
section
variable{B:ao}{c:Cx}{m:VE}{Z:St}{A:WN}{s:Wl}{V:aG}{env:Env}{sc:Sc}{E:Wm->Wl->Prop}
theorem EnvR.own{h:Heap}{env:Env}(e:EnvR B V h m env):Own h True (dK env):=by
 refine⟨fun b a=>?_⟩;rcases a with a|⟨y,c,f⟩
 ·subst a;obtain⟨l,⟨i,es,ep,j,k,_⟩,_⟩:=e.loc;exact⟨i,j,.inl ⟨es,ep,k⟩⟩
 ·obtain⟨cc,n,lk,_,_,⟨o,g,d⟩,_⟩:=e.cel y (.inl c);exact(Wi (lk.symm.trans f))▸⟨o,g,.inr ⟨trivial,_,d⟩⟩
theorem x6{Q:Unit->Wl->Prop}:∀(xs:List (Nat×Nat)){l:List P}{vs:List Wm}{m:VE}{s:Wl},(xs.all fun e=>gK sc e.1)=Wd->At B A c sc m env V Z s.heap->(m.any fun e=>e.2.isExc)=We->VRs B s.heap V l vs->l.length=xs.length->
  (∀s',Stp (Xow sc env) V s V s'->At B A c sc (aD.go xs l m) env V Z s'.heap->Q () s')->Ws (Wt B.prog B.w) A (assignInOrder (xs.map fun e=>aay (.Name (af e.1) (ag e.2)) env) vs) Q E s:=by
 intro i
 induction i with
 |nil=>
  intro l vs m s b a hex hv d h
  induction l using Wv with
  |cons _ _=>cases d
  |nil=>
   subst hv;exact Wq (h s (.refl _ _ _) a)
 |cons j xs k=>
  obtain⟨x,y⟩:=j;intro l vs m s b a hex hv d h
  induction l using Wv with
  |nil=>cases d
  |cons p l=>
   obtain⟨v,r,rfl,f,hp,n⟩:=hv;rw[aaJ] at b;refine abG (adN (jb (aa b) a hex hp f fun s1 g o=>?_));exact k (ay b) o (wJ hex (wK f)) (VRs.stepX a.envr.own (g.mono fun _ q=>q.of).keep (.refl _ _) l n) (aav d) fun s2 t u=>h s2 (g.trans t) u
theorem og(env:Env)(xs:List (Nat×Nat)):(abn (cp xs) env).map (·.2)=xs.map fun e=>aay (.Name (af e.1) (ag e.2)) env:=by
 rw[eA,XB];rfl
theorem kM{t:IT}{p:P}{v:Wm}{n:VE}{Q:Unit->Wl->Prop}(q:jB sc (.to t)=Wd)(a:At B A c sc m env V Z s.heap)(u:A.handled=Wc)(hv:VR B s.heap V p v)(d:aD t p m=Wb n)
  (h:∀s',Stp (Xow sc env) V s V s'->At B A c sc n env V Z s'.heap->Q () s'):Ws (Wt B.prog B.w) A (aay (Bw t) env v) Q E s:=by
 unfold aD at d
 induction hex:m.any fun e=>e.2.isExc using Wn with
 |true=>rw[hex] at d;exact aH d
 |false=>
  rw[hex] at d;dsimp only[cond] at d
  induction t using Mine.IT.casesOn with
  |name x y=>
   dsimp only at d
   induction g:p.isOdd using Wn with
   |true=>rw[g] at d;exact aH d
   |false=>
    rw[g] at d;cases d;exact adN (jb q a hex hv g h)
  |tup xs k y=>
   dsimp only at d;replace d:=vA d;obtain⟨l,e,d⟩:=d
   ·subst e
    induction f:Wf l.length xs.length using Wn with
    |false=>rw[f] at d;exact aH d
    |true=>
     rw[f] at d;cases d;have f:=b9 f;obtain⟨ad,vs,rfl,_,ht,bI⟩:=hv;refine wpAny_assign_Tuple (elts:=cp xs) u ht (by rw[eA,Wp,WP,bI.length,f]) ?_ fun h' i=>?_
     ·rw[eA];exact List.findIdx?_eq_none_iff.mpr fun x i=>by obtain⟨e,_,rfl⟩:=Wz.mp i;rfl
     ·rw[og];have j:∀b o,s.heap.get? b=Wb o->h'.get? b=Wb o:=fun b o e=>i b o (fun z=>by rw[z,aC] at e;exact aH e) e;have r:Stp no V s V {s with heap:=h'}:=.grow j;exact x6 xs (aa (aa q)) (s:={s with heap:=h'}) (a.step (s1:={s with heap:=h'}) r (a.rel.grow j)) hex (VRs.step (.of_grow j) (.refl _ _) l bI) f fun s' C D=>h s' (r.any.trans C) D
end
set_option genCtorIdx true in
inductive Srt where
 |tup(a:Addr)(vs:List Wm)
 |list(a:Addr)(vs:List Wm)
 |own(n:Nat)
 |dict(n ep:Nat)
 |enum(J a:Addr)(vs:List Wm)
noncomputable def ar{α:Type}(f:P->α->St->R α):Srt->List P->Nat->Nat->α->St->R α
 |.tup _ _,l,_,_,a,Z=>loopL f l a Z
 |.list _ _,l,_,_,a,Z=>loopL f l a Z
 |.enum _ _ _,l,_,_,a,Z=>loopL f l a Z
 |.own n,_,i,k,a,Z=>loopN f n k i a Z
 |.dict n ep,_,i,k,a,Z=>loopD f n ep k i a Z
noncomputable def Iw(I:Addr):Srt->Addr->Prop
 |.enum J _ _,b=>b=I\/b=J
 |_,b=>b=I
noncomputable def AtN(V:aG)(n:Nat)(c:Addr×Addr):Prop:=ai V n=Wb (Wb c)\/ai V n=Wb Wc
inductive QA(k m i n:Nat)(a b c d e:Prop):Prop
 |mk(h1:k=m)(f:i+k=n)(g:a)(h:b)(j:c)(l:d)(o:e)
inductive Tc(B:ao)(V:aG)(h:Heap)(I J a:Addr)(vs:List Wm)(l:List P)(i k:Nat):Prop
 |mk(b:List P)(old:Wm)(h0:l=fi i b)(h1:k=b.length)(c:i+k=vs.length)(d:I≠J)(e:a≠I)(f:a≠J)(g:¬own V a)(j:h.IsList a vs.toArray)(m:h.IsListIter J a i)(n:IsEnum h I J i old)(o:VRs B h V b (vs.drop i))
noncomputable def ItAt(B:ao)(V:aG)(h:Heap)(I:Addr):Srt->List P->Nat->Nat->Prop
 |.tup a vs,l,i,k=>QA k l.length i vs.length (a≠I) (¬own V a) (h.IsTuple a vs.toArray) (h.IsTupleIter I a i) (VRs B h V l (vs.drop i))
 |.list a vs,l,i,k=>QA k l.length i vs.length (a≠I) (¬own V a) (h.IsList a vs.toArray) (h.IsListIter I a i) (VRs B h V l (vs.drop i))
 |.own n,_,i,_=>∃c,AtN V n c/\h.IsListIter I c.1 i
 |.dict n ep,_,i,k=>∃c,AtN V n c/\h.IsKeyIter I c.1 i (i+k) ep
 |.enum J a vs,l,i,k=>Tc B V h I J a vs l i k
structure ItS(B:ao)(V:aG)(h:Heap)(I:Addr)(c9:Srt)(l:List P)(i k:Nat):Prop where
 it:ItAt B V h I c9 l i k
 nown:∀b,Iw I c9 b->¬own V b
 base:∀b,Iw I c9 b->B.h₀.get? b=Wc
theorem ItAt.rec{B:ao}{V:aG}{h:Heap}{I:Addr}{a:Srt}{l:List P}{i k:Nat}(x:ItAt B V h I a l i k):∀b,Iw I a b->∃o vs,h.get? b=Wb o/\o.data=.fields vs/\(∃T,o.cls=.type T)/\∀q t,vs[1]?≠Wb (.str q t):=by
 intro b hb
 induction a using Mine.Srt.casesOn with
 |tup f vs=>obtain⟨_,_,_,_,_,⟨o,g,c,d⟩,_⟩:=x;cases hb;exact⟨o,_,g,d,⟨_,c⟩,fun q t=>by simp⟩
 |list f vs=>obtain⟨_,_,_,_,_,⟨o,g,c,d⟩,_⟩:=x;cases hb;exact⟨o,_,g,d,⟨_,c⟩,fun q t=>by simp⟩
 |own n=>obtain⟨_,_,⟨o,g,c,d⟩⟩:=x;cases hb;exact⟨o,_,g,d,⟨_,c⟩,fun q t=>by simp⟩
 |dict n ep=>obtain⟨_,_,⟨o,g,c,d⟩⟩:=x;cases hb;exact⟨o,_,g,d,⟨_,c⟩,fun q t=>by simp⟩
 |enum J f vs=>
  obtain⟨j,old,_,_,_,_,_,_,_,_,⟨o,g,c,d⟩,e,_⟩:=x;rcases hb with hb|hb
  ·subst hb;exact⟨_,_,e,rfl,⟨_,rfl⟩,fun q t=>by simp⟩
  ·subst hb;exact⟨o,_,g,d,⟨_,c⟩,fun q t=>by simp⟩
theorem AtN.step{V V':aG}{h:Heap}{n:Nat}{c:Addr×Addr}(l:Le V h V')(x:AtN V n c):AtN V' n c:=by
 rcases x with x|x
 ·exact l.more _ _ x
 ·exact .inr (l.dead _ x)
section
variable{B:ao}{s s':Wl}{V V':aG}{Z:St}{X:Addr->Prop}{I:Addr}
theorem oh{h h':Heap}{a:Addr}{vs:Array Wm}{T:Wm}(k:Keep (fun b=>own V b\/X b) h h')(w:Own h True X)(n:¬own V a)(t:∃o,h.get? a=Wb o/\o.cls=T/\∃n,o.data=.seq vs n):∃o,h'.get? a=Wb o/\o.cls=T/\∃n,o.data=.seq vs n:=by
 obtain⟨o,e,c,m,d⟩:=t;obtain⟨sl,z⟩:=pW k e n (w.seq e d);exact⟨_,z,c,m,d⟩
theorem gU(st:Stp X V s V' s')(w:Own s.heap True X){a:Addr}{o:Obj}{vs:Array Wm}(n:¬own V a)(g:s.heap.get? a=Wb o)(d:o.data=.fields vs):s'.heap.get? a=Wb o:=
 st.fl a o vs g d fun q=>q.elim n (w.fields g d)
theorem ItS.step{p:Srt}{l:List P}{i k:Nat}(st:Stp X V s V' s')(w:Own s.heap True X)(x:ItS B V s.heap I p l i k):ItS B V' s'.heap I p l i k:=by
 obtain⟨it,nown,base⟩:=x;refine⟨?_,fun b r=>?_,base⟩
 ·induction p using Mine.Srt.casesOn with
  |tup t vs=>
   obtain⟨h1,j,m,a,f,⟨o,g,c,d⟩,h⟩:=it;obtain⟨y,q,_⟩:=id f;exact⟨h1,j,m,st.le.notOwn q a,oh st.keep w a f,⟨o,gU st w (nown I rfl) g d,c,d⟩,VRs.stepX w st.keep st.le l h⟩
  |list t vs=>
   obtain⟨h1,j,m,a,f,⟨o,g,c,d⟩,h⟩:=it;obtain⟨y,q,_⟩:=id f;exact⟨h1,j,m,st.le.notOwn q a,oh st.keep w a f,⟨o,gU st w (nown I rfl) g d,c,d⟩,VRs.stepX w st.keep st.le l h⟩
  |own n=>
   obtain⟨cc,h1,⟨o,g,c,d⟩⟩:=it;exact⟨cc,h1.step st.le,⟨o,gU st w (nown I rfl) g d,c,d⟩⟩
  |dict n ep=>
   obtain⟨cc,h1,⟨o,g,c,d⟩⟩:=it;exact⟨cc,h1.step st.le,⟨o,gU st w (nown I rfl) g d,c,d⟩⟩
  |enum J t vs=>
   obtain⟨u,old,h1,j,m,a,f,z,h,v,⟨o,g,c,d⟩,e,A⟩:=it;obtain⟨D,C,_⟩:=id v;exact⟨u,old,h1,j,m,a,f,z,st.le.notOwn C h,oh st.keep w h v,⟨o,gU st w (nown J (.inr rfl)) g d,c,d⟩,gU st w (nown I (.inl rfl)) e rfl,VRs.stepX w st.keep st.le u A⟩
 ·obtain⟨o,vs,g,d,_⟩:=it.rec b r;exact st.le.notOwn g (nown b r)
structure Mv(Y:Addr->Prop)(s s':Wl):Prop where
 keep:∀b o,¬Y b->s.heap.get? b=Wb o->s'.heap.get? b=Wb o
 gens:s'.gens=s.gens
 drawn:s'.drawn=s.drawn
 os:s'.os=s.os
variable{Y:Addr->Prop}
theorem Mv.stp{s0:Wl}{V0:aG}(v:Mv Y s s')(st:Stp X V0 s0 V s)(c:∀b,Y b->s0.heap.get? b=Wc):Stp X V0 s0 V s':=by
 have a:∀b o,s0.heap.get? b=Wb o->¬Y b:=fun b o e q=>by rw[c b q] at e;exact aH e
 refine⟨fun b o e n=>?_,st.le,fun b o e=>?_,v.gens.trans st.gens,v.drawn.trans st.drawn,v.os.trans st.os,fun b o vs e d n=>v.keep b o (a b o e) (st.fl b o vs e d n),fun b m no n=>let ⟨f,n'⟩:=st.ns b m no n;let ⟨g,_,_,h,_⟩:=n;⟨f,ir n' fun o e _=>.refl (v.keep b o (a b g h) e)⟩⟩
 ·obtain⟨sl,z⟩:=st.keep b o e n;exact⟨sl,v.keep b _ (a b o e) z⟩
 ·obtain⟨i,z,q⟩:=st.ex b o e;exact⟨i,v.keep b _ (a b o e) z,q⟩
theorem Mv.ky(v:Mv Y s s'):Keep (fun b=>own V b\/Y b) s.heap s'.heap:=fun b o e n=>.refl (v.keep b o (fun q=>n (.inr q)) e)
theorem Mv.rel(v:Mv Y s s')(rl:Rel B V Z s.heap)(hf:∀b,Y b->∃o vs,s.heap.get? b=Wb o/\o.data=.fields vs/\(∃T,o.cls=.type T)/\∀q t,vs[1]?≠Wb (.str q t))(a:∀b,Y b->¬own V b)(c:∀b,Y b->B.h₀.get? b=Wc):Rel B V Z s'.heap:=by
 have nq:NoSeq s.heap Y:=fun b o f h=>by
  obtain⟨i,vs,g,d,_,e⟩:=hf b f;obtain rfl:=Wi (h.symm.trans g);exact⟨fun xs n hd=>(by rw[hd] at d;cases d),fun j q t hd=>by rw[hd] at d;cases d;exact e q t⟩
 refine rl.stepQ nq v.ky (fun b q=>?_) fun b o e=>v.keep b o (fun q=>by rw[c b q] at e;exact aH e) (rl.base b o e);obtain⟨o,g⟩:=rl.has q;rw[g];exact v.keep b o (fun y=>a b y q) g
theorem Mv.nq(v:Mv Y s s')(hf:∀b,Y b->∃o vs,s.heap.get? b=Wb o/\o.data=.fields vs/\(∃T,o.cls=.type T)/\∀q t,vs[1]?≠Wb (.str q t)):NoSeq s.heap Y:=fun b o a c=>by
 obtain⟨f,vs,g,d,_,e⟩:=hf b a;obtain rfl:=Wi (c.symm.trans g);exact⟨fun xs n hd=>(by rw[hd] at d;cases d),fun h q t hd=>by rw[hd] at d;cases d;exact e q t⟩
theorem Mv.envr{m:VE}{env:Env}(v:Mv Y s s')(hf:∀b,Y b->∃o vs,s.heap.get? b=Wb o/\o.data=.fields vs/\(∃T,o.cls=.type T)/\∀q t,vs[1]?≠Wb (.str q t))(h:(m.any fun e=>e.2.isOdd)=We)(e:EnvR B V s.heap m env):EnvR B V s'.heap m env:=by
 have nq:=v.nq hf;have c:∀{x:Nat}{p:P}{u:Wm},get x m=Wb p->VR B s.heap V p u->VR B s'.heap V p u:=fun g a=>by
  refine VR.stepQ nq v.ky (.refl _ _) _ ?_ a;clear v hf e nq a;obtain⟨e2,D,rfl⟩:=iZ g;have:=XN.mp h e2 D;simpa using this
 refine⟨e.kind,e.glob,e.bui,e.locN,e.locB,?_,fun y i=>?_,e.inj,e.clo⟩
 ·obtain⟨j,⟨E,es,ep,k,l,r⟩,q⟩:=e.loc;refine⟨j,⟨E,es,ep,v.keep _ _ (fun y=>?_) k,l,r⟩,fun x p F g=>let ⟨u,a,f⟩:=q x p F g;⟨u,a,c g f⟩⟩;clear v h e nq c r q;obtain⟨G,vs,g,d,_⟩:=hf _ y;clear m hf j y;obtain rfl:=Wi (k.symm.trans g);rw[l] at d;cases d
 ·obtain⟨cc,H,lk,n,w,⟨o,g,d⟩,q⟩:=e.cel y i;refine⟨cc,H,lk,n,w,⟨o,v.keep _ _ (fun z=>?_) g,d⟩,fun p A=>let ⟨u,a,f⟩:=q p A;⟨u,a,c A f⟩⟩;clear c i lk n w q;obtain⟨G,vs,I,C,_⟩:=hf _ z;clear y z;obtain rfl:=Wi (g.symm.trans I);rw[d] at C;cases C
theorem Mv.amb{A:WN}{c:Cx}{env:Env}(v:Mv Y s s')(hf:∀b,Y b->∃o vs,s.heap.get? b=Wb o/\o.data=.fields vs/\(∃T,o.cls=.type T)/\∀q t,vs[1]?≠Wb (.str q t))(a:Amb B A c env V s.heap):Amb B A c env V s'.heap:=by
 obtain⟨e1,o,x,y,z⟩:=a.fr;refine⟨⟨e1,o,x,y,fun e g=>?_⟩,a.dep,a.un,a.hd,a.cod⟩;obtain⟨h,L,ob,i,j,k,d,f⟩:=z e g;refine⟨h,L,ob,i,j,k,v.keep _ _ (fun l=>?_) d,f⟩;obtain⟨p,vs,m,n,_⟩:=hf _ l;obtain rfl:=Wi (d.symm.trans m);exact f _ n
end
section
variable{B:ao}{A:WN}{s:Wl}{V:aG}{Z:St}{I:Addr}{E:Wm->Wl->Prop}
noncomputable abbrev oi:List String:=["enumerate","zip","dict_itemiterator","dict_reverseitemiterator","odict_iterator","itertools.zip_longest","itertools.pairwise"]
theorem eF{tgt:W3}{v:Wm}{o:Obj}{T:String}{vs:Array Wm}{Q:Unit->Wl->Prop}(g:s.heap.get? I=Wb o)(hc:o.cls=.type T)(d:o.data=.fields vs)(c:oi.contains T=We)(h:Q () s):
  Ws (Wt B.prog B.w) A (YT tgt (.ref I) v) Q E s:=by
 have b:∀a:Addr,Ws (Wt B.prog B.w) A (do
   let o <-load I
   match o.cls,o.data with
   |.type n,.fields vs=>
    if(oi.contains n&&vs[0]?==Wb (acd a))=Wd then do
     rule "for.unpacks-the-owned-tuple"
     updateField I 0 .none
    else pure ()
   |_,_=>pure ()) Q E s:=fun a=>by
  refine Wh (wpAny_load g ?_);rw[hc,d];dsimp only;rw[if_neg (by rw[c];simp)];exact Wq h
 cases tgt<;>first
  |exact Wq h
  |(induction v<;>first|exact Wq h|exact b _)
theorem DJ{es:List (Nat×P)}{i:Nat}{p:P}(h:ai (keys es) i=Wb p):∃x w,es[i]?=Wb (x,w)/\p=.str x:=by
 rw[aK] at h;unfold keys at h;rw[YY] at h;obtain⟨e,a,rfl⟩:=WD.mp h;exact⟨e.1,e.2,a,rfl⟩
theorem lF{α:Type}{vs:List α}{i:Nat}{v:α}{r:List α}(h:vs.drop i=v::r):vs[i]?=Wb v/\r=vs.drop (i+1):=by
 have a:i<vs.length:=by
  rcases adI i vs.length with q|q
  ·exact q
  ·rw[aao q] at h;cases h
 rw[Y7 a] at h;injection h with h1 b;exact⟨by rw[Y8 a,h1],b.symm⟩
theorem AtN.lives{V:aG}{h:Heap}{n:Nat}{cc:Addr×Addr}(rl:Rel B V Z h)(a:AtN V n cc){o:O}(e:ai Z n=Wb o)(nd:o≠ .dead):ai V n=Wb (Wb cc):=by
 rcases a with q|q
 ·exact q
 ·have w:=rl.objs n;rw[q,e] at w;exact absurd w nd
section
variable{α β:Type}{f:P->α->St->R α}{l:List P}{i k n ep:Nat}{a:α}{tgt:W3}{RA:Heap->aG->α->β->Prop}{X:Addr->Prop}{s0:Wl}{V0:aG}{Q0:β->Wl->Prop}{E0:Wm->Wl->Prop}{N:Wl->Prop}{S:Wm->Wl->Prop}{C:Prop}
theorem Fin.lst{o:Option O}{G:List P->R α}(k:∀l,o=Wb (.list l)->Fin B X RA V0 s0 (G l) Q0 E0->C):Fin B X RA V0 s0 (match(generalizing:=false) o with|some (.list l)=>G l|_=>.no) Q0 E0->C:=by
 rcases o with _|o
 ·exact lz
 ·cases o with
  |list l=>exact fun F=>k l rfl F
  |_=>exact lz
theorem Fin.dct{o:Option O}{G:List (Nat×P)->Nat->R α}(k:∀es e,o=Wb (.dict es e)->Fin B X RA V0 s0 (G es e) Q0 E0->C):Fin B X RA V0 s0 (match(generalizing:=false) o with|some (.dict es e)=>G es e|_=>.no) Q0 E0->C:=by
 rcases o with _|o
 ·exact lz
 ·cases o with
  |dict es e=>exact fun F=>k es e rfl F
  |_=>exact lz
theorem Fin.sd{p:P}{o:Option O}{G:Nat->List (Nat×P)->Nat->R α}(k:∀x es e,p=.str x->o=Wb (.dict es e)->Fin B X RA V0 s0 (G x es e) Q0 E0->C):Fin B X RA V0 s0 (match(generalizing:=false) p,o with|.str x,Wb (.dict es e)=>G x es e|_,_=>.no) Q0 E0->C:=by
 induction p using Mine.P.casesOn with
 |str x=>
  rcases o with _|o
  ·exact lz
  ·cases o with
   |dict es e=>exact fun F=>k x es e rfl rfl F
   |_=>exact lz
 |_=>exact lz
theorem Fin.rs{vs:List P}{d:Nat->R α}{e:Nat->Int->R α}(f:∀x,vs=[.str x]->Fin B X RA V0 s0 (d x) Q0 E0->C)(k2:∀x i,vs=[.str x,.int i]->Fin B X RA V0 s0 (e x i) Q0 E0->C):Fin B X RA V0 s0 (match(generalizing:=false) vs with| [.str x]=>d x| [.str x,.int i]=>e x i|_=>.no) Q0 E0->C:=by
 rcases vs with _|⟨a,_|⟨b,_|⟨c,r⟩⟩⟩
 ·exact lz
 ·induction a using Mine.P.casesOn with
  |str x=>exact fun F=>f x rfl F
  |_=>exact lz
 ·induction a using Mine.P.casesOn with
  |str x=>induction b using Mine.P.casesOn with
   |int i=>exact fun F=>k2 x i rfl F
   |_=>exact lz
  |_=>exact lz
 ·induction a using Mine.P.casesOn with
  |str x=>cases b<;>exact lz
  |_=>exact lz
theorem Fin.som{o:Option P}{G:P->R α}(k:∀v,o=Wb v->Fin B X RA V0 s0 (G v) Q0 E0->C):Fin B X RA V0 s0 (match(generalizing:=false) o with|some v=>G v|none=>.no) Q0 E0->C:=by
 induction o using Wo with
 |none=>exact lz
 |some v=>exact fun F=>k v rfl F
noncomputable def KA(B:ao)(I:Addr)(s:Wl)(a:Srt)(k:Nat)(G:Prop)(N:Wl->Prop):Prop:=∀s1,k=0->Mv (Iw I a) s s1->G->N s1
noncomputable def KC(B:ao)(V:aG)(I:Addr)(s:Wl)(b:Srt)(i k:Nat)(G:P->List P->Nat->Prop)(S:Wm->Wl->Prop):Prop:=∀a c y v s1,k=a+1->Mv (Iw I b) s s1->ItS B V s1.heap I b c (i+1) a->VR B s1.heap V y v->y.isOdd=We->G y c a->S v s1
noncomputable abbrev KD(B:ao)(A:WN)(I:Addr)(tgt:W3)(N:Wl->Prop)(S:Wm->Wl->Prop)(E:Wm->Wl->Prop)(s:Wl):Prop:=
 Ws (Wt B.prog B.w) A (afa (.ref I)) (fun r s1=>match r with|none=>N s1|some v=>Ws (Wt B.prog B.w) A (YT tgt (.ref I) v) (fun _ s2=>S v s2) E s1) E s
theorem AE{a:Addr}{vs:List Wm}{j:Prop}{G:P->List P->Nat->Prop}(w:A.handled=Wc)(nq:NoSeq s.heap (Iw I (.tup a vs)))(it:ItAt B V s.heap I (.tup a vs) l i k)(nown:∀b,Iw I (.tup a vs) b->¬own V b)(base:∀b,Iw I (.tup a vs) b->B.h₀.get? b=Wc)(z:l=[]->j)(FS:∀y r,l=y::r->G y r r.length)
  (C:KA B I s (.tup a vs) k j N) (D:KC B V I s (.tup a vs) i k G S):KD B A I tgt N S E s:=by
 obtain⟨h1,m,p,F,h,t,f⟩:=it
 induction l using Wv with
 |nil=>
  have f:vs.drop i=[]:=f;have H:vs.toArray[i]?=Wc:=by simp;simpa using f
  exact wpAny_pyNext_tuple_end w t h H fun h' J=>C _ h1 ⟨fun b o n e=>J b o (fun q=>n q) e,rfl,rfl,rfl⟩ (z rfl)
 |cons y l=>
  obtain⟨v,r,e,u,K,L⟩:=f;obtain⟨e1,e2⟩:=lF e;refine wpAny_pyNext_tuple_item t h (x:=v) (by simpa using e1) fun h' hit hs=>?_;have mv:Mv (Iw I (.tup a vs)) s {s with heap:=h'}:=⟨fun b o n e=>hs.extBut b o (fun q=>n q) e,rfl,rfl,rfl⟩;obtain⟨o,g,c,d⟩:=id hit;refine eF (s:={s with heap:=h'}) g c d (by decide+kernel) ?_;exact D l.length l y v _ h1 mv ⟨⟨rfl,(YH i l.length).trans (by rw[h1] at m;exact m),p,F,h.extBut hs.extBut p,hit,VRs.stepQ nq mv.ky (.refl _ _) l (e2▸L)⟩,nown,base⟩ (VR.stepQ nq mv.ky (.refl _ _) y u K) u (FS _ _ rfl)
theorem x7{a:Addr}{vs:List Wm}{j:Prop}{G:P->List P->Nat->Prop}(w:A.handled=Wc)(nq:NoSeq s.heap (Iw I (.list a vs)))(it:ItAt B V s.heap I (.list a vs) l i k)(nown:∀b,Iw I (.list a vs) b->¬own V b)(base:∀b,Iw I (.list a vs) b->B.h₀.get? b=Wc)(z:l=[]->j)(FS:∀y r,l=y::r->G y r r.length)
  (C:KA B I s (.list a vs) k j N) (D:KC B V I s (.list a vs) i k G S):KD B A I tgt N S E s:=by
 obtain⟨h1,m,p,F,h,t,f⟩:=it
 induction l using Wv with
 |nil=>
  have f:vs.drop i=[]:=f;have H:vs.toArray[i]?=Wc:=by simp;simpa using f
  exact acC w t h H fun h' J=>C _ h1 ⟨fun b o n e=>J b o (fun q=>n q) e,rfl,rfl,rfl⟩ (z rfl)
 |cons y l=>
  obtain⟨v,r,e,u,K,L⟩:=f;obtain⟨e1,e2⟩:=lF e;refine acg t h (x:=v) (by simpa using e1) fun h' hit hs=>?_;have mv:Mv (Iw I (.list a vs)) s {s with heap:=h'}:=⟨fun b o n e=>hs.extBut b o (fun q=>n q) e,rfl,rfl,rfl⟩;obtain⟨o,g,c,d⟩:=id hit;refine eF (s:={s with heap:=h'}) g c d (by decide+kernel) ?_;exact D l.length l y v _ h1 mv ⟨⟨rfl,(YH i l.length).trans (by rw[h1] at m;exact m),p,F,h.extBut hs.extBut p,hit,VRs.stepQ nq mv.ky (.refl _ _) l (e2▸L)⟩,nown,base⟩ (VR.stepQ nq mv.ky (.refl _ _) y u K) u (FS _ _ rfl)
theorem AF{cc:Addr×Addr}(t:A.handled=Wc)(nq:NoSeq s.heap (Iw I (.own n)))(rl:Rel B V Z s.heap)(j:AtN V n cc)(hit:s.heap.IsListIter I cc.1 i)(nown:∀b,Iw I (.own n) b->¬own V b)(base:∀b,Iw I (.own n) b->B.h₀.get? b=Wc)(F:Fin B X RA V0 s0 (loopN f n k i a Z) Q0 E0)
  (u:KA B I s (.own n) k (Fin B X RA V0 s0 (.ok a Z) Q0 E0) N) (w:KC B V I s (.own n) i k (fun y J z=>Fin B X RA V0 s0 ((f y a Z).bind fun a Z=>loopN f n z (i+1) a Z) Q0 E0) S):KD B A I tgt N S E s:=by
 induction k with
 |zero=>
  refine Fin.lst (fun C h F=>Fin.y F fun l F=>?_) F;obtain⟨_,vs,m,g,bI⟩:=rl.obj (j.lives rl h nofun) h;exact acC t hit ⟨_,g,rfl,_,rfl⟩ (by simp;rw[bI.length,b9 l];exact Xk _) fun h' D=>u _ rfl ⟨fun b o n e=>D b o (fun q=>n q) e,rfl,rfl,rfl⟩ F
 |succ k=>
  refine Fin.lst (fun C h F=>Fin.y F fun l F=>Fin.som (fun y G F=>?_) F) F;obtain⟨_,vs,m,g,bI⟩:=rl.obj (j.lives rl h nofun) h;obtain⟨v,e1,hv,p⟩:=bI.at G;refine acg hit ⟨_,g,rfl,_,rfl⟩ (x:=v) (by simpa using e1) fun h' r hs=>?_;have mv:Mv (Iw I (.own n)) s {s with heap:=h'}:=⟨fun b o n e=>hs.extBut b o (fun q=>n q) e,rfl,rfl,rfl⟩;obtain⟨o,H,c,d⟩:=id r;refine eF (s:={s with heap:=h'}) H c d (by decide+kernel) ?_;exact w k [] y v _ rfl mv ⟨⟨cc,j,r⟩,nown,base⟩ (VR.stepQ nq mv.ky (.refl _ _) y p hv) p F
theorem Hn{h:Heap}{z:Nat}{q:Str}{a:Wm}(b:Xm q a=Wd)(hz:q=af z):VR B h V (.str z) a:=by
 cases a with
 |str c t=>
  have:c=q:=by simpa [Xm] using b
  exact⟨t,by rw[this,hz]⟩
 |_=>exact dg b
theorem x8{cc:Addr×Addr}(J:A.handled=Wc)(nq:NoSeq s.heap (Iw I (.dict n ep)))(rl:Rel B V Z s.heap)(w:AtN V n cc)(hit:s.heap.IsKeyIter I cc.1 i (i+k) ep)(nown:∀b,Iw I (.dict n ep) b->¬own V b)(base:∀b,Iw I (.dict n ep) b->B.h₀.get? b=Wc)(F:Fin B X RA V0 s0 (loopD f n ep k i a Z) Q0 E0)
  (K:KA B I s (.dict n ep) k (Fin B X RA V0 s0 (.ok a Z) Q0 E0) N) (L:KC B V I s (.dict n ep) i k (fun y W M=>Fin B X RA V0 s0 ((f y a Z).bind fun a Z=>loopD f n ep M (i+1) a Z) Q0 E0) S):KD B A I tgt N S E s:=by
 induction k with
 |zero=>
  refine Fin.dct (fun es e j F=>Fin.y F fun h F=>?_) F;have x:=b9 (ay h);obtain⟨_,O,m,g,er,C⟩:=rl.obj (w.lives rl j nofun) j;obtain⟨r,l,t⟩:=er.dictAt g (ay (aa h));have p:r.length=i:=by have:=congrArg Y0 t;rw[Wp,Wp] at this;exact this.trans x
  rw[C,b9 (aa (aa h))] at l;exact wpAny_pyNext_dict_end J (by rw[p];exact hit) l (List.getElem?_eq_none_iff.mpr (Xo p)) fun h' P=>K _ rfl ⟨fun b o n e=>P b o (fun q=>n q) e,rfl,rfl,rfl⟩ F
 |succ k=>
  refine Fin.dct (fun es e j F=>Fin.y F fun h F=>Fin.som (fun y Q F=>?_) F) F;have x:=b9 (ay h);obtain⟨_,O,m,g,er,C⟩:=rl.obj (w.lives rl j nofun) j;obtain⟨r,l,t⟩:=er.dictAt g (ay (aa h));have p:r.length=i+(k+1):=by have:=congrArg Y0 t;rw[Wp,Wp] at this;exact this.trans x
  rw[C,b9 (aa (aa h))] at l;obtain⟨z,Y,hz,e2⟩:=DJ Q;have u:(r.map (·.1))[i]?=Wb (af z):=by rw[t,YY,hz];rfl
  rw[YY] at u;obtain⟨G,R,u⟩:=WD.mp u;refine wpAny_pyNext_dict_item (by rw[p];exact hit) l (k:=G.1) (v:=G.2) (by rw[R]) fun D h' T H hs=>?_;have mv:Mv (Iw I (.dict n ep)) s {s with heap:=h'}:=⟨fun b o n e=>hs.extBut b o (fun q=>n q) e,rfl,rfl,rfl⟩;obtain⟨o,U,c,d⟩:=id H;refine eF (s:={s with heap:=h'}) U c d (by decide+kernel) ?_;refine L k [] y D _ rfl mv ⟨⟨cc,w,p.trans (YH i k).symm▸H⟩,nown,base⟩ (by rw[e2];exact Hn T u) (by rw[e2];rfl) F
theorem x9{J a:Addr}{vs:List Wm}{O:List W3}{Q:Nat}{R:Pos}{C:Prop}{G:P->List P->Nat->Prop}(T:A.handled=Wc)(rl:Rel B V Z s.heap)(nq:NoSeq s.heap (Iw I (.enum J a vs)))(it:ItAt B V s.heap I (.enum J a vs) l i k)(nown:∀b,Iw I (.enum J a vs) b->¬own V b)(base:∀b,Iw I (.enum J a vs) b->B.h₀.get? b=Wc)(U:l=[]->C)(FS:∀y r,l=y::r->∀j,G y r j)
  (W:KA B I s (.enum J a vs) k C N) (X:KC B V I s (.enum J a vs) i k G S):KD B A I (.Tuple O Q R) N S E s:=by
 obtain⟨f,old,h0,h1,D,t,u,F,Y,w,H,z,p⟩:=it
 induction f using Wv with
 |nil=>
  have p:vs.drop i=[]:=p;have hi:vs.toArray[i]?=Wc:=by simp;simpa using p
  exact wpAny_pyNext_enum_end T z H w hi fun h' hx=>W _ h1 ⟨fun b o n e=>hx b o (fun q=>n (.inr q)) e,rfl,rfl,rfl⟩ (U h0)
 |cons y f=>
  obtain⟨v,r,e,K,hy,hr⟩:=p;obtain⟨e1,e2⟩:=lF e;refine wpAny_pyNext_enum_item z H w (x:=v) (by simpa using e1) t fun L Hf hJ ht qh M=>?_;refine wpAny_letOwnedTupleGo_enum (s:={s with heap:=L,toks:=s.toks+1}) Hf fun m OJ h=>?_;have h:YD I L m:=h;have mv:Mv (Iw I (.enum J a vs)) s {s with heap:=m,toks:=s.toks+1}:=⟨fun b o n e=>(h.2 b fun q=>n (.inl q)).trans (M b o (fun q=>n (.inl q)) (fun q=>n (.inr q)) e),rfl,rfl,rfl⟩;have hT:m.get? s.heap.objs.size=Wb {cls:=.type "tuple",data:=.seq #[.int i s.toks,v]}:=(h.2 _ (Y4 (Yo z))).trans ht;have Td:m.IsListIter J a (i+1):=by
   obtain⟨o,g,c,d⟩:=hJ;exact⟨o,(h.2 J (Ne.symm t)).trans g,c,d⟩
  have Te:m.IsList a vs.toArray:=by
   obtain⟨o,g,c,d⟩:=w;exact⟨o,(h.2 a u).trans (M a o u F g),c,d⟩
  have vy:=VR.stepQ nq mv.ky (.refl V s.heap) y K hy;exact X f.length (fi (i+1) f) (.tup [.int i,y]) (.ref s.heap.objs.size) _ h1 mv ⟨⟨f,v,rfl,rfl,(YH i f.length).trans (by rw[h1] at D;exact D),t,u,F,Y,Te,Td,OJ,VRs.stepQ nq mv.ky (.refl _ _) f (e2▸hr)⟩,nown,base⟩
   ⟨_,[.int i s.toks,v],rfl,rl.notOwn_size,⟨_,hT,rfl,_,rfl⟩,⟨_,_,rfl,rfl,⟨_,rfl⟩,v,[],rfl,K,vy,rfl⟩⟩ rfl (FS _ _ h0 _)
end
theorem wL{α β:Type}{f:P->α->St->R α}{c:Srt}{l:List P}{i k:Nat}{a:α}{tgt:W3}{RA:Heap->aG->α->β->Prop}{X:Addr->Prop}{s0:Wl}{V0:aG}{Q0:β->Wl->Prop}{E0:Wm->Wl->Prop}{N:Wl->Prop}{S:Wm->Wl->Prop}
  (x:ItS B V s.heap I c l i k) (rl:Rel B V Z s.heap) (m:A.handled=Wc) (H:∀J u vs,c=.enum J u vs->∃es n p,tgt=.Tuple es n p)
  (F:Fin B X RA V0 s0 (ar f c l i k a Z) Q0 E0)
  (z:∀s1,k=0->Mv (Iw I c) s s1->Fin B X RA V0 s0 (.ok a Z) Q0 E0->N s1)
  (C:∀j h y v s1,k=j+1->Mv (Iw I c) s s1->ItS B V s1.heap I c h (i+1) j->VR B s1.heap V y v->y.isOdd=We->Fin B X RA V0 s0 ((f y a Z).bind fun a Z=>ar f c h (i+1) j a Z) Q0 E0->S v s1):
  Ws (Wt B.prog B.w) A (afa (.ref I)) (fun r s1=>match r with|none=>N s1|some v=>Ws (Wt B.prog B.w) A (YT tgt (.ref I) v) (fun _ s2=>S v s2) E s1) E s:=by
 obtain⟨it,nown,base⟩:=x;have nq:NoSeq s.heap (Iw I c):=fun b o K L=>by
  obtain⟨M,vs,g,d,_,e⟩:=it.rec b K;rw[<-Wi (L.symm.trans g)] at d;exact⟨fun xs n hd=>(by rw[hd] at d;cases d),fun O q t hd=>by rw[hd] at d;cases d;exact e q t⟩
 induction c using Mine.Srt.casesOn with
 |tup u vs=>exact AE (G:=fun y h j=>Fin B X RA V0 s0 ((f y a Z).bind fun a Z=>loopL f h a Z) Q0 E0) m nq it nown base (fun e=>by rw[e] at F;exact F) (fun y r e=>by rw[e] at F;exact F) z C
 |list u vs=>exact x7 (G:=fun y h j=>Fin B X RA V0 s0 ((f y a Z).bind fun a Z=>loopL f h a Z) Q0 E0) m nq it nown base (fun e=>by rw[e] at F;exact F) (fun y r e=>by rw[e] at F;exact F) z C
 |own n=>obtain⟨cc,D,hit⟩:=it;exact AF m nq rl D hit nown base F z C
 |dict n ep=>obtain⟨cc,D,hit⟩:=it;exact x8 m nq rl D hit nown base F z C
 |enum J u vs=>
  obtain⟨Q,T,U,e⟩:=H J u vs rfl;subst e;exact x9 (G:=fun y h j=>Fin B X RA V0 s0 ((f y a Z).bind fun a Z=>loopL f h a Z) Q0 E0) m rl nq it nown base (fun e=>by rw[e] at F;exact F) (fun y r e _=>by rw[e] at F;exact F) z C
end
section
variable{B:ao}{r:dN}{c:Cx}{m:VE}{Z:St}{A:WN}{s:Wl}{V:aG}{env:Env}{sc:Sc}{E:Wm->Wl->Prop}{I:Addr}
theorem Fin.bind0{α β γ δ:Type}{X:Addr->Prop}{RA:Heap->aG->α->β->Prop}{RC:Heap->aG->γ->δ->Prop}{V0:aG}{s0:Wl}{x:R α}{f:α->St->R γ}{Q:δ->Wl->Prop}{Q':β->Wl->Prop}
  (F:Fin B X RC V0 s0 (x.bind f) Q E) (st:Stp X V0 s0 V s)
  (k:∀a Z1 V1 s1 v,Stp X V s V1 s1->Rel B V1 Z1 s1.heap->RA s1.heap V1 a v->Fin B X RC V0 s0 (f a Z1) Q E->Q' v s1):Fin B X RA V s x Q' E:=by
 induction x using Mine.R.casesOn with
 |ok a b=>exact fun V' s' v c rl d=>k a b V' s' v c rl d F
 |exc C e g b=>exact Fin.shift (RA:=RA) st (show Fin B X RA V0 s0 (.exc C e g b) Q' E from F)
 |no=>exact F
theorem rk{Q:Wm->Wl->Prop}{t:P}{v:Wm}(a:At B A c sc m env V Z s.heap)(hv:VR B s.heap V t v)(hs:c8 Z t=Wd)
  (h:∀I u l k ob,s.heap.get? I=Wc->ItS B V (s.heap.push ob) I u l 0 k->(∀J y vs,u≠ .enum J y vs)->
   (∀{α:Type}(f:P->α->St->R α)(a:α)(i:St),(∀n o,ai Z n=Wb o->ai i n=Wb o)->loop f t a i=ar f u l 0 k a i)->Q (.ref I) {s with heap:=s.heap.push ob}):
  Ws (Wt B.prog B.w) A (aeJ v) Q E s:=by
 have j:=aC s.heap;have nown:=a.rel.notOwn_size;have nb:B.h₀.get? s.heap.objs.size=Wc:=a.rel.nb j;have push:∀ (ob:Obj) b o,s.heap.get? b=Wb o->(s.heap.push ob).get? b=Wb o:=fun ob _ _ e=>Wr _ e
 induction t using Mine.P.casesOn with
 |tup l=>
  obtain⟨ad,vs,rfl,p,ht,bI⟩:=hv;refine wpAny_pyIter_tuple ht (h _ (.tup ad vs) l l.length _ j ⟨⟨rfl,by rw[bI.length];exact XW _,(fun q=>by obtain⟨o,g,_⟩:=ht;rw[q,j] at g;exact aH g),p,nH (Keep.of_grow (N:=own V) (push _)) p ht,⟨_,WW _ rfl,rfl,rfl⟩,VRs.step (.of_grow (push _)) (.refl _ _) l bI⟩,fun b d=>d▸nown,fun b d=>d▸nb⟩ (fun _ _ _=>by simp) fun f a i _=>rfl)
 |list l=>
  obtain⟨ad,vs,rfl,p,ht,bI⟩:=hv;refine abz ht (h _ (.list ad vs) l l.length _ j ⟨⟨rfl,by rw[bI.length];exact XW _,(fun q=>by obtain⟨o,g,_⟩:=ht;rw[q,j] at g;exact aH g),p,i4 (Keep.of_grow (N:=own V) (push _)) p ht,⟨_,WW _ rfl,rfl,rfl⟩,VRs.step (.of_grow (push _)) (.refl _ _) l bI⟩,fun b d=>d▸nown,fun b d=>d▸nb⟩ (fun _ _ _=>by simp) fun f a i _=>rfl)
 |ref n=>
  rcases IL hs with⟨l,r⟩|⟨es,ep,r,hs⟩
  ·obtain⟨cc,e1,rfl,_,vs,k,g,q⟩:=a.rel.ref hv r nofun
   refine abz (items:=vs.toArray) ⟨_,g,rfl,_,rfl⟩ (h _ (.own n) [] l.length _ j ⟨⟨cc,.inl e1,⟨_,WW _ rfl,rfl,rfl⟩⟩,fun b d=>d▸nown,fun b d=>d▸nb⟩ (fun _ _ _=>by simp) fun f a i x=>?_);show(match ai i n with|some (.list l)=>loopN f n l.length 0 a i|some (.dict es ep)=>cond (aW es&&aq es.length) (loopD f n ep es.length 0 a i) .no|_=>.no)=_;rw[x n _ r];rfl
  ·obtain⟨cc,e1,rfl,_,H,k,g,er,z⟩:=a.rel.ref hv r nofun
   subst z;obtain⟨C,D,F⟩:=er.dictAt g (aa hs);have G:C.length=es.length:=by have:=congrArg Y0 F;simpa using this
   refine wpAny_pyIter_dict (eE a.rel e1) D ?_;rw[G];refine h _ (.dict n k) [] es.length _ j ⟨⟨cc,.inl e1,⟨_,WW _ rfl,rfl,by simp⟩⟩,fun b d=>d▸nown,fun b d=>d▸nb⟩ (fun _ _ _=>by simp) fun f a i x=>?_;show(match ai i n with|some (.list l)=>loopN f n l.length 0 a i|some (.dict es ep)=>cond (aW es&&aq es.length) (loopD f n ep es.length 0 a i) .no|_=>.no)=_;rw[x n _ r];show cond (aW es&&aq es.length) _ _=_;rw[hs];rfl
 |_=>exact dg hs
theorem vg(e:IE)(env:Env)(x:Wm):adO (aV e) env x=pure x:=by cases e<;>rfl
theorem AH{d:Srt}{t:IT}{b:List IS}{w:P}{m:VE}{β:Type}{X:Addr->Prop}{RA:Heap->aG->(Fl×VE)->β->Prop}{V0:aG}{s0:Wl}{Q:β->Wl->Prop}:∀{k i:Nat}{l:List P}{Z:St},
  Fin B X RA V0 s0 (ar (turn r c t b) d l i k (.ret w,m) Z) Q E->Fin B X RA V0 s0 (.ok (.ret w,m) Z) Q E:=by
 have pure:∀(l:List P)(Z:St),loopL (turn r c t b) l (.ret w,m) Z=.ok (.ret w,m) Z:=by
  intro l
  induction l with
  |nil=>exact fun _=>rfl
  |cons y l a=>exact fun Z=>a Z
 induction d using Mine.Srt.casesOn with
 |tup _ _=>intro k i l Z F;rw[show ar (turn r c t b) (.tup _ _) l i k (.ret w,m) Z=_ from pure l Z] at F;exact F
 |list _ _=>intro k i l Z F;rw[show ar (turn r c t b) (.list _ _) l i k (.ret w,m) Z=_ from pure l Z] at F;exact F
 |enum _ _ _=>intro k i l Z F;rw[show ar (turn r c t b) (.enum _ _ _) l i k (.ret w,m) Z=_ from pure l Z] at F;exact F
 |own n=>
  intro k
  induction k with
  |zero=>
   intro i l Z F;replace F:Fin B X RA V0 s0 (match ai Z n with|some (.list l)=>cond (Wf l.length i) (.ok (.ret w,m) Z) .no|_=>.no) Q E:=F;exact Fin.l F fun f _ F=>F.y fun _ F=>F
  |succ k a=>
   intro i l Z F;replace F:Fin B X RA V0 s0 (match ai Z n with
    |some (.list l)=>cond (Wf l.length (i+(k+1))) (match ai l i with
     |some v=>loopN (turn r c t b) n k (i+1) (.ret w,m) Z
     |none=>.no) .no
    |_=>.no) Q E:=F
   refine Fin.l F fun f _ F=>F.y fun _ F=>?_
   revert F
   induction ai f i using Wo with
   |none=>exact lz
   |some v=>exact fun F=>a (l:=l) F
 |dict n ep=>
  intro k
  induction k with
  |zero=>
   intro i l Z F;replace F:Fin B X RA V0 s0 (match ai Z n with|some (.dict es e)=>cond (Wf e ep&&aW es&&Wf es.length i) (.ok (.ret w,m) Z) .no|_=>.no) Q E:=F;exact Fin.dc F fun es e _ F=>F.y fun _ F=>F
  |succ k a=>
   intro i l Z F;replace F:Fin B X RA V0 s0 (match ai Z n with
    |some (.dict es e)=>cond (Wf e ep&&aW es&&Wf es.length (i+(k+1))) (match ai (keys es) i with
     |some v=>loopD (turn r c t b) n ep k (i+1) (.ret w,m) Z
     |none=>.no) .no
    |_=>.no) Q E:=F
   refine Fin.dc F fun es e _ F=>F.y fun _ F=>?_
   revert F
   induction ai (keys es) i using Wo with
   |none=>exact lz
   |some v=>exact fun F=>a (l:=l) F
end
section
variable{B:ao}{r:dN}{c:Cx}{m:VE}{Z:St}{A:WN}{s:Wl}{V:aG}{env:Env}{sc:Sc}{E:Wm->Wl->Prop}{I:Addr}
noncomputable abbrev DK(B:ao)(A:WN)(env:Env)(E:Wm->Wl->Prop):Wm->Wl->Prop:=fun e s'=>ace (Wt B.prog B.w) A env E e s'
noncomputable abbrev KJ(B:ao)(A:WN)(env:Env)(E:Wm->Wl->Prop):Wm->Wl->Prop:=ae8 (Wt B.prog B.w) A env (DK B A env E)
theorem Amb.fram(a:Amb B A c env V s.heap):uV B A env V s.heap:=⟨a.fr⟩
theorem Fin.noted{α β:Type}{X:Addr->Prop}{RA:Heap->aG->α->β->Prop}{res:R α}{Q:β->Wl->Prop}(a:Amb B A c env V s.heap)(d:∀b o,B.h₀.get? b=Wb o->s.heap.get? b=Wb o)(F:Fin B X RA V s res Q E):Fin B X RA V s res Q (KJ B A env E):=by
 induction res using Mine.R.casesOn with
 |ok a f=>exact F
 |exc C l m f=>exact fun V' s' e st rl g=>DA (a.stepX st).fram st rl d g fun h i j k=>F V' h e i j k
 |no=>exact F
inductive OL(B:ao)(r:dN)(A:WN)(c:Cx)(env:Env)(sc:Sc)(t:IT)(b:List IS)(I:Addr)(V0:aG)(s0:Wl)(Q:Flow->Wl->Prop)(E:Wm->Wl->Prop)(n:Nat)(s:Wl):Prop
 |mk (V:aG) (Z:St) (d:Srt) (l:List P) (i k:Nat) (m:VE) (g:n=k+1) (st:Stp (dK env) V0 s0 V s) (a:At B A c sc m env V Z s.heap) (h:(m.any fun e=>e.2.isOdd)=We) (it:ItS B V s.heap I d l i k) (j:∀b,Iw I d b->s0.heap.get? b=Wc)
  (o:∀J f vs,d=.enum J f vs->∃xs k p,t=.tup xs k p) (F:Fin B (dK env) (RX B env) V0 s0 (ar (turn r c t b) d l i k (.next,m) Z) Q E)
theorem At.mv{Y:Addr->Prop}{s1:Wl}(v:Mv Y s s1)(a:At B A c sc m env V Z s.heap)(d:(m.any fun e=>e.2.isOdd)=We)(hf:∀b,Y b->∃o vs,s.heap.get? b=Wb o/\o.data=.fields vs/\(∃T,o.cls=.type T)/\∀q t,vs[1]?≠Wb (.str q t))(f:∀b,Y b->¬own V b)(g:∀b,Y b->B.h₀.get? b=Wc):At B A c sc m env V Z s1.heap:=
 ⟨a.scr,v.rel a.rel hf f g,v.envr hf d a.envr,v.amb hf a.amb⟩
theorem s6{t:IT}{b:List IS}{V0:aG}{s0:Wl}{Q:Flow->Wl->Prop}{n:Nat}(SX:gz B r)(P:A.handled=Wc)(hw:jB sc (.to t)=Wd)(Tf:ew sc b=Wd)(Ew:∀b o,B.h₀.get? b=Wb o->s0.heap.get? b=Wb o)
  (h:OL B r A c env sc t b I V0 s0 Q E n s):Yu (Wt B.prog B.w) A (.forLoop (Bw t) (.ref I) (gQ b) [] env) (fun r s'=>match r with|.ok f=>Q f s'|.error e=>DK B A env E e s') s:=by
 refine codeAny_forLoop_any (OL B r A c env sc t b I V0 s0 Q E) (fun n s D=>?_) n h;clear Ew;obtain⟨V,Z,c9,l,i,k,m,rfl,st,a,G,it,H,R,F⟩:=D;have K:=it.it.rec;refine wL (tgt:=Bw t) it a.rel P (fun J ax vs e=>?_) F (fun s1 S mv g=>?_) (fun L l' y v s1 S mv KL T ho g=>?_)
 ·obtain⟨xs,k,p,rfl⟩:=R J ax vs e;exact⟨_,_,_,rfl⟩
 ·have u:=a.mv mv G K it.nown it.base;exact YU (g V s1 .next (mv.stp st H) u.rel ⟨rfl,u.envr⟩)
 ·have u:=a.mv mv G K it.nown it.base;clear G it F K ho;subst S;have e1:turn r c t b y (.next,m) Z=(match aD t y m with
   |some m=>(r.ex c b m Z).bind fun a Z=>match a with
    |(.ret w,m)=>.ok (.ret w,m) Z
    |(.next,m)=>cond (m.any fun e=>e.2.isOdd) .no (.ok (.next,m) Z)
   |none=>.no):=rfl
  rw[e1] at g;clear l e1 a
  induction z:aD t y m using Wo with
  |none=>rw[z] at g;exact g.elim
  |some m1=>
   rw[z] at g;dsimp only at g;rw[aT] at g;refine kM hw u P T z fun s2 U j=>?_;have M:=U.mono fun _ q=>q.of;have N:=(mv.stp st H).trans M;have F2:=Fin.bind0 (RA:=RX B env) (V:=V) (s:=s2) (Q':=fun f d=>match f with
      |.next|.cont=>∃m,m<L+1+1/\OL B r A c env sc t b I V0 s0 Q E m d
      |.brk=>Q .next d
      |.ret v=>Q (.ret v) d) g N fun fm Z3 W s3 f C X Y x=>?_
   ·exact SX c b m1 Z A s2 V env sc _ _ Tf j (F2.noted j.amb j.rel.base)
   ·obtain⟨fl,m3⟩:=fm;clear mv T g z U
    induction fl using Mine.Fl.casesOn with
    |ret w=>
     clear u j M;obtain⟨v,rfl,hv⟩:=Y;exact(AH x) W s3 (.ret v) (N.trans C) X ⟨v,rfl,hv⟩
    |next=>
     clear v;obtain⟨rfl,Ms⟩:=Y;dsimp only at x
     induction O:m3.any fun e=>e.2.isOdd using Wn with
     |true=>rw[O] at x;exact x.elim
     |false=>
      rw[O] at x;refine⟨L+1,XG _,⟨W,Z3,c9,l',i+1,L,m3,rfl,N.trans C,⟨j.scr,X,Ms,j.amb.stepX C⟩,O,?_,H,R,x⟩⟩;exact(KL.step M u.envr.own).step C j.envr.own
end
noncomputable def EY(B:ao)(T:Bo)(r:dN)(x:IS):Prop:=∀(c:Cx)(m:VE)(Z:St)(A:WN)(s:Wl)(V:aG)(env:Env)(sc:Sc)(Q:Flow->Wl->Prop)(E:Wm->Wl->Prop),
 wD sc x=Wd->At B A c sc m env V Z s.heap->Fin B (dK env) (RX B env) V s (ba T r c x m Z) Q E->Ws (Wt B.prog B.w) A (exec (i0 x) env) Q E s
section
variable{B:ao}{r:dN}{c:Cx}{m:VE}{Z:St}{A:WN}{s:Wl}{V:aG}{env:Env}{sc:Sc}{Q:Flow->Wl->Prop}{E:Wm->Wl->Prop}{I:Addr}
theorem AI(h:∀x,EY B B.T r x):∀(ss:List IS){m:VE}{Z:St}{s:Wl}{V:aG},ew sc ss=Wd->At B A c sc m env V Z s.heap->Fin B (dK env) (RX B env) V s (dB B.T r c ss m Z) Q E->Ws (Wt B.prog B.w) A (aeB (gQ ss) env) Q E s:=by
 intro i
 induction i with
 |nil=>
  intro m Z s V b a F;exact YU (F V s .next (.refl _ _ _) a.rel ⟨rfl,a.envr⟩)
 |cons x ss j=>
  intro m Z s V b a F;have b:(wD sc x&&ew sc ss)=Wd:=b;rw[y5] at F;refine Wh (h x c m Z A s V env sc _ _ (aa b) a (F.bind fun k Z1 V1 s1 f l d e g=>?_));obtain⟨fl,m1⟩:=k
  induction fl using Mine.Fl.casesOn with
  |ret p=>
   obtain⟨v,rfl,hv⟩:=e;exact Wq (Fin.ok g (.refl _ _ _) d ⟨v,rfl,hv⟩)
  |next=>
   obtain⟨rfl,n⟩:=e;exact j (ay b) ⟨a.scr,d,n,a.amb.stepX l⟩ g
theorem jd(e:EnvR B V s.heap m env):interactive env=We:=by unfold interactive;rw[e.kind];rfl
theorem vh(e:IE)(h:(!e.isComp)=Wd)(t:Option W3)(n:Nat)(env:Env):aa8 (aV e) t n env=pure We:=by
 cases e<;>first|rfl|exact dg h
theorem DL{e:IE}{p:Nat}(S:SimE B r)(b:wD sc (.expr e p)=Wd)(a:At B A c sc m env V Z s.heap)(F:Fin B (dK env) (RX B env) V s (ba B.T r c (.expr e p) m Z) Q E):Ws (Wt B.prog B.w) A (exec (i0 (.expr e p)) env) Q E s:=by
 have b:(bj sc e&&!e.isComp)=Wd:=b;show Ws _ _ (exec (.Expr (aV e) (ag p)) env) _ _ _;rw[exec_Expr env _ _ (jd a.envr) (vh e (ay b) _ _ _)];refine Wh (W7 (Wh (S.use (aa b) a F fun q Z1 V1 s1 v st d hv f=>?_)));exact aen (Fin.ok f (.refl _ _ _) d.rel ⟨rfl,d.envr⟩)
theorem DM{p:Nat}(a:At B A c sc m env V Z s.heap)(F:Fin B (dK env) (RX B env) V s (ba B.T r c (.pass p) m Z) Q E):Ws (Wt B.prog B.w) A (exec (i0 (.pass p)) env) Q E s:=
 wpAny_Pass (Fin.ok F (.refl _ _ _) a.rel ⟨rfl,a.envr⟩)
theorem Ho{t:IE}{b o:List IS}{p:Nat}(ST:SimT B r)(e:gz B r)(d:wD sc (.ifs t b o p)=Wd)(a:At B A c sc m env V Z s.heap)(F:Fin B (dK env) (RX B env) V s (ba B.T r c (.ifs t b o p) m Z) Q E):Ws (Wt B.prog B.w) A (exec (i0 (.ifs t b o p)) env) Q E s:=by
 have d:((bj sc t&&ew sc b) &&ew sc o)=Wd:=d;refine wpAny_If (ST.use (aa (aa d)) a F fun z Z1 V1 s1 st f g=>?_)
 induction z using Wn with
 |true=>exact e _ _ _ _ _ _ _ _ _ _ _ (ay (aa d)) f g
 |false=>exact e _ _ _ _ _ _ _ _ _ _ _ (ay d) f g
theorem Rel.kill{h:Heap}(R:Rel B V Z h){n:Nat}{c:Addr×Addr}{l:List P}(e:ai V n=Wb (Wb c))(e2:ai Z n=Wb (.list l)):
  Rel B (ak V n Wc) (ak Z n .dead) h/\Le V h (ak V n Wc)/\VR B h (ak V n Wc) (.list l) (.ref c.1):=by
 have r:n<V.length:=by rw[aK] at e;exact(Xn.mp e).1
 have self:ai (ak V n Wc) n=Wb Wc:=by rw[aK,cw,YO r]
 have a:∀j,n≠j->ai (ak V n Wc) j=ai V j:=fun j f=>by rw[aK,aK,cw,YZ f]
 have u:ai (ak Z n .dead) n=Wb .dead:=by rw[aK,cw,YO (R.len▸r)]
 have v:∀j,n≠j->ai (ak Z n .dead) j=ai Z j:=fun j f=>by rw[aK,aK,cw,YZ f]
 have o:∀b,own (ak V n Wc) b->own V b:=by
  rintro b ⟨j,d,m,z⟩;by_cases f:n=j
  ·subst f;rw[self] at m;cases m
  ·rw[a j f] at m;exact⟨j,d,m,z⟩
 have le:Le V h (ak V n Wc):=by
  refine⟨fun j x m=>?_,fun j m=>?_,fun b q=>.inl (o b q)⟩
  ·by_cases f:n=j
   ·subst f;exact .inr self
   ·rw[a j f];exact .inl m
  ·by_cases f:n=j
   ·subst f;exact self
   ·rw[a j f];exact m
 have s:Keep (own V) h h:=Keep.of_grow fun _ _ e=>e;obtain⟨E,vs,k,g,bI⟩:=R.obj e e2;refine⟨⟨R.base,fun j=>?_,fun i j y A p m C=>?_,fun b q=>R.new b (o b q),by rw[cw,cw,aaR,aaR];exact R.len,fun b q=>R.low b (o b q)⟩,le,?_⟩
 ·by_cases f:n=j
  ·subst f;rw[self,u]
  ·rw[a j f,v j f];have w:=R.objs j
   revert w
   induction e1:ai V j using Wo with
   |none=>induction ai Z j<;>exact id
   |some x=>induction x using Wo with
    |none=>induction ai Z j<;>exact id
    |some d=>induction e3:ai Z j using Wo with
     |none=>exact id
     |some F=>exact fun w=>OR.step s le rfl rfl w
 ·have D:n≠i:=fun q=>by subst q;rw[self] at p;cases p
  rw[a i D] at p;rw[a j (fun q=>by subst q;rw[self] at m;cases m)] at m;exact R.sep i j y A p m C
 ·refine CZ.mk c.1 vs rfl ?_ ⟨_,g,rfl,_,rfl⟩ (VRs.step s le l bI);rintro⟨j,d,m,z⟩;have f:n≠j:=fun q=>by subst q;rw[self] at m;cases m
  rw[a j f] at m;have t:=R.sep n j c d e m f;rcases z with z|z
  ·exact t.1 z
  ·exact t.2.1 z
theorem Hq{fz:Bool}{e:Option IE}{p:Nat}(S:SimE B r)(g:wD sc (.ret fz e p)=Wd)(a:At B A c sc m env V Z s.heap)(F:Fin B (dK env) (RX B env) V s (ba B.T r c (.ret fz e p) m Z) Q E):Ws (Wt B.prog B.w) A (exec (i0 (.ret fz e p)) env) Q E s:=by
 induction e using Wo with
 |none=>
  show Ws _ _ (exec (.Return Wc (ag p)) env) _ _ _;rw[exec_Return_none];refine Wh (W7 (Wq (Fin.ok F (.refl _ _ _) a.rel ⟨.none,rfl,rfl⟩)))
 |some e=>
  show Ws _ _ (exec (.Return (Wb (aV e)) (ag p)) env) _ _ _;rw[ad4];refine Wh (W7 (Wh (S.use g a F fun q Z1 V1 s1 v st b hv d=>Wq ?_)));unfold y4 at d;clear S g a F st
  induction fz using Wn with
  |false=>exact Fin.ok d (.refl _ _ _) b.rel ⟨v,rfl,hv⟩
  |true=>
   clear p;refine Fin.rf d fun n l e f h=>?_;clear d;subst e
   ··obtain⟨cc,e1,rfl,i⟩:=b.rel.ref hv f (by simp);clear hv i;exact Fin.ok h (V':=ak V1 n Wc) (s':=s1) ⟨fun _ _ e _=>.refl e,(b.rel.kill e1 f).2.1,fun _ o e=>⟨o,e,id⟩,rfl,rfl,rfl,fun _ _ _ e _ _=>e,fun _ m _ n=>⟨m,n⟩⟩ (b.rel.kill e1 f).1 ⟨_,rfl,(b.rel.kill e1 f).2.2⟩
end
section
variable{B:ao}{r:dN}{c:Cx}{m:VE}{Z:St}{A:WN}{s:Wl}{V:aG}{env:Env}{sc:Sc}{Q:Flow->Wl->Prop}{E:Wm->Wl->Prop}{I:Addr}
theorem ol{t:IT}{it:IE}{b:List IS}{p:Nat}(S:SimE B r)(D:gz B r)(hc:c.hd=We)(G:(m.any fun e=>e.2.isOdd)=We)(H:jB sc (.to t)=Wd)(h:bj sc it=Wd)(i:ew sc b=Wd)(a:At B A c sc m env V Z s.heap)
  (F:Fin B (dK env) (RX B env) V s ((r.ev c it m Z).bind fun v Z=>cond (c8 Z v) (loop (turn r c t b) v (.next,m) Z) .no) Q E):Ws (Wt B.prog B.w) A (exec (i0 (.for t it b p)) env) Q E s:=by
 have j:=a.amb.hd hc;refine wpAny_For (S.use h a F fun q Z1 V1 s1 v st d hv f=>?_) (vg it env);refine Fin.y f fun hs f=>?_;refine rk d hv hs fun I o l k ob u x z C=>?_;refine s6 (c:=c) (V0:=V1) (s0:=s1) (n:=k+1) D j H i d.rel.base ⟨V1,Z1,o,l,0,k,m,rfl,bV V1 s1 ob s1.toks,?_,G,x,fun b K=>?_,fun J g vs e=>absurd e (z J g vs),?_⟩
 ·exact d.step (bV V1 s1 ob s1.toks) (d.rel.push ob)
 ·have:b=I:=by
   clear h i a j st d hv hs f u x C
   induction o using Mine.Srt.casesOn with
   |enum J g vs=>exact absurd rfl (z J g vs)
   |_=>exact K
  rw[this];exact u
 ·exact(C (turn r c t b) (.next,m) Z1 fun _ _ e=>e)▸f
theorem Hr{t:IT}{it:IE}{b:List IS}:(∃x p1 a e p2,it=.call x p1 a [e] p2)\/hR r c t it b m Z=(r.ev c it m Z).bind fun v Z=>cond (c8 Z v) (loop (turn r c t b) v (.next,m) Z) .no:=by
 induction it using Mine.IE.casesOn with
 |call x p1 a as p2=>
  rcases as with _|⟨e,_|⟨e2,as⟩⟩
  ·exact .inr rfl
  ·exact .inl ⟨_,_,_,_,_,rfl⟩
  ·exact .inr rfl
 |_=>exact .inr rfl
theorem DO{t:IT}{q:P}{R1:List P->R (Fl×VE)}{C:Prop}{X:Addr->Prop}{RC:Heap->aG->Fl×VE->Flow->Prop}{V0:aG}{s0:Wl}(k:∀l xs n p,q=.list l->t=.tup xs n p->Fin B X RC V0 s0 (R1 l) Q E->C):Fin B X RC V0 s0 (match(generalizing:=false) q,t with|.list l,.tup _ _ _=>R1 l|_,_=>.no) Q E->C:=by
 induction q using Mine.P.casesOn with
 |list l=>induction t using Mine.IT.casesOn with
  |tup xs n p=>exact fun F=>k l xs n p rfl rfl F
  |name=>exact lz
 |_=>exact lz
theorem DP{t:IT}{e:IE}{b:List IS}{p p1 p2:Nat}{u:Bool}(H:aJ B)(G:n6 B)(S:SimE B r)(I:gz B r)(hc:c.hd=We)(J:(m.any fun e=>e.2.isOdd)=We)(K:jB sc (.to t)=Wd)(d:bj sc (.call bx p1 u [e] p2)=Wd)(L:ew sc b=Wd)(a:At B A c sc m env V Z s.heap)
  (F:Fin B (dK env) (RX B env) V s ((r.ev c e m Z).bind fun v Z=>match(generalizing:=false) v,t with
    |.list l,.tup _ _ _=>loopL (turn r c t b) (fi 0 l) (.next,m) Z
    |_,_=>.no) Q E):Ws (Wt B.prog B.w) A (exec (i0 (.for t (.call bx p1 u [e] p2) b p)) env) Q E s:=by
 have d:((((eP sc bx&&ng bx) &&!Wf bx dw) &&bU sc [e]) &&XQ [e].length 20)=Wd:=d;have v2:=ay (aa (aa (aa d)));refine wpAny_For ?_ (fun x=>rfl);refine ad2 rfl (dH H a (aa (aa (aa (aa d)))) v2 G.enum (fB (as:=[e]) (.inl ⟨_,rfl⟩) ?_));refine ab5 (S.use (aa (ay (aa d))) a F fun q Z1 V1 s1 v st f hv i=>acM ?_);clear F d v2;refine DO (R1:=fun l=>loopL (turn r c t b) (fi 0 l) (.next,m) Z1) (fun l xs T U M O i=>?_) i;subst M O;obtain⟨ad,vs,rfl,y,j,bI⟩:=hv;refine call_enumerate_list j fun h' z P W h=>adP z ?_;have nb:∀b,s1.heap.get? b=Wc->B.h₀.get? b=Wc:=fun b=>f.rel.nb;have R:∀b,s1.heap.get? b=Wc->¬own V1 b:=fun b=>f.rel.nown;have k:∀b,Iw (s1.heap.objs.size+1) (.enum s1.heap.objs.size ad vs) b->s1.heap.get? b=Wc:=by
  rintro b (hb|hb)
  ·rw[hb];exact(Xf (Xp _))
  ·rw[hb];exact(aC s1.heap)
 have C:ad<s1.heap.objs.size:=by obtain⟨o,g,_⟩:=j;exact Yo g
 have D:Stp no V1 s1 V1 {s1 with heap:=h'}:=.grow h;refine s6 (c:=c) (V0:=V1) (s0:=s1) (n:=l.length+1) I (a.amb.hd hc) K L f.rel.base ⟨V1,Z1,.enum s1.heap.objs.size ad vs,fi 0 l,0,l.length,m,rfl,D.any,f.step D (f.rel.grow h),J,?_,k,fun _ _ _ _=>⟨_,_,_,rfl⟩,i⟩;refine⟨⟨l,.none,rfl,rfl,by rw[bI.length];exact XW _,XZ _,XA (aax C),XA C,y,i4 (Keep.of_grow (N:=own V1) h) y j,P,z,VRs.step (.of_grow h) (.refl _ _) l bI⟩,fun b hb=>R b (k b hb),fun b hb=>nb b (k b hb)⟩
theorem Hs{t:IT}{it:IE}{b:List IS}{p:Nat}(l:aJ B)(G:n6 B)(S:SimE B r)(g:gz B r)(d:wD sc (.for t it b p)=Wd)(a:At B A c sc m env V Z s.heap)(F:Fin B (dK env) (RX B env) V s (ba B.T r c (.for t it b p) m Z) Q E):Ws (Wt B.prog B.w) A (exec (i0 (.for t it b p)) env) Q E s:=by
 have d:((jB sc (.to t) &&bj sc it) &&ew sc b)=Wd:=d;have i:=aa (aa d);have j:=ay (aa d);have k:=ay d;refine Fin.n (show Fin B (dK env) (RX B env) V s (cond (c.hd||m.any fun e=>e.2.isOdd) .no (hR r c t it b m Z)) Q E from F) fun hc F=>?_;rw[WJ] at hc;clear d;rcases Hr (r:=r) (c:=c) (t:=t) (it:=it) (b:=b) (m:=m) (Z:=Z) with⟨x,p1,o,e,p2,h⟩|h
 ·subst h
  induction f:Wf x bx using Wn with
  |false=>exact ol S g hc.1 hc.2 i j k a (by
    have F:Fin B (dK env) (RX B env) V s (cond (Wf x bx) _ _) Q E:=F;rw[f] at F;exact F)
  |true=>
   have f:=b9 f;subst f;exact DP l G S g hc.1 hc.2 i j k a F
 ·rw[h] at F;exact ol S g hc.1 hc.2 i j k a F
noncomputable def Ht(B:ao)(r:dN):Prop:=∀(c:Cx)(t:IE)(b:List IS)(m:VE)(Z:St)(A:WN)(s:Wl)(V:aG)(env:Env)(sc:Sc)(Q:Flow->Wl->Prop)(E:Wm->Wl->Prop),
 bj sc t=Wd->ew sc b=Wd->At B A c sc m env V Z s.heap->Fin B (dK env) (RX B env) V s (r.wh c t b m Z) Q E->Yu (Wt B.prog B.w) A (.whileLoop (aV t) (gQ b) [] env) (fun r s'=>match r with|.ok f=>Q f s'|.error e=>DK B A env E e s') s
theorem AJ{t:IE}{b:List IS}{p:Nat}(e:Ht B r)(d:wD sc (.while t b p)=Wd)(a:At B A c sc m env V Z s.heap)(F:Fin B (dK env) (RX B env) V s (ba B.T r c (.while t b p) m Z) Q E):Ws (Wt B.prog B.w) A (exec (i0 (.while t b p)) env) Q E s:=by
 have d:(bj sc t&&ew sc b)=Wd:=d;show Ws _ _ (exec (.While (aV t) (gQ b) [] (ag p)) env) _ _ _;rw[exec_While];exact Wh (W7 (wpAny_runOwn (e c t b m Z A s V env sc Q E (aa d) (ay d) a F)))
end
section
variable{B:ao}{r:dN}{c:Cx}{m:VE}{Z:St}{A:WN}{s:Wl}{V:aG}{env:Env}{sc:Sc}{E:Wm->Wl->Prop}
theorem vi{D:Addr}{vs:List Wm}{n j:Nat}{k:Int}{t:Tok}{v:Wm}{Q:Unit->Wl->Prop}(g:s.heap.get? D=Wb (listOf vs.toArray n))(e:tM k vs.length=Wb j)(p:j<vs.length)
  (h:∀h' n',(∀b o,s.heap.get? b=Wb o->b≠D->h'.get? b=Wb o)->h'.get? D=Wb (listOf (vs.set j v).toArray n')->Q () {s with heap:=h'}):Ws (Wt B.prog B.w) A (ac7 (.ref D) (.int k t) v) Q E s:=by
 have c:s.TypeIs (.ref D) "list" :=⟨_,g,rfl⟩;obtain⟨e1,e2,e3,f⟩:=rc e;clear e;obtain⟨l,n',m⟩:=Ap g (·.setIfInBounds j v);have a:abo k=Wd:=by
  unfold abo;simp only[W5,decide_eq_true_eq];exact⟨e2,e3⟩
 have fin:Q () {s with heap:=s.heap.update D (aeG (·.setIfInBounds j v))}:=h _ n' l (by rw[m];simp);unfold ac7;refine W6 ?_;refine Wh (adQ c (by decide) ?_);refine Wh (ab0 (name:=adK "__setitem__") c ab1
  (YL ab1 c PySem.entry_list_setitem ?_ (PySem.args_list_setitem _ _ _)))
 show Ws _ _ (aes (.int k t) >>=_) _ _ s;refine Wh (wpAny_listSubscript_int a ?_);have d:vs.toArray[j]?=Wb vs[j]:=by simp[p]
 clear c e2 e3 l m a;cases k with
 |ofNat i=>
  have r:i=j:=by
   clear t g e1 n' fin d;rcases f with⟨_,_,q⟩|⟨q,_⟩
   ·rw[q];rfl
   ·exact absurd q (by exact Int.not_lt.mpr (Yr i))
  clear e1 f n';obtain rfl:=r.symm;refine Wh (Wh (wpAny_seqItemAt g rfl (Wq ?_)));rw[d];refine Wh (adw g rfl ?_);first
   |exact Wh (Wq (Wq ⟨.none,rfl,Wq fin⟩))
   |exact Wq ⟨.none,rfl,Wq fin⟩
 |negSucc i=>
  refine Wh (Wh (adL g rfl (Wq ?_)));rw[WP,e1];simp only[ad5,d,aek];refine Wh (adw g rfl ?_);first
   |exact Wh (Wq (Wq ⟨.none,rfl,Wq fin⟩))
   |exact Wq ⟨.none,rfl,Wq fin⟩
theorem vj{d:Addr}{x:Nat}{t:Tok}{v:Wm}{es:List (Nat×P)}{c:List WY}{n:Nat}{Q:Unit->Wl->Prop}(D:s.heap.get? d=Wb (XE c n))(er:ER B s.heap V es c)(e:es.length<=10000)
  (h:∀h',(∀b o,s.heap.get? b=Wb o->b≠d->h'.get? b=Wb o)->h'.get? d=Wb (XE (putL (af x) (W4 B.w.params (af x)) (.str (af x) t) v c) (c6 n x es))->Q () {s with heap:=h',toks:=s.toks+1}):
  Ws (Wt B.prog B.w) A (ac7 (.ref d) (.str (af x) t) v) Q E s:=by
 have a:s.TypeIs (.ref d) "dict" :=⟨_,D,rfl⟩;unfold ac7;refine W6 ?_;refine Wh (adQ a (by decide) ?_);refine Wh (ab0 (name:=adK "__setitem__") a abq
  (YL abq a PySem.F.entry_dict_setitem ?_ (PySem.F.args_dict_setitem_3 _ _ _)))
 refine Wh (acs a ?_);show Ws _ _ (aby d (.str (af x) t) v>>=_) _ _ s;exact Wh (jY D er e fun h' f k2=>Wq ⟨.none,rfl,Wq (h h' f k2)⟩)
theorem VRs.set{h:Heap}{p:P}{v:Wm}(hv:VR B h V p v)(c:p.isOdd=We):∀{l:List P}{vs:List Wm}(j:Nat),VRs B h V l vs->VRs B h V (ak l j p) (vs.set j v):=by
 intro l
 induction l with
 |nil=>exact fun _ x=>x▸rfl
 |cons q l d=>
  intro vs j x;obtain⟨u,r,e,o,a,b⟩:=x;subst e
  induction j with
  |zero=>exact⟨v,r,rfl,c,hv,b⟩
  |succ j=>exact⟨u,_,rfl,o,a,d j b⟩
theorem je{n:Nat}{cc:Addr×Addr}{f:Addr}{o:O}{h':Heap}{tk:Tok}{ob:Obj}(a:At B A c sc m env V Z s.heap)(e:ai V n=Wb (Wb cc))(hb:f=cc.1\/f=cc.2)(k:∀b o,s.heap.get? b=Wb o->b≠f->h'.get? b=Wb o)(g:h'.get? f=Wb ob)(i:∀vs,ob.data≠ .fields vs)(q:OR B h' V o cc):
  Stp no V s V {s with heap:=h',toks:=tk}/\At B A c sc m env V (ak Z n o) h':=by
 have h:own V f:=⟨n,cc,e,hb⟩;have st:Stp no V s V {s with heap:=h',toks:=tk}:=by
  refine⟨fun b o d nb=>.refl (k b o d fun z=>nb (.inl (z▸h))),.refl _ _,fun b o d=>?_,rfl,rfl,rfl,fun b o _ d _ nb=>k b o d fun z=>nb (.inl (z▸h)),fun b m no n=>⟨m,ir n fun o e _=>.refl (k b o e fun z=>no (z▸h))⟩⟩;by_cases z:b=f
  ·subst z;exact⟨ob,g,fun _=>i⟩
  ·exact⟨o,k b o d z,id⟩
 refine⟨st,a.step st (a.rel.turn e (fun b o d j l=>k b o d fun z=>?_) q)⟩;rcases hb with hb|hb
 ·exact j (z.trans hb)
 ·exact l (z.trans hb)
section
variable{q p j:P}{ov v iv:Wm}{x n:Nat}{cc:Addr×Addr}{Q0:Flow->Wl->Prop}{Q:Unit->Wl->Prop}(a:At B A c sc m env V Z s.heap)(hv:VR B s.heap V p v)(h:∀s1,Q0 .next s1->Q () s1)
include a hv h
theorem ya(c:aJ B)(r:VR B s.heap V q ov)(F:Fin B (dK env) (RX B env) V s ((lh B.T q x p m Z).bind fun m Z=>.ok (.next,m) Z) Q0 E):Ws (Wt B.prog B.w) A (aep ov (af x) v) Q E s:=by
 refine Fin.bo F fun n t F=>F.bo fun C u F=>F.bn fun hc F=>?_;rw[WJ,WJ] at hc;obtain⟨⟨y,D⟩,f⟩:=hc;obtain⟨cc,e1,rfl,e2,j,g,k,G,er,d⟩:=a.rel.ref ((P.r_is t)▸r) (yR u) (by simp);have e:=er.getL x;have H:(getL (af x) g).isSome=Wd:=by
  induction z:Mine.get x C.2 using Wo with
  |none=>rw[z] at e;dsimp only at e;rw[e];rfl
  |some p=>rw[z] at e;obtain⟨_,w,I,_⟩:=e;rw[I];rfl
 have J:(putL (af x) (W4 B.w.params (af x)) (.str (af x) (s.toks+1)) v g).length<=Ys+1:=by
  have:=l4 (af x) (W4 B.w.params (af x)) (.str (af x) (s.toks+1)) v g;have K:=er.length;have L:=bg ((XY _).mp D);rw[X0];exact Wj this (W9 (qC (Wj (Xo K) L) rfl))
 refine uE (c.X.keeps a.rel.base) j G (c.fld C.1 x ((XY _).mp f) d).2.2.2.1 (c.fld C.1 x ((XY _).mp f) d).2.2.2.2.1 (c.fld C.1 x ((XY _).mp f) d).2.2.2.2.2 (c.fld C.1 x ((XY _).mp f) d).2.1 H J fun h' i k2=>?_;obtain⟨M,l⟩:=je (tk:=s.toks+2) a e1 (.inr rfl) i k2 (fun vs q=>by cases q) (o:=.inst C.1 (Mine.put x p C.2)) ⟨e2,i _ _ j (fun q=>e2 q.symm),_,_,k2,ER.step (fun b o N nb=>.refl (i b o N fun z=>nb ⟨n,cc,e1,.inr z⟩)) (.refl _ _) _ (er.put hv y),d⟩;exact h _ (Fin.ok F M.any l.rel ⟨rfl,l.envr⟩)
theorem yb{es:List (Nat×P)}{ep:Nat}(c:VR B s.heap V (.ref n) ov)(d:ai Z n=Wb (.dict es ep))(e:VR B s.heap V j iv)(F:Fin B (dK env) (RX B env) V s ((y0 n j p m Z es ep).bind fun m Z=>.ok (.next,m) Z) Q0 E):Ws (Wt B.prog B.w) A (ac7 ov iv v) Q E s:=by
 refine Fin.bo F fun x f F=>F.bn fun hc F=>?_;rw[WJ] at hc;obtain⟨cc,e1,rfl,e2,C,k,g,er,r⟩:=a.rel.ref c d (by simp);clear c d;subst r;rw[P.s_is f] at e;clear f;obtain⟨t,rfl⟩:=e;refine vj g er (bg ((XY _).mp hc.2)) fun h' i k2=>?_;clear g;obtain⟨u,l⟩:=je (tk:=s.toks+1) a e1 (.inl rfl) i k2 (fun vs q=>by cases q) (o:=.dict (Mine.put x p es) (c6 k x es)) ⟨e2,_,_,k2,ER.step (fun b o y nb=>.refl (i b o y fun z=>nb ⟨n,cc,e1,.inl z⟩)) (.refl _ _) _ (er.put hv hc.1),rfl⟩;exact h _ (Fin.ok F u.any l.rel ⟨rfl,l.envr⟩)
theorem yc{l:List P}(r:VR B s.heap V (.ref n) ov)(u:ai Z n=Wb (.list l))(x:VR B s.heap V j iv)(F:Fin B (dK env) (RX B env) V s ((y3 n j p m Z l).bind fun m Z=>.ok (.next,m) Z) Q0 E):Ws (Wt B.prog B.w) A (ac7 ov iv v) Q E s:=by
 refine Fin.bo F fun k y F=>F.bo fun d c F=>F.bn fun hc F=>?_;rw[P.i_is y] at x;clear y;obtain⟨cc,e1,rfl,e2,vs,H,g,bI⟩:=a.rel.ref r u (by simp);clear r u;obtain⟨t,rfl⟩:=x;have C:d<vs.length:=by
  clear hc F e1 e2 g t;obtain⟨_,_,_,q⟩:=rc c;rw[bI.length];clear c F cc H bI;rcases q with⟨e,f,i⟩|⟨e,f,i⟩
  ·rw[i];exact(adF e).mpr f
  ·have h0:=Int.add_le_add_right f (l.length:Int);rw[Int.add_left_neg] at h0;have h1:=Int.add_lt_add_right e (l.length:Int);rw[Int.zero_add] at h1;rw[i];exact(adF h0).mpr h1
 refine vi g (bI.length▸c) C fun h' n' D k2=>?_;clear c g t C;obtain⟨I,G⟩:=je (tk:=s.toks) a e1 (.inl rfl) D k2 (fun vs q=>by cases q) (o:=.list (ak l d p)) ⟨e2,_,_,k2,VRs.step (fun b o J nb=>.refl (D b o J fun z=>nb ⟨n,cc,e1,.inl z⟩)) (.refl _ _) _ (VRs.set hv hc d bI)⟩;exact h _ (Fin.ok F I.any G.rel ⟨rfl,G.envr⟩)
theorem AK(b:VR B s.heap V q ov)(c:VR B s.heap V j iv)(F:Fin B (dK env) (RX B env) V s ((ofO q.r? fun n=>lM n j p m Z (ai Z n)).bind fun m Z=>.ok (.next,m) Z) Q0 E):Ws (Wt B.prog B.w) A (ac7 ov iv v) Q E s:=by
 refine Fin.bo F fun n e F=>?_;rw[P.r_is e] at b;generalize d:ai Z n=o at F;rcases o with _|_|_|_|_|_
 ·exact F.elim
 ·exact yc a hv h b d c F
 ·exact yb a hv h b d c F
 ·exact F.elim
 ·exact F.elim
 ·exact F.elim
end
theorem vl{t:Bm}{p:P}{v:Wm}{Q0:Flow->Wl->Prop}{Q:Unit->Wl->Prop}(n:aJ B)(S:SimE B r)(b:jB sc t=Wd)(u:∀x,t≠ .to x)(a:At B A c sc m env V Z s.heap)(hv:VR B s.heap V p v)(F:Fin B (dK env) (RX B env) V s ((ck B.T r c t p m Z).bind fun m Z=>.ok (.next,m) Z) Q0 E)
  (h:∀s1,Q0 .next s1->Q () s1):Ws (Wt B.prog B.w) A (aay (sx t) env v) Q E s:=by
 cases t with
 |to x=>exact absurd rfl (u x)
 |attr e x y=>
  unfold ck at F;rw[aT] at F;exact Wh (W6 (S.use (show bj sc e=Wd from b) a F fun q Z1 V1 s1 ov st g l d=>Wh (W7 (Wh (W6 (ya g (hv.step st.k st.le) (fun s z=>adn (h s z)) n l d))))))
 |sub o i y=>
  have b:(bj sc o&&bj sc i)=Wd:=b;unfold ck at F;rw[aT] at F;refine Wh (W6 (S.use (aa b) a F fun q Z1 V1 s1 ov st g l d=>?_));rw[aT] at d;exact Wh (W6 (S.use (ay b) g d fun j Z2 G s2 iv f C D F2=>Wh (W7 (Wh (W6 (AK C ((hv.step st.k st.le).step f.k f.le) (fun s z=>adn (h s z)) (l.step f.k f.le) D F2))))))
end
section
variable{B:ao}{r:dN}{c:Cx}{m:VE}{Z:St}{A:WN}{s:Wl}{V:aG}{env:Env}{sc:Sc}{Q:Flow->Wl->Prop}{E:Wm->Wl->Prop}
theorem jZ{t:W3}{e:IE}{pos:Pos}(h1:aa8 (aV e) (Wb t) pos.line env=pure We):exec (.Assign [t] (aV e) pos) env=(do
  Y5 pos
  let v <-eval (aV e) env
  aaz env v (<-aac [t] (aV e) env) ((abn [t] env).map (·.2))):=by
 rw[arm_exec_Assign];show(do Y5 pos;if <-aa8 (aV e) (Wb t) pos.line env then _ else _)=_;rw[h1];rfl
theorem ou(e:IE)(t:Bm)(a:∀x,t≠ .to x)(n:Nat)(env:Env):aa8 (aV e) (Wb (sx t)) n env=pure We:=by
 cases t with
 |to x=>exact absurd rfl (a x)
 |attr=>cases e<;>rfl
 |sub=>cases e<;>rfl
theorem vm(e:IE)(es:List W3)(k:Nat)(p:Pos)(n:Nat)(env:Env):aa8 (aV e) (Wb (.Tuple es k p)) n env=pure We:=by cases e<;>rfl
theorem kO(e:IE)(t:Bm)(a:∀x,t≠ .to x)(env:Env):aac [sx t] (aV e) env=pure Wc:=by
 cases t with
 |to x=>exact absurd rfl (a x)
 |attr=>rfl
 |sub=>rfl
theorem oy{t:Bm}{e:IE}{p:Nat}(f:aJ B)(S:SimE B r)(b:wD sc (.asg t e p)=Wd)(d:∀x,t≠ .to x)(a:At B A c sc m env V Z s.heap)(F:Fin B (dK env) (RX B env) V s (ba B.T r c (.asg t e p) m Z) Q E):Ws (Wt B.prog B.w) A (exec (i0 (.asg t e p)) env) Q E s:=by
 have b:((jB sc t&&bj sc e) &&Iq t e)=Wd:=b;show Ws _ _ (exec (.Assign [sx t] (aV e) (ag p)) env) _ _ _;rw[jZ (ou e t d _ _),kO e t d];refine Wh (W7 (Wh (S.use (ay (aa b)) a F fun q Z1 V1 s1 v st g hv h=>Wh (Wq ?_))));have i:(abn [sx t] env).map (·.2)=[aay (sx t) env]:=by
  clear f S a F b st g hv h;clear b q Z1 V1 s1 v;cases t with
  |to x=>exact absurd rfl (d x)
  |attr=>rfl
  |sub=>rfl
 rw[i];unfold aaz;exact Wh (vl f S (aa (aa b)) d g hv h fun s2 j=>Wq j)
theorem EnvR.same{h:Heap}{m b:VE}(e:EnvR B V h m env)(a:∀x,get x b=get x m):EnvR B V h b env:=by
 refine⟨e.kind,e.glob,e.bui,e.locN,e.locB,?_,fun y c=>?_,e.inj,fun hc x p g=>e.clo hc x p (by rw[<-a];exact g)⟩
 ·obtain⟨d,n,q⟩:=e.loc;exact⟨d,n,fun x p f g=>q x p f (by rw[<-a];exact g)⟩
 ·obtain⟨cc,i,lk,n,j,k,q⟩:=e.cel y c;exact⟨cc,i,lk,n,j,k,fun p g=>q p (by rw[<-a];exact g)⟩
theorem Hu{x:Nat}:∀{xs:List (Nat×Nat)}{l:List P}{m:VE},x∉xs.map (·.1)->get x (aD.go xs l m)=get x m:=by
 intro xs
 induction xs with
 |nil=>intro l m _;induction l<;>rfl
 |cons e xs a=>
  intro l m h
  induction l using Wv with
  |nil=>rfl
  |cons q l=>
   show get x (aD.go xs l (put e.1 q m))=_;rw[a fun z=>h (.tail _ z),be q (fun z=>h (Ww.mpr (.inl z)))]
end
section
variable{B:ao}{r:dN}{c:Cx}{m:VE}{Z:St}{A:WN}{s:Wl}{V:aG}{env:Env}{sc:Sc}{Q:Flow->Wl->Prop}{E:Wm->Wl->Prop}
theorem ff{e:IE}(h:Ip e=Wd)(a:bj sc e=Wd)(n:Nat):Xv n (aV e)=We:=by
 induction e using Mine.IE.casesOn with
 |name x p=>
  induction n<;>exact fc (ay a)
 |glob x p=>
  induction n<;>exact fc (ay a)
 |attr=>induction n<;>rfl
 |list=>induction n<;>rfl
 |dict=>induction n<;>rfl
 |call=>induction n<;>rfl
 |meth=>induction n<;>rfl
 |comp=>induction n<;>rfl
 |dcomp=>induction n<;>rfl
 |ite=>induction n<;>rfl
 |cmp=>induction n<;>rfl
 |callv=>induction n<;>rfl
 |lam=>induction n<;>rfl
 |bop=>induction n<;>rfl
 |_=>exact dg h
theorem qt{n:Nat}:∀{es:List IE},es.any Ip=Wd->bU sc es=Wd->(bw es).all (Xv n)=We
 |e::es,h,a=>by
  have a:(bj sc e&&bU sc es)=Wd:=a;rw[Yf,XX] at h;show(Xv n (aV e) && (bw es).all (Xv n))=We;rcases h with h|h
  ·rw[ff h (aa a)];rfl
  ·rw[qt h (ay a),aat]
theorem yd{e:IE}(h:Ot e=Wd)(a:bj sc e=Wd):Xv 7 (aV e)=We:=by
 induction e using Mine.IE.casesOn with
 |tup es k p=>
  exact qt h (aa a)
 |name x p=>exact ff (e:=.name x p) h a 7
 |glob x p=>exact ff (e:=.glob x p) h a 7
 |attr=>rfl
 |list=>rfl
 |dict=>rfl
 |call=>rfl
 |meth=>rfl
 |comp=>rfl
 |dcomp=>rfl
 |ite=>rfl
 |cmp=>rfl
 |callv=>rfl
 |lam=>rfl
 |bop=>rfl
 |_=>exact dg h
theorem oz:∀{es:List IE},es.any Ot=Wd->bU sc es=Wd->(bw es).all (Xv 7)=We
 |e::es,h,a=>by
  have a:(bj sc e&&bU sc es)=Wd:=a;rw[Yf,XX] at h;show(Xv 7 (aV e) && (bw es).all (Xv 7))=We;rcases h with h|h
  ·rw[yd h (aa a)];rfl
  ·rw[oz h (ay a),aat]
theorem AL{e:IE}(h:nc e=Wd)(a:bj sc e=Wd):Xv 8 (aV e)=We:=by
 induction e using Mine.IE.casesOn with
 |sub o i p=>
  show(Xv 7 (aV o) &&Xv 7 (aV i))=We;rw[ff h (aa a)];rfl
 |tup es k p=>
  exact oz h (aa a)
 |name x p=>exact ff (e:=.name x p) h a 8
 |glob x p=>exact ff (e:=.glob x p) h a 8
 |attr=>rfl
 |list=>rfl
 |dict=>rfl
 |call=>rfl
 |meth=>rfl
 |comp=>rfl
 |dcomp=>rfl
 |ite=>rfl
 |cmp=>rfl
 |callv=>rfl
 |lam=>rfl
 |bop=>rfl
 |_=>exact dg h
theorem qu:∀{es:List IE},es.any nc=Wd->bU sc es=Wd->(bw es).all (Xv 8)=We
 |e::es,h,a=>by
  have a:(bj sc e&&bU sc es)=Wd:=a;rw[Yf,XX] at h;show(Xv 8 (aV e) && (bw es).all (Xv 8))=We;rcases h with h|h
  ·rw[AL h (aa a)];rfl
  ·rw[qu h (ay a),aat]
theorem AM{e:IE}(h:Mq e=Wd):YI 7 (aV e)=Wd:=by
 cases e with
 |none=>rfl
 |bool=>rfl
 |int=>rfl
 |str=>rfl
 |tup es k p=>cases es with|nil=>rfl|cons _ _=>exact dg h
 |_=>exact dg h
theorem DR:∀{es:List IE},es.all Mq=Wd->(bw es).all (YI 7)=Wd:=by
 intro a
 induction a with
 |nil=>
  intro _;exact rfl
 |cons e es b=>
  intro h;rw[aaJ] at h;show(YI 7 (aV e) && (bw es).all (YI 7))=Wd;rw[AM (aa h),b (ay h)];rfl
theorem AN{e:IE}(h:Mr e=Wd):YI 8 (aV e)=Wd:=by
 cases e with
 |none=>rfl
 |bool=>rfl
 |int=>rfl
 |str=>rfl
 |tup es k p=>exact DR (es:=es) h
 |_=>exact dg h
theorem DT:∀{es:List IE},es.all Mr=Wd->(bw es).all (YI 8)=Wd:=by
 intro a
 induction a with
 |nil=>
  intro _;exact rfl
 |cons e es b=>
  intro h;rw[aaJ] at h;show(YI 8 (aV e) && (bw es).all (YI 8))=Wd;rw[AN (aa h),b (ay h)];rfl
theorem rq{F:W3->Option Str}{c:Str->Pos->Bool}(a:∀id pos,F (.Name id pos)=if c id pos then Wb id else Wc){xs:List (Nat×Nat)}:((cp xs).filterMap F).length=(cp xs).length->((cp xs).filterMap F)=xs.map fun e=>af e.1:=by
 induction xs with
 |nil=>exact fun _=>rfl
 |cons e xs b=>
  intro h;rw[show cp (e::xs)=.Name (af e.1) (ag e.2)::cp xs from rfl,X5,a] at h ⊢;by_cases hc:c (af e.1) (ag e.2)=Wd
  ·rw[if_pos hc] at h ⊢;exact congrArg (af e.1:: ·) (b (aav h))
  ·rw[if_neg hc] at h;exact absurd ((show _=(cp xs).length+1 from h)▸List.length_filterMap_le F (cp xs)) (Nat.not_succ_le_self _)
theorem jf{α:Type}{c:Prop}[Decidable c]{a b:α}{R:α->Prop}(h1:c->R a)(d:¬c->R b):R (if c then a else b):=by
 by_cases h:c
 ·rw[if_pos h];exact h1 h
 ·rw[if_neg h];exact d h
noncomputable def Iz(xs:List (Nat×Nat))(z:Sem (Option (List Str))):Prop:=z=pure Wc\/(z=pure (Wb (xs.map fun e=>af e.1))/\(xs.length=2\/xs.length=3))
theorem KP{a b c d:Nat}(h:¬ (a !=b||c !=d)=Wd):a=b:=bne_eq_false_iff_eq.mp (WJ.mp (eq_false_of_ne_true h)).1
theorem Hv{n:Nat}{b c:Bool}(h:¬ (!(n==2||n==3) ||b||c)=Wd):n=2\/n=3:=
 (XR.mp ((XY _).mp (WJ.mp (WJ.mp (eq_false_of_ne_true h)).1).1)).imp beq_iff_eq.mp beq_iff_eq.mp
theorem s7{xs:List (Nat×Nat)}{k:Nat}{pos p2:Pos}{es:List IE}{k2:Nat}(a:bU sc es=Wd)(h:(es.any nc||es.all Mr)=Wd):Iz xs (aac [.Tuple (cp xs) k pos] (.Tuple (bw es) k2 p2) env):=by
 refine jf (R:=Iz xs) (fun _=>.inl rfl) fun h1=>jf (R:=Iz xs) (fun _=>.inl rfl) fun _=>jf (R:=Iz xs) (fun _=>.inl rfl) fun b=>jf (R:=Iz xs) (fun _=>.inl rfl) fun c=>jf (R:=Iz xs) (fun d=>?_) fun _=>.inr ?_
 ·rcases XR.mp h with q|q
  ·rw[qu q a] at d;exact dg d
  ·exact absurd (DT q) c
 clear c h a;refine⟨congrArg (fun z:List Str=>(pure (Wb z):Sem (Option (List Str)))) (rq (fun _ _=>rfl) (KP b)),?_⟩;clear b;have e:(cp xs).length=xs.length:=by unfold cp;simp
 rw[<-e];exact Hv h1
theorem kP{a b:Nat}(d:a≠b)(p q:P)(m:VE)(x:Nat):get x (put a p (put b q m))=get x (put b q (put a p m)):=by
 by_cases h1:x=a
 ·subst h1;rw[bK,be q d,bK]
 ·by_cases c:x=b
  ·subst c;rw[be p h1,bK,bK]
  ·rw[be p h1,be q c,be q c,be p h1]
theorem s8{a:Nat}{p:P}{m b:VE}(h:∀x,get x m=get x b)(x:Nat):get x (put a p m)=get x (put a p b):=by
 by_cases h1:x=a
 ·subst h1;rw[bK,bK]
 ·rw[be p h1,be p h1,h]
theorem AO{Q:Unit->Wl->Prop}:∀(xs:List Nat){l:List P}{vs:List Wm}{m:VE}{s:Wl},(xs.all fun e=>gK sc e)=Wd->At B A c sc m env V Z s.heap->(m.any fun e=>e.2.isExc)=We->VRs B s.heap V l vs->l.length=xs.length->
  (∀s',Stp (Xow sc env) V s V s'->At B A c sc ((xs.zip l).foldl (fun m e=>put e.1 e.2 m) m) env V Z s'.heap->Q () s')->Ws (Wt B.prog B.w) A (assignInOrder (xs.map fun e=>aeK env (af e)) vs) Q E s:=by
 intro i
 induction i with
 |nil=>
  intro l vs m s b a hex hv d h
  induction l using Wv with
  |cons _ _=>cases d
  |nil=>
   subst hv;exact Wq (h s (.refl _ _ _) a)
 |cons x xs j=>
  intro l vs m s b a hex hv d h
  induction l using Wv with
  |nil=>cases d
  |cons p l=>
   obtain⟨v,r,rfl,f,hp,k⟩:=hv;rw[aaJ] at b;refine abG (wpAny_bindName (jb (aa b) a hex hp f fun s1 g n=>?_));exact j (ay b) n (wJ hex (wK f)) (VRs.stepX a.envr.own (g.mono fun _ q=>q.of).keep (.refl _ _) l k) (aav d) fun s2 o t=>h s2 (g.trans o) t
theorem VRs.reverse{h:Heap}:∀{l:List P}{vs:List Wm},VRs B h V l vs->VRs B h V l.reverse vs.reverse:=by
 intro c
 induction c with
 |nil=>
  intro vs x;subst x;exact rfl
 |cons p l d=>
  intro vs x;obtain⟨v,r,rfl,o,a,b⟩:=x;rw[adR,adR];exact(d b).append (vrC o a rfl)
theorem AP{α:Type}{l:List α}{n:Nat}(h:l.length=n+1):∃a r,l=a::r/\r.length=n:=by
 induction l using Wv with
 |nil=>exact nomatch h
 |cons a r=>exact⟨a,r,rfl,aav h⟩
theorem Hw{α:Type}{l:List α}(h:l.length=2):∃a b,l=[a,b]:=by
 obtain⟨a,r,rfl,h1⟩:=AP h;obtain⟨b,t,rfl,c⟩:=AP h1;exact⟨a,b,by rw[aaP c]⟩
theorem KQ{α:Type}{l:List α}(h:l.length=3):∃a b c,l=[a,b,c]:=by
 obtain⟨a,r,rfl,h1⟩:=AP h;obtain⟨b,c,rfl⟩:=Hw h1;exact⟨a,b,c,rfl⟩
theorem AQ{m:VE}{xs:List (Nat×Nat)}{l:List P}(nd:bY (xs.map (·.1))=Wd)(g:xs.length=2\/xs.length=3)(hp:l.length=xs.length)(x:Nat):get x (aD.go xs l m)=get x ((((xs.map (·.1)).reverse).zip l.reverse).foldl (fun m e=>put e.1 e.2 m) m):=by
 rcases g with h|h
 ·obtain⟨b,c,rfl⟩:=Hw h;obtain⟨p1,p2,rfl⟩:=Hw hp;exact kP (fun z=>(dF nd).1 (Ww.mpr (.inl z.symm))) p2 p1 m x
 ·obtain⟨b,c,f,rfl⟩:=KQ h;obtain⟨p1,p2,a,rfl⟩:=KQ hp;have d:=dF nd;show get x (put f.1 a (put c.1 p2 (put b.1 p1 m)))=get x (put b.1 p1 (put c.1 p2 (put f.1 a m)));rw[s8 (fun x=>kP (fun z=>d.1 (Ww.mpr (.inl z.symm))) p2 p1 m x) x,kP (fun z=>d.1 (W8 _ (Ww.mpr (.inl z.symm)))) a p1 _ x];exact s8 (fun x=>kP (fun z=>(dF d.2).1 (Ww.mpr (.inl z.symm))) a p2 m x) x
theorem vn{xs:List (Nat×Nat)}{k f:Nat}{e:IE}{p:Nat}(S:SimE B r)(i:wD sc (.asg (.to (.tup xs k f)) e p)=Wd)(a:At B A c sc m env V Z s.heap)(F:Fin B (dK env) (RX B env) V s (ba B.T r c (.asg (.to (.tup xs k f)) e p) m Z) Q E):Ws (Wt B.prog B.w) A (exec (i0 (.asg (.to (.tup xs k f)) e p)) env) Q E s:=by
 have i:((jB sc (.to (.tup xs k f)) &&bj sc e) &&Iq (.to (.tup xs k f)) e)=Wd:=i;have y:=aa (aa i);have K:((xs.all (fun e=>gK sc e.1) &&bY (xs.map (·.1))) &&WR xs.length 100)=Wd:=y;show Ws _ _ (exec (.Assign [.Tuple (cp xs) k (ag f)] (aV e) (ag p)) env) _ _ _;rw[jZ (vm e _ _ _ _ _)];refine Wh (W7 (Wh (S.use (ay (aa i)) a F fun q Z1 V1 s1 v st C hv g=>?_)));replace g:Fin B (dK env) (RX B env) V1 s1 ((cond c.hd .no (ofO (aD (.tup xs k f) q m) fun m=>.ok m Z1)).bind fun m Z=>.ok (.next,m) Z) Q E:=g;clear S F st
 induction hd:c.hd using Wn with
 |true=>rw[hd] at g;exact g.elim
 |false=>
  rw[hd] at g;have H:=a.amb.hd hd;dsimp only[cond] at g;clear a hd
  induction d:aD (.tup xs k f) q m using Wo with
  |none=>rw[d] at g;exact g.elim
  |some m1=>
   rw[d] at g;replace g:Fin B (dK env) (RX B env) V1 s1 (.ok (.next,m1) Z1) Q E:=g;have D:Ws (Wt B.prog B.w) A (aaz env v Wc ((abn [.Tuple (cp xs) k (ag f)] env).map (·.2))) Q E s1:=by
    unfold aaz;exact Wh (kM (t:=.tup xs k f) y C H hv d fun s2 I u=>Wq (Fin.ok g (I.mono fun _ q=>q.of) u.rel ⟨rfl,u.envr⟩))
   have h:(∀es k2 p2,e≠ .tup es k2 p2)->aac [.Tuple (cp xs) k (ag f)] (aV e) env=pure Wc:=fun M=>by
    clear i y C hv g H d D q;clear i Z1 V1 s1 v;cases e with
    |tup es k2 p2=>exact absurd rfl (M es k2 p2)
    |_=>rfl
   by_cases ht:∃es k2 p2,e=.tup es k2 p2
   ·obtain⟨es,k2,p2,rfl⟩:=ht;clear y h;rcases s7 (env:=env) (xs:=xs) (k:=k) (pos:=ag f) (p2:=ag p2) (k2:=k2) (aa (ay (aa i))) (ay i) with G|⟨G,N⟩
    ·show Ws _ _ (aac [.Tuple (cp xs) k (ag f)] (.Tuple (bw es) k2 (ag p2)) env>>=_) _ _ _;exact G▸(Wh (Wq D))
    ·show Ws _ _ (aac [.Tuple (cp xs) k (ag f)] (.Tuple (bw es) k2 (ag p2)) env>>=_) _ _ _;rw[G];refine Wh (Wq ?_);unfold aD at d;clear i D G
     induction hex:m.any fun e=>e.2.isExc using Wn with
     |true=>rw[hex] at d;exact aH d
     |false=>
      rw[hex] at d;dsimp only[cond] at d;clear i es k2 p2;replace d:=vA d;obtain⟨l,e,d⟩:=d
      ·subst e
       induction j:Wf l.length xs.length using Wn with
       |false=>rw[j] at d;exact aH d
       |true=>
        rw[j] at d;have j:=b9 j;obtain⟨ad,vs,rfl,_,O,bI⟩:=hv;have P:(xs.map fun e=>af e.1).length=vs.toArray.size:=by rw[Wp,WP,bI.length,j]
        unfold aaz;refine Wh (abj (Wh ?_));rw[P];refine wpAny_unpackItems_tuple H O fun h' R=>?_;have J:∀b o,s1.heap.get? b=Wb o->h'.get? b=Wb o:=fun b o e=>R b o (fun z=>by rw[z,aC] at e;exact aH e) e;have L:Stp no V1 s1 V1 {s1 with heap:=h'}:=.grow J;have U:((xs.map fun e=>af e.1).reverse.map fun n=>aeK env n)=((xs.map (·.1)).reverse).map fun e=>aeK env (af e):=by
         rw[<-ad6,<-ad6,XB,XB];rfl
        rw[U];have W:(((xs.map (·.1)).reverse).all fun e=>gK sc e)=Wd:=by
         rw[List.all_reverse,ae5];exact aa (aa K)
        refine Wh (AO (s:={s1 with heap:=h'}) _ W (C.step (s1:={s1 with heap:=h'}) L (C.rel.grow J)) hex ((VRs.step (.of_grow J) (.refl _ _) l bI).reverse) (by simp[j]) fun s2 I u=>Wq ?_);refine Fin.ok g (L.any.trans (I.mono fun _ q=>q.of)) u.rel ⟨rfl,u.envr.same fun x=>?_⟩;exact(((Wi d).symm))▸(AQ (ay (aa K)) N j x)
   ·exact(h fun es k2 p2 e=>ht ⟨es,k2,p2,e⟩)▸(Wh (Wq D))
end
noncomputable def dJ(env:Env):List (Str×Ya)->List (Str×Addr)->List (Str×Addr)
 | [],a=>a
 |(n,k)::r,a=>if k==.free then dJ env r ((n,(env.cells.lookup n).getD 0)::a) else dJ env r a
theorem ru{env:Env}{n:Str}{k:Ya}{r:List (Str×Ya)}{a:List (Str×Addr)}:dJ env ((n,k)::r) a=if k==.free then dJ env r ((n,(env.cells.lookup n).getD 0)::a) else dJ env r a:=rfl
theorem ye(env:Env)(f:Str×Ya->List (Str×Addr)->Sem (ForInStep (List (Str×Addr))))
  (hf:∀n k e,f (n,k) e=if k==.free then(do let a <-cellOf env n;pure (Yj ((n,a)::e))) else pure (Yj e)):∀(names:List (Str×Ya))(b:List (Str×Addr)),(∀x∈names,x.2=.free->(env.cells.lookup x.1).isSome=Wd)->
  forIn names b f=pure (dJ env names b):=by
 intro j
 induction j with
 |nil=>
  intro b _;exact rfl
 |cons l r i=>
  obtain⟨n,k⟩:=l;intro b h;rw[aaW,hf];rw[ru];by_cases c:k==.free
  ·obtain⟨a,d⟩:=Xt.mp (h (n,k) (.head _) (beq_iff_eq.mp c));have d:env.cells.lookup n=Wb a:=d;simp only[c,if_true];have:cellOf env n=pure a:=by unfold cellOf;rw[d]
   exact this▸d▸(i _ fun x g=>h x (.tail _ g))
  ·simp only[adW] at c;simp only[c,abi,if_false];exact i b fun x g=>h x (.tail _ g)
theorem jH(scope:adi)(env:Env)(h:∀x∈scope.names,x.2=.free->(env.cells.lookup x.1).isSome=Wd):aeL scope env=pure (dJ env scope.names []):=by
 unfold aeL;dsimp only;rw[ye env _ (fun n k b=>by cases a:k==Yp<;>simp[a]) scope.names [] h];rfl
theorem kR(env:Env)(x:Str):∀(names:List (Str×Ya))(b:List (Str×Addr)),(∀y∈names,y.2=.free->(env.cells.lookup y.1).isSome=Wd)->(b.lookup x=Wc\/b.lookup x=env.cells.lookup x)->
  ((dJ env names b).lookup x=Wc\/(dJ env names b).lookup x=env.cells.lookup x)/\((x,.free)∈names\/(b.lookup x).isSome=Wd->(dJ env names b).lookup x=env.cells.lookup x):=by
 intro j
 induction j with
 |nil=>
  intro b _ h;refine⟨h,fun q=>?_⟩;rcases q with q|q
  ·exact absurd q WA
  ·rcases h with h|h
   ·rw[h] at q;exact dg q
   ·exact h
 |cons l r f=>
  obtain⟨n,k⟩:=l;intro b hs h;have g:∀y∈r,y.2=.free->(env.cells.lookup y.1).isSome=Wd:=fun y m=>hs y (.tail _ m);rw[ru];by_cases e:k==.free
  ·rw[if_pos e];obtain⟨a,i⟩:=Xt.mp (hs (n,k) (.head _) (beq_iff_eq.mp e));have h':(((n,(env.cells.lookup n).getD 0)::b).lookup x=Wc\/((n,(env.cells.lookup n).getD 0)::b).lookup x=env.cells.lookup x):=by
    rw[Xl];clear hs
    induction o:x==n using Wn with
    |true=>right;rw[beq_iff_eq.mp o,i];rfl
    |false=>exact h
   clear hs i h;obtain⟨c,d⟩:=f _ g h';refine⟨c,fun q=>d ?_⟩;clear a c d;rcases q with q|q
   ·rcases Ww.mp q with q|q
    ·cases q;right;rw[Xl];simp
    ·exact .inl q
   ·right;rw[Xl]
    induction x==n using Wn with
    |true=>rfl
    |false=>exact q
  ·rw[if_neg e];clear hs;obtain⟨c,d⟩:=f b g h;refine⟨c,fun q=>d ?_⟩;clear h c d;rcases q with q|q
   ·rcases Ww.mp q with q|q
    ·cases q;exact absurd rfl e
    ·exact .inl q
   ·exact .inr q
theorem lH:∀(names:List (Str×Ya))(n:Nat)(a:List (Str×Addr)),Yd n names a=Yd n names []++a:=by
 intro c
 induction c with
 |nil=>
  intro n a;exact rfl
 |cons d r b=>
  obtain⟨x,k⟩:=d;intro n a;unfold Yd;split
  ·rw[b (n+1) ((x,n)::a),b (n+1) [(x,n)],Xw];rfl
  ·exact b n a
theorem pF{x:Str}{c:Addr}:∀{names:List (Str×Ya)}{n:Nat}{a:List (Str×Addr)},(x,c)∈Yd n names a->(x,c)∈a\/(x,.cell)∈names:=by
 intro d
 induction d with
 |nil=>
  intro n a h;exact .inl h
 |cons e r b=>
  obtain⟨y,k⟩:=e;intro n a h;unfold Yd at h;split at h
  ·rename_i f;rcases b h with q|q
   ·rcases Ww.mp q with q|q
    ·cases q;right;have:k=.cell:=by simpa using f
     rw[this];exact .head _
    ·exact .inl q
   ·exact .inr (.tail _ q)
  ·rcases b h with q|q
   ·exact .inl q
   ·exact .inr (.tail _ q)
theorem jI(x:Str):∀(l t:List (Str×Addr)),(l++t).lookup x=(l.lookup x).or (t.lookup x):=by
 intro b
 induction b with
 |nil=>
  intro t;simp
 |cons a l c=>
  intro t;show aed x ((a.1,a.2)::(l++t))=_;rw[Xl,Xl]
  induction x==a.1 using Wn with
  |true=>rfl
  |false=>exact c t
section
variable{M:acN}{A:WN}{E:Wm->Wl->Prop}{s:Wl}{env:Env}
noncomputable def wM(scope:adi)(cl:List (Str×Addr))(C:Addr)(env:Env):Env:=
 {scope,locals:=C,globals:=env.globals,cells:=Yd (C+1) scope.names []++cl,qual:=env.qual,func:=Wc,code:=env.code,frame:=env.frame,builtins:=env.builtins}
theorem pG{scope:adi}{cl:List (Str×Addr)}{Q:Env->Wl->Prop}(h:Q (wM scope cl s.heap.objs.size env) {s with heap:=ab2 (s.heap.push {cls:=.type "dict",data:=.dict #[]}) scope.names}):
  Ws M A (newFunctionEnv scope env.globals cl [] env.qual Wc .none (Wb env)) Q E s:=by
 simp only[newFunctionEnv,Option.isSome_some,if_true];refine Wh (acW ?_);refine Wh (wpAny_layCells _ (fun name kind cells=>by cases a:kind==aad<;>simp[a]) _ _ _ _ ?_);rw[show({s with heap:=s.heap.push {cls:=.type "dict",data:=.dict #[]}}:Wl).heap.objs.size=s.heap.objs.size+1 from Yt ..];refine Wh (Wq (Wq ?_));rw[lH];exact h
end
theorem io{x k:Nat}:∀{sc:Sc},bY (sc.map (·.1))=Wd->(x,k)∈sc->ap sc x=Wb k:=by
 intro sc
 induction sc with
 |nil=>exact fun _ h=>absurd h WA
 |cons c r d=>
  intro a h;obtain⟨y,q⟩:=c;have b:=dF a;rw[m7];clear a;rcases Ww.mp h with e|h
  ·cases e;rw[Wx];rfl
  ·have:Wf y x=We:=lE fun e=>b.1 (Wz.mpr ⟨_,h,e.symm⟩);exact this▸(d b.2 h)
theorem oA{x:Nat}{p:P}{f:Nat×P->Bool}:∀{m:VE},(∀p,f (x,p)=Wd)->get x (m.filter f)=Wb p->get x m=Wb p:=by
 intro c
 induction c with
 |nil=>
  intro _ h;exact h
 |cons d r b=>
  obtain⟨y,q⟩:=d;intro hf h;rw[XF] at h;rw[j3]
  induction a:Wf y x using Wn with
  |true=>
   have e:=b9 a;clear a;obtain rfl:=e.symm;rw[if_pos (hf q)] at h;rw[j3] at h;rw[Wx] at h;exact h
  |false=>
   split at h
   ·rw[j3] at h;rw[a] at h;exact b hf h
   ·exact b hf h
theorem gW{x:Nat}{sc:Sc}(hk:ap sc x=Wb 0\/ap sc x=Wb 2)(m:VE):get x (az sc m)=Wc:=by
 unfold az
 induction m with
 |nil=>rfl
 |cons e r a=>
  obtain⟨y,p⟩:=e;rw[XF];by_cases b:y=x
  ·subst b;have:(sc.any fun k=>Wf k.1 y&& (Wf k.2 0||Wf k.2 2))=Wd:=by
    clear p;rcases hk with hk|hk
    ·exact YK.mpr ⟨_,aS hk,by simp[Wx]⟩
    ·exact YK.mpr ⟨_,aS hk,by simp[Wx]⟩
   rw[this];exact a
  ·split
   ·show cond (Wf y x) _ _=_;rw[lE b];exact a
   ·exact a
theorem s9{x:Nat}{sc:Sc}(a:bY (sc.map (·.1))=Wd){k:Nat}(b:ap sc x=Wb k)(h0:k≠0)(d:k≠2){m:VE}{p:P}(g:get x (az sc m)=Wb p):get x m=Wb p:=by
 unfold az at g;refine oA (fun p=>?_) g;rw[Xy];rw[XN];intro e c q;simp only[W5,XX] at q;have ex:=b9 q.1;clear g p;obtain⟨y,z⟩:=e;dsimp only at ex q;clear m p;obtain rfl:=ex.symm;have:=io a c;clear a c;obtain rfl:=(Wi (b.symm.trans this)).symm;clear b;rcases q.2 with q|q
 ·exact h0 (b9 q)
 ·exact d (b9 q)
theorem oB{m:VE}{f:Nat×P->Bool}{g:Nat×P->Bool}(h:m.any g=We):(m.filter f).any g=We:=by
 rw[XN] at h ⊢;exact fun e a=>h e (W1.mp a).1
theorem oD(env:Env)(b:env.scope.kind=.function)(x:Nat):∀sc:Sc,(((aw sc).names.map fun(n,k)=>if(k==.free&&env.scope.kind==.function&&env.kindOf n==Wb .cell) then(n,aad) else(n,k)).lookup (af x))=(ap sc x).map fun k=>if(aI k==.free&&env.kindOf (af x)==Wb .cell) then .cell else aI k:=by
 intro sc
 induction sc with
 |nil=>rfl
 |cons e r c=>
  obtain⟨y,k⟩:=e;show aed (af x) ((if(aI k==.free&&env.scope.kind==.function&&env.kindOf (af y)==Wb .cell)=Wd then(af y,aad) else(af y,aI k))::((aw r).names.map _))=_;have e1:(if(aI k==.free&&env.scope.kind==.function&&env.kindOf (af y)==Wb .cell)=Wd then(af y,aad) else(af y,aI k))=(af y,if(aI k==.free&&env.kindOf (af y)==Wb .cell)=Wd then aad else aI k):=by
   rw[b];by_cases h1:(aI k==.free&&env.kindOf (af y)==Wb .cell)=Wd
   ·have a:(aI k==.free&&adx==.function&&env.kindOf (af y)==Wb .cell)=Wd:=by
     rw[W5] at h1;rw[h1.1,h1.2];rfl
    rw[if_pos h1,if_pos a]
   ·have a:¬ (aI k==.free&&adx==.function&&env.kindOf (af y)==Wb .cell)=Wd:=fun q=>h1 (by
     rw[W5,W5] at q;rw[q.1.1,q.2];rfl)
    rw[if_neg h1,if_neg a]
  rw[e1,Xl];rw[m7];by_cases h:y=x
  ·subst h;rw[Wx];simp
  ·rw[lE h];rw[(beq_eq_false_iff_ne.mpr (ig (Ne.symm h)))];exact c
theorem yf{x:Nat}{k:Ya}{sc:Sc}(h:(af x,k)∈(aw sc).names):∃q,(x,q)∈sc/\aI q=k:=by
 obtain⟨e,a,b⟩:=Wz.mp h;injection b with h1 c;exact(eX h1)▸⟨e.2,a,c⟩
section
variable{B:ao}{c:Cx}{m:VE}{Z:St}{A:WN}{s:Wl}{V:aG}{env:Env}{sc aR:Sc}
noncomputable abbrev cS(aR:Sc)(C:Addr)(env:Env):Env:={wM (aw aR) (dJ env (aw aR).names []) C env with scope:=relabel (aw aR) env}
theorem dr(h:kz sc aR=Wd){x k:Nat}(a:(x,k)∈aR):k<=3/\(k=3->ap sc x=Wb 2\/ap sc x=Wb 3):=by
 have h2:=Xb.mp (ay h) _ a;clear a h
 revert h2
 rcases k with _|_|_|_|k
 ·exact fun _=>⟨by exact Xz _,fun q=>absurd q (by decide)⟩
 ·exact fun _=>⟨by exact XU _,fun q=>absurd q (by decide)⟩
 ·exact fun _=>⟨by exact Xp _,fun q=>absurd q (by decide)⟩
 ·intro h2;refine⟨by exact Xk _,fun _=>?_⟩;have h2:(Wf ((ap sc x).getD 0) 2||Wf ((ap sc x).getD 0) 3)=Wd:=h2
  induction z:ap sc x using Wo with
  |none=>rw[z] at h2;exact dg h2
  |some q=>
   rw[z] at h2;rcases XR.mp h2 with h2|h2
   ·exact .inl (by rw[show q=2 from b9 h2])
   ·exact .inr (by rw[show q=3 from b9 h2])
 ·exact fun h2=>dg h2
theorem EZ(k:Nat)(h:k<=3):aI k=.free->k=3:=k4 (R:=fun k=>aI k=.free->k=3) (fun h=>Xh h) (fun h=>Xh h) (fun h=>Xh h) (fun _=>rfl) k (YB h)
theorem ip(k:Nat)(h:k<=3){q:Ya}{b:Bool}:(if b=Wd then .cell else aI k)=q->(b=Wd->aI k=.free)->(q=.cell\/q=.free)->k=2\/k=3:=
 k4 (R:=fun k=>(if b=Wd then .cell else aI k)=q->(b=Wd->aI k=.free)->(q=.cell\/q=.free)->k=2\/k=3)
  (fun h k2 c=>(by cases b with
   |true=>exact Xh (k2 rfl)
   |false=>subst h;rcases c with c|c<;>exact Xh c)) (fun h k2 c=>(by cases b with
   |true=>exact Xh (k2 rfl)
   |false=>subst h;rcases c with c|c<;>exact Xh c)) (fun _ _ _=>.inl rfl) (fun _ _ _=>.inr rfl) k (YB h)
theorem KR(k:Nat)(h:k<=3){b:Bool}:(if b=Wd then .cell else aI k)=Ya.local->k=0:=
 k4 (R:=fun k=>(if b=Wd then .cell else aI k)=Ya.local->k=0)
  (fun _=>rfl) (fun h=>(by induction b<;>exact Xh h)) (fun h=>(by induction b<;>exact Xh h)) (fun h=>(by cases b<;>exact Xh h)) k (YB h)
theorem cT(a:At B A c sc m env V Z s.heap){x:Nat}(h:ap sc x=Wb 2\/ap sc x=Wb 3):env.kindOf (af x)=Wb .cell\/env.kindOf (af x)=Wb .free:=by
 rcases h with h|h
 ·exact .inl (a.scr.cell x h)
 ·exact a.scr.free x h
theorem tc(a:At B A c sc m env V Z s.heap)(h:kz sc aR=Wd)(I:(m.any fun e=>e.2.isOdd)=We):
  aeL (aw aR) env=pure (dJ env (aw aR).names [])/\
  At B A c aR (az aR m) (cS aR s.heap.objs.size env) V Z (ab2 (s.heap.push {cls:=.type "dict",data:=.dict #[]}) (aw aR).names)/\
  (∀b,Xow aR (cS aR s.heap.objs.size env) b->s.heap.get? b=Wc)/\
  (∀b o,s.heap.get? b=Wb o->(ab2 (s.heap.push {cls:=.type "dict",data:=.dict #[]}) (aw aR).names).get? b=Wb o):=by
 have N:=aa h;generalize O:ab2 (s.heap.push {cls:=.type "dict",data:=.dict #[]}) (aw aR).names=h';have u:∀b o,s.heap.get? b=Wb o->h'.get? b=Wb o:=fun b o e=>by rw[<-O];exact aeo _ _ b o (Wr _ e)
 have D:∀x∈(aw aR).names,x.2=.free->(env.cells.lookup x.1).isSome=Wd:=by
  intro x hx hf;clear I N u;obtain⟨e,w,rfl⟩:=Wz.mp hx;clear hx;have hk:=dr h w;clear h w;obtain⟨cc,P,lk,_⟩:=a.envr.cel e.1 (cT a (hk.2 (EZ e.2 hk.1 hf)));rw[lk];rfl
 have ok:=cellsFrom_ok (aw aR).names (s.heap.push {cls:=.type "dict",data:=.dict #[]}) (s.heap.objs.size+1) [] ⟨fun _ _ r=>absurd r WA,aft⟩ (by rw[Yt];exact Xk _);rw[Yt,O] at ok;have C:(cS aR s.heap.objs.size env).cells=Yd (s.heap.objs.size+1) (aw aR).names []++dJ env (aw aR).names []:=rfl;have d:∀x,(cS aR s.heap.objs.size env).kindOf (af x)=(ap aR x).map fun k=>if(aI k==.free&&env.kindOf (af x)==Wb .cell) then .cell else aI k:=fun x=>oD env a.envr.kind x aR;have fresh:∀{x b},(x,b)∈Yd (s.heap.objs.size+1) (aw aR).names []->s.heap.get? b=Wc:=fun r=>Xf (abw (ok.empty _ _ r).2);have nown:∀b,s.heap.get? b=Wc->¬own V b:=fun b=>a.rel.nown;have nb:∀b,s.heap.get? b=Wc->B.h₀.get? b=Wc:=fun b=>a.rel.nb;have i:=aC s.heap;have j:∀{x:Nat},ap aR x=Wb 2->∃b,(cS aR s.heap.objs.size env).cells.lookup (af x)=Wb b/\(af x,b)∈Yd (s.heap.objs.size+1) (aw aR).names []:=by
  intro x hx;have:((Yd (s.heap.objs.size+1) (aw aR).names []).lookup (af x)).isSome=Wd:=fy _ _ _ _ (.inl (by rw[show(aw aR).names=aR.map fun e=>(af e.1,aI e.2) from rfl,c5,hx];rfl));clear u D ok d fresh nown nb i hx;obtain⟨b,f⟩:=Xt.mp this;exact⟨b,by rw[C,jI,f];rfl,mem_of_lookup f⟩
 have t:∀{x:Nat},ap aR x=Wb 3->(cS aR s.heap.objs.size env).cells.lookup (af x)=env.cells.lookup (af x):=by
  intro x hx;have Wc:(Yd (s.heap.objs.size+1) (aw aR).names []).lookup (af x)=Wc:=by
   clear h I u D ok C d fresh nown nb i j
   induction z:(Yd (s.heap.objs.size+1) (aw aR).names []).lookup (af x) using Wo with
   |none=>rfl
   |some b=>
    rcases pF (mem_of_lookup z) with q|q
    ·exact absurd q WA
    ·obtain⟨S,E,hk⟩:=yf q;have:=io N E;clear z q E;obtain rfl:=Wi (hx.symm.trans this);clear hx;exact absurd hk (by decide)
  rw[C,jI,Wc];refine(kR env (af x) (aw aR).names [] D (.inl rfl)).2 (.inl ?_);exact Wz.mpr ⟨(x,3),aS hx,rfl⟩
 have ip:∀{x:Nat},((cS aR s.heap.objs.size env).kindOf (af x)=Wb .cell\/(cS aR s.heap.objs.size env).kindOf (af x)=Wb .free)->ap aR x=Wb 2\/ap aR x=Wb 3:=by
  intro x hx;have F:∀q,(cS aR s.heap.objs.size env).kindOf (af x)=Wb q->(q=.cell\/q=.free)->ap aR x=Wb 2\/ap aR x=Wb 3:=by
   intro q E hc;rw[d] at E;clear ok C d fresh nown nb i j t hx;obtain⟨k,G,J⟩:=WD.mp E;exact G▸((ip k (dr h (aS G)).1 J (fun q=>beq_iff_eq.mp (aa q)) hc).imp (congrArg Wb) (congrArg Wb))
  clear d fresh nown nb i j t;rcases hx with hx|hx
  ·exact F _ hx (.inl rfl)
  ·exact F _ hx (.inr rfl)
 have K:∀{x:Nat}{b:Addr},ap aR x=Wb 3->env.cells.lookup (af x)=Wb b->∃o,s.heap.get? b=Wb o:=by
  intro x b hk Q;clear ok C d fresh nown nb i j t ip;obtain⟨cc,P,lk,n,f,⟨o,g,_⟩,q⟩:=a.envr.cel x (cT a ((dr h (aS hk)).2 rfl));clear hk n f q;exact(Wi (lk.symm.trans Q))▸⟨o,g⟩
 refine⟨jH _ _ D,⟨⟨fun x q=>?_,fun x q=>?_,fun x q=>?_,fun x q=>?_⟩,(a.rel.grow u),⟨rfl,a.envr.glob,a.envr.bui,nown _ i,nb _ i,?_,fun x hx=>?_,?_,?_⟩,?_⟩,?_,u⟩
 ·rw[d,q];rfl
 ·rw[d,q];rfl
 ·rw[d,q];rfl
 ·rw[d,q];show Wb (if(Yp==Yp&&env.kindOf (af x)==Wb .cell)=Wd then aad else Yp)=_\/_;by_cases z:(Yp==Yp&&env.kindOf (af x)==Wb .cell)=Wd
  ·left;rw[if_pos z]
  ·right;exact congrArg Wb (if_neg z)
 ·refine⟨fun _=>Wc,(Heap.Ns.new s.heap (.type "dict")).keeps (O▸(aeo _ _)),fun x p hk g=>?_⟩;rw[d] at hk;clear i j t ip K;obtain⟨k,G,J⟩:=WD.mp hk;have h0:k=0:=KR k (dr h (aS G)).1 J;clear hk J;subst h0;rw[gW (.inl G)] at g;exact aH g
 ·have hk:=ip hx;clear I D C d i ip K hx;rcases hk with hk|hk
  ·obtain⟨b,f,r⟩:=j hk;exact⟨b,Wc,f,nown _ (fresh r),nb _ (fresh r),(ok.empty _ _ r).1,fun p g=>by rw[gW (.inr hk)] at g;exact aH g⟩
  ·obtain⟨cc,P,lk,n,f,T,q⟩:=a.envr.cel x (cT a ((dr h (aS hk)).2 rfl));refine⟨cc,P,by rw[t hk];exact lk,n,f,T.keeps u,fun p g=>?_⟩;clear lk n f T;obtain⟨v,hv,W⟩:=q p (s9 N hk (by exact Yc _) (by exact XZ _) g);exact⟨v,hv,W.step (.of_grow u) (.refl _ _)⟩
 ·intro x y b hx H h1 l;rcases ip hx with kx|kx
  ·obtain⟨b1,U,m1⟩:=j kx;clear hx kx;obtain rfl:=Wi (h1.symm.trans U);clear h1 U;rcases ip H with ky|ky
   ·obtain⟨b2,M,R⟩:=j ky;clear H ky;obtain rfl:=Wi (l.symm.trans M);exact eX (name_of_addr ok.apart m1 R)
   ·rw[t ky] at l;clear H;obtain⟨o,g⟩:=K ky l;rw[fresh m1] at g;exact aH g
  ·rcases ip H with ky|ky
   ·obtain⟨b2,M,R⟩:=j ky;clear hx H ky;obtain rfl:=Wi (l.symm.trans M);rw[t kx] at h1;clear l M;obtain⟨o,g⟩:=K kx h1;rw[fresh R] at g;exact aH g
   ·rw[t kx] at h1;rw[t ky] at l;exact a.envr.inj x y b (cT a ((dr h (aS kx)).2 rfl)) (cT a ((dr h (aS ky)).2 rfl)) h1 l
 ·intro _ x p g;have:p.isOdd=We:=by
   obtain⟨e,w,rfl⟩:=iZ g;have:=XN.mp (oB I) e w;simpa using this
  revert this;cases p<;>intro z<;>first|rfl|exact gB z
 ·obtain⟨e1,o,x,y,z⟩:=a.amb.fr;refine⟨⟨e1,o,x,y,fun e w=>?_⟩,a.amb.dep,a.amb.un,a.amb.hd,a.amb.cod⟩;clear x y;obtain⟨X,L,ob,S,Y,q4,q5,q6⟩:=z e w;exact⟨X,L,ob,S,Y,q4,u _ _ q5,q6⟩
 ·rintro b (f|⟨x,hx,hk,Q⟩)
  ·rw[f];exact i
  ·have l:ap aR x=Wb 2:=by
    rcases m9 hx with q|q
    ·rw[d,q] at hk;cases hk
    ·exact q
   obtain⟨b',mH,r⟩:=j l;clear l;exact(Wi (Q.symm.trans mH))▸(fresh r)
end
section
variable{B:ao}{c:Cx}{m:VE}{Z:St}{A:WN}{s:Wl}{V:aG}{env:Env}{sc:Sc}{Q:Flow->Wl->Prop}{E:Wm->Wl->Prop}
theorem Fin.bind0E{α β γ δ:Type}{X:Addr->Prop}{RA:Heap->aG->α->β->Prop}{RC:Heap->aG->γ->δ->Prop}{V0:aG}{s0:Wl}{x:R α}{f:α->St->R γ}{Q:δ->Wl->Prop}{Q':β->Wl->Prop}
  (F:Fin B X RC V0 s0 (x.bind f) Q E) (st:Stp X V0 s0 V s)
  (k:∀a Z1 V1 s1 v,Stp no V s V1 s1->Rel B V1 Z1 s1.heap->RA s1.heap V1 a v->Fin B X RC V0 s0 (f a Z1) Q E->Q' v s1):Fin B no RA V s x Q' E:=by
 induction x using Mine.R.casesOn with
 |ok a b=>exact fun V' s' v c rl d=>k a b V' s' v c rl d F
 |exc C e g b=>exact Fin.less (X:=X) (Fin.shift (RA:=RA) st (show Fin B X RA V0 s0 (.exc C e g b) Q' E from F)) fun _ h=>h.elim
 |no=>exact F
inductive Tn(B:ao)(A:WN)(c:Cx)(env:Env)(sc:Sc)(t:IE)(b:List IS)(N:Nat)(V0:aG)(s0:Wl)(Q:Flow->Wl->Prop)(E:Wm->Wl->Prop)(k:Nat)(s:Wl):Prop
 |mk(V:aG)(Z:St)(m:VE)(d:k<=N)(st:Stp (dK env) V0 s0 V s)(a:At B A c sc m env V Z s.heap)(F:Fin B (dK env) (RX B env) V0 s0 ((run B.T k).wh c t b m Z) Q E)
theorem vo{t:IE}{b:List IS}{N:Nat}{V0:aG}{s0:Wl}(y:∀k,k<N->SimT B (run B.T k))(C:∀k,k<N->gz B (run B.T k))(D:bj sc t=Wd)(G:ew sc b=Wd)(M:∀b o,B.h₀.get? b=Wb o->s0.heap.get? b=Wb o)
  (H:Stp (dK env) V0 s0 V s) (a0:At B A c sc m env V Z s.heap) (I:Fin B (dK env) (RX B env) V0 s0 ((run B.T N).wh c t b m Z) Q E):
  Yu (Wt B.prog B.w) A (.whileLoop (aV t) (gQ b) [] env) (fun r s'=>match r with|.ok f=>Q f s'|.error e=>DK B A env E e s') s:=by
 refine codeAny_whileLoop (Tn B A c env sc t b N V0 s0 Q E) (fun k s h=>?_) N ⟨V,Z,m,Xk _,H,a0,I⟩;obtain⟨V,Z,m,i,st,a,F⟩:=h
 induction k with
 |zero=>exact F.elim
 |succ k=>
  refine y k i c t m Z A s V env sc _ _ D a.scr a.rel a.envr a.amb (Fin.noted (X:=no) a.amb a.rel.base (Fin.bind0E (RA:=ra) F st fun z Z1 V1 s1 O l n hz p=>?_));cases hz;have d:=a.step l n;have g:=st.trans l.any
  induction z using Wn with
  |false=>exact YU (p V1 s1 .next g n ⟨rfl,d.envr⟩)
  |true=>
   refine C k i c b m Z1 A s1 V1 env sc _ _ G d (Fin.noted d.amb d.rel.base (Fin.bind0 (RA:=RX B env) p g fun J Z2 q s2 f j u x F2=>?_));obtain⟨fl,K⟩:=J
   induction fl using Mine.Fl.casesOn with
   |ret w=>
    obtain⟨v,rfl,hv⟩:=x;exact F2 q s2 (.ret v) (g.trans j) u ⟨v,rfl,hv⟩
   |next=>
    obtain⟨rfl,L⟩:=x;exact⟨k,XG _,q,Z2,K,abw i,g.trans j,⟨d.scr,u,L,d.amb.stepX j⟩,F2⟩
end
section
variable{prog:Yi}{w:Y6}{A:WN}{E:Wm->Wl->Prop}{s:Wl}
noncomputable def dX(e:W3)(d:Nat)(b:Wm)(env:Env)(emit:Sem Unit):Sem Unit:=match(aa9 e)[d+1]? with
 |some a=>do
  let x <-eval a.iter env
  Y5 a.iter.pos
  let x <-adO a.iter env x
  let _ <-runOwn (.compStart e (d+1) (<-YW [x] (aeJ x)) b env) env
  pure ()
 |none=>emit
theorem th{a:W3}{gens:List XH}{scope:adi}{pos:Pos}{d:Nat}{tgt iter:W3}{ifs:List W3}{it i:Wm}{env:Env}{Q:ad7->Wl->Prop}(m:gens[d]?=Wb ⟨tgt,iter,ifs,0⟩)(n:∀g∈gens,g.is_async=0)
  (h:Ws (Wt prog w) A (afa it) (fun r s1=>match r with
   |none=>Q (.done .next) s1
   |some v=>Ws (Wt prog w) A (YT tgt it v) (fun _ s2=>Ws (Wt prog w) A (aay tgt env v) (fun _ s3=>
     Ws (Wt prog w) A (forIn ifs Wd fun c r=>if r=Wd then do let ok <-abA c env (eval c env);pure (Yj ok) else pure (Yj r)) (fun ok k=>
      if ok=Wd then Ws (Wt prog w) A (dX (.ListComp a gens scope pos) d i env (do let _ <-call (.builtin "list.append") [i,<-eval a env])) (fun _ j=>Q (.again (.compLoop (.ListComp a gens scope pos) d it i env)) j) E k
      else Q (.again (.compLoop (.ListComp a gens scope pos) d it i env)) k) E s3) E s2) E s1) E s):
  Ws (Wt prog w) A (ac1 (.ListComp a gens scope pos) d it i env) Q E s:=by
 unfold ac1;dsimp only;rw[m];dsimp only;refine Wh (W7 ?_);rw[if_neg (by decide)];refine Wh (Xg h (fun r s1 h1=>?_) fun _ _ e=>e)
 induction r using Wo with
 |none=>exact Wq h1
 |some v=>
  refine Wh (Xg h1 (fun _ s2 o=>Wh (Xg o (fun _ s3 p=>Wh (Xg p (fun ok k b=>?_) fun _ _ e=>e)) fun _ _ e=>e)) fun _ _ e=>e)
  induction ok using Wn with
  |false=>exact Wq b
  |true=>
   have b:Ws (Wt prog w) A (dX (.ListComp a gens scope pos) d i env (do let _ <-call (.builtin "list.append") [i,<-eval a env])) (fun _ j=>Q (.again (.compLoop (.ListComp a gens scope pos) d it i env)) j) E k:=b;rw[if_pos rfl];unfold dX at b;have e1:aa9 (.ListComp a gens scope pos)=gens:=rfl;rw[e1] at b
   induction hd:gens[d+1]? using Wo with
   |none=>
    rw[hd] at b;exact Wh (Xg b (fun _ j l=>Wq l) fun _ _ e=>e)
   |some q=>
    rw[hd] at b;dsimp only at b ⊢;rw[(n q (X1 hd))];simpa using (Wh (f:=fun _:Unit=>again (.compLoop (.ListComp a gens scope pos) d it i env)) (Xg b (fun _ j l=>Wq (E:=E) l) fun _ _ e=>e))
theorem rx{b a:W3}{D:Addr}{gens:List XH}{scope:adi}{pos:Pos}{d:Nat}{tgt iter:W3}{ifs:List W3}{it:Wm}{env:Env}{Q:ad7->Wl->Prop}(o:gens[d]?=Wb ⟨tgt,iter,ifs,0⟩)(p:∀g∈gens,g.is_async=0)
  (h:Ws (Wt prog w) A (afa it) (fun r s1=>match r with
   |none=>Q (.done .next) s1
   |some v=>Ws (Wt prog w) A (YT tgt it v) (fun _ s2=>Ws (Wt prog w) A (aay tgt env v) (fun _ s3=>
     Ws (Wt prog w) A (forIn ifs Wd fun c r=>if r=Wd then do let ok <-abA c env (eval c env);pure (Yj ok) else pure (Yj r)) (fun ok m=>
      if ok=Wd then Ws (Wt prog w) A (dX (.DictComp b a gens scope pos) d (.ref D) env (do
    let j <-eval b env
    let k <-YW [j] (eval a env)
    Y5 {b.pos with endLine:=a.pos.endLine,endCol:=a.pos.endCol}
    YW [j,k] (aby D j k))) (fun _ l=>Q (.again (.compLoop (.DictComp b a gens scope pos) d it (.ref D) env)) l) E m
      else Q (.again (.compLoop (.DictComp b a gens scope pos) d it (.ref D) env)) m) E s3) E s2) E s1) E s):
  Ws (Wt prog w) A (ac1 (.DictComp b a gens scope pos) d it (.ref D) env) Q E s:=by
 unfold ac1;dsimp only;rw[o];dsimp only;refine Wh (W7 ?_);rw[if_neg (by decide)];refine Wh (Xg h (fun r s1 h1=>?_) fun _ _ e=>e)
 induction r using Wo with
 |none=>exact Wq h1
 |some v=>
  refine Wh (Xg h1 (fun _ s2 q=>Wh (Xg q (fun _ s3 t=>Wh (Xg t (fun ok m i=>?_) fun _ _ e=>e)) fun _ _ e=>e)) fun _ _ e=>e)
  induction ok using Wn with
  |false=>exact Wq i
  |true=>
   have i:Ws (Wt prog w) A (dX (.DictComp b a gens scope pos) d (.ref D) env (do
    let j <-eval b env
    let k <-YW [j] (eval a env)
    Y5 {b.pos with endLine:=a.pos.endLine,endCol:=a.pos.endCol}
    YW [j,k] (aby D j k))) (fun _ l=>Q (.again (.compLoop (.DictComp b a gens scope pos) d it (.ref D) env)) l) E m:=i
   rw[if_pos rfl];unfold dX at i;have e1:aa9 (.DictComp b a gens scope pos)=gens:=rfl;rw[e1] at i
   induction hd:gens[d+1]? using Wo with
   |none=>
    rw[hd] at i;exact Wh (Xg i (fun _ l n=>Wq n) fun _ _ e=>e)
   |some u=>
    rw[hd] at i;dsimp only at i ⊢;rw[(p u (X1 hd))];simpa using (Wh (f:=fun _:Unit=>again (.compLoop (.DictComp b a gens scope pos) d it (.ref D) env)) (Xg i (fun _ l n=>Wq (E:=E) n) fun _ _ e=>e))
end
section
variable{B:ao}{r:dN}{c:Cx}{m:VE}{A:WN}{env:Env}{sc:Sc}{E:Wm->Wl->Prop}
noncomputable abbrev ti(env:Env):W3->Bool->Sem (ForInStep Bool):=fun c r=>if r=Wd then do let ok <-abA c env (eval c env);pure (Yj ok) else pure (Yj r)
theorem tj(env:Env):∀es:List W3,forIn es We (ti env)=pure We:=by
 intro a
 induction a with
 |nil=>
  exact rfl
 |cons e es b=>
  rw[aaW];exact b
theorem yg(ST:SimT B r):∀(fs:List IE){Z:St}{s:Wl}{V:aG}{Q:Bool->Wl->Prop},bU sc fs=Wd->At B A c sc m env V Z s.heap->Fin B no ra V s (rU r c m fs Z) Q E->Ws (Wt B.prog B.w) A (forIn (bw fs) Wd (ti env)) Q E s:=by
 intro g
 induction g with
 |nil=>
  intro Z s V Q b a F;exact Wq (F V s Wd (.refl _ _ _) a.rel rfl)
 |cons e es h=>
  intro Z s V Q b a F;have b:(bj sc e&&bU sc es)=Wd:=b;show Ws _ _ (forIn (aV e::bw es) Wd (ti env)) _ _ _;rw[aaW];refine Wh (Wh (ST.use (aa b) a F fun z Z1 V1 s1 st d f=>Wq ?_))
  induction z using Wn with
  |true=>exact h (ay b) d f
  |false=>
   show Ws _ _ (forIn (bw es) We (ti env)) _ _ _;rw[tj];exact Wq (Fin.ok f (.refl _ _ _) d.rel rfl)
theorem EnvR.less{B:ao}{V:aG}{h:Heap}{env:Env}{m b:VE}(e:EnvR B V h m env)(a:∀x p,get x b=Wb p->get x m=Wb p):EnvR B V h b env:=by
 refine⟨e.kind,e.glob,e.bui,e.locN,e.locB,?_,fun y c=>?_,e.inj,fun hc x p g=>e.clo hc x p (a x p g)⟩
 ·obtain⟨d,n,q⟩:=e.loc;exact⟨d,n,fun x p f g=>q x p f (a x p g)⟩
 ·obtain⟨cc,i,lk,n,j,k,q⟩:=e.cel y c;exact⟨cc,i,lk,n,j,k,fun p g=>q p (a y p g)⟩
end
section
variable{prog:Yi}{w:Y6}{A:WN}{E:Wm->Wl->Prop}{s:Wl}{R':ach->Wl->Prop}
theorem oE{a:W3}{gens:List XH}{scope:adi}{pos:Pos}{d:Nat}{g:XH}{it b:Wm}{env:Env}(c:gens[d]?=Wb g)(e:g.is_async=0)
  (h:Yu (Wt prog w) A (.compLoop (.ListComp a gens scope pos) d it b env) R' s) (self:∀(Q:Wm->Wl->Prop)(E:Wm->Wl->Prop),Q it s->Ws (Wt prog w) A (aeJ it) Q E s):
  Yu (Wt prog w) A (.compStart (.ListComp a gens scope pos) d it b env) R' s:=by
 refine acl ?_;refine wpAny_notedAt ?_;unfold compStart;have e1:aa9 (.ListComp a gens scope pos)=gens:=rfl;rw[e1,c];simp only[afl,e];rw[if_neg (by decide)];refine Wh (abQ (wpAny_ite ?_));split
 ·first
   |exact Wh (Wq (Wq (And.intro rfl h)))
   |exact Wq (And.intro rfl h)
 ·refine Wh (abj (Wh (W7 (Wh (self _ _ (Wq (And.intro rfl h)))))))
theorem oF{a b:W3}{gens:List XH}{scope:adi}{pos:Pos}{d:Nat}{g:XH}{it c:Wm}{env:Env}(e:gens[d]?=Wb g)(f:g.is_async=0)
  (h:Yu (Wt prog w) A (.compLoop (.DictComp a b gens scope pos) d it c env) R' s) (self:∀(Q:Wm->Wl->Prop)(E:Wm->Wl->Prop),Q it s->Ws (Wt prog w) A (aeJ it) Q E s):
  Yu (Wt prog w) A (.compStart (.DictComp a b gens scope pos) d it c env) R' s:=by
 refine acl ?_;refine wpAny_notedAt ?_;unfold compStart;have e1:aa9 (.DictComp a b gens scope pos)=gens:=rfl;rw[e1,e];simp only[afl,f];rw[if_neg (by decide)];refine Wh (abQ (wpAny_ite ?_));split
 ·first
   |exact Wh (Wq (Wq (And.intro rfl h)))
   |exact Wq (And.intro rfl h)
 ·refine Wh (abj (Wh (W7 (Wh (self _ _ (Wq (And.intro rfl h)))))))
end
theorem ItS.self{B:ao}{V:aG}{s:Wl}{I:Addr}{b:Srt}{l:List P}{i k:Nat}{A:WN}(x:ItS B V s.heap I b l i k)(Q:Wm->Wl->Prop)(E:Wm->Wl->Prop)(h:Q (.ref I) s):Ws (Wt B.prog B.w) A (aeJ (.ref I)) Q E s:=by
 have it:=x.it;clear x
 induction b using Mine.Srt.casesOn with
 |tup c vs=>obtain⟨_,_,_,_,_,a,_⟩:=it;exact wpAny_pyIter_tupleiter a h
 |list c vs=>obtain⟨_,_,_,_,_,a,_⟩:=it;exact acD a h
 |own n=>obtain⟨_,_,a⟩:=it;exact acD a h
 |dict n ep=>obtain⟨_,_,a⟩:=it;exact wpAny_pyIter_keyiter a h
 |enum J c vs=>obtain⟨_,_,_,_,_,_,_,_,_,_,_,d,_⟩:=it;exact adP d h
structure tr(prog:Yi)(w:Y6)(e:W3)(gens:List XH)(aU:Wm)(env:Env)(emit:Sem Unit):Prop where
 clauses:aa9 e=gens
 turn:∀{A:WN}{E:Wm->Wl->Prop}{s:Wl}{d:Nat}{tgt iter:W3}{ifs:List W3}{it:Wm}{Q:ad7->Wl->Prop},gens[d]?=Wb ⟨tgt,iter,ifs,0⟩->
  Ws (Wt prog w) A (afa it) (fun r s1=>match r with
   |none=>Q (.done .next) s1
   |some v=>Ws (Wt prog w) A (YT tgt it v) (fun _ s2=>Ws (Wt prog w) A (aay tgt env v) (fun _ s3=>
     Ws (Wt prog w) A (forIn ifs Wd (ti env)) (fun ok s4=>
      if ok=Wd then Ws (Wt prog w) A (dX e d aU env emit) (fun _ s5=>Q (.again (.compLoop e d it aU env)) s5) E s4
      else Q (.again (.compLoop e d it aU env)) s4) E s3) E s2) E s1) E s->Ws (Wt prog w) A (ac1 e d it aU env) Q E s
 loop:∀{A:WN}{R':ach->Wl->Prop}{d:Nat}{it:Wm}(I:Nat->Wl->Prop),(∀n s,I n s->Ws (Wt prog w) A (ac1 e d it aU env) (fun fin s'=>match fin with|.done f=>R' (.ok f) s'|.again c'=>c'=.compLoop e d it aU env/\∃m,m<n/\I m s') (ae8 (Wt prog w) A env fun x s'=>R' (.error x) s') s)->
  ∀n s,I n s->Yu (Wt prog w) A (.compLoop e d it aU env) R' s
 start:∀{A:WN}{R':ach->Wl->Prop}{s:Wl}{d:Nat}{g:XH}{it:Wm},gens[d]?=Wb g->Yu (Wt prog w) A (.compLoop e d it aU env) R' s->
  (∀(Q:Wm->Wl->Prop)(E:Wm->Wl->Prop),Q it s->Ws (Wt prog w) A (aeJ it) Q E s)->Yu (Wt prog w) A (.compStart e d it aU env) R' s
theorem oG(prog:Yi)(w:Y6){a:W3}{gens:List XH}{scope:adi}{pos:Pos}{c:Wm}{env:Env}(d:∀g∈gens,g.is_async=0):
  tr prog w (.ListComp a gens scope pos) gens c env (do let _ <-call (.builtin "list.append") [c,<-eval a env]) where
 clauses:=rfl
 turn:=fun b h=>th b d h
 loop:=fun I turn n s h=>by
  refine codeAny_loop rfl I (fun n s e=>?_) n h;exact wpAny_noted (turn n s e)
 start:=fun b h self=>oE b (d _ (X1 b)) h self
theorem oH(prog:Yi)(w:Y6){c a:W3}{gens:List XH}{scope:adi}{pos:Pos}{D:Addr}{env:Env}(e:∀g∈gens,g.is_async=0):
  tr prog w (.DictComp c a gens scope pos) gens (.ref D) env (do
    let d <-eval c env
    let f <-YW [d] (eval a env)
    Y5 {c.pos with endLine:=a.pos.endLine,endCol:=a.pos.endCol}
    YW [d,f] (aby D d f)) where
 clauses:=rfl
 turn:=fun b h=>rx b e h
 loop:=fun I turn n s h=>by
  refine codeAny_loop rfl I (fun n s i=>?_) n h;exact wpAny_noted (turn n s i)
 start:=fun b h self=>oF b (e _ (X1 b)) h self
section
variable{B:ao}{N:Nat}{D:Addr×Addr}{r:dN}{c:Cx}{A:WN}{env:Env}{sc:Sc}{I:Addr}
noncomputable abbrev RU(B:ao)(env:Env)(m:VE):Heap->aG->Unit->Unit->Prop:=fun h V _ _=>EnvR B V h m env
noncomputable def qv(B:ao)(A:WN)(c:Cx)(sc:Sc)(env:Env)(N:Nat)(D:Addr×Addr)(emit:Sem Unit)(M:VE->Unit->St->R Unit):Prop:=∀(m:VE)(Z:St)(s:Wl)(V:aG)(Q:Unit->Wl->Prop)(E:Wm->Wl->Prop),
 AtN V N D->At B A c sc m env V Z s.heap->(m.any fun e=>e.2.isOdd)=We->Fin B (Xow sc env) (RU B env m) V s (M m () Z) Q E->Ws (Wt B.prog B.w) A emit Q E s
theorem DU{x:Nat}{p:P}{t:IT}{y:P}{m m1:VE}(hf:eS t m=Wd)(a:aD t y m=Wb m1)(g:get x m=Wb p):get x m1=Wb p:=by
 unfold aD at a
 induction hex:m.any fun e=>e.2.isExc using Wn with
 |true=>rw[hex] at a;exact aH a
 |false=>
  rw[hex] at a;dsimp only[cond] at a
  induction t using Mine.IT.casesOn with
  |name z d=>
   dsimp only at a
   induction b:y.isOdd using Wn with
   |true=>rw[b] at a;exact aH a
   |false=>
    rw[b] at a;cases a;have hf:(!has z m)=Wd:=hf;have:x≠z:=fun e=>by subst e;unfold has at hf;rw[g] at hf;cases hf
    rw[be y this];exact g
  |tup xs k d=>
   dsimp only at a;replace a:=vA a;obtain⟨l,e,a⟩:=a
   ·subst e
    induction c:Wf l.length xs.length using Wn with
    |false=>rw[c] at a;exact aH a
    |true=>
     rw[c] at a;cases a;rw[Hu]
     ·exact g
     ·intro f;obtain⟨e,h,rfl⟩:=Wz.mp f;have:=Xb.mp hf e h;unfold has at this;rw[g] at this;exact dg this
end
section
variable{B:ao}{N:Nat}{D:Addr×Addr}{r:dN}{c:Cx}{A:WN}{env:Env}{sc:Sc}{I:Addr}
noncomputable def wO(r:dN)(c:Cx)(t:IT)(ifs:List IE)(m:VE)(d:VE->Unit->St->R Unit):P->Unit->St->R Unit:=fun x a Z=>match aD t x m with
 |some m=>(rU r c m ifs Z).bind fun b Z=>cond b (d m a Z) (.ok a Z)
 |none=>.no
theorem qw(t:IT)(ifs:List IE)(m:VE)(a:VE->Unit->St->R Unit)(b:P)(Z:St):iG r c t ifs m a b () Z=cond (!eS t m) .no (loop (wO r c t ifs m a) b () Z):=rfl
noncomputable abbrev yh(R':ach->Wl->Prop):Wm->Wl->Prop:=fun e s'=>wC s'.heap e->R' (.error e) s'
theorem Fin.hasE{α β:Type}{X:Addr->Prop}{RA:Heap->aG->α->β->Prop}{res:R α}{Q:β->Wl->Prop}{m:VE}{Z:St}{s:Wl}{V:aG}{R':ach->Wl->Prop}(a:At B A c sc m env V Z s.heap)(F:Fin B X RA V s res Q (yh R')):Fin B X RA V s res Q (ae8 (Wt B.prog B.w) A env fun x s'=>R' (.error x) s'):=by
 induction res using Mine.R.casesOn with
 |ok a b=>exact F
 |exc C j k b=>exact fun V' s' e st rl d=>kI (a.amb.stepX st).fram st rl a.rel.base d fun s2 f g h i=>F V' s2 e f g h i
 |no=>exact F
inductive Hx(B:ao)(r:dN)(A:WN)(c:Cx)(env:Env)(sc:Sc)(t:IT)(ifs:List IE)(m:VE)(d:VE->Unit->St->R Unit)(N:Nat)(D:Addr×Addr)(I:Addr)(V0:aG)(s0:Wl)(Q:Unit->Wl->Prop)(E:Wm->Wl->Prop)(n:Nat)(s:Wl):Prop
 |mk(V:aG)(Z:St)(e:Srt)(l:List P)(i k:Nat)(g:n=k+1)(st:Stp (Xow sc env) V0 s0 V s)(h:AtN V N D)(a:At B A c sc m env V Z s.heap)(it:ItS B V s.heap I e l i k)(j:∀b,Iw I e b->s0.heap.get? b=Wc)(o:∀J f vs,e≠ .enum J f vs)(F:Fin B (Xow sc env) (RU B env m) V0 s0 (ar (wO r c t ifs m d) e l i k () Z) Q E)
theorem tw{t:IT}{y:P}{m m1:VE}(d:y.isOdd=We)(c:∀l,y=.tup l->∀p∈l,p.isOdd=We)(b:(m.any fun e=>e.2.isOdd)=We)(a:aD t y m=Wb m1):(m1.any fun e=>e.2.isOdd)=We:=by
 have put:∀{m:VE}{x:Nat}{p:P},(m.any fun e=>e.2.isOdd)=We->p.isOdd=We->((put x p m).any fun e=>e.2.isOdd)=We:=by
  intro m x p h hp;clear d c b a
  induction m with
  |nil=>show(p.isOdd||false)=We;rw[hp];rfl
  |cons e r f=>
   clear t m1 m;rw[Yf,WJ] at h;rw[rR]
   induction Wf e.1 x using Wn with
   |true=>show(p.isOdd||r.any _)=We;rw[hp,h.2];rfl
   |false=>show(e.2.isOdd||(Mine.put x p r).any _)=We;rw[f h.2];simpa using h.1
 unfold aD at a
 induction hex:m.any fun e=>e.2.isExc using Wn with
 |true=>rw[hex] at a;exact aH a
 |false=>
  rw[hex] at a;dsimp only[cond] at a;clear hex
  induction t using Mine.IT.casesOn with
  |name z j=>
   dsimp only at a;rw[d] at a;cases a;exact put b d
  |tup xs k j=>
   dsimp only at a;clear d;replace a:=vA a;obtain⟨l,e,a⟩:=a
   ·subst e
    induction g:Wf l.length xs.length using Wn with
    |false=>rw[g] at a;exact aH a
    |true=>
     rw[g] at a;cases a;have i:∀(xs:List (Nat×Nat))(l:List P)(m:VE),(∀p∈l,p.isOdd=We)->(m.any fun e=>e.2.isOdd)=We->((aD.go xs l m).any fun e=>e.2.isOdd)=We:=by
      intro xs;clear g
      induction xs with
      |nil=>intro l m _ b;induction l<;>exact b
      |cons e xs f=>
       intro l m c b
       induction l using Wv with
       |nil=>exact b
       |cons p l=>exact f l _ (fun q n=>c q (.tail _ n)) (put b (c p (.head _)))
     exact i xs l m (c l rfl) b
theorem qx{e:W3}{gens:List XH}{S:Wm}{emit:Sem Unit}{t:IT}{iter:W3}{ifs:List IE}{d:Nat}{m:VE}{f:VE->Unit->St->R Unit}{V0:aG}{s0 s:Wl}{Q:Unit->Wl->Prop}{R':ach->Wl->Prop}{n:Nat}
  (K:tr B.prog B.w e gens S env emit) (ST:SimT B r) (hh:A.handled=Wc) (hg:gens[d]?=Wb ⟨Bw t,iter,bw ifs,0⟩) (vf:jB sc (.to t)=Wd) (wj:bU sc ifs=Wd) (hf:eS t m=Wd) (T:(m.any fun e=>e.2.isOdd)=We)
  (vH:qv B A c sc env N D (dX e d S env emit) f) (Iu:∀s',Q () s'->R' (.ok .next) s')
  (h:Hx B r A c env sc t ifs m f N D I V0 s0 Q (yh R') n s):Yu (Wt B.prog B.w) A (.compLoop e d (.ref I) S env) R' s:=by
 refine K.loop (Hx B r A c env sc t ifs m f N D I V0 s0 Q (yh R')) (fun n s U=>?_) n s h;obtain⟨V,Z,c9,l,i,k,rfl,st,hJ,a,it,L,W,F⟩:=U;have X:=it.it.rec;refine K.turn hg (wL (tgt:=Bw t) it a.rel hh (fun J ax vs e=>absurd e (W J ax vs)) F (fun s1 hk mv j=>?_) (fun M Y y v s1 hk mv KL hy ho j=>?_))
 ·have C:=a.mv mv T X it.nown it.base;exact Iu s1 (j V s1 () (mv.stp st L) C.rel C.envr)
 ·have C:=a.mv mv T X it.nown it.base;clear it F X;subst hk;have e1:wO r c t ifs m f y () Z=(match aD t y m with
   |some m=>(rU r c m ifs Z).bind fun b Z=>cond b (f m () Z) (.ok () Z)
   |none=>.no):=rfl
  rw[e1] at j;clear e1
  induction G:aD t y m using Wo with
  |none=>rw[G] at j;exact j.elim
  |some m1=>
   rw[G] at j;rw[aT] at j;have Bs:(m1.any fun e=>e.2.isOdd)=We:=tw ho (fun l hl p hp=>by
    clear L W mv KL ho j C;subst hl;clear M Y;obtain⟨_,_,_,_,_,bI⟩:=hy;exact bI.notOdd p hp) T G
   refine kM vf C hh hy G fun s2 O H=>?_;have ro:=(mv.stp st L).trans O;have again:∀E Z3 s3,Stp (Xow sc env) V s2 E s3->At B A c sc m1 env E Z3 s3.heap->Fin B (Xow sc env) (RU B env m) V0 s0 (ar (wO r c t ifs m f) c9 Y (i+1) M () Z3) Q (yh R')->Hx B r A c env sc t ifs m f N D I V0 s0 Q (yh R') (M+1) s3:=by
    intro E Z3 s3 u o P;refine⟨E,Z3,c9,Y,i+1,M,rfl,ro.trans u,(hJ.step (O.le)).step u.le,⟨o.scr,o.rel,o.envr.less fun x p g=>DU hf G g,o.amb⟩,?_,L,W,P⟩;exact(KL.step (O.mono fun _ q=>q.of) C.envr.own).step (u.mono fun _ q=>q.of) H.envr.own
   refine yg ST ifs wj H (Fin.hasE H (Fin.bind0E (RA:=ra) j ro fun z Z3 E s3 z' u rN hz P=>?_));clear mv KL hy ho j C G l;cases hz;have o:=H.step u rN;clear H rN
   induction z using Wn with
   |false=>
    exact⟨rfl,_,XG _,again E Z3 s3 u.any o P⟩
   |true=>
    refine vH m1 Z3 s3 E _ _ ((hJ.step O.le).step u.le) o Bs (Fin.hasE o (Fin.bind0 (RA:=RU B env m1) P (ro.trans u.any) fun _ Z4 V4 s4 _ uJ Kq Tq F4=>?_));refine⟨rfl,_,XG _,again V4 Z4 s4 (u.any.trans uJ) ⟨o.scr,Kq,Tq,o.amb.stepX uJ⟩ F4⟩
end
section
variable{B:ao}{N:Nat}{D:Addr×Addr}{r:dN}{c:Cx}{A:WN}{env:Env}{sc sc0:Sc}{I:Addr}
theorem AR{t:IT}(h:LM sc t=Wd):jB sc (.to t)=Wd:=by induction t<;>exact h
theorem Fin.came{α β:Type}{X:Addr->Prop}{RA:Heap->aG->α->β->Prop}{res:R α}{Q:β->Wl->Prop}{E:Wm->Wl->Prop}{m:VE}{Z:St}{s:Wl}{V:aG}(a:At B A c sc m env V Z s.heap)(F:Fin B X RA V s res Q E):Fin B X RA V s res Q (fun e s'=>wC s'.heap e->ace (Wt B.prog B.w) A env E e s'):=by
 induction res using Mine.R.casesOn with
 |ok a b=>exact F
 |exc C n o b=>
  intro V' s' e st rl f h;obtain⟨p,ob,vs,T,i,g,d,v1⟩:=h;subst i;unfold ace;refine Wh (aaQ g d v1 ?_);rw[if_neg (by simp)];exact el st rl a.rel.base f fun s2 j k l=>F V' s2 _ j k l
 |no=>exact F
theorem vp{e:W3}{gens:List XH}{z:Wm}{emit:Sem Unit}{M:VE->Unit->St->R Unit}(K:tr B.prog B.w e gens z env emit)(S:SimE B r)(ST:SimT B r)(T:A.handled=Wc)(C:qv B A c sc env N D emit M):
  ∀(g:List IG)(d:Nat),gens.drop (d+1)=nG g->nh sc0 sc We g=Wd->g≠ []\/True->qv B A c sc env N D (dX e d z env emit) (lL r c M g):=by
 intro U
 induction U with
 |nil=>
  intro d hd h _;intro m Z s V Q E o a p F;have i:gens[d+1]?=Wc:=by
   have:=congrArg (·[0]?) hd;rw[abb] at this;exact this
  unfold dX;exact K.clauses▸i▸(C m Z s V Q E o a p F)
 |cons W g X=>
  clear C;obtain⟨t,it,ifs⟩:=W;intro d hd h _;intro m Z s V Q E o a p F;have i:gens[d+1]?=Wb ⟨Bw t,aV it,bw ifs,0⟩:=by
   have:=congrArg (·[0]?) hd;rw[abb] at this;exact this
  have Y:gens.drop (d+1+1)=nG g:=by
   have:=congrArg List.tail hd;exact(aet▸this)
  have h:(((LM sc t&&bj sc it) &&bU sc ifs) &&nh sc0 sc We g)=Wd:=h;unfold dX;rw[K.clauses,i];refine Wh (S.use (ay (aa (aa h))) a F fun q Z1 V1 s1 v st j hv f=>Wh (W7 ?_));rw[vg];refine Wh (Wq ?_);refine Fin.y f fun hs f=>?_;rw[qw] at f;clear S a F hd
  induction hf:eS t m using Wn with
  |false=>rw[hf] at f;exact f.elim
  |true=>
   rw[hf] at f;refine Wh (W6 (rk j hv hs fun I G l k ob H u L O=>?_));refine Wh (wpAny_runOwn (K.start i ?_ fun Q' E' x=>u.self (s:={s1 with heap:=s1.heap.push ob}) Q' E' x));have P:=AR (aa (aa (aa h)));refine qx (V0:=V1) (s0:=s1) (Q:=fun _ s'=>Q () s') (n:=k+1) K ST T i P (ay (aa h)) hf p (X (d+1) Y (ay h) (.inr trivial)) (fun s' x=>Wq x) ⟨V1,Z1,G,l,0,k,rfl,bV V1 s1 ob s1.toks,o.step st.le,j.step (bV V1 s1 ob s1.toks) (j.rel.push ob),u,fun b hb=>?_,L,?_⟩
   ·have:b=I:=by
     clear st j hv hs f hf H u O P
     induction G using Mine.Srt.casesOn with
     |enum J ax vs=>exact absurd rfl (L J ax vs)
     |_=>exact hb
    rw[this];exact H
   ·exact(O _ () Z1 fun _ _ e=>e)▸(Fin.came j f)
end
section
variable{B:ao}{N:Nat}{D:Addr×Addr}{r:dN}{c:Cx}{A:WN}{env:Env}{sc:Sc}{I:Addr}
noncomputable def E4(r:dN)(c:Cx)(e:IE)(N:Nat):VE->Unit->St->R Unit:=fun m _ a=>(r.ev c e m a).bind fun v a=>match ai a N with
 |some (.list l)=>cond (v.isOdd||!aq l.length) .no (.ok () (ak a N (.list (l++[v]))))
 |_=>.no
noncomputable def E5(r:dN)(c:Cx)(k v:IE)(N:Nat):VE->Unit->St->R Unit:=fun m _ a=>(r.ev c k m a).bind fun b a=>(r.ev c v m a).bind fun w a=>match b,ai a N with
 |.str s,Wb (.dict es ep)=>cond (w.isOdd||!aq es.length) .no (.ok () (ak a N (.dict (put s w es) (c6 ep s es))))
 |_,_=>.no
theorem AtN.live{V:aG}{Z:St}{h:Heap}{o:O}(x:AtN V N D)(rl:Rel B V Z h)(e:ai Z N=Wb o)(nd:o≠ .dead):ai V N=Wb (Wb D):=by
 rcases x with z|z
 ·exact z
 ·have w:=rl.objs N;rw[z,e] at w;exact absurd w nd
theorem oI{e:IE}(S:SimE B r)(p:bj sc e=Wd):qv B A c sc env N D (do let _ <-call (.builtin "list.append") [.ref D.1,<-eval (aV e) env]) (E4 r c e N):=by
 intro m Z s V Q E t a y F;refine Wh (S.use p a F fun q Z1 V1 s1 v st f hv d=>?_);refine Fin.lst (fun l h d=>?_) d
 ·have er:=(t.step st.le).live f.rel h (by simp);obtain⟨u,vs,C,g,bI⟩:=f.rel.obj er h;refine Fin.n d fun hc d=>?_;rw[WJ] at hc;refine Wh (qo g (by rw[bI.length];exact c4 (bg (by simpa using hc.2))) fun h' n' i j=>Wq ?_);obtain⟨w,k⟩:=je (tk:=s1.toks) f er (.inl rfl) i j (fun vs z=>by cases z) (o:=.list (l++[q])) ⟨u,_,n',j,VRs.step (fun b o x nb=>.refl (i b o x fun z=>nb ⟨N,D,er,.inl z⟩)) (.refl _ _) _ (bI.append (vrC hc.1 hv rfl))⟩;exact Fin.ok d w.any k.rel k.envr
theorem oJ{k v:IE}(S:SimE B r)(i:bj sc k=Wd)(j:bj sc v=Wd):qv B A c sc env N D (do
    let d <-eval (aV k) env
    let e <-YW [d] (eval (aV v) env)
    Y5 {(aV k).pos with endLine:=(aV v).pos.endLine,endCol:=(aV v).pos.endCol}
    YW [d,e] (aby D.1 d e)) (E5 r c k v N):=by
 intro m Z s V Q E l a J F;refine Wh (S.use i a F fun q Z1 V1 s1 d st p K u=>?_);refine Wh (W6 (S.use j p u fun w Z2 T s2 e y f hv F2=>Wh (W7 (W6 ?_))));clear S i j a J F p u;refine Fin.sd (fun x es ep L h F2=>?_) F2
 ·subst L;have er:=((l.step st.le).step y.le).live f.rel h (by simp);clear Z l Z1 st y;obtain⟨M,U,O,g,C,rfl⟩:=f.rel.obj er h;refine Fin.n F2 fun hc F2=>?_;rw[WJ] at hc;obtain⟨t,rfl⟩:=K;clear s V V1 s1 h;refine jY g C (bg (by simpa using hc.2)) fun h' G H=>?_;clear g;obtain⟨P,I⟩:=je (tk:=s2.toks+1) f er (.inl rfl) G H (fun vs z=>by cases z) (o:=.dict (put x w es) (c6 O x es)) ⟨M,_,_,H,ER.step (fun b o R nb=>.refl (G b o R fun z=>nb ⟨N,D,er,.inl z⟩)) (.refl _ _) _ (ER.put hv hc.1 C),rfl⟩;exact Fin.ok F2 P.any I.rel I.envr
end
noncomputable def vq(h:Heap)(I:Addr):Heap:=h.update I fun o=>{o with data:=.freed}
theorem qy(h:Heap)(I:Addr):(vq h I).get? I=Wc:=by
 induction q:(vq h I).get? I using Wo with
 |none=>rfl
 |some o=>
  obtain⟨e,f⟩:=Heap.get?_some_iff.mp q;unfold vq at e;clear q;cases h;simp only[Heap.update,Array.getElem?_modify,if_true] at e;obtain⟨a,_,rfl⟩:=WD.mp e;exact gB f
theorem j0(h:Heap){I b:Addr}(n:b≠I):(vq h I).get? b=h.get? b:=Xd _ _ (Ne.symm n)
section
variable{B:ao}{N:Nat}{D:Addr×Addr}{r:dN}{c:Cx}{m:VE}{A:WN}{env:Env}{sc:Sc}{I C:Addr}{s s' s1:Wl}{V V' V1:aG}{Z:St}{E:Wm->Wl->Prop}
theorem mN{X:Addr->Prop}{h':Heap}(st:Stp X V1 s1 V' s')(f:s1.heap.get? C=Wc)(hs:YD C s'.heap h'):Stp X V1 s1 V' {s' with heap:=h'}:=by
 have a:∀b o,s1.heap.get? b=Wb o->b≠C:=fun b o e q=>by rw[q,f] at e;exact aH e
 refine⟨fun b o e n=>?_,st.le,fun b o e=>?_,st.gens,st.drawn,st.os,fun b o vs e d n=>(hs.2 b (a b o e)).trans (st.fl b o vs e d n),fun b m no n=>let ⟨c,n'⟩:=st.ns b m no n;?_⟩
 ·obtain⟨sl,z⟩:=st.keep b o e n;exact⟨sl,(hs.2 b (a b o e)).trans z⟩
 ·obtain⟨g,z,q⟩:=st.ex b o e;exact⟨g,(hs.2 b (a b o e)).trans z,q⟩
 ·obtain⟨h,_,_,i,_⟩:=n;exact⟨c,ir n' fun o e _=>.refl ((hs.2 b (a b h i)).trans e)⟩
theorem ry{h:Heap}{a:Str->Option Wm}(n:h.Ns C a):NoSeq h (fun b=>b=C):=fun b o c e=>by
 obtain rfl:=c.symm;obtain⟨f,es,ep,g,d,_⟩:=n;exact((Wi (e.symm.trans g)).symm)▸⟨fun xs n hd=>(by rw[hd] at d;cases d),fun vs q t hd=>(by rw[hd] at d;cases d)⟩
theorem rz{h h':Heap}(hs:YD C h h'):Keep (fun b=>own V b\/b=C) h h':=fun b o e n=>.refl ((hs.2 b fun q=>n (.inr q)).trans e)
theorem kU{h h':Heap}{a:Str->Option Wm}(rl:Rel B V Z h)(n:h.Ns C a)(no:¬own V C)(c:B.h₀.get? C=Wc)(hs:YD C h h'):Rel B V Z h':=
 rl.stepQ (ry n) (rz hs) (fun b q=>hs.2 b fun z=>no (z▸q)) fun b o e=>(hs.2 b fun z=>by rw[z,c] at e;exact aH e).trans (rl.base b o e)
theorem DV{c h h':Heap}{C' l:Nat}{m:P}{e:Wm}{v:Str->Option Wm}(x:ExcR B c h V C' l m e)(n:h.Ns C v)(f:∃o,c.get? C=Wb o)(hs:YD C h h'):ExcR B c h' V C' l m e:=by
 obtain⟨a,d,vs,w,k,sl,sd,tb,e1,e2,e3,y,i,z,p,A,D,⟨E,F,G,r⟩,H,j⟩:=x;obtain⟨S,I⟩:=f;obtain⟨U,es,ep,J,K,_⟩:=id n;have s:∀b o vs,h.get? b=Wb o->o.data=.fields vs->b≠C:=fun b o vs g d q=>by rw[q,J] at g;obtain rfl:=Wi g;rw[K] at d;cases d
 refine⟨a,d,vs,w,k,sl,sd,tb,e1,e2,e3,y,i,z,(hs.2 a (s a _ vs p rfl)).trans p,(hs.2 d fun q=>by rw[q,I] at i;exact rG i).trans A,D,⟨E,F,VR.stepQ (ry n) (rz hs) (.refl _ _) _ r G,r⟩,H,?_⟩;rcases j with j|⟨T,oT,ts,L,M,t3,N,O,t,u,Q,R⟩
 ·exact .inl j
 ·exact .inr ⟨T,oT,ts,L,M,t3,N,O,(hs.2 T (s T _ ts t u)).trans t,u,Q,R⟩
theorem DW{h h':Heap}{f:Str->Option Wm}(e:EnvR B V h m env)(t:(m.any fun e=>e.2.isOdd)=We)(n:h.Ns C f)(i:C≠env.locals)(hs:YD C h h'):EnvR B V h' m env:=by
 obtain⟨F,es,ep,j,k,_⟩:=id n;have l:∀{x:Nat}{p:P}{u:Wm},get x m=Wb p->VR B h V p u->VR B h' V p u:=fun g r=>by
  refine VR.stepQ (ry n) (rz hs) (.refl _ _) _ ?_ r;clear e n i hs j k r;obtain⟨e2,w,rfl⟩:=iZ g;have:=XN.mp t e2 w;simpa using this
 refine⟨e.kind,e.glob,e.bui,e.locN,e.locB,?_,fun y A=>?_,e.inj,e.clo⟩
 ·obtain⟨f,ns,q⟩:=e.loc;exact⟨f,ns.sameBut hs (Ne.symm i),fun x p a b=>let ⟨v,c,d⟩:=q x p a b;⟨v,c,l b d⟩⟩
 ·obtain⟨cc,D,lk,no,E,⟨o,g,d⟩,q⟩:=e.cel y A;exact⟨cc,D,lk,no,E,⟨o,(hs.2 cc fun z=>by rw[z,j] at g;obtain rfl:=Wi g;rw[k] at d;cases d).trans g,d⟩,fun p s=>let ⟨u,a,b⟩:=q p s;⟨u,a,l s b⟩⟩
theorem Fin.compEnd{α β:Type}{X Y:Addr->Prop}{RC:Heap->aG->α->β->Prop}{s0:Wl}{f:aG}{i:Env}{q:VE}{Q0:β->Wl->Prop}{use:Option (Wm->Sem Unit)}{Qr:Wm->Wl->Prop}{j:Wm}{k:St->R α}{res:R Unit}
  (F:Fin B Y RC V1 s1 (res.bind fun _ c=>k c) Q0 E) (y:∀b o,B.h₀.get? b=Wb o->s1.heap.get? b=Wb o) (l:Stp no V1 s1 f s0) (r:∀b,X b->s1.heap.get? b=Wc) (D:s1.heap.get? C=Wc) (G:∃m,s0.heap.Ns C m) (t:¬own f C) (H:B.h₀.get? C=Wc) (hl:i.locals=C)
  (I:∀c V' s',Stp no V1 s1 V' s'->Le f s0.heap V'->Rel B V' c s'.heap->EnvR B V' s'.heap q i->Fin B Y RC V1 s1 (k c) Q0 E->ac2 (Wt B.prog B.w) A E use Qr j C (.ok .next) s'):
  Fin B X (RU B i q) f s0 res (fun _ s'=>ac2 (Wt B.prog B.w) A E use Qr j C (.ok .next) s') (yh (ac2 (Wt B.prog B.w) A E use Qr j C)):=by
 obtain⟨m,n⟩:=G;obtain⟨J,_,_,p,_⟩:=id n
 induction res using Mine.R.casesOn with
 |ok a c=>exact fun V' s' v st rl K=>I c V' s' ((l.any.trans st).fresh r) st.le rl K F
 |exc C' dP aP c=>
  intro V' s' e st rl u L;obtain⟨M,h⟩:=st.ns C m t n;have nown:¬own V' C:=st.le.notOwn p t;refine⟨M,h,fun h' hs N O=>?_⟩;have P:=kU rl h nown H hs;have x:=mN ((l.any.trans st).fresh r) D hs;clear n st nown O rl;obtain⟨a,ob,vs,T,rfl,g,d,v1⟩:=L;have Q:a≠C:=fun z=>by
   clear p u hs N x v1;obtain⟨on,es,ep,S,U,_⟩:=h;rw[z,S] at g;obtain rfl:=Wi g;rw[U] at d;cases d
  unfold PySem.passOn;refine Wh (aaQ (s:={s' with heap:=h'}) ((hs.2 a Q).trans g) d v1 ?_);rw[if_neg (by simp)];refine Wh (el (s:={s' with heap:=h'}) x P y ((DV u h ⟨J,p⟩ hs).earlier fun b z=>l.absent z) fun s2 V W Z=>wpAny_throw ?_);exact F V' s2 _ V.any W Z
 |no=>exact F
end
theorem DX{α:Type}{l:List α}{n:Nat}{x y:α}(e:ai l n=Wb x):ai (l++[y]) n=Wb x:=by
 rw[aK] at e ⊢;rw[X8 (Xn.mp e).1];exact e
theorem rA{sc:Sc}(h:bY (sc.map (·.1))=Wd):∀x∈(aw sc).names,x.2=.local->(aw sc).names.lookup x.1=Wb .local:=by
 intro x a b;obtain⟨e,c,rfl⟩:=Wz.mp a;clear a;show((sc.map fun e=>(af e.1,aI e.2)).lookup (af e.1))=_;rw[c5,io h c];exact congrArg Wb b
section
variable{B:ao}{r:dN}{c:Cx}{m:VE}{A:WN}{env:Env}{sc aR:Sc}{I:Addr}{s:Wl}{V:aG}{Z:St}{E:Wm->Wl->Prop}
theorem DY{I:Addr}{a:Srt}(c:∀J b vs,a≠ .enum J b vs):Iw I a I:=by
 induction a using Mine.Srt.casesOn with
 |enum J b vs=>exact absurd rfl (c J b vs)
 |_=>rfl
theorem DZ{I b:Addr}{a:Srt}(d:∀J c vs,a≠ .enum J c vs)(e:Iw I a b):b=I:=by
 induction a using Mine.Srt.casesOn with
 |enum J c vs=>exact absurd rfl (d J c vs)
 |_=>exact e
theorem D0{h:Heap}{C I:Addr}{b:Str->Option Wm}{o:Obj}{vs:Array Wm}(n:h.Ns C b)(g:h.get? I=Wb o)(d:o.data=.fields vs):C≠I:=fun z=>by
 obtain⟨e,es,ep,c,a,_⟩:=n;rw[<-z,c] at g;rw[Wi g,d] at a;cases a
theorem D1{h:Heap}{C I:Addr}{a:Str->Option Wm}(n:h.Ns C a)(b:C≠I):(vq h I).Ns C a:=by
 obtain⟨c,es,ep,d,e⟩:=n;exact⟨c,es,ep,by rw[j0 _ b];exact d,e⟩
theorem js{α β:Type}{Y:Addr->Prop}{RC:Heap->aG->α->β->Prop}{Q0:β->Wl->Prop}{use:Option (Wm->Sem Unit)}{Qr:Wm->Wl->Prop}{e':W3}{pos:Pos}{AS:Sem Wm}{oa:Obj}{o:O}{t:IT}{it:IE}{ifs:List IE}{x:List IG}
  {M:Nat->VE->Unit->St->R Unit} {emit:Addr->Env->Sem Unit} {fin:Nat->St->R α} (OK:aJ B) (S:SimE B r) (ST:SimT B r)
  (Iv:aa9 e'=nG (.mk t it ifs::x)) (kT:kz sc aR=Wd) (Ts:nh sc aR Wd (.mk t it ifs::x)=Wd) (hc:c.hd=We) (hm:(m.any fun e=>e.2.isOdd)=We)
  (nz:∀(s:Wl)(Q:Wm->Wl->Prop),Q (.ref s.heap.objs.size) {s with heap:=s.heap.push oa}->Ws (Wt B.prog B.w) A AS Q E s)
  (hO:∀(h:Heap)(V:aG),OR B (h.push oa) V o (h.objs.size,h.objs.size))
  (K:∀D jC,tr B.prog B.w e' (nG (.mk t it ifs::x)) (.ref D) jC (emit D jC))
  (hM:∀N D C,qv B A c aR (cS aR C env) N (D,D) (emit D (cS aR C env)) (M N))
  (a:At B A c sc m env V Z s.heap)
  (F:Fin B Y RC V s ((r.ev c it m Z).bind fun lg Z=>cond (c8 Z lg) ((iG r c t ifs (az aR m) (lL r c (M Z.length) x) lg () (Z++[o])).bind fun _ J=>fin Z.length J) .no) Q0 E)
  (jc:∀Z1 V1 s1 D C J V' s' m',At B A c sc m env V1 Z1 s1.heap->s1.heap.get? C=Wc->B.h₀.get? C=Wc->AtN V' Z1.length (D,D)->Stp no V1 s1 V' s'->Rel B V' J s'.heap->EnvR B V' s'.heap m' (cS aR C env)->Fin B Y RC V1 s1 (fin Z1.length J) Q0 E->ac2 (Wt B.prog B.w) A E use Qr (.ref D) C (.ok .next) s'):
  Ws (Wt B.prog B.w) A (ado e' (aw aR) env pos AS We (eval (aV it) env) use) Qr E s:=by
 have hh:=a.amb.hd hc;have hw:(((LM aR t&&bj sc it) &&bU aR ifs) &&nh sc aR We x)=Wd:=Ts;refine wpAny_comprehension_free Iv (vg it env) (tc a kT hm).1 rfl (rA (aa kT)) (S.use (ay (aa (aa hw))) a F fun q Z1 V1 s1 v st p hv j=>?_);refine Fin.y j fun hs j=>?_;refine rk p hv hs fun I c9 l k ob hI DN eL oq=>nz _ _ ?_;have P:((s1.heap.push ob)).get? (s1.heap.push ob).objs.size=Wc:=aC _;have lw:XJ< (s1.heap.push ob).objs.size:=by rw[Yt];exact aax (eI OK p)
 generalize hD:(s1.heap.push ob).objs.size=D at P lw;generalize i:({s1 with heap:=(s1.heap.push ob).push oa}:Wl)=s3;have e3:s3.heap=(s1.heap.push ob).push oa:=by rw[<-i]
 have u:∀b o,s1.heap.get? b=Wb o->s3.heap.get? b=Wb o:=fun b o e=>by rw[e3];exact Wr _ (Wr _ e)
 have T:s1.heap.get? D=Wc:=by
  refine Xf ?_;rw[<-hD,Yt];exact Xp _
 have KX:Stp no V1 s1 (V1++[Wb (D,D)]) s3:=⟨.of_grow u,Le.snoc T T,fun _ o e=>⟨o,u _ _ e,id⟩,by rw[<-i],by rw[<-i],by rw[<-i],fun _ _ _ e _ _=>u _ _ e,fun _ m _ n=>⟨m,n.keeps u⟩⟩;have rN:Rel B (V1++[Wb (D,D)]) (Z1++[o]) s3.heap:=(p.rel.push ob).alloc (fun b o e=>by rw[e3];exact Wr _ e) P P lw lw (by rw[e3,<-hD];exact hO _ _);have a3:At B A c sc m env (V1++[Wb (D,D)]) (Z1++[o]) s3.heap:=p.step KX rN;clear pos st hv hs lw KX rN;obtain⟨_,U,hX,W⟩:=tc a3 kT hm;generalize hC:s3.heap.objs.size=C at U hX W;have QG:s3.heap.get? C=Wc:=hC▸(aC _);have ON:s1.heap.get? C=Wc:=jr u QG;have QH:B.h₀.get? C=Wc:=p.rel.nb ON;refine pG ?_;rw[hC];generalize G:({s3 with heap:=ab2 (s3.heap.push {cls:=.type "dict",data:=.dict #[]}) (aw aR).names}:Wl)=f;have e4:f.heap=ab2 (s3.heap.push {cls:=.type "dict",data:=.dict #[]}) (aw aR).names:=by rw[<-G]
 rw[<-e4] at U W;have QI:∀b o,s1.heap.get? b=Wb o->f.heap.get? b=Wb o:=fun b o e=>W _ _ (u _ _ e);have L:∀b o,(s1.heap.push ob).get? b=Wb o->f.heap.get? b=Wb o:=fun b o e=>W _ _ (by rw[e3];exact Wr _ e);generalize H:({f with heap:=vq f.heap I}:Wl)=s0;have X:s0.heap=vq f.heap I:=by rw[<-H]
 have QJ:∀b o,s1.heap.get? b=Wb o->b≠I:=fun b o e z=>by rw[z,hI] at e;exact aH e
 have E8:∀b o,s1.heap.get? b=Wb o->s0.heap.get? b=Wb o:=fun b o e=>by rw[X,j0 _ (QJ b o e)];exact QI b o e
 have QK:∀b o,s0.heap.get? b=Wb o->f.heap.get? b=Wb o:=fun b o e=>by
  by_cases z:b=I
  ·rw[z,X,qy] at e;exact aH e
  ·rw[X,j0 _ z] at e;exact e
 have OO:Stp no V1 s1 (V1++[Wb (D,D)]) s0:=⟨.of_grow E8,Le.snoc T T,fun _ o e=>⟨o,E8 _ _ e,id⟩,by rw[<-H,<-G,<-i],by rw[<-H,<-G,<-i],by rw[<-H,<-G,<-i],fun _ _ _ e _ _=>E8 _ _ e,fun _ m _ n=>⟨m,n.keeps E8⟩⟩;have OP:Stp (Xow aR (cS aR C env)) (V1++[Wb (D,D)]) s0 (V1++[Wb (D,D)]) f:=.grow QK (by rw[<-H]) (by rw[<-H]) (by rw[<-H]);have Tt:∀b,Xow aR (cS aR C env) b->s1.heap.get? b=Wc:=fun b hb=>jr u (hX b hb);have eN:ai (V1++[Wb (D,D)]) Z1.length=Wb (Wb (D,D)):=by rw[aK,<-p.rel.len];simp
 clear v hI e3 u T a3 hX W QG e4 QI QJ E8 QK;obtain⟨mp,OQ,_⟩:=id U.envr.loc;have MA:C≠I:=by
  obtain⟨o',vs,g,d,_⟩:=DN.it.rec I (DY eL);exact D0 OQ (L _ _ g) d
 have KU:s0.heap.Ns C mp:=by rw[X];exact D1 OQ MA
 have KY:Stp no V1 {s1 with heap:=s1.heap.push ob} (V1++[Wb (D,D)]) f:=⟨.of_grow L,Le.snoc P P,fun _ o e=>⟨o,L _ _ e,id⟩,by rw[<-G,<-i],by rw[<-G,<-i],by rw[<-G,<-i],fun _ _ _ e _ _=>L _ _ e,fun _ m _ n=>⟨m,n.keeps L⟩⟩;have KZ:ItS B (V1++[Wb (D,D)]) f.heap I c9 l 0 k:=DN.step KY ⟨fun b hb=>hb.elim⟩;rw[qw] at j;clear L OQ MA
 induction hf:eS t (az aR m) using Wn with
 |false=>rw[hf] at j;exact j.elim
 |true=>
 rw[hf] at j;dsimp only[cond,Bool.not] at j;rw[oq _ () (Z1++[o]) fun _ _ e=>DX e] at j;have QL:(nG (.mk t it ifs::x))[0]?=Wb ⟨Bw t,aV it,bw ifs,0⟩:=rfl;refine(K D (cS aR C env)).start QL ?_ fun Q' E' hq=>KZ.self (s:=f) Q' E' hq;have K0:=vp (sc0:=sc) (K D (cS aR C env)) S ST hh (hM Z1.length D C) x 0 rfl (ay hw) (.inr trivial);refine qx (V0:=V1++[Wb (D,D)]) (s0:=s0) (n:=k+1) (Q:=fun _ s'=>ac2 (Wt B.prog B.w) A E use Qr (.ref D) C (.ok .next) s') (K D (cS aR C env)) ST hh QL (AR (aa (aa (aa hw)))) (ay (aa hw)) hf (oB hm) K0 (fun s' h=>h) ⟨_,_,c9,l,0,k,rfl,OP,.inl eN,U,KZ,fun b hb=>?_,eL,?_⟩
 ·rw[DZ eL hb,X];exact qy _ _
 ·refine j.compEnd p.rel.base OO Tt ON ⟨mp,KU⟩ U.envr.locN QH rfl fun J V' s' uX Tu yG Bz F'=>?_;exact jc Z1 V1 s1 D C J V' s' _ p ON QH (AtN.step Tu (.inl eN)) uX yG Bz F'
end
noncomputable def K1(N:Nat)(a:St):R P:=match ai a N with
 |some (.list l)=>.ok (.list l) (ak a N .dead)
 |_=>.no
noncomputable def K2(N:Nat)(a:St):R P:=.ok (.ref N) a
theorem K3{α:Type}(x:R P)(b:P->St->Bool)(f:P->St->R α):(x.bind fun v Z=>cond (!b v Z) .no (f v Z))=x.bind fun v Z=>cond (b v Z) (f v Z) .no:=by
 have:(fun v Z=>cond (!b v Z) .no (f v Z))=fun v Z=>cond (b v Z) (f v Z) .no:=by funext v Z;induction b v Z<;>rfl
 rw[this]
theorem qz{α β:Type}(x:R P)(b:P->St->Bool)(f:P->St->R α)(g:α->St->R β):((x.bind fun v Z=>cond (b v Z) (f v Z) .no).bind g)=x.bind fun v Z=>cond (b v Z) ((f v Z).bind g) .no:=by
 rw[aT]
 congr 1
 funext v Z;induction b v Z<;>rfl
section
variable{B:ao}{r r0:dN}{c:Cx}{m:VE}{A:WN}{env:Env}{sc aR:Sc}{s:Wl}{V:aG}{Z:St}{E:Wm->Wl->Prop}
theorem Stp.kill{X:Addr->Prop}{V1 a:aG}(le:Le V1 s.heap a):Stp X V1 s a s:=⟨fun _ _ e _=>.refl e,le,fun _ o e=>⟨o,e,id⟩,rfl,rfl,rfl,fun _ _ _ e _ _=>e,fun _ m _ n=>⟨m,n⟩⟩
theorem mf{s:Wl}{Q:Wm->Wl->Prop}(h:Q (.ref s.heap.objs.size) {s with heap:=s.heap.push {cls:=.type "list",data:=.seq #[]}}):Ws (Wt B.prog B.w) A (newList []) Q E s:=adj h (Xz _)
theorem mh{s:Wl}{Q:Wm->Wl->Prop}(h:Q (.ref s.heap.objs.size) {s with heap:=s.heap.push {cls:=.type "dict",data:=.dict #[]}}):Ws (Wt B.prog B.w) A newDict Q E s:=Wh (acW (Wq h))
noncomputable def mi(r:dN)(c:Cx)(aR:Sc)(m:VE)(t:IT)(it:IE)(ifs:List IE)(b:List IG)(M:Nat->VE->Unit->St->R Unit)(o:O)(fin:Nat->St->R P)(Z:St):R P:=
 (r.ev c it m Z).bind fun a Z=>cond (c8 Z a) ((iG r c t ifs (az aR m) (lL r c (M Z.length) b) a () (Z++[o])).bind fun _ d=>fin Z.length d) .no
theorem mj(T:Bo)(e:IE)(t:IT)(it:IE)(ifs:List IE)(a:List IG)(p:Nat):aQ T r c (.comp e (.mk t it ifs::a) aR p) m Z=cond (c.hd||m.any fun e=>e.2.isOdd) .no (mi r c aR m t it ifs a (E4 r c e) (.list []) K1 Z):=by
 unfold mi;rw[<-K3];rfl
theorem kV(T:Bo)(e v:IE)(t:IT)(it:IE)(ifs:List IE)(a:List IG)(p:Nat):aQ T r c (.dcomp e v (.mk t it ifs::a) aR p) m Z=cond (c.hd||m.any fun e=>e.2.isOdd) .no (mi r c aR m t it ifs a (E5 r c e v) (.dict [] 0) K2 Z):=by
 unfold mi;rw[<-K3];rfl
theorem jt:∀(a:List IG),∀g∈nG a,g.is_async=0:=by
 intro b
 induction b with
 |nil=>
  intro g h;exact nomatch h
 |cons c a d=>
  obtain⟨t,it,ifs⟩:=c;intro g h;rcases Ww.mp h with rfl|h
  ·rfl
  ·exact d g h
theorem D2{e:IE}{d:List IG}{p:Nat}{Q:Wm->Wl->Prop}(k:aJ B)(S:SimE B r)(ST:SimT B r)(b:bj sc (.comp e d aR p)=Wd)(a:At B A c sc m env V Z s.heap)(F:Fin B no (VR B) V s (aQ B.T r c (.comp e d aR p) m Z) Q E):Ws (Wt B.prog B.w) A (eval (aV (.comp e d aR p)) env) Q E s:=by
 have b:((kz sc aR&&bj aR e) &&nh sc aR Wd d)=Wd:=b
 match d,b,F with
 | [],_,F=>exact F.elim
 |.mk t it ifs::d,b,F=>
 rw[mj] at F
 induction hc:(c.hd||m.any fun e=>e.2.isOdd) using Wn with
 |true=>rw[hc] at F;exact F.elim
 |false=>
 rw[hc] at F;rw[WJ] at hc;unfold mi at F;refine js (use:=Wc) (oa:={cls:=.type "list",data:=.seq #[]}) (o:=.list []) (emit:=fun D g=>do let _ <-call (.builtin "list.append") [.ref D,<-eval (aV e) g]) k S ST rfl (aa (aa b)) (ay b) hc.1 hc.2 (fun s Q h=>mf h) (fun h V=>⟨rfl,[],0,WW _ rfl,rfl⟩) (fun D g=>oG _ _ (jt _)) (fun N D C=>oI S (ay (aa b))) a F ?_;intro Z1 V1 s1 D C z V' s' G H n q u st rl i f;obtain⟨v,ns,_⟩:=i.loc;refine⟨v,ns,fun h' hs=>?_⟩;refine Fin.l f fun l j f=>?_
 ·obtain⟨x,y,v2⟩:=(kU rl ns i.locN q hs).kill (u.live rl j (by simp)) j;exact Fin.ok f (s':={s' with heap:=h'}) ((mN st n hs).trans (Stp.kill y)) x v2
theorem AU{e v:IE}{d:List IG}{p:Nat}{Q:Wm->Wl->Prop}(k:aJ B)(S:SimE B r)(ST:SimT B r)(b:bj sc (.dcomp e v d aR p)=Wd)(a:At B A c sc m env V Z s.heap)(F:Fin B no (VR B) V s (aQ B.T r c (.dcomp e v d aR p) m Z) Q E):Ws (Wt B.prog B.w) A (eval (aV (.dcomp e v d aR p)) env) Q E s:=by
 have b:(((kz sc aR&&bj aR e) &&bj aR v) &&nh sc aR Wd d)=Wd:=b
 match d,b,F with
 | [],_,F=>exact F.elim
 |.mk t it ifs::d,b,F=>
 rw[kV] at F
 induction hc:(c.hd||m.any fun e=>e.2.isOdd) using Wn with
 |true=>rw[hc] at F;exact F.elim
 |false=>
 rw[hc] at F;rw[WJ] at hc;unfold mi at F;refine js (use:=Wc) (oa:={cls:=.type "dict",data:=.dict #[]}) (o:=.dict [] 0) (emit:=fun D f=>do
    let g <-eval (aV e) f
    let i <-YW [g] (eval (aV v) f)
    Y5 {(aV e).pos with endLine:=(aV v).pos.endLine,endCol:=(aV v).pos.endCol}
    YW [g,i] (aby D g i)) k S ST rfl (aa (aa (aa b))) (ay b) hc.1 hc.2 (fun s Q h=>mh h) (fun h V=>⟨rfl,[],0,WW _ rfl,rfl,rfl⟩) (fun D f=>oH _ _ (jt _)) (fun N D C=>oJ S (ay (aa (aa b))) (ay (aa b))) a F ?_
 intro Z1 V1 s1 D C y V' s' G H l n q st rl j u;obtain⟨x,ns,_⟩:=j.loc;refine⟨x,ns,fun h' hs=>?_⟩;refine Fin.ok u (s':={s' with heap:=h'}) (mN st l hs) (kU rl ns j.locN n hs) ?_;exact⟨D,rfl,q.imp (fun z=>⟨_,z,rfl⟩) id⟩
end
section
variable{B:ao}{r r0:dN}{c:Cx}{m:VE}{A:WN}{env:Env}{sc aR:Sc}{s:Wl}{V:aG}{Z:St}{Q:Flow->Wl->Prop}{E:Wm->Wl->Prop}
theorem tA{s1 s':Wl}{V1 V':aG}{Z1 f:St}{C D:Addr}{p:P}{x b:Nat}{j:Str->Option Wm}(G:jB sc (.to (.name x b))=Wd)(H:A.handled=Wc)(I:(m.any fun e=>e.2.isOdd)=We)(k:At B A c sc m env V1 Z1 s1.heap)(n:s1.heap.get? C=Wc)(J:B.h₀.get? C=Wc)(st:Stp no V1 s1 V' s')(rl:Rel B V' f s'.heap)(hv:VR B s'.heap V' p (.ref D))(ns:s'.heap.Ns C j)(s:¬own V' C)
  (F:Fin B (dK env) (RX B env) V1 s1 ((ck B.T r c (.to (.name x b)) p m f).bind fun m Z=>.ok (.next,m) Z) Q E):
  ac2 (Wt B.prog B.w) A E (Wb (aay (.Name (af x) (ag b)) env)) (fun _ s'=>Q .next s') (.ref D) C (.ok .next) s':=by
 replace F:Fin B (dK env) (RX B env) V1 s1 ((cond c.hd .no (ofO (aD (.name x b) p m) fun m=>.ok m f)).bind fun m Z=>.ok (.next,m) Z) Q E:=F
 induction hd:c.hd using Wn with
 |true=>rw[hd] at F;exact F.elim
 |false=>
  rw[hd] at F
  induction a:aD (.name x b) p m using Wo with
  |none=>rw[a] at F;exact F.elim
  |some m1=>
   have h:p.isOdd=We:=by
    unfold aD at a
    induction q:p.isOdd using Wn with
    |false=>rfl
    |true=>
     rw[q] at a
     induction d:m.any fun e=>e.2.isExc using Wn with
     |true=>rw[d] at a;exact aH a
     |false=>rw[d] at a;exact aH a
   have K:(m1.any fun e=>e.2.isOdd)=We:=by
    unfold aD at a
    induction d:m.any fun e=>e.2.isExc using Wn with
    |true=>rw[d] at a;exact aH a
    |false=>
     rw[d] at a;rw[h] at a;cases a;exact tw (t:=.name x b) h (fun l L=>by
      subst L;obtain⟨_,_,_,_,_,bI⟩:=hv;exact bI.notOdd) I (by unfold aD;rw[d];dsimp only[cond];rw[h])
   refine kM (t:=.name x b) G (k.step st rl) H hv a fun s2 u y=>?_;obtain⟨M,i⟩:=u.ns C j s ns;have N:C≠env.locals:=fun z=>by
    obtain⟨_,⟨o,_,_,g,_⟩,_⟩:=k.envr.loc;rw[<-z,n] at g;exact aH g
   refine⟨M,i,fun h' hs=>?_⟩;exact Fin.ok (a▸F) (v:=Flow.next) (s':={s2 with heap:=h'}) (mN ((Stp.any (X:=dK env) st).trans (u.mono fun _ q=>q.of)) n hs) (kU y.rel i s J hs) ⟨rfl,DW y.envr K i N hs⟩
theorem rB{x d:Nat}{e:IE}{p:Nat}(S:SimE B r)(f:wD sc (.asg (.to (.name x d)) e p)=Wd)(i:aa8 (aV e) (Wb (.Name (af x) (ag d))) (ag p).line env=pure We)(a:At B A c sc m env V Z s.heap)(F:Fin B (dK env) (RX B env) V s (ba B.T r c (.asg (.to (.name x d)) e p) m Z) Q E):Ws (Wt B.prog B.w) A (exec (i0 (.asg (.to (.name x d)) e p)) env) Q E s:=by
 have f:((jB sc (.to (.name x d)) &&bj sc e) &&Iq (.to (.name x d)) e)=Wd:=f;refine adS (S.use (ay (aa f)) a F fun q Z1 V1 s1 v st j hv b=>?_) i;replace b:Fin B (dK env) (RX B env) V1 s1 ((cond c.hd .no (ofO (aD (.name x d) q m) fun m=>.ok m Z1)).bind fun m Z=>.ok (.next,m) Z) Q E:=b
 induction hd:c.hd using Wn with
 |true=>rw[hd] at b;exact b.elim
 |false=>
  rw[hd] at b;unfold aD at b
  induction hex:m.any fun e=>e.2.isExc using Wn with
  |true=>rw[hex] at b;exact b.elim
  |false=>
   rw[hex] at b
   induction g:q.isOdd using Wn with
   |true=>rw[g] at b;exact b.elim
   |false=>
    rw[g] at b;exact jb (aa (aa f)) j hex hv g fun s2 k h=>Fin.ok b (k.mono fun _ q=>q.of) h.rel ⟨rfl,h.envr⟩
theorem tB{x f:Nat}{e:IE}{p:Nat}(I:aJ B)(J:r.ev=aQ B.T r0)(S:SimE B r)(n:SimE B r0)(K:SimT B r0)(G:wD sc (.asg (.to (.name x f)) e p)=Wd)(a:At B A c sc m env V Z s.heap)(F:Fin B (dK env) (RX B env) V s (ba B.T r c (.asg (.to (.name x f)) e p) m Z) Q E):Ws (Wt B.prog B.w) A (exec (i0 (.asg (.to (.name x f)) e p)) env) Q E s:=by
 have sw:∃b,aa8 (aV e) (Wb (.Name (af x) (ag f))) (ag p).line env=pure b/\(b=Wd->e.isComp=Wd):=by
  clear I J S n K G a F;cases e<;>first
   |exact⟨_,rfl,fun _=>rfl⟩
   |exact⟨We,rfl,fun h=>dg h⟩
 obtain⟨b,L,M⟩:=sw
 induction b using Wn with
 |false=>exact rB S G L a F
 |true=>
  have O:((jB sc (.to (.name x f)) &&bj sc e) &&Iq (.to (.name x f)) e)=Wd:=G;have QM:=aa (aa O);have i:=ay (aa O);show Ws _ _ (exec (.Assign [.Name (af x) (ag f)] (aV e) (ag p)) env) Q E s;rw[exec_Assign_Name_used _ _ _ _ L];refine Wh (W7 ?_);replace F:Fin B (dK env) (RX B env) V s ((r.ev c e m Z).bind fun v Z=>(ck B.T r c (.to (.name x f)) v m Z).bind fun m Z=>.ok (.next,m) Z) Q E:=F;rw[J] at F;clear J S G L O
  induction e using Mine.IE.casesOn with
  |comp e j aR P=>
   have i:((kz sc aR&&bj aR e) &&nh sc aR Wd j)=Wd:=i;clear p M;cases j with
   |nil=>exact F.elim
   |cons g j=>
   obtain⟨t,it,ifs⟩:=g;rw[mj] at F
   induction d:(c.hd||m.any fun e=>e.2.isOdd) using Wn with
   |true=>rw[d] at F;exact F.elim
   |false=>
   rw[d] at F;rw[WJ] at d;dsimp only[cond] at F;unfold mi at F;rw[qz] at F;simp only[aT] at F;show Ws _ _ ((do let _ <-ado (.ListComp (aV e) (nG (.mk t it ifs::j)) (aw aR) (ag P)) (aw aR) env _ (newList []) We (eval (aV it) env) (Wb (aay (.Name (af x) (ag f)) env)):Sem Unit) >>=fun _=>pure .next) Q E s;refine Wh (Wh (Xg (js (Q0:=Q) (use:=Wb (aay (.Name (af x) (ag f)) env)) (Qr:=fun _ s'=>Q .next s') (oa:={cls:=.type "list",data:=.seq #[]}) (o:=.list []) (emit:=fun D k=>do let _ <-call (.builtin "list.append") [.ref D,<-eval (aV e) k]) (fin:=fun N q=>(K1 N q).bind fun v Z=>(ck B.T r c (.to (.name x f)) v m Z).bind fun m Z=>R.ok (Fl.next,m) Z) I n K rfl (aa (aa i)) (ay i) d.1 d.2 (fun s Q h=>mf h) (fun h V=>⟨rfl,[],0,WW _ rfl,rfl⟩) (fun D k=>oG _ _ (jt _)) (fun N D C=>oI n (ay (aa i))) a F ?_) (fun _ s' U=>Wq (Wq U)) fun _ _ e=>e));intro Z1 V1 s1 D C q V' s' m' W X Y H st rl u y;clear i;obtain⟨mp,ns,_⟩:=u.loc;refine Fin.bl y fun l ho y=>?_
   ·have er:=H.live rl ho (by simp);clear H;obtain⟨kJ,MB,v2⟩:=rl.kill er ho;exact tA QM (a.amb.hd d.1) d.2 W X Y (st.trans (Stp.kill MB)) kJ v2 ns (jq MB u.locN ns) y
  |dcomp e v j aR P=>
   have i:(((kz sc aR&&bj aR e) &&bj aR v) &&nh sc aR Wd j)=Wd:=i;clear M;cases j with
   |nil=>exact F.elim
   |cons g j=>
   obtain⟨t,it,ifs⟩:=g;rw[kV] at F
   induction d:(c.hd||m.any fun e=>e.2.isOdd) using Wn with
   |true=>rw[d] at F;exact F.elim
   |false=>
   rw[d] at F;rw[WJ] at d;dsimp only[cond] at F;unfold mi at F;rw[qz] at F;simp only[aT] at F;show Ws _ _ ((do let _ <-ado (.DictComp (aV e) (aV v) (nG (.mk t it ifs::j)) (aw aR) (ag P)) (aw aR) env _ newDict We (eval (aV it) env) (Wb (aay (.Name (af x) (ag f)) env)):Sem Unit) >>=fun _=>pure .next) Q E s;refine Wh (Wh (Xg (js (Q0:=Q) (use:=Wb (aay (.Name (af x) (ag f)) env)) (Qr:=fun _ s'=>Q .next s') (oa:={cls:=.type "dict",data:=.dict #[]}) (o:=.dict [] 0) (emit:=fun D k=>do
    let kv <-eval (aV e) k
    let vv <-YW [kv] (eval (aV v) k)
    Y5 {(aV e).pos with endLine:=(aV v).pos.endLine,endCol:=(aV v).pos.endCol}
    YW [kv,vv] (aby D kv vv)) (fin:=fun N q=>(K2 N q).bind fun v Z=>(ck B.T r c (.to (.name x f)) v m Z).bind fun m Z=>R.ok (Fl.next,m) Z) I n K rfl (aa (aa (aa i))) (ay i) d.1 d.2 (fun s Q h=>mh h) (fun h V=>⟨rfl,[],0,WW _ rfl,rfl,rfl⟩) (fun D k=>oH _ _ (jt _)) (fun N D C=>oJ n (ay (aa (aa i))) (ay (aa i))) a F ?_) (fun _ s' U=>Wq (Wq U)) fun _ _ e=>e))
   intro Z1 V1 s1 D C q V' s' m' W X Y H st rl u y;clear i;obtain⟨mp,ns,_⟩:=u.loc;refine tA (p:=.ref Z1.length) QM (a.amb.hd d.1) d.2 W X Y st rl ?_ ns u.locN y;exact⟨D,rfl,H.imp (fun z=>⟨_,z,rfl⟩) id⟩
  |_=>exact dg (M rfl)
end
theorem yj(fd:acH)(h1:fd.params=jX)(a:fd.defaults=.none):aeC fd ⟨[],[]⟩=pure []:=by
 obtain⟨nm,c,ps,body,sc,d,cl,e,kd,b,pm,f,cd,g,h⟩:=fd;dsimp only at h1 a;subst h1 a;rfl
theorem pI{pos:Pos}{a b:Int}{c d:Wm}(l:List Wm)(h:aeS l)(e:abO pos (l++[acd a,acd b,c])=Wb d):abO pos l=Wb d\/d=c:=by
 fun_induction aeS l with
 |case1=>
  simp only[List.nil_append,abO,acd] at e;split at e
  ·right;exact(Wi e).symm
  ·exact aH e
 |case2 x t y u z r g=>
  simp only[abL,abO] at e ⊢;split at e
  ·left;rename_i f;rw[if_pos f];exact e
  ·rename_i f;rw[if_neg f];exact g h e
 |case3=>exact h.elim
structure Fb(B:ao):Prop where
 ns:∃mg,B.h₀.Ns XS mg/\∀k,B.h₀.BuiltinsAt mg (B.tabA k)
theorem tC(env:Env):∀(names:List (Str×Ya))(d:List (Str×Addr)),(d.map (·.2)).Nodup->(names.map (·.1)).Nodup->(∀x∈names,x.1∉d.map (·.1))->(∀x∈d,env.cells.lookup x.1=Wb x.2)->
  (∀x∈names,x.2=.free->(env.cells.lookup x.1).isSome=Wd)->(∀b f c,(b∈d.map (·.1)\/(b,.free)∈names)->(f∈d.map (·.1)\/(f,.free)∈names)->env.cells.lookup b=Wb c->env.cells.lookup f=Wb c->b=f)->((dJ env names d).map (·.2)).Nodup:=by
 intro w
 induction w with
 |nil=>
  intro d h _ _ _ _ _;exact h
 |cons y r u=>
  obtain⟨n,k⟩:=y;intro d h j l m hs o;rw[Xs,Xu] at j;rw[ru];by_cases g:k==.free
  ·rw[if_pos g];have g:=beq_iff_eq.mp g;subst g;obtain⟨a,i⟩:=Xt.mp (hs (n,.free) (.head _) rfl);have i:env.cells.lookup n=Wb a:=i;refine u _ ?_ j.2 ?_ ?_ (fun x hx=>hs x (.tail _ hx)) ?_
   ·rw[Xs,Xu];refine⟨fun hm=>?_,h⟩;obtain⟨e,p,z⟩:=Wz.mp hm;have h1:=m e p;rw[z,i] at h1;have:=o n e.1 a (.inr (.head _)) (.inl (Wz.mpr ⟨e,p,rfl⟩)) i h1;exact l (n,.free) (.head _) (this▸Wz.mpr ⟨e,p,rfl⟩)
   ·intro x hx hm;rcases Ww.mp hm with hm|hm
    ·exact j.1 (Wz.mpr ⟨x,hx,hm⟩)
    ·exact l x (.tail _ hx) hm
   ·intro x hx;rcases Ww.mp hx with rfl|hx
    ·show env.cells.lookup n=Wb ((env.cells.lookup n).getD 0);rw[i];rfl
    ·exact m x hx
   ·have v:∀b,(b∈((n,(env.cells.lookup n).getD 0)::d).map (·.1)\/(b,.free)∈r)->(b∈d.map (·.1)\/(b,.free)∈(n,Yp)::r):=by
     rintro b (q|q)
     ·rcases Ww.mp q with rfl|q
      ·exact .inr (.head _)
      ·exact .inl q
     ·exact .inr (.tail _ q)
    exact fun b f c s t=>o b f c (v b s) (v f t)
  ·rw[if_neg g];exact u d h j.2 (fun x hx=>l x (.tail _ hx)) m (fun x hx=>hs x (.tail _ hx)) fun b f c s t=>o b f c (s.imp id (.tail _)) (t.imp id (.tail _))
theorem pJ:∀{l:List Nat},bY l=Wd->(l.map af).Nodup:=by
 intro a
 induction a with
 |nil=>
  intro _;exact Y3
 |cons x r b=>
  intro h;have:=dF h;rw[Xs,Xu];exact⟨fun q=>this.1 (mM q),b this.2⟩
theorem vt:∀{m:VE},aW m=Wd->∀e∈m,get e.1 m=Wb e.2:=by
 intro m
 induction m with
 |nil=>exact fun _ _ h=>absurd h WA
 |cons c m b=>
  intro h e he;obtain⟨y,p⟩:=c;have h:(!has y m&&aW m)=Wd:=h;rw[j3];rcases Ww.mp he with rfl|he
  ·rw[Wx];rfl
  ·have a:=b (ay h) e he;have:Wf y e.1=We:=lE fun q=>by
    have h1:=aa h;rw[Xy] at h1;unfold has at h1;rw[q,a] at h1;exact gB h1
   rw[this];exact a
theorem Hz{B:ao}{h:Heap}{V:aG}{cl:List (Str×Addr)}:∀{m:List (Nat×P)},(∀e∈m,GL B.h₀ h V cl e.1 e.2.isOdd (VR B h V e.2))->VRc B h V cl m:=by
 intro a
 induction a with
 |nil=>
  intro _;exact trivial
 |cons e m b=>
  intro h;exact And.intro (h e (.head _)) (b fun e c=>h e (.tail _ c))
theorem wQ{B:ao}{h:Heap}{V:aG}{cl:List (Str×Addr)}:∀{m:List (Nat×P)},VRc B h V cl m->∀e∈m,GL B.h₀ h V cl e.1 e.2.isOdd (VR B h V e.2)
 |e::m,x,f,hf=>by
  rcases Ww.mp hf with rfl|hf
  ·exact x.1
  ·exact wQ x.2 f hf
section
variable{B:ao}{r:dN}{c:Cx}{m:VE}{Z:St}{A:WN}{s:Wl}{V:aG}{env:Env}{sc aR:Sc}{Q:Wm->Wl->Prop}{E:Wm->Wl->Prop}
theorem oK(a:At B A c sc m env V Z s.heap)(b:kz sc aR=Wd):∀x∈(aw aR).names,x.2=.free->(env.cells.lookup x.1).isSome=Wd:=by
 intro x d hf;obtain⟨e,f,rfl⟩:=Wz.mp d;clear d;obtain⟨y,k⟩:=e;have g:=dr b f;have h:k=3:=by
  have hf:aI k=.free:=hf;exact Qf k (YB g.1) hf
 clear b f hf;obtain⟨cc,i,lk,_⟩:=a.envr.cel y (cT a (g.2 h));rw[lk];rfl
theorem AV(a:At B A c sc m env V Z s.heap)(h:kz sc aR=Wd)(i:aW (cM aR m)=Wd)(l:((cM aR m).any fun e=>e.2.isOdd)=We):VRc B s.heap V (dJ env (aw aR).names []) (cM aR m):=by
 refine Hz fun e d=>?_;obtain⟨x,p⟩:=e;have g:=vt i _ d;have hf:(aR.any fun k=>Wf k.1 x&&Wf k.2 3)=Wd:=(W1.mp d).2;clear i;obtain⟨⟨y,k⟩,j,b⟩:=YK.mp hf;rw[W5] at b;have e1:=b9 b.1;have e2:=b9 b.2;dsimp only at e1 e2;clear b;subst e1 e2;obtain⟨cc,t,lk,n,o,r,q⟩:=a.envr.cel y (cT a ((dr h j).2 rfl));obtain⟨v,rfl,hv⟩:=q p (oA (f:=fun e=>aR.any fun k=>Wf k.1 e.1&&Wf k.2 3) (fun _=>hf) g);have:=XN.mp l _ d;exact⟨cc,v,⟨((kR env (af y) (aw aR).names [] (oK a h) (.inl rfl)).2 (.inl (Wz.mpr ⟨(y,3),j,rfl⟩))).trans lk,o⟩,n,r,by simpa using this,hv⟩
theorem yk(a:At B A c sc m env V Z s.heap)(f:kz sc aR=Wd):((dJ env (aw aR).names []).map (·.2)).Nodup:=by
 refine tC env _ [] Y3 ?_ (fun _ _ h=>absurd h WA) (fun _ h=>absurd h WA) (oK a f) ?_
 ·show((aR.map fun e=>(af e.1,aI e.2)).map (·.1)).Nodup;have:=pJ (aa f);simpa [XB,Function.comp_def] using this
 ·have d:∀b,(b∈(([]:List (Str×Addr)).map (·.1))\/(b,Yp)∈(aw aR).names)->∃y,b=af y/\(env.kindOf (af y)=Wb .cell\/env.kindOf (af y)=Wb .free):=by
   rintro b (q|q)
   ·exact absurd q WA
   ·have q:(b,Yp)∈aR.map fun e=>(af e.1,aI e.2):=q;obtain⟨⟨y,k⟩,j,l⟩:=Wz.mp q;injection l with h1 g;have i:=dr f j;exact⟨y,h1.symm,cT a (i.2 (EZ k i.1 g))⟩
  intro b n cc h1 g o p;obtain⟨r,rfl,t⟩:=d b h1;obtain⟨u,rfl,k2⟩:=d n g;rw[a.envr.inj r u cc t k2 o p]
theorem HA{b:IE}{p:Nat}(BL:Fb B)(j:bj sc (.lam b aR p)=Wd)(a:At B A c sc m env V Z s.heap)(F:Fin B no (VR B) V s (aQ B.T r c (.lam b aR p) m Z) Q E):Ws (Wt B.prog B.w) A (eval (aV (.lam b aR p)) env) Q E s:=by
 have j:((kz sc aR&&aR.all (fun e=>Wf e.2 1||Wf e.2 3)) &&bj aR b)=Wd:=j;have y:=aa (aa j);have R:En aR b=Wd:=by
  show((bj aR b&&aR.all (fun e=>Wf e.2 1||Wf e.2 3)) &&bY (aR.map (·.1)))=Wd;rw[ay j,ay (aa j),aa y];rfl
 replace F:Fin B no (VR B) V s (match c.tb with
  |some k=>match ai Z k with
   |some (.tab I)=>cond (Wf k I&&!((cM aR m).any fun e=>e.2.isOdd) &&aW (cM aR m)) (.ok (.clo b aR p (cM aR m)) (ak Z k (.tab k))) .no
   |_=>.no
  |none=>.no) Q E:=F
 induction J:c.tb using Wo with
 |none=>rw[J] at F;exact F.elim
 |some k=>
 rw[J] at F;dsimp only at F;refine Fin.tb F fun I S F=>?_
 ·cases hc:(Wf k I&&!((cM aR m).any fun e=>e.2.isOdd) &&aW (cM aR m)) with
  |false=>rw[hc] at F;exact F.elim
  |true=>
  rw[hc] at F;have hk:=b9 (aa (aa hc));subst hk;obtain⟨cd,U,hC,K⟩:=a.amb.cod k J;obtain⟨mg,W,yE⟩:=BL.ns;have X:=jH (aw aR) env (oK a y);have Y:=yk a y;have IB:=AV a y (ay hc) (by have:=ay (aa hc);simpa using this);have er:∃cc,ai V k=Wb (Wb cc):=by
   have w:=a.rel.objs k;rw[S] at w
   induction e:ai V k using Wo with
   |none=>rw[e] at w;exact w.elim
   |some x=>induction x using Wo with
    |none=>rw[e] at w;cases w
    |some cc=>exact⟨cc,rfl⟩
  obtain⟨cc,er⟩:=er;obtain⟨gA,D,ps,G,l,L⟩:=a.rel.obj er S;have t:own V cc.1:=⟨k,cc,er,.inl rfl⟩;have C:=hC.keeps a.rel.base;rw[<-D] at C;have QN:=W.keeps a.rel.base;have K6:s.heap.BuiltinsAt mg cc.1:=by
   obtain⟨bm,ob,b1,b2,b3,b4,b5,b6⟩:=yE k;exact⟨bm,ob,b1,b2,b3,D▸b4,a.rel.base _ _ b5,b6⟩
  have Tx:XS≠cc.1:=fun z=>by
   obtain⟨o,_,_,g,_⟩:=W;have:=a.rel.new _ t;rw[<-z,g] at this;exact rG this
  have nown:∀b,s.heap.get? b=Wc->¬own V b:=fun b hb q=>by obtain⟨o,z⟩:=a.rel.has q;exact aH (hb.symm.trans z)
  refine kla_eval rfl ?_
  induction hf:abO (ag p) ps.toList using Wo with
  |none=>
   refine kla_makeFunction (mg:=mg) X a.envr.glob QN U C G l hf Tx K6 fun h u h' tk M H d9 N OU=>?_;have f:∀ad o,s.heap.get? ad=Wb o->ad≠cc.1->(h'.push (kla_obj "<lambda>" (env.qual++"<lambda>") jX (aV b) (aw aR) (dJ env (aw aR).names []) ((mg "__name__").getD .none) h u)).get? ad=Wb o:=fun ad o e z=>Wr _ (M ad o z e);generalize v:h'.push (kla_obj "<lambda>" (env.qual++"<lambda>") jX (aV b) (aw aR) (dJ env (aw aR).names []) ((mg "__name__").getD .none) h u)=i at f;have QO:i.get? cc.1=Wb (ae1 (ps++ #[acd (ag p).line,acd (ag p).col,.ref h])):=by rw[<-v];exact Wr _ OU
   have nc:¬own V h:=nown _ (Xf H);have O:i.CodeRec (.ref h) (B.tabQ k):=by rw[<-v,<-K];exact N.keeps fun b o e=>Wr _ e
   have kp:Keep (own V) s.heap i:=fun b o e n=>.refl (f b o e fun z=>n (z▸t));have st:Stp no V s V {s with heap:=i,toks:=tk}:=by
    refine⟨fun b o e n=>.refl (f b o e fun z=>n (.inl (z▸t))),.refl _ _,fun b o e=>?_,rfl,rfl,rfl,fun b o vs e d n=>f b o e fun z=>n (.inl (z▸t)),fun b m no n=>⟨m,ir n fun o e _=>.refl (f b o e fun z=>no (z▸t))⟩⟩;by_cases z:b=cc.1
    ·subst z;exact(Wi (G.symm.trans e))▸⟨_,QO,fun nf=>absurd rfl (nf _)⟩
    ·exact⟨o,f b o e z,id⟩
   have rl:Rel B V (ak Z k (.tab k)) i:=a.rel.turn er (fun b o e z _=>f b o e z) ⟨gA,D,_,QO,by
     have:=TriplesOk_snoc (ag p).line (ag p).col (.ref h) ps.toList l;simpa using this,fun pos cv yF=>by
     rw[Array.toList_append] at yF;rcases pI ps.toList l yF with yF|yF
     ·obtain⟨P,rfl,n1,r1⟩:=L pos cv yF;exact⟨P,rfl,n1,ij kp (fun c q=>by cases q;exact n1) r1⟩
     ·subst yF;exact⟨h,rfl,nc,O⟩⟩
   refine F V _ _ st rl ?_;exact⟨h'.objs.size,_,_,rfl,(nown _ (Xf (Wj H (Xj d9)))),by rw[<-v];exact WW _ rfl,rfl,rfl,rfl,rfl,rfl,rfl,rfl,by rw[<-K] at O;exact O,fun P q=>by cases q;exact nc,rfl,⟨Y,R⟩,VRc.step kp (.refl _ _) _ IB⟩
  |some cv=>
   obtain⟨h,rfl,nc,N⟩:=L _ _ hf;refine kla_makeFunctionHit (mg:=mg) X a.envr.glob QN U C G l hf K6 fun u h' tk M H=>?_;have f:∀ad o,s.heap.get? ad=Wb o->(h'.push {cls:=.type "function",data:=.func (kla_fn "<lambda>" (env.qual++"<lambda>") jX (aV b) (aw aR) (dJ env (aw aR).names []) ((mg "__name__").getD .none) (.ref h) u)}).get? ad=Wb o:=fun ad o e=>Wr _ (M ad o e);generalize v:h'.push {cls:=.type "function",data:=.func (kla_fn "<lambda>" (env.qual++"<lambda>") jX (aV b) (aw aR) (dJ env (aw aR).names []) ((mg "__name__").getD .none) (.ref h) u)}=i at f;refine F V _ _ (.grow f) (a.rel.turn er (fun b o e _ _=>f b o e) (OR.grow (o:=.tab k) f (.refl _ _) ⟨gA,D,ps,G,l,L⟩)) ?_;exact⟨h'.objs.size,_,_,rfl,(nown _ (Xf H)),by rw[<-v];exact WW _ rfl,rfl,rfl,rfl,rfl,rfl,rfl,rfl,by rw[K];exact N.keeps f,fun P q=>by cases q;exact nc,rfl,⟨Y,R⟩,VRc.step (.of_grow f) (.refl _ _) _ IB⟩
end
section
variable{B:ao}{r:dN}{c:Cx}{m:VE}{Z:St}{A:WN}{s:Wl}{V:aG}{env:Env}{sc aR:Sc}{Q:Wm->Wl->Prop}{E:Wm->Wl->Prop}
theorem vw{cl:List (Str×Addr)}(h:(cl.map (·.2)).Nodup){x y:Str}{c:Addr}(h1:cl.lookup x=Wb c)(a:cl.lookup y=Wb c):x=y:=by
 induction cl with
 |nil=>exact aH h1
 |cons e t f=>
  rw[Xs,Xu] at h;rw[Xl] at h1 a
  induction d:x==e.1 using Wn with
  |true=>
   rw[d] at h1;cases h1
   induction b:y==e.1 using Wn with
   |true=>rw[beq_iff_eq.mp d,beq_iff_eq.mp b]
   |false=>
    rw[b] at a;exact absurd (Wz.mpr ⟨_,mem_of_lookup a,rfl⟩) h.1
  |false=>
   rw[d] at h1
   induction b:y==e.1 using Wn with
   |true=>
    rw[b] at a;cases a;exact absurd (Wz.mpr ⟨_,mem_of_lookup h1,rfl⟩) h.1
   |false=>
    rw[b] at a;exact f h.2 h1 a
theorem AW{x p1 p:Nat}(OK:aJ B)(S:SimE B r)(J:bj sc (.callv x p1 p)=Wd)(a:At B A c sc m env V Z s.heap)(F:Fin B no (VR B) V s (aQ B.T r c (.callv x p1 p) m Z) Q E):Ws (Wt B.prog B.w) A (eval (aV (.callv x p1 p)) env) Q E s:=by
 have J:((m8 sc x&&ng x) &&!Wf x dw)=Wd:=J;have v2:=ay (aa J);obtain⟨q,u,F⟩:=Fin.ofO F;refine Fin.cl F fun b j _ m1 e F=>?_
 ·subst e
  induction wz:c.d with
  |zero=>rw[wz] at F;exact F.elim
  |succ d=>
   rw[wz] at F;refine Fin.n F fun Dk F=>?_;refine ad2 (trees:=[]) rfl (aew (pX a (aa (aa J)) v2 u fun v hv=>?_) (fc v2));clear J v2;obtain⟨ad,o,fd,rfl,Tz,g,hc,hd,hb,hs,hp,hg,yE,zQ,C4,Bx,⟨jG,H⟩,IB⟩:=hv;have H:((bj j b&&j.all (fun e=>Wf e.2 1||Wf e.2 3)) &&bY (j.map (·.1)))=Wd:=H;refine callWith_function (o:=o) (fd:=fd) (first:=[]) (dI (env:=env) (pos:=ag p) (as:=[]) (acM ⟨⟨g,hd⟩,?_⟩));show Ws _ A (call (.ref ad) [] []) Q E s;refine aah ?_;have K:=a.amb.room;clear J Tz C4;obtain⟨l,my,n5⟩:=K.fr;have O:=K.dep;have P:=K.un;rw[wz] at O P;have D3:∀y,fd.scope.names.lookup (af y)=(ap j y).map aI:=fun y=>by rw[hs];exact c5 j y
   have f:∀y k,ap j y=Wb k->k=1\/k=3:=fun y k t=>by
    have:=Xb.mp (ay (aa H)) _ (aS t);clear hd hb hs hp hg yE zQ Bx jG IB H K my n5 O P D3 t;rcases XR.mp this with z|z
    ·exact .inl (b9 z)
    ·exact .inr (b9 z)
   refine kla_callFunE (Xi (W0 _ _) O) g hd (by rw[hs];rfl) (by rw[hs];rfl) hb zQ ?_;rw[yj fd hp Bx];refine Wq (ac3 (fun y hy t=>?_) (fun _ h=>absurd h WA) (fun h1 qS K8=>?_) (by rw[hs];rfl))
   ·rw[hs] at hy;clear hc hd hb hs hp hg yE zQ Bx jG IB K my n5 O P D3 f;obtain⟨e,he,rfl⟩:=Wz.mp hy;have:=Xb.mp (ay (aa H)) _ he;clear H l hy he;obtain⟨y,k⟩:=e;clear H;rcases XR.mp this with z|z
    ·have z:=b9 z;dsimp only at z;subst z;cases t
    ·have z:=b9 z;dsimp only at z;subst z;cases t
   ·have kp:∀b o,s.heap.get? b=Wb o->h1.get? b=Wb o:=fun b o e=>K8.extBut b o (XA (Yo e)) (Wr _ e);generalize D:newEnv fd.scope s.heap.objs.size fd.globals fd.closure (fd.qualname++".<locals>.") (Wb ad) fd.code Wc fd.builtins=i;generalize qj:({s with heap:=h1,toks:=s.toks+([]:List (Str×Wm)).length}:Wl)=s1;have e1:s1.heap=h1:=by rw[<-qj]
    have I:∀b o,s.heap.get? b=Wb o->s1.heap.get? b=Wb o:=fun b o e=>by rw[e1];exact kp b o e
    have st:Stp no V s V s1:=.grow I (by rw[<-qj]) (by rw[<-qj]) (by rw[<-qj]);have L:s.heap.get? s.heap.objs.size=Wc:=aC _;have nb:B.h₀.get? s.heap.objs.size=Wc:=a.rel.nb L;have M:¬own V s.heap.objs.size:=a.rel.notOwn_size;have G:∀y,i.kindOf (af y)=(ap j y).map aI:=fun y=>by rw[<-D];exact D3 y
    have U:∀y,(i.kindOf (af y)=Wb .cell\/i.kindOf (af y)=Wb .free)->ap j y=Wb 3:=by
     intro y hy;have W:∀q,i.kindOf (af y)=Wb q->(q=.cell\/q=.free)->ap j y=Wb 3:=by
      intro q u hc;rw[G] at u;clear P D3 qS K8 kp e1 I st L nb M G hy;obtain⟨k,N,X⟩:=WD.mp u;clear u;rcases f y k N with rfl|rfl
      ·rcases hc with hc|hc<;>(subst hc;cases X)
      ·exact N
     clear qS K8 kp e1 I st L nb M G u hc;rcases hy with hy|hy
     ·exact W _ hy (.inl rfl)
     ·exact W _ hy (.inr rfl)
    have envr:EnvR B V s1.heap m1 i:=by
     refine⟨by rw[<-D];show fd.scope.kind=_;rw[hs];rfl,by rw[<-D];exact hg,by rw[<-D];exact yE,by rw[<-D];exact M,by rw[<-D];exact nb,⟨_,by rw[<-D,e1];exact qS,fun y p t _=>?_⟩,fun y hy=>?_,fun y z cc hy hz l1 l2=>?_,fun⟨y,hy⟩=>?_⟩
     ·rw[G] at t;clear kp e1 I st L nb M G U u hc;obtain⟨k,N,X⟩:=WD.mp t;clear t;rcases f y k N with rfl|rfl<;>cases X
     ·have h3:=U y hy;have hh:has y m1=Wd:=by
       have:=XN.mp Dk _ (aS h3);clear st L nb M G U u hc hy h3
       induction z:has y m1 using Wn with
       |true=>rfl
       |false=>exact absurd (by simp[z]) this
      clear st L nb M G U u hc hy h3;obtain⟨p0,Mh⟩:=Xt.mp (show(get y m1).isSome=Wd from hh);clear hh;obtain⟨cc,w,⟨lk,Ew⟩,n1,ic,_,hr⟩:=wQ (VRc.step (.of_grow I) (.refl _ _) _ IB) _ (wm Mh);refine⟨cc,Wb w,by rw[<-D];exact lk,n1,Ew,ic,fun p gp=>?_⟩;clear lk Ew n1 ic;exact(Wi (Mh.symm.trans gp))▸⟨w,rfl,hr⟩
     ·rw[<-D] at l1 l2;exact eX (vw jG l1 l2)
     ·rw[G] at hy;clear U u hc;obtain⟨k,N,X⟩:=WD.mp hy;clear hy;rcases f y k N with rfl|rfl<;>cases X
    have scr:EN j i:=⟨fun y q=>(by rcases f y 0 q with z|z<;>cases z),fun y q=>by rw[G,q];rfl,fun y q=>(by rcases f y 2 q with z|z<;>cases z),fun y q=>.inr (by rw[G,q];rfl)⟩;have n9:i.frame=Wb i.locals:=D▸rfl;have f0:FrOK B V s1.heap (i::l):=.cons envr n9 (n5.step st.k st.le);have Y:At B (A.deeper i) ⟨d,c.hd,Wc⟩ j m1 i V Z s1.heap:=by
     refine⟨scr,(a.rel.grow I),envr,⟨⟨i,l,YC my,rfl,f0⟩,?_,?_,K.hd,fun k t=>aH t⟩⟩
     ·exact yL (m:=3) (d:=d) 1 O rfl
     ·exact yL (m:=40) (d:=d) 3 P rfl
    refine⟨(OK.nolimit.keeps a.rel.base).keeps I,kla_codeExpr ?_⟩;refine S _ _ _ _ _ _ _ _ _ _ _ (aa (aa H)) Y.scr Y.rel Y.envr Y.amb ?_
    revert F
    clear scr n9 g Y
    induction Hc:r.ev ⟨d,c.hd,Wc⟩ b m1 Z using Mine.R.casesOn with
    |no=>exact lz
    |ok pv Z2=>exact fun F V2 s2 v bp kJ hv=>F _ _ _ (st.trans bp) kJ hv
    |exc C dP aP Z2=>
     intro F V2 s2 e bp kJ hx;have fm:uV B (A.deeper i) i V2 s2.heap:=⟨i,l,YC my,rfl,f0.step bp.k bp.le⟩;unfold leaving;refine Wh (kI fm (st.trans bp) kJ a.rel.base (hx.earlier fun b z=>st.absent z) fun s3 uJ rN EX _=>?_);exact el uJ rN a.rel.base EX fun s4 Ow Kq Ox=>F _ _ _ Ow Kq Ox
end
end Mine
end
noncomputable section
open PySem PySem.Calls PySem.W
namespace Mine
noncomputable abbrev jg(P:Addr):List Wm:=[.ref P,.type "Exception",.type "BaseException",.type "object"]
structure XD where
 nm:Str
 q:Str
 N:Addr
 P:Addr
 bs:List Wm
 hdct:Bool
 sn:List Str
 sub:List Wm
 ab:Bool
 col:Option Bool
 dd:Option Addr
 k0:Option Wm
 k1:Option Wm
 k2:Option Wm
 k3:Option Wm
 k5:Option Wm
noncomputable abbrev XD.o(x:XD)(C:Addr):Obj:=excClassObj x.nm x.q C x.N x.bs (jg x.P) x.hdct x.sn x.sub x.ab x.col x.dd x.k0 x.k1 x.k2 x.k3 x.k5 "Exception.__new__"
noncomputable abbrev eB(C t:Addr):Obj:={cls:=.ref C,data:=.fields #[.ref t,.none,.none,.none,.bool We,.none]}
section
variable{prog:Yi}{w:Y6}{A:WN}{R:ach->Wl->Prop}{h:Heap}{g:Array GenState}{d:Drawn}{t:Nat}{os:OsState}
variable{X:XD}{C:Addr}
theorem lJ(C P:Addr)(T:String)(a:T="Exception" \/T="BaseException" \/T="object"):(YM C::jg P).contains (.type T)=Wd:=by
 rcases a with rfl|rfl|rfl<;>simp
theorem tH(C P:Addr)(T:String)(a:T="AttributeError" \/T="NameError"):(YM C::jg P).contains (.type T)=We:=by
 rcases a with rfl|rfl<;>simp
theorem Fd{M:acN}{s:Wl}{E:Wm->Wl->Prop}{Q:Unit->Wl->Prop}{b:Sem Bool}{K G:Sem Unit}(h:Ws M A b (fun z s'=>z=Wd/\Ws M A K Q E s') E s):Ws M A (b>>=fun z=>if(!z)=Wd then G else K) Q E s:=by
 refine Wh (Xg h (fun z s1 h1=>?_) fun _ _ e=>e);obtain⟨hz,h1⟩:=h1;subst hz;exact h1
theorem K9{M:acN}{s:Wl}{E:Wm->Wl->Prop}{Q:Unit->Wl->Prop}{b:Sem Wm}{mb:Wm->Sem (Option String)}{id:String}{J G:Sem Unit}{F:Wm->String->Sem Unit}(h:Ws M A b (fun z s'=>Ws M A (mb z) (fun n s2=>n=Wb id/\Ws M A J Q E s2) E s') E s):Ws M A (b>>=fun base=>mb base>>=fun x=>match x with|some a=>if(ady a !=ady id)=Wd then F base a else J|_=>G) Q E s:=by
 refine Wh (Xg h (fun z s1 h1=>Wh (Xg h1 (fun n s2 c=>?_) fun _ _ e=>e)) fun _ _ e=>e);obtain⟨hz,c⟩:=c;subst hz;exact wpAny_ite_false (by simp) c
theorem rC{M:acN}{E:Wm->Wl->Prop}{ar:List Wm}{Q:Unit->Wl->Prop}(a:h.get? C=Wb (X.o C))
  (b:Q () ⟨h,g,d,t,os⟩):Ws M A (aaG "Exception.__new__" ⟨.ref C::ar,[]⟩) Q E ⟨h,g,d,t,os⟩:=by
 have F:=X9;unfold aaG;rw[F.newKind,F.newSplit,F.newRow];refine acS rfl ?_;refine Fd ?_;refine Wh (m:=loadHead C) (Xq a (Wq (And.intro rfl ?_)));refine Fd ?_;refine X6 a (And.intro (lJ C X.P "Exception" (.inl rfl)) ?_);refine K9 (id:="Exception.__new__") ?_;refine wpAny_staticBase_exc a (ad8 a (And.intro rfl ?_));repeat wp_step
 exact b
theorem HC{ar:List Wm}(a:h.get? C=Wb (X.o C))
  (c:R (.ok (.ret (.ref (h.objs.size+1)))) ⟨(h.push {cls:=.type "tuple",data:=.seq ar.toArray}).push (eB C h.objs.size),g,d,t,os⟩) (e:ar.length<=Ys):
  Yu (Wt prog w) A (.builtin "Exception.__new__" ⟨.ref C::ar,[]⟩) R ⟨h,g,d,t,os⟩:=by
 have F:=X9;have f:=F.ends;refine codeAny_builtinAt F.entry ?_;unfold ae4.«BaseException.__new__»;refine wpAt_bind ?_;show wpAt _ _ _ (stack>>=_) _ _ _;refine wpAt_bind (wpAt_stack fun p b=>wpAt_of_wpAny ?_)
 wp_walk
 refine wpAt_of_wpAny ?_;rw[F.owner];repeat (first|with_reducible refine wpAny_madeHere_exc F.canon a ?_|with_reducible refine Xq a ?_|(with_reducible refine X6 a ?_;first|rw[(lJ C X.P "Exception" (.inl rfl))] |rw[(tH C X.P "AttributeError" (.inl rfl))] |rw[(tH C X.P "NameError" (.inr rfl))]) |wp_step)
 show R _ _;rw[Yt];exact c
theorem rD{ar:List Wm}{a:Wm}(c:h.get? C=Wb (X.o C))(f:aeM (Wt prog w) h (ab6 (.ref C) "__init__") (Wb a))
  (i:∀self,aeM (Wt prog w) h (bindSpecial a self) (a,[self])) {E:Wm->Wl->Prop} {Q:ad7->Wl->Prop}
  (j:Ws (Wt prog w) A (call a (.ref (h.objs.size+1)::ar)) (fun v s'=>v=.none/\Q (.done (.ret (.ref (h.objs.size+1)))) s') E ⟨(h.push {cls:=.type "tuple",data:=.seq ar.toArray}).push (eB C h.objs.size),g,d,t,os⟩) (l:ar.length<=Ys):
  Ws (Wt prog w) A (ae4.«type.__call__» ⟨.ref C::ar,[]⟩) Q E ⟨h,g,d,t,os⟩:=by
 repeat (first|with_reducible refine Xq c ?_|with_reducible refine ad8 c ?_|wp_step)
 refine codeAny_call_builtin_code (adz _ X9.quiet) (rC c ?_);refine HC c ?_ l;have k:∀b o,h.get? b=Wb o->((h.push {cls:=.type "tuple",data:=.seq ar.toArray}).push (eB C h.objs.size)).get? b=Wb o:=fun b o e=>Wr _ (Wr _ e);have m:((h.push {cls:=.type "tuple",data:=.seq ar.toArray}).push (eB C h.objs.size)).get? (h.objs.size+1)=Wb (eB C h.objs.size):=by heap_get
 have n:(YM C::jg X.P).contains (.ref C)=Wd:=by simp
 have p:=(i (.ref (h.objs.size+1))).keeps k;unfold isInstance;repeat (first|with_reducible refine Xq m ?_|(with_reducible refine X6 (k _ _ c) ?_;rw[n]) |wp_step)
 refine(f.keeps k).here ?_;refine W6 (Wh (p.here ?_));refine Wh (Xg j (fun v s' z=>?_) fun _ _ e=>e);obtain⟨rfl,z⟩:=z;exact Wq (Wq z)
end
end Mine
end
noncomputable section
open PySem Builtin Builtin.ObjectAttr PyProof.Rows PySem.Calls PySem.W
namespace Mine
noncomputable abbrev jJ(C x:Addr)(a:Option Addr):Obj:={cls:=.ref C,dict:=a,data:=.fields #[.ref x,.none,.none,.none,.bool We,.none]}
theorem yl(self:Wm)(C P:Addr):refuseLoop self "__setattr__" (.ref C::jg P)=pure ():=by
 rw[refuseLoop_ref,refuseLoop_ref];exact PySem.F.store_Exception.passes self
section
variable{prog:Yi}{w:Y6}{A:WN}{E:Wm->Wl->Prop}{s:Wl}{K:Frag}{C P e x:Addr}{cd:ad9}{name:Str}{v:Wm}
theorem Fe{R:ach->Wl->Prop}{g:Obj}{i:Option Obj}{tk:Tok}(X:K.In s.heap)(I:InstAt s.heap e g C i)(hc:aef K C=Wb cd)(d:cd.mro=.ref C::jg P)(ht:aa2 K C name=Wb Wc)
  (h:∀b,Ws (Wt prog w) A.in1 (storeInOwnDict (.ref e) (.ref C) (.str name tk) name v b)
   (fun fin s'=>match fin with|.done f=>R (.ok f) s'|.again j=>j.quiet=Wd/\Yu (Wt prog w) A j R s') (fun e s'=>R (.error e) s') s):
  Yu (Wt prog w) A (.call (.builtin "object.__setattr__") ⟨[.ref e,.str name tk,v],[]⟩) R s:=by
 have c:=PySem.F.store_object;have k:cd.mro.isEmpty=We:=by rw[d];rfl
 have sub:aeM (Wt prog w) s.heap (isInstance (.ref e) (.type "object")) Wd:=I.type.andThen (looks_mroIn X (by unfold mroIn;rw[hc,ad5,if_neg (by rw[k];decide),d,lJ C P "object" (.inr (.inr rfl))]));refine aaO c.slot.plain c.entry (@check_slot (Wt prog w) _ _ s "object.__setattr__" "object" "__setattr__" (.ref e) [.str name tk,v] [] _ c.kind c.split sub (c.args (.ref e) (.str name tk) v) ?_);clear c k sub;obtain⟨attr,l,m⟩:=aak.mp ht;have n:aeM (Wt prog w) s.heap (mroOf (.ref C)) cd.mro:=(acO X hc).andThen .now;have p:aeM (Wt prog w) s.heap (storeTaker? attr) Wc:=by
  clear I hc d ht l n
  induction attr using Wo with
  |none=>exact .now
  |some a=>
   clear g i;obtain⟨b,o,q⟩:=WD.mp m;refine(looks_takesIn X o).andThen ?_;clear X m o
   induction b using Wn with
   |true=>exact rG q
   |false=>exact .now
 rw[osa_eq,refuse_eq];refine Wh (Wh (I.type.here (Wh (n.here ?_))));rw[d,yl];refine Wq (Wh (I.type.here (Wh ((aau X l).here (Wh (p.here ?_))))));exact h _
theorem D4{Q:Unit->Wl->Prop}(X:K.In s.heap)(a:s.heap.get? e=Wb (jJ C x Wc))(hs:X4 K (.ref C) "__setattr__" =Wb (Wb (.builtin "object.__setattr__")))(hc:aef K C=Wb cd)(hd:cd.hasDict=Wd)(i:cd.mro=.ref C::jg P)(ht:aa2 K C name=Wb Wc)
  (h:∀h' tk j,(∀b o,s.heap.get? b=Wb o->b≠e->h'.get? b=Wb o)->h'.get? e=Wb (jJ C x (Wb s.heap.objs.size))->h'.get? s.heap.objs.size=Wb (XE [⟨W4 w.params name,.str name j,v⟩] 1)->Q () {s with heap:=h',toks:=tk}):
  Ws (Wt prog w) A (aep (.ref e) name v) Q E s:=by
 have I:InstAt s.heap e (jJ C x Wc) C Wc:=⟨a,rfl,rfl,trivial⟩;refine aeV X I hs (Fe (s:={s with toks:=s.toks+1}) X I hc i ht fun b=>?_);refine Wh (Wq (Wh ?_));have d:e≠s.heap.objs.size:=XA (Yo a);have f:(s.heap.push {cls:=.type "dict",data:=.dict #[]}).get? e=Wb (jJ C x Wc):=Wr _ a;have up1:((s.heap.push {cls:=.type "dict",data:=.dict #[]}).update e fun o=>{o with dict:=Wb s.heap.objs.size}).get? e=Wb (jJ C x (Wb s.heap.objs.size)):=XM _ f rfl;have k:((s.heap.push {cls:=.type "dict",data:=.dict #[]}).update e fun o=>{o with dict:=Wb s.heap.objs.size}).get? s.heap.objs.size=Wb (XE [] 0):=by
  rw[Xd _ _ d];exact WW _ rfl
 show Ws _ _ (aci e Wd) _ _ _;unfold aci;refine Wh (abg a ?_);refine Wh (aex (s:={s with toks:=s.toks+1}) (acO X hc) ?_);rw[hd];refine Wh (acW ?_);refine Wh (wpAny_update' f (Wq ?_));unfold storeInDict newKeyGuard;refine Wh (Wq (Wh (nN k rfl fun h' g k2=>?_)));refine Wh (abR k2 (show abS (.dict (putL name (W4 w.params name) (.str name (s.toks+1)) v []).toArray _)=Wc from abT (by rw[X0];show(1:Nat)<=_;exact XU _)) ?_);refine Wq (h h' _ (s.toks+1) (fun b o c nb=>g b o ?_ fun z=>by rw[z,aC] at c;exact aH c) (g _ _ up1 d) k2);rw[Xd _ _ (Ne.symm nb)];exact Wr _ c
theorem D5{Q:Unit->Wl->Prop}{c:Addr}{es:List WY}{n:Nat}(X:K.In s.heap)(d:s.heap.get? e=Wb (jJ C x (Wb c)))(D:s.heap.get? c=Wb (XE es n))(hs:X4 K (.ref C) "__setattr__" =Wb (Wb (.builtin "object.__setattr__")))(hc:aef K C=Wb cd)(hd:cd.hasDict=Wd)(f:cd.mro=.ref C::jg P)(ht:aa2 K C name=Wb Wc)
  (g:(getL name es).isSome=Wd) (hz:es.length<=100)
  (h:∀h' tk i,(∀b o,s.heap.get? b=Wb o->b≠c->h'.get? b=Wb o)->h'.get? c=Wb (XE (putL name (W4 w.params name) (.str name i) v es) (putN name es n))->Q () {s with heap:=h',toks:=tk}):
  Ws (Wt prog w) A (aep (.ref e) name v) Q E s:=by
 have I:InstAt s.heap e (jJ C x (Wb c)) C (Wb (XE es n)):=⟨d,rfl,rfl,D⟩;refine aeV X I hs (Fe (s:={s with toks:=s.toks+1}) X I hc f ht fun b=>?_);refine Wh (Wq (Wh ?_));show Ws _ _ (aci e Wd) _ _ _;unfold aci;refine Wh (abg d ?_);refine Wh (aex (s:={s with toks:=s.toks+1}) (acO X hc) ?_);rw[hd];refine Wq (a:=Wb c) ?_;show Ws _ _ (storeInDict c (.str name s.toks) name v) _ _ _;unfold storeInDict newKeyGuard;refine Wh (Wq (Wh (nN D g fun h' j k2=>?_)));refine Wh (abR k2 (show abS (.dict (putL name (W4 w.params name) (.str name (s.toks+1)) v es).toArray _)=Wc from abT (by
  have:=l4 name (W4 w.params name) (.str name (s.toks+1)) v es;rw[WP,X0];exact Wj this (W9 (qC hz rfl)))) ?_)
 exact Wq (h h' _ (s.toks+1) j k2)
end
end Mine
end
noncomputable section
open PySem PyProof.Rows PySem.Calls PySem.W
namespace Mine
section
variable{prog:Yi}{w:Y6}{A:WN}{E:Wm->Wl->Prop}{s:Wl}
theorem AY:findCls [] (.type "Exception") (.type "type") "__init__" =Wb (.val (.builtin "Exception.__init__")):=by kernel_rfl
theorem mz{pl:Sem Bool}{Q:Wm×List Wm->Wl->Prop}(h:Q (.builtin "Exception.__init__",[]) {s with toks:=s.toks+1}):Ws (Wt prog w) A (ac6 (.type "Exception") "__init__" pl) Q E s:=by
 have X:Frag.In [] s.heap:=fun _ _ e=>nomatch e;have a:aeM (Wt prog w) s.heap (typeOf (.type "Exception")) (.type "type"):=aeR (by kernel_rfl);have b:X4 [] (.type "type") "__getattribute__" =Wb (Wb (.builtin "type.__getattribute__")):=type_tga;unfold ac6 specialOf;refine Wh (Wh (a.here ((aau X b).here ?_)));dsimp only;rw[if_pos canon_tga];refine Wh (Xg (Q:=fun v=>Q (v,[])) (E:=E) ?_ (fun _ _ z=>Wq z) fun _ _ z=>z);exact cls_open X (aeR (by unfold opaqueClassAbove;rfl)) a b (looks_hook X (r:=Wc) (by rfl)) (by show subIn [] _ _=_;rfl) AY
  (Wq (by show Ws _ _ (handedOut _) _ _ _;rw[handedOut_of (by decide)];exact Wq h))
end
end Mine
end
noncomputable section
open PySem PySem.Calls PySem.W
namespace Mine
section
variable{prog:Yi}{w:Y6}{A:WN}{E:Wm->Wl->Prop}{h:Heap}{g:Array GenState}{d:Drawn}{tk:Nat}{os:OsState}
variable{X:XD}{C e t:Addr}
theorem pK{M:acN}{c:Obj}{ar:List Wm}{Q:Unit->Wl->Prop}(f:h.get? C=Wb (X.o C))(i:h.get? e=Wb c)(j:c.cls=.ref C)(k:Q () ⟨h,g,d,tk,os⟩):
  Ws M A (aaG "Exception.__init__" ⟨.ref e::ar,[]⟩) Q E ⟨h,g,d,tk,os⟩:=by
 have F:=X9;have l:=F.noStar;simp only[aaG,F.initKind,F.initSplit,F.initRow];repeat (first|(with_reducible refine Xq i ?_;rw[j]) |with_reducible refine Xq f ?_|(with_reducible refine X6 f ?_;rw[(lJ C X.P "Exception" (.inl rfl))]) |wp_step)
 refine wpAny_onRaise ?_;rw[show ∀(a b:String)(n:Nat),Bind.check ⟨.positional,"*","Exception",.self,[⟨"args",.varPos,We⟩]⟩ a b n (afg (fun x=>x.fst) ({pos:=YM e::ar}:Args).kw)=pure () from
  fun a b n=>check_star_args _ _ _ _ _ _]
 exact Wq k
theorem rE{ar:List Wm}{Q:Wm->Wl->Prop}(c:h.get? C=Wb (X.o C))(a:h.get? e=Wb (eB C t))
  (f:∀h',(∀b o,h.get? b=Wb o->b≠e->h'.get? b=Wb o)->h'.get? e=Wb (eB C h.objs.size)->Q .none ⟨h',g,d,tk,os⟩) (j:ar.length<=Ys):Ws (Wt prog w) A (call (.builtin "Exception.__init__") (.ref e::ar)) Q E ⟨h,g,d,tk,os⟩:=by
 have F:=X9;refine aah (aaO F.init.plain F.initEntry (pK c a rfl ?_))
 wp_walk
 refine f _ (fun b o i nb=>?_) ?_
 ·rw[Xd _ _ (Ne.symm nb)];exact Wr _ i
 ·rw[XM _ (Wr {cls:=.type "tuple",data:=.seq ar.toArray} a) rfl];rfl
theorem AZ{env:Env}{s:Wl}{x:Sem Wm}{Q:Flow->Wl->Prop}(h:A.handled=Wc)
  (i:Ws (Wt prog w) A x (fun v a=>∃e t c,v=.ref e/\a.heap.get? C=Wb (X.o C)/\
   a.heap.get? e=Wb (jJ C t (Wb c))/\E (.ref e) a) E s):
  Ws (Wt prog w) A (aeX env (Wb x) Wc) Q E s:=by
 unfold aeX;refine Wh (Xg i (fun v a b=>?_) fun _ _ x=>x);obtain⟨e,t,c,rfl,f,j,hE⟩:=b;obtain⟨hp,g,d,tk,os⟩:=a;repeat (first|with_reducible refine Xq j ?_|with_reducible refine Xq f ?_|(with_reducible refine X6 f ?_;rw[(lJ C X.P "BaseException" (.inr (.inl rfl)))]) |wp_step)
 exact wpAny_raiseNew_none h hE
theorem D6{ar:List Wm}{a:Wm}{R:ach->Wl->Prop}(b:h.get? C=Wb (X.o C))(c:aeM (Wt prog w) h (ab6 (.ref C) "__init__") (Wb a))
  (f:∀self,aeM (Wt prog w) h (bindSpecial a self) (a,[self]))
  (i:Yu (Wt prog w) (A.under (.builtin "type.__call__" ⟨.ref C::ar,[]⟩)) (.call a ⟨.ref (h.objs.size+1)::ar,[]⟩) (InitBack (h.objs.size+1) R) ⟨(h.push {cls:=.type "tuple",data:=.seq ar.toArray}).push (eB C h.objs.size),g,d,tk,os⟩) (j:ar.length<=Ys):
  Yu (Wt prog w) A (.call (.ref C) ⟨ar,[]⟩) R ⟨h,g,d,tk,os⟩:=by
 have k:=tc_lookup;have l:=tc_bind (.ref C);have m:(⟨h,g,d,tk,os⟩:Wl).TypeIs (.ref C) "type" :=⟨_,b,rfl⟩;refine acl ?_;show Ws _ _ (callAny (.ref C) _) _ _ _;repeat (any_goals (first|assumption|with_reducible refine Xq b ?_|wp_step))
 refine⟨rfl,?_⟩;refine codeAny_call_builtin_at (adz _ (by decide+kernel)) entry_typeCall (wpAny_check_type_call_sub b (rD b c f (aah (codeAny_mono i fun r s' z=>?_)) j));rcases r with e|(v|_|_|_)<;>first|exact z|exact z.elim
end
end Mine
end
noncomputable section
open PySem PyProof.Rows PySem.Calls PySem.W
namespace Mine
noncomputable abbrev dY:Nat:=1718379891
noncomputable abbrev ml:Nat:=2037169923944901474373
noncomputable abbrev BH:Sc:=[(1718379891,0),(28542640894207341,0),(1953460339,0),(2037169923944901474373,1)]
inductive OX(G:Obj->Prop)(K:Frag)(C:Addr):Prop
 |mk(X:XD)(cd:ad9)(a:G (X.o C))(b:aef K C=Wb cd)(c:cd.hasDict=Wd)(d:cd.mro=.ref C::jg X.P)
structure Ff(B:ao)(x:Nat):Prop where
 gv:B.gV x=Wb (.ref (B.cA x))
 keep:acf B.K (.ref (B.cA x))=Wd
 obj:OX (fun o=>B.h₀.get? (B.cA x)=Wb o) B.K (B.cA x)
 apart:∀y,B.T.fld y aj=Wd->B.T.fld y aM=Wd->y≠x->∀cd,aef B.K (B.cA x)=Wb cd->cd.mro.contains (.ref (B.cA y))=We
 init:X4 B.K (.ref (B.cA x)) "__init__" =Wb (Wb (.ref (B.fA aX)))
 setA:X4 B.K (.ref (B.cA x)) "__setattr__" =Wb (Wb (.builtin "object.__setattr__"))
 tk1:aa2 B.K (B.cA x) (af aj)=Wb Wc
 tk2:aa2 B.K (B.cA x) (af aM)=Wb Wc
structure mm(B:ao):Prop where
 fn:B.T.fn aX=Wb ⟨[1718379891,28542640894207341,1953460339],[(.int 0)],BH,gE,Wc,We⟩
 fnT:aeF B.K (.ref (B.fA aX))=Wb (.type "function")
 exc:B.gV ml=Wb (.type "Exception")
 cls:∀x,B.T.fld x aj=Wd->B.T.fld x aM=Wd->Ff B x
theorem A1:af Fo=("__init__" :Str):=by decide+kernel
section
variable{B:ao}{r:dN}{c:Cx}{m:VE}{Z:St}{A:WN}{s:Wl}{V:aG}{env:Env}{sc:Sc}{E:Wm->Wl->Prop}
theorem kW{x b:Nat}{a:Str->Option Wm}{v:Wm}{Q:Wm->Wl->Prop}(c:env.scope.kind=.function)(d:env.kindOf (af x)=Wb .local)(e:s.heap.Ns env.locals a)(hv:a (af x)=Wb v)(f:ng x=Wd)(h:Q v s):Ws (Wt B.prog B.w) A (eval (.Name (af x) (ag b)) env) Q E s:=
 aew (acL c d e hv h) (fc f)
theorem wU{x f b p1 p2 c:Nat}{a:Str->Option Wm}{e:Addr}{v:Wm}{Q:Flow->Wl->Prop}(d:env.scope.kind=.function)(h1:env.kindOf (af dY)=Wb .local)(i:env.kindOf (af x)=Wb .local)(g:s.heap.Ns env.locals a)(j:a (af dY)=Wb (.ref e))(k:a (af x)=Wb v)(l:ng x=Wd)
  (h:Ws (Wt B.prog B.w) A (aep (.ref e) (af f) v) (fun _ s'=>Q .next s') E s):Ws (Wt B.prog B.w) A (exec (i0 (.asg (.attr (.name dY b) f p1) (.name x p2) c)) env) Q E s:=by
 show Ws _ _ (exec (.Assign [sx (.attr (.name dY b) f p1)] (aV (.name x p2)) (ag c)) env) _ _ _;rw[jZ (ou _ _ (fun _=>by simp) _ _),kO _ _ (fun _=>by simp)];refine Wh (W7 (Wh (kW d i g k l (Wh (Wq ?_)))));unfold aaz;refine Wh ?_;refine Wh (W6 (kW d h1 g j (by decide) (Wh (W7 (Wh (W6 (Xg h (fun _ s' h'=>?_) fun _ _ e=>e)))))));exact adn (Wq h')
end
section
variable{B:ao}{r:dN}{Z:St}{A:WN}{s:Wl}{V:aG}{hd:Bool}
theorem wV{t:Tok}:(Wm.str (af aj) t).isStr (af aM)=We:=by rw[abd,eJ];decide
theorem Lb{t:Tok}:(Wm.str (af aj) t).isStr (af aj)=Wd:=by rw[abd,eJ];decide
theorem Lc{t:Tok}:(Wm.str (af aM) t).isStr (af aM)=Wd:=by rw[abd,eJ];decide
noncomputable def tI(a b c:Wm)(x:Str):Option Wm:=([(af dY,a),(af aj,b),(af aM,c)]:List (Str×Wm)).reverse.lookup x
theorem HD{a b:Nat}(h:a≠b):(af a==af b)=We:=beq_eq_false_iff_ne.mpr (ig h)
theorem D7{a b c:Wm}:tI a b c (af dY)=Wb a:=by unfold tI;simp[Xl,HD (show dY≠aM by decide),HD (show dY≠aj by decide)]
theorem HE{a b c:Wm}:tI a b c (af aj)=Wb b:=by unfold tI;simp[Xl,HD (show aj≠aM by decide)]
theorem D8{a b c:Wm}:tI a b c (af aM)=Wb c:=by unfold tI;simp[Xl]
theorem Ld{t u:Tok}{v w:Wm}{a k2:Int}:putL (af aM) k2 (.str (af aM) u) w [⟨a,.str (af aj) t,v⟩]=[⟨a,.str (af aj) t,v⟩,⟨k2,.str (af aM) u,w⟩]:=by
 unfold putL;rw[wV];rfl
theorem Lf{t:Tok}{v:Wm}{a:Int}:putN (af aM) [⟨a,.str (af aj) t,v⟩] 1=2:=by
 unfold putN;rw[Yf,wV];rfl
theorem A2{h:Int}{t:Tok}{v:Wm}{r:List WY}:getL (af aj) (⟨h,.str (af aj) t,v⟩::r)=Wb (Wb v):=by
 unfold getL;rw[aae,Lb]
theorem yn{h k:Int}{t u:Tok}{v w:Wm}{r:List WY}:getL (af aM) (⟨h,.str (af aj) t,v⟩::⟨k,.str (af aM) u,w⟩::r)=Wb (Wb w):=by
 unfold getL;rw[aae,wV];dsimp only;rw[aae,Lc]
theorem yo{R:ach->Wl->Prop}(D:aJ B)(BF:i7 B)(Y:mm B){x:Nat}(X:Ff B x){e t:Addr}{ps:List P}{a:List Wm}{vmsg vsp:Wm}(rl:Rel B V Z s.heap)(r:Ag B A ⟨1,hd,Wc⟩ V s.heap)(he:s.heap.get? e=Wb (eB (B.cA x) t))(F:B.h₀.get? e=Wc)
  (hv:(a=[vmsg]/\(∀t,vsp=.int 0 t->True))\/a=[vmsg,vsp])
  (h:∀h' tk d t' n tk2 vs,(∀b o,s.heap.get? b=Wb o->b≠e->h'.get? b=Wb o)->s.heap.get? d=Wc->h'.get? e=Wb (jJ (B.cA x) t' (Wb d))->
   h'.get? d=Wb (XE [⟨W4 B.w.params (af aj),.str (af aj) n,vmsg⟩,⟨W4 B.w.params (af aM),.str (af aM) tk2,vs⟩] 2)->
   (a=[vmsg]->∃t,vs=.int 0 t)->(a=[vmsg,vsp]->vs=vsp)->R (.ok (.ret .none)) {s with heap:=h',toks:=tk}):
  Yu (Wt B.prog B.w) A (.call (.ref (B.fA aX)) ⟨.ref e::a,[]⟩) R s:=by
 clear ps;obtain⟨fd,K⟩:=BF.fn _ _ Y.fn;clear BF;obtain⟨o,ho,nY⟩:=K.isAt;obtain⟨dv,Km,nZ⟩:=K.bind;obtain⟨v0,r0,rfl,_,⟨t0,rfl⟩,rfl⟩:=(Km s.heap V rl.base rl.new);clear Km;obtain⟨l,my,n5⟩:=r.fr;have N:∃vs,((a=[vmsg]->∃t,vs=.int 0 t)/\(a=[vmsg,vsp]->vs=vsp))/\∀(A:WN)(E:Wm->Wl->Prop)(s:Wl)(Q:List (Str×Wm)->Wl->Prop),(∀b o,B.h₀.get? b=Wb o->s.heap.get? b=Wb o)->Q [(af dY,.ref e),(af aj,vmsg),(af aM,vs)] s->Ws (Wt B.prog B.w) A (aeC fd ⟨.ref e::a,[]⟩) Q E s:=by
  clear Y X rl r he F K ho nY my n5;rcases hv with⟨rfl,_⟩|rfl
  ·exact⟨.int 0 t0,⟨fun _=>⟨t0,rfl⟩,fun q=>by cases q⟩,fun A E s Q hb hq=>nZ [.ref e,vmsg] _ [.none,.none] rfl rfl A E s Q hb hq⟩
  ·exact⟨vsp,⟨fun q=>(by cases q),fun _=>rfl⟩,fun A E s Q hb hq=>nZ [.ref e,vmsg,vsp] _ [.none,.none,.none] rfl rfl A E s Q hb hq⟩
 clear nZ t0;obtain⟨vs,bI,N⟩:=N;have i8:∀y,fd.scope.names.lookup (af y)=(ap BH y).map aI:=fun y=>by rw[K.scope];exact c5 BH y
 refine acy (by have:=r.dep;dsimp only at this;exact Ym this) (rl.base _ _ ho) nY K.co K.gen K.body (K.code.keeps rl.base) ?_;rw[K.clo];refine N A.in1 _ s _ rl.base (ac3 (fun y O hk=>?_) (fun y O=>?_) (fun h1 qS K8=>?_) K.kind)
 ·rw[K.scope] at O;clear nY my n5 bI N i8;obtain⟨z,OJ,rfl⟩:=Wz.mp O;exact absurd hk ((by decide:∀e∈BH,aI e.2≠ .cell) z OJ)
 ·have ME:y.1∈[dY,aj,aM].map af:=List.mem_map_of_mem (f:=(·.1)) O;obtain⟨z,hz,e⟩:=Wz.mp ME;rw[<-e,i8];exact(by decide:∀z∈[dY,aj,aM],(ap BH z).map aI=Wb .local) z hz
 ·have kp:∀b o,s.heap.get? b=Wb o->h1.get? b=Wb o:=fun b o e=>K8.extBut b o (XA (Yo e)) (Wr _ e);generalize u:newEnv fd.scope s.heap.objs.size fd.globals [] (fd.qualname++".<locals>.") (Wb (B.fA aX)) fd.code Wc fd.builtins=c;generalize Es:s.toks+([(af dY,YM e),(af aj,vmsg),(af aM,vs)]:List (Str×Wm)).length=n;generalize G:({s with heap:=h1,toks:=n}:Wl)=s1;have e1:s1.heap=h1:=by rw[<-G]
  have v:∀b o,s.heap.get? b=Wb o->s1.heap.get? b=Wb o:=fun b o e=>by rw[e1];exact kp b o e
  have st:Stp no V s V s1:=.grow v (by rw[<-G]) (by rw[<-G]) (by rw[<-G]);have H:Rel B V Z s1.heap:=rl.grow v;have fL:s.heap.get? s.heap.objs.size=Wc:=aC _;have nb:B.h₀.get? s.heap.objs.size=Wc:=rl.nb fL;have I:∀y,c.kindOf (af y)=(ap BH y).map aI:=fun y=>by rw[<-u];exact i8 y
  have kc:∀e∈BH,e.2=0\/e.2=1:=by decide
  have S:c.locals=s.heap.objs.size:=u▸rfl;have J:s1.heap.Ns c.locals (tI (.ref e) vmsg vs):=by rw[e1,S];exact qS
  generalize Fg:tI (.ref e) vmsg vs=C at J;have m1:C (af dY)=Wb (.ref e):=Fg▸D7;have m2:C (af aj)=Wb vmsg:=Fg▸HE;have m3:C (af aM)=Wb vs:=Fg▸D8;have L:c.scope.kind=.function:=u▸K.kind;have envr:EnvR B V s1.heap [] c:=zR I kc L (u▸K.glob) (u▸K.bui) (by rw[S];exact rl.notOwn_size) (by rw[S];exact nb) ⟨C,J,fun x p _ g=>aH g⟩;have scr:EN BH c:=EO I kc;have n9:c.frame=Wb c.locals:=u▸rfl;have f0:FrOK B V s1.heap (c::l):=.cons envr n9 (n5.step st.k st.le);have BD:At B (A.deeper c) ⟨0,hd,Wc⟩ BH [] c V Z s1.heap:=by
   have tD:=r.dep;have qf:=r.un;dsimp only at tD qf;refine⟨scr,H,envr,⟨⟨c,l,YC my,rfl,f0⟩,?_,?_,r.hd,fun k hk=>aH hk⟩⟩
   ·show A.depth+1+3*0+3<=_;exact tD
   ·exact yL (m:=40) (d:=0) 3 qf rfl
  have k1:c.kindOf (af dY)=Wb .local:=by rw[I];rfl
  have k2:c.kindOf (af aj)=Wb .local:=by rw[I];rfl
  have XK:B.K.In s1.heap:=D.X.keeps H.base;clear scr n9 f0 XK;obtain⟨XO,cd,tz,wz,A0,ym⟩:=X.obj;have T8:B.cA x≠e:=fun z=>by rw[z,F] at tz;exact aH tz
  have OY:c.locals≠e:=fun z=>by rw[S] at z;rw[z] at fL;exact aH (fL.symm.trans he)
  refine⟨(D.nolimit.keeps rl.base).keeps v,codeAny_func ?_⟩;refine Wh ?_;show Ws _ _ (exec (.Expr (aV (.meth (.glob 2037169923944901474373 5008017) 6872339552563453791 5008026 [.name 1718379891 5027031,.name 28542640894207341 5033040] 5008041)) (ag 5008041)) c) _ _ _;rw[exec_Expr c _ _ (jd envr) (vh _ rfl _ _ _)];refine Wh (W7 (Wh ?_));refine me (sc:=BH) (by decide) (by decide) (by decide) (dH D BD (by decide) (by decide) Y.exc fun pl=>?_);rw[A1];refine mz (fB (as:=[.name 1718379891 5027031,.name 28542640894207341 5033040]) (.inr ⟨_,rfl⟩) ?_);refine ab5 (kW (s:={s1 with toks:=s1.toks+1}) L k1 J m1 (by decide) (ab5 (kW (s:={s1 with toks:=s1.toks+1}) L k2 J m2 (by decide) (acM ?_))));refine rE (H.base _ _ tz) (v _ _ he) (fun j M T=>?_) (by rw[X0];show(1:Nat)<=_;exact XU _);refine aen ?_;have HG:j.Ns c.locals C:=ir J fun o eo _=>.refl (M _ o eo OY);have X2:B.K.In j:=D.X.keeps fun b o i=>M b o (H.base b o i) fun z=>by rw[z,F] at i;exact aH i
  refine Wh (wU (s:={s1 with heap:=j,toks:=s1.toks+1}) L k1 k2 HG m1 m2 (by decide) ?_);refine D4 (s:={s1 with heap:=j,toks:=s1.toks+1}) X2 T X.setA wz A0 ym X.tk1 fun U QS Lh W g3 QT=>?_;have TG:j.get? e≠Wc:=by rw[T];simp
  have OZ:∀b o,j.get? b=Wb o->b≠j.objs.size:=fun b o i z=>by rw[z,aC] at i;exact aH i
  have Li:U.Ns c.locals C:=ir HG fun o eo _=>.refl (W _ o eo OY);have X3:B.K.In U:=D.X.keeps fun b o i=>W b o (M b o (H.base b o i) fun z=>by rw[z,F] at i;exact aH i) fun z=>by rw[z,F] at i;exact aH i
  refine Wh (wU (s:={s1 with heap:=U,toks:=QS}) L k1 (by rw[I];rfl) Li m1 m3 (by decide) ?_);have eL:(Wm.str (af aj) Lh).isStr (af aM)=We:=wV;refine D5 (s:={s1 with heap:=U,toks:=QS}) X3 g3 QT X.setA wz A0 ym X.tk2 ?_ (by show(1:Nat)<=100;exact XU _) fun h4 QU O0 O1 g4=>?_
  ·unfold getL;rw[aae,eL];rfl
  ·refine YU ?_;have QV:e≠j.objs.size:=OZ e _ T;have ed:s.heap.get? j.objs.size=Wc:=by
    clear OY pl T HG X2 W g3 QT TG Li X3 eL QU O1 g4
    induction z:s.heap.get? j.objs.size using Wo with
    |none=>rfl
    |some o=>
     by_cases ze:j.objs.size=e
     ·exact absurd ze.symm QV
     ·exact absurd rfl (OZ _ o (M _ o (v _ _ z) ze))
   have fin:=h h4 QU j.objs.size s1.heap.objs.size Lh O0 vs (fun b o i nb=>?_) ed ?_ ?_ bI.1 bI.2
   ·rw[<-G];exact fin
   ·have z2:=M b o (v b o i) nb;exact O1 b o (W b o z2 nb) (OZ b o z2)
   ·exact O1 e _ g3 QV
   ·rw[g4,Ld,Lf]
end
section
variable{B:ao}{r:dN}{c:Cx}{m:VE}{Z:St}{A:WN}{s:Wl}{V:aG}{env:Env}{sc:Sc}{Q:Flow->Wl->Prop}{E:Wm->Wl->Prop}
theorem A4{x p1 p2 p:Nat}{as:List IE}(H:aJ B)(BF:i7 B)(J:mm B)(S:SimE B r)(D:wD sc (.raise x p1 as p2 p)=Wd)(a:At B A c sc m env V Z s.heap)(F:Fin B (dK env) (RX B env) V s (ba B.T r c (.raise x p1 as p2 p) m Z) Q E):Ws (Wt B.prog B.w) A (exec (i0 (.raise x p1 as p2 p)) env) Q E s:=by
 have D:((((eP sc x&&ng x) &&!Wf x dw) &&bU sc as) &&XQ as.length 20)=Wd:=D;have h2:=ay (aa (aa (aa D)));have h4:=ay (aa D);replace F:Fin B (dK env) (RX B env) V s (cond (c.hd||Wf c.d 0||!B.T.fld x aj||!B.T.fld x aM) .no ((evs r c m as Z).bind fun vs Z=>match vs with
  | [.str s]=>.exc x s (.int 0) Z
  | [.str s,.int i]=>.exc x s (.int i) Z
  |_=>.no)) Q E:=F
 induction hc:(c.hd||Wf c.d 0||!B.T.fld x aj||!B.T.fld x aM) using Wn with
 |true=>rw[hc] at F;exact F.elim
 |false=>
 rw[hc] at F;simp only[WJ,XY] at hc;obtain⟨⟨⟨QW,Lj⟩,zj⟩,pj⟩:=hc;have QX:1<=c.d:=by
  clear H BF J S a F D h2 h4 QW zj pj;rcases adv c.d with z|z
  ·rw[z] at Lj;exact gB Lj
  ·exact z
 dsimp only[cond] at F;have X:=J.cls x zj pj;obtain⟨XO,cd,M,_⟩:=X.obj;show Ws _ _ (do Y5 (ag p);aeX env (Wb (do let v <-eval (.Call (.Name (af x) (ag p1)) (bw as) [] (ag p2)) env;Y5 (ag p);pure v)) Wc) Q E s;refine Wh (W7 (AZ (C:=B.cA x) (X:=XO) (a.amb.hd QW) (Wh ?_)));refine ad2 rfl (dH H a (aa (aa (aa (aa D)))) h2 X.gv (il H X.keep (S.evs as h4 a F fun ps Z1 V1 s1 vs st l bI hl n=>⟨l.rel.base,?_⟩)));have fin:∀(q:Nat)(y:P)(vmsg vsp:Wm),vs.length<=2->((vs=[vmsg]/\(∀t,vsp=.int 0 t->True)/\y=.int 0)\/(vs=[vmsg,vsp]/\VR B s1.heap V1 y vsp/\y.isOdd=We))->(∃t,vmsg=.str (af q) t)->Fin B (dK env) (RX B env) V1 s1 (.exc x q y Z1) Q E->
   Ws (Wt B.prog B.w) A (call (.ref (B.cA x)) vs) (fun v s'=>Ws (Wt B.prog B.w) A (do Y5 (ag p);pure v) (fun v f=>∃e t dx,v=.ref e/\f.heap.get? (B.cA x)=Wb (XO.o (B.cA x))/\f.heap.get? e=Wb (jJ (B.cA x) t (Wb dx))/\E (.ref e) f) E s') E s1:=by
  intro q y vmsg vsp bB Fh TH n;obtain⟨h,g,d,tk,os⟩:=s1;have XK:B.K.In h:=H.X.keeps l.rel.base;have N:=l.rel.base _ _ M;refine aah (D6 N (aau XK X.init) (fun self=>bind_fn XK self J.fnT) ?_ (by rw[X0];exact Wj bB (Wg rfl)));generalize I:(⟨(h.push {cls:=.type "tuple",data:=.seq vs.toArray}).push (eB (B.cA x) h.objs.size),g,d,tk,os⟩:Wl)=s2;have e2:s2.heap=(h.push {cls:=.type "tuple",data:=.seq vs.toArray}).push (eB (B.cA x) h.objs.size):=by rw[<-I]
  have G:∀b o,h.get? b=Wb o->s2.heap.get? b=Wb o:=fun b o e=>by rw[e2];exact Wr _ (Wr _ e)
  have he:s2.heap.get? (h.objs.size+1)=Wb (eB (B.cA x) h.objs.size):=by
   rw[e2];have:=WW (h.push {cls:=.type "tuple",data:=.seq vs.toArray}) (o:=eB (B.cA x) h.objs.size) rfl
   rwa [Yt] at this
  have j:h.get? (h.objs.size+1)=Wc:=Xf (Xp _);have O:B.h₀.get? (h.objs.size+1)=Wc:=l.rel.nb j;obtain⟨e1,R,QY,TJ,QZ⟩:=l.amb.fr;have U:Stp no V1 ⟨h,g,d,tk,os⟩ V1 s2:=.grow G (by rw[<-I]) (by rw[<-I]) (by rw[<-I]);have rm:Ag B (A.under (.builtin "type.__call__" ⟨.ref (B.cA x)::vs,[]⟩)) ⟨1,c.hd,Wc⟩ V1 s2.heap:=by
   refine⟨⟨_,(kL _ _).trans QY,FrOK.step U.k U.le QZ⟩,?_,?_,a.amb.hd⟩
   ·rw[l8];exact ID (m:=3) 1 QX a.amb.dep rfl
   ·rw[l9];exact ID (m:=40) 1 QX a.amb.un rfl
  refine yo H BF J X (ps:=[]) (vmsg:=vmsg) (vsp:=vsp) (l.rel.grow G) rm he O ?_ ?_
  ·rcases Fh with⟨z,z2,_⟩|⟨z,_⟩
   ·exact .inl ⟨z,z2⟩
   ·exact .inr z
  ·intro h' La d' t' tk1 tk2 Im W L Y gd f1 f2;refine⟨rfl,?_⟩;show Ws _ _ (do Y5 (ag p);pure _) _ _ _;refine Wh (W7 (Wq ⟨_,_,_,rfl,?_,Y,?_⟩))
   ·exact W _ _ (G _ _ N) fun z=>by rw[z,O] at M;exact aH M
   ·have HI:∀b o,h.get? b=Wb o->h'.get? b=Wb o:=fun b o e=>W b o (G b o e) fun z=>by rw[z,j] at e;exact aH e
    have nown:∀b,h.get? b=Wc->¬own V1 b:=fun b=>l.rel.nown;have O3:h.get? d'=Wc:=jr G L;clear N G O QY TJ QZ U rm W;obtain⟨tm,rfl⟩:=TH;have v9:VR B h' V1 y Im/\y.isOdd=We:=by
     clear La L Y gd nown O3;rcases Fh with⟨z,_,rfl⟩|⟨z,hr,ho⟩
     ·obtain⟨t,rfl⟩:=f1 z;exact⟨Exists.intro t rfl,rfl⟩
     ·exact(f2 z)▸⟨hr.step (.of_grow HI) (.refl _ _),ho⟩
    rw[<-I];refine n V1 _ _ (.grow HI) (l.rel.grow HI) ⟨h.objs.size+1,d',_,_,2,_,_,.none,rfl,nown _ j,nown _ O3,j,O3,(fun z=>by rw[<-z,he] at L;exact rG L),Y,gd,⟨tm,?_⟩,⟨Im,?_,v9.1,v9.2⟩,rfl,.inl rfl⟩
    ·exact A2
    ·exact yn
 refine Fin.rs (fun q e n=>?_) (fun q i e n=>?_) n
 ·subst e;obtain⟨v,rfl,hv⟩:=u0 bI;exact fin q (.int 0) v .none (by simp) (.inl ⟨rfl,fun _ _=>trivial,rfl⟩) hv n
 ·subst e;obtain⟨v,u,rfl,hv,hu⟩:=Kr bI;exact fin q (.int i) v u (by simp) (.inr ⟨rfl,hu,rfl⟩) hv n
end
end Mine
end
noncomputable section
open PySem PySem.Calls PySem.W
namespace Mine
section
variable{M:acN}{A:WN}{E:Wm->Wl->Prop}{h:Heap}{g:Array GenState}{d:Drawn}{tk:Nat}{os:OsState}
variable{X X':XD}{C C':Addr}
theorem oQ{e:Addr}{a:Obj}{Q:Bool->Wl->Prop}
  (b:h.get? C=Wb (X.o C)) (c:h.get? C'=Wb (X'.o C')) (i:h.get? e=Wb a) (j:a.cls=.ref C)
  (k:(YM C::jg X.P).contains (.ref C')=We) (l:Q We ⟨h,g,d,tk,os⟩):Ws M A (excMatches (.ref e) (.ref C')) Q E ⟨h,g,d,tk,os⟩:=by
 have f:=tc_notTuple;unfold excMatches;repeat (first|(with_reducible refine Xq i ?_;rw[j]) |with_reducible refine Xq c ?_|with_reducible refine Xq b ?_|(with_reducible refine X6 c ?_;rw[(lJ C' X'.P "BaseException" (.inr (.inl rfl)))]) |(with_reducible refine X6 b ?_;rw[k]) |wp_step)
 exact l
end
end Mine
end
noncomputable section
open PySem PyProof.Rows PySem.Calls PySem.W
namespace Mine
section
variable{B:ao}{r:dN}{c:Cx}{m:VE}{Z:St}{A:WN}{s s0:Wl}{V V0:aG}{env:Env}{sc:Sc}{Q:Flow->Wl->Prop}{E:Wm->Wl->Prop}
theorem D9{h':Heap}{tk:Tok}{m1 c:Str->Option Wm}(h:s.heap.Ns env.locals m1)(a:h'.Ns env.locals c)(hs:YD env.locals s.heap h'):Stp (dK env) V s V {s with heap:=h',toks:=tk}:=by
 obtain⟨d,i,j,f,g,_⟩:=id a;refine⟨fun b o e n=>.refl ((hs.2 b fun q=>n (.inr (.inl q))).trans e),.refl _ _,fun b o e=>?_,rfl,rfl,rfl,fun b o _ e _ n=>(hs.2 b fun q=>n (.inr (.inl q))).trans e,fun b m _ n=>?_⟩
 ·by_cases q:b=env.locals
  ·subst q;exact⟨d,f,fun _ vs z=>by rw[g] at z;cases z⟩
  ·exact⟨o,(hs.2 b q).trans e,id⟩
 ·by_cases q:b=env.locals
  ·subst q;exact⟨_,a⟩
  ·exact⟨m,ir n fun o e _=>.refl ((hs.2 b q).trans e)⟩
theorem A5{C' f:Nat}{g:P}{e:Addr}{n:Nat}{h':Heap}{tk:Tok}{h:Str->Option Wm}(a:At B A c sc m env V Z s.heap)(r:ap sc n=Wb 0)(hex:(m.any fun e=>e.2.isExc)=We)(fl:∃o,s0.heap.get? env.locals=Wb o)(t:ExcR B s0.heap s.heap V C' f g (.ref e))
  (ns:s.heap.Ns env.locals h) (u:∀x p,env.kindOf (af x)=Wb .local->get x m=Wb p->∃v,h (af x)=Wb v/\VR B s.heap V p v) (i:h'.Ns env.locals (fun x=>if x=af n then Wb (.ref e) else h x)) (w:YD env.locals s.heap h'):
  Stp (dK env) V s V {s with heap:=h',toks:=tk}/\At B A c sc (put n (.exc C' f g) m) env V Z h':=by
 have O:=wI (tk:=tk) a.rel a.envr ns i w;have st:=O.st (dK env) (.inl rfl);obtain⟨b,d,vs,y,k,sl,sd,tb,e1,e2,e3,j,l,C,D,E,F,⟨G,H,I,J⟩,K,L⟩:=t;clear C K L;have e1:e=b:=adk e1;obtain⟨Q,q⟩:=fl;have M:b≠env.locals:=fun z=>by rw[z,q] at j;exact rG j
 have nd:d≠env.locals:=fun z=>by rw[z,q] at l;exact rG l
 have N:VR B h' V (.exc C' f g) (.ref e):=J5.mk b d vs y k sl sd (congrArg YM e1) e2 e3 ((O.same b M).trans D) ((O.same d nd).trans E) F G H (O.vrC ns (sY J) I);exact⟨st,⟨a.scr,O.rl,sZ O a.envr (a.scr.loc n r) hex N rfl ns u i,a.amb.stepX st⟩⟩
theorem At.marked{e:Addr}(a:At B A c sc m env V Z s.heap):At B (A.mark (Wb (.ref e))) ⟨c.d,Wd,c.tb⟩ sc m env V Z s.heap:=⟨a.scr,a.rel,a.envr,⟨(let ⟨e1,l,h1,b,f⟩:=a.amb.fr;⟨e1,l,h1,b,f⟩),a.amb.dep,a.amb.un,(fun h=>gB h),a.amb.cod⟩⟩
theorem Ea{C n p k:Nat}{l:P}{e:Addr}{b:List IS}{o:St}{O S T:Wm->Wl->Prop}(U:gz B r)(a0:At B A c sc m env V0 Z s0.heap)(st:Stp no V0 s0 V s)(rl:Rel B V o s.heap)(z:ExcR B s0.heap s.heap V C k l (.ref e))(D:ap sc n=Wb 0)(hex:(m.any fun e=>e.2.isExc)=We)(W:ew sc b=Wd)
  (F:Fin B (dK env) (RX B env) V0 s0 (match(generalizing:=false) r.ex ⟨c.d,Wd,c.tb⟩ b (put n (.exc C k l) m) o with
   |.ok (.ret v,m) Z=>cond v.isOdd .no (.ok (.ret v,m) Z)
   |_=>.no) Q E):
  Ws (Wt B.prog B.w) (A.mark (Wb (.ref e))) (ac5 (.ref e) Wc) (fun _ h=>Ws (Wt B.prog B.w) (A.mark (Wb (.ref e))) (storeName env (af n) (.ref e)) (fun _ i=>Ws (Wt B.prog B.w) (A.mark (Wb (.ref e))) (aeB (gQ b) env) (fun f a=>Ws (Wt B.prog B.w) A (do
   aeK env (af n) Wm.none
   unbindBehindTheSuite env (af n) (ag p)) (fun _ a=>Q f a) E a) S i) T h) O s:=by
 refine el st rl a0.rel.base z fun s1 q G H=>?_;have g:=a0.step q G;clear G st rl z;obtain⟨mp,ns,I⟩:=g.envr.loc;have J:=g.scr.loc n D;refine acB J ns (fun h' t K=>?_) (g.envr.kind▸rfl);obtain⟨T9,⟨Y,_,_,L,_⟩,_⟩:=a0.envr.loc;obtain⟨M,N⟩:=A5 (tk:=s1.toks+1) g D hex ⟨Y,L⟩ H ns I t K;have ro:=(Stp.any (X:=dK env) q).trans M;refine U _ b _ _ _ _ _ _ _ _ _ W (At.marked (e:=e) (s:={s1 with heap:=h',toks:=s1.toks+1}) N) ?_
 revert F
 clear q H ns I K L M N
 induction r.ex ⟨c.d,Wd,c.tb⟩ b (put n (.exc C k l) m) o using Mine.R.casesOn with
 |no=>exact lz
 |exc=>exact lz
 |ok fm Z3=>
  obtain⟨fl,m3⟩:=fm
  induction fl using Mine.Fl.casesOn with
  |next=>exact lz
  |ret v=>
   intro F V3 s3 f x rN hr;obtain⟨u,e4,hu⟩:=hr;refine Fin.n (show Fin B (dK env) (RX B env) V0 s0 (cond v.isOdd .no (.ok (.ret v,m3) Z3)) Q E from F) fun ho F=>?_;obtain⟨m5,j⟩:=x.ns _ _ g.envr.locN t;refine wpAny_nameGoes J j (g.envr.kind▸rfl) fun h4 m4 TL y=>?_;exact F V3 _ _ ((ro.trans x).trans (D9 (tk:=s3.toks+1) j TL y)) (kU rN j (jq x.le g.envr.locN t) g.envr.locB y) ⟨u,e4,VR.stepQ (ry j) (rz y) (.refl _ _) _ ho hu⟩
theorem BI{a b:Bool}(h:(a||b)=We):a=We:=(WJ.mp h).1
theorem MI{a b:Bool}(h:(a||b)=We):b=We:=(WJ.mp h).2
theorem Eb{a:Bool}(h:(!a)=We):a=Wd:=by cases a with|false=>exact gB h|true=>rfl
theorem A6{n:Nat}(h:Wf ((ap sc n).getD 9) 0=Wd):ap sc n=Wb 0:=by
 induction q:ap sc n using Wo with
 |none=>rw[q] at h;exact dg h
 |some k=>rw[q] at h;rw[show k=0 from b9 h]
theorem ExcR.cls{x a:Nat}{b:P}{e:Addr}{h0 h:Heap}(c:ExcR B h0 h V x a b (.ref e)):∃d vs sl,h.get? e=Wb ⟨.ref (B.cA x),d,.fields vs,sl⟩:=by
 obtain⟨g,d,vs,i,j,sl,sd,tb,e1,_,_,_,_,_,f,_⟩:=c.it;exact⟨_,vs,sl,adk e1▸f⟩
theorem HJ{x h:Nat}{i:P}{e:Addr}(M:aJ B)(k:mm B)(N:gz B r)(a0:At B A c sc m env V0 Z s0.heap)(j:St)(st:Stp no V0 s0 V s)(rl:Rel B V j s.heap)(y:ExcR B s0.heap s.heap V x h i (.ref e)):
  ∀hs,sO sc hs=Wd->Fin B (dK env) (RX B env) V0 s0 (ba.hdl B.T r c m hs x h i j) Q E->Ws (Wt B.prog B.w) A (aeN (.ref e) env (sy hs)) Q E s:=by
 intro O
 induction O with
 |nil=>
  intro _ F;exact F.elim
 |cons R hs S=>
  obtain⟨C,n,p1,b,p⟩:=R;intro f F;have f:(((((eP sc C&&ng C) &&Wf ((ap sc n).getD 9) 0) &&!b.isEmpty) &&ew sc b) &&sO sc hs)=Wd:=f;refine Fin.n (show Fin B (dK env) (RX B env) V0 s0 (cond (!B.T.fld C aj||!B.T.fld C aM||!B.T.fld x aj||!B.T.fld x aM||m.any fun e=>e.2.isExc) .no<|cond (Wf C x)
    (match(generalizing:=false) r.ex ⟨c.d,Wd,c.tb⟩ b (put n (.exc x h i) m) j with
     |.ok (.ret v,m) Z=>cond v.isOdd .no (.ok (.ret v,m) Z)
     |_=>.no)
    (ba.hdl B.T r c m hs x h i j)) Q E from F) fun hc F=>?_
  have D:=Eb (BI (BI (BI (BI hc))));have G:=Eb (MI (BI (BI (BI hc))));have l:=k.cls C D G;have o:=k.cls x (Eb (MI (BI (BI hc)))) (Eb (MI (BI hc)));have a:=a0.step st rl;have hex:=MI hc;clear k hc;obtain⟨X',O5,H,_⟩:=l.obj;obtain⟨X,cd,I,J,U,K⟩:=o.obj;have t:=a.rel.base _ _ I;have W:=a.rel.base _ _ H;clear H I U;obtain⟨d,vs,sl,u⟩:=y.cls;show Ws _ _ (aeN (.ref e) env (.ExceptHandler (Wb (.Name (af C) (ag p1))) (Wb (af n)) (gQ b) (ag p)::sy hs)) _ _ _;refine wpAny_handleBy_cons (codeAny_handlers_test (dH M a.marked (aa (aa (aa (aa (aa f))))) (ay (aa (aa (aa (aa f))))) l.gv ?_)) (by intro q;cases q);clear l a
  induction g:Wf C x using Wn with
  |false=>
   rw[g] at F;have L:=o.apart C D G (fun z=>by subst z;rw[Wx] at g;cases g) cd J;rw[K] at L;refine oQ t W u rfl L ?_;exact S (ay f) F
  |true=>
   rw[g] at F;dsimp only[cond] at F;have Y:=b9 g;clear o J K g;subst Y;refine wpAny_excMatches_sub_self t u rfl rfl ?_;clear cd t u
   induction b using Wv with
   |nil=>exact dg (ay (aa (aa f)))
   |cons b0 b1=>
   exact codeAny_handlers_suite_as (Ea N a0 st rl y (A6 (ay (aa (aa (aa f))))) hex (ay (aa f)) F)
end
section
variable{B:ao}{r:dN}{c:Cx}{m:VE}{Z:St}{A:WN}{s:Wl}{V:aG}{env:Env}{sc:Sc}{Q:Flow->Wl->Prop}{E:Wm->Wl->Prop}
theorem A7{x g:Nat}{h:P}{Z1:St}{hs:List (Nat×Nat×Nat×List IS×Nat)}{Q0:Wm->Wl->Prop}(q:aJ B)(t:mm B)(u:gz B r)(v:sO sc hs=Wd)(a:At B A c sc m env V Z s.heap)(F:Fin B (dK env) (RX B env) V s (cond c.hd .no (ba.hdl B.T r c m hs x g h Z1)) Q E):
  Fin B no (VR B) V s (.exc x g h Z1) Q0 (fun e b=>Ws (Wt B.prog B.w) A (ad0 e env) (fun _ d=>Ws (Wt B.prog B.w) A (ac5 e Wc) (fun _ f=>Ws (Wt B.prog B.w) A (aeN e env (sy hs)) Q E f) E d) E b):=by
 intro V1 s1 e st rl i;refine Fin.n F fun hc F=>?_;refine kI (a.amb.step st.k st.le).fram st rl a.rel.base i fun s2 j l o _=>el j l a.rel.base o fun s3 y z p=>?_;clear Q0 st rl i hc j l o;obtain⟨C,_,_,_,_,_,_,_,rfl,_⟩:=p.it;exact HJ q t u a Z1 y z p hs v F
theorem Ec{x a:Nat}{q:P}{m m1:VE}(h:aD (.name x a) q m=Wb m1):(m.any fun e=>e.2.isExc)=We/\q.isOdd=We/\m1=put x q m:=by
 revert h
 show cond (m.any fun e=>e.2.isExc) Wc (cond q.isOdd Wc (Wb (put x q m)))=Wb m1->_
 induction m.any fun e=>e.2.isExc using Wn with
 |true=>exact aH
 |false=>induction q.isOdd using Wn with
  |true=>exact aH
  |false=>exact fun h=>⟨rfl,rfl,(Wi h).symm⟩
theorem A8{R:List IS->Prop}{b:List IS}(h:Af b=Wd)(d:∀x c e a,e.isComp=We->R [.asg (.to (.name x c)) e a])(k2:∀e a,R [.ret We (Wb e) a]):R b:=by
 rcases b with _|⟨s,b⟩
 ·exact dg h
 ·induction s using Mine.IS.casesOn with
  |asg t e a=>
   cases t with
   |to t=>
    induction t using Mine.IT.casesOn with
    |name x c=>
     induction b using Wv with
     |nil=>exact d x c e a ((Xy _).mp h)
     |cons=>exact dg h
    |tup=>exact dg h
   |_=>exact dg h
  |ret fz o a=>
   induction fz using Wn with
   |true=>exact dg h
   |false=>
    induction o using Wo with
    |none=>exact dg h
    |some e=>
     induction b using Wv with
     |nil=>exact k2 e a
     |cons=>exact dg h
  |_=>exact dg h
section
variable{hs:List (Nat×Nat×Nat×List IS×Nat)}{h0:adg}{ht:List adg}
noncomputable abbrev HK(B:ao)(A:WN)(b:List IS)(hs:List (Nat×Nat×Nat×List IS×Nat))(env:Env)(Q:Flow->Wl->Prop)(E:Wm->Wl->Prop)(s:Wl):Prop:=
 Ws (Wt B.prog B.w) A (aeB (gQ b) env) (fun f a=>match f with|.next=>Ws (Wt B.prog B.w) A (aeB [] env) Q E a|f=>Q f a) (fun e a=>Ws (Wt B.prog B.w) A (ad0 e env) (fun _ c=>Ws (Wt B.prog B.w) A (ac5 e Wc) (fun _ d=>Ws (Wt B.prog B.w) A (aeN e env (sy hs)) Q E d) E c) E a) s
theorem Ed{x b d:Nat}{e:IE}(g:aJ B)(h:mm B)(S:SimE B r)(i:gz B r)(j:(((jB sc (.to (.name x b)) &&bj sc e) &&Iq (.to (.name x b)) e) &&ew sc [])=Wd)(k:sO sc hs=Wd)(hc:e.isComp=We)(a:At B A c sc m env V Z s.heap) (F:Fin B (dK env) (RX B env) V s (match(generalizing:=false) r.ev c e m Z with
   |.exc x s w Z=>cond c.hd .no (ba.hdl B.T r c m hs x s w Z)
   |.ok v Z=>(cond c.hd .no (ofO (aD (.name x b) v m) fun m=>.ok m Z)).bind fun m Z=>.ok (.next,m) Z
   |.no=>.no) Q E):HK B A [.asg (.to (.name x b)) e d] hs env Q E s:=by
 show Ws _ _ (do match <-exec (.Assign [.Name (af x) (ag b)] (aV e) (ag d)) env with|.next=>aeB [] env|f=>pure f) _ _ _;refine Wh (adS (S c e m Z A s V env sc _ _ (ay (aa (aa j))) a.scr a.rel a.envr a.amb ?_) (vh e (by rw[hc];rfl) _ _ _))
 revert F
 induction r.ev c e m Z using Mine.R.casesOn with
 |no=>exact lz
 |exc u y z Z1=>exact fun F=>A7 g h i k a F
 |ok q Z1=>
  clear S g h i k;intro F V1 s1 v st n hv;refine Fin.bn F fun _ F=>Fin.bo F fun m1 o F=>?_;obtain⟨hex,p,e1⟩:=Ec o;refine jb (aa (aa (aa j))) (a.step st n) hex hv p fun s2 t l=>YU (YU ?_);rw[e1] at F;exact Fin.ok F ((Stp.any (X:=dK env) st).trans (t.mono fun _ q=>q.of)) l.rel ⟨rfl,l.envr⟩
theorem Ee{b:Nat}{e:IE}(d:aJ B)(g:mm B)(S:SimE B r)(h:gz B r)(i:(bj sc e&&ew sc [])=Wd)(j:sO sc hs=Wd)(a:At B A c sc m env V Z s.heap) (F:Fin B (dK env) (RX B env) V s (match(generalizing:=false) r.ev c e m Z with
   |.exc x s w Z=>cond c.hd .no (ba.hdl B.T r c m hs x s w Z)
   |.ok v Z=>.ok (.ret v,m) Z
   |.no=>.no) Q E):HK B A [.ret We (Wb e) b] hs env Q E s:=by
 show Ws _ _ (do match <-exec (.Return (Wb (aV e)) (ag b)) env with|.next=>aeB [] env|f=>pure f) _ _ _;rw[ad4];refine Wh (Wh (W7 (Wh (S c e m Z A s V env sc _ _ (aa i) a.scr a.rel a.envr a.amb ?_))))
 revert F
 induction r.ev c e m Z using Mine.R.casesOn with
 |no=>exact lz
 |exc l n o Z1=>exact fun F=>A7 d g h j a F
 |ok q Z1=>
  intro F V1 s1 v st k hv;exact Wq (Wq (Fin.ok F st.any k ⟨v,rfl,hv⟩))
end
theorem HL{b:List IS}{hs:List (Nat×Nat×Nat×List IS×Nat)}{p:Nat}(i:aJ B)(j:mm B)(S:SimE B r)(k:gz B r)(d:wD sc (.try b hs p)=Wd)(a:At B A c sc m env V Z s.heap)(F:Fin B (dK env) (RX B env) V s (ba B.T r c (.try b hs p) m Z) Q E):Ws (Wt B.prog B.w) A (exec (i0 (.try b hs p)) env) Q E s:=by
 have d:(((ew sc b&&sO sc hs) &&Af b) &&!hs.isEmpty)=Wd:=d;obtain⟨h0,ht,l⟩:∃h0 ht,sy hs=h0::ht:=by
  induction hs using Wv with
  |nil=>exact dg (ay d)
  |cons h hs=>exact⟨_,_,rfl⟩
 show Ws _ _ (exec (.Try (gQ b) (sy hs) [] [] (ag p)) env) _ _ _;rw[l];refine wpAny_Try_except ?_;rw[<-l];refine A8 (R:=fun b=>ew sc b=Wd->Fin B (dK env) (RX B env) V s (ba B.T r c (.try b hs p) m Z) Q E->HK B A b hs env Q E s) (ay (aa d)) (fun x f e n hc g F=>Ed i j S k g (ay (aa (aa d))) hc a ?_) (fun e n g F=>Ee i j S k g (ay (aa (aa d))) a F) (aa (aa (aa d))) F;replace F:Fin B (dK env) (RX B env) V s (match(generalizing:=false) r.ev c e m Z with
   |.exc x s w Z=>cond c.hd .no (ba.hdl B.T r c m hs x s w Z)
   |.ok v Z=>match(generalizing:=false) cond c.hd .no (ofO (aD (.name x f) v m) fun m=>.ok m Z) with
    |.ok m Z=>.ok (.next,m) Z
    |_=>.no
   |.no=>.no) Q E:=F
 revert F
 induction r.ev c e m Z using Mine.R.casesOn with
 |ok v Z1=>
  show Fin B (dK env) (RX B env) V s (match(generalizing:=false) cond c.hd R.no (ofO (aD (.name x f) v m) fun m=>R.ok m Z1) with|.ok m Z=>.ok (Fl.next,m) Z|_=>.no) Q E->Fin B (dK env) (RX B env) V s ((cond c.hd R.no (ofO (aD (.name x f) v m) fun m=>R.ok m Z1)).bind fun m Z=>R.ok (Fl.next,m) Z) Q E
  induction c.hd using Wn with
  |true=>exact lz
  |false=>induction aD (.name x f) v m using Wo with
   |none=>exact lz
   |some m1=>exact id
 |_=>exact id
end
theorem yp(ps:List Nat):∀{pv ds:List P}{m:VE},fP ps pv ds=Wb m->ps.length<=pv.length+ds.length/\pv.length<=ps.length:=by
 induction ps with
 |nil=>
  intro pv ds m h
  induction pv using Wv with
  |nil=>exact⟨Xz _,Xk _⟩
  |cons=>exact aH h
 |cons x ps b=>
  intro pv ds m h
  induction pv using Wv with
  |cons p pv=>
   obtain⟨d,c,_⟩:=WD.mp (vB.symm.trans h);have:=b c;exact⟨(aeY pv.length ds.length).symm▸W9 this.1,W9 this.2⟩
  |nil=>
   rw[vC] at h
   induction a:WR ds.length (ps.length+1) using Wn with
   |true=>rw[a] at h;exact aH h
   |false=>exact⟨Nat.le_add_left_of_le (Yq fun q=>gB ((Wy q).symm.trans a)),Xz _⟩
structure tJ(B:ao):Prop where
 ok:aJ B
 fn:i7 B
 g:n6 B
 c:Al B
 m:Av B
 l:Fb B
 x:mm B
section
variable{B:ao}{r r0:dN}
theorem qA(H:tJ B)(S:SimE B r)(ST:SimT B r)(f:gz B r)(h:r0.ev=aQ B.T r):SimE B r0:=by
 intro c e m Z A s V env sc Q E d scr rl er j F;have a:At B A c sc m env V Z s.heap:=⟨scr,rl,er,j⟩;rw[h] at F
 induction e using Mine.IE.casesOn with
 |none p=>exact C6 a F
 |bool b p=>exact C7 a F
 |int i p=>exact GP a F
 |str x p=>exact GQ a F
 |glob x p=>exact C9 H.ok d a F
 |name x p=>exact C8 d a F
 |not e p=>exact GS S ST d a F
 |neg i p1 p=>exact GR a F
 |attr e x p=>exact Dg H.ok S d a F
 |sub o i p=>exact GX H.ok S d a F
 |slice o lo u p1 p=>exact zW H.ok S d a F
 |tup es k p=>exact GV S d a F
 |list n es p=>exact Dd H.ok S d a F
 |dict ks vs p=>exact Dx H.ok S d a F
 |cmp op l e p=>exact G4 H.ok S d a F
 |bop op es p=>exact GW S ST d a F
 |ite t b o p=>exact GU S ST d a F
 |bin op l e p=>exact G8 H.ok S d a F
 |meth o x p1 as p=>exact DI H.ok H.fn H.m S f d a F
 |call x p1 n as p=>exact DD H.ok H.g H.fn H.c S f d a F
 |callv x p1 p=>exact AW H.ok S d a F
 |comp e q aR p=>exact D2 H.ok S ST d a F
 |dcomp k v q aR p=>exact AU H.ok S ST d a F
 |lam b aR p=>exact HA H.l d a F
theorem yq(H:tJ B)(S:SimE B r)(ST:SimT B r)(h:gz B r)(f:r0.ev=aQ B.T r):SimT B r0:=by
 intro c e m Z A s V env sc Q E d scr rl er g F;have a:At B A c sc m env V Z s.heap:=⟨scr,rl,er,g⟩;unfold o3 at F;rw[f] at F;have val:(∀Q,Fin B no (VR B) V s (aQ B.T r c e m Z) Q E->Ws (Wt B.prog B.w) A (eval (aV e) env) Q E s):=fun Q F=>(qA H S ST h f) c e m Z A s V env sc Q E d scr rl er g (f▸F)
 induction e using Mine.IE.casesOn with
 |not e p=>exact Dr ST d a F
 |cmp op l e p=>exact Dq H.ok S d a F
 |bop op es p=>exact Aa ST es d a F
 |ite t b o p=>exact Ds ST d a F
 |_=>exact xQ a F val rfl
theorem Ll(H:tJ B)(S:SimE B r)(ST:SimT B r)(l:gz B r)(n:Ht B r)(f:(∀c e m Z,r.ev c e m Z=.no)\/∃h,r.ev=aQ B.T h/\SimE B h/\SimT B h):∀x,EY B B.T r x:=by
 intro x c m Z A s V env sc Q E d a F
 induction x using Mine.IS.casesOn with
 |expr e p=>exact DL S d a F
 |asg t e p=>
  cases t with
  |attr o x j=>exact oy H.ok S d (fun _=>by simp) a F
  |sub o i j=>exact oy H.ok S d (fun _=>by simp) a F
  |to t=>
   induction t using Mine.IT.casesOn with
   |tup xs k j=>exact vn S d a F
   |name x j=>
    rcases f with f|⟨h,f,q,u⟩
    ·replace F:Fin B (dK env) (RX B env) V s ((r.ev c e m Z).bind fun v Z=>(ck B.T r c (.to (.name x j)) v m Z).bind fun m Z=>.ok (.next,m) Z) Q E:=F;rw[f] at F;exact F.elim
    ·exact tB H.ok f S q u d a F
 |ifs t b o p=>exact Ho ST l d a F
 | «for» t it b p=>exact Hs H.ok H.g S l d a F
 | «while» t b p=>exact AJ n d a F
 |ret fz e p=>exact Hq S d a F
 |raise x p1 as p2 p=>exact A4 H.ok H.fn H.x S d a F
 | «try» b hs p=>exact HL H.ok H.x S l d a F
 |pass p=>exact DM a F
theorem TO(H:tJ B):∀n,SimE B (run B.T n)/\SimT B (run B.T n)/\gz B (run B.T n)/\Ht B (run B.T n):=by
 intro n
 induction n using aeg with
 |ind n d=>
  induction n with
  |zero=>exact⟨fun c e m Z A s V env sc Q E _ _ _ _ _ F=>F.elim,fun c e m Z A s V env sc Q E _ _ _ _ _ F=>F.elim,fun c ss m Z A s V env sc Q E _ _ F=>F.elim,fun c t b m Z A s V env sc Q E _ _ _ F=>F.elim⟩
  |succ n=>
   obtain⟨S,ST,f,i⟩:=d n (XG _);have j:(∀c e m Z,(run B.T n).ev c e m Z=.no)\/∃g,(run B.T n).ev=aQ B.T g/\SimE B g/\SimT B g:=by
    clear H S ST f i
    induction n with
    |zero=>exact .inl fun _ _ _ _=>rfl
    |succ k=>exact .inr ⟨run B.T k,rfl,(d k (by exact Xp _)).1,(d k (by exact Xp _)).2.1⟩
   refine⟨qA H S ST f rfl,yq H S ST f rfl,?_,?_⟩
   ·intro c ss m Z A s V env sc Q E l a F;exact AI (Ll H S ST f i j) ss l a F
   ·intro c t b m Z A s V env sc Q E o p a F;exact vo (N:=n+1) (fun k h=>(d k h).2.1) (fun k h=>(d k h).2.2.1) o p a.rel.base (.refl _ _ _) a F
end
noncomputable def gj(K:Frag)(a:Addr):Obj:=(K.lookup a).getD {cls:=.none,data:=.freed}
noncomputable def j1(K:Frag)(a:Addr):acH:=match(gj K a).data with
 |.func fd=>fd
 |_=>default
noncomputable def A9(K:Frag)(a:Addr):Array Wm:=match(gj K a).data with
 |.fields vs=>vs
 |_=> #[]
noncomputable def Lm:Option Wm->Tok
 |some (.str _ t)=>t
 |_=>default
noncomputable def oY(K:Frag)(x:Nat):Option Wm:=match nsIn K XS (af x) with
 |some (Wb v)=>Wb v
 |some Wc=>adT (af x)
 |none=>Wc
noncomputable def Q3:List (Nat×Nat):=[(aX,29),(bC,75),(bO,80),(bE,87),(bP,95),(bF,102),(cD,109),(ee,116),(dh,123),(a5,130),(dC,137),(cC,144),(aY,151),(cO,158),(bX,165),(di,170),(dD,177),(bJ,182),(cX,196),(gk,203),(pL,211),(hS,216),(cx,228),(bQ,235),(du,242),(cm,249),(cZ,256),(eM,263),(bR,271),(c0,276),(bT,281),(cn,288),(jM,302),(iI,309),(li,316),(hV,321),(lj,328),(ef,335),(j7,342),(gu,349),(j8,356),(ll,363),(cE,368),(jN,375),(j9,380),(iJ,387),(iK,394),(cG,401),(dR,406),(cH,413),(Em,420)]
noncomputable def Q4:List (Nat×Nat):=[(br,57),(cL,45),(bG,291),(cV,185)]
noncomputable def Ln:Nat->Str
 |0=>"_law_fault_right.<locals>.<lambda>"
 |1=>"_law_names_right.<locals>.<lambda>"
 |_=>"_law_fixed_right.<locals>.<lambda>"
noncomputable def HM:Nat->Addr
 |0=>400
 |1=>405
 |_=>412
noncomputable def dj(K:afb->Frag)(w:Y6)(gh:Heap):ao where
 prog:=Xc.row.prog
 w:=w
 h₀:=gh
 K:=K w.params
 T:=tab
 fA:=fun f=>(bZ Q3 f).getD 0
 gV:=oY (K w.params)
 cA:=fun x=>(bZ Q4 x).getD 0
 tabA:=fun k=>match k with
  |0=>396
  |1=>403
  |_=>408
 tabQ:=Ln
noncomputable def iz(f:Nat):Addr:=(bZ Q3 f).getD 0
noncomputable def Lo(f:Nat):Nat:=(bZ [(aX,1),(bC,4),(bP,3),(bR,2)] f).getD 0
noncomputable def kd:Nat->List P×List Wm
 |1=>([.int 0],[.int 0 201])
 |2=>([.int 0],[.int 0 545])
 |3=>([.bool Wd],[.bool Wd])
 |4=>([.tup []],[.ref 67])
 |_=>([],[])
noncomputable def IC:List (Nat×Nat):=[(cG,0),(dR,1),(cH,2)]
noncomputable def Fj(fn:Fn):Bool:=ew fn.sc fn.body&&fn.sc.all (fun e=>XQ e.2 2) &&bY fn.ps&&fn.ps.all (gK fn.sc)
structure qB where
 o:Option Obj
 d:Data
 sc:List (Str×Ya)×ScopeKind×Bool×Bool
 body:FuncBody
 clo:List (Str×Addr)×Addr×Addr
 code:Wm
 oc:Option Obj
 cd:Data
 cq:Option Wm
 hc:Bool
 ds:List P
 tb:Option Nat
 tq:Option (Str×Addr)
 b1:Option (List (Str×Wm))
 b2:Option (List (Str×Wm))
noncomputable def Lp(K:Frag)(S:Setting)(fd:acH)(x:Nat->Wm)(n:Nat):Option (List (Str×Wm)):=peek K S (aeC fd ⟨(aag n).map x,[]⟩)
noncomputable def Lq(fn:Fn)(f:Nat)(x:Nat->Wm)(n:Nat):Option (List (Str×Wm)):=Wb ((fn.ps.map af).zip ((aag n).map x++(kd (Lo f)).2.drop (fn.ds.length+n - fn.ps.length)))
noncomputable def Lr(K:Frag)(S:Setting)(x:Nat->Wm)(e:Nat×Fn):qB:=
 {o:=K.lookup (iz e.1),d:=(gj K (iz e.1)).data,sc:=((j1 K (iz e.1)).scope.names,(j1 K (iz e.1)).scope.kind,(j1 K (iz e.1)).scope.isGenerator,(j1 K (iz e.1)).scope.isCoroutine),
  body:=(j1 K (iz e.1)).body,clo:=((j1 K (iz e.1)).closure,(j1 K (iz e.1)).globals,(j1 K (iz e.1)).builtins),code:=(j1 K (iz e.1)).code,oc:=K.lookup (iz e.1 - 1),cd:=(gj K (iz e.1 - 1)).data,
  cq:=(A9 K (iz e.1 - 1))[1]?,hc:=Fj e.2,ds:=e.2.ds,tb:=e.2.tb,tq:=(bZ IC e.1).map fun _=>(((j1 K (iz e.1)).qualname++".<locals>.")++"<lambda>",iz e.1 - 1),
  b1:=Lp K S (j1 K (iz e.1)) x e.2.ps.length,b2:=Lp K S (j1 K (iz e.1)) x (e.2.ps.length - e.2.ds.length)}
noncomputable def Ls(K:Frag)(x:Nat->Wm)(e:Nat×Fn):qB:=
 {o:=Wb (gj K (iz e.1)),d:=.func (j1 K (iz e.1)),sc:=((aw e.2.sc).names,.function,We,We),body:=.stmts (gQ e.2.body),clo:=([],XS,YF),code:=.ref (iz e.1 - 1),
  oc:=Wb (gj K (iz e.1 - 1)),cd:=.fields (A9 K (iz e.1 - 1)),cq:=Wb (.str (j1 K (iz e.1)).qualname (Lm (A9 K (iz e.1 - 1))[1]?)),hc:=Wd,ds:=(kd (Lo e.1)).1,tb:=bZ IC e.1,tq:=(bZ IC e.1).map fun k=>(Ln k,HM k),
  b1:=Lq e.2 e.1 x e.2.ps.length,b2:=Lq e.2 e.1 x (e.2.ps.length - e.2.ds.length)}
noncomputable def wW(K:Frag)(S:Setting)(x:Nat->Wm):List (Nat×Fn)->List qB
 | []=>[]
 |e::r=>Lr K S x e::wW K S x r
noncomputable def wX(K:Frag)(x:Nat->Wm):List (Nat×Fn)->List qB
 | []=>[]
 |e::r=>Ls K x e::wX K x r
theorem Ef{K:Frag}:∀{l:List (Nat×Fn)},(∀S x,wW K S x l=wX K x l)->∀e∈l,∀S x,Lr K S x e=Ls K x e:=by
 intro l
 induction l with
 |nil=>exact fun _ _ b=>nomatch b
 |cons a r c=>
  intro h e b;cases b with
  |head=>exact fun S x=>(Ye (h S x)).1
  |tail _ b=>exact c (fun S x=>(Ye (h S x)).2) e b
theorem HN:∀n,(kd n).1.length<=1
 |0=>Xz _
 |1=>Xk _
 |2=>Xk _
 |3=>Xk _
 |4=>Xk _
 |_+5=>Xz _
theorem tK:∀(a:List Wm),(aag a.length).map (fun i=>a.getD i .none)=a:=fun a=>by
 refine List.ext_getElem (by rw[Wp,adE]) fun i h1 b=>?_;rw[List.getElem_map,List.getElem_range,abk,Y8 b];rfl
section
variable{K:afb->Frag}{w:Y6}{gh:Heap}(X:(K w.params).In gh)
include X
theorem Lu(a:gh.get? 67=Wb {cls:=.type "tuple",data:=.seq #[]}){h:Heap}{V:aG}(c:∀b o,gh.get? b=Wb o->h.get? b=Wb o)(d:∀b,own V b->gh.get? b=Wc):∀n,VRs (dj K w gh) h V (kd n).1 (kd n).2
 |0=>rfl
 |1=>vrC rfl Ij rfl
 |2=>vrC rfl Ij rfl
 |3=>vrC rfl rfl rfl
 |4=>⟨_,_,rfl,rfl,⟨67,[],rfl,fun q=>rG (a.symm.trans (d _ q)),⟨_,c _ _ a,rfl,_,rfl⟩,rfl⟩,rfl⟩
 |_+5=>rfl
theorem HO(t:(K w.params).lookup 67=Wb {cls:=.type "tuple",data:=.seq #[]})(H:∀S x,wW (K w.params) S x Fx=wX (K w.params) x Fx)(C:∀k,acK gh (HM k) ((dj K w gh).tabA k)):
  ∀e∈Fx,∃fd,Kk (dj K w gh) e.1 e.2 fd:=fun e u=>by
 have R:=Ef H e u;have r:=R ⟨Xc.row.prog,w.params⟩ fun _=>.none;have hc:Fj e.2=Wd:=congrArg qB.hc r;have sc:=congrArg qB.sc r;have cl:=congrArg qB.clo r;have ds:e.2.ds=(kd (Lo e.1)).1:=congrArg qB.ds r;refine⟨j1 (K w.params) (iz e.1),⟨⟨_,X _ _ (congrArg qB.o r),congrArg qB.d r⟩,congrArg (·.1) sc,congrArg (·.2.1) sc,congrArg (·.2.2.1) sc,congrArg (·.2.2.2) sc,congrArg qB.body r,congrArg (·.1) cl,congrArg (·.2.1) cl,congrArg (·.2.2) cl,?_,aa (aa (aa hc)),ay (aa (aa hc)),ay (aa hc),ay hc,fun j v=>?_,(kd (Lo e.1)).2,fun h V y z=>ds▸Lu X (X _ _ t) y z (Lo e.1),?_⟩⟩
 ·exact⟨_,_,_,_,congrArg qB.code r,X _ _ (congrArg qB.oc r),congrArg qB.cd r,congrArg qB.cq r⟩
 ·have ht:bZ IC e.1=Wb j:=(congrArg qB.tb r).symm.trans v;have a:(bZ IC e.1).map _=(bZ IC e.1).map _:=congrArg qB.tq r;rw[ht] at a;have a:=Wi a;exact⟨_,congrArg qB.code r,(congrArg (·.2) a:iz e.1 - 1=HM j)▸C j,congrArg (·.1) a⟩
 ·intro b m ps l n A E s Q p a;have c:=yp e.2.ps l;rw[n] at c;refine kp_binds (X.keeps p) (fun S=>?_) _ _ _ _ a;have f:=R S fun i=>b.getD i .none;have g:Lp _ S _ _ _=Lq e.2 e.1 _ _:=congrArg qB.b1 f;have b2:Lp _ S _ _ _=Lq e.2 e.1 _ _:=congrArg qB.b2 f;have B:e.2.ds.length<=1:=ds▸HN _;clear f r ds sc cl hc l n a p R H;unfold Lp Lq at g b2;cases Nat.eq_or_lt_of_le c.2 with
  |inl q=>rw[<-q,tK] at g;rw[<-q];exact g
  |inr q=>
   have D:b.length=e.2.ps.length - e.2.ds.length:=aaT (acE (Wj (W2 B _) q)) (Nat.sub_le_of_le_add c.1);rw[<-D,tK] at b2;exact b2
end
theorem mO{x:Nat}:∀{l:List Nat},Bq x l=Wd->x∈l
 |y::r,h=>by
  rw[IU] at h
  induction a:Wf y x using Wn with
  |true=>rw[b9 a];exact .head _
  |false=>rw[a] at h;exact .tail _ (mO h)
noncomputable def kX(x:Nat):Addr:=(bZ Q4 x).getD 0
noncomputable def Ba(v:Option (Option Wm))(p:Option Wm->Bool):Bool:=match v with
 |some a=>p a
 |none=>We
theorem tL{v:Option (Option Wm)}{p:Option Wm->Bool}(h:Ba v p=Wd):∃a,v=Wb a/\p a=Wd:=by
 induction v using Wo with
 |none=>exact dg h
 |some a=>exact⟨a,rfl,h⟩
noncomputable def HP(K:Frag)(C x:Nat):Bool:=X4 K (.ref (kX C)) "__getattribute__" ==Wb (Wb (.builtin "object.__getattribute__")) &&ac4 K (kX C) &&Ba (X4 K (.ref (kX C)) (af x)) (noGet K) &&
 X4 K (.ref (kX C)) "__setattr__" ==Wb (Wb (.builtin "object.__setattr__")) &&aeT K (kX C) &&aa2 K (kX C) (af x)==Wb Wc
noncomputable def HQ(K:Frag)(C x:Nat):Bool:=X4 K (.ref (kX C)) "__getattribute__" ==Wb (Wb (.builtin "BaseException.__getattribute__")) &&ac4 K (kX C) &&Ba (X4 K (.ref (kX C)) (af x)) (noGet K) &&
 X4 K (.ref (kX C)) "__getattr__" ==Wb Wc&&subIn K (.ref (kX C)) (.type "BaseException")==Wb Wd
noncomputable def Lv(K:Frag):Bool:=Fz.all fun e=>e.2.all fun x=>match jy e.1 with
 |some _=>HP K e.1 x
 |none=>HQ K e.1 x
noncomputable def Lw(K:Frag)(C x f:Nat):Bool:=X4 K (.ref (kX C)) "__getattribute__" ==Wb (Wb (.builtin "object.__getattribute__")) &&X4 K (.ref (kX C)) "__getattr__" ==Wb Wc&&
  X4 K (.ref (kX C)) (af x)==Wb (Wb (.ref (iz f))) &&aeF K (.ref (iz f))==Wb (.type "function") &&acf K (.ref (iz f))
noncomputable def Lx(K:Frag):Bool:=y6.all fun e=>e.2.all fun m=>Lw K e.1 m.1 m.2
noncomputable def Ly(K:Frag)(x f:Nat):Bool:=oY K x==Wb (.ref (kX x)) &&makesIn K (kX x) &&X4 K (.ref (kX x)) "__init__" ==Wb (Wb (.ref (iz f))) &&aeF K (.ref (iz f))==Wb (.type "function") &&acf K (.ref (kX x))
noncomputable def Lz(K:Frag):Bool:=Fy.all fun e=>Ly K e.1 e.2
noncomputable def HR(K:Frag)(x:Nat):Bool:=acf K (.ref (iz x)) &&oY K x==Wb (.ref (iz x)) && (fnT x).isSome
noncomputable def LA(K:Frag):Bool:=BY.all (HR K)
noncomputable def O7(cd:ad9)(P:Addr)(o:Obj):XD:=⟨cd.name,cd.qualname,cd.ns,P,cd.bases,cd.hasDict,cd.slotNames,cd.subclasses,cd.abstract,cd.collection,o.dict,(o.slots[0]?).join,(o.slots[1]?).join,(o.slots[2]?).join,(o.slots[3]?).join,(o.slots[5]?).join⟩
noncomputable def Bb(K:Frag)(C:Addr):ad9:=(aef K C).getD ⟨"",[],[],0,"",Wd,[],[],We,Wc,We⟩
noncomputable def Fm(K:Frag)(C:Addr):Addr:=match(Bb K C).mro with
 |_:: .ref P::_=>P
 |_=>0
noncomputable def O8(K:Frag)(C:Addr):Prop:=K.lookup C=Wb ((O7 (Bb K C) (Fm K C) (gj K C)).o C)/\aef K C=Wb (Bb K C)/\(Bb K C).hasDict=Wd/\(Bb K C).mro=.ref C::jg (Fm K C)
noncomputable def LB(K:Frag)(x:Nat):Bool:=oY K x==Wb (.ref (kX x)) &&acf K (.ref (kX x)) &&X4 K (.ref (kX x)) "__init__" ==Wb (Wb (.ref (iz aX))) &&
 X4 K (.ref (kX x)) "__setattr__" ==Wb (Wb (.builtin "object.__setattr__")) &&aa2 K (kX x) (af aj)==Wb Wc&&aa2 K (kX x) (af aM)==Wb Wc&&
 [br,cL].all fun y=>Wf y x||(match aef K (kX x) with|some cd=>!cd.mro.contains (.ref (kX y)) |none=>We)
theorem oR:∀x,jz x aj=Wd->jz x aM=Wd->x∈[br,cL]:=by
 intro x h1 _;unfold jz at h1;split at h1
 ·rename_i l a;have:∀e∈Fz,Bq aj e.2=Wd->e.1∈[br,cL]:=by decide+kernel
  exact this _ (cW a) h1
 ·exact dg h1
noncomputable def HS(K:Frag):Bool:=oY K fg==Wb (.builtin "len") &&oY K dz==Wb (.type "list") &&oY K cb==Wb (.type "tuple") &&oY K rO==Wb (.builtin "any") &&oY K dO==Wb (.builtin "isinstance") &&
 oY K fh==Wb (.builtin "sorted") &&oY K rP==Wb (.type "int") &&oY K rQ==Wb (.type "str") &&oY K bx==Wb (.type "enumerate") &&oY K ml==Wb (.type "Exception") &&aeF K (.ref (iz aX))==Wb (.type "function")
noncomputable def wY(K:Frag):Bool:=match nsIn K XS "__name__" with
 |some (Wb _)=>Wd
 |_=>We
noncomputable def oS(s:Str):Option Wm->Bool
 |some (.str q _)=>q==s
 |_=>We
noncomputable def HT(f:List Wm->Bool):Data->Bool
 |.seq xs _=>f xs.toList
 |_=>We
noncomputable def HU(a b:Str):List Wm->Bool
 | [u,v]=>oS a (Wb u) &&oS b (Wb v)
 |_=>We
theorem lK{s:Str}{o:Option Wm}(h:oS s o=Wd):∃t,o=Wb (.str s t):=by
 rcases o with _|v
 ·exact dg h
 ·cases v with
  |str q t=>exact⟨t,by rw[show q=s from beq_iff_eq.mp h]⟩
  |_=>exact dg h
theorem Eg{f:List Wm->Bool}{d:Data}(h:HT f d=Wd):∃xs n,d=.seq xs n/\f xs.toList=Wd:=by
 cases d with
 |seq xs n=>exact⟨xs,n,rfl,h⟩
 |_=>exact dg h
theorem Eh{a b:Str}{l:List Wm}(h:HU a b l=Wd):∃s t,l=[.str a s,.str b t]:=by
 rcases l with _|⟨u,_|⟨v,_|⟨w,l⟩⟩⟩
 ·exact dg h
 ·exact dg h
 ·obtain⟨s,e1⟩:=lK (aa h);obtain⟨t,e2⟩:=lK (ay h);exact⟨s,t,by rw[Wi e1,Wi e2]⟩
 ·exact dg h
noncomputable def Bc(o:Option Wm):Bool:=o.isSome&&acI (o.getD .none) &&!(o.getD .none==.none)
theorem Bd{o:Option Wm}(h:Bc o=Wd):∃v,o=Wb v/\acI v=Wd/\(v==.none)=We:=by
 induction o using Wo with
 |none=>exact dg h
 |some v=>exact⟨v,rfl,aa h,(Xy _).mp (ay h)⟩
noncomputable def O9(K:Frag):Bool:=oY K 336472264267==Wb (.ref 204) && (K.lookup 204).isSome&&oS (af 1852399981) (oY K 1313423693) && ((gj K 204).cls==.type "tuple" &&HT (HU (af 1668184435) (af 28549272340166002)) (gj K 204).data) &&
 [2342095099875884289410416575209832,435611006324,7500915,7630441].all fun x=>Bc (oY K x)
structure HF(K:afb->Frag):Prop where
 ok67:∀P,(K P).lookup 67=Wb {cls:=.type "tuple",data:=.seq #[]}
 rows:∀P S x,wW (K P) S x Fx=wX (K P) x Fx
 ok_fields:∀P,Lv (K P)=Wd
 ok_meths:∀P,Lx (K P)=Wd
 ok_cls:∀P,Lz (K P)=Wd
 ok_tops:∀P,LA (K P)=Wd
 ok_exc:∀P,([br,cL].all (LB (K P)))=Wd
 ok_exo:∀P,∀x∈[br,cL],O8 (K P) (kX x)
 ok_glob:∀P,HS (K P)=Wd
 ok_name:∀P,wY (K P)=Wd
 ok_vals:∀P,O9 (K P)=Wd
theorem rF{K:Frag}{a:Addr}(h:(K.lookup a).isSome=Wd):K.lookup a=Wb (gj K a):=by
 obtain⟨o,b⟩:=Xt.mp h;unfold gj;rw[b];rfl
section
variable{K:afb->Frag}(H:HF K){w:Y6}{gh:Heap}{mg mb:Str->Option Wm}
include H
theorem yr(X:(K w.params).In gh)(G:gh.Ns XS mg)(a:gh.Ns YF mb)(b:∀x:Str,x≠ "__name__" ->mb x=adT x):∀x v,oY (K w.params) x=Wb v->(∃mg,gh.Ns XS mg/\mg (af x)=Wb v)\/∃mg mb,gh.Ns XS mg/\mg (af x)=Wc/\gh.Ns YF mb/\mb (af x)=Wb v:=by
 intro x v h;unfold oY at h;split at h
 ·rename_i u e;obtain rfl:=Wi h;exact .inl ⟨mg,G,mg_of X G e⟩
 ·rename_i e;refine .inr ⟨mg,mb,G,ns_none_of X G e,a,?_⟩;rw[b,h];intro z;have:=H.ok_name w.params;unfold wY at this;rw[<-z,e] at this;exact dg this
 ·exact aH h
theorem Be{C x:Nat}(h:jz C x=Wd):(match jy C with|some _=>HP (K w.params) C x|none=>HQ (K w.params) C x)=Wd:=by
 unfold jz at h;split at h
 ·rename_i l a;exact Xb.mp (Xb.mp (H.ok_fields w.params) _ (cW a)) _ (mO h)
 ·exact dg h
theorem Bf(X:(K w.params).In gh)(x:Nat)(p:P)(h:rW x=Wb p):∃v,(dj K w gh).gV x=Wb v/\p.isOdd=We/\∀h V,(∀b o,gh.get? b=Wb o->h.get? b=Wb o)->(∀b,own V b->gh.get? b=Wc)->VR (dj K w gh) h V p v:=by
 have hm:=cW (show bZ y7 x=Wb p from h);have k:((((oY (K w.params) 336472264267==Wb (.ref 204) && ((K w.params).lookup 204).isSome) &&oS (af 1852399981) (oY (K w.params) 1313423693)) && ((gj (K w.params) 204).cls==.type "tuple" &&HT (HU (af 1668184435) (af 28549272340166002)) (gj (K w.params) 204).data)) && [2342095099875884289410416575209832,435611006324,7500915,7630441].all fun x=>Bc (oY (K w.params) x))=Wd:=H.ok_vals w.params;clear h;have a:∀y∈[2342095099875884289410416575209832,435611006324,7500915,7630441],∃v,(dj K w gh).gV y=Wb v/\(P.glob y).isOdd=We/\∀h V,(∀b o,gh.get? b=Wb o->h.get? b=Wb o)->(∀b,own V b->gh.get? b=Wc)->VR (dj K w gh) h V (.glob y) v:=fun y f=>by
  clear X hm x;obtain⟨v,h1,g,i⟩:=Bd (Xb.mp (ay k) y f);exact⟨v,h1,rfl,fun h V _ _=>Sn h1 g i⟩
 unfold y7 at hm;rcases Ww.mp hm with q|hm
 ·clear a hm;obtain⟨rfl,rfl⟩:=afm q;have j:=beq_iff_eq.mp (aa (aa (aa (aa k))));have k2:=ay (aa (aa (aa k)));have k4:=ay (aa k);clear k;obtain⟨xs,n,hd,c⟩:=Eg (ay k4);obtain⟨l,tb,c⟩:=Eh c;have d:gh.get? 204=Wb (gj (K w.params) 204):=X _ _ (rF k2);refine⟨.ref 204,j,rfl,fun h V m r=>zP.mk 204 [.str (af 1668184435) l,.str (af 28549272340166002) tb] rfl (fun q=>rG (d.symm.trans (r _ q))) ⟨_,m _ _ d,beq_iff_eq.mp (aa k4),n,by rw[hd,abZ.mp c]⟩ (vrC rfl GN (vrC rfl GN rfl))⟩
 clear X;rcases Ww.mp hm with q|hm
 ·clear a hm;clear hm;obtain⟨rfl,rfl⟩:=afm q;clear q;obtain⟨t,e⟩:=lK (ay (aa (aa k)));exact⟨_,e,rfl,fun h V _ _=>GN⟩
 clear k;rcases Ww.mp hm with q|hm
 ·cases q;exact a _ (by simp)
 rcases Ww.mp hm with q|hm
 ·cases q;exact a _ (by simp)
 rcases Ww.mp hm with q|hm
 ·cases q;exact a _ (by simp)
 rcases Ww.mp hm with q|hm
 ·cases q;exact a _ (by simp)
 clear a;cases hm
theorem bases(X:(K w.params).In gh)(d:gh.NoLimit)(G:gh.Ns XS mg)(i:gh.Ns YF mb)(j:∀x:Str,x≠ "__name__" ->mb x=adT x)
  (O:∃a ob,mg "__builtins__" =Wb (.ref a)/\a≠YF/\gh.get? a=Wb ob/\ob.cls=.type "module" /\ob.dict=Wb YF/\ob.data=.plain)
  (P:gh.get? 396=Wc) (Q:gh.get? 403=Wc) (R:gh.get? 408=Wc) (S:acK gh 400 396) (T:acK gh 405 403) (U:acK gh 412 408):tJ (dj K w gh) where
 ok:={
  X:=X
  nolimit:=d
  glob:=yr H X G i j
  fld:=fun C x h hc=>by
   have q:=Be H (w:=w) h;clear X d G i j h;obtain⟨f,hf⟩:=Xt.mp hc;have hf:jy C=Wb f:=hf;rw[hf] at q;unfold HP at q;simp only[W5,beq_iff_eq] at q;clear hc hf;exact⟨q.1.1.1.1.1,q.1.1.1.1.2,tL q.1.1.1.2,q.1.1.2,q.1.2,q.2⟩
  xfld:=fun C x h hc=>by
   have q:=Be H (w:=w) h;have hf:jy C=Wc:=abm.mp hc|>Yv.mp;rw[hf] at q;unfold HQ at q;simp only[W5,beq_iff_eq] at q;clear X d G i j h hc hf;exact⟨q.1.1.1.1,q.1.1.1.2,tL q.1.1.2,q.1.2,q.2⟩
  val:=Bf H X}
 fn:=⟨fun f fn h=>HO X (H.ok67 _) (H.rows _) (fun|0=>S|1=>T|_+2=>U) (f,fn) (cW (show bZ Fx f=Wb fn from h))⟩
 g:=by
  have k:=H.ok_glob w.params;unfold HS at k;simp only[W5,beq_iff_eq] at k;refine⟨k.1.1.1.1.1.1.1.1.1.1,k.1.1.1.1.1.1.1.1.1.2,k.1.1.1.1.1.1.1.1.2,k.1.1.1.1.1.1.1.2,k.1.1.1.1.1.1.2,k.1.1.1.1.1.2,k.1.1.1.1.2,k.1.1.1.2,k.1.1.2,fun x h _=>?_⟩;have q:=Xb.mp (H.ok_tops w.params) _ (mO (show Bq x BY=Wd from h));unfold HR at q;simp only[W5,beq_iff_eq] at q;exact⟨q.1.2,q.2⟩
 c:=by
  refine⟨fun x f h=>?_,fun x h=>?_⟩
  ·have q:=Xb.mp (H.ok_cls w.params) _ (cW (show bZ Fy x=Wb f from h));unfold Ly at q;simp only[W5,beq_iff_eq] at q;clear h;exact⟨q.1.1.1.1,q.1.1.1.2,q.1.1.2,q.1.2,q.2⟩
  ·have q:=Xb.mp (H.ok_tops w.params) _ (mO (show Bq x BY=Wd from h));unfold HR at q;simp only[W5,beq_iff_eq] at q;exact q.1.1
 m:=by
  refine⟨fun C x f h _=>?_⟩;have h:(match bZ y6 C with|some l=>bZ l x|none=>Wc)=Wb f:=h;split at h
  ·rename_i l s;have q:=Xb.mp (Xb.mp (H.ok_meths w.params) _ (cW s)) _ (cW h);unfold Lw at q;simp only[W5,beq_iff_eq] at q;clear h s;exact⟨q.1.1.1.1,q.1.1.1.2,q.1.1.2,q.1.2,q.2⟩
  ·exact aH h
 l:=by
  obtain⟨a,ob,V,b2,b,W,Y,n⟩:=O;have Z:∀k,gh.get? ((dj K w gh).tabA k)=Wc:=fun k=>match k with
   |0=>P
   |1=>Q
   |_+2=>R
  refine⟨mg,G,fun k=>⟨a,ob,V,b2,fun q=>?_,fun q=>?_,b,W,Y,n⟩⟩
  ·obtain⟨o,es,ep,e,Kb,_⟩:=G;rw[q,e] at b;obtain rfl:=Wi b;rw[Kb] at n;cases n
  ·have this:=Z k;rw[<-q,b] at this;exact rG this
 x:=by
  have k:=H.ok_glob w.params;unfold HS at k;simp only[W5,beq_iff_eq] at k;obtain⟨⟨_,t⟩,u⟩:=k;refine⟨by kernel_rfl,u,t,fun x h1 p=>?_⟩;have q:=Xb.mp (H.ok_exc w.params) x (oR x h1 p);unfold LB at q;simp only[W5,beq_iff_eq] at q;clear t u;obtain⟨⟨⟨⟨⟨⟨v,A⟩,B⟩,D⟩,E⟩,F⟩,I⟩:=q;obtain⟨e1,e2,e3,J⟩:=H.ok_exo w.params x (oR x h1 p);refine⟨v,A,⟨_,_,X _ _ e1,e2,e3,J⟩,fun y L M eL N r=>?_,B,D,E,F⟩;have z:=Xb.mp I y (oR y L M);rw[XX] at z;clear h1 p v A B D E F I e1 e2 e3 J L M;rcases z with z|z
  ·exact absurd (b9 z) eL
  ·have r:aef (K w.params) (kX x)=Wb N:=r;rw[r] at z;show N.mro.contains (.ref (kX y))=We;simpa using z
end
noncomputable abbrev gX:Nat:=128026154263411
noncomputable abbrev LD:St:=[.tab 0,.tab 1,.tab 2]
noncomputable def Bg(L:List Int):Prop:=∃n b a,(run tab n).ex ⟨25,We,Wc⟩ mX [(gX,.list (L.map .int))] LD=.ok (.ret (.bool Wd),b) a/\ai a 0=Wb (.tab 0)/\ai a 1=Wb (.tab 1)/\ai a 2=Wb (.tab 2)
theorem Bh{B:ao}{h:Heap}{V:aG}{vs:List Wm}{L:List Int}(x:IntsAre vs L):VRs B h V (L.map P.int) vs:=by
 induction x with
 |nil=>exact rfl
 |cons n t _ a=>exact vrC rfl Ij a
noncomputable abbrev jh:List (Addr×Addr):=[(405,403),(412,408),(400,396)]
noncomputable abbrev yJ:aG:=[Wb (396,396),Wb (403,403),Wb (408,408)]
noncomputable def yK(n:Nat):Addr×Addr:=((ai yJ n).getD Wc).getD (0,0)
theorem yt{i:Nat}{c:Addr×Addr}(h:ai yJ i=Wb (Wb c)):i<3/\yK i=c:=by
 refine⟨?_,by unfold yK;rw[h];rfl⟩;rcases i with _|_|_|i
 ·decide
 ·decide
 ·decide
 ·exact aH h
theorem Pg:∀i,i<3->∀j,j<3->i≠j->(yK i).1≠(yK j).1/\(yK i).1≠(yK j).2/\(yK i).2≠(yK j).1/\(yK i).2≠(yK j).2:=by decide
theorem Ph:∀i,i<3->(yK i).1∈[396,403,408]/\(yK i).2∈[396,403,408]:=by decide
theorem Bi{b:Addr}(q:own yJ b):b=396\/b=403\/b=408:=by
 obtain⟨n,c,e,z⟩:=q;have h:=Ph n (yt e).1;rw[(yt e).2] at h;have a:b∈[396,403,408]:=z.elim (fun z=>z▸h.1) fun z=>z▸h.2;simpa using a
theorem start{K:afb->Frag}(HH:HF K){w:Y6}{name:Str}{scope:adi}{body:List Stmt}{l:Wl}{p':Yi}{A:List Str}{Pj:ExcName->Option Wm}{mg mb m:Str->Option Wm}{s:Heap}{B C:Addr}{cd:Wm}{vs:List Wm}{L:List Int}{tk:Tok}{Q:Flow->Wl->Prop}{E:Wm->Wl->Prop}
  (X:(K w.params).In (aa6 l.heap jh)) (T:Top p' A Pj mg mb (aa6 l.heap jh)) (F:Fr (aa6 l.heap jh) l.heap.objs.size s m) (hm:m (af gX)=Wb (.ref C)) (u:(aa6 l.heap jh).IsList C vs.toArray) (hI:IntsAre vs L)
  (C1:acK (aa6 l.heap jh) 405 403) (C2:acK (aa6 l.heap jh) 412 408) (C3:acK (aa6 l.heap jh) 400 396) (N:News (aa6 l.heap jh) l.heap.objs.size s [(403,ae1 #[]),(408,ae1 #[]),(396,ae1 #[])])
  (low:XJ<396) (LF:body=gQ mX) (n4:scope.names=(aw iU.sc).names) (oO:scope.kind=.function) (plain:Bg L)
  (hQ:∀s',(∀b o,(aa6 l.heap jh).get? b=Wb o->s'.heap.get? b=Wb o)->s'.os=l.os->s'.gens=l.gens->GrownAll jh s'.heap->Q (.ret (.bool Wd)) s'):
  Ws (Wt Xc.row.prog w) (callerA.deeper (envOf name scope l.heap.objs.size B cd)) (aeB body (envOf name scope l.heap.objs.size B cd)) Q E {heap:=s,gens:=l.gens,drawn:=l.drawn,toks:=tk,os:=l.os}:=by
 obtain⟨n,m',Z',M,O,R,S⟩:=plain;generalize Wa:aa6 l.heap jh=gh at*;have G:=N _ (.head _);have H:=N _ (.tail _ (.head _));have I:=N _ (.tail _ (.tail _ (.head _)));have U:gh.get? l.heap.objs.size=Wc:=Xf F.above;have V:∀b,own yJ b->gh.get? b=Wc:=fun b q=>by
  clear B cd tk E M O R S U;rcases Bi q with rfl|rfl|rfl
  ·exact I.2.2
  ·exact G.2.2
  ·exact H.2.2
 have W:¬own yJ l.heap.objs.size:=fun q=>by
  clear B cd tk E M O R S U V;rcases Bi q with z|z|z
  ·exact I.2.1 z.symm
  ·exact G.2.1 z.symm
  ·exact H.2.1 z.symm
 have TR:¬own yJ C:=fun q=>by
  clear B cd tk E M O R S G H I U W;obtain⟨o,g,_⟩:=u;rw[V C q] at g;exact aH g
 have i8:∀y,scope.names.lookup (af y)=(ap iU.sc y).map aI:=fun y=>by rw[n4];exact c5 _ _
 have kc:∀e∈iU.sc,e.2=0\/e.2=1:=by decide
 generalize D:envOf name scope l.heap.objs.size B cd=env;have Y:∀y,env.kindOf (af y)=(ap iU.sc y).map aI:=fun y=>by rw[<-D];exact i8 y
 have J:env.locals=l.heap.objs.size:=D▸rfl;have rl:Rel (dj K w gh) yJ LD s:=by
  refine⟨F.keep,fun j=>?_,fun i j c d ei ej wa=>?_,V,rfl,fun b q=>?_⟩
  ·rcases j with _|_|_|j
   ·exact⟨rfl,rfl,_,I.1,trivial,fun _ _ hc=>aH hc⟩
   ·exact⟨rfl,rfl,_,G.1,trivial,fun _ _ hc=>aH hc⟩
   ·exact⟨rfl,rfl,_,H.1,trivial,fun _ _ hc=>aH hc⟩
   ·trivial
  ·have h:=Pg i (yt ei).1 j (yt ej).1 wa;rw[(yt ei).2,(yt ej).2] at h;exact h
  ·rcases Bi q with rfl|rfl|rfl
   ·exact low
   ·exact YQ low (by decide)
   ·exact YQ low (by decide)
 have LG:VR (dj K w gh) s yJ (.list (L.map .int)) (.ref C):=by
  clear W i8 Y J rl;obtain⟨o,g,r⟩:=u;exact⟨C,vs,rfl,TR,⟨o,F.keep _ _ g,r⟩,Bh hI⟩
 have envr:EnvR (dj K w gh) yJ s [(gX,.list (L.map .int))] env:=by
  refine zR Y kc (D▸oO) (D▸rfl) (D▸rfl) (by rw[J];exact W) (by rw[J];exact U) ⟨m,by rw[J];exact F.ns,fun x p _ g=>?_⟩;rw[j3] at g;clear J rl
  induction Z:Wf gX x using Wn with
  |true=>
   rw[Z] at g;cases g;exact(b9 Z)▸⟨_,hm,LG⟩
  |false=>rw[Z] at g;exact aH g
 have scr:EN iU.sc env:=EO Y kc;have a:At (dj K w gh) (callerA.deeper env) ⟨25,We,Wc⟩ iU.sc [(gX,.list (L.map .int))] env yJ LD s:=by
  refine⟨scr,rl,envr,⟨⟨env,[],rfl,rfl,.cons envr (D▸rfl) fun e he=>absurd he WA⟩,(show 302+3*25+3<=1000 by decide),(show 7+40*25+100<=9900 by decide),fun _=>rfl,fun k hk=>aH hk⟩⟩
 rw[LF];refine(TO (bases HH X T.nolimit T.g T.b T.builtins T.bmain I.2.2 G.2.2 H.2.2 C3 C1 C2) n).2.2.1 ⟨25,We,Wc⟩ mX _ LD (callerA.deeper env) {heap:=s,gens:=l.gens,drawn:=l.drawn,toks:=tk,os:=l.os} yJ env iU.sc Q E (by decide+kernel) a ?_;show Fin (dj K w gh) (dK env) (RX (dj K w gh) env) yJ _ ((run tab n).ex ⟨25,We,Wc⟩ mX [(gX,.list (L.map .int))] LD) Q E;rw[M];intro V' s' f st yG hr;clear LG envr scr a;obtain⟨v,rfl,hv⟩:=hr;subst hv;have t:∀k P,ai Z' k=Wb (.tab k)->(dj K w gh).tabA k=P->GrownAt P s'.heap:=fun k P e hP=>by
  have q:=yG.objs k;rw[e] at q;clear st yG e
  induction z:ai V' k using Wo with
  |none=>rw[z] at q;exact q.elim
  |some x=>induction x using Wo with
   |none=>rw[z] at q;cases q
   |some c=>
    rw[z] at q;clear z;obtain⟨_,q2,ps,q3,_⟩:=q;exact⟨ps,by rw[<-hP,<-q2];exact q3⟩
 exact hQ s' yG.base st.os st.gens ⟨t 1 403 R rfl,t 2 408 S rfl,t 0 396 O rfl,trivial⟩
theorem TU(p:Yi)(h:(sreFenced p.main&& ((moduleNames p.main.body).isEmpty||lookedIntoSs (moduleNames p.main.body) p.main.body))=Wd)(h1:namesResolve p=Wd)(a:(p.boundNames.all fun n=>!worldNames.contains n)=Wd)
  (b:noRoadLSs {strict:=!(importedModules p.main.body).all cThrough.contains,foot:=Wc,bare:=(["vars","dir","locals"]:List Str).filter (readsOut p p.main.body)} p.main.body=Wd) (c:(namesMeet p p.main.body fun _ n=>attrL n)=Wd):looksOpen p=Wd:=
 aea (aea (aea (aea h h1) a) b) c
theorem TV:namesResolve Xc.row.prog=Wd:=by kernel_rfl
theorem TX:(Xc.row.prog.boundNames.all fun n=>!worldNames.contains n)=Wd:=by kernel_rfl
theorem TY:looksOpen Xc.row.prog=Wd:=TU _ (by kernel_rfl) TV TX (by kernel_rfl) (by kernel_rfl)
theorem TZ:Xc.row.wellSaid=Wd:=by
 unfold OpenRow.wellSaid OpenRow.partSaid;rw[TY];kernel_rfl
theorem wl6:Xc.wellSaid=Wd:=by
 unfold OpenLaw.wellSaid;rw[TZ];kernel_rfl
end Mine
end
section
open PySem PyProof.Rows PySem.Calls PySem.W
namespace Mine.hd
def tw14015909994521340511:=Nat
def tw11387694631328260470:=Nat
def tw8301555971658089161:=Nat
def tw1852308525546674916:=Nat
def tw15603535497565009323:=Nat
def tw11186583544244715869:=Nat
def tw14980952864720948581:=Nat
def tw8096613928993691855:=Nat
def tw16650738400726616396:=Nat
def tw10710382070026781887:=Nat
def tw18227519186394308793:=Nat
def tw2845679848157327705:=Nat
def tw12373568994912964417:=Nat
def tw17012040316742504577:=Nat
def tw6060742912462422084:=Nat
def tw4014540891139286612:=Nat
def tw12038256508788140161:=Nat
def tw3953601041324332601:=Nat
def tw8671608845466749128:=Nat
def tw2167537188350426706:=Nat
def tw14346525914970070588:=Nat
def tw13770079208771991547:=Nat
def tw14294001040229213422:=Nat
def tw432457690288141553:=Nat
def tw2641799114124571417:=Nat
def tw10030107230732127627:=Nat
def tw5608270528595127837:=Nat
def tw11660266114150955751:=Nat
def tw14176624398918483544:=Nat
def tw16996915472630922493:=Nat
def tw18264374347568628810:=Nat
def tw4478166936697009375:=Nat
def tw15083628210047938546:=Nat
def tw14478148883734587675:=Nat
def tw8226494294326810461:=Nat
def tw15527848837575444561:=Nat
def tw9908193460736022307:=Nat
def tw3919010098100093602:=Nat
def tw7914949630228597729:=Nat
def tw2788664435532181463:=Nat
def tw190519026028168232:=Nat
def tw17599816209265215132:=Nat
def tw17062030032774818151:=Nat
def tw3309697970292668127:=Nat
def tw15153279154761372571:=Nat
def tw6407587892757256292:=Nat
def tw11893437276241958245:=Nat
def tw7289634563603522867:=Nat
def tw8832402302947667407:=Nat
def tw2708950531961675432:=Nat
def tw13181220554201973888:=Nat
def tw5559951931751713254:=Nat
def tw991583007596301734:=Nat
def tw6276725880618359904:=Nat
def tw5635641802508607975:=Nat
def tw5461583852855630226:=Nat
def tw6293948785866598258:=Nat
def tw10296555574160606952:=Nat
def tw15416985209724490359:=Nat
def tw8364274539379898114:=Nat
def tw9427301549700849589:=Nat
def tw11669539578447061892:=Nat
def tw12451258846644117672:=Nat
def tw18185175575083235020:=Nat
def tw9170477692918782315:=Nat
def tw17047115858639842297:=Nat
def tw8343274005884668182:=Nat
def tw8841187974860818712:=Nat
def tw13437302318768402701:=Nat
def tw4845836938831722396:=Nat
def tw4225703048834024713:=Nat
def tw701787995468756871:=Nat
def tw17808607793243039243:=Nat
def tw16473244170626142550:=Nat
def tw17061077104543960549:=Nat
def tw17397052962432165270:=Nat
def tw7109450275434161582:=Nat
def tw8990313861142287110:=Nat
def tw4325921153153474475:=Nat
def tw3008623586974134963:=Nat
def tw13753220567063992666:=Nat
def tw15114108414909977919:=Nat
def tw15890378047532165470:=Nat
def tw6804821044290156842:=Nat
def tw6046025761626283908:=Nat
def tw1860674893733999873:=Nat
def tw14598272352848978880:=Nat
def tw12797040952259185971:=Nat
def tw16222499966895952523:=Nat
def tw6154236146145331571:=Nat
def tw13285133528070534704:=Nat
def tw14457593812595234344:=Nat
def tw10949625832625181284:=Nat
def tw6663896369628448293:=Nat
def tw4377701919642642989:=Nat
def tw8414420238210853183:=Nat
def tw15040182064412255696:=Nat
def tw5567388512258382067:=Nat
def tw9237616624170024493:=Nat
def tw6838551448383532254:=Nat
def tw1097998534492414930:=Nat
def tw6982297934935202809:=Nat
def tw3182187488490625086:=Nat
def tw16649331688326792143:=Nat
def tw13372043803930879067:=Nat
def tw4993660671451451078:=Nat
def tw9702936160620672325:=Nat
def tw9421340871869096474:=Nat
def tw5292301768408028288:=Nat
def tw4115565904173853331:=Nat
def tw13409441903868389331:=Nat
def tw13220430256171166289:=Nat
def tw14353793391729792155:=Nat
def tw9499510787657705874:=Nat
def tw7345208892882624808:=Nat
def tw6394381022753523788:=Nat
def tw6082411064634330575:=Nat
def tw5366084841770067474:=Nat
def tw4278124947684190350:=Nat
def tw3452082135128663414:=Nat
def tw2252305205657439004:=Nat
def tw17903497710992402801:=Nat
def tw17672654358674132775:=Nat
def tw1600037746751723098:=Nat
def tw15642763164714097627:=Nat
def tw15615537253650120727:=Nat
def tw1439246655266547700:=Nat
def tw14168552714766633299:=Nat
def tw13825509269061658866:=Nat
def tw12598724348716800887:=Nat
def tw1241404454085649124:=Nat
def tw11959044307898795358:=Nat
def tw11389486352061984695:=Nat
def tw11136197038861592535:=Nat
def tw10583446816852156582:=Nat
def tw10012880186880212623:=Nat
def tw10024716035694756283:=Nat
def tw10111801491309104144:=Nat
def tw1011335219593555734:=Nat
def tw10170382586518783626:=Nat
def tw10216474801634566288:=Nat
def tw10246146449241189800:=Nat
def tw10258999931320997221:=Nat
def tw10403243965636340961:=Nat
def tw10424393626065333798:=Nat
def tw10458740792067480800:=Nat
def tw10525666975642140466:=Nat
def tw10601615944963115059:=Nat
def tw10603584201595350602:=Nat
def tw10614716105012338702:=Nat
def tw10678649693572172417:=Nat
def tw10727248033764811480:=Nat
def tw10743916045514856203:=Nat
def tw10752148897807903841:=Nat
def tw10784824025267889561:=Nat
def tw10792051664901133789:=Nat
def tw10879034167726328663:=Nat
def tw10919297434634762262:=Nat
def tw10957212852122400357:=Nat
def tw11011131195910976488:=Nat
def tw1102896795681488702:=Nat
def tw11032806212648032379:=Nat
def tw11054480109507316185:=Nat
def tw11117797201346649052:=Nat
def tw11128854368766332075:=Nat
def tw11151547217846952531:=Nat
def tw11162318198679636149:=Nat
def tw11210553801493137410:=Nat
def tw11213053971927718326:=Nat
def tw11232374478483605306:=Nat
def tw11251137523995926341:=Nat
def tw1129884963351977449:=Nat
def tw11319097763535126812:=Nat
def tw11319892378374348655:=Nat
def tw11402939732021071671:=Nat
def tw11465210709893060100:=Nat
def tw11513968764499736323:=Nat
def tw11551083187376567056:=Nat
def tw11631869004601391166:=Nat
def tw11631947586910100387:=Nat
def tw11652457597714270106:=Nat
def tw11709330566771433103:=Nat
def tw11713075325732132258:=Nat
def tw11754176132448286083:=Nat
def tw11917015161858427179:=Nat
def tw1194904439430580092:=Nat
def tw11953376511379268794:=Nat
def tw1197925565968671727:=Nat
def tw12023040214023829324:=Nat
def tw12050417470231563642:=Nat
def tw12070051907170230399:=Nat
def tw12092154237167983948:=Nat
def tw12112201142124510154:=Nat
def tw12113243949977362033:=Nat
def tw12173100003817136821:=Nat
def tw1222794163293265305:=Nat
def tw12271959270614036898:=Nat
def tw12399718760709695909:=Nat
def tw12575139184659369484:=Nat
def tw12588582704262371052:=Nat
def tw12602439190401603521:=Nat
def tw12614811148066621264:=Nat
def tw12629568148972539762:=Nat
def tw12631932088317031055:=Nat
def tw12647368939536790636:=Nat
def tw12901994302517312135:=Nat
def tw12936449754285732098:=Nat
def tw12949589719889679912:=Nat
def tw13047593935725612058:=Nat
def tw13121535887442289127:=Nat
def tw13181700845877081190:=Nat
def tw13217225542625558698:=Nat
def tw13225837485096350037:=Nat
def tw13267510147771200024:=Nat
def tw13277076834127875243:=Nat
def tw13289513938125300765:=Nat
def tw13315533130655954831:=Nat
def tw13321331477185743149:=Nat
def tw13330244855972007585:=Nat
def tw13368278939475635651:=Nat
def tw13372903325873741775:=Nat
def tw13431754692932380062:=Nat
def tw13466754112058979494:=Nat
def tw13483081372092288885:=Nat
def tw13518370688599389936:=Nat
def tw1359830224848277088:=Nat
def tw13609717118414637909:=Nat
def tw13638418597567726942:=Nat
def tw13790719812936386609:=Nat
def tw13828106393651249627:=Nat
def tw1382963296337349011:=Nat
def tw13855946660403688772:=Nat
def tw13866372431405929976:=Nat
def tw13893168526513508166:=Nat
def tw13903934854276604550:=Nat
def tw13919464512627920130:=Nat
def tw14052039701678915610:=Nat
def tw14060154772996877548:=Nat
def tw1409312971732116557:=Nat
def tw14103535550066685397:=Nat
def tw1413172679324656950:=Nat
def tw1429355676904276588:=Nat
def tw14400467628812073631:=Nat
def tw1452849714261714991:=Nat
def tw14553816603554493358:=Nat
def tw14560493823538711346:=Nat
def tw14620637471214046174:=Nat
def tw14705683404202351889:=Nat
def tw14768889098011018680:=Nat
def tw14892549342360969540:=Nat
def tw14896477498954680388:=Nat
def tw14906377314874228009:=Nat
def tw14955159897011116063:=Nat
def tw14960593345356199642:=Nat
def tw14980023328507725902:=Nat
def tw15042006015671813226:=Nat
def tw1506431575118746342:=Nat
def tw15089522573102190283:=Nat
def tw15103106377680225435:=Nat
def tw15166520500009309586:=Nat
def tw15220180469806662145:=Nat
def tw15279998641719260112:=Nat
def tw15344866539931968096:=Nat
def tw15368132723985388332:=Nat
def tw15411387601460861337:=Nat
def tw15422856539912107476:=Nat
def tw15423512361884618044:=Nat
def tw15463257786427224491:=Nat
def tw15508949281206285077:=Nat
def tw15529170255622000948:=Nat
def tw15595854959937240912:=Nat
def tw15615420239508185596:=Nat
def tw15616948245753086127:=Nat
def tw15643275761693703936:=Nat
def tw15673258824015622330:=Nat
def tw15683763237869141255:=Nat
def tw15759970867653108152:=Nat
def tw15790720579355451973:=Nat
def tw1580110805410547442:=Nat
def tw15813434630575017362:=Nat
def tw15833661619300960221:=Nat
def tw15837987909243819085:=Nat
def tw15852365999677673905:=Nat
def tw1589133516308662214:=Nat
def tw15910714762333108613:=Nat
def tw15946388913382835224:=Nat
def tw15948780112781908787:=Nat
def tw15967140613478806237:=Nat
def tw16006246977917349235:=Nat
def tw16007149819294483003:=Nat
def tw16011055738799735888:=Nat
def tw16029623286316568529:=Nat
def tw16037735763661986305:=Nat
def tw16056359734778111409:=Nat
def tw16064382804478563927:=Nat
def tw16091413853298234908:=Nat
def tw16154546982801380032:=Nat
def tw16155205043701107222:=Nat
def tw16157073509204512506:=Nat
def tw16160664900817543922:=Nat
def tw16171809288044610508:=Nat
def tw16194383521188589630:=Nat
def tw16211521421427940678:=Nat
def tw16213748851167669294:=Nat
def tw16240987189780228909:=Nat
def tw16259696140248634718:=Nat
def tw162610821266807592:=Nat
def tw16281804476366753544:=Nat
def tw16299908979028503884:=Nat
def tw16302227732802510677:=Nat
def tw16345102440705955213:=Nat
def tw16412773359747925120:=Nat
def tw16432713993328977331:=Nat
def tw16477043939570097188:=Nat
def tw16634568088961857937:=Nat
def tw16640546478005224243:=Nat
def tw16713699803418581334:=Nat
def tw16722109127936396110:=Nat
def tw16772102934027710169:=Nat
def tw16794629799341752650:=Nat
def tw16828841361933241965:=Nat
def tw16853341256802265648:=Nat
def tw16868993833207775613:=Nat
def tw16904818350239718627:=Nat
def tw16920754564084929960:=Nat
def tw16945582573551092051:=Nat
def tw16970440968685349367:=Nat
def tw1699103778626983548:=Nat
def tw17001982702790524580:=Nat
def tw17087091549796120035:=Nat
def tw17177331786930743035:=Nat
def tw17183224562656869120:=Nat
def tw17213754286329925777:=Nat
def tw17234923516513369237:=Nat
def tw17252143746492648416:=Nat
def tw17258206423299326598:=Nat
def tw17311223219408574766:=Nat
def tw17330945745186091897:=Nat
def tw17377529257436501650:=Nat
def tw17387473266821786944:=Nat
def tw17420951861521290806:=Nat
def tw17447410573909459338:=Nat
def tw17542962492245011380:=Nat
def tw17562767543260142214:=Nat
def tw17574625026820762457:=Nat
def tw17588044629489971554:=Nat
def tw1760603350576429475:=Nat
def tw17606422857730326317:=Nat
def tw17650839729002327288:=Nat
def tw17673860158736603733:=Nat
def tw17681399029576232318:=Nat
def tw17711083657039698284:=Nat
def tw17714235663813219645:=Nat
def tw17739348878880393726:=Nat
def tw1781861727890032366:=Nat
def tw17843490464661113860:=Nat
def tw17893044597097874663:=Nat
def tw17901334829092211166:=Nat
def tw17919194246423945575:=Nat
def tw17948085552500728524:=Nat
def tw17950676927832955104:=Nat
def tw17975533764899295144:=Nat
def tw17986969038992634876:=Nat
def tw1800889605409440832:=Nat
def tw18093812233618175256:=Nat
def tw18103342009636024947:=Nat
def tw18166333605607142505:=Nat
def tw18219297243305740317:=Nat
def tw18241275227582772068:=Nat
def tw18245042118932799458:=Nat
def tw18291419657060728153:=Nat
def tw18293732401869909652:=Nat
def tw18293851220164018083:=Nat
def tw18300207936620678264:=Nat
def tw18322514126500204803:=Nat
def tw18343703819029505601:=Nat
def tw1847840615245081061:=Nat
def tw1848646778235469078:=Nat
def tw1865391376527767206:=Nat
def tw1882180444382439491:=Nat
def tw189712035060473897:=Nat
def tw1997569388931296116:=Nat
def tw2068664650715991707:=Nat
def tw2101469004524951375:=Nat
def tw2114630138375439770:=Nat
def tw212345690472687942:=Nat
def tw2195365466389143174:=Nat
def tw2216850387143573719:=Nat
def tw22551697357593593:=Nat
def tw226724450230711188:=Nat
def tw2274498078352570744:=Nat
def tw2304311442786299043:=Nat
def tw2315301623876862497:=Nat
def tw2323474266016966308:=Nat
def tw2327210489368252092:=Nat
def tw2329189449893159454:=Nat
def tw2386827423013361158:=Nat
def tw2391449824757734642:=Nat
def tw2442259710966052079:=Nat
def tw2457190517430149469:=Nat
def tw2502866573005156581:=Nat
def tw2603259988358896889:=Nat
def tw2608437505485318709:=Nat
def tw26425463804135960:=Nat
def tw2867327485932766208:=Nat
def tw2887051446865420828:=Nat
def tw2930668341846507884:=Nat
def tw2999033326186475339:=Nat
def tw307737655149646647:=Nat
def tw3085183777334472315:=Nat
def tw3109861748172591687:=Nat
def tw3219085151875037572:=Nat
def tw3229955645248102723:=Nat
def tw3259873300814134281:=Nat
def tw3350844169311001129:=Nat
def tw3381375190539634487:=Nat
def tw3429492842335990350:=Nat
def tw3442329435671937591:=Nat
def tw3443669649825651883:=Nat
def tw3451239065008710300:=Nat
def tw3480954088277226078:=Nat
def tw3493717111155160527:=Nat
def tw3530705653197291679:=Nat
def tw3646829019195819677:=Nat
def tw3694398316872202419:=Nat
def tw3759623122121258479:=Nat
def tw3789350110615891812:=Nat
def tw3795277891434052102:=Nat
def tw3828038474966422129:=Nat
def tw3915529967508079626:=Nat
def tw395138700845864316:=Nat
def tw4015398097383911347:=Nat
def tw402640490398009360:=Nat
def tw4065347644161347641:=Nat
def tw4086058157674990017:=Nat
def tw4138081844389336918:=Nat
def tw4172343393113369950:=Nat
def tw4272726840584523970:=Nat
def tw4297731678662094536:=Nat
def tw4315991029959535628:=Nat
def tw4360684699965382250:=Nat
def tw4383666589626881386:=Nat
def tw4478964076566166474:=Nat
def tw4494801613693538912:=Nat
def tw461538923250603899:=Nat
def tw464777395874653626:=Nat
def tw4702841417184801058:=Nat
def tw4706079058837389440:=Nat
def tw4851647983119433812:=Nat
def tw4856431653887292112:=Nat
def tw4870687313549177768:=Nat
def tw4971549296188076032:=Nat
def tw5009564483982726761:=Nat
def tw5036846961687405229:=Nat
def tw5054737718236178183:=Nat
def tw5130813555471234732:=Nat
def tw5148922909946612681:=Nat
def tw5174551420813472067:=Nat
def tw5190246844813560578:=Nat
def tw5193626691418679909:=Nat
def tw519851828213033955:=Nat
def tw5238241317806426387:=Nat
def tw5245234834050458271:=Nat
def tw5282504435634884242:=Nat
def tw5343241284826551009:=Nat
def tw5363564295841288755:=Nat
def tw5373601922739893978:=Nat
def tw541196102884509978:=Nat
def tw5416991563250132298:=Nat
def tw5480042469492414594:=Nat
def tw5511420028821071320:=Nat
def tw5562173858411828344:=Nat
def tw5629675986466331604:=Nat
def tw5657824000916062451:=Nat
def tw5716766192118558609:=Nat
def tw5732804406350252772:=Nat
def tw5781342201191254626:=Nat
def tw5902613922787404954:=Nat
def tw5961118342813265553:=Nat
def tw5978321128707920903:=Nat
def tw5987830557187376847:=Nat
def tw6038821095411175016:=Nat
def tw6123773746684550334:=Nat
def tw6164396464334811476:=Nat
def tw6184460063843016694:=Nat
def tw6196171512934965099:=Nat
def tw6225832041138565760:=Nat
def tw6264232113106981867:=Nat
def tw6291416237084387574:=Nat
def tw6305734824756694309:=Nat
def tw6411954120941647267:=Nat
def tw6423634429210846174:=Nat
def tw6438293893037913957:=Nat
def tw6442067068224118133:=Nat
def tw6528754448969337418:=Nat
def tw6545403380812914513:=Nat
def tw6547078798241139092:=Nat
def tw6555240042291301478:=Nat
def tw6578402527460240241:=Nat
def tw6598312636042714100:=Nat
def tw6759412095888398321:=Nat
def tw6767318904944593275:=Nat
def tw6785817131721698500:=Nat
def tw6819123309680001836:=Nat
def tw6820862383352777685:=Nat
def tw6830512106363814048:=Nat
def tw6868836192036940282:=Nat
def tw6882427118574961969:=Nat
def tw6906073325868019850:=Nat
def tw6924109203229866365:=Nat
def tw6931407450589930559:=Nat
def tw6990203504111849199:=Nat
def tw6998783941825042932:=Nat
def tw7023726343779634624:=Nat
def tw7028611270464810887:=Nat
def tw7068711184596962023:=Nat
def tw7082855905992002993:=Nat
def tw7085514621470718492:=Nat
def tw7120233287515763914:=Nat
def tw7270182246851987180:=Nat
def tw728884934406724761:=Nat
def tw7296583596125217682:=Nat
def tw7355570028127101125:=Nat
def tw7366208706002141716:=Nat
def tw7494724483528729301:=Nat
def tw7510230149288206974:=Nat
def tw7519716089354478335:=Nat
def tw7523672394736509286:=Nat
def tw7528090204519254293:=Nat
def tw7534799579077118603:=Nat
def tw7540655947842036084:=Nat
def tw7540741092611519060:=Nat
def tw758273949599710562:=Nat
def tw7610815399733428385:=Nat
def tw7628703163842673926:=Nat
def tw7654286748164834634:=Nat
def tw7721951785955056133:=Nat
def tw7746578258024575070:=Nat
def tw7752767780024739350:=Nat
def tw7754304195085646258:=Nat
def tw7763873220885509757:=Nat
def tw7880807054014371918:=Nat
def tw7891253978561527248:=Nat
def tw8004679753235328684:=Nat
def tw8047900516022102942:=Nat
def tw8068729725432388964:=Nat
def tw8112040973832200146:=Nat
def tw8117029840178788049:=Nat
def tw8134915037123179040:=Nat
def tw8184699220007379433:=Nat
def tw8228950375871286339:=Nat
def tw8244750085871347745:=Nat
def tw8268277133935991078:=Nat
def tw8356816923877370021:=Nat
def tw8381844023166312768:=Nat
def tw8428860471423672150:=Nat
def tw8457440626546761165:=Nat
def tw8458067239894703972:=Nat
def tw8481889019746583477:=Nat
def tw8493152586797012548:=Nat
def tw8601296211920468417:=Nat
def tw8609351116199087170:=Nat
def tw8684328023851190084:=Nat
def tw8716120427605611371:=Nat
def tw8727321023445011275:=Nat
def tw8735263284916673568:=Nat
def tw8770205317985620760:=Nat
def tw8789358453043137523:=Nat
def tw8879563391730754479:=Nat
def tw8934143017859847078:=Nat
def tw8959176491354863721:=Nat
def tw8960069828448710407:=Nat
def tw8977307856219701671:=Nat
def tw921402611603131450:=Nat
def tw922143313871775805:=Nat
def tw9244321171653502345:=Nat
def tw9277588360372424766:=Nat
def tw9298403506768410418:=Nat
def tw9345676750909349944:=Nat
def tw9345929723534960622:=Nat
def tw9430268157657104642:=Nat
def tw9465213581472480440:=Nat
def tw9533747618267967006:=Nat
def tw9557236495431379559:=Nat
def tw9566141503761928105:=Nat
def tw9641152695372364146:=Nat
def tw9657781627882305391:=Nat
def tw9673543361469618366:=Nat
def tw9719896912496429819:=Nat
def tw9741134391959003819:=Nat
def tw9748044761591592747:=Nat
def tw9763420282994701918:=Nat
def tw9773617502366885129:=Nat
def tw9783614193127449063:=Nat
def tw978945382295711627:=Nat
def tw9960721518486171458:=Nat
end Mine.hd
set_option maxHeartbeats 8000000 in
set_option Elab.async true in
theorem Mine.hd:Xc.Holds:=by
 w_on;refine holds_law Mine.wl6 fun said=>?_;k_head;(case hw=>w_witness2)
 k_go0
 rename_i X' T' _ F' _ _ N' _;refine Mine.start ⟨fun P=>?_,fun P=>?_,fun P=>?_,fun P=>?_,fun P=>?_,fun P=>?_,fun P=>?_,fun P=>?_,fun P=>?_,fun P=>?_,fun P=>?_⟩ X' (by assumption) (by assumption) ?_ lifted (by assumption) (by assumption) (by assumption) codeHd (by assumption) (by decide) ?_ ?_ ?_ (Mine.Wk.plain ?_) ?_
 ·kernel_rfl
 ·intro S x;kernel_rfl
 ·kernel_rfl
 ·kernel_rfl
 ·kernel_rfl
 ·kernel_rfl
 ·kernel_rfl
 ·intro x hx;rcases Ww.mp hx with rfl|hx
  ·exact⟨by kernel_rfl,by kernel_rfl,by kernel_rfl,by kernel_rfl⟩
  ·rw[WQ.mp hx];exact⟨by kernel_rfl,by kernel_rfl,by kernel_rfl,by kernel_rfl⟩
 ·kernel_rfl
 ·kernel_rfl
 ·kernel_rfl
 ·kernel_rfl
 ·kernel_rfl
 ·kernel_rfl
 ·rfl
 ·omega
 ·intro s' k hos hgens hgr;exact⟨⟨.inl ⟨_,_,[],rfl,fun _=>rfl,afn Wd,by first|rfl|wrow_post,fun _=>⟨Y3,fun _ hm=>nomatch hm⟩⟩,k,hos,hgens.trans (by assumption)⟩,hgr⟩
end
theorem PySem.Challenge.cw_xm0220_01_holds : PySem.Challenge.rw_xm0220_01.Holds :=
  Mine.hd
