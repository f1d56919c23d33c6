import PyProof.Rows.All
import Wide.All
import OpenK.AllK
import Wide.FinOn
import Lean
import PySem.Challenge.RW_nz0058_01
/- This one text was joined and shortened by programs (wip/mz.py, wip/fin.py, wip/ws.py, wip/pipe.py of the claim's repo)
out of the readable texts in wip/, where the same theorems stand with long names under the namespace Mine (M here).
The parts, in order: the head (Lay .. HeadF: the program's top, state by state), OmL (small arithmetic and logic), Ev and
Fds (an own syntax tree and evaluator), Rel, Chk, Snd*, N* (its soundness against the model), Pa .. Ug (the plain law:
the evaluator answers True on every script), Va .. Vi (facts of the top, the walk, the join).
The local rules only choose how proofs and declarations are written down: positions and code are left out. -/
set_option autoImplicit true
set_option Elab.async false
set_option maxRecDepth 100000
set_option linter.all false
namespace M
def Ê(k:Lean.Name)(x y:Lean.Syntax):Lean.Syntax:=.node .none k #[x,y]
end M
section
open Lean in
local macro_rules (kind:=Lean.Parser.Command.declaration)
 |s=>λ_ t=>if s.getPos?.isNone||(s.find? (·.isToken "wp_walk")).isSome then .error .unsupportedSyntax t else
  let s:=s.rewriteBottomUp (·.setInfo .none)
  .ok (if s[0][1].isNone&&(s[1].getKind matches ``Parser.Command.definition|``Parser.Command.abbrev)then s.setArg 0<|s[0].setArg 4<|mkNullNode #[.node .none ``Parser.Command.noncomputable #[.missing]]else s) t
open _root_ renaming And->bD,Array->dk,Bool->aE,Decidable->oz,DecidableEq->Fw,Exists->bw,False->ky,Int->ah,List->R,Nat->U,Option->aD,String->aC,True->eN,absurd->a2,beq_eq_false_iff_ne->nc,beq_iff_eq->ce,beq_self_eq_true->tF,cond->oS,congrArg->aF,congrFun->tG,decide_eq_decide->i6,decide_eq_false->ct,decide_eq_true->c0,decide_eq_true_eq->jR,decide_eq_true_iff->Æ,funext->qX,if_false->nd,if_neg->ao,if_pos->au,if_true->oT,not_or->qY,of_decide_eq_true->f5,or_false->fL,rfl->Z,trivial->ds,Char.toNat->Fv,Decidable.decide->aN,Exists.elim->X0,ForIn.forIn->s',ForInStep.yield->m0,Iff.rfl->w1,Inhabited.default->qw,LawfulBEq.eq_of_beq->w5,LawfulMonad.pure_bind->qC,Max.max->bI,Min.min->b3,Ne.symm->f4,Or.elim->b1,Prod.fst->xo,Prod.snd->xp,Prod.mk.inj->tn,Pure.pure->cN,String.ofList->oR,String.toList_append->Å,String.toList_inj->G',ToString.toString->iq
open Array renaming forIn_toList->XO,getD_eq_getD_getElem?->ov,length_toList->qu,toList_inj->XP
open Bool renaming and_eq_true->ez,and_eq_true_iff->f1,and_false->XQ,and_self->XR,and_true->wZ,decide_or->XS,eq_false_iff->ow,false->M,false_eq_true->ox,false_ne_true->dy,false_or->Ft,noConfusion->Fu,not_eq_true'->kx,not_or->XT,not_true->XU,or_assoc->XV,or_eq_false_iff->w0,or_false->oy,or_self->XW,or_true->XX,true->Q,true_and->XY
open Classical renaming byContradiction->XZ,em->Ó,not_not->Ô,propDecidable->qv
open Int renaming add_comm->qx,add_sub_cancel->X1,fdiv_nonneg->X2,fmod_eq_emod_of_nonneg->X3,fmod_lt_of_pos->X4,fmod_nonneg_of_pos->Fx,le_add_of_nonneg_left->X5,le_refl->X6,le_trans->qy,lt_of_lt_of_le->Fy,max_eq_right->w2,min_eq_left->w3,mul_nonneg->X7,natAbs_lt_natAbs_of_nonneg_of_lt->X8,natCast_add->X9,natCast_nonneg->iU,ne_of_gt->X',neg_add_cancel_left->w4,neg_neg_of_pos->Ya,not_le->Yb,not_lt->qz,ofNat_inj->iV,ofNat_le->e5,ofNat_lt->eo,ofNat_sub->Fz,pow_pos->Yc,pred_toNat->FA,sub_sub->ta,sub_zero->qA,toNat_lt->tb,toNat_natCast->qB,toNat_of_nonneg->tc
open List renaming all_cons->jJ,all_eq_true->oA,any_cons->w6,any_eq_true->Yd,any_toArray->Ye,append_assoc->f2,append_nil->hP,append_toArray->Yf,cons_append->FB,contains_cons->Yg,contains_iff_mem->td,drop->w8,dropLast_eq_take->Yh,drop_drop->Yi,drop_eq_getElem_cons->te,drop_eq_nil_of_le->FC,drop_length->Yj,drop_succ_cons->FD,drop_zero->FE,filter->Yk,filterMap_cons->Yl,filterMap_cons_some->Ym,filter_cons->w9,filter_eq_self->Yn,find?_cons->Yo,findIdx?_cons->FF,foldl_append->Yp,foldl_cons->m1,forIn_cons->m2,forIn_nil->tf,getElem?_append_left->m3,getElem?_append_right->oB,getElem?_concat_length->Yq,getElem?_eq_getElem->hQ,getElem?_eq_none->Yr,getElem?_eq_some_iff->fe,getElem?_map->tg,getElem?_of_mem->Ys,getElem?_range->Yt,getElem?_set->oC,getElem?_set_ne->Yu,getElem?_zip_eq_some->FG,getElem_inj->FH,getElem_mem->FI,getElem_range->FJ,isEmpty->Yv,isEmpty_iff->lE,isEmpty_toArray->Yw,le_antisymm->Yx,length->w',length_append->cs,length_cons->dd,length_drop->kz,length_eq_zero_iff->Yy,length_filter_le->FK,length_map->bC,length_nil->m4,length_range->jK,length_reverse->th,length_set->qD,length_singleton->ff,length_take->m5,length_zip->FL,lookup->m6,lookup_cons->ik,map->FM,map_append->hR,map_cons->cl,map_fst_zip->ti,map_map->hm,map_nil->xa,mem_append->ge,mem_cons->bj,mem_cons_of_mem->cx,mem_cons_self->bP,mem_filter->FN,mem_iff_getElem?->Yz,mem_map->d4,mem_map_of_mem->tj,mem_of_getElem?->lF,mem_of_mem_drop->FO,mem_range->oD,mem_singleton->cm,mergeSort_perm->FP,nodup_append->tk,nodup_cons->fg,nodup_nil->iW,not_lt->YA,not_mem_nil->ep,of_mem_zip->xb,pairwise_cons->YB,pairwise_iff_getElem->YC,pairwise_map->FQ,pairwise_mergeSort->YD,pairwise_middle->YE,prefix_append->YF,prefix_refl->xc,range->dF,range'->m7,reverse_cons->oE,size_toArray->cY,sum_cons->YG,take->YH,take_append_drop->YI,take_length->YJ,take_sublist->YK,toArray->FR,zipIdx_cons->YL,zipIdx_nil->YM,zip_cons_cons->qE,Pairwise.of_map->Õ,Perm.eq_of_pairwise->Ö,Perm.of_eq->Ø,cons.inj->w7,cons.injEq->Ù
open Nat renaming add_add_add_comm->YN,add_assoc->hn,add_comm->lG,add_le_add->YO,add_le_add_left->lH,add_le_add_right->xd,add_lt_add_left->YP,add_right_comm->tl,add_sub_cancel_left->xe,add_zero->FS,beq->oF,ble->hS,ble_eq_true_of_le->FT,eq_of_beq_eq_true->tm,le_add_left->qF,le_add_right->cU,le_add_right_of_le->YR,le_max_left->YS,le_max_right->FU,le_of_add_right_le->FV,le_of_ble_eq_true->ec,le_of_eq->fI,le_of_lt->qG,le_of_lt_succ->xf,le_of_succ_le->iX,le_of_succ_le_succ->YT,le_refl->aY,le_succ->eU,le_succ_of_le->m8,le_total->FW,le_trans->br,length_toDigits_le_iff->YU,lt_add_of_pos_right->FX,lt_add_right->FY,lt_irrefl->hT,lt_of_le_of_lt->f3,lt_of_le_of_ne->YV,lt_of_lt_of_le->eA,lt_of_not_le->YW,lt_of_succ_le->FZ,lt_or_ge->YX,lt_succ_of_lt->il,lt_succ_self->eV,lt_trans->e6,max_eq_left->YY,max_le->F0,min_eq_left->xg,min_eq_right->F1,min_le_left->xh,min_le_right->YZ,mul_add->Y0,mul_le_mul_left->Y1,mul_le_mul_right->F2,ne_of_gt->jL,ne_of_lt->ed,not_le_of_lt->xi,not_lt->xj,not_lt_zero->F3,ofDigitChars_ten_toDigits->Y2,sub_add_cancel->F4,sub_zero->Y3,succ->xk,succ_le_succ->jM,succ_mul->Y4,succ_pos->xl,toDigits->gf,zero_add->dG,zero_le->c8,zero_mul->Y5,le.intro->YQ,succ.inj->qH
open Option renaming bind_eq_some_iff->F5,bind_some->xm,isNone_iff_eq_none->m9,isSome_iff_exists->xn,map_eq_some_iff->oG,map_some->Y6,none->ab,some->Y,some.inj->cZ
open PyProof.Rows renaming Attribute_any_->Ú,IsTup->Y7,Subscript_->xq,cLine_is->F6,call_tuple_tup->Û,get?_update_seq->F7,getItem_tuple->Y8,listUpdate_at->Y9,seqObj->ho,slot_tuple_getitem->Y',subscriptTail->F8,tail_any->lI
open PySem renaming Addr->a9,Around->c4,BoolOp->F9,CmpOp->kA,Const->kB,DictEntry->gF,Draws->eM,Env->fs,Expr->aS,FuncData->xx,Heap->bT,IsPair->dL,IsZip->gg,NameKind->xA,Obj->eB,Operator->xC,OsState->jO,Params->d6,Pos->dW,Program->iZ,PyData->kD,Scope->qM,ScopeKind->qN,Shared->aO,Stmt->c5,Str->aJ,Value->ar,World->eC,any_of_findIdx_some->ZN,arm_eval_BoolOp->ZO,assign->i1,assignEach->ty,assignInOrder->xN,assignStores->xO,backTo->oM,binaryOp->xP,bindName->na,builtinLookup_eq_fast->tz,builtinsNs->i2,call->fJ,callType_codes->ZP,callWith->xQ,call_meets->qQ,call_meetsIn->xR,cellsFrom->xS,clipAt->fK,codeAny->kH,codeAny_builtin->tA,codeAny_call_builtin->GM,compEnvC->io,compareOp->lN,constantsAlone->ZQ,eval->dX,field->qR,foldedForSure->ZR,getItem->qS,getMethod_builtin->ZS,importedModules->GN,intBits_le_64->ZT,isSubtype_stop->GO,isSubtype_type->ZU,isTrue->xT,keeperOf->oN,keys_map_store->ZV,letOwnedTupleGo->xU,listText_len_le->ZW,mainGlobals->ip,mainNs->i3,mem_of_lookup->xV,merged->oO,methodCallForm->GP,methodCallPos->ZX,model->bd,plainId_quiet->xW,pyNext->nb,rawInt->dr,repr_of_reads'->ZY,seqIndex?->tB,sizeLine->xX,sizeLine_eq->ee,sliceMade->qT,slot_list_getitem->GQ,slot_list_setitem->ZZ,starEach->lO,storeName->GR,stored->gY,strKind->c',strKind_is->lP,subscripted->GS,swappedStores->tC,swapsWith->xY,sysModules->xZ,treeTable->oP,truthy->qU,tupleText_len_le->Z0,typeIs_str->GT,typeLookup->x0,typeLookup_type->tD,unpackItems->GU,valueAt->i4,wpAny->bh,wpAny_Constant_int->Z1,wpAny_Constant_str->GV,wpAny_Name->GW,wpAny_Slice->GX,wpAny_UnaryOp->GY,wpAny_assign_Name->Z2,wpAny_attempt->qV,wpAny_bind->ay,wpAny_callSpecial?_slot->lQ,wpAny_call_entry->kI,wpAny_execs_nil->GZ,wpAny_field->gi,wpAny_getItem_list_slice->Z3,wpAny_getItem_str_slice->Z4,wpAny_holding->d8,wpAny_isInstance->G0,wpAny_isTrue_BoolOp->Z5,wpAny_items_cons->Z6,wpAny_letGo->x1,wpAny_loadName_cell->Z7,wpAny_loadName_free->Z8,wpAny_loadName_local->Z9,wpAny_loadPart->Z',wpAny_mono->kJ,wpAny_newList->À,wpAny_newObj_type->G1,wpAny_newTuple->G2,wpAny_of_eq->G3,wpAny_onRaise->x2,wpAny_operating->Á,wpAny_pure->bl,wpAny_pyIter_list->G4,wpAny_pyIter_tuple->G5,wpAny_pyIter_zip->G6,wpAny_release->Â,wpAny_rule->qW,wpAny_seqItems->i5,wpAny_setField->Ã,wpAny_setField_rec->oQ,wpAny_specialOf->G7,wpAny_standAt->lR,wpAny_storeName_local->Ä,wpAny_truthy_bool->tE,wpAny_typeOf->G8,wpAny_updateSeq->x3,wpAny_updateSeq_pair->G9,Builtin.Dict.pairItems->ß,Builtin.Dict.updateFrom->à,Builtin.Range.rangeSize->Zd,Builtin.SmallTypes.nextOf->Ze,Builtin.SmallTypes.ownedTupleIsFree->å,Const.bool.elim->Ga,Const.int.elim->Gb,Const.none.elim->è,Const.str.elim->Gc,Expr.Attribute.elim->Gd,Expr.BinOp.elim->Ge,Expr.BoolOp.elim->Gf,Expr.Call.elim->Gg,Expr.Compare.elim->Gh,Expr.Constant.elim->xr,Expr.Dict.elim->xs,Expr.IfExp.elim->Gi,Expr.List.elim->Gj,Expr.ListComp.elim->Gk,Expr.Name.elim->tq,Expr.Slice.elim->Gl,Expr.Subscript.elim->Gm,Expr.Tuple.elim->xt,Expr.UnaryOp.elim->Gn,SeqAt.EqAt.str_str->ZH,SeqAt.RcAt.lists_lengths->ZI,SeqAt.RcAt.str_str->Gw,SeqAt.RcNeAt.lists_lengths->ZJ,SeqAt.RcNeAt.str_str->Gx,Stmt.Assign.elim->xG,Stmt.AugAssign.elim->Gy,Stmt.Break.elim->Gz,Stmt.ClassDef.elim->í,Stmt.Continue.elim->GA,Stmt.Expr.elim->GB,Stmt.For.elim->GC,Stmt.FunctionDef.elim->GD,Stmt.If.elim->GE,Stmt.Return.elim->GF,Stmt.While.elim->GG,Around.under_plainId->Za,AutoIntOps.pow_4->Ü,AutoListH.list___mul___list_int_3->Ý,AutoSeq1.list_extend_list_list_0->Þ,Calls.Name_function_global->Zf,Calls.loadGlobal_builtin->æ,Calls.loadGlobal_global->ç,Calls.spliced_cons->im,Challenge.pw_nz0058_01->F',Challenge.rw_nz0058_01->tp,Code.builtin->Zg,DictEntry.refKey->é,Draws.list->Zh,Expat.Proc->kC,Flow.next->Zu,IsL.update->Gu,Keeper.boundFrame->oH,Keeper.frame->oI,Keeper.machine->oJ,MeetsSeq.list_index->ë,MeetsSeq.list_pop_last->ì,NameKind.cell->tr,NameKind.free->m',Numpy.ErrWord->gh,Numpy.ErrWord.ignore->Zx,Obj.data_mapFields->Zy,Obj.mapSeq->gX,Obj.putName->xB,P.truthy_str->Zz,Shared.heap->ZK,Str.ofString->b2,Str.ofString_eq_toList->lL,Txt.charAt->GH,Walks.list->GL
open PySem.Builtin.List renaming listExtendWith->á,listFitsIndex->â,listLengthHint->ã,listSameRef->Zb,listSubscript?->ä,listTooLong->Zc
open PySem.F renaming args_tuple_iterator_next_1->Zi,args_zip_next_1->qI,entry_dict_get->Zj,entry_extend_loop->Zk,entry_tuple_iterator_next->Zl,entry_zip_next->qJ,plainAttrs_dict->Go,plainAttrs_list->xu,plain_extend_loop->Zm,slot_dict_get->Gp,slot_dict_items->Zn,slot_dict_update->Zo,slot_gs_get->Gq,slot_int_rmul->Zp,slot_list_append->Zq,slot_list_extend->Zr,slot_list_getattribute->xv,slot_list_index->Zs,slot_list_pop->Zt,slot_str_getitem->Gr,slot_tuple_iterator_next->xw,slot_zip_next->iY,typeOf_object_class->Gs
open PySem.Heap renaming IsTuple->Zv,SameBut->xy,dictOf_iff->qK,get?_push_of_some->dV,get?_push_size->d5,get?_update_other->jN,get?_update_self->qL,lt_size->dm,size_push->lJ,size_update->xz,DictOf.new->ê,IsSliceOf.new->Gt,SameBut.update->Zw
open PySem.PyData renaming bool->ZA,depth->ZB,depthAll->xD,hasDict->ZC,hasDictAll->xE,keyHash->lK,noDict_hsm->ZD,showable->ZE,showableAll->xF,shown->Gv,shownAll->kE,shown_bool->ZF,str->ZG
open PySem.Value renaming isStrOf->ZL,isStrOf_shape->xH,none->oK,ref->dn,str->ts,type->lM
open PySem.W renaming Frag->dH,Looks->oL,boot_drawn->jP,boot_heap->kF,boot_toks->tv,callWith_of->jQ,emptyDict->tw,findCls->xI,findIn->hp,hasDictIn->xJ,instObj->kG,kas_rev->xK,keepIn->xL,kia_one->qO,kitAny->tx,kitOne->d7,look_both->c9,readsIn->xM,specialIn->qP,topFrame->GK,KasT.kasWp_bind->tt,Looks.of_pure->i0,WShape.has->tu,WShape.hasAll->GI,WShape.hasItems->GJ,WTm.holds->ZM
open PySem.W.Fast renaming sDec_eq->î,te11788848310118352699->ï,te12862048085361865435->ð,te13343964577679436407->ñ,te14412699480532031325->ò,te17119622794617984870->ó,te17868728402115742887->ô,te18344453789297297638->õ,te8326940854005059898->ö,te8377067652309620493->ø,te9807087744658564304->ù
section
namespace M.Top
open PySem PySem.W
structure cq where
 c:BT
 b:U
 a:U
 d:ar
def rc:Str:="/claim/cut.py"
def cq.A(a:cq)(b:eB):cq:={a with c:=a.c.ins a.b b,b:=a.b+1}
def cq.B(a:cq)(b:U):cq:={a with a:=a.a+b}
def jg(a:R ar):Obj:={cls:=.type "tuple",data:=.seq a.toArray}
def rd:U->R aJ->R ar
 |_,[]=>[]
 |a,b::c=>.str b a::rd (a+1) c
def Hu(b:d6)(a:aJ)(c:U)(d:ar):eB->eB
 |⟨e,f,.dict g h,i⟩=>⟨e,f,.dict (g.push ⟨lK b a,.str a c,d⟩)<|h+1,i⟩
 |j=>j
def IJ(b:ar):eB->eB
 |⟨c,d,.dict e f,g⟩=>⟨c,d,.dict (e.modify 0 λa=>⟨a.1,a.2,b⟩) f,g⟩
 |h=>h
def Hw(a b:ah)(c:ar):eB->eB
 |⟨d,e,.fields f,g⟩=>⟨d,e,.fields<|f++#[dr a,dr b,c],g⟩
 |h=>h
def cq.C(b:d6)(a:cq)(c:a9)(d:aJ)(e:ar):cq:={a with c:=a.c.set c<|Hu b d a.a e,a:=a.a+1}
def rb(a:aS):aD Const:=if b:a.ctorIdx=19 then Y<|xr (motive_1:=λd=>kB) a b λc d d=>c else ab
def tV(a:aS):aD<|R aS:=if b:a.ctorIdx=25 then Y<|xt (motive_1:=λd=>R aS) a b λc d d=>c else ab
def tU(a:aS):aD Str:=if b:a.ctorIdx=23 then Y<|tq (motive_1:=λd=>aJ) a b λc d=>c else ab
def HK(a:aS):aD<|R (aD aS)×R aS:=if b:a.ctorIdx=6 then Y<|xs (motive_1:=λe=>R (aD aS)×R aS) a b λc d e=>(c,d)else ab
def nu:R aS->R ar->cq->R ar×cq
 |[],b,a=>(b,a)
 |d::c,b,a=>match rb d with
  |some e=>match e with
   |.none=>nu c (b++[.none]) a
   |.bool f=>nu c (b++[.bool f]) a
   |.int g=>nu c (b++[.int g a.a])<|a.B 1
   |.str h=>nu c (b++[.str h a.a])<|a.B 1
   |_=>(b,a)
  |none=>if tV d|>.isSome then nu c (b++[.ref a.b])<|a.A<|jg []else(b,a)
def yi(a:R ar):Obj:={cls:=.type "code",data:=.fields a.toArray}
def yt(l m:aJ)(g n o:U)(p:aE)(h:aD<|R aJ×R aJ)(q:aD xx)(r:a9)(i:dW)(c:cq):cq:=
 let a:=c.a
 let d:=(c.A<|jg []).A {cls:=.none,data:=.fields #[]}
 let(s,t,e):ar×ar×cq:=match h with
  |some b=>(.ref d.b,.ref<|d.b+1,((d.A<|jg<|rd (a+3) b.1).A<|jg<|rd (a+3+b.1.length) b.2))
  |none=>(.none,.none,d)
 let f:=match h with|some b=>b.1.length+b.2.length|none=>0
 let(v,j):ar×cq:=match q with
  |some u=>(.ref e.b,e.A {cls:=.none,data:=.func u})
  |none=>(.none,e)
 let k:=j.A (yi [.str l a,.str m<|a+1,.str rc<|a+2,dr g,dr n,dr (0:U),dr (0:U),dr o,.ref c.b,.bool p,dr 181,.ref<|c.b+1,.none,s,t,v,
  dr ((a+3+f:U):ah),dr g,.str rc<|a+4+f])
 {k with c:=k.c.set r<|Hw i.1 i.2<|.ref j.b,a:=a+5+f}
def yu(k:d6)(l:aJ)(m n:a9)(a:aJ)(b:Arguments)(c:R c5)(d:qM)(h:dW)(i:cq):cq:=
 let(j,e):=nu b.7 [] i
 let(o,p):ar×cq:=if j.isEmpty then(.none,e)else(.ref e.b,e.A<|jg j)
 let f:=l++a
 let q:FuncData:={name:=a,qualname:=f,params:=b,body:=.stmts c,scope:=d,globals:=i2,closure:=[],defaults:=.none,kwdefaults:=.none}
 let g:=yt a f h.1 b.2.length 3 Q (localNames b d<|.stmts c) (Y q) n h p
 let r:=g.A {cls:=.type "function",data:=.func {name:=a,qualname:=f,params:=b,body:=.stmts c,scope:=d,globals:=i3,closure:=[],closureTuple:=.none,code:=.ref<|g.b-1,builtins:=i2,defaults:=o,kwdefaults:=.none,annotations:=ab,pyModule:=i.d,doc:=.none}}
 r.C k m a (.ref g.b)
def yv(b:d6)(c:aJ)(d e:a9):R c5->cq->cq
 |[],a=>a
 |f::g,a=>yv b c d e g (if h:f.ctorIdx=0 then GD (motive_2:=λn=>cq) f h λi j k n n n l n n m=>yu b c d e i j k l m a else a)
set_option genCtorIdx false in
inductive tO where
 |A
 |B (c:a9) (a:R ar) (b:aC) (d:U)
 |C (e b:aC) (a:R ar)
set_option genInjectivity false in gen_injective_theorems%tO
def yB:eB->dk gF
 |⟨_,_,.dict a _,_⟩=>a
 |_=>#[]
def HJ(a:dk gF):dk DictEntry:=(match a.1 with|b::_::c=>b::c|d=>d).toArray
def Hv(b:ar):eB->eB
 |⟨c,d,.cls a,e⟩=>⟨c,d,.cls {a with subclasses:=a.8++[b]},e⟩
 |f=>f
def o5(b:d6)(a:aJ)(c:U)(d:ar):DictEntry:=⟨lK b a,.str a c,d⟩
def H9(b:d6)(e:tO)(c:aJ)(B:R c5)(u:R aJ)(k:dW)(f:cq):cq:=
 let C:=f.a
 let l:=f.b
 let n:R Value:=match e with|.A=>[]|.B m _ _ _=>[.ref m]|.C D _ _=>[.type D]
 let E:=((f.A<|jg n).A {cls:=.type "builtin_function_or_method",data:=.fields #[.builtin "type.__prepare__",.type "type"]}).A {cls:=.type "dict",data:=.dict #[]}
 let d:=l+2
 let v:=yt c c k.1 0 0 M ab ab 12 k<|E.B 2
 let F:=v.b-1
 let G:=v.A {cls:=.type "frame",slots:=#[Y<|.ref F,Y<|.ref i3,Y<|.ref d,ab,Y f.d,ab,Y<|.ref i2]}
 let o:=G.C b d "__module__" f.d
 let w:=(o.B 1).C b d "__qualname__"<|.str c o.a
 let H:=(w.B 1).C b d "__firstlineno__"<|.int k.1 w.a
 let p:=yv b (c++".") d (l+4) B H
 let g:=((p.A<|jg<|rd p.a u).B u.length).C b d "__static_attributes__"<|.ref p.b
 let x:=g.b
 let a:=x+1
 let I:=HJ<|yB<|(g.c.get d).getD qw
 let h:=g.a
 let(i,q):aE×Bool:=match e with|.A=>(Q,Q)|.B ..=>(M,M)|.C ..=>(M,Q)
 let(J,j):R gF×Nat:=if i then([o5 b "__dict__" (h+1)<|.ref<|a+1],h+2)else([],h)
 let K:=if i then a+2 else a+1
 let(L,y):R gF×Nat:=if q then([o5 b "__weakref__" (j+1)<|.ref K],j+2)else([],j)
 let a_:=I.1++J++L++[o5 b "__doc__" y .none]
 let b_:=g.A {cls:=.type "dict",data:=.dict a_.toArray<|(if i then 1 else 0)+(if q then 1 else 0)+2}
 let c_:R Value:=.ref a::match e with|.A=>[.type "object"]|.B _ r _ _=>r|.C _ _ r=>r
 let d_:=match e with|.A=>"object.__new__"|.B _ _ s _=>s|.C _ s _=>s
 let e_:aD Value:=match e with|.A=>ab|_=>Y<|.ref l
 let z:=b_.A {cls:=.type "type",data:=.cls {name:=c,bases:=if n.isEmpty then[.type "object"]else n,mro:=c_,ns:=x,qualname:=c},slots:=#[e_,ab,Y<|.str c C,Y<|.str c o.a,Y<|.builtin d_,Y<|.bool Q]}
 let A:=if i then z.A {cls:=.type "getset_descriptor",data:=.fields #[.str "__dict__" h,.ref a,.builtin "function.__dict__",.builtin "function.__dict__#set"]}else z
 let t:=if q then A.A {cls:=.type "getset_descriptor",data:=.fields #[.str "__weakref__" j,.ref a,.builtin "ExceptionGroup.__weakref__",.none]}else A
 let f_:=match e with|.B m _ _ _=>{t with c:=t.c.set m<|Hv<|.ref a}|_=>t
 let g_:=(f_.A {cls:=.type "super",data:=.fields #[.ref a,.ref a,.ref a]}).A {cls:=.type "builtin_function_or_method",data:=.fields #[.builtin "object.__init_subclass__",.ref a]}
 {g_ with a:=y+2}.C b i3 c (.ref a)
def nC:R aS->U->R ar
 |[],_=>[]
 |c::b,a=>match rb c with
  |some d=>match d with
   |.int e=>.int e a::nC b (a+1)
   |.str f=>.str f a::nC b (a+1)
   |_=>nC b a
  |none=>nC b a
def yz(b:BT)(c:aJ):Value:=match((yB<|(b.get i3).getD qw).1.find? λa=>a.2.isStr c)with|some a=>a.3|none=>.none
def kU(b:d6)(c:U):R (aD aS×aS)->dk gF->cq->dk gF×cq
 |[],d,a=>(d,a)
 |(i,f)::e,d,a=>match i.bind rb with
  |some j=>match j with
   |.str g=>match tV f with
    |some h=>kU b c e (d.push<|o5 b g a.a<|.ref a.b)<|(a.A<|jg<|nC h<|a.a+1).B<|h.length+1+c
    |none=>match tU f with
     |some k=>kU b c e (d.push<|o5 b g a.a<|yz a.c k)<|a.B<|1+c
     |none=>kU b c e d a
   |_=>kU b c e d a
  |none=>kU b c e d a
def yx(b:d6)(a:R<|aD aS×aS)(c:dk gF)(d:cq):dk gF×cq:=
 if a.length<=15 then((kU b 0 a c d).1,(kU b 0 a c d).2.B a.length)else kU b 1 a c d
def yj(a:dk gF):Obj:={cls:=.type "dict",data:=.dict a a.size}
def yw(d:d6):U->R (aD aS×aS)->a9->dk gF->cq->cq
 |0,_,_,_,a=>a
 |_+1,[],b,c,a=>{a with c:=a.c.set b λj=>yj c}
 |h+1,e,b,c,a=>
  let i:=a.b
  let(f,g):=yx d (e.take 17) #[] (a.A qw)
  yw d h (e.drop 17) b (c++f) {g with c:=g.c.set i λj=>yj f}
def H'(a:d6)(b:R<|aD aS×aS)(c:cq):cq:=
 let d:=c.b
 let(e,f):=yx a (b.take 17) #[] (c.A qw)
 yw a 10 (b.drop 17) d e f
def HF(a:cq):R aS->tO
 |[]=>.A
 |c::_=>match tU c with
  |some d=>match yz a.c d with
   |.ref b=>match a.c.get b with
    |some ⟨_,_,.cls e,f⟩=>.B b e.3 (match f[4]? with|some (Y<|Value.builtin g)=>g|_=>"") 0
    |_=>.A
   |_=>.C "ValueError" "ValueError.__new__" [.type "ValueError",.type "Exception",.type "BaseException",.type "object"]
  |none=>.A
def H8(b:d6)(a:cq)(h c:aS):cq:=match rb c with
 |some i=>match i with
  |.str d=>{a with c:=a.c.set i3<|IJ<|.str d a.a,a:=a.a+2,d:=.str d a.a}
  |_=>a
 |none=>match tU h with
  |some e=>match tV c with
   |some f=>((a.A<|jg<|nC f a.a).B f.length).C b i3 e<|.ref a.b
   |none=>match HK c with
    |some g=>(H' b (g.1.zip g.2) a).C b i3 e<|.ref a.b
    |none=>a
  |none=>a
def Ia(d:d6)(a:cq)(b:c5):cq:=
 if c:b.ctorIdx=0 then GD (motive_2:=λo=>cq) b c λe h f o o o i o o g=>yu d "" i3 12 e h f i g a
 else if c:b.ctorIdx=2 then í (motive_2:=λo=>cq) b c λe j o f o o o o o k g=>H9 d (HF a j) e f k g a
 else if c:b.ctorIdx=5 then xG (motive_2:=λo=>cq) b c λl m o=>match l with
  |n::_=>H8 d a n m
  |[]=>a
 else a
def tZ(a:d6)(b:cq)(c:R c5):cq:=c.foldl (Ia a) b
end M.Top
namespace M.Top
noncomputable section
open PySem PySem.W
def l9(a b:U):R Stmt:=(F'.1.1.drop a).take b
def tT:Env:={scope:=F'.1.2,locals:=i3,globals:=i3,cells:=[],code:=.ref 13,frame:=Y 14}
def Ir:Obj:=jg []
def Is:Obj:=yi [.str "<module>" 182,.str "<module>" 183,.str rc 184,dr 1,dr 0,dr 0,dr 0,dr 0,.ref 11,.bool M,dr 181,.ref 12,.none,.none,.none,.none,dr 185,dr 1,.str rc 186]
def It:Obj:={cls:=.type "frame",slots:=#[Y<|.ref 13,Y<|.ref i3,Y<|.ref i3,ab,Y<|.str "__main__" 164,ab,Y<|.ref i2]}
def Hs(a:d6):BT:=[boot_o_0 a,boot_o_1 a,boot_o_2 a,boot_o_3 a,boot_o_4 a,boot_o_5 a,boot_o_6 a,boot_o_7 a,boot_o_8 a,boot_o_9 a,boot_o_10 a,Ir,{cls:=.none,data:=.fields #[]},Is,It].zipIdx.foldl (λc b=>c.ins b.2 b.1) .nil
def q9(a:d6):cq:=⟨Hs a,15,187,.str "__main__" 164⟩
def hw(a:d6)(b:U):cq:=tZ a (q9 a)<|l9 0 b
def l7(a:cq)(b:jO):SharedT:=⟨a.c,a.b,{},#[],jP,a.a,b⟩
abbrev t7:Pos:=⟨0,0,0,0⟩
def ix(a:d6):Heap:=absHeap (hw a 110).c (hw a 110).b {}
def q'(c:eC)(d:bT):Prop:=∀a b,(ix c.2).get? a=Y b->d.get? a=Y b
end
noncomputable section
open PySem PySem.W
def posOf(s:Stmt):Pos:=if h:s.ctorIdx=5 then Stmt.Assign.elim s h λts a a=>(ts.head?.map Expr.pos).getD ⟨0,0,0,0⟩else s.pos
def posAt:Nat->Pos
 |0=>⟨0,0,0,0⟩
 |i+1=>match PySem.Challenge.pw_nz0058_01.main.body[i]? with|some st=>posOf st|none=>⟨0,0,0,0⟩
def segT_tw:@segRunT=@PySem.W.Fast.tw10110043849684766642:=PySem.W.Fast.te10110043849684766642
def tab_tw:@treeTable=@PySem.W.Fast.tw14364793385576792824:=PySem.W.Fast.te14364793385576792824
def Piece(i n N:Nat):Prop:=∀w:World,(λ(p:Program)(b:List Stmt)(os:OsState)=>segRunT treeTable p w 11 (some<|.ref 6) 1 N (l7 (hw w.params i) os)<|piecesOf (l9 i n) tT (Code.body b tT) (posAt i) [topFrame t7])=
 λp b os=>some (Flow.next,l7 (tZ w.params (hw w.params i)<|l9 i n) os,Code.body b tT,posAt<|i+n)
def piece_of{i n N:Nat}(h:∀w:World,(λ(p:Program)(b:List Stmt)(os:OsState)=>PySem.W.Fast.tw10110043849684766642 PySem.W.Fast.tw14364793385576792824 p w 11 (some<|.ref 6) 1 N (l7 (hw w.params i) os)<|piecesOf (l9 i n) tT (Code.body b tT) (posAt i) [topFrame t7])=
 λp b os=>some (Flow.next,l7 (tZ w.params (hw w.params i)<|l9 i n) os,Code.body b tT,posAt<|i+n)):Piece i n N:=by
 unfold Piece;rw[segT_tw,tab_tw];exact h
def piece_rows{i n N:Nat}(h:∀(c:Bool)(w:World),(λ(p:Program)(b:List Stmt)(os:OsState)=>PySem.W.Fast.tw10110043849684766642 PySem.W.Fast.tw14364793385576792824 p (w.withFollow "special-get-raises" c) 11 (some<|.ref 6) 1 N (l7 (hw w.params i) os)<|piecesOf (l9 i n) tT (Code.body b tT) (posAt i) [topFrame t7])=
 λp b os=>some (Flow.next,l7 (tZ w.params (hw w.params i)<|l9 i n) os,Code.body b tT,posAt<|i+n)):Piece i n N:=piece_of λw=>by
 have:=h (w.params.followText "special-get-raises") w;rw[World.withFollow_self]at this;exact this
def pc0:Piece 0 13 415:=piece_of λw=>by kernel_rfl
def pc13:Piece 13 7 240:=piece_of λw=>by kernel_rfl
def pc20:Piece 20 1 123:=piece_rows λc=>(match c with|true=>λw=>by kernel_rfl|false=>λw=>by kernel_rfl)
def pc21:Piece 21 2 366:=piece_of λw=>by kernel_rfl
def pc23:Piece 23 1 279:=piece_of λw=>by kernel_rfl
def pc24:Piece 24 5 420:=piece_of λw=>by kernel_rfl
def pc29:Piece 29 7 212:=piece_of λw=>by kernel_rfl
def pc36:Piece 36 1 221:=piece_of λw=>by kernel_rfl
def pc37:Piece 37 1 214:=piece_of λw=>by kernel_rfl
def pc38:Piece 38 2 223:=piece_of λw=>by kernel_rfl
def pc40:Piece 40 1 1419:=piece_rows λc=>(match c with|true=>λw=>by kernel_rfl|false=>λw=>by kernel_rfl)
def pc41:Piece 41 2 280:=piece_of λw=>by kernel_rfl
def pc43:Piece 43 7 413:=piece_of λw=>by kernel_rfl
def pc50:Piece 50 2 277:=piece_of λw=>by kernel_rfl
def pc52:Piece 52 1 263:=piece_of λw=>by kernel_rfl
def pc53:Piece 53 1 306:=piece_of λw=>by kernel_rfl
def pc54:Piece 54 2 282:=piece_of λw=>by kernel_rfl
def pc56:Piece 56 1 425:=piece_of λw=>by kernel_rfl
def pc57:Piece 57 12 349:=piece_of λw=>by kernel_rfl
def pc69:Piece 69 1 1348:=piece_rows λc=>(match c with|true=>λw=>by kernel_rfl|false=>λw=>by kernel_rfl)
def pc70:Piece 70 4 343:=piece_of λw=>by kernel_rfl
def pc74:Piece 74 1 953:=piece_of λw=>by kernel_rfl
def pc75:Piece 75 14 412:=piece_of λw=>by kernel_rfl
def pc89:Piece 89 13 400:=piece_of λw=>by kernel_rfl
def pc102:Piece 102 8 243:=piece_of λw=>by kernel_rfl
end
end M.Top
namespace M.Top
open PySem PySem.W
noncomputable section
abbrev dI:Program:=F'
abbrev l4:R Stmt:=dI.1.1
abbrev o3:Code:=Code.body l4 tT
def IN(a b:U):l9 a b++l4.drop (a+b)=l4.drop a:=by unfold l9;rw[<-Yi];exact YI b _
def IC(a:d6)(b c:U):tZ a (hw a b) (l9 b c)=hw a (b+c):=by unfold hw tZ l9;rw[FE,List.take_add,Yp]
def nr(a:eC)(c:jO)(d b:U):Prop:=topRun oP dI a 11 (Y<|.ref 6) d (l7 (hw a.2 b) c).abs (restOf (l4.drop b) tT o3 (posAt b) [GK t7])=Y (l7 (hw a.2 110) c).abs
def et{b:eC}{c:jO}{a d e f:U}(i:Piece a d e)(g:nr b c f<|a+d):nr b c (e+f) a:=by have j:=tG (tG (tG (i b) dI) l4) c;have h:=segRun_of j;rw[IC]at h;unfold nr at g⊢;rw[<-IN a d];exact piece_app h g
def Iz(a:eC)(b:jO):nr a b 2 110:=by
 unfold nr;have:l4.drop 110=[]:=by kernel_rfl
 rw[this];refine piece_nil ?_
 kernel_rfl
def Ix(a:eC)(b:jO):nr a b (415+(240+(123+(366+(279+(420+(212+(221+(214+(223+(1419+(280+(413+(277+(263+(306+(282+(425+(349+(1348+(343+(953+(412+(400+(243+2))))))))))))))))))))))))) 0:=
 et pc0 (et pc13 (et pc20 (et pc21 (et pc23 (et pc24 (et pc29 (et pc36 (et pc37 (et pc38 (et pc40 (et pc41 (et pc43 (et pc50
  (et pc52<|et pc53<|et pc54<|et pc56<|et pc57<|et pc69<|et pc70<|et pc74<|et pc75<|et pc89<|et pc102<|Iz a b))))))))))))))
def Iw(a:eC):(λb=>topGo oP dI a 11 (Y<|.ref 6) 12 ⟨kF a.2,#[],jP,tv,b⟩<|topStub dI)=λb=>Y ((l7 (q9 a.2) b).abs,⟨denote oP o3,o3,⟨0,0,0,0⟩,[GK t7]⟩):=by kernel_rfl
def HB(a:eC):(λb=>segRun oP dI a 11 (Y<|.ref 6) 1 1 (l7 (q9 a.2) b).abs<|blockOf l4 tT o3 ⟨0,0,0,0⟩ [GK t7])=λb=>Y (.next,(l7 (q9 a.2) b).abs,o3,⟨0,0,0,0⟩):=by kernel_rfl
def tP:Nat:=12+(1+(415+(240+(123+(366+(279+(420+(212+(221+(214+(223+(1419+(280+(413+(277+(263+(306+(282+(425+(349+(1348+(343+(953+(412+(400+(243+2))))))))))))))))))))))))))
def IA(a:eC)(b:jO):topRun oP dI a 11 (Y<|.ref 6) tP ⟨kF a.2,#[],jP,tv,b⟩ (topStub dI)=Y (l7 (hw a.2 110) b).abs:=by exact go_top (n:=12) (N:=1+(415+(240+(123+(366+(279+(420+(212+(221+(214+(223+(1419+(280+(413+(277+(263+(306+(282+(425+(349+(1348+(343+(953+(412+(400+(243+2)))))))))))))))))))))))))) (tG (Iw a) b)<|piece_block (n:=1) (N:=(415+(240+(123+(366+(279+(420+(212+(221+(214+(223+(1419+(280+(413+(277+(263+(306+(282+(425+(349+(1348+(343+(953+(412+(400+(243+2)))))))))))))))))))))))))) (tG (HB a) b)<|Ix a b
end
end M.Top
namespace M.Top
open PySem PySem.W PyProof.Rows
noncomputable section
def ny:Program:={dI with main:={dI.1 with body:=l9 109 1}}
def nw:R Str:=(["_wall","value_or_nil","call","subject_test","compile_casein","compile_matchp","compile_matchq","match","bind","match_value","match_bind","match_alt","match_as","need_const","raise_type_error","taken_apart","match_part","match_array","match_hash","PATTERNS","Part","EnsuredPart","HandlerPart","enter","end","compile_begin","compile_rescued","compile_handlers","class_tests","test_jump","splat_tests","store_many","store_one","GemError","BadRows","BadArgument","FIELDS","OWN_NAMES","Node","Params","nodes_in","pattern_names","locals_of","param_names","JUMPS","DEFINED_ON_TOP","Row","Catch","Code","Label","place_of","Maker","given","passed","tuck_effect","list_effect","table_effect","send_effect","super_effect","zsuper_effect","yield_effect","class_effect","defined_effect","spreadto_effect","EFFECTS","effect_of","SEEN_OUTSIDE","Slots","Compiler","has_splat","push_value","do_plain","do_array","do_lvar","do_const","do_seq","do_call","_law_urn","_law_draw","_law_name_of","_law_thing","_law_sort","_law_form","_law_row_form","_law_card_form","_law_pattern_of","_law_book","_law_question","_law_takes","_law_tells","_law_can","_law_opened","_law_read","_law_read_row","_law_read_card","_law_verdict","_law_around","_law_handed","_law_sent","_law_moved","_law_rows_play","_law_framed"]:R aC).map b2
def IK(a:eC):((kF a.2).isNs ip&&(#[]:dk GenState).size==0,(kF a.2).1.size,(kF a.2).nsMap ip "__annotations__")=(Q,11,Y<|.ref 6):=by kernel_rfl
def Iu:∀b:eC,(fencedOpening oP dI b 30000).map (λa=>(a.1,a.2,a.3,a.4))=Y (kF b.2,Array.mk [],jP,tv):=
 boot_open (by kernel_rfl) (by decide) (λa=>by kernel_rfl)
def nv:Nat:=2339
def If(a:eC)(b:jO):(staticsOk (GN dI.1.1) (kF a.2) (ix a.2)&&namesBound dI (ix a.2)&&gensDone ⟨ix a.2,#[],jP,nv,b⟩&&laidKept (kF a.2) (ix a.2))=true:=by kernel_rfl
def Ig(a:eC)(b:jO):openSeen ny nw (GN dI.1.1) (λc=>Q) Q ⟨ix a.2,#[],jP,nv,b⟩=openGood ny nw:=by kernel_rfl
end
end M.Top
namespace M.Top
section
set_option maxHeartbeats 8000000
open PySem PySem.W PyProof.Rows
noncomputable section
abbrev yE:OpenLaw:=tp
def ID:(sreFenced dI.1&&((moduleNames dI.1.1).isEmpty||lookedIntoSs (moduleNames dI.1.1) dI.1.1))=true:=by rw[ï,ù,ð];kernel_rfl
def IE:namesResolve dI=true:=by rw[ø];kernel_rfl
def IF:dI.boundNames.all (λa=> !worldNames.contains a)=true:=by rw[õ,î,ò];kernel_rfl
def IG:noRoadLSs {strict:= !(GN dI.1.1).all cThrough.contains,foot:=ab,bare:=(["vars","dir","locals"]:R aJ).filter<|readsOut dI dI.1.1} dI.1.1=true:=by rw[ö,ñ];kernel_rfl
def IH:(namesMeet dI dI.1.1 λb a=>attrL a)=true:=by rw[ó,ô];kernel_rfl
def Ih:looksOpen dI=true:=c9 (c9 (c9 (c9 ID IE) IF) IG) IH
def Iv:yE.row.partSaid=true:=by
 delta OpenRow.partSaid
 refine c9 (c9 (c9 (c9 (c9 (c9 (c9 (c9 (c9 (c9 (c9 (c9 (c9 ?e1 ?e2) ?e3) ?e4) ?e5) ?e6) ?e7) ?e8) ?e9) ?e10) ?e11) ?e12) ?e13) ?e14
 case e1=>exact Ih
 case e2=>kernel_rfl
 case e3=>kernel_rfl
 case e4=>kernel_rfl
 case e5=>kernel_rfl
 case e6=>kernel_rfl
 case e7=>kernel_rfl
 case e8=>kernel_rfl
 case e9=>kernel_rfl
 case e10=>kernel_rfl
 case e11=>kernel_rfl
 case e12=>kernel_rfl
 case e13=>kernel_rfl
 case e14=>kernel_rfl
def IB:yE.wellSaid=true:=by
 delta OpenLaw.wellSaid
 refine c9 (c9 (c9 (c9 (c9 (c9 (c9 (c9 (c9 (c9 (c9 (c9 (c9 (c9 (c9 (c9 (c9 (c9 ?c1 ?c2) ?c3) ?c4) ?c5) ?c6) ?c7) ?c8) ?c9) ?c10) ?c11) ?c12) ?c13) ?c14) ?c15) ?c16) ?c17) ?c18) ?c19
 case c1=>
  delta OpenRow.wellSaid
  refine c9 (c9 Iv ?d1) ?d2
  case d1=>kernel_rfl
  case d2=>kernel_rfl
 case c2=>kernel_rfl
 case c3=>kernel_rfl
 case c4=>kernel_rfl
 case c5=>kernel_rfl
 case c6=>kernel_rfl
 case c7=>kernel_rfl
 case c8=>kernel_rfl
 case c9=>kernel_rfl
 case c10=>kernel_rfl
 case c11=>kernel_rfl
 case c12=>kernel_rfl
 case c13=>kernel_rfl
 case c14=>kernel_rfl
 case c15=>kernel_rfl
 case c16=>kernel_rfl
 case c17=>kernel_rfl
 case c18=>kernel_rfl
 case c19=>kernel_rfl
end
end
section
set_option maxHeartbeats 8000000
open PySem PySem.W PyProof.Rows
noncomputable section
def IP(a:d6):(hw a 110).a=nv:=by kernel_rfl
def Ht(a:cq)(b:jO)(c:U)(d:a.a=c):(l7 a b).abs=⟨absHeap a.c a.b {},#[],jP,c,b⟩:=by subst d;rfl
def Iy(a:eC)(b:jO):topRun oP dI a 11 (Y<|.ref 6) tP ⟨kF a.2,#[],jP,tv,b⟩ (topStub dI)=Y ⟨ix a.2,#[],jP,nv,b⟩:=
 (IA a b).trans (aF Y<|Ht (hw a.2 110) b nv<|IP a.2)
def Ib:LeftO dI ny nw (λe=>Q) (λc=>c.1) (λa=>ix a.2) 30000:=
 LeftO.of_pieces (H₀:=kF) (H₁:=ix) (gs₀:=#[]) (gs₁:=#[]) (d₀:=jP) (d₁:=jP) (k₀:=tv) (k₁:=nv) (m₀:=11) (ann:=Y<|.ref 6) (M:=tP) Iu IK Iy (by decide+kernel) λa=>
  qX λb=>looks_pair (If a b)<|looks_pair (Ig a b) Z
def H7:Stmt:=(l9 109 1).headD<|.Pass ⟨0,0,0,0⟩
def tY:DefRec:=GD H7 (by kernel_rfl) λa b c f f f d f f e=>⟨a,b,c,d,e⟩
def HX(i:WalkO ny nw (λn n=>eN) q' tp.row.1 tY [] λg h=>fJ g h):tp.Holds:=by
 w_on
 refine holds_law IB λl=>?_;refine holds_open (q:=ny) (loose:=nw) (Xt:=λn=>Q) (XP:=λn n=>eN) (Yf:=λa=>a.1) (Ya:=λb=>ix b.2) (YP:=q') (N:=30000) Ib
  (λb a c d e f=>by rw[show a.1=ix b.2 from c];exact f) (λb f m j k d e c=>k d e<|j d e c) (λn n=>ds) (λn n n n n=>ds)
  (by rfl) (by rfl) (by rfl) (λa n=>recFacts_nil Z) Z (by first|assumption|decide+kernel) (by decide+kernel) ⟨Z,Z,Z,Z,Z,by decide+kernel⟩ ?hw i
 w_witness2
end
end
end M.Top
namespace M
section
set_option genSizeOf false
set_option genInjectivity false
@[elab_as_elim] def p2{a:Sort _}{b:a->Prop}{c d:a}(e:c=d)(f:b d):b c:=e▸f
@[elab_as_elim] def RF{a:Sort _}{b:a->Prop}{c d:a}(e:d=c)(f:b d):b c:=e▸f
inductive a6(a b:Prop):Prop
 |A (c:a) (d:b):a6 a b
def jz{a b:Prop}{c:Prop}(d:a6 (a)<|b)(e:a->b->c):c:=e d.1 d.2
def a8.{u0}{d:Sort u0}{b:d->Prop}{c:Prop}(e:bw λa=>b a)(f:∀a,b a->c):c:=e.elim λa g=>f a g
def gS{b c d:Prop}{e:Prop}(a:a6 (b)<|a6 (c)<|d)(f:b->c->d->e):e:=f a.1 a.2.1 a.2.2
def cg.{u0}{f:Sort u0}{b c:f->Prop}{d:Prop}(g:bw λa=>a6 (b a)<|c a)(h:∀a,b a->c a->d):d:=g.elim λa e=>h a e.1 e.2
def d2.{u0,u1}{f:Sort u0}{g:Sort u1}{d:f->g->Prop}{e:Prop}(c:bw λa=>bw λb=>d a b)(h:∀a b,d a b->e):e:=c.elim λa c=>c.elim λb i=>h a b i
def vB{b c d e:Prop}{f:Prop}(a:a6 (b)<|a6 (c)<|a6 (d)<|e)(g:b->c->d->e->f):f:=g a.1 a.2.1 a.2.2.1 a.2.2.2
def jA.{u0}{g:Sort u0}{c d e:g->Prop}{f:Prop}(h:bw λa=>a6 (c a)<|a6 (d a)<|e a)(i:∀a,c a->d a->e a->f):f:=h.elim λa b=>i a b.1 b.2.1 b.2.2
def bS.{u0,u1}{h:Sort u0}{i:Sort u1}{d e:h->i->Prop}{f:Prop}(c:bw λa=>bw λb=>a6 (d a b)<|e a b)(j:∀a b,d a b->e a b->f):f:=c.elim λa c=>c.elim λb g=>j a b g.1 g.2
def mE.{u0,u1,u2}{g:Sort u0}{h:Sort u1}{i:Sort u2}{e:g->h->i->Prop}{f:Prop}(d:bw λa=>bw λb=>bw λc=>e a b c)(j:∀a b c,e a b c->f):f:=d.elim λa d=>d.elim λb d=>d.elim λc k=>j a b c k
def n7{b c d e f:Prop}{g:Prop}(a:a6 (b)<|a6 (c)<|a6 (d)<|a6 (e)<|f)(h:b->c->d->e->f->g):g:=h a.1 a.2.1 a.2.2.1 a.2.2.2.1 a.2.2.2.2
def pT.{u0}{h:Sort u0}{c d e f:h->Prop}{g:Prop}(i:bw λa=>a6 (c a)<|a6 (d a)<|a6 (e a)<|f a)(j:∀a,c a->d a->e a->f a->g):g:=i.elim λa b=>j a b.1 b.2.1 b.2.2.1 b.2.2.2
def fA.{u0,u1}{i:Sort u0}{j:Sort u1}{e f g:i->j->Prop}{h:Prop}(c:bw λa=>bw λb=>a6 (e a b)<|a6 (f a b)<|g a b)(k:∀a b,e a b->f a b->g a b->h):h:=c.elim λa c=>c.elim λb d=>k a b d.1 d.2.1 d.2.2
def iK.{u0,u1,u2}{i:Sort u0}{j:Sort u1}{k:Sort u2}{e f:i->j->k->Prop}{g:Prop}(d:bw λa=>bw λb=>bw λc=>a6 (e a b c)<|f a b c)(l:∀a b c,e a b c->f a b c->g):g:=d.elim λa d=>d.elim λb d=>d.elim λc h=>l a b c h.1 h.2
def P0{b c d e f g:Prop}{h:Prop}(a:a6 (b)<|a6 (c)<|a6 (d)<|a6 (e)<|a6 (f)<|g)(i:b->c->d->e->f->g->h):h:=i a.1 a.2.1 a.2.2.1 a.2.2.2.1 a.2.2.2.2.1 a.2.2.2.2.2
def P1.{u0,u1,u2}{j:Sort u0}{k:Sort u1}{l:Sort u2}{f g h:j->k->l->Prop}{i:Prop}(d:bw λa=>bw λb=>bw λc=>a6 (f a b c)<|a6 (g a b c)<|h a b c)(m:∀a b c,f a b c->g a b c->h a b c->i):i:=d.elim λa d=>d.elim λb d=>d.elim λc e=>m a b c e.1 e.2.1 e.2.2
def BY.{u0,u1,u2,u3}{j:Sort u0}{k:Sort u1}{l:Sort u2}{m:Sort u3}{f g:j->k->l->m->Prop}{h:Prop}(e:bw λa=>bw λb=>bw λc=>bw λd=>a6 (f a b c d)<|g a b c d)(n:∀a b c d,f a b c d->g a b c d->h):h:=e.elim λa e=>e.elim λb e=>e.elim λc e=>e.elim λd i=>n a b c d i.1 i.2
def BZ.{u0,u1,u2,u3,u4}{i:Sort u0}{j:Sort u1}{k:Sort u2}{l:Sort u3}{m:Sort u4}{g:i->j->k->l->m->Prop}{h:Prop}(a:bw λb=>bw λc=>bw λd=>bw λe=>bw λf=>g b c d e f)(n:∀b c d e f,g b c d e f->h):h:=a.elim λb a=>a.elim λc a=>a.elim λd a=>a.elim λe a=>a.elim λf o=>n b c d e f o
def P2.{u0,u1,u2,u3,u4}{k:Sort u0}{l:Sort u1}{m:Sort u2}{n:Sort u3}{o:Sort u4}{g h:k->l->m->n->o->Prop}{i:Prop}(a:bw λb=>bw λc=>bw λd=>bw λe=>bw λf=>a6 (g b c d e f)<|h b c d e f)(p:∀b c d e f,g b c d e f->h b c d e f->i):i:=a.elim λb a=>a.elim λc a=>a.elim λd a=>a.elim λe a=>a.elim λf j=>p b c d e f j.1 j.2
def b8.{u}{a:Type u}{b:a}{c:Prop}(d:ab=Y b):c:=nomatch d
def iR.{u}{a:Type u}{b:a}{c:Prop}(d:Y b=ab):c:=nomatch d
def bx{a:Prop}(b:M=Q):a:=nomatch b
def e4{a:Prop}(b:Q=M):a:=nomatch b
def bW.{u}{a:Type u}{b:a}{c:Prop}(d:b∈[]):c:=nomatch d
def ch.{u}{c:Type u}{a b:c}(d:Y a=Y b):b=a:=by cases d;rfl
inductive bE{a b:Type}(c:a->b->Prop):Prop
 |B (d:a) (e:b) (f:c d e):bE c
inductive kM{a b c:Type}(d:a->b->c->Prop):Prop
 |A (e:a) (f:b) (g:c) (h:d e f g):kM d
inductive cy{a b c d:Type}(e:a->b->c->d->Prop):Prop
 |C (f:a) (g:b) (h:c) (i:d) (j:e f g h i):cy e
def cy.B{c d e j:Type}{f:c->d->e->j->Prop}(g:c)(h:d)(i:e)(b:∃a,f g h i a):cy f:=b.elim λa b=>⟨g,h,i,a,b⟩
inductive ni{a b c d e:Type}(f:a->b->c->d->e->Prop):Prop
 |B (g:a) (h:b) (i:c) (j:d) (k:e) (l:f g h i j k):ni f
inductive gG{a b c d e f:Type}(g:a->b->c->d->e->f->Prop):Prop
 |B (h:a) (i:b) (j:c) (k:d) (l:e) (m:f) (n:g h i j k l m):gG g
inductive kN{a b c d e f g:Type}(h:a->b->c->d->e->f->g->Prop):Prop
 |B (i:a) (j:b) (k:c) (l:d) (m:e) (n:f) (o:g) (p:h i j k l m n o):kN h
inductive x8{a b c d e f g h:Type}(i:a->b->c->d->e->f->g->h->Prop):Prop
 |A (j:a) (k:b) (l:c) (m:d) (n:e) (o:f) (p:g) (q:h) (r:i j k l m n o p q):x8 i
inductive x7{a b c d e f g h i j:Type}(k:a->b->c->d->e->f->g->h->i->j->Prop):Prop
 |A (l:a) (m:b) (n:c) (o:d) (p:e) (q:f) (r:g) (s:h) (t:i) (u:j) (v:k l m n o p q r s t u):x7 k
def am{a b:Prop}(c:a)(d:b):a6 (a)<|b:=⟨c,d⟩
def a1.{u0}{a:Sort u0}{b:a->Prop}(c:a)(d:b c):bw λe=>b e:=⟨c,d⟩
def aL{a b c:Prop}(d:a)(e:b)(f:c):a6 (a)<|a6 (b)<|c:=⟨d,e,f⟩
def ax.{u0}{b:Sort u0}{c d:b->Prop}(a:b)(f:c a)(g:d a):bw λe=>a6 (c e)<|d e:=⟨a,f,g⟩
def f9.{u0,u1}{a:Sort u0}{b:Sort u1}{c:a->b->Prop}(d:a)(e:b)(f:c d e):bw λg=>bw λh=>c g h:=⟨d,e,f⟩
def db{a b c d:Prop}(e:a)(f:b)(g:c)(h:d):a6 (a)<|a6 (b)<|a6 (c)<|d:=⟨e,f,g,h⟩
def cW.{u0}{c:Sort u0}{d e f:c->Prop}(a:c)(g:d a)(h:e a)(i:f a):bw λb=>a6 (d b)<|a6 (e b)<|f b:=⟨a,g,h,i⟩
def ck.{u0,u1}{c:Sort u0}{d:Sort u1}{e f:c->d->Prop}(a:c)(b:d)(i:e a b)(j:f a b):bw λg=>bw λh=>a6 (e g h)<|f g h:=⟨a,b,i,j⟩
def rM.{u0,u1,u2}{a:Sort u0}{b:Sort u1}{c:Sort u2}{d:a->b->c->Prop}(e:a)(f:b)(g:c)(h:d e f g):bw λi=>bw λj=>bw λk=>d i j k:=⟨e,f,g,h⟩
def bB{a b c d e:Prop}(f:a)(g:b)(h:c)(i:d)(j:e):a6 (a)<|a6 (b)<|a6 (c)<|a6 (d)<|e:=⟨f,g,h,i,j⟩
def dZ.{u0}{c:Sort u0}{d e f g:c->Prop}(a:c)(h:d a)(i:e a)(j:f a)(k:g a):bw λb=>a6 (d b)<|a6 (e b)<|a6 (f b)<|g b:=⟨a,h,i,j,k⟩
def cd.{u0,u1}{e:Sort u0}{f:Sort u1}{g h i:e->f->Prop}(a:e)(b:f)(j:g a b)(k:h a b)(l:i a b):bw λc=>bw λd=>a6 (g c d)<|a6 (h c d)<|i c d:=⟨a,b,j,k,l⟩
def pt.{u0,u1,u2}{d:Sort u0}{e:Sort u1}{f:Sort u2}{g h:d->e->f->Prop}(a:d)(b:e)(c:f)(l:g a b c)(m:h a b c):bw λi=>bw λj=>bw λk=>a6 (g i j k)<|h i j k:=⟨a,b,c,l,m⟩
def gv{a b c d e f:Prop}(g:a)(h:b)(i:c)(j:d)(k:e)(l:f):a6 (a)<|a6 (b)<|a6 (c)<|a6 (d)<|a6 (e)<|f:=⟨g,h,i,j,k,l⟩
def kf.{u0}{c:Sort u0}{d e f g h:c->Prop}(a:c)(i:d a)(j:e a)(k:f a)(l:g a)(m:h a):bw λb=>a6 (d b)<|a6 (e b)<|a6 (f b)<|a6 (g b)<|h b:=⟨a,i,j,k,l,m⟩
def Au.{u0,u1}{e:Sort u0}{f:Sort u1}{g h i j:e->f->Prop}(a:e)(b:f)(k:g a b)(l:h a b)(m:i a b)(n:j a b):bw λc=>bw λd=>a6 (g c d)<|a6 (h c d)<|a6 (i c d)<|j c d:=⟨a,b,k,l,m,n⟩
def uP.{u0,u1,u2}{g:Sort u0}{h:Sort u1}{i:Sort u2}{j k l:g->h->i->Prop}(a:g)(b:h)(c:i)(m:j a b c)(n:k a b c)(o:l a b c):bw λd=>bw λe=>bw λf=>a6 (j d e f)<|a6 (k d e f)<|l d e f:=⟨a,b,c,m,n,o⟩
def ej{a b c d e f g:Prop}(h:a)(i:b)(j:c)(k:d)(l:e)(m:f)(n:g):a6 (a)<|a6 (b)<|a6 (c)<|a6 (d)<|a6 (e)<|a6 (f)<|g:=⟨h,i,j,k,l,m,n⟩
def As.{u0}{c:Sort u0}{d e f g h i:c->Prop}(a:c)(j:d a)(k:e a)(l:f a)(m:g a)(n:h a)(o:i a):bw λb=>a6 (d b)<|a6 (e b)<|a6 (f b)<|a6 (g b)<|a6 (h b)<|i b:=⟨a,j,k,l,m,n,o⟩
def lg.{u0,u1}{e:Sort u0}{f:Sort u1}{g h i j k:e->f->Prop}(a:e)(b:f)(l:g a b)(m:h a b)(n:i a b)(o:j a b)(p:k a b):bw λc=>bw λd=>a6 (g c d)<|a6 (h c d)<|a6 (i c d)<|a6 (j c d)<|k c d:=⟨a,b,l,m,n,o,p⟩
def Av.{u0,u1,u2}{g:Sort u0}{h:Sort u1}{i:Sort u2}{j k l m:g->h->i->Prop}(a:g)(b:h)(c:i)(n:j a b c)(o:k a b c)(p:l a b c)(q:m a b c):bw λd=>bw λe=>bw λf=>a6 (j d e f)<|a6 (k d e f)<|a6 (l d e f)<|m d e f:=⟨a,b,c,n,o,p,q⟩
def At.{u0}{c:Sort u0}{d e f g h i j:c->Prop}(a:c)(k:d a)(l:e a)(m:f a)(n:g a)(o:h a)(p:i a)(q:j a):bw λb=>a6 (d b)<|a6 (e b)<|a6 (f b)<|a6 (g b)<|a6 (h b)<|a6 (i b)<|j b:=⟨a,k,l,m,n,o,p,q⟩
def NU.{u0,u1}{e:Sort u0}{f:Sort u1}{g h i j k l:e->f->Prop}(a:e)(b:f)(m:g a b)(n:h a b)(o:i a b)(p:j a b)(q:k a b)(r:l a b):bw λc=>bw λd=>a6 (g c d)<|a6 (h c d)<|a6 (i c d)<|a6 (j c d)<|a6 (k c d)<|l c d:=⟨a,b,m,n,o,p,q,r⟩
def NW.{u0,u1,u2,u3,u4}{k:Sort u0}{l:Sort u1}{m:Sort u2}{n:Sort u3}{o:Sort u4}{p q r:k->l->m->n->o->Prop}(a:k)(b:l)(c:m)(d:n)(e:o)(s:p a b c d e)(t:q a b c d e)(u:r a b c d e):bw λf=>bw λg=>bw λh=>bw λi=>bw λj=>a6 (p f g h i j)<|a6 (q f g h i j)<|r f g h i j:=⟨a,b,c,d,e,s,t,u⟩
def NY.{u0,u1,u2,u3,u4,u5}{g:Sort u0}{h:Sort u1}{i:Sort u2}{j:Sort u3}{k:Sort u4}{l:Sort u5}{m n:g->h->i->j->k->l->Prop}(a:g)(b:h)(c:i)(d:j)(e:k)(f:l)(u:m a b c d e f)(v:n a b c d e f):bw λo=>bw λp=>bw λq=>bw λr=>bw λs=>bw λt=>a6 (m o p q r s t)<|n o p q r s t:=⟨a,b,c,d,e,f,u,v⟩
def uQ.{u0,u1,u2}{g:Sort u0}{h:Sort u1}{i:Sort u2}{j k l m n o:g->h->i->Prop}(a:g)(b:h)(c:i)(p:j a b c)(q:k a b c)(r:l a b c)(s:m a b c)(t:n a b c)(u:o a b c):bw λd=>bw λe=>bw λf=>a6 (j d e f)<|a6 (k d e f)<|a6 (l d e f)<|a6 (m d e f)<|a6 (n d e f)<|o d e f:=⟨a,b,c,p,q,r,s,t,u⟩
def Aw.{u0,u1,u2,u3}{i:Sort u0}{j:Sort u1}{k:Sort u2}{l:Sort u3}{m n o p q:i->j->k->l->Prop}(a:i)(b:j)(c:k)(d:l)(r:m a b c d)(s:n a b c d)(t:o a b c d)(u:p a b c d)(v:q a b c d):bw λe=>bw λf=>bw λg=>bw λh=>a6 (m e f g h)<|a6 (n e f g h)<|a6 (o e f g h)<|a6 (p e f g h)<|q e f g h:=⟨a,b,c,d,r,s,t,u,v⟩
def NV.{u0,u1,u2,u3}{i:Sort u0}{j:Sort u1}{k:Sort u2}{l:Sort u3}{m n o p q r:i->j->k->l->Prop}(a:i)(b:j)(c:k)(d:l)(s:m a b c d)(t:n a b c d)(u:o a b c d)(v:p a b c d)(w:q a b c d)(x:r a b c d):bw λe=>bw λf=>bw λg=>bw λh=>a6 (m e f g h)<|a6 (n e f g h)<|a6 (o e f g h)<|a6 (p e f g h)<|a6 (q e f g h)<|r e f g h:=⟨a,b,c,d,s,t,u,v,w,x⟩
def NX.{u0,u1,u2,u3,u4}{k:Sort u0}{l:Sort u1}{m:Sort u2}{n:Sort u3}{o:Sort u4}{p q r s t:k->l->m->n->o->Prop}(a:k)(b:l)(c:m)(d:n)(e:o)(u:p a b c d e)(v:q a b c d e)(w:r a b c d e)(x:s a b c d e)(y:t a b c d e):bw λf=>bw λg=>bw λh=>bw λi=>bw λj=>a6 (p f g h i j)<|a6 (q f g h i j)<|a6 (r f g h i j)<|a6 (s f g h i j)<|t f g h i j:=⟨a,b,c,d,e,u,v,w,x,y⟩
def bE.A{f g:Type}{d:f->g->Prop}{e:Prop}(a:bE d)(h:∀b c,d b c->e):e:=by cases a with|B b c a=>exact h b c a
def kM.B{g h i:Type}{e:g->h->i->Prop}{f:Prop}(a:kM e)(j:∀b c d,e b c d->f):f:=by cases a with|A b c d a=>exact j b c d a
def cy.A{h i j k:Type}{f:h->i->j->k->Prop}{g:Prop}(a:cy f)(l:∀b c d e,f b c d e->g):g:=by cases a with|C b c d e a=>exact l b c d e a
def ni.A{i j k l m:Type}{g:i->j->k->l->m->Prop}{h:Prop}(a:ni g)(n:∀b c d e f,g b c d e f->h):h:=by cases a with|B b c d e f a=>exact n b c d e f a
def gG.A{j k l m n o:Type}{h:j->k->l->m->n->o->Prop}{i:Prop}(a:gG h)(p:∀b c d e f g,h b c d e f g->i):i:=by cases a with|B b c d e f g a=>exact p b c d e f g a
def kN.A{k l m n o p q:Type}{i:k->l->m->n->o->p->q->Prop}{j:Prop}(a:kN i)(r:∀b c d e f g h,i b c d e f g h->j):j:=by cases a with|B b c d e f g h a=>exact r b c d e f g h a
def fj{a b c:Prop}(d:bD a b)(e:a->b->c):c:=e d.1 d.2
def h3{a b:aE}{c:Prop}(d:(a&&b)=Q)(e:a=Q->b=Q->c):c:=by cases a;exact bx d;exact e Z d
def kn{a c:aE}{b:Prop}(d:(a||c)=Q)(e:a=Q->b)(f:c=Q->b):b:=by cases a;exact f d;exact e Z
def AQ{a b:aE}(c:(!a||b)=Q)(d:a=Q):b=true:=by cases a;exact bx d;exact c
def PS{a:aE}{b:Prop}(c:(!a)=Q)(d:a=Q):b:=by cases a;exact bx d;exact bx c
def fk{a:Type}{c:R a}{d:a->aE}(e:c.all d=Q){b:a}(f:b∈c):d b=true:=oA.1 e b f
def ae{a:Prop}[c:oz a](b:aN a=Q):a:=f5 b
def aX{a b:U}(c:hS a b=Q):a<=b:=ec c
def el{a b:U}(c:oF a b=M):a≠b:=Nat.ne_of_beq_eq_false c
def n9{c d e:Prop}{a:Prop}(b:c\/d\/e)(f:c->a)(g:d->a)(h:e->a):a:=b.elim f λb=>b.elim g h
@[elab_as_elim] def c2{b:aE->Prop}(a:aE)(c:a=M->b M)(d:a=Q->b Q):b a:=by cases a;exact c Z;exact d Z
@[elab_as_elim] def dP.{u}{c:Type u}{b:aD c->Prop}(a:aD c)(e:a=ab->b ab)(f:∀d,a=Y d->b (Y d)):b a:=by cases a;exact e Z;exact f _ Z
@[elab_as_elim] def A'.{u}{c:Type u}{b:R c->Prop}(a:R c)(f:a=[]->b [])(g:∀d e,a=d::e->b (d::e)):b a:=by cases a;exact f Z;exact g _ _ Z
set_option genCtorIdx false in
inductive df where
 |B (a:U)|D (c:U)|C (b d:df)|A (a:U) (b:df)
set_option genCtorIdx false in
inductive d9 where
 |A (b c:df)|B (b c:df)|C (b c:df)|F (d e:d9)|G (d e:d9)|D (d:d9)|a
noncomputable instance:Add df:=⟨.C⟩
noncomputable instance(a:U):OfNat df a:=⟨.B a⟩
@[reducible] noncomputable def qs:R U->U->U
 |[],_=>0
 |b::c,a=>match a with|0=>b|a+1=>qs c a
@[reducible] noncomputable def df.E(a:R U):df->U
 |.B b=>b|.D d=>qs a d|.C c e=>c.E a+e.E a|.A b c=>b*c.E a
@[reducible] noncomputable def d9.L(a:R U):d9->Prop
 |.A b c=>b.E a<=c.E a|.B b c=>b.E a<c.E a|.C b c=>b.E a=c.E a|.F d e=>d.L a/\e.L a|.G d e=>d.L a\/e.L a|.D d=>¬d.L a|.a=>ky
@[reducible] noncomputable def N(a:R U)(b:d9):R d9->Prop
 |[]=>b.L a
 |c::d=>c.L a->N a b d
def eb:R U->R U->U
 |[],_=>0
 |_::_,[]=>0
 |a::b,c::d=>c*a+eb b d
def gW(a:R U):R U->U
 |[]=>0
 |b::c=>b+eb a c
def iT:R U->R U->R U
 |[],a=>a
 |b::c,a=>match a with|[]=>b::c|d::a=>(b+d)::iT c a
def kw(a:U):R U->R U
 |[]=>[]
 |b::c=>a*b::kw a c
def qt:U->R U
 |0=>[1]
 |a+1=>0::qt a
def df.F:df->R U
 |.B a=>[a]|.D c=>0::qt c|.C b d=>iT b.F d.F|.A a b=>kw a b.F
def mZ:R U->R U->aE
 |_,[]=>Q
 |a,b::c=>match a with|[]=>oF b 0&&mZ [] c|d::a=>hS b d&&mZ a c
def qp(a:R U):eb a []=0:=by cases a<;>rfl
def Fg:∀(a b c:R U),eb a (iT b c)=eb a b+eb a c
 |[],_,_=>Z
 |d::a,[],c=>by rw[qp,dG];rfl
 |d::a,e::b,[]=>by rw[qp];rfl
 |d::a,e::b,f::c=>by show(e+f)*d+eb a (iT b c)=(e*d+eb a b)+(f*d+eb a c);rw[Fg a b c,Nat.add_mul,YN]
def Fh(b:U):∀(a c:R U),eb a (kw b c)=b*eb a c
 |[],_=>Z
 |d::a,[]=>Z
 |d::a,e::c=>by show b*e*d+eb a (kw b c)=b*(e*d+eb a c);rw[Fh b a c,Y0,Nat.mul_assoc]
def Fi:∀(a:R U)(b:U),eb a (qt b)=qs a b
 |[],_=>Z
 |c::a,0=>by show 1*c+eb a []=c;rw[qp,Nat.one_mul];rfl
 |c::a,b+1=>by show 0*c+eb a (qt b)=qs a b;rw[Fi a b,Y5,dG]
def wT(a:R U):∀c b:R U,gW a (iT c b)=gW a c+gW a b
 |[],b=>by show gW a b=0+_;rw[dG]
 |d::c,[]=>Z
 |d::c,e::b=>by show(d+e)+eb a (iT c b)=(d+eb a c)+(e+eb a b);rw[Fg,YN]
def wU(c:R U)(a:U):∀b:R U,gW c (kw a b)=a*gW c b
 |[]=>Z
 |d::b=>by show a*d+eb c (kw a b)=a*(d+eb c b);rw[Fh,Y0]
def qr(a:R U):∀b:df,gW a b.F=b.E a
 |.B c=>by show c+eb a []=c;rw[qp];rfl
 |.D d=>by show 0+eb a (qt d)=qs a d;rw[Fi,dG]
 |.C b e=>by show gW a (iT b.F e.F)=_;rw[wT,qr a b,qr a e]
 |.A c b=>by show gW a (kw c b.F)=_;rw[wU,qr a b]
def wS:∀(b d c:R U),mZ d c=Q->eb b c<=eb b d
 |[],_,_,_=>aY _
 |e::b,_,[],_=>c8 _
 |e::b,[],f::c,a=>by have a:(oF f 0&&mZ [] c)=true:=a;rw[ez]at a;have h:=tm a.1;have g:=wS b [] c a.2;subst h;show 0*e+eb b c<=0;rw[Y5,dG];have:eb b []=0:=qp b;rw[this]at g;exact g
 |e::b,i::d,f::c,a=>by have a:(hS f i&&mZ d c)=true:=a;rw[ez]at a;exact YO (F2 e<|ec a.1)<|wS b d c a.2
def Fe:R U->R U->aE
 |b::c,a=>match a with|[]=>hS 1 b|d::a=>hS (d+1) b&&mZ c a
 |[],_=>M
def Xw(d:R U):∀b c:R U,Fe b c=Q->gW d c<gW d b
 |e::b,[],a=>eA (ec a)<|cU e _
 |e::b,f::c,a=>by have a:(hS (f+1) e&&mZ b c)=true:=a;rw[ez]at a;exact Nat.add_lt_add_of_lt_of_le (ec a.1)<|wS d b c a.2
abbrev ii:=R<|df×df
def s7(a:R U):ii->Prop
 |[]=>eN
 |b::c=>b.1.E a<=b.2.E a/\s7 a c
def ou:ii->R U->R U×R U
 |[],_=>([],[])
 |_::_,[]=>([],[])
 |a::b,c::d=>(iT (kw c a.1.F) (ou b d).1,iT (kw c a.2.F) (ou b d).2)
def Fk{a:R U}:∀{b:ii}{c:R U},s7 a b->gW a (ou b c).1<=gW a (ou b c).2
 |[],_,_=>aY _
 |_::_,[],_=>aY _
 |b::f,e::c,d=>by show gW a (iT _ _)<=gW a (iT _ _);rw[wT,wT,wU,wU,qr,qr];exact YO (Y1 e d.1)<|Fk d.2
def s9(a:ii)(b:R U):Bool:=Fe (ou a b).1 (ou a b).2
def wR{a:R U}{b:ii}{c:R U}(d:s9 b c=Q):¬s7 a b:=λe=>hT _<|eA (Xw a _ _ d)<|Fk e
set_option genCtorIdx false in
inductive j4 where
 |C (a:R U)|D|A (b:U)|B (c d:j4)
def Ff:U->U->R U
 |0,_=>[]
 |b+1,a=>a%10::Ff b (a/10)
def d9.J:d9->aE->(ii->j4->aE)->ii->j4->aE
 |.A e f,d,b=>λc a=>oS d (b ((e,f)::c) a)<|b ((.C f<|.B 1,e)::c) a
 |.B e f,d,b=>λc a=>oS d (b ((.C e<|.B 1,f)::c) a)<|b ((f,e)::c) a
 |.C e f,d,b=>λc a=>oS d (b ((e,f)::(f,e)::c) a) (match a with|.B a h=>b ((.C e<|.B 1,f)::c) a&&b ((.C f<|.B 1,e)::c) h|_=>b c a)
 |.F g i,d,b=>λc a=>oS d (g.J Q (i.J Q b) c a) (match a with|.B a h=>g.J M b c a&&i.J M b c h|_=>b c a)
 |.G g i,d,b=>λc a=>oS d (match a with|.B a h=>g.J Q b c a&&i.J Q b c h|_=>b c a)<|g.J M (i.J M b) c a
 |.D g,d,b=>g.J (!d) b
 |.a,d,b=>λc a=>d||b c a
def qq:R d9->(ii->j4->aE)->ii->j4->aE
 |[],a=>a
 |b::c,a=>b.J Q<|qq c a
def wV(a:ii)(b:j4):Bool:=match b with|.C c=>s9 a c|.D=>s9 a (a.map λe=>1)|.A d=>s9 a (Ff a.length d)|.B _ _=>M
def s8(b:R U)(c:ii->j4->aE):Prop:=∀a d,c a d=Q->¬s7 b a
def Fj{l:R U}(h:d9):∀{e:aE}{g:ii->j4->aE},oS e (h.L l) (¬h.L l)->s8 l g->s8 l (h.J e g):=by
 induction h with
 |A j o=>intro e g c b k f a d;cases e;exact b _ f a ⟨YW c,d⟩;exact b _ f a ⟨c,d⟩
 |B j o=>intro e g c b k f a d;cases e;exact b _ f a ⟨Nat.le_of_not_lt c,d⟩;exact b _ f a ⟨c,d⟩
 |C j o=>
  intro e g c b k f a d;cases e
  .cases f
   .exact b _ _ a d
   .exact b _ _ a d
   .exact b _ _ a d
   .have a:=(ez _ _).mp a;exact(Nat.lt_or_gt_of_ne c).elim (λc=>b _ _ a.1 ⟨c,d⟩) λc=>b _ _ a.2 ⟨c,d⟩
  .exact b _ f a ⟨fI c,fI c.symm,d⟩
 |F h p i m=>
  intro e g c b k f a d;cases e
  .cases f
   .exact b _ _ a d
   .exact b _ _ a d
   .exact b _ _ a d
   .have a:=(ez _ _).mp a;exact(Ó<|h.L l).elim (λn=>m (e:=M) (λq=>c ⟨n,q⟩) b _ _ a.2 d) λn=>i (e:=M) n b _ _ a.1 d
  .exact i (e:=Q) c.1 (m (e:=Q) c.2 b) _ _ a d
 |G h p i m=>
  intro e g c b k f a d;cases e;.exact i (e:=M) (λj=>c<|.inl j) (m (e:=M) (λj=>c<|.inr j) b) _ _ a d
  .cases f
   .exact b _ _ a d
   .exact b _ _ a d
   .exact b _ _ a d
   .have a:=(ez _ _).mp a;exact c.elim (λc=>i (e:=Q) c b _ _ a.1 d) λc=>m (e:=Q) c b _ _ a.2 d
 |D h i=>
  intro e g c b;cases e;.exact i (e:=Q) (Ô.1 c) b
  .exact i (e:=M) c b
 |a=>
  intro e g c b k f a d;cases e;.exact b k f a d
  .exact c
def Xv{a:R U}{e:d9}:∀{f:R d9},((∀b,s8 a b->s8 a (qq f b))->e.L a)->N a e f:=by
 intro g
 induction g with
 |nil=>
  exact @λc=>c λm d=>d
 |cons h l i=>
  exact @λc=>λj=>i λk=>c λb d=>Fj h (e:=Q) j<|k b d
def aI{e:R U}{c:d9}{d:R d9}(a:j4)(f:qq d (c.J M wV) [] a=Q):N e c d:=
 Xv λg=>XZ λh=>g _ (Fj c (e:=M) h λd a b=>by
  cases a;.exact wR b
  .exact wR b
  .exact wR b
  .cases b) [] a f ds
def a5{d:R U}{a:d9}{b:R d9}(c:U)(e:qq b (a.J M wV) [] (.A c)=Q):N d a b:=aI (.A c) e
def aj{c:R U}{a:d9}{b:R d9}(d:qq b (a.J M wV) [] .D=Q):N c a b:=aI .D d
@[reducible] noncomputable def d9.E(c a b:df):d9:=.G (.F (.A b a)<|.C (.C c b) a)<|.F (.A a b)<|.C c<|.B 0
@[reducible] noncomputable def d9.I(c a b:df):d9:=.G (.F (.A a b)<|.C c a)<|.F (.A b a)<|.C c b
@[reducible] noncomputable def d9.H(c a b:df):d9:=.G (.F (.A a b)<|.C c b)<|.F (.A b a)<|.C c a
@[reducible] noncomputable def d9.K(a b:df):d9:=.F (.A (.A 2 a) b)<|.A b<|.C (.A 2 a)<|.B 1
def a4(a b:U):(b<=a/\a-b+b=a)\/(a<=b/\a-b=0):=(FW b a).imp (λc=>⟨c,F4 c⟩) λc=>⟨c,Nat.sub_eq_zero_of_le c⟩
def fH(a b:U):(a<=b/\b3 a b=a)\/(b<=a/\b3 a b=b):=(FW a b).imp (λc=>⟨c,xg c⟩) λc=>⟨c,F1 c⟩
def fr(a b:U):(a<=b/\bI a b=b)\/(b<=a/\bI a b=a):=(FW a b).imp (λc=>⟨c,Nat.max_eq_right c⟩) λc=>⟨c,YY c⟩
def hO(a:U):2*(a/2)<=a/\a<=2*(a/2)+1:=⟨Nat.mul_div_le a 2,xf<|@Nat.lt_mul_div_succ 2 a<|aX Z⟩
@[reducible] noncomputable def X:df:=.D 0
@[reducible] noncomputable def S:df:=.D 1
@[reducible] noncomputable def O:df:=.D 2
@[reducible] noncomputable def ag:df:=.D 3
@[reducible] noncomputable def aB:df:=.D 4
@[reducible] noncomputable def aM:df:=.D 5
@[reducible] noncomputable def bX:df:=.D 6
@[reducible] noncomputable def en:df:=.D 7
@[reducible] noncomputable def ij:df:=.D 8
@[reducible] noncomputable def wY:df:=.D 9
@[reducible] noncomputable def wX:df:=.D 10
@[reducible] noncomputable def Î:df:=.D 11
@[reducible] noncomputable def Ï:df:=.D 12
@[reducible] noncomputable def Ð:df:=.D 13
@[reducible] noncomputable def Ñ:df:=.D 14
@[reducible] noncomputable def Ò:df:=.D 15
def wW{b a:U}: -(↑b:ah)+(↑(a+b):ah)=↑a:=by rw[X9,qx ↑a,w4]
def dq{a:U}:N [a] (.B X 1000000) [.A X 1000]:=aj Z
def hl{a:U}:N [a] (.B X 1000000) [.A X 900]:=aj Z
def hN{a b c:U}:N [a,b,c] (.B X S) [.A (X+(O+1)) S]:=aj Z
def Í{a b c:U}:N [a,b,c] (.D<|.F (.A X S)<|.B S<|X+9) [.A (X+9) O,.A O S]:=a5 1101 Z
def jH{a:U}:N [a] (.A X 16777216) [.A X 1000000]:=aj Z
def jI{a b c:U}:N [a,b,c,a-1] (.B ag S) [.A 1 X,.A (X+(O+1)) S]:=aI (d:=[.E ag X<|.B 1,.A (.B 1) X,.A (.C X<|.C O<|.B 1) S]) (.B (.A 1011)<|.A 1011) Z<|a4 _ _
def W4{a:U}:N [a] (.D<|.C (X+1) X) []:=a5 1 Z
def oq{a b:U}:N [a,b] (.D<|.C X S) [.B S X]:=a5 101 Z
def ot{a:U}:(↑(a+1):ah)-1=(↑a:ah):=X1 (↑a) 1
def E6{a:U}:N [a] (.A X<|X+3) []:=aj Z
def wu{a:U}:0<=(↑a:ah):=iU _
def qm{a b c:U}:N [a,b,c] (.A X S) [.B O S,.A X O]:=aj Z
def qn{a:U}:N [a] (.A 5<|X+5) [.A 1 X]:=aj Z
def wv{a b c:U}:N [a,b,c] (.D<|.C X S) [.B X O,.A O S]:=a5 1110 Z
def qo{a b c d:U}:N [a,b,c,d,(a+b)/2] (.B aB O) [.B ag O,.A S ag,.D<|.A S X]:=aI (d:=[.K aB<|.C X S,.B ag O,.A S ag,.D<|.A S X]) (.A 102212) Z<|hO _
def s1{a:U}:N [a] (.D<|.C (X+2) X) []:=a5 1 Z
def s2{a b:U}:N [a,b] (.D<|.C X S) [.B (S+2) X]:=a5 101 Z
def VJ{a:U}:N [a] (.A X<|X+2) []:=aj Z
def s3{a b c:U}:N [a,b,c] (.B X S) [.B X O,.A O S]:=aj Z
def s4{a b:U}:N [a,b] (.A (X+1+1+S)<|X+(2+S)) []:=aj Z
def ww{a b:U}:N [a,b] (.A X S) [.A X S]:=aj Z
def VT{a:U}:N [a] (.A X<|X+1) []:=aj Z
def V9{a:U}:N [a] (.B X 100000) [.B X 90000]:=aj Z
def s5{a:U}:N [a] (.B (X+2)<|X+3) []:=aj Z
def s6{a b:U}:N [a,b,(a+1)-(b+1),(a+1)-b] (.B O ag) [.B S X]:=aI (d:=[.E O (.C X<|.B 1)<|.C S<|.B 1,.E ag (.C X<|.B 1) S,.B S X]) (.B (.B (.A 101001)<|.A 10010)<|.A 10010) Z (a4 _ _)<|a4 _ _
def wx{a:U}:N [a] (.D<|.C (X+1) X) []:=a5 1 Z
def wy{a b:U}:N [a,b] (.C (X+(S+1))<|X+1+S) []:=aI (.B (.A 1)<|.A 1) Z
def wz{a b:U}:N [a,b] (.D<|.C X<|S+1) [.B (S+2) X]:=a5 101 Z
def wA{a b:U}:N [a,b] (.D<|.C X<|S+2) [.B (S+2) X]:=a5 101 Z
def ES{a b:U}(c:a<b):(↑a:ah)<(↑b:ah):=eo (n:=a) (m:=b)|>.mpr ((aj Z:N [a,b] (.B X S) [.B X S]) c)
def wB{a b c:U}:N [a,b,c] (.A (X+S)<|X+(S+O)) []:=aj Z
def wC{a b:U}:N [a,b] (.A X S) [.A (X+1) S]:=aj Z
def wD{a b c:U}:N [a,b,c] (.A X S) [.A (X+O) S]:=aj Z
def Wq{a b c d:U}:N [a,b,c,d] (.A (X+S)<|O+ag) [.A X O,.A S ag]:=aj Z
def WH{a:U}:N [a] (.D<|.C X<|X+1) []:=a5 10 Z
def wE{a:U}:N [a] (.D<|.C X 5) [.B X 5]:=a5 110 Z
def wF{a:U}:N [a] (.A X 1000) [.A X 900]:=aj Z
def W5{a b:U}:N [a,b] (.D<|.C X S) [.B X S]:=a5 110 Z
def wG{a:U}:N [a] (.D<|.C X 9) [.B X 9]:=a5 110 Z
def wH{a:U}(b:a<2):(↑a:ah)<2:=eo (n:=a) (m:=2)|>.mpr ((aj Z:N [a] (.B X 2) [.B X 2]) b)
def wI{a:U}(b:¬a<2):¬(↑a:ah)<2:=λc=>((aj Z:N [a] (.D<|.B X 2) [.D<|.B X 2]) b) (eo (n:=a) (m:=2)|>.mp (c))
def wJ:N [] (.A 1 2) []:=aj Z
def wK{a b c:U}:N [a,b,c] (.D<|.C X S) [.B X O,.C O S]:=a5 10110 Z
def wL{a b c:U}:N [a,b,c] (.A (X+1+S) O) [.A (X+(S+1)) O]:=aj Z
def wM{a:U}(b:0<=(↑a:ah)/\(↑a:ah)<=3):a<=3:=(a5 11 Z:N [a] (.A X 3) [.F (.A 0 X)<|.A X 3])<|⟨e5 (m:=0) (n:=a)|>.mp (b.1),e5 (m:=a) (n:=3)|>.mp (b.2)⟩
def wN{a b c:U}:N [a,b,c] (.B X S) [.C (X+(O+1)) S]:=a5 11 Z
def wO{a b:U}:N [a,b] (.C X S) [.A X S,.D<|.B X S]:=aI (.B (.A 11)<|.A 101) Z
def wP{a b c:U}:N [a,b,c] (.B X S) [.B X O,.B O S]:=aj Z
def wQ{a:U}:N [a,a-1] (.D<|.C S X) [.A 1 X]:=aI (d:=[.E S X<|.B 1,.A (.B 1) X]) (.B (.A 1010)<|.A 1110) Z<|a4 _ _
def W7{c a b:U}:N [c,a,b,a-b] (.C (X+S)<|X+ag+O) [.A O S]:=aI (d:=[.E ag S O,.A O S]) (.B (.B (.A 101)<|.A 1001)<|.B (.A 111)<|.A 10001) Z<|a4 _ _
def ET{a b:U}:N [a,b] (.C (X+S+3)<|X+3+S) []:=aI (.B (.A 1)<|.A 1) Z
def EU{a b:U}(c:0<a)(d:b=a):¬0<= -(↑a:ah):=Yb.2<|Ya<|eo.2 c
def EV{a b:U}:N [a,b] (.A X<|X+S) []:=aj Z
def EW{a b c:U}:N [a,b,c] (.D<|.C X S) [.B S O,.A O X]:=a5 1101 Z
def EX{a:U}:N [a] (.B (X+1) 1000000) [.A X 1000]:=aj Z
def EY{a:U}:N [a] (.B (X+2)<|X+4) []:=aj Z
def EZ{a b c:U}:N [a,b,c] (.A (X+S) 100000) [.A (X+(S+O)) 100000]:=aj Z
def E0{a b c:U}:N [a,b,c] (.A (X+S+O) 100000) [.A (X+(S+O)) 100000]:=aj Z
def E1{a:U}:N [a] (.B X 1000000) [.A X 100000]:=aj Z
def E2{a b:U}:N [a,b] (.A X 3000) [.A ((.A 10 S)+2+2+(X+2+0)+3) 3000]:=aj Z
def E3{a:U}:N [a,bI a 0,bI 0<|bI a 0] (.A X 10) [.A (O+1) 10]:=aI (d:=[.H S X<|.B 0,.H O (.B 0) S,.A (.C O<|.B 1)<|.B 10]) (.B (.A 10001)<|.B (.A 1001011)<|.A 1010001) Z (fr _ _)<|fr _ _
def E4{a b c d:U}:N [a,b,c,d] (.A (X+S) 100000) [.A (X+O) 100000,.A (S+ag) O]:=aj Z
def E5{a b c d:U}:N [a,b,c,d] (.A (X+S)<|X+O) [.A (S+ag) O]:=aj Z
def E7{a b c d:U}:N [a,b,c,d] (.B X S) [.B X O,.B ag S,.A O ag]:=aj Z
def E8{a b c d:U}:N [a,b,c,d] (.A (X+S+O) 100000) [.A (X+ag) 100000,.A (S+O) ag]:=aj Z
def E9{a b c d:U}:N [a,b,c,d] (.A (X+S+O)<|X+ag) [.A (S+O) ag]:=aj Z
def E'{a b c:U}:N [a,b,c] (.A X S) [.A O S,.A X O]:=aj Z
def Fa{a b c:U}:N [a,b,c] (.A (X+1+1)<|X+(2+S+O)) []:=aj Z
def Fb{a b:U}:N [a,b] (.B (X+S) 100000) [.A S 100,.A X 1001]:=aj Z
def Fc{a:U}:N [a] (.A X 1000) [.A X 3]:=aj Z
def Xg{a b c:U}:N [a,b,c] (.A X S) [.A X O,.A O S]:=aj Z
def UH{a b c:U}:N [a,b,c] (.D<|.F (.A X S)<|.B S<|X+O) [.B S X]:=a5 110 Z
def DV{a b:U}:(↑a:ah)+(↑b:ah)=(↑(a+b):ah):=Z
def DW{a:U}:N [a] (.A (1+X) 1000000) [.A X 3]:=aj Z
def DX{a:U}(b:1<a):1<(↑a:ah):=eo (n:=1) (m:=a)|>.mpr ((aj Z:N [a] (.B 1 X) [.B 1 X]) b)
def DY{a:U}(b:¬1<a):¬1<(↑a:ah):=λc=>((aj Z:N [a] (.D<|.B 1 X) [.D<|.B 1 X]) b) (eo (n:=1) (m:=a)|>.mp (c))
def DZ{a b c d:U}:N [a,b,c,d] (.A (X+S)<|.A 2<|O+ag) [.A X<|.A 2 O,.A S<|.A 2 ag]:=aj Z
def D0{a:U}:N [a] (.D<|.C X 7) [.B X 5]:=a5 110 Z
def D1{a:U}:N [a] (.D<|.C X 6) [.B X 5]:=a5 110 Z
def D2{a:U}(b:0<a):0<(↑a:ah):=eo (n:=0) (m:=a)|>.mpr ((aj Z:N [a] (.B 0 X) [.B 0 X]) b)
def D3{a b c d e:U}:N [a,b,c,d,e] (.A (X+(S+O)) ag) [.A (aB+2+O) ag,.A (X+S)<|aB+2]:=aj Z
def D4{a b c:U}:N [a,b,c] (.A (X+(2+S)) O) [.A (X+2+S) O]:=aj Z
def D5{a:U}:N [a] (.B (X+1) 1000000) [.A X 900]:=aj Z
def D6{a b:U}:N [a,b] (.A X 900) [.C X S,.A S 100]:=a5 111 Z
def D7{a b:U}:N [a,b] (.A (X+S) 100000) [.A (X+S) 100000]:=aj Z
def D8{a b:U}:N [a,b] (.D<|.C X<|S+1) [.C X S]:=a5 110 Z
def Vt{a:U}:N [a] (.D<|.C X<|X+6) []:=a5 10 Z
def D9{a b:U}:N [a,b] (.B X 1000000) [.B (X+(S+1)) 1000]:=aj Z
def D'{a b:U}:N [a,b] (.B (X+1+S) 1000) [.B (X+(S+1)) 1000]:=aj Z
def Ea{a b c:U}:N [a,b,c] (.A (X+S) 1000000) [.B (X+(S+O)) 100000]:=aj Z
def Eb{a b c:U}:N [a,b,c] (.B (X+S+O) 100000) [.B (X+(S+O)) 100000]:=aj Z
def Ec{a b:U}:N [a,b] (.A X<|X+4+S) []:=aj Z
def Ed{a b c:U}:N [a,b,c] (.A X<|S+4+O) [.A X O]:=aj Z
def Vw{a:U}:N [a] (.A 2 X) [.B X 4,.D<|.B X 2]:=a5 11 Z
def VE{a:U}:N [a] (.C X 3) [.B X 4,.D<|.B X 2,.D<|.C X 2]:=aI (.B (.A 11)<|.B (.A 11)<|.A 1001) Z
def VI{a b:U}:N [a,b] (.B X 90000) [.B S 80000,.A X S]:=aj Z
def Eg{a:U}:N [a] (.A (X+2)<|X+4+3) []:=aj Z
def Eh{a:U}:N [a] (.B X 80000) [.B X 70000]:=aj Z
def Ei{a b:U}:N [a,b] (.D<|.C (X+1) S) [.B (X+2) S]:=a5 110 Z
def Ej{a b:U}:N [a,b] (.D<|.C (X+2) S) [.B (X+2) S]:=a5 110 Z
def Ek{a:U}{b:ah}(c:b=(↑(a%2):ah)):(↑(a%2):ah)=1<->a%2=1:=iV (n:=1)
def El{a:U}(b:1<a)(c:a<4):1<(↑a:ah):=eo (n:=1) (m:=a)|>.mpr ((aj Z:N [a] (.B 1 X) [.B 1 X]) b)
def Em{a:U}(d:a<4)(b:¬1<a):¬1<(↑a:ah):=λc=>((aj Z:N [a] (.D<|.B 1 X) [.D<|.B 1 X]) b) (eo (n:=1) (m:=a)|>.mp (c))
def En{a b:U}:N [a,b] (.D<|.C (X+2) S) [.B (S+2) X]:=a5 101 Z
def Eo{a b:U}:N [a,b,a-b,(a-b)-2] (.C (ag+S+3)<|X+1) [.A (S+2) X]:=aI (d:=[.E O X S,.E ag O<|.B 2,.A (.C S<|.B 2) X]) (.B (.B (.B (.A 1001001)<|.A 100101)<|.B (.A 1010001)<|.A 111)<|.A 1001) Z (a4 _ _)<|a4 _ _
def Ep:N [] (.A 1 1) []:=aj Z
def Er{a b:U}:N [a,b] (.D<|.C 0 X) [.A 1 X,.C S X,.A X 2]:=a5 100010 Z
def Es{a b:U}:N [a,b] (.C X S) [.B X<|S+1,.D<|.B X S]:=aI (.B (.A 11)<|.A 101) Z
def Et{a:U}:N [a] (.B (X+1) 1000) [.A X 6]:=aj Z
def VK{a:U}(b:a≠0):(↑a:ah)≠0:=λc=>((aI (.B (.A 100)<|.A 101) Z:N [a] (.D<|.C X 0) [.D<|.C X 0]) b) (iV (m:=a) (n:=0)|>.mp (c))
def Eu{a b c d:U}:N [a,b,c,d] (.A (X+S) 1000000) [.A (O+ag) 1000000,.C X O,.C S ag]:=a5 101011 Z
def Ev{a b:U}:N [a,b] (.A X S) [.C X S]:=a5 11 Z
def Ew{a b:U}:N [a,b] (.A X S) [.D<|.A S X]:=aj Z
def Ex{a b:U}:N [a,b] (.B X S) [.D<|.A S X]:=aj Z
def Ey{a:U}:N [a] (.G (.C X 0)<|.G (.C X 1)<|.G (.C X 2)<|.C X 3) [.A X 3]:=aI (.B (.A 1)<|.B (.A 11)<|.B (.A 11)<|.B (.A 11)<|.A 10001) Z
def Ez{a b:U}:N [a,b] (.C (X+1+S)<|X+(S+1)) []:=aI (.B (.A 1)<|.A 1) Z
def EA{a b c:U}:N [a,b,c] (.C (X+1+S) O) [.C (X+(S+1)) O]:=aI (.B (.A 101)<|.A 11) Z
def EB{a b c d:U}:N [a,b,c,d] (.A X<|S+3) [.A (O+(.A 2 ag)) S,.A X<|O+(.A 2 ag)+3]:=aj Z
def EC{a:U}:N [a] (.B X 10000000) [.B (X+3) 10000000]:=aj Z
def ED{a b:U}:N [a,b,a-1] (.B O S) [.A 1 X,.B X S]:=aI (d:=[.E O X<|.B 1,.A (.B 1) X,.B X S]) (.B (.A 1011)<|.A 1011) Z<|a4 _ _
def EE{b a:U}:N [b,a,a-1] (.B X O) [.A 1 S,.B X S,.D<|.C X O]:=aI (d:=[.E O S<|.B 1,.A (.B 1) S,.B X S,.D<|.C X O]) (.B (.B (.A 11)<|.A 100110)<|.B (.A 11)<|.A 1000110) Z<|a4 _ _
def EF{a:U}:N [a,a-1] (.B S X) [.A 1 X]:=aI (d:=[.E S X<|.B 1,.A (.B 1) X]) (.B (.A 101)<|.A 111) Z<|a4 _ _
def EG{a b:U}:N [a,b] (.B X S) [.B X<|S+1,.D<|.C X S]:=aI (.B (.A 11)<|.A 110) Z
def EH{a:U}:N [a] (.A X<|X+0) []:=aj Z
def EI{a:U}:N [a,a-1] (.D<|.C X S) [.A 1 X]:=aI (d:=[.E S X<|.B 1,.A (.B 1) X]) (.B (.A 1001)<|.A 1101) Z<|a4 _ _
def EJ{a b:U}:N [a,b] (.A X<|X+(S+1)) []:=aj Z
def EK{a:U}:N [a] (.A 1<|X+1) [.A 1 X]:=aj Z
def EL{a b c:U}:N [a,b,c] (.A X<|S+(O+1)) [.A X<|S+1+O]:=aj Z
def VL:N [] (.D<|.B 0 0) []:=aj Z
def EM{a:U}:N [a] (.B 0 X) [.A 1 X]:=aj Z
def EN{a b:U}:N [a,b] (.B X S) [.B X S]:=aj Z
def EO{a b:U}:N [a,b,a-b,a-(a-b)] (.A O X) [.C ag S,.A S X]:=aI (d:=[.E O X S,.E ag X O,.C ag S,.A S X]) (.B (.A 10001)<|.A 10001) Z (a4 _ _)<|a4 _ _
def EP{a b c:U}:N [a,b,c,a-1] (.B ag S) [.B O X,.B X<|S+1]:=aI (d:=[.E ag X<|.B 1,.B O X,.B X<|.C S<|.B 1]) (.B (.A 1011)<|.A 1111) Z<|a4 _ _
def EQ{a b c d:U}:N [a,b,c,d] (.A X 16777216) [.A 2 X,.B X 64,.C X S,.C O X,.C ag X]:=a5 10000001 Z
def ER{a:U}:N [a] (.A X 16777216) [.A X 1000]:=aj Z
def VM{a:U}:(bI 0<|b3 1<|(↑a:ah)+1).toNat=1:=by rw[w3<|X5<|iU _];rfl
def VN{b a c:U}:N [b,a,c,b-a,c-a,b3 (b-a)<|c-a] (.A aM O) []:=aI (d:=[.E aB O S,.I aM ag aB,.E ag X S]) (.B (.B (.A 11011)<|.A 10011)<|.B (.A 11011)<|.A 10011) Z (a4 _ _) (fH _ _)<|a4 _ _
def VO{a b c:U}:N [a,b,c,b3 a b] (.A (ag+O) 1000000) [.A O 1,.A S 2000]:=aI (d:=[.I ag X S,.A O<|.B 1,.A S<|.B 2000]) (.B (.A 101111)<|.A 1111) Z<|fH _ _
def VP{a:U}:0<= -1+((↑a:ah)+1):=by rw[qx (↑a) 1,w4];exact iU _
def VQ{a:U}:(-1+((↑a:ah)+1)).toNat=a:=by rw[qx (↑a) 1,w4];rfl
def VR{a:U}:(bI 0<|b3 (-1+((↑a:ah)+1))<|(↑a:ah)+1).toNat=a:=by rw[qx (↑a) 1,w4,w3<|X5<|by decide,w2<|iU _];rfl
def VS{a:U}:¬(↑a:ah)<0:=qz.2<|iU _
def VU{a b:U}(c:a<=b):(bI 0<|b3 (↑a:ah) (↑b:ah)).toNat=a:=by rw[w3<|e5.2 c,w2<|iU _];rfl
def VV{a b:U}(c:0<a)(d:b=a): -(↑a:ah)<0:=Ya<|eo.2 c
def VW{a b c:U}(d:0<a)(e:c=a):(bI 0<|b3 (-(↑a:ah)+(↑(b+a):ah)) (↑(b+a):ah)).toNat=b:=by rw[wW,w3<|e5.2<|cU _ _,w2<|iU _];rfl
def VX{a c b:U}(d:b=a):0<= -(↑a:ah)+(↑(c+b):ah):=by subst d;rw[wW];exact iU _
def VY{a b c:U}(d:c=a):(-(↑a:ah)+(↑(b+c):ah)).toNat=b:=by subst d;rw[wW];rfl
def VZ{a b:U}:(↑(a+b):ah)-(↑b:ah)=(↑a:ah):=X1 (↑a)<|↑b
def V0{a c b:U}(e:(↑c:ah)-(↑b:ah)=(↑a:ah))(d:a+b<100000):a<1000000:=(aj Z:N [a,c,b] (.B X 1000000) [.B (X+O) 100000]) d
def V1{a c b:U}(e:(↑c:ah)-(↑a:ah)=(↑b:ah))(d:b+a<100000):1+a<=1000000:=(aj Z:N [a,c,b] (.A (1+X) 1000000) [.B (O+X) 100000]) d
def V2{a b:U}:(↑a:ah)<=(↑b:ah)<->a<=b:=e5
def V3{a b:U}:(↑a:ah)=(↑b:ah)<->a=b:=iV
def Ë{a:U}:0<=(↑a:ah)+1:=iU _
def Ì{a:U}:((↑a:ah)+1).toNat=a+1:=Z
def V4{a b c:U}(d:c+b<=a):(↑(a+1):ah)-(↑b:ah)=(↑(a+1-b):ah):=(Fz<|br (qF _ _)<|m8 d).symm
def V5{a:U}:1+(↑a:ah)=(↑(1+a):ah):=Z
def V6{a b c:U}:N [a,b,c,(a+1)-b] (.A ag<|X+1) [.A (O+S) X]:=aI (d:=[.E ag (.C X<|.B 1) S,.A (.C O S) X]) (.B (.A 101)<|.A 10010) Z<|a4 _ _
def V7{a b c:U}:N [a,b,c,(a+1)-b,((a+1)-b)-(c+1),a-b,(a-b)-c] (.C aB bX) [.A (O+S) X]:=aI (d:=[.E ag (.C X<|.B 1) S,.E aB ag<|.C O<|.B 1,.E aM X S,.E bX aM O,.A (.C O S) X]) (.B (.B (.B (.B (.B (.A 1001000100101)<|.A 100101001001)<|.B (.A 101)<|.A 100101010001)<|.B (.B (.A 100101)<|.A 100110000001)<|.B (.A 101)<|.A 100110000001)<|.B (.B (.B (.A 1010000100101)<|.A 100000001)<|.B (.A 101)<|.A 100000001)<|.B (.B (.A 100101)<|.A 100000001)<|.B (.A 101)<|.A 100000001)<|.A 1001) Z (a4 _ _) (a4 _ _) (a4 _ _)<|a4 _ _
def V8{a b c d:U}:N [a,b,c,d,a-b,(a-b)-c,b3 ((a-b)-c) d] (.A (1+bX) 1000000) [.A (O+S) X,.B X 100000]:=aI (d:=[.E aM aB O,.I bX aM ag,.E aB X S,.A (.C O S) X,.B X<|.B 100000]) (.B (.B (.B (.A 1001001011)<|.A 1001001001)<|.B (.A 1101001011)<|.A 1101001001)<|.B (.A 1001001)<|.A 1101001) Z (a4 _ _) (fH _ _)<|a4 _ _
def V'{a:U}:(↑a:ah)+1=(↑(a+1):ah):=Z
def Wa{a b:U}:N [a,b,b3 a b] (.B O 1000000) [.B S 100000,.A X S]:=aI (d:=[.I O X S,.B S<|.B 100000,.A X S]) (.B (.A 1111)<|.A 1101) Z<|fH _ _
def Wb{a:U}(b:a<=100):(↑a:ah).natAbs+2<=3000:=(aj Z:N [a] (.A (X+2) 3000) [.A X 100]) b
def Wc{a b c:U}:N [a,b,c,b-a] (.B X S) [.A (O+1) ag]:=aI (d:=[.E ag S X,.A (.C O<|.B 1) ag]) (.B (.A 111)<|.A 110) Z<|a4 _ _
def Wd{a b c:U}(d:c+b<=a):(↑a:ah)-(↑b:ah)=(↑(a-b):ah):=(Fz<|br (qF _ _) d).symm
def We{a b c:U}:N [a,b,c,a-b] (.A ag X) [.A (O+S) X]:=aI (d:=[.E ag X S,.A (.C O S) X]) (.B (.A 101)<|.A 101) Z<|a4 _ _
def Wf{a b:U}(c:b<=a):(↑a:ah)-(↑b:ah)=(↑(a-b):ah):=(Fz c).symm
def Wg{a b:U}:N [a,b,a-b] (.A O X) [.A S X]:=aI (d:=[.E O X S,.A S X]) (.B (.A 101)<|.A 101) Z<|a4 _ _
def Wh{a b:U}(c:a=b+0):¬(↑a:ah)<(↑b:ah)+(↑0:ah):=λd=>((a5 101 Z:N [a,b] (.D<|.B X<|S+0) [.C X<|S+0]) c) (eo (n:=a) (m:=(b+0))|>.mp (d))
def Wi{a b:U}(c:b=a+0):¬(↑a:ah)<(↑b:ah):=λd=>((a5 11 Z:N [a,b] (.D<|.B X S) [.C S<|X+0]) c) (eo (n:=a) (m:=b)|>.mp (d))
def Wj{a b:U}(c:¬a=b+0):(↑a:ah)<(↑b:ah)+(↑0:ah)\/(↑b:ah)<(↑a:ah):=by lia
def Wk{b c d:U}:b+c<=d<->¬(↑d:ah)<(↑b:ah)+(↑c:ah):=⟨λa=>qz.2<|e5.2 a,λa=>e5.1<|qz.1 a⟩
def Wl{a b c:U}(d:¬(↑c:ah)<(↑a:ah)+(↑b:ah)):a+b<=c:=e5.1<|qz.1 d
def Wm{a b c:U}:N [a,b,c,a-b,a-(a-b)] (.C aB S) [.A (O+S) X,.A X 2000]:=aI (d:=[.E ag X S,.E aB X ag,.A (.C O S) X,.A X<|.B 2000]) (.B (.B (.B (.A 1010001)<|.A 10001001)<|.B (.A 1100001)<|.A 1001)<|.B (.B (.A 1010101)<|.A 100001001)<|.B (.A 1100101)<|.A 1001) Z (a4 _ _)<|a4 _ _
def Wn{b a:U}: -(↑(b+1):ah)=(↑a:ah)-(↑(a+(b+1)):ah):=by rw[X9 a,<-ta,Int.sub_self,Int.zero_sub]
def Wo{b c a:U}:(↑b:ah)-(↑(c+1+a):ah)=(↑b:ah)-(↑(c+(a+1)):ah):=by rw[hn,lG 1 a]
def Wp{a:U}:¬(↑(a+1):ah)=0:=λb=>((a5 1 Z:N [a] (.D<|.C (X+1) 0) [])) (iV (m:=(a+1)) (n:=0)|>.mp (b))
def Wr{a:U}(b:0<a)(c:a<1000000):0<(↑a:ah):=eo (n:=0) (m:=a)|>.mpr ((aj Z:N [a] (.B 0 X) [.B 0 X]) b)
def Ws{b:U}{a:ah}(e:0<b)(c:0<=a)(d:a<(↑b:ah))(f:b<1000000):a=(↑a.toNat:ah)/\a.toNat<b:=⟨(tc c).symm,(tb c).2 d⟩
def Wt{a:U}(c:0<a)(b:a<1000000):(↑a:ah)<1000000:=eo (n:=a) (m:=1000000)|>.mpr ((aj Z:N [a] (.B X 1000000) [.B X 1000000]) b)
def Wu{a:U}(b:0<a)(c:a<1000000):0<=(↑a:ah):=e5 (m:=0) (n:=a)|>.mpr ((aj Z:N [a] (.A 0 X) []))
def Wv{c d b a:U}(e:c<=a)(f:d<=b*(a+2)):c+2+d<=b*(a+2)+(a+2):=(aj Z:N [c,d,b,a,b*(a+2)] (.A (X+2+S)<|aB+(ag+2)) [.A X ag,.A S aB]) e f
def Ww{a b c:U}:N [a,b,c,bI a b] (.A ag<|.A 3 O) [.A S<|.A 3 O,.A X<|.A 3 O]:=aI (d:=[.H ag X S,.A S<|.A 3 O,.A X<|.A 3 O]) (.B (.A 1101)<|.A 1011) Z<|fr _ _
def Wx{c d b a:U}(g:(b+1)*(a+25)=b*(a+25)+(a+25))(e:c<=a)(f:d<=b*(a+25)):10*1+2+2+(c+2+0)+3+2+d<=b*(a+25)+(a+25):=(aj Z:N [c,d,b,a,(b+1)*(a+25),b*(a+25)] (.A ((.A 10 1)+2+2+(X+2+0)+3+2+S)<|aM+(ag+25)) [.A X ag,.A S aM]) e f
def Wy{a b c:U}:N [a,b,c,bI a 0,bI 0<|bI a 0,bI ((bI 0<|bI a 0)+1) b] (.A aM<|(.A 3 O)+1) [.A X<|.A 3 O,.A S<|(.A 3 O)+1]:=aI (d:=[.H aM (.C aB<|.B 1) S,.H aB (.B 0) ag,.H ag X<|.B 0,.A X<|.A 3 O,.A S<|.C (.A 3 O)<|.B 1]) (.B (.A 1011)<|.B (.B (.A 1001001001)<|.A 1001001101)<|.A 1001001) Z (fr _ _) (fr _ _)<|fr _ _
def Wz{a b:U}(c:4<=b)(d:a<3):(↑a:ah).natAbs+2<=b:=(aj Z:N [a,b] (.A (X+2) S) [.A 4 S,.B X 3]) c d
def WA{a:U}(b:a<1000):0<=(↑a:ah):=e5 (m:=0) (n:=a)|>.mpr ((aj Z:N [a] (.A 0 X) []))
def WB{a:U}(b:a<1000):(↑a:ah)<100000:=eo (n:=a) (m:=100000)|>.mpr ((aj Z:N [a] (.B X 100000) [.B X 1000]) b)
def WC{a b:U}:N [a,b,bI a 0,bI 0<|bI a 0] (.A (ag+1)<|.A 3<|S+1) [.A X 2]:=aI (d:=[.H ag (.B 0) O,.H O X<|.B 0,.A X<|.B 2]) (.B (.B (.A 100101)<|.A 100111)<|.A 101) Z (fr _ _)<|fr _ _
def WD{a:U}:0<(↑(a+1):ah):=eo (n:=0) (m:=(a+1))|>.mpr ((aj Z:N [a] (.B 0<|X+1) []))
def WE{a:U}(b:a<2)(c:a<6):(↑a:ah)<2:=eo (n:=a) (m:=2)|>.mpr ((aj Z:N [a] (.B X 2) [.B X 2]) b)
def WF{a:U}(d:a<6)(b:¬a<2):¬(↑a:ah)<2:=λc=>((aj Z:N [a] (.D<|.B X 2) [.D<|.B X 2]) b) (eo (n:=a) (m:=2)|>.mp (c))
def WG{c a b:U}:N [c,a,b,b3 a b] (.A X 3) [.B S 4,.C X ag]:=aI (d:=[.I ag S O,.B S<|.B 4,.C X ag]) (.B (.A 11011)<|.A 1011011) Z<|fH _ _
def WI{a:U}(b:a<4):0<=(↑a:ah)/\(↑a:ah)<=3:=⟨e5 (m:=0) (n:=a)|>.mpr ((aj Z:N [a] (.A 0 X) [])),e5 (m:=a) (n:=3)|>.mpr ((aj Z:N [a] (.A X 3) [.B X 4]) b)⟩
def WJ{a:U}(b:¬a=2)(d:¬a=3):(↑a:ah)≠2:=λc=>((aI (.B (.A 110)<|.A 101) Z:N [a] (.D<|.C X 2) [.D<|.C X 2]) b) (iV (m:=a) (n:=2)|>.mp (c))
def WK{a:U}(d:(↑a:ah)≠2)(b:¬a=3):(↑a:ah)≠3:=λc=>((aI (.B (.A 110)<|.A 101) Z:N [a] (.D<|.C X 3) [.D<|.C X 3]) b) (iV (m:=a) (n:=3)|>.mp (c))
def WL{a:U}(b:a<4):0<=(↑a:ah):=e5 (m:=0) (n:=a)|>.mpr ((aj Z:N [a] (.A 0 X) []))
def WM{a b:ah}(c:0<=a)(d:0<=b):0<=a*911+3*b:=Int.add_nonneg (X7 c<|by decide)<|X7 (by decide) d
def WN{a b:ah}(c:0<=a)(d:¬0<=b):0<=a*911+(1-3*b):=by lia
def WO{a b:U}{c d e:ah}(f:e=d-(↑a:ah))(g:c=e-(↑b:ah)):c=d-(↑(a+b):ah):=by rw[g,f,ta];rfl
def WP{d e a b c:U}:N [d,e,a,b,c,b-(a+c)] (.A (X+(2+0)+(.A 2<|S+(O+0)+aM)) 50) [.A (X+2+(.A 2<|S+3)) 50,.B aB 2,.A ag 3,.A O ag]:=aI (d:=[.E aM ag<|.C O aB,.A (.C (.C X<|.B 2)<|.A 2<|.C S<|.B 3)<|.B 50,.B aB<|.B 2,.A ag<|.B 3,.A O ag]) (.B (.A 210201)<|.A 210221) Z<|a4 _ _
def WQ{d e a b c:U}:N [d,e,a,b,c,a-(b+c),a-b] (.A X<|(.A 71 S)+(.A 4 bX)) [.B aB 2,.A O 3,.A X<|(.A 71 S)+(.A 4 aM),.A ag O]:=aI (d:=[.E aM O<|.C ag aB,.E bX O ag,.B aB<|.B 2,.A O<|.B 3,.A X<|.C (.A 71 S)<|.A 4 aM,.A ag O]) (.B (.B (.A 404000101)<|.A 440000101)<|.A 400101) Z (a4 _ _)<|a4 _ _
def WR{a b:U}:N [a,b,b-a] (.A (X+O) 3) [.A S 3,.A X S]:=aI (d:=[.E O S X,.A S<|.B 3,.A X S]) (.B (.A 1101)<|.A 1111) Z<|a4 _ _
def WS{a b c:U}:N [a,b,c,a-(b+c),a-b] (.A (0+ag) aB) [.B O 2,.A S X]:=aI (d:=[.E ag X<|.C S O,.E aB X S,.B O<|.B 2,.A S X]) (.B (.B (.A 1010001)<|.A 1100001)<|.A 1001) Z (a4 _ _)<|a4 _ _
def WT{c d a b:U}:N [c,d,a,b,b3 a b] (.A (X+(0+1+0)+(.A 2<|S+(0+0+0)+aB)) 50) [.A (X+2+(.A 2<|S+3)) 50,.A ag 3,.A O ag]:=aI (d:=[.I aB O ag,.A (.C (.C X<|.B 2)<|.A 2<|.C S<|.B 3)<|.B 50,.A ag<|.B 3,.A O ag]) (.B (.A 21221)<|.A 21201) Z<|fH _ _
def WU{a:U}(b:¬a=4):(↑a:ah)≠4:=λc=>((aI (.B (.A 110)<|.A 101) Z:N [a] (.D<|.C X 4) [.D<|.C X 4]) b) (iV (m:=a) (n:=4)|>.mp (c))
def WV{a:U}(b:a=0):¬0<(↑a:ah):=λc=>((a5 11 Z:N [a] (.D<|.B 0 X) [.C X 0]) b) (eo (n:=0) (m:=a)|>.mp (c))
def WW{a:U}(b:¬a=1):(↑a:ah)≠1:=λc=>((aI (.B (.A 110)<|.A 101) Z:N [a] (.D<|.C X 1) [.D<|.C X 1]) b) (iV (m:=a) (n:=1)|>.mp (c))
def WX{a:U}(c:a<4)(b:¬a=0):0<(↑a:ah):=eo (n:=0) (m:=a)|>.mpr ((aI (.B (.A 10)<|.A 11) Z:N [a] (.B 0 X) [.D<|.C X 0]) b)
def WY{a:U}(b:¬a=6):(↑a:ah)≠6:=λc=>((aI (.B (.A 110)<|.A 101) Z:N [a] (.D<|.C X 6) [.D<|.C X 6]) b) (iV (m:=a) (n:=6)|>.mp (c))
def WZ{a:ah}(b:1<a):0<a-1:=Int.sub_pos_of_lt b
def W0{a:ah}(b:¬1<a):¬0<a-1:=mt Int.lt_of_sub_pos b
def W1{a:U}(b:¬0<a):¬0<(↑a:ah):=λc=>((aj Z:N [a] (.D<|.B 0 X) [.D<|.B 0 X]) b) (eo (n:=0) (m:=a)|>.mp (c))
def W2{a:U}{b c:ah}(d:b=c-1-(↑a:ah)):b=c-(↑(a+1):ah):=by rw[d,ta,qx];rfl
def W3{a:U}(b:a<=40):(↑a:ah).natAbs+2<=50:=(aj Z:N [a] (.A (X+2) 50) [.A X 40]) b
def W6{a b:U}(c:b<a):(↑a:ah)+14<=(↑b:ah)->(↑a:ah)+15<=(↑b:ah):=λd=>a2 ((e5 (m:=a+14) (n:=b)).1 d)<|Nat.not_le.2<|FY 14 c
def W8{c a b:U}:N [c,a,b,a-b] (.C (X+ag+O)<|X+S) [.A O S]:=aI (d:=[.E ag S O,.A O S]) (.B (.B (.A 1001)<|.A 101)<|.B (.A 10001)<|.A 111) Z<|a4 _ _
def W9{a b:U}:N [a,b,a-1] (.C X<|O+1) [.B S 90000,.B S X]:=aI (d:=[.E O X<|.B 1,.B S<|.B 90000,.B S X]) (.B (.B (.A 1001)<|.A 10001)<|.B (.A 1011)<|.A 100001) Z<|a4 _ _
def W'{c b a:U}:N [c,b,a,bI a 0,bI (b+1)<|bI a 0,bI c<|bI (b+1)<|bI a 0] (.B (aM+1) 100) [.A S 20,.A X 5,.A O 5]:=aI (d:=[.H aM X aB,.H aB (.C S<|.B 1) ag,.H ag O<|.B 0,.A S<|.B 20,.A X<|.B 5,.A O<|.B 5]) (.B (.B (.B (.A 1000010000)<|.A 10010010011)<|.A 10011001)<|.A 10101) Z (fr _ _) (fr _ _)<|fr _ _
def Xa{a:U}(b:a=0):(↑a:ah)=0:=iV (m:=a) (n:=0)|>.mpr ((aI (.B (.A 1)<|.A 11) Z:N [a] (.C X 0) [.C X 0]) b)
def Xb{a:U}(b:¬a=0):(↑a:ah)≠0:=λc=>((aI (.B (.A 100)<|.A 101) Z:N [a] (.D<|.C X 0) [.D<|.C X 0]) b) (iV (m:=a) (n:=0)|>.mp (c))
def Xc{a:U}(b:a<2)(c:a<4):(↑a:ah)<2:=eo (n:=a) (m:=2)|>.mpr ((aj Z:N [a] (.B X 2) [.B X 2]) b)
def Xd{a:U}(d:a<4)(b:¬a<2):¬(↑a:ah)<2:=λc=>((aj Z:N [a] (.D<|.B X 2) [.D<|.B X 2]) b) (eo (n:=a) (m:=2)|>.mp (c))
def Xe{a:U}:N [a,a-1] (.C (S+2)<|X+1) [.A 60 X]:=aI (d:=[.E S X<|.B 1,.A (.B 60) X]) (.B (.B (.A 1001)<|.A 101)<|.A 1001) Z<|a4 _ _
def Xf{a d c b:U}(f:2<=d->c=1)(g:b<2->c=1)(e:b<2/\a=1\/2<=b/\a=2):88-2*(a+1)+2*(a+1)+2=90:=(aI (.B (.B (.B (.A 100001)<|.A 10001)<|.B (.A 100001)<|.A 10001)<|.B (.A 100002)<|.A 100002) Z:N [a,d,c,b,88-(2*(a+1))] (.C (aB+(.A 2<|X+1)+2) 90) [.E aB 88<|.A 2<|X+1,.G (.F (.B ag 2)<|.C X 1)<|.F (.A 2 ag)<|.C X 2]) (a4 _ _) e
def Xh{a d c b:U}(f:2<=d->c=1)(g:b<2->c=1)(e:b<2/\a=1\/2<=b/\a=2):a+1+2<=89:=(aI (.B (.A 11)<|.A 11) Z:N [a,d,c,b] (.A (X+1+2) 89) [.G (.F (.B ag 2)<|.C X 1)<|.F (.A 2 ag)<|.C X 2]) e
def Xi{a d c b:U}(f:2<=d->c=1)(g:b<2->c=1)(e:b<2/\a=1\/2<=b/\a=2):a+1<=3:=(aI (.B (.A 11)<|.A 11) Z:N [a,d,c,b] (.A (X+1) 3) [.G (.F (.B ag 2)<|.C X 1)<|.F (.A 2 ag)<|.C X 2]) e
def Xj{a:U}:N [a,88-a] (.C (S+X+2) 90) [.A X 2]:=aI (d:=[.E S (.B 88) X,.A X<|.B 2]) (.B (.B (.A 1001)<|.A 101)<|.A 1001) Z<|a4 _ _
def Xk{a:ah}(b:0<=a):¬a<0:=qz.2 b
def Xl{b:U}{a d:ah}(c:0<=a)(f:d=a)(e:a.toNat<b):0<=a/\a<(↑b:ah):=⟨c,(tb c).1 e⟩
def Xm{a:U}{b c:ah}(d:0<=b+(↑a:ah))(e:b<0)(f:c=b+(↑a:ah)):0<=b+(↑a:ah)/\b+(↑a:ah)<(↑a:ah):=⟨d,Fy (Int.add_lt_add_right e _)<|Int.le_of_eq<|Int.zero_add _⟩
def Fd{a:U}{b:ah}(c:0<=b+(↑a:ah)): -(↑a:ah)<=b:=Int.le_of_sub_nonneg<|by rw[Int.sub_neg];exact c
def Xn{b a c:U}:N [b,a,c,b-a,c-a,b3 (b-a)<|c-a] (.A aM 1000000) [.A O 1000000]:=aI (d:=[.E aB O S,.I aM ag aB,.E ag X S,.A O<|.B 1000000]) (.B (.B (.A 110111)<|.A 100111)<|.B (.A 110101)<|.A 100101) Z (a4 _ _) (fH _ _)<|a4 _ _
def Xo{b:U}{a:ah}(c:1<=a/\a<=(↑b:ah)):a=(↑a.toNat:ah):=(tc<|qy (by decide) c.1).symm
def Xp{a b:U}(c:1<=(↑a:ah)/\(↑a:ah)<=(↑b:ah)):1<=a:=(a5 101 Z:N [a,b] (.A 1 X) [.F (.A 1 X)<|.A X S])<|⟨e5 (m:=1) (n:=a)|>.mp (c.1),e5 (m:=a) (n:=b)|>.mp (c.2)⟩
def Xq{a c b:U}(d:1<=(↑a:ah)/\(↑a:ah)<=(↑b:ah))(e:c=b):a<=c:=(a5 1101 Z:N [a,c,b] (.A X S) [.F (.A 1 X)<|.A X O,.C S O]) (⟨e5 (m:=1) (n:=a)|>.mp (d.1),e5 (m:=a) (n:=b)|>.mp (d.2)⟩) e
def Xr{a b c:U}(e:1<=(↑b:ah)/\(↑b:ah)<=(↑c:ah))(f:a=c)(d:a<=1000000):a-b<=1000000:=br (Nat.sub_le _ _) d
def Xs{a:ah}(b:0<a):a≠0:=X' b
def Xt{a:ah}(b:0<a/\a<1000000):a≠0:=X' b.1
def Xu{a:ah}(b:0<a/\a<1000000):a.natAbs<1073741824:=e6 (X8 (Int.le_of_lt b.1) b.2)<|by decide
def Up{a:ah}(b:0<=a):a=(↑a.toNat:ah):=(tc b).symm
def Uq{a:ah}(b:0<=a/\a<1000000):a.natAbs<10000000:=e6 (X8 b.1 b.2)<|by decide
def Ur{a:ah}(b:0<=a/\a<1000000):a.toNat<1000000:=(tb b.1).2 b.2
def Us{a:U}:N [a,a-1] (.A S 1000000) [.A X 1000000]:=aI (d:=[.E S X<|.B 1,.A X<|.B 1000000]) (.B (.A 111)<|.A 101) Z<|a4 _ _
def Ut{c d e a b f g:U}:N [c,d,e,a,b,f,g,b3 a b] (.A X 1000) [.C S 0,.C O en,.C aM bX,.C aM ag,.A aM 15,.A X<|S+O]:=aI (d:=[.I en ag aB,.C S<|.B 0,.C O en,.C aM bX,.C aM ag,.A aM<|.B 15,.A X<|.C S O]) (.B (.A 101010010111)<|.A 10101010010111) Z<|fH _ _
def Uu{a b:ah}(c:0<=a/\a<100000)(d:b=a):(↑a.toNat:ah)-(↑0:ah)=a:=(qA _).trans<|tc c.1
def Uv{a:ah}(b:0<=a/\a<100000):a.toNat<=1000000:=qG<|e6 ((tb b.1).2 b.2)<|by decide
def Uw{a:ah}(b:0<=a/\a<=3):a=(↑a.toNat:ah):=(tc b.1).symm
def Ux{a:U}(b:0<=(↑a:ah)/\(↑a:ah)<=3):b3 a 3<=1000000:=br (YZ _ _)<|by decide
def Uy{c a b d:U}:N [c,a,b,d,b3 a b,(b3 a b)-c] (.C X aB) [.C aM 0,.C ag X,.A X aB]:=aI (d:=[.I aB S O,.E aM aB X,.C aM<|.B 0,.C ag X,.A X aB]) (.B (.B (.B (.A 10010001)<|.A 11)<|.B (.A 100000001)<|.A 11)<|.B (.B (.A 10010001)<|.A 11)<|.B (.A 100000001)<|.A 11) Z (fH _ _)<|a4 _ _
def Uz{c a b d:U}:N [c,a,b,d,b3 a b] (.C X aB) [.C ag aB,.C X ag]:=aI (d:=[.I aB S O,.C ag aB,.C X ag]) (.B (.B (.A 10101)<|.A 1011)<|.B (.A 10101)<|.A 1011) Z<|fH _ _
def UA{c a b d e:U}:N [c,a,b,d,e,b3 a b,(b3 a b)-c] (.B X aM) [.C bX<|ag+1,.C aB X,.A X aM]:=aI (d:=[.E bX aM X,.I aM S O,.C bX<|.C ag<|.B 1,.C aB X,.A X aM]) (.B (.A 1100001)<|.A 1100000) Z (a4 _ _)<|fH _ _
def UB{c a b d e f:U}:N [c,a,b,d,e,f,b3 a b,(b3 a b)-c] (.B X S) [.C en<|ag+1,.B X bX,.C aB X,.C aM X]:=aI (d:=[.I bX S O,.E en bX X,.C en<|.C ag<|.B 1,.B X bX,.C aB X,.C aM X]) (.B (.A 100100001)<|.A 10100100001) Z (fH _ _)<|a4 _ _
def UC{c a b d e f:U}:N [c,a,b,d,e,f,b3 b a,(b3 b a)-c] (.B X S) [.C en<|ag+1,.B X bX,.C aB X,.C aM X]:=aI (d:=[.I bX O S,.E en bX X,.C en<|.C ag<|.B 1,.B X bX,.C aB X,.C aM X]) (.B (.A 10100100001)<|.A 100100001) Z (fH _ _)<|a4 _ _
def UD{a b c d e f:U}:N [a,b,c,d,e,f,b3 a b,(b3 a b)-c,(b3 a b)-(c+1)] (.C ij ag) [.C en<|ag+1,.B O bX,.C aB O,.C aM O]:=aI (d:=[.I bX X S,.E en bX O,.E ij bX<|.C O<|.B 1,.C en<|.C ag<|.B 1,.B O bX,.C aB O,.C aM O]) (.B (.B (.B (.B (.A 101010000001)<|.A 1000101000001)<|.B (.A 110010000001)<|.A 100000001)<|.A 1000010000)<|.B (.B (.B (.A 101010000001)<|.A 1000101000001)<|.B (.A 110010000001)<|.A 100000001)<|.A 1000010000) Z (fH _ _) (a4 _ _)<|a4 _ _
def UE{c a b d e:U}:N [c,a,b,d,e,b3 a b] (.A X 16777216) [.A aM 1000000,.B X aM,.C ag X,.C aB X]:=aI (d:=[.I aM S O,.A aM<|.B 1000000,.B X aM,.C ag X,.C aB X]) (.A 1100001) Z<|fH _ _
def UF{c a b d e:U}:N [c,a,b,d,e,b3 a b] (.A (X+1)<|16777216+1) [.A aM 1000000,.B X aM,.C ag X,.C aB X]:=aI (d:=[.I aM S O,.A aM<|.B 1000000,.B X aM,.C ag X,.C aB X]) (.A 1100001) Z<|fH _ _
def UG{a:ah}(b:a.natAbs+2<10000000):a.natAbs<10000000:=f3 (cU _ 2) b
def UI{a b c:U}:N [a,b,c,a-1,(a-1)-b,(a-1)-c] (.B aB aM) [.B O S,.B S X]:=aI (d:=[.E ag X<|.B 1,.E aM ag O,.E aB ag S,.B O S,.B S X]) (.B (.B (.B (.A 10001101)<|.A 10010001111)<|.A 10100110)<|.A 100110) Z (a4 _ _) (a4 _ _)<|a4 _ _
def UJ{a b c:U}:N [a,b,c,a-1,(a-1)-b] (.B aB X) [.B S O,.B O X]:=aI (d:=[.E aB ag S,.E ag X<|.B 1,.B S O,.B O X]) (.B (.B (.A 1001001)<|.A 100110)<|.A 1011) Z (a4 _ _)<|a4 _ _
def UK{a b:U}:N [a,b,b-a] (.A (X+O) S) [.A X S]:=aI (d:=[.E O S X,.A X S]) (.B (.A 101)<|.A 111) Z<|a4 _ _
def UL{a:U}:N [a,a-1] (.A (1+S) X) [.A 1 X]:=aI (d:=[.E S X<|.B 1,.A (.B 1) X]) (.B (.A 101)<|.A 111) Z<|a4 _ _
def UM{a:U}:N [a,a-1] (.D<|.C 0 S) [.B 1 X]:=aI (d:=[.E S X<|.B 1,.B (.B 1) X]) (.B (.A 10110)<|.A 100100) Z<|a4 _ _
def UN{a:U}:N [a,a-1] (.B 0 S) [.B 1 X]:=aI (d:=[.E S X<|.B 1,.B (.B 1) X]) (.B (.A 1011)<|.A 10010) Z<|a4 _ _
def UO{a:U}:N [a,a-1] (.B S X) [.B 1 X]:=aI (d:=[.E S X<|.B 1,.B (.B 1) X]) (.B (.A 101)<|.A 10010) Z<|a4 _ _
def UP{a:U}:N [a,a-(1+1)] (.A (1+1+S) X) [.A 1 X,.D<|.C 1 X]:=aI (d:=[.E S X<|.C (.B 1)<|.B 1,.A (.B 1) X,.D<|.C (.B 1) X]) (.B (.A 101)<|.B (.A 1011)<|.A 110) Z<|a4 _ _
def UQ{b a:U}:N [b,a,a-(1+1)] (.A X S) [.A 1 S,.A X<|1+1+O,.D<|.C 1 S]:=aI (d:=[.E O S<|.C (.B 1)<|.B 1,.A (.B 1) S,.A X<|.C (.C (.B 1)<|.B 1) O,.D<|.C (.B 1) S]) (.B (.A 1011)<|.B (.A 10111)<|.A 1010) Z<|a4 _ _
def UR{a b:U}:N [a,b,b-a] (.C X S) [.A O 0,.A X S]:=aI (d:=[.E O S X,.A O<|.B 0,.A X S]) (.B (.B (.A 10101)<|.A 11)<|.B (.A 100001)<|.A 11) Z<|a4 _ _
def US{c a b:U}:N [c,a,b,(a+b)/2] (.D<|.C X ag) [.A O X,.D<|.A O S]:=aI (d:=[.K ag<|.C S O,.A O X,.D<|.A O S]) (.A 102102) Z<|hO _
def UT{a b:U}:N [a,b,(a+b)/2] (.A X O) [.D<|.A S X]:=aI (d:=[.K O<|.C X S,.D<|.A S X]) (.A 112) Z<|hO _
def UU{a b c:U}:N [a,b,c,(a+b)/2] (.A ag O) [.A S O,.D<|.A S X]:=aI (d:=[.K ag<|.C X S,.A S O,.D<|.A S X]) (.A 10212) Z<|hO _
def UV{a b c:U}:N [a,b,c,b-a,(a+b)/2,((a+b)/2)-a] (.A aM O) [.A ag<|O+1,.D<|.A S X]:=aI (d:=[.K aB<|.C X S,.E ag S X,.E aM aB X,.A ag<|.C O<|.B 1,.D<|.A S X]) (.B (.B (.A 10010002102)<|.A 1001)<|.A 100010) Z (hO _) (a4 _ _)<|a4 _ _
def UW{a b c d e:U}:N [a,b,c,d,e,(a+b)/2] (.B aM O) [.A aM ag,.B aB O,.B ag aB]:=aI (d:=[.K aM<|.C X S,.A aM ag,.B aB O,.B ag aB]) (.A 1111) Z<|hO _
def UX{a b c:U}:N [a,b,c,(a+b)/2] (.B ag O) [.A ag O,.D<|.C O ag]:=aI (d:=[.K ag<|.C X S,.A ag O,.D<|.C O ag]) (.B (.A 110)<|.A 11) Z<|hO _
def UY{a b c:U}:N [a,b,c,(a+b)/2] (.D<|.C ag O) [.A S O,.D<|.A S X]:=aI (d:=[.K ag<|.C X S,.A S O,.D<|.A S X]) (.A 102120) Z<|hO _
def UZ{a b:U}:N [a,b,(a+b)/2] (.A (O+1) S) [.D<|.A S X]:=aI (d:=[.K O<|.C X S,.D<|.A S X]) (.A 1012) Z<|hO _
def U0{a b c:U}:N [a,b,c,a-b,(b+a)/2,a-(((b+a)/2)+1)] (.A aM O) [.A ag<|O+1,.D<|.A X S]:=aI (d:=[.K aB<|.C S X,.E ag X S,.E aM X<|.C aB<|.B 1,.A ag<|.C O<|.B 1,.D<|.A X S]) (.B (.B (.A 1010002101)<|.A 1001)<|.A 100010) Z (hO _) (a4 _ _)<|a4 _ _
def U1{c d a b e:U}:N [c,d,a,b,e,(a+b)/2] (.B X S) [.B X<|aM+1,.B aB S,.A ag aB,.D<|.A ag O]:=aI (d:=[.K aM<|.C O ag,.B X<|.C aM<|.B 1,.B aB S,.A ag aB,.D<|.A ag O]) (.A 1022212) Z<|hO _
def U2{c a b:U}:N [c,a,b,(a+b)/2] (.B X ag) [.B X<|ag+1,.D<|.C X ag]:=aI (d:=[.K ag<|.C S O,.B X<|.C ag<|.B 1,.D<|.C X ag]) (.B (.A 11)<|.A 110) Z<|hO _
def U3{a b c:U}:N [a,b,c,(a+b)/2] (.B ag O) [.A S O,.D<|.A S X]:=aI (d:=[.K ag<|.C X S,.A S O,.D<|.A S X]) (.A 10212) Z<|hO _
def U4{a b:U}:N [a,b,a-b,a-(a-b)] (.C ag S) [.A S X]:=aI (d:=[.E O X S,.E ag X O,.A S X]) (.B (.B (.B (.A 101001)<|.A 1000101)<|.B (.A 110001)<|.A 101)<|.B (.B (.A 101011)<|.A 10000101)<|.B (.A 110011)<|.A 101) Z (a4 _ _)<|a4 _ _
def U5{c b a d:U}:N [c,b,a,d,a-b,a-(a-b)] (.D<|.C X S) [.C aM S,.B ag X,.C ag S]:=aI (d:=[.E aB O S,.E aM O aB,.C aM S,.B ag X,.C ag S]) (.A 11001) Z (a4 _ _)<|a4 _ _
def U6{b c a d:U}:N [b,c,a,d,a-b,a-(a-b)] (.F (.B X S)<|.A S O) [.C aM X,.B ag S,.B S<|O+1,.C ag X]:=aI (d:=[.E aB O X,.E aM O aB,.C aM X,.B ag S,.B S<|.C O<|.B 1,.C ag X]) (.B (.B (.B (.A 10101)<|.A 1001)<|.B (.A 10101)<|.A 1001)<|.A 100001110) Z (a4 _ _)<|a4 _ _
def U7{b c a d:U}:N [b,c,a,d,a-b,a-(a-b),c-1] (.A X bX) [.C aM X,.B ag S,.C ag X]:=aI (d:=[.E bX S<|.B 1,.E aB O X,.E aM O aB,.C aM X,.B ag S,.C ag X]) (.B (.A 10001101)<|.A 100001101) Z (a4 _ _) (a4 _ _)<|a4 _ _
def U8{c a b d:U}:N [c,a,b,d,a-b,a-(a-b),c-1] (.B bX S) [.C aM O,.B ag X,.B X<|S+1,.C ag O]:=aI (d:=[.E bX X<|.B 1,.E aB S O,.E aM S aB,.C aM O,.B ag X,.B X<|.C S<|.B 1,.C ag O]) (.B (.A 10001001)<|.A 10011001) Z (a4 _ _) (a4 _ _)<|a4 _ _
def U9{b c a d:U}:N [b,c,a,d,a-b,a-(a-b)] (.D<|.F (.B X S)<|.A S O) [.C aM X,.B S ag,.C ag X]:=aI (d:=[.E aB O X,.E aM O aB,.C aM X,.B S ag,.C ag X]) (.A 10110) Z (a4 _ _)<|a4 _ _
def U'{c b a d:U}:N [c,b,a,d,a-b,a-(a-b)] (.B X S) [.C aM S,.B X ag,.C ag S]:=aI (d:=[.E aB O S,.E aM O aB,.C aM S,.B X ag,.C ag S]) (.A 1011) Z (a4 _ _)<|a4 _ _
def Va{b c a d:U}:N [b,c,a,d,a-b,a-(a-b)] (.F (.B X S)<|.A S O) [.C aM X,.B ag S,.B S<|O+1,.F (.B X ag)<|.A ag O]:=aI (d:=[.E aB O X,.E aM O aB,.C aM X,.B ag S,.B S<|.C O<|.B 1,.F (.B X ag)<|.A ag O]) (.B (.B (.B (.A 10101)<|.A 1001)<|.B (.A 10101)<|.A 1001)<|.A 100000011) Z (a4 _ _)<|a4 _ _
def Vb{c d a b:U}:N [c,d,a,b,a-b,a-(a-b),c-1,d-1] (.B bX en) [.C aM ag,.B X S,.F (.B ag X)<|.A X O]:=aI (d:=[.E en S<|.B 1,.E bX X<|.B 1,.E aM O aB,.E aB O ag,.C aM ag,.B X S,.F (.B ag X)<|.A X O]) (.B (.B (.A 10001001001)<|.A 10001001101)<|.A 100001100) Z (a4 _ _) (a4 _ _) (a4 _ _)<|a4 _ _
def Vc{d c a b:U}:N [d,c,a,b,a-b,a-(a-b),c-1] (.B X bX) [.C aM ag,.B X S,.B S<|O+1,.F (.B ag S)<|.A S O,.D<|.F (.B ag X)<|.A X O,.D<|.C X ag,.D<|.C S ag]:=aI (d:=[.E aB O ag,.E aM O aB,.E bX S<|.B 1,.C aM ag,.B X S,.B S<|.C O<|.B 1,.F (.B ag S)<|.A S O,.D<|.F (.B ag X)<|.A X O,.D<|.C X ag,.D<|.C S ag]) (.B (.B (.B (.B (.B (.A 10000010011)<|.A 110)<|.A 100110)<|.B (.B (.A 100000010010)<|.A 110)<|.A 100110)<|.B (.B (.B (.A 1100000000000010)<|.A 110)<|.A 100110)<|.B (.B (.A 100000010010)<|.A 110)<|.A 100110)<|.A 1000000110) Z (a4 _ _) (a4 _ _)<|a4 _ _
def Vd{c a b d:U}:N [c,a,b,d,a-b,a-(a-b)] (.B X S) [.C aM O,.B ag X,.B X<|S+1,.A O S,.D<|.F (.B O ag)<|.A ag S,.D<|.F (.B O X)<|.A X S,.D<|.C X O]:=aI (d:=[.E aB S O,.E aM S aB,.C aM O,.B ag X,.B X<|.C S<|.B 1,.A O S,.D<|.F (.B O ag)<|.A ag S,.D<|.F (.B O X)<|.A X S,.D<|.C X O]) (.B (.B (.B (.B (.B (.A 10011)<|.A 110)<|.A 10010)<|.A 11010)<|.B (.B (.A 110000100010)<|.A 10010)<|.A 11010)<|.B (.B (.B (.B (.A 10011)<|.A 110)<|.A 10010)<|.A 11010)<|.A 1100001100) Z (a4 _ _)<|a4 _ _
def Ve{a b c:U}:N [a,b,c,a-0] (.A ag X) [.C (X+(S+1)) O]:=aI (d:=[.E ag X<|.B 0,.C (.C X<|.C S<|.B 1) O]) (.B (.A 1001)<|.A 1001) Z<|a4 _ _
def Vf{a b:U}:N [a,b,b-a] (.C (X+O) S) [.B X S]:=aI (d:=[.E O S X,.B X S]) (.B (.B (.A 1001)<|.A 101)<|.A 1001) Z<|a4 _ _
def Vg{a b c:U}:N [a,b,c,bI a 0,bI 0<|bI a 0] (.A (aB+1)<|S+1) [.A O S,.A X O]:=aI (d:=[.H aB (.B 0) ag,.H ag X<|.B 0,.A O S,.A X O]) (.B (.B (.A 1001001)<|.A 1001111)<|.A 1001) Z (fr _ _)<|fr _ _
def Vh{a b c:U}:N [a,b,c,b-a] (.C X S) [.C ag 0,.C S O,.A X S]:=aI (d:=[.E ag S X,.C ag<|.B 0,.C S O,.A X S]) (.B (.B (.A 10010001)<|.A 11)<|.B (.A 100000001)<|.A 11) Z<|a4 _ _
def Vi{a b c d:U}:N [a,b,c,d,b-a] (.B X S) [.C aB<|O+1,.C S ag,.A X S]:=aI (d:=[.E aB S X,.C aB<|.C O<|.B 1,.C S ag,.A X S]) (.B (.A 1100001)<|.A 1100000) Z<|a4 _ _
def Vj{c a d b:U}:N [c,a,d,b,b3 a b] (.A X 1000) [.B S O,.C O ag,.A X<|0+aB,.A ag 1000]:=aI (d:=[.I aB S ag,.B S O,.C O ag,.A X<|.C (.B 0) aB,.A ag<|.B 1000]) (.B (.A 101000111)<|.A 100101000) Z<|fH _ _
def Vk{a b c d:U}:N [a,b,c,d,a-b,a-(b+1)] (.C aM O) [.C aB<|O+1,.B S X,.C X ag]:=aI (d:=[.E aB X S,.E aM X<|.C S<|.B 1,.C aB<|.C O<|.B 1,.B S X,.C X ag]) (.B (.B (.B (.A 1010100001)<|.A 10001010001)<|.B (.A 1100100001)<|.A 1000001)<|.A 10000100) Z (a4 _ _)<|a4 _ _
def Vl{a b:U}(c:(↑a:ah)<(↑b:ah)):a<b:=(aj Z:N [a,b] (.B X S) [.B X S]) (eo (n:=a) (m:=b)|>.mp (c))
def Vm{a b:U}:N [a,b,a-b] (.C O 0) [.A X S]:=aI (d:=[.E O X S,.A X S]) (.B (.B (.A 1)<|.A 111)<|.B (.A 1)<|.A 101) Z<|a4 _ _
def Vn{a b c:U}:N [a,b,c,a-b] (.A ag O) [.A S X,.A X<|O+S]:=aI (d:=[.E ag X S,.A S X,.A X<|.C O S]) (.B (.A 1011)<|.A 1001) Z<|a4 _ _
def Vo{a b c:U}:N [a,b,c,a-b,a-c,b-(a-c)] (.C (ag+aM) O) [.A O X,.A S X,.A X<|O+S]:=aI (d:=[.E aB X O,.E ag X S,.E aM S aB,.A O X,.A S X,.A X<|.C O S]) (.B (.B (.B (.B (.A 10100100001)<|.A 100010010001)<|.B (.A 10101000001)<|.A 10010011)<|.B (.B (.A 11000100001)<|.A 100010010101)<|.B (.A 11001000001)<|.A 10010001)<|.B (.B (.B (.A 10100101001)<|.A 1000010010001)<|.B (.A 10101001001)<|.A 10010011)<|.B (.B (.A 11000101001)<|.A 1000010010101)<|.B (.A 11001001001)<|.A 10010001) Z (a4 _ _) (a4 _ _)<|a4 _ _
def Vp{a c b:U}:N [a,c,b,a-b,a-c,b-(a-c),b-(b-(a-c))] (.A X<|S+bX) [.C (ag+aM) S,.A S X,.A X<|S+O]:=aI (d:=[.E bX O aM,.E aM O aB,.E aB X S,.E ag X O,.C (.C ag aM) S,.A S X,.A X<|.C S O]) (.B (.B (.B (.A 1000101000001)<|.A 10000001)<|.A 1000100011)<|.B (.B (.A 10000101000001)<|.A 10000001)<|.A 10000100011) Z (a4 _ _) (a4 _ _) (a4 _ _)<|a4 _ _
def Vq{a c b:U}:N [a,c,b,a-b,a-c,b-(a-c),b-(b-(a-c))] (.C X<|S+bX) [.C (ag+aM) S,.A S X,.A X<|S+O]:=aI (d:=[.E ag X O,.E aB X S,.E aM O aB,.E bX O aM,.C (.C ag aM) S,.A S X,.A X<|.C S O]) (.B (.B (.B (.B (.B (.A 100000000110001)<|.A 1000000001001001)<|.B (.A 100101)<|.A 1000000010001001)<|.B (.B (.A 100000000110001)<|.A 1000000001001001)<|.B (.A 100101)<|.A 1000000010001001)<|.B (.B (.B (.A 100000000110001)<|.A 10000000000001)<|.B (.A 100101)<|.A 10000000000001)<|.B (.B (.A 100000000110001)<|.A 10000000000001)<|.B (.A 100101)<|.A 10000000000001)<|.B (.B (.B (.B (.A 101000100001)<|.A 10000000001001001)<|.B (.A 100101)<|.A 10000000010001001)<|.B (.B (.A 110000100001)<|.A 10000000001001001)<|.B (.A 100101)<|.A 10000000010001001)<|.B (.B (.B (.A 101000100101)<|.A 10000000000001)<|.B (.A 100101)<|.A 10000000000001)<|.B (.B (.A 110000100101)<|.A 10000000000001)<|.B (.A 100101)<|.A 10000000000001) Z (a4 _ _) (a4 _ _) (a4 _ _)<|a4 _ _
def Vr{a b c d e f:U}:N [a,b,c,d,e,f,c-a,b-(c-a),b-(b-(c-a))] (.C (X+ij) O) [.C ag X,.C aB S,.C aM O,.F (.A X O)<|.A O<|X+S]:=aI (d:=[.E en S bX,.E bX O X,.E ij S en,.C ag X,.C aB S,.C aM O,.F (.A X O)<|.A O<|.C X S]) (.B (.B (.B (.B (.A 1010010000000001)<|.A 10001001000000001)<|.B (.A 1010100000000001)<|.A 1000000101)<|.B (.B (.A 100000000000001)<|.A 10001001000000101)<|.B (.A 100000000000001)<|.A 1000000101)<|.B (.B (.B (.A 1000010000000011)<|.A 100001001000000001)<|.B (.A 1000100000000011)<|.A 1000000101)<|.B (.B (.A 100000000000001)<|.A 100001001000000101)<|.B (.A 100000000000001)<|.A 1000000101) Z (a4 _ _) (a4 _ _)<|a4 _ _
def Vs{a:U}(b:¬63<(↑a:ah)):a<=63:=(aj Z:N [a] (.A X 63) [.D<|.B 63 X]) λc=>b (eo (n:=63) (m:=a)|>.mpr (c))
def Vu{b a:U}:N [b,a,bI a 0,bI b<|bI a 0,bI 0<|bI b<|bI a 0] (.A (aB+1) 20) [.A X 10,.A S 10]:=aI (d:=[.H aB (.B 0) ag,.H ag X O,.H O S<|.B 0,.A X<|.B 10,.A S<|.B 10]) (.B (.B (.B (.A 1001001001)<|.A 1001001011)<|.A 1001101)<|.A 1001) Z (fr _ _) (fr _ _)<|fr _ _
def Vv{a e b c d:U}:N [a,e,b,c,d,b3 c a,b3 d b] (.A (aM+S+bX) 1000000) [.A X 2000,.A S 1,.A O X]:=aI (d:=[.I aM ag X,.I bX aB O,.A X<|.B 2000,.A S<|.B 1,.A O X]) (.B (.B (.A 1011012111)<|.A 1010012111)<|.B (.A 11012111)<|.A 10012111) Z (fH _ _)<|fH _ _
def Vx{b a c:U}:N [b,a,c,b-a,c-a] (.C X O) [.D<|.B X S,.D<|.B O S,.C ag 0,.C aB 0]:=aI (d:=[.E ag X S,.E aB O S,.D<|.B X S,.D<|.B O S,.C ag<|.B 0,.C aB<|.B 0]) (.B (.B (.B (.A 101000011)<|.A 100000101001)<|.B (.A 1001000001)<|.A 100000101001)<|.B (.B (.A 101000011)<|.A 1000000100001)<|.B (.A 1001000001)<|.A 1000000100001) Z (a4 _ _)<|a4 _ _
def Ee{a b c d:U}:N [a,b,c,d,bI a c,bI b d] (.A aB aM) [.A X S,.A O ag]:=aI (d:=[.H aB X O,.H aM S ag,.A X S,.A O ag]) (.B (.B (.A 1010011)<|.A 1110011)<|.B (.A 1110101)<|.A 1010101) Z (fr _ _)<|fr _ _
def Vy{a b:U}:N [a,b,bI 0 a] (.A (O+1)<|.A 3<|S+1) [.A X<|.A 3 S]:=aI (d:=[.H O (.B 0) X,.A X<|.A 3 S]) (.B (.A 111)<|.A 101) Z<|fr _ _
def Vz{a b:U}:N [a,b,bI 0 a] (.A (O+1)<|.A 3<|S+1) [.A X<|(.A 3 S)+1]:=aI (d:=[.H O (.B 0) X,.A X<|.C (.A 3 S)<|.B 1]) (.B (.A 111)<|.A 101) Z<|fr _ _
def VA{b c a:U}:N [b,c,a,a-1] (.A (X+1) O) [.A X S,.C S ag,.B 0 O]:=aI (d:=[.E ag O<|.B 1,.A X S,.C S ag,.B (.B 0) O]) (.B (.A 110101)<|.A 110111) Z<|a4 _ _
def Ef{a b:U}:N [a,b,b-1,a-1] (.B ag S) [.A 1 S,.A X<|1+O]:=aI (d:=[.E ag X<|.B 1,.E O S<|.B 1,.A (.B 1) S,.A X<|.C (.B 1) O]) (.B (.B (.A 1001011)<|.A 1001111)<|.A 1101) Z (a4 _ _)<|a4 _ _
def VB{b a:U}:N [b,a,a-1] (.A X S) [.A 1 S,.A X<|1+O]:=aI (d:=[.E O S<|.B 1,.A (.B 1) S,.A X<|.C (.B 1) O]) (.B (.A 1011)<|.A 1111) Z<|a4 _ _
def VC{a:U}:N [a,a-1] (.B 1<|1+S) [.A 1 X,.D<|.C 1 X]:=aI (d:=[.E S X<|.B 1,.A (.B 1) X,.D<|.C (.B 1) X]) (.B (.B (.A 10011)<|.A 110)<|.B (.A 100010)<|.A 110) Z<|a4 _ _
def VD{c a b:U}:N [c,a,b,b-a] (.A X O) [.A S O,.A X<|S+ag]:=aI (d:=[.E ag O S,.A S O,.A X<|.C S ag]) (.B (.A 1011)<|.A 1111) Z<|a4 _ _
def VF{a b c d e:U}:N [a,b,c,d,e,a-1] (.A ag S) [.G (.F (.C X 0)<|.C S 0)<|.F (.A 1 X)<|.C S<|X+(.A 2 aB),.G (.F (.C O 0)<|.C ag 0)<|.F (.A 1 O)<|.C ag<|O+(.A 2 aB),.C O aM]:=aI (d:=[.E aM X<|.B 1,.G (.F (.C X<|.B 0)<|.C S<|.B 0)<|.F (.A (.B 1) X)<|.C S<|.C X<|.A 2 aB,.G (.F (.C O<|.B 0)<|.C ag<|.B 0)<|.F (.A (.B 1) O)<|.C ag<|.C O<|.A 2 aB,.C O aM]) (.B (.B (.A 1000100000)<|.B (.A 1001)<|.A 1010001011)<|.B (.B (.A 1001)<|.A 10000100010)<|.B (.A 1001)<|.A 1000100010) Z<|a4 _ _
def VG{a b d c e f g h i:U}:N [a,b,d,c,e,f,g,h,i,a-1,b-c] (.A (ag+1+bX)<|en+1) [.A 1 X,.C S wY,.C O wX,.G (.F (.C O 0)<|.C aB 0)<|.F (.A 1 O)<|.C aB<|O+(.A 2 ij),.G (.F (.C S 0)<|.C aM 0)<|.F (.A 1 S)<|.C aM<|S+(.A 2 ij),.G (.F (.C O 0)<|.C bX 0)<|.F (.A 1 O)<|.C bX<|O+(.A 2<|ij+1),.G (.F (.C X 0)<|.C en 0)<|.F (.A 1 X)<|.C en<|X+(.A 2<|ij+1),.A (ag+aB)<|aM+3]:=aI (d:=[.E wY X<|.B 1,.E wX S ag,.A (.B 1) X,.C S wY,.C O wX,.G (.F (.C O<|.B 0)<|.C aB<|.B 0)<|.F (.A (.B 1) O)<|.C aB<|.C O<|.A 2 ij,.G (.F (.C S<|.B 0)<|.C aM<|.B 0)<|.F (.A (.B 1) S)<|.C aM<|.C S<|.A 2 ij,.G (.F (.C O<|.B 0)<|.C bX<|.B 0)<|.F (.A (.B 1) O)<|.C bX<|.C O<|.A 2<|.C ij<|.B 1,.G (.F (.C X<|.B 0)<|.C en<|.B 0)<|.F (.A (.B 1) X)<|.C en<|.C X<|.A 2<|.C ij<|.B 1,.A (.C ag aB)<|.C aM<|.B 3]) (.B (.B (.B (.B (.B (.A 1000000000000100000101)<|.A 100000010000)<|.B (.B (.A 1000000000000000010000)<|.A 1100001000000000000101001)<|.A 10000010000)<|.B (.A 100001100010000)<|.B (.A 100000010000)<|.B (.A 10000000000000010000)<|.A 10010010100000000101001)<|.B (.B (.B (.B (.A 10000000000000000010000)<|.A 1000111011)<|.A 100000010000)<|.B (.B (.A 1000000000000000010000)<|.A 1000001000000001000101011)<|.A 10000010000)<|.A 10000110000)<|.B (.B (.B (.B (.A 1000000000000100000101)<|.A 100000010000)<|.A 100000100000010000)<|.A 10010010110000)<|.B (.B (.B (.B (.A 10000000000000000010000)<|.A 1000111011)<|.A 100000010000)<|.A 100000100000010000)<|.A 10000110000) Z (a4 _ _)<|a4 _ _
def VH{a b c d e:U}:N [a,b,c,d,e,a-1] (.A (O+4)<|ag+1) [.A 1 X,.C S aM,.G (.F (.C S 0)<|.C O 0)<|.F (.A 1 S)<|.C O<|S+(.A 2 aB),.G (.F (.C X 0)<|.C ag 0)<|.F (.A 1 X)<|.C ag<|X+(.A 2<|aB+1)]:=aI (d:=[.E aM X<|.B 1,.A (.B 1) X,.C S aM,.G (.F (.C S<|.B 0)<|.C O<|.B 0)<|.F (.A (.B 1) S)<|.C O<|.C S<|.A 2 aB,.G (.F (.C X<|.B 0)<|.C ag<|.B 0)<|.F (.A (.B 1) X)<|.C ag<|.C X<|.A 2<|.C aB<|.B 1]) (.B (.B (.B (.A 100000001000)<|.A 11101)<|.B (.A 10000001000)<|.A 10010010101)<|.B (.B (.A 100000001000)<|.A 11101)<|.A 10011000) Z<|a4 _ _
end
end M
end
section
set_option compiler.extract_closed false
open Lean Parser in
local macro_rules (kind:=Lean.Parser.Term.arrow)
 |s=>λ_ t=>.ok ((s.setKind ``Term.depArrow).setArg 0<|.node .none ``Term.explicitBinder #[.missing,.node .none `null #[mkIdent `x_],M.Ê `null .missing s[0],.node .none `null #[],.missing]) t
set_option genSizeOf false
set_option genInjectivity false
set_option genCtorIdx false
set_option tactic.hygienic false
set_option compiler.extract_closed false
open Lean Parser Tactic in
local macro_rules (kind:=Lean.Parser.Tactic.rwSeq)
 |s=>λ_ t=>
  let r:=s[2][1].getArgs
  if s[3].isNone&& !r.isEmpty then
   let q k r:=(s.setKind k).setArg 2<|s[2].setArg 1<|.node .none `null r
   .ok (M.Ê `null (M.Ê ``first .missing (.node .none `null #[M.Ê `null .missing (M.Ê ``withReducibleAndInstances .missing (M.Ê ``refine .missing<|M.Ê ``Term.app (mkIdent<|if r[0]![0].isNone then `M.p2 else `M.RF) (M.Ê `null (M.Ê ``Term.app r[0]![1] (.node .none `null #[M.Ê ``Term.ellipsis .missing .missing])) (M.Ê ``Term.syntheticHole .missing (M.Ê ``Term.hole .missing .missing))))),M.Ê `null .missing (q ``rewriteSeq #[r[0]!])])) (q s.getKind<|r.extract 2)) t
  else .error .unsupportedSyntax t
open Lean Parser Tactic in
local macro_rules (kind:=Lean.Parser.Tactic.show)
 |s=>λ_ t=>.ok (M.Ê ``refine .missing<|.node .none ``Term.typeAscription #[.missing,M.Ê ``Term.syntheticHole .missing (M.Ê ``Term.hole .missing .missing),.missing,.node .none `null #[s[1]],.missing]) t
open Lean Parser in
local macro_rules (kind:=«term_∧_»)
 |s=>λ_ t=>.ok (M.Ê ``Term.app (mkIdent `M.a6) (M.Ê `null s[0] s[2])) t
namespace M
open PySem
section
set_option genSizeOfSpec false
noncomputable section
set_option genCtorIdx true
set_option genInjectivity true in
set_option genCtorIdx false in
inductive an where
 |A (b:aC)
 |C (a:U)
 |D (a:U)
 |B (a:U)
gen_injective_theorems%an
deriving instance DecidableEq for an
def hI(b:aC):Bool:=aN (b.toList.length<1000)&&match b.toList with
 |a::c::_=> !(a=='n'&&c.isDigit)&& !(a=='%')
 |[a]=> !a.isDigit
 |[]=>Q
def dc:an->aE
 |.A b=>hI b
 |.C a|.D a|.B a=>aN<|a<1000000
def bG:an->aE
 |.C _=>Q
 |_=>M
inductive cO where
 |I|J|D|A|H|G|L|B|F|E|K|C
deriving DecidableEq
structure aq where
 a:U
deriving DecidableEq
abbrev aq.L_:aq:=⟨0⟩
abbrev aq.p_:aq:=⟨1⟩
abbrev aq.c_:aq:=⟨2⟩
abbrev aq.aC_:aq:=⟨3⟩
abbrev aq.an_:aq:=⟨4⟩
abbrev aq.ak_:aq:=⟨5⟩
abbrev aq.H:aq:=⟨6⟩
abbrev aq.y_:aq:=⟨7⟩
abbrev aq.x_:aq:=⟨8⟩
abbrev aq.bo_:aq:=⟨9⟩
abbrev aq.aI_:aq:=⟨10⟩
abbrev aq.br_:aq:=⟨11⟩
abbrev aq.v_:aq:=⟨12⟩
abbrev aq.aa_:aq:=⟨13⟩
abbrev aq.r_:aq:=⟨14⟩
abbrev aq.G_:aq:=⟨15⟩
abbrev aq.aJ_:aq:=⟨16⟩
abbrev aq.bh_:aq:=⟨17⟩
abbrev aq.g_:aq:=⟨18⟩
abbrev aq.f_:aq:=⟨19⟩
abbrev aq.z_:aq:=⟨20⟩
abbrev aq.aD_:aq:=⟨21⟩
abbrev aq.ax_:aq:=⟨22⟩
abbrev aq.as_:aq:=⟨23⟩
abbrev aq.H_:aq:=⟨24⟩
abbrev aq.F_:aq:=⟨25⟩
abbrev aq.D_:aq:=⟨26⟩
abbrev aq.u_:aq:=⟨27⟩
abbrev aq.G:aq:=⟨28⟩
abbrev aq.bg_:aq:=⟨29⟩
abbrev aq.bb_:aq:=⟨30⟩
abbrev aq.ah_:aq:=⟨31⟩
abbrev aq.bn_:aq:=⟨32⟩
abbrev aq.at_:aq:=⟨33⟩
abbrev aq.bm_:aq:=⟨34⟩
abbrev aq.ao_:aq:=⟨35⟩
abbrev aq.av_:aq:=⟨36⟩
abbrev aq.aH_:aq:=⟨37⟩
abbrev aq.aF_:aq:=⟨38⟩
abbrev aq.ar_:aq:=⟨39⟩
abbrev aq.am_:aq:=⟨40⟩
abbrev aq.bj_:aq:=⟨41⟩
abbrev aq.bd_:aq:=⟨42⟩
abbrev aq.bs_:aq:=⟨43⟩
abbrev aq.ba_:aq:=⟨44⟩
abbrev aq.bk_:aq:=⟨45⟩
abbrev aq.bl_:aq:=⟨46⟩
abbrev aq.bu_:aq:=⟨47⟩
abbrev aq.bt_:aq:=⟨48⟩
abbrev aq.i_:aq:=⟨49⟩
abbrev aq.B:aq:=⟨50⟩
abbrev aq.A_:aq:=⟨51⟩
abbrev aq.I:aq:=⟨52⟩
abbrev aq.E:aq:=⟨53⟩
abbrev aq.D:aq:=⟨54⟩
abbrev aq.J_:aq:=⟨55⟩
abbrev aq.j_:aq:=⟨56⟩
abbrev aq.C:aq:=⟨57⟩
abbrev aq.C_:aq:=⟨58⟩
abbrev aq.I_:aq:=⟨59⟩
abbrev aq.K:aq:=⟨60⟩
abbrev aq.l_:aq:=⟨61⟩
abbrev aq.s_:aq:=⟨62⟩
abbrev aq.e_:aq:=⟨63⟩
abbrev aq.F:aq:=⟨64⟩
abbrev aq.b_:aq:=⟨65⟩
abbrev aq.d_:aq:=⟨66⟩
abbrev aq.m_:aq:=⟨67⟩
abbrev aq.o_:aq:=⟨68⟩
abbrev aq.t_:aq:=⟨69⟩
abbrev aq.B_:aq:=⟨70⟩
abbrev aq.ay_:aq:=⟨71⟩
abbrev aq.K_:aq:=⟨72⟩
abbrev aq.h_:aq:=⟨73⟩
abbrev aq.L:aq:=⟨74⟩
abbrev aq.af_:aq:=⟨75⟩
abbrev aq.n_:aq:=⟨76⟩
abbrev aq.k_:aq:=⟨77⟩
abbrev aq.a_:aq:=⟨78⟩
abbrev aq.aj_:aq:=⟨79⟩
abbrev aq.al_:aq:=⟨80⟩
abbrev aq.aL_:aq:=⟨81⟩
abbrev aq.E_:aq:=⟨82⟩
abbrev aq.aw_:aq:=⟨83⟩
abbrev aq.ac_:aq:=⟨84⟩
abbrev aq.au_:aq:=⟨85⟩
abbrev aq.aq_:aq:=⟨86⟩
abbrev aq.w_:aq:=⟨87⟩
abbrev aq.ai_:aq:=⟨88⟩
abbrev aq.aE_:aq:=⟨89⟩
abbrev aq.J:aq:=⟨90⟩
abbrev aq.ag_:aq:=⟨91⟩
abbrev aq.aG_:aq:=⟨92⟩
abbrev aq.bi_:aq:=⟨93⟩
abbrev aq.q_:aq:=⟨94⟩
abbrev aq.aB_:aq:=⟨95⟩
abbrev aq.ap_:aq:=⟨96⟩
abbrev aq.ab_:aq:=⟨97⟩
abbrev aq.ad_:aq:=⟨98⟩
abbrev aq.be_:aq:=⟨99⟩
abbrev aq.A:aq:=⟨100⟩
abbrev aq.bf_:aq:=⟨101⟩
abbrev aq.bp_:aq:=⟨102⟩
abbrev aq.aA_:aq:=⟨103⟩
abbrev aq.ae_:aq:=⟨104⟩
abbrev aq.aK_:aq:=⟨105⟩
abbrev aq.bq_:aq:=⟨106⟩
abbrev aq.bc_:aq:=⟨107⟩
abbrev aq.az_:aq:=⟨108⟩
def vA{a:Type}(c:a)(d:R a)(b:U):a:=List.rec (motive:=λg=>U->a) (λg=>c) (λe g f b=>Nat.casesOn (motive:=λg=>a) b e f) d b
set_option genInjectivity true in
set_option genCtorIdx false in
inductive V where
 |C
 |G (d:aE)
 |A (a:ah)
 |E (e:an)
 |F (b:R V)
 |D (b:R V)
 |J (c:R (an×V))
 |L (f:cO) (g:R (aC×V))
 |B (a:U)
 |H (h:aq)
 |K (i:V)
 |I (c:R (an×V))
gen_injective_theorems%V
set_option genInjectivity true in
set_option genCtorIdx false in
inductive cn where
 |B
 |A (a:R V)
 |D (b:R (an×V))
 |C (c:cO) (d:R (aC×V))
gen_injective_theorems%cn
structure af where
 a:U
 b:U->cn
noncomputable instance:Inhabited af:=⟨⟨0,λa=>.B⟩⟩
def af.A(a:af)(c:U)(d:cn):af:=⟨a.a,λb=>if b=c then d else a.b b⟩
def af.B(a:af)(c:cn):af:=⟨a.a+1,λb=>if b=a.a then c else a.b b⟩
def af.E:af:=⟨0,λa=>.B⟩
abbrev aA:=U->aD V
def aA.A(b:aA)(c:U)(d:V):aA:=λa=>if a=c then Y d else b a
set_option genInjectivity true in
set_option genCtorIdx false in
inductive fO where
 |A (a:U)
 |B (b:R U)
gen_injective_theorems%fO
deriving instance DecidableEq for fO
set_option genCtorIdx false in
mutual
inductive bk where
 |H|i (z:aE)|B (f_:ah)|J (h_:aC)
 |A (i_:U)
 |o (c_:aq)
 |m (j_:gh)
 |D (x:bk) (c_:aC)
 |F (x f_:bk)
 |e (x k_ l_:bk)
 |q (b_:aE) (x:bk)
 |K (g_:gh) (a_ z:bk)
 |g (a_:bk)
 |k (a_:bk)
 |f (y:bQ)
 |j (y:bQ)
 |C (g_:kA) (a_ z:bk)
 |t (e_ m_:kA) (a_ z d_:bk)
 |b (d_ a_ z:bk)
 |I (y:bQ)
 |a (b_:aE) (y:bQ)
 |r (b_:aE) (n_:R aC) (y:bQ)
 |d (b_:aE) (o_:bk) (p_:fO) (q_:jY) (r_:bQ)
 |G (c_:aq) (y:bQ)
 |c (d_:cO) (y:bQ)
 |E (e_:bk) (b_:aC) (y:bQ)
 |v (d_:cO) (y:bQ)
 |s (c_:bk) (y:bQ)
 |L (z:kC) (x:bk)
 |l (x:bk) (s_:qN)
 |h (e_:bk) (b_:gh) (y:bQ)
 |u (a_ z:bk)
 |p (x:bk)
 |n (x:bk)
 |w
inductive jY where
 |A (x:bk)|B (x:bk)|C (x:bk)|E (a_ z:bk)|D (x:bk)
inductive bQ where
 |B|A (x:bk) (y:bQ)
end
gen_injective_theorems%bk
gen_injective_theorems%jY
gen_injective_theorems%bQ
def Li{c:bk->Prop}(a:bk)(b:a.ctorIdx=0)(d:c .H):c a:=by revert b;cases a;exact λe=>d;all_goals exact λb=>a2 b<|el Z
def Lf{c:bk->Prop}(a:bk)(b:a.ctorIdx=22)(h:∀d a e f g,c<|.d d a e f g):c a:=by revert b;cases a<;>first|exact λb=>a2 b (el Z)|exact λi=>h _ _ _ _ _
set_option genCtorIdx false in
mutual
inductive g2 where
 |B (c:fO) (b:bk)
 |E (d:bk) (e:aC) (b:bk)
 |H (d h b:bk)
 |J (i:U) (b:bk)
 |A (b:bk)
 |C (f:bk) (c e:cu)
 |G (c:fO) (j:jY) (g:cu)
 |I (f:bk) (g:cu)
 |D (b:bk)
 |a|K|L|F
inductive cu where
 |B|A (k:g2) (l:cu)
end
gen_injective_theorems%g2
gen_injective_theorems%cu
def CK{c:g2->Prop}(a:g2)(b:a.ctorIdx=12)(d:c .F):c a:=by revert b;cases a<;>first|exact λb=>a2 b (el Z)|exact λe=>d
def sZ(a b:V):Bool:=@aN (a=b)<|qv _
def co(b:V):aD Int:=V.casesOn (motive_1:=λd=>aD ah) b ab (λa=>ab) Y (λa=>ab) (λa=>ab) (λa=>ab) (λa=>ab) (λa c=>ab) (λa=>ab) (λa=>ab) (λa=>ab) λa=>ab
def eO(b:V):aD<|R V:=V.casesOn (motive_1:=λd=>aD<|R V) b ab (λa=>ab) (λa=>ab) (λa=>ab) (λa=>ab) Y (λa=>ab) (λa c=>ab) (λa=>ab) (λa=>ab) (λa=>ab) λa=>ab
def g5(b:V):aD<|R V:=V.casesOn (motive_1:=λd=>aD<|R V) b ab (λa=>ab) (λa=>ab) (λa=>ab) Y (λa=>ab) (λa=>ab) (λa c=>ab) (λa=>ab) (λa=>ab) (λa=>ab) λa=>ab
def eh(b:V):aD an:=V.casesOn (motive_1:=λd=>aD an) b ab (λa=>ab) (λa=>ab) Y (λa=>ab) (λa=>ab) (λa=>ab) (λa c=>ab) (λa=>ab) (λa=>ab) (λa=>ab) λa=>ab
def hy(b:V):aD Bool:=V.casesOn (motive_1:=λd=>aD aE) b ab Y (λa=>ab) (λa=>ab) (λa=>ab) (λa=>ab) (λa=>ab) (λa c=>ab) (λa=>ab) (λa=>ab) (λa=>ab) λa=>ab
def h2(b:V):aD Unit:=V.casesOn (motive_1:=λd=>aD Unit) b (Y ()) (λa=>ab) (λa=>ab) (λa=>ab) (λa=>ab) (λa=>ab) (λa=>ab) (λa c=>ab) (λa=>ab) (λa=>ab) (λa=>ab) λa=>ab
def pb(b:V):aD V:=V.casesOn (motive_1:=λd=>aD V) b ab (λa=>ab) (λa=>ab) (λa=>ab) (λa=>ab) (λa=>ab) (λa=>ab) (λa c=>ab) (λa=>ab) (λa=>ab) Y λa=>ab
def nF(b:V):aD<|R<|an×V:=V.casesOn (motive_1:=λd=>aD<|R<|an×V) b ab (λa=>ab) (λa=>ab) (λa=>ab) (λa=>ab) (λa=>ab) (λa=>ab) (λa c=>ab) (λa=>ab) (λa=>ab) (λa=>ab) Y
def zO(a:V):Bool:=(eh a).elim M bG
def vq(b:an):aD Nat:=an.casesOn (motive:=λc=>aD U) b (λa=>ab) Y (λa=>ab) λa=>ab
def yX(b:V):aD aq:=V.casesOn (motive_1:=λd=>aD aq) b ab (λa=>ab) (λa=>ab) (λa=>ab) (λa=>ab) (λa=>ab) (λa=>ab) (λa c=>ab) (λa=>ab) Y (λa=>ab) λa=>ab
def j6(b:V):aD<|R<|an×V:=V.casesOn (motive_1:=λd=>aD<|R<|an×V) b ab (λa=>ab) (λa=>ab) (λa=>ab) (λa=>ab) (λa=>ab) Y (λa c=>ab) (λa=>ab) (λa=>ab) (λa=>ab) λa=>ab
def e8(b:V):aD Nat:=V.casesOn (motive_1:=λd=>aD U) b ab (λa=>ab) (λa=>ab) (λa=>ab) (λa=>ab) (λa=>ab) (λa=>ab) (λa c=>ab) Y (λa=>ab) (λa=>ab) λa=>ab
def fx(a:cn):aD<|R<|an×V:=cn.casesOn (motive:=λd=>aD<|R<|an×V) a ab (λb=>ab) Y λb c=>ab
def e9(a:cn):aD<|R V:=cn.casesOn (motive:=λd=>aD<|R V) a ab Y (λb=>ab) λb c=>ab
def bn(a:an):R (an×V)->aD V
 |[]=>ab
 |(b,c)::d=>if b=a then Y c else bn a d
def cp(a:an)(b:V):R (an×V)->R (an×V)
 |[]=>[(a,b)]
 |(c,e)::d=>if c=a then(c,b)::d else(c,e)::cp a b d
def d1(a:aC):R (aC×V)->aD V
 |[]=>ab
 |(b,c)::d=>if b=a then Y c else d1 a d
def h'(a:aC)(b:V):R (aC×V)->R (aC×V)
 |[]=>[(a,b)]
 |(c,e)::d=>if c=a then(c,b)::d else(c,e)::h' a b d
def gz(a:R V)(b:ah):aD V:=
 if 0<=b then a[b.toNat]? else if 0<=b+a.length then a[(b+a.length).toNat]? else ab
def vp:an->aD V
 |.A b=>match b.toList with
  |a::_=>if a.isDigit then ab else Y<|.E<|.A<|oR [a]
  |[]=>ab
 |.D _=>Y<|.E<|.A "n"
 |.B _=>Y<|.E<|.A "%"
 |.C _=>ab
def ug(b:V):aD<|cO×R (aC×V):=V.casesOn (motive_1:=λd=>aD<|cO×R (aC×V)) b ab (λa=>ab) (λa=>ab) (λa=>ab) (λa=>ab) (λa=>ab) (λa=>ab) (λa c=>Y (a,c)) (λa=>ab) (λa=>ab) (λa=>ab) λa=>ab
def mb(b:cn):aD<|cO×R (aC×V):=cn.casesOn (motive:=λd=>aD<|cO×R (aC×V)) b ab (λa=>ab) (λa=>ab) λa c=>Y (a,c)
def pG(b:af)(a:V):aD<|R V:=(eO a).or<|(e8 a).bind λc=>e9<|b.b c
def rE(b:af)(a:V):aD<|R<|an×V:=(j6 a).or<|(e8 a).bind λc=>fx<|b.b c
def uY(b:af)(a:V):aD<|cO×R (aC×V):=(ug a).or<|(e8 a).bind λc=>mb<|b.b c
def mL(a:V):aD<|R V:=(eO a).or<|g5 a
def eG(e:af)(a c:V):aD V:=((co c).bind λd=>((pG e a).or<|g5 a).bind λf=>gz f d).or<|
 ((eh c).bind λb=>(rE e a).bind λg=>if bG b then ab else bn b g).or<|(co c).bind λd=>(eh a).bind λb=>if d=0 then vp b else ab
def fD(a:R V)(b c:aD ah):R V:=
 (a.drop<|b.elim 0<|fK a.length).take (c.elim a.length (fK a.length)-b.elim 0 (fK a.length))
def ul(a:V):aD<|aD ah:=((h2 a).map λb=>ab).or<|(co a).map Y
def mR(b:V)(g h:V):aD V:=(ul g).bind λc=>(ul h).bind λd=>((eO b).map λa=>.D<|fD a c d).or<|
 ((g5 b).bind λa=>c.bind λe=>if bD (d=ab) (bD (1<=e)<|e<=a.length)then Y<|.F<|a.drop e.toNat else ab).or<|
 (eh b).bind λf=>if bD (c=ab) (d=Y 12)then(if f=.A "deconstruct must return Array"then Y<|.E<|.A "deconstruct "else if f=.A "deconstruct_keys must return Hash"then Y<|.E<|.A "deconstruct_"else ab)else ab
def eF:cO->R aC
 |.I=>["height","first","pieces"]
 |.J=>["height","first","pieces","node"]
 |.D=>["height","first","pieces","kept","again"]
 |.A=>["kind","parts","line","own"]
 |.H=>["op","a","b","c","line"]
 |.G=>["sort","first","last","target","depth"]
 |.L=>["kind","name","params","slots","rows","catches","children","starts","number"]
 |.B=>["place"]
 |.F=>["rows","catches","children","starts","line","height"]
 |.E=>["names","outer"]
 |.K=>["table","kind","params","maker","scope","ways"]
 |.C=>[]
def rN(c:af)(d:V)(a:aC):aD V:=(uY c d).bind λb=>if(eF b.1).contains a then d1 a b.2 else ab
def hf(b:af)(a:V):aD Bool:=(hy a).or<|((h2 a).map λg=>M).or<|((co a).map λc=>aN<|c≠0).or<|((eh a).map λd=>aN<|d≠.A "").or<|
 (((pG b a).or<|g5 a).map λe=> !e.isEmpty).or<|(j6 a).map λf=> !f.isEmpty
def h4(i:gh)(c d:V):aD V:=match i with
 |.ignore=>((co c).bind λb=>(co d).map λa=>.A<|b+a).or<|((eO c).bind λe=>(eO d).bind λf=>if e.length+f.length<=1000000 then Y<|.D<|e++f else ab).or<|
  (eh c).bind λg=>(eh d).bind λj=>(vq j).bind λh=>if g=.A "n"then Y<|.E<|.D h else if g=.A "%"then Y<|.E<|.B h else ab
 |.warn=>(co c).bind λb=>(co d).map λa=>.A<|b-a
 |.raise=>((co c).bind λb=>(co d).bind λa=>if b.natAbs<1000000\/a.natAbs<1000000 then Y<|.A<|b*a else ab).or<|(eO c).bind λe=>(co d).bind λa=>if a=0 then Y<|.D []else if a=1 then Y<|.D e else ab
 |.call=>(co c).bind λb=>(co d).bind λa=>if 0<a then Y<|.A<|b.fmod a else ab
 |.print=>(co c).bind λb=>(co d).bind λa=>if bD (0<a) (a<1000000)then Y<|.A<|b.fdiv a else ab
 |.log=>(co c).bind λb=>(co d).bind λa=>if bD (b=10) (a=105)then Y<|.A<|10^105 else ab
def gL:R V->aE
 |[]=>Q
 |.E a::b=> !bG a&&gL b
 |_::_=>M
def dJ(a:an):R V->aE
 |[]=>M
 |.E c::b=>aN (c=a)||dJ a b
 |_::b=>dJ a b
def js(a:an):R V->U
 |[]=>0
 |.E c::b=>if c=a then 0 else js a b+1
 |_::b=>js a b+1
def vc{a b:an}{c:V}{d:R<|an×V}:bn a ((b,c)::d)=if b=a then Y c else bn a d:=Z
def OX{a b:aC}{c:V}{d:R<|aC×V}:d1 a ((b,c)::d)=if b=a then Y c else d1 a d:=Z
def La{b a:an}{c e:V}{d:R<|an×V}:cp b c ((a,e)::d)=if a=b then(a,c)::d else(a,e)::cp b c d:=Z
def NT{b a:aC}{c e:V}{d:R<|aC×V}:h' b c ((a,e)::d)=if a=b then(a,c)::d else(a,e)::h' b c d:=Z
def Bs{a b:an}{c:R V}:dJ a (.E b::c)=(aN (b=a)||dJ a c):=Z
def AN{a b:an}{c:R V}:js a (.E b::c)=if b=a then 0 else js a c+1:=Z
def yR{a:an}{b:R V}(c:gL (.E a::b)=Q):bG a=M/\gL b=true:=h3 c λd e=>⟨(kx _).mp d,e⟩
def mu(a:an)(b:R<|an×V):Bool:=(bn a b).isSome
def pZ(b c:R<|an×V):Bool:=@aN (∀a,bn a b=bn a c)<|qv _
def jx:R (an×V)->aE
 |[]=>Q
 |(b,_)::a=>(bn b a).isNone&&jx a
def ln:R (an×V)->aE
 |[]=>Q
 |(a,_)::b=>dc a&& !bG a&&ln b
def rJ(d a:V):aD Bool:=
 if zO d||zO a then ab else
 ((eh d).bind λb=>((eh a).map λc=>aN<|b=c).or<|(co a).map λk=>M).or<|
 ((co d).bind λb=>((co a).map λc=>aN<|b=c).or<|((eh a).map λk=>M).or<|(eO a).map λk=>M).or<|
 ((h2 d).bind λk=>(eh a).map λk=>M).or<|
 ((hy d).bind λb=>(hy a).map λc=>aN<|b=c).or<|
 ((eO d).bind λf=>((eh a).map λk=>M).or ((eO a).bind λg=>if f.isEmpty||g.isEmpty then Y<|f.isEmpty&&g.isEmpty else ab)).or<|
 (pb d).bind λb=>((hy b).bind λi=>(eh a).bind λj=>if j=.A "False"then Y<|!i else ab).or<|
  (pb a).bind λc=>((nF b).bind λe=>(nF c).bind λh=>if pZ e h&&jx e&&jx h&&ln e then Y Q else ab).or<|if sZ b c then Y Q else ab
def nS(c:af)(e a:V):aD Bool:=(eh e).bind λb=>if bG b then ab else
 (((pG c a).or<|g5 a).bind λd=>if gL d then Y<|dJ b d else ab).or ((rE c a).map λf=>mu b f)
def bH(a:V):Bool:=(h2 a).isSome
def dz(e:af)(f:kA)(a b:V):aD Bool:=
 match f with
 |.Eq=>rJ a b
 |.NotEq=>(rJ a b).map (!·)
 |.Lt=>(co a).bind λc=>(co b).map λd=>aN<|c<d
 |.LtE=>(co a).bind λc=>(co b).map λd=>aN<|c<=d
 |.Gt=>(co a).bind λc=>(co b).map λd=>aN<|d<c
 |.GtE=>(co a).bind λc=>(co b).map λd=>aN<|d<=c
 |.Is=>(h2 b).map λg=>bH a
 |.IsNot=>(h2 b).map λg=> !bH a
 |.In=>nS e a b
 |.NotIn=>(nS e a b).map (!·)
mutual
noncomputable def cM:V->aE
 |.C|.G _|.A _|.E _=>Q
 |.F a=>dQ a
 |.D a=>dQ a
 |_=>M
noncomputable def dQ:R V->aE
 |[]=>Q
 |b::c=>cM b&&dQ c
end
def mD:an->U
 |.A b=>b.length
 |.C a=>a+1
 |.D a|.B a=>a+2
mutual
noncomputable def cA:V->U
 |.C=>4
 |.G _=>5
 |.A b=>b.natAbs+2
 |.E c=>10*mD c+2
 |.F a=>dK a+3
 |.D a=>dK a+3
 |_=>0
noncomputable def dK:R V->U
 |[]=>0
 |d::e=>cA d+2+dK e
end
mutual
noncomputable def cT:V->U
 |.F a=>eu a+1
 |.D a=>eu a+1
 |_=>0
noncomputable def eu:R V->U
 |[]=>0
 |b::c=>bI (cT b)<|eu c
end
def mh:R (an×V)->U
 |[]=>0
 |(_,a)::b=>bI (cT a)<|mh b
def lq:R (an×V)->aE
 |[]=>Q
 |(_,a)::b=>cM a&&lq b
def lw:R (an×V)->U
 |[]=>0
 |(a,b)::c=>(10*mD a+2)+cA b+10+lw c
def n8:R V->aD V
 |[a]=>Y a
 |_=>ab
def wk:R V->aD (V×V)
 |[a,b]=>Y (a,b)
 |_=>ab
def oa:R V->aD (R<|an×V)
 |[]=>Y []
 |c::d=>(g5 c).bind λe=>(wk e).bind λa=>(eh a.1).bind λb=>if bG b then ab else(oa d).map λf=>(b,a.2)::f
def k2(f:af)(c:kC)(a:V):aD V:=
 match c with
 |.init=>((pG f a).or<|g5 a).map λb=>.A b.length
 |.prolog=>((hy a).map λc=>.A<|if c then 1 else 0).or<|(co a).map .A
 |.content=>((h2 a).map λj=>.G M).or<|((hy a).map .G).or<|(eh a).map λg=>.G<|aN<|g≠.A ""
 |.cdata=>(co a).bind λd=>if bD (0<=d) (d<1000000)then Y<|.E<|.C d.toNat else ab
 |.epilog=>((hy a).map λc=>.K<|.G c).or<|(eO a).bind λb=>if dQ b&&aN (cA a<10000000)&&aN (cT a<100)then Y<|.K a else ab
 |.error=>(eO a).map .D
 |.ext2=>(mL a).map .F
 |.ext3=>(eO a).bind λb=>if b.length<=1000 then(oa b).map λh=>.J<|h.foldl (λi e=>cp e.1 e.2 i) []else ab
@[elab_as_elim] noncomputable def bQ.C{b:bQ->Prop}(n:b .B)(c:∀d a,b a->b (.A d a)):∀a:bQ,b a
 |.B=>n
 |.A d a=>c d a<|bQ.C n c a
def u3(a:cn):Bool:=a.casesOn M (λb=>M) (λb=>M) λa b=>a==.B
def Ol{a:cn}(c:u3 a=Q):∃b,a=.C .B b:=by
 cases a with
 |C a b=>exact⟨b,f5 c▸Z⟩
 |_=>exact bx c
def iH(c:af)(b:qN)(d:V):aD Bool:=
 V.casesOn (motive_1:=λg=>aD aE) d (Y M) (λa=>Y M) (λa=>Y M) (λa=>Y<|b==.module) (λa=>Y (b==.annotation||b==.typeVariable)) (λa=>Y (b==.annotation||b==.typeAlias)) (λa=>ab)
  (λe a=>if e=.A then Y<|b==.function else ab) (λf=>if u3 (c.b f)&&b==.typeParameters then Y Q else ab) (λa=>if b==.typeVariable then Y M else ab) (λa=>ab) (λa=>ab)
def iG:cO->aD aq
 |.I=>Y .af_|.J=>Y .aj_|.D=>Y .al_|.A=>Y .E_|.H=>Y .aw_
 |.G=>Y .au_|.L=>Y .aq_|.B=>Y .w_|.F=>Y .aE_|.E=>Y .aB_|.K=>Y .ad_
 |.C=>ab
def mq:cO->aE
 |.A|.H|.G|.L=>Q
 |_=>M
def u'(a:aC):R (aC×aq)->aD aq
 |[]=>ab
 |(b,c)::d=>if b=a then Y c else u' a d
def vh:cO->R (aC×aq)
 |.I=>[("open",.n_),("close",.k_),("catch",.a_)]
 |.J=>[("open",.n_),("close",.k_),("catch",.a_)]
 |.D=>[("open",.n_),("close",.k_),("catch",.a_),("finish",.aL_)]
 |.H=>[("with_target",.ac_)]
 |.B=>[("told",.ai_)]
 |.F=>[("put",.J),("label",.ag_),("place",.aG_),("catch",.bi_),("done",.q_)]
 |.E=>[("add",.ap_),("find",.ab_)]
 |.K=>[("put",.be_),("node",.A),("body",.bf_),("told",.bp_),("slot",.aA_),("hidden",.ae_),("load",.aK_),("list_of",.bq_),("defaults",.bc_),("code",.az_)]
 |_=>[]
def hF(a:cO)(b:aC):aD aq:=u' b<|vh a
def rB(b:af)(c:aC)(d:V):aD cO:=(uY b d).bind λa=>if(d1 c a.2).isNone then Y a.1 else ab
def ke:cn->aD V
 |.B=>ab
 |.A a=>Y<|.D a
 |.D b=>Y<|.J b
 |.C c d=>Y<|.L c d
def lf(a:af)(c:V):aD<|V×af:=(e8 c).bind λb=>(ke<|a.b b).map λd=>(d,a.A b .B)
def dY(f:fO)(b:V)(a:aA):aD aA:=
 match f with
 |.A g=>Y<|a.A g b
 |.B c=>(mL b).bind λd=>if c.length=d.length then Y<|(c.zip d).foldl (λa e=>a.A e.1 e.2) a else ab
def k1(a:af)(d:gh)(b:V):Bool:=
 match d with
 |.call=>(rE a b).isSome
 |.print=>((e8 b).bind λc=>fx<|a.b c).isSome
 |.ignore|.warn|.raise|.log=>((e8 b).bind λc=>e9<|a.b c).isSome
def jl(b:af)(k:gh)(g:V)(h:R V):aD<|V×af:=
 match k with
 |.ignore=>(e8 g).bind λa=>(n8 h).bind λd=>(e9<|b.b a).bind λc=>if c.length<1000000 then Y (.C,b.A a<|.A<|c++[d])else ab
 |.warn=>(e8 g).bind λa=>if h.isEmpty then(e9<|b.b a).bind λc=>c.getLast?.map λd=>(d,b.A a<|.A c.dropLast)else ab
 |.raise=>(e8 g).bind λa=>(n8 h).bind λd=>(eO d).bind λi=>(e9<|b.b a).bind λc=>if c.length+i.length<=1000000 then Y (.C,b.A a<|.A<|c++i)else ab
 |.print=>(e8 g).bind λa=>(n8 h).bind λd=>(j6 d).bind λi=>(fx<|b.b a).bind λf=>if f.length+i.length<=1000 then Y (.C,b.A a<|.D<|i.foldl (λf j=>cp j.1 j.2 f) f)else ab
 |.log=>(e8 g).bind λa=>(n8 h).bind λd=>(eh d).bind λe=>(e9<|b.b a).bind λc=>if !bG e&&gL c&&dJ e c then Y (.A<|js e c,b)else ab
 |.call=>((j6 g).bind λf=>(wk h).bind λj=>(eh j.1).bind λe=>if bG e then ab else Y ((bn e f).getD j.2,b)).or<|
  (e8 g).bind λa=>(n8 h).bind λd=>(eh d).bind λe=>(fx<|b.b a).bind λf=>if bG e then ab else Y ((bn e f).getD .C,b)
set_option genCtorIdx false in
inductive gZ where
 |A|D|C|B (a:V)
gen_injective_theorems%gZ
structure bR where
 a:aq->R V->af->aD (V×af)
 b:U
 c:gh->V
def dx(c:aA->af->aD (gZ×aA×af))(d:fO):R V->aA->af->aD (gZ×aA×af)
 |[],e,f=>Y (.A,e,f)
 |h::g,e,f=>(dY d h e).bind λi=>(c i f).bind λj=>match j with
  |(.A,a,b)=>dx c d g a b
  |(.C,a,b)=>dx c d g a b
  |(.D,a,b)=>Y (.A,a,b)
  |(.B k,a,b)=>Y (.B k,a,b)
def jw(c:aA->af->aD (aE×af))(d:aA->af->aD (gZ×aA×af)):U->aA->af->aD (gZ×aA×af)
 |0,_,_=>ab
 |h+1,e,i=>(c e i).bind λf=>match f with
  |(M,g)=>Y (.A,e,g)
  |(Q,g)=>(d e g).bind λf=>match f with
   |(.A,a,b)=>jw c d h a b
   |(.C,a,b)=>jw c d h a b
   |(.D,a,b)=>Y (.A,a,b)
   |(.B j,a,b)=>Y (.B j,a,b)
def ek(b:aA->af->aD (V×af))(c:aA->af->aD (aE×af))(d:fO):R V->aA->af->aD (R V×af)
 |[],_,e=>Y ([],e)
 |k::h,f,e=>(dY d k f).bind λi=>(c i e).bind λa=>match a with
  |(M,g)=>ek b c d h f g
  |(Q,g)=>(b i g).bind λa=>(ek b c d h f a.2).bind λj=>Y (a.1::j.1,j.2)
def eJ(b c:R V):R V:=(b.zip c).map λa=>.F [a.1,a.2]
def AU(a:bQ):Bool:=bQ.casesOn (motive_3:=λd=>aE) a Q λb c=>M
def Rp(c:aE)(d:V)(a:af):aD<|V×af:=(eO d).map λb=>if c then(.B a.a,a.B<|.A b.reverse)else(.D b.reverse,a)
def PN(a:V)(b:af):aD<|V×af:=(co a).map λc=>(.A<|-c,b)
def sg(d:bR)(b:cO)(e:R V)(a:af):aD<|V×af:=(iG b).bind λf=>
 (d.a f (.B a.a::e)<|a.B<|.C b []).bind λc=>match c.1 with
  |.C=>if mq b then lf c.2<|.B a.a else Y (.B a.a,c.2)
  |_=>ab
def I9(b:bR)(a:V)(c:R V)(d:af):aD<|V×af:=(yX a).bind λa=>b.a a c d
def Rh(c:V)(b:af):aD<|V×af:=(e8 c).bind λd=>(fx<|b.b d).bind λa=>
 if lq a&&aN (lw a<10000000)&&aN (mh a<100)&&aN (2<=a.length)&&aN (a.length<64)then Y (.K<|.I a,b)else ab
def vP(b:V)(c:af):aD<|R V×af:=(co b).bind λa=>if bD (0<=a) (a<100000)then Y ((dF a.toNat).map (λd:U=>V.A (d:ah)),c)else ab
def Lp(b:V)(c:af):aD<|R V×af:=(eO b).map λa=>(eJ ((dF a.length).map (λd:U=>V.A (d:ah))) a,c)
def Xz(a b:V)(c:af):aD<|R V×af:=(g5 a).bind λd=>(g5 b).map λe=>(eJ d e,c)
def Um(b:V)(c:af):aD<|R V×af:=(co b).bind λa=>if bD (0<=a) (a<=3)then Y ((["x","y","z"].take a.toNat).map λd=>.E<|.A d,c)else ab
structure yd where
 a:aA->af->aD (V×af)
 b:aA->af->aD (aE×af)
def dC(b:aA->af->aD (V×af)):yd:=⟨b,λc d=>(b c d).bind λa=>(hf a.2 a.1).map λe=>(e,a.2)⟩
mutual
noncomputable def cc(d:bR):bk->yd
 |.H=>dC λx_ c=>Y (.C,c)
 |.i h=>dC λx_ c=>Y (.G h,c)
 |.B r=>dC λx_ c=>Y (.A r,c)
 |.J o=>dC λx_ c=>Y (.E<|.A o,c)
 |.A u=>dC λb c=>(b u).map λk=>(k,c)
 |.o m=>dC λx_ c=>Y (.H m,c)
 |.m p=>dC λx_ c=>Y (d.c p,c)
 |.D e m=>dC λb c=>((cc d e).a b c).bind λa=>(rN a.2 a.1 m).map λk=>(k,a.2)
 |.F e r=>dC λb c=>((cc d e).a b c).bind λa=>((cc d r).a b a.2).bind λf=>(eG f.2 a.1 f.1).map λk=>(k,f.2)
 |.e e v w=>dC λb c=>((cc d e).a b c).bind λa=>((cc d v).a b a.2).bind λf=>((cc d w).a b f.2).bind λn=>(mR a.1 f.1 n.1).map λk=>(k,n.2)
 |.q j e=>dC λb c=>((cc d e).a b c).bind λa=>Rp j a.1 a.2
 |.K q i h=>dC λb c=>((cc d i).a b c).bind λa=>((cc d h).a b a.2).bind λf=>(h4 q a.1 f.1).map λk=>(k,f.2)
 |.g i=>dC λb c=>((cc d i).a b c).bind λa=>PN a.1 a.2
 |.k i=>⟨λb c=>((cc d i).a b c).bind λa=>(hf a.2 a.1).map λh=>(.G<|!h,a.2),λb c=>((cc d i).b b c).map λa=>(!a.1,a.2)⟩
 |.f g=>⟨λb c=>gt d g b c,λb c=>gM d g b c⟩
 |.j g=>⟨λb c=>h8 d g b c,λb c=>gN d g b c⟩
 |.C q i h=>dC λb c=>((cc d i).a b c).bind λa=>((cc d h).a b a.2).bind λf=>(dz f.2 q a.1 f.1).map λh=>(.G h,f.2)
 |.t q n i h l=>dC λb c=>((cc d i).a b c).bind λa=>((cc d h).a b a.2).bind λf=>(dz f.2 q a.1 f.1).bind λp=>
  if p then((cc d l).a b f.2).bind λo=>(dz o.2 n f.1 o.1).map λh=>(.G h,o.2)else Y (.G M,f.2)
 |.b l i h=>⟨λb c=>((cc d l).b b c).bind λa=>if a.1 then(cc d i).a b a.2 else(cc d h).a b a.2,λb c=>((cc d l).b b c).bind λa=>if a.1 then(cc d i).b b a.2 else(cc d h).b b a.2⟩
 |.I g=>dC λb c=>(bK d g b c).map λa=>(.F a.1,a.2)
 |.a j g=>dC λb c=>(bK d g b c).map λa=>if j then(.B a.2.a,a.2.B<|.A a.1)else(.D a.1,a.2)
 |.r j x g=>dC λb c=>(bK d g b c).map λa=>
  let t:=((x.map an.A).zip a.1).foldl (λg n=>cp n.1 n.2 g) []
  if j then(.B a.2.a,a.2.B<|.D t)else(.J t,a.2)
 |.d j y p z A=>dC λb c=>(ei d z b c).bind λa=>
  (ek (λb c=>(cc d y).a b c) (λb c=>d' d A b c) p a.1 b a.2).map λf=>
  if j then(.B f.2.a,f.2.B<|.A f.1)else(.D f.1,f.2)
 |.G m g=>dC λb c=>(bK d g b c).bind λa=>d.a m a.1 a.2
 |.c l g=>dC λb c=>(bK d g b c).bind λa=>sg d l a.1 a.2
 |.E e j g=>dC λb c=>((cc d e).a b c).bind λa=>(bK d g b a.2).bind λf=>(rB a.2 j a.1).bind λl=>(hF l j).bind λm=>d.a m (a.1::f.1) f.2
 |.v l g=>dC λb c=>(bK d g b c).bind λa=>(iG l).bind λm=>d.a m a.1 a.2
 |.s e g=>dC λb c=>((cc d e).a b c).bind λa=>(bK d g b a.2).bind λf=>I9 d a.1 f.1 f.2
 |.L h e=>dC λb c=>((cc d e).a b c).bind λa=>(k2 a.2 h a.1).map λk=>(k,a.2)
 |.l e B=>dC λb c=>((cc d e).a b c).bind λa=>(iH a.2 B a.1).map λh=>(.G h,a.2)
 |.h e j g=>dC λb c=>((cc d e).a b c).bind λa=>if k1 a.2 j a.1 then(bK d g b a.2).bind λf=>jl f.2 j a.1 f.1 else ab
 |.u i h=>dC λb c=>((cc d i).a b c).bind λa=>((cc d h).a b a.2).bind λf=>(eO a.1).bind λs=>(eO f.1).map λC=>(.D<|eJ s C,f.2)
 |.p e=>dC λb c=>((cc d e).a b c).bind λa=>Rh a.1 a.2
 |.n e=>dC λb c=>((cc d e).a b c).bind λa=>lf a.2 a.1
 |.w=>dC λx_ x_=>ab
noncomputable def gt(d:bR):bQ->aA->af->aD (V×af)
 |.B=>λf f=>ab
 |.A e g=>λb c=>if AU g then(cc d e).a b c else((cc d e).a b c).bind λa=>(hf a.2 a.1).bind λh=>if h then gt d g b a.2 else Y a
noncomputable def h8(d:bR):bQ->aA->af->aD (V×af)
 |.B=>λf f=>ab
 |.A e g=>λb c=>if AU g then(cc d e).a b c else((cc d e).a b c).bind λa=>(hf a.2 a.1).bind λh=>if h then Y a else h8 d g b a.2
noncomputable def gM(d:bR):bQ->aA->af->aD (aE×af)
 |.B=>λf c=>Y (Q,c)
 |.A e g=>λb c=>((cc d e).b b c).bind λa=>if a.1 then gM d g b a.2 else Y (M,a.2)
noncomputable def gN(d:bR):bQ->aA->af->aD (aE×af)
 |.B=>λf c=>Y (M,c)
 |.A e g=>λb c=>((cc d e).b b c).bind λa=>if a.1 then Y (Q,a.2)else gN d g b a.2
noncomputable def d'(d:bR):bQ->aA->af->aD (aE×af)
 |.B=>λf c=>Y (Q,c)
 |.A e g=>λb c=>((cc d e).b b c).bind λa=>if a.1 then d' d g b a.2 else Y (M,a.2)
noncomputable def bK(d:bR):bQ->aA->af->aD (R V×af)
 |.B=>λh c=>Y ([],c)
 |.A e g=>λb c=>((cc d e).a b c).bind λa=>(bK d g b a.2).map λf=>(a.1::f.1,f.2)
noncomputable def ei(d:bR):jY->aA->af->aD (R V×af)
 |.A e=>λb c=>((cc d e).a b c).bind λa=>(mL a.1).map λs=>(s,a.2)
 |.B e=>λb c=>((cc d e).a b c).bind λa=>vP a.1 a.2
 |.C e=>λb c=>((cc d e).a b c).bind λa=>Lp a.1 a.2
 |.E i h=>λb c=>((cc d i).a b c).bind λa=>((cc d h).a b a.2).bind λf=>Xz a.1 f.1 f.2
 |.D e=>λb c=>((cc d e).a b c).bind λa=>Um a.1 a.2
end
def ai(a:bR)(b:bk)(c:aA)(d:af):aD<|V×af:=(cc a b).a c d
def bz(a:bR)(b:bk)(c:aA)(d:af):aD<|aE×af:=(cc a b).b c d
def ml{b:bR}{c:aA}{a:af}:gM b .B c a=Y (Q,a):=Z
def z'{b:bR}{c:aA}{a:af}:gN b .B c a=Y (M,a):=Z
def aQ{b:bR}{c:aA}{a:af}:bK b .B c a=Y ([],a):=Z
def Lt{a:bR}{b:bk}{c:aA}{d:af}:bz a (.k b) c d=(bz a b c d).map λe=>(!e.1,e.2):=Z
def Ls{a:bR}{b:bQ}{c:aA}{d:af}:bz a (.f b) c d=gM a b c d:=Z
def Aa{a:bR}{b:bQ}{c:aA}{d:af}:bz a (.j b) c d=gN a b c d:=Z
def mm{b:bR}{d e:bk}{f:bQ}{c:aA}{g:af}:gt b (.A d<|.A e f) c g=(ai b d c g).bind λa=>(hf a.2 a.1).bind λh=>if h then gt b (.A e f) c a.2 else Y a:=Z
def uK{b:bR}{d e:bk}{f:bQ}{c:aA}{g:af}:h8 b (.A d<|.A e f) c g=(ai b d c g).bind λa=>(hf a.2 a.1).bind λh=>if h then Y a else h8 b (.A e f) c a.2:=Z
def uJ{a:bR}{d:bk}{e:bQ}{b:aA}{f:af}:gM a (.A d e) b f=(bz a d b f).bind λc=>if c.1 then gM a e b c.2 else Y (M,c.2):=Z
def pq{a:bR}{d:bk}{e:bQ}{b:aA}{f:af}:gN a (.A d e) b f=(bz a d b f).bind λc=>if c.1 then Y (Q,c.2)else gN a e b c.2:=Z
def Lv{a:bR}{d:bk}{e:bQ}{b:aA}{f:af}:d' a (.A d e) b f=(bz a d b f).bind λc=>if c.1 then d' a e b c.2 else Y (M,c.2):=Z
def Lu{a:bR}{c:bk}{d:bQ}{b:aA}{e:af}:bK a (.A c d) b e=(ai a c b e).bind λf=>(bK a d b f.2).map λg=>(f.1::g.1,g.2):=Z
mutual
noncomputable def nP(d:bR):g2->aA->af->aD (gZ×aA×af)
 |.B k e,a,b=>(ai d e a b).bind λc=>(dY k c.1 a).map λs=>(.A,s,c.2)
 |.E m l e,a,b=>(ai d e a b).bind λc=>(ai d m a c.2).bind λg=>(e8 g.1).bind λh=>(mb<|g.2.b h).bind λf=>
  if bD (f.2.length<100) ((eF f.1).contains l=Q)then Y (.A,a,g.2.A h<|.C f.1<|h' l c.1 f.2)else ab
 |.H m h e,a,b=>(ai d e a b).bind λc=>(ai d m a c.2).bind λg=>(ai d h a g.2).bind λf=>(e8 g.1).bind λi=>
  ((eh f.1).bind λj=>(fx<|f.2.b i).bind λp=>if bD (p.length<1000) (bG j=M)then Y (gZ.A,a,f.2.A i<|.D<|cp j c.1 p)else ab).or
  ((co f.1).bind λj=>(e9<|f.2.b i).bind λq=>if bD (0<=j) (j<q.length)then Y (.A,a,f.2.A i<|.A<|q.set j.toNat c.1)else ab)
 |.J r e,a,b=>(a r).bind λt=>(ai d e a b).bind λc=>(co t).bind λh=>(co c.1).map λi=>(.A,a.A r<|.A<|h+i,c.2)
 |.A e,a,b=>(ai d e a b).map λc=>(.A,a,c.2)
 |.C n k l,a,b=>(bz d n a b).bind λc=>if c.1 then aw d k a c.2 else aw d l a c.2
 |.G k u o,a,b=>(ei d u a b).bind λc=>dx (λa b=>aw d o a b) k c.1 a c.2
 |.I n o,a,b=>jw (λa b=>bz d n a b) (λa b=>aw d o a b) d.b a b
 |.D e,a,b=>(ai d e a b).map λc=>(.B c.1,a,c.2)
 |.a,a,b=>Y (.B .C,a,b)
 |.K,a,b=>Y (.D,a,b)
 |.L,a,b=>Y (.C,a,b)
 |.F,_,_=>ab
noncomputable def aw(d:bR):cu->aA->af->aD (gZ×aA×af)
 |.B,a,b=>Y (.A,a,b)
 |.A v w,a,b=>(nP d v a b).bind λc=>match c.1 with
  |.A=>aw d w c.2.1 c.2.2
  |_=>Y c
end
structure bb where
 a:U
 c:R V:=[]
 b:cu
end
end
end M
namespace M
noncomputable section
open Lean Parser in
local macro_rules (kind:=Lean.Parser.Term.paren)
 |s=>λx_ t=>
  let f c:=.ok (M.Ê ``Term.app (mkIdent c) (.node .none `null #[s[1]])) t
  if s[1].isOfKind `num then f `M.bk.A else if s[1].isOfKind `str then f `M.bk.J else if s[0].isMissing then .ok s[1] t else .error .unsupportedSyntax t
open Lean Parser in
local macro_rules (kind:=«term#[_,]»)
 |s=>λx_ t=>.ok (if s[1].getNumArgs=0 then M.Ê ``Term.dotIdent .missing (mkIdent `B)else M.Ê ``Term.app (M.Ê ``Term.dotIdent .missing (mkIdent `A)) (M.Ê `null (.node .none ``Term.paren #[.missing,s[1][0],.missing]) (s.setArg 1<|.node .none `null (s[1].getArgs.extract 2)))) t
def Nk:bb:={a:=3,c:=[.G Q],b:=#[.C (.C .IsNot (1) .H) #[.A<|.E (0) "node" #[1,2]] #[.F]]}
def Mb:bb:={a:=4,c:=[.E<|.A "call"],b:=#[.A<|.E (.D (0) "maker") "put" #["send",1,2,.I #[3,.H]]]}
def Nf:bb:={a:=2,c:=[],b:=#[.C (.C .IsNot (1) .H) #[.A<|.E (.D (0) "maker") "put" #["getl",.B 0,1],.A<|.G .p_ #[0,"===",.B 1]] #[]]}
def Mf:bb:={a:=3,c:=[],b:=#[.B (.B [3,4,5])<|.D (1) "parts",.B (.B [6,7,8])<|.I #[.D (0) "maker",.D (.D (0) "maker") "height",.E (0) "hidden" #[]],.A<|.E (0) "node" #[3],.A<|.E (6) "put" #["setl",.B 0,8],.B (.A 9)<|.E (6) "label" #[],.G (.B [10,11,12]) (.A (4)) #[.B (.A 13)<|.E (6) "label" #[],.A<|.G .H #[0,10,8,13],.C (.C .IsNot (11) .H) #[.F] #[],.A<|.G .L_ #[0,12,2],.A<|.E (6) "put" #["jump",9],.A<|.E (6) "place" #[13],.E (6) "height" (7)],.C (.C .IsNot (5) .H) #[.A<|.E (0) "node" #[5,2]] #[.A<|.E (6) "put" #["getl",.B 0,8],.A<|.E (6) "put" #["nomatch"],.E (6) "height"<|.K .ignore (7)<|.L .prolog (2)],.A<|.E (6) "place" #[9]]}
def Mh:bb:={a:=3,c:=[],b:=#[.B (.B [3,4,5])<|.I #[.D (0) "maker",.D (.D (0) "maker") "height",.E (0) "hidden" #[]],.A<|.E (0) "node" #[.F (.D (1) "parts")<|.B 0],.A<|.E (3) "put" #["setl",.B 0,5],.B (.B [6,7])<|.I #[.E (3) "label" #[],.E (3) "label" #[]],.A<|.G .H #[0,.F (.D (1) "parts")<|.B 1,5,6],.A<|.E (3) "put" #["push",.i Q],.A<|.E (3) "put" #["jump",7],.A<|.E (3) "place" #[6],.E (3) "height" (4),.A<|.E (3) "put" #["push",.i M],.A<|.E (3) "place" #[7],.C (.k (2)) #[.A<|.E (3) "put" #["pop"]] #[]]}
def Mi:bb:={a:=3,c:=[],b:=#[.B (.B [3,4,5])<|.I #[.D (0) "maker",.D (.D (0) "maker") "height",.E (0) "hidden" #[]],.A<|.E (0) "node" #[.F (.D (1) "parts")<|.B 0],.A<|.E (3) "put" #["setl",.B 0,5],.B (.B [6,7])<|.I #[.E (3) "label" #[],.E (3) "label" #[]],.A<|.G .H #[0,.F (.D (1) "parts")<|.B 1,5,6],.A<|.E (3) "put" #["jump",7],.A<|.E (3) "place" #[6],.A<|.E (3) "put" #["getl",.B 0,5],.A<|.E (3) "put" #["nomatch"],.A<|.E (3) "place" #[7],.E (3) "height" (4),.C (2) #[.A<|.E (3) "put" #["push",.H]] #[]]}
def MX:bb:={a:=4,c:=[],b:=#[.A<|.s (.F (.m .raise)<|.D (1) "kind") #[0,1,2,3]]}
def Ma:bb:={a:=3,c:=[],b:=#[.B (.B [3,4])<|.E (0) "slot" #[1],.A<|.E (.D (0) "maker") "put" #["getl",.B 0,2],.A<|.E (.D (0) "maker") "put" #["setl",3,4]]}
def M4:bb:={a:=4,c:=[],b:=#[.A<|.E (0) "node" #[.F (.D (1) "parts")<|.B 0],.A<|.G .c_ #[0,2],.A<|.E (.D (0) "maker") "put" #["jumpunless",3]]}
def M1:bb:={a:=4,c:=[],b:=#[.A<|.G .y_ #[0,.F (.D (1) "parts")<|.B 0,2]]}
def MY:bb:={a:=4,c:=[],b:=#[.B (.B [4,5])<|.I #[.D (0) "maker",.E (.D (0) "maker") "label" #[]],.B (.A 6)<|.F (.D (1) "parts")<|.B 0,.G (.A 7) (.A<|.e (6) .H<|.g<|.B 1) #[.B (.A 8)<|.E (4) "label" #[],.A<|.G .H #[0,7,2,8],.A<|.E (4) "put" #["jump",5],.A<|.E (4) "place" #[8]],.A<|.G .H #[0,.F (6)<|.g<|.B 1,2,3],.A<|.E (4) "place" #[5]]}
def M0:bb:={a:=4,c:=[],b:=#[.A<|.G .H #[0,.F (.D (1) "parts")<|.B 0,2,3],.A<|.G .y_ #[0,.F (.D (1) "parts")<|.B 1,2]]}
def M5:bb:={a:=4,c:=[],b:=#[.C (.C .IsNot (1) .H) #[.A<|.E (0) "node" #[1],.A<|.G .c_ #[0,2],.A<|.E (.D (0) "maker") "put" #["jumpunless",3]] #[]]}
def Nb:bb:={a:=2,c:=[],b:=#[.B (.A 2)<|.D (0) "maker",.A<|.E (2) "put" #["self"],.A<|.E (2) "put" #["getc","TypeError"],.A<|.E (2) "put" #["text",1],.A<|.G .p_ #[0,"raise",.B 2,"self"],.A<|.E (2) "put" #["pop"]]}
def Ni:bb:={a:=7,c:=[],b:=#[.B (.B [7,8])<|.I #[.D (0) "maker",.E (0) "hidden" #[]],.B (.B [9,10])<|.I #[.E (7) "label" #[],.E (7) "label" #[]],.A<|.E (7) "put" #["getl",.B 0,1],.A<|.E (7) "put" #["setl",.B 0,8],.A<|.E (7) "put" #["getl",.B 0,1],.A<|.E (7) "put" #[3],.A<|.E (7) "put" #["jumpif",9],.A<|.E (7) "put" #["getl",.B 0,1],.A<|.E (7) "put" #["respond",4],.A<|.E (7) "put" #["jumpunless",2],.A<|.E (7) "put" #["getl",.B 0,1],.C (.C .Eq (5) ("all")) #[.A<|.E (7) "put" #["push",.H]] #[.C (.C .IsNot (5) .H) #[.G (.A 11) (.A (5)) #[.A<|.E (7) "put" #["push",11]],.A<|.E (7) "put" #["list",.L .init (5)]] #[]],.A<|.G .p_ #[0,4,.L .prolog<|.C .IsNot (5) .H,"self"],.A<|.E (7) "put" #["setl",.B 0,8],.A<|.E (7) "put" #["getl",.B 0,8],.A<|.E (7) "put" #[3],.A<|.E (7) "put" #["jumpif",10],.A<|.G .aa_ #[0,6],.A<|.E (7) "place" #[9],.A<|.E (7) "place" #[10],.D (8)]}
def M3:bb:={a:=6,c:=[],b:=#[.B (.B [6,7])<|.I #[.D (0) "maker",.E (0) "hidden" #[]],.A<|.E (6) "put" #["getl",.B 0,2],.A<|.E (6) "put" #[3,4],.A<|.E (6) "put" #["setl",.B 0,7],.A<|.G .H #[0,1,7,5]]}
def MZ:bb:={a:=4,c:=[],b:=#[.B (.B [4,5,6,7])<|.D (1) "parts",.B (.A 8)<|.D (0) "maker",.A<|.G .v_ #[0,4,2,3],.B (.A 9)<|.G .r_ #[0,2,3,"islist","deconstruct",.H,"deconstruct must return Array"],.A<|.E (8) "put" #["getl",.B 0,9],.A<|.E (8) "put" #["listfits",.K .ignore (.L .init (5))<|.L .init (7),.C .Is (6) .H],.A<|.E (8) "put" #["jumpunless",3],.G (.B [10,11]) (.C (5)) #[.A<|.G .G_ #[0,11,9,"listat",10,3]],.C (6) #[.B (.B [12,13])<|.E (0) "slot" #[6],.A<|.E (8) "put" #["getl",.B 0,9],.A<|.E (8) "put" #["listpart",.L .init (5),.L .init (7)],.A<|.E (8) "put" #["setl",12,13]] #[],.G (.B [10,11]) (.C (7)) #[.A<|.G .G_ #[0,11,9,"listat",.K .warn (10)<|.L .init (7),3]]]}
def M2:bb:={a:=4,c:=[],b:=#[.B (.B [4,5,6])<|.D (1) "parts",.B (.B [9,10])<|.I #[.D (0) "maker",.d M (7) (.B [7,8]) (.A (5)) #[]],.A<|.G .v_ #[0,4,2,3],.B (.A 11) ("deconstruct_keys must return Hash"),.B (.A 12)<|.b (.l (6) .module) ("all") (10),.B (.A 13)<|.G .r_ #[0,2,3,"istable","deconstruct_keys",12,11],.G (.B [14,15]) (.A (5)) #[.A<|.E (9) "put" #["getl",.B 0,13],.A<|.E (9) "put" #["tablehas",14],.A<|.E (9) "put" #["jumpunless",3],.C (.C .Is (15) .H) #[.B (.B [16,17])<|.E (0) "slot" #[14],.A<|.E (9) "put" #["getl",.B 0,13],.A<|.E (9) "put" #["tableat",14],.A<|.E (9) "put" #["setl",16,17]] #[.A<|.G .G_ #[0,15,13,"tableat",14,3]]],.C (.l (6) .module) #[.C (6) #[.B (.B [16,17])<|.E (0) "slot" #[6],.A<|.E (9) "put" #["getl",.B 0,13],.A<|.E (9) "put" #["tablerest",10],.A<|.E (9) "put" #["setl",16,17]] #[]] #[.C (.j #[6,.C .Eq (.L .init (5))<|.B 0]) #[.A<|.E (9) "put" #["getl",.B 0,13],.A<|.E (9) "put" #["tableonly",10],.A<|.E (9) "put" #["jumpunless",3]] #[]]]}
def Mt:bb:={a:=2,c:=[],b:=#[.A<|.h (.D (0) "ways") .ignore #[1],.A<|.E (1) "open" #[.D (0) "maker"]]}
def Ms:bb:={a:=1,c:=[],b:=#[.B (.A 1)<|.h (.D (0) "ways") .warn #[],.A<|.E (1) "close" #[.D (0) "maker"]]}
def Me:bb:={a:=3,c:=[],b:=#[.B (.A 3)<|.F (.D (1) "parts")<|.B 3,.C (.C .Is (3) .H) #[.F] #[],.B (.B [4,5])<|.I #[.D (0) "maker",.D (.D (0) "maker") "height"],.B (.B [6,7])<|.I #[.E (4) "label" #[],.E (4) "label" #[]],.B (.A 8)<|.c .J #[5,3],.A<|.G .g_ #[0,8],.A<|.G .aD_ #[0,1,2],.A<|.G .f_ #[0],.A<|.E (0) "node" #[3,.i M],.A<|.E (4) "put" #["jump",7],.A<|.E (4) "place" #[6],.E (4) "height"<|.K .ignore (5)<|.B 1,.B (.A 9)<|.E (0) "hidden" #[],.A<|.E (4) "put" #["setl",.B 0,9],.A<|.E (0) "node" #[3,.i M],.A<|.E (4) "put" #["getl",.B 0,9],.A<|.E (4) "put" #["again"],.A<|.E (8) "catch" #[4,"ensure",6],.E (4) "height"<|.K .ignore (5)<|.L .prolog (2),.A<|.E (4) "place" #[7]]}
def Mj:bb:={a:=3,c:=[],b:=#[.B (.B [3,4,5,6])<|.D (1) "parts",.C (.C .Eq (.L .init (4))<|.B 0) #[.F] #[],.B (.B [7,8])<|.I #[.D (0) "maker",.D (.D (0) "maker") "height"],.B (.B [9,10,11])<|.I #[.E (7) "label" #[],.E (7) "label" #[],.E (7) "label" #[]],.A<|.E (7) "place" #[9],.B (.A 12)<|.c .I #[8],.A<|.G .g_ #[0,12],.A<|.G .L_ #[0,3,.f #[2,.C .Is (5) .H]],.A<|.G .f_ #[0],.C (.C .IsNot (5) .H) #[.F] #[],.A<|.E (7) "put" #["jump",11],.A<|.E (7) "place" #[10],.E (7) "height"<|.K .ignore (8)<|.B 1,.A<|.G .ax_ #[0,4,.c .D #[8,.E (0) "hidden" #[],9],2,11],.A<|.E (12) "catch" #[7,"rescue",10],.E (7) "height"<|.K .ignore (8)<|.L .prolog (2),.A<|.E (7) "place" #[11]]}
def Mg:bb:={a:=5,c:=[],b:=#[.B (.A 5)<|.D (0) "maker",.B (.B [6,7,8])<|.I #[.E (0) "hidden" #[],.E (0) "hidden" #[],.E (5) "label" #[]],.A<|.E (5) "put" #["setl",.B 0,6],.A<|.E (5) "put" #["getl",.B 0,6],.A<|.E (5) "put" #["caught"],.A<|.E (5) "put" #["setl",.B 0,7],.G (.B [9,10,11]) (.A (1)) #[.B (.B [12,13])<|.I #[.E (5) "label" #[],.E (5) "label" #[]],.A<|.G .as_ #[0,9,7,12],.A<|.E (5) "put" #["jump",13],.A<|.E (5) "place" #[12],.A<|.E (5) "put" #["getg","$!"],.A<|.E (5) "put" #["setl",.B 0,.D (2) "kept"],.A<|.E (5) "put" #["getl",.B 0,7],.A<|.E (5) "put" #["setcaught"],.A<|.G .g_ #[0,2],.C (.C .IsNot (10) .H) #[.F] #[],.A<|.G .L_ #[0,11,3],.A<|.G .f_ #[0],.A<|.E (2) "finish" #[0],.A<|.E (5) "put" #["jump",4],.A<|.E (5) "place" #[13],.E (5) "height"<|.D (2) "height"],.A<|.E (5) "put" #["getl",.B 0,6],.A<|.E (5) "put" #["again"],.A<|.E (5) "place" #[8],.E (5) "height"<|.K .ignore (.D (2) "height")<|.B 1,.B (.A 14)<|.E (0) "hidden" #[],.A<|.E (5) "put" #["setl",.B 0,14],.A<|.E (2) "finish" #[0],.A<|.E (5) "put" #["getl",.B 0,14],.A<|.E (5) "put" #["again"],.A<|.E (2) "catch" #[5,"ensure",8]]}
def Md:bb:={a:=4,c:=[],b:=#[.B (.A 4)<|.D (0) "maker",.C (.C .Eq (.L .init (1))<|.B 0) #[.A<|.E (4) "put" #["getc","StandardError"],.A<|.G .c_ #[0,2],.A<|.E (4) "put" #["jumpif",3]] #[],.G (.A 5) (.A (1)) #[.F]]}
def M6:bb:={a:=1,c:=[],b:=#[.C (.l (0) .function) #[.D<|.a M #[0]] #[],.B (.A 1)<|.a M #[],.C (.l (0) .«class») #[.F] #[.C (.l (0) .annotation) #[.G (.A 2) (.A (0)) #[.B (.A 1)<|.K .ignore (1)<|.G .H_ #[2]]] #[]],.D (1)]}
def M9:bb:={a:=1,c:=[],b:=#[.C (.C .Eq (.D (0) "kind") ("p_bind")) #[.D<|.a M #[.F (.D (0) "parts")<|.B 0]] #[],.C (.C .Eq (.D (0) "kind") ("p_as")) #[.D<|.a M #[.F (.D (0) "parts")<|.B 1]] #[],.C (.C .Eq (.D (0) "kind") ("p_array")) #[.D<|.b (.F (.D (0) "parts")<|.B 2) (.a M #[.F (.D (0) "parts")<|.B 2])<|.a M #[]] #[],.C (.C .Eq (.D (0) "kind") ("p_hash")) #[.B (.A 3)<|.d M (1) (.B [1,2]) (.A<|.F (.D (0) "parts")<|.B 1) #[.C .Is (2) .H],.B (.A 4)<|.F (.D (0) "parts")<|.B 2,.D<|.K .ignore (3)<|.b (.f #[.l (4) .module,4]) (.a M #[4])<|.a M #[]] #[],.D<|.a M #[]]}
def MW:bb:={a:=1,c:=[],b:=#[.B (.B [1,2])<|.I #[.a Q #[],.q Q<|.G .H_ #[0]],.I (2) #[.B (.A 3)<|.h (2) .warn #[],.B (.A 4)<|.b (.C .Eq (.D (3) "kind") ("t_local")) (.a M #[.F (.D (3) "parts")<|.B 0])<|.G .F_ #[3],.G (.A 5) (.A (4)) #[.C (.C .NotIn (5) (1)) #[.A<|.h (1) .ignore #[5]] #[]],.B (.A 6)<|.a M #[],.G (.B [5,7]) (.E (.F (.m .ignore)<|.D (3) "kind")<|.D (3) "parts") #[.C (.j #[.C .NotIn (.D (3) "kind")<|.m .print,.C .In (5)<|.I #["singleton","superclass"],.f #[.C .Eq (.D (3) "kind") ("sclass"),.C .Eq (5) ("value")]]) #[.B (.A 6)<|.K .ignore (6)<|.G .H_ #[7]] #[]],.A<|.h (2) .raise #[.q M (6)]],.D<|.n (1)]}
def M7:bb:={a:=1,c:=[],b:=#[.C (.C .Is (0) .H) #[.D<|.a M #[]] #[],.F]}
def M':bb:={a:=1,c:=[],b:=#[.D<|.b (.l (0) .typeParameters) (.E (0) "told" #[]) (0)]}
def Mu:bb:={a:=1,c:=[],b:=#[.D<|.b (.C .Eq (0)<|.g<|.B 1) (.B 1) (0)]}
def M8:bb:={a:=1,c:=[],b:=#[.D<|.b (.C .Eq (0) ("pass")) (.B 1)<|.B 0]}
def MV:bb:={a:=1,c:=[],b:=#[.D<|.I #[.D (0) "a",.B 1]]}
def Nc:bb:={a:=1,c:=[],b:=#[.D<|.I #[.K .ignore (.K .ignore (.B 1)<|.G .bg_ #[.D (0) "b"])<|.G .bb_ #[.F (.D (0) "c")<|.B 1],.B 1]]}
def Mr:bb:={a:=1,c:=[],b:=#[.B (.A 1)<|.F (.m .warn)<|.D (0) "op",.D<|.b (.l (1) .typeVariable) (1)<|.s (1) #[0]]}
def Na:bb:={a:=3,c:=[],b:=#[.C (2) #[.A<|.E (0) "put" #["push",1]] #[]]}
def Mp:bb:={a:=3,c:=[],b:=#[.A<|.G .bm_ #[0,.F (.D (1) "parts")<|.B 0,2]]}
def Ml:bb:={a:=3,c:=[],b:=#[.A<|.E (0) "list_of" #[.F (.D (1) "parts")<|.B 0],.A<|.E (0) "told" #[2]]}
def Mo:bb:={a:=3,c:=[],b:=#[.C (2) #[.A<|.E (0) "load" #[.F (.D (1) "parts")<|.B 0]] #[]]}
def Mn:bb:={a:=3,c:=[],b:=#[.B (.B [3,4])<|.D (1) "parts",.C (.C .Is (3) .H) #[.A<|.E (0) "put" #["getc",4]] #[.F],.A<|.E (0) "told" #[2]]}
def Mq:bb:={a:=3,c:=[],b:=#[.B (.A 3)<|.F (.D (1) "parts")<|.B 0,.G (.A 4) (.A<|.e (3) .H<|.g<|.B 1) #[.F],.A<|.E (0) "body" #[.b (.C .Gt (.L .init (3))<|.B 0) (.F (3)<|.g<|.B 1) .H,2]]}
def Mm:bb:={a:=3,c:=[],b:=#[.F]}
def Nj:bb:={a:=1,c:=[],b:=#[.F]}
def Nh:bb:={a:=1,c:=[],b:=#[.F]}
def Ng:bb:={a:=1,c:=[],b:=#[.F]}
def Nm:bb:={a:=1,c:=[],b:=#[.F]}
def Nl:bb:={a:=1,c:=[],b:=#[.F]}
def Mc:bb:={a:=1,c:=[],b:=#[.F]}
def Mk:bb:={a:=1,c:=[],b:=#[.F]}
def Nd:bb:={a:=1,c:=[],b:=#[.F]}
def MS:bb:={a:=1,c:=[],b:=#[.B (.A 1)<|.B 0,.G (.A 2) (.A<|.e (0) .H<|.B 20) #[.B (.A 1)<|.K .ignore (.K .raise (1)<|.B 911)<|.b (.C .GtE (2)<|.B 0) (.K .raise (.B 3) (2))<|.K .warn (.B 1)<|.K .raise (.B 3) (2)],.D<|.r Q ["deep","walk","left","names"] #[.K .call (1)<|.K .log (.B 10)<|.B 105,.B 9,.b (.C .Gt (.L .init (0))<|.B 1) (.B 15)<|.B 4,.B 0]]}
def Mz:bb:={a:=2,c:=[],b:=#[.C (.C .Gt (.F (0) ("deep"))<|.B 0) #[.B (.A 2)<|.K .call (.F (0) ("deep")) (1),.H (0) ("deep")<|.K .print (.F (0) ("deep")) (1),.D (2)] #[],.H (0) ("walk")<|.K .call (.K .ignore (.K .raise (.F (0) ("walk"))<|.B 61)<|.B 29)<|.B 1009,.D<|.K .call (.K .print (.F (0) ("walk"))<|.B 5) (1)]}
def ME:bb:={a:=1,c:=[],b:=#[.H (0) ("names")<|.K .ignore (.F (0) ("names"))<|.B 1,.D<|.K .ignore ("n")<|.L .cdata<|.F (0) ("names")]}
def MR:bb:={a:=2,c:=[],b:=#[.B (.A 2)<|.b (.C .Gt (1)<|.B 0) (.G .B #[0,.B 6])<|.B 0,.C (.C .Lt (2)<|.B 2) #[.D<|.G .B #[0,.B 3]] #[],.C (.C .Eq (2)<|.B 2) #[.D<|.K .ignore (.a M #["row"])<|.d M (.G .I #[0,.K .warn (1)<|.B 1]) (.A 3) (.B<|.G .B #[0,.B 4]) #[]] #[],.C (.C .Eq (2)<|.B 3) #[.D<|.K .ignore (.a M #["card"])<|.d M (.I #[4,.G .I #[0,.K .warn (1)<|.B 1]]) (.A 4) (.D<|.G .B #[0,.B 4]) #[]] #[],.B (.A 5)<|.F (.a M #[.a M #["row",.B 1,.B 2],.a M #["card",.I #["x",.B 1],.I #["y",.B 0]],.B 6,.a M #["card"]])<|.G .B #[0,.B 4],.D<|.a M #["wrap",5]]}
def MO:bb:={a:=1,c:=[],b:=#[.D<|.b (.l (0) .typeAlias) (.F (0)<|.B 0) ("number")]}
def MA:bb:={a:=3,c:=[],b:=#[.H (0) ("left")<|.K .warn (.F (0) ("left"))<|.B 1,.C (.f #[.l (1) .typeAlias,.C .Eq (.F (1)<|.B 0) ("wrap")]) #[.B (.A 3)<|.F (1)<|.B 1] #[.B (.A 3) (1)],.B (.A 4)<|.a M #["name","kind","number","kept"],.C (.f #[.C .Gt (2)<|.B 0,.C .Gt (.F (0) ("left"))<|.B 0]) #[.B (.A 4)<|.a M #["row","card","own","either","behind","own","name","kind"]] #[],.B (.A 5)<|.F (4)<|.G .B #[0,.L .init (4)],.B (.A 5)<|.b (.C .Eq (5) ("own")) (.G .E #[3]) (5),.C (.C .Eq (5) ("name")) #[.D<|.I #[5,.G .A_ #[0]]] #[],.C (.C .Eq (5) ("kind")) #[.D<|.I #[5,.F (.a M #[.G .E #[1],"row","number","thing"])<|.G .B #[0,.B 4]]] #[],.C (.C .Eq (5) ("kept")) #[.D<|.I #[5]] #[],.C (.C .Eq (5) ("number")) #[.D<|.I #[5,.G .B #[0,.B 3]]] #[],.C (.C .Eq (5) ("either")) #[.D<|.I #[5,.d M (.G .D #[0,1,.K .warn (2)<|.B 1]) (.A 6) (.B<|.B 2) #[]]] #[],.C (.C .Eq (5) ("behind")) #[.D<|.I #[5,.G .D #[0,1,.K .warn (2)<|.B 1],.G .A_ #[0]]] #[],.B (.A 7)<|.F (.a M #[.H,.H,.G .E #[1],"number"])<|.G .B #[0,.B 4],.C (.C .Eq (5) ("row")) #[.D<|.G .J_ #[0,.b (.C .Eq (.G .E #[3]) ("row")) (.e (3) (.B 1) .H)<|.a M #[],7,2]] #[],.D<|.G .j_ #[0,.b (.C .Eq (.G .E #[3]) ("card")) (.e (3) (.B 1) .H)<|.a M #[],7,2]]}
def ML:bb:={a:=4,c:=[],b:=#[.B (.A 4)<|.F (.a M #[.H,"","name"])<|.G .B #[0,.B 3],.B (.A 4)<|.b (.C .Eq (4) ("name")) (.G .A_ #[0]) (4),.B (.A 5)<|.b (.C .Is (4) .H) (.L .init (1))<|.G .B #[0,.K .ignore (.L .init (1))<|.B 1],.B (.A 7)<|.d Q (.G .D #[0,6,.K .warn (3)<|.B 1]) (.A 6) (.A<|.e (1) .H (5)) #[],.C (.C .Eq (.G .B #[0,.B 5])<|.B 4) #[.A<|.h (7) .ignore #[.I #["name",.G .A_ #[0]]]] #[],.B (.A 9)<|.b (.C .Is (4) .H) (.a M #[])<|.d M (.G .D #[0,8,.K .warn (3)<|.B 1]) (.A 8) (.A<|.e (1) (.K .ignore (5)<|.G .B #[0,.B 2]) .H) #[],.D<|.I #["row",2,.n (7),4,9]]}
def My:bb:={a:=4,c:=[],b:=#[.B (.A 4)<|.a Q #[],.G (.B [5,6]) (.A (1)) #[.B (.A 7)<|.G .B #[0,.B 4],.C (.C .Gt (7)<|.B 0) #[.A<|.h (4) .ignore #[.I #[5,.b (.C .Eq (7)<|.B 1) .H<|.G .D #[0,6,.K .warn (3)<|.B 1]]]] #[]],.C (.C .Eq (.G .B #[0,.B 7])<|.B 6) #[.A<|.h (4) .ignore #[.I #["w",.H]]] #[],.B (.A 8)<|.F (.a M #[.H,"none","name",.H])<|.G .B #[0,.B 4],.D<|.I #["card",2,.n (4),.b (.C .Eq (8) ("name")) (.G .A_ #[0]) (8)]]}
def MG:bb:={a:=1,c:=[],b:=#[.B (.A 1)<|.F (0)<|.B 0,.C (.C .Eq (1) ("name")) #[.D<|.c .A #["p_bind",.I #[.F (0)<|.B 1]]] #[],.C (.C .Eq (1) ("kind")) #[.D<|.c .A #["p_value",.I #[.c .A #["const",.I #[.H,.F (0)<|.B 1]]]]] #[],.C (.C .Eq (1) ("number")) #[.D<|.c .A #["p_value",.I #[.c .A #["int",.I #[.F (0)<|.B 1]]]]] #[],.C (.C .Eq (1) ("kept")) #[.D<|.c .A #["p_pin",.I #[.c .A #["lvar",.I #["kept"]]]]] #[],.C (.C .Eq (1) ("either")) #[.D<|.c .A #["p_alt",.I #[.d M (.G .C #[2]) (.A 2) (.A<|.F (0)<|.B 1) #[]]]] #[],.C (.C .Eq (1) ("behind")) #[.D<|.c .A #["p_as",.I #[.G .C #[.F (0)<|.B 1],.F (0)<|.B 2]]] #[],.B (.A 3)<|.b (.C .Is (.F (0)<|.B 1) .H) .H<|.c .A #["const",.I #[.H,.F (0)<|.B 1]],.C (.C .Eq (1) ("row")) #[.B (.B [6,7])<|.d M (.d M (.G .C #[5]) (.A 5) (.A<|.F (0) (4)) #[]) (.A 4) (.A<|.I #[.B 2,.B 4]) #[],.D<|.c .A #["p_array",.I #[3,6,.F (0)<|.B 3,7]]] #[],.B (.A 10)<|.d M (.I #[8,.b (.C .Is (9) .H) .H<|.G .C #[9]]) (.B [8,9]) (.A<|.F (0)<|.B 2) #[],.D<|.c .A #["p_hash",.I #[3,10,.b (.C .Eq (.F (0)<|.B 3) ("none")) (.i Q)<|.F (0)<|.B 3]]]}
def Mw:bb:={a:=2,c:=[],b:=#[.D<|.r Q ["asked","names","accident","ended","count"] #[.a Q #[],.r Q ["kept","it"] #[.B 1,0],1,.H,.B 0]]}
def MH:bb:={a:=2,c:=[],b:=#[.A<|.h (.F (0) ("asked")) .ignore #[1],.H (0) ("count")<|.K .ignore (.F (0) ("count"))<|.B 1,.C (.C .Eq (.F (0) ("count"))<|.F (0) ("accident")) #[.H (0) ("ended") ("accident")] #[],.D<|.C .Eq (.F (0) ("count"))<|.F (0) ("accident")]}
def MP:bb:={a:=3,c:=[],b:=#[.C (.C .Eq (1) ("StandardError")) #[.D<|.i Q] #[],.C (.G .I_ #[0,.a M #["takes",1,2]]) #[.D<|.i M] #[],.D<|.j #[.C .Eq (1) ("thing"),.C .Eq (1)<|.G .E #[2],.f #[.k<|.l (1) .module,.C .Eq (1) (2)]]]}
def MQ:bb:={a:=4,c:=[],b:=#[.D<|.b (.G .I_ #[0,.a M #["tells",2,3]]) .H<|.F (1)<|.B 1]}
def Mx:bb:={a:=2,c:=[],b:=#[.C (.C .NotEq (.G .E #[0]) ("wrap")) #[.D<|.i M] #[],.D<|.C .Eq (1)<|.h (.r M ["row","card"] #["deconstruct","deconstruct_keys"]) .call #[.G .E #[.F (0)<|.B 1],1]]}
def MF:bb:={a:=4,c:=[],b:=#[.B (.A 4)<|.b (.C .Eq (2) ("row")) ("deconstruct") ("deconstruct_keys"),.C (.C .NotEq (.G .E #[1]) (2)) #[.C (.k<|.G .s_ #[1,4]) #[.D .H] #[],.B (.A 1)<|.G .l_ #[0,1,4,3],.C (.f #[.C .Is (.F (0) ("ended")) .H,.C .NotEq (.G .E #[1]) (2)]) #[.H (0) ("ended") (4)] #[]] #[],.D<|.b (.C .Is (.F (0) ("ended")) .H) (.e (1) (.B 1) .H) .H]}
def MI:bb:={a:=3,c:=[],b:=#[.B (.A 3)<|.F (1)<|.B 0,.C (.C .IsNot (.F (0) ("ended")) .H) #[.D<|.i M] #[],.C (.C .In (3)<|.I #["kind","number","kept"]) #[.D<|.G .K #[0,.b (.C .Eq (3) ("kept")) (.F (.F (0) ("names")) ("kept"))<|.F (1)<|.B 1,2]] #[],.C (.C .Eq (3) ("name")) #[.H (.F (0) ("names")) (.F (1)<|.B 1) (2)] #[],.C (.C .Eq (3) ("either")) #[.D<|.j #[.G .F #[0,.F (.F (1)<|.B 1)<|.B 0,2],.G .F #[0,.F (.F (1)<|.B 1)<|.B 1,2]]] #[],.C (.C .Eq (3) ("behind")) #[.D<|.f #[.G .F #[0,.F (1)<|.B 1,2],.G .F #[0,.I #["name",.F (1)<|.B 2],2]]] #[],.C (.C .Eq (3) ("row")) #[.D<|.G .b_ #[0,1,2]] #[],.D<|.j #[.C .Eq (3) ("name"),.G .d_ #[0,1,2]]]}
def MK:bb:={a:=3,c:=[],b:=#[.B (.B [3,4,5,6])<|.e (1) (.B 1) .H,.C (.f #[.C .IsNot (3) .H,.k<|.G .K #[0,3,2]]) #[.D<|.i M] #[],.B (.A 7)<|.G .e_ #[0,2,"row","-"],.C (.j #[.C .Is (7) .H,.C .Lt (.L .init (7))<|.K .ignore (.L .init (4))<|.L .init (6),.f #[.C .Is (5) .H,.C .Gt (.L .init (7))<|.L .init (4)]]) #[.D<|.i M] #[],.B (.A 8)<|.K .warn (.L .init (7))<|.L .init (6),.B (.A 9)<|.K .ignore (.u (4) (7))<|.K .raise (.a M #[.I #[.I #["name",5],.K .ignore (.a M #["row"])<|.e (7) (.L .init (4)) (8)]])<|.L .prolog<|.L .content (5),.G (.B [10,11]) (.A<|.K .ignore (9)<|.u (6)<|.e (7) (8) .H) #[.C (.k<|.G .F #[0,10,11]) #[.D<|.i M] #[]],.D<|.i Q]}
def MJ:bb:={a:=3,c:=[],b:=#[.B (.B [3,4,5])<|.e (1) (.B 1) .H,.C (.f #[.C .IsNot (3) .H,.k<|.G .K #[0,3,2]]) #[.D<|.i M] #[],.B (.A 6)<|.f #[.C .IsNot (5) .H,.C .NotEq (5) ("none")],.B (.A 9)<|.G .e_ #[0,2,"card",.b (6) .H<|.d M (7) (.B [7,8]) (.A (4)) #[]],.C (.C .Is (9) .H) #[.D<|.i M] #[],.G (.B [10,11]) (.A (4)) #[.B (.A 14)<|.d M (13) (.B [12,13]) (.A (9)) #[.C .Eq (12) (10)],.C (.j #[.C .Eq (14)<|.a M #[],.k<|.G .F #[0,.b (.C .Is (11) .H) (.I #["name",10]) (11),.F (14)<|.B 0]]) #[.D<|.i M] #[]],.B (.A 18)<|.d M (15) (.A 15) (.A (9)) #[.C .NotIn (.F (15)<|.B 0)<|.d M (16) (.B [16,17]) (.A (4)) #[]],.C (6) #[.H (.F (0) ("names")) (5)<|.K .ignore (.a M #["card"]) (18)] #[],.D<|.j #[6,.C .Eq (18)<|.a M #[],.f #[.C .Is (5) .H,.C .NotEq (4)<|.a M #[]]]]}
def MT:bb:={a:=4,c:=[],b:=#[.C (.C .Lt (1)<|.B 2) #[.G (.B [4,5]) (.C (2)) #[.C (.G .F #[0,5,3]) #[.D (4)] #[]],.C (.f #[.C .Eq (1)<|.B 0,.C .Is (.F (0) ("ended")) .H]) #[.H (0) ("ended") ("nothing")] #[],.D<|.b (.C .Eq (1)<|.B 1) (.B 9) .H] #[],.B (.A 6)<|.G .F #[0,.F (2)<|.B 0,3],.C (.f #[.C .Eq (1)<|.B 3,.k (6),.C .Is (.F (0) ("ended")) .H]) #[.H (0) ("ended") ("nothing")] #[],.D<|.b (.C .Eq (1)<|.B 2) (6) .H]}
def Mv:bb:={a:=3,c:=[],b:=#[.C (.C .Gt (1)<|.B 1) #[.B (.A 2)<|.b (.C .IsNot (.F (0) ("ended")) .H) (.B 77) (2),.H (0) ("ended") .H,.H (.F (0) ("names")) ("over")<|.F (.F (0) ("names")) ("it")] #[],.D<|.b (.C .Eq (.K .call (1)<|.B 2)<|.B 1) (.a M #["row",.B 4,2]) (2)]}
def MC:bb:={a:=3,c:=[],b:=#[.C (.C .In (.D (1) "op")<|.I #["islist","istable"]) #[.D<|.C .Eq (.G .E #[2])<|.b (.C .Eq (.D (1) "op") ("islist")) ("row") ("card")] #[],.C (.C .Eq (.D (1) "op") ("respond")) #[.D<|.G .s_ #[2,.D (1) "a"]] #[],.C (.C .Eq (.D (1) "op") ("listfits")) #[.D<|.b (.D (1) "b") (.C .Eq (.K .warn (.L .init (2))<|.B 1)<|.D (1) "a")<|.C .GtE (.K .warn (.L .init (2))<|.B 1)<|.D (1) "a"] #[],.C (.C .Eq (.D (1) "op") ("listat")) #[.D<|.b (.C .GtE (.D (1) "a")<|.B 0) (.F (2)<|.K .ignore (.D (1) "a")<|.B 1)<|.F (2)<|.D (1) "a"] #[],.C (.C .Eq (.D (1) "op") ("listpart")) #[.D<|.K .ignore (.a M #["row"])<|.e (2) (.K .ignore (.B 1)<|.D (1) "a")<|.K .warn (.L .init (2))<|.D (1) "b"] #[],.C (.C .Eq (.D (1) "op") ("tablehas")) #[.D<|.C .In (.D (1) "a")<|.d M (3) (.B [3,4]) (.A<|.e (2) (.B 1) .H) #[]] #[],.C (.C .Eq (.D (1) "op") ("tableat")) #[.D<|.F (.L .ext3<|.e (2) (.B 1) .H)<|.D (1) "a"] #[],.B (.A 6)<|.d M (5) (.A 5) (.A<|.e (2) (.B 1) .H) #[.C .NotIn (.F (5)<|.B 0)<|.D (1) "a"],.D<|.b (.C .Eq (.D (1) "op") ("tableonly")) (.C .Eq (6)<|.a M #[])<|.K .ignore (.a M #["card"]) (6)]}
def MN:bb:={a:=3,c:=[],b:=#[.C (.C .Eq (.D (1) "a") ("raise")) #[.H (0) ("ended")<|.b (.C .Eq (.e (.F (2)<|.g<|.B 1) .H<|.B 12) ("deconstruct ")) ("deconstruct") ("deconstruct_keys"),.D<|.K .ignore (.e (2) .H<|.g<|.B 3)<|.a M #[.H]] #[],.C (.C .Eq (.D (1) "a") ("===")) #[.D<|.K .ignore (.e (2) .H<|.g<|.B 2)<|.a M #[.G .K #[0,.F (2)<|.g<|.B 2,.F (2)<|.g<|.B 1]]] #[],.C (.C .Eq (.D (1) "b")<|.B 1) #[.D<|.K .ignore (.e (2) .H<|.g<|.B 2)<|.a M #[.G .l_ #[0,.F (2)<|.g<|.B 2,.D (1) "a",.b (.C .Is (.F (2)<|.g<|.B 1) .H) .H<|.e (.F (2)<|.g<|.B 1) (.B 1) .H]]] #[],.D<|.K .ignore (.e (2) .H<|.g<|.B 1)<|.a M #[.G .l_ #[0,.F (2)<|.g<|.B 1,.D (1) "a","-"]]]}
def MD:bb:={a:=4,c:=[],b:=#[.C (.C .In (.D (1) "op")<|.I #["push","text","getc","self","getg","getl"]) #[.B (.A 4)<|.h (.r M ["self","getg"] #["me",.H]) .call #[.D (1) "op",.D (1) "a"],.D<|.I #[.K .ignore (2)<|.a M #[.b (.C .Eq (.D (1) "op") ("getl")) (.F (3)<|.D (1) "b") (4)],.H]] #[],.C (.C .In (.D (1) "op")<|.I #["pop","setcaught","setl"]) #[.C (.C .Eq (.D (1) "op") ("setl")) #[.H (3) (.D (1) "b")<|.F (2)<|.g<|.B 1] #[],.D<|.I #[.e (2) .H<|.g<|.B 1,.H]] #[],.C (.C .Eq (.D (1) "op") ("jump")) #[.D<|.I #[2,.D (1) "a"]] #[],.C (.C .In (.D (1) "op")<|.I #["jumpif","jumpunless"]) #[.B (.A 5)<|.f #[.C .IsNot (.F (2)<|.g<|.B 1) .H,.C .NotEq (.L .epilog<|.F (2)<|.g<|.B 1) ("False")],.D<|.I #[.e (2) .H<|.g<|.B 1,.b (.C .Eq (5)<|.C .Eq (.D (1) "op") ("jumpif")) (.D (1) "a") .H]] #[],.C (.C .Eq (.D (1) "op") ("list")) #[.D<|.I #[.K .ignore (.e (2) .H<|.K .warn (.L .init (2))<|.D (1) "a")<|.a M #[.K .ignore (.a M #["row"])<|.e (2) (.K .warn (.L .init (2))<|.D (1) "a") .H],.H]] #[],.C (.C .Eq (.D (1) "op") ("send")) #[.D<|.I #[.G .B_ #[0,1,2],.H]] #[],.C (.C .Eq (.D (1) "op") ("nomatch")) #[.H (0) ("ended") ("nothing"),.D<|.I #[.e (2) .H<|.g<|.B 1,.H]] #[],.C (.C .In (.D (1) "op")<|.I #["caught","again"]) #[.C (.C .Eq (.D (1) "op") ("again")) #[.F] #[],.D<|.I #[.K .ignore (.e (2) .H<|.g<|.B 1)<|.K .raise (.a M #["error"])<|.L .prolog<|.C .Eq (.D (1) "op") ("caught"),.H]] #[],.D<|.I #[.K .ignore (.e (2) .H<|.g<|.B 1)<|.a M #[.G .t_ #[0,1,.F (2)<|.g<|.B 1]],.H]]}
def MM:bb:={a:=2,c:=[],b:=#[.B (.B [3,4,5,6])<|.I #[.a M #[],.d Q (.h (.F (1) ("names")) .call #[2]) (.A 2) (.A<|.D (0) "slots") #[],.B 0,.H],.G (.A 7) (.B<|.B 2500) #[.B (.A 8)<|.F (.D (0) "rows") (5),.C (.C .Eq (.D (8) "op") ("leave")) #[.B (.A 6)<|.F (3)<|.g<|.B 1,.K] #[],.B (.B [3,9])<|.G .ay_ #[1,8,3,4],.B (.A 11)<|.d M (10) (.A 10) (.A<|.D (0) "catches") #[.t .LtE .Lt (.D (10) "first") (5)<|.D (10) "last"],.B (.A 5)<|.b (.C .Is (9) .H) (.K .ignore (5)<|.B 1) (9),.C (.C .IsNot (.F (1) ("ended")) .H) #[.C (.C .Eq (11)<|.a M #[]) #[.K] #[],.B (.B [3,5])<|.I #[.K .ignore (.e (3) .H<|.D (.F (11)<|.B 0) "depth")<|.a M #[.F (1) ("ended")],.D (.F (11)<|.B 0) "target"],.H (1) ("ended") .H] #[]],.G (.B [12,13]) (.C<|.D (0) "slots") #[.C (.f #[.C .NotEq (.F (13)<|.B 0) ("%"),.C .IsNot (.F (4) (12)) .H]) #[.H (.F (1) ("names")) (13)<|.F (4) (12)] #[]],.D (6)]}
def MB:bb:={a:=2,c:=[],b:=#[.B (.A 2)<|.c .A #["seq",.I #[.a M #[0]]],.C (.C .Gt (1)<|.B 1) #[.B (.A 3)<|.a M #[.I #[.a M #[],.H,.c .A #["seq",.I #[.a M #[.c .A #["int",.I #[.B 77]]]]]]],.B (.A 4)<|.c .A #["seq",.I #[.a M #[.c .A #["matchp",.I #[.c .A #["lvar",.I #["it"]],.c .A #["p_bind",.I #["over"]]]]]]],.B (.A 2)<|.c .A #["seq",.I #[.a M #[.c .A #["begin",.I #[2,3,.H,4]]]]]] #[],.D<|.b (.C .Eq (.K .call (1)<|.B 2)<|.B 1) (.c .A #["seq",.I #[.a M #[.c .A #["array",.I #[.a M #[.c .A #["int",.I #[.B 4]],2]]]]]]) (2)]}
def MU:bb:={a:=1,c:=[],b:=#[.B (.B [1,2])<|.I #[.G .i_ #[0],.b (.C .Lt (.L .init (0))<|.B 2) (.B 1)<|.B 2],.B (.B [3,4,5])<|.I #[.G .B #[1,.B 4],.G .B #[1,.B 4],.G .I #[1,2]],.B (.A 7)<|.d M (.G .D #[1,5,.K .ignore (2)<|.B 1]) (.A 6) (.B<|.K .ignore (.B 1)<|.L .prolog<|.f #[.C .Lt (3)<|.B 2,.C .Gt (.L .init (0))<|.B 1]) #[],.B (.A 8)<|.c .A #["lvar",.I #["it"]],.B (.A 9)<|.c .A #[.F (.a M #["matchp","matchq"])<|.K .call (3)<|.B 2,.I #[8,.G .C #[.F (7)<|.B 0]]],.C (.C .Lt (3)<|.B 2) #[.B (.A 12)<|.d M (.I #[.G .C #[11],.H,.c .A #["int",.I #[10]]]) (.B [10,11]) (.C (7)) #[],.B (.A 9)<|.c .A #["casein",.I #[8,12,.b (.C .Eq (3)<|.B 0) .H<|.c .A #["int",.I #[.B 9]]]]] #[],.B (.A 13)<|.G .h_ #[9,4],.B (.A 14)<|.r Q ["seq","int","lvar","const","call","array"] #[.o .ar_,.o .ao_,.o .aH_,.o .aF_,.o .am_,.o .av_],.A<|.h (14) .print #[.r M ["begin","casein","matchp","matchq"] #[.o .z_,.o .aC_,.o .an_,.o .ak_]],.B (.A 15)<|.E (.c .K #[.n (14),"program",.H,.K .ignore (.a M #["kept","it"])<|.G .D_ #[13]]) "code" #[13,"program"],.G (.A 16) (.B<|.b (.C .Lt (.L .init (0))<|.B 2) (.B 3)<|.B 6) #[.B (.B [17,18])<|.I #[.G .C_ #[5,16],.G .C_ #[5,16]],.B (.A 19)<|.G .o_ #[17,4,.G .m_ #[17,3,7,5]],.B (.A 19)<|.b (.C .IsNot (.F (17) ("ended")) .H) .H (19),.B (.A 20)<|.G .K_ #[15,18],.C (.C .NotEq (.L .epilog<|.a M #[19,.n<|.F (17) ("asked"),.F (17) ("ended")])<|.L .epilog<|.a M #[20,.n<|.F (18) ("asked"),.F (18) ("ended")]) #[.D<|.i M] #[],.C (.C .NotEq (.p<|.F (17) ("names"))<|.p<|.F (18) ("names")) #[.D<|.i M] #[]],.D<|.i Q]}
def L4:bb:={a:=2,c:=[],b:=#[.E (0) "height" (1),.E (0) "first" .H,.E (0) "pieces"<|.a Q #[]]}
def L5:bb:={a:=2,c:=[],b:=#[.E (0) "first"<|.L .init<|.D (1) "rows"]}
def L3:bb:={a:=2,c:=[],b:=#[.C (.C .Gt (.L .init<|.D (1) "rows")<|.D (0) "first") #[.A<|.h (.D (0) "pieces") .ignore #[.I #[.D (0) "first",.L .init<|.D (1) "rows"]]] #[],.E (0) "first" .H]}
def L2:bb:={a:=4,c:=[],b:=#[.G (.B [4,5]) (.A<|.n<|.D (0) "pieces") #[.A<|.E (1) "catch" #[2,4,5,3,.D (0) "height"]]]}
def LP:bb:={a:=3,c:=[],b:=#[.A<|.v .I #[0,1],.E (0) "node" (2)]}
def LR:bb:={a:=4,c:=[],b:=#[.A<|.v .I #[0,1],.E (0) "kept" (2),.E (0) "again" (3)]}
def LQ:bb:={a:=2,c:=[],b:=#[.A<|.E (.D (1) "maker") "put" #["getl",.B 0,.D (0) "kept"],.A<|.E (.D (1) "maker") "put" #["setcaught"]]}
def L1:bb:={a:=4,c:=[.F [],.A 0],b:=#[.C (.j #[.C .NotIn (1)<|.m .ignore,.C .NotEq (.L .init<|.F (.m .ignore) (1))<|.L .init (2)]) #[.F] #[],.E (0) "kind" (1),.E (0) "parts"<|.L .ext2 (2),.E (0) "line" (3),.E (0) "own" .H]}
def L6:bb:={a:=6,c:=[.C,.C,.C,.A 0],b:=#[.E (0) "op" (1),.E (0) "a" (2),.E (0) "b" (3),.E (0) "c" (4),.E (0) "line" (5)]}
def L7:bb:={a:=2,c:=[],b:=#[.D<|.c .H #[.D (0) "op",1,.D (0) "b",.D (0) "c",.D (0) "line"]]}
def LB:bb:={a:=6,c:=[],b:=#[.E (0) "sort" (1),.E (0) "first" (2),.E (0) "last" (3),.E (0) "target" (4),.E (0) "depth" (5)]}
def LC:bb:={a:=9,c:=[],b:=#[.E (0) "kind" (1),.E (0) "name" (2),.E (0) "params" (3),.E (0) "slots" (4),.E (0) "rows" (5),.E (0) "catches" (6),.E (0) "children" (7),.E (0) "starts" (8),.E (0) "number" .H]}
def LS:bb:={a:=1,c:=[],b:=#[.E (0) "place" .H]}
def LU:bb:={a:=1,c:=[],b:=#[.C (.C .Is (.D (0) "place") .H) #[.F] #[],.D<|.D (0) "place"]}
def LX:bb:={a:=1,c:=[],b:=#[.E (0) "rows"<|.a Q #[],.E (0) "catches"<|.a Q #[],.E (0) "children"<|.a M #[],.E (0) "starts"<|.a M #[],.E (0) "line"<|.B 0,.E (0) "height"<|.B 0]}
def L0:bb:={a:=5,c:=[.C,.C,.C],b:=#[.B (.A 5)<|.c .H #[1,2,3,4,.D (0) "line"],.A<|.h (.D (0) "rows") .ignore #[5],.B (.B [6,7])<|.G .at_ #[5],.E (0) "height"<|.K .ignore (.K .warn (.D (0) "height") (6)) (7),.D<|.K .warn (.L .init<|.D (0) "rows")<|.B 1]}
def LY:bb:={a:=1,c:=[],b:=#[.D<|.c .B #[]]}
def LZ:bb:={a:=2,c:=[],b:=#[.C (.C .IsNot (.D (1) "place") .H) #[.F] #[],.E (1) "place"<|.L .init<|.D (0) "rows"]}
def LV:bb:={a:=6,c:=[],b:=#[.A<|.h (.D (0) "catches") .ignore #[.c .G #[1,2,3,4,5]]]}
def LW:bb:={a:=5,c:=[],b:=#[.B (.A 6)<|.d M (.b (.C .In (.D (5) "op")<|.m .call) (.E (5) "with_target" #[.G .G #[.D (5) "a"]]) (5)) (.A 5) (.A<|.n<|.D (0) "rows") #[],.B (.A 7)<|.a Q #[],.G (.A 8) (.A<|.n<|.D (0) "catches") #[.B (.B [9,10])<|.I #[.G .G #[.D (8) "first"],.G .G #[.D (8) "last"]],.C (.C .Lt (9) (10)) #[.A<|.h (7) .ignore #[.c .G #[.D (8) "sort",9,10,.G .G #[.D (8) "target"],.D (8) "depth"]]] #[]],.B (.A 12)<|.b (.C .Gt (.L .init<|.D (0) "starts")<|.B 0) (.d M (.G .G #[11]) (.A 11) (.A<|.D (0) "starts") #[])<|.a M #[.B 0],.D<|.c .L #[1,2,3,4,6,.n (7),.D (0) "children",12]]}
def L':bb:={a:=3,c:=[],b:=#[.E (0) "names"<|.a Q #[],.G (.A 3) (.A (1)) #[.C (.C .NotIn (3)<|.D (0) "names") #[.A<|.h (.D (0) "names") .ignore #[3]] #[]],.E (0) "outer" (2)]}
def L8:bb:={a:=2,c:=[],b:=#[.A<|.h (.D (0) "names") .ignore #[1],.D<|.K .warn (.L .init<|.D (0) "names")<|.B 1]}
def L9:bb:={a:=2,c:=[],b:=#[.B (.B [2,3])<|.I #[0,.B 0],.I (.C .IsNot (2) .H) #[.C (.C .In (1)<|.D (2) "names") #[.D<|.I #[3,.h (.D (2) "names") .log #[1]]] #[],.B (.B [2,3])<|.I #[.D (2) "outer",.K .ignore (3)<|.B 1]],.D .H]}
def LI:bb:={a:=6,c:=[.E<|.A "program",.C,.F [],.C],b:=#[.E (0) "table" (1),.E (0) "kind" (2),.E (0) "params" (3),.E (0) "maker"<|.c .F #[],.E (0) "scope"<|.c .E #[.K .ignore (.G .u_ #[3])<|.L .error (4),5],.E (0) "ways"<|.a Q #[]]}
def LM:bb:={a:=5,c:=[.C,.C,.C],b:=#[.D<|.E (.D (0) "maker") "put" #[1,2,3,4]]}
def LL:bb:={a:=3,c:=[.G Q],b:=#[.C (.C .NotIn (.D (1) "kind")<|.D (0) "table") #[.F] #[],.E (.D (0) "maker") "line"<|.D (1) "line",.A<|.s (.F (.D (0) "table")<|.D (1) "kind") #[0,1,2]]}
def LD:bb:={a:=3,c:=[.G Q],b:=#[.C (.C .IsNot (1) .H) #[.A<|.E (0) "node" #[1,2]] #[.F]]}
def LO:bb:={a:=2,c:=[],b:=#[.C (.k (1)) #[.F] #[]]}
def LN:bb:={a:=2,c:=[],b:=#[.B (.A 2)<|.E (.D (0) "scope") "find" #[1],.D<|.b (.C .Is (2) .H) (.I #[.B 0,.E (.D (0) "scope") "add" #[1]]) (2)]}
def LH:bb:={a:=1,c:=[],b:=#[.D<|.E (.D (0) "scope") "add" #[.K .ignore ("%")<|.L .cdata<|.L .init<|.D (.D (0) "scope") "names"]]}
def LK:bb:={a:=2,c:=[],b:=#[.B (.B [2,3])<|.E (0) "slot" #[1],.A<|.E (0) "put" #["getl",2,3]]}
def LJ:bb:={a:=2,c:=[],b:=#[.B (.B [2,3])<|.I #[.B 0,.i M],.G (.A 4) (.A (1)) #[.C (.C .NotEq (.D (4) "kind") ("splat")) #[.A<|.E (0) "node" #[4],.C (3) #[.F] #[.J 2<|.B 1],.L] #[],.F],.C (.k (3)) #[.A<|.E (0) "put" #["list",2]] #[]]}
def LG:bb:={a:=1,c:=[],b:=#[.C (.j #[.C .Is (.D (0) "params") .H,.C .Eq (.L .init<|.D (.D (0) "params") "optional")<|.B 0]) #[.a] #[],.F]}
def LF:bb:={a:=3,c:=[],b:=#[.A<|.E (0) "defaults" #[],.A<|.E (0) "body" #[1],.A<|.E (0) "put" #["leave"],.B (.A 3)<|.b (.C .In (.D (0) "kind")<|.m .log) ("block")<|.D (0) "kind",.D<|.E (.D (0) "maker") "done" #[3,2,.D (0) "params",.n<|.D (.D (0) "scope") "names"]]}
def LA:R<|bb×R aC×R U:=[
 (Nk,["compiler","value","wanted"],[0,1,2]),
 (Mb,["compiler","name","argc","kind"],[0,1,2,3]),
 (Nf,["compiler","subject"],[0,1]),
 (Mf,["compiler","node","wanted","subject","arms","other","maker","base","held","done","pattern","guard","body","following"],[0,1,2,3,4,5,6,7,8,9,10,11,12,13]),
 (Mh,["compiler","node","wanted","maker","base","held","fail","done"],[0,1,2,3,4,5,6,7]),
 (Mi,["compiler","node","wanted","maker","base","held","fail","done"],[0,1,2,3,4,5,6,7]),
 (MX,["compiler","pattern","held","fail"],[0,1,2,3]),
 (Ma,["compiler","name","held","depth","index"],[0,1,2,3,4]),
 (M4,["compiler","pattern","held","fail"],[0,1,2,3]),
 (M1,["compiler","pattern","held","fail"],[0,1,2,3]),
 (MY,["compiler","pattern","held","fail","maker","done","several","one","following"],[0,1,2,3,4,5,6,7,8]),
 (M0,["compiler","pattern","held","fail"],[0,1,2,3]),
 (M5,["compiler","const","held","fail"],[0,1,2,3]),
 (Nb,["compiler","message","maker"],[0,1,2]),
 (Ni,["compiler","held","fail","is_one","name","keys","message","maker","made","own","done","key"],[0,1,2,3,4,5,6,7,8,9,10,11]),
 (M3,["compiler","pattern","made","op","key","fail","maker","part"],[0,1,2,3,4,5,6,7]),
 (MZ,["compiler","pattern","held","fail","const","pre","rest","post","maker","made","at","one","depth","index"],[0,1,2,3,4,5,6,7,8,9,10,11,12,13]),
 (M2,["compiler","pattern","held","fail","const","pairs","rest","name","one","maker","names","message","keys","made","name","one","depth","index"],[0,1,2,3,4,5,6,9,10,11,12,13,14,15,16,17]),
 (Mt,["compiler","part"],[0,1]),
 (Ms,["compiler","part"],[0,1]),
 (Me,["compiler","node","wanted","ensure","maker","base","target","done","part","way"],[0,1,2,3,4,5,6,7,8,9]),
 (Mj,["compiler","node","wanted","body","rescues","other","ensure","maker","base","again","target","done","part"],[0,1,2,3,4,5,6,7,8,9,10,11,12]),
 (Mg,["compiler","rescues","handler","wanted","done","maker","way","error","other_way","classes","target","body","found","following","later"],[0,1,2,3,4,5,6,7,8,9,10,11,12,13,14]),
 (Md,["compiler","classes","error","found","maker","item"],[0,1,2,3,4,5]),
 (M6,["thing","found","item"],[0,1,2]),
 (M9,["node","name","pattern","found","rest"],[0,3,4]),
 (MW,["body","found","waiting","here","names","name","within","part"],[0,1,2,3,4,5,6,7]),
 (M7,["params"],[0]),
 (M',["told"],[0]),
 (Mu,["argc"],[0]),
 (M8,["block"],[0]),
 (MV,["row"],[0]),
 (Nc,["row"],[0]),
 (Mr,["row","told"],[0,1]),
 (Na,["compiler","value","wanted"],[0,1,2]),
 (Mp,["compiler","tree","wanted"],[0,1,2]),
 (Ml,["compiler","tree","wanted"],[0,1,2]),
 (Mo,["compiler","tree","wanted"],[0,1,2]),
 (Mn,["compiler","tree","wanted","scope","name"],[0,1,2,3,4]),
 (Mq,["compiler","tree","wanted","items","item"],[0,1,2,3,4]),
 (Mm,["compiler","tree","wanted"],[]),
 (Nj,["row"],[]),
 (Nh,["row"],[]),
 (Ng,["row"],[]),
 (Nm,["row"],[]),
 (Nl,["row"],[]),
 (Mc,["row"],[]),
 (Mk,["row"],[]),
 (Nd,["row"],[]),
 (MS,["script","deep","cell"],[0,1,2]),
 (Mz,["urn","many","lot"],[0,1,2]),
 (ME,["urn"],[0]),
 (MR,["urn","high","sort","k","field","said"],[0,1,2,5]),
 (MO,["thing"],[0]),
 (MA,["urn","thing","high","near","menu","pick","k","head"],[0,1,2,3,4,5,7]),
 (ML,["urn","items","head","high","middle","edge_at","item","first","item","last"],[0,1,2,3,4,5,7,9]),
 (My,["urn","pairs","head","high","fields","field","item","way","others"],[0,1,2,3,4,5,6,7,8]),
 (MG,["form","sort","one","head","spot","one","first","last","field","one","fields"],[0,1,3,6,7,10]),
 (Mw,["thing","accident"],[0,1]),
 (MH,["book","words"],[0,1]),
 (MP,["book","kind","thing"],[0,1,2]),
 (MQ,["book","thing","verb","fields"],[0,1,2,3]),
 (Mx,["thing","verb"],[0,1]),
 (MF,["book","thing","sort","fields","verb"],[0,1,2,3,4]),
 (MI,["book","form","thing","sort"],[0,1,2,3]),
 (MK,["book","form","thing","head","first","middle","last","items","stop","rows","one","item"],[0,1,2,3,4,5,6,7,8,9,10,11]),
 (MJ,["book","form","thing","head","fields","others","is_open","field","one","pairs","field","one","name","item","found","pair","field","one","more"],[0,1,2,3,4,5,6,9,10,11,14,18]),
 (MT,["book","outline","forms","thing","number","one","fits"],[0,1,2,3,4,5,6]),
 (Mv,["book","frame","value"],[0,1,2]),
 (MC,["book","row","thing","field","item","pair","rest"],[0,1,2,6]),
 (MN,["book","row","stock"],[0,1,2]),
 (MD,["book","row","stock","slots","seen","holds"],[0,1,2,3,4,5]),
 (MM,["code","book","name","stock","slots","spot","value","turn","row","aim","one","covers","at","name"],[0,1,3,4,5,6,7,8,9,11,12,13]),
 (MB,["tree","frame","line","guard","over"],[0,1,2,3,4]),
 (MU,["script","urn","high","outline","frame","thing","k","forms","it","tree","number","one","arms","whole_tree","table","code","accident","mine","theirs","due","found"],[0,1,2,3,4,5,7,8,9,12,13,14,15,16,17,18,19,20]),
 (L4,["self","height"],[0,1]),
 (L5,["self","maker"],[0,1]),
 (L3,["self","maker"],[0,1]),
 (L2,["self","maker","sort","target","first","last"],[0,1,2,3,4,5]),
 (LP,["self","height","node"],[0,1,2]),
 (LR,["self","height","kept","again"],[0,1,2,3]),
 (LQ,["self","compiler"],[0,1]),
 (L1,["self","kind","parts","line"],[0,1,2,3]),
 (L6,["self","op","a","b","c","line"],[0,1,2,3,4,5]),
 (L7,["self","target"],[0,1]),
 (LB,["self","sort","first","last","target","depth"],[0,1,2,3,4,5]),
 (LC,["self","kind","name","params","slots","rows","catches","children","starts"],[0,1,2,3,4,5,6,7,8]),
 (LS,["self"],[0]),
 (LU,["self"],[0]),
 (LX,["self"],[0]),
 (L0,["self","op","a","b","c","row","taken","told"],[0,1,2,3,4,5,6,7]),
 (LY,["self"],[0]),
 (LZ,["self","label"],[0,1]),
 (LV,["self","sort","first","last","target","depth"],[0,1,2,3,4,5]),
 (LW,["self","kind","name","params","slots","row","rows","catches","one","first","last","start","starts"],[0,1,2,3,4,6,7,8,9,10,12]),
 (L',["self","names","outer","name"],[0,1,2,3]),
 (L8,["self","name"],[0,1]),
 (L9,["self","name","scope","depth"],[0,1,2,3]),
 (LI,["self","table","kind","params","own","outer"],[0,1,2,3,4,5]),
 (LM,["self","op","a","b","c"],[0,1,2,3,4]),
 (LL,["self","tree","wanted"],[0,1,2]),
 (LD,["self","tree","wanted"],[0,1,2]),
 (LO,["self","wanted"],[0,1]),
 (LN,["self","name","found"],[0,1,2]),
 (LH,["self"],[0]),
 (LK,["self","name","depth","index"],[0,1,2,3]),
 (LJ,["self","nodes","count","is_list","tree"],[0,1,2,3,4]),
 (LG,["self"],[0]),
 (LF,["self","body","name","kind"],[0,1,2,3])]
def uM(a:aq):bb×R aC×R Nat:=vA (⟨0,[],.A .F .B⟩,[],[]) LA a.a
def bp(a:aq):bb:=(uM a).1
def PW(a:aq):R String:=(uM a).2.1
def hA(a:aq):R Nat:=(uM a).2.2
def Do:V:=.J [(.A "nil",.F []),(.A "true",.F []),(.A "false",.F []),(.A "self",.F []),(.A "retry",.F []),(.A "int",.F [.E<|.A "value"]),(.A "sym",.F [.E<|.A "name"]),(.A "str",.F [.E<|.A "text"]),(.A "dstr",.F [.E<|.A "parts"]),(.A "array",.F [.E<|.A "items"]),(.A "hash",.F [.E<|.A "pairs"]),(.A "range",.F [.E<|.A "first",.E<|.A "last",.E<|.A "open"]),(.A "splat",.F [.E<|.A "value"]),(.A "lvar",.F [.E<|.A "name"]),(.A "ivar",.F [.E<|.A "name"]),(.A "gvar",.F [.E<|.A "name"]),(.A "const",.F [.E<|.A "scope",.E<|.A "name"]),(.A "t_local",.F [.E<|.A "name"]),(.A "t_ivar",.F [.E<|.A "name"]),(.A "t_gvar",.F [.E<|.A "name"]),(.A "t_const",.F [.E<|.A "name"]),(.A "t_index",.F [.E<|.A "receiver",.E<|.A "args"]),(.A "t_attr",.F [.E<|.A "receiver",.E<|.A "name"]),(.A "t_splat",.F [.E<|.A "target"]),(.A "t_group",.F [.E<|.A "targets"]),(.A "assign",.F [.E<|.A "target",.E<|.A "value"]),(.A "masgn",.F [.E<|.A "targets",.E<|.A "value"]),(.A "opasgn",.F [.E<|.A "target",.E<|.A "op",.E<|.A "value"]),(.A "call",.F [.E<|.A "receiver",.E<|.A "name",.E<|.A "args",.E<|.A "block",.E<|.A "safe"]),(.A "vcall",.F [.E<|.A "name"]),(.A "block",.F [.E<|.A "params",.E<|.A "body"]),(.A "blockpass",.F [.E<|.A "value"]),(.A "and",.F [.E<|.A "left",.E<|.A "right"]),(.A "or",.F [.E<|.A "left",.E<|.A "right"]),(.A "not",.F [.E<|.A "value"]),(.A "super",.F [.E<|.A "args",.E<|.A "block"]),(.A "yield",.F [.E<|.A "args"]),(.A "lambda",.F [.E<|.A "params",.E<|.A "body"]),(.A "defined",.F [.E<|.A "value"]),(.A "seq",.F [.E<|.A "items"]),(.A "if",.F [.E<|.A "test",.E<|.A "yes",.E<|.A "no"]),(.A "while",.F [.E<|.A "test",.E<|.A "body",.E<|.A "negate"]),(.A "case",.F [.E<|.A "subject",.E<|.A "whens",.E<|.A "other"]),(.A "casein",.F [.E<|.A "subject",.E<|.A "arms",.E<|.A "other"]),(.A "matchp",.F [.E<|.A "value",.E<|.A "pattern"]),(.A "matchq",.F [.E<|.A "value",.E<|.A "pattern"]),(.A "begin",.F [.E<|.A "body",.E<|.A "rescues",.E<|.A "other",.E<|.A "ensure"]),(.A "break",.F [.E<|.A "value"]),(.A "next",.F [.E<|.A "value"]),(.A "return",.F [.E<|.A "value"]),(.A "def",.F [.E<|.A "singleton",.E<|.A "name",.E<|.A "params",.E<|.A "body"]),(.A "class",.F [.E<|.A "name",.E<|.A "superclass",.E<|.A "body"]),(.A "module",.F [.E<|.A "name",.E<|.A "body"]),(.A "sclass",.F [.E<|.A "value",.E<|.A "body"]),(.A "alias",.F [.E<|.A "new",.E<|.A "old"]),(.A "undef",.F [.E<|.A "name"]),(.A "p_value",.F [.E<|.A "value"]),(.A "p_bind",.F [.E<|.A "name"]),(.A "p_pin",.F [.E<|.A "value"]),(.A "p_alt",.F [.E<|.A "patterns"]),(.A "p_as",.F [.E<|.A "pattern",.E<|.A "name"]),(.A "p_array",.F [.E<|.A "const",.E<|.A "pre",.E<|.A "rest",.E<|.A "post"]),(.A "p_hash",.F [.E<|.A "const",.E<|.A "pairs",.E<|.A "rest"])]
def Dn:V:=.J [(.A "push",.F [.A 0,.A 1]),(.A "text",.F [.A 0,.A 1]),(.A "pop",.F [.A 1,.A 0]),(.A "dup",.F [.A 1,.A 2]),(.A "dup2",.F [.A 2,.A 4]),(.A "swap",.F [.A 2,.A 2]),(.A "tuck",.H .bj_),(.A "self",.F [.A 0,.A 1]),(.A "getl",.F [.A 0,.A 1]),(.A "setl",.F [.A 1,.A 0]),(.A "geti",.F [.A 0,.A 1]),(.A "seti",.F [.A 1,.A 0]),(.A "getg",.F [.A 0,.A 1]),(.A "setg",.F [.A 1,.A 0]),(.A "getc",.F [.A 0,.A 1]),(.A "getcin",.F [.A 1,.A 1]),(.A "setc",.F [.A 1,.A 0]),(.A "list",.H .ah_),(.A "append",.F [.A 2,.A 1]),(.A "joinlists",.F [.A 2,.A 1]),(.A "spread",.F [.A 1,.A 1]),(.A "table",.H .bd_),(.A "range",.F [.A 2,.A 1]),(.A "totext",.F [.A 1,.A 1]),(.A "texts",.H .ah_),(.A "send",.H .bn_),(.A "super",.H .bs_),(.A "zsuper",.H .ba_),(.A "yield",.H .bk_),(.A "jump",.F [.A 0,.A 0]),(.A "jumpif",.F [.A 1,.A 0]),(.A "jumpunless",.F [.A 1,.A 0]),(.A "jumpnil",.F [.A 1,.A 1]),(.A "lambda",.F [.A 0,.A 1]),(.A "def",.F [.A 0,.A 1]),(.A "sdef",.F [.A 1,.A 1]),(.A "class",.H .bl_),(.A "module",.F [.A 0,.A 1]),(.A "sclass",.F [.A 1,.A 1]),(.A "alias",.F [.A 0,.A 1]),(.A "undef",.F [.A 0,.A 1]),(.A "leave",.F [.A 1,.A 0]),(.A "out",.F [.A 1,.A 0]),(.A "again",.F [.A 1,.A 0]),(.A "caught",.F [.A 1,.A 1]),(.A "setcaught",.F [.A 1,.A 0]),(.A "defined",.H .bu_),(.A "spreadto",.H .bt_),(.A "respond",.F [.A 1,.A 1]),(.A "islist",.F [.A 1,.A 1]),(.A "istable",.F [.A 1,.A 1]),(.A "listfits",.F [.A 1,.A 1]),(.A "listat",.F [.A 1,.A 1]),(.A "listpart",.F [.A 1,.A 1]),(.A "tablehas",.F [.A 1,.A 1]),(.A "tableat",.F [.A 1,.A 1]),(.A "tablerest",.F [.A 1,.A 1]),(.A "tableonly",.F [.A 1,.A 1]),(.A "nomatch",.F [.A 1,.A 0]),(.A "blockgiven",.F [.A 0,.A 1])]
def Dr:V:=.J [(.A "p_value",.H .x_),(.A "p_bind",.H .bo_),(.A "p_pin",.H .x_),(.A "p_alt",.H .aI_),(.A "p_as",.H .br_),(.A "p_array",.H .aJ_),(.A "p_hash",.H .bh_)]
def Dp:V:=.F [.E<|.A "jump",.E<|.A "jumpif",.E<|.A "jumpunless",.E<|.A "jumpnil"]
def Dq:V:=.F [.E<|.A "def",.E<|.A "class",.E<|.A "module",.E<|.A "sclass",.E<|.A "block",.E<|.A "lambda"]
def Ts:V:=.F [.E<|.A "block",.E<|.A "lambda"]
def ly:gh->V
 |.ignore=>Do
 |.warn=>Dn
 |.raise=>Dr
 |.call=>Dp
 |.print=>Dq
 |.log=>Ts
def B4:gZ->aD V
 |.B a=>Y a
 |.A=>Y .C
 |.D|.C=>ab
def aR:U->aq->R V->af->aD (V×af)
 |0,_,_,_=>ab
 |d+1,a,b,e=>
  if bD (b.length<=(bp a).a) ((bp a).a<=b.length+(bp a).c.length)then
   (aw ⟨aR d,100000,ly⟩ (bp a).b (λf=>(b++(bp a).c.drop ((bp a).c.length-((bp a).a-b.length)))[f]?) e).bind λc=>(B4 c.1).map λg=>(g,c.2.2)
  else ab
end
end M
namespace M
open PySem PySem.W
abbrev bF:=a9->aD eB
abbrev cj:=R<|a9×a9
def bv:an->aJ
 |.A b=>b2 b
 |.C a=>b2<|iq a
 |.D a=>b2<|"n"++iq a
 |.B a=>b2<|"%"++iq a
structure b4 where
 b:iZ
 a:eC
 e:aq->a9
 d:cO->a9
 c:dH
 f:aJ->aD ar
 g:aJ->aD ar
def gj(b:bF)(c:a9)(a:R ar):Prop:=a.length<=1000000/\∃d,b c=Y {cls:=.type "list",data:=.seq a.toArray d}
def hW(b:bF)(c:a9)(a:R ar):Prop:=a.length<=1000000/\∃d,b c=Y {cls:=.type "tuple",data:=.seq a.toArray d}
def fN(a:b4)(e:bF)(b:a9)(c:R<|aJ×ar):Prop:=c.length<=1000/\b≠xZ/\∃d,e b=Y d/\d.IsDictOf (c' a.b a.a) c
def iO(a:R<|an×V):R<|an×V:=a.mergeSort λb c=>aN<|(bv b.1).1.1<=(bv c.1).1.1
mutual
noncomputable def fE:V->kD
 |.C=>.none
 |.G b=>.bool b
 |.A c=>.int c
 |.E d=>.str<|bv d
 |.F a=>.tuple<|hL a
 |.D a=>.list<|hL a
 |_=>.none
noncomputable def hL:R V->R kD
 |[]=>[]
 |e::f=>fE e::hL f
end
def gT(a:V):PyData:=(nF a).elim (fE a) λc=>.list<|(iO c).map λb=>.tuple [.str<|bv b.1,fE b.2]
mutual
noncomputable def ba(c:b4)(b:bF)(d:cj):V->ar->Prop
 |.C,a=>a=.none
 |.G r,a=>a=.bool r
 |.A o,a=>∃l,a=.int o l
 |.E h,a=>dc h=Q/\∃l,a=.str (bv h) l
 |.F m,a=>∃f g,a=.ref f/\hW b f g/\bt c b d m g
 |.D m,a=>∃f g,a=.ref f/\gj b f g/\bt c b d m g
 |.J n,a=>∃f e,a=.ref f/\fN c b f e/\c1 c b d n e
 |.L s t,a=>∃i q e,a=.ref i/\b i=Y (kG (c.d s) q)/\fN c b q e/\fv c b d t e
 |.B o,a=>∃f p,d[o]?=Y (f,p)/\a=.ref f
 |.H u,a=>a=.ref (c.e u)
 |.K p,a=>∃l,a=.str (gT p).shown l
 |.I _,_=>ky
noncomputable def bt(c:b4)(b:bF)(d:cj):R V->R ar->Prop
 |[],g=>g=[]
 |i::m,g=>∃j k,g=j::k/\ba c b d i j/\bt c b d m k
noncomputable def c1(c:b4)(b:bF)(d:cj):R (an×V)->R (aJ×ar)->Prop
 |[],e=>e=[]
 |(h,i)::n,e=>∃j k,e=(bv h,j)::k/\dc h=Q/\bG h=M/\ba c b d i j/\c1 c b d n k
noncomputable def fv(c:b4)(b:bF)(d:cj):R (aC×V)->R (aJ×ar)->Prop
 |[],e=>e=[]
 |(h,i)::n,e=>∃j k,e=(b2 h,j)::k/\ba c b d i j/\fv c b d n k
end
@[elab_as_elim] def cD{g:ar->Prop}(h:ba c d e (.A a) b)(i:∀f,g<|.int a f):g b:=by obtain⟨f,rfl⟩:=h;exact i f
@[elab_as_elim] def fR{g:ar->Prop}(h:ba c d e (.E a) b)(i:∀f,dc a=Q->g (.str (bv a) f)):g b:=by obtain⟨j,f,rfl⟩:=h;exact i f j
@[elab_as_elim] def la{h:ar->Prop}(i:ba b a c (.F d) e)(j:∀f g,hW a f g/\bt b a c d g->h (.ref f)):h e:=by refine bS i λf g k l=>?_;subst k;exact j f g l
@[elab_as_elim] def fl{h:ar->Prop}(i:ba b a c (.D d) e)(j:∀f g,gj a f g/\bt b a c d g->h (.ref f)):h e:=by refine bS i λf g k l=>?_;subst k;exact j f g l
@[elab_as_elim] def jq{i:R ar->Prop}(j:bt a b c (d::e) f)(k:∀g h,ba a b c d g/\bt a b c e h->i (g::h)):i f:=by refine bS j λg h l m=>?_;subst l;exact k g h m
structure cP(e f:bF)(g h:cj):Prop where
 a:∀c d,e c=Y d->f c=Y d
 b:g<+:h
def cP.B(b:bF)(a:cj):cP b b a a:=⟨λd d c=>c,xc a⟩
def cP.C(a:cP c d e f)(b:cP d g f h):cP c g e h:=⟨λi j k=>b.a i j<|a.a i j k,a.b.trans b.b⟩
def QL{c d:R b}(g:c<+:d){e:U}(f:c[e]?=Y a):d[e]?=Y a:=by refine a8 g λi h=>?_;subst h;rw[m3 (fe.1 f).1];exact f
def gj.B(g:∀a e,b a=Y e->c a=Y e)(f:gj b a d):gj c a d:=⟨f.1,f.2.imp λh=>g _ _⟩
def hW.B(g:∀a e,b a=Y e->c a=Y e)(f:hW b a d):hW c a d:=⟨f.1,f.2.imp λh=>g _ _⟩
def fN.B(i:∀a g,b a=Y g->c a=Y g)(f:fN d b a e):fN d c a e:=⟨f.1,f.2.1,f.2.2.imp λj h=>⟨i _ _ h.1,h.2⟩⟩
section
variable{c:b4}{b d:bF}{a e:cj}
mutual
noncomputable def ba.A(g:cP b d a e):∀{w:V}{j:ar},ba c b a w j->ba c d e w j
 |.C,_,f=>f
 |.G _,_,f=>f
 |.A _,_,f=>f
 |.E _,_,f=>f
 |.F o,_,f=>by refine d2 f λi k q=>?_;exact cd i k q.1 (q.2.1.B g.a)<|bt.B g q.2.2
 |.D o,_,f=>by refine d2 f λi k r=>?_;exact cd i k r.1 (r.2.1.B g.a)<|bt.B g r.2.2
 |.J l,_,f=>by refine d2 f λi h s=>?_;exact cd i h s.1 (s.2.1.B g.a)<|c1.B g s.2.2
 |.L y z,_,f=>by refine mE f λi t h p=>?_;exact Av i t h p.1 (g.a _ _ p.2.1) (p.2.2.1.B g.a)<|fv.A g p.2.2.2
 |.B C,_,f=>by refine d2 f λi t x=>?_;exact ck i t (QL g.b x.1) x.2
 |.H _,_,f=>f
 |.K _,_,f=>f
 |.I _,_,f=>f
noncomputable def bt.B(g:cP b d a e):∀{o:R V}{k:R ar},bt c b a o k->bt c d e o k
 |[],_,f=>f
 |_::_,_,f=>by refine d2 f λj m u=>?_;exact cd j m u.1 (ba.A g u.2.1)<|bt.B g u.2.2
noncomputable def c1.B(g:cP b d a e):∀{l:R<|an×V}{h:R<|aJ×ar},c1 c b a l h->c1 c d e l h
 |[],_,f=>f
 |(_,_)::_,_,f=>by refine d2 f λj m n=>?_;exact lg j m n.1 n.2.1 n.2.2.1 (ba.A g n.2.2.2.1)<|c1.B g n.2.2.2.2
noncomputable def fv.A(g:cP b d a e):∀{l:R<|aC×V}{h:R<|aJ×ar},fv c b a l h->fv c d e l h
 |[],_,f=>f
 |(_,_)::_,_,f=>by refine d2 f λj m v=>?_;exact cd j m v.1 (ba.A g v.2.1)<|fv.A g v.2.2
end
def bt.A:∀{d:R V}{f:R ar},bt c b a d f->f.length=d.length:=by
 intro g
 induction g with
 |nil=>
  exact @λl e=>by rw[show _=[]from e];rfl
 |cons _ d h=>
  exact @λl e=>by refine jq e λj k i=>?_;rw[dd,dd,h i.2]
def bt.C:∀{g:R V}{i:R ar},bt c b a g i->∀{e:U}{h:V},g[e]?=Y h->∃f,i[e]?=Y f/\ba c b a h f:=by
 intro k
 induction k with
 |nil=>
  exact @λr r r r d=>by simp at d
 |cons _ g l=>
  exact @λr m e h d=>by
   refine jq m λf q j=>?_;cases e with
   |zero=>simp at d;subst d;exact ax f (Z) j.1
   |succ e=>simp at d;refine cg (l j.2 d) λn o p=>?_;exact ax n (o) p
def bt.D:∀{f g:R V}{h i:R ar},bt c b a f h->bt c b a g i->bt c b a (f++g) (h++i):=by
 intro k
 induction k with
 |nil=>
  exact @λo o o d e=>by rw[show _=[]from d];exact e
 |cons _ _ l=>
  exact @λo o o d e=>by refine jq d λm n j=>?_;exact cd m (n++_) Z j.1<|l j.2 e
def bt.G:∀{f:R V}{g:R ar}(d:U),bt c b a f g->bt c b a (f.take d) (g.take d)
 |[],_,d,e=>by rw[show _=[]from e];cases d<;>rfl
 |_::_,_,0,e=>Z
 |_::_,_,d+1,e=>by refine bS e λi j k h=>?_;subst k;exact cd i (j.take d) Z h.1<|bt.G d h.2
def bt.E:∀{f:R V}{g:R ar}(d:U),bt c b a f g->bt c b a (f.drop d) (g.drop d)
 |[],_,d,e=>by rw[show _=[]from e];cases d<;>rfl
 |_::_,_,0,e=>e
 |_::_,_,d+1,e=>by refine bS e λj k h i=>?_;subst h;simpa using bt.E d i.2
def bt.F:∀{e:R V}{f:R ar},bt c b a e f->bt c b a e.reverse f.reverse:=by
 intro h
 induction h with
 |nil=>
  exact @λl d=>by rw[show _=[]from d];rfl
 |cons _ _ i=>
  exact @λl d=>by refine jq d λj k g=>?_;rw[oE,oE];exact bt.D (i g.2)<|cd j ([]) Z g.1 Z
def bt.H:∀{i:R V}{j:R ar}(d:U){k:V}{e:ar},bt c b a i j->ba c b a k e->bt c b a (i.set d k) (j.set d e)
 |[],_,d,_,_,f,_=>by rw[show _=[]from f];rfl
 |_::_,_,0,_,_,f,g=>by refine bS f λe h m n=>?_;subst m;exact cd _ h Z g n.2
 |_::_,_,d+1,_,_,f,g=>by refine jq f λe h l=>?_;exact cd e (h.set d _) Z l.1<|bt.H d l.2 g
end
def ex:cn->a9×a9->R a9
 |.B,_=>[]
 |.A _,a=>[a.1]
 |.D _,a=>[a.1]
 |.C _ _,a=>[a.1,a.2]
def es(c:cj)(d:af)(e:a9):Prop:=∃a b,c[a]?=Y b/\e∈ex (d.b a) b
def hU(b:b4)(e:bF)(f:cj)(d:bT):cn->a9×a9->Prop
 |.B,_=>eN
 |.A h,a=>∃g,gj d.get? a.1 g/\bt b e f h g
 |.D i,a=>∃c,fN b d.get? a.1 c/\c1 b e f i c
 |.C j k,a=>∃c,d.get? a.1=Y (kG (b.d j) a.2)/\a.1≠a.2/\fN b d.get? a.2 c/\fv b e f k c
structure bf(o:b4)(m:bF)(h:cj)(j:af)(p:bT):Prop where
 b:h.length=j.a
 a:∀g k,m g=Y k->p.get? g=Y k
 c:∀(i:U)(l:a9×a9),h[i]?=Y l->hU o m h p (j.b i) l
 f:∀(i n:U)(l q:a9×a9)(g:a9),h[i]?=Y l->h[n]?=Y q->g∈ex (j.b i) l->g∈ex (j.b n) q->i=n
 e:∀g,es h j g->m g=ab
 d:∀g k,o.c.lookup g=Y k->m g=Y k
structure bc(t:b4)(p:bF)(l:cj)(m:af)(q:a9->Prop)(j:aO)(n:bF)(o:cj)(r:af)(k:aO):Prop where
 b:cP p n l o
 a:bf t n o r k.1
 g:∀i,n i≠ab->p i≠ab\/es l m i\/j.1.get? i=ab
 d:∀i,es o r i->es l m i\/j.1.get? i=ab
 c:∀i s,j.1.get? i=Y s->¬es l m i->¬q i->k.1.get? i=Y s
 h:∀i,q i->j.1.get? i≠ab->k.1.get? i≠ab
 f:k.5=j.5
 e:k.2=j.2
abbrev cE:a9->Prop:=λa=>ky
section
variable{c:b4}{b f:bF}{a g:cj}{d:af}{e h:aO}
def hU.C(f:hU c b a j i k)(e:l∈ex i k):j.get? l≠none:=by
 cases i with
 |B=>exact bW e
 |A r=>
  refine cg f λm g v=>?_;obtain⟨_,s,h⟩:=g;cases cm.1 e;rw[h];exact λd=>iR d
 |D t=>
  refine cg f λm g v=>?_;obtain⟨_,_,n,h,_⟩:=g;cases cm.1 e;rw[h];exact λd=>iR d
 |C i u=>
  refine pT f λm o v p v=>?_;obtain⟨_,_,n,q,_⟩:=p;rcases bj.1 e with rfl|e;.rw[o];exact λd=>iR d
  .cases cm.1 e;rw[q];exact λd=>iR d
def bf.E(f:bf c b a d i)(g:es a d j):i.get? j≠none:=by refine d2 g λh k e=>?_;exact(f.c h k e.1).C e.2
def bc.B_(g:bf c b a d e.1):bc c b a d i e b a d e:=
 ⟨cP.B b a,g,λj f=>.inl f,λj f=>.inl f,λj j h j j=>h,λj j f=>f,Z,Z⟩
def bc.E(m:bc c b a d j e f g k h)(q:∀i,j i->e.1.get? i≠ab)(n:h.1.get? i=ab):es a d i\/e.1.get? i=none:=by
 refine dP (e.1.get? i) (λo=>?none) λr o=>?some
 case none=>exact .inr Z
 case some=>
  by_cases p:es a d i;.exact .inl p
  .by_cases l:j i
   .exact a2 n<|m.h i l<|q i l
   .have:=m.c i r o p l;rw[n]at this;exact b8 this
def bc.F(q:bc c b a d i e f g j h)(r:bc c f g j i h k l m n)(u:∀o,i o->e.1.get? o≠ab):bc c b a d i e k l m n:=by
 refine⟨q.b.C r.b,r.a,λo p=>?_,λo p=>?_,λo v w x s=>?_,λo s p=>r.h o s<|q.h o s p,r.f.trans q.f,r.e.trans q.e⟩
 .refine n9 (r.g o p) (λp=>?_) (λp=>?_) λp=>?_
  .exact q.g o p
  .exact .inr<|q.d o p
  .exact .inr<|q.E u p
 .refine b1 (r.d o p) (λp=>?_) λp=>?_
  .exact q.d o p
  .exact q.E u p
 .haveI y:=q.c o v w x s;refine r.c o v y (λz=>?_) s;refine b1 (q.d o z) (λt=>?_) λt=>?_
  .exact x t
  .rw[w]at t;exact iR t
def bc.B(n:bc c b a d cE e f g i h)(o:bc c f g i cE h j k l m):bc c b a d cE e j k l m:=n.F o λq p=>p.elim
def bc.I(k:bc c b a d cE e f g i h)(p:∀l,j l->¬es a d l):bc c b a d j e f g i h:=
 ⟨k.b,k.a,k.g,k.d,λl n m q t=>k.c l n m q λo=>o,λl r s=>by
  refine dP (e.1.get? l) (λm=>?none) λn m=>?some
  case none=>exact a2 m s
  case some=>rw[k.c l n m (p l r) λo=>o];nofun,k.f,k.e⟩
def hU.B(g:hU c b a k i j)(f:∀h m,h∈ex i j->k.get? h=Y m->l.get? h=Y m):hU c b a l i j:=by
 cases i with
 |B=>trivial
 |A n=>exact g.imp λq d=>⟨⟨d.1.1,d.1.2.imp λq=>f _ _ bP⟩,d.2⟩
 |D o=>exact g.imp λq d=>⟨⟨d.1.1,d.1.2.1,d.1.2.2.imp λq e=>⟨f _ _ bP e.1,e.2⟩⟩,d.2⟩
 |C i p=>exact g.imp λq d=>⟨f _ _ bP d.1,d.2.1,⟨d.2.2.1.1,d.2.2.1.2.1,d.2.2.1.2.2.imp λq e=>⟨f _ _ (cx _ bP) e.1,e.2⟩⟩,d.2.2.2⟩
def bf.H(g:bf c b a d i)(k:∀e f,i.get? e=Y f->j.get? e=Y f):bf c b a d j:=
 ⟨g.b,λe f h=>k e f<|g.a e f h,λl m h=>(g.c l m h).B λe f n=>k e f,g.f,g.e,g.d⟩
def bc.A(k:bf c b a d e.1)(j:∀g i,e.1.get? g=Y i->h.1.get? g=Y i)(l:h.5=e.5)(m:h.2=e.2):bc c b a d cE e b a d h:=
 ⟨cP.B b a,k.H j,λo f=>.inl f,λo f=>.inl f,λg i n o o=>j g i n,λo f=>f.elim,l,m⟩
def hU.A(e:cP b f a g)(h:hU c b a j i k):hU c f g j i k:=by
 cases i with
 |B=>trivial
 |A l=>exact h.imp λo d=>⟨d.1,d.2.B e⟩
 |D m=>exact h.imp λo d=>⟨d.1,d.2.B e⟩
 |C i n=>exact h.imp λo d=>⟨d.1,d.2.1,d.2.2.1,d.2.2.2.A e⟩
def bF.C(b:bF)(c:a9)(d:eB):bF:=λa=>if a=c then Y d else b a
def bF.B:b.C i j i=Y j:=au Z
def bF.A(a:i≠j):b.C j k i=b i:=ao a
def cP.A(e:b i=ab):cP b (b.C i j) a a:=
 ⟨λf g c=>by
  by_cases d:f=i;.subst d;rw[e]at c;exact b8 c
  .rw[bF.A d];exact c,xc _⟩
def bc.L(l:bf c b a d e.1)(q:∀i j,e.1.get? i=Y j->h.1.get? i=Y j)(o:e.1.get? i=ab)(t:h.1.get? i=Y j)
 (u:h.5=e.5)(v:h.2=e.2):bc c b a d cE e (b.C i j) a d h:=by
 have p:b i=none:=by
  refine dP (b i) (λf=>?none) λm f=>?some
  case none=>rfl
  case some=>have:=l.a i m f;rw[o]at this;exact b8 this
 haveI r:=l.H q;refine⟨cP.A p,⟨l.b,λg m f=>?_,λw x f=>(r.c w x f).A<|cP.A p,l.f,λg s=>?_,λg m f=>(cP.A (a:=a) p).a g m<|l.d g m f⟩,λg n=>?_,λz n=>.inl n,λi j f z z=>q i j f,λz n=>n.elim,u,v⟩
 .by_cases k:g=i
  .subst k;rw[bF.B]at f;have y:=ch f;subst y;exact t
  .rw[bF.A k]at f;exact r.a g m f
 .by_cases k:g=i
  .subst k;exact a2 o<|l.E s
  .rw[bF.A k];exact l.e g s
 .by_cases k:g=i
  .subst k;exact .inr<|.inr o
  .rw[bF.A k]at n;exact .inl n
def pY(e:a.length=d.a)(h:es (a++[k]) (d.B i) j):es a d j\/j∈ex i k:=by
 refine bS h λb l c f=>?_;by_cases g:b<a.length;.rw[m3 g]at c;refine .inl<|ck b l c ?_;haveI:(d.B i).b b=d.b b:=ao<|wK g e;rwa [this]at f
 .haveI m:b=a.length:=by
   haveI:=(fe.1 c).1;simp at this;exact(aI (.B (.A 11)<|.A 10001) Z:N [_,_,_] (.C X S) [.B X<|S+1,.C S O,.D<|.B X S]) this e g
  subst m;simp at c;subst c;haveI:(d.B i).b a.length=i:=au (by rw[e]);rw[this]at f;exact .inr f
def bc.E_(m:bf c b a d e.1)(y:∀f r,e.1.get? f=Y r->h.1.get? f=Y r)(s:∀f∈ex i j,e.1.get? f=ab)
 (D:hU c b a h.1 i j)(E:h.5=e.5)(F:h.2=e.2):bc c b a d cE e b (a++[j]) (d.B i) h:=by
 have u:cP b b a<|a++[j]:=⟨λx_ x_ g=>g,YF _ _⟩;haveI z:=m.H y;have v:∀k n,(a++[j])[k]?=Y n->(a[k]?=Y n/\(d.B i).b k=d.b k)\/(k=a.length/\n=j/\(d.B i).b k=i):=by
  intro k n g;by_cases p:k<a.length;.rw[m3 p]at g;exact .inl<|am g<|ao (by haveI:=m.b;exact wK p this)
  .haveI G:k=a.length:=by
    haveI:=(fe.1 g).1;simp at this;exact Es this p
   subst G;simp at g;exact .inr<|aL Z g.symm<|au m.b
 have I:∀f∈ex i j,b f=none:=λf l=>by
  refine dP (b f) (λg=>?none) λH g=>?some
  case none=>rfl
  case some=>have:=m.a f H g;rw[s f l]at this;exact b8 this
 refine⟨u,⟨by rw[cs];simp[af.B,m.b],z.a,λk n g=>?_,λk w n x f g J l t=>?_,λf l=>?_,m.d⟩,λx_ q=>.inl q,λf q=>?_,λf r g x_ x_=>y f r g,λx_ q=>q.elim,E,F⟩
 .rcases v k n g with⟨g,o⟩|⟨_,rfl,o⟩
  .rw[o];exact(z.c k n g).A u
  .rw[o];exact D.A u
 .rcases v k n g with⟨A,o⟩|⟨p,K,o⟩<;>rcases v w x J with⟨B,C⟩|⟨L,a_,C⟩<;>rw[o]at l<;>rw[C]at t
  .exact m.f k w n x f A B l t
  .exact a2 (s f<|a_▸t)<|m.E<|ck k n A l
  .exact a2 (s f<|K▸l)<|m.E<|ck w x B t
  .rw[p,L]
 .refine b1 (pY m.b l) (λl=>?_) λl=>?_
  .exact m.e f l
  .exact I f l
 .refine b1 (pY m.b q) (λl=>?_) λl=>?_
  .exact .inl l
  .exact .inr<|s f l
def bc.J(p:bf c b a d e.1)(q:a[i]?=Y k)(w:∀f,f∈ex j k<->f∈ex (d.b i) k)
 (x:∀f o,e.1.get? f=Y o->f∉ex (d.b i) k->h.1.get? f=Y o)(A:hU c b a h.1 j k)(B:h.5=e.5)(C:h.2=e.2):bc c b a d cE e b a (d.A i j) h:=by
 have y:∀f,es a (d.A i j) f->es a d f:=by
  rintro f ⟨g,r,m,n⟩;by_cases l:g=i;.subst l;rw[q]at m;cases m;rw[show(d.A g j).b g=j from au Z]at n;exact ck g k q<|(w f).1 n
  .rw[show(d.A i j).b g=d.b g from ao l]at n;exact ck g r m n
 refine⟨cP.B b a,⟨p.b,λf o m=>x f o (p.a f o m) λn=>?_,λg r m=>?_,λg s r z f m t n u=>?_,λf n=>p.e f<|y f n,p.d⟩,λG l=>.inl l,λf l=>.inl<|y f l,λf o m n G=>x f o m λD=>n<|ck i k q D,λG l=>l.elim,B,C⟩;.have:=p.e f<|ck i k q n;rw[m]at this;exact iR this
 .by_cases l:g=i
  .subst l;rw[q]at m;have v:=ch m;subst v;rw[show(d.A g j).b g=j from au Z];exact A
  .rw[show(d.A i j).b g=d.b g from ao l];exact(p.c g r m).B λf o n t=>x f o t λu=>l<|p.f g i r k f m q n u
 .have E:f∈ex (d.b g) r:=by
   by_cases l:g=i;.subst l;rw[q]at m;have v:=ch m;subst v;rw[show(d.A g j).b g=j from au Z]at n;exact(w f).1 n
   .rwa [show(d.A i j).b g=d.b g from ao l]at n
  haveI F:f∈ex (d.b s) z:=by
   by_cases l:s=i;.subst l;rw[q]at t;have v:=ch t;subst v;rw[show(d.A s j).b s=j from au Z]at u;exact(w f).1 u
   .rwa [show(d.A i j).b s=d.b s from ao l]at u
  exact p.f g s r z f m t E F
def bc.F_(m:bf c b a d e.1)(r:a[i]?=Y j):
 bc c b a d cE e (λf=>if f∈ex (d.b i) j then e.1.get? f else b f) a (d.A i .B) e:=by
 have s:cP b (λf=>if f∈ex (d.b i) j then e.1.get? f else b f) a a:=⟨λf n k=>by
  by_cases g:f∈ex (d.b i) j;.have:=m.e f<|ck i j r g;rw[k]at this;exact iR this
  .show(if _ then _ else _)=_;rw[ao g];exact k,xc _⟩
 have t:∀f,es a (d.A i .B) f->es a d f/\f∉ex (d.b i) j:=by
  rintro f ⟨h,o,k,g⟩;by_cases l:h=i;.subst l;rw[show(d.A h .B).b h=.B from au Z]at g;exact bW g
  .rw[show(d.A i .B).b h=d.b h from ao l]at g;exact am (ck h o k g) λp=>l<|m.f h i o j f k r g p
 refine⟨s,⟨m.b,λf n k=>?_,λh o k=>?_,λh q o v f k w g p=>?_,λf g=>?_,λf n k=>s.a f n<|m.d f n k⟩,λf l=>?_,λf l=>.inl (t f l).1,λf n k g x=>k,λx l=>l.elim,Z,Z⟩
 .by_cases g:f∈ex (d.b i) j
  .rw[au g]at k;exact k
  .rw[ao g]at k;exact m.a f n k
 .by_cases l:h=i
  .subst l;rw[show(d.A h .B).b h=.B from au Z];trivial
  .rw[show(d.A i .B).b h=d.b h from ao l];exact(m.c h o k).A s
 .by_cases l:h=i
  .subst l;rw[show(d.A h .B).b h=.B from au Z]at g;exact bW g
  .by_cases u:q=i
   .subst u;rw[show(d.A q .B).b q=.B from au Z]at p;exact bW p
   .rw[show(d.A i .B).b h=d.b h from ao l]at g;rw[show(d.A i .B).b q=d.b q from ao u]at p;exact m.f h q o v f k w g p
 .show(if _ then _ else _)=_;rw[ao (t f g).2];exact m.e f (t f g).1
 .by_cases g:f∈ex (d.b i) j
  .exact .inr<|.inl<|ck i j r g
  .rw[ao g]at l;exact .inl l
end
def NE:R String:=["value_or_nil","call","subject_test","compile_casein","compile_matchp","compile_matchq","match","bind","match_value","match_bind","match_alt","match_as","need_const","raise_type_error","taken_apart","match_part","match_array","match_hash","enter","end","compile_begin","compile_rescued","compile_handlers","class_tests","nodes_in","pattern_names","locals_of","param_names","place_of","given","passed","list_effect","send_effect","effect_of","push_value","do_plain","do_array","do_lvar","do_const","do_seq","do_call","tuck_effect","table_effect","super_effect","zsuper_effect","yield_effect","class_effect","defined_effect","spreadto_effect","_law_urn","_law_draw","_law_name_of","_law_thing","_law_sort","_law_form","_law_row_form","_law_card_form","_law_pattern_of","_law_book","_law_question","_law_takes","_law_tells","_law_can","_law_opened","_law_read","_law_read_row","_law_read_card","_law_verdict","_law_around","_law_handed","_law_sent","_law_moved","_law_rows_play","_law_framed","law"]
def ps(a:aq):Str:=b2<|vA "" NE a.a
def pA(a:aq):Bool:=hS 75 a.a
def rA:cO->aJ
 |.I=>"Part"|.J=>"EnsuredPart"|.D=>"HandlerPart"|.A=>"Node"|.H=>"Row"|.G=>"Catch"|.L=>"Code"|.B=>"Label"|.F=>"Maker"|.E=>"Slots"
 |.K=>"Compiler"|.C=>"Params"
def wd:gh->aJ
 |.ignore=>"FIELDS"|.warn=>"EFFECTS"|.raise=>"PATTERNS"|.call=>"JUMPS"|.print=>"OWN_NAMES"|.log=>"SEEN_OUTSIDE"
def y1:kC->aJ
 |.init=>"len"|.prolog=>"int"|.content=>"bool"|.cdata=>"str"|.epilog=>"repr"|.error=>"list"|.ext2=>"tuple"|.ext3=>"dict"
def y4:gh->aJ
 |.ignore=>"append"|.warn=>"pop"|.raise=>"extend"|.call=>"get"|.print=>"update"|.log=>"index"
def B0:gh->xC
 |.ignore=>.Add|.warn=>.Sub|.raise=>.Mult|.call=>.Mod|.print=>.FloorDiv|.log=>.Pow
def B1(a:gh)(b:xC):Bool:=aN<|b=B0 a
def zL:kA->kA
 |.Eq=>.Eq|.NotEq=>.NotEq|.Lt=>.Lt|.LtE=>.LtE|.Gt=>.Gt|.GtE=>.GtE|.Is=>.Is|.IsNot=>.IsNot|.In=>.In|.NotIn=>.NotIn
def k9(a:kA)(b:kA):Bool:=aN<|b=zL a
def dO(a b:U)(c:b=a->aE):Bool:=if d:b=a then c d else M
def d0(e:dO a b c=Q):∃d,c d=true:=by
 by_cases d:b=a;.exact a1 d<|(dif_pos d).symm.trans e
 .exact a2 ((dif_neg d).symm.trans e) dy
def ku(a:aS)(b:kB->U->dW->aE):Bool:=dO 19 a.ctorIdx λc=>xr a c b
@[elab_as_elim] def k3{g:aS->Prop}(h:ku a b=Q)(i:∀c d e,b c d e=Q->g (.Constant c d e)):g a:=
 (d0 h).elim λf j=>(xr (motive_1:=λa=>∀f,xr a f b=Q->g a) a f λc d e k=>i c d e) f j
def DC(a:aS)(b:aS->xC->aS->dW->aE):Bool:=dO 2 a.ctorIdx λc=>Ge a c b
@[elab_as_elim] def y'{h:aS->Prop}(i:DC a b=Q)(j:∀c d e f,b c d e f=Q->h (.BinOp c d e f)):h a:=
 (d0 i).elim λg k=>(Ge (motive_1:=λa=>∀g,Ge a g b=Q->h a) a g λc d e f l=>j c d e f) g k
def qk(a:aS)(b:UnaryOp->aS->dW->aE):Bool:=dO 3 a.ctorIdx λc=>Gn a c b
@[elab_as_elim] def zi{g:aS->Prop}(h:qk a b=Q)(i:∀c d e,b c d e=Q->g (.UnaryOp c d e)):g a:=
 (d0 h).elim λf j=>(Gn (motive_1:=λa=>∀f,Gn a f b=Q->g a) a f λc d e k=>i c d e) f j
def DH(a:aS)(b:aS->aS->aS->dW->aE):Bool:=dO 5 a.ctorIdx λc=>Gi a c b
@[elab_as_elim] def zd{h:aS->Prop}(i:DH a b=Q)(j:∀c d e f,b c d e f=Q->h (.IfExp c d e f)):h a:=
 (d0 i).elim λg k=>(Gi (motive_1:=λa=>∀g,Gi a g b=Q->h a) a g λc d e f l=>j c d e f) g k
def wn(a:aS)(b:R (aD aS)->R aS->dW->aE):Bool:=dO 6 a.ctorIdx λc=>xs a c b
@[elab_as_elim] def un{g:aS->Prop}(h:wn a b=Q)(i:∀c d e,b c d e=Q->g (.Dict c d e)):g a:=
 (d0 h).elim λf j=>(xs (motive_1:=λa=>∀f,xs a f b=Q->g a) a f λc d e k=>i c d e) f j
def DK(a:aS)(b:aS->R Comprehension->qM->dW->aE):Bool:=dO 8 a.ctorIdx λc=>Gk a c b
@[elab_as_elim] def zf{g:aS->Prop}(h:DK a b=Q)(i:∀c d e f,b c d e f=Q->g (.ListComp c d e f)):g a:=
 (d0 h).elim λc j=>(Gk (motive_1:=λa=>∀c,Gk a c b=Q->g a) a c λc d e f k=>i c d e f) c j
def sV(a:aS)(b:F9->R aS->dW->aE):Bool:=dO 0 a.ctorIdx λc=>Gf a c b
@[elab_as_elim] def JP{g:aS->Prop}(h:sV a b=Q)(i:∀c d e,b c d e=Q->g (.BoolOp c d e)):g a:=
 (d0 h).elim λf j=>(Gf (motive_1:=λa=>∀f,Gf a f b=Q->g a) a f λc d e k=>i c d e) f j
def wm(a:aS)(b:aS->R kA->R aS->dW->aE):Bool:=dO 15 a.ctorIdx λc=>Gh a c b
@[elab_as_elim] def za{h:aS->Prop}(i:wm a b=Q)(j:∀c d e f,b c d e f=Q->h (.Compare c d e f)):h a:=
 (d0 i).elim λg k=>(Gh (motive_1:=λa=>∀g,Gh a g b=Q->h a) a g λc d e f l=>j c d e f) g k
def om(a:aS)(b:aS->R aS->R Keyword->dW->aE):Bool:=dO 16 a.ctorIdx λc=>Gg a c b
@[elab_as_elim] def pj{h:aS->Prop}(i:om a b=Q)(j:∀c d e f,b c d e f=Q->h (.Call c d e f)):h a:=
 (d0 i).elim λg k=>(Gg (motive_1:=λa=>∀g,Gg a g b=Q->h a) a g λc d e f l=>j c d e f) g k
def mW(a:aS)(b:aS->aJ->dW->aE):Bool:=dO 20 a.ctorIdx λc=>Gd a c b
@[elab_as_elim] def pi{g:aS->Prop}(h:mW a b=Q)(i:∀c d e,b c d e=Q->g (.Attribute c d e)):g a:=
 (d0 h).elim λf j=>(Gd (motive_1:=λa=>∀f,Gd a f b=Q->g a) a f λc d e k=>i c d e) f j
def kv(a:aS)(b:aS->aS->dW->aE):Bool:=dO 21 a.ctorIdx λc=>Gm a c b
@[elab_as_elim] def mc{g:aS->Prop}(h:kv a b=Q)(i:∀c d e,b c d e=Q->g (.Subscript c d e)):g a:=
 (d0 h).elim λf j=>(Gm (motive_1:=λa=>∀f,Gm a f b=Q->g a) a f λc d e k=>i c d e) f j
def hM(a:aS)(b:aJ->dW->aE):Bool:=dO 23 a.ctorIdx λc=>tq a c b
@[elab_as_elim] def eY{f:aS->Prop}(g:hM a b=Q)(h:∀c d,b c d=Q->f (.Name c d)):f a:=
 (d0 g).elim λe i=>(tq (motive_1:=λa=>∀e,tq a e b=Q->f a) a e λc d j=>h c d) e i
def DL(a:aS)(b:R aS->dW->aE):Bool:=dO 24 a.ctorIdx λc=>Gj a c b
@[elab_as_elim] def zg{f:aS->Prop}(g:DL a b=Q)(h:∀c d,b c d=Q->f (.List c d)):f a:=
 (d0 g).elim λe i=>(Gj (motive_1:=λa=>∀e,Gj a e b=Q->f a) a e λc d j=>h c d) e i
def qj(a:aS)(b:R aS->U->dW->aE):Bool:=dO 25 a.ctorIdx λc=>xt a c b
@[elab_as_elim] def md{g:aS->Prop}(h:qj a b=Q)(i:∀c d e,b c d e=Q->g (.Tuple c d e)):g a:=
 (d0 h).elim λf j=>(xt (motive_1:=λa=>∀f,xt a f b=Q->g a) a f λc d e k=>i c d e) f j
def sX(a:aS)(b:aD aS->aD aS->aD aS->dW->aE):Bool:=dO 26 a.ctorIdx λc=>Gl a c b
@[elab_as_elim] def up{h:aS->Prop}(i:sX a b=Q)(j:∀c d e f,b c d e f=Q->h (.Slice c d e f)):h a:=
 (d0 i).elim λg k=>(Gl (motive_1:=λa=>∀g,Gl a g b=Q->h a) a g λc d e f l=>j c d e f) g k
def sU(a:c5)(b:R aS->aS->dW->aE):Bool:=dO 5 a.ctorIdx λc=>xG a c b
@[elab_as_elim] def um{g:c5->Prop}(h:sU a b=Q)(i:∀c d e,b c d e=Q->g (.Assign c d e)):g a:=
 (d0 h).elim λf j=>(xG (motive_2:=λa=>∀f,xG a f b=Q->g a) a f λc d e k=>i c d e) f j
def DB(a:c5)(b:aS->xC->aS->dW->aE):Bool:=dO 7 a.ctorIdx λc=>Gy a c b
@[elab_as_elim] def JO{h:c5->Prop}(i:DB a b=Q)(j:∀c d e f,b c d e f=Q->h (.AugAssign c d e f)):h a:=
 (d0 i).elim λg k=>(Gy (motive_2:=λa=>∀g,Gy a g b=Q->h a) a g λc d e f l=>j c d e f) g k
def DM(a:c5)(b:aS->dW->aE):Bool:=dO 24 a.ctorIdx λc=>GB a c b
@[elab_as_elim] def JW{f:c5->Prop}(g:DM a b=Q)(h:∀c d,b c d=Q->f (.Expr c d)):f a:=
 (d0 g).elim λe i=>(GB (motive_2:=λa=>∀e,GB a e b=Q->f a) a e λc d j=>h c d) e i
def DG(a:c5)(b:aS->R c5->R c5->dW->aE):Bool:=dO 12 a.ctorIdx λc=>GE a c b
@[elab_as_elim] def JT{h:c5->Prop}(i:DG a b=Q)(j:∀c d e f,b c d e f=Q->h (.If c d e f)):h a:=
 (d0 i).elim λg k=>(GE (motive_2:=λa=>∀g,GE a g b=Q->h a) a g λc d e f l=>j c d e f) g k
def DF(a:c5)(b:aS->aS->R c5->R c5->dW->aE):Bool:=dO 9 a.ctorIdx λc=>GC a c b
@[elab_as_elim] def JS{i:c5->Prop}(j:DF a b=Q)(k:∀c d e f g,b c d e f g=Q->i (.For c d e f g)):i a:=
 (d0 j).elim λh l=>(GC (motive_2:=λa=>∀h,GC a h b=Q->i a) a h λc d e f g m=>k c d e f g) h l
def DN(a:c5)(b:aS->R c5->R c5->dW->aE):Bool:=dO 11 a.ctorIdx λc=>GG a c b
@[elab_as_elim] def JX{h:c5->Prop}(i:DN a b=Q)(j:∀c d e f,b c d e f=Q->h (.While c d e f)):h a:=
 (d0 i).elim λg k=>(GG (motive_2:=λa=>∀g,GG a g b=Q->h a) a g λc d e f l=>j c d e f) g k
def wp(a:c5)(b:aD aS->dW->aE):Bool:=dO 3 a.ctorIdx λc=>GF a c b
@[elab_as_elim] def zh{f:c5->Prop}(g:wp a b=Q)(h:∀c d,b c d=Q->f (.Return c d)):f a:=
 (d0 g).elim λe i=>(GF (motive_2:=λa=>∀e,GF a e b=Q->f a) a e λc d j=>h c d) e i
def DD(a:c5)(b:dW->aE):Bool:=dO 26 a.ctorIdx λc=>Gz a c b
@[elab_as_elim] def JQ{e:c5->Prop}(f:DD a b=Q)(g:∀c,b c=Q->e (.Break c)):e a:=
 (d0 f).elim λd h=>(Gz (motive_2:=λa=>∀d,Gz a d b=Q->e a) a d λc i=>g c) d h
def DE(a:c5)(b:dW->aE):Bool:=dO 27 a.ctorIdx λc=>GA a c b
@[elab_as_elim] def JR{e:c5->Prop}(f:DE a b=Q)(g:∀c,b c=Q->e (.Continue c)):e a:=
 (d0 f).elim λd h=>(GA (motive_2:=λa=>∀d,GA a d b=Q->e a) a d λc i=>g c) d h
def DI(a:kB)(b:aE->aE):Bool:=dO 1 a.ctorIdx λc=>Ga a c b
@[elab_as_elim] def JU{e:kB->Prop}(f:DI a b=Q)(g:∀c,b c=Q->e (.bool c)):e a:=
 (d0 f).elim λd h=>(Ga (motive:=λa=>∀d,Ga a d b=Q->e a) a d λc i=>g c) d h
def wo(a:kB)(b:ah->aE):Bool:=dO 2 a.ctorIdx λc=>Gb a c b
@[elab_as_elim] def ze{e:kB->Prop}(f:wo a b=Q)(g:∀c,b c=Q->e (.int c)):e a:=
 (d0 f).elim λd h=>(Gb (motive:=λa=>∀d,Gb a d b=Q->e a) a d λc i=>g c) d h
def sW(a:kB)(b:aJ->aE):Bool:=dO 5 a.ctorIdx λc=>Gc a c b
@[elab_as_elim] def uo{e:kB->Prop}(f:sW a b=Q)(g:∀c,b c=Q->e (.str c)):e a:=
 (d0 f).elim λd h=>(Gc (motive:=λa=>∀d,Gc a d b=Q->e a) a d λc i=>g c) d h
def DJ(a:kB):Bool:=dO 0 a.ctorIdx λb=>Q
@[elab_as_elim] def JV{b:kB->Prop}(c:DJ a=Q)(d:b .none):b a:=(d0 c).elim λe f=>è a e d
def hh:R a->(a->aE)->aE
 |[b],c=>c b
 |_,_=>M
@[elab_as_elim] def j'{f:R c->Prop}(e:hh a b=Q)(g:∀d,b d=Q->f [d]):f a:=by
 cases a with
 |nil=>exact a2 e dy
 |cons d a=>cases a with
  |nil=>exact g d e
  |cons h a=>exact a2 e dy
def lB:R a->(a->a->aE)->aE
 |[b,c],d=>d b c
 |_,_=>M
@[elab_as_elim] def rv{g:R c->Prop}(d:lB a b=Q)(h:∀e f,b e f=Q->g [e,f]):g a:=by
 cases a with
 |nil=>exact a2 d dy
 |cons e a=>cases a with
  |nil=>exact a2 d dy
  |cons f a=>cases a with
   |nil=>exact h e f d
   |cons _ _=>exact a2 d dy
def iQ:R a->aE
 |[]=>Q
 |_=>M
@[elab_as_elim] def e'{c:R b->Prop}(d:iQ a=Q)(e:c []):c a:=by
 cases a with
 |nil=>exact e
 |cons _ _=>exact a2 d dy
def oo:R a->(a->R a->aE)->aE
 |[],_=>M
 |b::c,d=>d b c
@[elab_as_elim] def gq{e:R c->Prop}(f:oo a b=Q)(h:∀d g,b d g=Q->e (d::g)):e a:=by
 cases a with
 |nil=>exact a2 f dy
 |cons d a=>exact h d a f
def qi:aD a->(a->aE)->aE
 |none,_=>M
 |some b,c=>c b
@[elab_as_elim] def ru{e:aD c->Prop}(f:qi a b=Q)(g:∀d,b d=Q->e (Y d)):e a:=by
 cases a with
 |none=>exact a2 f dy
 |some d=>exact g d f
def mX:aD a->aE
 |none=>Q
 |some _=>M
@[elab_as_elim] def nG{c:aD b->Prop}(d:mX a=Q)(e:c ab):c a:=by
 cases a with
 |none=>exact e
 |some _=>exact a2 d dy
def aP(c:(a&&b)=Q):a=Q/\b=true:=by
 cases a with
 |false=>exact a2 c dy
 |true=>exact am Z c
def bO(d:(a&&b&&c)=Q):a=Q/\b=Q/\c=true:=aL ((aP (aP d).1).1) ((aP (aP d).1).2)<|(aP d).2
def cR(e:(a&&b&&c&&d)=Q):a=Q/\b=Q/\c=Q/\d=true:=db ((bO (aP e).1).1) ((bO (aP e).1).2.1) ((bO (aP e).1).2.2)<|(aP e).2
def j9(f:(a&&b&&c&&d&&e)=Q):a=Q/\b=Q/\c=Q/\d=Q/\e=true:=bB ((cR (aP f).1).1) ((cR (aP f).1).2.1) ((cR (aP f).1).2.2.1) ((cR (aP f).1).2.2.2)<|(aP f).2
def rn(g:(a&&b&&c&&d&&e&&f)=Q):a=Q/\b=Q/\c=Q/\d=Q/\e=Q/\f=true:=gv ((j9 (aP g).1).1) ((j9 (aP g).1).2.1) ((j9 (aP g).1).2.2.1) ((j9 (aP g).1).2.2.2.1) ((j9 (aP g).1).2.2.2.2)<|(aP g).2
def ma[BEq a][LawfulBEq a]{d:a->Prop}(e:(b==c)=Q)(f:d c):d b:=(w5 e).symm▸f
def rr(b:(!a)=Q):a=false:=by
 cases a with
 |false=>rfl
 |true=>exact a2 b dy
def e0[oz a](b:aN a=Q):a:=f5 b
structure da where
 a:U->aJ
 b:R U
 c:qM
def A5(a:da)(b:aJ):Bool:=match a.c.2.lookup b with
 |some .local=>Q|some .cell=>Q|some .free=>Q|_=>M
def hi(b:da)(c:U)(a:aJ):Bool:=b.b.contains c&&(b.a c==a)&&A5 b a&& !(a==("__debug__":aJ))&& !(a==("__classdict__":aJ))
def gw(b:da)(a c:aJ):Bool:=(a==c)&&(b.c.2.lookup a==Y .globalImplicit)&& !(a==("__debug__":aJ))
def my(a:R U)(b:U):Bool:=a.all λc=> !oF c b
def kp(a:aS):Bool:=hM a (λd d=>Q)||(mW a (λd d d=>Q)||(kv a (λd d d=>Q)||(wn a (λd d d=>Q)||om a λb c d d=>hM b (λd d=>Q)&&oo c λd d=>Q)))
def jy(a:aS):Bool:=my [8,9,10] a.ctorIdx
def hG(a:aS):Bool:=my [7] a.ctorIdx
def e2(a:aS):Bool:=my [22] a.ctorIdx
def pQ(a:aS):Bool:=my [26] a.ctorIdx
def SK(a:aS):Bool:=hM a (λb b=>Q)||(mW a (λb b b=>Q)||kv a λb b b=>Q)
def vu(a:aS):Bool:=my [20] a.ctorIdx
def hd:fO->R U
 |.A a=>[a]
 |.B b=>b
def ll(b:da):R U->R aS->aE
 |[],a=>iQ a
 |c::d,a=>oo a λe a=>hM e λf g=>hi b c f&&ll b d a
def gV(a:da)(d:fO)(b:aS):Bool:=match d with
 |.A e=>hM b λf h=>hi a e f
 |.B c=>qj b λg h h=>ll a c g&&aN c.Nodup
def eR(a:da)(c:fO)(b:qM):da:=⟨a.a,hd c++a.b.filter (λd=>b.2.lookup (a.a d)==Y .free),b⟩
def mK(b:da)(d:fO)(c:qM):Bool:=
 aN (c.1=.function)&&(c.2.all (λa=>(!(a.2==.local)||c.2.lookup a.1==Y .local)&&(!(a.2==.cell)&&(!(a.2==.free)||((c.2.lookup a.1==Y .free)&&((b.c.2.lookup a.1==Y .cell||b.c.2.lookup a.1==Y .free)&&(b.b.map b.a).contains a.1)))))&&
  ((hd d).all (λa=>c.2.lookup (b.a a)==Y .local)&&aN ((eR b d c).b.map b.a).Nodup))
def nX:R aC->R (aD aS)->aE
 |[],a=>iQ a
 |b::c,a=>oo a λd a=>qi d λe=>ku e λf h h=>sW f λg=>(g==b2 b)&&hI b&&nX c a
def Ov:qN->aJ
 |.module=>"str"|.function=>"Node"|.«class»=>"Params"|.typeAlias=>"list"|.typeParameters=>"Label"|.typeVariable=>"tuple"|.annotation=>""
def A9(a:da)(b:qN)(d:aS):Bool:=match b with
 |.annotation=>qj d λe i i=>lB e λf g=>hM f λc i=>hM g λh i=>gw a c "list"&&gw a h "tuple"
 |b=>hM d λc i=>gw a c<|Ov b
def u4(a:jY):Bool:= !my [2,3] a.ctorIdx
def ls(a:fO)(b:jY):Bool:= !u4 b||match a with|.B _=>Q|.A _=>M
def AV(a:bk):Bool:=oF a.ctorIdx 0
def uv(a:aS->aE)(b:bk):aD aS->aE
 |none=>AV b
 |some c=>a c
def TX(a:aS):Bool:=ku a λb c c=>DJ b
def qg(a:da)(b:aS)(c:aJ):Bool:=hM b λd e=>gw a d c
def hg(a:da)(b:aS)(c:aJ)(d:R aS->aE):Bool:=om b λe f g h=>qg a e c&&iQ g&&d f
def qh(a:aS)(b:aJ)(c:aS->R aS->aE):Bool:=om a λd e f g=>mW d λh i j=>iQ f&&(i==b)&&(j.3==g.1)&&c h e
def TV(a:aD aS):Bool:=qi a λb=>qk b λa c f=>aN (a=.USub)&&ku c λd f f=>wo d λe=>aN<|e=1
mutual
noncomputable def bm(b:da):bk->aS->aE
 |.H,a=>TX a
 |.i j,a=>ku a λk x_ x_=>DI k λH=>H==j
 |.B y,a=>ku a λk x_ x_=>wo k λI=>aN<|I=y
 |.J n,a=>ku a λk x_ x_=>sW k λJ=>(J==b2 n)&&hI n
 |.A c,a=>hM a λK x_=>hi b c K
 |.o p,a=>qg b a (ps p)&& !pA p
 |.m h,a=>qg b a<|wd h
 |.D d p,a=>mW a λl i x_=>bm b d l&&(i==b2 p)&&kp l
 |.F d y,a=>kv a λl n x_=>bm b d l&&bm b y n&&pQ n
 |.e d E F,a=>kv a λl n x_=>sX n λo q h x_=>mX h&&bm b d l&&uv (λc=>bm b E c) E o&&uv (λc=>bm b F c) F q
 |.q _ d,a=>kv a λl n x_=>sX n λo q h x_=>mX o&&mX q&&TV h&&bm b d l
 |.K t i j,a=>DC a λo f r x_=>B1 t f&&bm b i o&&bm b j r
 |.g i,a=>qk a λf c x_=>aN (f=.USub)&&bm b i c
 |.k i,a=>qk a λf c x_=>aN (f=.Not)&&bm b i c
 |.f g,a=>sV a λf z x_=>aN (f=.And)&&dN b g z
 |.j g,a=>sV a λf z x_=>aN (f=.Or)&&dN b g z
 |.C t i j,a=>wm a λo A B x_=>hh A λf=>hh B λr=>k9 t f&&bm b i o&&bm b j r&&hG r
 |.t t L i j a_,a=>wm a λo A B x_=>lB A λf b_=>lB B λr h=>k9 t f&&k9 L b_&&bm b i o&&bm b j r&&bm b a_ h&&hG h
 |.b h i j,a=>DH a λc q k x_=>bm b h c&&bm b i q&&bm b j k
 |.I g,a=>qj a λm x_ x_=>dN b g m&&aN (m.length<100)
 |.a _ g,a=>DL a λm x_=>dN b g m&&aN (m.length<100)
 |.r _ w g,a=>wn a λm s x_=>nX w m&&dN b g s&&aN (m.length<=15)&&(m.length==s.length)&&aN w.Nodup&& !m.isEmpty
 |.d _ c_ h G d_,a=>DK a λd e_ x x_=>hh e_ λu=>aN (u.4=0)&&(mK b h x&&ls h G&&k6 b G u.2&&hG u.2&&gV (eR b h x) h u.1&&dN (eR b h x) d_ u.3&&bm (eR b h x) c_ d)
 |.G p g,a=>hg b a (ps p) λe=> !pA p&&dN b g e&&aN (e.length<20)
 |.c v g,a=>hg b a (rA v) λe=>dN b g e&&aN (e.length<20)
 |.E d C g,a=>qh a (b2 C) λf e=>bm b d f&&dN b g e&&kp f&&aN (e.length<20)
 |.v v g,a=>qh a "__init__" λf e=>qg b f (rA v)&&dN b g e&&aN (e.length<20)
 |.s d g,a=>om a λp e w x_=>iQ w&&bm b d p&&dN b g e&&vu p&&aN (e.length<20)
 |.L j d,a=>hg b a (y1 j) λe=>hh e λc=>bm b d c&&e2 c
 |.l d v,a=>hg b a "isinstance" λe=>lB e λc h=>bm b d c&&e2 c&&A9 b v h
 |.h d C g,a=>qh a (y4 C) λf e=>bm b d f&&dN b g e&&kp f&&aN (e.length<20)
 |.u i j,a=>hg b a "list" λe=>hh e λc=>hg b c "zip" λD=>lB D λq l=>bm b i q&&bm b j l&&e2 q&&e2 l
 |.p d,a=>hg b a "repr" λe=>hh e λc=>hg b c "sorted" λD=>hh D λk=>qh k "items" λf f_=>iQ f_&&bm b d f&&kp f
 |.n d,a=>SK a&&bm b d a
 |.w,_=>Q
noncomputable def dN(b:da):bQ->R aS->aE
 |.B,s=>iQ s
 |.A d g,s=>oo s λc m=>bm b d c&&e2 c&&dN b g m
noncomputable def k6(b:da):jY->aS->aE
 |.A d,a=>bm b d a
 |.B d,a=>hg b a "range" λe=>hh e λc=>bm b d c&&e2 c
 |.C d,a=>hg b a "enumerate" λe=>hh e λc=>bm b d c&&e2 c
 |.E i j,a=>hg b a "zip" λe=>lB e λc k=>bm b i c&&bm b j k&&e2 c&&e2 k
 |.D d,a=>kv a λl n f=>ku l λk f f=>sW k λh=>sX n λo q g_ f=>mX o&&mX g_&&(h==("xyz":aJ))&&qi q λc=>bm b d c
end
def uu(b:da)(a:bk)(c:aD aS):Bool:=uv (λd=>bm b a d) a c
def sL(a:aS):Bool:=my [25] a.ctorIdx||qj a λb c c=>b.all (ZR 8)|| !b.all (ZQ 8)
def u0(a:bk):Bool:=oF a.ctorIdx 22
mutual
noncomputable def jm(b:da):g2->c5->aE
 |.B f d,a=>sU a λi c o=>hh i λh=>gV b f h&&bm b d c&&sL c&&(jy c||u0 d)
 |.E j r d,a=>sU a λi c o=>hh i λh=>mW h λe n o=>bm b d c&&bm b j e&&(n==b2 r)&&jy c
 |.H j s d,a=>sU a λi c o=>hh i λh=>kv h λe g o=>bm b d c&&bm b j e&&bm b s g&&pQ g&&jy c
 |.J e d,a=>DB a λh j c o=>aN (j=.Add)&&hM h λt o=>hi b e t&&bm b d c
 |.A d,a=>DM a λc o=>bm b d c&&jy c
 |.C f n k,a=>DG a λe l m o=>bm b f e&&jn b n l&&jn b k m
 |.G f p k,a=>DF a λu q l m o=>iQ m&&gV b f u&&ls f p&&k6 b p q&&hG q&&jn b k l
 |.I f k,a=>DN a λe l m o=>iQ m&&bm b f e&&jn b k l
 |.D d,a=>wp a λc o=>qi c λc=>bm b d c
 |.a,a=>wp a λc o=>mX c
 |.K,a=>DD a λo=>Q
 |.L,a=>DE a λo=>Q
 |.F,_=>Q
noncomputable def u1(g:g2):Bool:=oF g.ctorIdx 12
noncomputable def jn(b:da):cu->R c5->aE
 |.B,o=>iQ o
 |.A g v,o=>u1 g||oo o λe w=>jm b g e&&jn b v w
end
def ev(a:aq)(b:U):Str:=b2<|((PW a)[b]?).getD "?"
section
def cv{f:Prop}(d:a.bind b=Y c)(g:∀e,a=Y e->b e=Y c->f):f:=(F5.1 d).elim λe d=>g e d.1 d.2
def dB{f:Prop}(d:a.map b=Y c)(g:∀e,a=Y e->b e=c->f):f:=(oG.1 d).elim λe d=>g e d.1 d.2
def aT{b:Prop}(c:ab=Y a):b:=b8 c
def hz:co a=Y b->a=.A b:=V.casesOn a aT (λc=>aT) (λf d=>aF V.A<|cZ d) (λc=>aT) (λc=>aT) (λc=>aT) (λc=>aT) (λc e=>aT) (λc=>aT) (λc=>aT) (λc=>aT) λc=>aT
def g4:eO a=Y b->a=.D b:=V.casesOn a aT (λc=>aT) (λc=>aT) (λc=>aT) (λc=>aT) (λf d=>aF V.D<|cZ d) (λc=>aT) (λc e=>aT) (λc=>aT) (λc=>aT) (λc=>aT) λc=>aT
def k0:g5 a=Y b->a=.F b:=V.casesOn a aT (λc=>aT) (λc=>aT) (λc=>aT) (λf d=>aF V.F<|cZ d) (λc=>aT) (λc=>aT) (λc e=>aT) (λc=>aT) (λc=>aT) (λc=>aT) λc=>aT
def j7:eh a=Y b->a=.E b:=V.casesOn a aT (λc=>aT) (λc=>aT) (λf d=>aF V.E<|cZ d) (λc=>aT) (λc=>aT) (λc=>aT) (λc e=>aT) (λc=>aT) (λc=>aT) (λc=>aT) λc=>aT
def nE:hy a=Y b->a=.G b:=V.casesOn a aT (λf d=>aF V.G<|cZ d) (λc=>aT) (λc=>aT) (λc=>aT) (λc=>aT) (λc=>aT) (λc e=>aT) (λc=>aT) (λc=>aT) (λc=>aT) λc=>aT
def Jh:pb a=Y b->a=.K b:=V.casesOn a aT (λc=>aT) (λc=>aT) (λc=>aT) (λc=>aT) (λc=>aT) (λc=>aT) (λc e=>aT) (λc=>aT) (λc=>aT) (λf d=>aF V.K<|cZ d) λc=>aT
def Ji:nF a=Y b->a=.I b:=V.casesOn a aT (λc=>aT) (λc=>aT) (λc=>aT) (λc=>aT) (λc=>aT) (λc=>aT) (λc e=>aT) (λc=>aT) (λc=>aT) (λc=>aT) λf d=>aF V.I<|cZ d
def Jf:yX a=Y b->a=.H b:=V.casesOn a aT (λc=>aT) (λc=>aT) (λc=>aT) (λc=>aT) (λc=>aT) (λc=>aT) (λc e=>aT) (λc=>aT) (λf d=>aF V.H<|cZ d) (λc=>aT) λc=>aT
def uf:j6 a=Y b->a=.J b:=V.casesOn a aT (λc=>aT) (λc=>aT) (λc=>aT) (λc=>aT) (λc=>aT) (λf d=>aF V.J<|cZ d) (λc e=>aT) (λc=>aT) (λc=>aT) (λc=>aT) λc=>aT
def jk:e8 a=Y b->a=.B b:=V.casesOn a aT (λc=>aT) (λc=>aT) (λc=>aT) (λc=>aT) (λc=>aT) (λc=>aT) (λc e=>aT) (λf d=>aF V.B<|cZ d) (λc=>aT) (λc=>aT) λc=>aT
def pa:h2 a=Y b->a=.C:=V.casesOn a (λe=>Z) (λc=>aT) (λc=>aT) (λc=>aT) (λc=>aT) (λc=>aT) (λc=>aT) (λc d=>aT) (λc=>aT) (λc=>aT) (λc=>aT) λc=>aT
def Jg:ug a=Y b->a=.L b.1 b.2:=V.casesOn a aT (λc=>aT) (λc=>aT) (λc=>aT) (λc=>aT) (λc=>aT) (λc=>aT) (λe e d=>cZ d▸Z) (λc=>aT) (λc=>aT) (λc=>aT) λc=>aT
def rt:e9 a=Y b->a=.A b:=cn.casesOn a aT (λf c=>aF cn.A<|cZ c) (λd=>aT) λd e=>aT
def pk:fx a=Y b->a=.D b:=cn.casesOn a aT (λc=>aT) (λf d=>aF cn.D<|cZ d) λc e=>aT
def zc:mb a=Y b->a=.C b.1 b.2:=cn.casesOn a aT (λc=>aT) (λc=>aT) λe e d=>cZ d▸Z
def PV:vq a=Y b->a=.C b:=an.casesOn a (λc=>aT) (λe d=>aF an.C<|cZ d) (λc=>aT) λc=>aT
def TW{e:Prop}(f:(co a).bind b=Y c)(g:∀d,a=.A d->b d=Y c->e):e:=cv f λd h i=>g d (hz h) i
def Bp{e:Prop}(f:(co a).map b=Y c)(g:∀d,a=.A d->b d=c->e):e:=dB f λd h i=>g d (hz h) i
def TY{e:Prop}(f:(eO a).bind b=Y c)(g:∀d,a=.D d->b d=Y c->e):e:=cv f λd h i=>g d (g4 h) i
def Po{e:Prop}(f:(eO a).map b=Y c)(g:∀d,a=.D d->b d=c->e):e:=dB f λd h i=>g d (g4 h) i
def T4{e:Prop}(f:(g5 a).bind b=Y c)(g:∀d,a=.F d->b d=Y c->e):e:=cv f λd h i=>g d (k0 h) i
def T3{e:Prop}(f:(eh a).bind b=Y c)(g:∀d,a=.E d->b d=Y c->e):e:=cv f λd h i=>g d (j7 h) i
def Pp{e:Prop}(f:(eh a).map b=Y c)(g:∀d,a=.E d->b d=c->e):e:=dB f λd h i=>g d (j7 h) i
def T1{e:Prop}(f:(e8 a).bind b=Y c)(g:∀d,a=.B d->b d=Y c->e):e:=cv f λd h i=>g d (jk h) i
def zb{e:Prop}(f:(fx a).bind b=Y c)(g:∀d,a=.D d->b d=Y c->e):e:=cv f λd h i=>g d (pk h) i
def rs{e:Prop}(f:(e9 a).bind b=Y c)(g:∀d,a=.A d->b d=Y c->e):e:=cv f λd h i=>g d (rt h) i
def TU{e:Prop}(f:(hy a).bind b=Y c)(g:∀d,a=.G d->b d=Y c->e):e:=cv f λd h i=>g d (nE h) i
def T2{e:Prop}(f:(pb a).bind b=Y c)(g:∀d,a=.K d->b d=Y c->e):e:=cv f λd h i=>g d (Jh h) i
def T0{e:Prop}(f:(nF a).bind b=Y c)(g:∀d,a=.I d->b d=Y c->e):e:=cv f λd h i=>g d (Ji h) i
def Pn{e:Prop}(f:(hy a).map b=Y c)(g:∀d,a=.G d->b d=c->e):e:=dB f λd h i=>g d (nE h) i
def TZ{d:Prop}(e:(h2 a).bind b=Y c)(f:a=.C->b ()=Y c->d):d:=cv e λi g h=>f (pa g) h
@[elab_as_elim] def gs{f:V->Prop}(e:(co a).bind b=Y c)(g:∀d,b d=Y c->f (.A d)):f a:=TW e λd h e=>h▸g d e
@[elab_as_elim] def nL{f:V->Prop}(e:(eO a).bind b=Y c)(g:∀d,b d=Y c->f (.D d)):f a:=TY e λd h e=>h▸g d e
@[elab_as_elim] def Lj{f:V->Prop}(e:(g5 a).bind b=Y c)(g:∀d,b d=Y c->f (.F d)):f a:=T4 e λd h e=>h▸g d e
@[elab_as_elim] def k'{f:V->Prop}(e:(eh a).bind b=Y c)(g:∀d,b d=Y c->f (.E d)):f a:=T3 e λd h e=>h▸g d e
@[elab_as_elim] def zW{f:V->Prop}(e:(hy a).bind b=Y c)(g:∀d,b d=Y c->f (.G d)):f a:=TU e λd h e=>h▸g d e
@[elab_as_elim] def zY{f:V->Prop}(e:(pb a).bind b=Y c)(g:∀d,b d=Y c->f (.K d)):f a:=T2 e λd h e=>h▸g d e
@[elab_as_elim] def zZ{f:V->Prop}(e:(nF a).bind b=Y c)(g:∀d,b d=Y c->f (.I d)):f a:=T0 e λd h e=>h▸g d e
@[elab_as_elim] def le{f:V->d->Prop}(g:(co a).map b=Y c)(h:∀e,f (.A e)<|b e):f a c:=Bp g λe i j=>by rw[i,<-j];exact h e
@[elab_as_elim] def Ly{f:V->d->Prop}(g:(eO a).map b=Y c)(h:∀e,f (.D e)<|b e):f a c:=Po g λe i j=>by rw[i,<-j];exact h e
@[elab_as_elim] def rK{f:V->d->Prop}(g:(eh a).map b=Y c)(h:∀e,f (.E e)<|b e):f a c:=Pp g λe i j=>by rw[i,<-j];exact h e
@[elab_as_elim] def Lx{f:V->d->Prop}(g:(hy a).map b=Y c)(h:∀e,f (.G e)<|b e):f a c:=Pn g λe i j=>by rw[i,<-j];exact h e
@[elab_as_elim] def Ad{e:V->d->Prop}(f:(h2 a).map b=Y c)(g:e .C<|b ()):e a c:=dB f λj h i=>pa h▸i▸g
@[elab_as_elim] def Ac{f:a}{g:a->Prop}(e:b.map c=Y f)(h:∀d,b=Y d->g (c d)):g f:=dB e λd e i=>i▸h d e
@[elab_as_elim] def Lg{e:an->Prop}(f:(vq a).bind b=Y c)(g:∀d,b d=Y c->e (.C d)):e a:=cv f λd h i=>PV h▸g d i
def uX[oz a]{f:Prop}(g:(if a then c else d)=Y b)(h:a->c=Y b->f)(i:¬a->d=Y b->f):f:=by
 by_cases e:a;.exact h e<|(au e).symm.trans g
 .exact i e<|(ao e).symm.trans g
def px[oz a]{e:Prop}(f:(if a then ab else b)=Y c)(g:¬a->b=Y c->e):e:=by
 by_cases d:a;.exact b8<|(au d).symm.trans f
 .exact g d<|(ao d).symm.trans f
@[elab_as_elim] def nM{f:V->Prop}(e:(e8 a).bind b=Y c)(g:∀d,b d=Y c->f (.B d)):f a:=T1 e λd h e=>h▸g d e
@[elab_as_elim] def zX{e:V->Prop}(f:(j6 a).bind b=Y c)(g:∀d,b d=Y c->e (.J d)):e a:=cv f λd h i=>uf h▸g d i
@[elab_as_elim] def pn{f:R V->Prop}(e:(n8 a).bind b=Y c)(g:∀d,b d=Y c->f [d]):f a:=by
 cases a with
 |nil=>exact b8 e
 |cons d a=>cases a with
  |nil=>exact g d e
  |cons _ _=>exact b8 e
@[elab_as_elim] def zV{g:R V->Prop}(d:(wk a).bind b=Y c)(h:∀e f,b (e,f)=Y c->g [e,f]):g a:=by
 cases a with
 |nil=>exact b8 d
 |cons e a=>cases a with
  |nil=>exact b8 d
  |cons f a=>cases a with
   |nil=>exact h e f d
   |cons _ _=>exact b8 d
def uW{e:Prop}(d:(if a then ab else b)=Y c)(f:a=M->b=Y c->e):e:=px d λg d=>f (ow.2 g) d
@[elab_as_elim] def Lh{e:V->Prop}(d:(h2 a).bind b=Y c)(f:b ()=Y c->e .C):e a:=TZ d λg d=>g▸f d
@[elab_as_elim] def hK{d:c->Prop}(e:Y a=Y b)(f:d a):d b:=cZ e▸f
def cL{d:Prop}(e:a.or c=Y b)(f:a=Y b->d)(g:c=Y b->d):d:=by
 cases a with
 |none=>exact g e
 |some _=>exact f e
def dA[oz a]{e:Prop}(f:(if a then b else ab)=Y c)(g:a->b=Y c->e):e:=by
 by_cases d:a;.exact g d<|(au d).symm.trans f
 .exact b8<|(ao d).symm.trans f
@[elab_as_elim] def vj{i:e->f->Prop}(h:b.map a=Y (c,d))(j:∀g,b=Y g->i (a g).1 (a g).2):i c d:=dB h λg h k=>by haveI:=j g h;rw[k]at this;exact this
@[elab_as_elim] def É{h:f×g->a×b}{k:a->b->Prop}(m:c.map h=Y (d,e))(n:∀i j,c=Y (i,j)->k (h (i,j)).1 (h (i,j)).2):k d e:=vj m λl=>n l.1 l.2
@[elab_as_elim] def Ç{h:f->a}{i:b}{j:a->b->Prop}(k:c.map (λg=>(h g,d))=Y (e,i))(l:∀g,c=Y g->j (h g) d):j e i:=vj k l
@[elab_as_elim] def PC{k:f->g->h->Prop}(j:b.map a=Y (c,d,e))(l:∀i,b=Y i->k (a i).1 (a i).2.1 (a i).2.2):k c d e:=dB j λi j m=>by haveI:=l i j;rw[m]at this;exact this
@[elab_as_elim] def È{i:g×h->b×c×a}{l:a}{m:b->c->a->Prop}(o:d.map i=Y (e,f,l))(p:∀j k,d=Y (j,k)->m (i (j,k)).1 (i (j,k)).2.1 (i (j,k)).2.2):m e f l:=PC o λn=>p n.1 n.2
@[elab_as_elim] def ob{g:e->f->Prop}(h:Y (a,b)=Y (c,d))(i:g a b):g c d:=by cases h;exact i
end
section
variable{d:da}{a:aS}{c:aS->Prop}{b f g:bk}{h:bQ}{e:fO}
@[elab_as_elim] def A4(e:qg d a i=Q)(g:∀b f,gw d b i=Q->c (.Name b f)):c a:=eY e g
@[elab_as_elim] def nV(b:hg d a i j=Q)(k:∀e g f h,gw d e i=Q->j f=Q->c (.Call (.Name e g) f [] h)):c a:=
 pj b λm f n h b=>eY (bO b).1 λe g l=>e' (bO b).2.1<|k e g f h l (bO b).2.2
@[elab_as_elim] def r2(b:qh a i j=Q)(k:∀d e g h,(e.3==h.1)=Q->j d g=Q->c (.Call (.Attribute d i e) g [] h)):c a:=
 pj b λl g m h b=>pi b λd f e b=>e' (cR b).1<|ma (d:=λf=>c<|.Call (.Attribute d f e) g [] h) (cR b).2.1<|k d e g h (cR b).2.2.1 (cR b).2.2.2
@[elab_as_elim] def r1(b:(hg d a i λk=>hh k j)=Q)(l:∀e g f h,gw d e i=Q->j f=Q->c (.Call (.Name e g) [f] [] h)):c a:=
 nV b λe g k h m b=>j' b λf b=>l e g f h m b
@[elab_as_elim] def u5(b:(hg d a i λl=>lB l j)=Q)(m:∀e h f g k,gw d e i=Q->j f g=Q->c (.Call (.Name e h) [f,g] [] k)):c a:=
 nV b λe h l k n b=>rv b λf g b=>m e h f g k n b
@[elab_as_elim] def zA{c:R (aD aS)->Prop}(a:nX (i::j) k=Q)(h:∀d f b,hI i=Q->nX j b=Q->c (Y (.Constant (.str<|b2 i) d f)::b)):c k:=
 gq a λl b a=>ru a λm a=>k3 a λe d f a=>uo a λg a=>ma (d:=λg=>c (Y (.Constant (.str g) d f)::b)) (bO a).1<|h d f b (bO a).2.1 (bO a).2.2
@[elab_as_elim] def uw{h:R aS}{c:R aS->Prop}(a:ll d (i::j) h=Q)(k:∀e g f,hi d i e=Q->ll d j f=Q->c (.Name e g::f)):c h:=
 gq a λb f a=>eY a λe g a=>k e g f (aP a).1 (aP a).2
@[elab_as_elim] def Kz(f:k6 d (.D b) a=Q)(l:∀g h i j k,bm d b i=Q->c (.Subscript (.Constant (.str "xyz") g h) (.Slice ab (Y i) ab j) k)):c a:=
 mc f λn o k f=>k3 f λp g h f=>uo f λe f=>up f λq m r j f=>
  nG (cR f).1<|nG (cR f).2.1<|
  ma (d:=λe=>c<|.Subscript (.Constant (.str e) g h) (.Slice ab m ab j) k) (cR f).2.2.1<|ru (cR f).2.2.2 λi f=>l g h i j k f
@[elab_as_elim] def Ko(b:bm d (.u f g) a=Q)(o:∀i k l j m e h n,gw d i "list"=Q->gw d j "zip"=Q->bm d f e=Q/\bm d g h=Q/\e2 e=Q/\e2 h=Q->c (.Call (.Name i k) [.Call (.Name j m) [e,h] [] n] [] l)):c a:=
 r1 b λi k r l p b=>u5 b λj m e h n q b=>o i k l j m e h n p q<|cR b
@[elab_as_elim] def Kp(b:bm d .H a=Q)(g:∀e f,c<|.Constant .none e f):c a:=k3 b λh e f b=>JV b<|g e f
@[elab_as_elim] def Kj{e:aE}(b:bm d (.i e) a=Q)(i:∀f h,c<|.Constant (.bool e) f h):c a:=k3 b λj f h b=>JU b λg b=>ma (d:=λg=>c<|.Constant (.bool g) f h) b<|i f h
@[elab_as_elim] def Kn{e:ah}(b:bm d (.B e) a=Q)(i:∀f h,c<|.Constant (.int e) f h):c a:=k3 b λj f h b=>ze b λg b=>(e0 b)▸i f h
@[elab_as_elim] def Kx{e:aC}(b:bm d (.J e) a=Q)(i:∀f g,hI e=Q->c (.Constant (.str<|b2 e) f g)):c a:=k3 b λj f g b=>uo b λh b=>ma (d:=λh=>c<|.Constant (.str h) f g) (aP b).1<|i f g (aP b).2
@[elab_as_elim] def Kl(f:bm d (.o i) a=Q)(g:∀b e,gw d b (ps i)=Q->pA i=M->c (.Name b e)):c a:=eY (aP f).1 λb e h=>g b e h<|rr (aP f).2
@[elab_as_elim] def Kh(g:bm d (.D b i) a=Q)(j:∀e h,bm d b e=Q->kp e=Q->c (.Attribute e (b2 i) h)):c a:=
 pi g λe f h g=>ma (d:=λf=>c<|.Attribute e f h) (bO g).2.1<|j e h (bO g).1 (bO g).2.2
@[elab_as_elim] def Kw(f:bm d (.e b i j) a=Q)(n:∀g h k l m,bm d b g=Q->uu d i h=Q->uu d j k=Q->c (.Subscript g (.Slice h k ab m) l)):c a:=
 mc f λg o l f=>up f λh k e m f=>nG (cR f).1<|n g h k l m (cR f).2.1 (cR f).2.2.1 (cR f).2.2.2
@[elab_as_elim] def Ks(f:bm d (.q i b) a=Q)(p:∀g j k l m n,bm d b g=Q->c (.Subscript g (.Slice ab ab (Y<|.UnaryOp .USub (.Constant (.int 1) j l) m) n) k)):c a:=
 mc f λg q k f=>up f λr s e n f=>nG (cR f).1<|nG (cR f).2.1<|
  ru (cR f).2.2.1 λt h=>zi h λu v m h=>by refine k3 (aP h).2 λw j l o=>ze o λx o=>?_;rw[e0 (aP h).1,e0 o];exact p g j k l m n (cR f).2.2.2
@[elab_as_elim] def zE{f:aS->aE}(d:(qk a λg b j=>aN (g=i)&&f b)=Q)(h:∀b e,f b=Q->c (.UnaryOp i b e)):c a:=zi d λg b e d=>(e0 (aP d).1)▸h b e (aP d).2
@[elab_as_elim] def zw{f:R aS->aE}(d:(sV a λg b j=>aN (g=i)&&f b)=Q)(h:∀b e,f b=Q->c (.BoolOp i b e)):c a:=JP d λg b e d=>(e0 (aP d).1)▸h b e (aP d).2
@[elab_as_elim] def zB(e:bm d (.g f) a=Q)(h:∀b g,bm d f b=Q->c (.UnaryOp .USub b g)):c a:=zE (c:=c) e h
@[elab_as_elim] def zC(e:bm d (.k f) a=Q)(h:∀b g,bm d f b=Q->c (.UnaryOp .Not b g)):c a:=zE (c:=c) e h
@[elab_as_elim] def zv(e:bm d (.f h) a=Q)(g:∀b f,dN d h b=Q->c (.BoolOp .And b f)):c a:=zw (c:=c) e g
@[elab_as_elim] def zD(e:bm d (.j h) a=Q)(g:∀b f,dN d h b=Q->c (.BoolOp .Or b f)):c a:=zw (c:=c) e g
@[elab_as_elim] def zx(b:bm d (.C i f g) a=Q)(l:∀h j e k,k9 i j=Q/\bm d f h=Q/\bm d g e=Q/\hG e=Q->c (.Compare h [j] [e] k)):c a:=
 za b λh m n k b=>j' b λj b=>j' b λe b=>l h j e k<|cR b
@[elab_as_elim] def zy(b:bm d (.t i j f g k) a=Q)(p:∀h l m n e o,k9 i l=Q/\k9 j m=Q/\bm d f h=Q/\bm d g n=Q/\bm d k e=Q/\hG e=Q->c (.Compare h [l,m] [n,e] o)):c a:=
 za b λh q r o b=>rv b λl m b=>rv b λn e b=>p h l m n e o<|rn b
@[elab_as_elim] def zz(g:bm d (.d k b e i j) a=Q)(p:∀l m h n f o,(mK d e f&&ls e i&&k6 d i h&&hG h&&gV (eR d e f) e m&&dN (eR d e f) j n&&bm (eR d e f) b l)=Q->c (.ListComp l [⟨m,h,n,0⟩] f o)):c a:=
 zf g λl s f o g=>j' g λq g=>by obtain⟨m,h,n,r⟩:=q;haveI b:r=0:=e0 (aP g).1;subst b;exact p l m h n f o (aP g).2
def Kk(m:bm d (.d k b e i j) a=Q):∃g h f l c n,a=.ListComp g [⟨h,f,l,0⟩] c n/\(mK d e c&&ls e i&&k6 d i f&&hG f&&gV (eR d e c) e h&&dN (eR d e c) j l&&bm (eR d e c) b g)=true:=
 zz m λg h f l c n m=>NY g h f l c n Z m
@[elab_as_elim] def Kf(g:bm d (.s b h) a=Q)(j:∀e f i,bm d b e=Q/\dN d h f=Q/\vu e=Q/\aN (f.length<20)=Q->c (.Call e f [] i)):c a:=
 pj g λe f k i g=>e' (j9 g).1<|j e f i (j9 g).2
@[elab_as_elim] def Kt(e:bm d (.p b) a=Q)(o:∀g h f i k l j m n,gw d g "repr"=Q->gw d h "sorted"=Q->(i.3==j.1)=Q->bm d b f=Q->kp f=Q->c (.Call (.Name g k) [.Call (.Name h l) [.Call (.Attribute f "items" i) [] [] j] [] n] [] m)):c a:=
 nV e λg k r m p e=>j' e λs e=>nV e λh l t n q e=>j' e λu e=>
  r2 e λf i v j b e=>e' (bO e).1<|o g h f i k l j m n p q b (bO e).2.1 (bO e).2.2
end
section
variable{d:da}{a:c5}{c:c5->Prop}{b g h:bk}{f:fO}{i e:cu}
@[elab_as_elim] def Kg(g:jm d (.B f b) a=Q)(j:∀h e i,gV d f h=Q/\bm d b e=Q/\sL e=Q/\(jy e||u0 b)=Q->c (.Assign [h] e i)):c a:=
 um g λk e i g=>j' g λh g=>j h e i<|cR g
@[elab_as_elim] def Ku(f:jm d (.E g j b) a=Q)(m:∀h e i k,bm d b e=Q/\bm d g h=Q/\jy e=Q->c (.Assign [.Attribute h (b2 j) k] e i)):c a:=
 um f λn e i f=>j' f λo f=>pi f λh l k f=>
  ma (d:=λl=>c<|.Assign [.Attribute h l k] e i) (cR f).2.2.1 (m h e i k<|aL ((cR f).1) ((cR f).2.1)<|(cR f).2.2.2)
@[elab_as_elim] def Kv(f:jm d (.H g j b) a=Q)(m:∀i h e k l,bm d b e=Q/\bm d g i=Q/\bm d j h=Q/\pQ h=Q/\jy e=Q->c (.Assign [.Subscript i h l] e k)):c a:=
 um f λn e k f=>j' f λo f=>mc f λi h l f=>m i h e k l<|j9 f
@[elab_as_elim] def Ki(f:jm d (.J j b) a=Q)(k:∀g h e i,hi d j g=Q->bm d b e=Q->c (.AugAssign (.Name g h) .Add e i)):c a:=
 JO f λl m e h f=>(e0 (aP f).1)▸eY (aP f).2 λg i f=>k g i e h (aP f).1 (aP f).2
@[elab_as_elim] def Kq(f:jm d (.D b) a=Q)(h:∀e g,bm d b e=Q->c (.Return (Y e) g)):c a:=zh f λe g f=>ru f λe f=>h e g f
@[elab_as_elim] def Kr(b:jm d .a a=Q)(g:∀f,c<|.Return ab f):c a:=zh b λe f b=>nG b<|g f
@[elab_as_elim] def Km(e:jm d (.G f j i) a=Q)(l:∀g b h k,gV d f g=Q/\ls f j=Q/\k6 d j b=Q/\hG b=Q/\jn d i h=Q->c (.For g b h [] k)):c a:=
 JS e λg b h m k e=>e' (rn e).1<|l g b h k (rn e).2
@[elab_as_elim] def Ky(e:jm d (.I b i) a=Q)(j:∀f g h,bm d b f=Q/\jn d i g=Q->c (.While f g [] h)):c a:=
 JX e λf g k h e=>e' (bO e).1<|j f g h (bO e).2
end
structure ja(h:b4):Prop where
 d:∀j,h.c.In j->j.Ns ip h.f
 f:∀j,h.c.In j->j.Ns i2 h.g
 e:∀k,pA k=M->h.f (ps k)=Y (.ref<|h.e k)
 b:∀l,h.f (rA l)=Y (.ref<|h.d l)
 c:∀i:aJ,i∈(["len","repr","isinstance","sorted"]:R aJ)->h.f i=ab/\h.g i=Y (.builtin i.toString)
 a:∀i:aJ,i∈(["int","bool","str","list","tuple","dict","range","enumerate","zip"]:R aJ)->h.f i=ab/\h.g i=Y (.type i.toString)
 g:∀m,∃n,h.f (wd m)=Y n/\∀o r,(∀p q,h.c.lookup p=Y q->o p=Y q)->ba h o r (ly m) n
def du(a:fs)(b:a9):Prop:=b=a.2\/∃c,a.4.lookup c=Y b
structure bJ(v:b4)(s:bF)(t:cj)(z:af)(m:da)(k:fs)(w:aA)(u:bT):Prop where
 b:k.1.1=.function
 g:k.3=ip
 j:k.9=i2
 h:∀n,k.kindOf n=m.c.2.lookup n\/(m.c.2.lookup n=Y .free/\k.kindOf n=Y .cell)
 e:∃x,u.Ns k.2 x/\∀o∈m.b,k.kindOf (m.a o)=Y .local->∀p,w o=Y p->∃q,x (m.a o)=Y q/\ba v s t p q
 c:∀n l,k.4.lookup n=Y l->l≠k.2/\∃r,u.IsCell l r
 d:∀o∈m.b,k.kindOf (m.a o)≠Y .local->(k.kindOf (m.a o)=Y .cell\/k.kindOf (m.a o)=Y .free)/\∃l,k.4.lookup (m.a o)=Y l/\∃r,u.IsCell l r/\∀p,w o=Y p->∃q,r=Y q/\ba v s t p q
 i:∀n y l,k.4.lookup n=Y l->k.4.lookup y=Y l->n=y
 f:(m.b.map m.a).Nodup
 a:∀l,du k l->s l=ab/\¬es t z l
section
variable{a:b4}{e:bF}{d:cj}{g:af}{c:da}{b:fs}{h:aA}{f i:aO}{k:c4}{j:ar->aO->Prop}
def bJ.K(k:bJ a e d g c b h l)(i:aJ)(j:c.c.2.lookup i=Y .globalImplicit):b.kindOf i=Y .globalImplicit:=by
 rcases k.h i with f|⟨f,_⟩;.rw[f,j]
 .rw[j]at f;cases f
def bJ.B(k:bJ a e d g c b h f.1)(i:du b l):f.1.get? l≠none:=by
 rcases i with rfl|⟨m,i⟩;.refine cg k.e λi n s=>?_;obtain⟨o,p,q,j,_⟩:=n;rw[j];nofun
 .obtain⟨_,r,o,j,_⟩:=k.c m l i;rw[j];nofun
def bJ.H(j:bJ a e d g c b h f.1)(k:bc a e d g cE f n o p i)(q:du b l)(r:f.1.get? l=Y m):i.1.get? l=Y m:=
 k.c l m r (j.a l q).2 λs=>s
def bJ.F(j:bJ a e d g c b h f.1)(q:bc a e d g cE f l m n i):bJ a l m n c b h i.1:=by
 refine⟨j.b,j.g,j.j,j.h,?_,λD o p=>?_,λu v w=>?_,j.i,j.f,λo r=>?_⟩;.refine cg j.e λr I x=>?_;obtain⟨s,J,K,p,t⟩:=I;refine ax r (rM s J K ⟨j.H q (.inl Z) p,t⟩) λu v w y z=>?_;refine a8 (x u v w y z) λA E=>?_;exact ax A E.1<|E.2.A q.b
 .obtain⟨L,B,s,C,t⟩:=j.c D o p;exact am L ⟨B,s,j.H q (.inr<|a1 D p) C,t⟩
 .obtain⟨a_,o,p,B,⟨s,C,t⟩,x⟩:=j.d u v w;refine am a_ ⟨o,p,B,(a1 s ⟨j.H q (.inr<|a1 _ p) C,t⟩),λy z=>?_⟩;refine a8 (x y z) λA G=>?_;exact ax A G.1<|G.2.A q.b
 .have H:=j.B r;refine am ?_ λk=>?_
  .refine dP (l o) (λp=>?none) λs p=>?some
   case none=>rfl
   case some=>
    refine n9 (q.g o<|by rw[p];nofun) (λk=>?_) (λk=>?_) λk=>?_;.exact a2 (j.a o r).1 k
    .exact a2 k (j.a o r).2
    .exact a2 k H
  .refine b1 (q.d o k) (λk=>?_) λk=>?_
   .exact(j.a o r).2 k
   .exact H k
def bJ.E_(i:bJ a e d g c b h f.1)(j:U):bJ a e d g c b h ({f with toks:=j}:aO).1:=i
def sY{a:aJ}(g:hi c l a=Q):l∈c.b/\c.a l=a/\A5 c a=Q/\(a==("__debug__":aJ))=M/\(a==("__classdict__":aJ))=false:=by haveI b:=aP g;haveI d:=aP b.1;haveI e:=aP d.1;haveI f:=aP e.1;exact bB (td.1 f.1) (ce.1 f.2) e.2 ((kx _).mp d.2)<|(kx _).mp b.2
def bJ.D_(p:bJ a e d g c b h f.1){w:aJ}(D:hi c l w=Q)(x:h l=Y m)(s:∀i,ba a e d m i->n i f):
 bh (bd a.b a.a) k (dX (.Name w o) b) n j f:=by
 refine gS (sY D) λy t r=>?_;subst t;by_cases u:b.kindOf (c.a l)=.some .local;.refine a8 p.e λE z=>?_;refine a8 (z.2 l y u m x) λi A=>?_;exact GW (Z9 p.b u z.1 A.1<|s i A.2) r.2.1
 .obtain⟨q,F,B,G,v⟩:=p.d l y u;refine cg (v.2 m x) λi t C=>?_;subst t;rcases q with q|q
  .exact GW (Z7 p.b q B v.1<|s i C) r.2.1
  .exact GW (Z8 p.b q B v.1 (s i C) r.2.2) r.2.1
def bJ.C(i:bJ a e d g c b h f.1)(o:bf a e d g f.1)(v:ja a){p q:aJ}(w:gw c p q=Q)(x:a.f q=Y l)(y:m l f):
 bh (bd a.b a.a) k (dX (.Name p n) b) m j f:=by
 haveI r:=aP w;haveI s:=aP r.1;haveI z:=ce.1 s.2;haveI A:=(kx _).mp r.2;cases ce.1 s.1;exact Zf i.b (i.K _ z) (ç (by rw[i.g];exact v.d _ λt u B=>o.a t u<|o.d t u B) x y) A
def bJ.A(p:bJ a e d g c b h f.1)(q:bf a e d g f.1)(t:ja a){u r:aJ}(y:gw c u r=Q)(v:a.f r=ab/\a.g r=Y l)(z:m l f):
 bh (bd a.b a.a) k (dX (.Name u n) b) m j f:=by
 haveI w:=aP y;haveI x:=aP w.1;haveI B:=ce.1 x.2;haveI C:=(kx _).mp w.2;cases ce.1 x.1;exact Zf p.b (p.K _ B) (æ (by rw[p.g];exact t.d _ λi o s=>q.a i o<|q.d i o s) v.1 (by rw[p.j];exact t.f _ λi o s=>q.a i o<|q.d i o s) v.2 z) C
def bc.A_(j:bf a e d g f.1)(o:∀b,l b->e b=ab/\¬es d g b)(m:∀b c,f.1.get? b=Y c->¬l b->i.1.get? b=Y c)(r:∀b,l b->f.1.get? b≠ab->i.1.get? b≠ab)
 (s:i.5=f.5)(t:i.2=f.2):bc a e d g l f e d g i:=by
 refine⟨cP.B e d,⟨j.b,λb c h=>m b c (j.a b c h) λk=>?_,λp q h=>?_,j.f,j.e,j.d⟩,λw n=>.inl n,λw n=>.inl n,λb c h w k=>m b c h k,r,s,t⟩;.rw[(o b k).1]at h;exact b8 h
 .exact(j.c p q h).B λb c k u=>m b c u λv=>(o b v).2<|ck p q h k
def bJ.D(f:bJ a e d g c b h l)(o:∀j,du b j->∀i,l.get? j=Y i->m.get? j=Y i):bJ a e d g c b h m:=by
 refine⟨f.b,f.g,f.j,f.h,?_,λs j k=>?_,λt u v=>?_,f.i,f.f,f.a⟩;.refine cg f.e λw x p=>?_;obtain⟨i,y,z,k,n⟩:=x;exact ax w (rM i y z ⟨o _ (.inl Z) _ k,n⟩) p
 .obtain⟨A,q,i,r,n⟩:=f.c s j k;exact am A ⟨q,i,o _ (.inr<|a1 s k) _ r,n⟩
 .obtain⟨B,j,k,q,⟨i,r,n⟩,p⟩:=f.d t u v;exact am B ⟨j,k,q,(a1 i ⟨o _ (.inr<|a1 _ k) _ r,n⟩),p⟩
def bJ.B_(f:bJ a e d g c b h l)(q:∀p i,m p=Y i->h p=Y i):bJ a e d g c b m l:=by
 refine⟨f.b,f.g,f.j,f.h,?_,f.c,λj k n=>?_,f.i,f.f,f.a⟩;.refine a8 f.e λt r=>?_;exact ax t r.1 λj k n i o=>r.2 j k n i<|q j i o
 .obtain⟨u,v,w,x,s⟩:=f.d j k n;exact am u ⟨v,w,x,s.1,λi o=>s.2 i<|q j i o⟩
def wl:h.A l m l=.some m:=au Z
def lA(a:l≠m):h.A m n l=h l:=ao a
def sh(b:(c.b.map c.a).Nodup)(a:l∈c.b)(d:m∈c.b)(e:c.a l=c.a m):l=m:=by
 generalize c.b=f at b a d
 induction f with
 |nil=>exact bW a
 |cons j f i=>
  rw[cl,fg]at b;refine b1 (bj.1 a) (λg=>?_) λa=>?_<;>refine b1 (bj.1 d) (λh=>?_) λd=>?_;.rw[g,h]
  .exact a2 (d4.2 ⟨m,d,by rw[<-e,g]⟩) b.1
  .exact a2 (d4.2 ⟨l,a,by rw[e,h]⟩) b.1
  .exact i b.2 a d
def bJ.I(p:bJ a e d g c b h f.1)(b_:bf a e d g f.1){c_:aJ}(p_:hi c l c_=Q)(d_:ba a e d o m)
 (e_:∀i,bc a e d g (du b) f e d g i->bJ a e d g c b (h.A l o) i.1->n () i):bh (bd a.b a.a) k (GR b c_ m) n j f:=by
 refine gS (sY p_) λH q_ x_=>?_;subst q_;by_cases G:b.kindOf (c.a l)=.some .local
 .refine a8 p.e λf_ g_=>?_;haveI h_:=g_.2;refine Ä G g_.1 (λC i_ v=>?_) (by rw[p.b];rfl);refine e_ _ (bc.A_ b_ p.a (λs J r D=>(v.2 s λq=>D<|.inl q).trans r) (λs r_ r=>?_) Z Z) ?_
  .by_cases q:s=b.2
   .subst q;obtain⟨J,z_,A_,r,_⟩:=i_;rw[r];nofun
   .show C.get? _≠_;rw[v.2 s q];exact r
  .refine⟨p.b,p.g,p.j,p.h,(ax _ i_ λu x y z t=>?_),λD s r=>?_,λu x y=>?_,p.i,p.f,p.a⟩
   .by_cases q:u=l
    .subst q;rw[wl]at t;have K:=ch t;subst K;exact ax m (au Z) d_
    .rw[lA q]at t;refine a8 (h_ u x y z t) λA j_=>?_;exact ax A (by rw[ao λr=>q<|sh p.f x H r];exact j_.1) j_.2
   .obtain⟨F,A,s_⟩:=p.c D s r;exact am F ⟨A,s_.sameBut v F⟩
   .have q:u≠l:=λr=>y<|r▸G;obtain⟨E,s,r,A,k_⟩:=p.d u x y;refine am E ⟨s,r,A,k_.1.sameBut v (p.c _ s r).1,λz t=>?_⟩;rw[lA q]at t;exact k_.2 z t
 .obtain⟨E,s,r,A,L⟩:=p.d l H G;haveI h_:=L.2;have l_:∀C:bT,C.IsCell s (.some m)->xy s f.1 C->n () {f with heap:=C}:=by
   intro C a_ v;refine e_ _ (bc.A_ b_ p.a (λw J B D=>(v.2 w λq=>D<|.inr<|a1 _<|q▸r).trans B) (λw r_ B=>?_) Z Z) ?_
   .by_cases q:w=s
    .subst q;obtain⟨J,r,_⟩:=a_;rw[r];nofun
    .show C.get? _≠_;rw[v.2 w q];exact B
   .haveI t_:b.2≠s:=λq=>(p.c _ s r).1 q.symm;refine⟨p.b,p.g,p.j,p.h,?_,λD w B=>?_,λu x y=>?_,p.i,p.f,p.a⟩
    .refine a8 p.e λf_ m_=>?_;refine ax f_ (m_.1.sameBut v t_) λu x y z t=>?_;haveI q:u≠l:=λr=>G<|r▸y;rw[lA q]at t;exact m_.2 u x y z t
    .obtain⟨F,A,u_⟩:=p.c D w B;by_cases q:w=s
     .subst q;exact am F ⟨_,a_⟩
     .exact am F ⟨A,u_.sameBut v q⟩
    .obtain⟨n_,w,B,v_,o_⟩:=p.d u x y;by_cases q:u=l
     .subst q;refine am n_ ⟨s,r,_,a_,λz t=>?_⟩;rw[wl]at t;have K:=ch t;subst K;exact ax m Z d_
     .haveI y_:w≠s:=λw_=>q<|sh p.f x H<|p.i _ _ s (w_▸B) r;refine am n_ ⟨w,B,v_,o_.1.sameBut v y_,λz t=>?_⟩;rw[lA q]at t;exact o_.2 z t
  exact E.elim (λE=>wpAny_storeName_cell p.b E r L.1 l_) λE=>storeName_free p.b E r L.1 l_
def bJ.L(q:bJ a e d g c b h f.1)(I:bf a e d g f.1){B:aJ}(J:hi c l B=Q)(C:b.kindOf (c.a l)=.some .local)(K:ba a e d n m)
 (a_:∀i,bc a e d g (λr=>r=b.2) f e d g i->bJ a e d g c b (h.A l n) i.1->o () i):bh (bd a.b a.a) k (GR b B m) o j f:=by
 refine gS (sY J) λb_ c_ x_=>?_;subst c_;refine a8 q.e λj_ D=>?_;haveI d_:=D.2;refine Ä C D.1 (λk_ E y=>?_) (by rw[q.b];rfl);refine a_ _ (bc.A_ I (λr p=>q.a r<|.inl p) (λr e_ p z=>(y.2 r λs=>z s).trans p) (λr f_ p=>?_) Z Z) ?_;.subst f_;obtain⟨e_,l_,m_,p,_⟩:=E;rw[p];nofun
 .refine⟨q.b,q.g,q.j,q.h,(ax _ E λu w x A t=>?_),λz r p=>?_,λu w x=>?_,q.i,q.f,q.a⟩
  .by_cases s:u=l
   .subst s;rw[wl]at t;have g_:=ch t;subst g_;exact ax m (au Z) K
   .rw[lA s]at t;refine a8 (d_ u w x A t) λv F=>?_;exact ax v (by rw[ao λp=>s<|sh q.f w b_ p];exact F.1) F.2
  .obtain⟨G,v,h_⟩:=q.c z r p;exact am G ⟨v,h_.sameBut y G⟩
  .have s:u≠l:=λp=>x<|p▸C;obtain⟨i_,r,p,v,H⟩:=q.d u w x;refine am i_ ⟨r,p,v,H.1.sameBut y (q.c _ r p).1,λA t=>?_⟩;rw[lA s]at t;exact H.2 A t
end
def vC(c:b2 a=b2 b):a=b:=by rw[lL,lL]at c;haveI d:=aF Array.toList<|Str.mk.inj c;haveI h:a.toList=b.toList:=(List.map_inj_right λe f(g:e.toNat=f.toNat)=>Char.toNat_inj.1 g).1 d;exact G'.1 h
def rF:an->aC
 |.A b=>b
 |.C a=>iq a
 |.D a=>"n"++iq a
 |.B a=>"%"++iq a
def pm(a:an):bv a=b2 (rF a):=by cases a<;>rfl
def wg(a:U):(iq a).toList=gf 10 a:=by rw[Nat.toString_eq_repr];exact Nat.toList_repr
def zR(c:gf 10 a=gf 10 b):a=b:=by rw[<-Y2 (n:=a),c,Y2]
def uC(d:U):∃a b,gf 10 d=a::b/\a.isDigit=true:=by
 refine A' (gf 10 d) (λc=>?nil) λa b c=>?cons
 case nil=>exact a2 c Nat.toDigits_ne_nil
 case cons=>exact ck a b Z<|Nat.isDigit_of_mem_toDigits (b:=10) (ae Z) (aX Z)<|by rw[c];exact bP
def Bi(c:hI a=Q):a.toList≠'n'::gf 10 b:=by intro e;refine d2 (uC b) λf g d=>?_;unfold hI at c;rw[e,d.1]at c;simp[d.2]at c
def Bh(c:hI a=Q):a.toList≠'%'::gf 10 b:=by intro d;refine d2 (uC b) λf g e=>?_;unfold hI at c;rw[d,e.1]at c;simp at c
def ic:an->R Char
 |.A b=>b.toList
 |.C a=>gf 10 a
 |.D a=>'n'::gf 10 a
 |.B a=>'%'::gf 10 a
def r7:∀b:an,(rF b).toList=ic b
 |.A c=>Z
 |.C a=>wg a
 |.D a=>by show("n"++iq a).toList=_;rw[Å,wg];rfl
 |.B a=>by show("%"++iq a).toList=_;rw[Å,wg];rfl
def Pk{c b:an}(e:dc c=Q)(f:dc b=Q)(g:bG c=M)(d:bG b=M)(a:ic c=ic b):c=b:=by
 cases c
 .cases b
  .exact aF an.A<|G'.1 a
  .exact bx d.symm
  .exact a2 a<|Bi e
  .exact a2 a<|Bh e
 .exact bx g.symm
 .cases b
  .exact a2 a.symm<|Bi f
  .exact bx d.symm
  .exact aF an.D<|zR (w7 a).2
  .exact a2 (w7 a).1<|ae Z
 .cases b
  .exact a2 a.symm<|Bh f
  .exact bx d.symm
  .exact a2 (w7 a).1<|ae Z
  .exact aF an.B<|zR (w7 a).2
def rC(d:dc a=Q)(e:dc b=Q)(f:bG a=M)(g:bG b=M)(c:bv a=bv b):a=b:=by rw[pm,pm]at c;haveI c:=aF String.toList<|vC c;rw[r7,r7]at c;exact Pk d e f g c
section
variable{a:b4}{c:bF}{d:cj}{b:aO}{f:c4}{e:ar->aO->Prop}
def dg(a:b4)(c:bF)(d:cj)(g:af)(b:aO)(h:V)(i:af)(j:ar)(k:aO):Prop:=
 ∃e f,bc a c d g cE b e f i k/\ba a e f h j
def DO[Fw g](b a:g)(c:ar)(d:R<|g×ar):i4 ((b,c)::d) a=if b=a then Y c else i4 d a:=by
 unfold i4;by_cases e:b=a;.simp[e]
 .simp[e]
def c1.C(l:dc g=Q)(m:bG g=M):∀{h:R<|an×V}{i:R<|aJ×ar},c1 a c d h i->match bn g h with|some k=>∃e,i4 i (bv g)=Y e/\ba a c d k e|none=>i4 i (bv g)=none:=by
 intro n
 induction n with
 |nil=>
  exact @λu b=>by rw[show _=[]from b];rfl
 |cons o h p=>
  obtain⟨q,k⟩:=o;exact @λu b=>by
   refine bS b λe t r f=>?_;subst r;have s:=p f.2.2.2;rw[vc,DO];by_cases j:q=g;.subst j;rw[au Z];exact ax e (au Z) f.2.2.1
   .rw[ao j,ao λb=>j<|rC f.1 l f.2.1 m b];exact s
def fv.B:∀{f:R<|aC×V}{h:R<|aJ×ar},fv a c d f h->
 match d1 g f with|some j=>∃e,i4 h (b2 g)=Y e/\ba a c d j e|none=>i4 h (b2 g)=ab
 |[],_,b=>by rw[show _=[]from b];rfl
 |(l,j)::f,_,b=>by
  refine bS b λe o m k=>?_;subst m;haveI n:=fv.B (g:=g) k.2;rw[OX,DO];by_cases i:l=g;.subst i;rw[au Z];exact ax e (au Z) k.1
  .rw[ao i,ao λb=>i<|vC b];exact n
def Dd{a:R<|aJ×ar}(b:g∉a.map (·.1)):gY ((g,i)::a) g h=(g,h)::a:=by unfold gY;rw[au<|by simp,cl,au Z,map_store_of_not_mem a g h b]
def Dc{a:R<|aJ×ar}(b:g≠h):gY ((g,i)::a) h j=(g,i)::gY a h j:=by unfold gY;simp only[w6,b,decide_false,Ft,cl,nd];split<;>rfl
def c1.E{e:an}{h:ar}(m:dc e=Q)(n:bG e=M)(o:ba a c d g h):∀{i:R<|an×V}{j:R<|aJ×ar},(j.map (·.1)).Nodup->c1 a c d i j->c1 a c d (cp e g i) (gY j (bv e) h):=by
 intro p
 induction p with
 |nil=>
  exact @λx x f=>by rw[show _=[]from f];exact lg h ([]) Z m n o Z
 |cons q i r=>
  obtain⟨s,w⟩:=q;exact @λx k f=>by
   refine bS f λt u v b=>?_;subst v;rw[cl,fg]at k;rw[La];by_cases l:s=e;.subst l;rw[au Z,Dd k.1];exact lg h u Z b.1 b.2.1 o b.2.2.2
   .rw[ao l,Dc λf=>l<|rC b.1 m b.2.1 n f];exact lg t _ Z b.1 b.2.1 b.2.2.1<|r k.2 b.2.2.2
def fv.D{f:aC}{e:ar}(m:ba a c d g e):∀{h:R<|aC×V}{i:R<|aJ×ar},(i.map (·.1)).Nodup->fv a c d h i->fv a c d (h' f g h) (gY i (b2 f) e):=by
 intro n
 induction n with
 |nil=>
  exact @λv v b=>by rw[show _=[]from b];exact cd e ([]) Z m Z
 |cons o h p=>
  obtain⟨q,u⟩:=o;exact @λv j b=>by
   refine bS b λr s t k=>?_;subst t;rw[cl,fg]at j;rw[NT];by_cases l:q=f;.subst l;rw[au Z,Dd j.1];exact cd e s Z m k.2
   .rw[ao l,Dc λb=>l<|vC b];exact cd r _ Z k.1<|p j.2 k.2
def c1.A:∀{b:R<|an×V}{f:R<|aJ×ar},c1 a c d b f->f.length=b.length:=by
 intro g
 induction g with
 |nil=>
  exact @λp e=>by rw[show _=[]from e];rfl
 |cons h b i=>
  obtain⟨l,m⟩:=h;exact @λp e=>by refine bS e λn o j k=>?_;subst j;rw[dd,dd,i k.2.2.2]
def fv.C:∀{b:R<|aC×V}{f:R<|aJ×ar},fv a c d b f->f.length=b.length:=by
 intro g
 induction g with
 |nil=>
  exact @λp e=>by rw[show _=[]from e];rfl
 |cons h b i=>
  obtain⟨l,m⟩:=h;exact @λp e=>by refine bS e λn o j k=>?_;subst j;rw[dd,dd,i k.2]
def gj.A{a:bT}(b:gj a.get? g h):a.IsList g h.toArray:=b.2.elim λc d=>⟨_,d,Z,c,Z⟩
def hW.A(a:hW g.get? h i):Y7 g h i.toArray:=a.2.elim λb c=>⟨_,c,Z,b,Z⟩
def fN.A{b:bT}(d:fN a b.get? g h):b.DictOf (c' a.b a.a) g h:=d.2.2.elim λe c=>qK.2 ⟨e,c.1,c.2⟩
def bf.B(e:bf a c d i b.1)(f:gj c g h):gj b.1.get? g h:=f.B e.a
def bf.C(e:bf a c d i b.1)(f:hW c g h):hW b.1.get? g h:=f.B e.a
def bf.F(e:bf a c d i b.1)(f:fN a c g h):fN a b.1.get? g h:=f.B e.a
def mS(b:ba a c d (.E g) h):dc g=Q/\∃e,h=.str (bv g) e:=b
def CO(a:0<=g)(c:g.toNat<h):tB g h=Y g.toNat:=by haveI b:(if g<0 then g+(h:ah)else g)=g:=ao<|Xk a;unfold tB;simp only[b];rw[au];simp only[ez,jR];exact Xl a b c
def Sr{a:ah}{b:U}(c:a<0)(e:0<=a+b):tB a b=Y (a+b).toNat:=by haveI d:(if a<0 then a+(b:ah)else a)=a+b:=au c;unfold tB;simp only[d];rw[au];simp only[ez,jR];exact Xm e c d
def vW(a:gz h g=Y i):(0<=g/\h[g.toNat]?=Y i)\/(g<0/\0<=g+h.length/\h[(g+h.length).toNat]?=Y i):=by
 unfold gz at a;split at a;.exact .inl ⟨by assumption,a⟩
 .split at a
  .exact .inr ⟨by omega,by assumption,a⟩
  .exact b8 a
def CP{b:R ar}(c:b.length=h.length)(d:b.length<=1000000)(f:gz h g=Y i):bD (-(2^63)<=g)<|g<2^63:=by
 rcases vW f with⟨a,e⟩|⟨a,j,e⟩;.have:=(fe.1 e).1;exact⟨qy (ae Z) a,Fy ((tb a).1<|c.symm▸this)<|qy (e5.2 d)<|ae Z⟩
 .exact⟨qy (Int.neg_le_neg<|qy (e5.2<|c▸d)<|ae Z)<|Fd j,Int.lt_trans a<|ae Z⟩
def N1{r:R V}(p:gj b.1.get? g h)(n:bt a c d r h)(s:gz r i=Y j)(t:∀m,ba a c d j m->k m b):
 bh (bd a.b a.a) f (qS (.ref g)<|.int i l) k e b:=by
 haveI u:=CP n.A p.1 s;rcases vW s with⟨q,o⟩|⟨q,v,o⟩;.obtain⟨m,w⟩:=n.C o;exact wpAny_getItem_list p.A q u.2 (by simpa using w.1)<|t m w.2
 .rw[<-n.A]at o v;obtain⟨m,x⟩:=n.C o;exact wpAny_getItem_list_neg p.A q (by simp;exact Fd v) u.1 (by simpa using x.1)<|t m x.2
def N2{u:R V}(q:hW b.1.get? g h)(n:bt a c d u h)(v:gz u i=Y j)(w:∀m,ba a c d j m->k m b):
 bh (bd a.b a.a) f (qS (.ref g)<|.int i l) k e b:=by
 have o:=CP n.A q.1 v;rcases vW v with⟨r,p⟩|⟨r,x,p⟩;.obtain⟨m,s⟩:=n.C p;haveI y:=(fe.1 s.1).1;refine Y8 q.A o.1 o.2 ?_ (by simpa using s.1)<|w m s.2;rw[cY];exact CO r y
 .rw[<-n.A]at p x;obtain⟨m,t⟩:=n.C p;haveI y:=(fe.1 t.1).1;refine Y8 q.A o.1 o.2 ?_ (by simpa using t.1)<|w m t.2;rw[cY];exact Sr r x
def N0{n:R<|an×V}(p:fN a b.1.get? h i)(q:c1 a c d n i)(r:dc g=Q)(s:bG g=M)(t:bn g n=Y j)
 (u:∀m,ba a c d j m->k m {b with toks:=b.4+1}):bh (bd a.b a.a) f (qS (.ref h)<|.str (bv g) l) k e b:=by
 haveI:=q.C r s;rw[t]at this;refine a8 this λm o=>?_;exact wpAny_getItem_of (lP _ _ _ _) p.A.mapOf o.1<|u m o.2
def Th(c:pQ g=Q)(a b:ar):GS g M a b=operate [a,b] (qS a b):=by cases g<;>first|rfl|exact bx c
end
end M
namespace M
open PySem PySem.W PyProof.Rows Builtin Builtin.ObjectAttr
structure jT(g:b4):Prop where
 b:∀h,h≠.C->hp g.c (.ref<|g.d h) "__getattribute__"=Y (Y<|.builtin "object.__getattribute__")/\hp g.c (.ref<|g.d h) "__getattr__"=Y ab/\xJ g.c (g.d h)=Q/\
  hp g.c (.ref<|g.d h) "__setattr__"=Y (Y<|.builtin "object.__setattr__")/\plainOver g.c (g.d h)=Q
 c:∀h i,(eF h).contains i=Q->hp g.c (.ref<|g.d h) (b2 i)=Y ab
 e:∀h j i,hF h j=Y i->hp g.c (.ref<|g.d h) (b2 j)=Y (Y<|.ref<|g.e i)
 d:∀h i,iG h=Y i->makesIn g.c (g.d h)=Q/\hp g.c (.ref<|g.d h) "__init__"=Y (Y<|.ref<|g.e i)
 a:∀i,typeIn g.c (.ref<|g.e i)=Y (.type "function")/\xL g.c (.ref<|g.e i)=Q
 f:∀h,h≠.C->xL g.c (.ref<|g.d h)=Q
section
variable{a:b4}{d:bF}{c:cj}{e:af}{b:aO}{g:c4}{f:ar->aO->Prop}
def bf.A(f:bf a d c e b.1):a.c.In b.1:=λg h i=>f.a g h<|f.d g h i
def ba.C(b:ba a d c i h):handedIn h=true:=by
 cases i with
 |C=>cases(b:h=.none);rfl
 |G f=>cases(b:h=.bool f);rfl
 |A l=>refine cD b λk=>?_;rfl
 |E q=>refine fR b λk v=>?_;rfl
 |F m=>refine la b λe g v=>?_;rfl
 |D m=>refine fl b λe g v=>?_;rfl
 |J n=>refine bS b λe g o v=>?_;subst o;rfl
 |L r s=>refine iK b λe f g j v=>?_;subst j;rfl
 |B l=>refine bS b λe f v j=>?_;subst j;rfl
 |H t=>cases(b:h=_);rfl
 |K u=>refine a8 b λk p=>?_;subst p;rfl
 |I n=>exact(b:ky).elim
def Nx(e:Pairs (c' a.b a.a) h i)(b:aJ):(h.find? (·.2.isStr b)).map (·.3)=i4 i b:=by
 rw[<-e.find b]
 congr 1
 haveI:∀c∈h,c.2.isStr b=(c' a.b a.a).1 b c.2:=by
  intro c d
  induction e with
  |nil=>exact bW d
  |cons g _ _ f=>
   rcases bj.1 d with rfl|d;.refine a8 (xH g) λm j=>?_;rw[j];rfl
   .exact f d
 clear e
 induction h with
 |nil=>rfl
 |cons c n f=>
  rw[Yo,Yo,this c bP,f λk l=>this k<|cx _ l]
def BJ(b:Pairs (c' a.b a.a) h i):h.any (·.refKey)=false:=by
 induction b with
 |nil=>rfl
 |cons c _ _ d=>
  refine a8 (xH c) λf e=>?_;rw[w6,d];unfold é;rw[e];rfl
def Bl(d:h.IsDictOf (c' a.b a.a) i)(b:aJ):lookIn b h=Y (i4 i b):=by obtain⟨e,g,_,f,_,c,_⟩:=d;unfold lookIn;rw[f];dsimp only;rw[<-Nx c b,BJ c];cases e.1.find? (·.2.isStr b)<;>rfl
structure jX(c:b4)(g:bF)(h:cj)(d:bT)(i:cO)(j:R<|aC×V)(k e:a9):Prop where
 a:d.get? k=Y (kG (c.d i) e)
 b:∃f,fN c d.get? e f/\fv c g h j f
def jX.A(f:jX a d c i h j k l):∃b e,fv a d c j e/\b.IsDictOf (c' a.b a.a) e/\InstAt i k (kG (a.d h) l) (a.d h) (Y b):=by refine cg f.b λe g m=>?_;obtain⟨_,_,b,n,o⟩:=g;exact cd b e m o ⟨f.a,Z,Z,n⟩
def AS(l:bf a d c e b.1)(m:ba a d c (.L h i) j):∃f g,j=.ref f/\jX a d c b.1 h i f g:=by refine iK m λf g n o k=>?_;subst o;exact ck f g Z ⟨l.a _ _ k.1,n,l.F k.2.1,k.2.2⟩
def uZ(o:bf a d c e b.1)(p:ba a d c (.B h) i)(q:e.b h=.C j k):∃f g,i=.ref f/\c[h]?=Y (f,g)/\f≠g/\jX a d c b.1 j k f g:=by refine bS p λf g m r=>?_;subst r;haveI n:=o.c h _ m;rw[q]at n;refine a8 n λs l=>?_;exact Au f g Z m l.2.1 ⟨l.1,s,l.2.2.1,l.2.2.2⟩
def BR(a:(eF h).contains i=Q):h≠.C:=by rintro rfl;exact bx a
def N4(s:jT a)(v:bf a d c e b.1)(w:jX a d c b.1 i j k n)(t:(eF i).contains h=Q)(x:d1 h j=Y l)
 (y:∀p,ba a d c l p->m p {b with toks:=b.4+1}):bh (bd a.b a.a) g (getAttr (.ref k) (b2 h) o) m f b:=by
 refine d2 w.A λz A q=>?_;haveI u:=s.b i<|BR t;haveI:=q.1.B (g:=h);rw[x]at this;refine a8 this λp r=>?_;exact get_value v.A q.2.2 u.1 (findObj_own u.2.2.1 (s.c i h t) Z<|by rw[Bl q.2.1,r.1]) r.2.C<|y p r.2
def Pv(a:hF h i=Y j):h≠.C:=by rintro rfl;exact b8 a
def N5(p:jT a)(t:bf a d c e b.1)(u:jX a d c b.1 i l k n)(r:hF i h=Y j)(v:d1 h l=ab)
 (w:m (.ref<|a.e j,[.ref k]) b):bh (bd a.b a.a) g (getMethod (.ref k) (b2 h) o) m f b:=by
 refine d2 u.A λx y q=>?_;haveI s:=p.b i<|Pv r;haveI:=q.1.B (g:=h);rw[v]at this;exact method_fn t.A q.2.2 s.1 s.2.1 (p.e i h j r) (p.a j).1 (by unfold shadowIn;dsimp only;rw[Bl q.2.1,this];rfl) w
def Cq(w:h.IsDictOf (c' a.b a.a) i)(c:aJ)(n:Tok)(f:ar):(xB c (lK a.a.2 c) (.str c n) f h).IsDictOf (c' a.b a.a)<|gY i c f:=by
 obtain⟨d,F,o,x,k,l,p⟩:=w;obtain⟨G,H,I,J⟩:=h;cases x;rw[Obj.putName_eq];unfold Obj.putNameByArray;have m:∀b∈d,b.2.isStr c=(c' a.b a.a).1 c b.2:=by intro b g;obtain⟨K,e,_⟩:=k b g;refine a8 (xH e) λn y=>?_;rw[y];rfl
 have z:(d.findIdx? λb=>b.2.isStr c)=d.findIdx? λb=>(c' a.b a.a).1 c b.2:=by
  obtain⟨j⟩:=d;simp only[List.findIdx?_toArray];replace m:∀b∈j,b.2.isStr c=(c' a.b a.a).1 c b.2:=λb g=>m b (by simpa using g);clear k l o
  induction j with
  |nil=>rfl
  |cons b L A=>
   rw[FF,FF,m b bP,A λB C=>m B<|cx _ C]
 have q:(d.1.findIdx? λb=>(c' a.b a.a).1 c b.2)=d.findIdx? λb=>(c' a.b a.a).1 c b.2:=by obtain⟨j⟩:=d;simp
 haveI e:=l.findIdx c;rw[q]at e;dsimp only;rw[z];cases s:d.findIdx? λb=>(c' a.b a.a).1 c b.2 with
 |some a_=>
  rw[s]at e q;refine f9 _ _ ⟨o,Z,k.modify _ _,?_,?_⟩;.rw[gY,au<|ZN e.symm];haveI:=l.modify p q f;obtain⟨j⟩:=d;simpa using this
  .rw[gY,au<|ZN e.symm,ZV];exact p
 |none=>
  rw[s]at e;haveI t:=not_mem_of_findIdx_none e.symm;have u:¬(i.any λr=>aN<|r.1=c)=true:=by rw[Yd];rintro⟨r,D,g⟩;exact t<|d4.2<|a1 r ⟨D,f5 g⟩
  refine f9 _ _ ⟨o,Z,k.push (lP _ _ _ _) f,?_,?_⟩;.rw[gY,ao u];haveI:=l.append (key:=.str c n) (lP _ _ _ _) (lK a.a.2 c) f;obtain⟨j⟩:=d;simpa using this
  .rw[gY,ao u,hR,tk];refine⟨p,by simp,?_⟩;intro b_ E c_ v;simp only[cl,xa,cm]at v;subst v;exact λb=>t<|b▸E
def sH(a:R<|aJ×ar)(b:aJ)(c:ar):(gY a b c).length<=a.length+1:=by
 unfold gY;split;.rw[bC];exact VT
 .rw[cs];simp
def SF(x:jT a)(s:bf a d c e b.1)(y:jX a d c b.1 i l m k)(z:(eF i).contains h=Q)(E:l.length<100)
 (F:∀t o p,b.1.get? k=Y o->fv a d c l p->o.IsDictOf (c' a.b a.a) p->t.get? k=Y (xB (b2 h) (lK a.a.2<|b2 h) (.str (b2 h)<|b.4+1) j o)->
  (∀q,q≠k->t.get? q=b.1.get? q)->n () {b with heap:=t,toks:=b.4+1+1}):bh (bd a.b a.a) g (setAttr (.ref m) (b2 h) j) n f b:=by
 refine cg y.b λp G A=>?_;obtain⟨_,_,o,r,u⟩:=G;have v:InstAt b.1 m (kG (a.d i) k) (a.d i)<|Y o:=⟨y.a,Z,Z,r⟩;haveI w:=x.b i<|BR z;haveI H:=w.2.2.2.2;refine set_plain s.A v w.2.2.2.1<|osa_open s.A v H (by unfold takerIn;rw[x.c i h z];rfl) λq=>?_;obtain⟨k_,I,J⟩:=any_some w.2.2.1;obtain⟨K,_,_,_⟩:=v;refine ay<|bl<|ay<|ay<|Z' K<|ay<|Looks.here (looks_clsIn s.A I) ?_;rw[J];refine bl<|ay<|bl<|ay ?_;refine ay<|ay<|wpAny_askSetting<|bl<|ay<|wpAny_mkText<|ay<|Z' r ?_;obtain⟨l_,m_,n_,L,o_,a_,p_⟩:=id u;rw[L];dsimp only;rw[aRefKeyMayBeTheName_at,<-Array.any_toList (p:=λb_:gF=>b_.refKey),BJ a_,XQ];haveI c_:=Cq u (b2 h) (b.4+1) j;obtain⟨B,q_,r_,C,s_,d_,t_⟩:=id c_;haveI e_:(xB (b2 h) (lK a.a.2<|b2 h) (.str (b2 h)<|b.4+1) j o).isFreed=false:=Obj.isFreed_of_dict C;haveI D:=qL (xB (b2 h) (lK a.a.2<|b2 h) (.str (b2 h)<|b.4+1) j) r e_;refine wpAny_updatePart r ?_;refine ay<|wpAny_lookBehind D ?_ ?_;.rw[C];refine pastItsLine_dict ?_;haveI f_:=d_.length;haveI g_:=sH p (b2 h) j;haveI h_:=A.C;haveI i_:B.1.length=B.size:=Z;rw[ee];exact(a5 101011011 Z:N [_,_,_,_,_] (.A X<|16777216+1) [.B S 100,.C O ag,.C aB S,.C O X,.A ag<|aB+1]) E f_ h_ i_ g_
 .exact bl<|F _ o p r A u D λq j_=>jN _ _<|f4 j_
def AR(m:bf a d c e b.1)(g:ba a d c i j)(f:uY e i=Y h):∃k l,j=.ref k/\jX a d c b.1 h.1 h.2 k l:=
 cL f (λf=>by rw[Jg f]at g;exact AS m g) λf=>cv f λp o f=>by rw[jk o]at g;refine d2 (uZ m g<|zc f) λk l n=>?_;exact ck k l n.1 n.2.2.2
end
end M
namespace M
open PySem PySem.W PyProof.Rows PySem.SeqAt
section
variable{a:aO}{b:c4}
def Te(a b:aJ):(a==b)=aN (a=b):=by
 by_cases c:a=b;.subst c;rfl
 .rw[ct c];exact nc.2 c
def uz(b:dc c=Q)(e:dc d=Q)(f:bG c=M)(g:bG d=M):(bv c==bv d)=aN (c=d):=by
 rw[Te];by_cases a:c=d;.subst a;simp
 .rw[ct a,ct λh=>a<|rC b e f g h]
def ba.B(k:bf c d e h a.1)(l:ba c d e (.D f) g):∃i b,g=.ref i/\a.1.IsList i b.toArray/\b.length=f.length/\gj a.1.get? i b/\bt c d e f b:=by refine fl l λi b j=>?_;exact lg i b Z ((k.B j.1).A) j.2.A (k.B j.1) j.2
def rV{a:R c}{b:R d}(e:b.length=a.length):b.isEmpty=a.isEmpty:=by cases a<;>cases b<;>first|rfl|simp at e
def O4:∀{e:R<|an×V},bn c e=ab<->c∉e.map (·.1):=by
 intro f
 induction f with
 |nil=>
  exact⟨λm=>ep,λm=>Z⟩
 |cons g k h=>
  obtain⟨i,l⟩:=g;exact by
   rw[vc];by_cases b:i=c;.subst b;rw[au Z];exact⟨iR,λa=>a2 bP a⟩
   .rw[ao b,h,cl,bj];exact⟨λa d=>d.elim (λj=>b j.symm) a,λa d=>a<|.inr d⟩
def vt:∀{a:R<|an×V},jx a=Q->(a.map (·.1)).Nodup:=by
 intro b
 induction b with
 |nil=>
  exact @λk=>iW
 |cons c d e=>
  obtain⟨f,j⟩:=c;exact @λg=>by refine h3 (a:=(bn f d).isNone) g λh i=>?_;rw[cl,fg];exact⟨O4.1<|m9.1 h,e i⟩
def Bt:∀{e:R<|an×V},(e.map (·.1)).Nodup->((c,d)∈e<->bn c e=Y d):=by
 intro h
 induction h with
 |nil=>
  exact @λo=>⟨bW,b8⟩
 |cons i m j=>
  obtain⟨k,n⟩:=i;exact @λf=>by
   rw[cl,fg]at f;rw[vc];by_cases g:k=c;.subst g;rw[au Z];exact⟨λa=>(bj.1 a).elim (λb=>by cases b;rfl) λa=>a2 (d4.2 ⟨_,a,Z⟩) f.1,λb=>by have l:=ch b;subst l;exact .head _⟩
   .rw[ao g,<-j f.2];exact⟨λa=>(bj.1 a).elim (λb=>a2 (aF xo b).symm g) id,.tail _⟩
def A8{b:R<|an×V}(a:(b.map (·.1)).Nodup):b.Nodup:=Õ (·.1) (λd e a c=>a<|aF xo c) a
def Qp{a b:R<|an×V}(e:pZ a b=Q)(c:(a.map (·.1)).Nodup)(d:(b.map (·.1)).Nodup):a.Perm b:=
 (List.perm_ext_iff_of_nodup (A8 c)<|A8 d).2 λf=>(Bt c).trans<|by rw[@f5 _ (qv _) e f.1];exact(Bt d).symm
def P3:∀{d:R<|an×V},ln d=Q->∀c∈d,dc c.1=Q/\bG c.1=false:=by
 intro e
 induction e with
 |nil=>
  exact @λk k a=>bW a
 |cons f h g=>
  obtain⟨i,j⟩:=f;exact @λb c a=>by
   unfold ln at b;simp only[ez,kx]at b;rcases bj.1 a with rfl|a;.exact am b.1.1 b.1.2
   .exact g b.2 c a
def gP(a b:aJ×kD):Bool:=aN<|a.1.1.1<=b.1.1.1
def Bc(a b c:aJ×kD)(d:gP a b=Q)(e:gP b c=Q):gP a c=true:=by simp only[gP,jR]at*;exact List.le_trans d e
def Bb(a b:aJ×kD):(gP a b||gP b a)=true:=by simp only[gP,Bool.or_eq_true,jR];exact List.le_total _ _
def zM{a b:aJ}(c:a.1.1=b.1.1):a=b:=by cases a;cases b;simp only at c;rw[XP.1 c]
def SV{a g:R<|aJ×kD}(h:a.Perm g)(n:a.Pairwise λc b=>gP c b=Q)(o:g.Pairwise λc b=>gP c b=Q)(p:(a.map (·.1)).Nodup):a=g:=by
 refine Ö (λc b q r i j=>?_) n o h;simp only[gP,jR]at i j;haveI k:c.1=b.1:=zM<|Yx i j;haveI s:b∈a:=h.mem_iff.2 r;haveI:=(FQ.1 p);apply XZ;intro t;haveI v:∀{a:R<|aJ×kD},a.Pairwise (λc b=>c.1≠b.1)->c∈a->b∈a->False:=by
  intro a
  induction a with
  |nil=>intro _ d;exact bW d
  |cons w a u=>
   intro e d f;rw[YB]at e;refine b1 (bj.1 d) (λl=>?_) λd=>?_<;>refine b1 (bj.1 f) (λm=>?_) λf=>?_;.exact t<|l.trans m.symm
   .exact e.1 b f<|l▸k
   .exact e.1 c d<|m▸k.symm
   .exact u e.2 d f
 exact v this q s
def OB{b:R<|an×V}(c:(b.map (·.1)).Nodup)(d:∀a∈b,dc a.1=Q/\bG a.1=M):((b.map λa=>(bv a.1,fE a.2)).map (·.1)).Nodup:=by
 rw[hm]
 induction b with
 |nil=>exact iW
 |cons g m k=>
  rw[cl,fg]at c⊢;refine⟨λe=>?_,k c.2 λa e=>d a<|.tail _ e⟩;obtain⟨f,h,l⟩:=d4.1 e;haveI i:=d g<|.head _;haveI j:=d f<|.tail _ h;haveI:f.1=g.1:=rC j.1 i.1 j.2 i.2 l;exact c.1<|this▸d4.2 ⟨f,h,Z⟩
def C6(b:R<|an×V):(iO b).map (λa=>(bv a.1,fE a.2))=(b.map λa=>(bv a.1,fE a.2)).mergeSort gP:=List.map_mergeSort λc c c c=>Z
def C5{d:R<|an×V}(f:(d.map (·.1)).Nodup)(g:∀b∈d,dc b.1=Q/\bG b.1=M)(b:c.Perm<|d.map λb=>(bv b.1,fE b.2))(a:c.Pairwise λh i=>gP h i=Q):
 (iO d).map (λb=>(bv b.1,fE b.2))=c:=by
 rw[C6];haveI e:=FP (d.map λb=>(bv b.1,fE b.2)) gP;exact SV (e.trans b.symm) (YD Bc Bb _) a<|(e.map (·.1)).nodup_iff.2<|OB f g
def sz(a:R<|an×V):gT (.I a)=.list (((iO a).map λb=>(bv b.1,fE b.2)).map λc=>.tuple [.str c.1,c.2]):=by rw[hm];rfl
def Qq(b:pZ c d=Q)(a:jx c=Q)(e:jx d=Q)(f:ln c=Q):(gT<|.I c).shown=(gT<|.I d).shown:=by rw[sz,sz];haveI g:=C5 (vt a) (P3 f) ((FP _ gP).trans ((Qp b (vt a)<|vt e).map _).symm)<|YD Bc Bb _;rw[g,C6]
def Rg(b:∀a,c≠.I a):gT c=fE c:=by cases c<;>first|rfl|exact a2 Z<|b _
def T6(a:sZ c d=Q):(gT c).shown=(gT d).shown:=aF (λc=>(gT c).shown) (@f5 _ (qv _) a:c=d)
def Ri(a:aE):((gT<|.G a).shown==b2 "False")= !a:=by cases a<;>decide+kernel
def Dh(d e:Tok):RcAt b a (.str c d) (.str c e) Q/\RcNeAt b a (.str c d) (.str c e) (!Q):=by
 haveI f:(c==c)=true:=by simp
 exact⟨f▸Gw c d c e,f▸Gx c d c e⟩
def zN[BEq c][LawfulBEq c][Fw c](a b:c):(a==b)=aN (a=b):=by by_cases d:a=b<;>simp[d]
def Lq(y:bf d e f i a.1)(p:b.5<cLine)(j:rJ h c=Y g):∀(m n:ar),ba d e f h m->ba d e f c n->RcAt b a m n g/\RcNeAt b a m n (!g):=by
 refine px j λB j=>?_;revert B;refine cL j (λj=>k' j λJ j=>?_) λj=>cL j (λj=>gs j λC j=>?_) λj=>cL j (λj=>Lh j λj=>?_) λj=>cL j (λj=>zW j λC j=>?_) λj=>cL j (λj=>nL j λK j=>?_) λj=>zY j λL j=>?_
 .refine cL j (λj=>rK j λz B m n k l=>?_) λj=>le j λw x_ m n k l=>?_
  .obtain⟨E,s,rfl⟩:=mS k;obtain⟨x,q,rfl⟩:=mS l;haveI F:=w0.1<|ow.2 B;rw[<-uz E x F.1 F.2];exact⟨Gw _ _ _ _,Gx _ _ _ _⟩
  .obtain⟨E,s,rfl⟩:=mS k;refine cD l λq=>?_;exact⟨RcAt.str_int _ _ _ _,RcNeAt.str_int _ _ _ _⟩
 .refine cL j (λj=>le j λw x_ m n k l=>?_) λj=>cL j (λj=>rK j λz x_ m n k l=>?_) λj=>Ly j λA x_ m n k l=>?_
  .refine cD k λs=>?_;refine cD l λq=>?_;rw[<-zN C w];exact⟨RcAt.int_int _ _ _ _,RcNeAt.int_int _ _ _ _⟩
  .refine cD k λs=>?_;obtain⟨x,q,rfl⟩:=mS l;exact⟨RcAt.int_str _ _ _ _,RcNeAt.int_str _ _ _ _⟩
  .refine cD k λs=>?_;refine bS (l.B y) λc A u G=>?_;subst u;exact⟨RcAt.int_list _ _ G.1 p,RcNeAt.int_list _ _ G.1 p⟩
 .refine rK j λz x_ m n k l=>?_;cases(k:m=.none);obtain⟨x,q,rfl⟩:=mS l;exact⟨RcAt.none_str _ _,RcNeAt.none_str _ _⟩
 .refine Lx j λw x_ m n k l=>?_;cases(k:m=.bool _);cases(l:n=.bool _);rw[<-zN C w];exact⟨RcAt.bool_bool _ _,RcNeAt.bool_bool _ _⟩
 .refine cL j (λj=>rK j λz x_ m n k l=>?_) λj=>nL j λa_ j=>dA j λo j=>hK j λx_ m n k l=>?_
  .refine bS (k.B y) λc A u r=>?_;subst u;obtain⟨x,q,rfl⟩:=mS l;exact⟨RcAt.list_str _ _ r.1 p,RcNeAt.list_str _ _ r.1 p⟩
  .refine bS (k.B y) λc A u r=>?_;subst u;refine bS (l.B y) λb_ H u v=>?_;subst u;rw[<-rV r.2.1,<-rV v.2.1]at o⊢;cases A with
   |nil=>cases H with
    |nil=>exact⟨RcAt.lists (e:=λx_=>Q) r.1 v.1 Z p λw D x_=>a2 D<|F3 _,RcNeAt.lists (e:=λx_=>Q) r.1 v.1 Z p λw D x_=>a2 D<|F3 _⟩
    |cons _ _=>exact⟨ZI r.1 v.1 Z p,ZJ r.1 v.1 Z p⟩
   |cons _ _=>cases H with
    |nil=>exact⟨ZI r.1 v.1 Z p,ZJ r.1 v.1 Z p⟩
    |cons _ _=>exact bx o
 .refine cL j (λj=>?_) λj=>zY j λc_ j=>?_
  .refine zW j λc j=>k' j λz j=>dA j λI j=>hK j λx_ m n k l=>?_;subst I;refine a8 k λs t=>?_;subst t;obtain⟨x,q,rfl⟩:=mS l;haveI:=Ri c;rw[show bv (.A "False")=b2 "False"from Z,<-this];exact⟨Gw _ _ _ _,Gx _ _ _ _⟩
  .refine cL j (λj=>?_) λj=>?_
   .refine zZ j λd_ j=>zZ j λe_ j=>dA j λo j=>hK j λx_ m n k l=>?_;refine a8 k λs t=>?_;subst t;refine a8 l λq t=>?_;subst t;haveI o:=cR o;rw[Qq o.1 o.2.1 o.2.2.1 o.2.2.2];exact Dh s q
   .refine dA j λo j=>hK j λx_ m n k l=>?_;refine a8 k λs t=>?_;subst t;refine a8 l λq t=>?_;subst t;rw[T6 o];exact Dh s q
def z9(l:bf c d e k a.1)(m:ba c d e i f)(n:ba c d e j g)(o:b.5<cLine)(p:rJ i j=Y h):RcAt b a f g h/\RcNeAt b a f g (!h):=Lq l o p _ _ m n
def r6(n:bf c d e f a.1)(m:ba c d e g h)(b:pG f g=Y i):∃j k,h=.ref j/\gj a.1.get? j k/\bt c d e i k:=
 cL b (λb=>by
  rw[g4 b]at m;refine fl m λj k l=>?_;exact cd j k Z (n.B l.1) l.2) λb=>cv b λp q b=>by
  rw[jk q]at m;refine bS m λj t r s=>?_;subst s;haveI o:=n.c p _ r;rw[rt b]at o;refine a8 o λk l=>?_;exact cd j k Z l.1 l.2
def uB(n:bf c d e f a.1)(m:ba c d e g h)(b:rE f g=Y i):∃j k,h=.ref j/\fN c a.1.get? j k/\c1 c d e i k:=
 cL b (λb=>by
  rw[uf b]at m;refine bS m λj k p l=>?_;subst p;exact cd j k Z (n.F l.1) l.2) λb=>cv b λq r b=>by
  rw[jk r]at m;refine bS m λj u s t=>?_;subst t;haveI o:=n.c q _ s;rw[pk b]at o;refine a8 o λk l=>?_;exact cd j k Z l.1 l.2
def sP(m:bf c d e i a.1)(k:ba c d e f g)(n:g5 f=Y h):∃b j,g=.ref b/\hW a.1.get? b j/\bt c d e h j:=by rw[k0 n]at k;refine la k λb j l=>?_;exact cd b j Z (m.C l.1) l.2
end
section
variable{b:b4}{d:bF}{c:cj}{e:af}{a:aO}{f:c4}{g:ar->aO->Prop}
def rD(a:an):(bv a).length=(ic a).length:=by rw[pm,lL,<-r7];show((rF a).toList.map Fv).toArray.size=_;rw[cY,bC]
def uE(a:h<1000000):(gf 10 h).length<=6:=(YU (ae Z)<|ae Z).2<|by omega
def Bn(b:dc h=Q):(ic h).length<1000:=by
 cases h with
 |A a=>
  haveI b:hI a=true:=b;unfold hI at b;rw[ez,jR]at b;exact b.1
 |C c=>haveI:=uE<|f5 b;show(gf 10 c).length<1000;exact(aj Z:N [_] (.B X 1000) [.A X 6]) this
 |D c=>have:=uE<|f5 b;show(_::gf 10 c).length<1000;rw[dd];exact Et this
 |B c=>have:=uE<|f5 b;show(_::gf 10 c).length<1000;rw[dd];exact Et this
def Bo:(ic h).length=0<->h=.A "":=by
 cases h with
 |A a=>
  rw[Yy];constructor;.intro c;rw[G'.1<|c.trans<|show[]="".toList from Z]
  .intro c;cases c;rfl
 |C b=>refine bS (uC b) λe f d g=>?_;show(gf 10 b).length=0<->_;rw[d];simp
 |D b=>show(_::gf 10 b).length=0<->_;simp
 |B b=>show(_::gf 10 b).length=0<->_;simp
def Dg:(((bv h).length:ah) !=0)=aN (h≠.A ""):=by
 rw[rD];by_cases a:h=.A "";.rw[show((ic h).length:ah)=0 from by rw[Bo.2 a];rfl];simp[a]
 .haveI:(ic h).length≠0:=λb=>a<|Bo.1 b;haveI c:(((ic h).length:ah) !=0)=true:=bne_iff_ne.2<|VK this;rw[c];simp[a]
def z4(a:bt b d c h i):(!i.toArray.isEmpty)= !h.isEmpty:=by rw[Yw,rV a.A]
def sO(s:bf b d c e a.1)(n:ba b d c i h)(l:hf e i=Y j)(q:∀t,k j {a with toks:=t}):bh (bd b.b b.a) f (qU h) k g a:=
 cL l (λl=>by rw[nE l]at n;cases(n:h=.bool _);exact tE<|q a.4) λl=>
 cL l (λl=>dB l λG m o=>by rw[pa m]at n;cases(n:h=.none);exact truthy_none<|o▸q a.4) λl=>
 cL l (λl=>dB l λu m o=>by
  rw[hz m]at n;refine cD n λt=>?_;haveI m:(u !=0)=aN (u≠0):=by by_cases p:u=0<;>simp[p]
  exact P.truthy_int<|(m.trans o).symm▸q a.4) λl=>
 cL l (λl=>dB l λD m o=>by rw[j7 m]at n;refine fR n λt z=>?_;haveI v:=Bn z;exact Zz (by rw[rD];omega)<|(Dg.trans o).symm▸q _) λl=>
 cL l (λl=>dB l λE m o=>cL m (λm=>by
  refine bS (r6 s n m) λx A r p=>?_;subst r;have v:=p.1.1;exact wpAny_truthy_list p.1.A (by rw[cY];omega)<|((z4 p.2).trans o).symm▸q _) λm=>by
  refine bS (sP s n m) λx A r p=>?_;subst r;have v:=p.1.1;exact truthy_tuple p.1.A (by rw[cY];omega)<|((z4 p.2).trans o).symm▸q _) λl=>
 dB l λB m o=>by
  rw[uf m]at n;refine bS n λx C r w=>?_;subst r;have v:=w.1.1;have m:(!C.isEmpty)= !B.isEmpty:=by rw[rV w.2.A]
  have y:=s.F w.1;exact wpAny_truthy_dict (nc.2 y.2.1) y.A (by omega)<|(m.trans o).symm▸q _
def AW(a:ba b d c i h):(h==.none)=bH i:=by
 cases i with
 |C=>cases(a:h=.none);rfl
 |G f=>cases(a:h=.bool f);rfl
 |A l=>refine cD a λk=>?_;rfl
 |E q=>refine fR a λk v=>?_;rfl
 |F m=>refine la a λe g v=>?_;rfl
 |D m=>refine fl a λe g v=>?_;rfl
 |J n=>refine bS a λe g o v=>?_;subst o;rfl
 |L r s=>refine iK a λe f g j v=>?_;subst j;rfl
 |B l=>refine bS a λe f v j=>?_;subst j;rfl
 |H t=>cases(a:h=_);rfl
 |K u=>refine a8 a λk p=>?_;subst p;rfl
 |I n=>exact(a:ky).elim
def vf(o:dc h=Q)(p:bG h=M):∀{e:R V}{g:R ar},bt b d c e g->gL e=Q->g.any (λf=>f.isStr<|bv h)=dJ h e/\∀f∈g,∃i j,f=.str (bv i) j:=by
 intro q
 induction q with
 |nil=>
  exact @λw k w=>by rw[show _=[]from k];exact am Z λw=>bW
 |cons r e s=>
  exact @λw k a=>by
   refine jq k λf v m=>?_;cases r with
   |E i=>
    have a:=yR a;obtain⟨t,j,rfl⟩:=m.1;have n:=s m.2 a.2;refine am ?_ λu l=>?_
    .rw[w6,n.1,Bs]
     congr 1
     exact uz t o a.1 p
    .rcases bj.1 l with rfl|l
     .exact f9 i j Z
     .exact n.2 u l
   |_=>exact bx a
def sJ(d:∃b c,h=.str (bv b) c):EqAt f a h (.str (bv i) j)<|h.isStr<|bv i:=by refine d2 d λb c e=>?_;subst e;exact ZH _ _ _ _
def mU(a:Y7 h i j):h.IsTuple i j:=a
def AT(y:bf b d c e a.1)(G:ba b d c l h)(z:ba b d c m j)(n:nS e l m=Y k):
 ((∀x,i (.bool k) {a with toks:=x})->bh (bd b.b b.a) f (lN .In h j) i g a)/\((∀x,i (.bool<|!k) {a with toks:=x})->bh (bd b.b b.a) f (lN .NotIn h j) i g a):=
 cv n λr A n=>px n λv n=>by
 rw[j7 A]at G;refine fR G λx B=>?_;have v:bG r=false:=ow.2 v;refine cL n (λn=>cv n λH t n=>dA n λI n=>?_) λn=>dB n λJ t A=>?_
 .have L:=ch n;subst L;refine cL t (λt=>?_) λt=>?_
  .refine bS (r6 y z t) λC D w p=>?_;subst w;have u:=vf B v p.2 I;have s:D.toArray.any (λh=>h.isStr<|bv r)=dJ r H:=by rw[Ye,u.1]
   exact am (λo=>in_listAt _ p.1.A (λh q=>sJ<|u.2 h<|by simpa using q)<|s▸o a.4) λo=>notIn_listAt _ p.1.A (λh q=>sJ<|u.2 h<|by simpa using q)<|s▸o a.4
  .refine bS (sP y z t) λC D w p=>?_;subst w;have u:=vf B v p.2 I;have s:D.toArray.any (λh=>h.isStr<|bv r)=dJ r H:=by rw[Ye,u.1]
   exact am (λo=>in_tupleAt _ (mU p.1.A) (λh q=>sJ<|u.2 h<|by simpa using q)<|s▸o a.4) λo=>notIn_tupleAt _ (mU p.1.A) (λh q=>sJ<|u.2 h<|by simpa using q)<|s▸o a.4
 .subst A;refine fA (uB y z t) λC a_ w E p=>?_;subst w;haveI:=p.C B v;have s:(i4 a_<|bv r).isSome=mu r J:=by
   unfold mu;refine dP (bn r J) (λF=>?none) λb_ F=>?some
   case none=>rw[F]at this;rw[this];rfl
   case some=>rw[F]at this;refine cg this λh q x_=>?_;rw[q];rfl
  have K:(C==xZ)=false:=nc.2 E.2.1;exact am (λo=>wpAny_in_of (lP _ _ _ _) K E.A.mapOf<|s▸o _) λo=>wpAny_notIn_of (lP _ _ _ _) K E.A.mapOf<|s▸o _
def KG(t:bf b d c e a.1)(y:f.5<cLine)(p:dz e h i j=Y k):∀(r q:ar),ba b d c i r->ba b d c j q->(∀s,l (.bool k) {a with toks:=s})->bh (bd b.b b.a) f (lN (zL h) r q) l g a:=by
 cases h;.exact λr q m n o=>W.cmp_ofEq<|(z9 t m n y p).1 _ _ _ _<|o a.4
 .exact Ac p λz u r q m n o=>W.cmp_ofNotEq<|(z9 t m n y u).2 _ _ _ _<|o a.4
 .refine gs p λv p=>le p λw r q m n o=>?_;refine cD m λs=>?_;refine cD n λx=>?_;exact P.lt_int<|o a.4
 .refine gs p λv p=>le p λw r q m n o=>?_;refine cD m λs=>?_;refine cD n λx=>?_;exact P.le_int<|o a.4
 .refine gs p λv p=>le p λw r q m n o=>?_;refine cD m λs=>?_;refine cD n λx=>?_;exact P.gt_int<|o a.4
 .refine gs p λv p=>le p λw r q m n o=>?_;refine cD m λs=>?_;refine cD n λx=>?_;exact P.ge_int<|o a.4
 .refine Ad p λr q m n o=>?_;cases(n:q=.none);exact is_none_gen<|by rw[AW m];exact o a.4
 .refine Ad p λr q m n o=>?_;cases(n:q=.none);exact isnot_none_gen<|by rw[AW m];exact o a.4
 .exact λr q m n o=>(AT t m n p).1 o
 .exact Ac p λz u r q m n o=>(AT t m n u).2 o
def KF(p:bf b d c e a.1)(q:k9 j k=Q)(r:ba b d c l h)(s:ba b d c m i)(t:f.5<cLine)(u:dz e j l m=Y n)
 (w:∀v,o (.bool n) {a with toks:=v}):bh (bd b.b b.a) f (lN k h i) o g a:=(e0 q)▸KG p t u h i r s w
end
section
variable{d:b4}{c:bF}{b:cj}{e:af}{a f:aO}{h:c4}{g:ar->aO->Prop}
def eQ(a:bT):a.get? a.1.size=none:=by
 refine dP (a.get? a.1.size) (λb=>?none) λc b=>?some
 case none=>rfl
 case some=>exact a2 (dm b)<|hT _
def dg.A(f:bf d c b e a.1)(g:ba d c b i j)(h:U):dg d c b e a i e j {a with toks:=h}:=
 (ck c b (.A f (λl l k=>k) Z Z) g)
def dg.B(k:bf d c b e a.1)(l:ba d c b i j)(m:∀g h,a.1.get? g=Y h->f.1.get? g=Y h)(n:f.5=a.5)(o:f.2=a.2):dg d c b e a i e j f:=
 (ck c b (.A k m n o) l)
def dg.C(g:bc d c b e cE a i j k l)(h:dg d i j k l m n o f):dg d c b e a m n o f:=
 bS h λp q r s=>ck p q (g.B r) s
def ss(m:bf d c b e a.1)(n:bt d c b k j)(o:j.length<=1000000)(p:∀i g,a.1.get? i=Y g->f.1.get? i=Y g)(q:a.1.get? i=ab)
 (r:f.1.get? i=Y {cls:=.type "list",data:=.seq j.toArray l})(s:f.5=a.5)(t:f.2=a.2):dg d c b e a (.D k) e (.ref i) f:=by
 haveI h:=bc.L m p q r s t;exact ck _ b h ⟨i,j,Z,(am o ⟨l,bF.B⟩),n.B h.b⟩
def vM(m:bf d c b e a.1)(n:bt d c b k j)(o:j.length<=1000000)(p:∀i g,a.1.get? i=Y g->f.1.get? i=Y g)(q:a.1.get? i=ab)
 (r:f.1.get? i=Y {cls:=.type "tuple",data:=.seq j.toArray l})(s:f.5=a.5)(t:f.2=a.2):dg d c b e a (.F k) e (.ref i) f:=by
 haveI h:=bc.L m p q r s t;exact ck _ b h ⟨i,j,Z,(am o ⟨l,bF.B⟩),n.B h.b⟩
def eK(a:bT)(b:eB):∀c d,a.get? c=Y d->(a.push b).get? c=Y d:=λf f e=>dV b e
def su(f:bf d c b e a.1)(g:bt d c b j i)(h:i.length<=1000000)(l:U):
 dg d c b e a (.D j) e (.ref a.1.1.size) {a with heap:=a.1.push {cls:=.type "list",data:=.seq i.toArray k},toks:=l}:=
 ss f g h (eK _ _) (eQ _) (d5 _ Z) Z Z
def QH(f:bf d c b e a.1)(g:bt d c b j i)(h:i.length<=1000000)(l:U):
 dg d c b e a (.F j) e (.ref a.1.1.size) {a with heap:=a.1.push {cls:=.type "tuple",data:=.seq i.toArray k},toks:=l}:=
 vM f g h (eK _ _) (eQ _) (d5 _ Z) Z Z
def O2(a:i.isDigit=M):dc (.A<|oR [i])=true:=by show hI _=Q;unfold hI;simp[a]
def Kd(d:ic i=j::k):(GH (bv i) 0).isSome=Q/\Txt.item (bv i) 0=bv (.A<|oR [j]):=by
 have a:(bv i).1=((j::k).map Fv).toArray:=by rw[pm,lL];rw[r7,d]
 haveI e:bv (.A<|oR [j])=⟨#[j.toNat]⟩:=by show b2 _=_;rw[lL,String.toList_ofList];rfl
 haveI f:(bv i).length=k.length+1:=by show(bv i).1.size=_;rw[a];simp
 haveI b:tB 0 (bv i).length=Y 0:=by rw[f];exact CO (X6 0)<|by simp
 haveI c:(bv i).1[0]?=Y j.toNat:=by rw[a];rfl
 constructor;.unfold GH;rw[b];simp[c]
 .unfold Txt.item GH;rw[b,e];simp[c]
def PU(b:vp i=Y j):∃c e,ic i=c::e/\c.isDigit=M/\j=.E (.A<|oR [c]):=by
 cases i with
 |A a=>
  unfold vp at b;dsimp only at b;refine A' a.toList (λd=>?nil) λc e d=>?cons
  case nil=>rw[d]at b;exact b8 b
  case cons=>rw[d]at b;exact px b λg b=>cd c e d (ow.2 g)<|(cZ b).symm
 |D f=>exact cd 'n' _ Z (ae Z)<|(cZ b).symm
 |B f=>exact cd ('%') _ Z (ae Z)<|(cZ b).symm
 |C f=>exact b8 b
def Oc(q:bf d c b e a.1)(t:ba d c b k i)(s:ba d c b j l)(f:eG e k j=Y m)(E:pQ n=Q):
 bh (bd d.b d.a) h (F8 o n i l) (dg d c b e a m e) g a:=by
 haveI x:=λw j=>Th E w j;refine cL f (λf=>cv f λF y f=>cv f λa_ r f=>?_) λf=>cL f (λf=>cv f λG z f=>cv f λb_ r f=>px f λA f=>?_) λf=>cv f λF y f=>cv f λG z f=>dA f λH f=>?_
 .rw[hz y]at s;refine cD s λB=>?_;refine cL r (λr=>?_) λr=>?_
  .refine bS (r6 q t r) λC I u p=>?_;subst u;exact lI p.1.A.typeIs GQ.lookup (N1 p.1 p.2 f λi v=>.A q v a.4)<|x _ _
  .refine bS (sP q t r) λC I u p=>?_;subst u;exact lI p.1.A.typeIs Y'.lookup (N2 p.1 p.2 f λi v=>.A q v a.4)<|x _ _
 .rw[j7 z]at s;refine fR s λB w=>?_;refine bS (uB q t r) λC c_ u p=>?_;subst u;exact lI p.1.A.typeIs slot_dict_getitem.lookup (N0 p.1 p.2 w (ow.2 A) f λi v=>.A q v _)<|x _ _
 .subst H;rw[hz y]at s;rw[j7 z]at t;refine fR t λd_ w=>?_;refine cD s λB=>?_;refine fA (PU f) λJ e_ K A L=>?_;subst L;haveI D:=Kd K;exact lI (GT _ _ _) Gr.lookup (SB.getItem (ae Z) D.1<|by rw[D.2];exact .A q (show ba d c b (.E<|.A<|oR [J]) _ from⟨O2 A,_,Z⟩) _)<|x _ _
end
section
variable{b:b4}{d:bF}{c:cj}{e:af}{a:aO}{g:c4}{f:ar->aO->Prop}
def AX(e:ba b d c i h)(a:ul i=Y j):IsPart h j:=
 cL a (λa=>dB a λl f a=>by
  rw[pa f]at e;cases(e:h=.none);subst a;exact .none) λa=>dB a λg f a=>by
  rw[hz f]at e;refine cD e λk=>?_;subst a;exact .int g k
abbrev mQ(a b c:ar):Obj:={cls:=.type "slice",data:=.fields #[a,b,c]}
def sK(a b:ar):GS (.Slice h i ab j) M a b=operate [b,a] (qS a b):=Z
def Ti{c:aS}(a b:ar):GS (.Slice h i (Y c) j) M a b=operate [a,b] (qS a b):=Z
set_option tactic.hygienic true in
def AB{a:bT}:a.get? (a.push h).1.size=none:=by
 refine dP (a.get? (a.push h).1.size) (λb=>?none) λc b=>?some
 case none=>rfl
 case some=>haveI:=dm b;rw[lJ]at this;exact a2 (e6 (eV _) this)<|hT _
def SO(v:bf b d c e a.1){I J s:V}(t:ba b d c I k)(a_:ba b d c J i)(b_:ba b d c s h)(p:mR I J s=Y j):
 bh (bd b.b b.a) g (F8 l (.Slice m n ab o) k<|.ref a.1.1.size) (dg b d c e a j e) f {a with heap:=a.1.push<|mQ i h .none}:=cv p λK c_ p=>cv p λm_ d_ p=>by
 have w:=eK a.1<|mQ i h .none;have D:=AX a_ c_;have E:=AX b_ d_;refine cL p (λp=>dB p λe_ q p=>?_) λp=>cL p (λp=>cv p λe_ q p=>cv p λL f_ p=>dA p λr p=>?_) λp=>cv p λA q p=>dA p λr F=>?_
 .rw[g4 q]at t;subst p;refine fl t λg_ h_ x=>?_;haveI y:=(v.B x.1).B<|w;refine lI y.A.typeIs GQ.lookup (Z3 (hsz:=by rw[cY,ee];haveI:=x.1.1;exact jH this) y.A (Gt a.1 i h .none) D E .none (by simp) ?_)<|sK _ _;rw[slicePick_plain];refine ss v ?_ ?_ (λi_ B q=>eK _ _ _ _<|w _ _ q) AB (d5 _ Z) Z Z
  .unfold fD;rw[<-x.2.A];exact(x.2.E _).G _
  .rw[m5,kz];haveI:=x.1.1;exact Xn this
 .rw[k0 q]at t;have s:=r.2;have G:=r.1;clear r;have j_:=ch p;subst j_;subst f_;clear p;cases G;refine la t λg_ h_ z=>?_;obtain⟨A,rfl⟩:∃A:U,L=A:=a1 L.toNat (by exact Xo s);have H:=z.2.A;have y:=(v.C z.1).B<|w;cases D;cases E;refine lI y.A.typeIs Y'.lookup (getItem_tuple_from (hsz:=by rw[cY,ee];haveI:=z.1.1;exact(aj Z:N [_,_] (.A X 16777216) [.C X S,.A X 1000000]) H this) y.A (Gt a.1 _ _ .none) (Xp s) (by rw[cY];exact Xq s H) ?_)<|sK _ _;refine vM v (z.2.E _) ?_ (λi_ B q=>eK _ _ _ _<|w _ _ q) AB (d5 _ Z) Z Z;rw[kz];haveI:=z.1.1;exact Xr s H this
 .rw[j7 q]at t;refine fR t λk_ B=>?_;have G:=r.1;have l_:=r.2;clear t;subst G;subst l_;cases D;obtain⟨C,rfl⟩:∃C,h=.int 12 C:=by cases E;exact a1 _ Z
  obtain⟨u,B,K,q,rfl⟩:∃u,dc u=Q/\(bv u).length<=xX/\qT (bv A) k_ ab (Y (12,C)) ab=.str (bv u)/\j=.E u:=by
   clear q;refine uX F (λr p=>?_) λx_ p=>dA p λr p=>?_;.clear F;subst r;exact dZ (.A "deconstruct ") (by decide+kernel) (by decide+kernel) (by kernel_rfl)<|(cZ p).symm
   .clear F;subst r;exact dZ (.A "deconstruct_") (by decide+kernel) (by decide+kernel) (by kernel_rfl)<|(cZ p).symm
  refine lI (GT _ _ _) Gr.lookup (Z4 (l:=ab) (u:=Y (12,C)) (st:=ab) (a1 _ ⟨d5 _ Z,Z,Z⟩) Z ?_)<|sK _ _;rw[q];exact⟨K,.B v (show ba b d c (.E u) _ from(am B ⟨_,Z⟩)) w Z Z⟩
def Rr(s:bf b d c e a.1){q:ar}(t:ba b d c (.D i) q){u:aS}
 (v:∀o,bt b d c i o->o.length<=1000000->j (.ref<|a.1.1.size+1) {a with heap:=(a.1.push<|mQ .none .none<|.int (-1) h).push {cls:=.type "list",data:=.seq o.reverse.toArray}}):
 bh (bd b.b b.a) g (F8 k (.Slice l m (Y u) n) q<|.ref a.1.1.size) j f {a with heap:=a.1.push<|mQ .none .none<|.int (-1) h}:=by
 haveI w:=eK a.1<|mQ .none .none<|.int (-1) h;refine fl t λx o p=>?_;haveI r:=(s.B p.1).B<|w;refine lI r.A.typeIs GQ.lookup (Z3 (hsz:=by rw[cY,ee];haveI:=p.1.1;exact jH this) r.A (Gt a.1 .none .none<|.int (-1) h) .none .none (.int _ _) (ae Z) ?_)<|Ti _ _;rw[krv_pick,List.toList_toArray];haveI:=v o p.2 p.1.1;rwa [show a.1.1.size+1=(a.1.push<|mQ .none .none<|.int (-1) h).1.size from(lJ ..).symm]at this
end
section
variable{b:b4}{c:bF}{d:cj}{e:af}{a h:aO}{g:c4}{f:ar->aO->Prop}
def hj:ba b c d (.A i)<|.int i j:=a1 j Z
def wt(a:dc i=Q):ba b c d (.E i)<|.str (bv i) j:=⟨a,j,Z⟩
def zq:b2 "n"++bv (.C i)=bv (.D i)/\b2 "%"++bv (.C i)=bv (.B i):=by
 haveI c:∀a b:aC,b2 a++b2 b=b2 (a++b):=by
  intro a b;rw[lL,lL,lL];show(⟨_++_⟩:aJ)=_
  congr 1
  simp
 exact⟨c _ _,c _ _⟩
def uA(a:dc i=Q):(bv i).length<1000:=by rw[rD];exact Bn a
def PD(a:i.natAbs<1000000\/j.natAbs<1000000):IntMulOk i j:=by
 refine b1 a (λa=>?_) λa=>?_;.exact .of_left<|ZT (by omega)<|by omega
 .exact .of_right<|ZT (by omega)<|by omega
def JF(r:bf b c d e a.1)(m:h4 j k l=Y i):∀(s t:ar),ba b c d k s->ba b c d l t->bh (bd b.b b.a) g (xP (B0 j) s t) (dg b c d e a i e) f a:=by
 cases j
 .refine cL m (λm=>?_) λm=>cL m (λm=>?_) λm=>?_
  .refine gs m λB m=>le m λC s t n o=>?_;refine cD n λu=>?_;refine cD o λp=>?_;exact P.add_int<|.A r hj _
  .refine nL m λg_ m=>nL m λv m=>dA m λw m=>hK m λs t n o=>?_;refine fl n λx v K=>?_;refine fl o λF G L=>?_;obtain⟨_,H,q⟩:=r.B K.1;obtain⟨_,o_,h_⟩:=r.B L.1;haveI I:=K.2.A;haveI J:=L.2.A;refine P.add_list q h_ ?_ (by rw[cY,cY,ee];exact(a5 101011 Z:N [_,_,_,_] (.A (X+S) 16777216) [.A (O+ag) 1000000,.C X O,.C S ag]) w I J);rw[Yf];exact su r (K.2.D L.2) (by rw[cs];exact Eu w I J) a.4
  .refine k' m λF m=>k' m λH m=>Lg m λD m=>?_;have c_:∀{A:dc F=Q}{y:dc (.C D)=Q}{u p:Tok}{i:V}{a_:aJ},(bv F++bv (.C D)=a_)->(∀u,ba b c d i<|.str a_ u)->bh (bd b.b b.a) g (xP .Add (.str (bv F) u)<|.str (bv<|.C D) p) (dg b c d e a i e) f a:=λ{A y u p i a_} q i_=>by
    haveI I:=uA A;haveI J:=uA y;refine SB.add (λj_ p_=>?_) (by rw[ee];exact(aj Z:N [_,_] (.A (X+S) 16777216) [.B S 1000,.B X 1000]) J I);rw[q];exact .A r (i_ j_) _
   refine uX m (λq m=>hK m λs t n o=>?_) λx_ m=>dA m λq m=>hK m λs t n o=>?_;.refine fR n λu A=>?_;refine fR o λp y=>?_;subst q;exact c_ (A:=A) (y:=y) (zq).1 λx_=>wt y
   .refine fR n λu A=>?_;refine fR o λp y=>?_;subst q;exact c_ (A:=A) (y:=y) (zq).2 λx_=>wt y
 .refine gs m λB m=>le m λC s t n o=>?_;refine cD n λu=>?_;refine cD o λp=>?_;exact P.sub_int<|.A r hj _
 .refine cL m (λm=>?_) λm=>?_
  .refine gs m λB m=>gs m λC m=>dA m λw m=>hK m λs t n o=>?_;refine cD n λu=>?_;refine cD o λp=>?_;exact P.mul_int (.A r hj _)<|PD w
  .refine nL m λg_ m=>gs m λz m=>?_;have d_:∀{i:V}{x:a9}{v:R ar}{p:Tok}(G:R ar),gj c x v->(z=0\/z=1)->(List.foldl (λk_ l_=>k_++l_) #[] (List.replicate (if v.toArray.isEmpty=Q then 0 else z.toNat) v.toArray))=G.toArray->
    dg b c d e a i e (.ref a.1.1.size) {a with heap:=a.1.push {cls:=.type "list",data:=.seq G.toArray}}->bh (bd b.b b.a) g (xP .Mult (.ref x)<|.int z p) (dg b c d e a i e) f a:=by
    intro i x v p G m_ b_ n_ D;obtain⟨e_,H,q⟩:=r.B m_;refine wpAny_binaryOp_repeat_ref (by decide) ⟨_,q,Z⟩ (λh=>typeIs_int h z p) noFill_list_mul PySem.F.fills_int_mul Zp repeat_list PySem.F.slot_int_index.lookup
     (qQ Zp (typeIs_int a z p) PySem.F.entry_int_rmul (PySem.F.args_int_rmul_2 _ _) (int___rmul___int_list z p x v.toArray H)
      ⟨q,Z,⟨_,q,Z⟩,qQ PySem.F.slot_list_mul ⟨_,q,Z⟩ PySem.F.entry_list_mul (PySem.F.args_list_mul_2 _ _)
       (Ý x v.toArray H z p (by rcases b_ with rfl|rfl<;>simp[â]<;>omega) (by rcases b_ with rfl|rfl<;>simp<;>exact(aj Z:N [_] (.A X 1152921504606846975) [.A X 1000000]) e_) (by rcases b_ with rfl|rfl<;>simp[Zc,xX]<;>exact jH e_))
       ⟨q,?_⟩⟩)
    rw[n_];exact D
   refine uX m (λq m=>hK m λs t n o=>?_) λx_ m=>dA m λq m=>hK m λs t n o=>?_;.refine fl n λx v E=>?_;refine cD o λp=>?_;subst q;refine d_ [] E.1 (.inl Z) ?_<|su r (show bt b c d [] []from Z) (c8 _) a.4;split<;>rfl
   .refine fl n λx v E=>?_;refine cD o λp=>?_;subst q;refine d_ v E.1 (.inr Z) ?_<|su r E.2 (r.B E.1).1 a.4;split
    .rename_i f_
     rw[Yw,lE]at f_;rw[f_];rfl
    .simp
 .refine gs m λB m=>gs m λC m=>dA m λw m=>hK m λs t n o=>?_;refine cD n λu=>?_;refine cD o λp=>?_;exact mod_int' (Xs w)<|.A r hj _
 .refine gs m λB m=>gs m λC m=>dA m λw m=>hK m λs t n o=>?_;refine cD n λu=>?_;refine cD o λp=>?_;exact floordiv_int (Xt w) (.A r hj _)<|.inl<|PyProof.noPylong_small<|Xu w
 .refine gs m λB m=>gs m λC m=>dA m λw m=>hK m λs t n o=>?_;refine cD n λu=>?_;refine cD o λp=>?_;obtain⟨rfl,rfl⟩:=w;exact Ü (by decide) (by decide) (by decide) (by decide) (by decide+kernel)<|.A r hj _
def JE(h:bf b c d e a.1)(p:B1 k l=Q)(q:ba b c d m i)(r:ba b c d n j)(s:h4 k m n=Y o):
 bh (bd b.b b.a) g (xP l i j) (dg b c d e a o e) f a:=(e0 p)▸JF h s i j q r
def PO(h:bf b c d e a.1)(k:ba b c d (.A i) j):bh (bd b.b b.a) g (unaryOp .USub j) (dg b c d e a (.A<|-i) e) f a:=by refine cD k λl=>?_;exact P.neg_int<|.A h hj _
end
namespace FnCls
def q2:Slot "function" "__getattribute__" "object.__getattribute__":=
 .of (owner:="object") (n:="__getattribute__") (by rw[tD,tz];kernel_rfl) (by decide+kernel) (by decide+kernel) (by decide+kernel)
  (by first|exact .inl (by decide+kernel)|exact .inr<|by decide+kernel) (by rw[ZU];kernel_rfl)
def Hh:entryFor table "object.__getattribute__"=Y Builtin.«object.__getattribute__»:=entryFor_of_tree<|by kernel_rfl
def Hb(a b:ar):argsOk "object.__getattribute__" ⟨[a,b],[]⟩:=by kernel_rfl
def Hi:x0 (.type "function") "__class__"=cN (Y<|.builtin "object.__class__"):=by rw[tD,tz];kernel_rfl
def Hj:isSubtype (.type "function") (.type<|".".intercalate ("object.__class__".cutAt '.').dropLast)=cN true:=by rw[PySem.F.owner_object_class,ZU];kernel_rfl
section
variable{h:iZ}{i:eC}{j:c4}{k:ar->aO->Prop}{c:bT}{d:dk GenState}{e:Drawn}{b:U}{f:jO}{a:a9}{g:eB}
def Hg(k:c.get? a=Y g)(m:g.1=.type "function")(o:l (.ok<|.ret<|.type "function") ⟨c,d,e,b,f⟩):
 kH (bd h i) j (.call (.builtin "getset_descriptor.__get__") ⟨[.builtin "object.__class__",.ref a,.type "function"],[]⟩) l ⟨c,d,e,b,f⟩:=by
 have p:(⟨c,d,e,b,f⟩:aO).TypeIs (.ref a) "function":=⟨_,k,m⟩;have n:(⟨c,d,e,b,f⟩:aO).TypeIs (.builtin "object.__class__") "getset_descriptor":=Gs;have q:=Hj;refine GM Gq.plain PySem.F.entry_gs_get<|Gq.check _ _ _ _ _ _ _ _ n (PySem.F.args_gs_get _ _ _) ?_
 repeat(any_goals(first|assumption|wp_step))
 refine⟨Code.quiet_builtin _<|by decide+kernel,tA PySem.F.entry_object_class ?_⟩
 repeat(any_goals(first|assumption|wp_step))
def Hf(n:c.get? a=Y g)(o:g.1=.type "function")(p:l (.done<|.ret<|.type "function") ⟨c,d,e,b,f⟩):
 bh (bd h i) j (Builtin.«object.__getattribute__» ⟨[.ref a,.str "__class__" m],[]⟩) l k ⟨c,d,e,b,f⟩:=by
 have q:(⟨c,d,e,b,f⟩:aO).TypeIs (.ref a) "function":=⟨_,n,o⟩;have r:(⟨c,d,e,b,f⟩:aO).TypeIs (.builtin "object.__class__") "getset_descriptor":=Gs;have s:=Hi;have t:=Gs;have u:=Gq.lookup;have v:=PySem.F.slot_gs_set.lookup
 repeat(any_goals(first|assumption|wp_step))
 refine Hg n o ?_
 repeat(any_goals(first|assumption|wp_step))
def He(k:c.get? a=Y g)(n:g.1=.type "function")(o:l (.ok<|.ret<|.type "function") ⟨c,d,e,b,f⟩):
 kH (bd h i) j (.call (.builtin "object.__getattribute__") ⟨[.ref a,.str "__class__" m],[]⟩) l ⟨c,d,e,b,f⟩:=
 GM q2.plain Hh (q2.check _ _ _ _ _ _ _ _ (show(⟨c,d,e,b,f⟩:aO).TypeIs (.ref a) "function"from⟨_,k,n⟩) (Hb _ _)<|Hf k n o)
def Hd(n:c.get? a=Y g)(o:g.1=.type "function")(p:l (.type "function") ⟨c,d,e,b,f⟩):bh (bd h i) j (getAttrBy (.ref a) (.str "__class__" m) M) l k ⟨c,d,e,b,f⟩:=by
 have q:(⟨c,d,e,b,f⟩:aO).TypeIs (.ref a) "function":=⟨_,n,o⟩;have r:=q2.lookup;have s:=q2.bind<|.ref a
 repeat(any_goals(first|assumption|wp_step))
 refine He n o ?_
 repeat(any_goals(first|assumption|wp_step))
def Hc(m:c.get? a=Y g)(n:g.1=.type "function")(o:l (Y<|.type "function") ⟨c,d,e,b+1,f⟩):bh (bd h i) j (getAttr? (.ref a) "__class__") l k ⟨c,d,e,b,f⟩:=by repeat(any_goals(first|assumption|with_reducible apply Hd m n|wp_step))
end
end FnCls
def OI{b:dH}:KitX b (.ref a) (.type "function")<|KitAt a "function":=kitx_of kitAt_ty (λ{_ _ _ _ _ c} d e=>by obtain⟨h,i,j,k,l⟩:=c;obtain⟨m,f,g⟩:=d;exact FnCls.Hc f g e)
structure oW(f:b4):Prop where
 a:∀h:aC,h∈["NoneType","bool","int","str","list","tuple"]->∀g:cO,g∈[cO.A,.C,.B]->d7 f.c (.type h) (.ref<|f.d g)=Y M
 c:d7 f.c (.type "function") (.type "tuple")=Y M
 d:d7 f.c (.ref<|f.d .A) (.ref<|f.d .A)=Y Q/\d7 f.c (.ref<|f.d .A) (.ref<|f.d .C)=Y M/\d7 f.c (.ref<|f.d .A) (.ref<|f.d .B)=Y M/\
  ∀h:aC,h∈["str","list","tuple"]->d7 f.c (.ref<|f.d .A) (.type h)=Y M
 e:d7 f.c (.ref<|f.d .B) (.ref<|f.d .B)=Y Q
 b:∀g,g∈[cO.A,.B]->plainGet f.c (f.d g) "__class__"=Q/\xJ f.c (f.d g)=Q/\hp f.c (.ref<|f.d g) "__class__"=Y (Y<|.builtin "object.__class__")/\
  qP f.c (.builtin "object.__class__") "__get__"=Y (Y<|.builtin "getset_descriptor.__get__")/\takesIn f.c (.builtin "object.__class__")=Y Q/\mroIn f.c (f.d g) (.type "object")=Y Q
def ro:R String:=["NoneType","bool","int","str","list","tuple"]
def Dk:R String:=["str","list","tuple"]
def Tg{e:dH}:∀a∈ro,∀b∈Dk,d7 e (.type a) (.type b)=Y (a==b):=by intro a c b d;simp only[ro,Dk,bj,ep,fL]at c d;rcases c with rfl|rfl|rfl|rfl|rfl|rfl<;>rcases d with rfl|rfl|rfl<;>kernel_rfl
section
variable{a:b4}{e:bF}{d:cj}{c:af}{b:aO}{g:c4}{f:ar->aO->Prop}
def q4(a:b4)(d:bT):qN->ar->Prop
 |.module,b=>b=.type "str"
 |.function,b=>b=.ref (a.d .A)
 |.«class»,b=>b=.ref (a.d .C)
 |.typeAlias,b=>b=.type "list"
 |.typeParameters,b=>b=.ref (a.d .B)
 |.typeVariable,b=>b=.type "tuple"
 |.annotation,b=>∃c e,b=.ref c/\d.get? c=Y ⟨.type "tuple",ab,.seq [lM "list",.type "tuple"].toArray e,#[]⟩
def rW(o:bf a e d c b.1)(p:KitX a.c l i m)(q:m b.1)(r:l≠.builtin "__main__.__loader__#opaque")(s:q4 a b.1 h j)
 (u:h=.module->d7 a.c i (.type "str")=Y k)(v:h=.typeAlias->d7 a.c i (.type "list")=Y k)(w:h=.typeVariable->d7 a.c i (.type "tuple")=Y k)(x:h=.function->d7 a.c i (.ref<|a.d .A)=Y k)
 (y:h=.«class»->d7 a.c i (.ref<|a.d .C)=Y k)(z:h=.typeParameters->d7 a.c i (.ref<|a.d .B)=Y k)
 (A:h=.annotation->tx a.c i [lM "list",.type "tuple"]=Y k)(t:∀B,n (.bool k) {b with toks:=B}):bh (bd a.b a.a) g (fJ (.builtin "isinstance") [l,j]) n f b:=by
 cases h with
 |module=>cases(s:j=_);exact qO p o.A q (u Z) r t
 |function=>cases(s:j=_);exact qO p o.A q (x Z) r t
 |«class»=>cases(s:j=_);exact qO p o.A q (y Z) r t
 |typeAlias=>cases(s:j=_);exact qO p o.A q (v Z) r t
 |typeParameters=>cases(s:j=_);exact qO p o.A q (z Z) r t
 |typeVariable=>cases(s:j=_);exact qO p o.A q (w Z) r t
 |annotation=>refine bS s λE F C D=>?_;subst C;exact kia_tup p o.A q D (A Z) r t
def yT{a:dH}(b:d7 a h (.type "list")=Y i)(c:d7 a h (.type "tuple")=Y j):tx a h [lM "list",.type "tuple"]=Y (i||j):=by
 unfold tx;rw[b];cases i with
 |true=>rfl
 |false=>
  unfold tx;rw[c];cases j<;>rfl
def A3(a:aC):qN->aE
 |.module=>a=="str"
 |.typeAlias=>a=="list"
 |.typeVariable=>a=="tuple"
 |.annotation=>a=="list"||a=="tuple"
 |_=>M
def OG(c:h∈ro)(d:oW a)(e:i=A3 h j):
 (j=.module->d7 a.c (.type h) (.type "str")=Y i)/\(j=.typeAlias->d7 a.c (.type h) (.type "list")=Y i)/\(j=.typeVariable->d7 a.c (.type h) (.type "tuple")=Y i)/\(j=.function->d7 a.c (.type h) (.ref<|a.d .A)=Y i)/\
 (j=.«class»->d7 a.c (.type h) (.ref<|a.d .C)=Y i)/\(j=.typeParameters->d7 a.c (.type h) (.ref<|a.d .B)=Y i)/\(j=.annotation->tx a.c (.type h) [lM "list",.type "tuple"]=Y i):=by
 subst e;haveI b:=Tg (e:=a.c) h c;refine ej ?_ ?_ ?_ ?_ ?_ ?_ ?_<;>rintro rfl;.exact b "str"<|ae Z
 .exact b "list"<|ae Z
 .exact b "tuple"<|ae Z
 .exact d.a h c .A<|by simp
 .exact d.a h c .C<|by simp
 .exact d.a h c .B<|by simp
 .exact yT (b "list"<|ae Z)<|b "tuple"<|ae Z
def nU(p:bf a e d c b.1)(q:oW a)(r:h∈ro)(s:KitX a.c i (.type h) j)(t:j b.1)(u:i≠.builtin "__main__.__loader__#opaque")(v:q4 a b.1 k l)
 (w:m=A3 h k)(y:∀x,n (.bool m) {b with toks:=x}):bh (bd a.b a.a) g (fJ (.builtin "isinstance") [i,l]) n f b:=
 have o:=OG r q w
 rW p s t u v o.1 o.2.1 o.2.2.1 o.2.2.2.1 o.2.2.2.2.1 o.2.2.2.2.2.1 o.2.2.2.2.2.2 y
def Oq(p:bf a e d c b.1)(r:oW a)(I:jT a)(s:ba a e d j i)(t:q4 a b.1 h k)(q:iH c h j=Y l)(u:∀J,m (.bool l) {b with toks:=J}):
 bh (bd a.b a.a) g (fJ (.builtin "isinstance") [i,k]) m f b:=by
 cases j with
 |C=>
  cases(s:i=.none);have o:=ch q;subst o;exact nU p r (ae Z) kitx_none ds (by intro n;cases n) t (by cases h<;>rfl) u
 |G y=>
  cases(s:i=.bool y);have o:=ch q;subst o;exact nU p r (ae Z) kitx_bool ds (by intro n;cases n) t (by cases h<;>rfl) u
 |A C=>
  refine cD s λK=>?_;have o:=ch q;subst o;exact nU p r (ae Z) kitx_int ds (by intro n;cases n) t (by cases h<;>rfl) u
 |E D=>
  refine fR s λK z=>?_;have o:=ch q;subst o;exact nU p r (ae Z) kitx_str ds (by intro n;cases n) t (by cases h<;>rfl) u
 |F L=>
  refine la s λa_ b_ c_=>?_;have o:=ch q;subst o;obtain⟨_,D,n⟩:=p.C c_.1;exact nU p r (ae Z) kitx_tuple ⟨_,n,Z⟩ (by intro n;cases n) t (by cases h<;>rfl) u
 |D L=>
  refine fl s λa_ b_ d_=>?_;have o:=ch q;subst o;obtain⟨_,D,n⟩:=p.B d_.1;exact nU p r (ae Z) kitx_list ⟨_,n,Z⟩ (by intro n;cases n) t (by cases h<;>rfl) u
 |J e_=>exact b8 q
 |L y f_=>
  cases y<;>first|cases q|skip
  refine bS (AS p s) λg_ h_ B i_=>?_;subst B;refine d2 i_.A λz j_ k_=>?_;haveI v:=r.b .A (by simp);have w:=r.d;have l_:=w.2.2.2 "str"<|ae Z;have E:=w.2.2.2 "list"<|ae Z;have F:=w.2.2.2 "tuple"<|ae Z;refine rW p (kitx_own v.1 v.2.1 v.2.2.1 v.2.2.2.1 v.2.2.2.2.1 v.2.2.2.2.2) k_.2.2 (by intro n;cases n) t ?_ ?_ ?_ ?_ ?_ ?_ ?_ u<;>rintro rfl;.exact l_
  .exact E
  .exact F
  .exact w.1
  .exact w.2.1
  .exact w.2.2.1
  .exact yT E F
 |B C=>
  refine dA (a:=(u3 (c.b C)&&h==.typeParameters)=Q) q λm_ n_=>h3 m_ λo_ p_=>a8 (Ol o_) λf_ n=>?_
  .cases f5 p_;have o:=ch n_;subst o;refine bS (uZ p s n) λg_ h_ B q_=>?_;subst B;refine d2 q_.2.2.A λz j_ G=>?_;haveI A:=G.1;haveI x:=r.b .B (by simp);refine rW p (kitx_own x.1 x.2.1 x.2.2.1 x.2.2.2.1 x.2.2.2.2.1 x.2.2.2.2.2) G.2.2 (by intro n;cases n) t ?_ ?_ ?_ ?_ ?_ ?_ ?_ u<;>intro A<;>first|cases A|skip
   exact r.e
 |H H=>
  cases(s:i=.ref (a.e H));refine dA (a:=(h==.typeVariable)=Q) q λn q=>?_
  .have o:=ch q;subst o;cases f5 n;obtain⟨z,r_,s_⟩:=oG.1 (I.a H).1;refine rW p OI ⟨z,p.A _ _ r_,s_⟩ (by intro n;cases n) t ?_ ?_ ?_ ?_ ?_ ?_ ?_ u<;>intro A<;>first|cases A|skip
   exact r.c
 |K y=>exact b8 q
 |I e_=>exact b8 q
end
def Ps(d:Tok)(h:a.length<1000):Meets (Builtin.«bool.__new__» ⟨[.type "bool",.str a d],[]⟩) λr c b=>∀e,c (.ok<|.ret<|.bool<|(a.length:ah) !=0) {b with toks:=e}:=
 Meets.of_wp λi j k c b f=>by
  obtain⟨l,m,n,o,p⟩:=b;haveI q:=PySem.F.conv_sub_bool;haveI g:¬(a.length:ah)>=2^63:=by omega
  repeat(any_goals(first|assumption|with_reducible apply Zz g|wp_step))
  all_goals first|exact⟨_,Z,f _⟩|skip
section
variable{b:b4}{d:bF}{c:cj}{e:af}{a:aO}{f:c4}{g:ar->aO->Prop}
def rp:kC->ar
 |.init=>.builtin "len"|.epilog=>.builtin "repr"|.prolog=>.type "int"|.content=>.type "bool"|.cdata=>.type "str"|.error=>.type "list"|.ext2=>.type "tuple"|.ext3=>.type "dict"
def lD:ba b d c (.G h)<|.bool h:=Z
def Og{a:ah}(c:0<=a):(iq a:aC)=iq a.toNat:=by obtain⟨b,rfl⟩:∃b:U,a=b:=a1 a.toNat (by exact Up c);rfl
def Bk(b:h<10000000):h.log2<1920:=by
 by_cases a:h=0;.subst a;decide+kernel
 .exact eA ((Nat.log2_lt a).2<|show h<2^24 by omega)<|aX Z
def Jp(m:bf b d c e a.1)(o:ba b d c h i)(q:k2 e .init h=Y j):bh (bd b.b b.a) f (fJ (.builtin "len") [i]) (dg b d c e a j e) g a:=
 dB q λu l p=>cL l (λl=>by
  subst p;refine bS (r6 m o l) λr s n k=>?_;subst n;have t:=k.1.1;refine Calls.call_len_list k.1.A (by rw[cY];omega) ?_;rw[cY,k.2.A];exact .A m hj _) λl=>by
  subst p;refine bS (sP m o l) λr s n k=>?_;subst n;have t:=k.1.1;refine len_tuple k.1.A (by rw[cY];omega) ?_;rw[cY,k.2.A];exact .A m hj _
def Jq(o:bf b d c e a.1)(C:i=.prolog\/i=.content\/i=.cdata\/i=.error\/i=.ext2)(n:ba b d c k j)(m:k2 e i k=Y h):bh (bd b.b b.a) f (fJ (rp i) [j]) (dg b d c e a h e) g a:=by
 rcases C with rfl|rfl|rfl|rfl|rfl
 .refine cL m (λm=>dB m λi l h=>?_) λm=>dB m λp l h=>?_
  .rw[nE l]at n;cases(n:j=.bool _);cases h;exact call_int_bool<|.A o hj _
  .rw[hz l]at n;refine cD n λt=>?_;cases h;exact call_int_int<|.A o hj a.4
 .refine cL m (λm=>dB m λJ l h=>?_) λm=>cL m (λm=>dB m λi l h=>?_) λm=>dB m λD l h=>?_
  .rw[pa l]at n;cases(n:j=.none);cases h;exact call_bool_none<|.A o lD a.4
  .rw[nE l]at n;cases(n:j=.bool _);cases h;exact call_bool_bool<|.A o lD a.4
  .rw[j7 l]at n;refine fR n λt u=>?_;cases h;refine call_bool_1 (Ps t<|uA u) λE=>?_;rw[Dg];exact⟨Z,.A o lD E⟩
 .refine cv m λp l m=>dA m λv m=>?_;rw[hz l]at n;have F:=ch m;subst F;refine cD n λt=>?_;haveI l:b2 (iq p)=bv (.C p.toNat):=aF b2<|Og v.1;exact P.str_of_int (Bk<|Uq v)<|.A o (show ba b d c (.E<|.C p.toNat)<|.str (b2<|iq p) a.4 from(am (c0<|Ur v) ⟨a.4,by rw[l]⟩)) _
 .refine dB m λG l h=>?_;rw[g4 l]at n;cases h;refine fl n λq w A=>?_;haveI x:=A.2;obtain⟨r,D,l⟩:=o.B A.1;refine call_list_seq q (.inl Z) l Z Z (λB I s H=>?_) (by rw[cY,ee];exact jH r);exact ss o x r s (eQ _) H Z Z
 .refine dB m λG l h=>cL l (λl=>?_) λl=>?_
  .rw[g4 l]at n;cases h;refine fl n λq w y=>?_;haveI x:=y.2;haveI r:=y.1.1;refine call_tuple_list (o.B y.1).A (λB s=>?_) (by rw[cY,ee];exact jH r);refine vM o x r (λi u l=>eK _ _ _ _<|s _ _ l) ?_ (d5 _ Z) Z Z;refine dP (a.1.get? B.1.size) (λl=>?none) λu l=>?some
   case none=>rfl
   case some=>exact a2 (dm<|s _ _ l)<|hT _
  .rw[k0 l]at n;cases h;refine la n λq w z=>?_;refine Û (o.C z.1).A ?_;exact .A o (show ba b d c (.F _)<|.ref q from(cd q w Z z.1 z.2)) a.4
end
def uj:gh->aC
 |.call|.print=>"dict"
 |_=>"list"
def rq:gh->aC
 |.ignore=>"list.append"|.warn=>"list.pop"|.raise=>"list.extend"|.log=>"list.index"|.call=>"dict.get"|.print=>"dict.update"
def uk(a:gh):PlainAttrs (uj a)/\Slot (uj a) (y4 a) (rq a)/\typeOf (.builtin<|rq a)=cN (.type "method_descriptor"):=by
 cases a;.exact aL xu Zq PySem.F.type_list_append
 .exact aL xu Zt PySem.F.type_list_pop
 .exact aL xu Zr PySem.F.type_list_extend
 .exact aL Go Gp PySem.F.type_dict_get
 .exact aL Go Zo PySem.F.type_dict_update
 .exact aL xu Zs PySem.F.type_list_index
section
variable{b:b4}{c:bF}{a:cj}{e g:af}{d f:aO}{i:c4}{h:ar->aO->Prop}
def nH(o:bf b c a e d.1)(p:ba b c a (.B j) k)(q:e.b j=.A l):∃f h g i,k=.ref f/\a[j]?=Y (f,h)/\g.length<=1000000/\d.1.get? f=Y {cls:=.type "list",data:=.seq g.toArray i}/\bt b c a l g:=by refine bS p λf h m r=>?_;subst r;haveI n:=o.c j _ m;rw[q]at n;refine cg n λg s t=>?_;obtain⟨u,i,v⟩:=s;exact Aw f h g i Z m u v t
def pl(o:bf b c a e d.1)(p:ba b c a (.B j) k)(q:e.b j=.D l):∃f h g,k=.ref f/\a[j]?=Y (f,h)/\fN b d.1.get? f g/\c1 b c a l g:=by refine bS p λf h i r=>?_;subst r;haveI m:=o.c j _ i;rw[q]at m;refine a8 m λg n=>?_;exact Av f h g Z i n.1 n.2
def sI(q:bf b c a e d.1)(r:a[k]?=Y (l,o))(h:e.b k=.A p)(s:∀g,g≠l->f.1.get? g=d.1.get? g)(t:j.length<=1000000)
 (u:f.1.get? l=Y {cls:=.type "list",data:=.seq j.toArray m})(v:bt b c a n j)(w:f.5=d.5)(x:f.2=d.2):bc b c a e cE d c a (e.A k<|.A n) f:=by
 refine bc.J q r (λg=>by rw[h];exact w1) (λg A y i=>?_) (ax j (am t ⟨m,u⟩) v) w x;rw[h]at i;rw[s g λz=>i<|by simp[ex,z]];exact y
def Df(p:bf b c a e d.1)(q:a[j]?=Y (k,n))(h:e.b j=.D o)(r:∀g,g≠k->f.1.get? g=d.1.get? g)
 (s:fN b f.1.get? k l)(t:c1 b c a m l)(u:f.5=d.5)(v:f.2=d.2):bc b c a e cE d c a (e.A j<|.D m) f:=by
 refine bc.J p q (λg=>by rw[h];exact w1) (λg y w i=>?_) (ax l s t) u v;rw[h]at i;rw[r g λx=>i<|by simp[ex,x]];exact w
def vg:∀{h:R<|an×V}{f:R<|aJ×ar}{e:R<|an×V}{d:R<|aJ×ar},c1 b c a h f->c1 b c a e d->(d.map (·.1)).Nodup->c1 b c a (h.foldl (λe l=>cp l.1 l.2 e) e) (oO d f)/\(oO d f).length<=d.length+f.length:=by
 intro q
 induction q with
 |nil=>
  exact @λF F F i j F=>by rw[show _=[]from i];exact⟨j,aY _⟩
 |cons r h s=>
  obtain⟨m,B⟩:=r;exact @λF e d i j k=>by
   refine bS i λn C t g=>?_;subst t;have u:=c1.E g.1 g.2.1 g.2.2.1 k j;have v:((gY d (bv m) n).map (·.1)).Nodup:=by
    unfold gY;split;.rw[ZV];exact k
    .rename_i w
     rw[hR,tk];refine⟨k,by simp,?_⟩;intro D x E o;simp only[cl,xa,cm]at o;subst o;rintro rfl;obtain⟨y,z,A⟩:=d4.1 x;exact w<|Yd.2 ⟨y,z,by simp[A]⟩
   have p:=s g.2.2.2 u v;refine⟨p.1,?_⟩;have:=sH d (bv m) n;rw[dd];exact(aj Z:N [_,_,_,_] (.A X<|S+(O+1)) [.A ag<|S+1,.A X<|ag+O]) this p.2
def sj{c:eB}(a:c.IsDictOf (c' b.b b.a) j):(j.map (·.1)).Nodup:=X0 a λd a=>X0 a λd a=>a.2.2.2.2
def zQ(g:c1 b c a k l)(h:dc j=Q)(i:bG j=M):
 i4 l (bv j)=ab/\bn j k=ab\/∃d e,bn j k=Y d/\i4 l (bv j)=Y e/\ba b c a d e:=by
 haveI:=g.C h i;refine dP (bn j k) (λf=>?none) λd f=>?some
 case none=>rw[f]at this;exact .inl<|am this Z
 case some=>rw[f]at this;refine cg this λe m n=>?_;exact .inr<|cd d e Z m n
def NZ(o:bf b c a e d.1)(f:fN b d.1.get? k l)(p:c1 b c a m l)(q:dc j=Q)(r:bG j=M)(s:Tok):
 bh (bd b.b b.a) i (fJ (.builtin "dict.get") [.ref k,.str (bv j) s]) (dg b c a e d ((bn j m).getD .C) e) h d:=by
 refine xR Gp f.A.typeIs Zj (PySem.F.args_dict_get_2 _ _) (meets_dict_get (c' b.b b.a) k (lP _ _ _ _)<|nc.2 f.2.1) ?_;refine⟨_,f.A.mapOf,?_⟩;rcases zQ p q r with⟨g,n⟩|⟨u,v,g,n,t⟩;.rw[g,n];exact .A o (show ba b c a .C .none from Z) _
 .rw[g,n];exact .A o t _
def Of(s:dc j=Q)(t:bG j=M):∀{e:R V}{h:R ar},bt b c a e h->gL e=Q->dJ j e=Q->∃(f:U)(n:f<h.length),f=js j e/\(h[f]).isStr (bv j)=Q/\∀d(o:d<h.length),d<f->(h[d]).isStr (bv j)=false:=by
 intro u
 induction u with
 |nil=>
  exact @λF n F m=>by exact bx m
 |cons v e w=>
  exact @λF n i m=>by
   refine jq n λC D q=>?_;cases v with
   |E d=>
    have i:=yR i;obtain⟨x,k,rfl⟩:=q.1;have r:∀k,(ts (bv d) k).isStr (bv j)=aN (d=j):=λk=>uz x s i.1 t;by_cases l:d=j;.refine⟨0,by simp,by rw[AN,au l],?_,λd o g=>a2 g<|F3 _⟩;show(ts (bv d) k).isStr (bv j)=Q;rw[r];simp[l]
    .rw[Bs,ct l]at m;have y:dJ j e=true:=m;obtain⟨f,z,p⟩:=w q.2 i.2 y;have g:=p.1;refine⟨f+1,by simp;exact(a5 1001 Z:N [_,_,_] (.B X S) [.B X S,.C X O]) z g,by rw[AN,ao l,g],p.2.1,λA o g=>?_⟩;cases A with
     |zero=>show(ts (bv d) k).isStr (bv j)=M;rw[r];simp[l]
     |succ B=>simpa using p.2.2 B (by simpa using o) (Nat.lt_of_succ_lt_succ g)
   |_=>exact bx i
def Lr(a:R ar):a.toArray.eraseIdxIfInBounds (a.toArray.size-1)=a.dropLast.toArray:=by apply XP.1;rw[Array.toList_eraseIdxIfInBounds];exact List.eraseIdx_length_sub_one
def bt.I:∀{d:R V}{e:R ar},bt b c a d e->bt b c a d.dropLast e.dropLast:=by intro d e f;rw[Yh,Yh,f.A];exact f.G _
def JJ(o:bf b c a e d.1)(f:jl e j l m=Y (k,g)):∀(q:ar)(n:R ar),ba b c a l q->bt b c a m n->bh (bd b.b b.a) i (fJ (.builtin<|rq j) (q::n)) (dg b c a e d k g) h d:=by
 cases j;.refine nM f λK f=>pn f λz f=>rs f λL r f=>dA f λt f=>ob f λq n w u=>?_;refine fA u λE x_ s B C=>?_;subst s;subst C;obtain⟨p,a_,n,x,rfl,y,F,v,A⟩:=nH o w r;haveI G:=Gu (x:=(v:IsL d.1 p n.toArray x)) λz=>z.push E;refine qQ Zq (a1 _ ⟨v,Z⟩) PySem.F.entry_list_append (PySem.F.args_list_append_2 _ _) (list_append p n.toArray x E<|by rw[cY,ee];exact jH F) ⟨v,?_⟩;refine ck c a (sI o y r (λD H=>jN _ _<|f4 H) (by rw[cs,A.A];exact t) (by rw[<-List.push_toArray];exact G) (A.D<|cd E ([]) Z B Z) Z Z) Z
 .refine nM f λK f=>dA f λv_ f=>rs f λL r f=>vj f λz m_ q n w u=>?_;rw[lE.1 v_]at u;cases(u:n=[]);obtain⟨p,a_,n,x,rfl,y,F,v,A⟩:=nH o w r;haveI G:=Gu (x:=(v:IsL d.1 p n.toArray x)) λL=>L.eraseIdxIfInBounds<|n.toArray.size-1;rw[List.getLast?_eq_getElem?]at m_;refine a8 (A.C m_) λq n_=>?_;refine qQ Zt (a1 _ ⟨v,Z⟩) PySem.F.entry_list_pop (PySem.F.args_list_pop_1 _) (ì p n.toArray x q (by rw[cY,List.getElem?_toArray,A.A];exact n_.1)<|by rw[cY,ee];exact jH F) ⟨v,?_⟩;rw[Lr]at G;exact ck c a (sI o y r (λD H=>jN _ _<|f4 H) (by rw[List.length_dropLast];exact Us F) G A.I Z Z) n_.2
 .refine nM f λK f=>pn f λz f=>nL f λw_ f=>rs f λL r f=>dA f λt f=>ob f λq n w u=>?_;refine fA u λE x_ s B C=>?_;subst s;subst C;obtain⟨p,a_,n,x,rfl,y,F,v,A⟩:=nH o w r;refine fl B λD e_ o_=>?_;haveI p_:=o_.2;obtain⟨_,y_,h_⟩:=o.B o_.1;have b_:=A.A;have c_:=p_.A;have G:=Gu (x:=(v:IsL d.1 p n.toArray x)) λz=>z++e_.toArray;refine qQ Zr (a1 _ ⟨v,Z⟩) PySem.F.entry_list_extend (PySem.F.args_list_extend_2 _ _) (Þ p n.toArray x D e_.toArray y_ (by simp[Zc,xX];omega) (by rw[cY,ee];exact jH F)<|by rw[cY,cY,ee];exact(a5 101011 Z:N [_,_,_,_] (.A (X+S)<|16777216+1) [.A (O+ag) 1000000,.C X O,.C S ag]) t b_ c_) ⟨v,h_,?_⟩;rw[Yf]at G;exact ck c a (sI o y r (λD H=>jN _ _<|f4 H) (by rw[cs];exact Eu t b_ c_) G (A.D p_) Z Z) Z
 .refine cL f (λf=>?_) λf=>?_
  .refine zX f λq_ f=>zV f λz h__ f=>k' (a:=z) f λx f=>uW f λJ f=>ob f λq n w u=>?_;obtain⟨E,_,rfl,B,z_,_,rfl,A_,rfl⟩:=u;refine fR B λf_ I=>?_;refine bS w λp i_ s r_=>?_;subst s;have y:=o.F r_.1;refine xR Gp y.A.typeIs Zj (PySem.F.args_dict_get_3 _ _ _) (meets_dict_get_default (c' b.b b.a) p (lP _ _ _ _) (nc.2 y.2.1) z_) ?_;refine a1 _ ⟨y.A.mapOf,?_⟩;rcases zQ r_.2 I J with⟨j_,k_⟩|⟨z,q,j_,k_,k⟩
   .rw[j_,k_];exact .A o A_ _
   .rw[j_,k_];exact .A o k _
  .refine nM f λK f=>pn f λz f=>k' f λx f=>zb f λq_ r f=>uW f λJ f=>ob f λq n w u=>?_;refine fA u λE x_ s B C=>?_;subst s;subst C;refine fR B λf_ I=>?_;refine iK (pl o w r) λp a_ i_ l_ s_=>?_;subst l_;exact NZ o s_.2.1 s_.2.2 I J f_
 .refine nM f λK f=>pn f λz f=>zX f λw_ f=>zb f λq_ r f=>dA f λt f=>ob f λq n w u=>?_;refine fA u λE x_ s B C=>?_;subst s;subst C;refine P1 (pl o w r) λp a_ i_ l_ y d_=>?_;subst l_;refine bS B λD e_ s g_=>?_;subst s;haveI t_:=o.F g_.1;have b_:=d_.2.A;have c_:=g_.2.A;obtain⟨_,B_,I,C_⟩:=id d_.1;haveI j:=vg g_.2 d_.2<|sj C_.2;have D_:p≠D:=by
   rintro rfl;obtain⟨_,_,u_,E_⟩:=g_.1;have:=o.e p (ck _ _ y<|by rw[r];exact .head _);rw[E_.1]at this;exact iR this
  refine xR Zo d_.1.A.typeIs PySem.F.entry_dict_update (PySem.F.args_dict_update_2 _ _) (meets_dict_update (c' b.b b.a) p D D_<|nc.2 t_.2.1)<|f9 i_ e_ ⟨d_.1.A,t_.A,by rw[ee];exact(a5 101011 Z:N [_,_,_,_] (.A (X+S) 16777216) [.A (O+ag) 1000,.C X O,.C S ag]) t b_ c_,λi__ F_ x_ G_=>?_⟩;obtain⟨u_,h_,H_⟩:=qK.1 F_;haveI I_:=j.2;exact ck c a (Df o y r (λD H=>G_.2 D H) (aL (by exact(a5 1010111 Z:N [_,_,_,_,_] (.A X 1000) [.A (S+O) 1000,.C ag S,.C aB O,.A X<|ag+aB]) t b_ c_ I_) B_ ⟨u_,h_,H_⟩) j.1 Z Z) Z
 .refine nM f λK f=>pn f λz f=>k' f λx f=>rs f λL r f=>dA f λt f=>ob f λq n w u=>?_;refine fA u λE x_ s B C=>?_;subst s;subst C;have t:=bO t;have J:=rr t.1;obtain⟨p,a_,n,J_,rfl,y,F,v,A⟩:=nH o w r;refine fR B λf_ I=>?_;obtain⟨K_,L_,a__,b__,c__⟩:=Of I J A t.2.1 t.2.2;have d__:=(vf I J A t.2.1).2;refine qQ Zs (a1 _ ⟨v,Z⟩) PySem.F.entry_list_index (PySem.F.args_list_index_2 _ _)
   (ë p n.toArray J_ (.str (bv x) f_) (λq=>q.isStr<|bv x) (λq e__=>?_) K_ (L_) (by omega) (b__) λj f__ g__=>c__ j (by simpa using f__) g__) ⟨v,?_⟩
  .refine d2 (d__ q<|by simpa using e__) λj j__ s=>?_;subst s;exact λx_ x_ x_ x_ x_ x_ f=>ZH _ _ _ _ _ _ _ _ f
  .rw[<-a__];exact .A o hj _
def JG(f:bf b c a e d.1)(p:ba b c a l j)(q:bt b c a m k)(r:jl e n l m=Y (o,g)):
 bh (bd b.b b.a) i (fJ (.builtin<|rq n) (j::k)) (dg b c a e d o g) h d:=JJ f r j k p q
end
section
variable{a:b4}{e f:bF}{c:cj}{d g h:af}{b j i:aO}
structure eD(d:bF)(e:cj)(f:af)(c:a9):Prop where
 b:d c=ab
 a:¬es e f c
def bf.D(b:bf a e c d l)(f:l.get? k=ab):eD e c d k:=by
 refine⟨?_,λh=>b.E h f⟩;refine dP (e k) (λg=>?none) λi g=>?some
 case none=>rfl
 case some=>have:=b.a k i g;rw[f]at this;exact b8 this
def bc.D(n:bc a e c d m b f l g j)(i:eD e c d k)(o:b.1.get? k≠ab):eD f l g k:=by
 refine⟨?_,λq=>?_⟩
 .refine dP (f k) (λp=>?none) λr p=>?some
  case none=>rfl
  case some=>
   refine n9 (n.g k<|by rw[p];nofun) (λh=>?_) (λh=>?_) λh=>?_;.exact a2 i.b h
   .exact a2 h i.a
   .exact a2 h o
 .refine b1 (n.d k q) (λh=>?_) λh=>?_
  .exact i.a h
  .exact o h
def bc.K(h:bc a e c d m b f n g j)(i:eD e c d k)(o:¬m k)(p:b.1.get? k=Y l):j.1.get? k=Y l:=h.c k l p i.a o
def bf.G(g:bf a e c d k){j:a9->Prop}(m:∀b,j b->eD e c d b)(n:∀b f,¬j b->k.get? b=Y f->l.get? b=Y f):bf a e c d l:=by
 refine⟨g.b,λb f h=>n b f (λi=>?_)<|g.a b f h,λo p h=>?_,g.f,g.e,g.d⟩;.rw[(m b i).b]at h;exact b8 h
 .exact(g.c o p h).B λb f i=>n b f λq=>(m b q).a<|ck o p h i
def fM(c:cj)(d:af)(b:aO)(a:a9):Prop:=es c d a\/b.1.get? a=ab
def bc.G(m:bc a e c d k b f l g j){r:a9->Prop}(v:∀h,r h->fM c d b h/\eD f l g h)(w:∀h,r h->¬k h)(s:∀h n,¬r h->j.1.get? h=Y n->i.1.get? h=Y n)
 (x:i.5=j.5)(y:i.2=j.2):bc a e c d k b f l g i:=by
 refine⟨m.b,m.a.G (λh p=>(v h p).2) s,m.g,m.d,λh n o p q=>s h n (λt=>?_)<|m.c h n o p q,λh q z=>?_,x.trans m.f,y.trans m.e⟩
 .refine b1 ((v h t).1) (λu=>?_) λu=>?_
  .exact p u
  .rw[u]at o;exact b8 o
 .haveI:=m.h h q z;refine dP (j.1.get? h) (λo=>?none) λn o=>?some
  case none=>exact a2 o this
  case some=>rw[s h n (λt=>w h t q) o];nofun
def bc.H(i:bc a e c d n b f l g j)(w:fM c d b k)(t:eD f l g k)(x:j.1.get? k=Y m):bc a e c d n b (f.C k m) l g j:=by
 have q:=i.a;have s:cP f (f.C k m) l l:=cP.A t.b;refine⟨i.b.C s,⟨q.b,λh r o=>?_,λy z o=>(q.c y z o).A s,q.f,λh u=>?_,λh r o=>s.a h r<|q.d h r o⟩,λh v=>?_,i.d,i.c,i.h,i.f,i.e⟩
 .by_cases p:h=k
  .subst p;rw[bF.B]at o;have A:=ch o;subst A;exact x
  .rw[bF.A p]at o;exact q.a h r o
 .by_cases p:h=k
  .subst p;exact a2 u t.a
  .rw[bF.A p];exact q.e h u
 .by_cases p:h=k
  .subst p;exact .inr w
  .rw[bF.A p]at v;exact i.g h v
def bc.D_(s:bc a e c d n b f k g j)(v:∀p∈ex l m,fM c d b p/\eD f k g p)(E:hU a f k j.1 l m):bc a e c d n b f (k++[m]) (g.B l) j:=by
 have r:=s.a;have x:cP f f k<|k++[m]:=⟨λL L o=>o,YF _ _⟩;have y:∀h q,(k++[m])[h]?=Y q->(k[h]?=Y q/\(g.B l).b h=g.b h)\/(h=k.length/\q=m/\(g.B l).b h=l):=by
  intro h q o;by_cases u:h<k.length;.rw[m3 u]at o;exact .inl<|am o<|ao (by haveI:=r.b;exact wK u this)
  .haveI F:h=k.length:=by
    haveI:=(fe.1 o).1;simp at this;exact Es this u
   subst F;simp at o;exact .inr<|aL Z o.symm<|au r.b
 refine⟨s.b.C x,⟨by rw[cs];simp[af.B,r.b],r.a,λh q o=>?_,λh z q A p o G i w=>?_,λp i=>?_,r.d⟩,s.g,λp H=>?_,s.c,s.h,s.f,s.e⟩
 .rcases y h q o with⟨o,t⟩|⟨_,rfl,t⟩
  .rw[t];exact(r.c h q o).A x
  .rw[t];exact E.A x
 .rcases y h q o with⟨B,t⟩|⟨u,I,t⟩<;>rcases y z A G with⟨C,D⟩|⟨J,K,D⟩<;>rw[t]at i<;>rw[D]at w
  .exact r.f h z q A p B C i w
  .exact a2 (ck h q B i) (v p<|K▸w).2.a
  .exact a2 (ck z A C w) (v p<|I▸i).2.a
  .rw[u,J]
 .refine b1 (pY r.b i) (λi=>?_) λi=>?_
  .exact r.e p i
  .exact(v p i).2.b
 .refine b1 (pY r.b H) (λi=>?_) λi=>?_
  .exact s.d p i
  .exact(v p i).1
end
structure lS(e:c4)(f:U):Prop where
 b:e.1=ab
 d:e.4=Y []
 a:e.2+6*f<=900
 c:e.5+60*f<=9000
structure lT(e:c4)(f:U):Prop where
 a:e.1=ab
 c:e.4=Y []
 d:e.2+6*f+3<=900
 b:e.5+60*f+50<=9000
def lT.A(a:lT e f):lS e f:=⟨a.a,a.c,by haveI:=a.d;exact(aj Z:N [_,_] (.A (X+(.A 6 S)) 900) [.A (X+(.A 6 S)+3) 900]) this,by haveI:=a.b;exact(aj Z:N [_,_] (.A (X+(.A 60 S)) 9000) [.A (X+(.A 60 S)+50) 9000]) this⟩
def lS.A(a:lS e<|f+1)(b:fs):lT (e.deeper b) f:=
 ⟨a.b,a.d,by haveI:=a.a;show e.2+1+_+_<=_;exact(aj Z:N [_,_] (.A (X+1+(.A 6 S)+3) 900) [.A (X+(.A 6<|S+1)) 900]) this,by haveI:=a.c;show e.5+3+_+_<=_;exact(aj Z:N [_,_] (.A (X+3+(.A 60 S)+50) 9000) [.A (X+(.A 60<|S+1)) 9000]) this⟩
def lT.B(a:lT e f):e.5<cLine:=by haveI:=a.b;rw[F6];exact(aj Z:N [_,_] (.B X 9900) [.A (X+(.A 60 S)+50) 9000]) this
def Hr(b:b4)(c:bF)(d:cj)(e:af)(f:aO)(g:V)(h:af)(i:Result)(j:aO):Prop:=∃a,i=.ok (.ret a)/\dg b c d e f g h a j
def ng(a:b4)(l:aq->R V->af->aD (V×af))(m:U):Prop:=
 ∀f g b h i,l f g b=Y (h,i)->∀j,lS j m->∀c d e k,bf a c d b e.1->bt a c d g k->kH (bd a.b a.a) j (.call (.ref<|a.e f) ⟨k,[]⟩) (Hr a c d b e h i) e
structure q0(e:b4):Prop where
 a:ja e
 b:jT e
 d:oW e
 c:∀f g,iG f=Y g->xM e.c (e.d f) (.type "type")=Q/\xI e.c (.ref<|e.d f) (.type "type") "__init__"=Y (.val<|.ref<|e.e g)/\
  qP e.c (.ref<|e.d f) "__getattribute__"=Y (Y<|.builtin "type.__getattribute__")
section
variable{a:b4}{e:bF}{c:cj}{d i:af}{b j:aO}{f:c4}{k:ar->aO->Prop}{g:fs}{h:U}
def zk{g:aq->R V->af->aD (V×af)}(p:ng a g h)(q:lS f h)(r:g l m d=Y (n,i))(s:bf a e c d b.1)(t:bt a e c m o):
 bh (bd a.b a.a) f (fJ (.ref<|a.e l) o []) (dg a e c d b n i) k b:=by
 refine wpAny_call<|codeAny_mono (p l m d n i r f q e c b o s t) λx j u=>?_;refine cg u λy v w=>?_;subst v;exact w
def he:∀{a:R aS},(a.all e2)=Q->∀(c:dW)(g:fs),oM c (lO a g)=a.map λb=>(M,dX b g):=by
 intro e
 induction e with
 |nil=>
  exact @λj j j=>Z
 |cons b a f=>
  exact @λd c g=>by
   rw[jJ,ez]at d;have h:lO (b::a) g=(M,dX b g)::lO a g:=by cases b<;>first|rfl|exact bx d.1
   have i:=f d.2 c g;rw[h,cl,<-i];rfl
def I8:∀(a:R aS)(g:fs),(a.map λb=>(M,dX b g)).any (·.1)=false:=by
 intro c
 induction c with
 |nil=>exact @λe=>Z
 |cons b a d=>exact @λg=>by rw[cl,w6,d g];rfl
def iB{c:R aS}(h:bh (bd a.b a.a) f (spliced<|c.map λd=>(M,dX d g)) (λe j=>l ⟨e,[]⟩ j) k b):
 bh (bd a.b a.a) f (evalArgs m Q (c.map λd=>(M,dX d g)) []) l k b:=by
 cases c with
 |nil=>
  exact ay<|kJ h (λe j i=>ay<|bl<|d8<|ay<|bl<|ay<|bl<|bl i) λo o n=>n
 |cons d c=>exact Calls.evalArgs_plain h
def r3(e:jT a)(d:aq)(c:bT)(f:a.c.In c):∃b,bD (b=oI\/b=oJ\/b=oH)<|oL (bd a.b a.a) c (oN<|.ref<|a.e d) b:=keeps_K (e.a d).2 c f
def Ox(d:jT a)(e:l≠.C)(c:bT)(f:a.c.In c):∃b,bD (b=oI\/b=oJ\/b=oH)<|oL (bd a.b a.a) c (oN<|.ref<|a.d l) b:=keeps_K (d.f l e) c f
def u7(d:aC)(c:bT)(_:a.c.In c):∃b,bD (b=oI\/b=oJ\/b=oH)<|oL (bd a.b a.a) c (oN<|.builtin d) b:=⟨.machine,.inr<|.inl Z,i0 Z⟩
def nW(d:aC)(c:bT)(_:a.c.In c):∃b,bD (b=oI\/b=oJ\/b=oH)<|oL (bd a.b a.a) c (oN<|.type d) b:=⟨.machine,.inr<|.inl Z,i0 Z⟩
def mn(a:vu l=Q):dX (.Call l n [] m) g=(dX l g>>=λb=>xQ m b [] (oM m<|lO n g) []):=by cases l<;>first|rfl|exact bx a
def y0(a:kp l=Q):attributeBase l n g m=m:=
 kn a (λa=>eY a λd d d=>Z) λa=>kn a (λa=>pi a λd d d d=>Z) λa=>kn a (λa=>mc a λd d d d=>Z) λa=>kn a (λa=>un a λd d d d=>Z) λa=>
  pj a λd d d d a=>h3 a λb c=>eY b λd d d=>gq c λd d d=>Z
end
structure yO(f:b4)(e:bR)(g:U):Prop where
 a:q0 f
 b:ng f e.a g
 c:e.c=ly
 d:e.b<1000000
structure cG where
 a:b4
 d:bR
 g:U
 e:c4
 c:da
 b:fs
 f:ar->aO->Prop
structure cH where
 c:bF
 b:cj
 a:aO
inductive cI(a:cG)(d:aA)(b:cH)(c:af):Prop
 |H (e:yO a.a a.d a.g) (f:lT a.e a.g) (g:bJ a.a b.c b.b c a.c a.b d b.a.1) (h:bf a.a b.c b.b c b.a.1)
abbrev iw(c:cG)(a:cH)(d:af)(b:cH)(e:af):Prop:=bc c.a a.c a.b d cE a.a b.c b.b e b.a
inductive c6(a:cG)(d:aA)(e:cH)(f:af)(b:cH)(c:af):Prop
 |G (g:iw a e f b c) (h:cI a d b c)
def lC(b:cG)(a:cH)(c:V)(d:ar):Prop:=ba b.a a.c a.b c d
def op(b:cG)(a:cH)(c:R V)(d:R ar):Prop:=bt b.a a.c a.b c d
def aZ(c:aD a)(d:a->Prop):Prop:=∃b,c=Y b/\d b
def b0(b:cG)(c:Sem a)(d:a->aO->Prop)(e:aO):Prop:=bh (bd b.a.b b.a.a) b.e c d b.f e
def gH(b:cG)(e:aA)(f:cH)(g:af)(h:ar->aO->Prop):V×af->Prop:=λc=>∀a d,c6 b e f g a c.2->lC b a c.1 d->h d a.a
def nk(c:cG)(d:aA)(e:cH)(f:af)(g:aE->aO->Prop):aE×af->Prop:=λa=>∀b,c6 c d e f b a.2->g a.1 b.a
def ya(b:cG)(e:aA)(f:cH)(g:af)(h:R ar->aO->Prop):R V×af->Prop:=λc=>∀a d,c6 b e f g a c.2->op b a c.1 d->h d a.a
def bo(e:bk):Prop:=∀{a:cG}{f:aS}{b:aA}{c:cH}{d:af}{g:ar->aO->Prop},bm a.c e f=Q->cI a b c d->aZ (ai a.d e b d) (gH a b c d g)->b0 a (dX f a.b) g c.a
def fu(f:bk):Prop:=∀{a:cG}{b:aS}{c:aA}{d:cH}{e:af}{g:aE->aO->Prop},bm a.c f b=Q->cI a c d e->aZ (bz a.d f c e) (nk a c d e g)->b0 a (xT b a.b<|dX b a.b) g d.a
def hv(e:bQ):Prop:=∀{a:cG}{f:R aS}{b:aA}{c:cH}{d:af}{g:R ar->aO->Prop},dN a.c e f=Q->cI a b c d->aZ (bK a.d e b d) (ya a b c d g)->b0 a (spliced<|f.map λh=>(M,dX h a.b)) g c.a
section
variable{a:aD b}
def aZ.A{f:b->aD c}{g:c->Prop}(j:aZ (a.bind f) g)(k:∀e,aZ (f e) g->d e):aZ a d:=
 j.elim λl h=>(F5.1 h.1).elim λe i=>ax e i.1<|k e<|ax l i.2 h.2
def aZ.E{f:b->c}{g:c->Prop}(j:aZ (a.map f) g)(k:∀e,g (f e)->d e):aZ a d:=
 j.elim λl h=>(oG.1 h.1).elim λe i=>ax e i.1<|k e<|i.2▸h.2
def aZ.H{e:b->Prop}(g:aZ a e)(h:∀d,e d->c d):aZ a c:=g.elim λd f=>ax d f.1<|h d f.2
def aZ.B(b:aZ (Y c) d):d c:=b.elim λe a=>(cZ a.1).symm▸a.2
def aZ.F{a:Prop}(b:aZ ab c):a:=b.elim λe d=>b8 d.1
def aZ.C{e:b->aD c}{f:c->Prop}{g:Prop}(j:aZ (a.bind e) f)(k:∀d,a=.some d->aZ (e d) f->g):g:=
 j.elim λl h=>(F5.1 h.1).elim λd i=>k d i.1<|ax l i.2 h.2
def aZ.D{e:b->c}{f:c->Prop}{g:Prop}(j:aZ (a.map e) f)(k:∀d,a=.some d->f (e d)->g):g:=
 j.elim λl h=>(oG.1 h.1).elim λd i=>k d i.1<|i.2▸h.2
end
section
variable{a:cG}{b h:cH}{c:af}{g i:aO}{f:ar}{e d:M.bk}
def cH.A(b:cH)(a:U):cH:=⟨b.c,b.b,{b.a with toks:=a}⟩
def cI.G(d:cI a j b c)(e:iw a b c h k):cI a j h k:=⟨d.1,d.2,d.3.F e,e.a⟩
def cI.B(e:cI a j b c)(d:iw a b c h k):c6 a j b c h k:=⟨d,e.G d⟩
def cI.A(d:cI a j b c):c6 a j b c b c:=⟨.B_ d.4,d⟩
def cI.C(d:cI a j b c)(e:U):cI a j (b.A e) c:=⟨d.1,d.2,d.3,d.4⟩
def c6.F(d:c6 a j b c h k)(e:iw a h k l m):c6 a j b c l m:=⟨d.1.B e,d.2.G e⟩
def c6.A(e:c6 a j b c h k)(d:c6 a j h k l m):c6 a j b c l m:=⟨e.1.B d.1,d.2⟩
def TB(d:bf a.a b.c b.b c b.a.1)(f:U):iw a b c (b.A f) c:=.A d (λg g e=>e) Z Z
def c6.C(d:c6 a j b c h k)(e:U):c6 a j b c (h.A e) k:=d.F<|TB d.2.4 e
def c6.B(d:c6 a k b c h l)(e:lC a b j f):lC a h j f:=ba.A d.1.b e
def c6.H(d:c6 a k b c h l){f:R ar}(e:op a b j f):op a h j f:=bt.B d.1.b e
def c6.E(e:c6 a j b c h k)(d:dg a.a h.c h.b k h.a l m f i)(g:gH a j b c n (l,m)):n f i:=
 d.elim λo d=>d.elim λp d=>g ⟨o,p,i⟩ f (e.F d.1) d.2
def qb{i:aD k}{o:k->V}(f:aZ (i.map λd=>(o d,j))<|gH a l b c m)(p:c6 a l b c h j)(q:∀d,i=Y d->bh (bd a.a.b a.a.a) a.e n (dg a.a h.c h.b j h.a (o d) j) a.f g):b0 a n m g:=
 f.D λd e f=>kJ (q d e) (λs s r=>p.E r f) λs s e=>e
def wb(p:aZ j<|gH a k b c l)(q:c6 a k b c h m)(r:∀d f,j=Y (d,f)->bh (bd a.a.b a.a.a) a.e n (dg a.a h.c h.b m h.a d f) a.f g):b0 a n l g:=
 p.elim λi o=>kJ (r i.1 i.2 o.1) (λt t s=>q.E s o.2) λt t e=>e
def cI.D(e:cI a j b c)(d:U)(g:aZ (Y (k,c))<|gH a j b c l)(h:lC a b k f):l f (b.A d).a:=g.B _ _ (e.A.C d) h
def fF(b:b0 a j (λd g=>b0 a (k d) l g) g):b0 a (j>>=k) l g:=ay b
def fG(b:b0 a j k g)(c:∀d g,k d g->l d g):b0 a j l g:=kJ b c λf f e=>e
def T'(a:bc j k l c cE g m n p i)(b:ba j k l o f):ba j m n o f:=b.A a.b
def An(D:bf a.a b.c b.b c b.a.1)(E:lC a b j f)(w:lf c j=Y (k,l)):dg a.a b.c b.b c b.a k l f b.a:=by
 obtain⟨G,a_,g⟩:=b;refine cv w λx e w=>dB w λb_ h H=>?_;rw[jk e]at E;refine bS E λd u F y=>?_;subst y;cases H;haveI n:=bc.F_ D F;haveI o:=D.c _ _ F;haveI v:∀m∈ex (c.b x) (d,u),(λm=>if m∈ex (c.b x) (d,u)then g.1.get? m else G m) m=g.1.get? m:=λm I=>au I;cases i:c.b x with
 |B=>rw[i]at h;exact b8 h
 |A J=>
  rw[i]at h o;have p:=ch h;subst p;refine cg o λz A q=>?_;obtain⟨r,s,t⟩:=A;exact ck _ _ n ⟨d,z,Z,(am r ⟨s,(v d<|by rw[i];exact .head _).trans t⟩),q.B n.b⟩
 |D J=>
  rw[i]at h o;have p:=ch h;subst p;refine cg o λz A q=>?_;obtain⟨r,s,B,t,C⟩:=A;exact ck _ _ n ⟨d,z,Z,(aL r s ⟨B,(v d<|by rw[i];exact .head _).trans t,C⟩),q.B n.b⟩
 |C c_ d_=>
  rw[i]at h o;have p:=ch h;subst p;refine pT o λK t e_ y q=>?_;obtain⟨r,s,B,L,C⟩:=y;exact ck _ _ n ⟨d,u,K,Z,(v d<|by rw[i];exact .head _).trans t,(aL r s ⟨B,(v u<|by rw[i];exact .tail _<|.head _).trans L,C⟩),q.A n.b⟩
def Cn(a:bf l j k c g.1)(e:bt l j k n m)(f:m.length<=1000000)(h:∀d b,g.1.get? d=Y b->i.1.get? d=Y b){d:a9}(p:g.1.get? d=ab)
 (q:i.1.get? d=Y {cls:=.type "list",data:=.seq m.toArray o})(r:i.5=g.5)(s:i.2=g.2):dg l j k c g (.B c.a) (c.B<|.A n) (.ref d) i:=by
 haveI u:bc l j k c cE g j (k++[(d,d)]) (c.B<|.A n) i:=bc.E_ a h (λv t=>by cases cm.1 t;exact p) (ax m (am f ⟨o,q⟩) e) r s;refine ck _ _ u ⟨d,d,?_,Z⟩;rw[<-a.b,oB<|aY _];simp
def Sd:bo .H:=λa b c=>Kp a λd e=>wpAny_Constant_none<|b.D _ c Z
def RW:bo<|.i j:=λa b c=>Kj a λd e=>wpAny_Constant_bool<|b.D _ c Z
def R6:bo<|.B j:=λa b c=>Kn a λd e=>Z1<|b.D _ c hj
def Sj:bo<|.J j:=λa b c=>Kx a λe f d=>GV<|b.D _ c<|wt d
def Sm{d:U}:bo<|.A d:=λa c b=>eY a λh i a=>b.D λj e b=>c.3.D_ a e λf g=>b _ _ c.A g
def R4{c:aq}:bo<|.o c:=λb a d=>Kl b λf g b e=>a.3.C a.4 a.1.a.a b (a.1.a.a.e c e)<|a.D _ d Z
def Sk:bo<|.m j:=λ{a f i b c k} e d h=>A4 e λl m e=>(d.1.a.a.g j).elim λf g=>d.3.C d.4 d.1.a.a e g.1<|d.D _ h<|by rw[d.1.c];exact g.2 _ _ d.4.d
def Nz{h:ar->aO->Prop}(i:jT j)(d:bf j k l c g.1)(q:ba j k l m f){a:aC}(b:rN c m a=Y n):bh (bd j.b j.a) o (getAttr f (b2 a) p) (dg j k l c g n c) h g:=
 cv b λv e b=>dA b λr b=>by refine bS (AR d q e) λw x s t=>?_;subst s;exact N4 i d t r b λf u=>.A d u _
def Lw{d:aJ}(c:kp j=Q):dX (.Attribute j d k) l=(do
 let a<-dX j l
 standAt k.atName
 let b<-holding [a] (getAttr a d Q)
 letTemporaryGo j a b
 cN b):=by
 rw[arm_eval_Attribute,y0 c]
def RS{c:aC}(d:bo e):bo<|.D e c:=λf g a=>Kh f λk l h i=>
 Ú (d h g<|a.A λm a m m b j=>qb a b λm e=>Nz b.2.1.a.b b.2.4 j e) (Lw i)
def R5{d:M.bk}(g:bo e)(h:bo d):bo<|.F e d:=λi j a=>mc i λm n o b=>
 xq (g (bO b).1 j<|a.A λp a p p f k=>h (bO b).2.1 f.2<|a.A λp a p p c l=>qb a (f.A c) λp e=>Oc c.2.4 (c.B k) l e (bO b).2.2)
def Om(a:AV e=Q):e=.H:=Li (c:=λe=>e=.H) e (tm a) Z
def vI{d:M.bk}(h:bo d)(f:uu a.c d j=Q)(g:cI a k b c)(e:aZ (ai a.d d k c)<|gH a k b c l):b0 a (evalPart j a.b) l b.a:=by
 cases j with
 |none=>rw[Om f]at e;exact bl<|e.B _ _ g.A Z
 |some i=>exact h f g e
def Si{d f:M.bk}(h:bo e)(i:bo d)(j:bo f):bo<|.e e d f:=λk l a=>Kw k λs t b u v m n o=>
 xq (h m l (a.A λw a w w g p=>GX (vI i n g.2 (a.A λw a w w b q=>vI j o b.2 (a.A λw a w w c r=>
  bl (qb a ((g.A b).A c) λw e=>SO c.2.4 (c.B<|b.B p) (c.B q) r e))))))
def RU{g:gh}(h:bo d)(i:bo j):bo<|.K g d j:=λk l a=>y' k λo p q r b=>
 wpAny_BinOp (h (bO b).2.1 l<|a.A λs a s s f m=>i (bO b).2.2 f.2<|a.A λs a s s c n=>qb a (f.A c) λs e=>JE c.2.4 (bO b).1 (c.B m) n e)
def Sb(h:bo d):bo<|.g d:=λa c b=>zB a λk l a=>
 GY (h a c (b.A λf b n n g i=>wb b g λn n e=>Bp e λc j e=>by obtain⟨f,m⟩:=f;cases j;cases e;exact PO g.2.4 i))
def Se(f:bo d):bo<|.k d:=λb g a=>zC b λj k b=>
 GY (f b g<|a.A λl a l l c h=>a.D λl e a=>not_value<|sO c.2.4 h e λi=>a _ _ (c.C i) lD)
def vw(a:hG j=Q):behindInMarks k j=false:=by cases j<;>first|rfl|exact bx a
def nJ(g:cI a p b c)(q:k9 j k=Q){h:aE->Prop}(r:lC a b l f)(s:lC a b m n)(t:aZ (dz c j l m) h)(u:∀d e,h d->o (.bool d) (b.A e).a):b0 a (lN k f n) o b.a:=
 t.elim λd i=>KF g.4 q r s g.2.B i.1 λe=>u d e i.2
def RZ{f:kA}(g:bo d)(h:bo j):bo<|.C f d j:=λi k a=>zx i λp q l r b=>
 wpAny_Compare1 (g b.2.1 k<|a.A λs a s s e m=>h b.2.2.1 e.2<|a.A λs a s s c n=>nJ c.2 b.1 (c.B m) n (a.E λs a=>a) λl o a=>a _ _ ((e.A c).C o) lD) (vw b.2.2.2)
def RI{f:kA}(g:bo d)(h:bo j):fu<|.C f d j:=λi k a=>zx i λp q l r b=>
 wpAny_isTrue_Compare1 (g b.2.1 k<|.A (.A a λs a=>a) λs a s s e m=>h b.2.2.1 e.2<|a.A λs a s s c n=>nJ c.2 b.1 (c.B m) n (a.E λs a=>a) λl o a=>tE<|a.B _<|(e.A c).C o) (vw b.2.2.2)
def gH.A(d:c6 a j b c h k)(e:gH a j b c l m):gH a j h k l m:=λi i f g=>e _ _ (d.A f) g
def aZ.J{e:aD<|V×af}(d:aZ e<|gH a j b c k)(f:c6 a j b c h l):aZ e<|gH a j h l k:=d.H λm d m m g i=>d _ _ (f.A g) i
def aZ.I{e:aE->aO->Prop}(d:aZ k<|nk a j b c e)(f:c6 a j b c h l):aZ k<|nk a j h l e:=d.H λi d i g=>d _<|f.A g
def R8{a:M.bk}(f:fu a)(g:bo d)(h:bo j):bo<|.b a d j:=λi k b=>zd i λl m n o c=>
 wpAny_IfExp (f (bO c).1 k (b.A λe b p a=>by
  obtain⟨e,_⟩:=e;cases e with
  |true=>exact g (bO c).2.1 a.2 (aZ.J b a)
  |false=>exact h (bO c).2.2 a.2<|aZ.J b a))
def RM{a:M.bk}(f:fu a)(g:fu d)(h:fu j):fu<|.b a d j:=λi k b=>zd i λl m n o c=>by
 refine fF<|f (bO c).1 k<|b.A λe b p a=>?_;obtain⟨e,_⟩:=e;cases e with
 |true=>exact g (bO c).2.1 a.2<|aZ.I b a
 |false=>exact h (bO c).2.2 a.2<|aZ.I b a
def RN(c:fu d):fu<|.k d:=λa e b=>zC a λg h a=>wpAny_isTrue_Not<|c a e<|b.E λi b i f=>b _ f
def CN(d:bo e):bo<|.n e:=λg i a=>d (aP g).2 i<|a.A λl a h f b j=>a.elim λk c=>b.E (An b.2.4 j c.1) c.2
end
def jd(e:bQ)(h:bR->bQ->aA->af->aD (V×af))(i:F9):Prop:=∀{a:cG}{f:R aS}{b:aA}{c:cH}{d:af}{g:ar->aO->Prop}{j:dW},dN a.c e f=Q->cI a b c d->aZ (h a.d e b d) (gH a b c d g)->b0 a (boolOp j i<|evalEach f a.b) g c.a
def je(e:bQ)(h:bR->bQ->aA->af->aD (aE×af))(i:F9):Prop:=∀{a:cG}{f:R aS}{b:aA}{c:cH}{d:af}{g:aE->aO->Prop},dN a.c e f=Q->cI a b c d->aZ (h a.d e b d) (nk a b c d g)->b0 a (allTrue i f a.b) g c.a
section
variable{a:cG}{b:cH}
def nI:∀{d:bQ}{b:R aS},dN c d b=Q->b.all e2=true:=by
 intro e
 induction e using bQ.C with
 |n=>
  exact @λi a=>e' a Z
 |c _ _ f=>
  exact @λi a=>gq a λg h a=>by rw[jJ,(bO a).2.1,f (bO a).2.2];rfl
def Ke:∀{f:bQ}{g:R aS}{h:aA}{i:af}{e:R V×af},dN c f g=Q->bK d f h i=Y e->e.1.length=g.length:=by
 intro j
 induction j using bQ.C with
 |n=>
  exact @λo o o o b a=>e' b<|cZ a▸Z
 |c _ _ k=>
  exact @λo o o o b a=>gq b λm n b=>cv a λo o a=>dB a λe l a=>a▸aF (·+1) (k (bO b).2.2 l)
def Sv:hv .B:=λa b c=>e' a<|bl<|c.B _ _ b.A Z
def Su(g:bo c)(h:hv d):hv<|.A c d:=λb i a=>gq b λm n b=>
 im (g (bO b).1 i<|a.A λo a o o e j=>h (bO b).2.2 e.2<|a.E λo a o k f l=>a _ (_::k) (e.A f)<|cd _ _ Z (f.B j) l)
def I5:jd .B gt .And:=λb b a=>aZ.F a
def P':jd .B h8 .Or:=λb b a=>aZ.F a
def y8
 (b:b0 a e (λj m=>b0 a (qU j) (λk l=>if(c==.And)==k then b0 a (boolOp f c (g::h)) d l else d j l) m) i):b0 a (boolOp f c (e::g::h)) d i:=by
 refine fF<|fG b λj m b=>ay<|lR<|fF<|d8<|fG b λk l b=>?_;cases c<;>cases k;.exact bl b
 .exact b
 .exact b
 .exact bl b
def I4(g:bo c)(j:jd d gt .And):jd (.A c d) gt .And:=λb h a=>gq b λo p b=>by
 cases d with
 |B=>exact e' (bO b).2.2<|g (bO b).1 h a
 |A q r=>exact gq (bO b).2.2 λk l m=>y8 (g (bO b).1 h (aZ.A a λs a t u e i=>a.C λn c a=>sO e.2.4 i c λf=>by
  clear c;cases n with
  |true=>exact @j _ (k::l) _ _ _ _ _ m (e.2.C f) (aZ.J a<|e.C f)
  |false=>exact aZ.B a _ _ (e.C f) i))
def P9(g:bo c)(j:jd d h8 .Or):jd (.A c d) h8 .Or:=λb h a=>gq b λo p b=>by
 cases d with
 |B=>exact e' (bO b).2.2<|g (bO b).1 h a
 |A q r=>exact gq (bO b).2.2 λk l m=>y8 (g (bO b).1 h (aZ.A a λs a t u e i=>a.C λn c a=>sO e.2.4 i c λf=>by
  clear c;cases n with
  |false=>exact @j _ (k::l) _ _ _ _ _ m (e.2.C f) (aZ.J a<|e.C f)
  |true=>exact aZ.B a _ _ (e.C f) i))
def RQ(b:jd c gt .And):bo<|.f c:=λa d e=>zv a λf g a=>by rw[ZO];exact b a d e
def Sf(b:jd c h8 .Or):bo<|.j c:=λa d e=>zD a λf g a=>by rw[ZO];exact b a d e
def I2:je .B gM .And:=λa b c=>e' a<|wpAny_allTrue_And_nil<|c.B _ b.A
def I7:je .B gN .Or:=λa b c=>e' a<|wpAny_allTrue_Or_nil<|c.B _ b.A
def I0(g:fu c)(h:je d gM .And):je (.A c d) gM .And:=λa i b=>gq a λj k a=>wpAny_allTrue_And_cons (g (bO a).1 i (aZ.A b λe b l f=>by
 obtain⟨e,_⟩:=e;cases e with
 |true=>exact h (bO a).2.2 f.2 (aZ.I b f)
 |false=>exact aZ.B b _ f))
def I6(g:fu c)(h:je d gN .Or):je (.A c d) gN .Or:=λa i b=>gq a λj k a=>wpAny_allTrue_Or_cons (g (bO a).1 i (aZ.A b λe b l f=>by
 obtain⟨e,_⟩:=e;cases e with
 |false=>exact h (bO a).2.2 f.2 (aZ.I b f)
 |true=>exact aZ.B b _ f))
def RH(b:je c gM .And):fu<|.f c:=λa d e=>zv a λf g a=>Z5<|b a d e
def RO(b:je c gN .Or):fu<|.j c:=λa d e=>zD a λf g a=>Z5<|b a d e
def kO(a:aS):Prop:=∀(d:fs)(b:Sem ar),xT a d b=(do let c<-b;standAt a.pos;holding [c]<|qU c)
def x6(b:M.bk):Prop:=∀(c:bR)(d:aA)(e:af),bz c b d e=(ai c b d e).bind λa=>(hf a.2 a.1).map λf=>(f,a.2)
def rY(a:ku c d=Q):kO c:=k3 a λb b b b b b=>Z
def rZ(a:hM c d=Q):kO c:=eY a λb b b b b=>Z
def A1(a:mW c d=Q):kO c:=pi a λb b b b b b=>Z
def r0(a:kv c d=Q):kO c:=mc a λb b b b b b=>Z
def jt(a:om c d=Q):kO c:=pj a λb b b b b b b=>Z
def CM(l:bo c)(m:bm a.c c d=Q)(n:kO d)(o:cI a e b f)(h:aZ ((ai a.d c e f).bind λi=>(hf i.2 i.1).map λj=>(j,i.2))<|nk a e b f g):b0 a (xT d a.b<|dX d a.b) g b.a:=
 wpAny_isTrue_value (l m o<|h.A λr h r r k p=>h.D λj c h=>sO k.2.4 p c λq=>h _<|k.C q) (n _ _)
def RP(d:bo c)(f:∀{e:da}{a:aS},bm e c a=Q->kO a)(g:x6 c):fu c:=λb h i=>CM d b (f b) h<|g _ _ _▸i
def RL(d:bo<|.n c):fu<|.n c:=λb e a=>CM d b (h3 b λa f=>kn a rZ λa=>kn a A1 r0) e a
def R3:bo .w:=λb b a=>aZ.F a
def RK:fu .w:=λb b a=>aZ.F a
def Kc
 (b:b0 a d (λk o=>b0 a (lN e f k) (λl p=>b0 a (qU l) (λm n=>if m then b0 a g (λq r=>b0 a (lN h k q) c r) n else c l n) p) o) i):
 b0 a (compareChain j f [e,h] [d,g]) c i:=by
 refine ay<|d8<|fG b λk o b=>ay<|lR<|ay<|d8<|fG b λl p b=>ay<|Â<|ay<|d8<|fG b λm n b=>?_;cases m with
 |false=>exact bl b
 |true=>exact ay<|d8<|fG b λq r b=>ay<|lR<|Á b
def Kb
 (b:b0 a d (λl o=>b0 a (lN e f l) (λk p=>b0 a (qU k) (λm n=>if m then b0 a g (λq r=>b0 a (lN h l q) (λk s=>b0 a (qU k) c s) r) n else c M n) p) o) i):
 b0 a (testChain j f [e,h] [d,g]) c i:=by
 refine ay<|d8<|fG b λl o b=>ay<|lR<|ay<|d8<|fG b λk p b=>ay<|Â<|ay<|d8<|fG b λm n b=>?_;cases m with
 |false=>exact bl b
 |true=>exact ay<|d8<|fG b λq r b=>ay<|lR<|ay<|Á<|fG b λk s b=>d8 b
def Bq(a:hG c=Q):markedEach [g,f] [e,c] (evalEach [e,c] d)=[dX e d,dX c d]:=by show[dX e d,markedBehindIn f c<|dX c d]=_;rw[markedBehindIn_of_false<|vw a]
def R0(n:bo c)(o:bo d)(p:bo e):bo<|.t g f c d e:=λq r a=>zy q λv w b j i f b=>by
 rw[arm_eval_Compare,Bq b.2.2.2.2.2];refine fF<|n b.2.2.1 r<|a.A λx a x x i s=>Kc<|o b.2.2.2.1 i.2<|a.A λx a x x h m=>nJ h.2 b.1 (h.B s) m (a.A λx a=>a) λj k a=>tE ?_;cases j with
 |false=>exact a.B _ _ ((i.A h).C k) lD
 |true=>exact p b.2.2.2.2.1 (h.2.C k)<|aZ.A ((au Z:ite (Q=Q) _ _=_)▸a) λx a x x l t=>nJ l.2 b.2.1 (l.B m) t (a.E λx a=>a) λj u a=>a _ _ ((((i.A h).C k).A l).C u) lD
def RJ(n:bo c)(o:bo d)(p:bo e):fu<|.t g f c d e:=λq r a=>zy q λv w b j i f b=>by
 rw[arm_isTrue_Compare,Bq b.2.2.2.2.2];refine fF<|n b.2.2.1 r<|.A (.A a λx a=>a) λx a x x i s=>Kb<|o b.2.2.2.1 i.2<|a.A λx a x x h m=>nJ h.2 b.1 (h.B s) m (a.A λx a=>a) λj k a=>tE ?_;cases j with
 |false=>exact a.B.B _<|(i.A h).C k
 |true=>exact p b.2.2.2.2.1 (h.2.C k)<|aZ.A ((au Z:ite (Q=Q) _ _=_)▸a) λx a x x l t=>nJ l.2 b.2.1 (l.B m) t (a.E λx a=>a) λj u a=>tE<|a.B _<|(((i.A h).C k).A l).C u
def pF(k:dN g c d=Q/\aN (d.length<100)=Q)(l:bK h c i j=Y e)(m:op a b e.1 f):f.length<=1000000:=by exact(a5 10111 Z:N [_,_,_] (.A X 1000000) [.C X S,.C S O,.B O 100]) (bt.A m) (Ke k.1 l)<|e0 k.2
def Sl(g:hv c):bo<|.I c:=λh i b=>md h λk l m a=>by refine wpAny_Tuple ?_;rw[he<|nI (aP a).1];exact b.D λj d b=>g (aP a).1 i<|ax j d λo n f e=>⟨by rw[ee];exact jH<|pF (aP a) d e,f.E (QH f.2.4 e (pF (aP a) d e) _) b⟩
def R9(h:hv c):bo<|.a d c:=λi j e=>zg i λl m a=>by
 refine wpAny_List ?_;rw[he<|nI (aP a).1];refine e.D λk f e=>h (aP a).1 j<|ax k f λo n g b=>⟨by rw[ee];exact jH<|pF (aP a) f b,?_⟩;cases d with
 |false=>exact g.E (su g.2.4 b (pF (aP a) f b) _) e
 |true=>exact g.E (Cn g.2.4 b (pF (aP a) f b) (eK _ _) (eQ _) (d5 _ Z) Z Z) e
def rO(a:bT):a.get? (a.1.size+1)=none:=by
 refine dP (a.get?<|a.1.size+1) (λb=>?none) λc b=>?some
 case none=>rfl
 case some=>exact a2 (e6 (eV _)<|dm b)<|hT _
def Sh(l:bo c):bo<|.q d c:=λg m b=>Ks g λq r s t u h g=>
 xq (l g m (b.A λv b a w e n=>aZ.D b λx c b=>GX (bl (bl (GY (Z1 (P.neg_int
  (Rr (a:=⟨a.a.1,a.a.2,a.a.3,a.a.4+1+1,a.a.5⟩) e.2.4 (g4 c▸n) λi h f=>by
   haveI f:i.reverse.length<=1000000:=by rw[th];exact f
   haveI k:∀j:eB,((a.a.1.push j).push {cls:=.type "list",data:=.seq i.reverse.toArray}).get? (a.a.1.1.size+1)=Y {cls:=.type "list",data:=.seq i.reverse.toArray}:=λj=>by rw[show a.a.1.1.size+1=(a.a.1.push j).1.size from(lJ ..).symm];exact d5 _ Z
   cases d with
   |false=>exact e.E (ss e.2.4 (bt.F h) f (λo p c=>eK _ _ _ _<|eK _ _ _ _ c) (rO _) (k _) Z Z) b
   |true=>exact e.E (Cn e.2.4 (bt.F h) f (λo p c=>eK _ _ _ _<|eK _ _ _ _ c) (rO _) (k _) Z Z) b))))))))
end
section
variable{b:cG}{e f:cH}{c:af}{a:aO}{d:b4}
def aZ.G[oz g]{c:i->Prop}{d:Prop}(a:aZ (if g then h else ab) c)(e:g->aZ h c->d):d:=by
 by_cases b:g;.rw[au b]at a;exact e b a
 .rw[ao b]at a;exact a.F
def nD(q:hv g)(o:dN b.c g j=Q)(r:cI b h e c)
 (s:∀d,b.a.c.In d->∃f,bD (f=oI\/f=oJ\/f=oH)<|oL (bd b.a.b b.a.a) d (oN i) f)
 (d:aZ (bK b.d g h c)<|ya b h e c λn a=>b0 b (fJ i (k++n) []) l a):b0 b (xQ m i k (oM m<|lO j b.b) []) l e.a:=by
 rw[he<|nI o];exact jQ (by rw[I8];rfl) s<|iB<|q o r<|d.H λv d t n p u=>⟨p.2.4.A,d t n p u⟩
def rx{d:aq}(l:aZ (b.d.a d g h)<|gH b i e c j)(a:c6 b i e c f h)(m:op b f g k):b0 b (fJ (.ref<|b.a.e d) k []) j f.a:=
 wb l a λo o n=>zk a.2.1.b a.2.2.A n a.2.4 m
def RX{c:aq}(e:hv g):bo<|.G c g:=λf a d=>nV f λj b k l h b=>by exact fF<|a.3.C a.4 a.1.a.a h (a.1.a.a.e c<|rr (bO b).1)<|nD e (bO b).2.1 a (r3 a.1.a.b c)<|d.A λm d m m i b=>rx d i b
def RR(m:bo g)(n:hv h):bo<|.s g h:=λ{b f t e c u} o i a=>Kf o λv w x d=>by rw[mn d.2.2.1];refine fF<|m d.1 i<|a.A λy a z f j k=>a.C λp q a=>aZ.C a λl g a=>?_;rw[Jf g]at k;haveI r:f=.ref (b.a.e l):=k;subst r;exact nD n d.2.1 j.2 (r3 i.1.a.b l)<|ax p q λz z s d=>rx a (j.A s) d
def NM(a:g.all e2=Q)(b:g.length<20):GP (g.length+0) (oM h<|lO g i) []=true:=by
 unfold GP;rw[he a,ez,ez,jR];refine⟨⟨?_,Z⟩,?_⟩;.rw[List.all_map];exact oA.2 λc c=>Z
 .show g.length+0+0<30;exact(aj Z:N [_] (.B (X+0+0) 30) [.B X 20]) b
def sa(m:kp i=Q)(n:h.all e2=Q)(o:h.length<20)(p:(j.3==g.1)=Q)
 (r:b0 b (dX i b.b) (λd e=>∀q,b0 b (getMethod d k q) (λc f=>b0 b (xQ g c.1 c.2 (oM g<|lO h b.b) []) l f) e) a):
 b0 b (dX (.Call (.Attribute i k j) h [] g) b.b) l a:=by
 rw[arm_eval_Call,y0 m];refine ay<|fG r λd e s=>ay<|lR ?_;haveI t:GP (h.length+([]:R Keyword).length) (oM g<|lO h b.b) (backToKw g<|keywordEach [] b.b)=true:=NM n o;haveI u:ZX Q i b.b j g=cN g:=by unfold ZX;simp[p]
 unfold methodCall;rw[t];refine ay<|d8 ?_;exact fG (s _) λc f v=>ay<|G3 u v
def KD(n:bf d g h c a.1)(o:ba d g h i j)(e:rB c k i=Y l):∃b f m,j=.ref b/\jX d g h a.1 l m b f/\d1 k m=none:=
 cv e λp q e=>dA e λr s=>by refine bS (AR n o q) λb f t u=>?_;subst t;exact uP b f p.2 Z (cZ s▸u)<|m9.1 r
def Sa{i:aC}(j:bo g)(k:hv h):bo<|.E g i h:=λl m a=>r2 l λn v w x o b=>
 sa (cR b).2.2.1 (nI (cR b).2.1) (e0 (cR b).2.2.2) o (j (cR b).1 m<|a.A λy a F z c d A=>by refine a.C λp q a=>a.C λB r a=>a.C λs t a=>?_;refine iK (KD c.2.4 d r) λn C D u e=>?_;subst u;exact N5 c.2.1.a.b c.2.4 e.1 t e.2<|nD k (cR b).2.1 c.2 (r3 c.2.1.a.b s)<|ax p q λF F f b=>rx a (c.A f)<|cd _ _ Z (f.B d) b)
def Qz(c:gj a.1.get? g h):a.TypeIs (.ref g) "list"/\(∀b,dn g=.ref b->∃d,bD (a.1.get? b=Y d)<|d.2=ab):=
 ⟨c.A.typeIs,λb e=>by cases e;exact c.2.elim λi f=>⟨_,f,Z⟩⟩
def Cf(e:fN d a.1.get? g h):a.TypeIs (.ref g) "dict"/\(∀c,dn g=.ref c->∃b,bD (a.1.get? c=Y b)<|b.2=ab):=by refine am e.A.typeIs λc i=>?_;cases i;obtain⟨_,_,b,f⟩:=e;obtain⟨_,_,j,_⟩:=f.2;exact a1 b ⟨f.1,j.2.1⟩
def y6(p:bf d j k c a.1)(n:ba d j k h g)(e:k1 c i h=Q):a.TypeIs g (uj i)/\(∀f,g=.ref f->∃o,bD (a.1.get? f=Y o)<|o.2=ab):=by
 have m:((e8 h).bind λq=>e9<|c.b q).isSome=Q->a.TypeIs g "list"/\(∀f,g=.ref f->∃o,bD (a.1.get? f=Y o)<|o.2=ab):=λe=>(xn.1 e).elim λz b=>cv b λq r b=>by rw[jk r]at n;refine BY (nH p n<|rt b) λf s A t u l=>?_;subst u;exact Qz ⟨l.2.1,t,l.2.2.1⟩
 cases i with
 |call=>clear m;refine a8 (xn.1 e) λv b=>?_;refine bS (uB p n b) λf w x l=>?_;subst x;exact Cf l.1
 |print=>
  clear m;refine a8 (xn.1 e) λv b=>?_;refine cv b λq r b=>?_;rw[jk r]at n;refine iK (pl p n<|pk b) λf s w y l=>?_;subst y;exact Cf l.2.1
 |ignore=>exact m e
 |warn=>exact m e
 |raise=>exact m e
 |log=>exact m e
def RV(j:bo g)(k:hv i):bo<|.h g h i:=λl m a=>r2 l λo p q r n b=>
 sa (cR b).2.2.1 (nI (cR b).2.1) (e0 (cR b).2.2.2) n (j (cR b).1 m (a.A λs a v t c d u=>aZ.G a λf a=>
  ZS (y6 c.2.4 d f).1 (uk h).1 (uk h).2.1 (uk h).2.2 (y6 c.2.4 d f).2
   (nD k (cR b).2.1 c.2 (u7 _)<|a.A λv a v v e b=>wb a (c.A e) λv v g=>JG e.2.4 (e.B d) b g)))
def Bd{a b c:U}(d:a=b)(e:b<=c):a<=c:=d▸e
def TI(a:lT g i)(b:pushGuards h.guards g.4=Y [])(c:h.weight<=3)(d:h.cUnits<=50):lS (g.under h) i:=
 ⟨a.a,b,by haveI:=a.d;show g.2+_+_<=_;exact(aj Z:N [_,_,_] (.A (X+S+(.A 6 O)) 900) [.A (X+(.A 6 O)+3) 900,.A S 3]) this c,by haveI:=a.b;show g.5+_+_<=_;exact(aj Z:N [_,_,_] (.A (X+S+(.A 60 O)) 9000) [.A (X+(.A 60 O)+50) 9000,.A S 50]) this d⟩
def vn(f:ja d)(i:bf d g h c a.1):a.1.1.size≠sysModules:=by obtain⟨j,k,l,b,_⟩:=f.d _ i.A;haveI e:3<a.1.1.size:=dm b;exact λb=>by rw[b]at e;exact a2 e<|ae Z
def z5:tw.IsDictOf (c' d.b d.a) []:=by
 refine f9 (#[]) 0 ⟨⟨Z,Z,Z⟩,Z,?_,?_,iW⟩;.intro b a;simp at a
 .exact .nil
def PP(k:ja d)(e:bf d h i c a.1):bc d h i c cE a h (i++[(a.1.1.size+1,a.1.1.size)]) (c.B<|.C g []) {a with heap:=(a.1.push tw).push<|kG (d.d g) a.1.1.size}/\ba d h (i++[(a.1.1.size+1,a.1.1.size)]) (.B c.a) (.ref<|a.1.1.size+1):=by
 haveI m:∀b f,a.1.get? b=Y f->((a.1.push tw).push<|kG (d.d g) a.1.1.size).get? b=Y f:=λb f l=>eK _ _ _ _<|eK _ _ _ _ l;haveI n:((a.1.push tw).push<|kG (d.d g) a.1.1.size).get? (a.1.1.size+1)=Y (kG (d.d g) a.1.1.size):=by heap_get
 haveI o:((a.1.push tw).push<|kG (d.d g) a.1.1.size).get? a.1.1.size=Y emptyDict:=by heap_get
 refine am (bc.E_ e m (λb j=>?_) (dZ ([]) n (by show a.1.1.size+1≠a.1.1.size;exact W4) (aL (by simp) (vn k e) ⟨_,o,z5⟩) Z) Z Z) ⟨_,a.1.1.size,?_,Z⟩
 .rcases bj.1 j with rfl|j
  .exact rO _
  .cases cm.1 j;exact eQ _
 .rw[<-e.b,oB<|aY _];simp
def Sc{d:cO}(x:hv g):bo<|.c d g:=λ{b y z e c A} B h a=>nV B λa_ i b_ c_ C i=>by
 have m:=h.1.a.b;refine fF<|h.3.C h.4 h.1.a.a C (h.1.a.a.b d)<|a.C λn D a=>aZ.C a λo r a=>a.C λE s a=>?_;haveI F:d≠.C:=by rintro rfl;exact b8 r
 refine nD x (aP i).1 h (Ox m F)<|ax n D λf l j i=>?_;haveI t:=m.d d o r;refine wpAny_call<|make_core (makes_of j.2.4.A t.1) (looks_findIn j.2.4.A t.2) (λG=>bind_fn j.2.4.A G (m.a o).1) (.inl Z) ?_;haveI k:=PP (g:=d) h.1.a.a j.2.4;refine codeAny_mono (h.1.b o _ _ _ _ s (b.e.under<|.builtin "type.__call__" ⟨.ref (b.a.d d)::l,[]⟩) (TI h.2 (by rw[h.2.c];rfl) (Bd (show(Zg "type.__call__" ⟨.ref (b.a.d d)::l,[]⟩).weight=1 by kernel_rfl)<|by decide)<|Bd (show(Zg "type.__call__" ⟨.ref (b.a.d d)::l,[]⟩).cUnits=1 by kernel_rfl)<|by decide) f.c _ _ (.ref (f.a.1.1.size+1)::l) k.1.a<|cd _ _ Z k.2<|bt.B k.1.b i) λd_ H I=>?_;obtain⟨y,rfl,J,K,p⟩:=I;clear s;obtain⟨L,u⟩:=E;have v:=T' p.1 k.2;cases L<;>first|exact aZ.F a|skip
 refine⟨p.2,?_⟩;have q:=j.F (l:=⟨J,K,H⟩)<|k.1.B p.1;replace a:aZ (if mq d=Q then lf u<|.B n.2.a else Y (.B n.2.a,u))<|gH b z e c A:=a;by_cases w:mq d=Q;.rw[au w]at a;exact a.elim λx_ i=>q.E (An q.2.4 v i.1) i.2
 .rw[ao w]at a;exact a.B _ _ q v
end
def i7(a:M.bk->Prop):bQ->Prop
 |.B=>eN
 |.A b c=>a b/\i7 a c
inductive ht(a:M.bk):Prop
 |A (b:bo a) (c:fu a)
def ne(a:b4)(g:kC):Prop:=∀{d:bF}{e:cj}{c:af}{f:aO}{b:c4}{k:ar->aO->Prop}{h i:V}{j:ar},b.1=ab->b.4=Y []->b.2<=900->b.5<=9000->bf a d e c f.1->ba a d e h j->k2 c g h=Y i->bh (bd a.b a.a) b (fJ (rp g) [j]) (dg a d e c f i c) k f
section
variable{a:cG}{f:aA}{b:cH}{c:af}{g:ar->aO->Prop}{e:aO}{l:da}{d:M.bk}{h:b4}{j:bF}{i:cj}{m:c4}{n:ar->aO->Prop}{k:fs}
def RY(k:hv p):bo<|.v o p:=λ{a t f b c g} l d h=>r2 l λu v w x m e=>
 A4 (bO e).1 λy z n=>h.C λq r h=>aZ.C h λi j h=>
  sa Z (nI (bO e).2.1) (e0 (bO e).2.2) m (d.3.C d.4 d.1.a.a n (d.1.a.a.b o) λA=>method_cls d.4.A (d.1.a.c o i j).2.2 (cls_value d.4.A (d.1.a.c o i j).1 (d.1.a.c o i j).2.1 Z
   (nD k (bO e).2.1 (d.C _) (r3 d.1.a.b i)<|ax q r λB B s e=>rx h ((d.A.C _).A s) e)))
def Jr(a:ja h)(b:bJ h j i c l k f e.1)(p:bf h j i c e.1){d:kC}{s:aJ}(q:gw l s (y1 d)=Q)(r:g (rp d) e):bh (bd h.b h.a) m (dX (.Name s o) k) g n e:=by
 cases d;.exact b.A p a q (a.c _<|ae Z) r
 .exact b.A p a q (a.a _<|ae Z) r
 .exact b.A p a q (a.a _<|ae Z) r
 .exact b.A p a q (a.a _<|ae Z) r
 .exact b.A p a q (a.c _<|ae Z) r
 .exact b.A p a q (a.a _<|ae Z) r
 .exact b.A p a q (a.a _<|ae Z) r
 .exact b.A p a q (a.a _<|ae Z) r
def Ow(d:kC)(a:bT)(b:h.c.In a):∃c,bD (c=oI\/c=oJ\/c=oH)<|oL (bd h.b h.a) a (oN<|rp d) c:=by
 cases d;.exact u7 _ a b
 .exact nW _ a b
 .exact nW _ a b
 .exact nW _ a b
 .exact u7 _ a b
 .exact nW _ a b
 .exact nW _ a b
 .exact nW _ a b
def P5(k:e2 o=Q)(l:∀d,a.a.c.In d->∃h,bD (h=oI\/h=oJ\/h=oH)<|oL (bd a.a.b a.a.a) d (oN p) h)
 (m:bo q)(n:bm a.c q o=Q)(t:cI a f b c)(d:aZ (ai a.d q f c)<|gH a f b c λi e=>b0 a (fJ p (r++[i]) []) g e):b0 a (xQ s p r (oM s<|lO [o] a.b) []) g b.a:=by
 rw[he<|show[o].all e2=Q by rw[jJ,k];rfl];exact jQ (Z) l<|iB<|im<|m n t<|d.H λw d u i j v=>bl ⟨j.2.4.A,d u i j v⟩
def RT{d:kC}(f:∀h,ja h->ne h d)(g:bo o):bo<|.L d o:=λi b c=>r1 i λl e m n j e=>by exact fF<|Jr b.1.a.a b.3 b.4 j<|P5 (aP e).2 (Ow d) g (aP e).1 b<|c.A λp c p p a k=>qb c a λp o=>f _ a.2.1.a.a a.2.2.a a.2.2.c (by haveI:=a.2.2.d;exact(aj Z:N [_,_] (.A X 900) [.A (X+(.A 6 S)+3) 900]) this) (by haveI:=a.2.2.b;exact(aj Z:N [_,_] (.A X 9000) [.A (X+(.A 60 S)+50) 9000]) this) a.2.4 k o
def OU:ne h .init:=λd d d d a b c=>Jp a b c
def p'{d:kC}(a:d=.prolog\/d=.content\/d=.cdata\/d=.error\/d=.ext2):ne h d:=λf f f f b c e=>Jq b a c e
def OH(h:cI a f b c)(e:A9 a.c o p=Q)(j:∀k l,q4 a.a k.a.1 o l->c6 a f b c k c->g l k.a):b0 a (dX p a.b) g b.a:=by
 have i:=h.1.a.a;cases o;.exact eY e λr r e=>h.3.A h.4 i e (i.a _<|ae Z)<|j b _ Z h.A
 .exact eY e λr r e=>h.3.C h.4 i e (i.b .A)<|j b _ Z h.A
 .exact eY e λr r e=>h.3.C h.4 i e (i.b .C)<|j b _ Z h.A
 .refine md e λm r n e=>rv e λq d e=>eY e λr r e=>eY e λr r e=>?_;refine wpAny_Tuple<|Z6<|h.3.A h.4 i (aP e).1 (i.a _<|ae Z)<|Z6<|h.3.A h.4 i (aP e).2 (i.a _<|ae Z)<|wpAny_items_nil ?_;exact⟨by rw[ee];exact aX Z,j ⟨b.c,b.b,{b.a with heap:=b.a.1.push {cls:=.type "tuple",data:=.seq [lM "list",.type "tuple"].toArray}}⟩ _ (ck _ 0 Z<|d5 _ Z)<|h.B<|.A h.4 (eK _ _) Z Z⟩
 .exact eY e λr r e=>h.3.A h.4 i e (i.a _<|ae Z)<|j b _ Z h.A
 .exact eY e λr r e=>h.3.C h.4 i e (i.b .B)<|j b _ Z h.A
 .exact eY e λr r e=>h.3.A h.4 i e (i.a _<|ae Z)<|j b _ Z h.A
def R7(f:bo o):bo<|.l o p:=λg a b=>u5 g λn c h d q i c=>by
 have j:e2 d=true:=by cases p<;>first|exact eY (bO c).2.2 λt t t=>Z|exact md (bO c).2.2 λt t t t=>Z
 rw[mn Z,he<|show[h,d].all e2=Q by rw[jJ,jJ,(bO c).2.1,j];rfl];refine fF<|a.3.A a.4 a.1.a.a i (a.1.a.a.c _<|ae Z) ?_;refine jQ (P:=λt=>eN) Z (λb t=>⟨.machine,.inr<|.inl Z,i0 Z⟩)<|iB ?_;exact im<|f (bO c).1 a<|b.A λt b t t d k=>im<|OH d.2 (bO c).2.2 λr s l e=>bl ⟨ds,b.D λt o b=>Oq e.2.4 a.1.a.d a.1.a.b (e.B k) l o λm=>b _ _ ((d.A e).C m) lD⟩
def pz(k:fs)(b:R aS)(d:aE):Sem Bool:=s' b d λl a=>if a=Q then do let c<-xT l k (dX l k);cN<|m0 c else cN<|m0 a
def Oe{g:aE->aO->Prop}:∀{c:R aS}{e:aO},g M e->b0 a (pz a.b c M) g e:=by
 intro d
 induction d with
 |nil=>
  exact @λh b=>bl b
 |cons _ _ f=>
  exact @λh b=>by unfold pz;rw[m2];exact fF<|bl<|f b
def Od:∀{h:bQ},i7 ht h->∀{a:cG}{l:R aS}{f:aA}{b:cH}{c:af}{g:aE->aO->Prop},dN a.c h l=Q->cI a f b c->aZ (d' a.d h f c) (nk a f b c g)->b0 a (pz a.b l Q) g b.a:=by
 intro n
 induction n using bQ.C with
 |n=>
  exact @λt t t t t t t d i e=>e' d<|bl<|e.B _ i.A
 |c p h o=>
  exact @λm a t t t t g d i e=>gq d λq r d=>by
   unfold pz;rw[m2,au Z];refine fF<|fF<|m.1.2 (bO d).1 i<|aZ.A e λj e s k=>bl ?_;obtain⟨j,_⟩:=j;cases j with
   |true=>exact o m.2 (bO d).2.2 k.2<|aZ.I e k
   |false=>exact Oe<|aZ.B e _ k
def Oz:∀{c:R aC}{b:R<|aD aS},nX c b=Q->b.all (·.isSome)=Q/\b.length=c.length:=by
 intro e
 induction e with
 |nil=>
  exact @λb a=>e' a<|am Z Z
 |cons f c d=>
  exact @λb a=>zA a λg h i j a=>am ((d a).1)<|aF xk (d a).2
def Hm(a:cG)(f:aA)(b:cH)(c:af)(j:R aC)(g:R (ar×ar)->aO->Prop):R V×af->Prop:=λe=>∀d h i,c6 a f b c d e.2->Carries (c' a.a.b a.a.a) h i->c1 a.a d.c d.b ((j.map an.A).zip e.1) i->g h d.a
def Qj:∀{l:bQ},i7 ht l->∀{a:cG}{i:R aC}{j:R<|aD aS}{k:R aS}{f:aA}{b:cH}{c:af}{u:dW}{g:R (ar×ar)->aO->Prop},nX i j=Q->dN a.c l k=Q->j.length=k.length->cI a f b c->aZ (bK a.d l f c) (Hm a f b c i g)->b0 a (evalPairs<|pairTrees j k a.b u) g b.a:=by
 intro v
 induction v using bQ.C with
 |n=>
  exact @λI I i j I I I I I I n e d m h=>by revert d;refine e' e λd=>?_;obtain rfl:=Yy.1 d;exact pairTrees_nil_walk<|h.B _ _ [] m.A ds<|by rw[List.zip_nil_right];rfl
 |c o l w=>
  exact @λp a i j k f b c I g n e d m h=>by
   cases i with
   |nil=>exact a2 d<|e' n<|gq e λI I I o=>nomatch o
   |cons x i=>
   revert d;refine gq e λF k e=>zA n λI I j y z d=>?_;refine pairTrees_cons_walk<|GV<|p.1.1 (bO e).1 (m.C _)<|aZ.A h λA h G q r B=>w p.2 z (bO e).2.2 (qH d) r.2<|h.E λA h C H s t D E=>?_;refine h C _ ((bv<|.A x,q)::s) (((m.A.C _).A r).A t) ⟨lP _ _ _ _,Z,D⟩ ?_;exact lg q s Z y Z (t.B B) E
def R2(E:i7 ht p):bo<|.r o q p:=λ{a c_ f b c g} F e j=>un F λd_ e_ f_ d=>by
 have d:=rn d;haveI s:=Oz d.1;haveI t:b.a.1.1.size≠sysModules:=vn e.1.a.a e.4;haveI u:eD b.c b.b c b.a.1.1.size:=e.4.D<|eQ _;haveI v:(b.a.1.push {cls:=.type "dict",data:=.dict #[]}).get? b.a.1.1.size=Y {cls:=.type "dict",data:=.dict #[]}:=d5 _ Z;have w:c6 a f b c ⟨b.c,b.b,{b.a with heap:=b.a.1.push {cls:=.type "dict",data:=.dict #[]}}⟩ c:=e.B<|.A e.4 (eK _ _) Z Z;refine wpAny_Dict_walk (knd:=c' a.a.b a.a.a) s.1 (w5 d.2.2.2.1) (λi=>by have:=rr d.2.2.2.2.2;rw[i]at this;exact e4 this) (e0 d.2.2.1) ?_;refine Qj E d.1 d.2.1 (w5 d.2.2.2.1) w.2<|j.E λG j h H x k I y=>?_;have l:eD h.c h.b G.2 b.a.1.1.size:=k.1.D u (by show(b.a.1.push _).get? _≠ab;rw[v];nofun);refine a1 x ⟨I,qK.2<|a1 _ ⟨k.1.K u (λJ=>J) v,z5⟩,λK m L=>?_⟩;obtain⟨z,A,m⟩:=qK.1 m;haveI n:=vg y (show c1 a.a h.c h.b [] []from Z) iW;haveI C:(oO [] x).length<=1000:=by haveI B:=y.A;rw[FL,bC]at B;haveI:([]:R<|aJ×ar).length=0:=Z;exact Ut this B (w5 d.2.2.2.1) s.2 (e0 d.2.2.1) n.2
 haveI D:=(w.A k).1.G (i:={h.a with heap:=K,toks:=h.a.4+H.length}) (λr i=>by subst i;exact am (.inr<|eQ _) l) (λx_ x_ a=>a) (λr a_ b_ i=>L.extBut r a_ b_ i) Z Z;cases o with
 |false=>
  exact j ⟨_,_,_⟩ _ (e.B<|D.H (.inr<|eQ _) l A)<|cd _ _ Z (aL C t ⟨z,bF.B,m⟩)<|n.1.B<|cP.A l.b
 |true=>
  refine j ⟨_,_,_⟩ _ (e.B<|D.D_ (m:=(b.a.1.1.size,b.a.1.1.size)) (λr o=>by cases cm.1 o;exact am (.inr<|eQ _) l)<|ax _ (aL C t ⟨z,A,m⟩) n.1)<|ck _ b.a.1.1.size ?_ Z;rw[<-k.1.a.b,oB<|aY _];simp
end
section
variable{b:b4}{d:bF}{c:cj}{g:af}{a j:aO}{i:c4}{l:ar->aO->Prop}{h:da}{e:fs}{f:aA}{k:a9->Prop}
def nq(b:b4)(i:c4)(h:da)(e:fs)(k:a9->Prop)(r:R U):Prop:=
 ∀{d:bF}{c:cj}{g:af}{f:aA}{a:aO}{m:U}{n:aJ}{o:V}{p:ar}{q:Unit->aO->Prop}{l:ar->aO->Prop},m∈r->bJ b d c g h e f a.1->bf b d c g a.1->hi h m n=Q->ba b d c o p->
  (∀j,bc b d c g k a d c g j->bJ b d c g h e (f.A m o) j.1->q () j)->bh (bd b.b b.a) i (GR e n p) q l a
def v':nq b i h e (du e) m:=λj a c d f g=>a.I c d f g
def Td(c:∀a∈m,e.kindOf (h.a a)=Y .local):nq b i h e (λd=>d=e.2) m:=λf g j k l n=>g.L j k (c _ f) l n
def fq(f:aA)(b:R<|U×V):aA:=b.foldl (λf a=>f.A a.1 a.2) f
def BB:∀{c:R U}{a:R aS},ll h c a=Q->(ty a e).length=c.length/\(ty a e).findIdx? (·.1)=none:=by
 intro f
 induction f with
 |nil=>
  exact @λa b=>e' b<|am Z Z
 |cons i c g=>
  exact @λa b=>uw b λj k l m b=>by have d:=g b;refine am (aF xk d.1) ?_;show List.findIdx? _ ((M,_)::_)=ab;rw[FF,d.2];rfl
def bc.I_(f:bc b d c g n a o p q j)(k:¬es c g m)(h:a.1.get? m≠ab):j.1.get? m≠none:=by
 by_cases i:n m;.exact f.h m i h
 .refine dP (a.1.get? m) (λe=>?none) λl e=>?some
  case none=>exact a2 e h
  case some=>rw[f.c m l e k i];nofun
def De(B:∀p,k p->du e p):∀{n:R U}{o:R aS}{m:R V}{q:R ar}{f:aA}{a:aO}{r:Unit->aO->Prop},nq b i h e k n->ll h n o=Q->n.length=m.length->bt b d c m q->bJ b d c g h e f a.1->bf b d c g a.1->(∀j,bc b d c g k a d c g j->bJ b d c g h e (fq f<|n.zip m) j.1->r () j)->bh (bd b.b b.a) i (xN ((ty o e).map (·.2)) q) r l a:=by
 intro C
 induction C with
 |nil=>
  exact @λo m q f a r t u v y s w x=>by refine e' u ?_;exact bl<|x a (.B_ w) s
 |cons a_ n D=>
  exact @λo m q f a r t u v y s w x=>by
   refine uw u λb_ c_ o E F=>?_;cases m with
   |nil=>cases v
   |cons d_ m=>
    refine jq y λe_ f_ z=>?_;refine ay<|d8<|Z2<|t (.head _) s w E z.1 λg_ A G=>?_;refine D (λH=>t<|cx _ H) F (qH v) z.2 G A.a λI J K=>?_;exact x I (A.F J λp L=>s.B<|B p L) K
def K'{s:U->bT->Prop}(y:Walks b.b b.a i m q n o p s):∀(f c:U)(a:aO)(r:R ar->aO->Prop),c+f<=o->s c a.1->
 (∀t z h,h.length=f->(∀d j,h[d]?=Y j->p (c+d) j)->s (c+f) t->(∀g k,g∉n->a.1.get? g=Y k->t.get? g=Y k)->r h {a with heap:=t,toks:=z})->bh (bd b.b b.a) i (draw (.ref m) f) r l a:=by
 intro A
 induction A with
 |zero=>
  exact @λc a r x_ u v=>by exact bl<|v a.1 a.4 [] Z (λd j e=>by simp at e) u λx_ x_ x_ e=>e
 |succ f B=>
  exact @λc a r w u v=>by
   refine ay<|y.3 c a _ _ (by exact hN w) u λj a_ b_ C D E=>?_;refine ay<|d8<|B (c+1) _ _ (by exact wL w) D λF G h H I J K=>bl ?_;refine v F G (j::h) (by rw[dd,H]) (λd L e=>?_) (by rw[show c+(f+1)=c+1+f by exact wy];exact J) λg k x e=>K g k x<|E g k x e;cases d with
   |zero=>simp at e;subst e;exact C
   |succ d=>rw[show c+(d+1)=c+1+d by exact wy];exact I d L<|e
def TJ(u:i.1=ab)(f:a.1.IsList n m)
 (w:∀p v,(∀c d,a.1.get? c=Y d->p.get? c=Y d)->o m.1 {a with heap:=p,toks:=v}):bh (bd b.b b.a) i (GU (.ref n) m.size ab) o l a:=by
 haveI y:n≠a.1.1.size:=by obtain⟨d,x,_⟩:=f;exact ed<|dm x
 have q:=GL (prog:=b.b) (w:=b.a) u a.1.1.size n y m;refine ay ?_;refine ay<|G7 f.typeIs slot_list_iter.lookup ?_;refine bl ?_;refine ay<|d8<|G4 f ?_;have r:∀c d,a.1.get? c=Y d->c∉[a.1.1.size]:=λc d e z=>by cases cm.1 z;exact a2 (dm e)<|hT _
 refine ay<|d8<|K' q m.size 0 _ _ ((aj Z:N [_] (.A (0+X) X) [])) ⟨⟨_,d5 _ Z,Z,Z⟩,f.push _⟩ λH I g s A B C=>?_;haveI D:g=m.1:=by
  apply List.ext_getElem?;intro h;by_cases j:h<g.length;.obtain⟨k,t⟩:∃k,g[h]?=Y k:=⟨g[h],by simp[j]⟩;haveI:=A h k t;rw[t,Array.getElem?_toList];rw[dG]at this;exact this.symm
  .rw[Yr<|(aj Z:N [_,_,_] (.A X S) [.C X O,.D<|.B S X]) s j,Yr<|by rw[qu];exact(a5 1011 Z:N [_,_,_] (.A X S) [.C O X,.D<|.B S O]) s j]
 subst D;rw[ao<|by simp];refine ay<|d8<|q.4 _ _ _ (by simpa using B) λE F G=>?_;exact bl<|w E F λc d e=>G c d (r c d e)<|C c d (r c d e)<|dV _ e
def Dz(v:i.1=ab)(w:bf b d c g a.1)(h:ba b d c n o)(y:mL n=Y m)
 (x:∀f q e,bt b d c m e->(∀j k,a.1.get? j=Y k->f.get? j=Y k)->p e {a with heap:=f,toks:=q}):bh (bd b.b b.a) i (GU o m.length ab) p l a:=by
 refine cL y (λr=>?_) λr=>?_;.rw[g4 r]at h;refine fl h λz e s=>?_;rw[<-s.2.A,show e.length=e.toArray.size by simp];exact TJ v (w.B s.1).A λf q A=>x f q e s.2 A
 .rw[k0 r]at h;refine la h λz e t=>?_;rw[<-t.2.A,show e.length=e.toArray.size by simp];refine wpAny_unpackItems_tuple v (mU (w.C t.1).A) λf B=>x f a.4 e t.2 λj k u=>B j k (λC=>?_) u;rw[C]at u;exact a2 (dm u)<|hT _
def ph(a:dY (.B m) n f=Y o):∃b,mL n=Y b/\m.length=b.length/\o=fq f (m.zip b):=
 cv a λb c a=>dA a λd a=>cW b c d<|(cZ a).symm
def wf(a:gV h (.B m) n=Q):∃b c d,n=.Tuple b c d/\ll h m b=Q/\m.Nodup:=md a λb c d a=>uP b c d Z ((aP a).1)<|e0 (aP a).2
def wc(H:i.1=ab)(A:nq b i h e k<|hd m)(v:∀s,k s->du e s)(t:bJ b d c g h e f a.1)(w:bf b d c g a.1)(B:ba b d c n o)(u:gV h m p=Q)
 (C:dY m n f=Y q)(D:∀j,bc b d c g k a d c g j->bJ b d c g h e q j.1->r () j):bh (bd b.b b.a) i (i1 p e o) r l a:=by
 cases m with
 |A g_=>
  have I:=ch C;subst I;exact eY u λx_ x_ u=>Z2<|A (.head _) t w u B D
 |B h_=>
  refine iK (wf u) λi_ j_ k_ x E=>?_;subst x;refine jA (ph C) λl_ J F x=>?_;subst x;haveI G:=BB (e:=e) E.1;refine ay<|lR ?_;unfold unpack;rw[G.1,G.2,F];refine ay<|d8<|Dz H w B J λK L m_ a_ b_=>?_;haveI y:bc b d c g cE a d c g {a with heap:=K,toks:=L}:=.A w b_ Z Z;haveI c_:=y.I λs z=>(t.a s<|v s z).2;refine De v A E.1 F a_ (t.F y) y.a λd_ e_ f_=>D d_ (c_.F e_ λs z=>t.B<|v s z) f_
def TP(d:m≠n):(f.A m o).A n p=(f.A n p).A m o:=by
 funext a
 show(if a=n then Y p else if a=m then Y o else f a)=(if a=m then Y o else if a=n then Y p else f a);by_cases c:a=n;.have b:a≠m:=λe=>d<|e.symm.trans c;rw[au c,ao b,au c]
 .rw[ao c];by_cases b:a=m
  .rw[au b,au b]
  .rw[ao b,ao b,ao c]
def TK:∀{b:R<|U×V}{f c:aA},(∀a,a∉b.map (·.1)->f a=c a)->fq f b=fq c b:=by
 intro h
 induction h with
 |nil=>
  exact @λf c g=>qX λa=>g a<|by simp
 |cons d b i=>
  exact @λf c g=>by
   show fq (f.A d.1 d.2) b=fq (c.A d.1 d.2) b;refine i λa j=>?_;unfold aA.A;by_cases e:a=d.1;.rw[au e,au e]
   .rw[ao e,ao e];exact g a<|by simp only[cl,bj,qY];exact⟨e,j⟩
def Jy(c:dY m n f=Y p)(d:∀a,a∉hd m->f a=o a):dY m n o=Y p:=by
 cases m with
 |A i=>
  have j:=ch c;subst j;show Y _=Y _
  congr 1
  funext a
  unfold aA.A;by_cases b:a=i;.rw[au b,au b]
  .rw[ao b,ao b];exact(d a<|by simpa [hd]using b).symm
 |B e=>
  refine jA (ph c) λg k h l=>?_;subst l;haveI b:fq f (e.zip g)=fq o (e.zip g):=TK λa q=>d a λr=>q<|by rw[ti<|Ev h];exact r
  rw[b];show(mL n).bind _=_;rw[k];exact au h
end
section
variable{c:b4}{a:bR}{e:bF}{f:cj}{d:af}{b k:aO}{h:c4}{i:ar->aO->Prop}{j:da}{g:fs}{m n:aA}{l:a9->Prop}
def ir(e:bF)(f:cj)(d:af)(g:fs)(b c:R a9):Prop:=(∀a∈c,eD e f d a/\¬du g a)/\∀a∈b,e a≠ab\/(eD e f d a/\¬du g a)
def ir.B(m:ir e f d g o p)(x:∀u,l u->du g u)(w:∀h∈p,h∈o)(n:bc c e f d l b q r s k)(v:∀h∈o,b.1.get? h≠ab):ir q r s g o p:=by
 refine⟨λh i=>⟨n.D (m.1 h i).1<|v h<|w h i,(m.1 h i).2⟩,λh i=>?_⟩;refine b1 (m.2 h i) (λj=>?_) λj=>?_
 .refine .inl ?_;refine dP (e h) (λt=>?none) λa t=>?some
  case none=>exact a2 t j
  case some=>rw[n.b.a h a t];nofun
 .exact .inr ⟨n.D j.1<|v h i,j.2⟩
def ir.A(u:ir e f d g o p)(v:∀n,l n->du g n)(w:bf c e f d b.1)(m:bc c e f d l b q r s k):∀h∈o,∀a,b.1.get? h=Y a->k.1.get? h=Y a:=by
 intro h x a t;refine b1 (u.2 h x) (λi=>?_) λi=>?_
 .refine dP (e h) (λj=>?none) λy j=>?some
  case none=>exact a2 j i
  case some=>
   have:=w.a h y j;rw[t]at this;cases this;exact m.a.a h a<|m.b.a h a j
 .exact m.c h a t i.1.a λz=>i.2<|v h z
structure e7(h:b4)(r:c4)(J:bF)(K:cj)(v:a9)(y z:R a9)(E:R V)(n:U->bT->Prop)(L:aE):Prop where
 b:∀i∈z,i∈y
 a:∀j w x,n j w->(∀i∈y,∀k,w.get? i=Y k->x.get? i=Y k)->n j x
 c:∀j w,n j w->∀i∈y,w.get? i≠ab
 f:∀j(g:aO)(l:ar->aO->Prop)(o:ar->aO->Prop),n j g.1->l (.ref v) g->bh (bd h.b h.a) r (pyIter<|.ref v) l o g
 d:∀(g:aO)(l:aD ar->aO->Prop)(o:ar->aO->Prop),n E.length g.1->(∀x a_,(∀i k,i∉z->g.1.get? i=Y k->x.get? i=Y k)->l ab {g with heap:=x,toks:=a_})->bh (bd h.b h.a) r (nb<|.ref v) l o g
 e:∀{j:U}{F:V}{C:aS}{A:fO}{B:da}{s:fs}{G H:aA}{t:bF}{p:cj}{u:af}{g:aO}{D:a9->Prop}{l:aO->Prop}{o:ar->aO->Prop},
  E[j]?=Y F->dY A F G=Y H->gV B A C=Q->(L=Q->∃b_,A=.B b_)->cP J t K p->n j g.1->bJ h t p u B s G g.1->bf h t p u g.1->ir t p u s y z->nq h r B s D (hd A)->(∀m,D m->du s m)->
  (∀q,bJ h t p u B s H q.1->bf h t p u q.1->n (j+1) q.1->(∀m k,m∉z->¬D m->g.1.get? m=Y k->(¬es p u m)->q.1.get? m=Y k)->q.5=g.5->q.2=g.2->l q)->
  bh (bd h.b h.a) r (nb<|.ref v) (λc_ d_=>match c_ with|none=>ky|some I=>bh (bd h.b h.a) r (xU C (.ref v) I) (λx_ e_=>bh (bd h.b h.a) r (i1 C s I) (λx_ f_=>l f_) o e_) o d_) o g
def AC:R String:=["enumerate","zip","dict_itemiterator","dict_reverseitemiterator","odict_iterator","itertools.zip_longest","itertools.pairwise"]
def OW(d:b.1.get? p=Y o)(e:o.1=.type q)(f:AC.contains q=M)(a:r () b):bh (bd c.b c.a) h (xU s (.ref p) t) r i b:=by
 cases s<;>first|exact bl a|skip
 all_goals
  cases t<;>first|exact bl a|skip
  refine ay<|wpAny_load d ?_;rw[e];cases o.3<;>first|exact bl a|skip
  dsimp only;rw[ao];.exact bl a
  .rw[ez,not_and];intro g;exact a2 (g.symm.trans f)<|ae Z
def e7.A(d_:h.1=ab){z:U->bT->Prop}(v:Walks c.b c.a h p q r o.length s z)(e_:∀k B C,s k B->o[k]?=Y C->ba c e f C B)
 (f_:∀k w,z k w->∃D E,w.get? p=Y D/\D.1=.type E/\AC.contains E=M)(h_:∀k w,z k w->∀g_∈q,w.get? g_≠ab):e7 c h e f p q r o z false:=by
 refine⟨v.1,v.2,h_,v.5,v.4,?_⟩;intro k C A_ B_ j g m n I J d b l C_ i K i_ j_ _ k_ l_ m_ n_ F o_ L p_;haveI q_:k<o.length:=(fe.1 K).1;refine v.3 k b _ _ q_ l_ λB a_ D_ r_ b_ G=>?_;have c_:bf c I J d a_:=n_.G (λt u=>(F.1 t u).1) λt a u x=>G t a u x;haveI s_:bJ c I J d j g m a_:=m_.D λt H a x=>G t a (λu=>(F.1 t u).2 H) x;refine fA (f_ _ _ b_) λD E t_ u_ v_=>?_;refine OW t_ u_ v_ ?_;refine wc d_ o_ L s_ c_ ((e_ k B C r_ K).A k_) j_ i_ λw_ y y_=>?_;refine p_ w_ y_ y.a (v.2 _ _ _ b_<|F.A L c_ y) (λt a u H x z_=>y.c t a (G t a u x) z_ H) y.f y.e
def e7.C(s_:h.1=ab){J:U->bT->Prop}(w:WalksT c.b c.a h r p q o.length s J t)
 (t_:∀u z D,s u z->o[u]?=Y D->∃K,D=.F K/\bt c e f K z.1)(u_:∀u g_,J u g_->∀A∈p,g_.get? A≠ab):e7 c h e f r p q o J true:=by
 refine⟨w.1,w.2,u_,w.7,w.6,?_⟩;intro u D q__ r__ j g m n E F d b l s__ i h_ v_ w_ y_ z_ A_ B_ C_ L D_ G E_;refine a8 (y_ Z) λF_ a_=>?_;subst a_;refine iK (wf w_) λG_ H_ I_ b_ J_=>?_;subst b_;haveI i_:=J_.1;have K_:u<o.length:=(fe.1 h_).1;refine w.3 u b _ _ K_ A_ λH z t__ j_ L_ x_ a__ k_ b__=>?_;refine w.4 G_ H_ I_ u H _ _ _ k_ λB c__ l_=>?_;have c_:∀k a,k∉q->b.1.get? k=Y a->B.get? k=Y a:=λk a x v=>l_ k a x<|b__ k a x v;have m_:bf c E F d B:=C_.G (λk x=>(L.1 k x).1) c_;have d_:bJ c E F d j g m B:=B_.D λk y a v=>c_ k a (λx=>(L.1 k x).2 y) v;refine cg (t_ u z D L_ h_) λK a_ n_=>?_;subst a_;refine jA (ph v_) λu__ d__ o_ b_=>?_;subst b_;have e__:=ch d__;subst e__;refine jz (BB (e:=g) i_) λf__ g__=>?_;haveI i__:B.IsTuple H z:=by obtain⟨p_,e_,h__⟩:=a__;exact⟨p_,l_ H p_ (w.5 u H _ k_) e_,h__⟩
 haveI j__:=n_.B z_;haveI k__:F_.length=z.size:=by rw[o_,<-n_.A,qu]
 refine wpAny_assign_Tuple s_ i__ (f__.trans k__) g__ λq_ l__=>?_;haveI n__:∀A a,B.get? A=Y a->q_.get? A=Y a:=λA a v=>l__ A a (λm__=>by rw[m__]at v;exact a2 (dm v)<|hT _) v;have f_:bc c E F d cE {b with heap:=B,toks:=j_} E F d {b with heap:=q_,toks:=j_}:=.A m_ n__ Z Z;refine De G D_ i_ o_ j__ (bJ.F d_ f_) f_.a λo__ r_ p__=>?_;have I:=(f_.I λk y=>(d_.a k<|G k y).2).F r_ λk y=>bJ.B d_<|G k y;exact E_ o__ p__ r_.a (w.2 _ _ _ c__<|L.A G m_ I) (λk a x y v e_=>I.c k a (c_ k a x v) e_ y) I.f I.e
end
structure lY(q:b4)(r:c4)(i:cj)(j:af)(k:aO)(g:bF)(h:cj)(l:af)(s:aO)(t:a9)(m n:R a9)(o:R V)(p:U->bT->Prop)(u:aE):Prop where
 a:e7 q r g h t m n o p u
 c:p 0 s.1
 b:∀f∈n,eD g h l f/\fM i j k f
 e:∀f∈m,g f≠ab\/(eD g h l f/\fM i j k f)
 d:o.length<=1000000
def Hl(b:cG)(g:aA)(c:cH)(e:af)(h:aE)(i:ar->aO->Prop):R V×af->Prop:=λd=>∀a f j k l,c6 b g c e a d.2->lY b.a b.e c.b e c.a a.c a.b d.2 a.a f j k d.1 l h->i (.ref f) a.a
def iv(b:jY):Prop:=∀{a:cG}{f:aS}{c:aA}{d:cH}{e:af}{g:ar->aO->Prop},k6 a.c b f=Q->cI a c d e->aZ (ei a.d b c e) (Hl a c d e (u4 b) g)->b0 a (dX f a.b) (λh i=>b0 a (pyIter h) g i) d.a
section
variable{c:b4}{o:U}{f j:bF}{e k:cj}{d m:af}{a h:aO}{l:c4}{p:ar->aO->Prop}{n:aA}{g i b:M.bk}
def mY(g:bt c f e q r){a:U}(h:q[a]?=Y s)(i:r[a]?=Y t):ba c f e s t:=by refine a8 (g.C h) λk b=>?_;haveI d:=b.1;rw[i]at d;have j:=ch d;subst j;exact b.2
def lY.A{p v:R a9}{y:U->bT->Prop}(o:lY c l e d a j k m h r p v s y t)(w:bJ c f e d u q n a.1):ir j k m q p v:=by
 have x:∀b,fM e d a b->¬du q b:=λb g i=>by
  refine b1 g (λg=>?_) λg=>?_;.exact(w.a b i).2 g
  .exact w.B i g
 refine⟨λb i=>⟨(o.b b i).1,x b (o.b b i).2⟩,λb i=>?_⟩;refine b1 (o.e b i) (λg=>?_) λg=>?_;.exact .inl g
 .exact .inr ⟨g.1,x b g.2⟩
def bc.C(g:bc c f e d cE a j k m h){b:a9}(i:h.1.get? b=ab):fM e d a b:=g.E (λn l=>l.elim) i
def OY(r:l.1=ab)(x:bf c f e d a.1){i:a9}{j:R ar}(y:gj f i j)(s:bt c f e q j):∃t,e7 c l f e a.1.1.size [a.1.1.size,i] [a.1.1.size] q t M/\
 t 0 (a.1.push {cls:=.type "list_iterator",data:=.fields #[.ref i,.int 0 0]}):=by
 have u:=(x.B y).A;haveI A:i≠a.1.1.size:=by obtain⟨E,z,_⟩:=u;exact ed<|dm z
 haveI v:=GL (prog:=c.b) (w:=c.a) r a.1.1.size i A j.toArray;haveI g:j.toArray.size=q.length:=by rw[cY];exact s.A
 rw[g]at v;refine ax _ (e7.A r v (λw F G m B=>mY s B<|by simpa using m) (λw m k=>?_) λw m k b n=>?_) ⟨(a1 _ ⟨d5 _ Z,Z,Z⟩),u.push _⟩;.refine fj k λo H=>?_;obtain⟨p,h,C,_⟩:=o;exact cd p _ h C<|ae Z
 .rcases bj.1 n with rfl|n
  .refine fj k λo H=>?_;obtain⟨p,h,_⟩:=o;rw[h];nofun
  .cases cm.1 n;refine fj k λH D=>?_;obtain⟨p,h,_⟩:=D;rw[h];nofun
def TE(r:l.1=ab)(x:bf c f e d a.1){i:a9}{j:R ar}(y:hW f i j)(s:bt c f e q j):∃t,e7 c l f e a.1.1.size [a.1.1.size,i] [a.1.1.size] q t M/\
 t 0 (a.1.push {cls:=.type "tuple_iterator",data:=.fields #[.ref i,.int 0 0]}):=by
 have u:=mU (x.C y).A;haveI A:i≠a.1.1.size:=by obtain⟨E,z,_⟩:=u;exact ed<|dm z
 haveI v:=Walks.tuple (prog:=c.b) (w:=c.a) r a.1.1.size i A j.toArray;haveI g:j.toArray.size=q.length:=by rw[cY];exact s.A
 rw[g]at v;refine ax _ (e7.A r v (λw F G m B=>mY s B<|by simpa using m) (λw m k=>?_) λw m k b n=>?_) ⟨(a1 _ ⟨d5 _ Z,Z,Z⟩),u.push _⟩;.refine fj k λo H=>?_;obtain⟨p,h,C,_⟩:=o;exact cd p _ h C<|ae Z
 .rcases bj.1 n with rfl|n
  .refine fj k λo H=>?_;obtain⟨p,h,_⟩:=o;rw[h];nofun
  .cases cm.1 n;refine fj k λH D=>?_;obtain⟨p,h,_⟩:=D;rw[h];nofun
def rL(g:bc c f e d cE a j k m h){i:U->bT->Prop}(u:e7 c l j k h.1.1.size q [h.1.1.size] r i M)(v:i 0<|h.1.push s)
 (w:∀b∈q,b=h.1.1.size\/j b≠ab)(x:r.length<=1000000):
 bc c f e d cE a j k m {h with heap:=h.1.push s,toks:=t}/\lY c l e d a j k m {h with heap:=h.1.push s,toks:=t} h.1.1.size q [h.1.1.size] r i false:=by
 have o:eD j k m h.1.1.size:=g.a.D<|eQ _;have p:fM e d a h.1.1.size:=g.C<|eQ _;refine⟨g.B<|.A g.a (eK _ _) Z Z,u,v,λb n=>by cases cm.1 n;exact⟨o,p⟩,λb n=>?_,x⟩;rcases w b n with rfl|y;.exact .inr ⟨o,p⟩
 .exact .inl y
def Ss(A:l.1=ab)(t:bc c f e d cE a j k m h){B:V}(w:ba c j k B q)(I:mL B=Y r)
 (D:∀x C J K y,bc c f e d cE a j k m x->lY c l e d a j k m x C J K r y M->s (.ref C) x):bh (bd c.b c.a) l (pyIter q) s p h:=by
 refine cL I (λz=>?_) λz=>?_
 .rw[g4 z]at w;refine fl w λi L u=>?_;refine a8 (OY A t.a u.1 u.2) λy E=>?_;refine G4 (t.a.B u.1).A ?_;haveI F:=rL (t:=h.4) t E.1 E.2 (λb n=>by
   rcases bj.1 n with rfl|n;.exact .inl Z
   .cases cm.1 n;obtain⟨_,o,g⟩:=u.1;exact .inr<|by rw[g];nofun)<|by rw[<-u.2.A];exact u.1.1
  exact D _ _ _ _ _ F.1 F.2
 .rw[k0 z]at w;refine la w λi L v=>?_;refine a8 (TE A t.a v.1 v.2) λy G=>?_;refine G5 (mU (t.a.C v.1).A) ?_;haveI H:=rL (t:=h.4) t G.1 G.2 (λb n=>by
   rcases bj.1 n with rfl|n;.exact .inl Z
   .cases cm.1 n;obtain⟨_,o,g⟩:=v.1;exact .inr<|by rw[g];nofun)<|by rw[<-v.2.A];exact v.1.1
  exact D _ _ _ _ _ H.1 H.2
def CY(d:bo g):iv<|.A g:=λe b a=>d e b<|a.A λr a o p c f=>a.D λq g a=>Ss c.2.2.a c.1 f g λh i j k l m n=>a ⟨_,_,h⟩ i j k l (b.B m) n
def Q1(k:l.1=ab)(g:U):e7 c l f e q [q] [q] ((dF g).map λo:U=>V.A (o:ah)) (λd a=>IsRangeIter a q (0+(d:U)*1) ((g:ah)-(d:U)) 1) false:=by
 haveI m:=Walks.range (prog:=c.b) (w:=c.a) k q 0 1 g;refine e7.A k (by simpa using m) (λd t u a h=>?_) (λd a i=>cd _ _ i Z<|ae Z) (λd a i b n=>by cases cm.1 n;rw[show a.get? q=_ from i];nofun);refine a8 a λp r=>?_;subst r;rw[tg]at h;clear a;obtain⟨v,j,rfl⟩:=oG.1 h;rw[Yt (by haveI:=(fe.1 j).1;simpa using this)]at j;clear h;have s:=ch j;subst s
 first|exact(a1 p Z)|exact⟨t,rfl⟩
def CX(q:bo g):iv<|.B g:=λ{j r n h d z} s f c=>r1 s λA i t B u i=>by
 rw[mn Z,he<|show[t].all e2=Q by rw[jJ,(aP i).2];rfl];refine fF<|f.3.A f.4 f.1.a.a u (f.1.a.a.a _<|ae Z) ?_;refine jQ (P:=λD=>eN) Z (λc D=>⟨.machine,.inr<|.inl Z,i0 Z⟩)<|iB ?_;refine im<|q (aP i).1 f<|c.A λv c a r k l=>bl ⟨ds,aZ.C c λe g c=>aZ.G c λm c=>?_⟩;rw[hz g]at l;refine cD l λo=>?_;refine call_range_1 ?_;haveI w:bc j.a h.c h.b d cE h.a a.c a.b v.2 {a.a with heap:=a.a.1.push {cls:=.type "range",data:=.fields #[.int 0 a.a.4,.int e o,.int 1<|a.a.4+1]},toks:=a.a.4+1+1}:=k.1.B<|.A k.2.4 (eK _ _) Z Z;refine wpAny_pyIter_range (IsRange.new _ _ _ _ _ _ _) (small_one (ae Z) (ae Z) (by omega)<|by omega) ?_;haveI x:=Q1 (c:=j.a) (f:=a.c) (e:=a.b) f.2.a (q:=(a.a.1.push {cls:=.type "range",data:=.fields #[.int 0 a.a.4,.int e o,.int 1<|a.a.4+1]}).1.size) e.toNat;haveI p:=rL (s:={cls:=.type "range_iterator",data:=.fields #[dr 0,dr<|Zd 0 e 1,dr 1]}) (t:=a.a.4+1+1) w x (by
  haveI g:Zd 0 e 1=e:=by rw[rangeSize_one];split<;>omega
  rw[g];rw[show(0:ah)+((0:U):ah)*1=0 by decide,show((e.toNat:U):ah)-((0:U):ah)=e by exact Uu m g];exact d5 _ Z) (λb y=>.inl<|cm.1 y)<|by rw[bC,jK];exact Uv m
 exact c.B ⟨_,_,_⟩ _ _ _ _ (f.B p.1) p.2
end
section
variable{d:bR}{f:U}{g:af}{e:aO}{h:aA}{b c a:M.bk}
def vG(c a:R V):(eJ c a).length=b3 c.length a.length:=by unfold eJ;rw[bC,FL]
def vF{c a:R V}{e:U}(f:(eJ c a)[e]?=Y i):∃b d,c[e]?=Y b/\a[e]?=Y d/\i=.F [b,d]:=by unfold eJ at f;rw[tg]at f;obtain⟨⟨b,d⟩,g,rfl⟩:=oG.1 f;obtain⟨h,j⟩:=FG.1 g;exact cd b d h j Z
def Q0{d c:U}(a:((dF d).map λf:U=>V.A (f:ah))[c]?=Y i):i=.A c:=by rw[tg]at a;obtain⟨g,b,rfl⟩:=oG.1 a;rw[Yt (by haveI:=(fe.1 b).1;simpa using this)]at b;clear a;have e:=ch b;subst e;rfl
def Ao(b:bc j s m g cE n i k o e){h:U->bT->Prop}(y:e7 j t i k u p q r h v)(z:h 0 l)(A:∀a d,e.1.get? a=Y d->l.get? a=Y d)
 (x:∀a∈q,e.1.get? a=ab)(B:∀a∈p,e.1.get? a=ab\/i a≠ab)(C:r.length<=1000000):
 bc j s m g cE n i k o {e with heap:=l,toks:=w}/\lY j t m g n i k o {e with heap:=l,toks:=w} u p q r h v:=by
 refine⟨b.B<|.A b.a A Z Z,y,z,λa c=>⟨b.a.D<|x a c,b.C<|x a c⟩,λa c=>?_,C⟩;refine b1 (B a c) (λf=>?_) λf=>?_;.exact .inr ⟨b.a.D f,b.C f⟩
 .exact .inl f
def hD(a:bT):a.get? (a.1.size+i)=none:=by
 refine dP (a.get?<|a.1.size+i) (λb=>?none) λd b=>?some
 case none=>rfl
 case some=>exact a2 (dm b)<|xj.2<|cU _ _
def CW(E:bo b):iv<|.C b:=λ{q F h f_ g g_} G e i=>r1 G λh_ n r i_ H n=>by
 rw[mn Z,he<|show[r].all e2=Q by rw[jJ,(aP n).2];rfl];refine fF<|e.3.A e.4 e.1.a.a H (e.1.a.a.a _<|by decide) ?_;refine jQ (P:=λx_=>eN) Z (λi x_=>⟨.machine,.inr<|.inl Z,i0 Z⟩)<|iB ?_;refine im<|E (aP n).1 e<|i.A λj_ i l F o m=>bl ⟨ds,aZ.D i λs b i=>?_⟩;rw[g4 b]at m;refine fl m λc t k=>?_;have p:=(o.2.4.B k.1).A;have u:c<l.a.1.1.size:=by obtain⟨_,b,_⟩:=p;exact dm b
 refine call_enumerate_list p λk_ v I w x=>wpAny_pyIter_enum v ?_;haveI y:=WalksT.enumerate (prog:=q.a.b) (w:=q.a.a) e.2.a (l.a.1.1.size+1) l.a.1.1.size c (jL<|eV _) (ed<|il u) (ed u) t.toArray;have z:t.toArray.size=(eJ ((dF s.length).map λf:U=>V.A (f:ah)) s).length:=by rw[vG,bC,jK,Nat.min_self,cY,k.2.A]
 rw[z]at y;have e_:=e7.C e.2.a y (λe l_ r J A=>by
  obtain⟨B,C,m,rfl⟩:=J;refine fA (vF A) λo m_ K w L=>?_;subst L;clear A;cases Q0 K;exact⟨_,Z,.int e B,[C],Z,⟨B,Z⟩,C,[],Z,mY k.2 w<|by simpa using m,Z⟩) (λe i a_ a j=>by
  obtain⟨⟨n_,b_⟩,⟨o_,c_,_⟩,⟨p_,d_,_⟩⟩:=a_;simp only[bj,ep,fL]at j;rcases j with rfl|rfl|rfl;.rw[show i.get? _=_ from b_];nofun
  .rw[c_];nofun
  .rw[d_];nofun)
 haveI D:=Ao (w:=l.a.4) o.1 e_ ⟨⟨_,v⟩,I,p.at λd b=>x _ d b⟩ x (λa j=>by
  simp only[bj,ep,fL]at j;rcases j with rfl|rfl;.exact hD _
  .exact eQ _) (λa j=>by
  simp only[bj,ep,fL]at j;rcases j with rfl|rfl|rfl;.exact .inl (hD _)
  .exact .inl (eQ _)
  .obtain⟨_,f,b⟩:=k.1;exact .inr<|by rw[b];nofun)<|by rw[<-z,cY];exact k.1.1
 exact i ⟨_,_,_⟩ _ _ _ _ (e.B D.1) D.2
end
section
variable{b:iZ}{c:eC}{d:c4}{e:ar->aO->Prop}{a:aO}
def PR(n:a.1.IsTupleIter f g h)(p:a.1.IsTuple g j)(q:j[h]?=Y i)
 (r:∀o,o.IsTupleIter f g (h+1)->xy f a.1 o->k i {a with heap:=o}):bh (bd b c) d (Ze<|.ref f) k e a:=by
 obtain⟨v,m,s,l⟩:=id n;obtain⟨w,t,_,x,u⟩:=p;refine ay<|lQ n.typeIs xw<|kI xw n.typeIs Zl ?_<|Zi _;show bh _ _ (qR (.ref f) 0>>=_) _ _ a;refine ay<|gi m l Z ?_;refine ay<|gi m l Z ?_;refine ay<|i5 t u ?_;simp only[qB,q];refine ay<|Ã m l (by simp)<|bl ⟨i,Z,bl<|r _ ?_<|Zw ..⟩;exact⟨_,qL _ m<|Obj.isFreed_of_fields<|Zy l _,(Obj.cls_mapFields ..).trans s,by rw[Zy l];simp[dr]⟩
def PQ(q:d.1=ab)(k:a.1.IsTupleIter f g h)(r:a.1.IsTuple g i)(s:i[h]?=ab)
 (t:∀l p,Heap.ExtBut f a.1 l->(∃m,bD (l.get? p=Y m)<|m.1=.type "StopIteration")->e (.ref p) {a with heap:=l}):bh (bd b c) d (Ze<|.ref f) j e a:=by
 obtain⟨m,n,w,o⟩:=id k;obtain⟨x,u,_,y,v⟩:=r;refine ay<|lQ k.typeIs xw<|kI xw k.typeIs Zl ?_<|Zi _;show bh _ _ (qR (.ref f) 0>>=_) _ _ a;refine ay<|gi n o Z ?_;refine ay<|gi n o Z ?_;refine ay<|i5 u v ?_;simp only[qB,s];refine ay<|qW<|ay<|Ã n o (by simp) ?_;refine ay ?_;simp only[newExc,newTuple];refine ay (G1 ?_<|by size_fits);refine ay<|G3 (by first|rfl|(simp only[firstArgMember];rfl)) ?_;refine G1 ?_ (by size_fits);refine wpAny_raiseNew_none q ?_;exact t _ _ (((Zw ..).extBut.push _).push _) ⟨_,d5 _ Z,Z⟩
def zS(q:d.1=ab)(g h:a9)(r:h≠g)(j:dk ar):
 eM b c d g [g,h] j.size (λi s=>j[i]?=Y s) (λi k=>k.IsTupleIter g h i/\k.IsTuple h j)where
 live:=λy y f=>f.1.imp λl k=>k.1
 frame:=λy y y f n=>⟨f.1.at λl m=>n g (by simp) l m,f.2.at λl m=>n h (by simp) l m⟩
 item:=λi a t e o f u=>PR f.1 f.2 (i:=j[i]) (by simp[o]) λv w p=>u _ v a.4 (by simp[o]) ⟨w,f.2.extBut p.extBut r⟩ p
 done:=λa t e f x=>PQ q f.1 f.2 (by simp) x
structure h0(n r o p q:a9)(s t:R a9):Prop where
 e:r≠n
 c:o≠n
 d:p≠n
 h:q≠n
 i:r≠o
 g:r≠p
 f:r≠q
 j:o≠p
 k:o≠q
 l:p≠q
 b:∀m∈s,m≠n/\m≠o/\m≠q
 a:∀m∈t,m≠n/\m≠o/\m≠p
def Fn{l_ m_:U->ar->Prop}{n_:ar->aO->Prop}(w:h0 h j g k l o p)
 (E:eM b c d k o q l_ m)(F:eM b c d l p r m_ n)(G:gg a.1 h j g .none)(z_:dL a.1 j (.ref k)<|.ref l)(A_:dL a.1 g s f)(B_:m i a.1)(C_:n i a.1)(D_:i<q)(E_:i<r)
 (G_:∀(C:bT)(F_:U)(A:a9)(z B:ar),l_ i z->m_ i B->gg C h j g (dr A)->dL C g z B->m (i+1) C->n (i+1) C->dL C A z B->a.1.1.size<=A->A≠h/\A≠g/\A≠k/\A≠l->
  (∀t u,t≠h->t≠g->t≠k->t≠l->a.1.get? t=Y u->C.get? t=Y u)->n_ (.ref A) {a with heap:=C,toks:=F_}):
 bh (bd b c) d (Builtin.«zip.__next__» ⟨[.ref h],[]⟩) (λH_ I_=>∃o_,bD (H_=.done (.ret o_))<|n_ o_ I_) e a:=by
 show bh _ _ (qR (.ref h) 2>>=_) _ _ _;refine ay<|gi G Z Z ?_;refine ay<|gi G Z Z ?_;refine ay<|i5 z_ Z ?_;refine ay ?_;refine ay<|gi G Z Z<|bl ?_;simp only[oT];refine ay<|qW ?_;refine ay<|gi G Z Z ?_;refine ay<|oQ G (by simp) λp_ e_ H=>?_;replace e_:gg p_ h j g .ellipsis:=e_;refine ay ?_;simp only[YL,YM,m2,tf];refine ay<|ay<|x2 ?_;refine ay<|E.3 i {a with heap:=p_} _ _ D_ (E.2 _ _ _ B_ λf y u v=>H.extBut _ _ (w.b f y).1 v) λz J_ K_ L_ a__ I=>bl ?_;haveI q_:dL J_ g s f:=I.extBut _ _ w.j<|H.extBut _ _ w.c A_;refine ay<|i5 q_ Z ?_;refine ay<|G9 q_ λr_ f_ J=>?_;replace f_:dL r_ g z f:=f_;refine ay<|x1<|bl ?_;refine ay<|ay<|x2 ?_;refine ay<|F.3 i {a with heap:=r_,toks:=K_} _ _ E_ (F.2 _ _ _ C_ λf y u v=>J.extBut _ _ (w.a f y).2.1<|I.extBut _ _ (w.a f y).2.2<|H.extBut _ _ (w.a f y).1 v) λB b__ c__ d__ e__ K=>bl ?_;haveI s_:dL b__ g z f:=K.extBut _ _ w.k f_;refine ay<|i5 s_ Z ?_;refine ay<|G9 s_ λx L a_=>?_;replace L:dL x g z B:=L;refine ay<|x1<|bl<|bl ?_;refine ay<|i5 L Z ?_;refine ay<|G2 ?_;haveI f__:x.1.size=a.1.1.size:=by rw[a_.1,K.1,J.1,I.1,H.1]
 have t_:gg x h j g .ellipsis:=a_.extBut _ _ w.c.symm<|K.extBut _ _ w.h.symm<|J.extBut _ _ w.c.symm<|I.extBut _ _ w.d.symm e_;have g__:∀t u,t≠h->t≠g->t≠k->t≠l->a.1.get? t=Y u->x.get? t=Y u:=λt u D b_ g_ h_ v=>
  a_.extBut _ _ b_ (K.extBut _ _ h_<|J.extBut _ _ b_<|I.extBut _ _ g_<|H.extBut _ _ D v)
 have u_:m (i+1) x:=E.2 _ _ _ a__ λf y u v=>a_.extBut _ _ (w.b f y).2.1<|K.extBut _ _ (w.b f y).2.2<|J.extBut _ _ (w.b f y).2.1 v;have v_:n (i+1) x:=F.2 _ _ _ e__ λf y u v=>a_.extBut _ _ (w.a f y).2.1 v;have i_:h<x.1.size:=dm t_;haveI h__:g<x.1.size:=dm L;haveI i__:k<x.1.size:=by refine a8 (E.1 _ _ u_) λx_ v=>?_;exact dm v
 haveI j__:l<x.1.size:=by refine a8 (F.1 _ _ v_) λx_ v=>?_;exact dm v
 refine ay ?_;haveI k__:gg (x.push {cls:=.type "tuple",data:=.seq #[z,B]}) h j g .ellipsis:=dV _ t_;refine ay<|oQ k__ (by simp) λl__ j_ w_=>?_;replace j_:gg l__ h j g<|dr x.1.size:=j_;refine oQ j_ (by simp) λc_ k_ y_=>?_;replace k_:gg c_ h j g<|dr x.1.size:=k_;have d_:∀t u,t≠h->x.get? t=Y u->c_.get? t=Y u:=λt u D v=>y_.extBut _ _ D<|w_.extBut _ _ D<|dV _ v;haveI m__:dL c_ x.1.size z B:=y_.extBut _ _ (jL i_)<|w_.extBut _ _ (jL i_)<|d5 _ Z;exact bl ⟨_,Z,G_ c_ c__ x.1.size z B L_ d__ k_ (d_ _ _ w.c L) (E.2 _ _ _ u_ λf y u v=>d_ _ u (w.b f y).1 v) (F.2 _ _ _ v_ λf y u v=>d_ _ u (w.a f y).1 v) m__ (fI f__.symm)
  ⟨jL i_,jL h__,jL i__,jL j__⟩ λt u D b_ g_ h_ v=>d_ t u D<|g__ t u D b_ g_ h_ v⟩
def Fm{p_ q_:U->ar->Prop}(u:h0 f i g k l n o)
 (J:eM b c d k n m p_ p)(h_:eM b c d l o j q_ q)(B:gg a.1 f i g .none)(r_:dL a.1 i (.ref k)<|.ref l)(s_:dL a.1 g r h)(t_:p (b3 m j) a.1)(i_:q (b3 m j) a.1)
 (j_:∀K u_ t,(∀w v,w≠f->w≠g->w≠k->w≠l->a.1.get? w=Y v->K.get? w=Y v)->(∃v,bD (K.get? t=Y v)<|v.1=.type "StopIteration")->e (.ref t) {a with heap:=K,toks:=u_}):
 bh (bd b c) d (Builtin.«zip.__next__» ⟨[.ref f],[]⟩) s e a:=by
 show bh _ _ (qR (.ref f) 2>>=_) _ _ _;refine ay<|gi B Z Z ?_;refine ay<|gi B Z Z ?_;refine ay<|i5 r_ Z ?_;refine ay ?_;refine ay<|gi B Z Z<|bl ?_;simp only[oT];refine ay<|qW ?_;refine ay<|gi B Z Z ?_;refine ay<|oQ B (by simp) λG H C=>?_;replace H:gg G f i g .ellipsis:=H;refine ay ?_;simp only[YL,YM,m2,tf];refine ay<|ay<|x2 ?_;haveI I:=J.2 _ _ G t_ λh D v t=>C.extBut _ _ (u.b h D).1 t;by_cases L:m<=j
 .rw[xg L]at I;refine ay<|J.4 {a with heap:=G} _ _ I λa_ t y b_=>?_;obtain⟨c_,z,E⟩:=b_;have k_:gg a_ f i g .ellipsis:=y _ _ u.d.symm H;have e_:t≠f:=λx=>by subst x;rw[k_]at z;have d_:=ch z;subst d_;simp at E
  refine oQ k_ (by simp) λf_ x_ A=>j_ f_ _ t (λw v F x_ g_ x_ x=>A.extBut _ _ F<|y _ _ g_<|C.extBut _ _ F x) ⟨c_,A.extBut _ _ e_ z,E⟩
 .rw[F1<|Ew L]at I i_;refine ay<|J.3 j {a with heap:=G} _ _ (Ex L) I λx a_ v_ B_ C_ y=>bl ?_;haveI l_:dL a_ g r h:=y.extBut _ _ u.j<|C.extBut _ _ u.c s_;refine ay<|i5 l_ Z ?_;refine ay<|G9 l_ λf_ D_ A=>?_;refine ay<|x1<|bl ?_;refine ay<|ay<|x2 ?_;refine ay<|h_.4 {a with heap:=f_,toks:=v_} _ _ (h_.2 _ _ _ i_ λh D v t=>A.extBut _ _ (u.a h D).2.1<|y.extBut _ _ (u.a h D).2.2<|C.extBut _ _ (u.a h D).1 t) λw_ t m_ b_=>?_;obtain⟨c_,z,E⟩:=b_;have n_:gg w_ f i g .ellipsis:=m_ _ _ u.h.symm<|A.extBut _ _ u.c.symm<|y.extBut _ _ u.d.symm H;have e_:t≠f:=λx=>by subst x;rw[n_]at z;have d_:=ch z;subst d_;simp at E
  refine oQ n_ (by simp) λy_ x_ o_=>j_ y_ _ t (λw v F z_ g_ A_ x=>o_.extBut _ _ F<|m_ _ _ A_<|A.extBut _ _ z_<|y.extBut _ _ g_<|C.extBut _ _ F x) ⟨c_,o_.extBut _ _ e_ z,E⟩
end
def Ud{i_ j_:U->ar->Prop}(v:h0 a c b d e f g)
 (c_:eM h i j.in1 d f m i_ k)(d_:eM h i j.in1 e g n j_ l)(l_:d∈f)(m_:e∈g):
 WalksT h i j a ([a,c,b]++(f++g)) [a,b,d,e] (b3 m n) (λs n_=>∃o K,i_ s o/\j_ s K/\n_=#[o,K])
  (λs t=>gg t a c b .none/\dL t c (.ref d) (.ref e)/\(∃x p,dL t b x p)/\k s t/\l s t)
  (λs y t=>gg t a c b (dr y)/\dL t c (.ref d) (.ref e)/\(∃x p,dL t b x p)/\k (s+1) t/\l (s+1) t/\y≠a/\y≠b/\y≠d/\y≠e)where
 sub:=λL q=>by
  simp only[bj,ep,fL]at q;simp only[ge,bj,ep,fL];rcases q with rfl|rfl|rfl|rfl;.exact .inl<|.inl Z
  .exact .inl<|.inr<|.inr Z
  .exact .inr<|.inl l_
  .exact .inr<|.inr m_
 frame:=λs t J C w=>by refine n7 C λz A D E F=>?_;obtain⟨x,p,G⟩:=D;exact bB (w a (by simp) _ z) (w c (by simp) _ A) (f9 x p<|w b (by simp) _ G) (c_.2 _ _ _ E λp H u r=>w p (by simp[H]) u r)<|d_.2 _ _ _ F λp H u r=>w p (by simp[H]) u r
 item:=λs a_ e_ f_ k_ C I=>by
  refine n7 C λz A D E F=>?_;obtain⟨x,p,G⟩:=D;haveI B:a_.TypeIs (.ref a) "zip":=a1 _ ⟨z,Z⟩;refine ay (qV (lQ B iY (kI iY B qJ
   (Fn v c_ d_ z A G E F (eA k_<|xh ..) (eA k_<|YZ ..) λJ g_ y o K o_ p_ q_ r_ s_ t_ u_ v_ w_ w=>bl ?_) (qI _))))
  exact I y #[o,K] J g_ (cd o K o_ p_ Z) v_ (a1 _ ⟨u_,Z,_,Z⟩) (gv q_ (w _ _ v.e v.i v.g v.f A) (f9 _ _ r_) s_ t_ w_)
   λL u q r=>w L u (λo=>q<|by simp[o]) (λo=>q<|by simp[o]) (λo=>q<|by simp[o]) (λo=>q<|by simp[o]) r
 go:=λF_ G_ H_ s y a_ e_ f_ h_ I=>by refine P0 h_ λz A D E F x_=>?_;obtain⟨x,p,G⟩:=D;refine wpAny_letOwnedTupleGo_zip z λJ y_ b_=>I J (bB y_ (b_.extBut _ _ v.e A) (f9 x p<|b_.extBut _ _ v.c G) (c_.2 _ _ _ E λp H u r=>b_.extBut _ _ (v.b p H).1 r)<|d_.2 _ _ _ F λp H u r=>b_.extBut _ _ (v.a p H).1 r) λL u q r=>b_.extBut _ _ (λo=>q<|by simp[o]) r
 apart:=λs y t h_ B=>by
  obtain⟨_,_,_,_,_,z_,A_,B_,C_⟩:=h_;simp only[bj,ep,fL]at B;rcases B with rfl|rfl|rfl|rfl;.exact z_ Z
  .exact A_ Z
  .exact B_ Z
  .exact C_ Z
 done:=λa_ e_ f_ C I=>by
  refine n7 C λz A D E F=>?_;obtain⟨x,p,G⟩:=D;have B:a_.TypeIs (.ref a) "zip":=a1 _ ⟨z,Z⟩;refine ay (qV (lQ B iY (kI iY B qJ
   (Fm v c_ d_ z A G E F λJ g_ r w D_=>?_) (qI _))))
  obtain⟨u,E_,q⟩:=D_;refine ay<|G0 (a1 u ⟨E_,q⟩) GO ?_;exact bl<|I J g_ λL u q r=>w L u (λo=>q<|by simp[o]) (λo=>q<|by simp[o]) (λo=>q<|by simp[o]) (λo=>q<|by simp[o]) r
 self:=λs a_ e_ f_ C I=>G6 C.1 I
abbrev sQ(a:bT)(b:a9):Heap:=a.push {cls:=.type "tuple_iterator",data:=.fields #[.ref b,.int 0 0]}
abbrev sR(a:bT)(b c:a9):Heap:=(sQ a b).push {cls:=.type "tuple_iterator",data:=.fields #[.ref c,.int 0 0]}
abbrev sS(a:bT)(b c:a9):Heap:=(sR a b c).push {cls:=.type "tuple",data:=.seq #[.ref a.1.size,.ref (sQ a b).1.size]}
abbrev sT(a:bT)(b c:a9):Heap:=(sS a b c).push {cls:=.type "tuple",data:=.seq #[.none,.none]}
abbrev ok(a:bT)(b c:a9):Heap:=(sT a b c).push {cls:=.type "zip",data:=.fields #[.none,.bool M,.bool M,.ref (sR a b c).1.size,.ref (sS a b c).1.size]}
def IsTuple.A{c:bT}(d:c.IsTuple a b)(e:eB):(c.push e).IsTuple a b:=d.at λg f=>dV _ f
def Pt(b c:a9)(e f:dk ar):
 Meets (Builtin.«zip.__new__» ⟨[.type "zip",.ref b,.ref c],[]⟩) (λu g a=>a.1.IsTuple b e/\a.1.IsTuple c f/\
  g (.ok<|.ret<|.ref (sT a.1 b c).1.size) {a with heap:=ok a.1 b c}):=
 .of_wp λq r s g a d=>by
  obtain⟨h,i,j,k,l⟩:=a;refine gS d λm n d=>?_;haveI t:=sub_zip;haveI o:Zv (ZK ⟨h,i,j,k,l⟩) b e:=m;haveI p:Zv (ZK ⟨h.push {cls:=.type "tuple_iterator",data:=.fields #[.ref b,.int 0 0]},i,j,k,l⟩) c f:=IsTuple.A n _
  wp_walk using G5 o,G5 p
  exact⟨_,Z,d⟩
section
variable{d:iZ}{e:eC}{b:c4}{c:ar->aO->Prop}{a:aO}
def J2(v:a.1.IsTuple f h)(w:a.1.IsTuple g i)
 (x:∀k,gg k (a.1.1.size+4) (a.1.1.size+2) (a.1.1.size+3) .none->dL k (a.1.1.size+2) (.ref a.1.1.size) (.ref<|a.1.1.size+1)->
  dL k (a.1.1.size+3) .none .none->k.IsTupleIter a.1.1.size f 0->k.IsTupleIter (a.1.1.size+1) g 0->
  (∀l m,a.1.get? l=Y m->k.get? l=Y m)->j (.ref<|a.1.1.size+4) {a with heap:=k}):
 bh (bd d e) b (fJ (.type "zip") [.ref f,.ref g]) j c a:=by
 refine callType_new PySem.F.called_zip (ae Z) (PySem.F.typeCall_zip_2 _ _) (PySem.F.newCall_zip_2 _ _) (λy=>PySem.F.args_object_init_3 y _ _) PySem.F.entry_zip_new (Pt f g h i) ⟨v,w,?_⟩;haveI n:(sQ a.1 f).1.size=a.1.1.size+1:=lJ ..;have o:(sR a.1 f g).1.size=a.1.1.size+2:=by rw[lJ,n]
 have p:(sS a.1 f g).1.size=a.1.1.size+3:=by rw[lJ,o]
 haveI r:(sT a.1 f g).1.size=a.1.1.size+4:=by rw[lJ,p]
 haveI q:(ok a.1 f g).get? (sT a.1 f g).1.size=Y _:=d5 _ Z;haveI s:(ok a.1 f g).get? (sS a.1 f g).1.size=Y _:=dV _<|d5 _ Z;haveI t:(ok a.1 f g).get? (sR a.1 f g).1.size=Y _:=dV _<|dV _<|d5 _ Z;haveI u:(ok a.1 f g).get? (sQ a.1 f).1.size=Y _:=dV _<|dV _<|dV _<|d5 _ Z;haveI z:(ok a.1 f g).get? a.1.1.size=Y _:=dV _<|dV _<|dV _<|dV _<|d5 _ Z;rw[o,p,r]at q;rw[n,o]at t;rw[p]at s;rw[n]at u;rw[r];exact⟨⟨_,q,Z⟩,x _ q t s ⟨_,z,Z,Z⟩ ⟨_,u,Z,Z⟩ λl m A=>
  dV _ (dV _<|dV _<|dV _<|dV _ A)⟩
end
def Fl(f:b<a)(g:c<a):h0 (a+4) (a+2) (a+3) a (a+1) [a,b] [a+1,c]:=by
 have d:=zipApart_new f g;refine⟨d.1,d.2,d.3,d.4,d.5,d.6,d.7,d.8,d.9,d.10,λh e=>?_,λh e=>?_⟩
 .simp only[bj,ep,fL]at e;rcases e with rfl|rfl
  .exact aL d.3 d.8.symm d.10
  .exact aL d.11 d.12 d.14
 .simp only[bj,ep,fL]at e;rcases e with rfl|rfl
  .exact aL d.4 d.9.symm d.10.symm
  .exact aL d.15 d.16 d.17
section
variable{e:b4}{d:bR}{j:af}{a c:aO}{g:c4}{k:ar->aO->Prop}{f:da}{l:aA}{b h i:M.bk}
def XC(e_:g.1=ab)(C:bc e z t j cE a n o u c)(F:bt e n o v p)(G:bt e n o w q)(f_:p.length<=1000000)
 (g_:n r≠ab)(h_:n s≠ab)(H:eM e.b e.a g.in1 c.1.1.size [c.1.1.size,r] p.toArray.size (λk A=>p.toArray[k]?=Y A) x)(I:eM e.b e.a g.in1 (c.1.1.size+1) [c.1.1.size+1,s] q.toArray.size (λk A=>q.toArray[k]?=Y A) y)
 (D:gg m (c.1.1.size+4) (c.1.1.size+2) (c.1.1.size+3) .none)(i_:dL m (c.1.1.size+2) (.ref c.1.1.size)<|.ref<|c.1.1.size+1)(j_:dL m (c.1.1.size+3) .none .none)
 (k_:x 0 m)(l_:y 0 m)(m_:∀k h,x k h->h.get? r≠ab)(n_:∀k h,y k h->h.get? s≠ab)(o_:∀f d,c.1.get? f=Y d->m.get? f=Y d)(p_:c.1.get? r≠ab)(q_:c.1.get? s≠ab):
 ∃r_ s_ t_,bc e z t j cE a n o u {c with heap:=m}/\lY e g t j a n o u {c with heap:=m} (c.1.1.size+4) r_ s_ (eJ v w) t_ true:=by
 haveI J:∀{B:a9},c.1.get? B≠ab->B<c.1.1.size:=λ{B} h=>by
  refine dP (c.1.get? B) (λb=>?none) λd b=>?some
  case none=>exact a2 b h
  case some=>exact dm b
 have u_:=Fl (J p_)<|J q_;haveI K:=Ud u_ H I (.head _)<|.head _;have L:b3 p.toArray.size q.toArray.size=(eJ v w).length:=by rw[vG,cY,cY,F.A,G.A]
 rw[L]at K;have F_:=e7.C e_ K (λk G_ H_ v_ w_=>by
  refine fA v_ λA a_ y_ z_ E=>?_;subst E;refine fA (vF w_) λI_ J_ A_ D E=>?_;subst E;exact ax _ Z ⟨A,[a_],Z,mY F A_<|by simpa using y_,a_,[],Z,mY G D<|by simpa using z_,Z⟩) (λk h C i l=>by
  refine n7 C λB_ C_ D_ b_ c_=>?_;obtain⟨_,_,E_⟩:=D_;simp only[ge,bj,ep,fL]at l;rcases l with(rfl|rfl|rfl)|(rfl|rfl)|rfl|rfl;.rw[show h.get? _=_ from B_];nofun
  .rw[show h.get? _=_ from C_];nofun
  .rw[show h.get? _=_ from E_];nofun
  .refine a8 (H.1 _ _ b_) λx_ b=>?_;rw[b];nofun
  .exact m_ _ _ b_
  .refine a8 (I.1 _ _ c_) λx_ b=>?_;rw[b];nofun
  .exact n_ _ _ c_)
 haveI d_:=Ao (w:=c.4) C F_ (bB D i_ (f9 _ _ j_) k_ l_) o_ (λi l=>by
  simp only[bj,ep,fL]at l;rcases l with rfl|rfl|rfl|rfl;.exact hD _
  .exact hD _
  .exact eQ _
  .exact hD _) (λi l=>by
  simp only[ge,bj,ep,fL]at l;rcases l with(rfl|rfl|rfl)|(rfl|rfl)|rfl|rfl;.exact .inl (hD _)
  .exact .inl (hD _)
  .exact .inl (hD _)
  .exact .inl (eQ _)
  .exact .inr g_
  .exact .inl (hD _)
  .exact .inr h_)<|by rw[<-L,cY];exact br (xh ..) f_
 exact pt _ _ _ d_.1 d_.2
def n4{a:bT}(c:a.IsList m n):a.get? m≠none:=c.elim λd b=>by rw[b.1];nofun
def n5{a:bT}(c:a.IsTuple m n):a.get? m≠none:=c.elim λd b=>by rw[b.1];nofun
def se{a:bT}(b:a.get? m≠ab):m≠a.1.size+n:=by rintro rfl;exact b<|hD a
def aZ.A_{a:o->Prop}{b:Prop}(c:aZ (m.or n) a)(d:aZ m a->b)(e:aZ n a->b):b:=by
 cases m with
 |none=>exact e c
 |some h=>exact d c
def C0(z:bo h)(A:bo i):iv<|.E h i:=λ{s B l d_ j e_} C c a=>u5 C λf_ e D t g_ E e=>by
 haveI e:=cR e;rw[mn Z,he<|show[D,t].all e2=Q by rw[jJ,jJ,e.2.2.1,e.2.2.2];rfl];refine fF<|c.3.A c.4 c.1.a.a E (c.1.a.a.a _<|ae Z) ?_;refine jQ (P:=λx_=>eN) Z (λa x_=>⟨.machine,.inr<|.inl Z,i0 Z⟩)<|iB ?_;refine im<|z e.1 c<|a.A λh_ a i_ B u f=>im<|A e.2.1 u.2<|a.A λj_ a k_ t g v=>bl ⟨ds,?_⟩;haveI n:=c.2.a;haveI f:=g.B f;haveI F:=(u.A g).1;refine a.C λl_ b a=>a.D λm_ G a=>?_;rw[k0 b]at f;rw[k0 G]at v;refine fA f λn_ H o p I=>?_;subst o;refine fA v λo_ J o w K=>?_;subst o;have k:=mU (g.2.4.C p).A;have m:=mU (g.2.4.C w).A;refine J2 k m λp_ x L a_ b_ c_ q=>G6 x ?_;refine mE (XC n F I K p.1 (by obtain⟨_,_,b⟩:=p;rw[b];nofun) (by obtain⟨_,_,b⟩:=w;rw[b];nofun) (zS (d:=s.e.in1) n _ _ (se (n:=0)<|n5 k) H.toArray) (zS (d:=s.e.in1) n _ _ (se<|n5 m) J.toArray) x L a_
  ⟨b_,k.at λd b=>q _ d b⟩ ⟨c_,m.at λd b=>q _ d b⟩ (λc a r=>n5 r.2) (λc a r=>n5 r.2) q (n5 k) (n5 m)) λq_ r_ s_ y=>?_
 exact a ⟨_,_,_⟩ _ _ _ _ (c.B y.1) y.2
end
section
variable{f:U}{b:af}{c:c4}{e:aA}{a d:M.bk}
def iS(a:U):Str:=b2<|oR<|['x','y','z'].take a
def s0(a:U):R V:=(["x","y","z"].take a).map λb=>.E<|.A b
def Uo(f:g<=3)(b c:Tok){e:ar->aO->Prop}(d:∀i j,e (.str (iS g) i) {h with toks:=j}):(qT ("xyz":aJ) b ab (Y (g,c)) ab).post e h:=by
 obtain rfl|rfl|rfl|rfl:g=0\/g=1\/g=2\/g=3:=by exact Ey f
 .have a:qT ("xyz":aJ) b ab (Y ((0:U),c)) ab=.str (iS 0):=by kernel_rfl
  rw[a];exact⟨by decide+kernel,d _ _⟩
 .haveI a:qT ("xyz":aJ) b ab (Y ((1:U),c)) ab=.str (iS 1):=by kernel_rfl
  rw[a];exact⟨by decide+kernel,d _ _⟩
 .have a:qT ("xyz":aJ) b ab (Y ((2:U),c)) ab=.str (iS 2):=by kernel_rfl
  rw[a];exact⟨by decide+kernel,d _ _⟩
 .haveI a:qT ("xyz":aJ) b ab (Y ((3:U),c)) ab=.val (.str (iS 3) b):=by kernel_rfl
  rw[a];exact d _ _
def DU(i:g<=3):(iS g).1.all (·<128)=Q/\(iS g).1.size=(s0 g).length/\∀(a:U)(e:V)(c:U),(s0 g)[a]?=Y e->(iS g).1[a]?=Y c->∃f:an,e=V.E f/\dc f=Q/\(⟨#[c]⟩:aJ)=bv f:=by
 obtain rfl|rfl|rfl|rfl:g=0\/g=1\/g=2\/g=3:=by exact Ey i
 all_goals
  refine aL (by decide+kernel) (by decide+kernel) λa e c b h=>?_;cases a with
  |zero=>first|(cases b;done)|(have d:=ch b;subst d;obtain rfl:c=120:=cZ (h.symm.trans<|by kernel_rfl);exact cW _ Z (by decide+kernel)<|by kernel_rfl)
  |succ a=>cases a with
   |zero=>first|(cases b;done)|(have d:=ch b;subst d;obtain rfl:c=121:=cZ (h.symm.trans<|by kernel_rfl);exact cW _ Z (by decide+kernel)<|by kernel_rfl)
   |succ a=>cases a with
    |zero=>first|(cases b;done)|(have d:=ch b;subst d;obtain rfl:c=122:=cZ (h.symm.trans<|by kernel_rfl);exact cW _ Z (by decide+kernel)<|by kernel_rfl)
    |succ a=>exact b8 b
def Un(m:c.1=ab)(a:h<=3)(n:Tok):e7 i c j k g [g] [g] (s0 h) (λb a=>a.IsStrIter g "str_ascii_iterator" (iS h) n b) false:=by
 haveI o:=Walks.strAscii (prog:=i.b) (w:=i.a) m g (iS h) n;haveI p:=DU a;haveI e:=p.2.1;rw[e]at o;refine e7.A m o (λb A t u v=>?_) (λb a f=>?_) λb a f d q=>?_;.obtain⟨w,x,y,rfl⟩:=u;refine cg (p.2.2 b t w v y) λq z r=>?_;subst z;rw[r.2];exact am r.1 ⟨x,Z⟩
 .obtain⟨s,l,e,_⟩:=f;exact cd s _ l e<|ae Z
 .cases cm.1 q;obtain⟨s,l,_⟩:=f;rw[l];nofun
def CZ(t:bo a):iv<|.D a:=λ{u z e k b A} l i c=>Kz l λf B v C D l=>by refine xq<|GV<|GX<|bl<|vI (j:=Y v) t l (i.C _)<|aZ.A c λw c j E m n=>aZ.C c λo a c=>aZ.G c λh c=>?_;rw[hz a]at n;clear a;obtain⟨g,rfl⟩:∃g:U,o=g:=⟨o.toNat,by exact Uw h⟩;refine cD n λp=>?_;refine bl ?_;refine lI (GT _ _ _) Gr.lookup (Z4 (l:=ab) (u:=Y ((g:ah),p)) (st:=ab) ⟨_,d5 _ Z,Z,Z⟩ Z ?_)<|sK _ _;refine Uo (wM h) _ _ λq r=>?_;haveI x:bc u.a k.c k.b b cE k.a j.c j.b w.2 {j.a with heap:=j.a.1.push<|mQ .none (.int (g:ah) p) .none,toks:=r}:=((i.A.C _).A m).1.B<|.A m.2.4 (eK _ _) Z Z;refine wpAny_pyIter_ascii (DU<|wM h).1 ?_;haveI s:=rL (s:={cls:=.type "str_ascii_iterator",data:=.fields #[.str (iS g) q,.int 0 0]}) (t:=r) x (Un i.2.a (wM h) q) ⟨_,d5 _ Z,Z,Z⟩ (λd y=>.inl<|cm.1 y) (by unfold s0;rw[bC,m5];show b3 g 3<=_;exact Ux h);exact c.B ⟨_,_,_⟩ _ _ _ _ (i.B s.1) s.2
end
abbrev lZ(a:bT)(b c d:a9)(e:ar)(f:aE):Prop:=
 a.get? b=Y {cls:=.type "zip",dict:=ab,data:=.fields #[e,.bool f,.bool M,.ref c,.ref d],slots:=#[]}
section
variable{b:iZ}{c:eC}{d:c4}{e:ar->aO->Prop}{a:aO}
def B8{k p q n:a9}(l:lZ a.1 k p q (dr n) f)(t:a.1.get? n=Y h)
 (r:∀i,lZ i k p q (dr n) Q->(∀j m,j≠k->a.1.get? j=Y m->i.get? j=Y m)->i.1.size=a.1.1.size->g M {a with heap:=i}):
 bh (bd b c) d (å<|.ref k) g e a:=by
 refine ay<|gi l Z Z ?_;refine ay<|kdx_alive t ?_;refine ay<|gi l Z (x:=.bool f) Z ?_;cases f with
 |true=>
  exact ay<|bl<|bl<|r a.1 l (λw w w o=>o) Z
 |false=>
  exact ay<|oQ l (by simp) λi u s=>bl<|r i u (λj m v o=>s.extBut j m v o) s.1
def Xy{s z A B C:a9}{a_ b_:U->ar->Prop}{D:a9}{c_:ar->aO->Prop}(t:h0 s z A B C i j)
 (E:eM b c d B i k a_ g)(I:eM b c d C j l b_ h)(J:lZ a.1 s z A (dr D) m)(e_:dL a.1 z (.ref B)<|.ref C)(f_:a.1.get? D=Y n)(g_:g f a.1)(h_:h f a.1)(i_:f<k)(j_:f<l)
 (l_:∀(u:bT)(k_:U)(K:a9)(v w:ar),a_ f v->b_ f w->lZ u s z A (dr D) Q->g (f+1) u->h (f+1) u->dL u K v w->a.1.1.size<=K->
  (∀x p,x≠s->x≠B->x≠C->a.1.get? x=Y p->u.get? x=Y p)->c_ (.ref K) {a with heap:=u,toks:=k_}):
 bh (bd b c) d (Builtin.«zip.__next__» ⟨[.ref s],[]⟩) (λm_ n_=>∃d_,bD (m_=.done (.ret d_))<|c_ d_ n_) e a:=by
 show bh _ _ (qR (.ref s) 2>>=_) _ _ _;refine ay<|gi J Z Z ?_;refine ay<|gi J Z Z ?_;refine ay<|i5 e_ Z ?_;refine ay<|B8 J f_ λo_ p_ L q_=>?_;simp only[ox,nd];rw[<-XO];simp only[m2,tf];refine ay<|ay<|ay<|d8 ?_;refine ay<|E.3 f {a with heap:=o_} _ _ i_ (E.2 _ _ _ g_ λq r p o=>L _ _ (t.b q r).1 o) λv r_ s_ t_ u_ F=>bl<|bl ?_;refine ay<|ay<|d8 ?_;refine ay<|I.3 f {a with heap:=r_,toks:=s_} _ _ j_ (I.2 _ _ _ h_ λq r p o=>F.extBut _ _ (t.a q r).2.2<|L _ _ (t.a q r).1 o) λw y v_ w_ y_ G=>bl<|bl<|bl ?_;refine ay (G2 ?_<|by show 2<=_;rw[ee];exact aX Z);haveI z_:lZ y s z A (dr D) true:=G.extBut _ _ t.h.symm<|F.extBut _ _ t.d.symm p_;haveI A_:g (f+1) y:=E.2 _ _ _ u_ λq r p o=>G.extBut _ _ (t.b q r).2.2 o;have B_:y.1.size=a.1.1.size:=by rw[G.1,F.1,q_]
 have H:=eK y {cls:=.type "tuple",data:=.seq #[v,w]};refine bl ⟨_,Z,?_⟩;exact l_ (y.push {cls:=.type "tuple",data:=.seq #[v,w]}) v_ y.1.size v w t_ w_ (H _ _ z_) (E.2 _ _ _ A_ λq r p o=>H _ _ o) (I.2 _ _ _ y_ λq r p o=>H _ _ o) (d5 _ Z) (fI B_.symm)
  λx p C_ D_ E_ o=>H _ _<|G.extBut _ _ E_<|F.extBut _ _ D_<|L _ _ C_ o
def Xx{r A L s t:a9}{f_ g_:U->ar->Prop}{a_:a9}(B:h0 r A L s t h i)
 (C:eM b c d s h g f_ j)(b_:eM b c d t i f g_ k)(D:lZ a.1 r A L (dr a_) l)(h_:dL a.1 A (.ref s)<|.ref t)(i_:a.1.get? a_=Y m)(j_:j (b3 g f) a.1)(c_:k (b3 g f) a.1)
 (d_:∀E k_ o,(∀q p,q≠r->q≠s->q≠t->a.1.get? q=Y p->E.get? q=Y p)->(∃p,bD (E.get? o=Y p)<|p.1=.type "StopIteration")->e (.ref o) {a with heap:=E,toks:=k_}):
 bh (bd b c) d (Builtin.«zip.__next__» ⟨[.ref r],[]⟩) n e a:=by
 show bh _ _ (qR (.ref r) 2>>=_) _ _ _;refine ay<|gi D Z Z ?_;refine ay<|gi D Z Z ?_;refine ay<|i5 h_ Z ?_;refine ay<|B8 D i_ λF o_ u p_=>?_;simp only[ox,nd];rw[<-XO];simp only[m2,tf];refine ay<|ay<|ay<|d8 ?_;haveI x:=C.2 _ _ F j_ λv w p o=>u _ _ (B.b v w).1 o;by_cases G:g<=f;.rw[xg G]at x;refine ay<|C.4 {a with heap:=F} _ _ x λH o y I=>?_;exact d_ H _ o (λq p J K e_ z=>y _ _ K<|u _ _ J z) I
 .rw[F1<|Ew G]at x c_;refine ay<|C.3 f {a with heap:=F} _ _ (Ex G) x λz H l_ q_ r_ y=>bl<|bl ?_;refine ay<|ay<|d8 ?_;refine ay<|b_.4 {a with heap:=H,toks:=l_} _ _ (b_.2 _ _ _ c_ λv w p o=>y.extBut _ _ (B.a v w).2.2<|u _ _ (B.a v w).1 o) λm_ o n_ I=>?_;exact d_ m_ _ o (λq p J K e_ z=>n_ _ _ e_<|y.extBut _ _ K<|u _ _ J z) I
end
def kX(c d e f g i:a9)(j k:U->bT->Prop)(h:U)(a:bT):Prop:=
 dL a d (.ref f) (.ref g)/\j h a/\k h a/\((gg a c d e .none/\∃l m,dL a e l m)\/∃(b:a9)(n:aE)(o:eB),lZ a c d e (dr b) n/\a.get? b=Y o/\b≠c/\b≠f/\b≠g/\b≠i)
section
variable{h:iZ}{i:eC}{o:c4}{s:ar->aO->Prop}{b:aO}{a g c f e d:a9}{r q:R a9}{l j:U}{m k:U->ar->Prop}{n p:U->bT->Prop}
def XM(v:h0 a g c f e r q)(f_:eM h i o.in1 f r l m n)(g_:eM h i o.in1 e q j k p)(q_:kX a g c f e d n p t b.1)(h_:t<l)(i_:t<j)(r_:d<b.1.1.size)
 (j_:∀(w:bT)(C:U)(D:a9)(z A:ar),m t z->k t A->kX a g c f e d n p (t+1) w->dL w D z A->b.1.1.size<=D->(∀x F,x≠a->x≠c->x≠f->x≠e->b.1.get? x=Y F->w.get? x=Y F)->u (Y<|.ref D) {b with heap:=w,toks:=C}):
 bh (bd h i) o (nb<|.ref a) u s b:=by
 refine vB q_ λG k_ l_ s_=>?_;obtain y|⟨H,A_,t_,y,E,m_,n_,o_,u_⟩:=s_
 .obtain⟨y,B_,C_,v_⟩:=y;have E:b.TypeIs (.ref a) "zip":=a1 _ ⟨y,Z⟩;refine ay (qV (lQ E iY (kI iY E qJ
   (Fn v f_ g_ y G v_ k_ l_ h_ i_ λw C H z A K L a_ D_ b_ c_ I J d_ B=>bl ?_) (qI _))))
  exact j_ w C H z A K L (db (B _ _ v.e v.i v.g v.f G) b_ c_<|.inr<|uQ H M _ a_ I d_.1 d_.2.2.1 d_.2.2.2 λe_=>a2 r_<|by rw[<-e_];exact xj.2 J) I J B
 .haveI p_:b.TypeIs (.ref a) "zip":=a1 _ ⟨y,Z⟩;refine ay (qV (lQ p_ iY (kI iY p_ qJ
   (Xy v f_ g_ y G E k_ l_ h_ i_ λw C D z A K L a_ b_ c_ I J B=>bl ?_) (qI _))))
  exact j_ w C D z A K L (db (B _ _ v.e v.g v.f G) b_ c_<|.inr<|uQ H Q t_ a_ (B _ _ m_ n_ o_ E) m_ n_ o_ u_) I J λx F w_ x_ y_ z_ e_=>B x F w_ y_ z_ e_
def XK(F:h0 a g c f e r q)(G:eM h i o.in1 f r l m n)(H:eM h i o.in1 e q j k p)(b_:kX a g c f e d n p (b3 l j) b.1)
 (I:∀(x:bT)(y:U),(∀u v,u≠a->u≠c->u≠f->u≠e->b.1.get? u=Y v->x.get? u=Y v)->t ab {b with heap:=x,toks:=y}):
 bh (bd h i) o (nb<|.ref a) t s b:=by
 refine vB b_ λJ K L c_=>?_;obtain w|⟨h_,i_,j_,w,z,k_,l_,m_,n_⟩:=c_
 .obtain⟨w,o_,p_,d_⟩:=w;have z:b.TypeIs (.ref a) "zip":=⟨_,w,Z⟩;refine ay (qV (lQ z iY (kI iY z qJ
   (Fm F G H w J d_ K L λx y A B C=>?_) (qI _))))
  obtain⟨v,D,E⟩:=C;exact ay<|G0 ⟨v,D,E⟩ GO<|bl<|I x y B
 .haveI a_:b.TypeIs (.ref a) "zip":=⟨_,w,Z⟩;refine ay (qV (lQ a_ iY (kI iY a_ qJ
   (Xx F G H w J z K L λx y A B C=>?_) (qI _))))
  obtain⟨v,D,E⟩:=C;exact ay<|G0 ⟨v,D,E⟩ GO<|bl<|I x y λu v e_ x_ f_ g_ A=>B u v e_ f_ g_ A
def kX.A(l_:h0 a g c f e r q)(E:eM h i t f r l m n)(F:eM h i t e q j k p)(G:kX a g c f e d n p u v)(o:∀b s,b≠d->v.get? b=Y s->w.get? b=Y s)
 (C:a≠d)(H:g≠d)(I:c≠d)(J:d∉r)(K:d∉q):kX a g c f e d n p u w:=by
 refine vB G λL a_ b_ x=>?_;refine db (o _ _ H L) (E.2 _ _ _ a_ λb y s z=>o b s (λB=>J<|B▸y) z) (F.2 _ _ _ b_ λb y s z=>o b s (λB=>K<|B▸y) z) ?_;rcases x with⟨x,c_,b,d_⟩|⟨e_,f_,g_,x,h_,i_,j_,k_,D⟩;.exact .inl<|am (o _ _ C x) ⟨c_,b,o _ _ I d_⟩
 .exact .inr<|uQ e_ f_ g_ (o _ _ C x) (o _ _ D h_) i_ j_ k_ D
def hu(m k:U->ar->Prop)(b:bT):U->R a9->Prop
 |_,[]=>eN
 |a,e::f=>(∃c d,m a c/\k a d/\dL b e c d)/\hu m k b (a+1) f
def hu.A:∀{a:R a9}{c:U},hu m k t c a->(∀b∈a,∀d,t.get? b=Y d->u.get? b=Y d)->hu m k u c a:=by
 intro a
 induction a with
 |nil=>intros;trivial
 |cons b a g=>intro c e f;exact am (fA e.1 λh i j l n=>cd h i j l<|f b (.head _) _ n)<|g e.2 λo p=>f o<|.tail _ p
def hu.B:∀{a:R a9}{b:U},hu m k t b a->m (b+a.length) u->k (b+a.length) v->dL t w u v->hu m k t b (a++[w]):=by
 intro a
 induction a with
 |nil=>intro b _ c d e;exact am (cd u v c d e) ds
 |cons h a g=>intro b f c d e;rw[dd]at c d;exact am f.1<|g f.2 (by rwa [show b+1+a.length=b+(a.length+1) by exact Ez]) (by rwa [show b+1+a.length=b+(a.length+1) by exact Ez]) e
def XF(l_:h0 a g c f e r q)(m_:eM h i o.in1.in1 f r l m n)(n_:eM h i o.in1.in1 e q j k p)(z_:b3 l j<=1000000)(A_:ar){y:bT}(B_:a<y.1.size)(C_:c<y.1.size)(D_:f<y.1.size)(E_:e<y.1.size)(F_:d<y.1.size)
 (o_:a≠d)(L_:g≠d)(p_:c≠d)(a__:d∉r)(b__:d∉q)(G_:f≠d)(H_:e≠d)
 (c__:∀F L C I z,(∀s v,s≠d->s≠a->s≠c->s≠f->s≠e->y.get? s=Y v->F.get? s=Y v)->F.get? d=Y {cls:=.type "list",dict:=ab,data:=.seq C I,slots:=#[]}->z.length=b3 l j->hu m k F 0 z->(∀u∈z,y.get? u=ab)->
  C.1=z.map dn->t (.ok<|.ret A_) {b with heap:=F,toks:=L}):
 ∀(f_ D:U)(G:bT)(L I:U)(C:dk ar)(z:R a9),b3 l j-D=f_->D<=b3 l j->kX a g c f e d n p D G->(∀s v,s≠d->s≠a->s≠c->s≠f->s≠e->y.get? s=Y v->G.get? s=Y v)->y.1.size<=G.1.size->
  G.get? d=Y {cls:=.type "list",dict:=ab,data:=.seq C I,slots:=#[]}->C.1=z.map dn->z.length=D->hu m k G 0 z->(∀u∈z,y.1.size<=u)->
  kH (bd h i) o (.builtin "list.extend.loop" ⟨[.ref d,.ref a,A_],[]⟩) t {b with heap:=G,toks:=L}:=by
 haveI E:∀{u s:U},u<y.1.size->y.1.size<=s->s≠u:=λd__ e__ x=>hT _<|eA d__<|x▸e__;intro f_
 induction f_ with
 |zero=>
  intro D G L I C z J q_ r_ s_ g_ h_ i_ A t_ B;have I_:D=b3 l j:=by exact Uy J A q_
  refine tA Zk ?_;refine ay<|XK l_ m_ n_ (I_▸r_) λF u_ v_=>?_;refine bl<|c__ F u_ C I z (λs v j_ a_ b_ c_ d_ x=>v_ s v a_ b_ c_ d_<|s_ s v j_ a_ b_ c_ d_ x) (v_ d _ o_.symm p_.symm G_.symm H_.symm h_) (Uz I_ A) (t_.A λu w v x=>v_ u v (E B_<|B u w) (E C_<|B u w) (E D_<|B u w) (E E_<|B u w) x) (λu w=>?_) i_;refine dP (y.get? u) (λx=>?none) λv x=>?some
  case none=>rfl
  case some=>exact a2 (dm x)<|xj.2<|B u w
 |succ f_ f__=>
  intro D G L I C z J q_ r_ s_ g_ h_ i_ A t_ B;haveI K:D<b3 l j:=by exact UA J A q_
  haveI H:C.size=D:=by rw[<-qu,i_,bC,A]
  refine tA Zk ?_;refine ay<|XM l_ m_ n_ r_ (UB J K A H) (UC J K A H) (dm h_) λF u_ e_ l__ m__ g__ h__ i__ J_ w_ y_=>?_;haveI K_:=y_ d _ o_.symm p_.symm G_.symm H_.symm h_;haveI j__:e_≠d:=E F_<|br g_ w_;have k_:∀s v,s≠d->F.get? s=Y v->(F.update d<|gX (·.push (dn e_))).get? s=Y v:=λs v k__ x=>(jN _ _<|f4 k__).trans x;refine ay ?_;refine x3 K_ Z (bl ⟨xW Zm _,f__ (D+1) _ u_ _ (C.push<|dn e_) (z++[e_]) (UD J K A H) K (i__.A l_ m_ n_ k_ o_ L_ p_ a__ b__)
   (λs v j_ a_ b_ c_ d_ x=>k_ s v j_<|y_ s v a_ b_ c_ d_<|s_ s v j_ a_ b_ c_ d_ x) ?_ (qL _ K_ Z) (by rw[Array.toList_push,i_,hR];rfl) (by rw[cs,A];rfl) ?_ ?_⟩) (by rw[H,ee];exact UE z_ K A H)<|by show(C.push<|dn e_).size<=xX+1;rw[Array.size_push,H,ee];exact UF z_ K A H
  .rw[xz];exact br (br g_ w_)<|qG<|dm J_
  .refine hu.B ((t_.A λu w v x=>y_ u v (E B_<|B u w) (E C_<|B u w) (E D_<|B u w) (E E_<|B u w) x).A λu w v x=>k_ u v (E F_<|B u w) x) (by rw[A,dG];exact g__) (by rw[A,dG];exact h__)<|k_ _ _ j__ J_
  .intro u w;refine b1 (ge.1 w) (λw=>?_) λw=>?_
   .exact B u w
   .cases cm.1 w;exact br g_ w_
end
def XJ:x0 (.type "zip") "__len__"=cN none:=by rw[tD,tz];kernel_rfl
def XI:x0 (.type "zip") "__length_hint__"=cN none:=by rw[tD,tz];kernel_rfl
section
variable{k:iZ}{l:eC}{f:c4}{p:ar->aO->Prop}{a:aO}{b o e d c:a9}{n m:R a9}{i h:U}{j g:U->ar->Prop}{q r:U->bT->Prop}
def ue(j g:U->ar->Prop)(b e d c:a9)(m:U)(i:a9)(k:bT)(h:bT)(f:R a9):Prop:=
 (∀a l,a≠i->a≠b->a≠e->a≠d->a≠c->k.get? a=Y l->h.get? a=Y l)/\(∃n,h.get? i=Y {cls:=.type "list",data:=.seq (f.map dn).toArray n})/\f.length=m/\hu j g h 0 f/\∀o∈f,k.get? o=ab
def XD(c:a.TypeIs (.ref b) "zip")(d:s Q a):bh (bd k l) f (ã<|.ref b) s p a:=by refine ay<|G7 c XJ ?_;refine ay<|G7 c XI ?_;exact bl d
def XB(I:h0 b o e d c n m)(J:eM k l f.in1.in1 d n i j q)(K:eM k l f.in1.in1 c m h g r)(m_:b3 i h<=1000000)(p:a9)
 (B:b≠p)(L:o≠p)(a_:e≠p)(b_:p∉n)(c_:p∉m)(n_:d≠p)(o_:c≠p)(p_:kX b o e d c p q r 0 a.1)(C:gg a.1 b o e .none)(q_:e<a.1.1.size)(r_:d<a.1.1.size)(s_:c<a.1.1.size)(D:ar)(t_:U)(E:a.1.get? p=Y {cls:=.type "list",data:=.seq #[] t_})
 (u_:∀y F G,ue j g b e d c (b3 i h) p a.1 y G->s (.ok<|.ret D) {a with heap:=y,toks:=F}):
 bh (bd k l) f.in1 (á (.ref p) (.ref b) D)
  (λv_ z=>match v_ with|.done w_=>s (.ok w_) z|.again d_=>bD (d_.quiet=Q)<|kH (bd k l) f d_ s z) (λt z=>s (.error t) z) a:=by
 have e_:a.TypeIs (.ref b) "zip":=a1 _ ⟨C,Z⟩;refine ay<|G8 e_ ?_;haveI y_:Zb (.ref p) (.ref b)=false:=by simp[Zb,f4 B]
 haveI z_:(lM "zip"==lM "list")=false:=ae Z;haveI A_:(lM "zip"==lM "tuple")=false:=ae Z;simp only[y_,z_,A_,oy,ox,nd];refine ay<|G6 C ?_;refine ay<|d8<|XD e_ ?_;refine ay<|qW ?_;refine ay ?_;refine ay<|x3 E Z ?_;haveI f_:=qL (gX (·.push oK)) E Z;refine x3 f_ Z ?_;have g_:=qL (gX (·.pop)) f_ Z;have H:∀v u,v≠p->a.1.get? v=Y u->(((a.1.update p<|gX (·.push oK)).update p<|gX (·.pop))).get? v=Y u:=
  λv u h_ t=>(jN _ _<|f4 h_).trans<|(jN _ _<|f4 h_).trans t
 have B_:=p_.A I J K H B L a_ b_ c_;have x:(((a.1.update p<|gX (·.push oK)).update p<|gX (·.pop))).1.size=a.1.1.size:=by rw[xz,xz]
 refine bl ⟨xW Zm _,?_⟩;refine XF I J K m_ D (by rw[x];exact dm C) (by rw[x];exact q_) (by rw[x];exact r_) (by rw[x];exact s_) (by rw[x];exact dm E)
  B L a_ b_ c_ n_ o_ (λy F L_ C_ G D_ i_ E_ F_ j_ G_=>u_ y F G<|bB (λv u k_ H_ I_ J_ K_ t=>D_ v u k_ H_ I_ J_ K_<|H v u k_ t) (a1 C_ ?_) E_ F_ λw A=>?_) (b3 i h) 0 _ _ _ _ [] (Y3 _) (c8 _) B_ (λv u x_ x_ x_ x_ x_ t=>t) (aY _) g_ Z Z ds (λw A=>bW A)
 .rw[i_,<-G_]
 .refine dP (a.1.get? w) (λt=>?none) λu t=>?some
  case none=>rfl
  case some=>
   clear i_;by_cases l_:w=p;.subst l_;have:=j_ w A;rw[g_]at this;exact iR this
   .haveI:=H w u l_ t;rw[j_ w A]at this;exact b8 this
def J0(k_:h0 b o e d c n m)(a_:eM k l f.in1.in1.in1 d n i j q)(b_:eM k l f.in1.in1.in1 c m h g r)(l_:b3 i h<=1000000)
 (E:gg a.1 b o e .none)(F:dL a.1 o (.ref d)<|.ref c)(B:dL a.1 e t u)(m_:q 0 a.1)(n_:r 0 a.1)(G:∀v∈n,v<a.1.1.size)(H:∀v∈m,v<a.1.1.size)(c_:d∈n)(d_:c∈m)
 (o_:∀C I J,ue j g b e d c (b3 i h) a.1.1.size a.1 C J->s (.ref a.1.1.size) {a with heap:=C,toks:=I}):
 bh (bd k l) f (fJ (.type "list") [.ref b]) s p a:=by
 refine ZP (Q₁:=λe_ f_=>bD (e_=.ref a.1.1.size)<|f_={a with heap:=a.1.push {cls:=.type "list",data:=.seq #[]}}) PySem.F.called_list (PySem.F.typeCall_list_1 _) PySem.F.entry_list_init
  (code_list_new _ ⟨Z,Z⟩) λe_ f_ p_=>?_
 obtain⟨rfl,rfl⟩:=p_;have D:(a.1.push {cls:=.type "list",data:=.seq #[]}).get? a.1.1.size=Y {cls:=.type "list",data:=.seq #[]}:=d5 _ Z;refine⟨(a1 _ ⟨D,Z⟩),PySem.F.args_list_init_2 _ _,?_⟩;refine ay ?_;refine ay<|i5 D Z<|bl ?_;refine ay<|x3 D Z ?_;haveI q_:=qL (gX λx_=>(#[]:dk ar)) D Z;have z:∀v x,v≠a.1.1.size->a.1.get? v=Y x->((a.1.push {cls:=.type "list",data:=.seq #[]}).update a.1.1.size<|gX λx_=>(#[]:dk ar)).get? v=Y x:=
  λv x r_ w=>(jN _ _<|f4 r_).trans<|dV _ w
 haveI y:∀{v x},a.1.get? v=Y x->v≠a.1.1.size:=λw=>ed<|dm w;have h_:∀{g_:R a9},(∀v∈g_,v<a.1.1.size)->a.1.1.size∉g_:=λs_ A=>hT _<|s_ _ A;refine ay<|x1 ?_;haveI i_:=z _ _ (y E) E;haveI K:((a.1.push {cls:=.type "list",data:=.seq #[]}).update a.1.1.size<|gX λx_=>(#[]:dk ar)).1.size=a.1.1.size+1:=by rw[xz,lJ]
 refine XB k_ a_ b_ l_ a.1.1.size (y E) (y F) (y B) (h_ G) (h_ H) (ed<|G _ c_) (ed<|H _ d_)
  (db (z _ _ (y F) F) (a_.2 _ _ _ m_ λv A x w=>z _ _ (y w) w) (b_.2 _ _ _ n_ λv A x w=>z _ _ (y w) w)<|.inl<|am i_ ⟨_,_,z _ _ (y B) B⟩) i_
  (by rw[K];exact il<|dm B) (by rw[K];exact il<|G _ c_) (by rw[K];exact il<|H _ d_) .none _ q_ λC I J t_=>?_
 refine n7 t_ λu_ v_ w_ y_ z_=>?_;refine⟨Z,o_ C I J<|bB (λv x j_ A_ B_ C_ D_ w=>u_ v x j_ A_ B_ C_ D_<|z v x j_ w) v_ w_ y_ λL A=>?_⟩;refine dP (a.1.get? L) (λw=>?none) λx w=>?some
 case none=>rfl
 case some=>have:=z L x (y w) w;rw[z_ L A]at this;exact b8 this
end
section
variable{c:bR}{i:af}{e k f:aO}{h:c4}{j:ar->aO->Prop}{g:da}{l:aA}{b a d:M.bk}
def NS{D E:U->ar->Prop}{y:R V}(K:∀g l k z,D g l->E g k->y[g]?=Y z->∃a d,z=.F [a,d]/\ba n o m a l/\ba n o m d k):
 ∀{u:R a9}{g:U}{h:bF},bc n r p i s e h m q f->(∀a c,o a=Y c->h a=Y c)->(∀a∈u,fM p i e a/\¬es m q a)->hu D E f.1 g u->g+u.length=y.length->
  ∃j,bc n r p i s e j m q f/\(∀a c,h a=Y c->j a=Y c)/\bt n j m (y.drop g) (u.map dn)/\∀a,j a=h a\/a∈u:=by
 intro L
 induction L with
 |nil=>
  exact @λg h w x_ x_ x_ t=>dZ h w (λx_ x_ b=>b) (by rw[FC<|by simp at t;exact(a5 101 Z:N [_,_] (.A X S) [.C S X]) t];rfl) λx_=>.inl Z
 |cons a u a_=>
  exact @λg h w F G⟨⟨l,k,b_,c_,b⟩,d_⟩ t=>by
   have H:g<y.length:=by rw[dd]at t;exact wN t
   refine fA (K g l k _ b_ c_<|hQ H) λz u_ e_ f_ g_=>?_;have h_:∃j,bc n r p i s e j m q f/\(∀a c,h a=Y c->j a=Y c)/\j a=Y {cls:=.type "tuple",data:=.seq #[l,k]}/\∀d,j d=h d\/d=a:=by
    refine dP (h a) (λx=>?none) λi_ x=>?some
    case none=>
     refine jz (G a<|.head _) λj_ k_=>?_;refine dZ _ (w.H j_ ⟨x,k_⟩ b) (λd c l_=>(cP.A (a:=m) x).a d c l_) bF.B λd=>?_;by_cases v:d=a;.exact .inr v
     .exact .inl<|bF.A v
    case some=>
     have:=w.a.a a i_ x;rw[show f.1.get? a=_ from b]at this;have m_:=ch this;subst m_;exact dZ h w (λx_ x_ b=>b) x λx_=>.inl Z
   refine pT h_ λj n_ A o_ p_=>?_;refine pT (a_ n_ (λa c b=>A a c<|F a c b) (λd q_=>G d<|.tail _ q_) d_<|by rw[dd]at t;exact EA t) λI r_ B s_ t_=>?_;refine dZ I r_ (λa c b=>B a c<|A a c b) ?_ λd=>?_;.rw[te H,e_];haveI J:cP o I m m:=⟨λa c b=>B a c<|A a c<|F a c b,xc _⟩;exact cd (.ref a) _ Z (cd a ([l,k]) Z (am (by show 2<=_;exact aX Z) ⟨0,B _ _ o_⟩) ⟨l,[k],Z,f_.A J,k,[],Z,g_.A J,Z⟩) s_
   .refine b1 (t_ d) (λv=>?_) λv=>?_
    .refine b1 (p_ d) (λC=>?_) λC=>?_
     .exact .inl<|v.trans C
     .exact .inr<|C▸.head _
    .exact .inr<|.tail _ v
def XE(y:bc o r s i cE e p q t f){A D:R ar}(I:bt o p q u A)(J:bt o p q v D)(i_:A.length<=1000000){l K L a_ d:a9}(b_:∀a c,f.1.get? a=Y c->w.get? a=Y c)
 (F:f.1.get? l=ab)(j_:f.1.get? K=ab)(k_:f.1.get? L=ab)(l_:f.1.get? a_=ab)(E:f.1.get? d=ab)(D_:w.get? d=ab)
 (m_:ue (λh z=>A.toArray[h]?=Y z) (λh z=>D.toArray[h]?=Y z) l K L a_ (b3 A.toArray.size D.toArray.size) d w n m):dg o r s i e (.D<|eJ u v) t (.ref d) {f with heap:=n,toks:=x}:=by
 refine n7 m_ λn_ o_ c_ d_ p_=>?_;obtain⟨g,G⟩:=o_;haveI q_:b3 A.toArray.size D.toArray.size=(eJ u v).length:=by rw[vG,cY,cY,I.A,J.A]
 haveI r_:∀a c,f.1.get? a=Y c->n.get? a=Y c:=λa c b=>n_ a c (λj=>by rw[j,E]at b;exact b8 b) (λj=>by rw[j,F]at b;exact b8 b) (λj=>by rw[j,j_]at b;exact b8 b) (λj=>by rw[j,k_]at b;exact b8 b) (λj=>by rw[j,l_]at b;exact b8 b)<|b_ a c b;haveI s_:bc o r s i cE e p q t {f with heap:=n,toks:=x}:=y.B<|.A y.a r_ Z Z;have e_:∀a∈m,f.1.get? a=none:=λa k=>by
  refine dP (f.1.get? a) (λb=>?none) λc b=>?some
  case none=>rfl
  case some=>haveI:=b_ a c b;rw[p_ a k]at this;exact b8 this
 have f_:d∉m:=λk=>by
  haveI:∀{m:R a9}{h:U},hu (λh z=>A.toArray[h]?=Y z) (λh z=>D.toArray[h]?=Y z) n h m->d∈m->∃B C,dL n d B C:=by
   intro m
   induction m with
   |nil=>intro h _ k;exact bW k
   |cons a m t_=>
    intro h j k;rcases bj.1 k with rfl|k;.exact fA j.1 λB C x_ x_ b=>f9 B C b
    .exact t_ j.2 k
  refine d2 (this d_ k) λB C b=>?_;haveI u_:n.get? d=Y {cls:=.type "tuple",data:=.seq #[B,C]}:=b;rw[u_]at G;exact a2 (aF (λc:aD eB=>c.map (·.1)) G)<|by simp
 refine pT (NS (λh B C E_ v_ w_ y_=>by obtain⟨F_,l,z_,F,rfl⟩:=vF y_;exact cd _ _ Z (mY I z_<|by simpa using v_)<|mY J F<|by simpa using w_) s_ (λx_ x_ b=>b) (λa k=>am (y.C<|e_ a k) λH=>y.a.E H<|e_ a k) d_<|by rw[c_,q_];exact(aI (.B (.A 1)<|.A 1) Z:N [_] (.C (0+X) X) [])) λG_ A_ H_ B_ g_=>?_
 have h_:p d=none:=(y.a.D E).b;haveI C_:=A_.H (y.C E) ⟨by refine b1 (g_ d) (λl=>?_) λl=>?_;exact l.trans h_;exact a2 l f_,λH=>y.a.E H E⟩ G;refine ck _ _ C_ ⟨d,m.map dn,Z,(am ?_ ⟨g,bF.B⟩),?_⟩;.rw[bC,c_,cY];exact br (xh ..) i_
 .refine B_.B<|cP.A ?_;refine b1 (g_ d) (λl=>?_) λl=>?_
  .exact l.trans h_
  .exact a2 l f_
def r8{a:bT}(d:a.get? m≠ab):m<a.1.size:=by
 refine dP (a.get? m) (λb=>?none) λc b=>?some
 case none=>exact a2 b d
 case some=>exact dm b
def Br{b:a9->Prop}{a d:a9}(e:b a)(f:b d):∀g∈[a,d],b g:=λg c=>by
 rcases bj.1 c with rfl|c;.exact e
 .exact cm.1 c▸f
def Qe{a d:bT}(e:∀g c,a.get? g=Y c->d.get? g=Y c):a.get? d.1.size=none:=by
 refine dP (a.get? d.1.size) (λb=>?none) λc b=>?some
 case none=>rfl
 case some=>exact a2 (dm<|e _ _ b)<|hT _
def R'(x:bo a)(y:bo d):bo<|.u a d:=λ{q z l b_ i c_} A e f=>Ko A λd_ g r e_ f_ h g_ h_ B C g=>by
 rw[mn Z,he<|Z];refine fF<|e.3.A e.4 e.1.a.a B (e.1.a.a.a _<|ae Z) ?_;refine jQ (P:=λx_=>eN) Z (λf x_=>⟨.machine,.inr<|.inl Z,i0 Z⟩)<|iB ?_;refine im ?_;rw[mn Z,he<|by rw[jJ,jJ,g.2.2.1,g.2.2.2];rfl];refine ay<|e.3.A e.4 e.1.a.a C (e.1.a.a.a _<|ae Z) ?_;refine jQ (P:=λx_=>eN) Z (λf x_=>⟨.machine,.inr<|.inl Z,i0 Z⟩)<|iB ?_;haveI s:=e.2.a;refine im<|x g.1 e<|f.A λi_ f j_ z t m=>im<|y g.2.1 t.2<|f.A λk_ f D l_ h u=>bl ⟨ds,?_⟩;haveI m:=h.B m;haveI E:=(t.A h).1;refine f.C λm_ b f=>f.D λn_ F f=>?_;rw[g4 b]at m;rw[g4 F]at u;refine fl m λo_ G n=>?_;refine fl u λp_ H v=>?_;haveI j:=(h.2.4.B n.1).A;have k:=(h.2.4.B v.1).A;refine call_zip_2 j k λI w J K L a_ x_ o=>bl ⟨ds,?_⟩;have p:D.a.1.1.size+4<I.1.size:=dm w;refine J0 (Fl (r8<|n4 j)<|r8<|n4 k) (Zh (A:=q.e.in1.in1.in1) s _ _ (se (n:=0)<|n4 j) G.toArray) (Zh (A:=q.e.in1.in1.in1) s _ _ (se<|n4 k) H.toArray)
  (by rw[cY];exact br (xh ..) n.1.1) w J K ⟨L,j.at λc b=>o _ c b⟩ ⟨a_,k.at λc b=>o _ c b⟩
  (Br (f3 (cU _ _) p)<|e6 (r8<|n4 j)<|f3 (cU _ _) p)
  (Br (f3 (lH (aX Z) _) p)<|e6 (r8<|n4 k)<|f3 (cU _ _) p) (.head _) (.head _) λq_ r_ s_ r=>?_
 exact e.A.E (XE E n.2 v.2 n.1.1 o (hD _) (hD _) (eQ _) (hD _) (Qe o) (eQ _) r) f
end
def pH{e:R<|aJ×c}(d:e.lookup a=Y b):(a,b)∈e:=by
 induction e with
 |nil=>exact b8 d
 |cons g e h=>
  rw[ik]at d;refine c2 (a==g.1) (λf=>?false) λf=>?true
  case true=>
   rw[f]at d;have i:=ch d;subst i;rw[ce.1 f];exact .head _
  case false=>rw[f]at d;exact .tail _<|h d
def Pg{c:R<|aJ×b}(f:a∈c.map (·.1)):∃g,c.lookup a=Y g:=by
 induction c with
 |nil=>exact bW f
 |cons h c i=>
  rw[ik];refine c2 (a==h.1) (λd=>?false) λd=>?true
  case true=>exact a1 _ Z
  case false=>
   rcases bj.1 f with e|e;.rw[e,tF]at d;exact e4 d
   .exact i e
def KC:∀(h:R<|aJ×xA)(e:R<|aJ×a9),(∀c∈h,c.2=.free->∃i,a.4.lookup c.1=Y i)->(∀d∈e,a.4.lookup d.1=Y d.2)->
 ∃f,(s' h e λc r=>if(c.2==m')=Q then do let i<-cellOf a c.1;cN<|m0 ((c.1,i)::r)else cN (m0 r):Sem<|R<|aJ×a9)=cN f/\
  (∀d∈f,a.4.lookup d.1=Y d.2)/\(∀c∈h,c.2=.free->c.1∈f.map (·.1))/\∀d∈e,d∈f:=by
 intro h
 induction h with
 |nil=>exact λe u l=>dZ e Z l (λu b=>bW b) λu b=>b
 |cons c h s=>
  intro e o l;rw[m2];by_cases m:c.2=.free
  .refine a8 (o c (.head _) m) λi p=>?_;refine a8 (s ((c.1,i)::e) (λg b=>o g<|.tail _ b) (λd b=>by
    rcases bj.1 b with rfl|b;.exact p
    .exact l d b)) λf k=>?_
   refine dZ f ?_ k.2.1 (λg b j=>?_) λd b=>k.2.2.2 d<|.tail _ b
   .haveI q:(c.2==m')=true:=by rw[m];rfl
    haveI t:cellOf a c.1=cN i:=by unfold cellOf;rw[p]
    simp only[q,oT,t,qC];exact k.1
   .clear p;rcases bj.1 b with rfl|b
    .exact d4.2<|a1 _ ⟨k.2.2.2 _<|.head _,Z⟩
    .exact k.2.2.1 g b j
  .refine a8 (s e (λg b=>o g<|.tail _ b) l) λf n=>?_;refine dZ f ?_ n.2.1 (λg b j=>?_) n.2.2.2
   .haveI q:(c.2==m')=false:=by
     cases j:c.2<;>first|rfl|exact a2 j m
    simp only[q,ox,nd,qC];exact n.1
   .rcases bj.1 b with rfl|b
    .exact a2 j m
    .exact n.2.2.1 g b j
def Cx{c:fs}:∀{e:R<|aJ×xA}{d:aJ},
 (e.map λ(a,b)=>if(b==m'&&c.1.1==.function&&c.kindOf a==Y .cell)then(a,tr)else(a,b)).lookup d=e.lookup d\/
 (e.lookup d=Y .free/\(e.map λ(a,b)=>if(b==m'&&c.1.1==.function&&c.kindOf a==Y .cell)then(a,tr)else(a,b)).lookup d=Y .cell)
 |[],_=>.inl Z
 |(a,b)::i,d=>by
  haveI h:=@Cx c i d;show m6 d ((if(b==m'&&c.1.1==.function&&c.kindOf a==Y .cell)=Q then(a,tr)else(a,b))::_)=_\/(_/\m6 d ((if(b==m'&&c.1.1==.function&&c.kindOf a==Y .cell)=Q then(a,tr)else(a,b))::_)=_);by_cases f:(b==m'&&c.1.1==.function&&c.kindOf a==Y .cell)=Q
  .rw[au f];simp only[ez]at f;haveI j:b=.free:=by haveI:=f.1.1;cases b<;>first|rfl|exact bx this
   rw[ik,ik];refine c2 (d==a) (λg=>?false) λg=>?true
   case true=>exact .inr ⟨by rw[j],Z⟩
   case false=>exact h
  .rw[ao f,ik,ik];refine c2 (d==a) (λg=>?false) λg=>?true
   case true=>exact .inl Z
   case false=>exact h
section
variable{i:b4}{h:bR}{k s:bF}{j q:cj}{d:af}{f l m:aO}{o:c4}{p:ar->aO->Prop}{b:da}{c:fs}{e n:aA}{r:a9->Prop}{a:fO}{g:qM}
def vV(e:mK b a g=Q):g.1=.function/\(∀c∈g.2,c.2=.local->g.2.lookup c.1=Y .local)/\(∀c∈g.2,c.2≠.cell)/\
 (∀c∈g.2,c.2=.free->g.2.lookup c.1=Y .free/\(b.c.2.lookup c.1=Y .cell\/b.c.2.lookup c.1=Y .free)/\∃f,bD (f∈b.b)<|b.a f=c.1)/\
 (∀c∈hd a,g.2.lookup (b.a c)=Y .local)/\((eR b a g).b.map b.a).Nodup:=by
 haveI j:=aP e;haveI i:=aP j.2;haveI k:=aP i.2;exact gv (f5 j.1) (λc d h=>ce.1<|AQ (aP<|fk i.1 d).1<|ce.2 h) (λc d h=>PS (aP (aP<|fk i.1 d).2).1<|ce.2 h)
  (λc d h=>haveI f:=aP<|AQ (aP (aP<|fk i.1 d).2).2<|ce.2 h;haveI l:=aP f.2;aL (ce.1 f.1) (kn l.1 (λe=>.inl<|ce.1 e) λe=>.inr<|ce.1 e)<|d4.1<|td.1 l.2)
  (λc d=>ce.1<|fk k.1 d) (f5 k.2)
def bJ.J(h:bJ i k j d b c e u)(f:b.c.2.lookup t=Y .cell\/b.c.2.lookup t=Y .free):c.kindOf t≠Y .local:=by
 intro g;rcases h.h t with a|⟨_,a⟩;.rw[g]at a;refine b1 f (λf=>?_) λf=>?_<;>rw[f]at a<;>cases a
 .rw[g]at a;cases a
def KB(p:bJ i k j d b c e t)(r:mK b a g=Q):∃l,closureFor g c=cN l/\(∀f h,l.lookup f=Y h->c.4.lookup f=Y h)/\∀f,g.2.lookup f=Y .free->∃h,l.lookup f=Y h:=by
 haveI s:=vV r;refine a8 (KC g.2 [] (λu n m=>by obtain⟨_,v,w,x,q⟩:=s.2.2.2.1 u n m;haveI:=p.d w x (by rw[q];exact p.J v);obtain⟨_,h,y⟩:=this;exact a1 h<|q▸y.1) λz n=>bW n) λl o=>?_
 refine cW l ?_ (λf h m=>o.2.1 _<|pH m) λf m=>Pg<|o.2.2.1 _ (pH m) Z;simp only[closureFor];rw[o.1,qC]
def ib(e:aA)(a:fO):aA:=λb=>if b∈hd a then ab else e b
def bJ.C_{y:bT}(p:bJ i k j d b c e y)(H:mK b a g=Q)(q:∀h f,u.lookup h=Y f->c.4.lookup h=Y f)(I:∀h,g.2.lookup h=Y .free->∃f,u.lookup h=Y f)
 (J:y.Ns t v)(C:eD k j d t)(K:¬du c t):bJ i k j d (eR b a g) (io g u t c) (ib e a) y:=by
 haveI r:=vV H;haveI s:∀h,(io g u t c).kindOf h=g.2.lookup h\/(g.2.lookup h=Y .free/\(io g u t c).kindOf h=Y .cell):=λh=>Cx;have D:∀m,m∈(eR b a g).b->m∈hd a\/bD (m∈b.b) (g.2.lookup (b.a m)=Y .free):=λm v=>by simp only[eR,ge,FN,ce]at v;exact v
 have L:∀f,du (io g u t c) f->f=t\/du c f:=λf v=>by
  rcases v with l|⟨h,l⟩;.exact .inl l
  .exact .inr<|.inr<|a1 h<|q h f l
 refine⟨r.1,p.g,p.j,s,(ax v J λm z A E o=>?_),λh f B=>?_,λm z A=>?_,λh a_ f B w=>p.i h a_ f (q _ _ B)<|q _ _ w,r.2.2.2.2.2,λf l=>?_⟩
 .rcases D m z with l|⟨_,l⟩
  .unfold ib at o;rw[au l]at o;exact b8 o
  .haveI x:(io g u t c).kindOf (b.a m)=Y .local:=A;rcases s (b.a m)with n|⟨_,n⟩
   .rw[x,l]at n;cases n
   .rw[x]at n;cases n
 .haveI w:=q h f B;refine am (λl=>K<|.inr<|a1 h<|(show f=t from l)▸w)<|(p.c h f w).2
 .haveI x:(io g u t c).kindOf (b.a m)≠Y .local:=A;rcases D m z with l|⟨b_,l⟩
  .rcases s (b.a m)with n|⟨n,_⟩
   .exact a2 (n.trans<|r.2.2.2.2.1 m l) x
   .rw[r.2.2.2.2.1 m l]at n;cases n
  .refine a8 (I _ l) λf F=>?_;haveI c_:=r.2.2.2.1 _ (pH l) Z;obtain⟨_,g_,d_,e_,G⟩:=p.d m b_<|p.J c_.2.1;haveI:=q _ _ F;rw[d_]at this;have f_:=ch this;subst f_;refine am ?_ ⟨f,F,e_,G.1,λE o=>G.2 E ?_⟩
   .rcases s (b.a m)with n|⟨_,n⟩
    .exact .inr<|n.trans l
    .exact .inl n
   .unfold ib at o;split at o
    .exact b8 o
    .exact o
 .rcases L f l with rfl|l
  .exact am C.b C.a
  .exact p.a f l
def bc.H_(c:bc i k j d cE f v t u m)(q:bf i v t u l.1){p:a9->Prop}(r:∀b,p b->fM j d f b)(s:∀b h,¬p b->¬es t u b->m.1.get? b=Y h->l.1.get? b=Y h)
 (w:l.5=m.5)(x:l.2=m.2):bc i k j d cE f v t u l:=by
 refine⟨c.b,q,c.g,c.d,λb h g n o=>s b h (λa=>?_) (λy=>?_)<|c.c b h g n o,λb o z=>o.elim,w.trans c.f,x.trans c.e⟩
 .refine b1 (r b a) (λe=>?_) λe=>?_
  .exact n e
  .rw[e]at g;exact b8 g
 .refine b1 (c.d b y) (λe=>?_) λe=>?_
  .exact n e
  .rw[e]at g;exact b8 g
def KV(C:t.f=notedBy (bd t.a.b t.a.a) t.e t.b λs l=>w (.error s) l)(d:U->aO->Prop)
 (E:∀c f,d c f->b0 t (nb u) (λi m=>match i with
  |none=>w (.ok .next) m
  |some j=>b0 t (xU v u j) (λH n=>b0 t (i1 v t.b j) (λH o=>b0 t (pz t.b x Q) (λD k=>if D=Q then b0 t (dX y t.b) (λe p=>
   b0 t (fJ (.builtin "list.append") [z,e]) (λH q=>∃b,b<c/\d b q) p) k else∃b,b<c/\d b k) o) n) m) f)
 (c:U)(a:d c f):kH (bd t.a.b t.a.a) t.e (.compLoop (.ListComp y [⟨v,A,x,0⟩] g B) 0 u z t.b) w f:=by
 refine codeAny_loop Z d (λc f F=>?_) c a;show bh _ t.e ((compTurn (.ListComp y [⟨v,A,x,0⟩] g B) 0 u z t.b).onRaise λe=>do noteFrame e t.b;theTreesLotGoes e) _ _ f;refine wpAny_noted ?_;rw[<-C,compTurn_list];refine ay<|lR<|ay<|fG (E c f F) λi m r=>?_;cases i with
 |none=>exact bl r
 |some j=>
  refine ay<|fG r λH n a=>ay<|fG a λH o a=>ay<|fG a λG k a=>?_;cases G with
  |false=>exact bl ⟨Z,a.elim λb h=>⟨b,h.1,h.2⟩⟩
  |true=>exact ay<|ay<|fG a λe p a=>ay<|fG a λH q a=>bl<|bl ⟨Z,a.elim λb h=>⟨b,h.1,h.2⟩⟩
def tM(c:cG)(d:a9)(e:R V)(a:cH):Prop:=∃b f,a.a.1.get? d=Y {cls:=.type "list",data:=.seq b.toArray f}/\op c a e b
structure tH where
 b:cH
 c:af
 e:R a9
 d:R a9
 g:U->bT->Prop
 f:cH
 a:a9
inductive nf(c:cG)(e:aA)(b:tH)(f:U)(g:R V)(a:cH)(d:af):Prop
 |B (h:iw c b.b b.c a d) (i:cP b.f.c a.c b.f.b a.b) (j:cI c e a d) (k:ir a.c a.b d c.b b.e b.d) (l:b.g f a.a.1) (m:tM c b.a g a) (n:eD a.c a.b d b.a)
inductive x4(b:cG)(c:tH)(e:R V)(a:cH)(d:af):Prop
 |A (g:iw b c.b c.c a d) (h:∃f,a.a.1.Ns b.b.2 f) (i:tM b c.a e a) (j:eD a.c a.b d b.b.2) (k:eD a.c a.b d c.a)
def nf.A(a:nf t e u v w x d)(f:e7 t.a t.e C D E u.e u.d F u.g G)(b:iw t x d y z):nf t e u v w y z:=
 ⟨a.1.B b,a.2.C b.b,a.3.G b,a.4.B (λi t=>t.elim) f.b b<|f.c _ _ a.5,f.a _ _ _ a.5<|a.4.A (λi t=>t.elim) a.3.4 b,a.6.elim λg c=>c.elim λh c=>ck g h (b.K a.7 (λt=>t) c.1)<|bt.B b.b c.2,a.6.elim λg c=>c.elim λh c=>b.D a.7<|by rw[c.1];nofun⟩
def e7.B{A:U->bT->Prop}(H:e7 i o s q t x u y A z){F I:aO->Prop}
 (J:y[v]?=Y D)(K:dY a D e=Y n)(L:gV b a w=Q)(b_:z=Q->∃a_,a=.B a_)(c_:cP s k q j)(d_:A v f.1)(e_:bJ i k j d b c e f.1)(f_:bf i k j d f.1)(g_:ir k j d c x u)(h_:nq i o b c r<|hd a)(i_:∀g,r g->du c g)
 (j_:∀l,bJ i k j d b c n l.1->bf i k j d l.1->A (v+1) l.1->(∀g h,g∉u->¬r g->f.1.get? g=Y h->(¬es j d g)->l.1.get? g=Y h)->l.5=f.5->l.2=f.2->F l):
 bh (bd i.b i.a) o (nb<|.ref t) (λC m=>match C with|none=>I m|some E=>bh (bd i.b i.a) o (xU w (.ref t) E) (λx_ k_=>bh (bd i.b i.a) o (i1 w c E) (λx_ l_=>F l_) p k_) p m) p f:=
 kJ (H.e J K L b_ c_ d_ e_ f_ g_ h_ i_ j_) (λC m G=>by
  cases C with
  |none=>exact G.elim
  |some E=>exact G) λx_ x_ m_=>m_
def TL:∀{c:R<|U×V}{e:aA}{b:U},(∀a∈c,a.1≠b)->fq e c b=e b:=by
 intro f
 induction f with
 |nil=>exact @λj j j=>Z
 |cons a c g=>exact @λe b d=>(g (e:=e.A a.1 a.2) λh i=>d h<|.tail _ i).trans<|lA<|f4<|d a<|.head _
def Jz(c:dY a u e=Y n)(d:t∉hd a):n t=e t:=by
 cases a with
 |A i=>have f:=ch c;subst f;exact lA λb=>d<|by rw[b];exact .head _
 |B j=>
  refine jA (ph c) λk m m g=>?_;subst g;exact TL λl h b=>d<|b▸(xb h).1
def OV(d:dY a v (ib e a)=Y n)(b:ib e a t=Y u):n t=Y u:=by
 by_cases c:t∈hd a;.unfold ib at b;rw[au c]at b;exact b8 b
 .exact(Jz d c).trans b
def x'(c:cG)(d:tH)(e:R V)(f:aO->Prop):R V×af->Prop:=λa=>∀b,x4 c d (e++a.1) b a.2->f b.a
def KU{a_:bQ}{p:R V}(t_:t.f=notedBy (bd t.a.b t.a.a) t.e t.b λv l=>y (.error v) l)
 (H:e7 t.a t.e u.f.c u.f.b A u.e u.d p u.g B)(u_:B=Q->∃s,a=.B s)(v_:bo z)(w_:i7 ht a_)(y_:gV t.c a C=Q)(z_:dN t.c a_ D=Q)(A_:bm t.c z v=Q)(C_:∀B_∈hd a,t.b.kindOf (t.c.a B_)=Y .local)(p__:p.length<=1000000)
 (D_:fM u.b.b u.c u.b.a u.a)(E_:fM u.b.b u.c u.b.a t.b.2)(j_:∀c_∈u.d,fM u.b.b u.c u.b.a c_)(k_:¬du t.b u.a)(l_:u.a∉u.e)
 (i:aZ (ek (λe d=>ai t.d z e d) (λe d=>d' t.d a_ e d) a p e x)<|x' t u []<|y<|.ok .next)(b:nf t (ib e a) u 0 [] w x):
 kH (bd t.a.b t.a.a) t.e (.compLoop (.ListComp v [⟨C,E,D,0⟩] g F) 0 (.ref A) (.ref u.a) t.b) y w.a:=by
 refine KV t_ (λj l=>∃o q w x,l=w.a/\j=p.length+1-o/\o<=p.length/\q.length<=o/\aZ (ek (λe d=>ai t.d z e d) (λe d=>d' t.d a_ e d) a (p.drop o) e x) (x' t u q<|y<|.ok .next)/\
  nf t (ib e a) u o q w x) ?_ (p.length+1)<|NV 0 ([]) w x Z Z (c8 _) (aY _) i b
 clear i b;rintro j m ⟨o,q,w,x,rfl,rfl,F_,m_,i,b⟩;have G_:t.b.2∉u.e:=λj=>by
  refine b1 (b.4.2 _ j) (λk=>?_) λk=>?_;.exact k (b.3.3.a _<|.inl Z).1
  .exact k.2<|.inl Z
 have n_:u.a∉u.d:=λj=>l_<|H.b _ j;have H_:t.b.2∉u.d:=λj=>G_<|H.b _ j;by_cases I:o<p.length
 .rw[te I]at i;refine aZ.C i λn I_ i=>?_;have o_:dY a p[o] (ib e a)=Y n:=Jy I_ λb_ d_=>by unfold ib;rw[ao d_]
  refine H.B (hQ I) o_ y_ u_ b.2 b.5 b.3.3 b.3.4 b.4 (Td C_) (λc k=>.inl k) λe_ p_ f_ J_ K K_ L_=>?_;haveI a__:tM t u.a q ⟨w.c,w.b,e_⟩:=b.6.elim λs r=>r.elim λg_ r=>ck s g_ (K u.a _ n_ (λk=>k_<|.inl k) r.1 b.7.a) r.2;haveI c__:nf t (ib e a) u (o+1) q ⟨w.c,w.b,e_⟩ x:=
   ⟨b.1.H_ f_ (p:=λc=>c∈u.d\/c=t.b.2) (λc f=>by rcases f with f|rfl;exact j_ c f;exact E_) (λc h f b__ v=>K c h (λj=>f<|.inl j) (λj=>f<|.inr j) v b__) K_ L_,b.2,⟨b.3.1,b.3.2,p_.B_ λb_ q__ k=>OV o_ k,f_⟩,b.4,J_,a__,b.7⟩
  refine Od (b:=⟨w.c,w.b,e_⟩) w_ z_ ⟨b.3.1,b.3.2,p_,f_⟩<|i.A λL i d__ q_=>?_;haveI r_:=c__.A H q_.1;obtain⟨e__,f__⟩:=L;cases e__ with
  |false=>exact ax (p.length+1-(o+1)) (by exact s6 I) ⟨o+1,q,d__,f__,Z,Z,I,by exact(aj Z:N [_,_] (.A X<|S+1) [.A X S]) m_,i,r_⟩
  |true=>
   refine v_ A_ q_.2<|aZ.A i λL i J b_ g__ d_=>?_;have G:=r_.A H g__.1;refine d2 G.6 λs j k=>?_;have h__:s.length=q.length:=bt.A k.2;refine append_at k.1 λh_ i__ j__=>?_;haveI i_:∀c h,c≠u.a->J.a.1.get? c=Y h->h_.get? c=Y h:=λc h k__ v=>i__.extBut c h k__ v;refine ax (p.length+1-(o+1)) (by exact s6 I) ⟨o+1,q++[L.1],⟨J.c,J.b,{J.a with heap:=h_}⟩,L.2,Z,Z,I,by rw[cs];simp;exact(aj Z:N [_,_,_] (.A X S) [.C O X,.A X S]) h__ m_,aZ.A i λr__ i w f=>i.B w<|by rw[f2]at f;exact f,?_⟩;haveI s_:iw t u.b u.c ⟨J.c,J.b,{J.a with heap:=h_}⟩ L.2:=G.1.G (r:=λc=>c=u.a) (λc f=>f▸(am D_ G.7)) (λx_ x_ t=>t) (λc h f v=>i_ c h f v) Z Z;exact⟨s_,G.2,⟨b.3.1,b.3.2,G.3.3.D λc t h v=>i_ c h (λf=>k_<|f▸t) v,s_.a⟩,G.4,H.a _ _ _ G.5 λc_ j h v=>i_ c_ h (λf=>l_<|f▸j) v,(ck (s++[b_]) (j+1) (by rw[j__];simp)<|bt.D k.2<|cd b_ ([]) Z d_ Z),G.7⟩
 .have l__:o=p.length:=by exact wO F_ I
  subst l__;rw[Yj]at i;have i:=aZ.B i;refine H.d _ _ _ b.5 λm__ n__ K=>?_;haveI f:=i ⟨w.c,w.b,{w.a with heap:=m__,toks:=n__}⟩;rw[hP]at f;exact f ⟨b.1.G (λc f=>am (j_ c f)<|(b.4.1 c f).1) (λx_ x_ t=>t) (λc h f v=>K c h f v) Z Z,b.3.3.e.elim λo__ k=>a1 o__<|k.1.at' λh v=>K _ h H_ v,b.6.elim λs r=>r.elim λg_ r=>ck s g_ (K u.a _ n_ r.1) r.2,⟨(b.3.3.a _<|.inl Z).1,(b.3.3.a _<|.inl Z).2⟩,b.7⟩
end
section
variable{a:cG}{c:cH}{b:af}
def Pi{h:aA->af->aD (aE×af)}:∀{f:R V}{i:aA}{b:af}{c:R V×af},ek d h e f i b=Y c->c.1.length<=f.length:=by
 intro j
 induction j with
 |nil=>
  exact @λr r r a=>cZ a▸aY _
 |cons m f g=>
  exact @λr r r a=>cv a λn r a=>cv a λc r a=>by
   obtain⟨k,o⟩:=c;cases k with
   |false=>exact m8<|g a
   |true=>exact cv a λp r a=>cv a λq l a=>cZ a▸jM (g l)
def Ka{h:aE}(g:x4 a d e c b)(s:e.length<=1000000)(o:fM d.b.b d.c d.b.a d.a)(p:d.a≠a.b.2)(q:(if h then((.B b.a:V),b.B<|.A e)else(.D e,b))=f):
 ∃k l,bc a.a d.b.c d.b.b d.c cE d.b.a k l f.2 c.a/\ba a.a k l f.1 (.ref d.a)/\eD k l f.2 a.b.2:=by
 refine d2 g.3 λj m i=>?_;have r:j.length<=1000000:=by rw[bt.A i.2];exact s
 cases h with
 |false=>
  cases q;haveI t:cP c.c (c.c.C d.a {cls:=.type "list",data:=.seq j.toArray m}) c.b c.b:=cP.A g.5.b;exact cd _ _ (g.1.H o g.5 i.1) (cd d.a j Z (am r ⟨m,bF.B⟩)<|bt.B t i.2) ⟨(bF.A<|f4 p).trans g.4.b,g.4.a⟩
 |true=>
  cases q;haveI u:=g.1.D_ (m:=(d.a,d.a)) (l:=.A e) (λv h=>by cases cm.1 h;exact am o g.5)<|ax j (am r ⟨m,i.1⟩) i.2;refine cd _ _ u (ck d.a d.a ?_ Z) ⟨g.4.b,λh=>?_⟩;.rw[<-g.1.a.b,oB<|aY _];simp
  .refine b1 (pY g.1.a.b h) (λn=>?_) λn=>?_
   .exact g.4.a n
   .exact p (cm.1 n).symm
def BU(b:hG d=Q)(a:ar):foldedSetIterable d e a=cN a:=by cases d<;>first|rfl|exact bx b
def Co(a:ls d e=Q)(c:u4 e=Q):∃b,d=.B b:=by
 unfold ls at a;rw[c]at a;cases d with
 |A _=>exact bx a
 |B b=>exact a1 b Z
def TT(a:cG)(h:aD<|ar->Sem Unit)(f:ar->aO->Prop)(c g:a9)(d:aO):Prop:=match h with
 |none=>∀b,xy c d.1 b->f (.ref g) {d with heap:=b}
 |some i=>b0 a (i<|.ref g) (λk e=>∃j,bD (e.1.Ns c j)<|∀b,xy c e.1 b->f .none {e with heap:=b}) d
def cG.B(a:cG)(c:da)(b:fs)(d:Result->aO->Prop):cG:=⟨a.a,a.d,a.g,a.e,c,b,notedBy (bd a.a.b a.a.a) a.e b λe f=>d (.error e) f⟩
def zH(C_:iv i)(D_:bo k)(E_:i7 ht l)
 (n_:(mK a.c f d&&ls f i&&k6 a.c i h&&hG h&&gV (eR a.c f d) f m&&dN (eR a.c f d) l n&&bm (eR a.c f d) k g)=Q)(G:cI a o c b)
 (I:aZ (ai a.d (.d e k f i l) o b) λA=>∀B H o_,iw a c b B A.2->lC a B A.1 (.ref o_)->eD B.c B.b A.2 H->fM c.b b c.a H->¬du a.b H->(∃e,B.a.1.Ns H e)->TT a j p H o_ B.a):
 b0 a (comprehension (.ListComp g [⟨m,h,n,0⟩] d q) d a.b r (newList []) M (dX h a.b) j) p c.a:=by
 simp only[ez]at n_;refine fj n_ λF_ G_=>?_;obtain⟨⟨⟨⟨⟨b_,H_⟩,I_⟩,J_⟩,K_⟩,L_⟩:=F_;haveI J:=vV b_;obtain⟨C,L⟩:=KB G.3 b_;refine wpAny_comprehension_free Z (λD=>BU J_ D) L.1 J.1 J.2.1<|C_ I_ G<|I.A λA I s a__ c_ p_ b__ E y=>?_;refine aZ.D I λw q_ I=>?_;refine G1<|wpAny_newFunctionEnv J.2.2.1 (by intro p__ c__;simp at c__) (λK r_ d_=>?_) J.1;haveI s_:=E.2.3;have e_:=y.A G.3;generalize f_:s.a.1.push {cls:=.type "list",dict:=ab,data:=.seq ([]:R ar).toArray}=x at r_ d_⊢;have g_:x.1.size=s.a.1.1.size+1:=by rw[<-f_,lJ]
 have h_:s.a.1.1.size≠x.1.size:=by rw[g_];exact ed<|eV _
 have a_:∀v z,s.a.1.get? v=Y z->K.get? v=Y z:=λv z g=>d_.extBut v z (by haveI:=dm g;rw[g_];exact ed<|il this)<|dV _<|f_▸dV _ g;haveI d__:K.get? s.a.1.1.size=Y {cls:=.type "list",data:=.seq ([]:R ar).toArray}:=d_.extBut _ _ h_<|dV _<|f_▸d5 _ Z;have F:s.a.1.get? x.1.size=none:=by rw[g_];exact rO _
 have i_:∀u,s.a.1.get? u=ab->¬du a.b u:=λu t w=>s_.B w t;haveI e__:eD s.c s.b A.2 x.1.size:=E.1.a.D F;haveI f__:eD s.c s.b A.2 s.a.1.1.size:=E.1.a.D<|eQ _;have t_:fM c.b b c.a x.1.size:=E.1.C F;haveI u_:fM c.b b c.a s.a.1.1.size:=E.1.C<|eQ _;have j_:∀u,s.a.1.get? u=ab->u∉c_:=λu t e=>y.a.c _ _ y.c u e t;have k_:∀u,du (io d C x.1.size a.b) u->u=x.1.size\/du a.b u:=λu e=>by
  rcases e with w|⟨v_,w⟩;.exact .inl w
  .exact .inr<|.inr<|a1 v_<|L.2.1 v_ u w
 haveI w_:iw a c b ⟨s.c,s.b,{s.a with heap:=K,toks:=s.a.4+([]:R<|aJ×ar).length}⟩ A.2:=E.1.B<|.A E.1.a a_ Z Z;haveI y_:bJ a.a s.c s.b A.2 (eR a.c f d) (io d C x.1.size a.b) (ib o f) K:=
  bJ.C_ (s_.D λu x_ z g=>a_ u z g) b_ L.2.1 L.2.2 r_ e__ (i_ _ F)
 haveI g__:ir s.c s.b A.2 (io d C x.1.size a.b) c_ p_:=by
  refine am (λv e=>am ((e_.1 v e).1) λw=>?_) λv e=>?_
  .refine b1 (k_ v w) (λt=>?_) λt=>?_
   .exact j_ _ F<|t▸y.a.b v e
   .exact(e_.1 v e).2 t
  .refine b1 (e_.2 v e) (λt=>?_) λt=>?_
   .exact .inl t
   .refine .inr<|am t.1 λw=>?_;refine b1 (k_ v w) (λl_=>?_) λl_=>?_
    .exact j_ _ F<|l_▸e
    .exact t.2 l_
 have j__:∀D∈hd f,(io d C x.1.size a.b).kindOf ((eR a.c f d).a D)=Y .local:=λD h__=>by
  have:=y_.h<|(eR a.c f d).a D;haveI i__:(eR a.c f d).c.2.lookup ((eR a.c f d).a D)=Y .local:=J.2.2.2.2.1 D h__;rw[i__]at this;rcases this with t|⟨t,_⟩;.exact t
  .cases t
 have k__:∀u,du (io d C x.1.size a.b) u->s.a.1.1.size≠u:=λu w g=>by
  subst g;refine b1 (k_ _ w) (λt=>?_) λt=>?_;.exact h_ t
  .exact i_ _ (eQ _) t
 haveI B_:kH (bd a.a.b a.a.a) a.e (.compLoop (.ListComp g [⟨m,h,n,0⟩] d q) 0 (.ref a__) (.ref s.a.1.1.size)<|io d C x.1.size a.b)
  (compPost (bd a.a.b a.a.a) a.e a.f j p (.ref s.a.1.1.size) x.1.size) {s.a with heap:=K,toks:=s.a.4+([]:R<|aJ×ar).length}:=by
  refine KU (t:=a.B (eR a.c f d) (io d C x.1.size a.b) _) (u:=⟨c,b,c_,p_,b__,s,s.a.1.1.size⟩) Z y.a (Co H_) D_ E_ K_ L_ G_ j__ y.d u_ t_ (λv e=>(y.b v e).2) (λw=>k__ _ w Z) (j_ _<|eQ _) (ax w q_ λB t=>?_)
   ⟨w_,cP.B _ _,⟨G.1,G.2,y_,w_.a⟩,g__,y.a.a _ _ _ y.c λv x_ z g=>a_ v z g,(ck ([]) _ d__ Z),f__⟩
  obtain⟨l__,m__,m_⟩:=Ka t (br (Pi q_) y.d) u_ h_ Z;obtain⟨z_,A_⟩:=t.2;have:=I ⟨l__,m__,B.a⟩ x.1.size s.a.1.1.size m_.1 m_.2.1 m_.2.2 t_ (i_ _ F)<|a1 z_ A_;cases j with
  |none=>exact a1 z_ ⟨A_,λn__ o__=>this n__ o__⟩
  |some q__=>exact this
 exact codeAny_compStart_list B_<|y.a.f 0 _ _ _ (y.a.a _ _ _ y.c λv x_ z g=>a_ v z g) B_
def R1(o:iv d)(p:bo e)(q:i7 ht f):bo<|.d g e h d f:=λ{a B C c b D} r m j=>zz r λn E F G H I s=>by exact zH o p q s m<|j.H λJ j k t K u v w x L a_ y z=>j ⟨k.c,k.b,{k.a with heap:=y}⟩ _ (m.B<|u.G (r:=λi=>i=t) (λi l=>l▸(am x w)) (λx_ x_ a=>a) (λi A l n=>z.extBut i A l n) Z Z) v
end
def uD(a:U):(gf 10 a).length<=a+1:=
 (YU (ae Z)<|xl a).2 (eA (Nat.lt_pow_self (ae Z:1<10))<|Nat.pow_le_pow_right (ae Z)<|eU a)
def Pl(b:an):(ic b).length<=mD b:=by
 cases b with
 |A c=>show c.toList.length<=c.length;rw[String.length_toList];exact aY _
 |C a=>exact uD a
 |D a=>exact jM<|uD a
 |B a=>exact jM<|uD a
def Cz(a:an):(reprText<|bv a).length<=10*mD a+2:=by
 refine br (StrLaws.reprText_len (bv a) λe c=>?_) ?_
 .rw[pm,lL]at c;obtain⟨d,_,rfl⟩:=d4.1<|show e∈(rF a).toList.map Fv from c;haveI:=d.2;haveI b:d.toNat<1114112:=by
   refine b1 this (λb=>?_) λb=>?_;.exact e6 b<|ae Z
   .exact b.2
  exact e6 b<|ae Z
 .haveI:=Pl a;rw[<-rD]at this;exact(aI (.C [1,10]) Z:N [_,_] (.A ((.A 10 X)+2)<|(.A 10 S)+2) [.A X S]) this
mutual
noncomputable def v2:∀{e:V},cM e=Q->(fE e).shown.length<=cA e
 |.C,_=>by rw[PyData.shown_none];decide+kernel
 |.G c,_=>by show(ZA c).shown.length<=5;rw[ZF];cases c<;>decide+kernel
 |.A f,_=>by show(PyData.int f).shown.length<=f.natAbs+2;rw[PyData.shown_int];haveI:=len_str_of_int f;exact e5.1 this
 |.E g,_=>by show(ZG<|bv g).shown.length<=10*mD g+2;rw[PyData.shown_str];exact Cz g
 |.F b,a=>EB (v1 (b:=b) a)<|Z0<|kE<|hL b
 |.D b,a=>EB (v1 (b:=b) a)<|ZW<|kE<|hL b
 |.J _,a|.L _ _,a|.B _,a|.H _,a|.K _,a|.I _,a=>bx a
noncomputable def v1:∀{b:R V},dQ b=Q->((kE<|hL b).map (·.length)).sum+2*(kE<|hL b).length<=dK b
 |[],_=>aY 0
 |h::d,a=>by have i:=f1.1<|show(cM h&&dQ d)=Q from a;haveI j:=v2 i.1;haveI c:=v1 i.2;show(fE h).shown.length+((kE<|hL d).map (·.length)).sum+2*((kE<|hL d).length+1)<=cA h+2+dK d;exact(aj Z:N [_,_,_,_,_] (.A (X+S+(.A 2<|O+1))<|ag+2+aB) [.A (S+(.A 2 O)) aB,.A X ag]) c j
end
mutual
noncomputable def vZ:∀{d:V},cM d=Q->cA d<10000000->(fE d).showable=Q/\(fE d).hasDict=M/\(fE d).depth<=cT d
 |.C,_,_=>by exact aL Z Z<|c8 _
 |.G f,_,_=>by exact aL Z Z<|c8 _
 |.A k,_,a=>by exact aL (c0<|Bk<|by exact UG a) Z<|c8 _
 |.E l,_,_=>by exact aL Z Z<|c8 _
 |.F b,a,e=>by have c:=v0 (a)<|EC e;exact aL (c.1) (c.2.1)<|jM c.2.2
 |.D b,a,e=>by have c:=v0 (a)<|EC e;exact aL (c.1) (c.2.1)<|jM c.2.2
 |.J _,a,_|.L _ _,a,_|.B _,a,_|.H _,a,_|.K _,a,_|.I _,a,_=>bx a
noncomputable def v0:∀{b:R V},dQ b=Q->dK b<10000000->xF (hL b)=Q/\xE (hL b)=M/\xD (hL b)<=eu b
 |[],_,_=>by exact aL Z Z<|c8 _
 |i::j,a,e=>by have h:=f1.1<|show(cM i&&dQ j)=Q from a;haveI g:=vZ h.1<|(aj Z:N [_,_] (.B X 10000000) [.B (X+2+S) 10000000]) e;haveI f:=v0 h.2<|(aj Z:N [_,_] (.B X 10000000) [.B (S+2+X) 10000000]) e;exact aL (f1.2 ⟨g.1,f.1⟩) (w0.2 ⟨g.2.1,f.2.1⟩)<|Ee g.2.2 f.2.2
end
section
variable{a:aO}
mutual
noncomputable def vQ(g:bf b c d e a.1):∀{n:V}{o:ar},cM n=Q->ba b c d n o->∃h,Reads a.1 o (fE n) h
 |.C,_,_,f=>by cases(f:_=_);exact a1 _<|.none
 |.G w,_,_,f=>by cases(f:_=_);exact a1 _<|.bool w
 |.A x,_,_,f=>by refine a8 f λp y=>?_;subst y;exact a1 _<|.int x p
 |.E t,_,_,f=>by refine fR f λp u=>?_;exact a1 _<|.str _ p
 |.F i,_,k,f=>by refine fA f λz j l q r=>?_;subst l;obtain⟨_,t,s⟩:=q;refine a8 (vR g (k) r) λh m=>?_;exact a1 _<|.tuple (g.a _ _ s) Z Z m
 |.D i,_,k,f=>by refine fA f λz j l q r=>?_;subst l;obtain⟨_,t,s⟩:=q;refine a8 (vR g (k) r) λh m=>?_;exact a1 _<|.list (g.a _ _ s) Z Z m
 |.J _,_,f,_|.L _ _,_,f,_|.B _,_,f,_|.H _,_,f,_|.K _,_,f,_|.I _,_,f,_=>bx f
noncomputable def vR(g:bf b c d e a.1):∀{i:R V}{j:R ar},dQ i=Q->bt b c d i j->∃h,ReadsAll a.1 j (hL i) h
 |[],_,_,f=>by cases(f:_=_);exact a1 _<|.nil
 |A::m,_,k,f=>by refine bS f λo j l u=>?_;subst l;haveI v:=f1.1<|show(cM A&&dQ m)=Q from k;refine a8 (vQ g v.1 u.1) λh B=>?_;refine a8 (vR g v.2 u.2) λD C=>?_;exact a1 _<|.cons B C
end
def Rj:ne b .epilog:=by
 intro j k A a B C D l p _ q E r g f c;refine cL c (λc=>dB c λe d l=>?_) λc=>cv c λm d c=>dA c λn c=>?_;.rw[nE d]at f;cases l;cases(f:p=.bool e);refine P.repr_of_bool ?_;haveI d:(ZA e).shown=(if e then"True"else"False":aJ):=ZF e;exact .A g (show ba b j k (.K<|.G e) _ from⟨_,by rw[<-d];rfl⟩) _
 .haveI d:=g4 d;subst d;have s:=ch c;subst s;simp only[ez,jR]at n;obtain⟨⟨t,o⟩,u⟩:=n;have h:cM (.D m)=true:=by exact t
  refine a8 (vQ g h f) λF v=>?_;haveI i:=vZ h o;refine bS f λG H w L=>?_;subst w;refine ZY v i.1 (ZD i.2.1) q (by rw[F6];exact(aj Z:N [_,_,_] (.B (X+(S+1)) 9900) [.B O 100,.A X 9000,.A S O]) u r i.2.2) (λL L d=>d) (λI x J y=>?_) (br (v2 h)<|by rw[ee];exact(aj Z:N [_] (.A X 16777216) [.B X 10000000]) o);exact .B g (show ba b j k (.K<|.D m) _ from⟨x,by rw[Rg<|by intro K z;cases z]⟩) y Z Z
end
end M
namespace M
open PySem PySem.W PyProof.Rows
structure i9(m:U->U->(aE->aO->Prop)->aO->Prop)(f:U)(g:U->U->aE)(i:aO->Prop):Prop where
 a:∀d e j k,i k->d<f->e<f->d≠e->(∀l,i l->j (g d e) l)->m d e j k
 c:∀d e,d<f->e<f->d≠e->g d e= !g e d
 b:∀d e h,d<f->e<f->h<f->g d e=Q->g e h=Q->g d h=Q
structure dv(b:dk U)(c:U):Prop where
 a:b.1.Perm<|dF c
section
variable{a b:dk U}
def dv.B(b:dv a c):a.size=c:=by rw[<-qu,b.a.length_eq,jK]
def l'(b:c<a.size):a.getD c 0=a[c]:=by simp[Array.getD,b]
def dv.A(b:dv a d)(e:c<d):a.getD c 0<d:=by
 have f:c<a.size:=by rw[b.B];exact e
 rw[l' f];haveI:a[c]∈a.1:=by simp
 exact oD.1<|b.a.mem_iff.1 this
def dv.C(b:dv a e)(h:c<e)(i:d<e)(j:c≠d):a.getD c 0≠a.getD d 0:=by
 have f:c<a.size:=by rw[b.B];exact h
 have g:d<a.size:=by rw[b.B];exact i
 rw[l' f,l' g];haveI k:a.1.Nodup:=b.a.nodup_iff.2 List.nodup_range;intro l;exact j<|(FH (h₀:=f) (h₁:=g) k).1<|l
def dv.D(d:dv a c)(e:b.Perm a):dv b c:=⟨(Array.perm_iff_toList_perm.1 e).trans d.a⟩
def eW(d:U->U->aE)(a:dk U)(e:U):Prop:=∀c b,c<b->b<e->d (a.getD c 0) (a.getD b 0)=Q
def kL(d:U->U->aE)(a:dk U)(e:U):Prop:=∀c b,c<b->b<e->d (a.getD b 0) (a.getD c 0)=Q
def eW.B:eW c a 1:=λe f b d=>by exact((aj Z:N [_,_] (.a) [.B X 1,.B S X]) d b).elim
def eW.A(q:i9 f e d g)(h:dv a e)(m:eW d a c)(i:1<=c)(j:c<e)(n:d (a.getD (c-1) 0) (a.getD c 0)=Q):eW d a<|c+1:=by
 intro k b l r;by_cases o:b=c
 .subst o;by_cases p:k=b-1
  .subst p;exact n
  .exact q.b _ _ _ (h.A<|wP l j) (h.A<|ED i j) (h.A j) (m k (b-1) (EE i l p)<|EF i) n
 .exact m k b l<|EG r o
def kL.A(q:i9 f e d g)(h:dv a e)(m:kL d a c)(i:1<=c)(j:c<e)(n:d (a.getD c 0) (a.getD (c-1) 0)=Q):kL d a<|c+1:=by
 intro k b l r;by_cases o:b=c
 .subst o;by_cases p:k=b-1
  .subst p;exact n
  .exact q.b _ _ _ (h.A j) (h.A<|ED i j) (h.A<|wP l j) n<|m k (b-1) (EE i l p)<|EF i
 .exact m k b l<|EG r o
def yY(q:i9 f d c e)(j:dv a d):∀(k b:U)(l:aO)(m:U->aO->Prop),e l->1<=b->b+k<=d->eW c a b->
 (∀h n,e n->b<=h->h<=b+k->eW c a h->(h<b+k->c (a.getD h 0) (a.getD (h-1) 0)=Q)->m h n)->(kas_asc a k b).kasWp f m l:=by
 intro u
 induction u with
 |zero=>
  exact @λb l m r i g o p=>p b l r (aY _) (by exact EH) o λv=>a2 v<|hT _
 |succ k w=>
  exact @λb l m r i g o p=>by
   refine q.a _ _ _ _ r (j.A<|by exact hN g) (j.A<|by exact jI i g) (j.C (by exact hN g) (by exact jI i g)<|by exact EI i) λn t=>?_;refine c2 (c (a.getD b 0)<|a.getD (b-1) 0) (λs=>?false) λs=>?true
   case true=>
    dsimp only;rw[au Z];exact p b n t (aY _) (by exact EJ) o λF=>s
   case false=>
    dsimp only;rw[ao<|by simp];haveI x:c (a.getD (b-1) 0) (a.getD b 0)=true:=by rw[q.c _ _ (j.A<|jI i g) (j.A<|hN g)<|j.C (jI i g) (hN g)<|wQ i,s];rfl
    exact w (b+1) n m t (EK i) (wL g) (o.A q j i (hN g) x) λh y z A B C D=>p h y z (wC A) (EL B) C λE=>D<|(aj Z:N [_,_,_] (.B X<|S+1+O) [.B X<|S+(O+1)]) E
def K5(m:i9 f d c e)(i:dv a d):∀(n b:U)(k:aO)(l:dk U×U×U->aO->Prop),e k->1<=b->b+n<=d->kL c a b->
 (∀j o,e o->b<=j->j<=b+n->kL c a j->l (a,j,0) o)->(kas_desc n a b 0).kasWp f l k:=by
 intro v
 induction v with
 |zero=>
  exact @λb k l r h g p q=>q b k r (aY _) (by exact EH) p
 |succ n w=>
  exact @λb k l r h g p q=>by
   refine m.a _ _ _ _ r (i.A<|by exact hN g) (i.A<|by exact jI h g) (i.C (by exact hN g) (by exact jI h g)<|by exact EI h) λo u=>?_;refine c2 (c (a.getD b 0)<|a.getD (b-1) 0) (λs=>?false) λs=>?true
   case true=>
    dsimp only;rw[au Z,ao<|by exact VL];exact w (b+1) o l u (by exact EK h) (by exact wL g) (p.A m i h (by exact hN g) s) λj t x y z A=>q j t x (by exact wC y) (by exact EL z) A
   case false=>
    dsimp only;rw[ao<|by simp];refine m.a _ _ _ _ u (i.A<|by exact jI h g) (i.A<|by exact hN g) (i.C (by exact jI h g) (by exact hN g)<|by exact wQ h) λt B=>?_;haveI C:c (a.getD (b-1) 0) (a.getD b 0)=true:=by rw[m.c _ _ (i.A<|jI h g) (i.A<|hN g)<|i.C (jI h g) (hN g)<|wQ h,s];rfl
    dsimp only;rw[C,au Z];exact q b t B (aY _) (EJ) p
def CB(f:dv a d)(g:c<=d)(b:U):(xK a 0 c).getD b 0=if b<c then a.getD (c-1-b) 0 else a.getD b 0:=by
 haveI h:=getElem?_mirror_all (i:=0) (by rw[f.B];exact g) b;unfold xK;rw[ov,h];by_cases e:b<c;.rw[au ⟨c8 _,e⟩,au e,ov,dG]
 .rw[ao<|(a5 101 Z:N [_,_] (.D<|.F (.A 0 X)<|.B X S) [.D<|.B X S]) e,ao e,ov]
def Rq(g:dv a d)(h:c<=d)(i:kL e a c):eW e (xK a 0 c) c:=by intro j k f b;rw[CB g h,CB g h,au<|wP f b,au b];exact i _ _ (UI f b)<|UJ f b
def Tq(p:i9 h c e f)(m:dv a c)(q:f g)(n:1<=d)(l:d<=c)(r:kL e a d)
 (s:∀j b k,f k->1<=j->j<=c->dv b c->eW e b j->i (j,b) k):(kas_tail3 d c a).kasWp h i g:=by
 unfold kas_tail3;have o:dv (xK a 0 d) c:=m.D<|mirror_perm _ _ _ _;rw[tt];exact yY p o (c-d) d g _ q n (UK l) (Rq m l r) λj k t u v w x=>s j _ k t ((aj Z:N [_,_] (.A 1 X) [.A 1 S,.A S X]) n u) (VD l v) o w
def K1(o:i9 g c d e)(j:dv a c)(y:e f)(i:1<=c)
 (q:∀p b n,e n->1<=p->p<=c->dv b c->eW d b p->h (p,b) n):(kas_count c a).kasWp g h f:=by
 unfold kas_count;rw[tt];refine yY o j (c-1) 1 f _ y (aY _) (UL i) eW.B λm n r z s t A=>?_;by_cases k:m=c;.rw[au<|by simpa using k];exact q m a n r ((a5 1101 Z:N [_,_] (.A 1 X) [.A 1 S,.C X S]) i k) (Ev k) j t
 .rw[ao<|by simpa using k];by_cases l:m>1
  .rw[au l];refine o.a _ _ _ _ r (j.A<|EM i) (j.A<|Ef i s) (j.C (EM i) (Ef i s)<|UM l) λu B=>?_;dsimp only;rw[t 0 (m-1) (UN l)<|UO l,au Z];exact q m a u B ((aj Z:N [_] (.A 1 X) [.B 1 X]) l) (VB i s) j t
  .rw[ao l];haveI C:m=1:=by exact(aI (.B (.A 101)<|.A 11) Z:N [_] (.C X 1) [.A 1 X,.D<|.B 1 X]) z l
   subst C;unfold kas_descPart;rw[tt];haveI G:kL d a 2:=λD E v w=>by
    have x:D=0:=by exact(aI (.B (.A 1)<|.A 111) Z:N [_,_] (.C X 0) [.B S 2,.B X S]) w v
    haveI F:E=1:=by exact(aI (.B (.A 1001)<|.A 10001) Z:N [_,_] (.C X 1) [.B X 2,.B S X,.C S 0]) w v x
    subst x;subst F;exact A<|VC i k
   refine K5 o j (c-(1+1)) (1+1) n _ r ((aj Z:N [] (.A 1<|1+1) [])) (UP i k) G λL u H I J K=>?_;exact Tq o j H ((aj Z:N [_] (.A 1 X) [.A (1+1) X]) I) (UQ i J k) K q
def Qu(u:i9 g e d f)(m:dv a e)(k:c<e):∀(A b h:U)(n:aO)(o:U->aO->Prop),f n->b<=h->h<=c->h-b<=A->(∀i,i<b->d (a.getD i 0) (a.getD c 0)=Q)->
 (∀i,h<=i->i<c->d (a.getD c 0) (a.getD i 0)=Q)->eW d a c->(∀b p,f p->b<=c->(∀i,i<b->d (a.getD i 0) (a.getD c 0)=Q)->(∀i,b<=i->i<c->d (a.getD c 0) (a.getD i 0)=Q)->o b p)->
 (kas_place a c A b h).kasWp g o n:=by
 intro G
 induction G with
 |zero=>
  exact @λb h n o v B l w x y q r=>by
   haveI:b=h:=by exact UR w B
   subst this;exact r b n v l x y
 |succ A D=>
  exact @λb h n o v B l w x y q r=>by
   unfold kas_place;by_cases j:b>=h
   .rw[au j];have:b=h:=by exact(aI (.B (.A 11)<|.A 101) Z:N [_,_] (.C X S) [.A X S,.A S X]) B j
    subst this;exact r b n v l x y
   .rw[ao j];refine u.a _ _ _ _ v (m.A k) (m.A<|qo k l j) (m.C k (qo k l j)<|US l j) λp E=>?_;refine c2 (d (a.getD c 0)<|a.getD ((b+h)/2) 0) (λz=>?false) λz=>?true
    case true=>
     refine D b ((b+h)/2) p o E (UT j) (UU l j) (UV w j) x (λi s C=>?_) q r;by_cases t:i=(b+h)/2;.subst t;exact z
     .exact u.b _ _ _ (m.A k) (m.A<|UW s k C) (m.A<|(aj Z:N [_,_,_] (.B X S) [.B O S,.B X O]) k C) z<|q _ _ (UX s t) C
    case false=>
     have F:d (a.getD ((b+h)/2) 0) (a.getD c 0)=true:=by rw[u.c _ _ (m.A<|qo k l j) (m.A<|EN k)<|m.C (qo k l j) (EN k)<|UY l j,z];rfl
     refine D ((b+h)/2+1) h p o E (UZ j) (ww l) (U0 w j) (λi s=>?_) y q r;by_cases t:i=(b+h)/2;.subst t;exact F
     .exact u.b _ _ _ (m.A<|U1 s k l j) (m.A<|qo k l j) (m.A k) (q _ _ (U2 s t)<|U3 l j) F
def y9(f:dv a e)(g:c<e)(h:d<=c)(b:U):(bubble a c d).getD b 0=if b=c-d then a.getD c 0 else if bD (c-d<b) (b<=c)then a.getD (b-1) 0 else a.getD b 0:=by
 haveI i:=getElem?_bubble (by rw[f.B];exact g) d h b;rw[ov,i];split;.rw[ov]
 .split
  .rw[ov]
  .rw[ov]
def JN(q:dv a f)(r:c<f)(m:d<=c)(o:eW e a c)(s:∀h,h<d->e (a.getD h 0) (a.getD c 0)=Q)(t:∀h,d<=h->h<c->e (a.getD c 0) (a.getD h 0)=Q):eW e (bubble a c<|c-d)<|c+1:=by
 have b:c-(c-d)=d:=by exact U4 m
 intro h p g i;rw[y9 q r<|EO b m,y9 q r<|EO b m,b];by_cases j:h=d;.rw[au j,ao<|U5 b g j,au<|U6 b g i j];exact t _ (U7 b g j)<|U8 b g i j
 .rw[ao j];by_cases k:p=d
  .rw[au k,ao<|U9 b g k];exact s _<|U' b g k
  .rw[ao k];by_cases l:bD (d<h) (h<=c)
   .rw[au l,au<|Va b g i l];exact o _ _ (Vb b g l)<|EP g i
   .rw[ao l];by_cases n:bD (d<p) (p<=c)
    .rw[au n];exact o _ _ (Vc b g i n l j k)<|EP g i
    .rw[ao n];exact o _ _ g<|Vd b g i m l n k
def Jt(q:i9 d c e f):∀(n:U)(a:dk U)(g:U)(i:aO)(j:dk U->aO->Prop),dv a c->f i->g+n=c->eW e a g->(∀b l,f l->dv b c->eW e b c->j b l)->(kas_bin n a g).kasWp d j i:=by
 intro r
 induction r with
 |zero=>
  exact @λa g i j k o h m p=>p a i o k<|by rw[<-h];exact m
 |succ n s=>
  exact @λa g i j k o h m p=>by show KasT.kasWp d (KasT.bind _ _) _ _;rw[tt];refine Qu q k (by exact wN h) g 0 g i _ o (c8 _) (aY _) (by exact Ve h) (λt u=>by exact((aj Z:N [_] (.a) [.B X 0]) u).elim) (λt v w=>by exact((aj Z:N [_,_,_,_] (.a) [.C (X+(S+1)) O,.B ag X,.A X ag]) h w v).elim) m λB l x y z A=>?_;exact s _ (g+1) l j (k.D<|bubble_perm _ _ _) x (by exact EA h) (JN k (by exact wN h) y m z A) p
def QZ:dv (FR<|dF c) c:=⟨by simp⟩
def SR(k:i9 f c g d)(p:d h)(q:1<=c)(l:∀b a,d a->dv b c->eW g b c->e b a):(kas_sort c).kasWp f e h:=by
 unfold kas_sort;rw[tt];refine K1 k QZ p q λi b a m r s n o=>?_;by_cases j:i<c;.rw[au j,YY r];exact Jt k (c-i) b i a e n m (Vf j) o l
 .rw[ao j];haveI:i=c:=by exact wO s j
  subst this;exact l b a m n o
end
end M
namespace M
open PySem PySem.W PyProof.Rows PySem.SeqAt
def gO(a:R<|aJ×ar)(b:U):R Nat:=((a[b]?).map (·.1.1.1)).getD []
def ia(a:R<|aJ×ar)(b c:U):Bool:=aN<|gO a b<gO a c
def j3(e:bT)(f:R a9)(g:R<|aJ×ar):Prop:=∀(a:U)(b:a9),f[a]?=Y b->∃c d h,g[a]?=Y (c,d)/\e.get? b=Y {cls:=.type "tuple",data:=.seq #[.str c h,d]}
def A6(f:(a.map (·.1)).Nodup)(d:b<a.length)(e:c<a.length)(g:b≠c):gO a b≠gO a c:=by unfold gO;rw[hQ d,hQ e];simp only[Y6,Option.getD_some];intro h;haveI:=zM h;exact g<|(FH (h₀:=by simpa using d) (h₁:=by simpa using e) f).1<|by simpa using this
def Pm(f:(a.map (·.1)).Nodup)(g:b<a.length)(h:c<a.length)(i:b≠c):ia a b c= !ia a c b:=by
 haveI j:=A6 f g h i;unfold ia;by_cases d:gO a b<gO a c;.rw[c0 d,ct<|List.lt_asymm d];rfl
 .by_cases e:gO a c<gO a b
  .rw[ct d,c0 e];rfl
  .exact a2 (Yx (YA.1 e)<|YA.1 d) j
section
variable{b:iZ}{c:eC}{d:c4}{e:ar->aO->Prop}{a:aO}
def j3.A(e:j3 g f h)(j:∀a∈f,∀b,g.get? a=Y b->i.get? a=Y b):j3 i f h:=λk a c=>by refine mE (e k a c) λl m n d=>?_;exact pt l m n d.1<|j a (lF c) _ d.2
def TG:∀{a:R a9}{b:R<|aJ×ar},a.length=b.length->j3 f a b->∃c,KatTups f (a.map dn) c/\c.length=a.length/\∀g∈c,∃n e,g=.str n e:=by
 intro o
 induction o with
 |nil=>
  exact @λw w w=>cW ([]) ds Z λw d=>bW d
 |cons p a q=>
  exact @λb k e=>by
   cases b with
   |nil=>cases k
   |cons v b=>
    refine a8 (q (by simpa using k) λr s t=>by obtain⟨h,l,i,m⟩:=e (r+1) s<|t;exact pt h l i (m.1) m.2) λc j=>?_
    refine mE (e 0 p Z) λh l i u=>?_;refine cW (.str h i::c) (KatTups.cons u.2 Z Z (by simp) j.1) (by simp[j.2.1]) λg d=>?_;rcases bj.1 d with rfl|d;.exact f9 _ _ Z
    .exact j.2.2 g d
def TF(k:f.length=g.length)(o:(g.map (·.1)).Nodup)(p:j3 a.1 f g):
 i9 (kas_ask b c d (tuples' Q)<|f.map dn) f.length (ia g) (λl=>l=a):=by
 refine⟨λe h C l m i j n w=>?_,λe h i j n=>Pm o (k▸i) (k▸j) n,λe h D I I I x y=>?_⟩
 .subst m;unfold kas_ask;refine mE (p e f[e]<|hQ i) λq E F r=>?_;refine mE (p h f[h]<|hQ j) λs G H t=>?_;haveI z:(f.map dn).getD e oK=.ref f[e]:=by simp[i]
  haveI A:(f.map dn).getD h oK=.ref f[h]:=by simp[j]
  rw[z,A];have u:gO g e=q.1.1:=by unfold gO;rw[r.1];rfl
  have v:gO g h=s.1.1:=by unfold gO;rw[t.1];rfl
  haveI B:q≠s:=λm=>A6 o (k▸i) (k▸j) n (by rw[u,v,m]);refine kat_lt r.2 Z t.2 Z<|kat_cons<|wpAny_eqBool_str ?_;rw[ct B];refine kat_no ?_;refine oneLt_str ?_;haveI:=w l Z;unfold ia at this;rw[u,v]at this;exact this
 .unfold ia at*;simp only[jR]at*;exact List.lt_trans x y
def SS(y:a.1.get? g=Y (ho "list" (f.map dn).toArray j))(p:f.length=h.length)(q:2<=f.length)(r:f.length<64)
 (L:(h.map (·.1)).Nodup)(a_:j3 a.1 f h)(b_:g∉f)
 (d_:∀z c_ k,dv k f.length->eW (ia h) k f.length->(∀l n,l≠g->a.1.get? l=Y n->z.get? l=Y n)->z.get? g=Y (ho "list" (k.1.map λu=>(f.map dn).getD u .none).toArray c_)->i (.done<|.ret .none) {a with heap:=z}):
 bh (bd b c) d (Builtin.«list.sort» ⟨[.ref g],[]⟩) i e a:=by
 have m:(f.map dn).length=f.length:=bC _;haveI v:∃A,(a.1.update g<|gX λx_=>(#[]:dk ar)).get? g=Y (ho "list" #[] A):=a1 _<|F7 y λx_=>#[];refine a8 v λA v=>?_;have F:∀l n,l≠g->a.1.get? l=Y n->(((a.1.update g<|gX λx_=>(#[]:dk ar)).push<|ho "tuple" (f.map dn).toArray 0).push<|ho "list" #[] 0).get? l=Y n:=
  λl n w o=>dV _<|dV _<|(jN _ _<|f4 w).trans o
 haveI B:(((a.1.update g<|gX λx_=>(#[]:dk ar)).push<|ho "tuple" (f.map dn).toArray 0).push<|ho "list" #[] 0).get? g=Y (ho "list" #[] A):=dV _<|dV _ v;have G:=a_.A λl C n o=>F l n (λe_=>b_<|e_▸C) o;refine a8 (TG p G) λp_ D=>?_;haveI s:=D.2.1;rw[list_sort_plain];refine ay<|listItems_at y Z ?_;refine ay<|Y9 y Z ?_ (by rw[cY,m,ee];exact EQ q r p m s)<|c8 _;refine ay<|seqEpoch_at v Z ?_;refine ay (G2 ?_<|by show(f.map dn).length<=_;rw[m,ee];exact EQ q r p m s);refine ay<|À ?_<|c8 _;refine d8 ?_;haveI H:¬(f.map dn).toArray.size<2:=by rw[cY,m];exact(a5 100000001 Z:N [_,_,_,_] (.D<|.B X 2) [.A 2 X,.B X 64,.C X S,.C O X,.C ag X]) q r p m s
 rw[ao H,ao H];refine ay<|kat_kind D.1 ((a5 100000101 Z:N [_,_,_,_] (.B 0 X) [.A 2 S,.B S 64,.C S O,.C ag S,.C X S]) q r p m s) (λf_ C=>by refine d2 (D.2.2 f_ C) λq_ r_ g_=>?_;subst g_;exact i0 Z) Z ?_;refine ay (kJ (kat_run (Q:=λx t=>t={a with heap:=((a.1.update g<|gX λx_=>(#[]:dk ar)).push<|ho "tuple" (f.map dn).toArray 0).push<|ho "list" #[] 0}/\
  ∃k:dk U,dv k f.length/\eW (ia h) k f.length/\arrOf x=k.map (kas_item<|(f.map dn).toArray.zip (f.map dn).toArray)/\failedOf x=ab)
  Z (by rw[m];exact q) (by rw[m];exact r) (G:=λk t=>t={a with heap:=((a.1.update g<|gX λx_=>(#[]:dk ar)).push<|ho "tuple" (f.map dn).toArray 0).push<|ho "list" #[] 0}/\dv k f.length/\eW (ia h) k f.length)
  (λI x t x_ h_ i_ E=>am E.1 ⟨I,E.2.1,E.2.2,h_,i_⟩) (by rw[m];exact SR (TF p L G) Z ((a5 100000001 Z:N [_,_,_,_] (.A 1 X) [.A 2 X,.B X 64,.C X S,.C O X,.C ag X]) q r p m s) λI t o j_ k_=>aL o j_ k_)) ?_ λx_ x_ o=>o)
 rintro⟨⟨⟩,x⟩ t ⟨rfl,k,J,l_,m_,n_⟩;dsimp only;haveI o_:=kat_snds Z m_;rw[o_];haveI K:(FR<|k.1.map λu=>(f.map dn).getD u oK).size=f.length:=by rw[cY,bC,qu,J.B]
 refine ay<|seqEpoch_at B Z ?_;refine ay (Y9 B Z ?_ (c8 _)<|br (fI K)<|by rw[ee];exact(a5 1000000001 Z:N [_,_,_,_,_] (.A X<|16777216+1) [.A 2 X,.B X 64,.C X S,.C O X,.C ag X,.C aB X]) q r p m s K);rw[n_];simp only[bne_self_eq_false,ox,nd];refine bl<|d_ _ _ k J l_ (λl n w o=>(jN _ _<|f4 w).trans<|F l n w o)<|F7 B λx_=>FR<|k.1.map λu=>(f.map dn).getD u oK
def Tf(a:(c' b c).1 f g=Q):∃d,g=.str f d:=xH a
def J1(D:d.1=ab)(E:a.1.IsItemsView g h)(F:a.1.DictAt (c' b c) h f j)(s:2<=f.length)(t:f.length<64)(G:(f.map (·.1)).Nodup)
 (I:∀m u w v n p,n.length=f.length->j3 m n f->dv p n.length->eW (ia f) p n.length->(∀k l,a.1.get? k=Y l->m.get? k=Y l)->m.get? w=Y (ho "list" (p.1.map λH=>(n.map dn).getD H .none).toArray v)->i (.ref w) {a with heap:=m,toks:=u}):
 bh (bd b c) d (fJ (.builtin "sorted") [.ref g]) i e a:=by
 have x:f.length<=sizeLine:=by rw[ee];exact(a5 11 Z:N [_] (.A X 16777216) [.A 2 X,.B X 64]) s t
 refine Calls.call_function_entry kind_sorted plain_sorted entry_sorted (args_sorted1 _) ?_;refine ay<|bl ?_;refine ay<|kdx_collect D E F x λm u n J q y=>?_;refine ay (À ?_<|by rw[bC,q];exact x);haveI z:(m.push<|ho "list" (n.map dn).toArray 0).get? m.1.size=Y (ho "list" (n.map dn).toArray 0):=d5 _ Z;have A:j3 m n f:=λK k L=>by obtain⟨l_,a_,b_,c_,d_,e_⟩:=y.3 K k L;obtain⟨f_,rfl⟩:=Tf d_;exact pt a_ b_ f_ c_ e_
 have g_:∀k∈n,k<m.1.size:=λk r=>y.there r;refine ay<|d8<|kI slot_list_sort (a1 _ ⟨z,Z⟩) entry_list_sort ?body<|args_list_sort _;refine SS z q ((a5 10101 Z:N [_,_] (.A 2 X) [.A 2 S,.B S 64,.C X S]) s t q) ((a5 1011 Z:N [_,_] (.B X 64) [.A 2 S,.B S 64,.C X S]) s t q) G (A.A λk r l o=>dV _ o) (λr=>hT _<|g_ _ r) λB v p h_ i_ j_ k_=>?_;refine a1 _ ⟨Z,bl<|a1 _ ⟨Z,?_⟩⟩;have C:∀k l,m.get? k=Y l->B.get? k=Y l:=λk l o=>j_ k l (ed<|dm o)<|dV _ o;exact I B u m.1.size v n p q (A.A λk r l o=>C k l o) h_ i_ (λk l o=>C k l<|J k l o) k_
end
def IZ:∀{c:R kD},(∀b∈c,b.showable=Q/\b.hasDict=M/\b.depth<=a)->xF c=Q/\xE c=M/\xD c<=a:=by
 intro g
 induction g with
 |nil=>
  exact @λl=>aL Z Z<|c8 _
 |cons h k i=>
  exact @λf=>by have d:=f h<|.head _;have e:=i λb j=>f b<|.tail _ j;refine aL (by simp only[xF,d.1,e.1,XR]) (by simp only[xE,d.2.1,e.2.1,XW]) ?_;simp only[xD];exact F0.2 ⟨d.2.2,e.2.2⟩
abbrev fm(a:an×V):aJ×PyData:=(bv a.1,fE a.2)
abbrev gy(a:aJ×kD):PyData:=.tuple [.str a.1,a.2]
def SJ(a:R kD):kE a=a.map PyData.shown:=by
 induction a with
 |nil=>rfl
 |cons c d b=>simp only[kE,b,cl]
def Qg(c:cM a=Q):(gy<|fm (b,a)).shown.length+2<=(10*mD b+2)+cA a+10:=by haveI:=Z0<|kE [ZG<|bv b,fE a];haveI d:=v2 c;haveI e:=Cz b;simp only[Gv,kE,cl,xa,YG,List.sum_nil,dd,m4]at this⊢;exact(aj Z:N [_,_,_,_,_] (.A (X+2)<|(.A 10 S)+2+O+10) [.A ag<|(.A 10 S)+2,.A aB O,.A X<|ag+(aB+0)+(.A 2<|0+1+1)+3]) e d this
def Qk:∀{a:R<|an×V},lq a=Q->(((a.map fm).map gy).map λe=>e.shown.length).sum+2*a.length<=lw a:=by
 intro f
 induction f with
 |nil=>
  exact @λl=>aY _
 |cons g j h=>
  obtain⟨i,k⟩:=g;exact @λb=>by unfold lq at b;rw[ez]at b;have c:=Qg (b:=i) b.1;have d:=h b.2;simp only[cl,YG,dd];simp only[fm,gy]at c d⊢;exact(aj Z:N [_,_,_,_,_,_] (.A (X+S+(.A 2<|O+1))<|(.A 10 ag)+2+aB+10+aM) [.A (S+(.A 2 O)) aM,.A (X+2)<|(.A 10 ag)+2+aB+10]) d c
def Cj:∀{c:R<|an×V},lq c=Q->lw c<10000000->∀a∈c,cM a.2=Q/\cA a.2<10000000/\cT a.2<=mh c:=by
 intro f
 induction f with
 |nil=>
  exact @λl l l b=>bW b
 |cons g j h=>
  obtain⟨k,i⟩:=g;exact @λd e a b=>by
   unfold lq at d;rw[ez]at d;rcases bj.1 b with rfl|b;.exact aL d.1 (by show cA i<_;exact(aj Z:N [_,_,_] (.B X 10000000) [.B ((.A 10 S)+2+X+10+O) 10000000]) e)<|by exact YS ..
   .have:=h d.2 ((aj Z:N [_,_,_] (.B X 10000000) [.B ((.A 10 S)+2+O+10+X) 10000000]) e) a b;refine aL this.1 this.2.1 ?_;exact br this.2.2<|FU ..
section
variable{a:aO}
def c1.D:∀{i:R<|an×V}{j:R<|aJ×ar},c1 b c d i j->∀(e:U)(a:an×V),i[e]?=Y a->∃g,j[e]?=Y (bv a.1,g)/\dc a.1=Q/\bG a.1=M/\ba b c d a.2 g:=by
 intro l
 induction l with
 |nil=>
  exact @λu u e a f=>by simp at f
 |cons m i n=>
  obtain⟨r,s⟩:=m;exact @λu o e a f=>by
   refine bS o λg t p h=>?_;subst p;cases e with
   |zero=>simp at f;subst f;exact dZ g (by simp) h.1 h.2.1 h.2.2.1
   |succ e=>
    refine a8 (n h.2.2.2 e a<|f) λq k=>?_;exact ax q (k.1) k.2
def c1.G:∀{a:R<|an×V}{f:R<|aJ×ar},c1 b c d a f->f.map (·.1)=a.map λg=>bv g.1:=by
 intro h
 induction h with
 |nil=>
  exact @λq e=>by cases(e:_=_);rfl
 |cons i a j=>
  obtain⟨m,n⟩:=i;exact @λq e=>by refine bS e λo p k l=>?_;subst k;rw[cl,cl,j l.2.2.2]
def c1.F(h:c1 c d e b f):∀a∈b,dc a.1=Q/\bG a.1=false:=λa i=>by refine a8 (Yz.mp i) λj k=>?_;refine a8 (h.D j a k) λl g=>?_;exact am g.2.1 g.2.2.1
def PZ:∀{a:R b},(a.map c).Nodup->a.Nodup:=by
 intro e
 induction e with
 |nil=>
  exact @λi=>iW
 |cons f a g=>
  exact @λd=>by rw[cl,fg]at d;exact fg.2 ⟨λh=>d.1<|d4.2 ⟨f,h,Z⟩,g d.2⟩
def SU(l:c1 e f g b c)(m:(c.map (·.1)).Nodup)(h:dv d b.length)(o:eW (ia c) d b.length):
 (iO b).map fm=d.1.map λa=>fm<|b.getD a (.A "",.C):=by
 haveI p:(b.map (·.1)).Nodup:=PZ (c:=bv) (by rw[hm];rw[l.G]at m;exact m);refine C5 p l.F ?_ ?_
 .refine(h.a.map λa=>fm<|b.getD a (.A "",.C)).trans<|Ø ?_;apply List.ext_getElem (by simp);intro a q v;haveI j:a<b.length:=by simpa using q
  simp[j]
 .rw[FQ,YC];intro r s k i t;rw[qu,h.B]at k i;haveI:=o r s t i;rw[l'<|by rw[h.B];exact k,l'<|by rw[h.B];exact i]at this;haveI n:∀a,a<b.length->gO c a=(fm<|b.getD a (.A "",.C)).1.1.1:=λa j=>by
   refine a8 (l.D a b[a]<|hQ j) λw u=>?_;unfold gO;rw[u.1];simp[j]
  unfold ia at this;simp only[jR]at this;unfold gP;simp only[jR,Array.getElem_toList];rw[<-n _ (by haveI:=h.A k;rwa [l'<|by rw[h.B];exact k]at this),<-n _ (by haveI:=h.A i;rwa [l'<|by rw[h.B];exact i]at this)];exact List.le_of_lt this
def Rf(s:bf e f g h a.1)(t:lq b=Q)(u:lw b<10000000)(l:c1 e f g b d)(v:c.length=d.length)(w:j3 a.1 c d):
 ∀{j:R U},(∀i∈j,i<b.length)->∃m,ReadsAll a.1 (j.map λi=>(c.map dn).getD i .none) (j.map λi=>gy<|fm<|b.getD i (.A "",.C)) m:=by
 intro x
 induction x with
 |nil=>
  exact @λK=>a1 _<|.nil
 |cons i j y=>
  exact @λn=>by
   refine a8 (y λz A=>n z<|.tail _ A) λm B=>?_;have k:=n i<|.head _;have o:i<c.length:=by rw[v,l.A];exact k
   refine a8 (l.D i b[i]<|hQ k) λG p=>?_;refine mE (w i c[i]<|hQ o) λH I C q=>?_;haveI r:=q.1;rw[p.1]at r;cases r;refine a8 (vQ s (Cj t u b[i]<|FI k).1 p.2.2.2) λJ D=>?_;rw[cl,cl];haveI E:(c.map dn).getD i .none=.ref c[i]:=by simp[o]
   haveI F:b.getD i (.A "",.C)=b[i]:=by simp[k]
   rw[E,F];exact a1 _<|.cons (.tuple q.2 Z Z<|.cons (.str _ C)<|.cons D .nil) B
def Sg(d_:bo b):bo<|.p b:=λ{l C e__ f__ g__ h__} e_ c d=>Kt e_ λf i__ g j__ j k__ l__ q m__ f_ g_ h_ i_ j_=>by
 haveI m:=c.1.a.a;refine fF<|c.3.A c.4 m f_ (m.c _<|ae Z) ?_;rw[he Z];refine jQ (P:=λx_=>eN) Z (λd x_=>⟨.machine,.inr<|.inl Z,i0 Z⟩)<|iB ?_;refine im ?_;refine ay<|c.3.A c.4 m g_ (m.c _<|ae Z) ?_;rw[he Z];refine jQ (P:=λx_=>eN) Z (λd x_=>⟨.machine,.inr<|.inl Z,i0 Z⟩)<|iB ?_;refine im ?_;refine sa j_ Z (ae Z) h_<|d_ i_ c<|d.A λk_ d i C D E F=>d.C λn__ l_ d=>d.C λa r d=>aZ.G d λe d=>?_;rw[jk l_]at E;haveI r:=pk r;haveI d:=d.B;have e:=j9 e;haveI s:=D.2.4;refine iK (pl s E r) λt f m_ n_ u=>?_;subst n_;haveI j:=u.2.2;haveI v:=u.2.1.A;obtain⟨_,o_,p_,n⟩:=u.2.1;haveI G:=n.1;refine ZS v.typeIs Go Zn PySem.F.type_dict_items (λh q_=>by cases q_;obtain⟨_,_,r_,_⟩:=n.2;exact⟨p_,G,r_.2.1⟩) ?_
 rw[he Z];refine jQ (P:=λx_=>eN) Z (λd x_=>⟨.machine,.inr<|.inl Z,i0 Z⟩)<|iB<|bl ⟨ds,?_⟩;haveI s_:(t==xZ)=false:=by simpa using o_
 refine xR Zn v.typeIs PySem.F.entry_dict_items (PySem.F.args_dict_items_1 _) (meets_dict_items (c' l.a.b l.a.a) t s_) ⟨⟨m_,v⟩,?_⟩;refine bl ⟨ds,?_⟩;refine a8 (KdkAt.of n.2) λo__ t_=>?_;haveI H:=sj n.2;haveI I:=eK i.a.1 {cls:=.type "dict_items",data:=.fields #[.ref t]};refine J1 c.2.a ⟨_,d5 _ Z,Z,Z⟩ (t_.dictAt<|I _ _ G) (by rw[j.A];exact(e0 e.2.2.2.1)) (by rw[j.A];exact(e0 e.2.2.2.2)) H
  λo u_ v_ p__ w_ q J y_ w K z_ A_=>bl ⟨ds,?_⟩
 have L:∀h g,i.a.1.get? h=Y g->o.get? h=Y g:=λh g b=>z_ h g<|I h g b;haveI B_:bf l.a i.c i.b k_.2 o:=s.H L;have a_:w_.length=a.length:=by rw[J,j.A]
 rw[a_]at w K;haveI C_:=SU j H w K;refine a8 (Rf (a:={i.a with heap:=o,toks:=u_}) B_ (e.1) (e0 e.2.1) j J y_ λc x=>by haveI:=w.a.mem_iff.1 x;exact oD.1 this) λq__ D_=>?_
 haveI b_:Reads o (.ref v_) (.list<|q.1.map λc=>gy<|fm<|a.getD c (.A "",.C)) _:=.list A_ Z Z D_;haveI E_:gT (.I a)=.list (q.1.map λc=>gy<|fm<|a.getD c (.A "",.C)):=by rw[sz,C_,hm];rfl
 rw[<-E_]at b_;haveI y:(iO a).Perm a:=FP _ _;haveI I_:∀k∈((iO a).map fm).map gy,k.showable=Q/\k.hasDict=M/\k.depth<=mh a+1:=λk x=>by obtain⟨C,F_,rfl⟩:=d4.1 x;obtain⟨G_,H_,rfl⟩:=d4.1 F_;have z:=Cj (e.1) (e0 e.2.1) G_<|y.mem_iff.1 H_;haveI A:=vZ z.1 z.2.1;refine⟨by simp only[gy,fm,ZE,xF,A.1,XR],by simp only[gy,fm,ZC,xE,A.2.1,XW],?_⟩;simp only[gy,fm,ZB,xD];exact Vg z.2.2 A.2.2
 have B:=IZ I_;haveI p:gT (.I a)=.list (((iO a).map fm).map gy):=sz a;haveI J_:(gT<|.I a).showable=true:=by rw[p];simpa only[ZE]using B.1
 haveI K_:(gT<|.I a).hasDict=false:=by rw[p];simpa only[ZC]using B.2.1
 haveI L_:(gT<|.I a).depth<=mh a+2:=by rw[p];simp only[ZB];exact(aj Z:N [_,_] (.A (X+1)<|S+2) [.A X<|S+1]) B.2.2
 haveI b__:(gT<|.I a).shown.length<=lw a+3:=by rw[p];simp only[Gv];refine br (ZW _) ?_;rw[SJ,bC,bC,bC,y.length_eq,hm];haveI F:=Qk<|e.1;haveI c_:((((iO a).map fm).map gy).map λf=>f.shown.length).sum=(((a.map fm).map gy).map λf=>f.shown.length).sum:=sum_perm'<|((y.map fm).map gy).map λf=>f.shown.length;haveI a__:(((iO a).map fm).map gy).map ((λk=>k.length)∘Gv)=(((iO a).map fm).map gy).map λf=>f.shown.length:=Z;rw[a__,c_];exact(a5 100001 Z:N [_,_,_,_,_] (.A (X+(.A 2 S)+3)<|O+3) [.A (X+(.A 2 S)) O,.C ag S,.C aB X]) F a_ c_
 refine ZY b_ J_ (ZD K_) c.2.c (by haveI:=c.2.b;rw[F6];exact(aj Z:N [_,_,_,_] (.B (X+(S+1)) 9900) [.A (X+(.A 60 O)+50) 9000,.B ag 100,.A S<|ag+2]) this (e0 e.2.2.1) L_) (λx_ x_ b=>b) (λr__ c__ s__ d__=>?_) (br b__<|by rw[ee];exact(aj Z:N [_] (.A (X+3) 16777216) [.B X 10000000])<|e0 e.2.1);exact D.E (.B s (show ba l.a i.c i.b (.K<|.I a) _ from⟨c__,Z⟩) (λh g b=>d__ h g<|L h g b) Z Z) d
end
def O0:x0 (.type "list") "keys"=cN none:=by rw[tD,tz];kernel_rfl
def z8:entryFor table "dict.update.loop"=Y Builtin.«dict.update.loop»:=entryFor_of_fast<|by kernel_rfl
def sp:plainId "dict.update.loop"=true:=by decide+kernel
section
variable{b:iZ}{c:eC}{d:c4}{e:ar->aO->Prop}{a:aO}
def KL(m:d.1=ab)(e:a.1.get? f=Y {cls:=.type "list",data:=.seq h i})
 (o:∀k n l,Heap.NewAttrErr a.1 k l (.ref f) (b2 "keys")->g (.error<|.ref l) {a with heap:=k,toks:=n}):kH (bd b c) d (.call (.builtin "list.__getattribute__") ⟨[.ref f,.str (b2 "keys") j],[]⟩) g a:=
 GM xv.plain am_entry_list_getattribute (xv.check _ _ _ _ _ _ _ _ ⟨_,e,Z⟩ (PySem.F.args_list_getattribute_2 _ _)
  (meets_getattribute_miss_list f h i #[] (b2 "keys") j O0 (by decide+kernel) (by rw[ee];decide+kernel) b c d g a ⟨e,m,o⟩))
def OZ(u:d.1=ab)(n:a.1.get? f=Y {cls:=.type "list",data:=.seq g h})
 (v:∀j k,(∀o p,a.1.get? o=Y p->j.get? o=Y p)->i ab {a with heap:=j,toks:=k}):bh (bd b c) d (getAttr? (.ref f) "keys") i e a:=by
 obtain⟨w,q,r,k,s⟩:=a;haveI x:∀l:aO,l.1.get? f=Y {cls:=.type "list",data:=.seq g h}->l.TypeIs (.ref f) "list":=λl m=>⟨_,m,Z⟩;haveI C:=x ⟨w,q,r,k,s⟩ n;haveI D:=sub_AttributeError;haveI E:=xv.lookup;haveI F:=xv.bind<|.ref f;haveI G:=am_list_getattr_none
 repeat(any_goals(first|assumption|wp_step))
 refine KL u n λj y m t=>?_;refine d2 t.3 λH I z=>?_;haveI B:∀A,(⟨j,q,r,A,s⟩:aO).TypeIs (.ref m) "AttributeError":=λJ=>⟨_,z,Z⟩;show bh _ _ (getattributeRaised _ _ _ _ _ _ _) _ _ _
 repeat(any_goals(first|assumption|exact B _|wp_step))
 exact v j y t.1
def K8(l:a.1.get? f=Y {cls:=.type "tuple",data:=.seq #[.str g h,i] j})(n:k [.str g h,i] a):bh (bd b c) d (ß<|.ref f) k e a:=by
 refine ay<|G8 ⟨_,l,Z⟩ ?_;rw[au<|ae Z];obtain⟨m,o,p,q,r⟩:=a;haveI s:m.get? f=Y {cls:=.type "tuple",data:=.seq #[.str g h,i] j}:=l
 repeat(any_goals(first|assumption|wp_step))
def zP{a e:bT}(h:a.DictOf (c' b c) f g)(i:∀d,a.get? f=Y d->e.get? f=Y d):e.DictOf (c' b c) f g:=h.imp λd a=>a.imp λj a=>a.imp λk a=>⟨i d a.1,a.2⟩
def K6(e_:d.1=ab){o:R ar}(t:o.length=h.length)(f_:h.length<=1000){D:bT}(g_:f≠i)(E:g≠f)(h_:g≠i)
 (i_:∀(L:U)(a_:ar),o[L]?=Y a_->∃(e:a9)(u:aJ)(x:ar)(F:Tok)(r:U),a_=.ref e/\h[L]?=Y (u,x)/\D.get? e=Y {cls:=.type "tuple",data:=.seq #[.str u F,x] r}/\e≠g/\e≠f)
 (j_:∀p q,(∀e k,e≠g->e≠f->D.get? e=Y k->p.get? e=Y k)->p.DictOf (c' b c) g (oO [] h)->j (.ok<|.ret .none) {a with heap:=p,toks:=q}):
 ∀(r l:U)(n:bT)(q:U),o.length-l=r->l<=o.length->n.IsListIter f i l->n.IsList i o.toArray->n.DictOf (c' b c) g (oO []<|h.take l)->(∀e k,e≠g->e≠f->D.get? e=Y k->n.get? e=Y k)->
  kH (bd b c) d (.builtin "dict.update.loop" ⟨[.ref g,.ref f,dr l,.none],[]⟩) j {a with heap:=n,toks:=q}:=by
 haveI G:=GL (prog:=b) (w:=c) (A:=d.in1) e_ f i (f4 g_) o.toArray;rw[cY]at G;intro r
 induction r with
 |zero=>
  intro l n q y H I J z A;haveI k_:l=o.length:=by exact Vh y t H
  subst k_;refine tA z8 ?_;rw[Za sp _];show bh _ d.in1 (nb (.ref f)>>=_) _ _ _;refine ay<|G.4 {a with heap:=n,toks:=q} _ _ ⟨I,J⟩ λp b_ s=>?_;refine ay<|bl<|bl<|j_ p b_ (λe k B v m=>s e k (by simpa using v)<|A e k B v m) ?_;rw[t,YJ]at z;exact zP z λk m=>s g k (by simpa using E) m
 |succ r l_=>
  intro l n q y H I J z A;have C:l<o.length:=by exact Vi y t H
  refine tA z8 ?_;rw[Za sp _];show bh _ d.in1 (nb (.ref f)>>=_) _ _ _;refine ay<|G.3 l {a with heap:=n,toks:=q} _ _ C ⟨I,J⟩ λm_ p b_ n_ c_ s=>?_;refine P2 (i_ l m_<|by simpa using n_) λe u x F o_ p_ w=>?_;subst p_;haveI q_:p.get? e=Y {cls:=.type "tuple",data:=.seq #[.str u F,x] o_}:=s e _ (by simpa using w.2.2.2)<|A e _ w.2.2.1 w.2.2.2 w.2.1;haveI r_:=zP z λk m=>s g k (by simpa using E) m;have s_:(oO ([]:R<|aJ×ar)<|h.take l).length<=1000:=by haveI:=merged_length_le ([]:R<|aJ×ar)<|h.take l;rw[m5,m4]at this;exact Vj C t this f_
  dsimp only;refine ay<|d8 ?_;refine ay<|wpAny_tryCatch<|K8 q_ ?_;dsimp only;refine d8 (wpAny_dictSet_pairs (k:=u) (by first|rfl|simp[c',ZL]) r_ (λd_ t_ u_=>?_)<|by rw[ee];exact ER s_);refine bl ⟨xW sp _,?_⟩;have K:∀e k,e≠g->p.get? e=Y k->d_.get? e=Y k:=λe k v_ m=>u_.extBut e k v_ m;refine l_ (l+1) d_ _ (Vk y C t) C (c_.1.at λk m=>K f k (f4 E) m) (c_.2.at λk m=>K i k (f4 h_) m) ?_ λe k B v m=>K e k B<|s e k (by simpa using v)<|A e k B v m;rw[merged_take_succ _ _ _ _ w.1];exact t_
def JY{l:a9}{m:R ar}(B:d.1=ab)(C:a.1.get? l=Y {cls:=.type "list",data:=.seq m.toArray g})(I:m.length=f.length)(J:f.length<=1000)
 (K:∀(o:U)(p:ar),m[o]?=Y p->∃(i:a9)(q:aJ)(r:ar)(u:Tok)(v:U),p=.ref i/\f[o]?=Y (q,r)/\a.1.get? i=Y {cls:=.type "tuple",data:=.seq #[.str q u,r] v})
 (L:∀n w,(∀i j,a.1.get? i=Y j->n.get? i=Y j)->n.DictOf (c' b c) a.1.1.size (oO [] f)->h (.ref a.1.1.size) {a with heap:=n,toks:=w}):
 bh (bd b c) d (fJ (.type "dict") [.ref l]) h e a:=by
 refine ZP (Q₁:=λD E=>bD (D=.ref a.1.1.size)<|E={a with heap:=a.1.push {cls:=.type "dict",data:=.dict #[]}}) PySem.F.kt_called_dict (PySem.F.kt_typeCall_dict_1 _) PySem.F.entry_dict_init (kt_code_dict_new _ ⟨Z,Z⟩) ?_;rintro D E ⟨rfl,rfl⟩;have x:(a.1.push {cls:=.type "dict",data:=.dict #[]}).DictOf (c' b c) a.1.1.size []:=ê a.1;refine⟨x.typeIs,PySem.F.args_dict_init_2 _ _,?_⟩;refine ay ?_;refine ay<|wpAny_notOrdered_dict x.typeIs ?_;show bh _ _ (cN (a.1.1.size,[dn l])) _ _ _;refine bl ?_;show bh _ _ (à "dict.__init__" a.1.1.size (.ref l) [] .none) _ _ _;haveI y:(a.1.push {cls:=.type "dict",data:=.dict #[]}).get? l=Y {cls:=.type "list",data:=.seq m.toArray g}:=eK _ _ _ _ C;haveI F:l<a.1.1.size:=dm C;refine ay<|G8 (a1 _ ⟨y,Z⟩) ?_;rw[au<|ae Z];refine ay<|OZ B y λz a_ A=>?_;rw[au<|by rfl];refine ay<|qW ?_;have G:z.IsList l m.toArray:=a1 _ ⟨A _ _ y,Z,_,Z⟩;refine ay<|G4 G ?_;haveI H:=x.at λj k=>A _ j k;have s:a.1.1.size<z.1.size:=by obtain⟨_,_,_,k,_⟩:=H;exact dm k
 haveI b_:∀i j,a.1.get? i=Y j->z.get? i=Y j:=λi j k=>A i j<|eK _ _ _ _ k;refine bl ⟨xW sp _,?_⟩;refine K6 (d:=d.in1) B I J (jL<|e6 F s) (ed s) (jL F) (λo p c_=>?_) (λn w d_ e_=>?_) m.length 0 _ a_ (Y3 _) (c8 _)
  (a1 _ ⟨d5 _ Z,Z,Z⟩) (G.push _) (by rw[List.take_zero];exact H.push _) (λi j x_ x_ k=>eK _ _ _ _<|b_ i j k)
 .refine BZ (K o p c_) λi q r u v t=>?_;haveI:=dm t.2.2;exact NX i q r u v t.1 t.2.1 t.2.2 (ed this)<|ed<|e6 this s
 .refine⟨Z,L n w (λi j k=>?_) e_⟩;haveI:=dm k;exact d_ i j (ed this) (ed<|e6 this s) k
end
section
variable{a:aO}{b:c4}{c:ar->aO->Prop}
def Qi(z:bf d e f g a.1):∀{k:R V}{l:R<|an×V}{i:R ar},oa k=Y l->bt d e f k i->∃h:R<|aJ×ar,c1 d e f l h/\i.length=h.length/\
 ∀(c:U)(m:ar),i[c]?=Y m->∃(n:a9)(v:aJ)(p:ar)(q:Tok)(r:U),m=.ref n/\h[c]?=Y (v,p)/\a.1.get? n=Y {cls:=.type "tuple",data:=.seq #[.str v q,p] r}:=by
 intro k
 induction k with
 |nil=>
  intro l i b j;have A:=ch b;subst A;cases(j:_=_);exact cW ([]) Z Z λc m B=>by exact b8 B
 |cons p a_ C=>
  intro l i b j;revert j;refine Lj b λD b=>zV b λE b_ b=>k' (a:=E) b λw b=>uW b λF b=>dB b λc_ o G j=>?_;subst G;refine jq j λm d_ x=>?_;refine a8 (C o x.2) λh s=>?_;refine fA x.1 λn D H I t=>?_;subst H;obtain⟨_,r,J⟩:=I;obtain⟨e_,f_,rfl,⟨K,q,rfl⟩,t⟩:=t;rcases t with⟨u,g_,rfl,y⟩;cases(y.2:_=_);refine cW ((bv w,u)::h) (lg u h Z K F y.1 s.1) (aF (·+1) s.2.1) λc L o=>?_;cases c with
  |zero=>cases o;exact NW n (bv w) u q r Z Z<|z.a _ _ J
  |succ c=>exact s.2.2 c L o
def K7(o:ja d):ne d .ext3:=by
 intro C D E a b c F G H p I i J g j e;refine cv e λK q e=>dA e λr e=>dB e λL s t=>?_;rw[g4 q]at j;subst t;refine fl j λa_ b_ h=>?_;refine a8 (Qi g s h.2) λu f=>?_;have k:u.length<=1000:=by rw[<-f.2.1,h.2.A];exact r
 obtain⟨c_,d_,v⟩:=h.1;refine JY p (g.a _ _ v) f.2.1 k f.2.2 λw x y i=>?_;haveI l:=vg (e:=[]) f.1 Z iW;haveI m:=l.2;obtain⟨z,A,B⟩:=qK.1 i;haveI n:=bc.L (h:={a with heap:=w,toks:=x}) g y (eQ a.1) A Z Z;exact ck _ _ n ⟨_,_,Z,(aL (by simp at m;exact(aj Z:N [_,_,_] (.A X 1000) [.C S O,.A O 1000,.A X O]) f.2.1 k m) (vn o g) ⟨z,bF.B,B⟩),l.1.B n.b⟩
end
section
def Js(b:ja a):∀c:kC,ne a c
 |.init=>OU
 |.prolog=>p'<|.inl Z
 |.content=>p'<|.inr<|.inl Z
 |.cdata=>p'<|.inr<|.inr<|.inl Z
 |.error=>p'<|.inr<|.inr<|.inr<|.inl Z
 |.ext2=>p'<|.inr<|.inr<|.inr<|.inr Z
 |.epilog=>Rj
 |.ext3=>K7 b
def ea(b:bo a)(e:∀{d:da}{c:aS},bm d a c=Q->kO c)(f:x6 a):ht a:=⟨b,RP b e f⟩
structure q6(g:bQ):Prop where
 a:hv g
 e:jd g gt .And
 c:jd g h8 .Or
 f:je g gM .And
 d:je g gN .Or
 b:i7 ht g
section
def Qt:q6 .B:=⟨Sv,I5,P',I2,I7,ds⟩
def Qs(c:ht a)(d:q6 b):q6<|.A a b:=⟨Su c.1 d.a,I4 c.1 d.e,P9 c.1 d.c,I0 c.2 d.f,I6 c.2 d.d,⟨c,d.b⟩⟩
end
def fB(d:M.bk):ht d:=bk.rec (motive_1:=ht) (motive_2:=iv) (motive_3:=q6)
 (ea Sd rY λh h h=>Z)
 (λh=>ea RW rY λh h h=>Z)
 (λh=>ea R6 rY λh h h=>Z)
 (λh=>ea Sj rY λh h h=>Z)
 (λh=>ea Sm rZ λh h h=>Z)
 (λh=>ea R4 (λa=>rZ (aP a).1) λh h h=>Z)
 (λh=>ea Sk rZ λh h h=>Z)
 (λh h a=>ea (RS a.1) A1 λh h h=>Z)
 (λh h a b=>ea (R5 a.1 b.1) r0 λh h h=>Z)
 (λh h h a b c=>ea (Si a.1 b.1 c.1) r0 λh h h=>Z)
 (λh h a=>ea (Sh a.1) r0 λh h h=>Z)
 (λh h h a b=>ea (RU a.1 b.1) (λa=>y' a λh h h h h h h=>Z) λh h h=>Z)
 (λh a=>ea (Sb a.1) (λa=>zB a λh h h h h=>Z) λh h h=>Z)
 (λh a=>⟨Se a.1,RN a.2⟩)
 (λh a=>⟨RQ a.e,RH a.f⟩)
 (λh a=>⟨Sf a.c,RO a.d⟩)
 (λh h h a b=>⟨RZ a.1 b.1,RI a.1 b.1⟩)
 (λh h h h h a b c=>⟨R0 a.1 b.1 c.1,RJ a.1 b.1 c.1⟩)
 (λh h h a b c=>⟨R8 a.2 b.1 c.1,RM a.2 b.2 c.2⟩)
 (λh a=>ea (Sl a.a) (λa=>md a λh h h h h h=>Z) λh h h=>Z)
 (λh h a=>ea (R9 a.a) (λa=>zg a λh h h h h=>Z) λh h h=>Z)
 (λh h h a=>ea (R2 a.b) (λa=>un a λh h h h h h=>Z) λh h h=>Z)
 (λh h h h h a e b=>ea (R1 e a.1 b.b) (λa=>zf a λh h h h h h h=>Z) λh h h=>Z)
 (λh h a=>ea (RX a.a) jt λh h h=>Z)
 (λh h a=>ea (Sc a.a) jt λh h h=>Z)
 (λh h h a b=>ea (Sa a.1 b.a) jt λh h h=>Z)
 (λh h a=>ea (RY a.a) jt λh h h=>Z)
 (λh h a b=>ea (RR a.1 b.a) jt λh h h=>Z)
 (λf h a=>ea (RT (λh g=>Js g f) a.1) jt λh h h=>Z)
 (λh h a=>ea (R7 a.1) jt λh h h=>Z)
 (λh h h a b=>ea (RV a.1 b.a) jt λh h h=>Z)
 (λh h a b=>ea (R' a.1 b.1) jt λh h h=>Z)
 (λh a=>ea (Sg a.1) jt λh h h=>Z)
 (λh a=>⟨CN a.1,RL<|CN a.1⟩)
 ⟨R3,RK⟩
 (λh a=>CY a.1)
 (λh a=>CX a.1)
 (λh a=>CW a.1)
 (λh h a b=>C0 a.1 b.1)
 (λh a=>CZ a.1)
 Qt
 (λh h=>Qs) d
def Cg:∀b:jY,iv b
 |.A a=>CY (fB a).1
 |.B a=>CX (fB a).1
 |.C a=>CW (fB a).1
 |.E c d=>C0 (fB c).1 (fB d).1
 |.D a=>CZ (fB a).1
def Qo(a:bQ):i7 ht a:=bQ.C ds (λb d c=>⟨fB b,c⟩) a
end
def q1(c:b4)(d:bF)(e:cj):gZ->Flow->Prop
 |.A,a=>a=.next
 |.D,a=>a=.brk
 |.C,a=>a=.cont
 |.B f,a=>∃b,a=.ret b/\ba c d e f b
inductive gn(b:cG)(c:cH)(e:af)(f:aA)(a:cH)(d:af):Prop
 |B (g:bc b.a c.c c.b e (du b.b) c.a a.c a.b d a.a) (h:cI b f a d)
def kP(c:cG)(e:cH)(f:af)(g:Flow->aO->Prop):gZ×aA×af->Prop:=λb=>∀a d,gn c e f b.2.1 a b.2.2->q1 c.a a.c a.b b.1 d->g d a.a
def gJ(d:g2):Prop:=∀{a:cG}{e:c5}{f:aA}{b:cH}{c:af}{g:Flow->aO->Prop},jm a.c d e=Q->cI a f b c->aZ (nP a.d d f c) (kP a b c g)->b0 a (exec e a.b) g b.a
def kS(d:cu):Prop:=∀{a:cG}{e:R c5}{f:aA}{b:cH}{c:af}{g:Flow->aO->Prop},jn a.c d e=Q->cI a f b c->aZ (aw a.d d f c) (kP a b c g)->b0 a (execs e a.b) g b.a
section
variable{e:b4}{g:bF}{f:cj}{b:af}{c i l:aO}{j:c4}{k:ar->aO->Prop}{h:da}{a:fs}{d:aA}
def q1.A(b:cP g n f o)(a:q1 e g f m p):q1 e n o m p:=by
 cases m with
 |B h=>refine cg a λc d a=>?_;exact ax c d<|a.A b
 |_=>exact a
def bJ.G(j:bJ e g f b h a d c.1)(k:bc e g f b cE c m n o i):bc e g f b (du a) c m n o i:=k.I λl p=>(j.a l p).2
def bJ.E(j:bJ e g f b h a d c.1)(k:bc e g f b (du a) c m n o i)(l:bc e m n o (du a) i p q r s):bc e g f b (du a) c p q r s:=k.F l λu t=>j.B t
def c6.D(c:cI m d n b)(a:c6 m d n b o p):gn m n b d o p:=⟨c.3.G a.1,a.2⟩
def cI.F(a:cI n d m b):gn n m b d m b:=a.A.D a
def gn.A(c:cI m d n b)(e:gn m n b t o p)(a:gn m o p q r s):gn m n b q r s:=⟨c.3.E e.1 a.1,a.2⟩
def aZ.K(a:aZ o<|kP m n b p)(c:cI m d n b)(e:gn m n b s q r):aZ o<|kP m q r p:=a.H λh a h h f g=>a _ _ (e.A c f) g
def JC:∀{o:R<|U×aJ}{n:R V}{q:R ar}{d:aA}{c:aO}{p:Unit->aO->Prop},(∀m∈o,hi h m.1 m.2=Q)->o.length=n.length->bt e g f n q->bJ e g f b h a d c.1->bf e g f b c.1->(∀i,bc e g f b (du a) c g f b i->bJ e g f b h a (fq d<|(o.map (·.1)).zip n) i.1->p () i)->bh (bd e.b e.a) j (xN (o.map λm=>na a m.2) q) p k c:=by
 intro B
 induction B with
 |nil=>
  exact @λn q d c p s t w r u v=>bl<|v c (.B_ u) r
 |cons x o C=>
  exact @λn q d c p s t w r u v=>by
   cases n with
   |nil=>cases t
   |cons J n=>
    refine jq w λD y z=>?_;have m:=z.1;show bh _ j (do holding y (na a x.2 D);xN (o.map λm=>na a m.2) y) p k c;refine ay<|d8<|wpAny_bindName<|r.I u (s x<|.head _) m λl A E=>?_;refine C (λm F=>s m<|.tail _ F) (by simpa using t) z.2 E A.a λG H I=>?_;exact v G (r.E A H) I
def TN(a:U×V):∀(b:R<|U×V)(d:aA),fq d (b++[a])=(fq d b).A a.1 a.2:=by
 intro e
 induction e with
 |nil=>
  exact @λg=>Z
 |cons c b f=>
  exact @λd=>by show fq (d.A c.1 c.2) (b++[a])=(fq (d.A c.1 c.2) b).A a.1 a.2;exact f _
def TO:∀{a:R<|U×V}{d:aA},m∉a.map (·.1)->fq (d.A m n) a=(fq d a).A m n:=by
 intro e
 induction e with
 |nil=>
  exact @λg g=>Z
 |cons b a f=>
  exact @λd c=>by rw[cl,bj,qY]at c;show fq ((d.A m n).A b.1 b.2) a=(fq (d.A b.1 b.2) a).A m n;rw[TP c.1,f c.2]
def TM:∀{a:R<|U×V}{d:aA},(a.map (·.1)).Nodup->fq d a.reverse=fq d a:=by
 intro c
 induction c with
 |nil=>
  exact @λg g=>Z
 |cons f a e=>
  exact @λd b=>by rw[cl,fg]at b;rw[oE,TN,e b.2,<-TO b.1];rfl
def Fq:∀{b:R m}{a:R n},b.length=a.length->b.reverse.zip a.reverse=(b.zip a).reverse:=by
 intro b
 induction b with
 |nil=>intro a c;cases a with
  |nil=>rfl
  |cons e a=>cases c
 |cons g b f=>intro a c;cases a with
  |nil=>cases c
  |cons e a=>
   haveI d:b.length=a.length:=by simpa using c
   rw[oE,oE,qE,oE,<-f d,List.zip_append<|by simpa using d];rfl
def iE(a:aS):Str:=if b:a.ctorIdx=23 then tq (motive_1:=λd=>aJ) a b λc d=>c else""
def BC:∀{d:R U}{b:R aS},ll h d b=Q->b.length=d.length/\(∀e∈b,∃i j,e=.Name i j)/\∀c∈d.zip (b.map iE),hi h c.1 c.2=true:=by
 intro k
 induction k with
 |nil=>
  exact @λb f=>e' f<|aL Z (λq a=>bW a) λq a=>bW a
 |cons o d l=>
  exact @λb f=>by
   refine uw f λp c b m n=>?_;have g:=l n;refine aL (aF xk g.1) (λe a=>?_) λc a=>?_
   .rcases bj.1 a with rfl|a
    .exact f9 _ _ Z
    .exact g.2.1 e a
   .rw[cl,qE]at a;rcases bj.1 a with rfl|a
    .exact m
    .exact g.2.2 c a
def Nq:∀{a:R o},(∀b∈a,∀d,m b=Y d->d=n b)->(a.filterMap m).length=a.length->a.filterMap m=a.map n:=by
 intro g
 induction g with
 |nil=>
  exact @λj j=>Z
 |cons b a h=>
  exact @λf c=>by
   refine dP (m b) (λe=>?none) λd e=>?some
   case none=>
    rw[List.filterMap_cons_none e]at c;have:=List.length_filterMap_le m a;rw[dd]at c;exact((a5 101 Z:N [_,_] (.a) [.C X<|S+1,.A X S]) c this).elim
   case some=>
    rw[Ym e]at c⊢;rw[cl,f b (.head _) d e,h (λb i=>f b<|.tail _ i)<|qH c]
def rX{a:o->Prop}{h:Prop}[oz h](c:a m)(d:¬h->a n):a<|if h then m else n:=by
 by_cases b:h;.rw[au b];exact c
 .rw[ao b];exact d b
def yf(b:R aS)(a:Sem<|aD<|R aJ):Prop:=a=cN ab\/a=cN (Y<|b.map iE)
def Tp{b:R aS}{f:U}(d:sL m=Q)(j:∀c∈b,∃h i,c=.Name h i):tC [.Tuple b f n] m a=cN ab\/tC [.Tuple b f n] m a=cN (Y<|b.map iE):=by
 cases m with
 |Tuple g t u=>
  refine rX (a:=yf b) (.inl Z) λx=>rX (.inl Z) λx=>rX (.inl Z) λe=>rX (.inl Z) λk=>?_;have e:=w0.1<|ow.2 e;haveI q:=Nq (n:=iE) (λl o v c=>d2 (j l o) λw n p=>by subst p;exact dA c λx c=>ch c)<|bne_eq_false_iff_eq.1 e.1;haveI d:(g.all (ZR 8)|| !g.all (ZQ 8))=true:=d;refine(aF (yf b)<|ao λr=>?_).mpr<|.inr<|aF (λs=>(cN (Y s):Sem<|aD<|R aJ)) q;rw[r,ow.2 k]at d;exact bx d
 |_=>exact .inl Z
def wa(b:jy m=Q):xY m (Y n) o a=cN false:=by cases m<;>first|rfl|exact bx b
def Ab(r:xY m (Y n) p.1 a=cN o)
 (h:if o then bh (bd e.b e.a) j (evalThenUse m a λm=>i1 n a m) (λt=>q .next) k c else bh (bd e.b e.a) j (dX m a) (λg l=>∃b,tC [n] m a=cN b/\bh (bd e.b e.a) j (xO a g b [i1 n a]) q k l) k c)
 (s:(ty [n] a).map (·.2)=[i1 n a]):bh (bd e.b e.a) j (exec (.Assign [n] m p) a) q k c:=by
 rw[exec_Assign_arm];refine ay<|lR ?_;rw[show swapsWithSole [n] m p.1 a=cN o from r];refine ay<|bl ?_;rw[s];cases o with
 |true=>exact ay<|kJ h (λt t d=>bl d) λt t f=>f
 |false=>
  refine ay<|kJ h (λg l d=>?_) λt t f=>f;refine a8 d λb i=>?_;rw[i.1];exact ay<|bl i.2
def Dv(b:gV h n m=Q):(ty [m] a).map (·.2)=[i1 m a]:=by
 cases n with
 |A _=>exact eY b λc c c=>Z
 |B _=>exact md b λc c c c=>Z
def Jl(K:j.1=ab)(D:gV h o n=Q)(e_:sL p=Q)(z:bJ e g f b h a d c.1)(E:bf e g f b c.1)(L:ba e g f r m)(t:dY o r d=Y s)(a_:∀i,bc e g f b (du a) c g f b i->bJ e g f b h a s i.1->q .next i):
 ∃b_,tC [n] p a=cN b_/\bh (bd e.b e.a) j (xO a m b_ [i1 n a]) q k c:=by
 have c_:bh (bd e.b e.a) j (xO a m ab [i1 n a]) q k c:=by show bh _ j (do i1 n a m;cN Zu) _ k c;exact ay<|wc K v' (λx_ f_=>f_) z E L D t λg_ F A=>bl<|a_ _ F A
 cases o with
 |A u_=>
  exact ax ab (eY D λx_ x_ x_=>Z) c_
 |B B=>
  refine iK (wf D) λu v_ v G H=>?_;subst G;rcases Tp e_ (BC H.1).2.1 with I|I;.exact ax ab I c_
  .refine ax _ I ?_;refine jA (ph t) λd_ h_ C G=>?_;subst G;haveI w:=BC H.1;haveI i_:(u.map iE).length=d_.length:=by rw[bC,w.1,C]
   show bh _ j (do
    rule "assign.swapped-stores"
    let j_<-GU m (u.map iE).length ab
    xN ((u.map iE).reverse.map λx=>na a x) j_.reverse
    cN Zu) _ k c
   refine ay<|qW ?_;rw[i_];refine ay<|Dz K E L h_ λk_ l_ w_ m_ n_=>?_;have J:bc e g f b cE c g f b {c with heap:=k_,toks:=l_}:=.A E n_ Z Z;haveI o_:=z.F J;haveI q_:((u.map iE).reverse.map λx=>na a x)=((B.zip<|u.map iE).reverse.map λv=>na a v.2):=by
    rw[<-Fq (by rw[bC,w.1])];haveI:∀(y:R U)(l:R aJ),y.length=l.length->l.map (λx=>na a x)=(y.zip l).map λv=>na a v.2:=by
     intro y
     induction y with
     |nil=>intro l t;cases l with
      |nil=>rfl
      |cons _ _=>cases t
     |cons p y p_=>intro l t;cases l with
      |nil=>cases t
      |cons m l=>rw[qE,cl,cl,p_ l<|by simpa using t]
    exact this _ _<|by simp[w.1]
   rw[q_];haveI r_:(B.zip<|u.map iE).length=d_.length:=by rw[FL,bC,w.1,C];simp
   refine ay<|JC (λv s_=>w.2.2 v<|List.mem_reverse.1 s_) (by rw[th,th];exact r_) m_.F o_ J.a λg_ F A=>bl<|a_ _ (z.E (z.G J) F) ?_;haveI t_:((B.zip<|u.map iE).reverse.map (·.1))=B.reverse:=by rw[List.map_reverse,ti<|by rw[bC,w.1];exact aY _]
   rw[t_,Fq C,TM<|by rw[ti<|by rw[C];exact aY _];exact H.2]at A;exact A
def Oj(f:u0 m=Q):∃a b c d e,m=.d a b c d e:=
 Lf (c:=λm=>∃a b c d e,m=.d a b c d e) m (tm f) λa b c d e=>⟨a,b,c,d,e,Z⟩
def SX(H:bo m)(I:∀q s w t u,m=.d q s w t u->iv t/\bo s/\i7 ht u):gJ<|.B n m:=λ{a x d J b j_} K c e=>Kg K λy z k_ f=>by
 haveI L:=c.2.a;have a_:bh (bd a.a.b a.a.a) a.e (dX z a.b) (λx l=>∃r,tC [y] z a.b=cN r/\bh (bd a.a.b a.a.a) a.e (xO a.b x r [i1 y a.b]) j_ a.f l) a.f J.a:=
  H f.2.1 c (e.A λr e h x j A=>e.D λl_ B e=>Jl L f.1 f.2.2.1 j.2.3 j.2.4 A B λi p m_=>e ⟨h.c,h.b,i⟩ .next (gn.A c (j.D c) ⟨p,j.2.1,j.2.2,m_,p.a⟩) Z)
 clear H;refine c2 (jy z) (λg=>?false) λg=>?true
 case true=>exact Ab (wa g) a_<|Dv f.1
 case false=>
  have C:=f.2.2.2;rw[g,Ft]at C;refine BZ (Oj C) λq s w t u b_=>?_
  .clear C;have D:=I q s w t u b_;clear I K;subst b_;obtain⟨m,n_,o_,p_,q_,r_,rfl,s_⟩:=Kk f.2.1;haveI t_:∃E,xY (.ListComp m [⟨n_,o_,p_,0⟩] q_ r_) (Y y) k_.1 a.b=cN E:=by
    cases n with
    |A _=>exact eY f.1 λx_ x_ x_=>a1 _ Z
    |B _=>exact md f.1 λx_ x_ x_ x_=>a1 _ Z
   refine a8 t_ λE c_=>?_;refine Ab c_ ?_<|Dv f.1;clear c_;cases E with
   |false=>exact a_
   |true=>
    show bh _ a.e (evalThenUse _ a.b _) _ a.f J.a;rw[arm_evalThenUse_ListComp];refine fF<|zH D.1 D.2.1 D.2.2 s_ c<|e.A λr e h d_ y_ p A e_ u_ F g=>aZ.D e λl_ B e=>?_;haveI j:=c.B p;refine wc L v' (λx_ a=>a) j.2.3 p.a A f.1 B λf_ G v_=>?_;refine a8 g λq g=>?_;haveI w_:eD h.c h.b r.2 d_:=G.D e_ (by obtain⟨_,_,_,m,_⟩:=g;rw[m];nofun);refine a1 q ⟨g.at' λv m=>G.K e_ F m,λg_ h_=>bl ?_⟩;haveI i_:=(c.3.E (c.3.G p) G).G (i:={f_ with heap:=g_}) (r:=λk=>k=d_) (λk o=>o▸(am u_ w_)) (λk o=>o▸F) (λk v o m=>h_.extBut k v o m) Z Z;exact e ⟨h.c,h.b,{f_ with heap:=g_}⟩ .next ⟨i_,c.1,c.2,v_.D λk a v m=>h_.extBut k v (λo=>F<|o▸a) m,i_.a⟩ Z
end
section
variable{h:b4}{k:bF}{j:cj}{f:af}{b:aO}{m:c4}{l:ar->aO->Prop}{i:da}{g:fs}{e:aA}{a d c:M.bk}
def SC{d:R ar}{e:ah}(g:b.1.get? n=Y {cls:=.type "list",data:=.seq d.toArray r})(k:0<=e)(s:e<d.length)(t:d.length<=1000000)
 (v:∀i u,i.get? n=Y {cls:=.type "list",data:=.seq (d.set e.toNat o).toArray u}->(∀c,c≠n->i.get? c=b.1.get? c)->p () {b with heap:=i}):bh (bd h.b h.a) m (setItem (.ref n) (.int e q) o) p l b:=by
 haveI j:b.TypeIs (.ref n) "list":=⟨_,g,Z⟩;unfold setItem
 try with_reducible refine d8 ?_
 first|refine ay (bl ?_)|skip
 refine ay<|wpAny_sequenceKey j (ae Z) ?_;refine ay<|lQ j ZZ<|kI ZZ j entry_list_setitem ?_<|args_list_setitem _ _ _;show bh _ _ (ä (.int e q)>>=_) _ _ b;refine ay<|wpAny_listSubscript_int (fitsIndex_of k<|Fy s<|qy (e5.2 t)<|ae Z) ?_;obtain⟨f,rfl⟩:=Int.eq_ofNat_of_zero_le k;haveI w:f<d.toArray.size:=by rw[cY];exact Vl s
 refine ay<|ay<|wpAny_seqItemAt g Z<|bl ?_;rw[Array.getElem?_eq_getElem w];haveI z:p () {b with heap:=b.1.update n<|gX (·.setIfInBounds f o)}:=by
  haveI a:=F7 g (·.setIfInBounds f o);haveI x:d.toArray.setIfInBounds f o=(d.set f o).toArray:=by simp
  rw[x]at a;exact v _ _ a λc y=>jN _ _<|f4 y
 refine ay<|wpAny_setSeqItemAt g Z ?_
 first
  |exact ay (bl (bl ⟨.none,Z,bl z⟩))
  |exact wpAny_pure ⟨.none,rfl,wpAny_pure z⟩
def bJ.A_(q:bJ h k j f i g e b.1){w:aJ}(C:hi i n w=Q)(x:e n=Y o)(s:∀c,ba h k j o c->p c b):
 bh (bd h.b h.a) m (loadName g w) p l b:=by
 refine gS (sY C) λy t D=>?_;subst t;by_cases u:g.kindOf (i.a n)=.some .local;.refine a8 q.e λE z=>?_;refine a8 (z.2 n y u o x) λc A=>?_;exact Z9 q.b u z.1 A.1<|s c A.2
 .obtain⟨r,d,a,F,v⟩:=q.d n y u;refine cg (v.2 o x) λc t B=>?_;subst t;rcases r with r|r
  .exact Z7 q.b r a v.1<|s c B
  .exact Z8 q.b r a v.1 (s c B) D.2.2
def Oh(a:bJ h k j f i g e b.1):interactive g=false:=by unfold interactive;rw[a.b];rfl
def To(a:jy n=Q):xY n ab o g=cN false:=by cases n<;>first|rfl|exact bx a
def S7(y:bo d)(z:bo a):gJ<|.E d n a:=λ{J o e K f L} A p b=>Ku A λq a_ b_ c_ g=>by
 refine PySem.plainObj_wpAny_Assign_Attribute (z g.1 p<|b.A λd_ b e_ o r k=>y g.2.1 r.2<|b.A λf_ b s t j u=>b.C λg_ B b=>b.C λh_ i b=>b.G λl b=>?_)<|wa g.2.2;haveI k:=j.B k;haveI m:=j.2.4;rw[jk B]at u;haveI i:=zc i;refine bS (uZ m u i) λq i_ C h=>?_;subst C;refine SF j.2.1.a.b m h.2.2 l.2 l.1 λj_ k_ D l_ g v E w=>?_;refine b.B ⟨s.c,s.b,_⟩ .next (c6.D p<|(r.A j).F ?_) Z;haveI F:=sj v;refine bc.J m h.1 (λc=>by rw[i];exact w1) (λc m_ G x=>?_) (dZ _ ?_ h.2.1 ?_<|g.D k F) Z Z;.rw[i]at x;exact(w c λt=>x<|by simp[ex,t]).trans G
 .exact(w q h.2.1).trans h.2.2.a
 .refine cg h.2.2.b λn_ H x_=>?_;obtain⟨o_,I,p_,q_,r_⟩:=H;refine aL ?_ I ⟨_,E,Cq v _ _ _⟩;haveI:=sH D (b2 n) o;haveI:=g.C;haveI:=l.1
  omega
def S8(z:bo a)(A:bo d)(B:bo n):gJ<|.H d n a:=λ{k_ w e l_ f m_} C n b=>Kv C λn_ D o_ p_ q_ l=>by
 refine wpAny_Assign_Subscript (z l.1 n<|b.A λr_ b s_ w x m=>A l.2.1 x.2<|b.A λt_ b u_ D s i=>B l.2.2.1 s.2<|b.A λv_ b o w_ p q=>b.C λy_ E b=>?_)<|wa l.2.2.2.2;have m:=p.B<|s.B m;have i:=p.B i;have y:=(x.A s).A p;haveI r:=p.2.4;rw[jk E]at i;refine b.A_ (λb=>b.C λt u b=>b.C λz_ g b=>b.G λj b=>?_) λb=>b.C λt u b=>b.C λA_ g b=>b.G λj b=>?_
 .have g:=pk g;rw[j7 u]at q;refine iK (pl r i g) λF G H I k=>?_;subst I;refine fR q λJ K=>?_;obtain⟨L,a_,B_,b_⟩:=id k.2.1;refine wpAny_setItem_pairs (k:=bv t) (by first|rfl|simp[c',ZL]) k.2.1.A (λc_ d_ e_=>?_) (by rw[ee];exact ER L);obtain⟨f_,v,g_⟩:=qK.1 d_;refine b.B ⟨o.c,o.b,_⟩ .next (c6.D n<|y.F<|Df r k.1 g (λc h_=>e_.2 c h_) ⟨?_,a_,f_,v,g_⟩ (k.2.2.E K j.2 m<|sj b_.2) Z Z) Z;haveI:=sH H (bv t) w;haveI:=k.2.2.A;haveI:=j.1
  omega
 .have g:=rt g;rw[hz u]at q;refine BY (nH r i g) λF G C_ D_ i_ h=>?_;subst i_;refine cD q λJ=>?_;refine SC h.2.2.1 j.1 (by rw[h.2.2.2.A];exact j.2) h.2.1 λc_ E_ v j_=>?_;exact b.B ⟨o.c,o.b,_⟩ .next (c6.D n<|y.F<|sI r h.1 g j_ (by rw[qD];exact h.2.1) v (h.2.2.2.H _ m) Z Z) Z
def SY(l:bo a):gJ<|.J n a:=λ{v m e w f x} o c b=>Ki o λy z A B h p=>by refine aZ.C b λC q b=>wpAny_AugAssign_Name<|c.3.A_ h q λm i=>l p c<|b.A λD b g E d j=>b.C λF r b=>b.D λG s b=>?_;rw[hz r]at i;rw[hz s]at j;refine cD i λH=>?_;refine cD j λI=>?_;refine wpAny_iadd_int ?_;haveI d:=d.C<|g.a.4+1;exact d.2.3.I d.2.4 h (hj) λt k u=>b ⟨g.c,g.b,t⟩ .next (gn.A c (d.D c) ⟨k,c.1,c.2,u,k.a⟩) Z
def S1(g:bo a):gJ<|.A a:=λ{j k e l f m} b c d=>JW b λn o b=>wpAny_Expr_any (g (aP b).1 c<|d.E λp d h p i p=>d h .next (i.D c) Z) (Oh c.3)<|To (aP b).2
def S5(h:bo a):gJ<|.D a:=λ{l b e m f n} c g d=>Kq c λo p c=>wpAny_Return_some<|h c g<|d.E λq d i b j k=>d i (.ret b) (j.D g)<|ax b Z k
def S6:gJ .a:=λa b c=>Kr a λd=>wpAny_Return_none<|c.B _ (.ret .none) b.F<|ax (.none) Z Z
def SZ:gJ .K:=λa b c=>JQ a λd e=>wpAny_Break<|c.B _ .brk b.F Z
def S0:gJ .L:=λa b c=>JR a λd e=>wpAny_Continue<|c.B _ .cont b.F Z
def S2:gJ .F:=λb b a=>aZ.F a
def Ta:kS .B:=λa b c=>e' a<|GZ<|c.B _ .next b.F Z
def Ok{a:g2}(b:u1 a=Q):nP n a e f=none:=CK (c:=λa=>nP n a e f=ab) a (tm b) Z
def P8{d c:aE}{a:Prop}(b:(d||c)=Q)(e:d=Q->a)(f:c=Q->a):a:=by
 cases d with
 |false=>exact f b
 |true=>exact e Z
def S'{k:g2}{l:cu}(o:gJ k)(p:kS l):kS<|.A k l:=λ{t h e u f v} b m c=>P8 b (λb=>aZ.C c λn a E=>b8<|(Ok b).symm.trans a) λb=>gq b λw x b=>wpAny_execs_cons (o (aP b).1 m (aZ.A c λn c i j d g=>by
 obtain⟨q,y,z⟩:=n;cases q with
 |A=>cases(g:j=.next);exact p (aP b).2 d.2 (aZ.K c m d)
 |D=>cases(g:j=.brk);exact aZ.B c i .brk d Z
 |C=>cases(g:j=.cont);exact aZ.B c i .cont d Z
 |B A=>refine cg g λh r s=>?_;subst r;exact aZ.B c i (.ret h) d<|ax h Z s))
def S4(h:fu a)(i:kS n)(j:kS o):gJ<|.C a n o:=λ{l m e p f q} k b c=>JT k λr o s t d=>wpAny_If (h (bO d).1 b (c.A λg c u n=>by
 obtain⟨g,_⟩:=g;cases g with
 |true=>exact i (bO d).2.1 n.2 (aZ.K c b<|n.D b)
 |false=>exact j (bO d).2.2 n.2<|aZ.K c b<|n.D b))
end
section
variable{a b:aO}
def bc.C_(d:bc l q m n i o p j k b)(t:bf l p j k a.1){s:a9->Prop}(u:∀c,s c->fM m n o c)(v:∀c f,¬s c->¬i c->¬es j k c->b.1.get? c=Y f->a.1.get? c=Y f)
 (w:∀c,i c->a.1.get? c≠ab)(x:a.5=b.5)(y:a.2=b.2):bc l q m n i o p j k a:=by
 refine⟨d.b,t,d.g,d.d,λc f g r h=>v c f (λz=>?_) h (λA=>?_)<|d.c c f g r h,λc h B=>w c h,x.trans d.f,y.trans d.e⟩
 .refine b1 (u c z) (λe=>?_) λe=>?_
  .exact r e
  .rw[e]at g;exact b8 g
 .refine b1 (d.d c A) (λe=>?_) λe=>?_
  .exact r e
  .rw[e]at g;exact b8 g
def Lz(b:cG)(c:Flow->aO->Prop):Result->aO->Prop:=λd a=>match d with
 |.ok e=>c e a
 |.error f=>cameBackBy (bd b.a.b b.a.a) b.e b.b b.f f a
def cG.A(a:cG)(b:Flow->aO->Prop):cG:=a.B a.c a.b<|Lz a b
def cI.E(a:cI c d e f):cI (c.A g) d e f:=⟨a.1,a.2,a.3,a.4⟩
def aZ.L(b:aZ d<|kP e f g c):aZ d<|kP (e.A c) f g c:=b.H λk b h i a j=>b h i ⟨a.1,a.2.1,a.2.2,a.2.3,a.2.4⟩ j
def S9(B:fu c)(C:kS d):gJ<|.I c d:=λ{g n j o h k} D p e=>Ky D λJ K L w=>by
 refine wpAny_While<|codeAny_whileLoop (λf a=>∃q r s,a=r.a/\aZ (jw (λj h=>bz g.d c j h) (λj h=>aw g.d d j h) f q s) (kP (g.A k) o h k)/\gn (g.A k) o h q r s) ?_ g.d.b<|uP j o h Z (aZ.L e) p.E.F;rintro f b ⟨q,r,s,rfl,e,t⟩;cases f with
 |zero=>exact aZ.F e
 |succ f=>
  refine @B (g.A k) _ _ _ _ _ w.1 t.2<|aZ.A e λu e E x=>?_;haveI y:=gn.A p.E t<|x.D t.2;obtain⟨F,a_⟩:=u;cases F with
  |false=>exact GZ<|aZ.B e E .next y Z
  |true=>
   refine @C (g.A k) _ _ _ _ _ w.2 x.2<|aZ.A e λu e l v i m=>?_;haveI i:=gn.A p.E y i;obtain⟨G,z,A⟩:=u;cases G with
   |A=>cases(m:v=.next);exact a1 f ⟨eV f,z,l,A,Z,e,i⟩
   |C=>cases(m:v=.cont);exact a1 f ⟨eV f,z,l,A,Z,e,i⟩
   |D=>cases(m:v=.brk);exact aZ.B e l .next i Z
   |B b_=>refine cg m λn H I=>?_;subst H;exact aZ.B e l (.ret n) i<|ax n Z I
inductive x9(b:cG)(e:cH)(f:af)(g h:R a9)(i:U->bT->Prop)(c:cH)(j:U)(k:aA)(a:cH)(d:af):Prop
 |A (l:gn b e f k a d) (m:cP c.c a.c c.b a.b) (n:ir a.c a.b d b.b g h) (o:i j a.a.1)
def S3(l_:iv d)(m_:kS c):gJ<|.G e d c:=λ{k C D z t u} n_ i h=>Km n_ λE_ F_ G_ H_ m=>by
 refine wpAny_For (l_ m.2.2.1 i<|h.A λE h F f b_ c_ d_ e_ o=>?_) λo_=>BU m.2.2.2.1 o_;obtain⟨p,p_⟩:=E;refine codeAny_forLoop_any (λn a=>∃i A l v,a=l.a/\n=p.length+1-i/\i<=p.length/\aZ (dx (λD t=>aw k.d c D t) e (p.drop i) A v) (kP (k.A u) z t u)/\x9 (k.A u) z t b_ c_ d_ F i A l v) ?_ (p.length+1)
  (Aw 0 D F p_ Z Z (c8 _) (aZ.L h) ⟨⟨i.3.G e_.1,e_.2.E⟩,cP.B _ _,o.A i.3,o.c⟩)
 rintro n b ⟨n,A,l,v,rfl,rfl,q_,h,f⟩;by_cases q:n<p.length
 .rw[te q]at h;refine aZ.C h λr_ s_ h=>?_;refine o.a.B (hQ q) s_ m.1 (Co m.2.1) f.2 f.4 f.1.2.3 f.1.2.4 f.3 v' (λx_ m=>m) λt_ f_ G g_ w u_ v_=>?_;have h_:gn (k.A u) z t r_ ⟨l.c,l.b,t_⟩ v:=⟨f.1.1.C_ G (λg j=>(o.b g j).2) (λg r H w_ y_ s=>w g r H w_ s y_) (λg j=>f_.B j) u_ v_,i.1,i.2,f_,G⟩;refine @m_ (k.A u) _ _ _ _ _ m.2.2.2.2 h_.2<|aZ.A h λE h x I y B=>?_;haveI J:=gn.A i.E h_ y;obtain⟨z_,K,L⟩:=E;haveI i_:x9 (k.A u) z t b_ c_ d_ F (n+1) K x L:=⟨J,f.2.C y.1.b,f.3.B (λx_ m=>m) o.a.b y.1<|o.a.c _ _ g_,o.a.a _ _ _ g_<|f.3.A (λx_ m=>m) G y.1⟩;clear y;cases z_ with
  |A=>cases(B:I=.next);exact a1 (p.length+1-(n+1)) ⟨by exact s6 q,n+1,K,x,L,Z,Z,q,h,i_⟩
  |C=>cases(B:I=.cont);exact a1 (p.length+1-(n+1)) ⟨by exact s6 q,n+1,K,x,L,Z,Z,q,h,i_⟩
  |D=>cases(B:I=.brk);exact aZ.B h x .next J Z
  |B I_=>refine cg B λC A_ B_=>?_;subst A_;exact aZ.B h x (.ret C) J<|ax C Z B_
 .have C_:n=p.length:=by exact wO q_ q
  clear q;subst C_;rw[Yj]at h;refine o.a.d _ _ _ f.4 λa_ D_ w=>GZ ?_;have j_:bf k.a l.c l.b v a_:=f.1.2.4.G (λg j=>(f.3.1 g j).1) λg r j s=>w g r j s;have k_:bJ k.a l.c l.b v k.c k.b A a_:=f.1.2.3.D λg k r s=>w g r (λj=>(f.3.1 g j).2 k) s;exact aZ.B h ⟨l.c,l.b,{l.a with heap:=a_,toks:=D_}⟩ .next ⟨f.1.1.C_ j_ (λg j=>(o.b g j).2) (λg r H x_ x_ s=>w g r H s) (λg j=>bJ.B k_ j) Z Z,i.1,i.2,k_,j_⟩ Z
mutual
noncomputable def QM:∀b:g2,gJ b
 |.B _ a=>SX (fB a).1 λn h o d i j=>by subst j;exact aL (Cg d) ((fB h).1)<|Qo i
 |.E e _ a=>S7 (fB e).1 (fB a).1
 |.H e k a=>S8 (fB a).1 (fB e).1 (fB k).1
 |.J _ a=>SY (fB a).1
 |.A a=>S1 (fB a).1
 |.C f l m=>S4 (fB f).2 (oe l)<|oe m
 |.G _ d g=>S3 (Cg d)<|oe g
 |.I f g=>S9 (fB f).2<|oe g
 |.D a=>S5 (fB a).1
 |.a=>S6
 |.K=>SZ
 |.L=>S0
 |.F=>S2
noncomputable def oe:∀c:cu,kS c
 |.B=>Ta
 |.A b c=>S' (QM b)<|oe c
end
end
end M
namespace M
open PySem PySem.W PyProof.Rows
def ji(a:R<|aJ×ar)(b:aJ×ar):R<|aJ×ar:=if(a.lookup b.1).isNone then a++[b]else a
def Pj:∀(d a:R<|aJ×ar),(s' d a λb e=>if(m6 b.1 e).isNone=Q then cN<|m0<|e++[(b.1,b.2)]else cN (m0 e):Sem<|R<|aJ×ar)=cN (d.foldl ji a):=by
 intro f
 induction f with
 |nil=>
  exact @λa=>Z
 |cons b d g=>
  exact @λa=>by
   rw[m2,m1,<-g];unfold ji;by_cases c:(m6 b.1 a).isNone=Q;.rw[au c,au c];rfl
   .rw[ao c,ao c];rfl
def Ph{c:R<|aJ×b}(d:a∉c.map (·.1)):c.lookup a=none:=by
 induction c with
 |nil=>rfl
 |cons f c g=>
  rw[cl,bj,qY]at d;rw[ik];refine c2 (a==f.1) (λe=>?false) λe=>?true
  case true=>exact a2 (ce.1 e) d.1
  case false=>exact g d.2
def Bm{c:R<|aJ×b}(f:a∈c.map (·.1)):(c.lookup a).isNone=false:=by
 induction c with
 |nil=>exact bW f
 |cons g c h=>
  rw[ik];refine c2 (a==g.1) (λd=>?false) λd=>?true
  case true=>rfl
  case false=>
   rcases bj.1 f with e|e;.rw[e,tF]at d;exact e4 d
   .exact h e
def NG:∀{c a:R<|aJ×ar},(∀b∈c,b.1∈a.map (·.1))->c.foldl ji a=a:=by
 intro e
 induction e with
 |nil=>
  exact @λi i=>Z
 |cons b c f=>
  exact @λa d=>by
   rw[m1];have:ji a b=a:=by unfold ji;rw[Bm<|d b<|.head _];rfl
   rw[this];exact f λg h=>d g<|.tail _ h
def NH:∀{c a:R<|aJ×ar},((a++c).map (·.1)).Nodup->c.foldl ji a=a++c:=by
 intro e
 induction e with
 |nil=>
  exact @λa i=>by simp
 |cons b c f=>
  exact @λa d=>by
   have g:b.1∉a.map (·.1):=by rw[hR,tk]at d;intro h;exact d.2.2 b.1 h b.1 (by simp) Z
   rw[m1];have:ji a b=a++[b]:=by unfold ji;rw[Ph g];rfl
   rw[this,f<|by rw[f2];exact d,f2];rfl
def ND:∀{d:R c},(∀e∈d,a e=b e)->d.filterMap a=d.filterMap b:=by
 intro g
 induction g with
 |nil=>
  exact @λl=>Z
 |cons e d h=>
  exact @λf=>by haveI k:=h λi j=>f i<|.tail _ j;rw[Yl,Yl,f e<|.head _,k]
def XA:∀{b:R aJ}{a:R ar},b.Nodup->b.length=a.length->(b.filterMap λc=>((b.zip a).lookup c).map λj=>(c,j))=b.zip a:=by
 intro b
 induction b with
 |nil=>intro a _ k;cases a with
  |nil=>rfl
  |cons e a=>cases k
 |cons f b l=>intro a d g;cases a with
  |nil=>cases g
  |cons e a=>
   rw[fg]at d;rw[qE,Ym (b:=(f,e))<|by rw[ik,tF];rfl]
   congr 1
   refine(ND λc h=>?_).trans (l d.2<|by simpa using g);rw[ik];refine c2 (c==f) (λi=>?false) λi=>?true
   case true=>rw[ce.1 i]at h;exact a2 h d.1
   case false=>rfl
def SW:∀(a:U)(b:R aJ)(c:R ar),b.zip c=(b.take a).zip (c.take a)++(b.drop a).zip (c.drop a):=by
 intro a
 induction a with
 |zero=>intros;simp
 |succ a d=>intro b c;cases b with
  |nil=>simp
  |cons e b=>cases c with
   |nil=>simp
   |cons f c=>simp only[qE,List.take_succ_cons,FD,FB];rw[<-d]
def XG:∀(b:R aJ)(a c:R ar),a.length<=b.length->b.zip (a++c)=b.zip a++(b.drop a.length).zip c:=by
 intro b
 induction b with
 |nil=>intro a c d;cases a with
  |nil=>simp
  |cons e a=>cases d
 |cons g b f=>intro a c d;cases a with
  |nil=>simp
  |cons e a=>
   simp only[FB,qE,dd,FD];rw[f a c<|by simpa using d]
def JB{z:Model}(A:a.Nodup)
 (o:c.length<=a.length)(q:a.length<=c.length+b.length)(t:b.length<=a.length)
 (H:(e=.none/\b=[])\/∃u k,e=.ref u/\d.1.get? u=Y {cls:=.type "tuple",data:=.seq b.toArray k})
 {I J:R (aJ×ar)×R (aJ×ar)->aD (dk ar)->Sem (R<|aJ×ar)}{K:R (aJ×ar)×R aJ->Sem (R<|aJ×ar)}
 (B:f (a.zip<|c++b.drop (b.length-(a.length-c.length))) d):
 bh z g ((cN (a.zip c,[]):Sem<|R (aJ×ar)×R (aJ×ar))>>=λr=>seqItems? e>>=λj=>
  if(aN (c.length>a.length)&&(ab:aD Arg).isNone)=Q then I r j
  else if(!(Yk (λk=>(m6 k r.1).isNone)<|YH (a.length-(w8 ((j.getD #[]).1.length-a.length) (j.getD #[]).1).length) a).isEmpty)=Q then J r j
  else s' ((w8 (a.length-(w8 ((j.getD #[]).1.length-a.length) (j.getD #[]).1).length) a).zip<|w8 ((j.getD #[]).1.length-a.length) (j.getD #[]).1) r.1
   (λl v=>if(m6 l.1 v).isNone=Q then cN<|m0<|v++[(l.1,l.2)]else cN<|m0 v)>>=λL=>
   s' ([]:R aJ) (L,([]:R aJ)) i>>=λw=>if(!w.2.isEmpty)=Q then K w else cN<|List.filterMap (λk=>(m6 k w.1).map λl=>(k,l))<|a++[]) f h d:=by
 rw[qC];have D:bh z g (seqItems? e) (λj C=>j.getD #[]=b.toArray/\C=d) h d:=by
  clear B;rcases H with⟨p,rfl⟩|⟨u,k,p,a_⟩
  .rw[p];exact ay<|G3 Z<|bl<|am Z Z
  .rw[p];exact i5 a_ Z<|am Z Z
 refine ay<|kJ D (λj C x=>?_) λx_ x_ p=>p;clear D;obtain⟨x,rfl⟩:=x;rw[x];haveI b_:b.length-a.length=0:=by exact Vm t
 rw[b_,FE];haveI c_:(aN (c.length>a.length)&&(ab:aD Arg).isNone)=false:=by simp;exact ww o
 rw[c_,ao<|by simp];haveI E:(a.zip c).map (·.1)=a.take c.length:=by
  haveI:∀(n:R aJ)(m:R ar),(n.zip m).map (·.1)=n.take m.length:=by
   intro n
   induction n with
   |nil=>intro m;simp
   |cons l n d_=>intro m;cases m with
    |nil=>simp
    |cons h_ m=>simp[d_]
  exact this _ _
 haveI e_:(Yk (λk=>(m6 k<|a.zip c).isNone)<|YH (a.length-b.length) a).isEmpty=true:=by
  rw[lE,List.filter_eq_nil_iff];intro k y;rw[Bm];.simp
  .rw[E];exact(List.take_subset_take_left a<|Vn t q) y
 rw[e_];simp only[XU,ox,nd];rw[Pj,qC];haveI s:a.length-b.length+(b.length-(a.length-c.length))=c.length:=by exact Vo o t q
 haveI g_:((a.drop<|a.length-b.length).zip b).foldl ji (a.zip c)=a.zip (c++b.drop (b.length-(a.length-c.length))):=by
  haveI F:=XG a c (b.drop<|b.length-(a.length-c.length)) o;haveI f_:(((a.drop<|a.length-b.length).take<|b.length-(a.length-c.length)).zip<|b.take<|b.length-(a.length-c.length)).foldl ji (a.zip c)=a.zip c:=by
   refine NG λl y=>?_;rw[E];haveI G:l.1∈(a.drop<|a.length-b.length).take (b.length-(a.length-c.length)):=by obtain⟨n,m⟩:=l;exact(xb y).1
   rw[List.take_drop]at G;haveI:=FO G;rwa [s]at this
  rw[SW (b.length-(a.length-c.length)) (a.drop<|a.length-b.length) b,Yp,f_,Yi,s,F];refine NH ?_;rw[<-F];haveI:(a.zip<|c++b.drop (b.length-(a.length-c.length))).map (·.1)=a:=ti (by rw[cs,kz];exact Vp s o q);rw[this];exact A
 rw[g_];simp only[tf,qC,hP,List.isEmpty_nil,XU,ox,nd];rw[XA A<|by rw[cs,kz];exact Vq s o q];exact bl B
def JD(g:a.3.1=[])(h:a.3.4=[])(i:a.3.3=ab)(j:a.3.6=ab)(k:a.3.2.map (·.1)=b)(l:b.Nodup)
 (m:d.length<=b.length)(n:b.length<=d.length+c.length)(o:c.length<=b.length)
 (q:(a.8=.none/\c=[])\/∃f p,a.8=.ref f/\e.1.get? f=Y {cls:=.type "tuple",data:=.seq c.toArray p}):
 BindsTo e a ⟨d,[]⟩ (b.zip<|d++c.drop (c.length-(b.length-d.length))):=by
 intro t u v w r;obtain⟨_,_,⟨_,_,_,_,_,_,_⟩,_,_,_,_,_,_,_,_,_,_,_,_⟩:=a;cases g;cases h;cases i;cases j;cases k;exact JB (i:=λx s=>cN<|.done s) (K:=λx=>cN []) l m n o q r
end M
namespace M
open PySem PySem.W PyProof.Rows PySem.SeqAt
structure oV(d:b4)(c:aq):Prop where
 a:∃(e:eB)(b:xx)(g:R c5)(f:R ar),d.c.lookup (d.e c)=Y e/\e.3=.func b/\b.4=.stmts g/\b.7=[]/\b.6=ip/\b.15=i2/\
  b.5.1=.function/\b.5.4=M/\b.5.3=M/\codeIn d.c b.13 b.2=Q/\
  (b.3.1=[]/\b.3.4=[]/\b.3.3=ab/\b.3.6=ab/\b.3.2.map (·.1)=(dF (bp c).a).map (ev c))/\
  ((b.8=.none/\f=[])\/∃h m,b.8=.ref h/\d.c.lookup h=Y {cls:=.type "tuple",data:=.seq f.toArray m})/\
  (∀i n,(∀j e,d.c.lookup j=Y e->i j=Y e)->bt d i n (bp c).c f)/\(bp c).c.length<=(bp c).a/\
  jn ⟨ev c,hA c,b.5⟩ (bp c).b g=Q/\((hA c).map<|ev c).Nodup/\(∀k∈hA c,b.5.2.lookup (ev c k)=Y .local\/b.5.2.lookup (ev c k)=Y .cell)/\
  (∀l,l<(bp c).a->l∈hA c)
section
variable{a:b4}{b c:aO}
def bc.G_(f:bc a i j k cE b l m n c)(g:bc a l m n o c p q r s)(y:∀d,o d->b.1.get? d=ab/\c.1.get? d≠ab):bc a i j k cE b p q r s:=by
 refine⟨f.b.C g.b,g.a,λd e=>?_,λd e=>?_,λd w t x h=>?_,λA h=>h.elim,g.f.trans f.f,g.e.trans f.e⟩
 .refine n9 (g.g d e) (λe=>?_) (λe=>?_) λe=>?_
  .exact f.g d e
  .exact .inr<|f.d d e
  .exact .inr<|f.E (λA h=>h.elim) e
 .refine b1 (g.d d e) (λe=>?_) λe=>?_
  .exact f.d d e
  .exact f.E (λA h=>h.elim) e
 .haveI z:=f.c d w t x h;refine g.c d w z (λv=>?_) (λv=>by rw[(y d v).1]at t;cases t);refine b1 (f.d d v) (λu=>?_) λu=>?_
  .exact x u
  .rw[t]at u;cases u
def zt:∀{e:R<|aJ×xA}{f:U}{d:R<|aJ×a9}{b:aJ},((b,tr)∈e\/(d.lookup b).isSome=Q)->((xS f e d).lookup b).isSome=true:=by
 intro h
 induction h with
 |nil=>
  exact @λn n n a=>by
   rcases a with a|a;.cases a
   .exact a
 |cons i l g=>
  obtain⟨j,m⟩:=i;exact @λf d b a=>by
   unfold xS;split
   .refine g ?_;rcases a with a|a
    .rcases bj.1 a with c|a
     .clear a;cases c;exact .inr<|by rw[ik,tF];rfl
     .exact .inl a
    .refine .inr ?_;rw[ik];refine c2 (b==j) (λc=>?false) λc=>?true
     case true=>rfl
     case false=>exact a
   .rename_i k
    refine g ?_;rcases a with a|a
    .rcases bj.1 a with c|a
     .clear a;cases c;exact a2 Z k
     .exact .inl a
    .exact .inr a
def Jx:∀{e:R<|aJ×ar}{b:aJ->aD ar}{a:aJ},a∉e.map (·.1)->bindL d e b a=b a:=by
 intro f
 induction f with
 |nil=>
  exact @λl l l=>Z
 |cons g i h=>
  obtain⟨j,k⟩:=g;exact @λb a c=>by
   rw[cl,bj,qY]at c;refine p2 (h c.2) ?_;split;.exact ao c.1
   .rfl
def Jv:∀{e:R<|aJ×ar}{b:aJ->aD ar}{a:aJ},a∉e.map (·.1)->bindC d e b a=b a:=by
 intro f
 induction f with
 |nil=>
  exact @λl l l=>Z
 |cons g i h=>
  obtain⟨j,k⟩:=g;exact @λb a c=>by
   rw[cl,bj,qY]at c;refine p2 (h c.2) ?_;split;.rfl
   .exact ao c.1
def Jw(h:e d=Y .local):∀{a:R<|aJ×ar}{c:aJ->aD ar},(a.map (·.1)).Nodup->(d,f)∈a->bindL e a c d=Y f:=by
 intro a
 induction a with
 |nil=>intro c _ b;exact bW b
 |cons i j k=>
  intro c g b;obtain⟨m,n⟩:=i;rw[cl,fg]at g;refine(?_:bindL e j _ d=_);refine b1 (bj.1 b) (λl=>?_) λb=>?_;.cases l;rw[Jx g.1,au h];exact au Z
  .exact k g.2 b
def Ju(h:e d≠Y .local):∀{a:R<|aJ×ar}{c:aJ->aD ar},(a.map (·.1)).Nodup->(d,f)∈a->bindC e a c d=Y f:=by
 intro a
 induction a with
 |nil=>intro c _ b;exact bW b
 |cons i j k=>
  intro c g b;obtain⟨m,n⟩:=i;rw[cl,fg]at g;refine(?_:bindC e j _ d=_);refine b1 (bj.1 b) (λl=>?_) λb=>?_;.cases l;rw[Jv g.1,ao h];exact au Z
  .exact k g.2 b
def Fp{b:R aJ}{a:U}(c:b[a]?=Y d)(g:e[a]?=Y f):(d,f)∈b.zip e:=by refine Yz.mpr<|a1 a ?_;rw[FG];exact⟨c,g⟩
def Qb(a:B4 d=Y e):d=.B e\/(d=.A/\e=.C):=by
 cases d<;>cases a;.exact .inr<|am Z Z
 .exact .inl Z
def JZ{p:U}(J_:q0 a)(K_:∀k,a.c.In k->k.NoLimit)(C:∀d,oV a d\/(bp d).b=.A .F .B)(L_:ng a (aR p) p):ng a (aR<|p+1)<|p+1:=by
 intro d q H u h_ k i_ f v w b x y j_;refine dA (show(if bD (q.length<=(bp d).a) ((bp d).a<=q.length+(bp d).c.length)then _ else ab)=Y (u,h_)from k) λc_ k=>?_;haveI a__:yO a (⟨aR p,100000,ly⟩:bR) p:=⟨J_,L_,Z,by show 100000<1000000;exact ae Z⟩;obtain⟨I,k_,m_⟩:∃I k_,aw ⟨aR p,100000,ly⟩ (bp d).b (λe=>(q++(bp d).c.drop ((bp d).c.length-((bp d).a-q.length)))[e]?) H=Y (I,k_,h_)/\(I=.B u\/(I=.A/\u=.C)):=
  cv k λl_ j k=>dB k λJ b__ k=>by cases k;exact ck l_.1 l_.2.1 j<|Qb b__
 haveI K:=m_.1;clear k;refine b1 (C d) (λC=>?_) λC=>?_
 .clear k;obtain⟨c__,g,I__,s,d__,e__,f__,g__,h__,i__,n_,j__,k__,l__,⟨m__,n__,o__,p__,q__⟩,l⟩:=C.a;have o_:=l.2.1 v w y.d;have L:=j_.A;have a_:=o_.A;have t:((dF (bp d).a).map<|ev d).length=(bp d).a:=by rw[bC,jK]
  have d_:((dF (bp d).a).map<|ev d).Nodup:=by haveI s__:∀e m,e∈hA d->m∈hA d->ev d e=ev d m->e=m:=λe m z r__ j=>sh (c:=⟨ev d,hA d,g.5⟩) l.2.2.2.2.1 z r__ j;rw[List.nodup_iff_pairwise_ne,FQ,YC];intro D E b_ p_ t__ j;rw[FJ,FJ]at j;rw[jK]at b_ p_;exact a2 (s__ D E (l.2.2.2.2.2.2 D b_) (l.2.2.2.2.2.2 E p_) j)<|ed t__
  haveI q_:=JD (c:=s) m__ n__ o__ p__ q__ d_ (by rw[t,L];exact c_.1) (by rw[t,L,a_];exact c_.2) (by rw[t,a_];exact l.2.2.1) (by
   rcases l.1 with h|⟨u__,i,v__,w__⟩;.exact .inl h
   .exact .inr<|ck u__ i v__<|y.A _ _ w__)
  have F:bt a v w (q++(bp d).c.drop ((bp d).c.length-((bp d).a-q.length)))<|x++s.drop (s.length-(((dF (bp d).a).map<|ev d).length-x.length)):=by rw[t,L,a_];exact j_.D<|o_.E _
  haveI r_:∀e∈((dF (bp d).a).map<|ev d).zip (x++s.drop (s.length-(((dF (bp d).a).map<|ev d).length-x.length))),g.5.2.lookup e.1=Y .local\/g.5.2.lookup e.1=Y .cell:=λe i=>by obtain⟨x__,m⟩:=e;have:=(xb i).1;obtain⟨D,b_,rfl⟩:=d4.1 this;exact l.2.2.2.2.2.1 D<|l.2.2.2.2.2.2 D<|oD.1 b_
  generalize y__:q++(bp d).c.drop ((bp d).c.length-((bp d).a-q.length))=e_ at F K;generalize J__:x++s.drop (s.length-(((dF (bp d).a).map<|ev d).length-x.length))=z__ at F q_ r_;have s_:e_.length=(bp d).a:=by rw[<-y__,cs,kz];exact Vr L a_ t c_
  haveI t_:(((dF (bp d).a).map<|ev d).zip z__).map (·.1)=(dF (bp d).a).map (ev d):=ti (by rw[t,F.A,s_];exact aY _);haveI A__:i_.2<recursionLimit:=by exact(a5 1101 Z:N [_,_,_] (.B X O) [.A (X+(.A 6<|S+1)) 900,.C O 1000]) f.a Z
  refine codeAny_call_function A__ (y.A _ _ d__) e__ j__ k__ f__ (codeRec_of y.A l__)<|q_ _ _ _ _ ?_;rw[g__];refine wpAny_newFunctionEnv_cells n_ (λe i=>?_) λo B__ c r=>?_
  .refine b1 (r_ e i) (λh=>?_) λh=>?_
   .exact .inl h
   .exact .inr ⟨h,zt<|.inl<|pH h⟩
  .subst B__;have f_:bc a v w H cE b v w H c:=by
    obtain⟨K__,L__,rfl,A⟩:=r.done;exact .A y A Z Z
   refine⟨K_ _ f_.a.A,codeAny_func ?_⟩;generalize B:newEnv g.5 b.1.1.size g.6 (xS (b.1.1.size+1) g.5.2 []) (g.2++".<locals>.") (Y<|a.e d) g.13 ab g.15=o at r⊢;haveI C__:o.1=g.5:=by rw[<-B];rfl
   haveI u_:o.2=b.1.1.size:=by rw[<-B];rfl
   haveI v_:o.4=xS (b.1.1.size+1) g.5.2 []:=by rw[<-B];rfl
   haveI g_:∀n,o.kindOf n=g.5.2.lookup n:=λn=>by rw[<-B];rfl
   have w_:∀f,du o f->b.1.get? f=none:=λf i=>by
    rcases i with rfl|⟨n,i⟩;.rw[u_];exact eQ _
    .haveI:=r.4 n f<|xV i;rw[u_]at this;refine dP (b.1.get? f) (λh=>?none) λc__ h=>?some
     case none=>rfl
     case some=>exact a2 (dm h)<|xj.2<|qG this
   have y_:∀e,e<(bp d).a->((dF (bp d).a).map<|ev d)[e]?=Y (ev d e):=λe z=>by simp[z]
   have z_:∀e u,e_[e]?=Y u->e<(bp d).a:=λe u j=>by haveI:=(fe.1 j).1;exact(a5 100011 Z:N [_,_,_,_] (.B X S) [.B X O,.C ag S,.C O S]) this t s_
   have A_:bJ a v w H ⟨ev d,hA d,g.5⟩ o (λe=>e_[e]?) c.1:=by
    refine⟨by rw[C__];exact n_,by rw[<-B];exact h__,by rw[<-B];exact i__,λn=>.inl<|g_ n,(ax _ r.1.2 λe z A J G=>?_),λn f j=>am (λh=>?_) ⟨_,r.2 n f j⟩,λe z A=>?_,λn x__ f j D__=>name_of_addr r.3 (xV j)<|xV D__,l.2.2.2.2.1,λf i=>?_⟩;.obtain⟨m,B_⟩:=F.C G;exact ax m (Jw A (by rw[t_];exact d_)<|Fp (y_ e<|z_ e J G) B_.1) B_.2
    .haveI:=r.4 n f<|xV j;rw[h]at this;exact hT _ this
    .have C_:g.5.2.lookup (ev d e)=Y .cell:=by
      refine b1 (l.2.2.2.2.2.1 e z) (λh=>?_) λh=>?_;.exact a2 ((g_ _).trans h) A
      .exact h
     obtain⟨f,D_⟩:=xn.1<|zt<|.inl<|pH C_;refine am (.inl<|(g_ _).trans C_) ⟨f,by rw[v_];exact D_,_,r.2 _ f<|by rw[v_];exact D_,λJ G=>?_⟩;obtain⟨m,E_⟩:=F.C G;exact ax m (Ju A (by rw[t_];exact d_)<|Fp (y_ e<|z_ e J G) E_.1) E_.2
    .haveI E:=y.D<|w_ f i;exact am E.b E.a
   refine @oe (bp d).b ⟨a,⟨aR p,100000,ly⟩,p,i_.deeper o,⟨ev d,hA d,g.5⟩,o,_⟩ _ _ ⟨v,w,c⟩ _ _ l.2.2.2.1 ⟨a__,lS.A f o,A_,f_.a⟩<|ax _ K λE__ F__ G__ F_=>?_;obtain⟨G_,H_,a_1⟩:=E__;haveI I_:=f_.G_ G__.1 λf i=>am (w_ f i)<|A_.B i;rcases m_.2 with rfl|⟨rfl,rfl⟩;.obtain⟨m,rfl,H__⟩:=F_;exact ax m Z ⟨G_,H_,I_,H__⟩
   .cases(F_:F__=.next);exact ax (.none) Z ⟨G_,H_,I_,Z⟩
 .rw[C]at K;exact b8<|show(ab:aD<|gZ×aA×af)=Y _ from K
def J3(e:q0 a)(f:∀b,a.c.In b->b.NoLimit)(g:∀c,oV a c\/(bp c).b=.A .F .B):∀d,ng a (aR d) d:=by
 intro h
 induction h with
 |zero=>exact λc j k l m b=>b8<|show(ab:aD<|V×af)=Y _ from b
 |succ d i=>exact JZ e f g<|i
end
end M
namespace M
def ak(c:aD a)(d:a->Prop):Prop:=∃b,c=Y b/\d b
abbrev al(a:U):bR:=⟨aR a,100000,ly⟩
abbrev aa(a:aC):V:=.E<|.A a
abbrev f7:=gZ×aA×af->Prop
section
variable{b:bR}{c:aA}{a:af}
def ak.F(a:e=Y d)(b:f d):ak e f:=ax d a b
def ak.B(c:ak d λa=>ak (e a) f):ak (d.bind e) f:=by obtain⟨a,rfl,g,b⟩:=c;exact ax g b.1 b.2
def ak.E(b:ak d λa=>e<|f a):ak (d.map f) e:=by obtain⟨a,rfl,c⟩:=b;exact ax _ Z c
def ak.A(c:ak d e)(g:∀a,e a->f a):ak d f:=by obtain⟨a,b⟩:=c;exact ax a b.1<|g a b.2
def fp(b:V×af->Prop):f7:=λa=>match a.1 with|.B c=>b (c,a.2.2)|.A=>b (.C,a.2.2)|_=>ky
def bV(a:aq)(b:R V):aA:=λc=>(b++(bp a).c.drop ((bp a).c.length-((bp a).a-b.length)))[c]?
def ak.C(h:(aN (e.length<=(bp d).a)&&aN ((bp d).a<=e.length+(bp d).c.length))=Q)
 (j:ak (aw (al f) (bp d).b (bV d e) a)<|fp g):ak (aR (f+1) d e a) g:=by
 rw[ez]at h;obtain⟨⟨k,c,l⟩,i,b⟩:=j;show ak (ite _ ((aw (al f) (bp d).b (bV d e) a).bind _) ab) g;rw[au ⟨f5 h.1,f5 h.2⟩,i];clear i;cases k with
 |B m=>exact ax _ Z b
 |A=>exact ax _ Z b
 |D=>exact b.elim
 |C=>exact b.elim
def bi(b:(aN (e.length<=(bp d).a)&&aN ((bp d).a<=e.length+(bp d).c.length))=Q)
 (c:ak (aw (al f) (bp d).b (bV d e) a)<|fp (·=g)):aR (f+1) d e a=Y g:=by
 obtain⟨i,h,rfl⟩:=ak.C b c;exact h
def aU(e:d (.A,c,a)):ak (aw b .B c a) d:=ax _ Z e
def gd(i:ak (nP b e c a) λg=>match g.1 with|.A=>ak (aw b f g.2.1 g.2.2) d|_=>d g):ak (aw b (.A e f) c a) d:=by obtain⟨⟨j,k,l⟩,h⟩:=i;show ak ((nP b e c a).bind _) d;rw[h.1];cases j<;>first|exact h.2|exact ax _ Z h.2
def C8(i:ak (ai b d c a) λh=>ak (aw b e (c.A f h.1) h.2) g):ak (aw b (.A (.B (.A f) d) e) c a) g:=
 gd (ak.B<|i.A λk j=>ax _ Z j)
def v7(j:ak (ai b d c a) λh=>ak (dY (.B e) h.1 c) λi=>ak (aw b f i h.2) g):ak (aw b (.A (.B (.B e) d) f) c a) g:=
 gd (ak.B<|j.A λl k=>ak.E k)
def gA(h:ak (ai b d c a) λg=>ak (aw b e c g.2) f):ak (aw b (.A (.A d) e) c a) f:=
 gd (ak.E h)
def C9(h:ak (ai b d c a) λg=>e (.B g.1,c,g.2)):ak (aw b (.A (.D d) f) c a) e:=
 gd (ak.E h)
def a'(j:ai b d c a=Y (e,f))(k:ak (aw b g (c.A h e) f) i):ak (aw b (.A (.B (.A h) d) g) c a) i:=C8<|ax _ j k
def eL(k:ai b d c a=Y (e,f))(l:dY (.B g) e c=Y h)(m:ak (aw b i h f) j):ak (aw b (.A (.B (.B g) d) i) c a) j:=v7<|ax _ k ⟨_,l,m⟩
def v6(i:ai b d c a=Y (h,e))(j:ak (aw b f c e) g):ak (aw b (.A (.A d) f) c a) g:=gA<|ax _ i j
def a3(i:ai b d c a=Y (e,f))(j:g (.B e,c,f)):ak (aw b (.A (.D d) h) c a) g:=C9<|ax _ i j
def mT(b:bR)(d:cu)(c:f7):f7:=λa=>match a.1 with|.A=>ak (aw b d a.2.1 a.2.2) c|_=>c a
def qa(j:ak (bz b f c a) λi=>if i.1 then ak (aw b g c i.2)<|mT b d e else ak (aw b h c i.2)<|mT b d e):ak (aw b (.A (.C f g h) d) c a) e:=by refine gd<|ak.B<|j.A λi k=>?_;obtain⟨l,m⟩:=i;cases l<;>exact k
def gB(j:bz b d c a=Y (Q,e))(k:ak (aw b f c e)<|mT b g h):ak (aw b (.A (.C d f i) g) c a) h:=qa<|ax _ j k
def fX(i:bz b d c a=Y (M,e))(j:ak (aw b f c e) g):ak (aw b (.A (.C d h .B) f) c a) g:=qa<|ax _ i<|ax _ Z j
def bg(i:bz b d c a=Y (Q,a))(j:ak (aw b e c a)<|mT b f g):ak (aw b (.A (.C d e h) f) c a) g:=qa<|ax _ i j
def iP(i:bz b d c a=Y (M,a))(j:ak (aw b e c a)<|mT b f g):ak (aw b (.A (.C d h e) f) c a) g:=qa<|ax _ i j
def as(h:bz b d c a=Y (M,a))(i:ak (aw b e c a) f):ak (aw b (.A (.C d g .B) e) c a) f:=qa<|ax _ h<|ax _ Z i
def av(j:ai b f c a=Y (g,d))(k:bK b e c d=Y (h,i)):bK b (.A f e) c a=Y (g::h,i):=by rw[Lu,j];show(bK b e c d).map _=_;rw[k];rfl
def uF(i:bK b d c a=Y (f,g))(j:ak (b.a h f g) e):ak (ai b (.G h d) c a) e:=by show ak ((bK b d c a).bind _) e;rw[i];exact j
def rI(n:ai b g c a=Y (h,e))(o:bK b i c e=Y (k,l))(p:rB e f h=Y j)(q:hF j f=Y m)(r:ak (b.a m (h::k) l) d):ak (ai b (.E g f i) c a) d:=by show ak ((ai b g c a).bind _) d;rw[n];show ak ((bK b i c e).bind _) d;rw[o];rw[p];show ak ((hF j f).bind _) d;rw[q];exact r
def rG(l:ai b h c a=Y (e,d))(m:k1 d f e=Q)(n:bK b i c d=Y (j,k))(o:ak (jl k f e j) g):ak (ai b (.h h f i) c a) g:=by show ak ((ai b h c a).bind _) g;rw[l];show ak (if k1 d f e then(bK b i c d).bind _ else ab) g;rw[au m,n];exact o
def vk(a:d.natAbs<1000000\/e.natAbs<1000000):h4 .raise (.A d) (.A e)=Y (.A<|d*e):=aF (λb:aD V=>b.or _)<|au a
def pu(b:a.b f=.D d)(c:bn (.A e) d=Y g):eG a (.B f) (aa e)=Y g:=by show(((fx<|a.b f).bind λd=>if bG (.A e)then ab else bn (.A e) d)).or _=_;rw[b];show(bn (.A e) d).or _=_;rw[c];rfl
def kh:eG a (.D d) (.A e)=gz d e:=Option.or_none
def u2(b:bG d=M)(c:a.b f=.A e)(g:gL e=Q):nS a (.E d) (.B f)=Y (dJ d e):=by show(if bG d then ab else _)=_;rw[ao<|by rw[b];exact dy];show((((e9<|a.b f).or ab).bind _).or _)=_;rw[c];show((if gL e then Y<|dJ d e else ab).or _)=_;rw[au g];rfl
def nR(b:ke (a.b d)=Y e):lf a (.B d)=Y (e,a.A d .B):=by show(ke<|a.b d).map _=_;rw[b];rfl
def y5(b:a.b d=.A e)(c:e.length<1000000):jl a .ignore (.B d) [f]=Y (.C,a.A d<|.A<|e++[f]):=by show(e9<|a.b d).bind _=_;rw[b];exact au c
def JL(b:a.b d=.A (e++[f])):jl a .warn (.B d) []=Y (f,a.A d<|.A e):=by show(e9<|a.b d).bind _=_;rw[b];show((e++[f]).getLast?).map (λc=>(c,a.A d<|.A (e++[f]).dropLast))=_;rw[List.getLast?_concat,Y6,List.dropLast_concat]
def JH(b:a.b d=.A e)(c:e.length+f.length<=1000000):jl a .raise (.B d) [.D f]=Y (.C,a.A d<|.A<|e++f):=by show(e9<|a.b d).bind _=_;rw[b];exact au c
def JK(b:a.b f=.A d)(c:(!bG e&&gL d&&dJ e d)=Q):jl a .log (.B f) [.E e]=Y (.A<|js e d,a):=by show(e9<|a.b f).bind _=_;rw[b];exact au c
def JI(b:a.b e=.D f)(c:bG d=M):jl a .call (.B e) [.E d]=Y ((bn d f).getD .C,a):=by show(fx<|a.b e).bind _=_;rw[b];exact ao<|show¬bG d=Q from c▸dy
end
structure be where
 b:R V
 d:ah
 a:V
 c:ah
abbrev fQ(b:U)(a:be):R<|an×V:=[(.A "asked",.B b),(.A "names",.B<|b+1),(.A "accident",.A a.d),(.A "ended",a.a),(.A "count",.A a.c)]
def az(a:U)(c:af)(d:be)(e:R<|an×V):af:=⟨c.a,λb=>if b=a then .A d.b else if b=a+1 then .D e else if b=a+2 then .D<|fQ a d else c.b b⟩
def fT{a b:af}(d:a.a=b.a)(e:∀c,a.b c=b.b c):a=b:=by cases a;cases b;cases d;congr;exact qX e
section
variable{a:be}
def sC:(az b c a d).b b=.A a.b:=au Z
def mM:(az b d a c).b (b+1)=.D c:=(ao<|wx).trans<|au Z
def sD:(az b c a d).b (b+2)=.D (fQ b a):=(ao<|s1).trans<|(ao<|(a5 1 Z:N [_] (.D<|.C (X+2)<|X+1) [])).trans<|au Z
def Sx:(az b c a d).A b (.A e)=az b c {a with b:=e} d:=by refine fT Z λf=>?_;unfold af.A az;dsimp only;by_cases g:f=b<;>simp[g]
def Sz:(az b c a e).A (b+1) (.D d)=az b c a d:=by refine fT Z λf=>?_;unfold af.A az;dsimp only;by_cases g:f=b+1<;>simp[g]
def Sy(e:ah)(f:V)(g:ah):(az b c a d).A (b+2) (.D<|fQ b ⟨a.b,e,f,g⟩)=az b c ⟨a.b,e,f,g⟩ d:=by refine fT Z λh=>?_;unfold af.A az;dsimp only;by_cases i:h=b+2<;>simp[i]
end
section
variable{a:be}
def eH(j:f g=Y (.B<|b+2))(k:bn (.A h) (fQ b a)=Y c):ai i (.F (.A g)<|.J h) f (az b d a e)=Y (c,az b d a e):=by show((f g).map λc=>(c,az b d a e)).bind _=_;rw[j];show(eG (az b d a e) (.B<|b+2)<|aa h).map _=_;rw[pu sD k];rfl
def kr(p:e g=Y (.B<|b+2))(q:ai h j e (az b c a d)=Y (i,az b c a d))(r:cp (.A f) i (fQ b a)=fQ b ⟨a.b,k,l,m⟩)
 (s:ak (aw h n e<|az b c ⟨a.b,k,l,m⟩ d) o):ak (aw h (.A (.H (.A g) (.J f) j) n) e<|az b c a d) o:=by
 refine gd<|ak.B<|ax _ q<|ak.B<|ax (.B<|b+2,az b c a d) ?_<|ak.B<|ax (aa f,az b c a d) Z ?_;.show(e g).map _=_;rw[p];rfl
 .refine ax (.A,e,(az b c a d).A (b+2)<|.D<|cp (.A f) i<|fQ b a) ?_ ?_
  .show(((fx<|(az b c a d).b<|b+2).bind _).or _)=_;rw[sD];rfl
  .rw[r,Sy];exact s
def be.A(a:be):Bool:=aN<|a.c+1=a.d
def be.E(a:be)(b:V):be:=⟨a.b++[b],a.d,if a.A then aa "accident"else a.a,a.c+1⟩
def KE:dz d .Eq (.A b) (.A c)=Y (aN<|b=c):=Z
def bL(a:ai b d c e=Y (f,g))(m:ai b h c g=Y (i,k))(n:h4 j f i=Y l):ai b (.K j d h) c e=Y (l,k):=by show(ai b d c e).bind _=_;rw[a];show(ai b h c g).bind _=_;rw[m];show(h4 j f i).map _=_;rw[n];rfl
def eZ(a:ai b e c f=Y (g,h))(m:ai b i c h=Y (j,d))(n:dz d k g j=Y l):ai b (.C k e i) c f=Y (.G l,d):=by show(ai b e c f).bind _=_;rw[a];show(ai b i c h).bind _=_;rw[m];show(dz d k g j).map _=_;rw[n];rfl
def aK(a:ai b d c e=Y (i,j))(m:ai b f c j=Y (k,g))(n:dz g h i k=Y l):bz b (.C h d f) c e=Y (l,g):=by show(ai b (.C h d f) c e).bind _=_;rw[eZ a m n];rfl
def zG(a:ai b (.C c d e) f g=Y (.G h,i)):bz b (.C c d e) f g=Y (h,i):=by show(ai b (.C c d e) f g).bind _=_;rw[a];rfl
def AL(i:b.d=a.d)(j:b.c=a.c+1)(h:d 0=Y (.B<|c+2)):ai g (.C .Eq (.F (.A 0)<|.J "count")<|.F (.A 0)<|.J "accident") d (az c e b f)=Y (.G a.A,az c e b f):=by refine eZ (eH h Z) (eH h Z) ?_;rw[i,j];rfl
def Ct(f:V)(i:a.b.length<1000000):aR (e+1) .I_ [.B<|b+2,f] (az b c a d)=Y (.G a.A,az b c (a.E f) d):=by
 refine bi Z<|gA<|rG (eH Z Z) (by show(e9<|(az b c a d).b b).isSome=Q;rw[sC];rfl) Z<|ax (.C,az b c ⟨a.b++[f],a.d,a.a,a.c⟩ d) ?_ ?_;.rw[y5 sC i,Sx]
 .refine kr (m:=a.c+1) Z (bL (eH Z Z) Z Z) Z ?_;haveI g:=AL (g:=al e) (d:=bV .I_ [.B<|b+2,f]) (e:=c) (f:=d) (a:=a) (b:=⟨a.b++[f],a.d,a.a,a.c+1⟩) Z Z Z;unfold be.E;refine c2 a.A (λh=>?_) λh=>?_
  .rw[h]at g;exact fX (zG g)<|a3 g Z
  .rw[h]at g;refine gB (zG g)<|kr (l:=aa "accident") Z Z Z<|aU<|a3 (AL (a:=a) Z Z Z) ?_;rw[h];rfl
end
section
variable{b:be}{a:bR}
def bM(b:bK a c d e=Y (f,g))(j:a.a h f g=Y i):ai a (.G h c) d e=Y i:=by show(bK a c d e).bind _=_;rw[b];exact j
def iy(b:bK a c d e=Y (g,h))(k:a.a f g h=Y (.G i,j)):bz a (.G f c) d e=Y (i,j):=by show(ai a (.G f c) d e).bind _=_;rw[bM b k];rfl
def sm(b:ai a f e c=Y (.G d,c))(j:d=M->h8 a (.A g h) e c=Y (.G i,c)):h8 a (.A f<|.A g h) e c=Y (.G (d||i),c):=by
 rw[uK,b];clear b;cases d;.exact j Z
 .rfl
def kY(b:bz a f e g=Y (c,d))(j:c=M->gN a h e d=Y (i,d)):gN a (.A f h) e g=Y (c||i,d):=by
 rw[pq,b];clear b;cases c;.exact j Z
 .rfl
def cJ(b:bz a f e g=Y (c,d))(j:c=Q->gM a h e d=Y (i,d)):gM a (.A f h) e g=Y (c&&i,d):=by
 rw[uJ,b];clear b;cases c;.rfl
 .exact j Z
def sk(b:bz a c d e=Y (f,g)):bz a (.k c) d e=Y (!f,g):=by rw[Lt,b];rfl
def cw(b:bz a d c e=Y (Q,f)):ai a (.b d g h) c e=ai a g c f:=by show(bz a d c e).bind _=_;rw[b];rfl
def b6(b:bz a d c e=Y (M,f)):ai a (.b d h g) c e=ai a g c f:=by show(bz a d c e).bind _=_;rw[b];rfl
def pU(b:h8 a c d e=f):ai a (.j c) d e=f:=b
def hY(a:V):Prop:=(∃b,a=.A b)\/bE λc d=>a=.D (aa c::d)
def O1(c:V)(a:aC):String:=(eh c).elim a λd=>an.casesOn (motive:=λe=>aC) d id (λb=>a) (λb=>a) λb=>a
def cF(a:V):String:=(eO a).elim "number" λb=>O1 (b.headD a) "number"
def lx(a:hY c):aR (e+1) .E [c] d=Y (aa<|cF c,d):=by rcases a with⟨b,rfl⟩|⟨f,g,rfl⟩<;>rfl
def u6(a:V)(b:aC):Bool:=match a with
 |.E (.A c)=>aN<|c=b
 |_=>M
def Ou(a b:V):Bool:=(co a).elim M λc=>(co b).elim M λd=>aN<|c=d
def g9(a b:V):Bool:=u6 a "thing"||(u6 a (cF b)||Ou a b)
def kQ(a:V):Prop:=(∃b,a=aa b/\b≠"StandardError")\/∃c,a=.A c
def u8(a:kQ c):dz e .Eq c (aa d)=Y (u6 c d):=by
 rcases a with⟨b,rfl,_⟩|⟨f,rfl⟩;.exact aF Y<|i6.2 ⟨an.A.inj,aF _⟩
 .rfl
def be.B(b:be)(a c:V):be:=b.E<|.D [aa "takes",a,c]
def sN(k:hY c)(a:kQ d)(q:b.b.length<1000000):aR (h+2) .K [.B<|e+2,d,c] (az e f b g)=Y (.G<|!b.A&&g9 d c,az e f (b.B d c) g):=by
 have i:aR (h+1) .I_ [.B<|e+2,.D [aa "takes",d,c]] (az e f b g)=Y (.G b.A,az e f (b.B d c) g):=Ct _ q;have l:dz (az e f b g) .Eq d (aa "StandardError")=Y false:=by
  refine(u8 a).trans ?_;rcases a with⟨m,rfl,n⟩|⟨r,rfl⟩;.exact aF Y<|ct n
  .rfl
 refine bi Z<|fX (aK Z Z l) ?_;clear l;refine c2 b.A (λj=>?_) λj=>?_
 .rw[j]at i;refine fX (iy Z i)<|a3 (f:=az e f (b.B d c) g) ?_ Z;generalize az e f (b.B d c) g=o;have p:ai (al<|h+1) (.G .E<|.A (.A 2) .B) (bV .K [.B<|e+2,d,c]) o=Y (aa<|cF c,o):=bM Z<|lx k;refine pU<|sm (eZ Z Z<|u8 a) λu=>sm (eZ Z p<|u8 a) λu=>?_;clear p;rcases a with⟨m,rfl,n⟩|⟨r,rfl⟩
  .rfl
  .clear i;rcases k with⟨s,rfl⟩|⟨m,t,rfl⟩<;>rfl
 .rw[j]at i;exact gB (iy Z i)<|a3 Z Z
def be.C(b:be)(a c:V):be:=b.E<|.D [aa "tells",a,c]
def we(k:b.b.length<1000000):aR (h+2) .l_ [.B<|c+2,.D [aa "wrap",i],d,e] (az c f b g)=Y (if b.A then .C else i,az c f (b.C d e) g):=by
 haveI a:aR (h+1) .I_ [.B<|c+2,.D [aa "tells",d,e]] (az c f b g)=Y (.G b.A,az c f (b.C d e) g):=Ct _ k;refine bi Z<|a3 ?_ Z;refine c2 b.A (λj=>?_) λj=>?_;.rw[j]at a;exact(b6<|iy Z a).trans Z
 .rw[j]at a;exact(cw<|iy Z a).trans Z
end
abbrev bs(a:aC×V):V:=.F [aa a.1,a.2]
inductive bA:V->Prop
 |A (e:U):bA (.A e)
 |D (b:R V):(∀f∈b,bA f)->b.length<=3->bA (.D (aa "row"::b))
 |B (a:R (aC×V)):(a.map (·.1)).Nodup->(∀c∈a,bA c.2)->(∀c∈a,c.1∈["x","y","z"])->bA (.D (aa "card"::a.map bs))
 |E (d:V):bA d->cF d≠"wrap"->bA (.D [aa "wrap",d])
def bA.C(b:bA a):hY a:=by
 cases b;.exact .inl<|a1 _ Z
 .exact .inr ⟨_,_,Z⟩
 .exact .inr ⟨_,_,Z⟩
 .exact .inr ⟨_,_,Z⟩
def dE(a:aC):String:=if a="row"then"deconstruct"else"deconstruct_keys"
def k5(b:V)(c:aC):Bool:=match b with
 |.D (.E (.A d)::a::_)=>aN (d="wrap")&&(aN (cF a=c)||decide (cF a="number"))
 |_=>M
def mw:V->V
 |.D (_::a::_)=>a
 |b=>b
def qc:V->V
 |.D (_::a)=>.D a
 |b=>b
def hX(a:aC):Prop:=a="row"\/a="card"
section
variable{a:be}{b:bR}
def zl(h:bA d)(a:hX c):aR (f+2) .s_ [d,aa<|dE c] e=Y (.G<|k5 d c,e):=by
 rcases a with rfl|rfl
 all_goals
  cases h with
  |A i=>rfl
  |D b _=>
   cases b<;>rfl
  |B g=>
   cases g<;>rfl
  |E c a j=>
   cases a with
   |A i=>rfl
   |D b _=>rfl
   |B g=>rfl
   |E c=>exact a2 Z j
def zm(a:k5 c d=Q)(b:bA c):c=.D [aa "wrap",mw c]/\bA (mw c)/\cF (mw c)≠"wrap":=by
 cases b with
 |A i=>exact bx a
 |D e _=>cases e<;>exact bx a
 |B f=>cases f<;>exact bx a
 |E d g h=>exact aL Z g h
def e3(a:be)(c:V)(b:aC)(d:V):V×be:=
 if cF c=b then(qc c,a)
 else if k5 c b then(if a.A then(.C,a.C (aa<|dE b) d)else if cF (mw c)=b then(qc<|mw c,a.C (aa<|dE b) d)else(.C,{a.C (aa<|dE b) d with a:=aa<|dE b}))
 else(.C,a)
def n2(a:bG c=M)(b:bG d=M):dz e .NotEq (.E c) (.E d)=Y (!aN (c=d)):=by cases c<;>cases d<;>first|rfl|exact Fu a|exact Fu b
def sG(b:V)(a:R V):fD (b::a) (Y 1) ab=a:=by
 haveI c:(bI 0<|b3 1<|(a.length:ah)+1).toNat=1:=by exact VM
 unfold fD;simp[fK,c]
def Dl(f:bA c)(b:hX d)(e:cF c=d):mR c (.A 1) .C=Y (qc c):=by
 cases f with
 |A g=>rcases b with rfl|rfl<;>exact a2 (show"number"=_ from e)<|ae Z
 |D h _=>exact aF (λa=>Y<|V.D a)<|sG _ _
 |B i _ _=>exact aF (λa=>Y<|V.D a)<|sG _ _
 |E d _ _=>rcases b with rfl|rfl<;>exact a2 (show"wrap"=_ from e)<|ae Z
def sl(a:bz b c d e=Y (M,f)):bz b (.k c) d e=Y (Q,f):=sk a
def vv(a:bz b c d e=Y (Q,f)):bz b (.k c) d e=Y (M,f):=sk a
def zj(a:bK b e d f=Y (g,h))(n:b.a i g h=Y (j,c))(o:dz c .NotEq j k=Y l)(p:ai b m d c=Y (k,c)):bz b (.C .NotEq (.G i e) m) d f=Y (l,c):=aK (bM a n) p o
def B3(l:bA g)(r:hX c)(z:a.a=.C)(B:a.b.length<1000000):aR (i+3) .e_ [.B<|d+2,g,aa c,h] (az d e a f)=Y ((e3 a g c h).1,az d e (e3 a g c h).2 f):=by
 refine bi Z<|a' (e:=aa<|dE c) (f:=az d e a f) (by rcases r with rfl|rfl<;>rfl) ?_;haveI C:∀w:aC,dz (az d e a f) .NotEq (aa w) (aa c)=Y (!aN (w=c)):=λw=>(n2 Z Z).trans<|aF Y<|aF not<|i6.2 ⟨an.A.inj,aF _⟩;haveI p:=zl (f:=i) (e:=az d e a f) l r;have k:bz (al<|i+2) (.C .NotEq (.G .E<|.A (.A 1) .B)<|.A 2) ((bV .e_ [.B<|d+2,g,aa c,h]).A 4<|aa<|dE c) (az d e a f)=Y (!aN (cF g=c),az d e a f):=zj Z (lx l.C) (C _) Z;unfold e3;by_cases n:cF g=c;.rw[c0 n]at k;rw[au n];refine fX k<|a3 ((cw<|aK (eH Z Z) Z<|by rw[z];rfl).trans ?_) Z;show((mR g (.A 1) .C).map _)=_;rw[Dl l r n];rfl
 .rw[ct n]at k;rw[ao n];refine gB k ?_;clear n;refine c2 (k5 g c) (λs=>?_) λs=>?_
  .rw[s]at p;refine gB (sl<|iy Z p) ?_;exact a3 Z Z
  .rw[s]at p;refine fX (vv<|iy Z p) ?_;clear p;refine gS (zm s l) λA x D=>?_;generalize mw g=m at A x D;subst A;haveI E:=we (h:=i) (c:=d) (f:=e) (g:=f) (i:=m) (d:=aa<|dE c) (e:=h) B;refine a' (bM (f:=[.B<|d+2,.D [aa "wrap",m],aa<|dE c,h]) Z E) ?_;haveI t:(a.C (aa<|dE c) h).a=if a.A then aa "accident"else .C:=by rw[<-z];rfl
   generalize I:a.C (aa<|dE c) h=b at t;rw[au Z];generalize u:aA.A _ 1 _=j;haveI v:j 0=Y (.B<|d+2):=by rw[<-u];rfl
   haveI F:j 2=Y (aa c):=by rw[<-u];rfl
   haveI G:j 4=Y (aa<|dE c):=by rw[<-u];rfl
   haveI y:j 1=Y (if a.A then .C else m):=by rw[<-u];rfl
   cases H:a.A<;>rw[H]at y t
   .rw[ao<|ae Z];haveI k:bz (al<|i+2) (.C .NotEq (.G .E<|.A (.A 1) .B)<|.A 2) j (az d e b f)=Y (!aN (cF m=c),az d e b f):=by
     refine zj (g:=[m]) ?_ (lx x.C) ((n2 Z Z).trans<|aF Y<|aF not<|i6.2 ⟨an.A.inj,aF _⟩) ?_;.show(((j 1).map _).bind _)=_;rw[y];rfl
     .show(j 2).map _=_;rw[F];rfl
    haveI o:bz (al<|i+2) (.C .Is (.F (.A 0)<|.J "ended") .H) j (az d e b f)=Y (Q,az d e b f):=aK (eH v Z) Z (by rw[t];rfl);by_cases q:cF m=c
    .rw[c0 q]at k;refine fX (cJ (c:=Q) (i:=M) o λK=>cJ (c:=M) (i:=Q) k λl=>by exact bx l) (aU<|a3 (e:=qc m) (f:=az d e b f) ((cw o).trans ?_) ?_)
     .show(((j 1).map _).bind _)=_;rw[y];show((mR m (.A 1) .C).map _)=_;rw[Dl x r q];rfl
     .rw[au q];rfl
    .rw[ct q]at k;refine gB (cJ (c:=Q) (i:=Q) o λK=>cJ (c:=Q) (i:=Q) k λK=>Z) ?_;refine kr (k:=b.d) (l:=aa<|dE c) (m:=b.c) v (i:=aa<|dE c) ?_ Z (aU<|aU<|a3 (e:=.C) (f:=az d e ⟨b.b,b.d,aa<|dE c,b.c⟩ f) ((b6<|aK (eH v Z) Z (l:=M) Z).trans Z) ?_)
     .show(j 4).map _=_;rw[G];rfl
     .rw[ao q];rfl
   .rw[au Z];haveI o:bz (al<|i+2) (.C .Is (.F (.A 0)<|.J "ended") .H) j (az d e b f)=Y (M,az d e b f):=aK (eH v Z) Z (by rw[t];rfl);exact fX (cJ (c:=M) (i:=Q) o λl=>by exact bx l)<|aU<|a3 (e:=.C) (f:=az d e b f) ((b6 o).trans Z) Z
end
def cz(c:U)(d e:V)(f:be)(g:R<|an×V)(h:aE)(i:be)(j:R<|an×V):Prop:=
 ∀(k a:U)(b:af),aR (k+c) .F [.B<|a+2,d,e] (az a b f g)=Y (.G h,az a b i j)
abbrev gQ(a:an):V:=.F [aa "name",.E a]
section
variable{a:be}{b:R<|an×V}
def cz.B(j:cz c d e a b f g h):cz (c+1) d e a b f g h:=λi k l=>by rw[show i+(c+1)=(i+1)+c by exact wy];exact j _ _ _
def cz.A(k:cz c e f a b g h i)(l:c<=d):cz d e f a b g h i:=λj m n=>by rw[show j+d=(j+(d-c))+c by exact W7 l];exact k _ _ _
def sE(n:ai e i f (az c d a b)=Y (.B<|c+1,az c d a b))(o:ai e j f (az c d a b)=Y (.E g,az c d a b))(p:ai e k f (az c d a b)=Y (h,az c d a b))
 (q:b.length<1000)(r:bG g=M)(s:ak (aw e l f<|az c d a<|cp g h b) m):ak (aw e (.A (.H i j k) l) f<|az c d a b) m:=by
 refine gd<|ak.B<|ax _ p<|ak.B<|ax _ n<|ak.B<|ax _ o ?_;refine ax (.A,f,(az c d a b).A (c+1)<|.D<|cp g h b) ?_ ?_;.show(((fx<|(az c d a b).b<|c+1).bind _).or _)=_;rw[mM];exact aF (λe:aD (gZ×aA×af)=>e.or _)<|au ⟨q,r⟩
 .rw[Sz];exact s
def kc(g:a.a=.C)(h:d 0=Y (.B<|c+2)):bz f (.C .IsNot (.F (.A 0)<|.J "ended") .H) d (az c e a b)=Y (M,az c e a b):=aK (eH h Z) Z<|by rw[g];rfl
def Lm(g:a.a≠.C)(h:d 0=Y (.B<|c+2)):bz f (.C .IsNot (.F (.A 0)<|.J "ended") .H) d (az c e a b)=Y (Q,az c e a b):=by refine aK (eH h Z) Z ?_;cases i:a.a<;>first|rfl|exact a2 i g
def Cv(f:a.a≠.C):cz 1 (.F (c::d)) e a b M a b:=λg h i=>
 bi Z (a' Z<|bg (Lm f Z)<|a3 Z Z)
def sx(e:a.a=.C)(f:b.length<1000)(g:bG c=M):cz 1 (gQ c) d a b Q a<|cp c d b:=λh i j=>
 bi Z (a' Z<|as (kc e Z)<|as Z<|bg Z<|sE (eH Z Z) Z Z f g<|aU<|as Z<|as Z<|as Z<|a3 Z Z)
def Cw(f:e="kind"\/e="number")(g:a.a=.C)(h:a.b.length<1000000)(i:hY c)(j:kQ d):cz 3 (.F [aa e,d]) c a b (!a.A&&g9 d c) (a.B d c) b:=λk l m=>by
 rcases f with rfl|rfl
 all_goals exact bi Z<|a' Z<|as (kc g Z)<|bg Z<|a3 (bM Z<|sN i j h) Z
def Ra(g:a.a=.C)(h:a.b.length<1000000)(i:hY c)(j:kQ d)(k:bn (.A "kept") b=Y d):cz 3 (.F [aa "kept"]) c a b (!a.A&&g9 d c) (a.B d c) b:=λl e f=>by
 refine bi Z<|a' Z<|as (kc g Z)<|bg Z<|a3 (bM (f:=[.B<|e+2,d,c]) ?_<|sN i j h) Z;haveI m:ai (al<|l+2) (.F (.F (.A 0)<|.J "names")<|.J "kept") ((bV .F [.B<|e+2,.F [aa "kept"],c]).A 3<|aa "kept") (az e f a b)=Y (d,az e f a b):=by show(ai _ (.F (.A 0)<|.J "names") _ _).bind _=_;rw[eH Z Z];show(eG (az e f a b) (.B<|e+1)<|aa "kept").map _=_;rw[pu mM k];rfl
 exact av Z<|av ((cw Z).trans m) Z
def Q'(i:a.a=.C)(j:cz c d e a b Q f g):cz (c+1) (.F [aa "either",.D [d,h]]) e a b Q f g:=λk l m=>by refine bi Z<|a' Z<|as (kc i Z)<|as Z<|as Z<|bg Z<|a3 ?_ Z;refine pU ?_;rw[uK,bM Z<|j k l m];rfl
def Cu(o:a.a=.C)(p:cz c e d a b M f g)(q:cz c h d f g i j k):cz (c+1) (.F [aa "either",.D [e,h]]) d a b i j k:=λl m n=>by refine bi Z<|a' Z<|as (kc o Z)<|as Z<|as Z<|bg Z<|a3 ?_ Z;refine pU ?_;rw[uK,bM Z<|p l m n];exact bM Z<|q l m n
def Q4(i:a.a=.C)(j:cz c d e a b M f g):cz (c+1) (.F [aa "behind",d,.E h]) e a b M f g:=λk l m=>by refine bi Z<|a' Z<|as (kc i Z)<|as Z<|as Z<|as Z<|bg Z<|a3 ?_ Z;show gt _ _ _ _=_;rw[mm,bM Z<|j k l m];rfl
def Q5(o:a.a=.C)(p:cz c e d a b Q f g)(q:cz c (gQ h) d f g i j k):cz (c+1) (.F [aa "behind",e,.E h]) d a b i j k:=λl m n=>by refine bi Z<|a' Z<|as (kc o Z)<|as Z<|as Z<|as Z<|bg Z<|a3 ?_ Z;show gt _ _ _ _=_;rw[mm,bM Z<|p l m n];exact bM Z<|q l m n
end
def eP:U->cu->cu
 |0,a=>a
 |b+1,.A _ a=>eP b a
 |_+1,.B=>.B
section
def ey(l:ei b e a c=Y (f,g))(m:ak (dx (λa c=>aw b h a c) i f a g) λk=>match k.1 with|.A=>ak (aw b j k.2.1 k.2.2) d|_=>d k):ak (aw b (.A (.G i e h) j) a c) d:=
 gd (ak.B<|ax _ l m)
def eS(k:dY a d e=Y f)(j:ak (b f g) λi=>i.1=.A/\ak (dx b a h i.2.1 i.2.2) c):ak (dx b a (d::h) e g) c:=by refine jA j λl m n j=>?_;obtain⟨o,p,q⟩:=l;subst n;show ak ((dY a d e).bind _) c;rw[k];show ak ((b f g).bind _) c;rw[m];exact j
def ve(l:dY b c d=Y e)(m:f e g=Y (.B h,i,j))(n:a (.B h,i,j)):ak (dx f b (c::k) d g) a:=by show ak ((dY b c d).bind _) a;rw[l];show ak ((f e g).bind _) a;rw[m];exact ax _ Z n
def gk(g:U):R (V×V)->be->R (an×V)->aE->be->R (an×V)->Prop
 |[],a,b,c,d,e=>c=Q/\d=a/\e=b
 |f::j,a,b,c,d,e=>(c=M/\cz g f.1 f.2 a b M d e)\/bE λh i=>cz g f.1 f.2 a b Q h i/\gk g j h i c d e
abbrev qe(a:V×V):V:=.F [a.1,a.2]
abbrev BS:cu:=.A (.C (.k<|.G .F<|.A (.A 0)<|.A (.A 10)<|.A (.A 11) .B) (.A (.D<|.i M) .B) .B) .B
def I1(m:U)(n:R<|V×V):∀{h:be}{i:R<|an×V}{j:aE}{f:be}{g:R<|an×V}{d:aA},gk c n h i j f g->d 0=Y (.B<|b+2)->
 ak (dx (λd a=>aw (al<|m+c) BS d a) (.B [10,11]) (n.map qe) d<|az b a h i)
  λl=>l.1=(if j then .A else .B<|.G M)/\l.2.2=az b a f g:=by
 induction n with
 |nil=>
  intro h i j f g d e _;refine gS e λq r s=>?_;subst q;subst r;subst s;exact cW _ Z Z Z
 |cons k n t=>
  intro h i j f g d e o;have p:∀{j:aE}{f:be}{g:R<|an×V},cz c k.1 k.2 h i j f g->bz (al<|m+c) (.G .F<|.A (.A 0)<|.A (.A 10)<|.A (.A 11) .B) ((d.A 10 k.1).A 11 k.2) (az b a h i)=Y (j,az b a f g):=λe=>
   iy (av (by show(d 0).map _=_;rw[o];rfl) Z) (e m b a)
  rcases e with⟨rfl,e⟩|⟨w,x,e,u⟩;.obtain⟨⟨y,z,A⟩,v,rfl,rfl⟩:ak (aw (al<|m+c) BS ((d.A 10 k.1).A 11 k.2)<|az b a h i) λl=>l.1=.B (.G M)/\l.2.2=az b a f g:=gB (sl<|p e)<|a3 Z<|am Z Z;exact ve Z v<|am Z Z
  .exact eS Z<|fX (vv<|p e)<|aU<|am Z<|t u o
end
def g1(a c:V)(b:be)(d:aE)(e:be):Prop:=
 (a=.C/\d=Q/\e=b)\/(a≠.C/\kQ a/\d=(!b.A&&g9 a c)/\e=b.B a c)
abbrev gU(a:V)(b:R V)(c:V)(d:R V):V:=.F [aa "row",a,.D b,c,.D d]
abbrev gr(a:V)(b:R V)(c:V):V:=.F [aa "card",a,.D b,c]
section
variable{a:be}
def sy(o:a.a=.C)(p:∀n l m,aR (n+b) .b_ [.B<|l+2,gU c d e f,g] (az l m a h)=Y (.G i,az l m j k)):cz (b+1) (gU c d e f) g a h i j k:=λn l m=>
 bi Z (a' Z<|as (kc o Z)<|as Z<|as Z<|as Z<|as Z<|bg Z<|a3 (bM Z<|p n l m) Z)
def sw(n:a.a=.C)(o:∀m k l,aR (m+b) .d_ [.B<|k+2,gr c d e,f] (az k l a g)=Y (.G h,az k l i j)):cz (b+1) (gr c d e) f a g h i j:=λm k l=>
 bi Z (a' Z<|as (kc n Z)<|as Z<|as Z<|as Z<|as Z<|as Z<|a3 (by refine pU ?_;exact bM Z<|o m k l) Z)
def rR(q:a.b.length<1000000)(r:hY g)(s:g1 f g a k i)(t:b 0=Y (.B<|c+2))(u:b 2=Y g)(p:b 3=Y f)(m:if k then ak (aw (al<|h+2) l b<|az c d i e) j else j (.B<|.G M,b,az c d i e)):
 ak (aw (al<|h+2) (.A (.C (.f<|.A (.C .IsNot (.A 3) .H)<|.A (.k<|.G .K<|.A (.A 0)<|.A (.A 3)<|.A (.A 2) .B) .B) (.A (.D<|.i M) .B) .B) l) b<|az c d a e) j:=by
 have n:ai (al<|h+2) (.A 3) b (az c d a e)=Y (f,az c d a e):=by show(b 3).map _=_;rw[p];rfl
 clear p;rcases s with⟨rfl,rfl,rfl⟩|⟨v,w,rfl,rfl⟩
 .exact as (cJ (c:=M) (i:=Q) (aK n Z Z) λx=>by exact bx x) m
 .haveI y:bz (al<|h+2) (.C .IsNot (.A 3) .H) b (az c d a e)=Y (Q,az c d a e):=aK n Z (by
   clear n;cases f<;>first|rfl|exact a2 Z v)
  haveI z:bz (al<|h+2) (.G .K<|.A (.A 0)<|.A (.A 3)<|.A (.A 2) .B) b (az c d a e)=Y (!a.A&&g9 f g,az c d (a.B f g) e):=
   iy (av (by show(b 0).map _=_;rw[t];rfl)<|av n<|av (by show(b 2).map _=_;rw[u];rfl) Z) (sN r w q)
  haveI o:bz (al<|h+2) (.f<|.A (.C .IsNot (.A 3) .H)<|.A (.k<|.G .K<|.A (.A 0)<|.A (.A 3)<|.A (.A 2) .B) .B) b (az c d a e)=Y (!(!a.A&&g9 f g),az c d (a.B f g) e):=by rw[Ls,uJ,y];show gM _ _ _ _=_;rw[uJ,sk z];cases !a.A&&g9 f g<;>rfl
  cases A: !a.A&&g9 f g<;>rw[A]at o m;.exact gB o<|a3 Z m
  .exact fX o m
def Rb(i:a.a=.C)(j:a.b.length<1000000)(k:hY b)(l:g1 c b a M d):cz 5 (gU c f g h) b a e M d e:=
 sy i λm n o=>bi Z<|eL Z Z<|rR j k l Z Z Z Z
def Q6(h:a.a=.C)(i:a.b.length<1000000)(j:hY b)(k:g1 c b a M d):cz 5 (gr c f g) b a e M d e:=
 sw h λl m n=>bi Z<|eL Z Z<|rR i j k Z Z Z Z
end
def q5(a:V):Prop:=a=.C\/∃b,a=.E b/\bG b=M
def lk(b:V)(c:R V):R<|V×V:=match b with
 |.E a=>if a=.A ""then[]else[(gQ a,.D (aa "row"::c))]
 |_=>[]
def ol(c:V)(a b d:R V):Bool:=aN ((a.length:ah)<(b.length:ah)+d.length)||(bH c&&aN ((b.length:ah)<a.length))
def ga(a b c:R V):R V:=fD a (Y b.length)<|Y<|(a.length:ah)-c.length
def mz(a b:R V):R V:=fD a (Y<|(a.length:ah)-b.length) ab
section
variable{a c b:be}
def g1.A(b:g1 d e a Q c):c.a=a.a:=by
 rcases b with⟨_,_,rfl⟩|⟨_,_,b,rfl⟩;.rfl
 .refine c2 a.A (λf=>?_) λf=>?_
  .show(if a.A then aa "accident"else a.a)=_;rw[f];rfl
  .rw[f]at b;exact e4 b
abbrev Fs(e:U)(a b f:V)(c d:R V):aA:=((((bV .b_ [.B<|e+2,gU a c b d,f]).A 3 a).A 4<|.D c).A 5 b).A 6<|.D d
def vS(o:a.a=.C)(p:a.b.length<1000000)(q:b.b.length<1000000)(c:bA d)(n:g1 f d a Q b)
 (r:ak (aw (al<|g+3) (eP 3 (bp .b_).b) ((Fs e f h d i j).A 7 (e3 b d "row"<|aa "-").1)<|az e k (e3 b d "row"<|aa "-").2 l)<|fp (·=m)):
 aR (g+4) .b_ [.B<|e+2,gU f i h j,d] (az e k a l)=Y m:=
 bi Z (eL Z Z<|rR p c.C n Z Z Z<|a' (bM Z<|B3 c (.inl Z) (n.A.trans o) q) r)
def Rc(j:a.a=.C)(k:a.b.length<1000000)(l:b.b.length<1000000)(m:bA d)(n:g1 e d a Q b)(o:e3 b d "row" (aa "-")=(.C,c)):cz 5 (gU e g h i) d a f M c f:=
 sy j λp q r=>vS j k l m n<|by rw[o];exact bg Z<|a3 Z Z
def fw(a:gM d e f g=h):bz d (.f e) f g=h:=a
def Dy(k:d 4=Y (.D h))(l:d 5=Y j)(m:d 6=Y (.D i))(a:d 7=Y (.D f)):
 bz g (.j<|.A (.C .Is (.A 7) .H)<|.A (.C .Lt (.L .init<|.A 7)<|.K .ignore (.L .init<|.A 4)<|.L .init<|.A 6)<|.A (.f<|.A (.C .Is (.A 5) .H)<|.A (.C .Gt (.L .init<|.A 7)<|.L .init<|.A 4) .B) .B) d e=Y (ol j f h i,e):=by
 have b:ai g (.L .init<|.A 4) d e=Y (.A h.length,e):=by show(((d 4).map _).bind _)=_;rw[k];rfl
 haveI n:ai g (.L .init<|.A 6) d e=Y (.A i.length,e):=by show(((d 6).map _).bind _)=_;rw[m];rfl
 have c:ai g (.L .init<|.A 7) d e=Y (.A f.length,e):=by show(((d 7).map _).bind _)=_;rw[a];rfl
 refine kY (c:=M) (aK (i:=.D f) ?_ Z Z) λo=>kY (aK c (bL b n Z) Z) λo=>(kY (fw<|cJ (aK ?_ Z Z) λo=>(cJ (aK c b Z) λo=>ml).trans<|by rw[wZ]) λo=>z').trans (by rw[oy]);.show(d 7).map _=_;rw[a];rfl
 .show(d 5).map _=_;rw[l];rfl
def Rd(k:a.a=.C)(l:a.b.length<1000000)(m:b.b.length<1000000)(n:bA d)(o:g1 e d a Q b)(p:e3 b d "row" (aa "-")=(.D f,c))(q:ol g f h i=Q):cz 5 (gU e h g i) d a j M c j:=
 sy k λr s t=>vS k l m n o<|by rw[p];exact bg ((Dy Z Z Z Z).trans<|by rw[q])<|a3 Z Z
end
section
variable{d e:be}{c b a:R V}
def gk.C(k:f<=g):∀{b:R<|V×V}{d:be}{c:R<|an×V},gk f b d c h i j->gk g b d c h i j:=by
 intro b
 induction b with
 |nil=>exact λa=>a
 |cons o b l=>
  intro d c a;rcases a with⟨rfl,a⟩|⟨e,m,a,n⟩;.exact .inl ⟨Z,a.A k⟩
  .exact .inr ⟨e,m,a.A k,l n⟩
def cB(a:bK f g h i=Y (j,k)):ai f (.I g) h i=Y (.F j,k):=by show(bK f g h i).map _=_;rw[a];rfl
def iI(a:bK f g h i=Y (j,k)):ai f (.a M g) h i=Y (.D j,k):=by show(bK f g h i).map _=_;rw[a];rfl
def cS(a:ai g h i j=Y (k,f))(b:k2 f l k=Y m):ai g (.L l h) i j=Y (m,f):=by show(ai g h i j).bind _=_;rw[a];show(k2 f l k).map _=_;rw[b];rfl
def ac(a:f g=Y h):ai j (.A g) f i=Y (h,i):=by show(f g).map _=_;rw[a];rfl
def hb(a:ai g i h f=Y (j,f))(b:ai g k h f=Y (l,f))(c:ai g m h f=Y (n,f))(d:mR j l n=Y o):ai g (.e i k m) h f=Y (o,f):=by show(ai g i h f).bind _=_;rw[a];show(ai g k h f).bind _=_;rw[b];show(ai g m h f).bind _=_;rw[c];show(mR j l n).map _=_;rw[d];rfl
def gp(b:a.length+f.length<=1000000):h4 .ignore (.D a) (.D f)=Y (.D<|a++f):=aF (λc:aD V=>c.or _)<|au b
def Py(e:q5 j)(k:g 5=Y j)(l:h.length<=2000)(m:ai i (.e (.A 7) (.L .init<|.A 4)<|.A 8) g f=Y (.D h,f)):
 ai i (.K .raise (.a M<|.A (.I<|.A (.I<|.A (.J "name")<|.A (.A 5) .B)<|.A (.K .ignore (.a M<|.A (.J "row") .B)<|.e (.A 7) (.L .init<|.A 4)<|.A 8) .B) .B)<|.L .prolog<|.L .content<|.A 5) g f=Y (.D<|(lk j h).map qe,f):=by
 have a:=ac (j:=i) (i:=f) k;haveI n:ai i (.K .ignore (.a M<|.A (.J "row") .B)<|.e (.A 7) (.L .init<|.A 4)<|.A 8) g f=Y (.D (aa "row"::h),f):=bL Z m (gp<|by simp;exact(aj Z:N [_] (.A (1+X) 1000000) [.A X 2000]) l);have b:=iI<|av (cB<|av (cB<|av (f:=.J "name") Z<|av a aQ)<|av n aQ) aQ;rcases e with rfl|⟨d,rfl,p⟩;.exact bL b (cS (cS a Z) Z) Z
 .by_cases c:d=.A ""
  .subst c;exact bL b (cS (cS a Z) Z) Z
  .refine bL b (cS (cS (m:=.G Q) a ?_) Z) ?_
   .exact aF (λo=>Y<|V.G o)<|c0 c
   .show Y (V.D _)=Y (V.D<|(if d=.A ""then[]else _:R<|V×V).map qe);rw[ao c];rfl
def Fo(c:ai g i h f=Y (.D a,f))(d:ai g j h f=Y (.D b,f)):ai g (.u i j) h f=Y (.D<|(a.zip b).map qe,f):=by show(ai g i h f).bind _=_;rw[c];show(ai g j h f).bind _=_;rw[d];rfl
def fU(b:ai g h i f=Y (.D a,f)):ei g (.A h) i f=Y (a,f):=by show(ai g h i f).bind _=_;rw[b];rfl
def Pw:(ga a c b).length<=a.length:=by unfold ga fD;simp;exact VN
def OL:(mz a b).length<=a.length:=by unfold mz fD;simp
def Bu(b:R V):(lk f b).length<=1:=by
 cases f with
 |E c=>
  by_cases a:c=.A "";.exact br (fI<|aF w'<|au a)<|aX Z
  .exact fI<|aF w'<|ao a
 |_=>exact c8 _
def Re(z:d.a=.C)(F:d.b.length<1000000)(G:e.b.length<1000000)(H:bA g)(I:g1 h g d Q e)(J:e3 e g "row" (aa "-")=(.D a,k))(K:ol f a c b=M)(L:q5 f)
 (s:a.length<=2000)(A:gk i (c.zip a++lk f (ga a c b)++b.zip (mz a b)) k l j m n):cz (i+5) (gU h c f b) g d l j m n:=
 sy z λa_ t h_=>vS z F G H I (by
  rw[J];generalize r:aA.A (Fs t h f g c b) 7 _=p;haveI b_:p 0=Y (.B<|t+2):=by rw[<-r];rfl
  haveI B:p 4=Y (.D c):=by rw[<-r];rfl
  haveI C:p 5=Y f:=by rw[<-r];rfl
  haveI u:p 6=Y (.D b):=by rw[<-r];rfl
  haveI v:p 7=Y (.D a):=by rw[<-r];rfl
  refine as ((Dy B C u v).trans<|by rw[K])<|a' (bL (cS (ac v) Z) (cS (ac u) Z) Z) ?_;generalize q:p.A 8 _=o;haveI c_:o 0=Y (.B<|t+2):=by rw[<-q];exact b_
  haveI D:o 4=Y (.D c):=by rw[<-q];exact B
  haveI d_:o 5=Y f:=by rw[<-q];exact C
  haveI e_:o 6=Y (.D b):=by rw[<-q];exact u
  haveI w:o 7=Y (.D a):=by rw[<-q];exact v
  haveI E:o 8=Y (.A<|(a.length:ah)-b.length):=by rw[<-q];rfl
  refine a' (bL (Fo (ac D)<|ac w) (Py L d_ (br Pw s)<|hb (ac w) (cS (ac D) Z) (ac E) Z)<|gp ?_) ?_;.haveI:=Bu (f:=f)<|ga a c b;simp;exact VO this s
  refine ey (fU (a:=(c.zip a++lk f (ga a c b)++b.zip (mz a b)).map qe)<|bL (ac Z) (Fo (ac e_)<|hb (ac w) (ac E) Z Z) ?_) ?_
  .refine(gp ?_).trans ?_
   .haveI x:=Bu (f:=f)<|ga a c b;haveI y:=OL (a:=a) (b:=b);simp;exact Vv s x y
   .rw[hR,hR];rfl
  .refine(I1 a_ (c:=i+3) (d:=o.A 9 _) _ (A.C<|E6) c_).A λf_ g_=>?_;obtain⟨i_,j_,k_⟩:=f_;clear A;obtain⟨x,y⟩:=g_;subst x y;cases j
   .exact Z
   .exact a3 Z Z)
end
def fd(a:V):Bool:=match a with
 |.E b=> !aN (b=.A "none")
 |_=>M
def l1(a:V):Prop:=a=.C\/∃b,a=.E b/\bG b=M
abbrev cK(a:R<|aC×V):R V:=a.map λb=>aa b.1
def hB(a:V)(b:R<|aC×V):V:=if fd a then .C else .D<|cK b
def mo(a:aC×V):V:=if bH a.2 then gQ<|.A a.1 else a.2
def oZ(h:U)(i:R<|aC×V):R (aC×V)->be->R (an×V)->aE->be->R (an×V)->Prop
 |[],b,c,d,e,f=>d=Q/\e=b/\f=c
 |g::l,b,c,d,e,f=>((i.filter λa=>aN<|a.1=g.1)=[]/\d=M/\e=b/\f=c)\/bE λa m=>(i.filter λa=>aN<|a.1=g.1)=a::m/\
  ((d=M/\cz h (mo g) a.2 b c M e f)\/bE λj k=>cz h (mo g) a.2 b c Q j k/\oZ h i l j k d e f)
def fn(a b:R<|aC×V):R<|aC×V:=a.filter λc=> !(b.map (·.1)).contains c.1
section
variable{b c:be}{a:R<|aC×V}{d:R V}
def mg{c:aA->af->aD (aE×af)}(d:R l)(p:∀a∈d,∃b,dY f (g a) h=Y b/\c b e=Y (i a,e)/\(i a=Q->j b e=Y (k a,e))):
 ek j c f (d.map g) h e=Y ((d.filter i).map k,e):=by
 induction d with
 |nil=>rfl
 |cons a d m=>
  refine a8 (p a bP) λb o=>?_;haveI m:=m λq r=>p q<|cx _ r;show(dY f (g a) h).bind _=_;rw[o.1];show(c b e).bind _=_;rw[o.2.1];refine c2 (i a) (λn=>?_) λn=>?_;.rw[w9,n];exact m
  .rw[w9,n];show(j b e).bind _=_;rw[o.2.2 n];show(ek j c f (d.map g) h e).bind _=_;rw[m];rfl
def k7(a:ei g h f e=Y (d,e))(b:ek (λf e=>ai g i f e) (λf e=>d' g j f e) k d f e=Y (l,m)):ai g (.d M i k h j) f e=Y (.D l,m):=by show(ei g h f e).bind _=_;rw[a];show(ek (λf e=>ai g i f e) (λf e=>d' g j f e) k d f e).map _=_;rw[b];rfl
def r4(c:e≠f)(d:ai i j h g=Y (.D<|a.map bs,g)):ai i (.d M (.A e) (.B [e,f]) (.A j) .B) h g=Y (.D<|cK a,g):=
 (k7 (fU d)<|mg a λb k=>cW ((h.A e<|aa b.1).A f b.2) Z Z λk=>ac<|by show(if e=f then _ else(if e=e then _ else _))=_;rw[ao c,au Z]).trans (by rw[Yn.2 λk k=>Z])
abbrev XN(d:U)(b c e:V)(a:R<|aC×V):aA:=(((bV .d_ [.B<|d+2,gr b (a.map bs) c,e]).A 3 b).A 4<|.D<|a.map bs).A 5 c
def P7(b:l1 e)(a:f 5=Y e):ai h (.f<|.A (.C .IsNot (.A 5) .H)<|.A (.C .NotEq (.A 5)<|.J "none") .B) f g=Y (.G<|fd e,g):=by
 show gt _ _ _ _=_;rw[mm,eZ (ac a) Z Z];rcases b with rfl|⟨d,rfl,c⟩;.rfl
 .exact eZ (ac a) Z<|n2 c Z
def ur(n:b.a=.C)(o:b.b.length<1000000)(p:c.b.length<1000000)(d:bA f)(m:g1 h f b Q c)(q:l1 e)
 (r:ak (aw (al<|i+3) (eP 4 (bp .d_).b) (((XN g h e f a).A 6<|.G<|fd e).A 9 (e3 c f "card"<|hB e a).1)<|az g j (e3 c f "card"<|hB e a).2 k)<|fp (·=l)):
 aR (i+4) .d_ [.B<|g+2,gr h (a.map bs) e,f] (az g j b k)=Y l:=by
 refine bi Z<|eL Z Z<|rR o d.C m Z Z Z<|a' (P7 q Z)<|a' (bM (av Z<|av Z<|av Z<|av ?_ Z)<|B3 d (.inr Z) (m.A.trans n) p) r;unfold hB;refine c2 (fd e) (λs=>?_) λs=>?_;.exact(b6 Z).trans<|r4 (el Z) Z
 .exact(cw Z).trans Z
def Q7(d:b.a=.C)(j:b.b.length<1000000)(k:c.b.length<1000000)(l:bA e)(m:g1 g e b Q c)(n:l1 f)(o:e3 c e "card" (hB f a)=(.C,h)):cz 5 (gr g (a.map bs) f) e b i M h i:=
 sw d λp q r=>ur d j k l m n<|by rw[o];exact bg Z<|a3 Z Z
end
section
variable{a:V}{b:R<|aC×V}
def a0(a:ai d f e c=Y (g,c))(b:bK d h e c=Y (i,j)):bK d (.A f h) e c=Y (g::i,j):=av a b
def py(a:bz e f g c=Y (d,c)):d' e (.A f .B) g c=Y (d,c):=by rw[Lv,a];cases d<;>rfl
def h7(a b:aC):dz c .Eq (aa a) (aa b)=Y (aN<|a=b):=aF Y<|i6.2 ⟨an.A.inj,aF _⟩
def NO(h:c 9=Y (.D<|b.map bs))(i:c 10=Y (aa d)):
 ai f (.d M (.A 13) (.B [12,13]) (.A<|.A 9)<|.A (.C .Eq (.A 12)<|.A 10) .B) c e=Y (.D<|(b.filter λa=>aN<|a.1=d).map (·.2),e):=
 k7 (fU<|ac h) (mg b λg j=>cW ((c.A 12<|aa g.1).A 13 g.2) Z (py<|aK (ac Z) (ac i)<|h7 _ _) λj=>ac Z)
abbrev uL:cu:=.A (.B (.A 14)<|.d M (.A 13) (.B [12,13]) (.A<|.A 9)<|.A (.C .Eq (.A 12)<|.A 10) .B)
 (.A (.C (.j<|.A (.C .Eq (.A 14)<|.a M .B)<|.A (.k<|.G .F<|.A (.A 0)<|.A (.b (.C .Is (.A 11) .H) (.I<|.A (.J "name")<|.A (.A 10) .B)<|.A 11)<|.A (.F (.A 14)<|.B 0) .B) .B) (.A (.D<|.i M) .B) .B) .B)
def Ah{a:aC×V}(p:cz i (mo e) a.2 g h j l m)(s:c 0=Y (.B<|d+2))(t:c 10=Y (aa e.1))(q:c 11=Y e.2)(r:c 14=Y (.D<|(a::n).map (·.2))):
 bz (al<|k+i) (.j<|.A (.C .Eq (.A 14)<|.a M .B)<|.A (.k<|.G .F<|.A (.A 0)<|.A (.b (.C .Is (.A 11) .H) (.I<|.A (.J "name")<|.A (.A 10) .B)<|.A 11)<|.A (.F (.A 14)<|.B 0) .B) .B) c (az d f g h)=Y (!j,az d f l m):=by
 refine(Aa).trans ?_;rw[pq,aK (ac r) Z Z];show gN _ _ _ _=_;rw[pq,sk<|iy (a0 (ac s)<|a0 ?_<|a0 ?_ aQ)<|p k d f];.clear p;cases j<;>rfl
 .unfold mo;haveI b:bz (al<|k+i) (.C .Is (.A 11) .H) c (az d f g h)=Y (bH e.2,az d f g h):=aK (ac q) Z Z;refine c2 (bH e.2) (λo=>?_) λo=>?_
  .rw[o]at b;exact(b6 b).trans<|ac q
  .rw[o]at b;exact(cw b).trans<|cB<|av Z<|av (ac t) aQ
 .show(ai _ (.A 14) c _).bind _=_;rw[ac r];rfl
def Ar(n:U)(o:R<|aC×V):∀{l:be}{m:R<|an×V}{p:aE}{j:be}{k:R<|an×V}{f:aA},oZ e b o l m p j k->f 0=Y (.B<|d+2)->f 9=Y (.D<|b.map bs)->
 ak (dx (λf c=>aw (al<|n+e) uL f c) (.B [10,11]) (o.map bs) f<|az d c l m)
  λg=>g.1=(if p then .A else .B<|.G M)/\(p=Q->∀a,a≠10->a≠11->a≠14->g.2.1 a=f a)/\g.2.2=az d c j k:=by
 induction o with
 |nil=>
  intro l m p j k f h _ _;refine gS h λz A B=>?_;subst z;subst A;subst B;exact dZ _ Z Z (λx_ x_ x_ x_ x_=>Z) Z
 |cons i o C=>
  intro l m p j k f h q t;haveI u:=NO (f:=al<|n+e) (e:=az d c l m) (c:=(f.A 10<|aa i.1).A 11 i.2) t Z;have v:∀{j:be}{k:R<|an×V},(bz (al<|n+e) (.j<|.A (.C .Eq (.A 14)<|.a M .B)<|.A (.k<|.G .F<|.A (.A 0)<|.A (.b (.C .Is (.A 11) .H) (.I<|.A (.J "name")<|.A (.A 10) .B)<|.A 11)<|.A (.F (.A 14)<|.B 0) .B) .B)
   (((f.A 10<|aa i.1).A 11 i.2).A 14<|.D<|(b.filter λa=>aN<|a.1=i.1).map (·.2)) (az d c l m)=Y (Q,az d c j k))->
   ak (dx (λf c=>aw (al<|n+e) uL f c) (.B [10,11]) ((i::o).map bs) f<|az d c l m) λg=>g.1=.B (.G M)/\(M=Q->∀a,a≠10->a≠11->a≠14->g.2.1 a=f a)/\g.2.2=az d c j k:=by
   intro j k D;obtain⟨⟨H,I,J⟩,E,rfl,rfl⟩:ak (aw (al<|n+e) uL ((f.A 10<|aa i.1).A 11 i.2)<|az d c l m) λg=>g.1=.B (.G M)/\g.2.2=az d c j k:=
    a' u (gB D<|a3 Z<|am Z Z)
   exact ve Z E<|aL Z (by intro h;exact bx h) Z
  rcases h with⟨h,rfl,rfl,rfl⟩|⟨a,g,h,⟨rfl,r⟩|⟨K,L,r,F⟩⟩;.refine v ?_;rw[h];rfl
  .exact v<|Ah r q Z Z<|by rw[h];rfl
  .refine eS Z<|a' u<|fX (Ah r q Z Z<|by rw[h];rfl)<|aU<|am Z<|(C (f:=((f.A 10<|aa i.1).A 11 i.2).A 14 _) F q t).A λg s=>aL s.1 (λG a w x y=>(s.2.1 G a w x y).trans ?_) s.2.2;show(if a=14 then _ else if a=11 then _ else if a=10 then _ else f a)=_;rw[ao y,ao x,ao w]
end
def me(a:V)(b c:R<|aC×V):Bool:=fd a||((fn c b).isEmpty||(bH a&& !b.isEmpty))
def ry(c:V)(d e:R<|aC×V)(a:R<|an×V):R<|an×V:=match c with
 |.E b=>if b=.A "none"then a else cp b (.D (aa "card"::(fn e d).map bs)) a
 |_=>a
section
variable{d e:be}{c:R<|an×V}{a b:R<|aC×V}
def r9(a:aC)(b:R<|aC×V):gL (cK b)=Q/\dJ (.A a) (cK b)=(b.map (·.1)).contains a:=by
 induction b with
 |nil=>exact am Z Z
 |cons c b e=>
  refine am e.1 ?_;show(aN (an.A c.1=an.A a)||dJ (.A a) (cK b))=_;rw[e.2,cl,Yg];refine aF (·||_) ?_;rw[i6.2 (⟨λd=>(an.A.inj d).symm,λd=>aF _ d.symm⟩:an.A c.1=an.A a<->a=c.1)];rfl
def BV(b:aC)(a:R<|aC×V):dz f .NotIn (aa b) (.D<|cK a)=Y (!(a.map (·.1)).contains b):=by show((if gL (cK a)then Y<|dJ (.A b)<|cK a else ab:aD aE).or _).map _=_;rw[au (r9 b a).1,(r9 b a).2];rfl
def PB(c:f 9=Y (.D<|b.map bs))(d:f 4=Y (.D<|a.map bs)):
 ai h (.d M (.A 15) (.A 15) (.A<|.A 9)<|.A (.C .NotIn (.F (.A 15)<|.B 0)<|.d M (.A 16) (.B [16,17]) (.A<|.A 4) .B) .B) f g=Y (.D<|(fn b a).map bs,g):=
 k7 (fU<|ac c) (mg b λe i=>cW (f.A 15<|bs e) Z (py<|aK Z (r4 (el Z)<|ac d)<|BV _ _) λi=>ac Z)
def Q8(n:d.a=.C)(o:d.b.length<1000000)(p:e.b.length<1000000)(q:bA f)(r:g1 i f d Q e)(s:l1 h)(t:e3 e f "card" (hB h a)=(.D<|b.map bs,j))(u:oZ g b a j k M l c):
 cz (g+5) (gr i (a.map bs) h) f d k M l c:=
 sw n λm z A=>ur n o p q r s (by rw[t];refine as Z<|ey (fU<|ac Z) ?_;refine p2 (show m+g+3=(m+3)+g by exact ET) ?_;refine(Ar (m+3) a u Z Z).A λv w=>?_;obtain⟨B,C,D⟩:=v;obtain⟨x,_,y⟩:=w;subst x y;exact Z)
def Q9(z:d.a=.C)(K:d.b.length<1000000)(L:e.b.length<1000000)(a_:bA i)(b_:g1 j i d Q e)(A:l1 f)(B:e3 e i "card" (hB f a)=(.D<|b.map bs,k))(c_:b.length<=1000)(C:oZ g b a k l Q h c)(d_:c.length<1000):
 cz (g+5) (gr j (a.map bs) f) i d l (me f a b) h (ry f a b c):=
 sw z λp q s=>ur z K L a_ b_ A (by
  rw[B];refine as Z<|ey (fU<|ac Z) ?_;refine p2 (show p+g+3=(p+3)+g by exact ET) ?_;refine(Ar (p+3) a C Z Z).A λe_ f_=>?_;clear C;obtain⟨p_,g_,q_⟩:=e_;clear B;obtain⟨v,D,w⟩:=f_;subst v w;have o:=λh_ v w i_=>D Z h_ v w i_;haveI j_:=o 0 (el Z) (el Z)<|el Z;have E:=o 4 (el Z) (el Z)<|el Z;have k_:=o 5 (el Z) (el Z)<|el Z;have l_:=o 6 (el Z) (el Z)<|el Z;have m_:=o 9 (el Z) (el Z)<|el Z;clear D o;refine a' (PB m_ E) ?_;generalize r:aA.A g_ 18 _=m;haveI n_:m 0=Y (.B<|q+2):=by rw[<-r];exact j_
  have F:m 4=Y (.D<|a.map bs):=by rw[<-r];exact E
  have G:m 5=Y f:=by rw[<-r];exact k_
  have H:m 6=Y (.G<|fd f):=by rw[<-r];exact l_
  have I:m 18=Y (.D<|(fn b a).map bs):=by rw[<-r];rfl
  have x:∀n,ai (al<|(p+3)+g) (.j<|.A (.A 6)<|.A (.C .Eq (.A 18)<|.a M .B)<|.A (.f<|.A (.C .Is (.A 5) .H)<|.A (.C .NotEq (.A 4)<|.a M .B) .B) .B) m (az q s h n)=Y (.G<|me f a b,az q s h n):=by
   intro n;refine pU<|sm (ac H) λx_=>sm (eZ (ac I) Z ?_) λx_=>?_;.cases fn b a<;>rfl
   .show gt _ _ _ _=_;rw[mm,eZ (ac G) Z Z];cases bH f
    .rfl
    .refine eZ (ac F) Z ?_;clear F;cases a<;>rfl
  have J:∀n,bz (al<|(p+3)+g) (.A 6) m (az q s h n)=Y (fd f,az q s h n):=λn=>by show((m 6).map _).bind _=_;rw[H];rfl
  haveI t:=J c;clear J;rcases A with rfl|⟨u,rfl,j⟩
  .exact as t (a3 (x _) Z)
  .by_cases y:u=.A "none"
   .subst y;exact as t (a3 (x _) Z)
   .haveI:fd (.E u)=true:=aF not<|ct y;rw[this]at t;haveI o_:ry (.E u) a b c=cp u (.D (aa "card"::(fn b a).map bs)) c:=ao y;rw[o_];refine bg t<|sE (eH n_ Z) (ac G) (bL Z (ac I)<|gp ?_) d_ j<|aU<|a3 (x _) Z;haveI:(fn b a).length<=b.length:=FK _ _;rw[bC,ff];exact(aj Z:N [_,_] (.A (1+X) 1000000) [.A S 1000,.A X S]) c_ this)
end
abbrev bq(a:aC)(b c d:V):V:=.L .H [("op",aa a),("a",b),("b",c),("c",d),("line",.A 0)]
def dM(e:V)(f g:R V)(h:be)(i:R V)(j:V)(k:R V)(l:be):Prop:=
 ∀(m a b:U)(c:af)(d:R<|an×V),a+2<b->aR (m+4) .ay_ [.B<|a+2,e,.D f,.B b] (az a (c.A b<|.A g) h d)=Y (.F [.D i,j],az a (c.A b<|.A k) l d)
section
variable{c:af}{a b:R V}
def CR(a:e+2<d):(az e (c.A d<|.A b) f g).b d=.A b:=by unfold az;dsimp only;rw[ao<|s2 a,ao<|wz a,ao<|wA a];exact au Z
def SA(i:e+2<d):(az e (c.A d<|.A b) f g).A d (.A h)=az e (c.A d<|.A h) f g:=by
 refine fT Z λj=>?_;unfold af.A az;dsimp only;by_cases a:j=d;.subst a;rw[au Z,ao<|s2 i,ao<|wz i,ao<|wA i,au Z]
 .rw[ao a,ao a,ao a]
def Dw:gz (a++[d]) (-1)=Y d:=by
 unfold gz;rw[ao<|ae Z,au<|by simp;exact VP];haveI:((-1:ah)+((a++[d]).length:U)).toNat=a.length:=by simp;exact VQ
 rw[this];simp
def QE:fD (a++[d]) ab (Y<|-1)=a:=by
 haveI b:(bI 0<|b3 (-1+((a.length:ah)+1))<|(a.length:ah)+1).toNat=a.length:=by exact VR
 unfold fD;simp[fK,b]
def mV(b:d 2=Y (.D<|a++[e])):ai f (.F (.A 2)<|.g<|.B 1) d c=Y (e,c):=by show((d 2).map _).bind _=_;rw[b];show(eG _ (.D<|a++[e])<|.A<|-1).map _=_;rw[kh];rw[Dw];rfl
def lr(b:d 2=Y (.D<|a++[e])):ai f (.e (.A 2) .H<|.g<|.B 1) d c=Y (.D a,c):=hb (ac b) Z Z<|aF (λg=>Y<|V.D g) QE
def h1(b:ai d f e c=Y (.D a,c))(j:ai d g e c=Y (h,i))(k:a.length<1000000):ai d (.K .ignore f<|.a M<|.A g .B) e c=Y (.D<|a++[h],i):=
 bL b (iI<|av j aQ) (gp k)
def fV(a:ai e g f c=Y (h,d))(b:ai e i f d=Y (j,d)):ai e (.I<|.A g<|.A i .B) f c=Y (.F [h,j],d):=cB<|av a<|av b aQ
def gx(g:d="push"\/d="text"\/d="getc")(h:a.length<1000000):dM (bq d e .C .C) a b f (a++[e]) .C b f:=λi j k c l m=>by
 rcases g with rfl|rfl|rfl
 all_goals exact bi Z<|bg Z<|a' Z<|a3 (fV (h1 (ac Z) ((b6 Z).trans<|ac Z) h) Z) Z
def PH(e:a.length<1000000):dM (bq "self" .C .C .C) a b d (a++[aa "me"]) .C b d:=λf g h c i j=>
 bi Z (bg Z<|a' Z<|a3 (fV (h1 (ac Z) ((b6 Z).trans<|ac Z) e) Z) Z)
def PF(f:a.length<1000000):dM (bq "getg" e .C .C) a b d (a++[.C]) .C b d:=λg h i c j k=>
 bi Z (bg Z<|a' Z<|a3 (fV (h1 (ac Z) ((b6 Z).trans<|ac Z) f) Z) Z)
def AP(i:e+2<d){a:U}(j:b[a]?=Y f):eG (az e (c.A d<|.A b) g h) (.B d) (.A a)=Y f:=by show((((e9<|(az e (c.A d<|.A b) g h).b d).or ab).bind λk=>gz k a).or _)=_;rw[CR i];show((gz b a).or _)=_;unfold gz;rw[au<|wu,show b[((a:ah)).toNat]?=Y f from j];rfl
def fc{f:U}(h:b[f]?=Y e)(i:a.length<1000000):dM (bq "getl" (.A 0) (.A f) .C) a b d (a++[e]) .C b d:=λm j g c k l=>
 bi Z (bg Z<|a' Z<|a3 (fV (h1 (ac Z) ((cw Z).trans<|by show(eG (az j (c.A g<|.A b) d k) (.B g)<|.A f).map _=_;rw[AP l h];rfl) i) Z) Z)
def vm(g:d="pop"\/d="setcaught"):dM (bq d .C .C .C) (a++[f]) b e a .C b e:=λh i j c k l=>by
 rcases g with rfl|rfl
 all_goals exact bi Z<|as Z<|bg Z<|as Z<|a3 (fV (lr Z) Z) Z
def SI{a:U}(m:ai e h d c=Y (g,c))(n:ai e i d c=Y (.B f,c))(o:ai e j d c=Y (.A a,c))(p:c.b f=.A b)(q:a<b.length)(r:ak (aw e k d<|c.A f<|.A<|b.set a g) l):ak (aw e (.A (.H i j h) k) d c) l:=by refine gd<|ak.B<|ax _ m<|ak.B<|ax _ n<|ak.B<|ax _ o ?_;refine ax (.A,d,c.A f<|.A<|b.set a g) ?_ r;show(e9<|c.b f).bind _=_;rw[p];exact au ⟨by exact wu,by exact ES q⟩
def iJ{f:U}(h:f<b.length):dM (bq "setl" (.A 0) (.A f) .C) (a++[d]) b e a .C (b.set f d) e:=λi j k c l g=>by refine bi Z<|as Z<|bg Z<|bg Z<|SI (mV Z) Z Z (CR g) h ?_;rw[SA g];exact aU<|a3 (fV (lr Z) Z) Z
def mC:dM (bq "jump" d .C .C) a b e a d b e:=λf g h c i j=>
 bi Z (as Z<|as Z<|bg Z<|a3 Z Z)
def pv(a:V):Bool:=(hy a).getD !(h2 a).isSome
def tK(a:V):Prop:=a=.C\/(∃b,a=.G b)
def AM(g:tK d)(b:e 2=Y (.D<|a++[d])):ai f (.f<|.A (.C .IsNot (.F (.A 2)<|.g<|.B 1) .H)<|.A (.C .NotEq (.L .epilog<|.F (.A 2)<|.g<|.B 1)<|.J "False") .B) e c=Y (.G<|pv d,c):=by
 show gt _ _ _ _=_;rw[mm,eZ (mV b) Z Z];rcases g with rfl|⟨h,rfl⟩;.rfl
 .exact eZ (cS (mV b) Z) Z<|by cases h<;>rfl
def vl(g:tK d):dM (bq "jumpif" e .C .C) (a++[d]) b f a (if pv d then e else .C) b f:=λh i j c k l=>by
 refine bi Z<|as Z<|as Z<|as Z<|bg Z<|a' (AM g Z)<|a3 (fV (lr Z) ?_) Z;cases pv d;.exact(b6 Z).trans Z
 .exact(cw Z).trans Z
def pL(g:tK d):dM (bq "jumpunless" e .C .C) (a++[d]) b f a (if pv d then .C else e) b f:=λh i j c k l=>by
 refine bi Z<|as Z<|as Z<|as Z<|bg Z<|a' (AM g Z)<|a3 (fV (lr Z) ?_) Z;cases pv d;.exact(cw Z).trans Z
 .exact(b6 Z).trans Z
def PG:dM (bq "nomatch" .C .C .C) (a++[e]) b d a .C b {d with a:=aa "nothing"}:=λf g h c i j=>
 bi Z (as Z<|as Z<|as Z<|as Z<|as Z<|as Z<|bg Z<|kr Z Z Z<|a3 (fV (lr Z) Z) Z)
def PE(f:a.length<1000000):dM (bq "caught" .C .C .C) (a++[e]) b d (a++[aa "error"]) .C b d:=λg h i c j k=>
 bi Z (as Z<|as Z<|as Z<|as Z<|as Z<|as Z<|as Z<|bg Z<|as Z<|a3 (fV (bL (lr Z) Z<|gp f) Z) Z)
end
abbrev Hn:R V:=[aa "push",aa "text",aa "getc",aa "self",aa "getg",aa "getl"]
abbrev Ho:R V:=[aa "pop",aa "setcaught",aa "setl"]
abbrev Hp:R V:=[aa "jumpif",aa "jumpunless"]
abbrev Hq:R V:=[aa "caught",aa "again"]
def pV(a:an):Bool:= !dJ a Hn&& !dJ a Ho&& !aN (a=.A "jump")&& !dJ a Hp&& !aN (a=.A "list")&& !aN (a=.A "send")&& !aN (a=.A "nomatch")&& !dJ a Hq
section
variable{b a:R V}
def rz(a:c<=d):fK d (c:ah)=c:=by unfold fK;rw[ao<|VS];exact VU a
def v4(b:c<=a.length):fD a ab (Y (c:ah))=a.take c:=by show(a.drop 0).take (fK a.length (c:ah)-0)=_;rw[rz b];rfl
def v3(b:c<=a.length):fD a (Y (c:ah)) ab=a.drop c:=by show(a.drop<|fK a.length (c:ah)).take (a.length-fK a.length (c:ah))=_;rw[rz b,<-kz,YJ]
def C1(b:c<=a.length)(e:d<=a.length):fD a (Y (c:ah)) (Y (d:ah))=(a.drop c).take (d-c):=by show(a.drop<|fK a.length (c:ah)).take (fK a.length (d:ah)-fK a.length (c:ah))=_;rw[rz b,rz e]
def kk(n:pV (.A d)=Q)(q:b.length<1000000)(r:∀(o l:U)(k:af)(c:be)(m:R<|an×V),aR (o+3) .t_ [.B<|l+2,bq d e f g,h] (az l k c m)=Y (i,az l k c m)):
 dM (bq d e f g) (b++[h]) j c (b++[i]) .C j c:=λo l C k m D=>by
 unfold pV at n;simp only[ez,kx]at n;refine fj n λs t=>?_;obtain⟨⟨⟨⟨⟨⟨u,v⟩,w⟩,x⟩,y⟩,z⟩,A⟩:=s;haveI a:∀{p:aE}{k:af},p=M->Y (p,k)=Y (M,k):=λB=>by rw[B]
 exact bi Z<|as (a u)<|as (a v)<|as (a w)<|as (a x)<|as (a y)<|as (a z)<|as (a A)<|as (a t)<|a3 (fV (h1 (lr Z) (bM (a0 Z<|a0 Z<|a0 (mV Z) aQ)<|r o l _ c m) q) Z) Z
end
abbrev k4(a:aC):V:=.F [aa a,.C]
section
variable{c:be}{a b:R V}
def QD(c:U)(e:0<c)(d:b.length=c):fD (a++b) ab (Y<|-(c:ah))=a:=by
 haveI f:fK (a++b).length (-(c:ah))=a.length:=by unfold fK;rw[au<|VV e d,cs,d];exact VW e d
 show((a++b).drop 0).take (fK (a++b).length (-(c:ah))-0)=_;rw[f];simp
def AO(c:U)(e:0<c)(d:b.length=c):gz (a++b) (-(c:ah))=b[0]?:=by
 unfold gz;rw[ao<|EU e d,au<|by rw[cs];exact VX d];haveI:((-(c:ah))+((a++b).length:U)).toNat=a.length:=by rw[cs];exact VY d
 rw[this,oB<|aY _,Nat.sub_self]
def sq(c:U)(g:0<c)(h:b.length=c)(i:d 2=Y (.D<|a++b)):ai f (.e (.A 2) .H<|.g<|.B c) d e=Y (.D a,e):=hb (ac i) Z Z<|aF (λj=>Y<|V.D j)<|QD c g h
def uV(c:U)(h:0<c)(i:b.length=c)(j:d 2=Y (.D<|a++b))(k:b[0]?=Y e):ai g (.F (.A 2)<|.g<|.B c) d f=Y (e,f):=by show((d 2).map _).bind _=_;rw[j];show(eG _ (.D<|a++b)<|.A<|-(c:ah)).map _=_;rw[kh];rw[AO c h i,k];rfl
def qd(b:d 2=Y (.D<|a++[e,f])):ai h (.F (.A 2)<|.g<|.B 1) d g=Y (f,g):=mV (a:=a++[e])<|b.trans<|by simp
def So(b:hY d)(l:kQ e)(m:c.b.length<1000000)(n:a.length<1000000):aR (i+3) .B_ [.B<|f+2,bq "send" (aa "===") j k,.D<|a++[e,d]] (az f g c h)=Y (.D<|a++[.G<|!c.A&&g9 e d],az f g (c.B e d) h):=
 bi Z (as Z<|bg Z<|a3 (h1 (sq 2 (ae Z) Z Z) (bM (a0 Z<|a0 (uV 2 (ae Z) Z Z Z)<|a0 (qd Z) aQ)<|sN b l m) n) Z)
def A7(a:V):V:=match a with
 |.D (_::b)=>.D b
 |_=>.C
def Sp(m:(d="raise"\/d="===")->ky)(n:f=.C\/∃b,f=.D (aa "row"::b))(o:c.b.length<1000000)(p:a.length<1000000):
 aR (j+3) .B_ [.B<|e+2,bq "send" (aa d) (.A 1) k,.D<|a++[.D [aa "wrap",i],f]] (az e g c h)=Y (.D<|a++[if c.A then .C else i],az e g (c.C (aa d)<|A7 f) h):=by
 haveI q:dz (az e g c h) .Eq (aa d) (aa "raise")=Y false:=(h7 _ _).trans<|aF Y<|ct λl=>m<|.inl l;haveI r:dz (az e g c h) .Eq (aa d) (aa "===")=Y false:=(h7 _ _).trans<|aF Y<|ct λl=>m<|.inr l;refine bi Z<|as (aK Z Z q)<|as (aK Z Z r)<|bg Z<|a3 (h1 (sq 2 (ae Z) Z Z) (bM (a0 Z<|a0 (uV 2 (ae Z) Z Z Z)<|a0 Z<|a0 ?_ aQ)<|we o) p) Z;rcases n with rfl|⟨b,rfl⟩;.exact(cw<|aK (qd Z) Z Z).trans Z
 .refine(b6<|aK (qd Z) Z Z).trans<|hb (qd Z) Z Z ?_;exact aF (λs=>Y<|V.D s)<|sG _ _
def Sn(k:(d="raise"\/d="===")->ky)(l:c.b.length<1000000)(m:a.length<1000000):
 aR (i+3) .B_ [.B<|e+2,bq "send" (aa d) (.A 0) j,.D<|a++[.D [aa "wrap",h]]] (az e f c g)=Y (.D<|a++[if c.A then .C else h],az e f (c.C (aa d)<|aa "-") g):=by
 haveI n:dz (az e f c g) .Eq (aa d) (aa "raise")=Y false:=(h7 _ _).trans<|aF Y<|ct λb=>k<|.inl b;haveI o:dz (az e f c g) .Eq (aa d) (aa "===")=Y false:=(h7 _ _).trans<|aF Y<|ct λb=>k<|.inr b;exact bi Z<|as (aK Z Z n)<|as (aK Z Z o)<|as Z<|a3 (h1 (lr Z) (bM (a0 Z<|a0 (mV Z)<|a0 Z<|a0 Z aQ)<|we l) m) Z
def mB(a:aC):String:=if a="row"then"deconstruct must return Array"else"deconstruct_keys must return Hash"
def Sq(n:hX d)(o:a.length<1000000):
 aR (l+3) .B_ [.B<|f+2,bq "send" (aa "raise") i j,.D<|a++[g,h,aa<|mB d]] (az f e c k)=Y (.D<|a++[.C],az f e {c with a:=aa<|dE d} k):=by
 refine bi Z<|bg Z<|kr (i:=aa<|dE d) Z ?_ Z<|a3 (h1 (sq 3 (ae Z) Z Z) Z o) Z;haveI m:∀b e,ai b (.F (.A 2)<|.g<|.B 1) (bV .B_ [.B<|f+2,bq "send" (aa "raise") i j,.D<|a++[g,h,aa<|mB d]]) e=Y (aa<|mB d,e):=λb e=>mV (a:=a++[g,h]) (by show Y _=Y _;simp);rcases n with rfl|rfl;.exact(cw<|aK (hb (m _ _) Z Z Z) Z Z).trans Z
 .exact(b6<|aK (hb (m _ _) Z Z Z) Z Z).trans Z
def pM(m:∀(k b:U)(l:af)(j:R<|an×V),aR (k+3) .B_ [.B<|b+2,bq "send" d e f,.D a] (az b l c j)=Y (.D g,az b l h j)):dM (bq "send" d e f) a i c g .C i h:=λk b n l j o=>
 bi Z (as Z<|as Z<|as Z<|as Z<|as Z<|bg Z<|a3 (fV (bM Z<|m k b _ j) Z) Z)
def Bz(i:a.length+b.length<100000):dM (bq "list" (.A b.length) .C .C) (a++b) d c (a++[.D (aa "row"::b)]) .C d c:=λn o p g q r=>by
 haveI h:(((a++b).length:U):ah)-(b.length:ah)=(a.length:U):=by rw[cs];exact VZ
 haveI k:∀j e g,e 2=Y (.D<|a++b)->e 1=Y (bq "list" (.A b.length) .C .C)->ai j (.K .warn (.L .init<|.A 2)<|.D (.A 1) "a") e g=Y (.A (a.length:U),g):=λj e g l m=>
  bL (cS (ac l) Z) (i:=.A b.length) (by show((e 1).map _).bind _=_;rw[m];rfl) (aF (λf=>Y<|V.A f) h)
 refine bi Z<|as Z<|as Z<|as Z<|as Z<|bg Z<|a3 (fV (h1 (hb (ac Z) Z (k _ _ _ Z Z) ?_) (bL Z (hb (ac Z) (k _ _ _ Z Z) Z ?_)<|gp ?_)<|V0 h i) Z) Z
 .refine aF (λf=>Y<|V.D f) ((v4 ?_).trans ?_)
  .rw[cs];exact EV
  .simp
 .refine aF (λf=>Y<|V.D f) ((v3 ?_).trans ?_)
  .rw[cs];exact EV
  .simp
 .rw[ff];exact V1 h i
end
def hs(e:aC)(f g:V)(h i:V):Prop:=∀(j a:U)(b:af)(c:be)(d:R<|an×V),aR (j+3) .t_ [.B<|a+2,bq e f g .C,h] (az a b c d)=Y (i,az a b c d)
section
variable{c:aA}{a d:R V}{b:R<|aC×V}
def lh(a:aC):String:=if a="row"then"islist"else"istable"
def Pb(a:hX e)(b:hY f):hs (lh e) .C .C f<|.G<|aN<|cF f=e:=λc d g h i=>by
 rcases a with rfl|rfl
 all_goals exact bi Z<|bg Z<|a3 (eZ (bM Z<|lx b) Z<|h7 _ _) Z
def O9(a:hX e)(b:bA f):hs "respond" (aa<|dE e) .C f<|.G<|k5 f e:=λc d g h i=>
 bi Z (as Z<|bg Z<|a3 (bM Z<|zl b a) Z)
def O'{b:U}:hs "listfits" (.A b) (.G e) (.D (f::a))<|.G<|if e then aN<|a.length=b else aN<|b<=a.length:=λg h i j k=>by
 haveI c:h4 .warn (.A ((f::a).length:U)) (.A 1)=Y (.A (a.length:U)):=aF (λd=>Y<|V.A d) (by rw[dd];exact ot);refine bi Z<|as Z<|as Z<|bg Z<|a3 ?_ Z;cases e;.refine(b6 Z).trans<|eZ (bL (cS Z Z) Z c) Z ?_;exact aF Y<|i6.2<|V2
 .refine(cw Z).trans<|eZ (bL (cS Z Z) Z c) Z ?_;exact aF Y<|i6.2<|V3
def Ay(a:e<=f):dz g .GtE (.A f) (.A e)=Y true:=aF Y<|c0 a
def Ax(a:¬e<=f):dz g .GtE (.A f) (.A e)=Y false:=aF Y<|ct a
def O7{b:U}(c:a[b]?=Y e):hs "listat" (.A b) .C (.D (f::a)) e:=λd g h i j=>
 bi Z (as Z<|as Z<|as Z<|bg Z<|a3 ((cw<|aK Z Z<|Ay<|wu).trans<|by show(eG _ (.D (f::a))<|.A<|(b:ah)+1).map _=_;rw[kh];show(a[b]?).map _=_;rw[c];rfl) Z)
def O8(a:0<e)(b:d.length=e)(c:d[0]?=Y f):hs "listat" (.A<|-(e:ah)) .C (.D<|g++d) f:=λh i j k l=>
 bi Z (as Z<|as Z<|as Z<|bg Z<|a3 ((b6<|aK Z Z<|Ax<|EU a b).trans<|by show(eG _ (.D<|g++d)<|.A<|-(e:ah)).map _=_;rw[kh];rw[AO e a b,c];rfl) Z)
def Pd(b:e+f<=a.length)(d:a.length<100000):hs "listpart" (.A e) (.A f) (.D (g::a))<|.D (aa "row"::(a.drop e).take (a.length-f-e)):=λi j k l m=>by
 haveI h:h4 .warn (.A ((g::a).length:U)) (.A f)=Y (.A<|(a.length+1-f:U)):=aF (λc=>Y<|V.A c) (by rw[dd];exact V4 b);refine bi Z<|as Z<|as Z<|as Z<|as Z<|bg Z<|a3 (bL Z (hb (ac Z) (bL Z Z<|aF (λc=>Y<|V.A c)<|V5) (bL (cS Z Z) Z h) ?_)<|gp ?_) Z
 .refine aF (λc=>Y<|V.D c) ((C1 ?_ ?_).trans ?_)
  .rw[dd];exact(aj Z:N [_,_,_] (.A (1+X)<|S+1) [.A (X+O) S]) b
  .rw[dd];exact V6 b
  .rw[show 1+e=e+1 by exact(aI (.B (.A 1)<|.A 1) Z:N [_] (.C (1+X)<|X+1) []),FD,show a.length+1-f-(e+1)=a.length-f-e by exact V7 b]
 .rw[ff,m5];exact V8 b d
def Os(b:aC)(a:R<|aC×V):dz e .In (aa b) (.D<|cK a)=Y ((a.map (·.1)).contains b):=by show(if gL (cK a)then Y<|dJ (.A b)<|cK a else ab:aD aE).or _=_;rw[au (r9 b a).1,(r9 b a).2];rfl
def sM(b:c e=Y (.D (g::a))):ai h (.e (.A e) (.B 1) .H) c f=Y (.D a,f):=
 hb (ac b) Z Z (aF (λd=>Y<|V.D d)<|sG _ _)
def Pa:hs "tablehas" (aa e) .C (.D (f::b.map bs))<|.G<|(b.map (·.1)).contains e:=λa c d g h=>
 bi Z (as Z<|as Z<|as Z<|as Z<|as Z<|bg Z<|a3 (eZ Z (r4 (el Z)<|sM Z)<|Os _ _) Z)
def CA(d:c 2=Y (.D (h::b.map bs)))(j:ai f (.D (.A 1) "a") c e=Y (.D<|cK g,e))(i:∀a,ai f (.D (.A 1) "a") (c.A 5<|bs a) e=Y (.D<|cK g,e)):
 ai f (.d M (.A 5) (.A 5) (.A<|.e (.A 2) (.B 1) .H)<|.A (.C .NotIn (.F (.A 5)<|.B 0)<|.D (.A 1) "a") .B) c e=Y (.D<|(fn b g).map bs,e):=
 k7 (fU<|sM d) (mg b λa k=>cW (c.A 5<|bs a) Z (py<|aK Z (i a)<|BV _ _) λk=>ac Z)
def Pc:hs "tableonly" (.D<|cK e) .C (.D (f::b.map bs))<|.G (fn b e).isEmpty:=λa c d g h=>
 bi Z (as Z<|as Z<|as Z<|as Z<|as Z<|as Z<|as Z<|a' (CA Z Z λi=>Z)<|a3 ((cw Z).trans<|eZ (ac Z) Z<|by cases fn b e<;>rfl) Z)
def Pe(a:b.length<100000):hs "tablerest" (.D<|cK e) .C (.D (f::b.map bs))<|.D (aa "card"::(fn b e).map bs):=λc d g h i=>
 bi Z (as Z<|as Z<|as Z<|as Z<|as Z<|as Z<|as Z<|a' (CA Z Z λj=>Z)<|a3 ((b6 Z).trans<|bL Z (ac Z)<|gp (by haveI:(fn b e).length<=b.length:=FK _ _;rw[bC,ff];exact(aj Z:N [_,_] (.A (1+X) 1000000) [.B S 100000,.A X S]) a this)) Z)
end
section
variable{b:V}{a:R<|aC×V}
abbrev pI(a:aC×V):an×V:=(.A a.1,a.2)
def Qh(a:R<|aC×V):oa (a.map bs)=Y (a.map pI):=by
 induction a with
 |nil=>rfl
 |cons c a b=>
  show(oa<|a.map bs).map _=_;rw[b];rfl
def Ld(a:d∉c.map (·.1)):cp d b c=c++[(d,b)]:=by
 induction c with
 |nil=>rfl
 |cons e c f=>
  rw[cl,bj,qY]at a;show(if e.1=d then _ else e::cp d b c)=_;rw[ao λg=>a.1 g.symm,f a.2];rfl
def NI(a:R<|an×V):∀{d:R<|an×V},(a.map (·.1)).Nodup->(∀c∈a,c.1∉d.map (·.1))->a.foldl (λh c=>cp c.1 c.2 h) d=d++a:=by
 induction a with
 |nil=>exact λk k=>(hP _).symm
 |cons c a i=>
  intro d e f;rw[cl,fg]at e;rw[m1,Ld<|f c bP,i e.2 ?_,f2];.rfl
  .intro j g b;rw[hR,ge]at b;refine b1 b (λb=>?_) λb=>?_
   .exact f j (cx _ g) b
   .rw[List.map_singleton,cm]at b;exact e.1<|b▸tj g
def O3(c:aC)(a:R<|aC×V):bn (.A c) (a.map pI)=((a.filter λb=>aN<|b.1=c).head?).map (·.2):=by
 induction a with
 |nil=>rfl
 |cons e a f=>
  rw[w9];show(if an.A e.1=an.A c then Y e.2 else bn (.A c)<|a.map pI)=_;by_cases d:e.1=c;.rw[au<|aF _ d,au<|c0 d];rfl
  .rw[ao λg=>d<|an.A.inj g,ao<|by rw[ct d];exact ae Z,f]
def PY(b:(a.map (·.1)).Nodup):((a.map pI).map (·.1)).Nodup:=by
 induction a with
 |nil=>exact iW
 |cons g a d=>
  rw[cl,fg]at b;refine fg.2 ⟨λc=>b.1 ?_,d b.2⟩;rw[hm,d4]at c;obtain⟨h,e,f⟩:=c;exact an.A.inj f▸tj e
def Pf(f:(a.map (·.1)).Nodup)(g:a.length<=1000)(h:(a.filter λb=>aN<|b.1=c)=d::e):hs "tableat" (aa c) .C (.D (b::a.map bs)) d.2:=λj k l m n=>
 bi Z (as Z (as Z (as Z (as Z (as Z (as Z (bg Z (a3 (by
  show(ai _ (.L .ext3<|.e (.A 2) (.B 1) .H) _ _).bind _=_;rw[cS (sM Z)<|by show(if(a.map bs).length<=1000 then(oa<|a.map bs).map _ else ab)=_;rw[au<|by rw[bC];exact g,Qh];refine aF (λi=>Y<|V.J i)<|(NI _ (PY f) λo o=>ep).trans Z]
  show((if bG (.A c)then ab else bn (.A c) (a.map pI):aD V).or _).map _=_;rw[ao<|show¬bG (.A c)=Q from dy,O3,h];rfl) Z))))))))
end
structure lU where
 b:U
 d:U
 c:U
 a:U
abbrev jp(b:V)(a:lU):V:=.L .G [("sort",b),("first",.A a.b),("last",.A a.d),("target",.A a.c),("depth",.A a.a)]
abbrev g6(b c:R V)(d:R<|V×lU)(e:V):V:=.L .L [("kind",aa "program"),("name",aa "program"),("params",.C),("slots",.D b),("rows",.D c),("catches",.D<|d.map λa=>jp a.1 a.2),("children",e),("starts",.D [.A 0]),("number",.C)]
structure it where
 c:R V
 d:R V
 a:U
 b:be
def mv(b c:U)(d:af)(e:R<|an×V)(a:it):af:=az b (d.A c<|.A a.d) a.b e
structure np(i:V)(j k:U)(h:it)(g:aA):Prop where
 a:g 0=Y i
 d:g 1=Y (.B<|j+2)
 e:g 3=Y (.D h.c)
 c:g 4=Y (.B k)
 b:g 5=Y (.A h.a)
 f:g 6=Y .C
def mH:cu:=match eP 1 (bp .K_).b with
 |.A (.G _ _ a) _=>a
 |_=>.B
def ud(d:V)(e f:it):Prop:=∀(j a b:U)(g:af)(h:R<|an×V)(i:aA),a+2<b->np d a b e i->ak (aw (al<|j+4) mH i<|mv a b g h e) λc=>c.1=.A/\np d a b f c.2.1/\c.2.2=mv a b g h f
section
variable{c:af}{i:bR}{b:aA}{g f:R V}{d:U}{j h:V}{e:R<|V×lU}{a:it}
def CC(a:b 0=Y (g6 g f e h))(k:b 5=Y (.A d))(l:f[d]?=Y j):ai i (.F (.D (.A 0) "rows")<|.A 5) b c=Y (j,c):=by show((((b 0).map _).bind _).bind _)=_;rw[a];show((b 5).map _).bind _=_;rw[k];show(eG _ (.D f)<|.A d).map _=_;rw[kh];show(f[d]?).map _=_;rw[l];rfl
def ka(e:R<|V×lU)(d:U):R<|V×lU:=e.filter λa=>aN ((a.2.b:ah)<=d)&&aN ((d:ah)<a.2.d)
def K2(j:b 0=Y (g6 g f e h))(k:b 5=Y (.A d)):
 ai i (.d M (.A 10) (.A 10) (.A<|.D (.A 0) "catches")<|.A (.t .LtE .Lt (.D (.A 10) "first") (.A 5)<|.D (.A 10) "last") .B) b c=Y (.D<|(ka e d).map λa=>jp a.1 a.2,c):=by
 refine k7 (fU ?_)<|mg e λa m=>cW (b.A 10<|jp a.1 a.2) Z (py ?_) λm=>ac Z;.show((b 0).map _).bind _=_;rw[j];rfl
 .show(((ai i (.D (.A 10) "first") (b.A 10<|jp a.1 a.2) c).bind _).bind _)=_;show((((b 5).map _).bind _).bind _)=_;rw[k];show((if aN ((a.2.b:ah)<=d)then _ else _:aD<|V×af).bind _)=_;refine c2 (aN<|(a.2.b:ah)<=d) (λl=>?_) λl=>?_
  .rfl
  .rfl
def wj(d:np m k l a b)(z:m=g6 g f e h)(A:k+2<l)(B:f[a.a]?=Y (bq n s t u))(C:n≠"leave")(D:dM (bq n s t u) a.c a.d a.b v o w x)(E:o=.C/\p=a.a+1\/o=.A p)
 (j:∀i,i 0=Y m->i 1=Y (.B<|k+2)->i 3=Y (.D v)->i 4=Y (.B l)->i 5=Y (.A p)->i 6=Y .C->i 11=Y (.D<|(ka e a.a).map λa=>jp a.1 a.2)->ak (aw (al<|q+4) (eP 5 mH) i<|az k (c.A l<|.A w) x r) y):
 ak (aw (al<|q+4) mH b<|mv k l c r a) y:=by
 subst z;refine a' (CC d.a d.b B)<|as (aK Z Z<|(h7 _ _).trans<|aF Y<|ct C)<|eL (bM (a0 (ac d.d)<|a0 (ac Z)<|a0 (ac d.e)<|a0 (ac d.c) aQ)<|D q k l c r A) Z<|a' (K2 d.a d.b)<|a' ?_<|j _ d.a d.d Z d.c Z d.f Z;clear j;rcases E with⟨rfl,rfl⟩|rfl
 .refine(cw Z).trans<|bL (ac d.b) Z<|aF (λF=>Y<|V.A F) ?_;exact V'
 .exact(b6 Z).trans Z
end
section
variable{b:be}{c d:R V}{a:it}
def wi(p:h[a.a]?=Y (bq e i j k))(q:e≠"leave")(r:dM (bq e i j k) a.c a.d a.b c f l b)(s:f=.C/\g=a.a+1\/f=.A g)(t:b.a=.C):
 ud (g6 m h n o) a ⟨c,l,g,b⟩:=λB C D E F G u v=>
 wj v Z u p q r s λH w d x y z A I=>
  as (aK (eH d Z) Z<|by rw[t];rfl) (aU<|aL Z ⟨w,d,x,y,z,A⟩ Z)
def TH(B:i[a.a]?=Y (bq g j k l))(C:g≠"leave")(D:dM (bq g j k l) a.c a.d a.b c h f b)(E:h=.C/\m=a.a+1\/h=.A m)(F:b.a≠.C)(G:ka n a.a=e::o)(y:e.2.a<=c.length)(H:c.length<100000):
 ud (g6 p i n q) a ⟨c.take e.2.a++[b.a],f,e.2.c,⟨b.b,b.d,.C,b.c⟩⟩:=λI s t u v g_ J K=>
 wj K Z J B C D E λz L d a_ b_ h_ c_ w=>by
  rw[G]at w;haveI A:∀r x,rN (az s (u.A t<|.A f) b v) (jp e.1 e.2) r=Y x->ai (al<|I+4) (.D (.F (.A 11)<|.B 0) r) z (az s (u.A t<|.A f) b v)=Y (x,az s (u.A t<|.A f) b v):=λr x d_=>by show(((z 11).map _).bind _).bind _=_;rw[w];show(rN _ (jp e.1 e.2) r).map _=_;rw[d_];rfl
  refine bg (aK (eH d Z) Z ?_)<|as (aK (ac w) Z Z)<|eL (fV (h1 (hb (ac a_) Z (A "depth" _ Z)<|aF (λe_=>Y<|V.D e_)<|v4 y) (eH d Z) ?_)<|A "target" (.A e.2.c) Z) Z<|kr d Z Z<|aU<|aU<|aL Z ⟨L,d,Z,b_,Z,c_⟩ Z;.show Y (!bH b.a)=_;cases f_:b.a<;>first|rfl|exact a2 f_ F
  .rw[m5];exact Wa H y
def b5(c:V):U->it->it->Prop
 |0,a,b=>a=b
 |e+1,a,b=>∃d,ud c a d/\b5 c e d b
def b5.B(b:b5 f e a g)(d:b5 f h g i):b5 f (e+h) a i:=by
 induction e generalizing a with
 |zero=>obtain rfl:=b;rw[dG];exact d
 |succ e j=>
  refine a8 b λk c=>?_;rw[Nat.succ_add];exact ax k c.1<|j c.2
def Qy(t:f+2<g)(m:U):∀{a:it}{b:aA}{d:R V},b5 h m a i->m<=d.length->np h f g a b->(∀q,np h f g i q->ak (dx (λb e=>aw (al<|j+4) mH b e) (.A 7) (d.drop m) q<|mv f g e k i) l)->
 ak (dx (λb e=>aw (al<|j+4) mH b e) (.A 7) d b<|mv f g e k a) l:=by
 induction m with
 |zero=>intro a b d n _ c o;obtain rfl:=n;exact o _ c
 |succ m u=>
  intro a b d n r c o;refine a8 n λw s=>?_;cases d with
  |nil=>exact a2 r<|Nat.not_succ_le_zero _
  |cons v d=>
   refine eS Z<|(s.1 j f g e k (b.A 7 v) t ⟨c.a,c.d,c.e,c.c,c.b,c.f⟩).A λx p=>am p.1 ?_;rw[p.2.2];exact u s.2 (YT r) p.2.1 o
def o2(f:V)(a:it)(j:V)(k:R V)(b:be):Prop:=∀(l d e:U)(g:af)(h:R<|an×V)(i:aA),d+2<e->np f d e a i->ak (aw (al<|l+4) mH i<|mv d e g h a) λc=>c.1=.D/\c.2.1 0=Y f/\c.2.1 1=Y (.B<|d+2)/\c.2.1 4=Y (.B e)/\c.2.1 6=Y j/\c.2.2=az d (g.A e<|.A k) b h
def Db(c:f[a.a]?=Y (bq "leave" h i j))(d:a.c=g++[e]):o2 (g6 k f l m) a e a.d a.b:=λo p q r s n t b=>by refine a' (CC b.a b.b c)<|bg (aK Z Z Z)<|a' ?_<|gd<|ax _ Z ⟨Z,b.a,b.d,b.c,Z,Z⟩;show(((n 3).map _).bind _)=_;rw[b.e,d];show(eG _ (.D<|g++[e])<|.A<|-1).map _=_;rw[kh];rw[Dw];rfl
def Tc(q:g[a.a]?=Y (bq e h i j))(r:e≠"leave")(s:dM (bq e h i j) a.c a.d a.b c f k b)(t:f=.C/\l=a.a+1\/f=.A l)(u:b.a≠.C)(v:ka m a.a=[]):
 o2 (g6 n g m o) a .C k b:=λC D E F G H w x=>
 wj x Z w q r s t λI y d J z K A p=>by rw[v]at p;refine bg (aK (eH d Z) Z ?_)<|bg (aK (ac p) Z Z)<|gd<|ax _ Z ⟨Z,y,d,z,A,Z⟩;cases B:b.a<;>first|rfl|exact a2 B u
end
def cf:an->aE
 |.B _=>Q
 |_=>M
def jD:R an:=.A "kept"::.A "it"::.A "over"::.A "w"::.A "x"::.A "y"::.A "z"::(dF 50).map λa=>.D<|a+1
def gI(a:an):Prop:=bG a=M/\∃b:aC,(∀c,eG c (.E a) (.A 0)=Y (aa b))/\aN (b="%")=cf a/\(cf a=Q\/a∈jD)
def dU(a:R<|an×V)(b:an):V:=(bn b a).getD .C
def og(b:R V)(c:R<|an×V)(a:U×an):R<|an×V:=if cf a.2||bH ((b[a.1]?).getD .C)then c else cp a.2 ((b[a.1]?).getD .C) c
def pr(a:R an)(b:R V)(c:R<|an×V):R<|an×V:=((dF a.length).zip a).foldl (og b) c
abbrev vr(a:U×an):V:=.F [.A a.1,.E a.2]
abbrev Ll:cu:=.A (.C (.f<|.A (.C .NotEq (.F (.A 13)<|.B 0)<|.J "%")<|.A (.C .IsNot (.F (.A 4)<|.A 12) .H) .B) (.A (.H (.F (.A 1)<|.J "names") (.A 13)<|.F (.A 4)<|.A 12) .B) .B) .B
section
variable{d:af}{a:R<|an×V}{c:R V}{b:U}
def Lc(d:an)(f:V)(a:R<|an×V):∀e,e∈(cp d f a).map (·.1)<->e=d\/e∈a.map (·.1):=by
 intro e
 induction a with
 |nil=>exact⟨λc=>.inl<|cm.1 c,λc=>c.elim (λg=>cm.2 g) λc=>bW c⟩
 |cons b a h=>
  show e∈(if b.1=d then(b.1,f)::a else b::cp d f a).map (·.1)<->_;by_cases c:b.1=d;.rw[au c];simp[c]
  .rw[ao c,cl,bj,h,cl,bj];exact or_left_comm
def zU(c:an)(d:V):∀{a:R<|an×V},(a.map (·.1)).Nodup->((cp c d a).map (·.1)).Nodup:=by
 intro a
 induction a with
 |nil=>intro _;exact fg.2 ⟨ep,iW⟩
 |cons b a i=>
  intro g;have h:=fg.1 g;show((if b.1=c then(b.1,d)::a else b::cp c d a).map (·.1)).Nodup;by_cases e:b.1=c;.rw[au e];exact g
  .rw[ao e];refine fg.2 ⟨λj=>?_,i h.2⟩;refine b1 ((Lc c d a _).1 j) (λf=>?_) λf=>?_
   .exact e f
   .exact h.1 f
def zT(d:an)(e:V):∀{a:R<|an×V}{b:an×V},b∈cp d e a->b=(d,e)\/b∈a:=by
 intro a
 induction a with
 |nil=>intro b c;exact .inl<|cm.1 c
 |cons f a h=>
  intro b c;change b∈(if f.1=d then(f.1,e)::a else f::cp d e a)at c;by_cases g:f.1=d
  .rw[au g]at c;rcases bj.1 c with c|c
   .exact .inl<|by rw[c,g]
   .exact .inr<|cx _ c
  .rw[ao g]at c;rcases bj.1 c with c|c
   .exact .inr<|c▸bP
   .rcases h c with c|c
    .exact .inl c
    .exact .inr<|cx _ c
def pR[Fw e]:∀{a d:R e},a.Nodup->(∀b∈a,b∈d)->a.length<=d.length:=by
 intro a
 induction a with
 |nil=>intro _ _ _;exact c8 _
 |cons b m i=>
  intro d c f;have c:=fg.1 c;haveI k:=i c.2 λg h=>(List.mem_erase_of_ne λj:g=b=>c.1<|by rw[<-j];exact h).2<|f g<|cx _ h;haveI l:=List.length_erase_of_mem<|f b bP;rw[dd];exact VA k l<|List.length_pos_of_mem<|f b bP
def gm(a:R<|an×V):Prop:=(a.map (·.1)).Nodup/\∀b∈a,b.1∈jD
def gK(b:R an):Prop:=∀a∈b,cf a=Q\/a∈jD
def gm.A(c:gm a):a.length<=57:=by
 haveI:=pR c.1 λf d=>by obtain⟨b,e,rfl⟩:=d4.1 d;exact c.2 b e
 rwa [bC]at this
def gm.B(d:gm a)(g:e∈jD):gm<|cp e f a:=am (zU e f d.1) λb c=>by
 rcases zT e f c with rfl|c;.exact g
 .exact d.2 b c
def Ln(t:f+2<e)(j:R<|U×an):∀{a:R<|an×V}{i:aA},(∀b∈j,gI b.2/\b.1<c.length)->gm a->i 1=Y (.B<|f+2)->i 4=Y (.B e)->
 ak (dx (λi d=>aw h Ll i d) (.B [12,13]) (j.map vr) i<|az f (d.A e<|.A c) g a) λn=>n.1=.A/\n.2.1 6=i 6/\n.2.2=az f (d.A e<|.A c) g (j.foldl (og c) a):=by
 induction j with
 |nil=>intro a i _ _ _ _;exact dZ _ Z Z Z Z
 |cons b j l=>
  intro a i r o p q;refine jz (r b bP) λu v=>?_;obtain⟨w,x,y,z,A⟩:=u;haveI l:=λ{a i}=>l (a:=a) (i:=i) λb B=>r b<|cx _ B;haveI C:c[b.1]?=Y ((c[b.1]?).getD .C):=by rw[hQ v];rfl
  have s:∀a,ai h (.F (.A 4)<|.A 12) ((i.A 12<|.A b.1).A 13<|.E b.2) (az f (d.A e<|.A c) g a)=Y ((c[b.1]?).getD .C,az f (d.A e<|.A c) g a):=λa=>by show((i 4).map _).bind _=_;rw[q];show(eG (az f (d.A e<|.A c) g a) (.B e)<|.A b.1).map _=_;rw[AP t C];rfl
  haveI D:ai h (.F (.A 13)<|.B 0) ((i.A 12<|.A b.1).A 13<|.E b.2) (az f (d.A e<|.A c) g a)=Y (aa x,az f (d.A e<|.A c) g a):=by show(eG _ (.E b.2)<|.A 0).map _=_;rw[y];rfl
  have m:bz h (.f<|.A (.C .NotEq (.F (.A 13)<|.B 0)<|.J "%")<|.A (.C .IsNot (.F (.A 4)<|.A 12) .H) .B) ((i.A 12<|.A b.1).A 13<|.E b.2) (az f (d.A e<|.A c) g a)=Y (!cf b.2&& !bH ((c[b.1]?).getD .C),az f (d.A e<|.A c) g a):=by refine fw (cJ (aK D Z<|(n2 Z Z).trans<|aF Y<|aF not ?_) λG=>(cJ (aK (s a) Z Z) λG=>ml).trans<|by rw[wZ]);rw[<-z];exact i6.2 ⟨an.A.inj,aF _⟩
  refine eS Z ?_;rw[m1];unfold og;refine c2 (cf b.2||bH ((c[b.1]?).getD .C)) (λk=>?_) λk=>?_
  .rw[<-XT,k]at m;haveI F:=A.resolve_left λE=>by rw[E]at k;exact e4 k
   exact bg m<|sE (eH p Z) Z (s a) (f3 o.A<|ae Z) w<|aU<|aU<|am Z<|l (o.B F) p q
  .rw[<-XT,k]at m;exact as m<|aU<|am Z<|l o p q
end
section
variable{a d:af}{c:R V}{b:R an}
def KZ(b:ei f g e a=Y (h,a))(c:ek (λe a=>ai f i e a) (λe a=>d' f j e a) k h e a=Y (l,d)):ai f (.d Q i k g j) e a=Y (.B d.a,d.B<|.A l):=by show(ei f g e a).bind _=_;rw[b];show(ek (λe a=>ai f i e a) (λe a=>d' f j e a) k h e a).map _=_;rw[c];rfl
def Sw(b:e+2<a.a):(az e a f g).B (.A h)=az e ((⟨a.a+1,a.b⟩:af).A a.a<|.A h) f g:=by
 refine fT Z λd=>?_;unfold af.B af.A az;dsimp only;by_cases c:d=a.a;.subst c;rw[au Z,ao<|s2 b,ao<|wz b,ao<|wA b,au Z]
 .rw[ao c,ao c]
def N3(b:g 1=Y (.B<|e+2))(c:g 2=Y (.E i))(d:bG i=M):ai j (.h (.F (.A 1)<|.J "names") .call<|.A (.A 2) .B) g (az e a h f)=Y (dU f i,az e a h f):=by show(ai j (.F (.A 1)<|.J "names") g<|az e a h f).bind _=_;rw[eH b Z];show(if(fx<|(az e a h f).b<|e+1).isSome=Q then((((g 2).map _).bind _).bind _)else ab)=_;rw[mM,c,au<|show(fx<|cn.D f).isSome=Q from Z];exact JI mM d
def XH(b:R an):∀(a:R U),eJ (a.map λc:U=>V.A c) (b.map .E)=(a.zip b).map vr:=by
 induction b with
 |nil=>intro a;cases a<;>rfl
 |cons c b d=>
  intro a;cases a with
  |nil=>rfl
  |cons e a=>exact aF (_::·)<|d a
def Qx(x:∀d∈b,gI d)(B:b5 (g6 (b.map .E) i j k) g ⟨[],b.map<|dU e,0,l⟩ n)(y:g<2500)(r:o2 (g6 (b.map .E) i j k) n o c m)(C:b.length<=c.length)(s:gm e)(q:f+2<a.a):
 aR (h+5) .K_ [g6 (b.map .E) i j k,.B<|f+2] (az f a l e)=Y (o,az f ((⟨a.a+1,a.b⟩:af).A a.a<|.A c) m<|pr b c e):=by
 refine bi Z<|v7<|ax (.F [.D [],.B a.a,.A 0,.C],az f ((⟨a.a+1,a.b⟩:af).A a.a<|.A<|b.map<|dU e) l e) ?_ ?_;.refine cB<|a0 Z<|av ((KZ (fU Z) ?_).trans<|by rw[Sw q];rfl) Z;haveI z:=mg (e:=az f a l e) (h:=bV .K_ [g6 (b.map .E) i j k,.B<|f+2]) (f:=.A 2) (j:=λt a=>ai (al<|h+4) (.h (.F (.A 1)<|.J "names") .call<|.A (.A 2) .B) t a) (c:=λt a=>d' (al<|h+4) .B t a) b λd s=>cW _ Z Z λx_=>N3 Z Z (x d s).1;rw[Yn.2 λx_ x_=>Z]at z;exact z
 .refine ax _ Z (ey (f:=(dF 2500).map λd:U=>V.A d) Z<|Qy q g B ?_ ⟨Z,Z,Z,Z,Z,Z⟩ λA p=>?_)
  .rw[bC,jK];exact(aj Z:N [_] (.A X 2500) [.B X 2500]) y
  .haveI D:((dF 2500).map λd:U=>V.A d).drop g=.A ((g:U):ah)::(((dF 2500).map λd:U=>V.A d).drop<|g+1):=by
    rw[te<|by rw[bC,jK];exact y]
    congr 1
    simp
   rw[D];obtain⟨⟨E,u,a_⟩,F,rfl,G,H,I,J,rfl⟩:=r h f a.a ⟨a.a+1,a.b⟩ e (A.A 7<|.A ((g:U):ah)) q ⟨p.a,p.d,p.e,p.c,p.b,p.f⟩;refine ax (.A,u,az f ((⟨a.a+1,a.b⟩:af).A a.a<|.A c) m e) ?_ ?_;.show(aw (al<|h+4) mH (A.A 7<|.A ((g:U):ah))<|mv f a.a ⟨a.a+1,a.b⟩ e n).bind _=_;rw[F];rfl
   .refine ey (f:=((dF b.length).zip b).map vr) ?_ ((Ln (d:=⟨a.a+1,a.b⟩) (c:=c) (g:=m) (a:=e) q _ ?_ ?_ H I).A λK p=>?_)
    .show(((((u 0).map _).bind _).bind _)=_);rw[show u 0=_ from G];show Y (eJ _ _,_)=_;rw[<-XH,bC]
    .intro b_ r;refine fj (xb r) λv w=>?_;exact am (x _ w)<|eA (oD.1 v) C
    .exact s
    .obtain⟨E,c_,d_⟩:=K;obtain⟨v,w,L⟩:=p;subst v L;exact a3 (e:=o) (f:=_) (ac<|w.trans J) Z
end
def ca(a:V):Prop:=cM a=Q/\cA a<=3000/\cT a<=10
def cQ(b:R an)(c:R V)(e:R<|an×V):Prop:=c.length=b.length/\∀(d:U)(a:an),b[d]?=Y a->cf a=M->c[d]?=Y (dU e a)
def er(c:R an)(d:U)(e f:R V):Prop:=∀(a:U)(b:an),a<d->c[a]?=Y b->cf b=Q->f[a]?=e[a]?
def iu(b:R an):Prop:=∀(c d:U)(a:an),b[c]?=Y a->b[d]?=Y a->cf a=M->c=d
def lX(a:an):Prop:=a≠.A "kept"/\a≠.A "it"
def lV(a:V):Prop:=cM a=Q/\cA a<=500/\cT a<=5
structure b9(m:R an)(n:U)(j:be)(h:R<|an×V):Prop where
 a:j.b.length<=n
 e:∀k∈j.b,cM k=Q/\cA k<=9000/\cT k<=20
 f:(h.map (·.1)).Nodup
 b:∀i∈h,i.1∈m/\cf i.1=M/\ca i.2/\i.2≠.C
 c:bn (.A "kept") h=Y (.A 1)
 d:∃l,bn (.A "it") h=Y l/\bA l
 g:lV j.a
structure de where
 a:R an
 b:R V
 c:R<|V×lU
 d:V
abbrev de.A(a:de):V:=g6 (a.a.map .E) a.b a.c a.d
def g0(c:de)(d n:U)(e o:R V)(p:be)(q:R V)(r:be):Prop:=
 x7 λ(f a:U)(g h:R V)(i:be)(b:aC)(j k l:V)(m:R V)=>d+f<=a/\a<n/\b5 c.A f ⟨e,o,d,p⟩ ⟨g,h,a,i⟩/\c.b[a]?=Y (bq b j k l)/\b≠"leave"/\dM (bq b j k l) g h i (e++m) .C q r/\m.length<=10
def cV(f:de)(b c g:U)(d h:R V)(i:be)(e:aE)(j:R V)(a:be):Prop:=
 (a.a=.C/\∃k,b5 f.A k ⟨d,h,b,i⟩ ⟨d,j,if e then c else g,a⟩/\b+k<=if e then c else g)\/(a.a≠.C/\e=M/\g0 f b c d h i j a)
def ft(a:de)(m:U)(n:V)(j o p q r s:U):Prop:=∀(b:V)(k c:R V)(d:be)(e:R<|an×V)(f:U),bA b->ca b->k.length<=1000->cQ a.a c e->c[o]?=Y b->d.a=.C->b9 a.a f d e->f+j<=100000->
 cy λl g h i=>cz m n b d e l g h/\cQ a.a i h/\er a.a p c i/\b9 a.a (f+j) g h/\cV a q r s k c d l i g
def aW(c:R V)(d:U)(e:R V):Prop:=∀(a:U)(b:V),e[a]?=Y b->c[d+a]?=Y b
section
variable{c:be}{a:R<|an×V}{b:R V}
def nZ(d b:an)(f:V)(a:R<|an×V):bn b (cp d f a)=if d=b then Y f else bn b a:=by
 induction a with
 |nil=>rfl
 |cons e a i=>
  show bn b (if e.1=d then(e.1,f)::a else e::cp d f a)=if d=b then Y f else(if e.1=b then Y e.2 else bn b a)
  by_cases g:e.1=d
  .rw[au g];show(if e.1=b then Y f else bn b a)=_;by_cases c:d=b
   .rw[au<|g.trans c,au c]
   .rw[ao λh=>c<|g▸h,ao c,ao λh=>c<|g▸h]
  .rw[ao g];show(if e.1=b then Y e.2 else bn b<|cp d f a)=_;rw[i];by_cases c:d=b
   .rw[ao λh=>g<|h.trans c.symm,au c,au c]
   .rw[ao c,ao c]
def cQ.C(n:iu e)(h:cQ e b a)(i:e[f]?=Y d)(o:cf d=M):cQ e (b.set f g)<|cp d g a:=by
 refine am (by rw[qD];exact h.1) λj k c p=>?_;unfold dU;rw[nZ,oC];haveI m:f<e.length:=(fe.1 i).1;by_cases l:f=j
 .subst l;haveI:d=k:=by rw[i]at c;exact cZ c
  rw[<-h.1]at m;rw[au Z,au this,au m];rfl
 .rw[ao l,ao λq:d=k=>l<|n f j d i (by rw[q];exact c) o];exact h.2 j k c p
def cQ.B(h:cQ d b a)(m:d[e]?=Y f)(i:cf f=Q):cQ d (b.set e g) a:=by
 refine am (by rw[qD];exact h.1) λj n c k=>?_;rw[oC];by_cases l:e=j;.subst l;rw[m]at c;rw[cZ c,k]at i;exact bx i
 .rw[ao l];exact h.2 j n c k
def er.C:er d e b b:=λa a a a a=>Z
def er.A(k:er d e b f)(l:er d e f g):er d e b g:=λa c h i j=>(l a c h i j).trans<|k a c h i j
def er.B(a:er d e b f)(c:g<=e):er d g b f:=λh i j k l=>a h i (eA j c) k l
def er.E(j:e[d]?=Y f)(a:cf f=M):er e g b<|b.set d h:=λk m n c l=>by
 rw[oC];by_cases i:d=k;.subst i;rw[j]at c;rw[cZ c,l]at a;exact e4 a
 .rw[ao i]
def er.D(a:d<=e):er f d b<|b.set e g:=λh i c j j=>by rw[oC,ao<|EW c a]
def b9.C(b:b9 j k c a)(f:h∈j)(g:cf h=M)(l:ca i)(m:i≠.C)(e:lX h):b9 j k c<|cp h i a:=
 ⟨b.a,b.e,zU h i b.f,λn d=>by
  rcases zT h i d with rfl|d;.exact db f g l m
  .exact b.b n d,by rw[nZ,ao e.1];exact b.c,by rw[nZ,ao e.2];exact b.d,b.g⟩
def b9.D(f:gK h)(d:b9 h i c a):gm a:=am d.f λe g=>by
 haveI:=d.b e g;refine b1 (f e.1 this.1) (λb=>?_) λb=>?_;.rw[this.2.1]at b;exact bx b
 .exact b
def b9.B(b:gK h)(d:b9 h i c a):a.length<1000:=f3 (d.D b).A<|ae Z
def b9.G(b:b9 h i c a)(d:V)(f:cM d=Q/\cA d<=9000/\cT d<=20):b9 h (i+1) (c.E d) a:=by
 refine⟨?_,λg e=>?_,b.f,b.b,b.c,b.d,?_⟩;.show(c.b++[d]).length<=_;rw[cs];exact jM b.a
 .refine b1 (ge.1 e) (λe=>?_) λe=>?_
  .exact b.e g e
  .exact cm.1 e▸f
 .show lV<|if c.A then aa "accident"else c.a;split
  .exact aL Z (aX Z)<|aX Z
  .exact b.g
def b9.A(b:b9 h i c a)(d:i<=j):b9 h j c a:=⟨br b.a d,b.e,b.f,b.b,b.c,b.d,b.g⟩
end
section
variable{x:U}{w:af}{d o:be}{l:R<|an×V}{c r a:V}{g f p q:R V}{v b s m j e t h:U}{k n:aC}{u:V}{i:de}
def b5.C(e:i.b[b]?=Y (bq n c r a))(h:n≠"leave")(j:dM (bq n c r a) g f d p u q o)(k:u=.C/\s=b+1\/u=.A s)(l:o.a=.C):b5 i.A 1 ⟨g,f,b,d⟩ ⟨p,q,s,o⟩:=
 (ax _ (wi e h j k l) Z)
def b5.A(e:i.b[b]?=Y (bq n c r a))(h:n≠"leave")(j:dM (bq n c r a) g f d p .C q o)(k:o.a=.C)(l:b5 i.A m ⟨p,q,b+1,o⟩ y):b5 i.A (m+1) ⟨g,f,b,d⟩ y:=
 (ax _ (wi e h j (.inl<|am Z Z) k) l)
def b5.D(e:i.b[b]?=Y (bq n c r a))(h:n≠"leave")(j:dM (bq n c r a) g f d p (.A s) q o)(k:o.a=.C)(l:b5 i.A m ⟨p,q,s,o⟩ y):b5 i.A (m+1) ⟨g,f,b,d⟩ y:=
 (ax _ (wi e h j (.inr Z) k) l)
def aW.G(e:aW i.b b z)(h:U)(a:z[h]?=Y y):i.b[b+h]?=Y y:=e h y a
abbrev pg(e h:U):R V:=[bq "getl" (.A 0) (.A e) .C,bq "setl" (.A 0) (.A h) .C]
def JA(c:aW i.b b<|pg e h)(k:g.length<=1000)(l:f[e]?=Y a)(n:h<f.length)(j:d.a=.C)(o:b5 i.A m ⟨g,f.set h a,b+2,d⟩ y):b5 i.A (m+2) ⟨g,f,b,d⟩ y:=
 .A (c 0 _ Z) (ae Z) (fc l<|dq k) j (.A (c 1 _ Z) (ae Z) (iJ n) j o)
def cQ.A(e:cQ y f l)(a:y[h]?=Y z):h<f.length:=e.1▸(fe.1 a).1
def CF(q:iu i.a)(r:gK i.a)(s:aW i.b b<|pg e h)(c:i.a[h]?=Y y)(k:cf y=M)(u:bG y=M)(v:lX y):ft i 1 (gQ y) 0 e t b (b+2) j:=λa g f d l m w x z o A n p C=>by haveI B:l.length<1000:=p.B r;refine⟨Q,d,cp y a l,f.set h a,sx n B u,o.C q c k,.E c k,p.C (lF c) k x ?_ v,.inl ⟨n,2,JA s z A (o.A c) n Z,aY _⟩⟩;rintro rfl;cases w
def Uk(b:ca c)(d:ca a):cM (.D [aa "takes",c,a])=Q/\cA (.D [aa "takes",c,a])<=9000/\cT (.D [aa "takes",c,a])<=20:=by
 refine aL ?_ ?_ ?_;.show(Q&&(cM c&&(cM a&&Q)))=Q;rw[b.1,d.1];rfl
 .show(10*"takes".length+2)+2+(cA c+2+(cA a+2+0))+3<=9000;exact(aI (.C [1,10,0,1,1]) Z:N [_,_,_] (.A ((.A 10 O)+2+2+(X+2+(S+2+0))+3) 9000) [.A X 3000,.A S 3000,.C O 5]) b.2.1 d.2.1 Z
 .show bI 0 (bI (cT c)<|bI (cT a) 0)+1<=20;exact Vu b.2.2 d.2.2
abbrev lz(e j:U):R V:=[bq "getl" (.A 0) (.A e) .C,bq "send" (aa "===") (.A 1)<|k4 "call",bq "jumpunless" (.A j) .C .C]
def Ds(m:aW i.b b<|lz e j)(r:bA a)(y:ca a)(p:g.length<=1000)(s:f[e]?=Y a)(k:d.a=.C)(t:kQ c)(u:d.b.length<1000000):
 ((d.B c a).a=.C/\b5 i.A 3 ⟨g++[c],f,b,d⟩ ⟨g,f,if !d.A&&g9 c a then b+3 else j,d.B c a⟩)\/
 ((d.B c a).a≠.C/\(!d.A&&g9 c a)=M/\b5 i.A 1 ⟨g++[c],f,b,d⟩ ⟨g++[c,a],f,b+1,d⟩/\dM (bq "send" (aa "===") (.A 1)<|k4 "call") (g++[c,a]) f d (g++[.G M]) .C f (d.B c a)):=by
 haveI q:dM (bq "getl" (.A 0) (.A e) .C) (g++[c]) f d (g++[c,a]) .C f d:=by haveI:=fc (d:=d) s (a:=g++[c]) (by rw[cs,ff];exact EX p);rwa [f2]at this
 haveI n:dM (bq "send" (aa "===") (.A 1)<|k4 "call") (g++[c,a]) f d (g++[.G<|!d.A&&g9 c a]) .C f<|d.B c a:=pM λv x w l=>So r.C t u<|dq p;haveI o:(d.B c a).a=if d.A then aa "accident"else d.a:=Z
 refine c2 d.A (λh=>?_) λh=>?_
 .rw[h]at n;refine .inl (am (by rw[o,h];exact k)<|.A (m 0 _ Z) (ae Z) q k<|.A (m 1 _ Z) (ae Z) n (by rw[o,h];exact k)<|.C (m 2 _ Z) (ae Z) (pL<|.inr<|a1 _ Z) ?_<|by rw[o,h];exact k);cases g9 c a
  .exact .inr Z
  .exact .inl<|am Z Z
 .rw[h]at n;exact .inr<|db (by rw[o,h];exact λe=>V.noConfusion e) Z (.C (m 0 _ Z) (ae Z) q (.inl<|am Z Z) k) n
def b9.E(e:b9 y m d l)(b:ca c)(f:ca a):b9 y (m+1) (d.B c a) l:=e.G _<|Uk b f
def vT(s:n≠"leave")(u:i.b[b]?=Y (bq n y z A))(v:aW i.b (b+1)<|lz e j)(E:b+4<=j)
 (F:∀(f:R V)(d:be)(l:R<|an×V)(m:U),cQ i.a f l->b9 i.a m d l->∃c,kQ c/\ca c/\(∀g:R V,g.length<=1000->dM (bq n y z A) g f d (g++[c]) .C f d)/\
  ∀a,d.a=.C->d.b.length<1000000->hY a->cz 3 B a d l (!d.A&&g9 c a) (d.B c a) l):ft i 3 B 1 e t b (b+4) j:=λa g f d l m w x o C G k p H=>by
 refine a8 (F f d l m C p) λc h=>?_;have D:d.b.length<1000000:=f3 p.a<|(aj Z:N [_] (.B X 1000000) [.A (X+1) 100000]) H;refine⟨_,_,l,f,h.2.2.2 a k D w.C,C,.C,p.E h.2.1 x,?_⟩;rcases Ds v w x o G k h.1 D with⟨q,r⟩|⟨q,r,I,J⟩
 .refine .inl ⟨q,4,.A u s (h.2.2.1 g o) k r,?_⟩;split
  .exact aY _
  .exact E
 .refine .inr ⟨q,r,2,b+2,g++[c,a],f,d,_,_,_,_,[.G M],aY _,by exact EY,.A u s (h.2.2.1 g o) k I,v 1 _ Z,ae Z,J,aX Z⟩
def uR(e:h<=100):ca<|.A h:=aL Z (by show(h:ah).natAbs+2<=3000;exact Wb e)<|c8 _
def AF(e:k.length<=100):ca<|aa k:=aL Z (by show 10*k.length+2<=3000;exact(aI (.C [1,10]) Z:N [_] (.A ((.A 10 X)+2) 3000) [.A X 100]) e)<|c8 _
def RA(h:i.b[b]?=Y (bq "getc" (aa k) .C .C))(n:aW i.b (b+1)<|lz e j)(o:b+4<=j)(c:k≠"StandardError")(p:k.length<=100):ft i 3 (.F [aa "kind",aa k]) 1 e t b (b+4) j:=
 vT (ae Z) h n o λf d l m u u=>dZ (aa k) (.inl<|ax k Z c) (AF p) (λg e=>gx (.inr<|.inr Z)<|dq e) λa q r s=>Cw (.inl Z) q r s<|.inl<|ax k Z c
def RB(c:i.b[b]?=Y (bq "push" (.A h) .C .C))(k:aW i.b (b+1)<|lz e j)(n:b+4<=j)(o:h<=100):ft i 3 (.F [aa "number",.A h]) 1 e t b (b+4) j:=
 vT (ae Z) c k n λf d l m s s=>dZ (.A h) (.inr<|a1 _ Z) (uR o) (λg e=>gx (.inl Z)<|dq e) λa p q r=>Cw (.inr Z) p q r<|.inr<|a1 _ Z
def Rz(k:i.a[h]?=Y (.A "kept"))(n:i.b[b]?=Y (bq "getl" (.A 0) (.A h) .C))(o:aW i.b (b+1)<|lz e j)(p:b+4<=j):ft i 3 (.F [aa "kept"]) 1 e t b (b+4) j:=
 vT (ae Z) n o p λf d l m q c=>dZ (.A 1) (.inr<|a1 _ Z) (uR<|aX Z) (λg e=>fc ((q.2 h _ k Z).trans<|by unfold dU;rw[c.c];rfl)<|dq e) λa r s u=>Ra r s u (.inr<|a1 _ Z) c.c
end
section
variable{d j n:be}{v y t:R<|an×V}{u f:V}{g i m p z:R V}{s c e k h a r a_ x b_:U}{o:aE}{w q:V}{l:an}{b:de}
def g0.B(h:b5 b.A e ⟨g,i,c,d⟩ ⟨g,p,D,n⟩)(l:c+e<=D)(o:g0 b D k g p n m j):g0 b c k g i d m j:=by obtain⟨q,r,s,t,v,w,u,x,f,y,a⟩:=o;exact⟨e+q,r,s,t,v,w,u,x,f,y,db (by exact(aj Z:N [_,_,_,_,_] (.A (X+(S+O)) ag) [.A (X+S) aB,.A (aB+O) ag]) l a.1) a.2.1 (h.B a.2.2.1) a.2.2.2⟩
def g0.A(e:g0 b c k g i d m j)(h:k<=D):g0 b c D g i d m j:=by obtain⟨l,n,o,p,q,r,u,s,f,t,a⟩:=e;exact⟨l,n,o,p,q,r,u,s,f,t,aL a.1 (eA a.2.1 h) a.2.2⟩
def cV.A(r:cV b c C h g i d Q p n)(s:n.a=.C)(t:cV b C k h g p n o m j):cV b c k h g i d o m j:=by
 rcases r with⟨_,e,q,f⟩|⟨a,_⟩
 .rcases t with⟨l,u,v,w⟩|⟨l,x,y⟩
  .exact .inl ⟨l,e+u,q.B v,by simp only[oT]at f;exact(aj Z:N [_,_,_,_,_] (.A (X+(S+O)) ag) [.A (aB+O) ag,.A (X+S) aB]) w f⟩
  .exact .inr ⟨l,x,y.B q f⟩
 .exact a2 s a
def cV.B(f:cV b c C h g i d M m j)(l:C<=k):cV b c k h g i d M m j:=by
 rcases f with⟨a,e,n,o⟩|⟨a,p,q⟩;.exact .inl ⟨a,e,n,o⟩
 .exact .inr ⟨a,p,q.A l⟩
def Ry(q:1<=s)(e_:ft b s w x a r c e<|e+1)(f_:b.b[e]?=Y (bq "jump" (.A k) .C .C))(g_:ft b s (.F (u::z)) b_ a a_ (e+1) k h)(h_:r<=a_)(i_:a<r)(j_:∃l,b.a[a]?=Y l/\cf l=Q)(F:e+1<=k):
 ft b (s+1) (.F [aa "either",.D [w,.F (u::z)]]) (x+b_) a r c k h:=λf g i d v k_ G H I l_ J D m_ K=>by
 refine cy.A (e_ f g i d v k_ G H I l_ J D m_<|EZ K) λo n t p A=>?_;rcases A.2.2.2.2 with⟨B,L,c_,E⟩|⟨B,rfl,n_⟩
 .cases o
  .refine a8 j_ λl d_=>?_;refine cy.A (g_ f g p n t _ G H I A.2.1 ((A.2.2.1 a l i_ d_.1 d_.2).trans J) B A.2.2.2.1<|E0 K) λo j y m C=>?_;refine⟨o,j,y,m,bB (Cu D A.1 C.1) C.2.1 (A.2.2.1.A<|C.2.2.1.B h_) (C.2.2.2.1.A<|(aj Z:N [_,_,_] (.A (X+S+O)<|X+(S+O)) [])) ?_⟩;exact cV.A (.inl<|am B ⟨L,c_,E⟩) B C.2.2.2.2
  .exact⟨Q,n,t,p,bB (Q' D A.1) A.2.1 A.2.2.1 (A.2.2.2.1.A<|wB)<|.inl<|am B ⟨L+1,c_.B<|.C f_ (ae Z) mC (.inr Z) B,by simp only[oT]at E⊢;exact(aj Z:N [_,_,_,_] (.A (X+(S+1)) O) [.A (ag+1) O,.A (X+S) ag]) F E⟩⟩
 .exact⟨M,n,t,p,bB (Cu D A.1<|(Cv B).A q) A.2.1 A.2.2.1 (A.2.2.2.1.A<|wB)<|.inr<|aL B Z<|n_.A<|wC F⟩
def Rv(I:iu b.a)(J:gK b.a)(q:1<=s)(K:ft b s w x a r c e h)(L:aW b.b e<|pg a A)(a_:b.a[A]?=Y l)(b_:cf l=M)(c_:bG l=M)(d_:lX l)(e_:a<r)(f_:∃l,b.a[a]?=Y l/\cf l=Q)(o_:e+2<=h):
 ft b (s+1) (.F [aa "behind",w,.E l]) x a r c (e+2) h:=λf g i d v g_ C D E h_ F B i_ G=>by
 refine cy.A (K f g i d v g_ C D E h_ F B i_ G) λo n t p k=>?_;cases o;.exact⟨M,n,t,p,bB (Q4 B k.1) k.2.1 k.2.2.1 k.2.2.2.1<|k.2.2.2.2.B<|VJ⟩
 .rcases k.2.2.2.2 with⟨z,j_,k_,l_⟩|⟨z,m_,_⟩
  .refine a8 f_ λn_ H=>?_;obtain⟨o,j,y,m,u⟩:=CF I J L a_ b_ c_ d_ f g p n t _ C D E k.2.1 ((k.2.2.1 a n_ e_ H.1 H.2).trans F) z k.2.2.2.1<|(aj Z:N [_,_] (.A (X+S+0) 100000) [.A (X+S) 100000]) G;exact⟨o,j,y,m,bB (Q5 B k.1<|u.1.A q) u.2.1 (k.2.2.1.A u.2.2.1) u.2.2.2.1<|cV.A (.inl<|am z ⟨j_,k_,l_⟩) z u.2.2.2.2⟩
  .exact e4 m_
def q3(b:de)(q:V)(a c e h:U):Prop:=(q=.C/\e=c)\/∃d,q=aa d/\d≠"StandardError"/\d.length<=100/\b.b[c]?=Y (bq "getc" (aa d) .C .C)/\aW b.b (c+1) (lz a h)/\e=c+4
def AI(x:q3 b q a c A h)(y:A<=h)(z:bA f)(r:ca f)(l:g.length<=1000)(C:i[a]?=Y f)(k:d.a=.C)(m:b9 B e d v)(D:e<=100000):
 bE λo j=>g1 q f d o j/\b9 B (e+1) j v/\cV b c A h g i d o i j:=by
 rcases x with⟨rfl,rfl⟩|⟨s,rfl,t,E,u,w,rfl⟩;.exact⟨Q,d,.inl ⟨Z,Z,Z⟩,m.A<|eU _,.inl ⟨k,0,Z,aY _⟩⟩
 .have F:d.b.length<1000000:=f3 m.a<|E1 D;refine⟨_,_,.inr ⟨λa=>V.noConfusion a,.inl ⟨s,Z,t⟩,Z,Z⟩,m.E (AF E) r,?_⟩;rcases Ds w z r l C k (.inl ⟨s,Z,t⟩) F with⟨n,p⟩|⟨n,p,G,H⟩
  .refine .inl ⟨n,4,.A u (ae Z) (gx (.inr<|.inr Z)<|dq l) k p,?_⟩;split
   .exact aY _
   .exact y
  .exact .inr ⟨n,p,2,c+2,_,i,d,_,_,_,_,[.G M],aY _,by exact EY,.A u (ae Z) (gx (.inr<|.inr Z)<|dq l) k G,w 1 _ Z,ae Z,H,aX Z⟩
end
abbrev dS(a:aC):V:=bq a .C .C .C
abbrev bZ(a:aC)(b:V):V:=bq a b .C .C
abbrev b'(a:aC)(b:U):V:=bq a (.A 0) (.A b) .C
abbrev rj(b:aC)(a c d e:U):R V:=[b' "getl" a,b' "setl" c,b' "getl" a,dS<|lh b,bZ "jumpif"<|.A d,b' "getl" a,bZ "respond"<|aa<|dE b,bZ "jumpunless"<|.A e,b' "getl" a]
abbrev rk(a:aC)(b c d:U):R V:=[bq "send" (aa<|dE a) (.A d)<|k4 "self",b' "setl" b,b' "getl" b,dS<|lh a,bZ "jumpif"<|.A c,dS "self",bZ "getc"<|aa "TypeError",bZ "text"<|aa<|mB a,bq "send" (aa "raise") (.A 2)<|k4 "self",dS "pop"]
section
variable{a_:U}{z:af}{b o:be}{r:R<|an×V}{h d s:V}{e f q v:R V}{y g t n i w c l j u:U}{a p:aC}{k:V}{x:an}{m:de}
def N6(i:ca<|.D [aa "wrap",h]):ca h:=by
 refine gS i λa b c=>?_;refine aL ?_ ?_ ?_;.change(Q&&(cM h&&Q))=Q at a;rwa [XY,wZ]at a
 .change(10*"wrap".length+2)+2+(cA h+2+0)+3<=3000 at b;exact E2 b
 .change bI 0 (bI (cT h) 0)+1<=10 at c;exact E3 c
def AY(b:hX a):lh a≠"leave":=by rcases b with rfl|rfl<;>exact ae Z
def By(c:hX a)(d:hY s)(g:e.length<1000000):dM (dS<|lh a) (e++[s]) f b (e++[.G<|aN<|cF s=a]) .C f b:=
 kk (by rcases c with rfl|rfl<;>rfl) g (Pb c d)
def kg(a:c<f.length):(f.set c s)[c]?=Y s:=by rw[oC,au Z,au a]
def B2(F:hX a)(C:aW m.b g<|rj a i c l n)(D:aW m.b (g+9+j)<|rk a c l u)(G:l=g+19+j)(y_:l<=n)
 (z_:∀(e f:R V)(b:be),e.length<=1001->b.a=.C->b5 m.A j ⟨e,f,g+9,b⟩ ⟨e++v,f,g+9+j,b⟩)
 (A_:∀(e:R V)(h:V)(f:R V)(b:be),e.length<=1000->b.b.length<1000000->dM (bq "send" (aa<|dE a) (.A u)<|k4 "self") (e++[.D [aa "wrap",h]]++v) f b (e++[if b.A then .C else h]) .C f (b.C (aa<|dE a) k))
 (B_:cM (.D [aa "tells",aa<|dE a,k])=Q/\cA (.D [aa "tells",aa<|dE a,k])<=9000/\cT (.D [aa "tells",aa<|dE a,k])<=20)
 (b_:m.a[c]?=Y x)(l_:cf x=Q)(m_:w<=c)(c_:bA d)(t_:ca d)(B:e.length<=1000)(d_:cQ m.a f r)(n_:f[i]?=Y d)(C_:i<c)(s:b.a=.C)(e_:b9 m.a t b r)(D_:t<=100000):
 ∃q,b9 m.a (t+1) (e3 b d a k).2 r/\cQ m.a q r/\er m.a w f q/\
  ((∃h,(e3 b d a k).1=qc h/\bA h/\ca h/\cF h=a/\q[c]?=Y h/\(e3 b d a k).2.a=.C/\cV m g l n e f b Q q (e3 b d a k).2)\/((e3 b d a k).1=.C/\cV m g l n e f b M q (e3 b d a k).2)):=by
 haveI E_:b.b.length<1000000:=f3 e_.a<|E1 D_;have H:c<f.length:=d_.A b_;have o_:(f.set c d)[i]?=Y d:=by rw[oC,ao<|(a5 101 Z:N [_,_] (.D<|.C X S) [.B S X]) C_];exact n_
 have p_:=d_.B (g:=d) b_ l_;have q_:er m.a w f<|f.set c d:=.D m_;have f_:b5 m.A 4 ⟨e,f,g,b⟩ ⟨e++[.G<|aN<|cF d=a],f.set c d,g+4,b⟩:=
  .A (C 0 _ Z) (ae Z) (fc n_<|dq B) s (.A (C 1 _ Z) (ae Z) (iJ H) s<|.A (C 2 _ Z) (ae Z) (fc o_<|dq B) s<|.C (C 3 _ Z) (AY F) (By F c_.C<|dq B) (.inl<|am Z Z) s)
 haveI I:=vl (e:=.A l) (a:=e) (b:=f.set c d) (f:=b) (d:=.G<|aN<|cF d=a)<|.inr<|a1 _ Z;unfold e3;clear n_;by_cases J:cF d=a;.rw[au J];rw[c0 J]at f_ I;exact dZ _ (e_.A<|eU _) p_ q_<|.inl<|At d Z c_ t_ J (kg H) s<|.inl<|am s ⟨5,f_.B<|.C (C 4 _ Z) (ae Z) I (.inr Z) s,by simp only[oT];exact(a5 101 Z:N [_,_,_] (.A (X+5) S) [.C S<|X+19+O]) G⟩
 .rw[ao J];rw[ct J]at f_ I;have g_:b5 m.A 7 ⟨e,f,g,b⟩ ⟨e++[.G<|k5 d a],f.set c d,g+7,b⟩:=
   f_.B (.A (C 4 _ Z) (ae Z) I s<|.A (C 5 _ Z) (ae Z) (fc o_<|dq B) s<|.C (C 6 _ Z) (ae Z) (kk Z (dq B)<|O9 F c_) (.inl<|am Z Z) s)
  haveI h_:=pL (e:=.A n) (a:=e) (b:=f.set c d) (f:=b) (d:=.G<|k5 d a)<|.inr<|a1 _ Z;clear I;refine c2 (k5 d a) (λi_=>?_) λi_=>?_;.rw[i_]at g_ h_;exact dZ _ (e_.A<|eU _) p_ q_<|.inr<|am Z<|.inl<|am s ⟨8,g_.B<|.C (C 7 _ Z) (ae Z) h_ (.inr Z) s,by show g+8<=n;exact(a5 1011 Z:N [_,_,_,_] (.A (X+8) S) [.C O<|X+19+ag,.A O S]) G y_⟩
  .rw[i_]at g_ h_;rw[au Z];refine gS (zm i_ c_) λu_ r_ F_=>?_;generalize mw d=p at u_ r_ F_;subst u_;have v_:b5 m.A (9+j) ⟨e,f,g,b⟩ ⟨e++[.D [aa "wrap",p]]++v,f.set c<|.D [aa "wrap",p],g+9+j,b⟩:=
    b5.B (e:=9) (g_.B<|.A (C 7 _ Z) (ae Z) h_ s<|.C (C 8 _ Z) (ae Z) (fc o_<|by exact dq B) (.inl<|am Z Z) s) (z_ _ _ _ (by rw[cs,ff];exact(aj Z:N [_] (.A (X+1) 1001) [.A X 1000]) B) s)
   haveI K:=A_ e p (f.set c<|.D [aa "wrap",p]) b B E_;have E:b9 m.a (t+1) (b.C (aa<|dE a) k) r:=e_.G _ B_;have A:(b.C (aa<|dE a) k).a=if b.A then aa "accident"else .C:=by rw[<-s];rfl
   generalize b.C (aa<|dE a) k=o at K E A;refine c2 b.A (λs_=>?_) λs_=>?_
   .rw[s_]at K A;haveI G_:ca p:=N6 t_;haveI H_:c<(f.set c<|.D [aa "wrap",p]).length:=by rw[qD];exact H
    have j_:b5 m.A (9+j+4) ⟨e,f,g,b⟩ ⟨e++[.G<|aN<|cF p=a],f.set c p,g+9+j+4,o⟩:=by refine v_.B<|.A (D 0 _ Z) (ae Z) K A<|.A (D 1 _ Z) (ae Z) (iJ H_) A ?_;rw[List.set_set];exact .A (D 2 _ Z) (ae Z) (fc (kg H)<|by exact dq B) A<|.C (D 3 _ Z) (AY F) (By F r_.C<|by exact dq B) (.inl<|am Z Z) A
    haveI k_:=vl (e:=.A l) (a:=e) (b:=f.set c p) (f:=o) (d:=.G<|aN<|cF p=a)<|.inr<|a1 _ Z;by_cases L:cF p=a;.rw[au L];rw[c0 L]at j_ k_;exact dZ (f.set c p) E (d_.B b_ l_) (.D m_)<|.inl<|At p Z r_ G_ L (kg H) A<|.inl<|am A ⟨9+j+4+1,j_.B<|.C (D 4 _ Z) (ae Z) k_ (.inr Z) A,by simp only[oT];exact(a5 101 Z:N [_,_,_] (.A (X+(9+S+4+1)) O) [.C O<|X+19+S]) G⟩
    .rw[ao L];rw[ct L]at j_ k_;refine dZ (f.set c p) ⟨E.a,E.e,E.f,E.b,E.c,E.d,by show lV<|aa<|dE a;rcases F with rfl|rfl<;>exact aL Z (aX Z)<|aX Z⟩ (d_.B b_ l_) (.D m_)<|.inr<|am Z<|.inr<|aL (λi=>V.noConfusion i) Z ⟨9+j+4+4,g+9+j+8,e++[aa "me",aa "TypeError",aa<|mB a],f.set c p,o,"send",aa "raise",.A 2,k4 "self",[.C],by exact(aj Z:N [_,_] (.A (X+(9+S+4+4))<|X+9+S+8) []),by exact(a5 101 Z:N [_,_,_] (.B (X+9+S+8) O) [.C O<|X+19+S]) G,?_,D 8 _ Z,ae Z,pM λy a_ z r=>Sq F<|by exact dq B,aX Z⟩;haveI I_:=PH (a:=e) (b:=f.set c p) (d:=o) (by exact dq B);haveI J_:=gx (d:="getc") (e:=aa "TypeError") (a:=e++[aa "me"]) (b:=f.set c p) (f:=o) (.inr<|.inr Z) (by rw[cs,ff];exact EX B);haveI K_:=gx (d:="text") (e:=aa<|mB a) (a:=e++[aa "me"]++[aa "TypeError"]) (b:=f.set c p) (f:=o) (.inr<|.inl Z) (by rw[cs,cs,ff,ff];exact(aj Z:N [_] (.B (X+1+1) 1000000) [.A X 1000]) B);haveI w_:=b5.A (i:=m) (D 4 _ Z) (ae Z) k_ A<|.A (D 5 _ Z) (ae Z) I_ A<|.A (D 6 _ Z) (ae Z) J_ A<|.C (D 7 _ Z) (ae Z) K_ (.inl<|am Z Z) A;rw[f2,f2]at w_;exact j_.B w_
   .rw[s_]at K A;rw[au Z];exact dZ _ E p_ q_<|.inr<|am Z<|.inr<|aL (by rw[A];exact λi=>V.noConfusion i) Z ⟨9+j,g+9+j,_,_,b,_,_,_,_,[.C],by exact(aj Z:N [_,_] (.A (X+(9+S))<|X+9+S) []),by exact(a5 101 Z:N [_,_,_] (.B (X+9+S) O) [.C O<|X+19+S]) G,v_,D 0 _ Z,ae Z,K,aX Z⟩
end
abbrev no:=V×aC×V
def jS(c:de)(h i j:U):R no->U->U->U->U->Prop
 |[],k,l,a,d=>a=d
 |f::p,k,l,a,d=>gG λb m g n o e=>aW c.b a [b' "getl" i,bZ f.2.1 f.2.2,b' "setl" b]/\c.a[b]?=Y m/\cf m=Q/\k<=b/\b<g/\ft c h f.1 n b g (a+3) e j/\jS c h i j p g o e d/\n+o<=l/\e<=d/\a+3<=e
section
variable{a:be}{c:R V}{b:de}
def gk.A{j k:R<|V×V}:∀{a:be}{c:R<|an×V},gk d j a c Q e f->gk d k e f g h i->gk d (j++k) a c g h i:=by
 induction j with
 |nil=>rintro a c ⟨_,rfl,rfl⟩ b;exact b
 |cons q r l=>
  intro a c b m;rcases b with⟨b,_⟩|⟨n,o,b,p⟩;.exact e4 b
  .exact .inr ⟨n,o,b,l p m⟩
def gk.B{g h:R<|V×V}:∀{a:be}{c:R<|an×V},gk d g a c M e f->gk d (g++h) a c M e f:=by
 induction g with
 |nil=>rintro a c ⟨b,_⟩;exact bx b
 |cons m n i=>
  intro a c b;rcases b with⟨_,b⟩|⟨j,k,b,l⟩;.exact .inl ⟨Z,b⟩
  .exact .inr ⟨j,k,b,i l⟩
def Cb(h_:∃B,b.a[d]?=Y B/\cf B=Q)(u:R<|no×V):∀{s v m:U}{k:R V}{a:be}{r:R<|an×V}{t:U},jS b h d e (u.map (·.1)) s v m f->(∀j∈u,pV (.A j.1.2.1)=Q/\j.1.2.1≠"leave"/\hs j.1.2.1 j.1.2.2 .C g j.2/\bA j.2/\ca j.2)->d<s->f<=e->
 c.length<=1000->cQ b.a k r->k[d]?=Y g->a.a=.C->b9 b.a t a r->t+v<=100000->
 cy λn o w p=>gk h (u.map λj=>(j.1.1,j.2)) a r n o w/\cQ b.a p w/\er b.a s k p/\b9 b.a (t+v) o w/\cV b m f e c k a n p o:=by
 induction u with
 |nil=>
  intro s v m k a r t C _ _ _ _ z _ q D _;obtain rfl:m=f:=C;exact⟨Q,a,r,k,bB (aL Z Z Z) z (.C) (D.A<|cU _ _)<|.inl<|am q ⟨0,Z,aY _⟩⟩
 |cons j u i_=>
  intro s v m k a r t C J E j_ A z K q D L;refine gG.A C λF B p_ q_ r_ a_ i=>?_;haveI x:=J j bP;have b_:=z.A i.2.1;haveI k_:b5 b.A 3 ⟨c,k,m,a⟩ ⟨c,k.set F j.2,m+3,a⟩:=
   .A (i.1 0 _ Z) (ae Z) (fc K<|dq A) q (.A (i.1 1 _ Z) x.2.1 (kk x.1 (dq A) x.2.2.1) q<|.C (i.1 2 _ Z) (ae Z) (iJ b_) (.inl<|am Z Z) q)
  refine cy.A (i.2.2.2.2.2.1 j.2 c (k.set F j.2) a r t x.2.2.2.1 x.2.2.2.2 A (z.B i.2.1 i.2.2.1) (kg b_) q D<|E4 L i.2.2.2.2.2.2.2.1) λn G c_ H l=>?_;have d_:er b.a s k H:=er.A (.D i.2.2.2.1)<|l.2.2.1.B<|qm i.2.2.2.2.1 i.2.2.2.1;have e_:∀{n:aE}{p:R V}{o:be},cV b (m+3) a_ e c (k.set F j.2) a n p o->cV b m a_ e c k a n p o:=λl_=>cV.A (.inl<|am q ⟨3,k_,aY _⟩) q l_;cases n;.exact⟨M,G,c_,H,bB (.inl<|am Z l.1) l.2.1 d_ (l.2.2.2.1.A<|E5 i.2.2.2.2.2.2.2.1)<|(e_ l.2.2.2.2).B i.2.2.2.2.2.2.2.2.1⟩
  .have f_:G.a=.C:=by
    rcases l.2.2.2.2 with⟨I,_⟩|⟨_,I,_⟩;.exact I
    .exact e4 I
   refine a8 h_ λm_ g_=>?_;haveI n_:H[d]?=Y g:=(l.2.2.1 d m_ (E7 E i.2.2.2.2.1 i.2.2.2.1) g_.1 g_.2).trans (by rw[oC,ao<|EW E i.2.2.2.1];exact K);refine cy.A (i_ i.2.2.2.2.2.2.1 (λj o_=>J j<|cx _ o_) (E7 E i.2.2.2.2.1 i.2.2.2.1) j_ A l.2.1 n_ f_ l.2.2.2.1<|E8 L i.2.2.2.2.2.2.2.1) λn o w p y=>?_;exact⟨n,o,w,p,bB (.inr ⟨G,c_,am l.1 y.1⟩) y.2.1 (d_.A<|y.2.2.1.B<|qm i.2.2.2.2.1 i.2.2.2.1) (y.2.2.2.1.A<|E9 i.2.2.2.2.2.2.2.1)<|cV.A (e_ l.2.2.2.2) f_ y.2.2.2.2⟩
end
def sv:U->R V->R no
 |_,[]=>[]
 |a,b::c=>(b,"listat",.A a)::sv (a+1) c
def sr:R V->R no
 |[]=>[]
 |b::a=>(b,"listat",.A<|-((a.length+1:U):ah))::sr a
def BA:V->aE
 |.E a=> !aN (a=.A "")
 |_=>M
def tN(c:de)(g:U)(d:V)(h i b e:U):Prop:=(BA d=M/\e=b)\/bE λa f=>d=.E a/\a≠.A ""/\lX a/\cf a=M/\c.a[f]?=Y a/\aW c.b b [b' "getl" g,bq "listpart" (.A h) (.A i) .C,b' "setl" f]/\e=b+3
section
variable{a c e d:R V}{b:U}
def Ub:∀{a:R V},f∈a->(dQ a=Q->cM f=Q)/\cA f<=dK a/\cT f<=eu a:=by
 intro a
 induction a with
 |nil=>intro b;exact bW b
 |cons c d h=>
  intro b;haveI i:dQ (c::d)=(cM c&&dQ d):=Z;haveI j:dK (c::d)=cA c+2+dK d:=Z;haveI g:eu (c::d)=bI (cT c) (eu d):=Z;rw[i,j,g,ez];clear g;rcases bj.1 b with rfl|b
  .exact aL (λb=>b.1) (by exact(aj Z:N [_,_] (.A X<|X+2+S) []))<|YS _ _
  .haveI e:=h b;exact aL (λb=>e.1 b.2) (by exact(aj Z:N [_,_,_] (.A X<|S+2+O) [.A X O]) e.2.1)<|br e.2.2<|FU _ _
def Uc(d:f.Sublist a):(dQ a=Q->dQ f=Q)/\dK f<=dK a/\eu f<=eu a:=by
 induction d with
 |slnil=>exact aL id (aY _)<|aY _
 |@cons f a b _ c=>
  have e:dQ (b::a)=(cM b&&dQ a):=Z;have g:dK (b::a)=cA b+2+dK a:=Z;have h:eu (b::a)=bI (cT b) (eu a):=Z;rw[e,g,h,ez];have i:=c.2.1;exact aL (λd=>c.1 d.2) (br i<|qF _ _)<|br c.2.2<|FU _ _
 |@cons_cons f a b _ c=>
  haveI e:∀a,dQ (b::a)=(cM b&&dQ a):=λk=>Z;have g:∀a,dK (b::a)=cA b+2+dK a:=λk=>Z;have h:∀a,eu (b::a)=bI (cT b) (eu a):=λk=>Z;rw[e,g,h,e,g,h,ez,ez];haveI i:=c.2.1;have j:=c.2.2;exact aL (λd=>⟨d.1,c.1 d.2⟩) (lH i _)<|Ee (aY _) j
def rP:ca (.D a)<->dQ a=Q/\dK a+3<=3000/\eu a+1<=10:=w1
def AD(d:ca<|.D (f::a))(e:g∈a):ca g:=by haveI b:=rP.1 d;haveI c:=Ub<|cx f e;exact aL (c.1 b.1) (by exact(aj Z:N [_,_] (.A X 3000) [.A (S+3) 3000,.A X S]) b.2.1 c.2.1)<|by exact(aj Z:N [_,_] (.A X 10) [.A (S+1) 10,.A X S]) b.2.2 c.2.2
def AG(d:ca<|.D (f::a))(e:g.Sublist a):ca<|.D (f::g):=by haveI b:=rP.1 d;haveI c:=Uc<|e.cons_cons f;exact rP.2 ⟨c.1 b.1,by exact(aj Z:N [_,_] (.A (X+3) 3000) [.A (S+3) 3000,.A X S]) b.2.1 c.2.1,by exact(aj Z:N [_,_] (.A (X+1) 10) [.A (S+1) 10,.A X S]) b.2.2 c.2.2⟩
def Ua:∀{a:R V},2*a.length<=dK a:=by
 intro a
 induction a with
 |nil=>exact aY _
 |cons b c e=>
  haveI d:dK (b::c)=cA b+2+dK c:=Z;rw[d,dd];exact(a5 1001 Z:N [_,_,_,_] (.A (.A 2<|X+1)<|S+2+O) [.A (.A 2 X) O,.C ag<|S+2+O]) e d
def AE(c:ca<|.D (f::a)):a.length<=2000:=by haveI d:=(rP.1 c).2.1;haveI b:=Ua (a:=f::a);rw[dd]at b;exact(a5 112 Z:N [_,_] (.A S 2000) [.A (X+3) 3000,.A (.A 2<|S+1) X]) d b
def Ru(b:bA f)(c:cF f="row"):∃a,f=.D (aa "row"::a)/\∀d∈a,bA d:=by
 cases b with
 |A e=>exact a2 (show"number"=_ from c)<|ae Z
 |D a b _=>exact ax a Z b
 |B g _ _ _=>exact a2 (show"card"=_ from c)<|ae Z
 |E h _ _=>exact a2 (show"wrap"=_ from c)<|ae Z
def zo(e:bA f)(d:cF f="card"):∃c:R<|aC×V,f=.D (aa "card"::c.map bs)/\(c.map (·.1)).Nodup/\(∀b∈c,bA b.2)/\∀b∈c,b.1∈["x","y","z"]:=by
 cases e with
 |A j=>exact a2 (show"number"=_ from d)<|ae Z
 |D a e=>exact a2 (show"row"=_ from d)<|ae Z
 |B c g h i=>exact dZ c Z g h i
 |E k _ _=>exact a2 (show"wrap"=_ from d)<|ae Z
def QK(m:V)(k:∀j∈a,bA j/\ca j):∀(e:R V)(c:U),e.length<=(a.drop c).length->∃f:R<|no×V,f.map (·.1)=sv c e/\(f.map λb=>(b.1.1,b.2))=e.zip (a.drop c)/\
 ∀b∈f,pV (.A b.1.2.1)=Q/\b.1.2.1≠"leave"/\hs b.1.2.1 b.1.2.2 .C (.D (m::a)) b.2/\bA b.2/\ca b.2:=by
 intro e
 induction e with
 |nil=>intro c _;exact cW ([]) Z Z λp d=>by exact bW d
 |cons n e o=>
  intro c d;have g:c<a.length:=by rw[kz,dd]at d;exact Wc d
  rw[te g]at d⊢;refine a8 (o (c+1)<|YT d) λf h=>?_;refine cW (((n,"listat",.A c),a[c])::f) (by rw[cl,h.1];rfl) (by rw[cl,h.2.1];rfl) λb i=>?_;rcases bj.1 i with rfl|i;.haveI l:=FI g;exact bB Z (show"listat"≠"leave" by decide) (O7<|hQ g) ((k _ l).1)<|(k _ l).2
  .exact h.2.2 b i
def QG(s:∀e∈a,bA e/\ca e):∀(d h c:R V),f=.D (h++c)->c.length=d.length->(∀e∈c,bA e/\ca e)->∃g:R<|no×V,g.map (·.1)=sr d/\(g.map λb=>(b.1.1,b.2))=d.zip c/\
 ∀b∈g,pV (.A b.1.2.1)=Q/\b.1.2.1≠"leave"/\hs b.1.2.1 b.1.2.2 .C f b.2/\bA b.2/\ca b.2:=by
 intro d
 induction d with
 |nil=>intro h c _ _ _;exact cW ([]) Z Z λt n=>by exact bW n
 |cons o d p=>
  intro h c m i j;cases c with
  |nil=>cases i
  |cons e c=>
   refine a8 (p (h++[e]) c (by rw[m];simp) (qH i) λq r=>j q<|cx _ r) λg k=>?_;refine cW (((o,"listat",.A<|-((d.length+1:U):ah)),e)::g) (by rw[cl,k.1];rfl) (by rw[cl,k.2.1];rfl) λb l=>?_;rcases bj.1 l with rfl|l;.refine bB Z (show"listat"≠"leave" by decide) ?_ ((j e bP).1)<|(j e bP).2;rw[m];exact O8 (xl _) i Z
   .exact k.2.2 b l
end
section
variable{o_:U}{n_:af}{i f_ d_ o:be}{l t:R<|an×V}{m_ p n:V}{r m w s a d c:R V}{j_ q v x g_ c_ a_ b_ j b y e_ h_ i_ k_ g k p_:U}{l_:aC}{u:aE}{q_ z h:V}{e:an}{f:de}
def Bv(b:d.length+c.length<=a.length):ga a d c=(a.drop d.length).take (a.length-c.length-d.length):=by unfold ga;rw[show(a.length:ah)-(c.length:ah)=((a.length-c.length:U):ah) by exact Wd b];exact C1 (wD b)<|We b
def OK(b:c.length<=a.length):mz a c=a.drop (a.length-c.length):=by unfold mz;rw[show(a.length:ah)-(c.length:ah)=((a.length-c.length:U):ah) by exact Wf b];exact v3<|Wg b
def Pz(J:iu f.a)(K:gK f.a)(z:1<=q)(k:q5 h)(p:tN f g h d.length c.length v A)(x:d.length+c.length<=a.length)(h_:∀n∈a,bA n)(F:ca<|.D (aa "row"::a))
 (G:r.length<=1000)(B:cQ f.a m l)(s:m[g]?=Y (.D (aa "row"::a)))(o:i.a=.C)(C:b9 f.a g_ i l):
 bE λt w=>gk q (lk h<|ga a d c) i l Q i t/\cQ f.a w t/\er f.a y m w/\b9 f.a g_ i t/\cV f v A j r m i Q w i:=by
 rcases p with⟨D,rfl⟩|⟨e,L,rfl,D,a_,E,u,p,rfl⟩
 .refine⟨l,m,bB ?_ B (.C) C<|.inl<|am o ⟨0,Z,aY _⟩⟩;haveI:lk h (ga a d c)=[]:=by
   rcases k with rfl|⟨e,rfl,_⟩;.rfl
   .by_cases s:e=.A ""
    .exact au s
    .haveI H:(!aN (e=.A ""))=false:=D;rw[ct s]at H;exact e4 H
  rw[this];exact aL Z Z Z
 .haveI b_:bG e=false:=by
   rcases k with k|⟨i_,k,b⟩;.cases k
   .cases k;exact b
  haveI c_:=AE F;haveI d_:lk (.E e) (ga a d c)=[(gQ e,.D (aa "row"::ga a d c))]:=ao D;haveI e_:(ga a d c).Sublist a:=by rw[Bv x];exact(YK _ _).trans<|List.drop_sublist _ _
  have f_:ca<|.D (aa "row"::ga a d c):=AG F e_;refine⟨cp e (.D (aa "row"::ga a d c)) l,m.set L<|.D (aa "row"::ga a d c),bB ?_ (B.C J u E) (.E u E) (C.C (lF u) E f_ (λb=>V.noConfusion b) a_)<|.inl<|am o ⟨3,?_,aY _⟩⟩;.rw[d_];exact .inr ⟨i,_,db ((sx o (C.B K) b_).A z) Z Z Z⟩
  .haveI I:=Pd (g:=aa "row") x ((aj Z:N [_] (.B X 100000) [.A X 2000]) c_:a.length<100000);rw[<-Bv x]at I;refine .A (p 0 _ Z) (ae Z) (fc s<|dq G) o<|.A (p 1 _ Z) (ae Z) (kk Z (dq G) I) o<|.C (p 2 _ Z) (ae Z) (iJ<|B.A u) (.inl<|am Z Z) o
def RE(z__:iu f.a)(A__:gK f.a)(C_:1<=q)(B__:b<y)(f_1:∃e,f.a[b]?=Y e/\cf e=Q)(C__:q3 f z b v x j)(D__:aW f.b x<|rj "row" b g k j)(E__:aW f.b (x+9)<|rk "row" g k 0)(K:k=x+19)
 (D_:aW f.b k [b' "getl" g,bq "listfits" (.A ((d.length+c.length:U):ah)) (.G<|bH h) .C,bZ "jumpunless"<|.A j])
 (h__:jS f q g j (sv 0 d) e_ i_ (k+3) a_)(i__:tN f g h d.length c.length a_ b_)(j__:jS f q g j (sr c) h_ k_ b_ c_)
 (t_:f.a[g]?=Y e)(u_:cf e=Q)(v_:y<=g)(G:g<e_)(k__:e_<=h_)(g_1:v<=x)(w_:k+3<=a_)(H:b_<=c_)(y_:c_<=j)(H_:q5 h)(F__:h=.C->c=[]):
 ft f (q+5) (gU z d h c) (2+i_+k_) b y v c_ j:=λp r m i l g_ L l__ D m__ I p_ n__ q_=>by
 have J:a_<=b_:=by rcases i__ with⟨_,b⟩|⟨_,_,_,_,_,_,_,_,b⟩<;>first|exact fI b.symm|exact YQ b.symm
 have r_:i.b.length<1000000:=f3 n__.a<|(aj Z:N [_,_,_] (.B X 1000000) [.A (X+(2+S+O)) 100000]) q_;obtain⟨u,d_,A⟩:=AI C__ ((a5 1101111 Z:N [_,_,_,_,_,_] (.A X S) [.A (O+3) ag,.C O<|X+19,.A aB aM,.A aM S,.A ag aB]) w_ K H y_ J) L l__ D I p_ n__<|(aj Z:N [_,_,_] (.A X 100000) [.A (X+(2+S+O)) 100000]) q_;cases u;.exact⟨M,d_,l,m,bB ((Rb p_ r_ L.C A.1).A<|qn C_) m__ (.C) (A.2.1.A<|(aj Z:N [_,_,_] (.A (X+1)<|X+(2+S+O)) []))<|A.2.2.B<|(a5 110111 Z:N [_,_,_,_,_] (.A X S) [.A (O+3) ag,.C O<|X+19,.A aB S,.A ag aB]) w_ K H J⟩
 .have I_:d_.a=.C:=A.1.A.trans p_;have J_:d_.b.length<1000000:=f3 A.2.1.a<|(aj Z:N [_,_,_] (.B (X+1) 1000000) [.A (X+(2+S+O)) 100000]) q_;refine a8 (B2 (j:=0) (.inl Z) D__ E__ K ((a5 1001111 Z:N [_,_,_,_,_,_] (.A X S) [.A (X+3) O,.C X<|ag+19,.A aB aM,.A aM S,.A O aB]) w_ K H y_ J) (λr m i x_ x_=>by rw[hP];exact Z)
   (λr m_ m i D r_=>by rw[hP];exact pM λj_ o_ n_ l=>Sn (by rintro(b|b)<;>exact a2 b<|by decide) r_<|dq D) (aL Z (by decide)<|by decide) t_ u_ v_ L l__ D m__ I (s3 B__ v_) I_ A.2.1 ((aj Z:N [_,_,_] (.A (X+1) 100000) [.A (X+(2+S+O)) 100000]) q_)) λs E=>?_
  haveI E_:=E.1;haveI o__:=E.2.2.2;generalize K_:e3 d_ p "row" (aa "-")=l_ at E_ o__;obtain⟨h_1,o⟩:=l_;rcases o__ with⟨m_,rfl,G__,L_,H__,a__,B,b__⟩|⟨rfl,b__⟩
  .refine cg (Ru G__ H__) λa I__ p__=>?_;subst I__;haveI q__:=AE L_;haveI r__:=cV.A A.2.2 I_ b__;have z_:b5 f.A 2 ⟨r,s,k,o⟩ ⟨r++[.G<|if bH h then aN<|a.length=d.length+c.length else aN<|d.length+c.length<=a.length],s,k+2,o⟩:=
    .A (D_ 0 _ Z) (by decide) (fc a__<|dq D) B (.C (D_ 1 _ Z) (by decide) (kk Z (dq D) O') (.inl<|am Z Z) B)
   have A_:=pL (e:=.A j) (a:=r) (b:=s) (f:=o) (d:=.G<|if bH h then aN<|a.length=d.length+c.length else aN<|d.length+c.length<=a.length)<|.inr<|a1 _ Z;have J__:(if bH h then aN<|a.length=d.length+c.length else aN<|d.length+c.length<=a.length)= !ol h a d c:=by
    rcases H_ with rfl|⟨e,rfl,_⟩
    .rw[F__ Z];show aN (a.length=d.length+0)= !(aN ((a.length:ah)<(d.length:ah)+((0:U):ah))||decide ((d.length:ah)<a.length));by_cases b:a.length=d.length+0
     .rw[c0 b,ct<|Wh b,ct<|Wi b];rfl
     .rw[ct b,<-XS,c0<|Wj b];rfl
    .show aN (d.length+c.length<=a.length)= !(aN ((a.length:ah)<(d.length:ah)+c.length)||false);rw[oy,<-decide_not];exact i6.2<|Wk
   rw[J__]at z_ A_;refine c2 (ol h a d c) (λF=>?_) λF=>?_
   .rw[F]at z_ A_;haveI F_:d.length+c.length<=a.length:=by
     unfold ol at F;rw[w0]at F;haveI:=of_decide_eq_false F.1;exact Wl this
    have s__:cV f v (k+3) j r m i Q s o:=cV.A r__ B<|.inl<|am B ⟨3,z_.B<|.C (D_ 2 _ Z) (by decide) A_ (.inl<|am Z Z) B,aY _⟩;haveI c__:∀n∈a,bA n/\ca n:=λn I=>am (p__ n I)<|AD L_ I;refine a8 (QK (aa "row") c__ d 0<|by rw[FE];exact wD F_) λK__ d__=>?_;have L__:=d__.2.1;rw[<-d__.1]at h__;obtain⟨u,t__,a_1,e__,C⟩:=Cb (ax e t_ u_) K__ h__ d__.2.2 G ((aj Z:N [_,_,_,_] (.A X S) [.A O ag,.A ag S,.A X O]) H y_ J) D E.2.1 a__ B E_<|(aj Z:N [_,_,_] (.A (X+1+1+S) 100000) [.A (X+(2+S+O)) 100000]) q_;haveI f__:=C.1;rw[L__]at f__;have u__:er f.a y m e__:=E.2.2.1.A<|C.2.2.1.B<|qm G v_;have v__:=λ{u:aE}{f_:be}{t:R<|an×V}(b:gk q (d.zip a++lk h (ga a d c)++c.zip (mz a c)) o l u f_ t)=>Re p_ r_ J_ L A.1 K_ F H_ q__ b;cases u;.exact⟨M,t__,a_1,e__,bB (v__ f__.B.B) C.2.1 u__ (C.2.2.2.1.A<|(aj Z:N [_,_,_] (.A (X+1+1+S)<|X+(2+S+O)) []))<|(cV.A s__ B C.2.2.2.2).B<|E' H J⟩
    .have G_:t__.a=.C:=by
      rcases C.2.2.2.2 with⟨b,_⟩|⟨_,b,_⟩;.exact b
      .exact e4 b
     have w__:e__[g]?=Y (.D (aa "row"::a)):=(C.2.2.1 g e G t_ u_).trans a__;obtain⟨i_1,b_1,s_⟩:=Pz z__ A__ C_ H_ i__ F_ p__ L_ D C.2.1 w__ G_ C.2.2.2.1;haveI c_1:b_1[g]?=Y (.D (aa "row"::a)):=(s_.2.2.1 g e G t_ u_).trans w__;haveI d_1:a=a.take (a.length-c.length)++a.drop (a.length-c.length):=(YI _ _).symm;refine a8 (QG c__ c (aa "row"::a.take (a.length-c.length)) (a.drop<|a.length-c.length) (by rw[FB,<-d_1]) (by rw[kz];exact Wm F_ q__) λn I=>c__ n<|FO I) λe_1 g__=>?_;have x__:=g__.2.1;rw[<-OK ((aj Z:N [_,_,_] (.A X S) [.A (O+X) S]) F_)]at x__;rw[<-g__.1]at j__;obtain⟨u,f_,t,w,B_⟩:=Cb (ax e t_ u_) e_1 j__ g__.2.2 (s3 G k__) y_ D s_.2.1 c_1 G_ s_.2.2.2.1<|(aj Z:N [_,_,_] (.A (X+1+1+S+O) 100000) [.A (X+(2+S+O)) 100000]) q_;haveI y__:=B_.1;rw[x__]at y__;exact⟨u,f_,t,w,bB (v__<|(f__.A s_.1).A y__) B_.2.1 (u__.A<|(s_.2.2.1.B<|qm G v_).A<|B_.2.2.1.B<|(aj Z:N [_,_,_,_] (.A X S) [.B O ag,.A X O,.A ag S]) G v_ k__) (B_.2.2.2.1.A<|(aj Z:N [_,_,_] (.A (X+1+1+S+O)<|X+(2+S+O)) []))<|cV.A (cV.A (cV.A s__ B C.2.2.2.2) G_ s_.2.2.2.2) G_ B_.2.2.2.2⟩
   .rw[F]at z_ A_;exact⟨M,o,l,s,bB ((Rd p_ r_ J_ L A.1 K_ F).A<|qn C_) E.2.1 E.2.2.1 (E_.A<|Fa)<|cV.A r__ B<|.inl<|am B ⟨3,z_.B<|.C (D_ 2 _ Z) (by decide) A_ (.inr Z) B,by show k+3<=j;exact(a5 1001111 Z:N [_,_,_,_,_,_] (.A (X+3) S) [.A (X+3) O,.C X<|ag+19,.A aB aM,.A aM S,.A O aB]) w_ K H y_ J⟩⟩
  .exact⟨M,o,l,s,bB ((Rc p_ r_ J_ L A.1 K_).A<|qn C_) E.2.1 E.2.2.1 (E_.A<|Fa)<|(cV.A A.2.2 I_ b__).B<|(a5 100111 Z:N [_,_,_,_,_] (.A X S) [.A (X+3) O,.C X<|ag+19,.A aB S,.A O aB]) w_ K H J⟩
end
def i8(c:de)(l h i:U):R (aC×V)->U->U->U->U->Prop
 |[],j,m,a,f=>a=f
 |b::p,j,m,a,f=>gG λd k g n o e=>aW c.b a [b' "getl" h,bZ "tablehas"<|aa b.1,bZ "jumpunless"<|.A i]/\aW c.b (a+3) [b' "getl" h,bZ "tableat"<|aa b.1,b' "setl" d]/\c.a[d]?=Y k/\
  ((bH b.2=Q/\k=.A b.1/\lX (.A b.1)/\e=a+6)\/(bH b.2=M/\cf k=Q/\j<=d/\d<g/\ft c l b.2 n d g (a+6) e i))/\j<=g/\i8 c l h i p g o e f/\n+o<=m/\e<=f/\a+6<=e
def ye(e:de)(g:U)(c:V)(d:R<|aC×V)(a f i:U):Prop:=
 (bE λb h=>c=.E b/\b≠.A "none"/\lX b/\cf b=M/\e.a[h]?=Y b/\aW e.b a [b' "getl" g,bZ "tablerest"<|.D<|cK d,b' "setl" h]/\f=a+3)\/
 (fd c=M/\(bH c&& !d.isEmpty)=M/\aW e.b a [b' "getl" g,bZ "tableonly"<|.D<|cK d,bZ "jumpunless"<|.A i]/\f=a+3)\/(c=.C/\d.isEmpty=M/\f=a)
section
variable{b:be}{d:V}{f:R V}{a:U}{c:de}{e:R<|aC×V}
def Oa(c:aC)(e:R<|aC×V):(e.map (·.1)).contains c= !(e.filter λd=>aN<|d.1=c).isEmpty:=by
 induction e with
 |nil=>rfl
 |cons a e f=>
  rw[cl,Yg,f,w9];by_cases b:a.1=c;.rw[au<|c0 b,ce.2 b.symm];rfl
  .rw[ao<|by rw[ct b];exact dy,nc.2 λg=>b g.symm];rfl
def N7{a:aC×V}(e:ca<|bs a):ca a.2:=by
 refine gS e λb c d=>?_;refine aL ?_ ?_ ?_;.change(Q&&(cM a.2&&Q))=Q at b;rwa [XY,wZ]at b
 .change(10*a.1.length+2)+2+(cA a.2+2+0)+3<=3000 at c;exact E2 c
 .change bI 0 (bI (cT a.2) 0)+1<=10 at d;exact E3 d
def No(n_:iu c.a)(o_:gK c.a)(p_:1<=j)(q_:∃J,c.a[i]?=Y J/\cf J=Q)(r_:(e.map (·.1)).Nodup)(s_:e.length<=1000)(t_:∀a∈e,bA a.2/\ca a.2)(I:R<|aC×V):
 ∀{w A a:U}{l:R V}{b:be}{p:R<|an×V}{t:U},i8 c j i g I w A a h->i<w->h<=g->
 f.length<=1000->cQ c.a l p->l[i]?=Y (.D (aa "card"::e.map bs))->b.a=.C->b9 c.a t b p->t+A<=100000->
 cy λo B C D=>oZ j e I b p o B C/\cQ c.a D C/\er c.a w l D/\b9 c.a (t+A) B C/\cV c a h g f l b o D B:=by
 induction I with
 |nil=>
  intro w A a l b p t K _ _ _ x _ m y _;obtain rfl:a=h:=K;exact⟨Q,b,p,l,bB (aL Z Z Z) x (.C) (y.A<|cU _ _)<|.inl<|am m ⟨0,Z,aY _⟩⟩
 |cons q I u_=>
  intro w A a l b p t K e_ f_ z x L m y g_;refine gG.A K λh_ J F_ v_ G_ w_ k=>?_;have i_:=x.A k.2.2.1;have E:b5 c.A 2 ⟨f,l,a,b⟩ ⟨f++[.G<|(e.map (·.1)).contains q.1],l,a+2,b⟩:=
   .A (k.1 0 _ Z) (ae Z) (fc L<|dq z) m (.C (k.1 1 _ Z) (ae Z) (kk Z (dq z) Pa) (.inl<|am Z Z) m)
  haveI F:=pL (e:=.A g) (a:=f) (b:=l) (f:=b) (d:=.G<|(e.map (·.1)).contains q.1)<|.inr<|a1 _ Z;rw[Oa]at E F;cases u:e.filter λd=>aN<|d.1=q.1 with
  |nil=>
   rw[u]at E F;exact⟨M,b,p,l,bB (.inl<|db u Z Z Z) x (.C) (y.A<|cU _ _)<|.inl<|am m ⟨3,E.B<|.C (k.1 2 _ Z) (ae Z) F (.inr Z) m,by show a+3<=g;exact(aj Z:N [_,_,_,_] (.A (X+3) S) [.A (X+6) O,.A ag S,.A O ag]) k.2.2.2.2.2.2.2.2 f_ k.2.2.2.2.2.2.2.1⟩⟩
  |cons d j_=>
   rw[u]at E F;haveI y_:d∈e:=(FN.1 (u▸bP:d∈e.filter λd=>aN<|d.1=q.1)).1;have a_:=t_ d y_;haveI b_:=a_.1;have k_:b5 c.A 6 ⟨f,l,a,b⟩ ⟨f,l.set h_ d.2,a+6,b⟩:=
    E.B (.A (k.1 2 _ Z) (ae Z) F m<|.A (k.2.1 0 _ Z) (ae Z) (fc L<|dq z) m<|.A (k.2.1 1 _ Z) (ae Z) (kk Z (dq z)<|Pf r_ s_ u) m<|.C (k.2.1 2 _ Z) (ae Z) (iJ i_) (.inl<|am Z Z) m)
   haveI D_:cy λo r s v=>cz j (mo q) d.2 b p o r s/\cQ c.a v s/\er c.a w l v/\b9 c.a (t+v_) r s/\cV c a w_ g f l b o v r:=by
    rcases k.2.2.2.1 with⟨c_,rfl,z_,rfl⟩|⟨c_,A_,B_,H_,C_⟩;.have:mo q=gQ (.A q.1):=au c_;rw[this];refine⟨Q,b,_,_,bB ((sx m (y.B o_) Z).A p_) (x.C n_ k.2.2.1 Z) (.E k.2.2.1 Z) ((y.C (lF k.2.2.1) Z a_.2 ?_ z_).A<|cU _ _)<|.inl<|am m ⟨6,k_,aY _⟩⟩;intro h;rw[h]at b_;cases b_
    .have:mo q=q.2:=ao (by rw[c_];exact dy);rw[this];refine cy.A (C_ d.2 f (l.set h_ d.2) b p t b_ a_.2 z (x.B k.2.2.1 A_) (kg i_) m y<|E4 g_ k.2.2.2.2.2.2.1) λo r s v G=>?_;exact⟨o,r,s,v,bB G.1 G.2.1 (er.A (.D B_)<|G.2.2.1.B k.2.2.2.2.1) G.2.2.2.1<|cV.A (.inl<|am m ⟨6,k_,aY _⟩) m G.2.2.2.2⟩
   refine cy.A D_ λo r s v n=>?_;cases o;.exact⟨M,r,s,v,bB (.inr ⟨d,j_,am u<|.inl<|am Z n.1⟩) n.2.1 n.2.2.1 (n.2.2.2.1.A<|E5 k.2.2.2.2.2.2.1)<|n.2.2.2.2.B k.2.2.2.2.2.2.2.1⟩
   .have l_:r.a=.C:=by
     rcases n.2.2.2.2 with⟨d_,_⟩|⟨_,d_,_⟩;.exact d_
     .exact e4 d_
    refine a8 q_ λE_ m_=>?_;refine cy.A (u_ k.2.2.2.2.2.1 (s3 e_ k.2.2.2.2.1) f_ z n.2.1 ((n.2.2.1 i E_ e_ m_.1 m_.2).trans L) l_ n.2.2.2.1<|E8 g_ k.2.2.2.2.2.2.1) λo B C D H=>?_;exact⟨o,B,C,D,bB (.inr ⟨d,j_,am u<|.inr ⟨r,s,am n.1 H.1⟩⟩) H.2.1 (n.2.2.1.A<|H.2.2.1.B k.2.2.2.2.1) (H.2.2.2.1.A<|E9 k.2.2.2.2.2.2.1)<|cV.A n.2.2.2.2 l_ H.2.2.2.2⟩
end
def ju(b:V)(a:R<|aC×V):R V:=if fd b then[bZ "push" .C]else(a.map λc=>bZ "push"<|aa c.1)++[bZ "list"<|.A a.length]
def pD(a:V)(b:R<|aC×V):V:=if fd a then .C else .D (aa "row"::cK b)
section
variable{j_:U}{i_:af}{g t d_:be}{w:R<|an×V}{g_ l y:V}{f i e_:R V}{c_ v b p h_ s m j d r a_ o b_ k q u:U}{f_:aC}{x:aE}{z c:V}{n:an}{h:de}{e a:R<|aC×V}
def aW.F(d:aW H b<|I++J):aW H b I:=λo c a=>d o c<|by rw[m3 (fe.1 a).1];exact a
def aW.D(d:aW I b<|H++J):aW I (b+H.length) J:=λo a c=>by rw[hn];exact d (H.length+o) a<|by rw[oB<|cU _ _,xe];exact c
def aW.C(d:aW H b I)(f:aW H (b+I.length) J):aW H b<|I++J:=λo e a=>(YX o I.length).elim (λc=>d o e<|by rw[m3 c]at a;exact a) λc=>by rw[oB c]at a;exact(aF (H[·]?)<|by rw[hn,Nat.add_sub_cancel' c]).trans<|f _ e a
def aW.E(d:aW H b (y::I)):aW H (b+1) I:=aW.D (H:=[y]) d
def QR(a:R<|aC×V):∀{f:R V}{b:U},aW h.b b (a.map λc=>bZ "push"<|aa c.1)->f.length+a.length<100000->g.a=.C->b5 h.A a.length ⟨f,i,b,g⟩ ⟨f++cK a,i,b+a.length,g⟩:=by
 induction a with
 |nil=>intro f b _ _ _;show it.mk f i b g=it.mk (f++[]) i b g;rw[hP]
 |cons c a k=>
  intro f b d e j;refine .A (d 0 _ Z) (ae Z) (gx (.inl Z)<|(aj Z:N [_,_] (.B X 1000000) [.B (X+(S+1)) 100000]) e) j ?_;haveI:=k (f:=f++[aa c.1]) d.E (by rw[cs,ff];exact(aj Z:N [_,_] (.B (X+1+S) 100000) [.B (X+(S+1)) 100000]) e) j;rw[f2,hn,lG 1]at this;exact this
def OC(d:aW h.b b<|ju c a)(k:a.length<=100)(e:f.length<=1001)(j:g.a=.C):b5 h.A (ju c a).length ⟨f,i,b,g⟩ ⟨f++[pD c a],i,b+(ju c a).length,g⟩:=by
 unfold ju at d⊢;unfold pD;cases m:fd c<;>rw[m]at d;.rw[ao dy]at d;rw[ao dy,ao dy,cs,bC];haveI l:=d.D 0 _ Z;rw[bC]at l;refine(QR a d.F (Fb k e) j).B<|.C l (ae Z) ?_ (.inl<|am Z Z) j;haveI:=Bz (d:=i) (c:=g) (a:=f) (b:=cK a) (by rw[bC];exact Fb k e);rw[bC]at this;exact this
 .rw[au Z]at d;exact .C (d 0 _ Z) (ae Z) (gx (.inl Z)<|(aj Z:N [_] (.B X 1000000) [.A X 1001]) e) (.inl<|am Z Z) j
def NA(f:∀b∈a,b.1.length<=10)(g:a.length<=10):cM (.D [aa "tells",aa "deconstruct_keys",hB c a])=Q/\cA (.D [aa "tells",aa "deconstruct_keys",hB c a])<=9000/\cT (.D [aa "tells",aa "deconstruct_keys",hB c a])<=20:=by
 haveI e:dQ (cK a)=Q/\dK (cK a)<=104*a.length/\eu (cK a)=0:=by
  clear g
  induction a with
  |nil=>exact aL Z (aY _) Z
  |cons b a h=>
   haveI d:=h λb i=>f b<|cx _ i;haveI:=f b bP;refine aL d.1 ?_ ?_;.show(10*b.1.length+2)+2+dK (cK a)<=_;rw[dd];exact(aI (.C [1,1,10]) Z:N [_,_,_] (.A ((.A 10 X)+2+2+S)<|.A 104<|O+1) [.A X 10,.A S<|.A 104 O]) this d.2.1
   .show bI 0 (eu<|cK a)=0;rw[d.2.2];rfl
 unfold hB;cases fd c
 .rw[ao dy];refine aL ?_ ?_ ?_
  .show(Q&&(Q&&(dQ (cK a)&&Q)))=Q;rw[e.1];rfl
  .show(10*"tells".length+2)+2+((10*"deconstruct_keys".length+2)+2+(dK (cK a)+3+2+0))+3<=9000;exact(aI (.C [1,1,10,0,10,0,104]) Z:N [_,_,_,_] (.A ((.A 10 S)+2+2+((.A 10 O)+2+2+(ag+3+2+0))+3) 9000) [.A X 10,.C S 5,.C O 16,.A ag<|.A 104 X]) g Z Z e.2.1
  .show bI 0 (bI 0<|bI (eu (cK a)+1) 0)+1<=20;rw[e.2.2];exact aX Z
 .rw[au Z];exact aL Z (aX Z)<|aX Z
def Rw(h__:iu h.a)(i__:gK h.a)(z_:1<=v)(u__:d<r)(K__:∃n,h.a[d]?=Y n/\cf n=Q)(v__:q3 h z d b p j)(w__:aW h.b p<|rj "card" d k q j)(x__:aW h.b (p+9)<|ju c a)(A_:u=(ju c a).length)(y__:aW h.b (p+9+u)<|rk "card" k q 1)(B_:q=p+19+u)
 (z__:i8 h v k j a a_ b_ q m)(j__:ye h k c a m s j)(C_:h.a[k]?=Y n)(D_:cf n=Q)(E_:r<=k)(F_:k<a_)(L__:b<=p)(r_:q<=m)(s_:s<=j)(t_:l1 c)(B__:∀A__∈a,A__.1.length<=10)(k__:a.length<=10):
 ft h (v+5) (gr z (a.map bs) c) (2+b_) d r b s j:=λl f i g w h_ K l__ B m__ H E n__ I=>by
 have L:m<=s:=by rcases j__ with⟨_,_,_,_,_,_,_,_,d⟩|⟨_,_,_,d⟩|⟨_,_,d⟩<;>first|exact fI d.symm|exact YQ d.symm
 have k_:g.b.length<1000000:=f3 n__.a<|(aj Z:N [_,_] (.B X 1000000) [.A (X+(2+S)) 100000]) I;refine bE.A (AI v__ ((a5 101111 Z:N [_,_,_,_,_,_,_] (.A X S) [.C O ag,.C aB<|X+19+O,.A aB aM,.A bX S,.A aM bX]) A_ B_ r_ s_ L) K l__ B H E n__<|(aj Z:N [_,_] (.A X 100000) [.A (X+(2+S)) 100000]) I) λx t C=>?_;cases x;.exact⟨M,t,w,i,bB ((Q6 E k_ K.C C.1).A<|qn z_) m__ (.C) (C.2.1.A<|(aj Z:N [_,_] (.A (X+1)<|X+(2+S)) []))<|C.2.2.B<|(a5 10111 Z:N [_,_,_,_,_,_] (.A X S) [.C O ag,.C aB<|X+19+O,.A aB aM,.A aM S]) A_ B_ r_ L⟩
 .have G_:t.a=.C:=C.1.A.trans E;have H_:t.b.length<1000000:=f3 C.2.1.a<|(aj Z:N [_,_] (.B (X+1) 1000000) [.A (X+(2+S)) 100000]) I;have C__:A7 (pD c a)=hB c a:=by
   unfold pD hB;cases fd c<;>rfl
  refine a8 (B2 (.inr Z) w__ y__ B_ ((aj Z:N [_,_,_,_] (.A X S) [.A X O,.A ag S,.A O ag]) r_ s_ L) (λf i g B E=>by rw[A_];exact OC x__ ((aj Z:N [_] (.A X 100) [.A X 10]) k__) B E)
   (λf g_ i g B k_=>by
    rw[f2,<-C__];refine pM λc_ j_ i_ w=>Sp (by rintro(d|d)<;>exact a2 d<|ae Z) ?_ k_<|dq B;unfold pD;cases fd c;.exact .inr (a1 _ Z)
    .exact .inl Z) (NA B__ k__) C_ D_ E_ K l__ B m__ H (s3 u__ E_) G_ C.2.1 ((aj Z:N [_,_] (.A (X+1) 100000) [.A (X+(2+S)) 100000]) I)) λe_ l_=>?_
  haveI I_:=l_.1;haveI n_:=l_.2.2.2;generalize J_:e3 t l "card" (hB c a)=f_ at I_ n_;obtain⟨a_1,d_⟩:=f_;rcases n_ with⟨g_,rfl,D__,o__,E__,p__,K_,L_⟩|⟨rfl,L_⟩
  .refine cg (zo D__ E__) λe F__ u_=>?_;subst F__;have a__:e.length<=3:=by
    haveI:=pR u_.1 λy H=>by obtain⟨b,v_,rfl⟩:=d4.1 H;exact u_.2.2 b v_
    rwa [bC]at this
   haveI G__:∀b∈e,bA b.2/\ca b.2:=λb v_=>am (u_.2.1 b v_)<|N7<|AD o__<|tj v_;haveI q__:=cV.A C.2.2 G_ L_;refine cy.A (No h__ i__ z_ (ax n C_ D_) u_.1 (Fc a__) G__ a z__ F_ (E' s_ L) B l_.2.1 p__ K_ I_<|(aj Z:N [_,_] (.A (X+1+1+S) 100000) [.A (X+(2+S)) 100000]) I) λx F o_ p_ A=>?_;have w_:er h.a r i p_:=l_.2.2.1.A<|A.2.2.1.B<|qm F_ E_;cases x;.exact⟨M,F,o_,p_,bB (Q8 E k_ H_ K C.1 t_ J_ A.1) A.2.1 w_ (A.2.2.2.1.A<|s4)<|(cV.A q__ K_ A.2.2.2.2).B<|ww L⟩
   .have D:F.a=.C:=by
     rcases A.2.2.2.2 with⟨d,_⟩|⟨_,d,_⟩;.exact d
     .exact e4 d
    haveI r__:=(A.2.2.1 k n F_ C_ D_).trans p__;have b__:=cV.A q__ K_ A.2.2.2.2;have m_:=Q9 E k_ H_ K C.1 t_ J_ (Fc a__) A.1<|A.2.2.2.1.B i__;have H__:(fn e a).Sublist e:=List.filter_sublist;rcases j__ with⟨J,o,rfl,s__,I__,c__,y_,G,rfl⟩|⟨n_,d__,G,rfl⟩|⟨rfl,d__,rfl⟩
    .haveI q_:me (.E J) a e=true:=by
      show(!aN (J=.A "none")||_)=Q;rw[ct s__];rfl
     haveI e__:ry (.E J) a e o_=cp J (.D (aa "card"::(fn e a).map bs)) o_:=ao s__;rw[q_,e__]at m_;have J__:ca<|.D (aa "card"::(fn e a).map bs):=AG o__<|H__.map bs;refine⟨Q,F,_,_,bB m_ (A.2.1.C h__ y_ c__) (w_.A<|.E y_ c__) ((A.2.2.2.1.C (lF y_) c__ J__ (λd=>V.noConfusion d) I__).A<|s4)<|cV.A b__ D<|.inl<|am D ⟨3,?_,aY _⟩⟩;exact .A (G 0 _ Z) (ae Z) (fc r__<|dq B) D<|.A (G 1 _ Z) (ae Z) (kk Z (dq B)<|Pe<|(aj Z:N [_] (.B X 100000) [.A X 3]) a__) D<|.C (G 2 _ Z) (ae Z) (iJ<|A.2.1.A y_) (.inl<|am Z Z) D
    .have q_:me c a e=(fn e a).isEmpty:=by
      unfold me;rw[n_,d__,Ft,oy]
     have e__:ry c a e o_=o_:=by
      rcases t_ with rfl|⟨J,rfl,_⟩;.rfl
      .by_cases H:J=.A "none"
       .exact au H
       .haveI t__:(!aN (J=.A "none"))=false:=n_;rw[ct H]at t__;exact e4 t__
     rw[q_,e__]at m_;haveI f__:b5 h.A 2 ⟨f,p_,m,F⟩ ⟨f++[.G (fn e a).isEmpty],p_,m+2,F⟩:=
      .A (G 0 _ Z) (ae Z) (fc r__<|dq B) D (.C (G 1 _ Z) (ae Z) (kk Z (by exact dq B) Pc) (.inl<|am Z Z) D)
     haveI g__:=pL (e:=.A j) (a:=f) (b:=p_) (f:=F) (d:=.G (fn e a).isEmpty)<|.inr<|a1 _ Z;refine⟨_,F,_,_,bB m_ A.2.1 w_ (A.2.2.2.1.A<|s4)<|cV.A b__ D<|.inl<|am D ⟨3,?_,?_⟩⟩
     .cases I:(fn e a).isEmpty<;>rw[I]at f__ g__
      .exact f__.B<|.C (G 2 _ Z) (ae Z) g__ (.inr Z) D
      .exact f__.B<|.C (G 2 _ Z) (ae Z) g__ (.inl<|am Z Z) D
     .cases(fn e a).isEmpty
      .show m+3<=j;exact(aj Z:N [_,_] (.A (X+3) S) [.A (X+3) S]) s_
      .exact aY _
    .have q_:me .C a e=true:=by
      unfold me;rw[d__];show(M||(_||true))=Q;rw[XX];rfl
     rw[q_]at m_;exact⟨Q,F,_,_,bB m_ A.2.1 w_ (A.2.2.2.1.A<|s4) b__⟩
  .exact⟨M,d_,w,e_,bB ((Q7 E k_ H_ K C.1 t_ J_).A<|qn z_) l_.2.1 l_.2.2.1 (I_.A<|(aj Z:N [_,_] (.A (X+1+1)<|X+(2+S)) []))<|(cV.A C.2.2 G_ L_).B<|Xg r_ L⟩
end
def f0:R<|an×V:=[(.A "seq",.H .ar_),(.A "int",.H .ao_),(.A "lvar",.H .aH_),(.A "const",.H .aF_),(.A "call",.H .am_),(.A "array",.H .av_),(.A "begin",.H .z_),(.A "casein",.H .aC_),(.A "matchp",.H .an_),(.A "matchq",.H .ak_)]
structure ci where
 c:R V
 e:R V
 b:R an
 a:ah
 d:R V
abbrev n1(a:U)(b:ah):R<|aC×V:=[("rows",.B<|a+2),("catches",.B<|a+3),("children",.D []),("starts",.D []),("line",.A 0),("height",.A b)]
def iA(a:U)(b:ci):R cn:=
 [.C .K [("table",.J f0),("kind",aa "program"),("params",.C),("maker",.B<|a+1),("scope",.B<|a+4),("ways",.B<|a+6)],
  .C .F (n1 a b.a),.A b.c,.A b.e,.C .E [("names",.B<|a+5),("outer",.C)],.A<|b.b.map .E,.A b.d]
def zs(a:U)(b:ci)(c:U):cn:=((iA a b)[c]?).getD .B
def di(b:U)(c:R cn)(d:af):af:=⟨d.a,λa=>if bD (b<=a) (a<b+c.length)then(c[a-b]?).getD .B else d.b a⟩
def ap(a:U)(b:af)(c:ci):af:=di a (iA a c) b
def ci.B(a:ci)(b:V)(c d:ah):ci:={a with c:=a.c++[b],a:=a.a-c+d}
def ci.A(a:ci)(b:an):ci:={a with b:=a.b++[b]}
abbrev b7(a:V):cn:=.C .B [("place",a)]
def jV(b:V)(c d:ah):Prop:=∀(e:U)(a:af),aR (e+3) .at_ [b] a=Y (.F [.A c,.A d],a)
def lc:R<|an×V:=(j6 Dn).getD []
def aV(a:aD<|V×af)(b:V->af->Prop):Prop:=ak a λa=>b a.1 a.2
def aV.B(e:a=Y (b,c))(f:d b c):aV a d:=ax _ e f
def aV.C(f:aV a λd e=>d=b/\e=c):a=Y (b,c):=by refine jA f λg h i j=>?_;obtain⟨_,_⟩:=g;subst i;subst j;exact h
def ak.D(d:ak a λc=>c=b):a=Y b:=by refine cg d λc e f=>?_;rw[e,f]
section
variable{a h:af}{b:ci}{d:bR}{c:aA}{g f:R V}{e:R<|aC×V}
def mG(b:R cn)(c:j<b.length):(di i b a).b (i+j)=(b[j]?).getD .B:=by show(if bD (i<=i+j) (i+j<i+b.length)then(b[i+j-i]?).getD .B else a.b<|i+j)=_;rw[au ⟨cU _ _,YP c _⟩,xe]
def pW(b:j+k.length<=i):(di j k a).b i=a.b i:=ao λc=>xi c.2 b
def pX(c:R cn)(f:j<c.length):(di i c a).A (i+j) k=di i (c.set j k) a:=by
 refine fT Z λb=>?_;show(if b=i+j then k else if bD (i<=b) (b<i+c.length)then(c[b-i]?).getD .B else a.b b)=if bD (i<=b) (b<i+(c.set j k).length)then((c.set j k)[b-i]?).getD .B else a.b b
 rw[qD];by_cases e:b=i+j;.rw[au e,e,au ⟨cU _ _,YP f _⟩,xe,List.getElem?_set_self f];rfl
 .rw[ao e];by_cases d:bD (i<=b) (b<i+c.length)
  .rw[au d,au d,Yu λg=>e<|by rw[g,Nat.add_sub_of_le d.1]]
  .rw[ao d,ao d]
def so(d:i+k.length<=j):(di i k a).A j l=di i k (a.A j l):=by
 refine fT Z λb=>?_;show(if b=j then l else if bD (i<=b) (b<i+k.length)then _ else a.b b)=if bD (i<=b) (b<i+k.length)then _ else if b=j then l else a.b b
 by_cases c:b=j;.rw[au c,au c,ao λe=>xi (c▸e.2) d]
 .rw[ao c,ao c]
def sn(b:i+j.length<=a.a):(di i j a).B k=di i j (a.B k):=so (a:=⟨a.a+1,a.b⟩) b
def c7(c:i<7):(ap j a b).b (j+i)=zs j b i:=mG _ c
def iN:(ap i a b).b i=zs i b 0:=c7 (i:=0)<|ae Z
def gc(c:j+7<=i):(ap j a b).b i=a.b i:=pW c
def p5(c:j<7)(d:iA i k=(iA i b).set j l):(ap i a b).A (i+j) l=ap i a k:=(pX _ c).trans<|aF (di i · a) d.symm
def p6(c:i+7<=j):(ap i a b).A j k=ap i (a.A j k) b:=so c
def lv(c:i+7<=a.a):(ap i a b).B j=ap i (a.B j) b:=sn c
def SH(b:ci)(g:R V):(ap i a b).A (i+2) (.A g)=ap i a {b with c:=g}:=p5 (ae Z) Z
def SE(b:ci)(g:R V):(ap i a b).A (i+3) (.A g)=ap i a {b with e:=g}:=p5 (ae Z) Z
def CU(b:ci)(g:R V):(ap i a b).A (i+6) (.A g)=ap i a {b with d:=g}:=p5 (ae Z) Z
def vY(b:ci)(c:ah):(ap i a b).A (i+1) (.C .F<|n1 i c)=ap i a {b with a:=c}:=p5 (ae Z) Z
def SG(b:ci)(c:an):(ap i a b).A (i+5) (.A<|b.b.map .E++[.E c])=ap i a (b.A c):=
 p5 (ae Z) (by unfold iA;rw[ci.A,hR];rfl)
def dw(b:ai d j c a=Y (.B k,a))(f:a.b k=.C l e)(g:(eF l).contains i=Q)(h:d1 i e=Y m):ai d (.D j i) c a=Y (m,a):=by show(ai d j c a).bind _=_;rw[b];show((mb<|a.b k).bind _).map _=_;rw[f];show(if(eF l).contains i then d1 i e else ab).map _=_;rw[au g,h];rfl
def ux(b:a.b i=.C j e)(c:(d1 k e).isNone=Q):rB a k (.B i)=Y j:=by show(mb<|a.b i).bind _=_;rw[b];exact au c
def v9(b:ai d m c a=Y (l,h))(f:ai d n c h=Y (.B i,h))(g:h.b i=.C j e)(q:hS (e.length+1) 100=Q)(r:(eF j).contains k=Q)(s:ak (aw d o c<|h.A i<|.C j<|h' k l e) p):ak (aw d (.A (.E n k m) o) c a) p:=by refine gd<|ak.B<|ax _ b<|ak.B<|ax _ f ⟨(.A,c,h.A i<|.C j<|h' k l e),?_,s⟩;show(mb<|h.b i).bind _=_;rw[g];exact au ⟨ec q,r⟩
def jF(b:ai d l c a=Y (m,a))(f:ai d n c a=Y (.B i,a))(g:a.b i=.C j e)(h:hS (e.length+1) 100=Q)(q:(eF j).contains k=Q)(r:ak (aw d o c<|a.A i<|.C j<|h' k m e) p):ak (aw d (.A (.E n k l) o) c a) p:=v9 b f g h q r
def vO:(a.B i).A a.a j=a.B j:=by
 refine fT Z λb=>?_;show(if b=a.a then _ else if b=a.a then i else a.b b)=if b=a.a then _ else a.b b
 by_cases c:b=a.a;.rw[au c,au c]
 .rw[ao c,ao c,ao c]
def iM:(a.B i).b a.a=i:=au Z
def em(b:c 0=Y (.B a.a))(f:ai d k c (a.B<|.C i e)=Y (l,a.B<|.C i e))(g:hS (e.length+1) 100=Q)(h:(eF i).contains j=Q)(o:ak (aw d m c<|a.B<|.C i<|h' j l e) n):ak (aw d (.A (.E (.A 0) j k) m) c<|a.B<|.C i e) n:=
 jF f (ac b) iM g h (by rw[vO];exact o)
def CD:aR (n+1) .aw_ [.B a.a,i,j,k,l,m] (a.B<|.C .H [])=Y (.C,a.B<|.C .H [("op",i),("a",j),("b",k),("c",l),("line",m)]):=
 bi Z (em Z Z Z Z<|em Z Z Z Z<|em Z Z Z Z<|em Z Z Z Z<|em Z Z Z Z<|aU Z)
def pO(b:bK d j c a=Y (k,h))(f:iG i=Y l)(g:mq i=Q)(m:d.a l (.B h.a::k) (h.B<|.C i [])=Y (.C,h.B<|.C i e)):ai d (.c i j) c a=Y (.L i e,h.B .B):=by show(bK d j c a).bind _=_;rw[b];unfold sg;rw[f];show(d.a l (.B h.a::k)<|h.B<|.C i []).bind _=_;rw[m];show(if mq i then lf (h.B<|.C i e)<|.B h.a else _)=_;rw[au g,nR<|aF ke iM,vO]
def j5(b:ai d j c a=Y (.B i,a))(e:ai d k c a=Y (l,h))(f:k1 a .ignore (.B i)=Q)(n:h.b i=.A g)(o:g.length<1000000)(p:m (.C,h.A i<|.A<|g++[l])):ak (ai d (.h j .ignore<|.A k .B) c a) m:=rG b f (av e aQ)<|ax _ (y5 n o) p
def h5(b:a.b j=.A g)(c:i=.ignore\/i=.warn\/i=.raise\/i=.log):k1 a i (.B j)=true:=by
 rcases c with rfl|rfl|rfl|rfl
 all_goals
  show(e9<|a.b j).isSome=Q;rw[b];rfl
def r5(b:ai d j c a=Y (.B i,a))(e:a.b i=.A g):ai d (.L .init j) c a=Y (.A g.length,a):=
 cS b (by show((e9<|a.b i).or ab).map _=_;rw[e];rfl)
def pp(b:bn (.A i) lc=Y (.F [.A j,.A k])):jV (bq i l m n) j k:=λc a=>
 bi Z (a' (by show(((if bG (.A i)then ab else bn (.A i) lc:aD V).or _).map _)=_;rw[ao<|show¬bG (.A i)=Q from dy,b];rfl)<|a3 Z Z)
def QS(q:i+7<=a.a)(r:b.c.length<1000000)(s:jV (bq k j l m) n o)(e:c 0=Y (.B<|i+1))(t:c 1=Y (aa k))(u:c 2=Y j)(v:c 3=Y l)(w:c 4=Y m):
 ak (aw (al<|p+3) (bp .J).b c<|ap i a b) (fp λx=>x=(.A b.c.length,ap i (a.B .B)<|b.B (bq k j l m) n o)):=by
 haveI g:∀(d:bR)(c:aA)(a:af)(b:ci)(f:aC)(j:V),c 0=Y (.B<|i+1)->(eF .F).contains f=Q->d1 f (n1 i b.a)=Y j->ai d (.D (.A 0) f) c (ap i a b)=Y (j,ap i a b):=
  λd c a b f j e y z=>dw (ac e) (c7<|ae Z) y z
 refine a' (e:=bq k j l m) (f:=ap i (a.B .B) b) ?_ ?_;.rw[<-lv q];exact pO (a0 (ac t)<|a0 (ac u)<|a0 (ac v)<|a0 (ac w)<|a0 (g _ _ _ _ "line" (.A 0) e Z Z) aQ) Z Z<|CD
 .refine gA<|j5 (g _ _ _ _ "rows" _ e Z Z) (ac Z) (h5 (c7<|ae Z)<|.inl Z) (c7<|ae Z) r ?_;rw[SH];refine eL (bM Z<|s p _) Z ?_;refine jF (bL (bL (g _ _ _ _ "height" _ e Z Z) (ac Z) Z) (ac Z) Z) (ac e) (c7<|ae Z) Z Z ?_;refine Eq.mpr (aF (λh=>ak (aw _ _ _ h) _)<|vY _<|b.a-n+o) ?_;refine a3 (bL (r5 (g _ _ _ _ "rows" _ e Z Z)<|c7<|ae Z) Z ?_) Z;refine aF (λh=>Y<|V.A h) ?_;rw[cs,ff];exact ot
def eI(f:R V)(a:U):V:=(f[a]?).getD .C
def yV(a b:V)(c:f.length<=3):a6 ((aN ((a::b::f).length<=(bp .J).a)&&aN ((bp .J).a<=(a::b::f).length+(bp .J).c.length))=Q)<|bV .J (a::b::f) 2=Y (eI f 0)/\bV .J (a::b::f) 3=Y (eI f 1)/\bV .J (a::b::f) 4=Y (eI f 2):=by
 rcases f with _|⟨d,_|⟨e,_|⟨g,_|⟨_,_⟩⟩⟩⟩;.exact db Z Z Z Z
 .exact db Z Z Z Z
 .exact db Z Z Z Z
 .exact db Z Z Z Z
 .exact a2 c<|xi<|qF 4 _
def Cr(d:i+7<=a.a)(e:b.c.length<1000000)(g:f.length<=3)(h:jV (bq j (eI f 0) (eI f 1)<|eI f 2) k l):
 aR (m+4) .J (.B (i+1)::aa j::f) (ap i a b)=Y (.A b.c.length,ap i (a.B .B)<|b.B (bq j (eI f 0) (eI f 1)<|eI f 2) k l):=
 haveI c:=yV (.B<|i+1) (aa j) g
 bi c.1 (QS d e h Z Z c.2.1 c.2.2.1 c.2.2.2)
def fb(e:c 0=Y (.B i))(a:af)(b:ci):ai d (.D (.A 0) "maker") c (ap i a b)=Y (.B<|i+1,ap i a b):=dw (ac e) iN Z Z
def p3(e:c 0=Y (.B i))(a:af)(b:ci):ai d (.D (.A 0) "scope") c (ap i a b)=Y (.B<|i+4,ap i a b):=dw (ac e) iN Z Z
def DQ(e:c 0=Y (.B i)):ai d (.D (.A 0) "ways") c (ap i a b)=Y (.B<|i+6,ap i a b):=dw (ac e) iN Z Z
def uT(e:c 0=Y (.B i)):ai d (.D (.D (.A 0) "maker") "height") c (ap i a b)=Y (.A b.a,ap i a b):=dw (fb e a b) (c7<|ae Z) Z Z
def sB(e:ai d j c (ap i a b)=Y (.B<|i+1,ap i a b)):ai d (.L .init<|.D j "rows") c (ap i a b)=Y (.A b.c.length,ap i a b):=r5 (dw e (c7<|ae Z) Z Z)<|c7<|ae Z
def iz{b:aC}(d:ai (al i) k c a=Y (.B j,a))(f:bK (al i) l c a=Y (m,a))(g:a.b j=.C n e)(h:(d1 b e).isNone=Q)(q:hF n b=Y o)(r:aV (aR i o (.B j::m) a) p):aV (ai (al i) (.E k b l) c a) p:=rI d f (ux g h) q r
def pK{d:aC}(e:∀a b,ai (al j) k c (ap i a b)=Y (.B<|i+1,ap i a b))(f:bK (al j) l c (ap i a b)=Y (m,ap i a b))(g:hF .F d=Y n)(h:(d1 d<|n1 i b.a).isNone=Q)(p:aV (aR j n (.B (i+1)::m)<|ap i a b) o):aV (ai (al j) (.E k d l) c<|ap i a b) o:=iz (e a b) f (c7<|ae Z) h g p
def eE{d:aC}(e:c 0=Y (.B i))(f:bK (al j) k c (ap i a b)=Y (l,ap i a b))(g:hF .K d=Y m)(h:(d1 d [("table",V.J f0),("kind",aa "program"),("params",.C),("maker",.B<|i+1),("scope",.B<|i+4),("ways",.B<|i+6)]).isNone=Q)(o:aV (aR j m (.B i::l)<|ap i a b) n):aV (ai (al j) (.E (.A 0) d k) c<|ap i a b) n:=iz (ac e) f iN h g o
def dj(b:aV (ai d i c a) λe a=>ak (aw d j c a) k):ak (aw d (.A (.A i) j) c a) k:=gA b
def j8(e:aV (ai d i c a) λb a=>ak (aw d j (c.A k b) a) l):ak (aw d (.A (.B (.A k) i) j) c a) l:=C8 e
def pd{g:R U}(h:aV (ai d i c a) λf a=>∃b,dY (.B g) f c=Y b/\ak (aw d j b a) k):ak (aw d (.A (.B (.B g) i) j) c a) k:=v7<|h.A λl e=>e.elim λb e=>ax b e.1 e.2
def sA(e:aV (ai d i c a) λb a=>j (.B b,c,a)):ak (aw d (.A (.D i) k) c a) j:=C9 e
def zF(b:aV (aR i j k a) l)(d:bK (al i) m c a=Y (k,a)):aV (ai (al i) (.G j m) c a) l:=uF d b
def dD(b:aV (aR i j k a) λe a=>ak (aw (al i) l c a) m)(d:bK (al i) n c a=Y (k,a)):ak (aw (al i) (.A (.A<|.G j n) l) c a) m:=gA<|uF d b
def hH(b:V->af->Prop):f7:=λa=>match a.1 with|.B c=>b c a.2.2|.A=>b .C a.2.2|_=>ky
def aV.A(b:(aN (j.length<=(bp i).a)&&aN ((bp i).a<=j.length+(bp i).c.length))=Q)(c:ak (aw (al k) (bp i).b (bV i j) a)<|hH l):aV (aR (k+1) i j a) l:=
 ak.C b (c.A λd e=>by obtain⟨f,_,_⟩:=d;cases f<;>exact e)
def pc(g:aV (ai d i c a) λb h=>aV (ai d j c h) λe f=>ak (aw d k ((c.A l b).A m e) f) n):ak (aw d (.A (.B (.B [l,m])<|.I<|.A i<|.A j .B) k) c a) n:=by obtain⟨r,o,s,p,q⟩:=g;exact eL (cB<|av o<|av p aQ) Z q
def uh(r:aV (ai d j c a) λb h=>aV (ai d k c h) λe f=>aV (ai d l c f) λg q=>ak (aw d m (((c.A n b).A o e).A i g) q) p):ak (aw d (.A (.B (.B [n,o,i])<|.I<|.A j<|.A k<|.A l .B) m) c a) p:=by obtain⟨w,s,x,t,i,u,v⟩:=r;exact eL (cB<|av s<|av t<|av u aQ) Z v
def OJ(c:i+7<=a.a):aR (j+2) .ag_ [k] (ap i a b)=Y (.B a.a,ap i (a.B<|b7 .C) b):=by
 refine bi Z<|a3 ?_ Z;show sg (al<|j+1) .B [] (ap i a b)=_;show(aR (j+1) .w_ [.B a.a]<|(ap i a b).B<|.C .B []).bind _=_;haveI:aR (j+1) .w_ [.B a.a] ((ap i a b).B<|.C .B [])=Y (.C,ap i (a.B<|b7 .C) b):=by rw[<-lv c];exact bi Z<|em Z Z Z Z<|aU Z
 rw[this];rfl
def Ch(c:i+7<=j)(e:a.b j=b7 .C):aR (k+1) .aG_ [.B<|i+1,.B j] (ap i a b)=Y (.C,ap i (a.A j<|b7<|.A b.c.length) b):=by haveI d:(ap i a b).b j=b7 .C:=(gc c).trans e;refine bi Z<|as (aK (dw (ac Z) d Z Z) Z Z)<|jF (sB<|ac Z) (ac Z) d Z Z ?_;rw[p6 c];exact aU Z
def yQ(c:b.b.length<1000000):aR (k+1) .ap_ [.B<|i+4,.E j] (ap i a b)=Y (.A b.b.length,ap i a<|b.A j):=by refine bi Z<|gA<|j5 (dw (ac Z) (c7<|ae Z) Z Z) (ac Z) (h5 (c7<|ae Z)<|.inl Z) (c7<|ae Z) (by rw[bC];exact c) ?_;rw[SG];refine a3 (bL (r5 (dw (ac Z) (c7<|ae Z) Z Z)<|c7<|ae Z) Z<|aF (λd=>Y<|V.A d) ?_) Z;rw[bC];show(((b.b++[j]).length:U):ah)-1=_;rw[cs,ff];exact ot
def y2{b:U}(c:b<1000000):k2 a .cdata (.A b)=Y (.E<|.C b):=by unfold k2;rw[show co (.A (b:ah))=Y (b:ah)from Z,xm,au ⟨iU b,eo.2 c⟩,qB]
def AK(c:b.b.length<1000000):aR (j+2) .ae_ [.B i] (ap i a b)=Y (.A b.b.length,ap i a<|b.A<|.B b.b.length):=by refine aV.C<|aV.A Z<|sA<|iz (p3 Z _ _) (a0 (bL (i:=.E<|.C b.b.length) Z (cS (r5 (dw (p3 Z _ _) (c7<|ae Z) Z Z)<|c7<|ae Z) ?_) Z) aQ) (c7<|ae Z) Z Z<|aV.B (yQ c)<|am Z Z;rw[bC];exact y2 c
end
structure nl where
 a:de
 b:U->U
def oY(a:ci):Prop:=iu a.b/\∀b∈a.b,gI b
def hE(a:aC):Bool:=a=="jump"||a=="jumpif"||a=="jumpunless"||a=="jumpnil"
def kl(a:V):Bool:=(e8 a).isNone
def j1(d:U->Prop)(e:V):Prop:=cy λa b f g=>e=bq a b f g/\((hE a=Q/\∃c,b=.B c/\d c)\/(hE a=M/\kl b=Q))
abbrev g7(a:aC)(b c d:U)(e:ah):V:=.L .G [("sort",aa a),("first",.A b),("last",.A c),("target",.B d),("depth",.A e)]
def nh(d:U->Prop)(e:V):Prop:=ni λf a b c g=>e=g7 f a b c g/\a<b/\d c
def f'(c:U)(b:af)(a:U):Prop:=bD (c+7<=a)<|a<b.a/\(b.b a=b7 .C\/∃d:U,b.b a=b7 (.A d))
def fW(d:U->U)(a:V):V:=(ug a).elim a λb=>(b.2[1]?).elim a λc=>(e8 c.2).elim a λe=>.L b.1<|b.2.set 1 (c.1,.A<|d e)
def oh:fW a (bZ b<|.B c)=bZ b (.A<|a c):=Z
def CG:fW b (dS a)=dS a:=Z
def CI:fW d (bq a (.A b) c .C)=bq a (.A b) c .C:=Z
def CJ:fW d (bq a (.E b) c .C)=bq a (.E b) c .C:=Z
structure nj(f:nl)(i:af)(j:ci):Prop where
 c:∀(g:U)(k:an),j.b[g]?=Y k->f.a.a[g]?=Y k
 d:∀(g:U)(l:V),j.c[g]?=Y l->f.a.b[g]?=Y (fW f.b l)
 e:∀(h m:U),h<i.a->i.b h=b7 (.A m)->f.b h=m
 b:iu f.a.a
 a:gK f.a.a
def bu(b:af)(c:ci)(d:af)(e:ci)(f:nl->Prop):Prop:=∀a,nj a d e->nj a b c/\f a
abbrev f6:=R<|U×cn
structure aG(o:U)(q:f6)(l:af)(m:ci)(r:R V×R V)(s t u:U):Prop where
 a:o+7<=l.a
 g:oY m
 b:m.c.length=s
 f:m.b.length=t
 d:m.e=r.1/\m.d=r.2
 e:s+u<=2480/\t+u<=2480
 c:∀n∈q,o+7<=n.1/\n.1<l.a/\l.b n.1=n.2
 k:q.Pairwise λn v=>n.1≠v.1
 i:∀p,o+7<=p->p<l.a->l.b p=b7 .C->(p,b7 .C)∈q
 j:∀w∈m.c,j1 (f' o l) w
 h:∀x∈m.e,nh (f' o l) x
section
variable{c:U}{h p:f6}{a l:af}{b n:ci}{j:R V×R V}{e f i d m:U}{k:V}{r:an}{q s g:ah}{o:nl}
def j1.A(g:j1 t k)(i:∀d,t d->u d):j1 u k:=by
 obtain⟨a,b,c,e,f,g|g⟩:=g;.exact⟨a,b,c,e,am f<|.inl<|am g.1<|g.2.elim λd h=>ax d h.1<|i d h.2⟩
 .exact⟨a,b,c,e,am f<|.inr g⟩
def nh.A(g:nh t k)(b:∀d,t d->u d):nh u k:=by refine ni.A g λc e d a f g=>?_;exact⟨c,e,d,a,f,aL g.1 g.2.1<|b a g.2.2⟩
def bu.B(e:bu a b t u v)(c:bu t u l n w):bu a b l n λo=>v o/\w o:=λo d=>aL ((e o (c o d).1).1) ((e o (c o d).1).2)<|(c o d).2
def bu.A(c:bu a b l n t)(e:∀o,t o->u o):bu a b l n u:=λo d=>⟨(c o d).1,e o (c o d).2⟩
def bu.H:bu a b a b λd=>True:=λd c=>am c ds
def aG.B(g:aG c h a b j e f i)(d:t<=i):aG c h a b j e f t:=⟨g.a,g.g,g.b,g.f,g.d,⟨br (lH d _) g.e.1,br (lH d _) g.e.2⟩,g.c,g.k,g.i,g.j,g.h⟩
def aG.K(d:aG c h a b j e f i):b.c.length<1000000:=by haveI:=d.e.1;rw[d.b];exact(aj Z:N [_,_] (.B X 1000000) [.A (X+S) 2480]) this
def aG.I(d:aG c h a b j e f i):b.b.length<1000000:=by haveI:=d.e.2;rw[d.f];exact(aj Z:N [_,_] (.B X 1000000) [.A (X+S) 2480]) this
def nj.A(c:nj o l b)(g:a.a<=l.a)(h:∀(d e:U),d<a.a->a.b d=b7 (.A e)->l.b d=b7 (.A e)):nj o a b:=⟨c.c,c.d,λd e f i=>c.e d e (eA f g)<|h d e f i,c.b,c.a⟩
def f'.A(g:f' c a d)(b:a.a<=l.a)(e:l.b d=a.b d):f' c l d:=⟨g.1,eA g.2.1 b,e▸g.2.2⟩
def lu(b:d<a.a):(a.B t).b d=a.b d:=ao<|ed b
def aG.D(k:aG c h a b j e f i)(r:cn):aG c ((a.a,r)::h) (a.B r) b j e f i:=
 ⟨m8 k.a,k.g,k.b,k.f,k.d,k.e,λo l=>by
  rcases bj.1 l with rfl|l;.exact aL k.a (eV _) iM
  .haveI:=k.c o l;exact aL this.1 (il this.2.1)<|(lu this.2.1).trans this.2.2,.cons (λo l=>jL (k.c o l).2.1) k.k,λd t m n=>by
  by_cases s:d=a.a;.subst s;rw[iM]at n;rw[n];exact .head _
  .haveI m:=YV (xf m) s;rw[lu m]at n;exact .tail _<|k.i d t m n,λp q=>(k.j p q).A λd g=>g.A (eU _)<|lu g.2.1,λp q=>(k.h p q).A λd g=>g.A (eU _)<|lu g.2.1⟩
def bu.C:bu a b (a.B t) b λh=>True:=λo c=>am (c.A (eU _) λd e f g=>(lu f).trans g) ds
def lj:t∈p++u::v<->t=u\/t∈p++v:=by rw[ge,ge,bj];exact⟨λg=>g.elim (.inr∘.inl) λg=>g.imp id .inr,λg=>g.elim (.inr∘.inl) λg=>g.imp id .inr⟩
def aG.L(g:aG c (p++(d,u)::t) a b j e f i):bD (∀h∈p++t,d≠h.1)<|(p++t).Pairwise λg h=>g.1≠h.1:=YB.1<|(YE f4).1 g.k
def aG.C(h:aG c (p++(d,t)::u) a b j e f i)(g:t≠b7 .C):aG c (p++u) a b j e f i:=
 ⟨h.a,h.g,h.b,h.f,h.d,h.e,λk l=>h.c k<|lj.2<|.inr l,h.L.2,λd m n o=>(lj.1<|h.i d m n o).resolve_left λq=>g (tn q).2.symm,h.j,h.h⟩
def aG.A(h:aG c (p++(d,t)::u) a b j e f i):bD (c+7<=d)<|bD (d<a.a)<|a.b d=t:=haveI g:=h.c (d,t)<|lj.2<|.inl Z;⟨g.1,g.2.1,g.2.2⟩
def mO:(a.A d t).b d=t:=au Z
def mP(g:m≠d):(a.A d t).b m=a.b m:=ao g
def aG.J(h:aG c (p++(d,v)::u) a b j e f i)(z:f' c a d->t=b7 .C\/∃k:U,t=b7 (.A k)):aG c (p++(d,t)::u) (a.A d t) b j e f i:=by
 have k:=h.L;have w:=h.A;have x:∀m,f' c a m->f' c (a.A d t) m:=λm g=>⟨g.1,g.2.1,by
  by_cases l:m=d;.clear h;subst l;rw[mO];exact z g
  .rw[mP l];exact g.2.2⟩
 refine⟨h.a,h.g,h.b,h.f,h.d,h.e,λy n=>?_,(YE f4).2<|.cons k.1 k.2,λm A B o=>?_,λq r=>(h.j q r).A x,λq r=>(h.h q r).A x⟩
 .rcases lj.1 n with rfl|n
  .exact aL w.1 w.2.1 mO
  .haveI s:=h.c y<|lj.2<|.inr n;exact aL s.1 s.2.1<|(mP (k.1 y n).symm).trans s.2.2
 .clear k;by_cases l:m=d
  .clear h;subst l;rw[mO]at o;rw[o];exact lj.2<|.inl Z
  .rw[mP l]at o;exact lj.2<|(lj.1<|h.i m A B o).elim (λC=>a2 (tn C).1 l) .inr
def bu.D(g:∀f:U,a.b d≠b7 (.A f)):bu a b (a.A d t) b λk=>True:=λo h=>am (h.A (aY _) λm e j c=>(mP λi=>g e<|by rw[<-i];exact c).trans c) ds
def aG.E(g:aG c (p++(d,b7 .C)::t) a b j e f i):aG c (p++(d,b7<|.A e)::t) (a.A d<|b7<|.A e) b j e f i/\bu a b (a.A d<|b7<|.A e) b λo=>o.b d=e:=
 ⟨g.J λl=>.inr ⟨e,Z⟩,λo h=>⟨(bu.D (λk=>by rw[g.A.2.2];nofun) o h).1,h.e d e g.A.2.1 mO⟩⟩
def aG.C_(g:aG c (p++(d,b7 .C)::t) a b j e f i):aG c (p++t) (a.A d<|b7<|.A e) b j e f i/\bu a b (a.A d<|b7<|.A e) b λo=>o.b d=e:=am (g.E.1.C nofun) g.E.2
def aG.E_(d:aG c h a b j e f i):aG c h a {b with a:=g} j e f i:=⟨d.a,d.g,d.b,d.f,d.d,d.e,d.c,d.k,d.i,d.j,d.h⟩
def bu.F:bu a b a {b with a:=g} λf=>True:=λf c=>am ⟨c.c,c.d,c.e,c.b,c.a⟩ ds
def AA{a b:R u}(g:a[m]?=Y t):(a++b)[m]?=Y t:=(m3 (fe.1 g).1).trans g
def Az:(t++[u])[t.length]?=Y u:=Yq
def aG.F(l:aG c h a b j e f<|i+1)(u:j1 (λd=>(d,b7 .C)∈h) k):aG c h (a.B .B) (b.B k q s) j (e+1) f i/\bu a b (a.B .B) (b.B k q s) λo=>o.a.b[e]?=Y (fW o.b k):=by haveI n:=(l.D .B).C (p:=[]) nofun;refine⟨⟨n.a,l.g,cs.trans<|aF (·+1) l.b,l.f,l.d,⟨br (fI<|tl _ _ _) l.e.1,iX l.e.2⟩,n.c,n.k,n.i,λr v=>(ge.1 v).elim (n.j r) λt=>?_,n.h⟩,λo p=>⟨(bu.C (b:=b) o ⟨p.c,λm r t=>p.d m r<|AA t,p.e,p.b,p.a⟩).1,l.b▸p.d _ _ Az⟩⟩;rw[cm.1 t];exact u.A λd g=>⟨(l.c _ g).1,il (l.c _ g).2.1,.inl<|(lu (l.c _ g).2.1).trans (l.c _ g).2.2⟩
def oY.A(l:oY b)(a:r∉b.b\/cf r=Q)(n:gI r):oY<|b.A r:=by
 refine am (λm o f d e h=>?_) λf i=>?_
 .rw[show(b.A r).b=b.b++[r]from Z,List.getElem?_append]at d e;have j:∀{m:U},([r]:R an)[m]?=Y f->m=0/\r=f:=λ{m} g=>by
   cases m with
   |zero=>exact am Z<|cZ g
   |succ m=>exact b8 g
  split at d<;>split at e;.exact l.1 m o f d e h
  .refine jz (j e) λq k=>?_;subst k;refine b1 a (λa=>?_) λa=>?_
   .exact a2 (lF d) a
   .rw[a]at h;exact e4 h
  .refine jz (j d) λq k=>?_;subst k;refine b1 a (λa=>?_) λa=>?_
   .exact a2 (lF e) a
   .rw[a]at h;exact e4 h
  .rename_i p c;exact Vx p c (j d).1 (j e).1
 .refine b1 (ge.1 i) (λi=>?_) λi=>?_
  .exact l.2 f i
  .exact cm.1 i▸n
def aG.H(d:aG c h a b j e f<|i+1)(k:r∉b.b\/cf r=Q)(l:gI r):aG c h a (b.A r) j e (f+1) i/\bu a b a (b.A r) λo=>o.a.a[f]?=Y r:=
 ⟨⟨d.a,d.g.A k l,d.b,cs.trans<|aF (·+1) d.f,d.d,⟨iX d.e.1,br (fI<|tl _ _ _) d.e.2⟩,d.c,d.k,d.i,d.j,d.h⟩,λo g=>⟨⟨λm n p=>g.c m n<|AA p,g.d,g.e,g.b,g.a⟩,d.f▸g.c _ _ Az⟩⟩
end
section
variable{c:U}{h p:f6}{a l:af}{b o:ci}{j:R V×R V}{e f i d n:U}{k:V}{s:an}{q t g:ah}{m:aA}{r:bk}
def jc(e:bR)(m:aA)(h:f6)(a:af)(f:bQ)(k:V):Prop:=kM λc b q=>k=bq c (eI b 0) (eI b 1) (eI b 2)/\b.length<=3/\bK e f m a=Y (aa c::b,a)/\(∃t,jV k q t)/\j1 (λd=>(d,b7 .C)∈h) k
def mr(a:(!hE u&&kl k)=Q):j1 x<|bq u k v w:=⟨u,k,v,w,Z,.inr<|by rw[ez,kx]at a;exact⟨a.1,a.2⟩⟩
def hk(g:bK v w m a=Y ([aa u],a))(b:bn (.A u) lc=Y (.F [.A q,.A t]))(c:(!hE u&&Q)=Q):jc v m h a w<|bq u .C .C .C:=⟨u,[],q,bB Z (c8 _) g (a1 _<|pp b)<|mr c⟩
def gD(g:bK v w m a=Y ([aa u,k],a))(b:bn (.A u) lc=Y (.F [.A q,.A t]))(c:(!hE u&&kl k)=Q):jc v m h a w<|bq u k .C .C:=⟨u,[k],q,bB Z (ec Z) g (a1 _<|pp b)<|mr c⟩
def cX(g:bK w x m a=Y ([aa u,k,v],a))(b:bn (.A u) lc=Y (.F [.A q,.A t]))(c:(!hE u&&kl k)=Q):jc w m h a x<|bq u k v .C:=⟨u,[k,v],q,bB Z (ec Z) g (a1 _<|pp b)<|mr c⟩
def Ul(g:bK x y m a=Y ([aa u,k,v,w],a))(b:jV (bq u k v w) q t)(c:(!hE u&&kl k)=Q):jc x m h a y<|bq u k v w:=⟨u,[k,v,w],q,bB Z (aY _) g (a1 _ b)<|mr c⟩
def DT(g:bK v w m a=Y ([aa u,k],a))(b:jV (bq u k .C .C) q t)(c:(!hE u&&kl k)=Q):jc v m h a w<|bq u k .C .C:=⟨u,[k],q,bB Z (ec Z) g (a1 _ b)<|mr c⟩
def gE(g:bK v w m a=Y ([aa u,.B d],a))(b:bn (.A u) lc=Y (.F [.A q,.A t]))(c:hE u=Q)(e:(d,b7 .C)∈h):jc v m h a w<|bq u (.B d) .C .C:=⟨u,[.B d],q,Z,ec Z,g,⟨_,pp b⟩,u,_,_,_,Z,.inl ⟨c,d,Z,e⟩⟩
inductive q7(a:bR)(b:aA)(c:f6):R bQ->R V->Prop
 |A:q7 a b c [] []
 |bY {d:bQ} {e:V} {f:R bQ} {g:R V} (i:∀h,jc a b c h d e) (j:q7 a b c f g):q7 a b c (d::f) (e::g)
abbrev QW(b:bk)(c:R bQ)(a:cu):cu:=c.foldr (λd a=>.A (.A<|.E b "put" d) a) a
def aW.B:aW u e []:=λa a r=>b8 r
def aW.A(g:u[e]?=Y k)(a:aW u (e+1) v):aW u e (k::v):=λn b r=>by
 cases n with
 |zero=>have c:=ch r;subst c;exact g
 |succ n=>haveI:=a n b r;rw[hn,lG 1]at this;exact this
def po(p:∀a b,ai (al<|u+4) v m (ap c a b)=Y (.B<|c+1,ap c a b))(d:aG c h a b j e f<|i+1)(r:jc (al<|u+4) m h (ap c a b) w k)(s:∀l o,aG c h l o j (e+1) f i->bu a b l o (λg=>g.a.b[e]?=Y (fW g.b k))->x (.A e) (ap c l o)):aV (ai (al<|u+4) (.E v "put" w) m<|ap c a b) x:=by obtain⟨C,D,q,rfl,y,z,⟨t,A⟩,B⟩:=r;haveI n:=d.F (q:=q) (s:=t) B;exact pK p z Z Z<|aV.B (Cr d.a d.K y A)<|d.b▸s _ _ n.1 n.2
def fC(s:∀a b,ai (al<|u+4) y m (ap c a b)=Y (.B<|c+1,ap c a b))(n:aG c h a b j e f<|i+w)(t:q7 (al<|u+4) m h x v)(B:v.length=w)(p:∀l o,aG c h l o j (e+w) f i->bu a b l o (λd=>aW d.a.b e<|v.map<|fW d.b)->ak (aw (al<|u+4) z m<|ap c l o) A):
 ak (aw (al<|u+4) (QW y x z) m<|ap c a b) A:=by
 subst B
 induction t generalizing a b e with
 |A=>exact p a b n λd C=>am C aW.B
 |@bY H k x v g I D=>
  refine dj<|po s n (g _) λJ K E F=>D E λl o q G=>p l o ?_ ?_;.rw[hn,lG 1]at q;exact q
  .exact(F.B G).A λd r=>aW.A r.1 r.2
def nN(k:m 0=Y (.B c))(d:aG c h a b j e f<|i+1)(n:∀o,aG c h a o j e (f+1) i->bu a b a o (λl=>l.a.a[f]?=Y (.B f))->u (.A f) (ap c a o)):aV (ai (al<|v+2) (.E (.A 0) "hidden" .B) m<|ap c a b) u:=by haveI g:=d.H (r:=.B f) (.inr Z) ⟨Z,"%",λp=>Z,Z,.inl Z⟩;exact eE k Z Z Z<|aV.B (AK d.I)<|by rw[d.f];exact n _ g.1 g.2
def lb(k:∀a b,ai (al<|u+2) v m (ap c a b)=Y (.B<|c+1,ap c a b))(g:aG c h a b j e f i)(n:∀l d,aG c ((d,b7 .C)::h) l b j e f i->bu a b l b (λo=>eN)->w (.B d) (ap c l b)):aV (ai (al<|u+2) (.E v "label" .B) m<|ap c a b) w:=
 pK k Z Z Z (aV.B (OJ g.a)<|n _ _ (g.D _) .C)
def gC(h:∀a b,ai (al<|u+1) v m (ap c a b)=Y (.B<|c+1,ap c a b))(k:ai (al<|u+1) r m (ap c a b)=Y (.B d,ap c a b))(g:aG c (p++(d,b7 .C)::w) a b j e f i)(o:∀l,aG c (p++w) l b j e f i->bu a b l b (λn=>n.b d=e)->ak (aw (al<|u+1) x m<|ap c l b) y):
 ak (aw (al<|u+1) (.A (.A<|.E v "place"<|.A r .B) x) m<|ap c a b) y:=
 dj (pK h (av k aQ) Z Z<|aV.B (Ch g.A.1 g.A.2.2)<|by rw[g.b];exact o _ g.C_.1 g.C_.2)
def v8(h:∀a b,ai (al<|u+1) v m (ap c a b)=Y (.B<|c+1,ap c a b))(k:ai (al<|u+1) r m (ap c a b)=Y (.B d,ap c a b))(g:aG c (p++(d,b7 .C)::w) a b j e f i)(o:∀l,aG c (p++(d,b7<|.A e)::w) l b j e f i->bu a b l b (λn=>n.b d=e)->ak (aw (al<|u+1) x m<|ap c l b) y):
 ak (aw (al<|u+1) (.A (.A<|.E v "place"<|.A r .B) x) m<|ap c a b) y:=
 dj (pK h (av k aQ) Z Z<|aV.B (Ch g.A.1 g.A.2.2)<|by rw[g.b];exact o _ g.E.1 g.E.2)
def jE(d:m v=Y (.B<|c+1))(k:ai u r m (ap c a b)=Y (.A g,ap c a b))(l:aG c h a b j e f i)(n:∀o,o.a=g->aG c h a o j e f i->bu a b a o (λp=>eN)->ak (aw u w m<|ap c a o) x):ak (aw u (.A (.E (.A v) "height" r) w) m<|ap c a b) x:=
 jF k (ac d) (c7<|ae Z) Z Z ((vY b g).symm▸n _ Z l.E_ .F)
def eT(g:∀a b,ai (al<|u+4) v m (ap c a b)=Y (.B<|c+1,ap c a b))(n:aG c h a b j e f<|i+1)(p:jc (al<|u+4) m h (ap c a b) w k)(q:∀l o,aG c h l o j (e+1) f i->bu a b l o (λd=>d.a.b[e]?=Y (fW d.b k))->ak (aw (al<|u+4) x m<|ap c l o) y):ak (aw (al<|u+4) (.A (.A<|.E v "put" w) x) m<|ap c a b) y:=dj<|po g n p q
def ui(g:∀a b,ai (al<|u+2) v m (ap c a b)=Y (.B<|c+1,ap c a b))(k:aG c h a b j e f i)(n:∀l d,aG c ((d,b7 .C)::h) l b j e f i->bu a b l b (λo=>eN)->ak (aw (al<|u+2) w (m.A x<|.B d)<|ap c l b) y):ak (aw (al<|u+2) (.A (.B (.A x)<|.E v "label" .B) w) m<|ap c a b) y:=j8<|lb g k n
def pe(k:∀a b,ai (al<|u+2) v m (ap c a b)=Y (.B<|c+1,ap c a b))(g:aG c h a b j e f i)(o:∀l d n,aG c ((n,b7 .C)::(d,b7 .C)::h) l b j e f i->bu a b l b (λs=>eN)->ak (aw (al<|u+2) w ((m.A x<|.B d).A y<|.B n)<|ap c l b) z):ak (aw (al<|u+2) (.A (.B (.B [x,y])<|.I<|.A (.E v "label" .B)<|.A (.E v "label" .B) .B) w) m<|ap c a b) z:=pc<|lb k g λs s g p=>lb k g λs s q r=>o _ _ _ q<|(p.B r).A λs s=>ds
def yZ(d:m 0=Y (.B c))(g:aG c h a b j e f<|i+1)(l:∀o,aG c h a o j e (f+1) i->bu a b a o (λk=>k.a.a[f]?=Y (.B f))->ak (aw (al<|u+2) v ((m.A w<|.B<|c+1).A x<|.A f)<|ap c a o) y):ak (aw (al<|u+2) (.A (.B (.B [w,x])<|.I<|.A (.D (.A 0) "maker")<|.A (.E (.A 0) "hidden" .B) .B) v) m<|ap c a b) y:=pc<|.B (fb d a b)<|nN d g l
def Jk(d:m 0=Y (.B c))(g:aG c h a b j e f<|i+1)(l:∀o,aG c h a o j e (f+1) i->bu a b a o (λk=>k.a.a[f]?=Y (.B f))->ak (aw (al<|u+2) v (((m.A w<|.B<|c+1).A x<|.A b.a).A y<|.A f)<|ap c a o) z):ak (aw (al<|u+2) (.A (.B (.B [w,x,y])<|.I<|.A (.D (.A 0) "maker")<|.A (.D (.D (.A 0) "maker") "height")<|.A (.E (.A 0) "hidden" .B) .B) v) m<|ap c a b) z:=uh<|.B (fb d a b)<|.B (uT d)<|nN d g l
end
abbrev aH(a:aC)(b:R V):V:=.L .A [("kind",aa a),("parts",.F b),("line",.A 0),("own",.C)]
abbrev mJ(a:aC)(b:U)(c:aC):V:=bq "send" (aa a) (.A b)<|k4 c
def vL:R<|an×V:=(j6 Dr).getD []
def fS(b:de)(c:U):Prop:=∃a,b.a[c]?=Y a/\cf a=Q
structure ef(r s:U)(t u:V)(v w:U):Prop where
 a:∀{x b c d h e n:U}{i:f6}{j:af}{k:ci}{o:R V×R V}{p:V->af->Prop},aG b i j k o h e (n+w)->(d,b7 .C)∈i->c<e->
 (∀l m f q,h<=f->e<=q->aG b i l m o f q n->bu j k l m (λg=>fS g.a c->f<=g.b d->ft g.a s t v c e h f (g.b d))->p .C (ap b l m))->
 aV (aR (x+r+10) .H [.B b,u,.A c,.B d]<|ap b j k) p
def aA.B(b:aA)(c:U)(d:aA):aA:=λa=>if a<c then b a else d a
def g8{f:aA}(g:a<=b):(f.A b d).B a c=f.B a c:=qX λh=>by
 by_cases e:h<a;.exact(au e).trans<|(ao<|ed<|eA e g).trans (au e).symm
 .exact(ao e).trans (ao e).symm
def iD{b:aA}:b.B a b=b:=qX λc=>by unfold aA.B;split<;>rfl
def DA{d:aA}(e:b<=a):d.A a c=d.B b (d.A a c):=(g8 e▸iD).symm
section
variable{a:af}{b:ci}{c:R V}
def yb(b:ci):Prop:=∀a∈b.b,bG a=M
def r'(b:an):∀{a:R an},(∀d∈a,bG d=M)->gL (a.map .E)=Q/\dJ b (a.map .E)=aN (b∈a)/\(b∈a->a[js b<|a.map .E]?=Y b):=by
 intro a
 induction a with
 |nil=>intro _;exact aL Z Z λc=>by exact bW c
 |cons d a g=>
  intro c;haveI f:=g λh i=>c h<|cx _ i;refine aL ?_ ?_ λj=>?_;.show(!bG d&&gL (a.map .E))=Q;rw[c d bP,f.1];rfl
  .show(aN (d=b)||dJ b (a.map .E))=_;rw[f.2.1,<-XS];exact i6.2 ⟨λc=>bj.2<|c.imp Eq.symm id,λc=>(bj.1 c).imp Eq.symm id⟩
  .show(d::a)[if d=b then 0 else js b (a.map .E)+1]?=_;by_cases e:d=b
   .rw[au e,e];rfl
   .rw[ao e];exact f.2.2<|(bj.1 j).resolve_left λc=>e c.symm
def DS{c h}(k:c e a=Y (Q,f))(l:ak (h e f) λb=>match b.1 with|.A=>ak (jw c h g b.2.1 b.2.2) d|.C=>ak (jw c h g b.2.1 b.2.2) d|.D=>d (.A,b.2)|.B _=>d b):ak (jw c h (g+1) e a) d:=by
 refine a8 l λm j=>?_;obtain⟨n,o,p⟩:=m;haveI i:=j.2;show ak ((c e a).bind _) d;rw[k];show ak ((h e f).bind _) d;rw[j.1];clear j;cases n with
 |A=>exact i
 |C=>exact i
 |D=>exact ax _ Z i
 |B q=>exact ax _ Z i
def DR{b c}(h:b d a=Y (M,f))(i:e (.A,d,f)):ak (jw b c (g+1) d a) e:=by show ak ((b d a).bind _) e;rw[h];exact ax _ Z i
def C'(c:ak (jw (λd a=>bz (al e) g d a) (λd a=>aw (al e) h d a) 100000 d a) λb=>match b.1 with|.A=>ak (aw (al e) i b.2.1 b.2.2) f|_=>f b):ak (aw (al e) (.A (.I g h) i) d a) f:=gd c
def Nw(n:yb b)(j:bG e=M):aR (f+1) .ab_ [.B<|d+4,.E e] (ap d a b)=Y (if e∈b.b then .F [.A 0,.A (js e (b.b.map .E):U)]else .C,ap d a b):=by
 haveI i:=r' e n;have l:∀{k:bk}{c:aA}{g:bR},ai g k c (ap d a b)=Y (.B<|d+4,ap d a b)->ai g (.D k "names") c (ap d a b)=Y (.B<|d+5,ap d a b):=λo=>dw o (c7<|ae Z) Z Z;haveI m:∀(g:bR)(c:aA),c 1=Y (.E e)->c 2=Y (.B<|d+4)->bz g (.C .In (.A 1)<|.D (.A 2) "names") c (ap d a b)=Y (aN<|e∈b.b,ap d a b):=λg c p q=>
  aK (ac p) (l<|ac q) ((u2 j (c7<|ae Z) i.1).trans<|aF Y i.2.1)
 refine bi Z<|eL Z Z<|C' ?_;generalize 99998=r;refine DS Z ?_;by_cases h:e∈b.b;.rw[au h];refine gB (e:=ap d a b) ((m _ _ Z Z).trans<|by rw[c0 h])<|a3 (fV (ac Z) ?_) Z;exact ak.D<|rG (l<|ac Z) (h5 (c7<|ae Z)<|.inr<|.inr<|.inr Z) (a0 (ac Z) aQ)<|ax _ (JK (c7<|ae Z)<|by rw[j,i.1,i.2.1,c0 h];rfl) Z
 .rw[ao h];exact fX ((m _ _ Z Z).trans<|by rw[ct h])<|eL (fV (dw (ac Z) (c7<|ae Z) Z Z) Z) Z<|aU<|DR Z<|a3 Z Z
def p9(c:aG d g a b h i f<|j+1)(o:gI e)(s:∀n p q,f<=q->aG d g a n h i q j->bu a b a n (λr=>r.a.a[p]?=Y e)->k (.F [.A 0,.A (p:U)]) (ap d a n)):aV (aR (l+3) .aA_ [.B d,.E e]<|ap d a b) k:=by
 have t:yb b:=λw x=>(c.g.2 w x).1;haveI y:=Nw (d:=d) (f:=l+1) (a:=a) t o.1;refine aV.A Z<|j8<|iz (p3 Z _ _) Z (c7<|ae Z) Z Z<|aV.B y<|sA ?_;by_cases m:e∈b.b;.rw[au m];exact aV.B ((b6<|aK (ac Z) Z Z).trans<|ac Z)<|s b _ f (aY _) (c.B<|eU _) λr u=>am u<|u.c _ _<|(r' e t).2.2 m
 .haveI v:=c.H (.inl m) o;rw[ao m];refine aV.B ((cw<|aK (ac Z) Z Z).trans<|cB<|a0 Z<|av (aV.C<|iz (p3 Z _ _) Z (c7<|ae Z) Z Z<|aV.B (yQ c.I)<|am Z Z) aQ) ?_;rw[c.f];exact s _ f _ (eU _) v.1 v.2
def z0(s:f 0=Y (.B d))(r:aG d m a b n g o<|p+1)(t:bK (al<|h+5) k f (ap d a b)=Y (aa e::c,ap d a b))(u:c.length<=3)(v:jV (bq e (eI c 0) (eI c 1)<|eI c 2) i j)(w:l (.A g)<|ap d (a.B .B)<|b.B (bq e (eI c 0) (eI c 1)<|eI c 2) i j):aV (ai (al<|h+5) (.E (.A 0) "put" k) f<|ap d a b) l:=by haveI x:aR (h+4) .J [.B<|d+1,aa e,eI c 0,eI c 1,eI c 2] (ap d a b)=Y (.A g,ap d (a.B .B)<|b.B (bq e (eI c 0) (eI c 1)<|eI c 2) i j):=r.b▸Cr r.a r.K (aY _) v;haveI q:=yV (.B d) (aa e) u;exact eE s t Z Z<|aV.A q.1<|sA<|pK (fb Z) (a0 (ac Z)<|a0 (ac q.2.1)<|a0 (ac q.2.2.1)<|a0 (ac q.2.2.2) aQ) Z Z<|aV.B x w
def rH(t:f 0=Y (.B d))(q:aG d g a b h e i<|j+1)(u:jc (al<|k+5) f g (ap d a b) l m)(v:∀o p,aG d g o p h (e+1) i j->bu a b o p (λr=>r.a.b[e]?=Y (fW r.b m))->n (.A e) (ap d o p)):aV (ai (al<|k+5) (.E (.A 0) "put" l) f<|ap d a b) n:=by obtain⟨C,c,w,rfl,x,y,⟨z,A⟩,B⟩:=u;haveI s:=q.F (q:=w) (s:=z) B;exact z0 t q y x A<|v _ _ s.1 s.2
def n0(b:bn (.A d) vL=Y (.H e))(c:aV (aR f e [.B g,aH d h,.A i,.B j] a) λn a=>k .C a):aV (aR (f+1) .H [.B g,aH d h,.A i,.B j] a) k:=by
 refine aV.A Z<|dj ?_;show ak ((ai _ (.F (.m .raise)<|.D (.A 1) "kind") _ _).bind _) _;have l:ai (al f) (.F (.m .raise)<|.D (.A 1) "kind") (bV .H [.B g,aH d h,.A i,.B j]) a=Y (.H e,a):=by show((if bG (.A d)then ab else bn (.A d) vL:aD V).or _).map _=_;rw[ao<|show¬bG (.A d)=Q from dy,b];rfl
 rw[l];exact ak.A c λn m=>aU m
def km(c:bn (.A e) f0=Y (.H i))(m:(aN ((V.B d::aH e f::g).length<=(bp .A).a)&&aN ((bp .A).a<=(V.B d::aH e f::g).length+(bp .A).c.length))=Q)
 (n:bV .A (.B d::aH e f::g) 2=Y j)(o:aV (aR h i [.B d,aH e f,j]<|ap d a b) λt a=>k .C a):aV (aR (h+1) .A (.B d::aH e f::g)<|ap d a b) k:=by
 haveI l:∀{a b},ai (al h) (.D (.A 0) "table") (bV .A (.B d::aH e f::g)) (ap d a b)=Y (.J f0,ap d a b):=dw (ac Z) iN Z Z;refine aV.A m<|as (aK Z l ?_)<|jF Z (fb Z a b) (c7<|ae Z) Z Z ?_;.show Y (!mu (.A e) f0)=_;unfold mu;rw[c];rfl
 .refine Eq.mpr (aF (λp=>ak (aw _ _ _ p) _)<|vY b b.a)<|gA ?_;show ak ((ai _ (.F (.D (.A 0) "table")<|.D (.A 1) "kind") _ _).bind _) _;haveI q:ai (al h) (.F (.D (.A 0) "table")<|.D (.A 1) "kind") (bV .A (.B d::aH e f::g)) (ap d a b)=Y (.H i,ap d a b):=by
   show(ai _ (.D (.A 0) "table") _ _).bind _=_;rw[l];show((bn (.A e) f0).or _).map _=_;rw[c];rfl
  rw[show({b with a:=b.a}:ci)=b from Z,q];haveI r:bK (al h) (.A (.A 0)<|.A (.A 1)<|.A (.A 2) .B) (bV .A (.B d::aH e f::g)) (ap d a b)=Y ([.B d,aH e f,j],ap d a b):=a0 (ac Z)<|a0 (ac Z)<|a0 (ac n) aQ;show ak ((bK (al h) (.A (.A 0)<|.A (.A 1)<|.A (.A 2) .B) (bV .A (.B d::aH e f::g))<|ap d a b).bind _) _;rw[r];exact ak.A o λt s=>aU s
end
def eX(a:an):Prop:=gI a/\cf a=M/\lX a/\a≠.A ""/\a≠.A "none"
def hr(b:V):Prop:=b=.C\/∃a,b=aa a/\a≠"StandardError"/\a.length<=100
def g'(a:V):V:=if bH a then .C else aH "const" [.C,a]
section
variable{a:U}{h:f6}{d c a_:af}{e b z:ci}{j:R V×R V}{f g l q u m p n:U}{o:V}{s:nl->Prop}{t:aA}{x:bk}{y:cu}{w:f7}{i:V->af->Prop}{v:R V}{r k:aC}
abbrev o0(a:U)(h:f6)(d:af)(e:ci)(j:R V×R V)(f g l:U)(s:nl->Prop)(i:V->af->Prop):Prop:=∀c b k,g<=k->aG a h c b j (f+1) k l->bu d e c b s->i .C (ap a c b)
def BL(b:aG a h d e j f g<|l+1)(c:i .C<|ap a (d.B .B)<|e.B (bZ "push" o) 0 1):aV (aR (m+8) .A [.B a,aH "int" [o],.G Q]<|ap a d e) i:=by refine km Z Z Z<|aV.A Z<|dD (aV.A Z<|bg Z<|dj<|z0 Z b Z (ec Z) (pp Z) ?_) Z;exact aU<|aU<|aU c
def si(b:aG a h d e j f g<|l+1)(n:o0 a h d e j f g l (λc=>c.a.b[f]?=Y (fW c.b<|bZ "push" o)) i)(p:kl o=Q):aV (aR (m+8) .A [.B a,aH "int" [o],.G Q]<|ap a d e) i:=
 haveI k:=b.F<|mr<|by rw[p];rfl
 BL b (n _ _ g (aY _) k.1 k.2)
def BK(n:aG a h d e j f g<|l+1)(p:o0 a h d e j f g l (λo=>o.a.b[f]?=Y (bZ "getc"<|aa k)) i):aV (aR (m+8) .A [.B a,aH "const" [.C,aa k],.G Q]<|ap a d e) i:=by refine km Z Z Z<|aV.A Z<|eL Z Z<|bg Z<|dj<|rH Z n (gD Z Z Z) λc b q r=>?_;exact aU<|dj<|eE Z Z Z Z<|aV.A Z<|as Z<|aU<|aU<|p c b g (aY _) q r
def BM(o:aG a h d e j f g<|l+2)(p:gI A)(q:∀c,o0 a h d e j f g l (λk=>k.a.b[f]?=Y (b' "getl" c)/\k.a.a[c]?=Y A) i):aV (aR (m+8) .A [.B a,aH "lvar" [.E A],.G Q]<|ap a d e) i:=by refine km Z Z Z<|aV.A Z<|bg Z<|dj<|eE Z Z Z Z<|aV.A Z<|pd<|eE Z Z Z Z<|p9 o p λb c r s t u=>ax _ Z ?_;refine dj<|rH Z t (cX Z Z Z) λv w x y=>?_;exact aU<|aU<|aU<|q c v w r s x<|(u.B y).A λk n=>am n.2 n.1
def aV.D(b:aV (aR m .A [.B a,E,.G Q] F) i):aV (aR m .A [.B a,E] F) i:=by cases m<;>exact b
def uq(p:v=[.B a,aa k,.A q]/\r="call"\/v=[.B a,aa k,.A q,aa r])(n:∃u o,jV (mJ k q r) u o)(s:aG a h d e j f g<|l+1)(w:∀c b,aG a h c b j (f+1) g l->bu d e c b (λt=>t.a.b[f]?=Y (mJ k q r))->i .C (ap a c b)):aV (aR (m+5) .p_ v<|ap a d e) i:=by
 obtain⟨u,o,n⟩:=n;rcases p with⟨rfl,rfl⟩|rfl
 all_goals exact aV.A Z<|dj<|po (fb Z) s (Ul Z n Z) λc b x y=>aU<|w c b x y
def Dj(p:aG a h d e j f g<|l+2)(q:∀c b,aG a h c b j (f+2) g l->bu d e c b (λk=>aW k.a.b f [b' "getl" n,mJ "===" 1 "call"])->i .C (ap a c b)):aV (aR (m+6) .c_ [.B a,.A n]<|ap a d e) i:=
 aV.A Z (bg Z<|dj<|po (fb Z) p (cX Z Z Z) λa_ z r s=>dD (uq (.inl<|am Z Z) (f9 _ _ λx x=>Z) r λt u v w=>aU<|aU<|q t u v<|(s.B w).A λk o=>aW.A o.1<|aW.A o.2 aW.B) Z)
def Dt(v:(p,b7 .C)∈h)(A:∀d,ai (al<|m+8) x t d=Y (o,d))(r:t 0=Y (.B a))(B:t 2=Y (.A n))(C:t 3=Y (.B p))(d_:aG a h d e j f g<|l+4)
 (D:∀{i},o0 a h d e j f g (l+3) s i->aV (aR (m+8) .A [.B a,o,.G Q]<|ap a d e) i)(E:∀c b k,g<=k->aG a h c b j (f+4) k l->bu d e c b (λq=>s q/\aW q.a.b (f+1) (lz n<|q.b p))->ak (aw (al<|m+8) y t<|ap a c b) w):
 ak (aw (al<|m+8) (.A (.A<|.E (.A 0) "node"<|.A x .B)<|.A (.A<|.G .c_<|.A (.A 0)<|.A (.A 2) .B)<|.A (.A<|.E (.D (.A 0) "maker") "put"<|.A (.J "jumpunless")<|.A (.A 3) .B) y) t<|ap a d e) w:=by
 refine dj<|eE r (a0 (A _) aQ) Z Z<|.D<|D λa_ z k F G H=>?_;refine dD (Dj G λe_ f_ I J=>?_)<|a0 (ac r)<|a0 (ac B) aQ;exact dj<|po (fb r) I (gE (a0 Z<|a0 (ac C) aQ) Z Z v) λK L b_ c_=>E K L k F b_<|((H.B J).B c_).A λq u=>am u.1.1<|aW.C u.1.2<|aW.A u.2 aW.B
def wr(t:(p,b7 .C)∈h)(u:aG a h d e j f g<|l+4)(v:bn (.A r) vL=Y (.H .x_))
 (w:∀{i},o0 a h d e j f g (l+3) s i->aV (aR (m+8) .A [.B a,o,.G Q]<|ap a d e) i)(x:∀c b k,g<=k->aG a h c b j (f+4) k l->bu d e c b (λq=>s q/\aW q.a.b (f+1) (lz n<|q.b p))->i .C (ap a c b)):aV (aR (m+10) .H [.B a,aH r [o],.A n,.B p]<|ap a d e) i:=
 n0 v (aV.A Z<|Dt t (λD=>Z) Z Z Z u w λc b k y z A=>aU<|x c b k y z A)
def KT(e:k≠"StandardError")(f:k.length<=100):ef 0 3 (.F [aa "kind",aa k]) (aH "p_value" [aH "const" [.C,aa k]]) 1 4:=.mk λd g p h=>
 wr g d Z (λa=>BK d a) λc b i j l m=>h c b _ i (cU _ 4) j l<|m.A λo a p n=>RA a.1 a.2 n e f
def KW{d:U}(f:d<=100):ef 0 3 (.F [aa "number",.A d]) (aH "p_value" [aH "int" [.A d]]) 1 4:=.mk λe g o h=>
 wr g e Z (λa=>si e a Z) λc b i j k l=>h c b _ i (cU _ 4) j k<|l.A λn a o m=>RB a.1 a.2 m f
def BP:gI<|.A "kept":=⟨Z,"k",λa=>Z,ae Z,.inr bP⟩
def KS:ef 0 3 (.F [aa "kept"]) (aH "p_pin" [aH "lvar" [aa "kept"]]) 1 5:=.mk λ{m a z p v g u h d e j i} s w _ x=>
 wr (s:=λl=>∃k,l.a.b[v]?=Y (b' "getl" k)/\l.a.a[k]?=Y (.A "kept")) w (s.B<|eU _) Z (λf=>BM s BP λk c b n o q r=>f c b n o q<|r.A λl f=>a1 k f) λc b n o q r=>x c b _ n (cU _ 4) o q<|r.A λl f C y=>f.1.elim λk t=>Rz t.2 t.1 f.2 y
def y3(q:gI A)(r:aG a h d e j f g<|l+3)(s:∀c b o k,g<=o->aG a h c b j (f+2) o l->bu d e c b (λp=>p.a.a[k]?=Y A/\aW p.a.b f (pg n k))->i .C (ap a c b)):aV (aR (m+5) .y_ [.B a,.E A,.A n]<|ap a d e) i:=
 aV.A Z (pd<|eE Z Z Z Z<|p9 r q λz k o t u v=>ax _ Z<|fC (v:=pg n k) (fb Z) u (.bY (λy=>cX Z Z Z)<|.bY (λy=>cX Z Z Z) .A) Z λc b w x=>aU<|s c b o k t w<|v.B x)
def zI(k:eX A):ef 0 1 (gQ A) (aH "p_bind" [.E A]) 0 3:=.mk λ{m a v p w g u h d e j i} o x _ q=>
 n0 Z (aV.A Z<|dD (y3 k.1 o λc b r y s t l=>aU<|q c b _ r (cU _ 2) s t λn f=>am ((l n f).1) λz z=>CF f.b f.a (l n f).2.2 (l n f).2.1 k.2.1 k.1.1 k.2.2.1) Z)
def KO{r f:V}(k:eX A)(x:1<=B)(y:ef C B r f D q):ef (C+2) (B+1) (.F [aa "behind",r,.E A]) (aH "p_as" [f,.E A]) D<|q+3:=.mk λ{m a e_ p f_ g u h d e j i} E F s G=>
 n0 Z (aV.A Z (dD (y.a (E.B<|fI<|tl _ _ _) F s λa_ z g_ h_ H I J K=>
  dD (y3 k.1 J λc b L i_ b_ c_ d_=>aU (G c b _ L (YR H) (br I b_) c_ λt l=>by haveI o:=d_ t l;haveI v:=K t o.1;exact am v.1 λn w=>Rv l.b l.a x (v.2 n<|br (cU _ 2) w) o.2.2 o.2.1 k.2.1 k.1.1 k.2.2.1 s n w)) Z) Z))
end
section
def fS.A(d:a.a[b]?=Y (.B c)):fS a b:=ax _ d Z
def KN(w:1<=a)(x:ef c a e f g d)(y:ef c a (.F (h::i)) j k b):ef (c+2) (a+1) (.F [aa "either",.D [e,.F (h::i)]]) (aH "p_alt" [.D [f,j]]) (g+k)<|d+b+1:=.mk λ{s_ t_ u_ v_ w_ y_ z z_ A B A_ B_} C D m E=>by refine n0 Z<|aV.A Z (let F:=bV _ _;let G:=hH _;(?_:ak (aw _ _ F _) G));refine pc<|.B (fb Z A B)<|lb (fb Z) C λC_ D_ H I=>a' Z<|ey Z<|eS Z (let J:=_;(?_:ak _ J));refine ui (λx_ x_=>Z) H λE_ F_ K L=>?_;refine dD (x.a (n:=z+b+1) (K.B<|by rw[lG d,tl b,<-hn,<-hn];exact aY _) (.head _) m λG_ H_ I_ J_ a_ n b_ c_=>?_) Z;refine eT (λx_ x_=>Z) b_ (gE Z Z Z<|.tail _<|.head _) λK_ L_ d_ e_=>?_;refine gC (p:=[]) (λx_ x_=>Z) Z d_ λa__ f_ g_=>aU ⟨Z,_,Z,?_⟩;refine dD (y.a f_ (.tail _ D) (eA m n) λb__ h_ i_ j_ q k_ l_ m_=>?_) Z;refine gC (λx_ x_=>Z) Z l_ λn_ o_ p_=>aU<|E n_ h_ i_ j_ (br a_<|iX q) (br n k_) o_ λl q_=>?_;haveI r:=p_ l q_;haveI s:=m_ l r.1;have o:=g_ l s.1;haveI t:=e_ l o.1;haveI u:=c_ l t.1;refine⟨(I l (L l u.1).1).1,λp r_=>?_⟩;haveI v:=u.2 p (by rw[o.2];exact eU _);rw[o.2]at v;exact Ry w v (r.2▸t.2) (s.2 p r_) n m p q
end
def tL(a:V)(b:R V):Prop:=(a=.C/\b=[])\/(a=aa "all"/\b=[bZ "push" .C])\/∃c:R<|aC×V,a=.D (cK c)/\b=(c.map λd=>bZ "push"<|aa d.1)++[bZ "list"<|.A c.length]
def ri(a:V):Nat:=if bH a then 0 else 1
abbrev OA:g2:=.C (.C .Eq (.A 5)<|.J "all") (.A (.A<|.E (.A 7) "put"<|.A (.J "push")<|.A .H .B) .B)
 (.A (.C (.C .IsNot (.A 5) .H) (.A (.G (.A 11) (.A<|.A 5)<|.A (.A<|.E (.A 7) "put"<|.A (.J "push")<|.A (.A 11) .B) .B)
  (.A (.A<|.E (.A 7) "put"<|.A (.J "list")<|.A (.L .init<|.A 5) .B) .B)) .B) .B)
section
variable{b:U}{n z:f6}{d h u:af}{f g s:ci}{o:R V×R V}{e j k w p q t x:U}{i:V}{c:aA}{r:cu}{m:f7}{v:V->af->Prop}{y l:R V}{a:aC}
def z3:jV (bq "list" (.A A) B C) A 1:=λa a=>Z
def OD(a:R<|aC×V):∀{d:af}{f:ci}{c:aA}{e:U},c 7=Y (.B<|b+1)->aG b n d f o e j (k+a.length)->
 (∀h g i,aG b n h g o (e+a.length) j k->bu d f h g (λl=>aW l.a.b e<|a.map λw=>bZ "push"<|aa w.1)->m (.A,c.B 11 i,ap b h g))->
 ak (dx (λc d=>aw (al<|p+4) (.A (.A<|.E (.A 7) "put"<|.A (.J "push")<|.A (.A 11) .B) .B) c d) (.A 11) (cK a) c<|ap b d f) m:=by
 induction a with
 |nil=>intro d f c e _ q r;exact ax _ Z<|iD (b:=c)▸r d f c q λl y=>am y aW.B
 |cons w a z=>
  intro d f c e t q r;refine eS Z<|eT (λD D=>ac t) q (gD Z Z Z) λu s A B=>aU<|am Z<|z t A λh g i v C=>?_;rw[g8<|aY _];rw[hn,lG 1]at v;exact r h g i v<|(B.B C).A λl x=>aW.A x.1 x.2
def OF(C:tL i l)(a:c 5=Y i)(y:c 7=Y (.B<|b+1))(t:aG b n d f o e j<|k+l.length)(w:∀h g z,aG b n h g o (e+l.length) j k->bu d f h g (λv=>aW v.a.b e l)->ak (aw (al<|p+4) r (c.B 11 z)<|ap b h g) m):
 ak (aw (al<|p+4) (.A OA r) c<|ap b d f) m:=by
 rcases C with⟨rfl,rfl⟩|⟨rfl,rfl⟩|⟨q,rfl,rfl⟩;.exact iP (aK (ac a) Z Z)<|as (aK (ac a) Z Z)<|aU<|show ak (aw _ r c _) m from iD (b:=c)▸w d f c t λv D=>am D aW.B
 .exact bg (aK (ac a) Z Z)<|eT (λJ J=>ac y) t (gD Z Z Z) λu s A B=>aU<|show ak (aw _ r c _) m from iD (b:=c)▸w u s c A (B.A λv x=>aW.A x aW.B)
 .rw[cs,bC]at t w;refine iP (aK (ac a) Z Z)<|bg (aK (ac a) Z Z)<|ey (fU<|ac a)<|OD q y (t.B<|fI<|tl k 1 q.length) λu s z A B=>?_;haveI E:(cK q).length=q.length:=bC ..;refine eT (λJ J=>ac y) A (DT (a0 Z<|a0 (cS (ac a)<|by show Y (V.A ((cK q).length:U))=_;rw[E]) aQ) z3 Z) λF G H I=>aU<|aU<|w F G z H<|(B.B I).A λv x=>aW.C x.1 ?_;rw[bC];exact aW.A x.2 aW.B
def Op(b:hX a):hE (lh a)=false:=by rcases b with rfl|rfl<;>rfl
def z2(b:hX a):bn (.A<|lh a) lc=Y (.F [.A 1,.A 1]):=by rcases b with rfl|rfl<;>rfl
def QY(l:aG b n d f o e j<|k+5)(m:∀h g,aG b n h g o (e+5) j k->bu d f h g (λi=>aW i.a.b e [dS "self",bZ "getc"<|aa "TypeError",bZ "text"<|aa a,mJ "raise" 2 "self",dS "pop"])->v .C (ap b h g)):aV (aR (p+6) .aa_ [.B b,aa a]<|ap b d f) v:=by refine aV.A Z<|a' (fb Z d f)<|fC (i:=k+2) (λD D=>Z) l (.bY (λD=>hk Z Z Z)<|.bY (λD=>gD Z Z Z)<|.bY (λD=>gD Z Z Z) .A) Z λu s q r=>?_;refine dD (uq (.inr Z) (f9 _ _ λD D=>Z) q λB C t w=>?_) Z;exact eT (λD D=>Z) t (hk Z Z Z) λx y z A=>aU<|m x y z<|((r.B w).B A).A λi c=>aW.C c.1.1<|aW.A c.1.2<|aW.A c.2 aW.B
def Dm(u:hX a)(I:tL i l)(J:(t,b7 .C)∈n)(K:l.length=q)(L:aG b n d f o e j<|k+10+q+10)(a_:∀h g,aG b n h g o (e+9+q+10) (j+1) k->bu d f h g (λr=>r.a.a[j]?=Y (.B j)/\aW r.a.b e (rj a x j (e+9+q+10)<|r.b t)/\aW r.a.b (e+9) l/\aW r.a.b (e+9+q) (rk a j (e+9+q+10)<|ri i))->v (.A j) (ap b h g)):
 aV (aR (p+9) .r_ [.B b,.A x,.B t,aa<|lh a,aa<|dE a,i,aa<|mB a]<|ap b d f) v:=by
 refine aV.A Z (let c:=bV _ _;let m:=hH _;(?_:ak (aw _ _ c _) m));refine yZ Z L λs b_ c_=>pe (λx_ x_=>Z) b_ λy_ z_ A_ d_ e_=>(let c:=_;(?_:ak (aw _ _ c _) m));haveI z:=Op u;refine fC (λx_ x_=>Z) d_ (.bY (λx_=>cX Z Z Z)<|.bY (λx_=>cX Z Z Z)<|.bY (λx_=>cX Z Z Z)<|.bY (λx_=>hk Z (z2 u)<|by rw[z];rfl)<|.bY (λx_=>gE Z Z Z<|.tail _<|.head _)<|.bY (λx_=>cX Z Z Z)<|.bY (λx_=>gD Z Z Z)<|.bY (λx_=>gE Z Z Z<|.tail _<|.tail _ J)<|.bY (λx_=>cX Z Z Z) .A) Z λB_ C_ f_ g_=>?_;subst K;refine OF I Z Z f_ λD_ E_ F_ h_ i_=>(let j_:=_;(?_:ak (aw _ _ j_ _) m));refine dD (k:=[.B b,aa<|dE a,.A<|ri i,aa "self"]) (uq (.inr Z) (by cases bH i<;>exact f9 _ _ λx_ x_=>Z) h_ λG_ H_ k_ l_=>?_)<|a0 Z<|a0 Z<|a0 (cS (eZ (ac Z) Z Z)<|by unfold ri;cases bH i<;>rfl)<|a0 Z aQ;refine fC (w:=4) (λx_ x_=>Z) k_ (.bY (λx_=>cX Z Z Z)<|.bY (λx_=>cX Z Z Z)<|.bY (λx_=>hk Z (z2 u)<|by rw[z];rfl)<|.bY (λx_=>gE Z Z Z<|.head _) .A) Z λI_ J_ m_ n_=>?_;refine dD (QY m_ λK_ o_ p_ q_=>?_) Z;refine gC (p:=[_]) (λx_ x_=>Z) Z p_ λL_ r_ s_=>gC (p:=[]) (λx_ x_=>Z) Z r_ λt_ u_ v_=>a3 (ac Z)<|a_ t_ o_ u_ λr w_=>?_;haveI A:=v_ r w_;haveI B:=s_ r A.1;haveI C:=q_ r B.1;haveI D:=n_ r C.1;haveI E:=l_ r D.1;haveI F:=i_ r E.1;haveI G:=g_ r F.1;haveI H:=c_ r (e_ r G.1).1;haveI w:=G.2;haveI y:=D.2;simp only[FM,oh,CG,CI,CJ]at w y;rw[B.2]at w;rw[A.2]at y;exact bB H.1 H.2 w F.2<|aW.A E.2<|aW.C y C.2
end
structure bU where
 f:V
 a:V
 b:V
 e:V
 d:U
 c:U
def dT(a:R bU):Nat:=a.foldr (λb c=>b.d+c) 0
def cr(a:R bU):Nat:=a.foldr (λb c=>b.c+4+c) 0
def od:U->R bU->R bU
 |_,[]=>[]
 |a,b::c=>{b with f:=.A a,e:=.A a}::od (a+1) c
def oc:U->R bU->R bU
 |_,[]=>[]
 |a,c::b=>{c with f:=.A a,e:=.A<|-((b.length+1:U):ah)}::oc (a+1) b
abbrev B9(a:bk):cu:=.A (.A<|.G .G_<|.A (.A 0)<|.A (.A 11)<|.A (.A 9)<|.A (.J "listat")<|.A a<|.A (.A 3) .B) .B
abbrev Bw:M.g2:=.C (.A 6) (.A (.B (.B [12,13])<|.E (.A 0) "slot"<|.A (.A 6) .B)
 (.A (.A<|.E (.A 8) "put"<|.A (.J "getl")<|.A (.B 0)<|.A (.A 9) .B)
 (.A (.A<|.E (.A 8) "put"<|.A (.J "listpart")<|.A (.L .init<|.A 5)<|.A (.L .init<|.A 7) .B)
 (.A (.A<|.E (.A 8) "put"<|.A (.J "setl")<|.A (.A 12)<|.A (.A 13) .B)
 .B)))) .B
def l0(a:V):Prop:=a=.C\/a=aa ""\/∃b,a=.E b/\eX b
section
variable{d:U}{l:f6}{a h h_:af}{i g g_:ci}{p:R V×R V}{c f a_ w b o k j d_ t u q:U}{b_ n:V}{v:bR}{e:aA}{m x:bk}{y:cu}{s:f7}{z:V->af->Prop}{c_ f_ e_:R V}{r:aC}
def CH(a:kl A=Q):fW E (bq B A C D)=bq B A C D:=by cases A<;>first|rfl|exact bx a
def B'(I:ef t u C D E F)(J:(j,b7 .C)∈l)(K:bn (.A A) lc=Y (.F [.A G,.A H]))(L:hE A=M)(r:kl B=Q)(a_:aG d l a i p c f<|w+F+4)(b_:∀h g k v,c+3<=k->f+1<=v->aG d l h g p k v w->bu a i h g (λb=>k<=b.b j->aW b.a.b c [b' "getl" q,bZ A B,b' "setl" f]/\b.a.a[f]?=Y (.B f)/\ft b.a u C E f (f+1) (c+3) k (b.b j))->z .C (ap d h g)):
 aV (aR (o+t+11) .G_ [.B d,D,.A q,aa A,B,.B j]<|ap d a i) z:=by
 refine aV.A Z (let e:=bV _ _;let s:=hH _;(?_:ak (aw _ _ e _) s));refine yZ Z a_ λg_ c_ d_=>?_;refine fC (λx_ x_=>Z) c_ (.bY (λx_=>cX Z Z Z)<|.bY (λx_=>gD Z K<|by rw[L,r];rfl)<|.bY (λx_=>cX Z Z Z) .A) Z λr_ s_ e_ f_=>?_;refine dD (I.a e_ J (eV _) λh_ i_ j_ k_ l_ m_ n_ o_=>aU<|b_ h_ i_ j_ k_ l_ m_ n_ λb p_=>?_) Z;haveI x:=o_ b p_;haveI y:=f_ b x.1;haveI m:=d_ b y.1;haveI n:=y.2;simp only[FM]at n;rw[CH r]at n;exact am m.1 λq_=>aL n m.2<|x.2 (.A m.2) q_
def jS.A{b c d m:U}(e:jS C u q j B c d D m)(f:b<=c):jS C u q j B b d D m:=by
 cases B with
 |nil=>exact e
 |cons n B=>
  refine gG.A e λz k g h i l a=>?_;exact⟨z,k,g,h,i,l,bB a.1 a.2.1 a.2.2.1 (br f a.2.2.2.1) a.2.2.2.2⟩
def Qn(j_:(j,b7 .C)∈l)(n:R bU):∀{a:af}{i:ci}{e:aA}{c f:U},e 0=Y (.B d)->e 9=Y (.A q)->e 3=Y (.B j)->(∀k∈n,ef t u k.a k.b k.d k.c/\∃H:ah,k.e=.A H)->(∀k∈n,∀(v:bR)(A:aA)(a:af),A 7=e 7->A 10=Y k.f->ai v x A a=Y (k.e,a))->
 aG d l a i p c f (w+cr n)->(∀h g y z B,c<=y->f<=z->aG d l h g p y z w->bu a i h g (λr=>y<=r.b j->jS r.a u q (r.b j) (n.map λk=>(k.a,"listat",k.e)) f (dT n) c y)->s (.A,e.B 10 B,ap d h g))->
 ak (dx (λe a=>aw (al<|o+t+11) (B9 x) e a) (.B [10,11]) (n.map λk=>.F [k.f,k.b]) e<|ap d a i) s:=by
 induction n with
 |nil=>intro a i e c f _ _ _ _ _ C D;exact ax _ Z<|iD (b:=e)▸D a i c f e (aY _) (aY _) C λr E=>am E λx_=>Z
 |cons k n k_=>
  intro a i e c f I J K L a_ C D;haveI b_:=L k bP;refine eS Z<|dD (B' b_.1 j_ Z Z (by refine a8 b_.2 λH m=>?_;rw[m];rfl) (C.B<|by show _<=w+(k.c+4+cr n);exact(aj Z:N [_,_,_] (.A (X+S+O+4)<|X+(O+4+S)) [])) λh_ g_ l_ r_ c_ d_ m_ n_=>aU<|am Z<|k_ (e:=(e.A 10 k.f).A 11 k.b) I J K (λb f=>L b<|.tail _ f) (λb f=>a_ b<|.tail _ f) m_ λh g y z B F o_ p_ q_=>?_)<|a0 (ac I)<|a0 (ac Z)<|a0 (ac J)<|a0 Z<|a0 (a_ k bP _ _ _ Z Z)<|a0 (ac K) aQ;rw[g8<|aX Z,g8<|aX Z];refine D h g y z B (br (br (cU _ 3) c_) F) (br (iX d_) o_) p_ λr E=>?_;haveI e_:=q_ r E;haveI f_:=n_ r e_.1;exact am f_.1 λi_=>haveI G:=f_.2<|br F i_;⟨f,_,f+1,k.d,dT n,l_,G.1,G.2.1,Z,aY _,eV _,G.2.2,(e_.2 i_).A d_,aY _,F,c_⟩
def BF(s:hr b_)(t:(j,b7 .C)∈l)(m:aG d l a i p c f<|a_+4)(q:∀h g n b,c<=n->f<=b->aG d l h g p n b a_->bu a i h g (λe=>q3 e.a b_ d_ c n<|e.b j)->z .C (ap d h g)):aV (aR (o+9) .v_ [.B d,g' b_,.A d_,.B j]<|ap d a i) z:=by
 rcases s with rfl|⟨r,rfl,u,v⟩;.exact aV.A Z<|as Z<|aU<|q a i c f (aY _) (aY _) (m.B<|cU _ _) λe w=>am w<|.inl<|am Z Z
 .exact aV.A Z<|bg Z<|Dt t (λD=>Z) Z Z Z m (λk=>BK m k) λh g b x y A=>aU<|aU<|q h g _ b (cU _ 4) x y<|A.A λe k=>.inr<|As r Z u v k.1 k.2 Z
def qf(b:e 6=Y n)(c:hf a n=Y A):bz v (.A 6) e a=Y (A,a):=by show((e 6).map _).bind _=_;rw[b];show(hf _ n).map _=_;rw[c];rfl
def PA(A:l0 n)(B:e 0=Y (.B d))(C:e 5=Y (.D f_))(r:e 6=Y n)(D:e 7=Y (.D e_))(E:e 8=Y (.B<|d+1))(F:e 9=Y (.A q))(v:aG d l a i p c f<|a_+4)
 (w:∀h g t m G,c<=t->f<=m->aG d l h g p t m a_->bu a i h g (λu=>tN u.a q n f_.length e_.length c t)->ak (aw (al<|o+4) y (e.B 12 G)<|ap d h g) s):
 ak (aw (al<|o+4) (.A Bw y) e<|ap d a i) s:=by
 have x:BA n=M->hf (ap d a i) n=Y M->ak (aw (al<|o+4) (.A Bw y) e<|ap d a i) s:=λH I=>as (qf r I)<|iD (b:=e)▸w a i c f e (aY _) (aY _) (v.B<|cU _ _) λu J=>am J<|.inl<|am H Z;rcases A with rfl|rfl|⟨k,rfl,j⟩;.exact x Z Z
 .exact x Z Z
 .refine bg (qf r<|aF Y<|c0 j.2.2.2.1)<|pd<|eE B (a0 (ac r) aQ) Z Z<|p9 v j.1 λg_ b m K L b_=>ax _ Z ?_;refine fC (x:=[_,_,_]) (λx_ x_=>ac E) L (.bY (λx_=>cX (a0 Z<|a0 Z<|a0 (ac F) aQ) Z Z)<|.bY (λx_=>cX (a0 Z<|a0 (cS (ac C) Z)<|a0 (cS (ac D) Z) aQ) Z Z)<|.bY (λx_=>cX Z Z Z) .A) Z λh g c_ d_=>aU ?_;show ak (aw _ y ((e.A 12<|.A 0).A 13<|.A b) _) s;rw[DA (b:=12)<|aX Z,g8<|aX Z];exact w h g _ m _ (cU _ 3) K c_<|(b_.B d_).A λu z=>.inr ⟨k,b,ej Z j.2.2.2.1 j.2.2.1 j.2.1 z.1 z.2 Z⟩
def QJ(c:R bU):∀b,(od b c).map (λa=>V.F [a.f,a.b])=eJ ((m7 b c.length).map λk:U=>V.A k) (c.map (·.b))/\(od b c).map (λa=>(a.a,"listat",a.e))=sv b (c.map (·.a))/\cr (od b c)=cr c/\dT (od b c)=dT c/\
 ∀a∈od b c,(∃d∈c,a.a=d.a/\a.b=d.b/\a.d=d.d/\a.c=d.c)/\∃g:U,a.f=.A g/\a.e=.A g:=by
 induction c with
 |nil=>intro b;exact bB Z Z Z Z λp h=>by exact bW h
 |cons d c i=>
  intro b;haveI e:=i<|b+1;refine bB (aF (_::·) e.1) (aF (_::·) e.2.1) (aF (d.c+4+·) e.2.2.1) (aF (d.d+·) e.2.2.2.1) λa f=>?_;rcases bj.1 f with rfl|f;.exact am (a1 d ⟨bP,Z,Z,Z,Z⟩) ⟨b,Z,Z⟩
  .refine jz (e.2.2.2.2 a f) λj l=>?_;obtain⟨n,o,m⟩:=j;exact am (a1 n ⟨cx _ o,m⟩) l
def QF(a:R bU):∀b,(oc b a).map (λc=>V.F [c.f,c.b])=eJ ((m7 b a.length).map λk:U=>V.A k) (a.map (·.b))/\(oc b a).map (λc=>(c.a,"listat",c.e))=sr (a.map (·.a))/\cr (oc b a)=cr a/\dT (oc b a)=dT a/\
 ∀c∈oc b a,(∃d∈a,c.a=d.a/\c.b=d.b/\c.d=d.d/\c.c=d.c)/\∃f:U,c.f=.A f/\c.e=.A ((f:ah)-(b+a.length:U)):=by
 induction a with
 |nil=>intro b;exact bB Z Z Z Z λo i=>by exact bW i
 |cons d a j=>
  intro b;haveI e:=j<|b+1;refine bB (aF (_::·) e.1) ?_ (aF (d.c+4+·) e.2.2.1) (aF (d.d+·) e.2.2.2.1) λc g=>?_;.show(d.a,"listat",V.A<|-((a.length+1:U):ah))::_=(d.a,"listat",V.A<|-(((a.map (·.a)).length+1:U):ah))::_;rw[e.2.1,bC]
  .rcases bj.1 g with rfl|g
   .refine am (a1 d ⟨bP,Z,Z,Z,Z⟩) ⟨b,Z,aF V.A ?_⟩;rw[dd];exact Wn
   .obtain⟨⟨l,n,m⟩,f,h⟩:=e.2.2.2.2 c g;refine am (a1 l ⟨cx _ n,m⟩) ⟨f,h.1,h.2.trans<|aF V.A ?_⟩;rw[dd];exact Wo
def uI(b:ai v m e a=Y (.D c_,a)):ei v (.C m) e a=Y (eJ ((m7 0 c_.length).map λk:U=>V.A k) c_,a):=by show(ai v m e a).bind _=_;rw[b,<-List.range_eq_range'];rfl
def Ca(I:(j,b7 .C)∈l)(r:A.map (λb=>V.F [b.f,b.b])=eJ ((m7 0 B.length).map λk:U=>V.A k) (B.map (·.b))/\A.map (λb=>(b.a,"listat",b.e))=C/\cr A=cr B/\dT A=dT B)(J:∀a,ai (al<|o+t+11) m e a=Y (.D<|B.map (·.b),a))
 (K:e 0=Y (.B d))(L:e 9=Y (.A q))(a_:e 3=Y (.B j))(c_:∀b∈A,ef t u b.a b.b b.d b.c/\∃b_:ah,b.e=.A b_)(d_:∀b∈A,∀(v:bR)(D:aA)(a:af),D 7=e 7->D 10=Y b.f->ai v x D a=Y (b.e,a))(e_:aG d l a i p c f<|w+cr B)
 (f_:∀h g n z E,c<=n->f<=z->aG d l h g p n z w->bu a i h g (λF=>n<=F.b j->jS F.a u q (F.b j) C f (dT B) c n)->ak (aw (al<|o+t+11) y (e.B 10 E)<|ap d h g) s):ak (aw (al<|o+t+11) (.A (.G (.B [10,11]) (.C m)<|B9 x) y) e<|ap d a i) s:=by
 haveI G:=uI<|J<|ap d a i;rw[bC,<-r.1]at G;refine ey G<|Qn I A K L a_ c_ d_ (r.2.2.1▸e_) λh g n z E g_ h_ i_ H=>?_;rw[r.2.1,r.2.2.2]at H;exact f_ h g n z E g_ h_ i_ H
end
section
variable{b a:R bU}
def KY(i_:1<=d)(j_:hr e)(C:l0 c)(k_:c=.C->a=[])(l_:∀g∈b,ef f d g.a g.b g.d g.c)(m_:∀g∈a,ef f d g.a g.b g.d g.c):
 ef (f+3) (d+5) (gU e (b.map (·.a)) c<|a.map (·.a)) (aH "p_array" [g' e,.D<|b.map (·.b),c,.D<|a.map (·.b)]) (2+dT b+dT a) (31+cr b+cr a):=.mk λ{f__ g__ h__ n_ i__ j__ o_ k__ r p_ D l__} g n q_ r_=>by
 refine n0 Z<|aV.A Z (let s:=bV _ _;let E:=hH _;(?_:ak (aw _ _ s _) E));refine eL Z Z<|a' (fb Z r p_) ?_;refine dD (BF (a_:=o_+cr a+4+cr b+3+10+0+10) j_ n (g.B<|by exact(aj Z:N [_,_,_] (.A (X+S+4+O+3+10+0+10+4)<|X+(31+O+S)) [])) λm__ n__ s_ t_ F G u_ v_=>?_) Z;refine j8<|zF (Dm (.inl Z) (.inl<|am Z Z) n Z u_ λo__ p__ w_ y_=>(let s:=_;(?_:ak (aw _ _ s _) E))) Z;haveI k:=QJ b 0;haveI l:=QF a 0;refine fC (x:=[_,_,_]) (v:=[b' "getl" t_,bq "listfits" (.A ((b.length+a.length:U):ah)) (.G<|bH c) .C,bZ "jumpunless"<|.B n_]) (λx_ x_=>Z) w_ (.bY (λx_=>cX Z Z Z)<|.bY (λx_=>cX (a0 Z<|a0 (bL (cS (ac Z) Z) (cS (ac Z) Z)<|aF (λD=>Y<|V.A D)<|by rw[bC,bC];exact DV)<|a0 (eZ (ac Z) Z Z) aQ) Z Z)<|.bY (λx_=>gE Z Z Z n) .A) Z λq__ r__ z_ A_=>?_;refine Ca n (db k.1 k.2.1 k.2.2.1 k.2.2.2.1) (λx_=>Z) Z Z Z (λh i=>by
  obtain⟨⟨g,o,t,u,v,w⟩,x,_,y⟩:=k.2.2.2.2 h i;rw[t,u,v,w];exact am (l_ g o) ⟨_,y⟩) (λh i B_ C_ r x_ z=>by obtain⟨_,x,H⟩:=k.2.2.2.2 h i;rw[H.2,<-H.1];exact ac z) z_ λs__ t__ u__ v__ w__ I J D_ E_=>?_
 refine PA C Z Z Z Z Z Z D_ λx__ y__ z__ A__ B__ K L F_ G_=>?_;refine Ca (B:=a) n (db l.1 l.2.1 l.2.2.1 l.2.2.2.1) (λx_=>Z) Z Z Z (λh i=>by
  obtain⟨⟨g,o,t,u,v,w⟩,x,_,y⟩:=l.2.2.2.2 h i;rw[t,u,v,w];exact am (m_ g o) ⟨_,y⟩) (λh i B_ C_ r o z=>by obtain⟨_,x,a_⟩:=l.2.2.2.2 h i;rw[a_.2];refine bL (ac<|z.trans<|aF Y a_.1) (cS (m:=.A ((a.map (·.b)).length:U)) (ac<|o.trans Z) Z) ?_;rw[bC,dG];rfl) F_ λH_ I_ b_ J_ C__ A K_ L_ a__=>aU ?_
 haveI b__:s_+9+0+10+3<=b_:=br I<|br K A;refine r_ H_ I_ b_ J_ (br F<|br (cU _ 22) b__) (br G<|br (br (iX J) L) K_) L_ λm B=>?_;haveI c_:=a__ m B;haveI d_:=G_ m c_.1;haveI e_:=E_ m d_.1;haveI f_:=A_ m e_.1;haveI q:=y_ m f_.1;haveI g_:=v_ m q.1;refine am g_.1 λc__ p=>?_;haveI h_:=d_.2;haveI d__:=e_.2<|br (br K A) p;refine RE B.b B.a i_ q_ c__ g_.2 q.2.2.1 q.2.2.2.2 Z ?_ d__ ?_ (c_.2 p) q.2.1 Z G (eV _) (br J L) F I A p ?_ λj=>by rw[k_ j];rfl
 .rw[bC,bC];exact f_.2
 .rw[bC,bC]at h_⊢;exact h_
 .rcases C with j|j|⟨e__,j,p⟩
  .exact .inl j
  .exact .inr<|ax _ j Z
  .exact .inr<|ax e__ j p.1.1
end
structure fh where
 a:aC
 c:V
 b:V
 e:U
 d:U
def jG(a:R fh):Nat:=a.foldr (λb c=>b.e+c) 0
def fY(a:R fh):Nat:=a.foldr (λb c=>b.d+8+c) 0
abbrev fa(b:R fh):R<|aC×V:=b.map λa=>(a.a,a.c)
abbrev gu(b:R fh):R<|aC×V:=b.map λa=>(a.a,a.b)
def tJ(b c:U)(a:fh):Prop:=eX (.A a.a)/\((a.c=.C/\a.b=.C/\a.e=0)\/(bH a.c=M/\bH a.b=M/\ef b c a.c a.b a.e a.d))
abbrev Ae:cu:=.A (.A<|.E (.A 9) "put"<|.A (.J "getl")<|.A (.B 0)<|.A (.A 13) .B)
 (.A (.A<|.E (.A 9) "put"<|.A (.J "tablehas")<|.A (.A 14) .B)
 (.A (.A<|.E (.A 9) "put"<|.A (.J "jumpunless")<|.A (.A 3) .B)
 (.A (.C (.C .Is (.A 15) .H) (.A (.B (.B [16,17])<|.E (.A 0) "slot"<|.A (.A 14) .B)
 (.A (.A<|.E (.A 9) "put"<|.A (.J "getl")<|.A (.B 0)<|.A (.A 13) .B)
 (.A (.A<|.E (.A 9) "put"<|.A (.J "tableat")<|.A (.A 14) .B)
 (.A (.A<|.E (.A 9) "put"<|.A (.J "setl")<|.A (.A 16)<|.A (.A 17) .B)
 .B)))) (.A (.A<|.G .G_<|.A (.A 0)<|.A (.A 15)<|.A (.A 13)<|.A (.J "tableat")<|.A (.A 14)<|.A (.A 3) .B)
 .B))
 .B)))
abbrev vD:cu:=.A (.A<|.E (.A 9) "put"<|.A (.J "getl")<|.A (.B 0)<|.A (.A 13) .B)
 (.A (.A<|.E (.A 9) "put"<|.A (.J "tableonly")<|.A (.A 10) .B)
 (.A (.A<|.E (.A 9) "put"<|.A (.J "jumpunless")<|.A (.A 3) .B)
 .B))
abbrev Rl:M.g2:=.C (.l (.A 6) .module) (.A (.C (.A 6) (.A (.B (.B [16,17])<|.E (.A 0) "slot"<|.A (.A 6) .B)
 (.A (.A<|.E (.A 9) "put"<|.A (.J "getl")<|.A (.B 0)<|.A (.A 13) .B)
 (.A (.A<|.E (.A 9) "put"<|.A (.J "tablerest")<|.A (.A 10) .B)
 (.A (.A<|.E (.A 9) "put"<|.A (.J "setl")<|.A (.A 16)<|.A (.A 17) .B)
 .B)))) .B)
 .B)<|.A (.C (.j<|.A (.A 6)<|.A (.C .Eq (.L .init<|.A 5)<|.B 0) .B) vD .B) .B
def jb(a:V):Prop:=a=.C\/a=aa "none"\/∃b,a=.E b/\eX b
def ha(b:V):V:=match b with
 |.E a=>if a=.A "none"then .G Q else .E a
 |c=>c
def pE(a:V)(b:R<|aC×V):V:=if fd a then aa "all"else .D<|cK b
section
variable{g:U}{p:f6}{o m u:af}{n l v:ci}{t:R V×R V}{b h w i q r a c k d j:U}{f:aA}{e:bk}{s:f7}
def jb.A(b:jb x):(x=.C/\ha x=.C/\fd x=M)\/(x=aa "none"/\ha x=.G Q/\fd x=M)\/∃a,x=.E a/\ha x=.E a/\fd x=Q/\eX a:=by
 rcases b with rfl|rfl|⟨a,rfl,b⟩;.exact .inl<|aL Z Z Z
 .exact .inr<|.inl<|aL Z Z Z
 .exact .inr<|.inr<|dZ a Z (ao b.2.2.2.2) (aF not<|ct b.2.2.2.2) b
def Rm(b:jb x):l1 x:=by
 rcases b with rfl|rfl|⟨a,rfl,b⟩;.exact .inl Z
 .exact .inr<|ax _ Z Z
 .exact .inr<|ax a Z b.1.1
def i8.A{g h i e k:U}(f:i8 y d j c x h i k e)(l:g<=h):i8 y d j c x g i k e:=by
 cases x with
 |nil=>exact f
 |cons v x=>
  refine gG.A f λm a n o p q b=>?_;refine⟨m,a,n,o,p,q,gv b.1 b.2.1 b.2.2.1 ?_ (br l b.2.2.2.2.1) b.2.2.2.2.2⟩;rcases b.2.2.2.1 with f|⟨r,s,t,u⟩;.exact .inl f
  .exact .inr<|db r s (br l t) u
def Nn(a_:(c,b7 .C)∈p)(B:tJ k d x)(q_:aG g p o n t b h<|i+(x.d+8))(b_:f 0=Y (.B g))(c_:f 3=Y (.B c))(d_:f 9=Y (.B<|g+1))(C:f 13=Y (.A j))(z:f 14=Y (aa x.a))(D:f 15=Y x.b)
 (g_:∀m l y w r_,b+6<=y->h<=w->aG g p m l t y w i->bu o n m l (λa=>y<=a.b c->∀{e_ f_ e},i8 a.a d j (a.b c) e_ w f_ y e->y<=e->i8 a.a d j (a.b c) ((x.a,x.c)::e_) h (x.e+f_) b e)->s (.A,f.B 16 r_,ap g m l)):ak (aw (al<|r+k+11) Ae f<|ap g o n) s:=by
 refine fC (i:=i+x.d+5) (λx_ x_=>ac d_) q_ (.bY (λx_=>cX (a0 Z<|a0 Z<|a0 (ac C) aQ) Z Z)<|.bY (λx_=>gD (a0 Z<|a0 (ac z) aQ) Z Z)<|.bY (λx_=>gE (a0 Z<|a0 (ac c_) aQ) Z Z a_) .A) Z λu v h_ i_=>?_;rcases B.2 with⟨E,F,B_⟩|⟨E,F,s_⟩;.refine bg (aK (ac<|D.trans<|aF Y F) Z Z)<|pd<|eE b_ (a0 (ac z) aQ) Z Z<|p9 (j:=i+3) (h_.B<|by exact(aj Z:N [_,_] (.A (X+3+1)<|X+S+5) [])) B.1.1 λj_ q w k_ G H=>ax _ Z ?_;refine fC (x:=[_,_,_]) (λx_ x_=>ac d_) G (.bY (λx_=>cX (a0 Z<|a0 Z<|a0 (ac C) aQ) Z Z)<|.bY (λx_=>gD (a0 Z<|a0 (ac z) aQ) Z Z)<|.bY (λx_=>cX Z Z Z) .A) Z λt_ u_ v_ w_=>aU<|aU ?_;show s (_,(f.A 16<|.A 0).A 17<|.A q,_);rw[DA (b:=16)<|aX Z,g8<|aX Z];refine g_ t_ u_ (b+3+3) w _ (aY _) k_ v_ λa I=>?_;have A:=((i_.B H).B w_) a I;exact am A.1 λx_ x_ x_ x_ J K=>⟨q,_,w,x.e,_,_,A.2.1.1,A.2.2,A.2.1.2,.inl<|db (by rw[E];rfl) Z B.1.2.2.1 Z,k_,J,aY _,K,aY _⟩
 .refine iP (aK (ac D) Z<|by rw[<-F];rfl)<|dD (B' (w:=i) s_ a_ Z Z Z (h_.B<|by exact(aj Z:N [_,_] (.A (X+S+4)<|X+S+5) [])) λy_ j_ l_ z_ m_ n_ G H=>aU<|aU ?_)<|a0 (ac b_)<|a0 (ac D)<|a0 (ac C)<|a0 Z<|a0 (ac z)<|a0 (ac c_) aQ;rw[<-iD (b:=f) (a:=16)];refine g_ y_ j_ l_ z_ _ m_ (iX n_) G λa I=>?_;have o_:=H a I;have p_:=i_ a o_.1;exact am p_.1 λA_ x_ x_ x_ J K=>have L:=o_.2 A_;⟨h,_,h+1,x.e,_,l_,p_.2,L.1,L.2.1,.inr<|bB E Z (aY _) (eV _) L.2.2,eU _,i8.A J n_,aY _,K,m_⟩
end
section
variable{d:U}{n:f6}{b k x:af}{g j u:ci}{r:R V×R V}{e i y g_ t f_ a_ o b_ l c_ w v s q:U}{z f:V}{a:aA}{m:bk}{p:f7}{e_:V->af->Prop}{h d_:R<|aC×V}{c:R fh}
def Np(b_:(l,b7 .C)∈n)(c:R fh):∀{b:af}{g:ci}{a:aA}{e i:U},a 0=Y (.B d)->a 3=Y (.B l)->a 9=Y (.B<|d+1)->a 13=Y (.A q)->(∀w∈c,tJ v s w)->aG d n b g r e i (t+fY c)->
 (∀k j h z y,e<=h->i<=z->aG d n k j r h z t->bu b g k j (λf=>h<=f.b l->i8 f.a s q (f.b l) (fa c) i (jG c) e h)->p (.A,a.B 14 y,ap d k j))->
 ak (dx (λa b=>aw (al<|o+v+11) Ae a b) (.B [14,15]) ((gu c).map bs) a<|ap d b g) p:=by
 induction c with
 |nil=>intro b g a e i _ _ _ _ _ w B;exact ax _ Z<|iD (b:=a)▸B b g e i a (aY _) (aY _) w λf C=>am C λx_=>Z
 |cons A c c_=>
  intro b g a e i E F G H I w B;refine eS Z<|Nn b_ (I A bP) (w.B<|by show _<=t+(A.d+8+fY c);exact(aj Z:N [_,_,_] (.A (X+S+(O+8))<|X+(O+8+S)) [])) E F G H Z Z λx u m_ n_ d_ e_ f_ g_ h_=>am Z<|c_ E F G H (λa_ i=>I a_<|.tail _ i) g_ λk j h z y D i_ j_ k_=>?_;refine p2 (show(((a.A 14<|aa A.a).A 15 A.b).B 16 d_).B 14 y=a.B 14 y from qX λl_=>by
   by_cases m:l_<14;.exact(au m).trans ((au<|e6 m<|ae Z).trans<|(ao<|ed<|e6 m<|ae Z).trans<|(ao<|ed m).trans (au m).symm)
   .exact(ao m).trans (ao m).symm) ?_
  refine B k j h z y (br (br (cU _ 6) e_) D) (br f_ i_) j_ λf C=>?_;haveI J:=k_ f C;haveI K:=h_ f J.1;exact am K.1 λL=>K.2 (br D L) (J.2 L) D
def P6(f:(l,b7 .C)∈n)(m:aG d n b g r e i<|y+4)(s:a 3=Y (.B l))(t:a 9=Y (.B<|d+1))(v:a 10=Y (.D<|cK h))(w:a 13=Y (.A q))(z:∀k j,aG d n k j r (e+3) i y->bu b g k j (λc=>aW c.a.b e [b' "getl" q,bZ "tableonly"<|.D<|cK h,bZ "jumpunless"<|.A<|c.b l])->p (.A,a,ap d k j)):ak (aw (al<|o+4) vD a<|ap d b g) p:=
 fC (v:=[b' "getl" q,bZ "tableonly"<|.D<|cK h,bZ "jumpunless"<|.B l]) (λE E=>ac t) (m.B<|eU _) (.bY (λE=>cX (a0 Z<|a0 Z<|a0 (ac w) aQ) Z Z)<|.bY (λE=>gD (a0 Z<|a0 (ac v) aQ) Z Z)<|.bY (λE=>gE (a0 Z<|a0 (ac s) aQ) Z Z f) .A) Z λx u A B=>aU<|z x u A B
def nT(c:a 6=Y A)(w:iH b .module A=Y B):bz C (.l (.A 6) .module) a b=Y (B,b):=by show(((a 6).map _).bind _).bind _=_;rw[c];show((iH b .module A).map _).bind _=_;rw[w];rfl
def Rn(c_:(l,b7 .C)∈n)(e_:jb f)(f_:d_.length=h.length)(C:aG d n b g r e i<|y+4)(g_:a 0=Y (.B d))(h_:a 3=Y (.B l))(i_:a 5=Y (.D<|d_.map bs))(c:a 6=Y (ha f))(I:a 9=Y (.B<|d+1))(J:a 10=Y (.D<|cK h))(K:a 13=Y (.A q))
 (E:∀k j D z j_,e<=D->i<=z->aG d n k j r D z y->bu b g k j (λt=>ye t.a q f h e D<|t.b l)->p (.A,j_,ap d k j)):ak (aw (al<|o+4) (.A Rl .B) a<|ap d b g) p:=by
 have L:(bH f&& !h.isEmpty)=M->fd f=M->ak (aw (al<|o+4) vD a<|ap d b g) (mT (al<|o+4) .B<|mT (al<|o+4) .B p):=λm s=>P6 c_ C h_ I J K λx u F G=>aU<|aU<|E x u _ i a (cU _ 3) (aY _) F<|G.A λt A=>.inr<|.inl<|db s m A Z;rcases e_.A with⟨rfl,H,s⟩|⟨rfl,H,s⟩|⟨b_,rfl,H,s,v⟩
 .haveI B:bz (al<|o+4) (.j<|.A (.A 6)<|.A (.C .Eq (.L .init<|.A 5)<|.B 0) .B) a (ap d b g)=Y (h.isEmpty,ap d b g):=by
   refine(kY (qf c Z) λx_=>(kY (aK (cS (ac i_) Z) Z ?_) λx_=>z').trans<|by rw[oy]);refine aF Y ?_;rw[bC,f_];cases h with
   |nil=>rfl
   |cons=>exact ct<|by rw[dd];exact Wp
  refine iP (nT c Z) ?_;refine c2 h.isEmpty (λm=>?_) λm=>?_;.rw[m]at B;exact fX B<|aU<|aU<|E b g e i a (aY _) (aY _) (C.B<|cU _ 4) λt k_=>am k_<|.inr<|.inr<|aL Z m Z
  .rw[m]at B;exact gB B<|L (by rw[m];rfl) s
 .exact iP (nT c Z)<|gB (kY (i:=Q) (qf c Z) λw=>by exact e4 w)<|L Z s
 .rw[H]at c;refine bg (nT c Z)<|bg (qf c<|aF Y<|c0 v.2.2.2.1)<|pd<|eE g_ (a0 (ac c) aQ) Z Z<|p9 C v.1 λu a_ z l_ F G=>ax _ Z ?_;refine fC (x:=[_,_,_]) (λx_ x_=>ac I) F (.bY (λx_=>cX (a0 Z<|a0 Z<|a0 (ac K) aQ) Z Z)<|.bY (λx_=>gD (a0 Z<|a0 (ac J) aQ) Z Z)<|.bY (λx_=>cX Z Z Z) .A) Z λk j m_ n_=>aU<|aU<|aU ?_;exact E k j _ z _ (cU _ 3) l_ m_<|(G.B n_).A λt A=>.inl ⟨b_,a_,ej Z v.2.2.2.2 v.2.2.1 v.2.1 A.1 A.2 Z⟩
def OE(a:jb f)(h:R<|aC×V):tL (pE f h) (ju f h)/\ri (pE f h)=1/\(ju f h).length<=h.length+1:=by
 unfold pE ju;cases fd f;.rw[ao dy,ao dy];exact aL (.inr<|.inr<|ax h Z Z) Z<|by rw[cs,bC];exact aY _
 .rw[au Z,au Z];exact aL (.inr<|.inl<|am Z Z) Z<|jM<|c8 _
def Oy(i:jb f)(e:a 6=Y (ha f))(g:a 10=Y (.D<|cK h)):ai A (.b (.l (.A 6) .module) (.J "all")<|.A 10) a b=Y (pE f h,b):=by
 unfold pE;rcases i.A with⟨m,c,d⟩|⟨m,c,d⟩|⟨b_,m,c,d,_⟩;.rw[d];exact(b6<|nT e<|by rw[c];rfl).trans<|ac g
 .rw[d];exact(b6<|nT e<|by rw[c];rfl).trans<|ac g
 .rw[d];exact(cw<|nT e<|by rw[c];rfl).trans Z
def KP(a_:1<=s)(b_:hr z)(k:jb f)(d_:∀h∈c,tJ v s h)(B:c.length<=10)(g_:∀h∈c,h.a.length<=10):
 ef (v+3) (s+5) (gr z ((fa c).map bs) f) (aH "p_hash" [g' z,.D<|(gu c).map bs,ha f]) (2+jG c) (39+fY c):=.mk λ{o d w l e i t n b g r e_} h m h_ i_=>by
 haveI j_:cK (gu c)=cK (fa c):=by show(c.map _).map _=(c.map _).map _;rw[hm,hm];rfl
 haveI C:(fa c).length=c.length:=bC ..;haveI y:=OE k<|fa c;refine n0 Z<|aV.A Z (let a:=bV _ _;let p:=hH _;(?_:ak (aw _ _ a _) p));refine eL Z Z<|eL (fV (fb Z b g)<|(r4 (el Z)<|ac Z).trans<|by rw[j_]) Z ?_;refine dD (BF (a_:=t+4+fY c+10+(ju f<|fa c).length+10) b_ m (h.B (by haveI:=y.2.2;exact(a5 10111 Z:N [_,_,_,_,_] (.A (ag+4+aB+10+O+10+4)<|ag+(39+aB)) [.A X 10,.C S X,.A O<|S+1]) B C this)) λx u B_ C_ D E k_ l_=>?_) Z;refine a' Z<|a' (Oy k Z Z) ?_;refine j8<|zF (Dm (.inr Z) y.1 m Z k_ λD_ E_ m_ n_=>(let a:=_;(?_:ak (aw _ _ a _) p))) Z;refine ey (fU<|ac Z)<|Np m c Z Z Z Z d_ m_ λF_ G_ H_ I_ J_ F o_ p_ q_=>?_;refine Rn m k (by rw[bC,bC]) p_ Z Z Z Z Z Z Z λr_ s_ t_ u_ K_ G v_ w_ y_=>?_;refine i_ r_ s_ t_ u_ (br D<|br (br (by exact(aj Z:N [_,_] (.A X<|X+9+S+10) [])) F) G) (br E<|br (iX o_) v_) w_ λq A=>?_;haveI H:=y_ q A;haveI I:=q_ q H.1;haveI j:=n_ q I.1;haveI J:=l_ q j.1;refine am J.1 λc_ K=>?_;haveI L:=j.2.2.2.2;rw[y.2.1]at L;exact Rw A.b A.a a_ h_ c_ J.2 j.2.2.1 j.2.2.2.1 Z L (by exact(aI (.B (.A 1)<|.A 1) Z:N [_,_] (.C (X+9+S+10)<|X+19+S) [])) (I.2<|br G K) H.2 j.2.1 Z E (eV _) D F K (Rm k) (λf_ z_=>by obtain⟨h,A_,rfl⟩:=d4.1 z_;exact g_ h A_)<|by rw[C];exact B
end
def kR(a b:V)(c d:U):Prop:=
 (∃f,eX f/\a=gQ f/\b=aH "p_bind" [.E f]/\c=0/\d=3)\/
 (∃e,e≠"StandardError"/\e.length<=100/\a=.F [aa "kind",aa e]/\b=aH "p_value" [aH "const" [.C,aa e]]/\c=1/\d=5)\/
 (∃g:U,g<=100/\a=.F [aa "number",.A g]/\b=aH "p_value" [aH "int" [.A g]]/\c=1/\d=5)\/
 (a=.F [aa "kept"]/\b=aH "p_pin" [aH "lvar" [aa "kept"]]/\c=1/\d=5)
def dt:U->V->V->U->U->Prop
 |0,b,c,d,e=>kR b c d e
 |g+1,b,c,d,e=>kR b c d e\/
  (x8 λj k l m r s t u=>dt g j k l m/\dt g r s t u/\b=.F [aa "either",.D [j,r]]/\c=aH "p_alt" [.D [k,s]]/\d=l+t/\e=m+u+1)\/
  (ni λj k l m p=>dt g j k l m/\eX p/\b=.F [aa "behind",j,.E p]/\c=aH "p_as" [k,.E p]/\d=l/\e=m+3)\/
  (cy λf o n h=>hr f/\l0 o/\(o=.C->h=[])/\(∀a:bU,a∈n->dt g a.a a.b a.d a.c)/\(∀a:bU,a∈h->dt g a.a a.b a.d a.c)/\b=gU f (n.map (·.a)) o (h.map (·.a))/\c=aH "p_array" [g' f,.D<|n.map (·.b),o,.D<|h.map (·.b)]/\d=2+dT n+dT h/\e=31+cr n+cr h)\/
  (kM λf q i=>hr f/\jb q/\i.length<=10/\(∀a:fh,a∈i->a.a.length<=10/\eX (.A a.a)/\((a.c=.C/\a.b=.C/\a.e=0)\/(dt g a.c a.b a.e a.d)))/\b=gr f ((fa i).map bs) q/\c=aH "p_hash" [g' f,.D<|(gu i).map bs,ha q]/\d=2+jG i/\e=39+fY i)
section
def ef.A(p:ef b d e f g h)(q:b<=c)(r:d<=i)(s:h<=j):ef c i e f g j:=.mk λ{m k i_ j_ k_ n l_ m_ n_ o_ p_ q_} t u a v=>by have w:m+c+10=m+(c-b)+b+10:=aF (·+10) (by rw[hn,F4 q]);rw[w];refine p.a (t.B<|lH s _) u a λx y z B C a D E=>v x y z B C a D<|E.A λr_ F G k H I J l K n L a_ b_ c_ d_ e_ f_ a=>?_;refine cy.A (F G k H I J l K n L a_ b_ c_ d_ e_ f_ a) λk l g_ h_ o=>?_;exact⟨k,l,g_,h_,o.1.A r,o.2⟩
def Be(e:kR a b c d):ef 0 3 a b c d:=by
 rcases e with⟨j,f,rfl,rfl,rfl,rfl⟩|⟨k,g,h,rfl,rfl,rfl,rfl⟩|⟨l,i,rfl,rfl,rfl,rfl⟩|⟨rfl,rfl,rfl,rfl⟩;.exact(zI f).A (aY _) (aX Z)<|aY _
 .exact(KT g h).A (aY _) (aY _)<|aX Z
 .exact(KW i).A (aY _) (aY _)<|aX Z
 .exact KS
def jr:∀{d:U}{b c:V}{e f:U},dt d b c e f->(bE λg h=>b=.F (g::h))/\bE λi j=>c=aH i j:=by
 intro d b c e f a;have k:kR b c e f->(bE λg h=>b=.F (g::h))/\bE λi j=>c=aH i j:=λa=>by rcases a with⟨l,m,rfl,rfl,_⟩|⟨n,o,p,rfl,rfl,_⟩|⟨q,r,rfl,rfl,_⟩|⟨rfl,rfl,_⟩<;>exact⟨⟨_,_,Z⟩,_,_,Z⟩
 cases d with
 |zero=>exact k a
 |succ d=>
  rcases a with a|⟨_,_,_,_,_,_,_,_,_,_,rfl,rfl,_⟩|⟨_,_,_,_,_,_,_,rfl,rfl,_⟩|⟨_,_,_,_,_,_,_,_,_,rfl,rfl,_⟩|⟨_,_,_,_,_,_,_,rfl,rfl,_⟩;.exact k a
  all_goals exact⟨⟨_,_,Z⟩,_,_,Z⟩
def Ai:∀(a:U){j k:V}{l m:U},dt a j k l m->ef (3*a) (3+5*a) j k l m:=by
 intro a
 induction a with
 |zero=>exact λb=>Be b
 |succ a e=>
  intro j k l m b;have i:1<=3+5*a:=br (aX Z)<|cU 3 _;have f:3*a+2<=3*(a+1):=eU _;have g:3+5*a+1<=3+5*(a+1):=lH (k:=3+5*a) (show 1<=5 by decide);rcases b with b|⟨q,r,s,t,B,C,D,E,n,p,rfl,rfl,rfl,rfl⟩|⟨q,r,s,t,F,n,u,rfl,rfl,rfl,rfl⟩|⟨v,G,H,I,f,g,o,h,w,rfl,rfl,rfl,rfl⟩|⟨v,J,K,f,g,o,h,rfl,rfl,rfl,rfl⟩;.exact(Be b).A (c8 _) (cU _ _)<|aY _
  .obtain⟨⟨x,y,rfl⟩,_⟩:=jr p;exact(KN i (e n)<|e p).A f g<|aY _
  .exact(KO u i<|e n).A f g<|aY _
  .exact KY i f g o (λc d=>e<|h c d) λc d=>e<|w c d
  .refine KP i f g (λc d=>am ((h c d).2.1)<|(h c d).2.2.imp id λb=>?_) o λc d=>(h c d).1;obtain⟨⟨x,y,z⟩,L,a_,A⟩:=jr b;exact aL (by rw[z];rfl) (by rw[A];rfl)<|e b
end
def kd:R<|an×V:=(j6 Do).getD []
section
variable{a c:af}{b d:R V}
def PX(i:f=a.a)(c:bn (.A e) kd=Y (.F d))(j:d.length=b.length):aR (g+1) .E_ [.B f,aa e,.F b] (a.B<|.C .A [])=Y (.C,a.B<|.C .A [("kind",aa e),("parts",.F b),("line",.A 0),("own",.C)]):=by
 haveI k:∀a:af,bz (al g) (.C .NotIn (.A 1)<|.m .ignore) (bV .E_ [.B f,aa e,.F b]) a=Y (M,a):=λa=>by refine aK Z Z ?_;show(Y<|mu (.A e) kd).map _=_;unfold mu;rw[c];rfl
 haveI h:∀a:af,bz (al g) (.C .NotEq (.L .init<|.F (.m .ignore)<|.A 1)<|.L .init<|.A 2) (bV .E_ [.B f,aa e,.F b]) a=Y (M,a):=λa=>by refine aK (cS (k:=.F d) ?_ Z) (cS (ac Z) Z) (aF Y<|aF not<|c0<|by rw[j]);show((if bG (.A e)then ab else bn (.A e) kd:aD V).or _).map _=_;rw[ao<|show¬bG (.A e)=Q from dy,c];rfl
 have l:∀a:af,bz (al g) (.j<|.A (.C .NotIn (.A 1)<|.m .ignore)<|.A (.C .NotEq (.L .init<|.F (.m .ignore)<|.A 1)<|.L .init<|.A 2) .B) (bV .E_ [.B f,aa e,.F b]) a=Y (M,a):=λa=>by rw[Aa,pq,k];show gN _ _ _ _=_;rw[pq,h];rfl
 clear h;subst i;exact bi Z<|as (l _)<|em Z Z Z Z<|em Z Z Z Z<|em Z Z Z Z<|em Z Z Z Z<|aU Z
def ew(j:bn (.A e) kd=Y (.F d))(k:d.length=b.length)(l:ai (al<|f+1) h g a=Y (aa e,a))(m:ai (al<|f+1) i g a=Y (.F b,c)):ai (al<|f+1) (.c .A<|.A h<|.A i .B) g a=Y (aH e b,c.B .B):=by show(bK _ (.A h<|.A i .B) g a).bind _=_;rw[av l<|av m aQ];show(aR (f+1) .E_ [.B c.a,aa e,.F b]<|c.B<|.C .A []).bind _=_;rw[PX Z j k];show lf (c.B<|.C .A [("kind",aa e),("parts",.F b),("line",.A 0),("own",.C)]) (.B c.a)=_;rw[nR<|aF ke iM,vO]
structure cb(c e:af):Prop where
 a:c.a<=e.a
 b:∀d,d<c.a->e.b d=c.b d
def cb.C:cb a a:=⟨aY _,λb b=>Z⟩
def cb.B(b:cb a e)(d:cb e c):cb a c:=⟨br b.a d.a,λf g=>(d.b f<|eA g b.a).trans<|b.b f g⟩
def cb.A:cb a<|a.B e:=⟨eU _,λc b=>ao<|ed b⟩
end
section
variable{a:R V}
def uy{l:aA->af->aD (aE×af)}(a:R g):∀{h:af},(∀k∈a,∀h,bE λj i=>dY b (c k) d=Y j/\l j h=Y (Q,h)/\e j h=Y (f k,i)/\cb h i)->
 ∃i,cb h i/\ek e l b (a.map c) d h=Y (a.map f,i):=by
 induction a with
 |nil=>intro h _;exact ax h (.C) Z
 |cons k a p=>
  intro h n;refine bE.A (n k bP h) λj q m=>?_;obtain⟨i,o⟩:=p λr s=>n r<|cx _ s;refine ax i (m.2.2.2.B o.1) ?_;show(dY b (c k) d).bind _=_;rw[m.1];show(l j h).bind _=_;rw[m.2.1];show(e j h).bind _=_;rw[m.2.2.1];show(ek e l b (a.map c) d q).bind _=_;rw[o.2];rfl
def k8(l:ei d e b c=Y (a,f))(m:ek (λb c=>ai d g b c) (λb c=>d' d h b c) i a b f=Y (j,k)):ai d (.d M g i e h) b c=Y (.D j,k):=by show(ei d e b c).bind _=_;rw[l];show(ek (λb c=>ai d g b c) (λb c=>d' d h b c) i a b f).map _=_;rw[m];rfl
def Cd(i:kR b c d e)(a:U)(f:af):∃g,cb f g/\aR (a+3) .C [b] f=Y (c,g):=by
 rcases i with⟨j,l,rfl,rfl,_⟩|⟨k,m,n,rfl,rfl,_⟩|⟨h,o,rfl,rfl,_⟩|⟨rfl,rfl,_⟩;.exact ax _ (.A)<|bi Z<|a' Z<|bg Z<|a3 (ew (e:="p_bind") (b:=[.E j]) Z Z Z Z) Z
 .exact ax _ (.B .A .A)<|bi Z<|a' Z<|as Z<|bg Z<|a3 (ew (e:="p_value") (b:=[aH "const" [.C,aa k]]) Z Z Z<|cB<|av (ew Z Z Z Z) aQ) Z
 .exact ax _ (.B .A .A)<|bi Z<|a' Z<|as Z<|as Z<|bg Z<|a3 (ew (e:="p_value") (b:=[aH "int" [.A h]]) Z Z Z<|cB<|av (ew (f:=a+1) (e:="int") (b:=[.A h]) Z Z Z Z) aQ) Z
 .exact ax _ (.B .A .A)<|bi Z<|a' (e:=aa "kept") (f:=f) Z<|as Z<|as Z<|as Z<|bg Z<|a3 (ew (f:=a+1) (e:="p_pin") (b:=[aH "lvar" [aa "kept"]]) Z Z Z<|cB<|av (ew (f:=a+1) (e:="lvar") (b:=[aa "kept"]) Z Z Z Z) aQ) Z
end
section
def AJ(j:hr b)(h:c 0=Y (.F (e::b::f))):∃i,cb a i/\ai (al<|d+1) (.b (.C .Is (.F (.A 0)<|.B 1) .H) .H<|.c .A<|.A (.J "const")<|.A (.I<|.A .H<|.A (.F (.A 0)<|.B 1) .B) .B) c a=Y (g' b,i):=by
 have g:ai (al<|d+1) (.F (.A 0)<|.B 1) c a=Y (b,a):=by show((c 0).map _).bind _=_;rw[h];rfl
 clear h;rcases j with rfl|⟨k,rfl,_⟩
 .exact ax a (.C)<|(cw<|aK g Z Z).trans Z
 .exact ax _ (.A)<|(b6<|aK g Z Z).trans<|ew Z Z Z<|cB<|av Z<|av g aQ
def Ce(h:R bU)(f:U)(k:∀g∈h,∀a,∃e,cb a e/\aR f .C [g.a] a=Y (g.b,e))(l:ai (al f) d b a=Y (.D<|h.map (·.a),a)):
 ∃e,cb a e/\ai (al f) (.d M (.G .C<|.A (.A c) .B) (.A c) (.A d) .B) b a=Y (.D<|h.map (·.b),e):=by
 obtain⟨e,j⟩:=uy (b:=.A c) (e:=λb a=>ai (al f) (.G .C<|.A (.A c) .B) b a) (l:=λb a=>d' (al f) .B b a) h λg m a=>by refine a8 (k g m a) λe i=>?_;exact⟨b.A c g.a,e,db Z Z (bM (av (ac<|au Z) aQ) i.2) i.1⟩
 exact ax e j.1<|k8 (fU l) j.2
def Cc:∀(d:U){w x:V}{D E:U},dt d w x D E->∀(c:U)(a:af),∃h,cb a h/\aR (c+d+3) .C [w] a=Y (x,h):=by
 intro d
 induction d with
 |zero=>exact λj c a=>Cd j c a
 |succ d l=>
  intro w x D E j c a;rcases j with j|⟨s,t,g_,h_,F,G,r_,s_,y,z,rfl,rfl,rfl,rfl⟩|⟨s,t,g_,h_,q,y,t_,rfl,rfl,rfl,rfl⟩|⟨e,u,m,n,A,H,i_,B,j_,rfl,rfl,rfl,rfl⟩|⟨e,k,g,A,H,i_,B,rfl,rfl,rfl,rfl⟩;.exact Cd j (c+(d+1)) a
  .obtain⟨r,I⟩:=Ce (d:=.F (.A 0)<|.B 1) (b:=(bV .C [.F [aa "either",.D [s,F]]]).A 1<|aa "either") [⟨.C,s,t,.C,0,0⟩,⟨.C,F,G,.C,0,0⟩] (c+d+3) (λb i a=>by
    rcases bj.1 i with rfl|i;.exact l y c a
    .rw[cm.1 i];exact l z c a) Z
   exact ax _ (I.1.B .A)<|bi Z<|a' Z<|as Z<|as Z<|as Z<|as Z<|bg Z<|a3 (ew (e:="p_alt") (b:=[.D [t,G]]) Z Z Z<|cB<|av I.2 aQ) Z
  .obtain⟨r,J⟩:=l y c a;exact ax _ (J.1.B .A)<|bi Z<|a' Z<|as Z<|as Z<|as Z<|as Z<|as Z<|bg Z<|a3 (ew (e:="p_as") (b:=[t,.E q]) Z Z Z<|cB<|av (bM (f:=[s]) Z J.2)<|av Z aQ) Z
  .obtain⟨r,K⟩:=AJ (a:=a) (d:=c+d+2) (c:=(bV .C [gU e (m.map (·.a)) u<|n.map (·.a)]).A 1<|aa "row") A Z;obtain⟨k_,b_⟩:=uy (h:=r) (d:=((bV .C [gU e (m.map (·.a)) u<|n.map (·.a)]).A 1<|aa "row").A 3<|g' e) (c:=λb:U×R bU=>.A b.1) (b:=.A 4) (f:=λb:U×R bU=>.D<|b.2.map (·.b))
    (e:=λf a=>ai (al<|c+d+3) (.d M (.G .C<|.A (.A 5) .B) (.A 5) (.A<|.F (.A 0)<|.A 4) .B) f a) (l:=λf a=>d' (al<|c+d+3) .B f a) [(2,m),(4,n)] λb i a=>by
     have L:(∀o∈b.2,∀a,∃h,cb a h/\aR (c+d+3) .C [o.a] a=Y (o.b,h))/\(b=(2,m)\/b=(4,n)):=by
      rcases bj.1 i with rfl|i;.exact am (λo C a=>l (B o C) c a)<|.inl Z
      .rw[cm.1 i];exact am (λo C a=>l (j_ o C) c a)<|.inr Z
     obtain⟨h,a_⟩:=Ce (a:=a) (c:=5) (d:=.F (.A 0)<|.A 4) (b:=(((bV .C [gU e (m.map (·.a)) u<|n.map (·.a)]).A 1<|aa "row").A 3<|g' e).A 4<|.A b.1) b.2 (c+d+3) L.1 (by rcases L.2 with rfl|rfl<;>rfl);exact⟨_,h,db Z Z a_.2 a_.1⟩
   refine ax _ (K.1.B<|b_.1.B .A)<|bi (f:=c+d+3) Z<|a' (e:=aa "row") (f:=a) Z<|as Z<|as Z<|as Z<|as Z<|as Z<|as Z<|a' K.2<|bg Z<|eL (k8 (a:=[.A 2,.A 4]) Z b_.2) Z<|a3 (ew (f:=c+d+2) (e:="p_array") (b:=[g' e,.D<|m.map (·.b),u,.D<|n.map (·.b)]) Z Z Z Z) Z
  .obtain⟨r,c_⟩:=AJ (a:=a) (d:=c+d+2) (c:=(bV .C [gr e ((fa g).map bs) k]).A 1<|aa "card") A Z;obtain⟨k_,e_⟩:=uy (h:=r) (d:=((bV .C [gr e ((fa g).map bs) k]).A 1<|aa "card").A 3<|g' e) (c:=λb:fh=>bs (b.a,b.c)) (b:=.B [8,9]) (f:=λb:fh=>bs (b.a,b.b))
    (e:=λf a=>ai (al<|c+d+3) (.I<|.A (.A 8)<|.A (.b (.C .Is (.A 9) .H) .H<|.G .C<|.A (.A 9) .B) .B) f a) (l:=λf a=>d' (al<|c+d+3) .B f a) g λb i a=>by
     rcases(B b i).2.2 with⟨l_,m_,_⟩|j;.refine⟨((((bV .C [gr e ((fa g).map bs) k]).A 1<|aa "card").A 3<|g' e).A 8<|aa b.a).A 9 b.c,a,db Z Z ?_<|.C⟩;rw[l_,m_];exact cB<|av (ac (h:=aa b.a) Z)<|av ((cw<|aK (ac (h:=.C) Z) Z Z).trans Z) aQ
     .obtain⟨h,d_⟩:=l j c a;obtain⟨⟨u_,v_,n_⟩,_⟩:=jr j;refine⟨((((bV .C [gr e ((fa g).map bs) k]).A 1<|aa "card").A 3<|g' e).A 8<|aa b.a).A 9 b.c,h,db Z Z (cB<|av (ac (h:=aa b.a) Z)<|av ((b6<|aK (ac (h:=b.c) Z) (k:=.C) Z<|by rw[n_];rfl).trans<|bM (f:=[b.c]) (av (ac Z) aQ) d_.2) aQ) d_.1⟩
   have o_:(fa g).map bs=g.map λb=>bs (b.a,b.c):=hm ..;have p_:(gu g).map bs=g.map λb=>bs (b.a,b.b):=hm ..;have q_:∀(f:aA)(a:af),f 0=Y (gr e ((fa g).map bs) k)->ai (al<|c+d+3) (.b (.C .Eq (.F (.A 0)<|.B 3)<|.J "none") (.i Q)<|.F (.A 0)<|.B 3) f a=Y (ha k,a):=λf a f_=>by
    have p:ai (al<|c+d+3) (.F (.A 0)<|.B 3) f a=Y (k,a):=by show((f 0).map _).bind _=_;rw[f_];rfl
    clear f_;rcases H with rfl|rfl|⟨q,rfl,v⟩
    .exact(b6<|aK p Z Z).trans p
    .exact(cw<|aK p Z Z).trans Z
    .haveI z:ha (.E q)=.E q:=ao v.2.2.2.2;rw[z];refine(b6<|aK p Z ?_).trans p;haveI:=n2 (e:=a) v.1.1 (d:=.A "none") Z;clear p;cases q with
     |A w_=>exact aF Y<|ct v.2.2.2.2
     |C c=>exact Fu v.1.1
     |D c=>rfl
     |B c=>rfl
   rw[p_];exact ax _ (c_.1.B<|e_.1.B .A)<|bi (f:=c+d+3) Z<|a' (e:=aa "card") (f:=a) Z<|as Z<|as Z<|as Z<|as Z<|as Z<|as Z<|a' c_.2<|as Z<|a' (k8 (fU (a:=g.map λb=>bs (b.a,b.c))<|by rw[<-o_];rfl) e_.2)<|a3 (ew (f:=c+d+2) (e:="p_hash") (b:=[g' e,.D<|g.map λb=>bs (b.a,b.b),ha k]) Z Z Z<|cB<|av (ac Z)<|av (ac Z)<|av (q_ _ _ Z) aQ) Z
end
structure dp where
 d:ah
 c:ah
 a:ah
 b:U
abbrev kt(a:dp):R<|an×V:=[(.A "deep",.A a.d),(.A "walk",.A a.c),(.A "left",.A a.a),(.A "names",.A a.b)]
def a7(a:U)(b:af)(c:dp):af:=b.A a<|.D<|kt c
section
variable{a:dp}
def CS:(a7 b c a).b b=.D (kt a):=au Z
def SD:(a7 b c a).A b (.D<|kt d)=a7 b c d:=fT Z λe=>by
 show(if e=b then _ else if e=b then _ else c.b e)=if e=b then _ else c.b e
 by_cases f:e=b;.rw[au f,au f]
 .rw[ao f,ao f,ao f]
def iF(i:e f=Y (.B b))(j:bn (.A g) (kt a)=Y c):ai h (.F (.A f)<|.J g) e (a7 b d a)=Y (c,a7 b d a):=by show((e f).map λc=>(c,a7 b d a)).bind _=_;rw[i];show(eG (a7 b d a) (.B b)<|aa g).map _=_;rw[pu CS j];rfl
def sF(m:d h=Y (.B b))(n:ai f i d (a7 b c a)=Y (g,a7 b c a))(o:cp (.A e) g (kt a)=kt j)(p:ak (aw f k d<|a7 b c j) l):ak (aw f (.A (.H (.A h) (.J e) i) k) d<|a7 b c a) l:=by
 refine gd<|ak.B<|ax _ n<|ak.B<|ax (.B b,a7 b c a) (ac m)<|ak.B<|ax (aa e,a7 b c a) Z ?_;refine ax (.A,d,(a7 b c a).A b<|.D<|cp (.A e) g<|kt a) ?_ ?_;.show(((fx<|(a7 b c a).b b).bind _).or _)=_;rw[CS];rfl
 .rw[o,SD];exact p
def eg(a:dp):Prop:=0<=a.d/\0<=a.c/\a.c<1009
def mj{e:U}(h:0<e)(i:e<1000000)(r:eg a):bE λ(o:U)(j:dp)=>aR (d+1) .B [.B b,.A e] (a7 b c a)=Y (.A o,a7 b c j)/\o<e/\eg j/\j.a=a.a/\j.b=a.b:=by
 refine gS r λk s t=>?_;have g:(0:ah)<e:=by exact Wr h i
 have p:∀f:ah,0<=f->bD (f.fmod e=((f.fmod e).toNat:ah)) ((f.fmod e).toNat<e):=λf x=>by haveI u:=Fx f g;haveI v:=X4 f g;exact Ws h u v i
 by_cases q:0<a.d
 .refine fj (p a.d k) λl m=>?_;refine⟨(a.d.fmod e).toNat,{a with d:=a.d.fdiv e},bB (bi Z<|bg (aK (iF Z Z) Z<|aF Y<|c0 q)<|a' (bL (iF Z Z) (ac Z)<|au g)<|sF (j:={a with d:=a.d.fdiv e}) Z (bL (iF Z Z) (ac Z)<|au ⟨g,by exact Wt h i⟩) Z<|a3 (ac Z) ?_) m (aL ?_ s t) Z Z⟩
  .rw[<-l];rfl
  .exact X2 k<|Wu h i
 .haveI n:0<=(a.c*61+29).fmod 1009/\(a.c*61+29).fmod 1009<1009:=am (Fx _<|ae Z)<|X4 _<|ae Z;haveI w:0<=((a.c*61+29).fmod 1009).fdiv 5:=X2 n.1<|ae Z;refine fj (p _ w) λl m=>?_;refine⟨((((a.c*61+29).fmod 1009).fdiv 5).fmod e).toNat,{a with c:=(a.c*61+29).fmod 1009},bB (bi Z<|as (aK (iF Z Z) Z<|aF Y<|ct q)<|sF Z (bL (bL (bL (iF Z Z) Z<|vk<|.inr<|ae Z) Z Z) Z Z) Z<|a3 (bL (bL (iF (a:={a with c:=(a.c*61+29).fmod 1009}) Z Z) Z Z) (ac Z)<|au g) ?_) m (aL k n.1 n.2) Z Z⟩;rw[<-l];rfl
def PJ(e:a.b<900000):aR (d+1) .A_ [.B b] (a7 b c a)=Y (.E<|.D<|a.b+1,a7 b c {a with b:=a.b+1}):=by refine bi Z<|sF Z (bL (iF Z Z) Z Z) Z<|a3 (bL (i:=.E<|.C<|a.b+1) Z (cS (iF Z Z) ?_) Z) Z;exact y2 (b:=a.b+1)<|by exact(aj Z:N [_] (.B (X+1) 1000000) [.B X 900000]) e
end
def jU(b a:dp):Prop:=eg a/\a.a=b.a/\a.b=b.b
def fZ:U->U
 |0=>4
 |a+1=>3*fZ a+200
def j2(b:U)(a:V):Prop:=bA a/\cM a=Q/\cA a<=fZ b/\cT a<=3*b
section
def jU.A(e:jU a b)(d:jU b c):jU a c:=aL d.1 (d.2.1.trans e.2.1)<|d.2.2.trans e.2.2
def zK{q:aA->af->aD (aE×af)}{v:g->V->Prop}(k:R g):∀{h:dp},eg h->(∀i∈k,∀h,eg h->kM λl r j=>dY c (d i) e=Y l/\q l (a7 a b h)=Y (Q,a7 a b h)/\f l (a7 a b h)=Y (r,a7 a b j)/\v i r/\jU h j)->
 ∃(o:R<|g×V)(j:dp),ek f q c (k.map d) e (a7 a b h)=Y (o.map xp,a7 a b j)/\o.map xo=k/\(∀m∈o,v m.1 m.2)/\jU h j:=by
 induction k with
 |nil=>intro h u _;exact NU ([]) h Z Z (λy s=>bW s) u Z Z
 |cons i k w=>
  intro h u s;refine kM.B (s i bP h u) λl r x n=>?_;refine d2 (w n.2.2.2.2.1 λm p=>s m<|cx _ p) λo j t=>?_;refine Au ((i,r)::o) j ?_ (aF (i::·) t.2.1) (λm p=>?_)<|n.2.2.2.2.A t.2.2.2;.show(dY c (d i) e).bind _=_;rw[n.1];show(q l<|a7 a b h).bind _=_;rw[n.2.1];show(f l<|a7 a b h).bind _=_;rw[n.2.2.1];show(ek f q c (k.map d) e<|a7 a b x).bind _=_;rw[t.1];rfl
  .rcases bj.1 p with rfl|p
   .exact n.2.2.2.1
   .exact t.2.2.1 m p
def Tv(d:a.length<=3)(e:∀c∈a,j2 b c):j2 (b+1)<|.D (aa "row"::a):=by
 have f:dQ a=Q/\dK a<=a.length*(fZ b+2)/\eu a<=3*b:=by
  clear d
  induction a with
  |nil=>exact aL Z (c8 _)<|c8 _
  |cons c a i=>
   haveI g:=i λj k=>e j<|cx _ k;haveI h:=e c bP;refine aL ?_ ?_ ?_;.show(cM c&&dQ a)=Q;rw[g.1,h.2.1];rfl
   .show cA c+2+dK a<=(a.length+1)*(fZ b+2);rw[Y4];exact Wv h.2.2.1 g.2.1
   .show bI (cT c) (eu a)<=_;exact Ww g.2.2 h.2.2.2
 haveI l:=f.2.1;haveI m:=f.2.2;refine db (.D a (λc n=>(e c n).1) d) f.1 ?_ ?_;.show(10*"row".length+2)+2+dK a+3<=3*fZ b+200;haveI o:"row".length=3:=Z;haveI:a.length*(fZ b+2)<=3*(fZ b+2):=F2 _ d;exact(aI (.C [1,1,10,0,1]) Z:N [_,0,_,_,_] (.A ((.A 10 ag)+2+2+X+3)<|(.A 3 O)+200) [.A X aB,.C ag 3,.A aB<|.A 3<|O+2]) l o this
 .show bI 0 (eu a)+1<=3*(b+1);exact Vy m
def Tu{b:R<|aC×V}(m:b.length<=3)(n:(b.map (·.1)).Nodup)(e:∀c∈b,c.1∈["x","y","z"])(f:∀c∈b,j2 a c.2):j2 (a+1)<|.D (aa "card"::b.map bs):=by
 have g:dQ (b.map bs)=Q/\dK (b.map bs)<=b.length*(fZ a+25)/\eu (b.map bs)<=3*a+1:=by
  clear m n
  induction b with
  |nil=>exact aL Z (c8 _)<|c8 _
  |cons c b o=>
   have j:=o (λh i=>e h<|cx _ i) λh i=>f h<|cx _ i;have k:=f c bP;haveI l:c.1.length=1:=by haveI:=e c bP;simp only[bj,ep,fL]at this;refine n9 this (λd=>?_) (λd=>?_) λd=>?_<;>rw[d]<;>rfl
   refine aL ?_ ?_ ?_;.show((Q&&(cM c.2&&Q))&&dQ (b.map bs))=Q;rw[j.1,k.2.1];rfl
   .show((10*c.1.length+2)+2+(cA c.2+2+0)+3)+2+dK (b.map bs)<=(b.length+1)*(fZ a+25);haveI d:(b.length+1)*(fZ a+25)=b.length*(fZ a+25)+(fZ a+25):=Y4 _ _;rw[d,l];exact Wx d k.2.2.1 j.2.1
   .show bI (bI 0 (bI (cT c.2) 0)+1) (eu<|b.map bs)<=_;exact Wy k.2.2.2 j.2.2
 haveI p:=g.2.1;haveI q:=g.2.2;refine db (.B b n (λc l=>(f c l).1) e) g.1 ?_ ?_;.show(10*"card".length+2)+2+dK (b.map bs)+3<=3*fZ a+200;haveI r:"card".length=4:=Z;haveI:b.length*(fZ a+25)<=3*(fZ a+25):=F2 _ m;exact(aI (.C [1,1,10,0,1]) Z:N [_,0,_,_,_] (.A ((.A 10 ag)+2+2+X+3)<|(.A 3 O)+200) [.A X aB,.C ag 4,.A aB<|.A 3<|O+25]) p r this
 .show bI 0 (eu<|b.map bs)+1<=3*(a+1);exact Vz q
end
section
variable{b:af}{f:aA}{j:bk}{g l:V}{d e m a:U}{h i k:dp}{c:aC}
def ki(a:n<o):dz b .Gt (.A o) (.A n)=Y true:=aF Y<|c0 a
def mA(a:n<o):dz b .Lt (.A n) (.A o)=Y true:=aF Y<|c0 a
def pJ(a:¬n<o):dz b .Lt (.A n) (.A o)=Y false:=aF Y<|ct a
def nO(a:n≠o):dz b .Eq (.A n) (.A o)=Y false:=aF Y<|ct a
def Du{b:U}(c:b<3)(a:U):j2 a<|.A b:=by
 refine db (.A b) Z ?_<|c8 _;haveI:4<=fZ a:=by
  cases a with
  |zero=>exact aY _
  |succ a=>show 4<=3*fZ a+200;exact(aj Z:N [_] (.A 4<|(.A 3 X)+200) [])
 exact Wz this c
def mx(g:V):V:=(g5 g).elim g λa=>a.getD 1 g
def pw(a:ai n j f b=Y (.D p,b))(c:ai n q f b=Y (l,o))(d:eG o (.D p) l=Y g):ai n (.F j q) f b=Y (g,o):=by show(ai n j f b).bind _=_;rw[a];show(ai n q f b).bind _=_;rw[c];show(eG o (.D p) l).map _=_;rw[d];rfl
def Q2{c:U}(a:c<1000):vP (.A c) b=Y ((dF c).map λc:U=>V.A c,b):=by unfold vP;rw[show co (V.A c)=Y (c:ah)from Z,xm,au ⟨by exact WA a,by exact WB a⟩,qB]
def vU:R V:=[.D [aa "row",.A 1,.A 2],.D [aa "card",bs ("x",.A 1),bs ("y",.A 0)],.A 6,.D [aa "card"]]
def Tw{g:U}{c:V}(b:vU[g]?=Y c)(a:U):j2 (a+1)<|.D [aa "wrap",c]:=by
 haveI h:bA c/\cF c≠"wrap"/\cM c=Q/\cA c<=120/\cT c<=2:=by
  match g,b with
  |0,b=>have e:=ch b;subst e;exact bB (.D [.A 1,.A 2] (λm d=>by
   rcases bj.1 d with rfl|d;.exact .A 1
   .rw[cm.1 d];exact .A 2)<|aX Z) (ae Z) Z (aX Z)<|aX Z
  |1,b=>have e:=ch b;subst e;exact bB (.B [("x",.A 1),("y",.A 0)] (ae Z) (λm d=>by
   rcases bj.1 d with rfl|d;.exact .A 1
   .rw[cm.1 d];exact .A 0) (λm d=>by
   rcases bj.1 d with rfl|d;.exact bP
   .rw[cm.1 d];exact cx _ bP)) (ae Z) Z (aX Z)<|aX Z
  |2,b=>have e:=ch b;subst e;exact bB (.A 6) (ae Z) Z (aX Z)<|aX Z
  |3,b=>have e:=ch b;subst e;exact bB (.B [] iW (λi a=>bW a) λi a=>bW a) (ae Z) Z (aX Z)<|aX Z
  |g+4,b=>exact b8 b
 have f:=h;refine db (.E c f.1 f.2.1) ?_ ?_ ?_;.show(Q&&(cM c&&Q))=Q;rw[f.2.2.1];rfl
 .show(10*"wrap".length+2)+2+(cA c+2+0)+3<=3*fZ a+200;haveI:"wrap".length=4:=Z;exact(aI (.C [1,1,10]) Z:N [_,_,_] (.A ((.A 10 X)+2+2+(S+2+0)+3)<|(.A 3 O)+200) [.C X 4,.A S 120]) this f.2.2.2.1
 .show bI 0 (bI (cT c) 0)+1<=3*(a+1);exact WC f.2.2.2.2
def TA:∀(a:U){e d:U}{b:af}{h:dp},eg h->bE λs i=>aR (e+a+2) .I [.B d,.A a] (a7 d b h)=Y (s,a7 d b i)/\j2 a s/\jU h i:=by
 intro a
 induction a with
 |zero=>
  intro e d b h r;obtain⟨n,i,t⟩:=mj (e:=3) (ae Z) (ae Z) r;exact⟨.A n,i,bB (bi Z<|a' ((b6<|aK Z Z Z).trans Z)<|bg Z<|a3 (bM Z t.1) Z) (Du t.2.1 0) t.2.2.1 t.2.2.2.1 t.2.2.2.2⟩
 |succ a c_=>
  intro e d b h r;obtain⟨n,k,u⟩:=mj (e:=6) (ae Z) (ae Z) r;haveI j:=u.1;haveI z:jU h k:=u.2.2;have A:ai (al<|e+a+2) (.b (.C .Gt (.A 1)<|.B 0) (.G .B<|.A (.A 0)<|.A (.B 6) .B)<|.B 0) (bV .I [.B d,.A ((a+1:U):ah)]) (a7 d b h)=Y (.A n,a7 d b k):=
   (cw<|aK Z Z<|ki<|WD).trans (bM Z j)
  have d_:∀(f:aA)(b:af),f 1=Y (.A ((a+1:U):ah))->ai (al<|e+a+2) (.K .warn (.A 1)<|.B 1) f b=Y (.A (a:U),b):=λf b k_=>bL (ac k_) Z<|aF (λl_=>Y<|V.A l_)<|ot;clear j;by_cases D:n<2;.obtain⟨m,q,E⟩:=mj (e:=3) (ae Z) (ae Z) z.1;exact⟨.A m,q,aL (bi (f:=e+a+2) Z<|a' A<|bg (aK (i:=.A n) (k:=.A 2) Z Z<|mA<|by exact WE D u.2.1)<|a3 (bM (f:=[.B d,.A 3]) Z E.1) Z) (Du E.2.1 _)<|z.A E.2.2⟩
  .refine bE.A (mj (d:=e+a+1) (b:=d) (c:=b) (e:=4) (by decide) (by decide) z.1) λm q o=>?_;have v:jU h q:=z.A o.2.2;have F:∀(f:aA)(b:af),f 2=Y (.A n)->bz (al<|e+a+2) (.C .Lt (.A 2)<|.B 2) f b=Y (M,b):=λf b m_=>aK (ac m_) (k:=.A 2) Z (pJ<|by exact WF u.2.1 D);clear D;by_cases G:n=2
   .subst G;refine d2 (zK (a:=d) (b:=b) (e:=(bV .I [.B d,.A ((a+1:U):ah)]).A 2<|.A 2) (d:=λB:U=>V.A B) (c:=.A 3) (v:=λx_ g=>j2 a g) (f:=λf b=>ai (al<|e+a+2) (.G .I<|.A (.A 0)<|.A (.K .warn (.A 1)<|.B 1) .B) f b) (q:=λf b=>d' (al<|e+a+2) .B f b) (dF m) v.1 λB x_ h r=>by
     refine bE.A (c_ (e:=e) (d:=d) (b:=b) r) λs i H=>?_;exact⟨_,s,i,bB Z Z (bM (f:=[.B d,.A a]) (av (ac (h:=.B d) Z)<|av (d_ _ _ Z) aQ) H.1) H.2.1 H.2.2⟩) λp I C=>?_
    haveI w:(p.map xp).length<=3:=by haveI:=aF w' C.2.1;rw[bC,jK]at this;rw[bC];exact(a5 1011 Z:N [_,_] (.A X 3) [.B S 4,.C X S]) o.2.1 this
    have J:ei (al<|e+a+2) (.B<|.G .B<|.A (.A 0)<|.A (.B 4) .B) ((bV .I [.B d,.A ((a+1:U):ah)]).A 2<|.A 2) (a7 d b k)=Y ((dF m).map λB:U=>V.A B,a7 d b q):=by show(ai _ (.G .B<|.A (.A 0)<|.A (.B 4) .B) _ _).bind _=_;rw[bM (f:=[.B d,.A 4]) Z o.1];exact(xm ..).trans<|Q2<|by exact(aj Z:N [_] (.B X 1000) [.B X 4]) o.2.1
    refine⟨.D (aa "row"::p.map xp),I,aL (bi (f:=e+a+2) Z<|a' A<|as (F _ _ Z)<|bg Z<|a3 (bL (f:=.D [aa "row"]) Z (k8 J C.1)<|gp (a:=[aa "row"])<|by rw[ff];exact DW w) Z) (Tv w λg n_=>?_)<|v.A C.2.2.2⟩;obtain⟨l,x,rfl⟩:=d4.1 n_;exact C.2.2.1 l x
   .clear u;by_cases K:n=3
    .clear G;subst K;refine d2 (zK (a:=d) (b:=b) (e:=(bV .I [.B d,.A ((a+1:U):ah)]).A 2<|.A 3) (d:=λc:aC=>aa c) (c:=.A 4) (v:=λc g=>g=bs (c,mx g)/\j2 a (mx g)) (f:=λf b=>ai (al<|e+a+2) (.I<|.A (.A 4)<|.A (.G .I<|.A (.A 0)<|.A (.K .warn (.A 1)<|.B 1) .B) .B) f b) (q:=λf b=>d' (al<|e+a+2) .B f b) (["x","y","z"].take m) v.1 λc x_ h r=>by
      refine bE.A (c_ (e:=e) (d:=d) (b:=b) r) λs i L=>?_;exact⟨((bV .I [.B d,.A ((a+1:U):ah)]).A 2<|.A 3).A 4<|aa c,bs (c,s),i,bB Z Z (cB<|av (ac (h:=aa c) Z)<|av (bM (f:=[.B d,.A a]) (av (ac (h:=.B d) Z)<|av (d_ _ _ Z) aQ) L.1) aQ) (am Z L.2.1) L.2.2⟩) λp I y=>?_
     have e_:(p.map λl=>(l.1,mx l.2)).map bs=p.map Prod.snd:=by rw[hm];exact List.map_congr_left λl x=>(y.2.2.1 l x).1.symm
     have a_:(p.map λl=>(l.1,mx l.2)).map (·.1)=["x","y","z"].take m:=by rw[hm,<-y.2.1];rfl
     have w:(p.map λl=>(l.1,mx l.2)).length<=3:=by haveI:=aF w' a_;rw[bC,m5]at this;exact WG o.2.1 this
     have f_:(["x","y","z"].take m).Sublist ["x","y","z"]:=YK _ _;have J:ei (al<|e+a+2) (.D<|.G .B<|.A (.A 0)<|.A (.B 4) .B) ((bV .I [.B d,.A ((a+1:U):ah)]).A 2<|.A 3) (a7 d b k)=Y ((["x","y","z"].take m).map λc=>aa c,a7 d b q):=by show(ai _ (.G .B<|.A (.A 0)<|.A (.B 4) .B) _ _).bind _=_;rw[bM (f:=[.B d,.A 4]) Z o.1];show(if bD (0<=((m:U):ah)) (((m:U):ah)<=3)then Y ((["x","y","z"].take ((m:U):ah).toNat).map λc=>V.E<|.A c,a7 d b q)else ab)=_;rw[au<|by exact WI o.2.1,qB]
     have h_:=Tu (a:=a) (b:=p.map λl=>(l.1,mx l.2)) w (by rw[a_];exact f_.nodup<|ae Z) (λg_ b_=>by
      haveI:g_.1∈(p.map λl=>(l.1,mx l.2)).map (·.1):=tj b_;rw[a_]at this;exact f_.subset this) λg_ b_=>by obtain⟨l,x,rfl⟩:=d4.1 b_;exact(y.2.2.1 l x).2
     rw[e_]at h_;refine⟨.D (aa "card"::p.map xp),I,aL (bi (f:=e+a+2) Z<|a' A<|as (F _ _ Z)<|as Z<|bg Z<|a3 (bL (f:=.D [aa "card"]) Z (k8 J y.1)<|gp (a:=[aa "card"]) ?_) Z) h_<|v.A y.2.2.2⟩;rw[<-e_,bC,ff];exact DW w
    .have i_:((n:U):ah)≠2:=by exact WJ G K
     have o_:((n:U):ah)≠3:=by exact WK i_ K
     obtain⟨c,j_⟩:∃c,vU[m]?=Y c:=a1 _<|hQ o.2.1;refine⟨.D [aa "wrap",c],q,aL (bi (f:=e+a+2) Z<|a' A<|as (F _ _ Z)<|as (aK (i:=.A n) (k:=.A 2) Z Z<|nO i_)<|as (aK (i:=.A n) (k:=.A 3) Z Z<|nO o_)<|a' (e:=c) (f:=a7 d b q) ?_<|a3 (iI<|av Z<|av (ac Z) aQ) Z) (Tw j_ a) v⟩;refine pw (l:=.A m) Z (bM (f:=[.B d,.A 4]) Z o.1) ?_;show eG _ (.D vU) (.A m)=_;rw[kh];unfold gz;rw[au<|by exact WL o.2.1];exact j_
end
section
variable{a:af}{b:dp}
def sc(a:0<c):h4 .call (.A d) (.A c)=Y (.A<|d.fmod c):=au a
def QI:h4 .log (.A 10) (.A 105)=Y (.A<|10^105):=by show(if bD ((10:ah)=10) ((105:ah)=105)then Y<|V.A<|10^105 else ab)=_;exact au ⟨Z,Z⟩
def ms(b:¬c<d):dz a .Gt (.A d) (.A c)=Y false:=aF Y<|ct b
abbrev TQ:cu:=.A (.B (.A 1)<|.K .ignore (.K .raise (.A 1)<|.B 911)<|.b (.C .GtE (.A 2)<|.B 0) (.K .raise (.B 3)<|.A 2)<|.K .warn (.B 1)<|.K .raise (.B 3)<|.A 2) .B
def TS(i:R ah):∀{d:ah}{b:aA},0<=d->b 1=Y (.A d)->ak (dx (λb a=>aw c TQ b a) (.A 2) (i.map .A) b a) λe=>e.1=.A/\e.2.1 0=b 0/\e.2.2=a/\∃k:ah,0<=k/\e.2.1 1=Y (.A k):=by
 induction i with
 |nil=>intro d b f j;exact kf _ Z Z Z Z ⟨d,f,j⟩
 |cons g i l=>
  intro d b f j;haveI m:ai c (.K .raise (.A 1)<|.B 911) (b.A 2<|.A g) a=Y (.A<|d*911,a):=bL (ac j) Z<|vk<|.inr<|ae Z;haveI n:ai c (.K .raise (.B 3)<|.A 2) (b.A 2<|.A g) a=Y (.A<|3*g,a):=bL Z (ac Z)<|vk<|.inl<|ae Z;by_cases h:0<=g;.refine eS Z<|a' (bL m ((cw<|aK (ac Z) Z<|Ay h).trans n) Z)<|aU<|am Z<|l (WM f h) Z
  .refine eS Z<|a' (bL m ((b6<|aK (ac Z) Z<|Ax h).trans<|bL Z n Z) Z)<|aU<|am Z<|l (WN f h) Z
def TR(d:R ah):∃b,aR (c+1) .i_ [.D<|d.map .A] a=Y (.B a.a,a.B<|.D<|kt b)/\eg b/\b.a=(if 1<d.length then 15 else 4)/\b.b=0:=by
 haveI w:ak (aR (c+1) .i_ [.D<|d.map .A] a) λi=>∃b,i=(.B a.a,a.B<|.D<|kt b)/\eg b/\b.a=(if 1<d.length then 15 else 4)/\b.b=0:=by
  obtain⟨j,m⟩:∃j:R ah,fD (d.map V.A) ab (Y 20)=j.map V.A:=by refine a1 (d.take<|fK d.length 20) ?_;unfold fD;rw[bC,List.map_take];rfl
  refine ak.C Z<|a' Z<|ey (fU<|hb (ac Z) Z Z<|aF (λn=>Y<|V.D n) m)<|(TS j (X6 _) Z).A λi o=>?_;obtain⟨y,g,e⟩:=i;obtain⟨p,q,r,h,k⟩:=o;haveI s:=k.2;clear k;subst p r;have t:h4 .call (.A h) (.A<|10^105)=Y (.A<|h.fmod<|10^105):=sc<|Yc<|ae Z;haveI u:ai (al c) (.b (.C .Gt (.L .init<|.A 0)<|.B 1) (.B 15)<|.B 4) g e=Y (.A<|if 1<d.length then 15 else 4,e):=by
   haveI l:ai (al c) (.L .init<|.A 0) g e=Y (.A d.length,e):=cS (ac<|q.trans Z) (by show Y (V.A ((d.map V.A).length:U))=_;rw[bC]);by_cases f:1<d.length;.rw[au f];exact(cw<|aK l Z<|ki<|DX f).trans Z
   .rw[ao f];exact(b6<|aK l Z<|ms<|DY f).trans Z
  refine a3 ?_<|dZ ⟨h.fmod<|10^105,9,if 1<d.length then 15 else 4,0⟩ Z (aL (Fx _<|Yc<|ae Z) (show(0:ah)<=9 by decide)<|show(9:ah)<1009 by decide) Z Z;haveI v:bK (al c) (.A (.K .call (.A 1)<|.K .log (.B 10)<|.B 105)<|.A (.B 9)<|.A (.b (.C .Gt (.L .init<|.A 0)<|.B 1) (.B 15)<|.B 4)<|.A (.B 0) .B) g e=Y ([.A<|h.fmod<|10^105,.A 9,.A<|if 1<d.length then 15 else 4,.A 0],e):=
   av (bL (ac s) (bL Z Z QI) t) (av Z<|av u<|av Z aQ)
  show(bK (al c) _ g e).map _=_;rw[v];rfl
 obtain⟨_,x,b,rfl,f⟩:=w;exact ax b x f
end
def dR(b:U)(a:ah):Nat:=if a<=1 then 0 else(a-1).toNat+2*b
structure cC(h:U)(f e:dp)(g i j:U):Prop where
 a:eg e
 d:e.a=f.a-g
 b:e.b<=f.b+2*g+i
 c:g+dR h e.a<=dR h f.a+j
section
variable{c:af}{i:aA}{k:bk}{g:V}{b j d f:U}{a e:dp}{h:R V}
def cC.C(b:eg a):cC d a a 0 0 0:=⟨b,(qA _).symm,aY _,fI<|lG _ _⟩
def cC.A(k:cC d a l f m n)(r:cC d l e o p q):cC d a e (f+o) (m+p)<|n+q:=by
 obtain⟨_,b,c,g⟩:=k;obtain⟨s,h,i,j⟩:=r;refine⟨s,?_,?_,?_⟩;.clear c i g j;exact WO b h
 .clear b h g j;exact(aj Z:N [_,_,_,_,_,_,_] (.A X<|S+(.A 2<|O+ag)+(aB+aM)) [.A bX<|S+(.A 2 O)+aB,.A X<|bX+(.A 2 ag)+aM]) c i
 .clear b h c i;exact(aj Z:N [_,_,_,_,_,_,_] (.A (X+S+O)<|ag+(aB+aM)) [.A (X+bX)<|ag+aB,.A (S+O)<|bX+aM]) g j
def cC.B(b:cC d a e f l m)(c:l<=n)(g:m<=o):cC d a e f n o:=⟨b.a,b.d,br b.b<|lH c _,br b.c<|lH g _⟩
def cC.D(b:cC d a e f l m)(c:a.b+l+2*(dR d a.a+m+n)<=50):e.b+2*(dR d e.a+n)<=50:=by haveI g:=b.b;haveI h:=b.c;clear b;exact(a5 1211 Z:N [_,_,_,_,_,_,_,_] (.A (X+(.A 2<|S+O)) 50) [.A (ag+aB+(.A 2<|aM+bX+O)) 50,.A (en+S)<|aM+bX,.A X<|ag+(.A 2 en)+aB]) c h g
def CT(f:b<c.a):(a7 b c a).B l=a7 b (c.B l) a:=by
 refine fT Z λd=>?_;show(if d=c.a then l else if d=b then _ else c.b d)=if d=b then _ else if d=c.a then l else c.b d
 by_cases e:d=c.a;.rw[au e,ao<|(a5 11001 Z:N [_,_,_] (.D<|.C X S) [.B S O,.C X O]) f e,au e]
 .rw[ao e,ao e]
def p7(f:l≠b):(a7 b c a).A l m=a7 b (c.A l m) a:=by
 refine fT Z λd=>?_;show(if d=l then m else if d=b then _ else c.b d)=if d=b then _ else if d=l then m else c.b d
 by_cases e:d=l;.rw[au e,ao<|(aI (.B (.A 1110)<|.A 10101) Z:N [_,_,_] (.D<|.C X S) [.C X O,.D<|.C O S]) e f,au e]
 .rw[ao e,ao e]
def mN(d:l≠b):(a7 b c a).b l=c.b l:=ao d
def mi(l:0<f)(m:f<1000000)(n:eg a)(o:i 0=Y (.B b))(p:ai (al<|j+1) k i (a7 b c a)=Y (.A f,a7 b c a)):
 bE λ(h:U)(e:dp)=>ai (al<|j+1) (.G .B<|.A (.A 0)<|.A k .B) i (a7 b c a)=Y (.A h,a7 b c e)/\h<f/\cC d a e 0 0 0:=by
 obtain⟨h,e,g⟩:=mj l m n;exact⟨h,e,bM (a0 (ac o)<|a0 p aQ) g.1,g.2.1,g.2.2.1,g.2.2.2.1.trans (qA _).symm,fI g.2.2.2.2,by rw[g.2.2.2.1,dG];exact aY _⟩
def p0(n:ai (al<|j+1) l i (a7 b c a)=Y (.D (g::h),a7 b c a))(o:h.length<100)(p:eg a)(q:i 0=Y (.B b))(r:ai (al<|j+1) k i (a7 b c a)=Y (.A ((g::h).length:U),a7 b c a)):
 bE λ(f:V)(e:dp)=>ai (al<|j+1) (.F l<|.G .B<|.A (.A 0)<|.A k .B) i (a7 b c a)=Y (f,a7 b c e)/\f∈g::h/\cC d a e 0 0 0:=by
 obtain⟨s,e,t,m,u⟩:=mi (f:=(g::h).length) (xl _) (by rw[dd];exact(aj Z:N [_] (.B (X+1) 1000000) [.B X 100]) o) p q r;refine⟨(g::h)[s],e,pw n t ?_,FI m,u⟩;rw[kh];exact hQ m
def NF(a:l<50):eX<|.D<|l+1:=bB (am Z ⟨"n",λb=>Z,show aN ("n"="%")=M by decide,.inr<|by exact .tail _<|.tail _<|.tail _<|.tail _<|.tail _<|.tail _<|.tail _<|d4.2<|a1 l ⟨oD.2 a,Z⟩⟩) Z (am an.noConfusion an.noConfusion) an.noConfusion an.noConfusion
def pN(h:eg a)(f:a.b<50)(k:i 0=Y (.B b)):bE λg e=>ai (al<|j+1) (.G .A_<|.A (.A 0) .B) i (a7 b c a)=Y (.E g,a7 b c e)/\eX g/\cC d a e 0 1 0:=
 ⟨_,_,bM (a0 (ac k) aQ)<|PJ<|(aj Z:N [_] (.B X 900000) [.B X 50]) f,NF f,h,(qA _).symm,aY _,fI<|lG _ _⟩
def jW(d:U):Prop:=∀(j b:U)(c:af)(a:dp)(g:V),b<c.a->eg a->a.b+2*(dR d a.a+1)<=50->bA g->
 kN λh m i k f l e=>aR (j+2*d+2) .D [.B b,g,.A d] (a7 b c a)=Y (h,a7 b l e)/\cb c l/\dt d h m i k/\i<=2*f/\k<=71*f/\cC d a e f 0 1
def uO(J:jW d){t x:n->V}{u:aA->af->aD (aE×af)}(h:R n):
 ∀{c:af}{a:dp},(∀g∈h,bA<|x g)->(∀g∈h,∃r,dY l (t g) i=Y r/\∀c,u r c=Y (Q,c)/\m r c=aR (j+2*d+2) .D [.B b,x g,.A d] c)->
 b<c.a->eg a->a.b+2*(dR d a.a+h.length)<=50->
 cy λ(k:R bU)(f:U)(v:af)(e:dp)=>ek m u l (h.map t) i (a7 b c a)=Y (k.map (·.a),a7 b v e)/\k.length=h.length/\(∀g:bU,g∈k->dt d g.a g.b g.d g.c)/\
  dT k<=2*f/\cr k<=71*f+4*k.length/\cb c v/\cC d a e f 0 h.length:=by
 induction h with
 |nil=>intro c a _ _ _ y _;exact⟨[],0,c,a,ej Z Z (λx_ d=>bW d) (aY _) (aY _) (.C)<|.C y⟩
 |cons g h K=>
  intro c a A B C y w;refine kN.A (J j b c a (x g) C y ((aj Z:N [_,_,_] (.A (X+(.A 2<|S+1)) 50) [.A (X+(.A 2<|S+(O+1))) 50]) w)<|A g bP) λL a_ D E f b_ c_ o=>?_;have F:=o.2.2.2.1;have G:=o.2.2.2.2.1;refine a8 (B g bP) λr z=>?_;refine cy.A (K (λs q=>A s<|cx _ q) (λs q=>B s<|cx _ q) (eA C o.2.1.a) o.2.2.2.2.2.a<|o.2.2.2.2.2.D<|(aj Z:N [_,_,_] (.A (X+0+(.A 2<|S+1+O)) 50) [.A (X+(.A 2<|S+(O+1))) 50]) w) λk d_ v e p=>?_;haveI H:=p.2.2.2.1;haveI I:=p.2.2.2.2.1;refine⟨⟨.C,L,a_,.C,D,E⟩::k,f+d_,v,e,ej ?_ (aF xk p.2.1) (λs q=>?_) ?_ ?_ (o.2.1.B p.2.2.2.2.2.1) ?_⟩;.show(dY l (t g) i).bind _=_;rw[z.1];show(u r<|a7 b c a).bind _=_;rw[(z.2 _).1];show(m r<|a7 b c a).bind _=_;rw[(z.2 _).2,o.1];show(ek m u l (h.map t) i<|a7 b b_ c_).bind _=_;rw[p.1];rfl
  .rcases bj.1 q with rfl|q
   .exact o.2.2.1
   .exact p.2.2.1 s q
  .show D+dT k<=_;clear w G I;exact DZ F H
  .show E+4+cr k<=_+4*(k.length+1);clear w F H;exact(aj Z:N [_,_,_,_,_,_] (.A (X+4+S)<|(.A 71<|O+ag)+(.A 4<|aB+1)) [.C aB aM,.A X<|.A 71 O,.A S<|(.A 71 ag)+(.A 4 aB)]) p.2.1 G I
  .haveI:=o.2.2.2.2.2.A p.2.2.2.2.2.2;rw[lG 1]at this;exact this
end
section
variable{a c:af}{b:V}{e:dp}{d:R V}
def K0(b:ei g h f a=Y (d,i))(e:ek (λf a=>ai g j f a) (λf a=>d' g k f a) l d f i=Y (m,c)):ai g (.d Q j l h k) f a=Y (.B c.a,c.B<|.A m):=by show(ei g h f a).bind _=_;rw[b];show(ek (λf a=>ai g j f a) (λf a=>d' g k f a) l d f i).map _=_;rw[e];rfl
def dt.A(a:kR g h i j):dt f g h i j:=by
 cases f with
 |zero=>exact a
 |succ f=>exact .inl a
def Tn(a c:R bU):dT (a++c)=dT a+dT c:=by
 induction a with
 |nil=>exact(dG _).symm
 |cons b a d=>exact(aF (b.d+·) d).trans (hn _ _ _).symm
def Tk(a c:R bU):cr (a++c)=cr a+cr c:=by
 induction a with
 |nil=>exact(dG _).symm
 |cons b a d=>exact(aF (b.c+4+·) d).trans (hn _ _ _).symm
def jZ(d j:U)(a:af)(e:dp)(f:V×af):Prop:=gG λk g h b c i=>f.2=a7 j c i/\cb a c/\dt (d+1) f.1 k g h/\g<=2*b+2/\h<=71*b+71/\cC d e i b 2 3
abbrev oj(b a:U):bk:=.G .D<|.A (.A 0)<|.A (.A b)<|.A (.K .warn (.A a)<|.B 1) .B
def Di(d c:U)(e:f 0=Y (.B h))(j:f d=Y b)(k:f c=Y (.A ((g+1:U):ah)))(l:U)(a:af):ai (al<|i+2*g+2) (oj d c) f a=aR (i+2*g+2) .D [.B h,b,.A g] a:=by show(bK _ _ _ _).bind _=_;rw[a0 (ac e)<|a0 (ac j)<|a0 (bL (j:=.warn) (ac k) (i:=.A 1) Z<|aF (λc=>Y<|V.A c)<|ot) aQ];rfl
def Am(w:jW f)(x:∀b∈d,bA b)(y:h 0=Y (.B g))(z:h j=Y (.A ((f+1:U):ah)))(A:i≠0)(B:j≠i)(C:ai (al<|k+2*f+2) l h (a7 g m n)=Y (.D d,a7 g a e))(t:g<a.a)(D:eg e)(E:e.b+2*(dR f e.a+d.length)<=50):
 cy λ(o:R bU)(p:U)(c:af)(q:dp)=>(ai (al<|k+2*f+2) (.d M (oj i j) (.A i) (.A l) .B) h (a7 g m n)=Y (.D<|o.map (·.a),a7 g c q)/\ai (al<|k+2*f+2) (.d Q (oj i j) (.A i) (.A l) .B) h (a7 g m n)=Y (.B c.a,a7 g (c.B<|.A<|o.map (·.a)) q))/\
  o.length=d.length/\(∀b:bU,b∈o->dt f b.a b.b b.d b.c)/\dT o<=2*p/\cr o<=71*p+4*o.length/\cb a c/\cC f e q p 0 d.length:=by
 obtain⟨o,p,c,q,r⟩:=uO (l:=.A i) (x:=id) (u:=λh a=>d' (al<|k+2*f+2) .B h a) w d x (λb F=>ax _ Z λa=>am Z<|Di i j ((ao A.symm).trans y) (au Z) ((ao B).trans z) 0 a) t D E;haveI s:=r.1;rw[List.map_id]at s;haveI u:ei (al<|k+2*f+2) (.A l) h (a7 g m n)=Y (d,a7 g a e):=by show(ai _ l h _).bind _=_;rw[C];rfl
 haveI v:=K0 u s;rw[CT<|eA t r.2.2.2.2.2.1.a]at v;exact⟨o,p,c,q,am (am (k8 u s) v) r.2⟩
end
section
variable{c e h:af}{a:V}{g:dp}{f i:R V}{d b:R bU}
def SN(f:R V)(a:U):fD f (Y (a:ah)) ab=f.drop a:=by
 by_cases b:a<=f.length;.exact v3 b
 .haveI c:fK f.length (a:ah)=f.length:=by
   show(bI 0<|b3 (if(a:ah)<0 then(a:ah)+f.length else a) (f.length:ah)).toNat=_;rw[ao<|qz.2<|iU _,Int.min_eq_right<|e5.2<|qG<|YW b,w2<|iU _];rfl
  show(f.drop<|fK f.length (a:ah)).take (f.length-fK f.length (a:ah))=_;rw[c,FC<|aY _,FC<|(aj Z:N [_,_,_] (.A X S) [.C O X,.D<|.A S X]) c b,List.take_nil]
def Ap{a:U}(b:j a=Y (.B k))(d:c.b k=.A f):ai l (.n<|.A a) j c=Y (.D f,c.A k .B):=by show((j a).map _).bind _=_;rw[b];exact nR<|aF ke d
def cb.D(a:cb c e)(d:c.a<=j):cb c<|e.A j k:=⟨a.a,λf b=>(ao<|wv b d).trans<|a.b f b⟩
def Rt(u:hr n)(v:l0 j)(w:j=.C->b=[])(x:∀a:bU,a∈d->dt k a.a a.b a.d a.c)(y:∀a:bU,a∈b->dt k a.a a.b a.d a.c)(f:dT d<=2*l)(h:dT b<=2*m)(i:cr d<=71*l+4*o+7)(s:cr b<=71*m+4*p)(t:o+p<=3)
 (z:cb c e)(A:cC k g q (l+m) 2<|o+p):jZ k r c g (gU n (d.map (·.a)) j<|b.map (·.a),a7 r e q):=by
 refine⟨_,2+dT d+dT b,31+cr d+cr b,l+m,e,q,gv Z z (.inr<|.inr<|.inr<|.inl ⟨n,j,d,b,u,v,w,x,y,Z,Z,Z,Z⟩) ?_ ?_<|A.B (aY _) t⟩;.clear i s;exact(aj Z:N [_,_,_,_] (.A (2+X+S)<|(.A 2<|O+ag)+2) [.A X<|.A 2 O,.A S<|.A 2 ag]) f h
 .clear f h;exact(a5 4111 Z:N [_,_,_,_,_,_] (.A (31+X+S)<|(.A 71<|O+ag)+71) [.A (aB+aM) 3,.A S<|(.A 71 ag)+(.A 4 aM),.A X<|(.A 71 O)+(.A 4 aB)+7]) t s i
def CE(f_:jW j)(F:k<h.a)(G:l 0=Y (.B k))(g_:l 1=Y (.D i))(h_:l 2=Y r)(i_:l 3=Y (.A ((j+1:U):ah)))(v:l 4=Y p)(j_:l 5=Y (.A m))(k_:l 7=Y (.B h.a))
 (z:i.length<=3)(w:m<=i.length)(l_:∀a∈i,bA a)(m_:hr r)(H:l0 p)(n_:∀a:bU,a∈d->dt j a.a a.b a.d a.c)(o_:dT d<=2*q)(p_:cr d<=71*q+4*m+7)(x:cb c h)(A:cC j g n q 2 m)(q_:g.b+2+2*(dR j g.a+3)<=50):
 ak (aw (al<|o+2*j+2) (eP 5 (bp .J_).b) l<|a7 k (h.B<|.A<|d.map (·.a)) n) (fp<|jZ j k c g):=by
 haveI I:h.a≠k:=by exact oq F
 haveI r_:∀{y:an}{c:af},l 4=Y (.E y)->bz (al<|o+2*j+2) (.C .Is (.A 4) .H) l c=Y (M,c):=λv=>aK (ac v) Z Z;have K:∀(b:R bU)(t B:U)(e:af)(f:dp),(p=.C->b=[])->(∀a:bU,a∈b->dt j a.a a.b a.d a.c)->dT b<=2*t->cr b<=71*t+4*B->m+B<=3->cb (h.B<|.A<|d.map (·.a)) e->cC j n f t 0 B->
  ak (aw (al<|o+2*j+2) (eP 6 (bp .J_).b) (l.A 9<|.D<|b.map (·.a))<|a7 k e f) (fp<|jZ j k c g):=λb t B e f s_ t_ u_ C v_ E w_=>by
  haveI y_:(a7 k e f).b h.a=.A (d.map (·.a)):=(mN I).trans<|(E.b h.a<|eV _).trans iM;refine a3 (f:=a7 k (e.A h.a .B) f) (cB<|av Z<|av (ac h_)<|av (Ap k_ y_)<|av (ac v)<|av (ac Z) ?_)<|Rt m_ H s_ n_ t_ o_ u_ p_ C v_ ?_<|A.A w_;.rw[p7 I];rfl
  .exact⟨br x.a<|br (eU _) E.a,λJ D=>(ao (by have:=x.a;exact wv D this)).trans<|(E.b J<|il<|eA D x.a).trans<|(ao (by have:=x.a;exact wv D this)).trans<|x.b J D⟩
 have e_:∀y,p=.E y->ak (aw (al<|o+2*j+2) (eP 5 (bp .J_).b) l<|a7 k (h.B<|.A<|d.map (·.a)) n) (fp<|jZ j k c g):=λy L=>by
  obtain⟨a_,z_,s⟩:=mi (k:=.B 2) (ae Z) (ae Z) A.a G Z;haveI A_:=A.A s.2.2;haveI C_:ai (al<|o+2*j+2) (.e (.A 1) (.K .ignore (.A 5)<|.G .B<|.A (.A 0)<|.A (.B 2) .B) .H) l (a7 k (h.B<|.A<|d.map (·.a)) n)=Y (.D<|i.drop<|m+a_,a7 k (h.B<|.A<|d.map (·.a)) z_):=by show(ai _ (.A 1) _ _).bind _=_;rw[ac g_];show(ai _ (.K .ignore (.A 5) _) _ _).bind _=_;rw[bL (j:=.ignore) (ac j_) s.1<|aF (λB_=>Y<|V.A B_)<|DV];show Y (V.D<|fD i (Y ((m+a_:U):ah)) ab,_)=_;rw[SN]
  obtain⟨b,t,e,f,⟨E_,_⟩,u⟩:=Am (i:=8) f_ (λa D_=>l_ a<|FO D_) G i_ (el Z) (el Z) C_ (il F) s.2.2.a (A_.D<|by rw[kz];exact WP q_ s.2.1 z w);haveI b_:=u.1;haveI C:=u.2.2.2.1;haveI c_:=u.2.2.2.2.2;rw[kz]at b_ c_;haveI d_:=s.2.2.A c_;rw[dG]at d_;exact a' ((b6<|r_<|L▸v).trans E_)<|K b t (i.length-m) e f (λj=>by rw[L]at j;cases j) u.2.1 u.2.2.1 (by rw[b_]at C;exact WQ s.2.1 z C w) (WR z w) u.2.2.2.2.1<|d_.B (aY _)<|WS s.2.1 w
 rcases H with rfl|rfl|⟨y,rfl,_⟩;.refine a' ((cw<|aK (ac v) Z Z).trans Z)<|K [] 0 0 _ _ (λx_=>Z) (λx_ j=>bW j) (aY _) (aY _) ((aj Z:N [_,_] (.A (X+0) 3) [.A S 3,.A X S]) z w) .C<|.C A.a
 .exact e_ _ Z
 .exact e_ _ Z
end
section
variable{a f:af}{b:aA}{c:dp}{e d:R V}
def v5(c:ai h i b a=Y (j,f))(d:b k=Y (.B g))(n:a.b g=.A e)(o:f.b g=.A e)(p:e.length<1000000)(q:ak (aw h l b<|f.A g<|.A<|e++[j]) m):ak (aw h (.A (.A<|.h (.A k) .ignore<|.A i .B) l) b a) m:=
 gA (j5 (ac d) c (h5 n<|.inl Z) o p q)
def vs(a:an):bU:=⟨.C,gQ a,aH "p_bind" [.E a],.C,0,3⟩
def Px(m:eg c)(q:c.b<50)(r:b 0=Y (.B g))(e:∀n d,l0 n->cC i c d 0 1 0->ak (aw (al<|j+1) k ((b.A 4 h).A 4 n)<|a7 g a d) l)(o:h∈[V.C,aa "",aa "name"]):
 ak (aw (al<|j+1) (.A (.B (.A 4)<|.b (.C .Eq (.A 4)<|.J "name") (.G .A_<|.A (.A 0) .B)<|.A 4) k) (b.A 4 h)<|a7 g a c) l:=by
 have p:cC i c c 0 1 0:=(cC.C m).B (c8 _)<|aY _;simp only[bj,ep,fL]at o;rcases o with rfl|rfl|rfl;.exact a' ((b6<|aK (ac Z) Z Z).trans<|ac Z)<|e _ _ (.inl Z) p
 .exact a' ((b6<|aK (ac Z) Z Z).trans<|ac Z)<|e _ _ (.inr<|.inl Z) p
 .obtain⟨s,d,f⟩:=pN m q r;exact a' ((cw<|aK (ac Z) Z Z).trans f.1)<|e _ _ (.inr<|.inr<|ax s Z f.2.1) f.2.2
def Rs(F:jW g)(e_:h<a.a)(q_:eg c)(r:d.length<=3)(G:∀e∈d,bA e)(f_:hr j)(v:c.b+2+2*(dR g c.a+3)<=50):
 ak (aR (i+2*g+3) .J_ [.B h,.D d,j,.A ((g+1:U):ah)]<|a7 h a c) (jZ g h a c):=by
 obtain⟨C_,D_,w⟩:=p0 (d:=g) (i:=bV .J_ [.B h,.D d,j,.A ((g+1:U):ah)]) (h:=[aa "",aa "name"]) (l:=.a M<|.A .H<|.A (.J "")<|.A (.J "name") .B) (k:=.B 3) Z (ae Z) q_ Z Z;haveI g_:=w.1;haveI h_:=w.2.1;refine ak.C Z<|a' g_<|Px (i:=g) w.2.2.a (by haveI:=w.2.2.b;exact(aj Z:N [_,_,_] (.B X 50) [.A (S+2+(.A 2<|O+3)) 50,.A X<|S+(.A 2 0)+0]) v this) Z (λH A I x=>?_) h_;have x:=w.2.2.A x;generalize s:aA.A _ 4 H=b;have t:b 0=Y (.B h):=by rw[<-s];rfl
 have B:b 1=Y (.D d):=by rw[<-s];rfl
 haveI i_:b 2=Y j:=by rw[<-s];rfl
 haveI J:b 3=Y (.A ((g+1:U):ah)):=by rw[<-s];rfl
 have C:b 4=Y H:=by rw[<-s];rfl
 clear s g_ h_;haveI r_:bE λk n=>ai (al<|i+2*g+2) (.b (.C .Is (.A 4) .H) (.L .init<|.A 1)<|.G .B<|.A (.A 0)<|.A (.K .ignore (.L .init<|.A 1)<|.B 1) .B) b (a7 h a A)=Y (.A (k:U),a7 h a n)/\k<=d.length/\cC g A n 0 0 0:=by
  haveI j_:∀a,ai (al<|i+2*g+2) (.L .init<|.A 1) b a=Y (.A (d.length:U),a):=λa=>cS (ac B) Z;have k_:∀l,H=.E l->bE λk n=>ai (al<|i+2*g+2) (.b (.C .Is (.A 4) .H) (.L .init<|.A 1)<|.G .B<|.A (.A 0)<|.A (.K .ignore (.L .init<|.A 1)<|.B 1) .B) b (a7 h a A)=Y (.A (k:U),a7 h a n)/\k<=d.length/\cC g A n 0 0 0:=λl o=>by obtain⟨K,n,L⟩:=mi (c:=a) (f:=d.length+1) (k:=.K .ignore (.L .init<|.A 1)<|.B 1) (xl _) (by exact(aj Z:N [_] (.B (X+1) 1000000) [.A X 3]) r) x.a t<|bL (j:=.ignore) (i:=.A 1) (j_ _) Z Z;exact⟨K,n,aL ((b6<|aK (ac<|o▸C) Z Z).trans L.1) (xf L.2.1) L.2.2⟩
  rcases I with rfl|rfl|⟨l,rfl,_⟩;.exact⟨_,_,aL ((cw<|aK (ac C) Z Z).trans<|j_ _) (aY _)<|.C x.a⟩
  .exact k_ _ Z
  .exact k_ _ Z
 obtain⟨k,n,s_,p,y⟩:=r_;have y:=x.A y;obtain⟨m,t_,f,u_,⟨_,v_⟩,u,l_,m_,b_,c_,z⟩:=Am (k:=i) (i:=6) (j:=3) (h:=b.A 5<|.A k) (e:=n) (d:=d.take k) (l:=.e (.A 1) .H<|.A 5) F (λe a_=>G e<|List.mem_of_mem_take a_) t J (el Z) (el Z) (hb (ac B) Z (ac Z)<|by show Y (V.D<|fD d ab<|Y (k:ah))=_;rw[v4 p]) e_ y.a (y.D<|by rw[m5];exact WT v r p);rw[m5,xg p]at u z;rw[u]at b_;have z:=y.A z;have D:h<f.a:=eA e_ c_.a;obtain⟨K,w_,n_,E_,q⟩:=mi (d:=g) (j:=i+2*g+1) (b:=h) (c:=f.B<|.A<|m.map (·.a)) (a:=u_) (i:=(b.A 5<|.A k).A 7<|.B f.a) (f:=5) (k:=.B 5) (ae Z) (ae Z) z.a t Z;have q:=z.A q;refine a' s_<|a' v_ ?_;by_cases o_:K=4
 .subst o_;obtain⟨l,F_,y_,z_,d_⟩:=pN (d:=g) (j:=i+2*g+1) (b:=h) (c:=f.B<|.A<|m.map (·.a)) (a:=w_) (i:=(b.A 5<|.A k).A 7<|.B f.a) q.a (by exact(a5 21200121 Z:N [_,_,_,_,_,_,_,_] (.B aM 50) [.A X 3,.A (S+2+(.A 2<|O+3)) 50,.A ag X,.C aB ag,.A aM<|S+(.A 2<|0+0+0+bX+0)+(0+1+0+0+0),.A (0+0+0+bX+0+en)<|O+(0+0+0+ag+0)]) r v p u q.b q.c) t;haveI d_:=q.A d_;haveI a_:dt g (gQ l) (aH "p_bind" [.E l]) 0 3:=dt.A<|.inl<|kf l z_ Z Z Z Z;haveI A_:(m++[vs l]).map (λe:bU=>e.a)=m.map (λe:bU=>e.a)++[gQ l]:=hR;haveI p_:∀c,(a7 h (f.B<|.A (m.map λe:bU=>e.a)) c).b f.a=.A (m.map λe:bU=>e.a):=λc=>(mN<|by exact oq D).trans iM;refine gB (aK n_ Z Z)<|v5 (g:=f.a) (e:=m.map λe:bU=>e.a) (cB<|av (g:=aa "name") Z<|av y_ aQ) Z (p_ _) (p_ _) (by rw[bC];exact(a5 1111 Z:N [_,_,_] (.B X 1000000) [.C X S,.A O 3,.A S O]) u r p) ?_;rw[p7<|by exact oq D,<-A_,show(f.B<|.A (m.map λe:bU=>e.a)).A f.a (.A ((m++[vs l]).map λe:bU=>e.a))=f.B (.A ((m++[vs l]).map λe:bU=>e.a))from fT Z λE=>by
   show(if E=f.a then _ else if E=f.a then _ else _)=if E=f.a then _ else _
   by_cases o:E=f.a;.rw[au o,au o]
   .rw[ao o,ao o,ao o]]
  refine aU<|CE F D t B i_ J C Z Z r p G f_ I (λe B_=>?_) (q:=t_) ?_ ?_ c_ ?_ v
  .refine b1 (ge.1 B_) (λg=>?_) λg=>?_
   .exact l_ e g
   .rw[cm.1 g];exact a_
  .rw[Tn];exact m_
  .rw[Tk];show _+7<=_;exact(aj Z:N [_,_,_,_] (.A (X+7)<|(.A 71 S)+(.A 4 O)+7) [.C ag O,.A X<|(.A 71 S)+(.A 4 O)]) u b_
  .haveI:=d_;simp only[dG,FS]at this;exact this.B (aX Z)<|aY _
 .refine fX (aK n_ Z<|nO<|by exact WU o_)<|CE F D t B i_ J C Z Z r p G f_ I l_ m_ (by exact(aj Z:N [_,_,_,_] (.A X<|(.A 71 S)+(.A 4 O)+7) [.C ag O,.A X<|(.A 71 S)+(.A 4 O)]) u b_) c_ ?_ v;haveI:=q;simp only[dG,FS]at this;exact this.B (aX Z)<|aY _
end
def tI(b:U)(a:fh):Prop:=a.a.length<=10/\eX (.A a.a)/\((a.c=.C/\a.b=.C/\a.e=0)\/dt b a.c a.b a.e a.d)
abbrev Ny:cu:=.A (.B (.A 7)<|.G .B<|.A (.A 0)<|.A (.B 4) .B)
 (.A (.C (.C .Gt (.A 7)<|.B 0) (.A (.A<|.h (.A 4) .ignore<|.A (.I<|.A (.A 5)<|.A (.b (.C .Eq (.A 7)<|.B 1) .H<|oj 6 3) .B) .B) .B) .B) .B)
section
variable{d g f:af}{c:V}{e:dp}{b:V}{h:R<|aC×V}{a:aC}
def uN(b:a="w"\/a="x"\/a="y"\/a="z"):eX<|.A a:=by
 rcases b with rfl|rfl|rfl|rfl;.exact bB (am Z ⟨"w",λc=>Z,ae Z,.inr<|ae Z⟩) Z (am (ae Z)<|ae Z) (ae Z)<|ae Z
 .exact bB (am Z ⟨"x",λc=>Z,ae Z,.inr<|ae Z⟩) Z (am (ae Z)<|ae Z) (ae Z)<|ae Z
 .exact bB (am Z ⟨"y",λc=>Z,ae Z,.inr<|ae Z⟩) Z (am (ae Z)<|ae Z) (ae Z)<|ae Z
 .exact bB (am Z ⟨"z",λc=>Z,ae Z,.inr<|ae Z⟩) Z (am (ae Z)<|ae Z) (ae Z)<|ae Z
def Bg(b:a="w"\/a="x"\/a="y"\/a="z"):a.length<=10:=by rcases b with rfl|rfl|rfl|rfl<;>exact aX Z
def Aq(a:R fh)(c:fh):(fa<|a++[c]).map bs=(fa a).map bs++[bs (c.a,c.c)]:=by rw[fa,hR,hR];rfl
def NB(s_:jW i)(h:R<|aC×V):∀{d:af}{e:dp}{a:aA}{q:R fh},(∀b∈h,(b.1="w"\/b.1="x"\/b.1="y"\/b.1="z")/\bA b.2)->j<g.a->cb g d->g.a<d.a->d.b g.a=.A ((fa q).map bs)->q.length+h.length<=100->
 a 0=Y (.B j)->a 3=Y (.A ((i+1:U):ah))->a 4=Y (.B g.a)->eg e->e.b+2*(dR i e.a+h.length)<=50->
 ak (dx (λa d=>aw (al<|k+2*i+2) Ny a d) (.B [5,6]) (h.map bs) a<|a7 j d e) λo=>o.1=.A/\(∀l,l<5->o.2.1 l=a l)/\cy λ(n:R fh)(m:U)(f:af)(v:dp)=>o.2.2=a7 j f v/\cb g f/\g.a<f.a/\f.b g.a=.A ((fa<|q++n).map bs)/\
  n.length<=h.length/\(∀c∈n,tI i c)/\jG n<=2*m/\fY n<=71*m+8*n.length/\cC i e v m 0 h.length:=by
 induction h with
 |nil=>
  intro d e a q _ _ y z A _ _ _ _ a_ _;exact dZ _ Z Z (λx_ x_=>Z) ⟨[],0,d,e,Z,y,z,by rw[hP];exact A,aY _,(λx_ i=>bW i),aY _,aY _,.C a_⟩
 |cons b h l_=>
  intro d e a q b_ F y z A G H c_ d_ a_ e_;haveI f_:g.a≠j:=by exact oq F
  obtain⟨o,I,r⟩:=mi (k:=.B 4) (ae Z) (ae Z) a_ H Z;have m_:∀l,l<5->(((a.A 5<|aa b.1).A 6 b.2).A 7<|.A o) l=a l:=λl s=>(ao<|D0 s).trans<|(ao<|D1 s).trans<|ao<|wE s;have n_:=λt_ u_=>b_ t_<|cx _ u_;refine eS (f:=(a.A 5<|aa b.1).A 6 b.2) Z<|a' r.1 ?_;by_cases o_:o=0;.refine fX (aK (ac Z) Z<|ms<|WV o_)<|aU<|am Z<|(l_ (a:=((a.A 5<|aa b.1).A 6 b.2).A 7<|.A o) n_ F y z A ((aj Z:N [_,_] (.A (X+S) 100) [.A (X+(S+1)) 100]) G) H c_ d_ r.2.2.a<|r.2.2.D<|(aj Z:N [_,_,_] (.A (X+0+(.A 2<|S+0+O)) 50) [.A (X+(.A 2<|S+(O+1))) 50]) e_).A λv_ g_=>?_;obtain⟨h_,i_,n,m,f,v,t⟩:=g_;refine aL h_ (λl s=>(i_ l s).trans<|m_ l s) ⟨n,m,f,v,t.1,t.2.1,t.2.2.1,t.2.2.2.1,m8 t.2.2.2.2.1,t.2.2.2.2.2.1,t.2.2.2.2.2.2.1,t.2.2.2.2.2.2.2.1,?_⟩;haveI:=r.2.2.A t.2.2.2.2.2.2.2.2;rw[dG,dG]at this;exact this.B (aY _)<|by rw[dG];exact eU _
  .
   haveI B_:cy λ(B:fh)(m:U)(w:af)(C:dp)=>ai (al<|k+2*i+2) (.b (.C .Eq (.A 7)<|.B 1) .H<|oj 6 3) (((a.A 5<|aa b.1).A 6 b.2).A 7<|.A o) (a7 j d I)=Y (B.c,a7 j w C)/\cb d w/\B.a=b.1/\tI i B/\B.e<=2*m/\B.d<=71*m/\cC i I C m 0 1:=by
    haveI J:=(b_ b bP).1;by_cases p_:o=1;.subst p_;exact⟨⟨b.1,.C,.C,0,0⟩,0,d,I,ej ((cw<|aK (ac Z) Z Z).trans Z) (.C) Z (aL (Bg J) (uN J)<|.inl<|aL Z Z Z) (aY _) (aY _)<|(cC.C r.2.2.a).B (aY _)<|c8 _⟩
    .refine kN.A (s_ k j d I b.2 (eA F y.a) r.2.2.a (r.2.2.D<|(a5 11 Z:N [_,_,_,_] (.A (X+0+(.A 2<|S+0+1)) 50) [.A (O+(ag+1)) 100,.A (X+(.A 2<|S+(ag+1))) 50]) G e_) (b_ b bP).2) λw_ y_ z_ A_ m w C x=>?_;exact⟨⟨b.1,w_,y_,z_,A_⟩,m,w,C,ej ((b6<|aK (ac Z) Z<|nO<|WW p_).trans<|(Di (f:=((a.A 5<|aa b.1).A 6 b.2).A 7<|.A o) 6 3 H Z c_ 0 _).trans x.1) x.2.1 Z (aL (Bg J) (uN J)<|.inr x.2.2.1) x.2.2.2.1 x.2.2.2.2.1 x.2.2.2.2.2⟩
   refine cy.A B_ λC_ m w C p=>?_;obtain⟨I_,K,L,D,E⟩:=C_;haveI D_:=p.1;haveI E_:=p.2.2.1;haveI F_:=p.2.2.2.2.1;haveI G_:=p.2.2.2.2.2.1;subst E_;haveI H_:((fa q).map bs).length<1000000:=by rw[bC,bC];exact(aj Z:N [_,_] (.B X 1000000) [.A (X+(S+1)) 100]) G
   refine gB (aK (ac Z) Z<|ki<|WX r.2.1 o_)<|v5 (cB<|av (ac Z)<|av D_ aQ) d_ ((mN f_).trans A) ((mN f_).trans<|(p.2.1.b _ z).trans A) H_ ?_;rw[p7 f_,<-Aq q ⟨b.1,K,L,D,E⟩];have j_:=r.2.2.A p.2.2.2.2.2.2;rw[dG,dG]at j_;refine aU<|aU<|am Z<|(l_ (a:=((a.A 5<|aa b.1).A 6 b.2).A 7<|.A o) (d:=w.A g.a<|.A<|(fa<|q++[⟨b.1,K,L,D,E⟩]).map bs) (q:=q++[⟨b.1,K,L,D,E⟩]) n_ F ((y.B p.2.1).D<|aY _) (eA z p.2.1.a) mO (by rw[cs,ff];exact(aj Z:N [_,_] (.A (X+1+S) 100) [.A (X+(S+1)) 100]) G) H c_ d_ p.2.2.2.2.2.2.a<|j_.D<|by exact(aj Z:N [_,_,_] (.A (X+0+(.A 2<|S+(0+1)+O)) 50) [.A (X+(.A 2<|S+(O+1))) 50]) e_).A λv_ g_=>?_;obtain⟨h_,i_,n,q_,f,v,u⟩:=g_;haveI r_:=u.2.2.2.1;refine aL h_ (λl s=>(i_ l s).trans<|m_ l s) ⟨⟨b.1,K,L,D,E⟩::n,m+q_,f,v,u.1,u.2.1,u.2.2.1,by rw[f2]at r_;exact r_,jM u.2.2.2.2.1,λc k_=>?_,?_,?_,?_⟩
   .rcases bj.1 k_ with rfl|k_
    .exact p.2.2.2.1
    .exact u.2.2.2.2.2.1 c k_
   .show D+jG n<=_;exact DZ F_ u.2.2.2.2.2.2.1
   .show E+8+fY n<=71*(m+q_)+8*(n.length+1);exact(aj Z:N [_,_,_,_,_] (.A (X+8+S)<|(.A 71<|O+ag)+(.A 8<|aB+1)) [.A X<|.A 71 O,.A S<|(.A 71 ag)+(.A 8 aB)]) G_ u.2.2.2.2.2.2.2.1
   .haveI:=j_.A u.2.2.2.2.2.2.2.2;exact this.B (aY _)<|by rw[dd];exact(aj Z:N [_] (.A (0+1+X)<|X+1) [])
end
section
variable{b f:af}{a:dp}{d:V}{e:R<|aC×V}{c:R fh}
def Tm(a b:R fh):jG (a++b)=jG a+jG b:=by
 induction a with
 |nil=>exact(dG _).symm
 |cons c a d=>exact(aF (c.e+·) d).trans (hn _ _ _).symm
def Tl(a b:R fh):fY (a++b)=fY a+fY b:=by
 induction a with
 |nil=>exact(dG _).symm
 |cons c a d=>exact(aF (c.d+8+·) d).trans (hn _ _ _).symm
def Qa(l:eg a)(o:a.b<50)(p:g 0=Y (.B h))(c:g 8=Y i)(m:i∈[V.C,aa "none",aa "name",V.C]):
 bE λn d=>ai (al<|k+1) (.b (.C .Eq (.A 8)<|.J "name") (.G .A_<|.A (.A 0) .B)<|.A 8) g (a7 h b a)=Y (n,a7 h b d)/\jb n/\cC j a d 0 1 0:=by
 have e:cC j a a 0 1 0:=(cC.C l).B (c8 _)<|aY _;simp only[bj,ep,fL]at m;rcases m with rfl|rfl|rfl|rfl;.exact⟨_,_,(b6<|aK (ac c) Z Z).trans<|ac c,.inl Z,e⟩
 .exact⟨_,_,(b6<|aK (ac c) Z Z).trans<|ac c,.inr<|.inl Z,e⟩
 .obtain⟨q,d,f⟩:=pN l o p;exact⟨_,_,(cw<|aK (ac c) Z Z).trans f.1,.inr<|.inr ⟨q,Z,f.2.1⟩,f.2.2⟩
 .exact⟨_,_,(b6<|aK (ac c) Z Z).trans<|ac c,.inl Z,e⟩
def zn(s:g<b.a)(o:h 0=Y (.B g))(t:h 2=Y k)(u:h 4=Y (.B b.a))(v:hr k)(w:f.b b.a=.A ((fa c).map bs))(x:c.length<=4)(z:∀y∈c,tI i y)(A:jG c<=2*j)(B:fY c<=71*j+32)(C:cb b f)(p:cC i a l j 0 3)
 (D:a.b+2+2*(dR i a.a+3)<=50):ak (aw (al<|m+2*i+2) (eP 3 (bp .j_).b) h<|a7 g f l)<|fp<|jZ i g b a:=by
 haveI q:b.a≠g:=by exact oq s
 obtain⟨E,H,e⟩:=p0 (h:=[aa "none",aa "name",.C]) (l:=.a M<|.A .H<|.A (.J "none")<|.A (.J "name")<|.A .H .B) (k:=.B 4) Z (ae Z) p.a o Z;have d:=p.A e.2.2;obtain⟨F,r,n⟩:=Qa (g:=h.A 8 E) d.a ((a5 1121 Z:N [_,_,_,_,_] (.B O 50) [.A (X+2+(.A 2<|S+3)) 50,.A O<|X+(.A 2<|ag+0)+(0+0),.A (ag+0+aB)<|S+(3+0)]) D d.b d.c) o Z e.2.1;haveI G:=d.A n.2.2;refine a' e.1<|a3 (f:=a7 g (f.A b.a .B) r) (cB<|av Z<|av (ac t)<|av (Ap u<|(mN q).trans w)<|av ?_ aQ) ⟨_,2+jG c,39+fY c,j,_,r,gv Z (C.D<|aY _) (.inr<|.inr<|.inr<|.inr ⟨k,F,c,v,n.2.1,br x<|aX Z,z,Z,Z,Z,Z⟩) ?_ ?_ ?_⟩;.rw[p7 q];exact n.1
 .exact(aj Z:N [_,_] (.A (2+X)<|(.A 2 S)+2) [.A X<|.A 2 S]) A
 .exact(aj Z:N [_,_] (.A (39+X)<|(.A 71 S)+71) [.A X<|(.A 71 S)+32]) B
 .exact G.B (aX Z)<|aY _
def J4(z:jW g)(k:h<b.a)(A:eg a)(f:e.length<=3)(B:∀d∈e,(d.1="w"\/d.1="x"\/d.1="y"\/d.1="z")/\bA d.2)(u:hr i)(l:a.b+2+2*(dR g a.a+3)<=50):
 ak (aR (j+2*g+3) .j_ [.B h,.D<|e.map bs,i,.A ((g+1:U):ah)]<|a7 h b a) (jZ g h b a):=by
 haveI m:b.a≠h:=by exact oq k
 haveI v:=NB (k:=j) (a:=(bV .j_ [.B h,.D<|e.map bs,i,.A ((g+1:U):ah)]).A 4<|.B b.a) z e B k .A (eV _) iM (by rw[m4];exact(aj Z:N [_] (.A (0+X) 100) [.A X 3]) f) Z Z Z A<|(a5 121 Z:N [_,_,_] (.A (X+(.A 2<|S+O)) 50) [.A (X+2+(.A 2<|S+3)) 50,.A O 3]) l f;rw[<-CT k]at v;refine ak.C Z<|a' Z<|ey (fU<|ac Z)<|v.A λn C=>?_;obtain⟨J,o,K⟩:=n;obtain⟨rfl,p,D,E,L,F,rfl,c⟩:=C;haveI q:=c.2.2.1;haveI r:o 0=Y (.B h):=p 0<|ae Z;haveI w:o 2=Y i:=p 2<|ae Z;haveI s:o 4=Y (.B b.a):=p 4<|ae Z;haveI G:cC g a F E 0 3:=c.2.2.2.2.2.2.2.B (aY _) f;obtain⟨n,a_,t⟩:=mi (k:=.B 7) (ae Z) (ae Z) c.2.2.2.2.2.2.2.a r Z;have x:=G.A t.2.2;by_cases y:n=6
 .subst y;refine gB (aK t.1 Z Z)<|v5 (cB<|av Z<|av Z aQ) s ((mN m).trans q) ((mN m).trans q) (by rw[bC,bC];exact(aj Z:N [_,_] (.B X 1000000) [.A S 3,.A X S]) f c.2.2.2.1) ?_;rw[p7 m];refine RF (Aq D ⟨"w",.C,.C,0,0⟩) ?_;refine aU (zn k r w s u mO (by rw[cs,ff];exact(aj Z:N [_,_] (.A (X+1) 4) [.A S 3,.A X S]) f c.2.2.2.1) (λH I=>?_) ?_ ?_ (c.1.D<|aY _) x l)
  .refine b1 (ge.1 I) (λg=>?_) λg=>?_
   .exact c.2.2.2.2.1 H g
   .rw[cm.1 g];exact aL (aX Z) (uN<|.inl Z)<|.inl<|aL Z Z Z
  .rw[Tm];exact c.2.2.2.2.2.1
  .rw[Tl];show _+8<=_;exact(a5 8181 Z:N [_,_,_,_] (.A (X+8)<|(.A 71 S)+32) [.A O 3,.A X<|(.A 71 S)+(.A 8 ag),.A ag O]) f c.2.2.2.2.2.2.1 c.2.2.2.1
 .exact fX (aK t.1 Z<|nO<|WY y)<|zn k r w s u q ((aj Z:N [_,_] (.A X 4) [.A S 3,.A X S]) f c.2.2.2.1) c.2.2.2.2.1 c.2.2.2.2.2.1 ((a5 8181 Z:N [_,_,_,_] (.A X<|(.A 71 S)+32) [.A O 3,.A X<|(.A 71 S)+(.A 8 ag),.A ag O]) f c.2.2.2.2.2.2.1 c.2.2.2.1) c.1 x l
end
def lm(a:V):V:=match a with
 |.D (.E (.A "wrap")::b::_)=>b
 |c=>c
def jv(a:aC):Prop:=a="name"\/a="kind"\/a="number"\/a="kept"
def lp(a:aC):Prop:=a="row"\/a="card"\/a="either"\/a="behind"
section
variable{a:aA}{b:dp}
def BE(e:bA c):bA (lm c)/\(cF (lm c)="number"\/cF (lm c)="row"\/cF (lm c)="card"):=by
 have g:∀{a:V},bA a->cF a≠"wrap"->bA a/\(cF a="number"\/cF a="row"\/cF a="card"):=λe f=>⟨e,by
  cases e with
  |A=>exact .inl Z
  |D=>exact .inr (.inl Z)
  |B=>exact .inr (.inr Z)
  |E=>exact a2 Z f⟩
 cases e with
 |A h=>exact⟨.A h,.inl Z⟩
 |D i b d=>exact⟨.D i b d,.inr<|.inl Z⟩
 |B j b d k=>exact⟨.B j b d k,.inr<|.inr Z⟩
 |E a b d=>exact g b d
def PM(q:bA d)(h:a 1=Y d)(n:ak (aw e f (a.A 3<|lm d) c) g):
 ak (aw e (.A (.C (.f<|.A (.l (.A 1) .typeAlias)<|.A (.C .Eq (.F (.A 1)<|.B 0)<|.J "wrap") .B) (.A (.B (.A 3)<|.F (.A 1)<|.B 1) .B)<|.A (.B (.A 3)<|.A 1) .B) f) a c) g:=by
 have i:∀{k:aE},iH c .typeAlias d=Y k->bz e (.l (.A 1) .typeAlias) a c=Y (k,c):=λ{k} r=>by show(((a 1).map _).bind _).bind _=_;rw[h];show((iH c .typeAlias d).map _).bind _=_;rw[r];rfl
 have j:∀{o:U}{p:V}{l:R V},d=.D l->gz l o=Y p->ai e (.F (.A 1)<|.B o) a c=Y (p,c):=λs t=>pw (ac<|s▸h) Z<|kh.trans t;have m:bz e (.f<|.A (.l (.A 1) .typeAlias)<|.A (.C .Eq (.F (.A 1)<|.B 0)<|.J "wrap") .B) a c=Y (M,c)->lm d=d->ak (aw e (.A (.C (.f<|.A (.l (.A 1) .typeAlias)<|.A (.C .Eq (.F (.A 1)<|.B 0)<|.J "wrap") .B) (.A (.B (.A 3)<|.F (.A 1)<|.B 1) .B)<|.A (.B (.A 3)<|.A 1) .B) f) a c) g:=λu v=>iP u<|a' (ac h)<|aU<|v▸n;clear h;cases q with
 |A w=>exact m (fw<|cJ (i:=Q) (i Z) λb=>by exact bx b) Z
 |D l=>exact m (fw<|cJ (i Z) λz=>cJ (c:=M) (i:=Q) (aK (j Z Z) Z Z) λb=>by exact bx b) Z
 |B x=>exact m (fw<|cJ (i Z) λz=>cJ (c:=M) (i:=Q) (aK (j Z Z) Z Z) λb=>by exact bx b) Z
 |E y=>exact bg (fw<|cJ (i Z) λz=>cJ (c:=Q) (aK (j Z Z) Z Z) λz=>ml)<|a' (j Z Z)<|aU n
def Qf(l:bA d)(m:cF d="number"\/cF d="row"\/cF d="card")(n:a 3=Y d)(i:a 5=Y (aa c))(k:∀b,(c≠"own"/\b=c)\/(c="own"/\(b="number"\/b="row"\/b="card"))->ak (aw (al<|e+1) f (a.A 5<|aa b) g) h):
 ak (aw (al<|e+1) (.A (.B (.A 5)<|.b (.C .Eq (.A 5)<|.J "own") (.G .E<|.A (.A 3) .B)<|.A 5) f) a g) h:=by
 by_cases j:c="own";.subst j;exact a' ((cw<|aK (ac i) Z Z).trans<|bM (av (ac n) aQ)<|lx l.C)<|k _<|.inr<|am Z m
 .exact a' ((b6<|aK (ac i) Z<|(h7 c "own").trans<|aF Y<|ct j).trans<|ac i)<|k _<|.inl<|am j Z
def Al(F:eg b)(z:bA d)(G:∀a j s,a 0=Y (.B e)->a 1=Y d->a 2=Y (.A (c:U))->a 3=Y (lm d)->a 5=Y (aa j)->cC c {b with a:=b.a-1} s 0 0 0->(jv j\/(0<c/\1<b.a/\lp j))->
 ak (aw (al<|g+1) (eP 6 (bp .D).b) a<|a7 e f s) (fp h)):ak (aR (g+2) .D [.B e,d,.A c]<|a7 e f b) h:=by
 haveI A:=BE z;haveI H:∀{a:aA}{l:R V}{f:af},a 4=Y (.D l)->ai (al<|g+1) (.L .init<|.A 4) a f=Y (.A (l.length:U),f):=λt=>cS (ac t) Z;refine ak.C Z<|sF (j:={b with a:=b.a-1}) Z (bL (iF Z Z) Z Z) Z<|PM z Z<|a' Z ?_;have x:∀{a:aA}{v:V}{l:R V},l.length<100->a 0=Y (.B e)->a 1=Y d->a 2=Y (.A (c:U))->a 3=Y (lm d)->a 4=Y (.D (v::l))->(∀k,k∈v::l->∃j,k=aa j/\∀i,((j≠"own"/\i=j)\/(j="own"/\(i="number"\/i="row"\/i="card")))->(jv i\/(0<c/\1<b.a/\lp i)))->
  ak (aw (al<|g+1) (eP 4 (bp .D).b) a<|a7 e f {b with a:=b.a-1}) (fp h):=λ{a v l} o B I J C t K=>by
  obtain⟨k,s,w⟩:=p0 (a:={b with a:=b.a-1}) (ac t) o F B<|H t;refine cg (K k w.2.1) λj L a_=>?_;subst L;exact a' w.1<|Qf A.1 A.2 C Z λi b_=>G _ i s B I J C Z w.2.2<|a_ i b_
 have D:∀k,k∈[aa "name",aa "kind",aa "number",aa "kept"]->∃j,k=aa j/\∀i,((j≠"own"/\i=j)\/(j="own"/\(i="number"\/i="row"\/i="card")))->(jv i\/(0<c/\1<b.a/\lp i)):=λk p=>by
  simp only[bj,ep,fL]at p;have u:∀{j i:aC},j≠"own"->jv j->((j≠"own"/\i=j)\/(j="own"/\(i="number"\/i="row"\/i="card")))->(jv i\/(0<c/\1<b.a/\lp i)):=λy o q=>by
   rcases q with⟨_,rfl⟩|⟨c,_⟩;.exact .inl o
   .exact a2 c y
  rcases p with rfl|rfl|rfl|rfl;.exact ax _ Z λx_=>u (ae Z)<|.inl Z
  .exact ax _ Z λx_=>u (ae Z)<|.inr<|.inl Z
  .exact ax _ Z λx_=>u (ae Z)<|.inr<|.inr<|.inl Z
  .exact ax _ Z λx_=>u (ae Z)<|.inr<|.inr<|.inr Z
 by_cases m:0<c
 .by_cases r:1<b.a
  .refine bg (fw<|cJ (aK Z Z<|ki<|D2 m) λx_=>cJ (aK (iF Z Z) Z<|ki<|by show 0<b.a-1;exact WZ r) λx_=>ml)<|a' Z<|aU<|x (l:=[aa "card",aa "own",aa "either",aa "behind",aa "own",aa "name",aa "kind"]) (ae Z) Z Z Z Z Z λk p=>?_;simp only[bj,ep,fL]at p;have n:∀{j i:aC},j≠"own"->(jv j\/lp j)->((j≠"own"/\i=j)\/(j="own"/\(i="number"\/i="row"\/i="card")))->(jv i\/(0<c/\1<b.a/\lp i)):=λy o q=>by
    rcases q with⟨_,rfl⟩|⟨c,_⟩;.exact o.imp id λc=>aL m r c
    .exact a2 c y
   have E:∀{i:aC},(("own"≠"own"/\i="own")\/("own"="own"/\(i="number"\/i="row"\/i="card")))->(jv i\/(0<c/\1<b.a/\lp i)):=λq=>by
    rcases q with⟨c,_⟩|⟨_,rfl|rfl|rfl⟩;.exact a2 Z c
    .exact .inl<|.inr<|.inr<|.inl Z
    .exact .inr<|aL m r<|.inl Z
    .exact .inr<|aL m r<|.inr<|.inl Z
   rcases p with rfl|rfl|rfl|rfl|rfl|rfl|rfl|rfl;.exact ax _ Z λx_=>n (ae Z)<|.inr<|.inl Z
   .exact ax _ Z λx_=>n (ae Z)<|.inr<|.inr<|.inl Z
   .exact ax _ Z λx_=>E
   .exact ax _ Z λx_=>n (ae Z)<|.inr<|.inr<|.inr<|.inl Z
   .exact ax _ Z λx_=>n (ae Z)<|.inr<|.inr<|.inr<|.inr Z
   .exact ax _ Z λx_=>E
   .exact ax _ Z λx_=>n (ae Z)<|.inl<|.inl Z
   .exact ax _ Z λx_=>n (ae Z)<|.inl<|.inr<|.inl Z
  .exact as (fw<|cJ (aK Z Z<|ki<|D2 m) λx_=>cJ (i:=Q) (aK (iF Z Z) Z<|ms<|by show¬0<b.a-1;exact W0 r) λc=>by exact bx c)<|x (v:=aa "name") (l:=[aa "kind",aa "number",aa "kept"]) (ae Z) Z Z Z Z Z D
 .exact as (fw<|cJ (c:=M) (i:=Q) (aK Z Z<|ms<|by exact W1 m) λc=>by exact bx c)<|x (v:=aa "name") (l:=[aa "kind",aa "number",aa "kept"]) (ae Z) Z Z Z Z Z D
end
def j0(b h:U)(i:af)(j:dp)(c:V×af):Prop:=gG λk d e a f g=>c.2=a7 h f g/\cb i f/\dt b c.1 k d e/\d<=2*a/\e<=71*a/\cC b j g a 0 1
section
variable{d:bk}{a b:U}{c e:dp}
def vN{b:ah}(a:1<b):1<=(b-1).toNat:=by omega
def TC(b:ah)(a:U):(b-a).toNat=b.toNat-a:=by
 cases b with
 |ofNat c=>exact Int.toNat_sub c a
 |negSucc c=>cases a<;>exact(Nat.zero_sub _).symm
def QP(b:ah)(a:U):(b-1-a-1).toNat=(b-1-1).toNat-a:=by rw[ta,qx,<-ta];exact TC _ _
def lt(a:U)(b:ah):Or (bD ((b-1).toNat=0)<|dR a b=0)<|bD (1<=(b-1).toNat)<|dR a b=(b-1).toNat+2*a:=(Int.lt_or_le 1 b).elim (λd=>.inr ⟨vN d,ao<|Yb.2 d⟩) λd=>.inl ⟨Int.toNat_of_nonpos<|Int.sub_nonpos_of_le d,au d⟩
def QO(a:U)(b:ah):dR a (b-1)<=dR a b:=by exact VF (lt a b) (lt a<|b-1)<|FA _
def QQ(a:U)(b c:ah)(d:U)(e:1<b)(f:c=b-1-d)(g:d+dR a c<=dR a (b-1)+3):(d+1)+dR (a+1) c<=dR (a+1) b+1:=by subst f;exact VG (vN e) (FA _) (QP _ _) (lt a _) (lt a<|b-1) (lt (a+1) _) (lt (a+1) b) g
def QN(a:U)(b:ah)(c:1<b):dR a (b-1)+4<=dR (a+1) b+1:=by exact VH (vN c) (FA _) (lt a<|b-1)<|lt (a+1) b
def sb(d:kR j k g h)(e:g<=2)(m:h<=71)(b:cC a {c with a:=c.a-1} f 0 2 0):j0 a l i c (j,a7 l i f):=by
 refine⟨k,g,h,1,i,f,gv Z (.C) (.A d) e m ⟨b.a,?_,?_,?_⟩⟩;.exact b.d.trans<|qA _
 .exact b.b
 .show 1+dR a f.a<=_;exact(aj Z:N [_,_,_] (.A (1+X)<|O+1) [.A (0+X)<|S+0,.A S O]) b.c<|QO a c.a
def vi(i:1<c.a)(j:jZ a f g {c with a:=c.a-1} h):j0 (a+1) f g c h:=by
 refine gG.A j λk l m d n e b=>?_;refine⟨k,l,m,d+1,n,e,gv b.1 b.2.1 b.2.2.1 b.2.2.2.1 b.2.2.2.2.1 ⟨b.2.2.2.2.2.a,?_,?_,QQ a c.a e.a d i b.2.2.2.2.2.d b.2.2.2.2.2.c⟩⟩;.haveI:=b.2.2.2.2.2.d;dsimp only at this;exact W2 this
 .exact b.2.2.2.2.2.b
def C7(a:bA f):cF f≠"StandardError"/\(cF f).length<=100:=by
 cases a with
 |A=>exact⟨show"number"≠_ by decide,show"number".length<=100 by decide⟩
 |D=>exact⟨show"row"≠_ by decide,show"row".length<=100 by decide⟩
 |B=>exact⟨show"card"≠_ by decide,show"card".length<=100 by decide⟩
 |E=>exact⟨show"wrap"≠_ by decide,show"wrap".length<=100 by decide⟩
def OS(n:g 0=Y (.B i))(y:g 1=Y k)(b:g 5=Y (aa f))(t:bA k)(o:eg e)(l:cC a {c with a:=c.a-1} e 0 0 0)(z:e.b<50)(A:jv f):
 ak (aw (al<|j+1) (eP 6 (bp .D).b) g<|a7 i h e) (fp<|j0 a i h c):=by
 have p:∀{d:bk}{u:V}{h v:af},ai (al<|j+1) d g h=Y (u,v)->ai (al<|j+1) (.I<|.A (.A 5)<|.A d .B) g h=Y (.F [aa f,u],v):=λa=>cB<|av (ac b)<|av a aQ;rcases A with rfl|rfl|rfl|rfl;.obtain⟨B,w,q⟩:=pN o z n;exact bg (aK (ac b) Z Z)<|a3 (p q.1)<|sb (.inl<|kf B q.2.1 Z Z Z Z) (aX Z) (aX Z)<|(l.A q.2.2).B (aX Z)<|aY _
 .obtain⟨C,w,m⟩:=p0 (h:=[aa "row",aa "number",aa "thing"]) (l:=.a M<|.A (.G .E<|.A (.A 1) .B)<|.A (.J "row")<|.A (.J "number")<|.A (.J "thing") .B) (k:=.B 4) (iI<|av (bM (av (ac y) aQ)<|lx t.C) Z) (ae Z) o n Z;haveI r:=m.2.1;haveI D:∃f,C=aa f/\f≠"StandardError"/\f.length<=100:=by
   simp only[bj,ep,fL]at r;clear m;rcases r with rfl|rfl|rfl|rfl
   .exact ax _ Z<|C7 t
   .exact cW _ Z (ae Z)<|aX Z
   .exact cW _ Z (ae Z)<|aX Z
   .exact cW _ Z (ae Z)<|aX Z
  clear r;obtain⟨f,rfl,x⟩:=D;exact as (aK (ac b) Z Z)<|bg (aK (ac b) Z Z)<|a3 (p m.1)<|sb (.inr<|.inl<|As f x.1 x.2 Z Z Z Z) (aX Z) (aX Z)<|(l.A m.2.2).B (aX Z)<|aY _
 .obtain⟨E,w,s⟩:=mi (k:=.B 3) (ae Z) (ae Z) o n Z;exact as (aK (ac b) Z Z)<|as (aK (ac b) Z Z)<|as (aK (ac b) Z Z)<|bg (aK (ac b) Z Z)<|a3 (p s.1)<|sb (.inr<|.inr<|.inl<|kf E (by exact(aj Z:N [_] (.A X 100) [.B X 3]) s.2.1) Z Z Z Z) (aX Z) (aX Z)<|(l.A s.2.2).B (aX Z)<|aY _
 .exact as (aK (ac b) Z Z)<|as (aK (ac b) Z Z)<|bg (aK (ac b) Z Z)<|a3 (cB<|av (ac b) aQ)<|sb (.inr<|.inr<|.inr<|db Z Z Z Z) (aX Z) (aX Z)<|l.B (aX Z)<|aY _
end
section
variable{a:af}{c d:dp}{e:R V}{b:V}{f:R<|aC×V}
def Tz(b:bA g)(a:cF g="row"):∃e,g=.D (aa "row"::e)/\e.length<=3/\∀c∈e,bA c:=by
 cases b with
 |D e d f=>exact cW e Z f d
 |A=>exact a2 (show"number"=_ from a)<|ae Z
 |B=>exact a2 (show"card"=_ from a)<|ae Z
 |E=>exact a2 (show"wrap"=_ from a)<|ae Z
def Tx(d:bA g)(e:cF g="card"):∃f:R<|aC×V,g=.D (aa "card"::f.map bs)/\f.length<=3/\∀b∈f,(b.1="w"\/b.1="x"\/b.1="y"\/b.1="z")/\bA b.2:=by
 refine a8 (zo d e) λf a=>?_;refine cW f a.1 ?_ λb c=>am (.inr ?_)<|a.2.2.1 b c
 .haveI:=pR a.2.1 λi h=>by
   obtain⟨b,c,rfl⟩:=d4.1 h;exact a.2.2.2 b c
  rwa [bC]at this
 .haveI:=a.2.2.2 b c;simp only[bj,ep,fL]at this;exact this
def Q3(C:jW g)(D:h<a.a)(y:i 0=Y (.B h))(j_:i 1=Y m)(E:i 2=Y (.A ((g+1:U):ah)))(r:i 3=Y k)(F:i 5=Y (aa l))(G:bA m)(z:bA k)(k_:eg d)(l_:1<c.a)(m_:cC g {c with a:=c.a-1} d 0 0 0)(n_:d.b+2+2*(dR g d.a+3)<=50)(o_:l="row"\/l="card"):
 ak (aw (al<|j+2*g+3) (eP 12 (bp .D).b) i<|a7 h a d) (fp<|j0 (g+1) h a c):=by
 obtain⟨t,p,q⟩:=p0 (c:=a) (l:=.a M<|.A .H<|.A .H<|.A (.G .E<|.A (.A 1) .B)<|.A (.J "number") .B) (k:=.B 4) (iI<|av Z<|av Z<|av (bM (av (ac j_) aQ)<|lx (e:=j+2*g+2) G.C) Z) (show 3<100 by decide) k_ y Z;haveI p_:=q.1;haveI H:=q.2.1;have I:hr t:=by
  simp only[bj,ep,fL]at H;clear q;rcases H with rfl|rfl|rfl|rfl
  .exact .inl Z
  .exact .inl Z
  .exact .inr<|ax _ Z<|C7 G
  .exact .inr<|cW _ Z (ae Z)<|aX Z
 haveI q_:=m_.A q.2.2;have J:∀{w:V×af},jZ g h a p w->j0 (g+1) h a c w:=λr_=>by refine gG.A r_ λb s_ t_ u_ v_ w_ s=>?_;haveI:=q_.A s.2.2.2.2.2;simp only[dG]at this;exact vi l_ ⟨b,s_,t_,u_,v_,w_,gv s.1 s.2.1 s.2.2.1 s.2.2.2.1 s.2.2.2.2.1 this⟩
 have K:p.b+2+2*(dR g p.a+3)<=50:=by exact(a5 1121 Z:N [_,_,_,_] (.A (O+2+(.A 2<|ag+3)) 50) [.A (X+2+(.A 2<|S+3)) 50,.A O<|X+(.A 2 0)+0,.A (0+ag)<|S+0]) n_ q.2.2.b q.2.2.c
 have L:∀{i:aA},i 3=Y k->∀n:aC,bz (al<|j+2*g+3) (.C .Eq (.G .E<|.A (.A 3) .B)<|.J n) i (a7 h a p)=Y (aN<|cF k=n,a7 h a p):=λr n=>aK (bM (av (ac r) aQ)<|lx z.C) Z<|h7 _ _;haveI a_:∀{i:aA}{A:V}{e:R V},i 3=Y (.D (A::e))->ai (al<|j+2*g+3) (.e (.A 3) (.B 1) .H) i (a7 h a p)=Y (.D e,a7 h a p):=λr=>sM r;haveI o:∀n:aC,n="row"\/n="card"->∃o,ai (al<|j+2*g+3) (.b (.C .Eq (.G .E<|.A (.A 3) .B)<|.J n) (.e (.A 3) (.B 1) .H)<|.a M .B) (i.A 7 t) (a7 h a p)=Y (.D o,a7 h a p)/\(n="row"->o.length<=3/\∀A∈o,bA A)/\(n="card"->∃f:R<|aC×V,o=f.map bs/\f.length<=3/\∀b∈f,(b.1="w"\/b.1="x"\/b.1="y"\/b.1="z")/\bA b.2):=λn y_=>by
  haveI u:=L (i:=i.A 7 t) r n;clear L;by_cases x:cF k=n
  .rw[c0 x]at u;rcases y_ with rfl|rfl
   .refine cg (Tz z x) λe v b_=>?_;subst v;exact cW e ((cw u).trans<|a_ r) (λx_=>am b_.1 b_.2) λg=>a2 g<|ae Z
   .refine cg (Tx z x) λf v c_=>?_;subst v;exact cW _ ((cw u).trans<|a_ r) (λg=>a2 g<|ae Z) λx_=>cW f Z c_.1 c_.2
  .rw[ct x]at u;exact cW ([]) ((b6 u).trans Z) (λx_=>am (aX Z) λx_ g=>bW g) λx_=>cW ([]) Z (aX Z) λx_ g=>bW g
 refine a' p_ ?_;rcases o_ with rfl|rfl;.refine a8 (o "row"<|.inl Z) λo d_=>?_;haveI B:=d_.2.1;have e_:=B Z;obtain⟨w,f_⟩:=Rs C D q.2.2.a e_.1 e_.2 I K;exact bg (aK (ac F) Z Z)<|a3 (bM (f:=[.B h,.D o,t,.A ((g+1:U):ah)]) (av (ac y)<|av d_.1<|av (ac Z)<|av (ac E) aQ) f_.1)<|J f_.2
 .refine a8 (o "card"<|.inr Z) λo g_=>?_;have B:=g_.2.2;refine cg (B Z) λf v h_=>?_;subst v;refine a8 (J4 (j:=j) C D q.2.2.a h_.1 h_.2 I K) λw i_=>?_;exact as (aK (ac F) Z Z)<|a3 (bM (f:=[.B h,.D<|f.map bs,t,.A ((g+1:U):ah)]) (av (ac y)<|av g_.1<|av (ac Z)<|av (ac E) aQ) i_.1)<|J i_.2
def OT(a:g.length=2):∃b c,g=[b,c]:=by
 cases g with
 |nil=>cases a
 |cons b d=>cases d with
  |nil=>cases a
  |cons c d=>cases d with
   |nil=>exact f9 b c Z
   |cons _ _=>cases a
def Qm(B:jW g)(C:k<a.a)(r:h 0=Y (.B k))(u:h 1=Y m)(v:h 2=Y (.A ((g+1:U):ah)))(h_:h 3=Y i)(s:h 5=Y (aa j))(D:bA m)(i_:bA i)(E:eg d)(F:1<c.a)(G:cC g {c with a:=c.a-1} d 0 0 0)(w:d.b+2+2*(dR g d.a+3)<=50)(x:lp j):
 ak (aw (al<|l+2*g+3) (eP 6 (bp .D).b) h<|a7 k a d) (fp<|j0 (g+1) k a c):=by
 have f:∀{y:aC}{j_:bR}{a:af},j≠y->bz j_ (.C .Eq (.A 5)<|.J y) h a=Y (M,a):=λn=>aK (ac s) Z<|(h7 _ _).trans<|aF Y<|ct n;have L:∀{K:bQ}{e:R V}{a t:af},bK (al<|l+2*g+3) K h a=Y (e,t)->ai (al<|l+2*g+3) (.I<|.A (.A 5) K) h a=Y (.F (aa j::e),t):=λg=>cB<|av (ac s) g;have a_:(j="row"\/j="card")->ak (aw (al<|l+2*g+3) (eP 6 (bp .D).b) h<|a7 k a d) (fp<|j0 (g+1) k a c):=λx=>by
  haveI n:j≠"name"/\j≠"kind"/\j≠"kept"/\j≠"number"/\j≠"either"/\j≠"behind":=by clear s;rcases x with rfl|rfl<;>exact gv (ae Z) (ae Z) (ae Z) (ae Z) (ae Z)<|ae Z
  exact as (f n.1)<|as (f n.2.1)<|as (f n.2.2.1)<|as (f n.2.2.2.1)<|as (f n.2.2.2.2.1)<|as (f n.2.2.2.2.2)<|Q3 B C r u v h_ s D i_ E F G w x
 have b_:∀{h:aA}{a:af},h 0=Y (.B k)->h 1=Y m->h 2=Y (.A ((g+1:U):ah))->ai (al<|l+2*g+3) (oj 1 2) h a=aR (l+1+2*g+2) .D [.B k,m,.A g] a:=λr u v=>by rw[show l+1+2*g+2=l+2*g+3 by exact(aI (.B (.A 1)<|.A 1) Z:N [_,_] (.C (X+1+(.A 2 S)+2)<|X+(.A 2 S)+3) [])];show(bK _ _ _ _).bind _=_;rw[a0 (ac r)<|a0 (ac u)<|a0 (bL (j:=.warn) (ac v) (i:=.A 1) Z<|aF (λy=>Y<|V.A y)<|ot) aQ];rfl
 rcases x with g|g|rfl|rfl;.exact a_<|.inl g
 .exact a_<|.inr g
 .refine cy.A (uO (l:=.A 6) (u:=λh a=>d' (al<|l+2*g+3) .B h a) B [0,1] (λx_ x_=>D) (λi x_=>ax (h.A 6<|.A i) Z λa=>am Z<|b_ r u v) C E<|by show _+2*(_+2)<=_;exact(aj Z:N [_,_] (.A (X+(.A 2<|S+2)) 50) [.A (X+2+(.A 2<|S+3)) 50]) w) λq_ H t I q=>?_;haveI k_:=q.1;haveI l_:=q.2.1;have z:=q.2.2.1;have c_:=q.2.2.2.1;have d_:=q.2.2.2.2.1;refine d2 (OT l_) λi o m_=>?_;subst m_
  .
   haveI n_:ei (al<|l+2*g+3) (.B<|.B 2) h (a7 k a d)=Y ([.A 0,.A 1],a7 k a d):=Z;haveI A:=G.A q.2.2.2.2.2.2;simp only[dG]at A;refine as (f<|ae Z)<|as (f<|ae Z)<|as (f<|ae Z)<|as (f<|ae Z)<|bg (aK (ac s) Z Z)<|a3 (L<|av (k8 n_ k_) aQ)<|vi F ⟨_,i.d+o.d,i.c+o.c+1,H,t,I,gv Z q.2.2.2.2.2.1 (.inr<|.inl ⟨i.a,i.b,i.d,i.c,o.a,o.b,o.d,o.c,gv (z i bP) (z o<|cx _ bP) Z Z Z Z⟩) ?_ ?_<|A.B (aX Z)<|aX Z⟩;.change i.d+(o.d+0)<=_ at c_;exact(aj Z:N [_,_,_] (.A (X+S)<|(.A 2 O)+2) [.A (X+(S+0))<|.A 2 O]) c_
   .change i.c+4+(o.c+4+0)<=_+4*2 at d_;exact(aj Z:N [_,_,_] (.A (X+S+1)<|(.A 71 O)+71) [.A (X+4+(S+4+0))<|(.A 71 O)+(.A 4 2)]) d_
 .refine kN.A (B (l+1) k a d m C E ((aj Z:N [_,_] (.A (X+(.A 2<|S+1)) 50) [.A (X+2+(.A 2<|S+3)) 50]) w) D) λz b e_ f_ H t I p=>?_;have A:=G.A p.2.2.2.2.2;have n:I.b<50:=by exact(a5 1121 Z:N [_,_,_,_,_] (.B O 50) [.A (X+2+(.A 2<|S+3)) 50,.A O<|X+(.A 2 ag)+0,.A (ag+aB)<|S+1]) w p.2.2.2.2.2.b p.2.2.2.2.2.c
  obtain⟨o_,p_,J⟩:=pN p.2.2.2.2.2.a n r;haveI g_:=A.A J.2.2;simp only[dG,FS]at g_;exact as (f<|ae Z)<|as (f<|ae Z)<|as (f<|ae Z)<|as (f<|ae Z)<|as (f<|ae Z)<|bg (aK (ac s) Z Z)<|a3 (L<|av ((b_ r u v).trans p.1)<|av J.1 aQ)<|vi F ⟨_,e_,f_+3,H,t,p_,gv Z p.2.1 (.inr<|.inr<|.inl ⟨z,b,e_,f_,o_,gv p.2.2.1 J.2.1 Z Z Z Z⟩) (by exact(aj Z:N [_,_] (.A X<|(.A 2 S)+2) [.A X<|.A 2 S]) p.2.2.2.1) (by exact(aj Z:N [_,_] (.A (X+3)<|(.A 71 S)+71) [.A X<|.A 71 S]) p.2.2.2.2.1)<|g_.B (aX Z)<|aX Z⟩
def Aj(e:c.b+2*(dR h c.a+1)<=50)(f:bA j)(m:g 0=Y (.B i))(n:g 1=Y j)(o:g 5=Y (aa k))(b:cC h {c with a:=c.a-1} d 0 0 0)(p:jv k):ak (aw (al<|l+1) (eP 6 (bp .D).b) g<|a7 i a d)<|fp<|j0 h i a c:=
 OS m n o f b.a b (f3 (br b.b<|aY c.b)<|(aj Z:N [_,_] (.B X 50) [.A (X+(.A 2<|S+1)) 50]) e) p
def Ak(n:ak (aR (i+2*g+2) .D [.B h,j,.A g]<|a7 h a c)<|j0 g h a c):kN λe b f k d l m=>aR (i+2*g+2) .D [.B h,j,.A g] (a7 h a c)=Y (e,a7 h l m)/\cb a l/\dt g e b f k/\f<=2*d/\k<=71*d/\cC g c m d 0 1:=by obtain⟨⟨e,q⟩,o,b,f,k,d,l,m,rfl,p⟩:=n;exact⟨e,b,f,k,d,l,m,o,p⟩
def NL:∀e,jW e:=by
 intro e
 induction e with
 |zero=>
  intro r s a c t m l h f;exact Ak<|Al l f λu v d i j n o k b g=>Aj h f i j k b<|g.resolve_right λe=>a2 e.1<|ae Z
 |succ e w=>
  intro r s a c t m l h f;refine Ak<|Al l f λu v d i j n o k b g=>?_;rcases g with g|⟨_,p,g⟩;.exact Aj h f i j k b g
  .haveI q:d.a=c.a-1:=b.d.trans<|qA _;haveI x:=QN e c.a p;refine Qm w m i j n o k f (BE f).1 b.a p ⟨b.a,b.d,b.b,by rw[q];show 0+_<=_;rw[dG];exact aY _⟩ ?_ g;haveI:=b.b;rw[q];exact(a5 1211 Z:N [_,_,_,_] (.A (X+2+(.A 2<|S+3)) 50) [.A (O+(.A 2<|ag+1)) 50,.A (S+4)<|ag+1,.A X<|O+(.A 2 0)+0]) h x this
end
def jh(c d:U)(e:R V)(f:V)(g:be)(h:R<|an×V)(i:V)(j:be)(k:R<|an×V):Prop:=
 ∀(l a:U)(b:af),aR (l+c) .m_ [.B<|a+2,.A d,.D e,f] (az a b g h)=Y (i,az a b j k)
def oU(f:U)(g:V):U->R V->be->R (an×V)->aD U->be->R (an×V)->Prop
 |_,[],a,b,c,d,e=>c=ab/\d=a/\e=b
 |h,i::l,a,b,c,d,e=>(c=Y h/\cz f i g a b Q d e)\/bE λj k=>cz f i g a b M j k/\oU f g (h+1) l j k c d e
def zp(a:U):aD U->V
 |some b=>.A b
 |none=>if a=1 then .A 9 else .C
def be.D(a:be):be:={a with a:=aa "nothing"}
def mf(b:U)(c:aD U)(a:be):be:=if c.isNone&&b==0&&bH a.a then a.D else a
section
variable{a:be}{b:V}
abbrev J5:cu:=.A (.C (.G .F<|.A (.A 0)<|.A (.A 5)<|.A (.A 3) .B) (.A (.D<|.A 4) .B) .B) .B
def J7(p:U)(l:R V):∀{i:U}{a:be}{q:R<|an×V}{j:aD U}{m:be}{n:R<|an×V}{g:aA},oU e f i l a q j m n->g 0=Y (.B<|d+2)->g 3=Y f->
 ak (dx (λg c=>aw (al<|p+e) J5 g c) (.B [4,5]) (eJ ((m7 i l.length).map λx:U=>V.A x) l) g<|az d c a q) λb=>b.1=(match(generalizing:=false) j with|some y=>.B (.A (y:U))|none=>.A)/\(∀h,h<4->b.2.1 h=g h)/\b.2.2=az d c m n:=by
 induction l with
 |nil=>
  intro i a q j m n g k _ _;obtain⟨rfl,rfl,rfl⟩:=k;exact dZ _ Z Z (λE E=>Z) Z
 |cons r l z=>
  intro i a q j m n g k s t;haveI v:∀h,h<4->((g.A 4<|.A i).A 5 r) h=g h:=λh o=>(ao<|(a5 110 Z:N [_] (.D<|.C X 5) [.B X 4]) o).trans<|ao<|(a5 110 Z:N [_] (.D<|.C X 4) [.B X 4]) o;rcases k with⟨rfl,k⟩|⟨B,C,k,A⟩
  .exact ve Z (by obtain⟨j,w⟩:=gB (b:=al<|p+e) (c:=(g.A 4<|.A i).A 5 r) (f:=.A (.D<|.A 4) .B) (h:=λj=>j=(.B<|.A i,(g.A 4<|.A i).A 5 r,az d c m n)) (iy (a0 (ac (g:=0) s)<|a0 (ac (g:=5) Z)<|a0 (ac (g:=3) t) aQ)<|k p d c)<|a3 (ac Z) Z;exact w.1.trans<|aF Y w.2)<|aL Z v Z
  .refine eS Z<|fX (iy (a0 (ac s)<|a0 (ac Z)<|a0 (ac t) aQ)<|k p d c)<|aU<|am Z ?_;exact(z (g:=(g.A 4<|.A i).A 5 r) A s t).A λj u=>aL u.1 (λh o=>(u.2.1 h o).trans<|v h o) u.2.2
def z6(b:d 0=Y (.B<|c+2)):bz g (.C .Is (.F (.A 0)<|.J "ended") .H) d (az c e a f)=Y (bH a.a,az c e a f):=aK (eH b Z) Z Z
def On:bH c=Q<->c=.C:=⟨λa=>by cases c<;>first|rfl|exact bx a,λa=>by rw[a];rfl⟩
def T8(q:d=0\/d=1)(l:oU g i 0 h a j e c f):jh (g+1) d h i a j (zp d e) (mf d e c) f:=by
 intro r s t;refine bi Z<|bg (aK Z Z<|mA (by rcases q with rfl|rfl<;>exact ae Z)) ?_;refine ey (uI Z)<|(J7 r h l Z Z).A λb y=>?_;obtain⟨A,u,B⟩:=b;obtain⟨v,p,z⟩:=y;subst z;haveI w:u 0=Y (.B<|s+2):=p 0<|ae Z;haveI k:u 1=Y (.A d):=p 1<|ae Z;haveI n:=z6 (g:=al<|r+g) (e:=t) (a:=c) (f:=f) w;clear p;cases e with
 |some x=>subst v;exact aF (λa=>(zp d<|Y x,az s t a f))<|show c=mf d (Y x) c from Z
 |none=>
  subst v;rcases q with rfl|rfl
  .refine c2 (bH c.a) (λm=>?_) λm=>?_
   .rw[m]at n;have o:mf 0 ab c=c:=by show(if bH c.a then _ else _)=_;rw[m];rfl
    rw[o];exact as (fw<|cJ (c:=Q) (aK (ac k) Z Z) λC=>cJ (i:=Q) n λl=>by cases l)<|a3 ((b6<|aK (ac k) Z Z).trans Z) Z
   .rw[m]at n;have o:mf 0 ab c=c.D:=by show(if bH c.a then _ else _)=_;rw[m];rfl
    rw[o];exact bg (fw<|cJ (c:=Q) (i:=Q) (aK (ac k) (k:=.A 0) Z Z) λC=>cJ (c:=Q) (i:=Q) n λC=>ml)<|kr (k:=c.d) (l:=aa "nothing") (m:=c.c) w Z Z<|aU<|a3 ((b6<|aK (ac k) (k:=.A 1) Z Z).trans Z) Z
  .haveI o:mf 1 ab c=c:=Z;exact as (fw<|cJ (c:=M) (i:=Q) (aK (ac k) (k:=.A 0) Z Z) λl=>by cases l)<|a3 ((cw<|aK (ac k) (k:=.A 1) Z Z).trans Z) Z
def DP(b:cz c d e a f g h i):jh (c+1) 2 [d] e a f (.G g) h i:=by intro j k l;refine bi Z<|as Z<|a' (bM Z<|b j k l)<|as (fw<|cJ (c:=M) (i:=Q) Z λb=>by exact bx b)<|a3 ((cw Z).trans<|ac Z) Z
def nK(b:aE)(a:be):be:=if !b&&bH a.a then a.D else a
def T9(b:cz e f g a i d c h):jh (e+1) 3 [f] g a i .C (nK d c) h:=by
 intro l m n;refine bi Z<|as Z<|a' (bM Z<|b l m n) ?_;haveI k:=z6 (g:=al<|l+e) (e:=n) (a:=c) (f:=h) (d:=(bV .m_ [.B<|m+2,.A (3:U),.D [f],g]).A 6<|.G d) Z;cases d
 .refine c2 (bH c.a) (λj=>?_) λj=>?_
  .rw[j]at k;rw[show nK M c=c by show(if bH c.a then _ else _)=_;rw[j];rfl];exact as (fw<|cJ (c:=Q) Z λo=>cJ (c:=Q) Z λo=>cJ (i:=Q) k λb=>by exact bx b)<|a3 ((b6 Z).trans Z) Z
  .rw[j]at k;rw[show nK M c=c.D by show(if bH c.a then _ else _)=_;rw[j];rfl];exact bg (fw<|cJ (c:=Q) (i:=Q) Z λo=>cJ (c:=Q) (i:=Q) Z λo=>cJ (c:=Q) (i:=Q) k λo=>ml)<|kr (k:=c.d) (l:=aa "nothing") (m:=c.c) Z Z Z<|aU<|a3 ((b6 Z).trans Z) Z
 .rw[show nK Q c=c from Z];exact as (fw<|cJ (c:=Q) (i:=M) Z λo=>cJ (c:=M) (i:=Q) Z λb=>by exact bx b)<|a3 ((b6 Z).trans Z) Z
end
def kW(a:V):Prop:=cM a=Q/\cA a<=50/\cT a=0
def Hk(e:de)(b c:U)(d f:R V)(g:be)(j:V)(h:R V)(a:be):Prop:=
 (a.a=.C/\∃i,b5 e.A i ⟨d,f,b,g⟩ ⟨d++[j],h,c,a⟩/\b+i<=c)\/(a.a≠.C/\g0 e b c d f g h a)
def gl(a:de)(m n:U)(o:R V)(i p q:U):Prop:=∀(b:V)(j k:R V)(c:be)(d:R<|an×V)(e:U),bA b->ca b->bn (.A "it") d=Y b->j.length<=900->cQ a.a k d->c.a=.C->b9 a.a e c d->e+i<=100000->
 cy λf g h l=>jh m n o b c d f g h/\kW f/\cQ a.a l h/\b9 a.a (e+i) g h/\Hk a p q j k c f l g
abbrev lW:=V×U
def ks:R lW->U
 |[]=>0
 |a::b=>a.2+ks b
def qZ(d:de)(e f g:U):U->R lW->U->U->U->Prop
 |_,[],_,b,c=>b=c
 |h,i::l,j,b,c=>bE λa k=>ft d e i.1 i.2 f j b a (a+2)/\aW d.b a [bZ "push"<|.A h,bZ "jump"<|.A g]/\qZ d e f g (h+1) l k (a+2) c/\b<=a/\a+2<=c/\j<=k
section
variable{a g:be}{e c:R V}{b f:U}{i:V}{d:de}{h:R lW}
def J6(g:1<=k)(b:a.a≠.C):∀(h:R V)(f:U),(∀i∈h,bE λc d=>i=.F (c::d))->oU k l f h a j ab a j:=by
 intro m
 induction m with
 |nil=>
  exact @λr r=>aL Z Z Z
 |cons i h n=>
  exact @λf e=>by refine bE.A (e i bP) λc d o=>?_;subst o;exact .inr ⟨a,j,am ((Cv b).A g)<|n (f+1) λp q=>e p<|cx _ q⟩
def Ja(o_:1<=m)(p_:∃G,d.a[b]?=Y G/\cf G=Q)(q_:bA j)(r_:ca j)(g_:e.length<=900)(h:R lW):∀{f H p:U}{c:R V}{a:be}{q:R<|an×V}{n:U},qZ d m b l f h H p k->(∀i∈h,bE λs_ t_=>i.1=V.F (s_::t_))->b<H->k<=l->cQ d.a c q->c[b]?=Y j->a.a=.C->b9 d.a n a q->n+ks h<=100000->
 cy λv g y r=>oU m j f (h.map (·.1)) a q v g y/\cQ d.a r y/\r[b]?=Y j/\b9 d.a (n+ks h) g y/\
  ((g.a=.C/\bE λn z=>v=Y z/\z<f+h.length/\b5 d.A n ⟨e,c,p,a⟩ ⟨e++[.A z],r,l,g⟩/\p+n<=l)\/(g.a=.C/\v=ab/\∃n,b5 d.A n ⟨e,c,p,a⟩ ⟨e,r,k,g⟩/\p+n<=k)\/(g.a≠.C/\v=ab/\g0 d p k e c a r g)):=by
 induction h with
 |nil=>
  intro f H p c a q n I _ _ _ K J L a_ _;exact⟨ab,a,q,c,bB (aL Z Z Z) K J a_<|.inr<|.inl<|aL L Z ⟨0,by rw[show p=k from I];rfl,fI I⟩⟩
 |cons i h u_=>
  intro f H p c a q n I h_ i_ j_ K J L a_ v_;obtain⟨E_,F_,s⟩:=I;haveI k_:n+(i.2+ks h)<=100000:=v_;obtain⟨w_,t,A,B,o⟩:=s.1 j e c a q n q_ r_ (wF g_) K J L a_<|EZ k_;have b_:B[b]?=Y j:=by refine a8 p_ λG l_=>?_;rw[o.2.2.1 b G i_ l_.1 l_.2];exact J
  have m_:b9 d.a (n+(i.2+ks h)) t A:=o.2.2.2.1.A<|wB;rcases o.2.2.2.2 with⟨u,c_,w,x⟩|⟨u,rfl,y_⟩
  .cases w_
   .rw[ao dy]at w x;obtain⟨v,g,y,r,C⟩:=u_ s.2.2.1 (λn_ d_=>h_ n_<|cx _ d_) (eA i_ s.2.2.2.2.2) j_ o.2.1 b_ u o.2.2.2.1<|E0 k_;refine⟨v,g,y,r,bB (.inr ⟨t,A,am o.1 C.1⟩) C.2.1 C.2.2.1 ((hn n i.2 _)▸C.2.2.2.1) ?_⟩;rcases C.2.2.2.2 with⟨D,e_,z,E,F,f_,z_⟩|⟨D,E,e_,F,f_⟩|⟨D,E,F⟩
    .exact .inl<|am D ⟨c_+e_,z,E,by rw[dd];exact(aj Z:N [_,_,_] (.B X<|S+(O+1)) [.B X<|S+1+O]) F,w.B f_,by exact D3 z_ x⟩
    .exact .inr<|.inl<|aL D E ⟨c_+e_,w.B F,by exact D3 f_ x⟩
    .exact .inr<|.inr<|aL D E<|.B w x F
   .rw[au Z]at w x;haveI A_:=gx (e:=.A f) (b:=B) (f:=t) (.inl Z)<|hl g_;have B_:=mC (d:=.A l) (a:=e++[.A f]) (b:=B) (e:=t);exact⟨Y f,t,A,B,bB (.inl<|am Z o.1) o.2.1 b_ m_<|.inl<|am u ⟨c_+(1+1),f,Z,by rw[dd];exact(aj Z:N [_,_] (.B X<|X+(S+1)) []),w.B<|.A (s.2.1 0 _ Z) (by decide) A_ u<|.C (s.2.1 1 _ Z) (by decide) B_ (.inr Z) u,by exact(aj Z:N [_,_,_,_,_] (.A (X+(S+(1+1))) O) [.A (ag+2) aB,.A (X+S) ag,.A aB O]) s.2.2.2.2.1 x j_⟩⟩
  .exact⟨ab,t,A,B,bB (.inr ⟨t,A,am o.1 (J6 o_ u _ _ λn_ d_=>by obtain⟨C_,D_,rfl⟩:=d4.1 d_;exact h_ C_<|cx _ D_)⟩) o.2.1 b_ m_<|.inr<|.inr<|aL u Z<|y_.A<|(aj Z:N [_,_] (.A X S) [.A (X+2) S]) s.2.2.2.2.1⟩
def uS(i:aW d.b l [b' "getl" k,b' "setl" b])(p:d.a[k]?=Y (.A "it"))(q:∃f,d.a[b]?=Y f/\cf f=Q)(r:e.length<=900)(g:cQ d.a c m)(s:bn (.A "it") m=Y j)(n:a.a=.C):
 b5 d.A 2 ⟨e,c,l,a⟩ ⟨e,c.set b j,l+2,a⟩/\cQ d.a (c.set b j) m/\(c.set b j)[b]?=Y j:=by
 refine a8 q λf h=>?_;haveI o:=g.A h.1;haveI t:c[k]?=Y j:=(g.2 k _ p Z).trans (by unfold dU;rw[s];rfl);exact aL (.A (i 0 _ Z) (ae Z) (fc t<|hl r) n<|.C (i 1 _ Z) (ae Z) (iJ o) (.inl<|am Z Z) n) (g.B h.1 h.2)<|kg o
def wq(b:f<=40):kW<|.A f:=aL Z (by show(f:ah).natAbs+2<=50;exact W3 b) Z
def ql:kW .C:=aL Z (aX Z) Z
def T5:kW<|.G j:=aL Z (ec Z) Z
def BI(f:aW d.b j [b' "getl" b,dS "nomatch"])(g:c[b]?=Y k)(h:e.length<=900)(i:a.a=.C):g0 d j (j+2) e c a c a.D:=
 ⟨1,j+1,e++[k],c,a,"nomatch",.C,.C,.C,[],ej (aY _) (eV _) (.C (f 0 _ Z) (ae Z) (fc g<|hl h) (.inl<|am Z Z) i) (f 1 _ Z) (ae Z) (by rw[hP];exact PG)<|aX Z⟩
def b9.F(b:b9 d.a j a k):b9 d.a j a.D k:=⟨b.a,b.e,b.f,b.b,b.c,b.d,(aL Z (show cA (aa "nothing")<=500 by decide)<|show cT (aa "nothing")<=5 by decide)⟩
end
section
variable{c:be}{b:V}{a:de}{d:R lW}
def z7:c.D.a≠.C:=λa=>by cases a
def pB(a:e≠.C):bH e=false:=by cases e<;>first|rfl|exact a2 Z a
def Rx(H:1<=j)(p:g=0/\aW a.b f [b' "getl" e,dS "nomatch"]/\h=f+2\/g=1/\aW a.b f [bZ "push"<|.A (9:U)]/\h=f+1)(I:aW a.b i [b' "getl" k,b' "setl" e])(J:a.a[k]?=Y (.A "it"))(D:∃C,a.a[e]?=Y C/\cf C=Q)
 (K:qZ a j e h 0 d l (i+2) f)(b_:∀b∈d,bE λL a_=>b.1=V.F (L::a_))(c_:e<l)(d_:d.length<=9)(e_:i+2<=f):gl a (j+1) g (d.map (·.1)) (ks d) i h:=by
 intro n_ o_ p_ c q_ r_ f_ g_ h_ s i_ E j_ F;clear e_;refine gS (uS I J D s i_ h_ E) λy k_ l_=>?_;refine cy.A (Ja H D f_ g_ s d K b_ c_ (by rcases p with⟨_,_,e⟩|⟨_,_,e⟩<;>omega) k_ l_ E j_ F) λs_ n t u q=>?_;have v:=q.2.1;have w:=q.2.2.2.1;have o:=T8 (p.imp (·.1) (·.1)) q.1;clear F;rcases q.2.2.2.2 with⟨m,z,t_,rfl,r,x,m_⟩|⟨m,rfl,z,r,x⟩|⟨m,rfl,r⟩
 .exact⟨_,_,t,u,bB o (wq<|(aj Z:N [_,_] (.A X 40) [.B X<|0+S,.A S 9]) r d_) v w<|.inl<|am m ⟨2+z,y.B x,by exact D4 m_⟩⟩
 .haveI G:=y.B r;rcases p with⟨rfl,A,rfl⟩|⟨rfl,A,rfl⟩
  .haveI B:mf 0 ab n=n.D:=by show(if bH n.a then _ else _)=_;rw[m];rfl
   rw[B]at o;exact⟨_,_,t,u,bB o ql v w.F<|.inr<|am z7<|.B G (D4 x)<|BI A q.2.2.1 s m⟩
  .exact⟨_,_,t,u,bB o (wq<|aX Z) v w<|.inl<|am m ⟨2+z+1,G.B<|.C (A 0 _ Z) (ae Z) (gx (.inl Z)<|hl s) (.inl<|am Z Z) m,by exact(aj Z:N [_,_,_] (.A (X+(2+S+1))<|O+1) [.A (X+2+S) O]) x⟩⟩
 .have B:mf g ab n=n:=by
   show(if(g==0)&&bH n.a then _ else _)=_;rw[pB m,XQ];rfl
  rw[B]at o;exact⟨_,_,t,u,bB o (by rcases p with⟨rfl,_⟩|⟨rfl,_⟩<;>first|exact ql|exact wq<|aX Z) v w<|.inr<|am m<|.B y (aY _)<|r.A (by rcases p with⟨_,_,rfl⟩|⟨_,_,rfl⟩<;>omega)⟩
def RC(u:aW a.b f [b' "getl" h,b' "setl" g])(v:a.a[h]?=Y (.A "it"))(w:∃s,a.a[g]?=Y s/\cf s=Q)(x:ft a i b j g k (f+2) e<|e+2)(r:aW a.b e [bZ "push"<|.G Q,bZ "jump"<|.A (e+3:U),bZ "push"<|.G M])(a_:f+2<=e):
 gl a (i+1) 2 [b] j f (e+3):=by
 intro y z b_ c A B C D E l F t G H;have m:=uS u v w l F E t;refine cy.A (x y z _ c A B C D (wF l) m.2.1 m.2.2 t G H) λI J K L n=>?_;refine⟨_,J,K,L,bB (DP n.1) T5 n.2.1 n.2.2.2.1 ?_⟩;rcases n.2.2.2.2 with⟨d,c_,o,p⟩|⟨d,rfl,o⟩
 .refine .inl<|am d ?_;haveI q:=m.1.B o;clear o;cases I
  .rw[ao dy]at p q;exact ax _ (q.B<|.C (r 2 _ Z) (ae Z) (gx (.inl Z)<|hl l) (.inl<|am Z Z) d)<|by exact(aj Z:N [_,_,_] (.A (X+(2+S+1))<|O+3) [.A (X+2+S)<|O+2]) p
  .rw[au Z]at p q;exact ax _ (q.B<|.A (r 0 _ Z) (ae Z) (gx (.inl Z)<|hl l) d<|.C (r 1 _ Z) (ae Z) mC (.inr Z) d)<|by exact(aj Z:N [_,_,_] (.A (X+(2+S+(1+1)))<|O+3) [.A (X+2+S) O]) p
 .exact .inr<|am d<|.B m.1 (aY _)<|o.A<|E6
def RD(B:aW a.b g [b' "getl" h,b' "setl" e])(C:a.a[h]?=Y (.A "it"))(x:∃p,a.a[e]?=Y p/\cf p=Q)(D:ft a i b j e k (g+2) f<|f+1)(E:e<k)(v:aW a.b f [bZ "jump"<|.A (f+3:U),b' "getl" e,dS "nomatch",bZ "push" .C])(e_:g+2<=f):
 gl a (i+1) 3 [b] j g (f+4):=by
 intro y F f_ c G H I J K q L z a_ b_;have n:=uS B C x q L K z;refine cy.A (D y F _ c G H I J (wF q) n.2.1 n.2.2 z a_ b_) λc_ m w r d=>?_;haveI d_:r[e]?=Y y:=by refine a8 x λp A=>?_;rw[d.2.2.1 e p E A.1 A.2];exact n.2.2
 have o:=T9 d.1;rcases d.2.2.2.2 with⟨l,g_,s,t⟩|⟨l,rfl,s⟩
 .haveI u:=n.1.B s;clear s;cases c_
  .rw[ao dy]at t u;rw[show nK M m=m.D by show(if bH m.a then _ else _)=_;rw[l];rfl]at o;exact⟨_,_,w,r,bB o ql d.2.1 d.2.2.2.1.F<|.inr<|am z7<|.B u ((aj Z:N [_,_,_] (.A (X+(2+S))<|O+1) [.A (X+2+S)<|O+1]) t)<|(BI (aW.F v.E) d_ q l).A<|(aj Z:N [_] (.A (X+1+2)<|X+4) [])⟩
  .rw[au Z]at t u;exact⟨_,_,w,r,bB o ql d.2.1 d.2.2.2.1<|.inl<|am l ⟨_,u.B<|.D (v 0 _ Z) (ae Z) mC l<|.C (v 3 _ Z) (ae Z) (gx (.inl Z)<|hl q) (.inl<|am Z Z) l,by exact(aj Z:N [_,_,_] (.A (X+(2+S+(1+1)))<|O+4) [.A (X+2+S) O]) t⟩⟩
 .rw[show nK M m=m by show(if bH m.a then _ else _)=_;rw[pB l];rfl]at o;exact⟨_,_,w,r,bB o ql d.2.1 d.2.2.2.1<|.inr<|am l<|.B n.1 (aY _)<|s.A<|(aj Z:N [_] (.A X<|X+4) [])⟩
end
abbrev e1:V:=aH "lvar" [aa "it"]
section
variable{a:ci}{b:aA}
def BO:gI<|.A "it":=⟨Z,"i",λa=>Z,ae Z,.inr<|ae Z⟩
def vE(v:b 0=Y (.B c))(w:aG c k g a l i e<|m+4)(x:∀g,ai (al<|j+8) n (((b.A f<|.B<|c+1).A h<|.A a.a).A d<|.A e) g=Y (e1,g))(y:(((b.A f<|.B<|c+1).A h<|.A a.a).A d<|.A e) 0=Y (.B c))(z:(((b.A f<|.B<|c+1).A h<|.A a.a).A d<|.A e) f=Y (.B<|c+1))
 (A:∀t u q r,e+1<=q->aG c k t u l (i+2) q m->bu g a t u (λs=>s.a.a[e]?=Y (.B e)/\s.a.a[r]?=Y (.A "it")/\aW s.a.b i [b' "getl" r,b' "setl" e])->ak (aw (al<|j+8) o (((b.A f<|.B<|c+1).A h<|.A a.a).A d<|.A e)<|ap c t u) p):
 ak (aw (al<|j+8) (.A (.B (.B [f,h,d])<|.I<|.A (.D (.A 0) "maker")<|.A (.D (.D (.A 0) "maker") "height")<|.A (.E (.A 0) "hidden" .B) .B)<|.A (.A<|.E (.A 0) "node"<|.A n .B)<|.A (.A<|.E (.A f) "put"<|.A (.J "setl")<|.A (.B 0)<|.A (.A d) .B) o) b<|ap c g a) p:=by
 refine Jk v w λK B C=>dj<|eE y (a0 (x _) aQ) Z Z<|.D<|BM B BO λr L a_ q D E F=>?_;exact eT (λx_ x_=>ac z) E (cX (a0 Z<|a0 Z<|a0 (ac<|au Z) aQ) Z Z) λG H I J=>A G H q r D I<|((C.B F).B J).A λs d=>aL d.1.1 d.1.2.2<|aW.A d.1.2.1<|aW.A d.2 aW.B
def zJ(g_:ef l g h m i n)(h_:aG c o e a p d j<|k+4+n+4)(C:∀w x B t,d+3<=t->j<=B->aG c o w x p (oS f t<|t+1) B k->bu e a w x (λs=>gl s.a (g+1) 2 [h] i d t/\(f=M->aW s.a.b t [dS "pop"]))->q .C (ap c w x)):aV (aR (r+l+12) .A [.B c,aH "matchp" [e1,m],.G f]<|ap c e a) q:=by
 refine km Z Z Z<|aV.A Z (let b:=bV _ _;let D:=hH _;(?_:ak (aw _ _ b _) D));refine vE Z h_ (λx_=>Z) Z Z λE_ F_ G_ H_ E i_ j_=>pe (λx_ x_=>Z) i_ λI_ J_ K_ k_ l_=>(let b:=_;(?_:ak (aw _ _ b _) D));refine dD (g_.a k_ (.tail _<|.head _) E λL_ a__ F y G m_ n_ o_=>?_) Z;refine fC (i:=k+2) (λx_ x_=>Z) n_ (.bY (λx_=>gD Z Z Z)<|.bY (λx_=>gE Z Z Z<|.head _) .A) Z λb__ c__ p_ q_=>?_;refine gC (p:=[_]) (λx_ x_=>Z) Z p_ λd__ r_ s_=>jE Z (ac Z) r_ λe__ x_ t_ u_=>?_;refine eT (λx_ x_=>Z) t_ (gD Z Z Z) λf__ H v_ w_=>gC (p:=[]) (λx_ x_=>Z) Z v_ λI J y_=>?_;have d_:bu e a I H λs=>gl s.a (g+1) 2 [h] i d<|F+3:=λs z_=>by haveI K:=y_ s z_;haveI L:=w_ s K.1;haveI z:=s_ s (u_ s L.1).1;have a_:=q_ s z.1;haveI b_:=o_ s a_.1;haveI u:=j_ s (l_ s b_.1).1;haveI c_:=b_.2 (.A u.2.1) (by rw[z.2];exact cU _ 2);haveI A:=a_.2;simp only[FM,oh,CG,CI,CJ]at A;rw[z.2]at c_;rw[K.2]at A;exact am u.1<|RC u.2.2.2 u.2.2.1 (fS.A u.2.1) c_ (aW.C A<|aW.A L.2 aW.B) G
 have e_:d+3<=F+3:=xd (FV G) 3;have f_:j<=y:=br (iX E) m_;cases f;.exact bg (sl Z)<|eT (λx_ x_=>Z) J (hk Z Z Z) λA_ B_ C_ D_=>aU<|aU<|C A_ B_ y _ e_ f_ C_<|(d_.B D_).A λs v=>am v.1 λx_=>aW.A v.2 aW.B
 .exact as (vv Z)<|aU<|C I H y _ e_ f_ (J.B<|eU _)<|d_.A λs v=>am v e4
def KX(I:ef g h i j k l)(J:aG c m d a n e o<|f+4+l+4)(K:∀t u z v,e+4<=v->o<=z->aG c m t u n v z f->bu d a t u (λr=>gl r.a (h+1) 3 [i] k e v)->p .C (ap c t u)):aV (aR (q+g+12) .A [.B c,aH "matchq" [e1,j],.G Q]<|ap c d a) p:=by refine km Z Z Z<|aV.A Z (let b:=bV _ _;let A:=hH _;(?_:ak (aw _ _ b _) A));refine vE Z J (λx_=>Z) Z Z λw_ y_ z_ A_ w L a_=>pe (λx_ x_=>Z) L λB_ C_ D_ b_ c_=>(let b:=_;(?_:ak (aw _ _ b _) A));refine dD (I.a b_ (.tail _<|.head _) w λE_ F_ G_ d_ B e_ f_ g_=>?_) Z;refine eT (λx_ x_=>Z) f_ (gE Z Z Z<|.head _) λH_ I_ h_ i_=>gC (p:=[_]) (λx_ x_=>Z) Z h_ λJ_ j_ k_=>?_;refine fC (i:=f+1) (λx_ x_=>Z) j_ (.bY (λx_=>cX Z Z Z)<|.bY (λx_=>hk Z Z Z) .A) Z λK_ L_ l_ m_=>gC (p:=[]) (λx_ x_=>Z) Z l_ λa__ n_ o_=>jE Z (ac Z) n_ λb__ x_ p_ q_=>?_;refine bg Z<|eT (λx_ x_=>Z) p_ (gD Z Z Z) λr_ s_ t_ u_=>aU<|aU<|K r_ s_ d_ _ (xd (FV B) 4) (br (iX w) e_) t_ λr v_=>?_;haveI C:=u_ r v_;haveI D:=o_ r (q_ r C.1).1;haveI E:=m_ r D.1;have x:=k_ r E.1;haveI F:=i_ r x.1;haveI G:=g_ r F.1;haveI s:=a_ r (c_ r G.1).1;haveI H:=G.2 (.A s.2.1) (by rw[x.2];exact eU _);haveI y:=F.2;simp only[oh]at y;rw[x.2]at H;rw[D.2]at y;exact am s.1<|RD s.2.2.2 s.2.2.1 (fS.A s.2.1) H (FZ w) (aW.A y<|aW.C E.2<|aW.A C.2 aW.B) B
end
def jj:U->R bU->R V
 |_,[]=>[]
 |a,b::c=>.F [b.b,.C,aH "int" [.A a]]::jj (a+1) c
abbrev rm(b:R bU):R lW:=b.map λa=>(a.a,a.d)
abbrev I':cu:=.A (.B (.A 13)<|.E (.A 6) "label" .B)
 (.A (.A<|.G .H<|.A (.A 0)<|.A (.A 10)<|.A (.A 8)<|.A (.A 13) .B)
 (.A (.C (.C .IsNot (.A 11) .H) (.A .F .B) .B)
 (.A (.A<|.G .L_<|.A (.A 0)<|.A (.A 12)<|.A (.A 2) .B)
 (.A (.A<|.E (.A 6) "put"<|.A (.J "jump")<|.A (.A 9) .B)
 (.A (.A<|.E (.A 6) "place"<|.A (.A 13) .B)
 (.A (.E (.A 6) "height"<|.A 7)
 .B))))))
section
variable{c:U}{r i_:f6}{d h f_:af}{g e h_:ci}{v:R V×R V}{a i p k n t z q o m l s:U}{d_ a_ g_ x:V}{f:aA}{j:bk}{u:f7}{w:V->af->Prop}{c_ y:R V}{e_:ah}{b_:aC}{b:R bU}
def ws(z:aV (aR n .A [.B c,aH b_ y,a_]<|ap c d g) λa d=>w .C d):aV (aR (n+1) .L_ [.B c,aH b_ y,a_]<|ap c d g) w:=
 aV.A Z (bg Z<|dj<|eE Z Z Z Z<|ak.A z λa m=>aU<|aU m)
def Jb(j_:(s,b7 .C)∈r)(b:R bU):∀{k:U}{d:af}{g:ci}{f:aA}{a i:U},t<i->f 0=Y (.B c)->f 2=Y (.G Q)->f 6=Y (.B<|c+1)->f 7=Y (.A e_)->f 8=Y (.A t)->f 9=Y (.B s)->(∀l∈b,ef q o l.a l.b l.d l.c)->aG c r d g v a i (p+cr b)->
 (∀h e w y z,a<=w->i<=y->aG c r h e v w y p->bu d g h e (λj=>fS j.a t->qZ j.a o t (j.b s) k (rm b) i a w)->u (.A,f.B 10 z,ap c h e))->
 ak (dx (λf d=>aw (al<|n+q+10) I' f d) (.B [10,11,12]) (jj k b) f<|ap c d g) u:=by
 induction b with
 |nil=>intro k d g f a i _ _ _ _ _ _ _ _ l A;exact ax _ Z<|iD (b:=f)▸A d g a i f (aY _) (aY _) l λj B=>am B λx_=>Z
 |cons C b k_=>
  intro k d g f a i G D H x I J K L l A;refine eS Z (let l_:=_;(?_:ak _ l_));refine ui (λx_ x_=>ac x) l λf_ m_ n_ o_=>?_;refine dD ((L C bP).a (n:=p+cr b+3) (n_.B<|by show _<=p+(C.c+4+cr b);exact(aj Z:N [_,_,_] (.A (X+S+3+O)<|X+(O+4+S)) [])) (.head _) G λH_ I_ p_ J_ a_ q_ r_ s_=>as Z ?_)<|a0 (ac D)<|a0 (ac Z)<|a0 (ac J)<|a0 (ac Z) aQ;refine dD (ws<|si r_ (λK_ L_ t_ u_ v_ w_=>?_) Z)<|a0 (ac D)<|a0 (ac Z)<|a0 (ac H) aQ;refine eT (λx_ x_=>ac x) v_ (gE (a0 Z<|a0 (ac K) aQ) Z Z<|.tail _ j_) λa__ b__ y_ z_=>gC (p:=[]) (λx_ x_=>ac x) Z y_ λc__ A_ B_=>jE x (ac I) A_ λd__ x_ C_ D_=>aU<|am Z ?_;haveI E:=br q_ u_;refine k_ (f:=(((f.A 10 C.b).A 11 .C).A 12<|aH "int" [.A k]).A 13<|.B m_) (eA G E) D H x I J K (λk i=>L k<|.tail _ i) (C_.B<|eU _) λh e w y z b_ E_ F_ G_=>?_;rw[g8<|aX Z,g8<|aX Z,g8<|aX Z,g8<|aX Z];refine A h e w y z (br a_<|br (cU _ 2) b_) (br E E_) F_ λj B=>?_;haveI m:=G_ j B;have F:=B_ j (D_ j m.1).1;haveI c_:=z_ j F.1;haveI d_:=w_ j c_.1;haveI g_:=s_ j d_.1;refine am ((o_ j g_.1).1) λh_=>⟨p_,t_,gv ?_ (aW.A d_.2<|aW.A c_.2 aW.B) (m.2 h_) a_ b_ E⟩;haveI i_:=g_.2 h_ (by rw[F.2];exact cU _ 2);rw[F.2]at i_;exact i_
def KQ(m_:1<=o)(n_:l=0/\x=.C\/l=1/\x=aH "int" [.A (9:U)])(o_:∀t∈b,ef q o t.a t.b t.d t.c)(p_:∀t:bU,t∈b->bE λd_ c_=>t.a=.F (d_::c_))(q_:b.length<=9)(t:aG c r d g v a i<|p+2+cr b+4)
 (H:∀h e G j,a+3<=j->i<=G->aG c r h e v j G p->bu d g h e (λk=>gl k.a (o+1) l (b.map λt:bU=>t.a) (ks<|rm b) a j)->w .C (ap c h e)):aV (aR (n+q+12) .A [.B c,aH "casein" [e1,.D<|jj 0 b,x],.G Q]<|ap c d g) w:=by
 refine km Z Z Z<|aV.A Z (let f:=bV _ _;let u:=hH _;(?_:ak (aw _ _ f _) u));refine eL Z Z ?_;refine vE Z t (λx_=>Z) Z Z λf_ h_ a__ b__ C r_ s_=>ui (λx_ x_=>Z) r_ λc__ s t_ u_=>(let f:=_;(?_:ak (aw _ _ f _) u));refine ey (fU<|ac Z)<|Jb (.head _) b C Z Z Z Z Z Z o_ t_ λv_ w_ y y_ d__ I z_ J A_=>?_;haveI K:a+3<=y+1:=jM I;have L:=br (iX C) z_;haveI k_:∀{h e D j},(l=0/\j=y+2\/l=1/\j=y+1)->bu v_ w_ h e (λk=>l=0/\aW k.a.b y [b' "getl" i,dS "nomatch"]/\j=y+2\/l=1/\aW k.a.b y [bZ "push"<|.A (9:U)]/\j=y+1)->bu h e D e (λk=>k.b s=j)->bu d g D e (λk=>gl k.a (o+1) l (b.map λt:bU=>t.a) (ks<|rm b) a j):=λ{h e D j} _ z A k B_=>by
  haveI a_:=A k B_;haveI b_:=z k a_.1;haveI e_:=A_ k b_.1;haveI B:=s_ k (u_ k e_.1).1;haveI i_:=e_.2<|.A B.2.1;rw[a_.2]at i_;refine am B.1 ?_;haveI j_:=Rx m_ b_.2 B.2.2.2 B.2.2.1 (fS.A B.2.1) i_ (λg_ C_=>by obtain⟨t,D_,rfl⟩:=d4.1 C_;exact p_ t D_) (FZ C) (by rw[bC];exact q_) I
  rw[hm]at j_;exact j_
 rcases n_ with⟨rfl,rfl⟩|⟨rfl,rfl⟩;.refine iP Z<|fC (λx_ x_=>Z) J (.bY (λx_=>cX Z Z Z)<|.bY (λx_=>hk Z Z Z) .A) Z λE_ l_ E z=>jE Z (bL (ac Z) (cS (ac Z) Z) Z) E λF_ x_ F A=>aU<|gC (u:=n+q+9) (p:=[]) (λx_ x_=>Z) Z F λG_ H_ I_=>aU<|H G_ F_ y_ _ (m8 K) L H_<|k_ (.inl<|am Z Z) ((z.B A).A λk m=>.inl<|aL Z m.1 Z) I_
 .refine bg Z<|dj<|eE Z Z Z Z<|si (J.B<|eU _) (λE_ l_ J_ K_ E z=>aU<|gC (p:=[]) (λx_ x_=>Z) Z E λL_ F A=>aU<|H L_ l_ J_ _ K (br L K_) F<|k_ (.inr<|am Z Z) (z.A λk m=>.inr<|aL Z (aW.A m aW.B) Z) A) Z
end
abbrev d3(a:ah)(b:V)(c:U)(d:R<|aC×V):R<|aC×V:=("height",.A a)::("first",b)::("pieces",.B c)::d
def nm(a:cO):Prop:=a=.I\/a=.J\/a=.D
def af.D(a:af)(b:cO)(c:ah)(d:R<|aC×V):af:=(a.B<|.C b<|d3 c .C (a.a+1) d).B<|.A []
section
variable{e:U}{f_ p o:f6}{m a u h_:af}{d:ci}{b_:R V×R V}{j k s t y g l z x:U}{q f a_:V}{v:bR}{n:aA}{i:bk}{c_:bQ}{j_:cu}{i_:f7}{g_:V->af->Prop}{w r e_:R V}{c:ah}{b:cO}{h:R<|aC×V}{d_:aC}
def vH:(m.D b c h).b m.a=.C b (d3 c .C (m.a+1) h):=(ao<|ed<|eV _).trans iM
def vK:(m.D b c h).A m.a (.C b<|d3 c .C (m.a+1) A)=m.D b c A:=by
 refine fT Z λa=>?_;show(if a=m.a then _ else if a=m.a+1 then _ else if a=m.a then _ else m.b a)=if a=m.a+1 then _ else if a=m.a then _ else m.b a
 by_cases i:a=m.a;.rw[au i,ao<|D8 i,au i]
 .rw[ao i];by_cases d:a=m.a+1
  .rw[au d,au d]
  .rw[ao d,ao d,ao i,ao i]
def vJ(e:nm b):aR (y+1) .af_ [.B m.a,.A c] (m.B<|.C b [])=Y (.C,m.D b c []):=by
 haveI d:a6 ((eF b).contains "height"=Q)<|(eF b).contains "first"=Q/\(eF b).contains "pieces"=Q:=by rcases e with rfl|rfl|rfl<;>exact aL Z Z Z
 refine bi Z<|em Z Z Z d.1<|em Z Z Z d.2.1<|v9 Z (ac Z) ((ao<|ed<|eV _).trans iM) Z d.2.2<|aU ?_;refine aF (λb_=>(V.C,b_))<|fT Z λa=>?_;show(if a=m.a then _ else if a=m.a+1 then _ else if a=m.a then _ else m.b a)=if a=m.a+1 then _ else if a=m.a then _ else m.b a
 by_cases i:a=m.a;.rw[au i,ao<|D8 i,au i];rfl
 .rw[ao i,ao i,ao i]
def pP(c:bK v c_ n a=Y (A,h_))(d:iG b=Y B)(e:mq b=M)(f:v.a B (.B h_.a::A) (h_.B<|.C b [])=Y (.C,u)):ai v (.c b c_) n a=Y (.B h_.a,u):=by show(bK v c_ n a).bind _=_;rw[c];unfold sg;rw[d];show(v.a B (.B h_.a::A)<|h_.B<|.C b []).bind _=_;rw[f];rw[e];rfl
def zu(c:bK v c_ n a=Y (A,a))(d:iG b=Y B)(e:v.a B A a=Y C):ai v (.v b c_) n a=Y C:=by show(bK v c_ n a).bind _=_;rw[c];rw[d];exact e
def Lo:aR (y+2) .aj_ [.B m.a,.A c,q] (m.B<|.C .J [])=Y (.C,m.D .J c [("node",q)]):=
 bi Z (v6 (zu Z Z<|vJ<|.inr<|.inl Z)<|jF Z (ac Z) vH Z Z<|aU<|aF (λb_=>(V.C,b_)) vK)
def N9:aR (y+2) .al_ [.B m.a,.A c,q,f] (m.B<|.C .D [])=Y (.C,m.D .D c [("kept",q),("again",f)]):=by refine bi Z<|v6 (zu Z Z<|vJ<|.inr<|.inr Z)<|jF Z (ac Z) vH Z Z ?_;haveI a:(m.D .D c []).A m.a (.C .D<|h' "kept" q<|d3 c .C (m.a+1) [])=m.D .D c [("kept",q)]:=vK;haveI b:(m.D .D c [("kept",q)]).A m.a (.C .D<|h' "again" f<|d3 c .C (m.a+1) [("kept",q)])=m.D .D c [("kept",q),("again",f)]:=vK;rw[a];exact jF Z (ac Z) vH Z Z<|aU<|aF (λb_=>(V.C,b_)) b
def z1(f:aG e f_ a d b_ k s t)(l:ai v i n (ap e a d)=Y (.B a.a,(ap e a d).D b c h))(m:∀u j g,aG e ((g,.A [])::(j,.C b<|d3 c .C g h)::f_) u d b_ k s t->bu a d u d (λo=>eN)->g_ (.B j) (ap e u d)):aV (ai v i n<|ap e a d) g_:=by refine aV.B l ?_;rw[show(ap e a d).D b c h=ap e (a.D b c h) d by unfold af.D;rw[lv f.a,lv<|m8 f.a];rfl];exact m (a.D b c h) a.a (a.a+1) ((f.D _).D _)<|(bu.C.B bu.C).A λo o=>ds
def aG.D_(f:aG e f_ a d (w,r) k s t):aG e f_ a {d with d:=e_} (w,e_) k s t:=⟨f.a,f.g,f.b,f.f,(am f.d.1 Z),f.e,f.c,f.k,f.i,f.j,f.h⟩
def bu.E:bu a d a {d with d:=e_} λf=>True:=λf b=>am ⟨b.c,b.d,b.e,b.b,b.a⟩ ds
def bu.G:bu a d a {d with e:=e_} λf=>True:=λf b=>am ⟨b.c,b.d,b.e,b.b,b.a⟩ ds
def rT(a:nm b)(q:V):cn.C b A≠b7 q:=λi=>by cases i;refine n9 a (λc=>?_) (λc=>?_) λc=>?_<;>cases c
def aG.A_(f:aG e (p++(j,.C b k_)::o) a d b_ k s t)(g:nm b)(h:cn):aG e (p++(j,h)::o) (a.A j h) d b_ k s t/\bu a d (a.A j h) d λm=>True:=
 ⟨f.J λc=>c.2.2.elim (λi=>a2 (f.A.2.2.symm.trans i)<|rT g _) λl=>l.elim λm i=>a2 (f.A.2.2.symm.trans i)<|rT g _,bu.D λl i=>rT g _<|f.A.2.2.symm.trans i⟩
def aG.B_(f:aG e (p++(j,.A e_)::o) a d b_ k s t)(b:cn):aG e (p++(j,b)::o) (a.A j b) d b_ k s t/\bu a d (a.A j b) d λh=>True:=
 ⟨f.J (λc=>c.2.2.elim (λi=>nomatch f.A.2.2.symm.trans i) λg=>g.elim λh i=>nomatch f.A.2.2.symm.trans i),bu.D λg i=>nomatch f.A.2.2.symm.trans i⟩
def uH(i:nm b)(n:d1 "open" h=ab)(q:h.length<=5)(v:r.length<1000)(f:aG e (p++(j,.C b<|d3 c a_ g h)::o) a d (w,r) k s t)(x:∀u,aG e (p++(j,.C b<|d3 c (.A k) g h)::o) u {d with d:=r++[.B j]} (w,r++[.B j]) k s t->bu a d u {d with d:=r++[.B j]} (λz=>eN)->g_ .C (ap e u {d with d:=r++[.B j]})):aV (aR (y+2) .g_ [.B e,.B j]<|ap e a d) g_:=by
 haveI l:a6 (hF b "open"=Y .n_)<|(eF b).contains "first"=Q:=by rcases i with rfl|rfl|rfl<;>exact am Z Z
 haveI m:=f.A_ i<|.C b<|d3 c (.A k) g h;refine aV.A Z<|gA<|j5 (DQ Z) (ac Z) (h5 (c7<|ae Z)<|.inl Z) (c7<|ae Z) (by rw[f.d.2];exact e6 v<|ae Z) ?_;rw[CU,f.d.2];refine dj<|iz (ac Z) (av (fb Z _ _) aQ) ((gc f.A.1).trans f.A.2.2) (by rw[show d1 "open" (d3 c a_ g h)=d1 "open" h from Z,n];rfl) l.1<|aV.A Z<|jF (sB<|ac Z) (ac Z) ((gc f.A.1).trans f.A.2.2) (FT<|br (xd q 4)<|aX Z) l.2<|aU<|aU ?_;rw[p6 f.A.1,f.b];exact x _ m.1.D_<|(m.2.B .E).A λz z=>ds
def Cm(c:ai v i n a=Y (.B A,a))(b:a.b A=.A (e_++[q])):ai v (.h i .warn .B) n a=Y (q,a.A A<|.A e_):=by show(ai v i n a).bind _=_;rw[c];show(if k1 a .warn (.B A)then(bK v .B n a).bind _ else ab)=_;rw[au<|h5 b<|.inr<|.inl Z];exact JL b
def uG(x:nm b)(G:d1 "close" h=ab)(A:h.length<=5)(H:l<k)(f:aG e (p++(g,.A [])::(j,.C b<|d3 c (.A l) g h)::o) a d (w,r++[.B j]) k s t)(I:∀u,aG e (p++(g,.A [.F [.A l,.A k]])::(j,.C b<|d3 c .C g h)::o) u {d with d:=r} (w,r) k s t->bu a d u {d with d:=r} (λx_=>eN)->g_ .C (ap e u {d with d:=r})):aV (aR (y+2) .f_ [.B e]<|ap e a d) g_:=by
 have m:a6 (hF b "close"=Y .k_)<|(eF b).contains "first"=Q/\(eF b).contains "pieces"=Q:=by rcases x with rfl|rfl|rfl<;>exact aL Z Z Z
 haveI J:p++(g,cn.A [])::(j,.C b<|d3 c (.A l) g h)::o=(p++[(g,.A [])])++(j,.C b<|d3 c (.A l) g h)::o:=by rw[f2];rfl
 have i:=(show aG e ((p++[(g,.A [])])++(j,.C b<|d3 c (.A l) g h)::o) a d (w,r++[.B j]) k s t from J▸f).A;haveI D:=f.B_<|.A [.F [.A l,.A k]];haveI B:=D.1;rw[show p++(g,cn.A [.F [.A l,.A k]])::(j,.C b<|d3 c (.A l) g h)::o=(p++[(g,.A [.F [.A l,.A k]])])++(j,.C b<|d3 c (.A l) g h)::o by rw[f2];rfl]at B;have E:=B.A_ x<|.C b<|d3 c .C g h;haveI F:=E.1;rw[f2]at F;haveI K:=B.A.2.2;haveI C:∀a{v:bR}{n:aA}{z:aC}{q:V},a.b j=.C b (d3 c (.A l) g h)->(eF b).contains z=Q->d1 z (d3 c (.A l) g h)=Y q->n 0=Y (.B j)->ai v (.D (.A 0) z) n (ap e a {d with d:=r})=Y (q,ap e a {d with d:=r}):=λa v n z q L x A a_=>dw (ac a_) ((gc i.1).trans L) x A;refine aV.A Z<|j8<|.B (Cm (DQ Z)<|(c7<|ae Z).trans<|aF cn.A f.d.2) ?_;rw[CU];refine dj<|iz (ac Z) (av (fb Z _ _) aQ) ((gc i.1).trans i.2.2) (by rw[show d1 "close" (d3 c (.A l) g h)=d1 "close" h from Z,G];rfl) m.1<|aV.A Z<|gB (aK (sB<|ac Z) (C a i.2.2 m.2.1 Z Z) ?_)<|gA<|j5 (C a i.2.2 m.2.2 Z Z) (cB<|av (C a i.2.2 m.2.1 Z Z)<|av (sB<|ac Z) aQ) (h5 ((gc f.A.1).trans f.A.2.2)<|.inl Z) ((gc f.A.1).trans f.A.2.2) (ae Z)<|aU ?_;.exact aF Y<|c0<|eo.2<|show l<d.c.length from f.b.symm▸H
 rw[p6 f.A.1];refine jF Z (ac Z) ((gc i.1).trans<|f.b.symm▸K) (FT<|br (xd A 4)<|aX Z) m.2.1<|aU<|aU ?_;rw[p6 i.1];rw[f.b];exact I _ F.D_<|((D.2.B E.2).B .E).A λx_ x_=>ds
def zr:aR (y+1) .au_ [.B a.a,q,A,f,a_,B] (a.B<|.C .G [])=Y (.C,a.B<|.C .G [("sort",q),("first",A),("last",f),("target",a_),("depth",B)]):=
 bi Z (em Z Z Z Z<|em Z Z Z Z<|em Z Z Z Z<|em Z Z Z Z<|em Z Z Z Z<|aU Z)
def ut(C:nm b)(H:d1 "catch" h=ab)(I:w.length<1000)(J:l<z)(f:aG e (p++(g,.A [.F [.A l,.A z]])::(j,.C b<|d3 c a_ g h)::o) a d (w,r) k s t)(v:f' e a x)(K:ai (al<|y+3) i n (ap e a d)=Y (.B j,ap e a d))(L:bK (al<|y+3) c_ n (ap e a d)=Y ([.B<|e+1,aa d_,.B x],ap e a d))
 (b_:∀u,aG e (p++o) u {d with e:=w++[g7 d_ l z x c]} (w++[g7 d_ l z x c],r) k s t->bu a d u {d with e:=w++[g7 d_ l z x c]} (λx_=>eN)->ak (aw (al<|y+3) j_ n<|ap e u {d with e:=w++[g7 d_ l z x c]}) i_):ak (aw (al<|y+3) (.A (.A<|.E i "catch" c_) j_) n<|ap e a d) i_:=by
 have B:a6 (hF b "catch"=Y .a_)<|(eF b).contains "height"=Q/\(eF b).contains "pieces"=Q:=by rcases C with rfl|rfl|rfl<;>exact aL Z Z Z
 haveI D:=f.B_ .B;haveI E:=D.1.C nofun;haveI A:=E.A;have F:a.b j=.C b (d3 c a_ g h):=by
  haveI e_:p++(g,cn.A [.F [.A l,.A z]])::(j,.C b<|d3 c a_ g h)::o=(p++[(g,.A [.F [.A l,.A z]])])++(j,.C b<|d3 c a_ g h)::o:=by rw[f2];rfl
  exact(show aG e ((p++[(g,.A [.F [.A l,.A z]])])++(j,.C b<|d3 c a_ g h)::o) a d (w,r) k s t from e_▸f).A.2.2
 haveI f_:=(E.C λi=>rT C _ i).D .B;have m:=f_.C (p:=[]) nofun;have g_:f' e ((a.A g .B).B .B) x:=by
  haveI i:x≠g:=λi=>by rw[i]at v;rcases v.2.2 with G|⟨_,G⟩<;>exact nomatch f.A.2.2.symm.trans G
  exact f'.A v (eU _)<|(lu (a:=a.A g .B) v.2.1).trans<|mP i
 haveI h_:ei (al<|y+2) (.A<|.n<|.D (.A 0) "pieces") (bV .a_ [.B j,.B<|e+1,aa d_,.B x]) (ap e a d)=Y ([.F [.A l,.A z]],ap e (a.A g .B) d):=by show((ai _ (.D (.A 0) "pieces") _ _).bind _).bind _=_;rw[dw (ac Z) ((gc A.1).trans F) B.2.2 Z];show(lf (ap e a d)<|.B g).bind _=_;rw[nR<|aF ke<|(gc f.A.1).trans f.A.2.2,p6 f.A.1];rfl
 refine dj<|iz K L ((gc A.1).trans F) (by rw[show d1 "catch" (d3 c a_ g h)=d1 "catch" h from Z,H];rfl) B.1<|aV.A Z<|ey h_<|eS Z ?_;refine dj<|iz (ac Z) (av (ac Z)<|av (ac Z)<|av (ac Z)<|av (ac Z)<|av (dw (ac Z) ((gc A.1).trans A.2.2) B.2.1 Z) aQ) (c7<|ae Z) Z Z<|aV.A Z ?_;refine gA<|j5 (dw (ac Z) (c7<|ae Z) Z Z) (pO Z Z Z zr) (h5 (c7<|ae Z)<|.inl Z) (g:=d.e) ?_ (by rw[f.d.1];exact e6 I<|ae Z)<|aU<|aU<|am Z<|ax _ Z<|aU ?_;.rw[lv (a:=a.A g .B) f.a];exact c7<|ae Z
 .show ak (aw _ j_ n<|af.A ((ap e (a.A g .B) d).B .B) (e+3)<|.A<|d.e++[g7 d_ l z x c]) i_;rw[lv (a:=a.A g .B) f.a,SE,f.d.1];refine b_ _ ⟨m.a,m.g,m.b,m.f,(am Z f.d.2),m.e,m.c,m.k,m.i,m.j,λk_ q=>?_⟩<|((D.2.B .C).B .G).A λx_ x_=>ds;refine b1 (ge.1 q) (λq=>?_) λq=>?_
  .exact m.h k_<|f.d.1▸q
  .rw[cm.1 q];exact⟨d_,l,z,x,c,aL Z J g_⟩
def aG.G(f:aG e f_ a d b_ k s t){c:U}(b:(x,b7<|.A c)∈f_):f' e a x:=⟨(f.c _ b).1,(f.c _ b).2.1,.inr ⟨c,(f.c _ b).2.2⟩⟩
end
def ko(a:V)(b:be):V:=if bH b.a then a else .A 77
def iL(a:be):be:=⟨a.b,a.d,.C,a.c⟩
def jB(a:R<|an×V):R<|an×V:=cp (.A "over") (dU a<|.A "it") a
abbrev rQ(b c a d e:U):R V:=[b' "setl" c,b' "getl" c,dS "caught",b' "setl" a,bZ "getc"<|aa "StandardError",b' "getl" a,mJ "===" 1 "call",bZ "jumpif"<|.A (b+9:U),bZ "jump"<|.A (b+17:U),bZ "getg"<|aa "$!",b' "setl" d,b' "getl" a,dS "setcaught",bZ "push"<|.A 77,b' "getl" d,dS "setcaught",bZ "jump"<|.A e]
section
variable{a o:be}{c:R<|an×V}{k e:V}{b h m:R V}{l n g f j d:U}{i:de}
def PI(g:b.length<1000000):dM (mJ "===" 1 "call") (b++[aa "StandardError",k]) h a (b++[.G Q]) .C h a:=by haveI l:∀{f:aA}{i:bR}{d:af},f 2=Y (.D<|b++[aa "StandardError",k])->ai i (.F (.A 2)<|.g<|.B 2) f d=Y (aa "StandardError",d):=λj=>uV 2 (ae Z) Z j Z;refine pM λm e d c=>bi Z<|as Z<|bg Z<|a3 (h1 (sq 2 (ae Z) Z Z) (bM (av (ac Z)<|av (l Z)<|av (qd Z) aQ)<|show aR (m+2) .K [.B<|e+2,aa "StandardError",k] (az e d a c)=Y (.G Q,az e d a c)from bi Z<|bg Z<|a3 Z Z) g) Z
def N8(k:aW i.b d<|rQ d g f j n)(y:fS i g)(z:fS i f)(A:fS i j)(K:g≠f)(B:f≠j)(p:b.length<=900)(t:cQ i.a h c)(o:a.a=.C):
 bE λm l=>b5 i.A l ⟨b++[e],h,d,a⟩ ⟨b++[.A 77],m,n,a⟩/\cQ i.a m c/\l<=17:=by
 refine a8 y λL q=>?_;refine a8 z λa_ r=>?_;refine a8 A λb_ s=>?_;have u:=t.B (g:=e) q.1 q.2;have v:=u.B (g:=aa "error") r.1 r.2;haveI C:=v.B (g:=.C) s.1 s.2;haveI D:(h.set g e)[g]?=Y e:=kg<|t.A q.1;haveI w:((h.set g e).set f<|aa "error")[f]?=Y (aa "error"):=kg<|u.A r.1;haveI E:(((h.set g e).set f<|aa "error").set j .C)[j]?=Y .C:=kg<|v.A s.1;haveI F:(((h.set g e).set f<|aa "error").set j .C)[f]?=Y (aa "error"):=by rw[Yu B.symm];exact w
 haveI G:(b++[aa "StandardError"]).length<1000000:=by rw[cs,ff];exact D5 p
 haveI x:=PI (k:=aa "error") (h:=(h.set g e).set f<|aa "error") (a:=a)<|hl p;rw[show b++[aa "StandardError",aa "error"]=b++[aa "StandardError"]++[aa "error"] by rw[f2];rfl]at x;haveI H:(b++[V.A 77]).length<1000000:=by rw[cs,ff];exact D5 p
 refine⟨((h.set g e).set f<|aa "error").set j .C,16,aL ?_ C<|aX Z⟩;haveI I:b5 i.A 8 ⟨b++[e],h,d,a⟩ ⟨b,(h.set g e).set f<|aa "error",d+9,a⟩:=
  .A (k 0 _ Z) (ae Z) (iJ<|t.A q.1) o (.A (k 1 _ Z) (ae Z) (fc D<|hl p) o (.A (k 2 _ Z) (ae Z) (PE<|hl p) o (.A (k 3 _ Z) (ae Z) (iJ<|u.A r.1) o
   (.A (k 4 _ Z) (ae Z) (gx (.inr<|.inr Z)<|hl p) o<|.A (k 5 _ Z) (ae Z) (fc w G) o<|.A (k 6 _ Z) (ae Z) x o<|.C (k 7 _ Z) (ae Z) (vl<|.inr<|a1 Q Z) (.inr Z) o))))
 haveI J:b5 i.A 8 ⟨b,(h.set g e).set f<|aa "error",d+9,a⟩ ⟨b++[.A 77],((h.set g e).set f<|aa "error").set j .C,n,a⟩:=
  .A (k 9 _ Z) (ae Z) (PF<|hl p) o (.A (k 10 _ Z) (ae Z) (iJ<|v.A s.1) o (.A (k 11 _ Z) (ae Z) (fc F<|hl p) o (.A (k 12 _ Z) (ae Z) (vm<|.inr Z) o
   (.A (k 13 _ Z) (ae Z) (gx (.inl Z)<|hl p) o<|.A (k 14 _ Z) (ae Z) (fc E H) o<|.A (k 15 _ Z) (ae Z) (vm<|.inr Z) o<|.C (k 16 _ Z) (ae Z) mC (.inr Z) o))))
 exact I.B J
def g0.C(n:g0 i p r b h a m o)(s:∀d,p<=d->d<r->bE λf g=>ka i.c d=(f,q)::g)(e:q.a=b.length)(t:o.a≠.C)(u:b.length<=900):
 ∃l,b5 i.A l ⟨b,h,p,a⟩ ⟨b++[o.a],m,q.c,iL o⟩/\p+l<=r:=by
 obtain⟨l,d,v,w,x,B,D,E,k,y,c⟩:=n;refine bE.A (s d (wD c.1) c.2.1) λf g z=>?_;haveI j:=TH (q:=i.d) (p:=i.a.map .E) (a:=⟨v,w,d,x⟩) c.2.2.2.1 c.2.2.2.2.1 c.2.2.2.2.2.1 (.inl<|am Z Z) t z (by rw[e,cs];exact cU _ _) (by rw[cs];exact(aj Z:N [_,_,_] (.B (X+S) 100000) [.C O X,.A S 10,.A X 900]) e c.2.2.2.2.2.2 u);haveI A:(b++y).take q.a=b:=by rw[e];exact List.take_left
 rw[A]at j;exact ax (l+1) (c.2.2.1.B<|ax _ j Z)<|by exact(aj Z:N [_,_,_,_] (.A (X+(S+1)) O) [.A (X+S) ag,.B ag O]) c.1 c.2.1
def vd:∀{c:R<|an×V},bn p c=Y e->(p,e)∈c:=by
 intro c a
 induction c with
 |nil=>exact b8 a
 |cons h c d=>
  obtain⟨f,g⟩:=h;by_cases b:f=p;.rw[show bn p ((f,g)::c)=Y g from au b]at a;clear d;have i:=ch a;subst i;subst b;exact bP
  .exact cx _<|d<|(ao b).symm.trans a
def jh.A(j:jh r s t k a c u p v)(l:jh r s t k a c w q x):u=w/\p=q/\v=x:=by have b:=(j 0 0 af.E).symm.trans<|l 0 0 af.E;haveI b:=cZ b;haveI f:=aF (λe:V×af=>e.2.b 0) b;haveI g:=aF (λe:V×af=>e.2.b 1) b;haveI d:=aF (λe:V×af=>e.2.b 2) b;refine aL (aF xo b) ?_<|cn.D.inj g;clear g;obtain⟨h,m,n,o⟩:=p;clear b;obtain⟨i,y,z,B⟩:=q;haveI f:h=i:=cn.A.inj f;haveI d:fQ 0 ⟨h,m,n,o⟩=fQ 0 ⟨i,y,z,B⟩:=cn.D.inj d;simp only[Ù,Prod.mk.injEq,V.A.injEq,true_and,and_true]at d;clear b;obtain⟨C,D,E⟩:=d;clear d;subst f C D E;rfl
def B7(r:gK i.a)(s:gl i 2 2 [gQ<|.A "over"] 0 q p)(t:aW i.b p [dS "pop"])(u:b.length<=900)(v:cQ i.a h c)(d:a.a=.C)(f:b9 i.a l a c)(w:l<=100000):
 bE λm g=>b5 i.A g ⟨b,h,q,a⟩ ⟨b,m,p+1,a⟩/\cQ i.a m (jB c)/\b9 i.a l a (jB c)/\q+g<=p+1:=by
 refine a8 f.d λe j=>?_;haveI x:=(f.b _<|vd j.1).2.2.1;refine cy.A (s e b h a c l j.2 x j.1 u v d f w) λF o G m k=>?_;haveI y:=k.1;refine gS (y.A<|DP<|sx d (f.B r) Z) λz A B=>?_;subst z;subst A;subst B;haveI C:jB c=cp (.A "over") e c:=by unfold jB dU;rw[j.1];rfl
 rw[C];rcases k.2.2.2.2 with⟨n,g,D,E⟩|⟨n,_⟩;.exact⟨m,g+1,db (D.B<|.C (t 0 _ Z) (ae Z) (vm<|.inl Z) (.inl<|am Z Z) d) k.2.2.1 k.2.2.2.1<|by exact(aj Z:N [_,_,_] (.A (X+(S+1))<|O+1) [.A (X+S) O]) E⟩
 .exact a2 d n
end
def q8(a:de)(p q:U)(r:R V)(j s k l:U):Prop:=∀(b:V)(f m:R V)(c:be)(d:R<|an×V)(g:U),f.length=s->bA b->ca b->bn (.A "it") d=Y b->cQ a.a m d->c.a=.C->b9 a.a g c d->g+j<=100000->
 cy λh e i n=>jh p q r b c d h e i/\kW h/\cQ a.a n (jB i)/\b9 a.a (g+j) (iL e) (jB i)/\∃o,b5 a.A o ⟨f,m,k,c⟩ ⟨f++[ko h e],n,l,iL e⟩/\k+o<=l
section
variable{i a:be}{j t:R<|an×V}{c d s:V}{e n r x:R V}{w v l m h o k a_ u z g p q:U}{f:aC}{b:de}{b_:R lW}{y:U}
def b9.H(a:b9 b.a k i j):b9 b.a k (iL i) j:=⟨a.a,a.e,a.f,a.b,a.c,a.d,(aL Z (show cA .C<=500 by decide)<|show cT .C<=5 by decide)⟩
def Jo(L:gK b.a)(l_:gl b w v x a_ l h)(m_:b.b[h]?=Y (bZ "jump"<|.A p))(n_:aW b.b (h+1)<|rQ (h+1) y u z p)(o_:fS b y)(p_:fS b u)(q_:fS b z)(r_:y≠u)(s_:u≠z)(c_:h+18<=p)
 (d_:gl b 2 2 [gQ<|.A "over"] 0 p o)(e_:aW b.b o [dS "pop"])(t_:b.b[o+1]?=Y (bZ "jump"<|.A m))(J_:p<=o)(f_:o+2<=m)(u_:∀g,l<=g->g<h->bE λf b_=>ka b.c g=(f,⟨l,h,h+1,q⟩)::b_)(g_:q<=100):q8 b w v x a_ q l m:=by
 intro d e n i j k F v_ w_ y_ z_ A_ B_ G;have H:e.length<=900:=by exact D6 F g_
 refine cy.A (l_ d e n i j k v_ w_ y_ H z_ A_ B_ G) λc a t r A=>?_;haveI h_:∀s:V,(e++[s]).length<=900:=λs=>by rw[cs,ff];exact(a5 111 Z:N [_,_] (.A (X+1) 900) [.C X S,.A S 100]) F g_
 have C:∀(s:V)(n:R V),b5 b.A 1 ⟨e++[s],n,o+1,iL a⟩ ⟨e++[s],n,m,iL a⟩:=λs n=>.C t_ (ae Z) mC (.inr Z) Z;refine cy.B c a t ?_;rcases A.2.2.2.2 with⟨B,C_,i_,D_⟩|⟨B,E_⟩
 .have F_:iL a=a:=by
   obtain⟨K_,L_,a__,b__⟩:=a;clear i_;subst B;rfl
  have G_:b5 b.A 1 ⟨e++[c],r,h,a⟩ ⟨e++[c],r,p,a⟩:=.C m_ (ae Z) mC (.inr Z) B;refine bE.A (B7 L d_ e_ (h_ c) A.2.2.1 B A.2.2.2.1<|D7 G) λI H_ D=>?_;haveI J:ko c a=c:=by unfold ko;rw[B];rfl
  rw[J];have C:=C c I;rw[F_]at C⊢;exact kf I A.1 A.2.1 D.2.1 D.2.2.1 ⟨_,((i_.B G_).B D.1).B C,by exact(aj Z:N [_,_,_,_,_,_,_] (.A (X+(S+1+O+1)) ag) [.A (aB+18) aM,.A (bX+2) ag,.A (X+S) aB,.A (aM+O)<|bX+1]) c_ f_ D_ D.2.2.2⟩
 .obtain⟨C_,j_⟩:=E_.C u_ F.symm B H;obtain⟨I,H_,K⟩:=N8 (a:=iL a) n_ o_ p_ q_ r_ s_ H A.2.2.1 Z;have I_:=K.2.1;refine bE.A (B7 L d_ e_ (h_<|.A 77) I_ Z A.2.2.2.1.H<|D7 G) λk_ c__ E=>?_;have J:ko c a=.A 77:=by unfold ko;rw[pB B];rfl
  rw[J];exact kf k_ A.1 A.2.1 E.2.1 E.2.2.1 ⟨_,((j_.1.B K.1).B E.1).B<|C (.A 77) k_,by exact(aj Z:N [_,_,_,_,_,_,_,_] (.A (X+(S+O+ag+1)) aB) [.A (aM+18) bX,.A (en+2) aB,.A (X+S) aM,.A (bX+ag)<|en+1,.A O 17]) c_ f_ j_.2 E.2.2.2 K.2.2⟩
end
abbrev sd:V:=aH "seq" [.D [aH "int" [.A 77]]]
abbrev p1:V:=.D [.F [.D [],.C,sd]]
abbrev rS(a:ah)(b:V)(c d:U)(e:V):cn:=.C .D<|d3 a b c [("kept",.A d),("again",e)]
section
variable{a:U}{l h_ g_:f6}{d h k_:af}{f g l_:ci}{s:R V×R V}{r c e q j b n_ o o_ m_ m j_ z y:U}{t u k w:V}{i:aA}{i_:bk}{x:cu}{n:f7}{v:V->af->Prop}{p_ d_ a_ b_:R V}{e_ p:ah}{c_:cO}{f_:aC}
def oi(e_:aV (aR b .A [.B a,aH f_ d_,u]<|ap a d f) λg d=>v .C d):aV (aR (b+3) .A [.B a,aH "seq" [.D [aH f_ d_]],u]<|ap a d f) v:=by refine km Z Z Z<|aV.A Z<|a' Z<|ey Z<|ax _ Z ?_;refine dj<|eE Z Z Z Z<|aV.A Z<|bg Z<|dj<|eE Z Z Z Z<|ak.A e_ λe c=>?_;exact aU<|aU<|aU c
def Tt(m:(z,b7 .C)∈l)(k:aG a l d f s c e<|q+4)(n:∀h g,aG a l h g s (c+4) e q->bu d f h g (λi=>aW i.a.b c [bZ "getc"<|aa "StandardError",b' "getl" j_,mJ "===" 1 "call",bZ "jumpif"<|.A<|i.b z])->v .C (ap a h g)):aV (aR (b+7) .as_ [.B a,.D [],.A j_,.B z]<|ap a d f) v:=by refine aV.A Z<|a' (fb Z d f)<|bg Z<|eT (λE E=>Z) k (gD Z Z Z) λk_ l_ o p=>?_;refine dD (Dj o λA B r t=>eT (λE E=>Z) r (gE Z Z Z m) λu w x y=>aU<|ey Z<|ax _ Z<|aU<|n u w x<|((p.B t).B y).A λi j=>aW.A j.1.1<|aW.C j.1.2<|aW.A j.2 aW.B) Z
def Ag(k:aG a (h_++(r,rS p w o m t)::g_) d f s c e<|q+2)(u:ai (al<|b+5) i_ i (ap a d f)=Y (.B r,ap a d f))(v:i 0=Y (.B a))(y:∀h g,aG a (h_++(r,rS p w o m t)::g_) h g s (c+2) e q->bu d f h g (λj=>aW j.a.b c [b' "getl" m,dS "setcaught"])->ak (aw (al<|b+5) x i<|ap a h g) n):ak (aw (al<|b+5) (.A (.A<|.E i_ "finish"<|.A (.A 0) .B) x) i<|ap a d f) n:=by refine dj<|iz u (a0 (ac v) aQ) ((gc k.A.1).trans k.A.2.2) Z Z<|aV.A Z<|eT (λF F=>dw (ac Z) iN Z Z) k (cX (a0 Z<|a0 Z<|a0 (dw (ac Z) ((gc k.A.1).trans k.A.2.2) Z Z) aQ) Z Z) λk_ l_ z A=>eT (λF F=>dw (ac Z) iN Z Z) z (hk Z Z Z) λB C D E=>aU<|y B C D<|(A.B E).A λj l=>aW.A l.1<|aW.A l.2 aW.B
def Jj(j:i 0=Y (.B a))(p:∀d f,ai (al<|b+2) B i (ap a d f)=Y (.B<|a+1,ap a d f))(k:aG a l d f s c e<|q+2)(r:∀h g m,aG a ((m,b7 .C)::l) h g s c (e+2) q->bu d f h g (λo=>o.a.a[e]?=Y (.B e)/\o.a.a[e+1]?=Y (.B<|e+1))->ak (aw (al<|b+2) x (((i.A C<|.A e).A D<|.A (e+1:U)).A A<|.B m)<|ap a h g) n):ak (aw (al<|b+2) (.A (.B (.B [C,D,A])<|.I<|.A (.E (.A 0) "hidden" .B)<|.A (.E (.A 0) "hidden" .B)<|.A (.E B "label" .B) .B) x) i<|ap a d f) n:=
 uh (nN j k λz k t=>nN j k λz u v=>lb p u λz z w y=>r _ _ _ w<|((t.B v).B y).A λz A=>A.1)
def N'(h_:(y,b7 .C)∈l)(i_:a_.length<900)(j_:b_.length<900)(k:aG a ((o,.A [])::(r,rS p .C o m t)::l) d f (a_,b_) c e<|j+30)
 (m_:∀h g s B,e<=B->aG a l h g (a_++[g7 "ensure" (c+13) (c+14) s p],b_) (c+24) B j->bu d f h g (λq=>fS q.a e/\fS q.a (e+1)/\aW q.a.b c (rQ c e (e+1) m<|q.b y))->v .C (ap a h g)):aV (aR (b+13) .ax_ [.B a,p1,.B r,.G Q,.B y]<|ap a d f) v:=by
 refine aV.A Z (let i:=bV _ _;let n:=hH _;(?_:ak (aw _ _ i _) n));refine a' (fb Z d f)<|Jj Z (λx_ x_=>Z) k λk_ l_ s n_ o_=>(let i:=_;(?_:ak (aw _ _ i _) n));refine fC (i:=j+24) (λx_ x_=>Z) n_ (.bY (λx_=>cX Z Z Z)<|.bY (λx_=>cX Z Z Z)<|.bY (λx_=>hk Z Z Z)<|.bY (λx_=>cX Z Z Z) .A) Z λy__ z__ p_ q_=>?_;refine ey Z<|eS Z (let i:=_;let C:=_;(?_:ak (aw _ _ i _) C));refine pe (λx_ x_=>Z) p_ λA__ B__ C__ r_ s_=>(let i:=_;(?_:ak (aw _ _ i _) C));refine dD (Tt (.tail _<|.head _) r_ λD__ E__ t_ u_=>?_) Z;refine eT (λx_ x_=>Z) t_ (gE Z Z Z<|.head _) λF__ G__ v_ w_=>gC (p:=[_]) (λx_ x_=>Z) Z v_ λH__ y_ z_=>?_;refine eT (λx_ x_=>Z) y_ (gD Z Z Z) λI__ J__ w A_=>?_;refine eT (λx_ x_=>Z) w (cX (v:=.A m) (a0 Z<|a0 Z<|a0 (dw (ac Z) ((gc (aG.A (p:=[_,_,_]) w).1).trans (aG.A (p:=[_,_,_]) w).2.2) Z Z) aQ) Z Z) λK__ L__ B_ C_=>?_;refine fC (u:=b+8) (x:=[_,_]) (w:=2) (i:=j+15) (v:=[b' "getl"<|e+1,dS "setcaught"]) (λx_ x_=>Z) B_ (.bY (λx_=>cX Z Z Z)<|.bY (λx_=>hk Z Z Z) .A) Z λa_1 b_1 D_ E_=>?_;refine dD (k:=[.B a,.B r]) (uH (y:=b+10) (p:=[_,_,_]) (.inr<|.inr Z) Z (ec Z) (e6 j_<|ae Z) D_ λc_1 F_ G_=>as Z ?_) Z;refine dD (k:=[.B a,sd,.G Q]) (ws (n:=b+11)<|oi (b:=b+8)<|si (m:=b) (l:=j+14) F_ (λd_1 e_1 D H_ I_ J_=>?_) Z) Z;refine dD (k:=[.B a]) (uG (y:=b+10) (p:=[_,_]) (.inr<|.inr Z) Z (ec Z) (eV _) I_ λf_1 K_ L_=>?_) Z;refine Ag (b:=b+7) (q:=j+12) (h_:=[_,_,_]) K_ Z Z λg_1 h_1 a__ b__=>?_;refine eT (u:=b+8) (i:=j+11) (λx_ x_=>Z) a__ (gE (u:="jump") Z Z Z<|.tail _<|.tail _<|.tail _<|.tail _ h_) λi_1 j_1 c__ d__=>gC (u:=b+11) (p:=[]) (λx_ x_=>Z) Z c__ λk_1 x e__=>?_;refine jE Z (dw (ac Z) ((gc (aG.A (p:=[_,_]) x).1).trans (aG.A (p:=[_,_]) x).2.2) Z Z) x λl_1 x_ f__ g__=>aU<|am Z ⟨_,Z,?_⟩;refine fC (u:=b+8) (x:=[_,_]) (w:=2) (i:=j+9) (v:=[b' "getl" e,dS "again"]) (λx_ x_=>Z) f__ (.bY (λx_=>cX Z Z Z)<|.bY (λx_=>hk Z Z Z) .A) Z λm_1 n_1 h__ i__=>v8 (u:=b+11) (p:=[]) (λx_ x_=>Z) Z h__ λo_1 z j__=>?_;refine jE Z (bL (dw (ac Z) ((gc (aG.A (p:=[_,_]) z).1).trans (aG.A (p:=[_,_]) z).2.2) Z Z) (i:=.A 1) Z Z) z λp_1 x_ k__ l__=>j8<|nN (v:=b+10) (i:=j+8) Z k__ λq_1 m__ n__=>?_;refine eT (u:=b+8) (i:=j+7) (λx_ x_=>Z) m__ (cX (u:="setl") (k:=.A 0) (v:=.A D) Z Z Z) λr_1 s_1 o__ p__=>Ag (b:=b+7) (q:=j+5) (h_:=[_,_]) o__ Z Z λt_1 u_1 q__ r__=>?_;refine fC (u:=b+8) (x:=[_,_]) (w:=2) (i:=j+3) (v:=[b' "getl" D,dS "again"]) (λx_ x_=>Z) q__ (.bY (λx_=>cX Z Z Z)<|.bY (λx_=>hk Z Z Z) .A) Z λv_1 w_1 E s__=>?_;refine ut (y:=b+9) (p:=[_]) (l:=c+13) (z:=c+14) (.inr<|.inr Z) Z (e6 i_<|ae Z) (eV _) E (E.G<|.head _) Z Z λt__ u__ v__=>aU<|m_ t__ _ s _ (br (cU e 2)<|m8 H_) ((u__.C (p:=[]) nofun).B<|cU _ 3) λq w__=>?_;haveI x__:=i__ q (j__ q (l__ q (n__ q (p__ q (r__ q (s__ q (v__ q w__).1).1).1).1).1).1).1;haveI F:=e__ q (g__ q x__.1).1;haveI G:=d__ q F.1;haveI H:=b__ q G.1;haveI I:=J_ q (L_ q H.1).1;haveI J:=E_ q (G_ q I.1).1;haveI K:=C_ q J.1;haveI L:=A_ q K.1;haveI d_:=z_ q L.1;have e_:=w_ q d_.1;haveI f_:=u_ q e_.1;haveI g_:=q_ q (s_ q f_.1).1;haveI A:=o_ q g_.1;haveI u:=f_.2;haveI c_:=e_.2;simp only[oh]at c_;dsimp only at u;rw[d_.2]at u;rw[F.2]at c_;exact db A.1 (.A A.2.1) (.A A.2.2)<|aW.C (I:=[_,_,_,_]) g_.2<|aW.C (I:=[_,_,_,_]) u<|aW.A c_<|aW.A L.2<|aW.A K.2<|aW.C (I:=[_,_]) J.2<|aW.A I.2<|aW.C (I:=[_,_]) H.2<|aW.A G.2 aW.B
end
structure l2(q r s:U)(t:R V)(j:V)(u v:U):Prop where
 b:bE λw x=>j=aH w x
 a:∀{y c d k l:U}{m:f6}{e:af}{f:ci}{n:R V×R V}{o:V->af->Prop},aG c m e f n d k (l+v)->(∀g h i p,d<i->k<=p->aG c m g h n i p l->bu e f g h (λz=>gl z.a r s t u d i)->o .C (ap c g h))->aV (aR (y+q+12) .A [.B c,j,.G Q]<|ap c e f) o
abbrev jC:V:=aH "seq" [.D [aH "matchp" [e1,aH "p_bind" [aa "over"]]]]
abbrev pf(a:V):V:=aH "begin" [a,p1,.C,jC]
section
variable{a:ci}{b:R V}
def Lk(w:h 0=Y (.B e))(x:∀c,ai (al<|i+2) j h c=Y (.A f,c))(y:∀c,ai (al<|i+2) k h c=Y (g,c))(b:aG e l c a m n d<|o+1)(A:∀q r s t,aG e ((t,.A [])::(s,rS f .C t d g)::l) q r m n (d+1) o->bu c a q r (λz=>z.a.a[d]?=Y (.B d))->p (.B s) (ap e q r)):
 aV (ai (al<|i+2) (.c .D<|.A j<|.A (.E (.A 0) "hidden" .B)<|.A k .B) h<|ap e c a) p:=by
 haveI u:=b.H (r:=.B d) (.inr Z) ⟨Z,"%",λF=>Z,Z,.inl Z⟩;haveI v:=AK (j:=i) (i:=e) (a:=c) b.I;rw[b.f]at v;refine aV.B (pP (av (x _)<|av (aV.C<|eE (l:=[]) w Z Z Z<|aV.B v ⟨Z,Z⟩)<|av (y _) aQ) Z Z N9) ?_;rw[show(ap e c<|a.A<|.B d).D .D f [("kept",.A d),("again",g)]=ap e (c.D .D f [("kept",.A d),("again",g)]) (a.A<|.B d) by unfold af.D;rw[lv b.a,lv<|m8 b.a];rfl];exact A (c.D .D f [("kept",.A d),("again",g)]) _ c.a (c.a+1) ((u.1.D _).D _)<|((u.2.B .C).B .C).A λF B=>B.1.1
def KA(r:ai (al c) g e d=Y (h,d))(s:ai (al c) i e d=Y (j,d))(u:aV (ai (al c) f e d) λt a=>bE λb p=>ai (al c) k e a=Y (b,a)/\ai (al c) l e a=Y (p,a)/\aV (aR c m [h,j,t,b,p] a) λv d=>ak (aw (al c) n e d) o):ak (aw (al c) (.A (.A<|.G m<|.A g<|.A i<|.A f<|.A k<|.A l .B) n) e d) o:=by obtain⟨⟨_,_⟩,f,b,p,q⟩:=u;exact gA<|uF (av r<|av s<|av f<|av q.1<|av q.2.1 aQ) q.2.2
def Rk(F:l2 c j k l m n o)(G:b.length<800)(f_:aG e p h a ([],b) i q<|f+32+o)(g_:∀x y s z u H,i<s->q<=H->aG e p x y ([g7 "ensure" (s+1+13) (s+1+14) z a.a,g7 "rescue" i s u a.a],b) (s+25) H f->bu h a x y (λr=>r.b u=s+1/\kM λA v g=>gl r.a j k l n i s/\r.a.b[s]?=Y (bZ "jump"<|.A (s+25:U))/\fS r.a A/\fS r.a v/\fS r.a g/\A≠v/\v≠g/\aW r.a.b (s+1) (rQ (s+1) A v g<|s+25))->g .C (ap e x y)):
 aV (aR (d+c+17) .aD_ [.B e,pf<|aH "seq" [.D [m]],.G Q]<|ap e h a) g:=by
 refine bE.A F.b λI J h_=>?_;subst h_;refine aV.A (k:=d+c+16) Z (let t:=bV _ _;let B:=hH _;(?_:ak (aw _ _ t _) B));refine eL (e:=.F [aH "seq" [.D [aH I J]],p1,.C,jC]) (f:=_) Z Z<|as Z<|pc<|.B (fb Z h a)<|.B (uT Z) ?_;refine uh<|lb (u:=d+c+14) (λx_ x_=>Z) f_ λk__ l__ i_ j_=>lb (u:=d+c+14) (λx_ x_=>Z) i_ λm__ u k_ l_=>lb (u:=d+c+14) (λx_ x_=>Z) k_ λn__ o__ m_ n_=>(let t:=_;(?_:ak (aw _ _ t _) B));refine gC (u:=d+c+15) (p:=[_,_]) (λx_ x_=>Z) Z m_ λo_ p_ q_=>j8<|z1 (b:=.I) (c:=a.a) (h:=[]) p_ (pP (h_:=ap e o_ a) (A:=[.A a.a]) Z Z Z<|vJ (y:=d+c+15)<|.inl Z) λp__ r_ q__ s_ t_=>(let t:=_;(?_:ak (aw _ _ t _) B));refine dD (k:=[.B e,.B r_]) (uH (y:=d+c+14) (p:=[_]) (.inl Z) Z (c8 _) (e6 G<|ae Z) s_ λr__ u_ v_=>?_) Z;refine dD (k:=[.B e,aH "seq" [.D [aH I J]],.G Q]) (ws (n:=d+c+15)<|oi (b:=d+c+12)<|F.a (y:=d) (l:=f+32) u_ λs__ t__ s C D w_ y_ z_=>?_) Z;refine dD (k:=[.B e]) (uG (y:=d+c+14) (p:=[]) (.inl Z) Z (c8 _) D y_ λu__ A_ B_=>as Z ?_) Z;refine eT (u:=d+c+12) (i:=f+31) (λx_ x_=>Z) A_ (gE (u:="jump") Z Z Z<|.tail _<|.tail _<|.head _) λv__ w__ C_ D_=>v8 (u:=d+c+15) (p:=[_,_,_]) (λx_ x_=>Z) Z C_ λx__ E_ F_=>?_;refine jE Z (bL (ac Z) (i:=.A 1) Z Z) E_ λy__ x_ G_ H_=>KA Z Z<|Lk (i:=d+c+14) (o:=f+30) Z (λx_=>Z) (λx_=>Z) G_ λz__ A__ B__ C__ I_ J_=>⟨_,_,aL Z Z ?_⟩;refine N' (b:=d+c+3) (j:=f) (a_:=[]) (.tail _<|.tail _<|.head _) (ae Z) (e6 G<|ae Z) I_ λD__ E__ z K_ L_ K a__=>?_;refine ut (y:=d+c+13) (p:=[]) (.inl Z) Z (ec Z) D K (K.G<|.tail _<|.tail _<|.tail _<|.head _) Z Z λF__ b__ c__=>?_;refine jE Z (bL (ac Z) (cS (ac Z) Z) Z) b__ λd__ x_ e__ f__=>gC (u:=d+c+15) (p:=[]) (λx_ x_=>Z) Z e__ λg__ h__ i__=>aU<|g_ g__ d__ s z u K_ D (br w_<|iX L_) (h__.C (p:=[]) nofun) λr j__=>?_;haveI L:=i__ r j__;haveI w:=a__ r (c__ r (f__ r L.1).1).1;haveI a_:=J_ r w.1;have b_:=F_ r (H_ r a_.1).1;haveI c_:=D_ r b_.1;haveI d_:=z_ r (B_ r c_.1).1;haveI E:=c_.2;haveI e_:=w.2.2.2;simp only[oh]at E;rw[L.2]at E e_;exact aL ((j_ r (l_ r (n_ r (q_ r (t_ r (v_ r d_.1).1).1).1).1).1).1) b_.2 ⟨C+1,C+1+1,C,d_.2,E,w.2.1,w.2.2.1,.A a_.2,ed<|eV _,jL<|il<|eV _,e_⟩
def BQ:eX<|.A "over":=bB (am Z ⟨"o",λa=>Z,ae Z,.inr<|ae Z⟩) Z (am (ae Z)<|ae Z) (ae Z)<|ae Z
def B6(q:aG c h d a i e j<|f+11)(r:∀l m n b,e+3<=b->j<=n->aG c h l m i (b+1) n f->bu d a l m (λo=>gl o.a 2 2 [gQ<|.A "over"] 0 e b/\aW o.a.b b [dS "pop"])->k .C (ap c l m)):aV (aR (g+15) .A [.B c,jC,.G M]<|ap c d a) k:=
 oi (b:=g+12) (zJ (r:=g) (l:=0) (k:=f) (f:=M) (zI BQ) q λl m n b s t u v=>r l m n b s t u<|v.A λo p=>am p.1<|p.2 Z)
def K3(b:g=[(m,⟨c+14,c+15,n,d⟩),(h,⟨e,c,i,d⟩),(j,⟨e,k,l,d⟩)])(o:e<=f)(a:f<c):bE λp q=>ka g f=(p,⟨e,c,i,d⟩)::q:=by subst b;refine⟨h,ka [(j,⟨e,k,l,d⟩)] f,?_⟩;unfold ka;rw[List.filter_cons_of_neg<|by simp;exact W6 a,List.filter_cons_of_pos<|by simp;exact(aI (.B (.A 11)<|.A 101) Z:N [_,_,_] (.F (.A X S)<|.B S O) [.B S O,.A X S]) a o]
def Jn(b_:l2 c k l m i n o)(c_:aG e p h a ([],[]) g q<|f+60+o)(d_:∀z A v r w x y F,g<r->q<=F->aG e p z A ([g7 "ensure" (r+1+13) (r+1+14) w a.a,g7 "rescue" g r x a.a,g7 "ensure" g (r+25) y a.a],[]) v F f->bu h a z A (λb=>∀t,t<=100->b.a.c=[(aa "ensure",⟨r+14,r+15,b.b w,t⟩),(aa "rescue",⟨g,r,b.b x,t⟩),(aa "ensure",⟨g,r+25,b.b y,t⟩)]->q8 b.a k l m n t g v)->j .C (ap e z A)):
 aV (aR (d+c+19) .A [.B e,pf<|aH "seq" [.D [i]],.G Q]<|ap e h a) j:=by
 refine km (h:=d+c+18) (i:=.z_) (g:=[.G Q]) Z Z Z<|aV.A (k:=d+c+17) Z (let u:=bV _ _;let B:=hH _;(?_:ak (aw _ _ u _) B));refine a' (e:=jC) (f:=ap e h a) Z<|as Z<|pc<|.B (fb Z h a)<|.B (uT Z) ?_;refine pe (u:=d+c+15) (λx_ x_=>Z) c_ λe_ y m__ f_ g_=>(let u:=_;(?_:ak (aw _ _ u _) B));refine j8<|z1 (b:=.J) (c:=a.a) (h:=[("node",jC)]) f_ (pP (h_:=ap e e_ a) (A:=[.A a.a,jC]) Z Z Z<|Lo (y:=d+c+15)) λn__ h_ o__ i_ j_=>(let u:=_;(?_:ak (aw _ _ u _) B));refine dD (k:=[.B e,.B h_]) (uH (y:=d+c+15) (p:=[_]) (.inr<|.inl Z) Z (ec Z) (ae Z) i_ λp__ k_ l_=>?_) Z;refine dD (k:=[.B e,pf<|aH "seq" [.D [i]],.G Q]) (Rk (d:=d) (f:=f+28) b_ (by show 1<800;exact ae Z) k_ λq__ r__ r w x s__ C m_ n_ o_=>?_) Z;refine dD (k:=[.B e]) (uG (y:=d+c+15) (p:=[]) (r:=[]) (.inr<|.inl Z) Z (ec Z) (FY 25 C) n_ λt__ p_ q_=>?_) Z;refine dj<|eE (l:=[jC,.G M]) Z Z Z Z<|B6 (g:=d+c+2) (f:=f+17) p_ λu__ v__ G w__ r_ s_ t_ u_=>?_;refine eT (u:=d+c+13) (i:=f+16) (λx_ x_=>Z) t_ (gE (u:="jump") Z Z Z<|.tail _<|.tail _<|.head _) λx__ y__ v_ w_=>v8 (u:=d+c+16) (p:=[_,_,_]) (λx_ x_=>Z) Z v_ λz__ y_ z_=>?_;refine jE Z (bL (ac Z) (i:=.A 1) Z Z) y_ λA__ x_ A_ B_=>j8<|nN (v:=d+c+15) (i:=f+15) Z A_ λB__ C_ D_=>?_;refine eT (u:=d+c+13) (i:=f+14) (λx_ x_=>Z) C_ (cX (u:="setl") (k:=.A 0) (v:=.A G) Z Z Z) λC__ D__ E_ F_=>?_;refine dj<|eE (l:=[jC,.G M]) Z Z Z Z<|B6 (g:=d+c+2) (f:=f+3) E_ λE__ F__ G_ G__ H_ I_ J_ K_=>?_;refine fC (u:=d+c+13) (x:=[_,_]) (w:=2) (i:=f+1) (v:=[b' "getl" G,dS "again"]) (λx_ x_=>Z) J_ (.bY (λx_=>cX Z Z Z)<|.bY (λx_=>hk Z Z Z) .A) Z λH__ I__ H L_=>?_;refine ut (y:=d+c+14) (p:=[]) (.inr<|.inl Z) Z (ec Z) (FY 25 C) H (H.G<|.tail _<|.tail _<|.tail _<|.head _) Z Z λJ__ a__ b__=>?_;refine jE Z (bL (ac Z) (cS (ac Z) Z) Z) a__ λc__ x_ d__ e__=>gC (u:=d+c+16) (p:=[]) (λx_ x_=>Z) Z d__ λf__ g__ h__=>aU<|d_ f__ c__ _ r w x y G_ C (br m_<|br s_<|iX I_) ((g__.C (p:=[]) nofun).B<|eU _) λb I=>?_;haveI J:=h__ b I;haveI i__:=D_ b (F_ b (K_ b (L_ b (b__ b (e__ b J.1).1).1).1).1).1;have K:=w_ b (z_ b (B_ b i__.1).1).1;haveI D:=u_ b K.1;haveI L:=o_ b (q_ b D.1).1;refine am ((g_ b (j_ b (l_ b L.1).1).1).1) λt j__ a_=>?_;obtain⟨v,K__,L__,j,s⟩:=L.2;haveI E:=K.2;simp only[oh]at E;rw[J.2]at E;rw[v]at a_;exact Jo I.a s.1 s.2.1 s.2.2.2.2.2.2.2 s.2.2.1 s.2.2.2.1 s.2.2.2.2.1 s.2.2.2.2.2.1 s.2.2.2.2.2.2.1 (lH (show 18<=25 by decide) r) D.2.1 D.2.2 E (FV r_) (by exact(aj Z:N [_,_] (.A (X+2)<|S+1+2) [.A (X+1+1+1+3) S]) H_) (λg k__ l__=>K3 a_ k__ l__) j__
end
structure kK where
 e:aC
 b:U
 a:U
 c:U
 d:U
abbrev jo(a:kK):V:=g7 a.e a.b a.a a.c a.d
abbrev h6(b:U->U)(a:kK):V×lU:=(aa a.e,⟨a.b,a.a,b a.c,a.d⟩)
def f8(b:aE)(a:be):be:=if b then iL a else a
def h9(b:aE)(a:R<|an×V):R<|an×V:=if b then jB a else a
def fz(b:aE)(a:V)(c:be):V:=if b then ko a c else a
def kb(a d:aE)(c:V)(b:be):V:=if !a&& !bH b.a then .C else if d then .D [aa "row",.A 4,fz a c b]else fz a c b
def o1(c:de)(q r:U)(s:R V)(a:aE)(o t h i:U):Prop:=∀(e:V)(f j:R V)(d:be)(g:R<|an×V)(k:U),f.length=t->bA e->ca e->bn (.A "it") g=Y e->cQ c.a j g->d.a=.C->b9 c.a k d g->k+o<=100000->
 cy λl b m n=>jh q r s e d g l b m/\kW l/\cQ c.a n (h9 a m)/\b9 c.a (k+o) (f8 a b) (h9 a m)/\
  (((f8 a b).a=.C/\∃p,b5 c.A p ⟨f,j,h,d⟩ ⟨f++[fz a l b],n,i,f8 a b⟩/\h+p<=i)\/(a=M/\b.a≠.C/\g0 c h i f j d n b))
def o9(a:de)(o p:U)(q:R V)(b r:aE)(j:U):Prop:=∀(c:V)(k:R V)(d:be)(e:R<|an×V)(g:U),bA c->ca c->bn (.A "it") e=Y c->cQ a.a k e->d.a=.C->b9 a.a g d e->g+j<=100000->
 gG λh f i l m n=>jh o p q c d e h f i/\kW h/\cQ a.a l (h9 b i)/\b9 a.a (g+j) (f8 b f) (h9 b i)/\b5 a.A m ⟨[],k,0,d⟩ n/\m<=a.b.length/\o2 a.A n (kb b r h f) l (f8 b f)
section
variable{a:de}
def gl.A(j:gl a b c d e f g)(k:h<=100):o1 a b c d M e h f g:=λl m n o p q r s t u v w x y=>by obtain⟨z,B,C,D,i⟩:=j l m n o p q s t u (D6 r k) v w x y;exact⟨z,B,C,D,bB i.1 i.2.1 i.2.2.1 i.2.2.2.1<|i.2.2.2.2.imp id λj=>am Z j⟩
def q8.A(j:q8 a b c d e f g h):o1 a b c d Q e f g h:=λk l m n o p q r s t u v w x=>by refine cy.A (j k l m n o p q r s t u v w x) λy z B C i=>?_;exact⟨y,z,B,C,bB i.1 i.2.1 i.2.2.1 i.2.2.2.1<|.inl<|am Z i.2.2.2.2⟩
abbrev li(b:aE)(a:V):V:=if b then aH "seq" [.D [pf<|aH "seq" [.D [a]]]]else aH "seq" [.D [a]]
def Da(n:a.c=[])(o:g0 a b e f g h i c)(p:c.a≠.C)(q:b5 a.A d j ⟨f,g,b,h⟩)(r:d<=b):bE λl m=>b5 a.A l j m/\l<=e/\o2 a.A m .C i c:=by obtain⟨s,t,u,v,w,x,y,z,A,B,k⟩:=o;refine⟨d+s,_,q.B k.2.2.1,by exact(aj Z:N [_,_,_,_,_] (.A (X+S) O) [.A (ag+S) aB,.B aB O,.A X ag]) k.1 k.2.1 r,Tc k.2.2.2.1 k.2.2.2.2.1 k.2.2.2.2.2.1 (.inl ⟨Z,Z⟩) p ?_⟩;rw[n];rfl
def Uh(q:o1 a d e f b g 0 0 c)(r:b=M->a.c=[])(s:a.b[c]?=Y (dS "leave"))(n:a.b.length=c+1):o9 a d e f b M g:=by
 intro t u v w x y z A B C D E;refine cy.A (q t [] u v w x Z y z A B C D E) λj i o p h=>?_;rcases h.2.2.2.2 with⟨k,F,l,G⟩|⟨rfl,k,l⟩
 .refine⟨j,i,o,p,F,_,ej h.1 h.2.1 h.2.2.1 h.2.2.2.1 l (by exact(a5 1101 Z:N [_,_,_] (.A X S) [.A (0+X) O,.C S<|O+1]) G n) ?_⟩;haveI H:kb b M j i=fz b j i:=by
   cases b;.show(if !bH i.a then _ else _)=_;rw[show i.a=.C from k];rfl
   .rfl
  rw[H];exact Db s Z
 .refine bE.A (Da (r Z) l k (d:=0) Z<|aY _) λI J m=>?_;refine⟨j,i,o,p,I,J,ej h.1 h.2.1 h.2.2.1 h.2.2.2.1 m.1 (by exact(a5 1011 Z:N [_,_,_] (.A X S) [.C S<|O+1,.A X O]) n m.2.1) ?_⟩;rw[show kb M M j i=.C by show(if !bH i.a then _ else _)=_;rw[pB k];rfl];exact m.2.2
def Ug(u:o1 a d e f b g 1 1 c)(v:b=M->a.c=[])(w:a.b[0]?=Y (bZ "push"<|.A 4))(x:a.b[c]?=Y (bZ "list"<|.A 2))(y:a.b[c+1]?=Y (dS "leave"))(q:a.b.length=c+2):o9 a d e f b Q g:=by
 intro z m n A B C D E F r G H;refine cy.A (u z [.A 4] m n A B Z C D E F r G H) λj h s k i=>?_;have t:b5 a.A 1 ⟨[],m,0,n⟩ ⟨[.A 4],m,1,n⟩:=.C w (ae Z) (gx (.inl Z)<|ae Z) (.inl<|am Z Z) r;rcases i.2.2.2.2 with⟨l,I,o,J⟩|⟨rfl,l,o⟩
 .haveI K:=Bz (a:=[]) (b:=[.A 4,fz b j h]) (d:=k) (c:=f8 b h) (by show 0+2<100000;exact ae Z);haveI L:b5 a.A 1 ⟨[.A 4]++[fz b j h],k,c,f8 b h⟩ ⟨[.D (aa "row"::[.A 4,fz b j h])],k,c+1,f8 b h⟩:=.C x (ae Z) K (.inl<|am Z Z) l;refine⟨j,h,s,k,1+I+1,_,ej i.1 i.2.1 i.2.2.1 i.2.2.2.1 ((t.B o).B L) (by exact(a5 1101 Z:N [_,_,_] (.A (1+X+1) S) [.A (1+X) O,.C S<|O+2]) J q) ?_⟩;haveI a_:kb b Q j h=.D [aa "row",.A 4,fz b j h]:=by
   cases b;.show(if !bH h.a then _ else _)=_;rw[show h.a=.C from l];rfl
   .rfl
  rw[a_];exact Db (g:=[]) y Z
 .refine bE.A (Da (v Z) o l t<|aY _) λb_ c_ p=>?_;refine⟨j,h,s,k,b_,c_,ej i.1 i.2.1 i.2.2.1 i.2.2.2.1 p.1 (by exact(a5 1011 Z:N [_,_,_] (.A X S) [.C S<|O+2,.A X O]) q p.2.1) ?_⟩;rw[show kb M Q j h=.C by show(if !bH h.a then _ else _)=_;rw[pB l];rfl];exact p.2.2
end
abbrev iC(a c:aE)(b:V):V:=if c then aH "seq" [.D [aH "array" [.D [aH "int" [.A 4],li a b]]]]else li a b
section
variable{a:U}{q:f6}{c g z:af}{e f a_:ci}{y p r d i t s u:U}{b_ n j:V}{h:aA}{b:bk}{v:V->af->Prop}{l m w:R V}{o:ah}{k x:aE}
def va(C:l2 i t s w j u r)(n:aG a q c e ([],[]) B y<|p+60+r)(I:e.a=(A:U))(H:∀g f h(m:R kK) b,y<=h->aG a q g f (m.map jo,[]) b h p->m.length<=3->(k=M->m=[])->bu c e g f (λo=>A<=100->o.a.c=m.map (h6 o.b)->o1 o.a t s w k u A B b)->v .C (ap a g f)):
 aV (aR (d+i+22) .A [.B a,li k j,.G Q]<|ap a c e) v:=by
 cases k
 .refine bE.A C.b λd_ l J=>?_;subst J;haveI b:d+i+22=d+7+i+12+3:=by exact(aI (.B (.A 1)<|.A 1) Z:N [_,_] (.C (X+S+22)<|X+7+S+12+3) [])
  rw[b];exact oi<|C.a (n.B<|by exact(aj Z:N [_,_] (.A (X+S)<|X+60+S) [])) λg f K h e_ D x E=>H g f h [] K D x (aX Z) (λx_=>Z)<|E.A λo F G x_=>F.A G
 .refine oi<|Jn C n λg f b z L a_ b_ h f_ D x E=>?_;rw[I]at x;exact H g f h [⟨"ensure",z+14,z+15,L,A⟩,⟨"rescue",B,z,a_,A⟩,⟨"ensure",B,z+25,b_,A⟩] b D x (aY _) e4<|E.A λo F G c_=>(F A G c_).A
def vb:∃l,li k j=aH "seq" l:=by cases k<;>exact a1 _ Z
abbrev pC:cu:=.A (.C (.C .NotEq (.D (.A 4) "kind")<|.J "splat") (.A (.A<|.E (.A 0) "node"<|.A (.A 4) .B)<|.A (.C (.A 3) (.A .F .B)<|.A (.J 2<|.B 1) .B)<|.A .L .B) .B)<|.A .F .B
def A2(g:h 0=Y (.B a))(i:h 2=Y (.A C))(j:h 3=Y (.G M))(k:A≠"splat")(o:aV (aR d .A [.B a,aH A l,.G Q]<|ap a c e) λw m=>ak (dx (λh c=>aw (al d) pC h c) (.A 4) D ((h.A 4<|aH A l).A 2<|.A<|C+1) m) B):ak (dx (λh c=>aw (al d) pC h c) (.A 4) (aH A l::D) h<|ap a c e) B:=by
 haveI q:ak (aw (al d) pC (h.A 4<|aH A l)<|ap a c e) λf=>f.1=.C/\ak (dx (λh c=>aw (al d) pC h c) (.A 4) D f.2.1 f.2.2) B:=by refine bg (aK Z Z<|(n2 Z Z).trans<|aF Y<|aF not<|ct λb=>k<|an.A.inj b)<|dj<|eE g Z Z Z<|.D<|ak.A o λn p=>iP (show bz _ (.A 3) _ _=_ by show((h 3).map _).bind _=_;rw[j];rfl)<|gd<|ax (.A,(h.A 4<|aH A l).A 2<|.A<|C+1,n.2) ?_<|aU<|gd<|ax _ Z ⟨Z,p⟩;show(h 2).bind _=_;rw[i];rfl
 refine jA q λr b s t=>?_;obtain⟨u,v,z⟩:=r;subst s;show ak ((aw (al d) pC (h.A 4<|aH A l)<|ap a c e).bind _) B;rw[b];exact t
def Uf(G:l2 i t s w j u r)(n:aG a q c e ([],[]) 0 y<|p+62+r)(H:e.a=0)(I:∀g f(m:R kK) b A,aG a q g f (m.map jo,[]) b A p->m.length<=3->bu c e g f (λh=>h.a.c=m.map (h6 h.b)->h.a.b[b]?=Y (dS "leave")->h.a.b.length=b+1->o9 h.a t s w k x u)->v .C (ap a g f)):
 aV (aR (d+i+28) .A [.B a,iC k x j,.G Q]<|ap a c e) v:=by
 cases x
 .haveI b:d+i+28=d+6+i+22:=by exact(aI (.B (.A 1)<|.A 1) Z:N [_,_] (.C (X+S+28)<|X+6+S+22) [])
  rw[b];exact va G (n.B<|by exact(aj Z:N [_,_] (.A (X+2+60+S)<|X+62+S) [])) H λg f A m b d_ e_ C D f_=>I g f m b A (e_.B<|cU _ 2) C<|f_.A λh g_ B E F=>Uh (g_ (aX Z) B) (λo=>by rw[B,D o];rfl) E F
 .obtain⟨l,J⟩:=vb;show aV (aR (d+i+28) .A [.B a,aH "seq" [.D [aH "array" [.D [aH "int" [.A 4],li k j]]]],.G Q]<|ap a c e) v;haveI o_:=@va a q;rw[J];have n:=n.B (t:=p+1+60+r+1) (fI<|by exact(aI (.B (.A 1)<|.A 1) Z:N [_,_] (.C (X+1+60+S+1)<|X+62+S) []));haveI K:=n.F (k:=bZ "push"<|.A 4) (q:=0) (s:=1)<|mr Z;refine oi<|km Z Z Z<|aV.A Z<|dj<|eE Z Z Z Z<|aV.A Z<|eL Z Z<|ey Z ?_;refine A2 Z Z Z (ae Z)<|BL n<|A2 Z Z Z (ae Z) ?_;rw[<-J];refine va G K.1 (by show e.a-0+1=_;rw[H];rfl) λz a_ A m b d_ h_ C D i_=>ax _ Z<|bg (sl Z)<|dj<|rH Z h_ (DT Z (z3) Z) λj_ k_ l_ m_=>aU<|aU<|dj<|eE Z Z Z Z<|aV.A Z<|as Z<|aU<|aU<|I j_ k_ m (b+1) A l_ C λh n_=>?_;haveI L:=m_ h n_;haveI b_:=i_ h L.1;haveI c_:=K.2 h b_.1;exact am c_.1 λB E F=>Ug (b_.2 (aX Z) B) (λo=>by rw[B,D o];rfl) c_.2 L.2 E F
end
def i'(c:U)(d:af)(e:U->U)(b:af):Prop:=∀a,f' c d a->bD (a<b.a) (b.b a=b7 (.A (e a:U)))
abbrev u9:bk:=.b (.C .In (.D (.A 5) "op")<|.m .call) (.E (.A 5) "with_target"<|.A (.G .G<|.A (.D (.A 5) "a") .B) .B)<|.A 5
abbrev J9:cu:=.A (.B (.B [9,10])<|.I<|.A (.G .G<|.A (.D (.A 8) "first") .B)<|.A (.G .G<|.A (.D (.A 8) "last") .B) .B)
 (.A (.C (.C .Lt (.A 9)<|.A 10) (.A (.A<|.h (.A 7) .ignore<|.A (.c .G<|.A (.D (.A 8) "sort")<|.A (.A 9)<|.A (.A 10)<|.A (.G .G<|.A (.D (.A 8) "target") .B)<|.A (.D (.A 8) "depth") .B) .B)
 .B) .B)
 .B)
section
variable{d:R cn}{a c:af}{f:ci}{b:aA}{e:R kK}
def i'.A(b:i' g h i a):i' g h i<|a.B j:=λc d=>⟨il (b c d).1,(lu (b c d).1).trans (b c d).2⟩
def Ci(b:a.b g=b7 (.A h)):aR (i+2) .G [.B g] a=Y (.A h,a):=by
 haveI c:bz (al<|i+1) (.l (.A 0) .typeParameters) (bV .G [.B g]) a=Y (Q,a):=by show((iH a .typeParameters<|.B g).map _).bind _=_;rw[show iH a .typeParameters (.B g)=Y Q by show iH ⟨0,λe=>a.b g⟩ .typeParameters (.B g)=_;rw[b];rfl];rfl
 haveI d:aR (i+1) .ai_ [.B g] a=Y (.A h,a):=
  bi Z (as (aK (dw (ac Z) b Z Z) Z Z)<|a3 (dw (ac Z) b Z Z) Z)
 exact bi Z<|a3 ((cw c).trans<|aV.C<|iz (ac Z) Z b Z Z<|.B d<|am Z Z) Z
def Qv:aR (h+1) .G [.A g] a=Y (.A g,a):=bi Z<|a3 Z Z
def Ot(b:aC):dz a .In (aa b) Dp=Y (hE b):=by
 haveI d:∀c:aC,aN (an.A c=an.A b)=(b==c):=λc=>by
  by_cases e:b=c;.subst e;rw[c0 Z];exact(tF b).symm
  .rw[ct λf=>e (an.A.inj f).symm];exact(nc.2 e).symm
 show Y (aN (an.A "jump"=an.A b)||(aN (an.A "jumpif"=an.A b)||(aN (an.A "jumpunless"=an.A b)||(aN (an.A "jumpnil"=an.A b)||false))))=_;rw[d,d,d,d,oy,<-XV,<-XV];rfl
def Tr:aR (k+2) .ac_ [bq g l h i,j] a=Y (bq g j h i,a.B .B):=
 bi Z (a3 (pO Z Z Z CD) Z)
def OQ(o:d.length=7)(p:g+d.length<=a.a)(f:i' g i j a)(q:j1 (f' g i) h):∃c,ai (al<|k+2) u9 (b.A 5 h) (di g d a)=Y (fW j h,di g d c)/\i' g i j c/\a.a<=c.a:=by
 obtain⟨l,h,r,s,rfl,t⟩:=q;haveI e:bz (al<|k+2) (.C .In (.D (.A 5) "op")<|.m .call) (b.A 5<|bq l h r s) (di g d a)=Y (hE l,di g d a):=aK Z Z<|Ot l;rcases t with⟨m,u,rfl,n⟩|⟨m,v⟩;.rw[m]at e;refine cW (a.B .B) ((cw e).trans ?_) f.A<|eU _;rw[<-sn p];exact ak.D<|rI (ac Z) (av (bM Z<|Ci<|(pW<|o.symm▸n.1).trans (f u n).2) aQ) Z Z<|ax _ Tr Z
 .rw[m]at e;exact cW a ((b6 e).trans<|aF (λw=>Y (w,di g d a)) (CH v).symm) f<|aY _
def OR(o:d.length=7)(e:R V):∀{a:af},g+d.length<=a.a->i' g h i a->(∀f∈e,j1 (f' g h) f)->∃c,ek (λb a=>ai (al<|j+2) u9 b a) (λb a=>d' (al<|j+2) .B b a) (.A 5) e b (di g d a)=Y (e.map<|fW i,di g d c)/\i' g h i c/\a.a<=c.a:=by
 induction e with
 |nil=>intro a _ k _;exact cW a Z k<|aY _
 |cons f e p=>
  intro a l k m;obtain⟨q,r,s,n⟩:=OQ o l k<|m f bP;refine jA (p (br l n) s λf t=>m f<|.tail _ t) λc u v w=>?_;refine cW c ?_ v<|br n w;show(ai (al<|j+2) u9 (b.A 5 f)<|di g d a).bind _=_;rw[r];show(ek _ _ (.A 5) e b<|di g d q).bind _=_;rw[u];rfl
def J'(e:nh h<|jo g):g.b<g.a/\h g.c:=by
 obtain⟨f,i,j,k,l,m,n,o⟩:=e;have a:∀b,ai (al 0) (.D (.A 0) b) (λq=>Y<|jo g) ⟨0,λq=>.B⟩=ai (al 0) (.D (.A 0) b) (λq=>Y<|g7 f i j k l) ⟨0,λq=>.B⟩:=λq=>by rw[m]
 haveI c:=V.A.inj (tn<|cZ<|a "first").1;haveI d:=V.A.inj (tn<|cZ<|a "last").1;haveI p:=V.B.inj (tn<|cZ<|a "target").1;rw[iV]at c d;rw[c,d,p];exact am n o
def OP(F:d.length=7)(e:R kK):∀{a:af}{n:R V}{b:aA},g+d.length<=h->h<a.a->a.b h=.A n->n.length+e.length<1000->(∀o,f' g j o->o<h)->i' g j k a->(∀f∈e,nh (f' g j)<|jo f)->b 7=Y (.B h)->
 (∀c q,c.b h=.A (n++e.map λf=>jp (h6 k f).1 (h6 k f).2)->l (.A,b.B 8 q,di g d c))->ak (dx (λb a=>aw (al<|i+2) J9 b a) (.A 8) (e.map jo) b<|di g d a) l:=by
 induction e with
 |nil=>intro a n b _ _ r _ _ _ _ _ s;exact ax _ Z<|iD (b:=b)▸s a b (by rw[xa,hP];exact r)
 |cons f e G=>
  intro a n b p t r u v w x y s;refine jz (J'<|x f bP) λH z=>?_;haveI C:∀{b:aA}{A:aC}{B:ah},ai (al<|i+2) (.D (.A 8) A) b (di g d a)=Y (.A B,di g d a)->ai (al<|i+2) (.G .G<|.A (.D (.A 8) A) .B) b (di g d a)=Y (.A B,di g d a):=λm=>bM (av m aQ)<|Qv (h:=i+1);haveI D:(di g d a).b h=.A n:=(pW p).trans r;refine eS Z<|eL (fV (C Z)<|C Z) Z<|bg (aK (ac Z) (ac Z)<|mA<|ES H)<|gA<|j5 (ac y) (pO (av Z<|av (ac Z)<|av (ac Z)<|av (bM Z<|Ci<|(pW<|F.symm▸z.1).trans (w _ z).2)<|av Z aQ) Z Z zr) (h5 D<|.inl Z) ((ao<|show¬h=a.a from ed t).trans D) (D9 u)<|aU<|aU<|am Z ?_;haveI I:=br p<|qG t;rw[sn I,so p];refine G (b:=((b.A 8<|jo f).A 9<|.A f.b).A 10<|.A f.a) p (il t) mO (by rw[cs,ff];exact D' u) v (λo m=>?_) (λJ K=>x J<|.tail _ K) y λc q m=>?_;.haveI E:=w.A (j:=.B) o m;exact⟨E.1,(mP<|ed<|v o m).trans E.2⟩
  .rw[g8<|aX Z,g8<|aX Z,g8<|aX Z];exact s c q<|by rw[f2]at m;exact m
def nQ(c:ai g h b a=Y (.B i,a))(d:a.b i=.A j):ai g (.n h) b a=Y (.D j,a.A i .B):=by show(ai g h b a).bind _=_;rw[c];exact nR<|aF ke d
def A0(c:ai g h b a=Y (.D i,j)):ei g (.A h) b a=Y (i,j):=by show(ai g h b a).bind _=_;rw[c];rfl
def KJ:aR (o+1) .aq_ [.B a.a,g,h,i,j,k,l,m,n] (a.B<|.C .L [])=Y (.C,a.B<|.C .L [("kind",g),("name",h),("params",i),("slots",j),("rows",k),("catches",l),("children",m),("starts",n),("number",.C)]):=
 bi Z (em Z Z Z Z<|em Z Z Z Z<|em Z Z Z Z<|em Z Z Z Z<|em Z Z Z Z<|em Z Z Z Z<|em Z Z Z Z<|em Z Z Z Z<|em Z Z Z Z<|aU Z)
def K9(d:aG g [] i f (e.map jo,l) m n o)(B:e.length<900)(C:i' g i h i):∃c,aR (k+3) .q_ [.B<|g+1,aa "program",aa "program",.C,.D j] (di g ((iA g f).set 5 .B) i)=Y (g6 j (f.c.map<|fW h) (e.map<|h6 h)<|.D [],c):=by
 obtain⟨y,D,z,E⟩:=OR (d:=((iA g f).set 5 .B).set 2 .B) Z f.c d.a C d.j;haveI q:=br d.a E;haveI F:ei (al<|k+2) (.A<|.n<|.D (.A 0) "rows") (bV .q_ [.B<|g+1,aa "program",aa "program",.C,.D j]) (di g ((iA g f).set 5 .B) i)=Y (f.c,di g (((iA g f).set 5 .B).set 2 .B) i):=
  A0 ((nQ (dw (ac Z) (mG _<|ec Z) Z Z)<|mG _<|ec Z).trans<|by rw[pX _<|ec Z])
 have u:∀{b:aA}{a:af}{r:R cn}{s:aC}{t:V},b 0=Y (.B<|g+1)->r[1]?=Y (.C .F<|n1 g f.a)->(eF .F).contains s=Q->d1 s (n1 g f.a)=Y t->ai (al<|k+2) (.D (.A 0) s) b (di g r a)=Y (t,di g r a):=λG A H I=>dw (ac G) ((mG _ (fe.1 A).1).trans<|by rw[A];rfl) H I;haveI a_:ak (aR (k+3) .q_ [.B<|g+1,aa "program",aa "program",.C,.D j]<|di g ((iA g f).set 5 .B) i) λJ=>J.1=g6 j (f.c.map<|fW h) (e.map<|h6 h) (.D []):=by refine ak.C Z<|a' (k8 F D)<|a' (aF (λv=>Y (V.B y.a,v))<|sn q) ?_;refine ey (f:=e.map jo) (A0<|(nQ (u Z Z Z Z)<|mG _<|ec Z).trans<|by rw[pX _<|ec Z];exact aF (λv=>Y (V.D v,_)) d.d.1) ?_;refine OP Z e q (eV _) iM (by rw[m4,dG];exact e6 B<|ae Z) (λK w=>(z K w).1) z.A (λp w=>d.h _<|d.d.1▸tj w) Z λc d_ L=>?_;refine a' ((b6<|aK (cS (u Z Z Z Z) Z) Z Z).trans Z)<|a3 (f:=((di g ((((iA g f).set 5 .B).set 2 .B).set 3 .B) c).A y.a .B).B .B) ?_ Z;haveI x:(e.map<|h6 h).map (λp=>jp p.1 p.2)=e.map λp=>jp (h6 h p).1 (h6 h p).2:=hm ..;rw[x];refine pO (av Z<|av Z<|av Z<|av Z<|av Z<|av (nQ (ac Z)<|(pW q).trans L)<|av ?_<|av Z aQ) Z Z KJ;rw[so q];exact u Z Z Z Z
 refine cg a_ λb_ x c_=>?_;obtain⟨t,c⟩:=b_;subst c_;exact a1 c x
def kj(a:af)(b:U):Nat:=(((mb<|a.b b).bind λc=>(d1 "place" c.2).bind co).getD 0).toNat
def Ba(b:a.b h=b7 (.A (g:U))):kj a h=g:=by unfold kj;rw[b];exact qB g
def KI{t:R kK->U->nl->Prop}(r:∀{u:V->af->Prop},(∀c q(e:R kK) d x,aG g [] c q (e.map jo,[]) d x 1->e.length<=3->bu a f c q (t e d)->u .C (ap g c q))->aV (aR (h+4) .A [.B g,aH i j,.G Q]<|ap g a f) u):
 aV (aR (h+6) .az_ [.B g,aH i j,aa "program"]<|ap g a f) λy x_=>∃m e d,y=m.a.A/\nj m a f/\(m.a.c=e.map (h6 m.b)/\m.a.b[d]?=Y (dS "leave")/\m.a.b.length=d+1/\t e d m)/\d<2480/\∀s∈m.a.a,gI s:=by
 refine aV.A Z (let b:=bV _ _;let z:=hH _;(?_:ak (aw _ _ b _) z));refine dj<|eE Z Z Z Z<|aV.A Z<|bg (kY (c:=Q) (i:=Q) (aK (dw (ac Z) iN Z Z) Z Z) e4)<|gd<|ax _ Z ?_;refine dj<|eE Z Z Z Z<|aV.A Z<|bg Z<|dj<|eE Z Z Z Z<|r λI J e d K A B C=>aU<|aU ?_;refine dj<|rH Z A (hk Z Z Z) λk n o D=>?_;haveI v:∀{b:aA},b 0=Y (.B g)->ai (al<|h+5) (.D (.A 0) "kind") b (ap g k n)=Y (aa "program",ap g k n):=λE=>dw (ac E) iN Z Z;haveI F:i' g k (kj k) k:=λw l=>⟨l.2.1,by
  rcases l.2.2 with p|⟨p,d⟩;.exact bW (o.i w l.1 l.2.1 p)
  .rw[Ba d,d]⟩
 obtain⟨c,G⟩:=K9 o (f3 B<|ae Z) F;refine a' ((b6<|aK (v Z) Z Z).trans<|v Z)<|sA<|rI (fb Z _ _) (av (ac Z)<|av (ac Z)<|av (dw (ac Z) iN Z Z)<|av ((nQ (dw (p3 Z _ _) (c7<|ae Z) Z Z)<|c7<|ae Z).trans<|aF (λH=>Y (V.D<|n.b.map .E,H))<|pX _<|ec Z) aQ) (ux (mG _<|ec Z) Z) Z<|ax _ G<|pt ⟨⟨n.b,n.c.map<|fW<|kj k,e.map<|h6<|kj k,.D []⟩,kj k⟩ e d Z ?_;haveI p:=(C.B D) ⟨⟨n.b,n.c.map<|fW<|kj k,e.map<|h6<|kj k,.D []⟩,kj k⟩ ⟨λx_ x_ l=>l,λL a_ l=>by
  rw[tg,l];rfl,λw b_ x_ l=>Ba l,o.g.1,λs r=>by
  obtain⟨_,c_,_,_,d⟩:=o.g.2 s r;exact d⟩
 exact db p.1 (db Z p.2.2 ((bC ..).trans o.b) p.2.1) (FZ o.e.1) o.g.2
end
def af.C(a:af)(b:R cn):af:=di a.a b ⟨a.a+b.length,a.b⟩
def fy(a:R an)(c:R an):R an:=c.foldl (λa b=>if b∈a then a else a++[b]) a
abbrev C2:cu:=.A (.C (.C .NotIn (.A 3)<|.D (.A 0) "names") (.A (.A<|.h (.D (.A 0) "names") .ignore<|.A (.A 3) .B) .B) .B) .B
abbrev Bx(a:af):cn:=.C .F [("rows",.B<|a.a+2),("catches",.B<|a.a+3),("children",.D []),("starts",.D []),("line",.A 0),("height",.A 0)]
section
variable{k a:af}{h:bR}{e:aA}{f r:bk}{q:V}{g:U}{m:R<|aC×V}{n:aq}{d:R cn}{i:cO}{s:cu}{j:f7}{b c:R an}{l:aC}{p:bQ}{o:R V}
def rl:(a.C d).B t=a.C (d++[t]):=by
 refine fT (by show a.a+d.length+1=a.a+(d++[t]).length;rw[cs];rfl) λb=>?_;show(if b=a.a+d.length then t else if bD (a.a<=b) (b<a.a+d.length)then _ else a.b b)=if bD (a.a<=b) (b<a.a+(d++[t]).length)then((d++[t])[b-a.a]?).getD .B else a.b b
 rw[cs,ff];by_cases e:b=a.a+d.length;.rw[au e,e,au ⟨cU _ _,eV _⟩,xe,Yq];rfl
 .rw[ao e];by_cases c:bD (a.a<=b) (b<a.a+d.length)
  .rw[au c,au ⟨c.1,il c.2⟩,m3<|Nat.sub_lt_left_of_lt_add c.1 c.2]
  .rw[ao c,ao λf=>c ⟨f.1,YV (xf f.2) e⟩]
def o'(b:g<d.length):(a.C d).A (a.a+g) t=a.C (d.set g t):=(pX d b).trans<|by unfold af.C;rw[qD]
def kZ(b:d[g]?=Y t):(a.C d).b (a.a+g)=t:=(mG d (fe.1 b).1).trans<|by rw[b];rfl
def yU:a.B t=a.C [t]:=by haveI f:=rl (a:=a) (d:=[]) (t:=t);rw[show a.C []=a from fT Z λc=>ao λb=>Nat.not_lt_of_le b.1 b.2]at f;exact f
def hc(g:U)(c:ai h f e (a.C d)=Y (q,a.C t))(k:ai h r e (a.C t)=Y (.B<|a.a+g,a.C t))(b:t[g]?=Y (.C i m))(n:hS (m.length+1) 100=Q)(o:(eF i).contains l=Q)(p:ak (aw h s e<|a.C<|t.set g<|.C i<|h' l q m) j):ak (aw h (.A (.E r l f) s) e<|a.C d) j:=
 v9 c k (kZ b) n o (by rw[o' (fe.1 b).1];exact p)
def sf:ai h (.a Q .B) e (a.C d)=Y (.B<|a.a+d.length,a.C<|d++[.A []]):=aF (λb=>Y (V.B<|a.a+d.length,b)) rl
def Pq:aR (u+1) .aE_ [.B<|a.a+1] (a.C [t,.C .F []])=Y (.C,a.C [t,Bx a,.A [],.A []]):=
 bi Z (hc 1 sf Z Z Z Z<|hc 1 sf Z Z Z Z<|hc 1 Z Z Z Z Z<|hc 1 Z Z Z Z Z<|hc 1 Z Z Z Z Z<|hc 1 Z Z Z Z Z<|aU Z)
def SQ(c:R an):∀{b:R an}{e:aA},e 0=Y (.B<|a.a+4)->(∀g∈b,bG g=M)->(∀g∈c,bG g=M)->b.length+c.length<1000->(∀l,j (.A,e.B 3 l,a.C [t,u,v,w,.C .E [("names",.B<|a.a+5)],.A<|(fy b c).map .E]))->
 ak (dx (λe a=>aw (al<|x+1) C2 e a) (.A 3) (c.map .E) e<|a.C [t,u,v,w,.C .E [("names",.B<|a.a+5)],.A<|b.map .E]) j:=by
 induction c with
 |nil=>intro b e _ _ _ _ m;exact ax _ Z<|iD (b:=e)▸m e
 |cons d c B=>
  intro b e s n o p m;haveI y:ai (al<|x+1) (.D (.A 0) "names") (e.A 3<|.E d) (a.C [t,u,v,w,.C .E [("names",.B<|a.a+5)],.A<|b.map .E])=Y (.B<|a.a+5,a.C [t,u,v,w,.C .E [("names",.B<|a.a+5)],.A<|b.map .E]):=dw (ac s) (kZ Z) Z Z;haveI q:(a.C [t,u,v,w,.C .E [("names",.B<|a.a+5)],.A<|b.map .E]).b (a.a+5)=.A (b.map .E):=kZ Z;haveI z:=r' d n;haveI h:bz (al<|x+1) (.C .NotIn (.A 3)<|.D (.A 0) "names") (e.A 3<|.E d) (a.C [t,u,v,w,.C .E [("names",.B<|a.a+5)],.A<|b.map .E])=Y (!aN (d∈b),a.C [t,u,v,w,.C .E [("names",.B<|a.a+5)],.A<|b.map .E]):=
   aK (ac Z) y (aF (Option.map (!·))<|(u2 (o d bP) q z.1).trans<|aF Y z.2.1)
  haveI A:∀{i:R an},(if d∈b then b else b++[d])=i->(∀g∈i,bG g=M)->i.length+c.length<1000->ak (dx (λe a=>aw (al<|x+1) C2 e a) (.A 3) (c.map .E) (e.A 3<|.E d)<|a.C [t,u,v,w,.C .E [("names",.B<|a.a+5)],.A<|i.map .E]) j:=λf C D=>
   B s C (λg r=>o g<|.tail _ r) D λl=>by rw[g8<|aX Z,<-f];exact m l
  by_cases k:d∈b;.rw[c0 k]at h;exact eS Z<|as h<|aU<|am Z<|A (au k) n<|Nat.lt_of_succ_lt p
  .rw[ct k]at h;refine eS Z<|bg h<|gA<|j5 y (ac Z) (h5 q<|.inl Z) q (by rw[bC];exact D9 p)<|aU<|aU<|am Z ?_;rw[o'<|ec Z];haveI:=A (ao k) (λg r=>(ge.1 r).elim (n g) λf=>cm.1 f▸o d bP) (by rw[cs,ff];exact D' p);rw[hR]at this;exact this
def SP(d:∀b∈c,bG b=M)(e:c.length<900):aR (x+2) .aB_ [.B<|a.a+4,.D<|c.map .E,.C] (a.C [t,u,v,w,.C .E []])=Y (.C,a.C [t,u,v,w,.C .E [("names",.B<|a.a+5),("outer",.C)],.A<|(fy [] c).map .E]):=
 bi Z (hc 4 sf Z Z Z Z<|ey (fU Z)<|SQ c (b:=[]) Z (λg=>bW) d (by rw[m4,dG];exact e6 e<|ae Z) λf=>hc 4 Z Z Z Z Z<|aU Z)
def Ql:aR (t+3) .u_ [.C] a=Y (.D [],a):=bi Z<|bg Z<|a3 Z Z
def BG(b:bK h p e a=Y (o,k.C d))(c:iG i=Y n)(f:mq i=M)(g:h.a n (.B (k.a+d.length)::o) (k.C<|d++[.C i []])=Y (.C,k.C t)):ai h (.c i p) e a=Y (.B<|k.a+d.length,k.C t):=
 pP b c f (by rw[rl];exact g)
def KR(j:∀i∈c,bG i=M)(d:c.length<900):aR (t+4) .ad_ [.B a.a,.J f0,aa "program",.C,.D<|c.map .E] (a.B<|.C .K [])=Y (.C,ap a.a ⟨a.a+7,a.b⟩ ⟨[],[],fy [] c,0,[]⟩):=by
 rw[yU];haveI k:∀{e:aA}{b:cn},ai (al<|t+3) (.c .F .B) e (a.C [b])=Y (.B<|a.a+1,a.C [b,Bx a,.A [],.A []]):=BG (d:=[_]) Z Z Z<|Pq;haveI o:∀{e:aA}{b f g h:cn},e 3=Y .C->e 4=Y (.D<|c.map .E)->e 5=Y .C->ai (al<|t+3) (.c .E<|.A (.K .ignore (.G .u_<|.A (.A 3) .B)<|.L .error<|.A 4)<|.A (.A 5) .B) e (a.C [b,f,g,h])=Y (.B<|a.a+4,a.C [b,f,g,h,.C .E [("names",.B<|a.a+5),("outer",.C)],.A<|(fy [] c).map .E]):=λl m n=>
  BG (d:=[_,_,_,_]) (av (bL (bM (av (ac l) aQ)<|Ql (t:=t)) (cS (ac m) Z)<|gp<|by rw[bC,m4,dG];exact br (qG d)<|aX Z)<|av (ac n) aQ) Z Z (SP j d)
 exact bi Z<|hc 0 Z Z Z Z Z<|hc 0 Z Z Z Z Z<|hc 0 Z Z Z Z Z<|hc 0 k Z Z Z Z<|hc 0 (o Z Z Z) Z Z Z Z<|hc 0 sf Z Z Z Z<|aU Z
def K4(c:R an):∀b:R an,b.Nodup->(fy b c).Nodup/\∀d,d∈fy b c<->d∈b\/d∈c:=by
 induction c with
 |nil=>exact λb a=>am a λd=>⟨.inl,λa=>a.elim id bW⟩
 |cons e c i=>
  intro b a;by_cases h:e∈b;.have g:=i b a;rw[show fy b (e::c)=fy b c from aF (fy · c)<|au h];exact am g.1 λd=>(g.2 d).trans ⟨λa=>a.imp id<|.tail _,λa=>a.elim .inl λa=>(bj.1 a).elim (λf=>.inl<|f▸h) .inr⟩
  .have g:=i (b++[e])<|tk.2 ⟨a,fg.2 ⟨bW,.nil⟩,λl j m k f=>h<|by rw[<-cm.1 k,<-f];exact j⟩;rw[show fy b (e::c)=fy (b++[e]) c from aF (fy · c)<|ao h];exact am g.1 λd=>(g.2 d).trans<|by rw[ge,cm,bj,or_assoc]
end
def hV(b:U)(c:V)(d:R V):Prop:=∀(e:U)(a:af),aR (e+b) .H_ [c] a=Y (.D d,a)
def fi(b:U):R V->R V->Prop
 |[],a=>a=[]
 |e::f,a=>bE λc d=>a=c++d/\hV b e c/\fi b f d
section
variable{a:R V}
def hV.A(f:hV b d a)(g:b<=c):hV c d a:=λe h=>by haveI:=f (e+(c-b)) h;rwa [show e+(c-b)+b=e+c by exact W8 g]at this
def fi.B:∀{e f:R V}{a c:R V},fi b e a->fi b f c->fi b (e++f) (a++c):=by
 intro g
 induction g with
 |nil=>exact @λm m m h d=>by rw[show _=_ from h];exact d
 |cons _ _ i=>exact @λ_ _ _⟨a,c,j,k,l⟩ d=>⟨a,c++_,by rw[j,f2],k,i l d⟩
def gR:hV 1 (aH b c) [aH b c]:=λa d=>bi Z<|bg Z<|a3 Z Z
def Ha(a:V):Prop:=a=.C\/(∃b,a=.G b)\/(∃c,a=.A c)\/∃d,a=.E d
def fo(a:Ha b):hV 1 b []:=λc d=>by rcases a with rfl|⟨e,rfl⟩|⟨f,rfl⟩|⟨g,rfl⟩<;>exact bi Z<|as Z<|a' Z<|iP Z<|as Z<|aU<|a3 Z Z
def PT(g:R V):∀{a f:R V}{e:aA},fi c g a->f.length+a.length<100000->e 1=Y (.D f)->
 ak (dx (λe b=>aw (al<|d+c) (.A (.B (.A 1)<|.K .ignore (.A 1)<|.G .H_<|.A (.A 2) .B) .B) e b) (.A 2) g e b) λh=>h.1=.A/\h.2.1 1=Y (.D<|f++a)/\h.2.2=b:=by
 induction g with
 |nil=>intro a f e i _ j;exact dZ _ Z Z (by rw[show a=[]from i,hP];exact j) Z
 |cons m g n=>
  intro a f e i k j;obtain⟨o,p,rfl,l⟩:=i;rw[cs]at k;refine eS Z<|a' (bL (ac j) (bM (av (ac Z) aQ)<|l.1 d b)<|gp<|Ea k)<|aU<|am Z ?_;haveI:=n (e:=(e.A 2 m).A 1<|.D<|f++o) l.2 (by rw[cs];exact Eb k) Z;rw[f2]at this;exact this
def ie(i:fi d b a)(j:a.length<90000)(k:c=.D b\/c=.F b):hV (d+1) c a:=λl m=>by
 have e:=λn o=>PT (d:=l) (b:=m) b (e:=n) i (by rw[m4];exact(aj Z:N [_] (.B (0+X) 100000) [.B X 90000]) j) o;rcases k with rfl|rfl;.refine bi Z<|as Z<|a' Z<|iP Z<|bg Z<|ey Z<|(e _ Z).A λf g=>?_;clear e;obtain⟨p,q,r⟩:=f;obtain⟨rfl,h,rfl⟩:=g;exact aU<|aU<|a3 (ac h) Z
 .refine bi Z<|as Z<|a' Z<|iP Z<|bg Z<|ey Z<|(e _ Z).A λf g=>?_;clear e;obtain⟨p,q,r⟩:=f;obtain⟨rfl,h,rfl⟩:=g;exact aU<|aU<|a3 (ac h) Z
def vo(e:∀a∈b,bE λc d=>a=aH c d):fi 1 b b:=by
 induction b with
 |nil=>rfl
 |cons a b f=>
  refine bE.A (e a bP) λc d g=>?_;subst g;exact⟨[_],b,aL Z gR<|f λh i=>e h<|cx _ i⟩
end
def nn(c:V)(a:R an):Prop:=(∀d∈a,eX d)/\∀(e:U)(b:af),aR (e+1) .F_ [c] b=Y (.D<|a.map .E,b)
def n':R V:=[aa "def",aa "class",aa "module",aa "sclass",aa "block",aa "lambda"]
def yc(c:V)(e:R V):Prop:=cy λa b f d=>c=aH a b/\nn c f/\a≠"t_local"/\dJ (.A a) n'=M/\bn (.A a) kd=Y (.F d)/\d.length=b.length/\fi 4 b e
inductive hx:U->R V->Prop
 |A:hx 0 []
 |o8 {a:V} {b c:R V} {d e:U}:yc a b->hx d b->hx e c->hx (d+e+1) (a::c)
section
variable{b:af}{d:R V}{a c:R an}
def hx.C(b:hx e d)(c:hx f g):hx (e+f)<|d++g:=by
 induction b with
 |A=>rw[dG];exact c
 |@o8 k l m e a h i _ _ j=>
  rw[show e+a+1+f=e+(a+f)+1 by exact(aI (.B (.A 1)<|.A 1) Z:N [_,_,_] (.C (X+S+1+O)<|X+(S+O)+1) [])];exact .o8 h i j
def hx.B(a:hx e d):d.length<=e:=by
 induction a with
 |A=>exact aY _
 |@o8 c f g e h _ _ _ _ b=>rw[dd];exact jM<|br b<|qF _ _
def hq(a:R an):Prop:=a.Nodup/\∀b∈a,eX b
def hq.A(c:hq a):a.length<=57:=pR c.1 (d:=jD) λd e=>by refine jz (c.2 d e) λf g=>?_;obtain⟨_,h,_,_,b⟩:=f;exact b.resolve_left λb=>by rw[g.1]at b;exact bx b
def hq.B(c:hq a)(d:eX e)(f:e∉a):hq<|a++[e]:=am (tk.2 ⟨c.1,by simp,λk g l h i=>f<|by rw[<-cm.1 h,<-i];exact g⟩) λj b=>by
 refine b1 (ge.1 b) (λb=>?_) λb=>?_;.exact c.2 j b
 .rw[cm.1 b];exact d
def NP(c:R an):∀{a:R an}{d:aA}{k:f7},hq a->(∀l∈c,eX l)->d 1=Y (.B b.a)->(∀n j,(∀h,h<5->n h=d h)->hq j->k (.A,n,b.C [.A<|j.map .E,.A e]))->
 ak (dx (λd b=>aw f (.A (.C (.C .NotIn (.A 5)<|.A 1) (.A (.A<|.h (.A 1) .ignore<|.A (.A 5) .B) .B) .B) .B) d b) (.A 5) (c.map .E) d<|b.C [.A<|a.map .E,.A e]) k:=by
 induction c with
 |nil=>intro a d k i _ _ q;exact ax _ Z<|q d a (λD D=>Z) i
 |cons g c y=>
  intro a d k i u r q;have v:=u g bP;have z:∀h,h<5->(d.A 5<|.E g) h=d h:=λh o=>ao<|wE o;have s:(b.C [.A<|a.map .E,.A e]).b b.a=.A (a.map .E):=kZ (g:=0) Z;have w:=r' g λl t=>(i.2 l t).1.1;have p:bz f (.C .NotIn (.A 5)<|.A 1) (d.A 5<|.E g) (b.C [.A<|a.map .E,.A e])=Y (!aN (g∈a),b.C [.A<|a.map .E,.A e]):=by
   refine aK (ac Z) (ac r) ?_;haveI A:nS (b.C [.A<|a.map .E,.A e]) (.E g) (.B b.a)=Y (aN<|g∈a):=by exact(u2 v.1.1 s w.1).trans<|aF Y w.2.1
   show(nS _ (.E g)<|.B b.a).map _=_;rw[A];rfl
  have x:∀{j:R an},hq j->ak (dx (λd b=>aw f (.A (.C (.C .NotIn (.A 5)<|.A 1) (.A (.A<|.h (.A 1) .ignore<|.A (.A 5) .B) .B) .B) .B) d b) (.A 5) (c.map .E) (d.A 5<|.E g)<|b.C [.A<|j.map .E,.A e]) k:=λB=>
   y B (λl t=>u l<|cx _ t) r λn j m i=>q n j (λh o=>(m h o).trans<|z h o) i
  by_cases m:g∈a;.rw[c0 m]at p;exact eS Z<|as p<|aU<|am Z<|x i
  .rw[ct m]at p;refine eS Z<|bg p<|gA<|j5 (ac r) (ac Z) (h5 s<|.inl Z) s (by rw[bC];haveI:=i.A;exact(aj Z:N [_] (.B X 1000000) [.A X 57]) this)<|aU<|aU<|am Z ?_;haveI C:(b.C [.A<|a.map .E,.A e]).A b.a (.A<|a.map .E++[.E g])=b.C [.A<|(a++[g]).map .E,.A e]:=(o' (g:=0)<|ec Z).trans (by rw[hR];rfl);rw[C];exact x<|i.B v m
end
abbrev Ui:cu:=match eP 1 (bp .D_).b with
 |.A (.I _ a) _=>(match eP 4 a with|.A (.G _ _ a) _=>a|_=>.B)
 |_=>.B
abbrev Ue:cu:=match eP 1 (bp .D_).b with
 |.A (.I _ a) _=>a
 |_=>.B
section
variable{a g:af}{h b d f e:R V}{c:R an}
def Uj(y:dJ (.A i) n'=M)(v:V)(q:∃b,v=aH i b):∀(b e:R V){f c:R V}{d:aA},e.length=b.length->fi 4 b f->c.length+f.length<100000->d 3=Y v->d 6=Y (.D c)->∀{m:f7},(∀k,(∀g,g<5->k g=d g)->k 6=Y (.D<|c++f)->m (.A,k,a))->
 ak (dx (λd a=>aw (al<|j+4) Ui d a) (.B [5,7]) (eJ e b) d a) m:=by
 intro b;refine a8 q λG z=>?_;subst z
 induction b with
 |nil=>
  intro e f c d n r _ s l m t;cases e with
  |nil=>exact ax _ Z<|t d (λK K=>Z)<|by rw[show f=[]from r,hP];exact l
  |cons=>cases n
 |cons o b A=>
  intro e f c d n r u s l m t;cases e with
  |nil=>cases n
  |cons p e=>
   obtain⟨w,H,rfl,x⟩:=r;rw[cs]at u;haveI B:∀g,g<5->(((d.A 5 p).A 7 o).A 6<|.D<|c++w) g=d g:=λg h=>(ao<|D1 h).trans<|(ao<|D0 h).trans<|ao<|wE h;haveI C:ai (al<|j+4) (.D (.A 3) "kind") ((d.A 5 p).A 7 o) a=Y (aa i,a):=by show((d 3).map _).bind _=_;rw[s];rfl
   haveI D:dz a .NotIn (aa i) Dq=Y true:=by show(Y<|dJ (.A i) n').map _=_;rw[y];rfl
   haveI F:bz (al<|j+4) (.j<|.A (.C .NotIn (.D (.A 3) "kind")<|.m .print)<|.A (.C .In (.A 5)<|.I<|.A (.J "singleton")<|.A (.J "superclass") .B)<|.A (.f<|.A (.C .Eq (.D (.A 3) "kind")<|.J "sclass")<|.A (.C .Eq (.A 5)<|.J "value") .B) .B) ((d.A 5 p).A 7 o) a=Y (Q,a):=
    kY (i:=Q) (aK C Z D) λE=>by exact e4 E
   refine eS Z<|bg F<|a' (bL (ac l) (bM (av (ac Z) aQ)<|x.1 j a)<|gp<|Ea u)<|aU<|aU<|am Z ?_;refine A e (d:=((d.A 5 p).A 7 o).A 6<|.D<|c++w) (qH n) x.2 (by rw[cs];exact Eb u) s Z λk q l=>t k (λg h=>(q g h).trans<|B g h) ?_;rw[<-f2];exact l
def O6:∀(m:U){d:R V}{c:R an}{n:U}{g:aA},hx m d->m<n->m<90000->hq c->g 1=Y (.B a.a)->g 2=Y (.B<|a.a+1)->∀{q:f7},(∀v j,hq j->v 1=Y (.B a.a)->q (.A,v,a.C [.A<|j.map .E,.A []]))->
 ak (jw (λg a=>bz (al<|i+5) (.A 2) g a) (λg a=>aw (al<|i+5) Ue g a) n g<|a.C [.A<|c.map .E,.A d.reverse]) q:=by
 intro m
 induction m using Nat.strongRecOn with
 |ind m J=>
  intro d c n g K w p x r s q y;have z:∀{d:R V},bz (al<|i+5) (.A 2) g (a.C [.A<|c.map .E,.A d])=Y (!d.isEmpty,a.C [.A<|c.map .E,.A d]):=λ{d}=>by
   show((g 2).map _).bind _=_;rw[s];show(hf (a.C [.A<|c.map .E,.A d])<|.B<|a.a+1).map _=_;rw[show hf (a.C [.A<|c.map .E,.A d]) (.B<|a.a+1)=Y (!d.isEmpty)from by show(((e9<|(a.C [.A<|c.map .E,.A d]).b<|a.a+1).or ab).map _).or _=_;rw[kZ Z];rfl]
   rfl
  obtain⟨n,rfl⟩:∃L,n=L+1:=a1 (n-1) (by exact W9 p w);cases K with
  |A=>exact DR z<|y g c x r
  |@o8 s_ f d a_ b_ c_ A B=>
   have C:=A.B;haveI d_:=B.B;obtain⟨h,b,D,e,rfl,⟨e_,f_⟩,o⟩:=c_;haveI E:=z (d:=(aH h b::d).reverse);rw[show(!(aH h b::d).reverse.isEmpty)=Q by rw[List.isEmpty_reverse];rfl]at E;refine DS E ?_;haveI g_:ai (al<|i+5) (.h (.A 2) .warn .B) g (a.C [.A<|c.map .E,.A (aH h b::d).reverse])=Y (aH h b,a.C [.A<|c.map .E,.A d.reverse]):=by rw[Cm (ac s)<|(kZ Z).trans<|by rw[oE],o'<|ec Z];rfl
   refine a' g_ ?_;haveI h_:∀{a:af},ai (al<|i+5) (.D (.A 3) "kind") (g.A 3<|aH h b) a=Y (aa h,a):=Z;haveI i_:ai (al<|i+5) (.b (.C .Eq (.D (.A 3) "kind")<|.J "t_local") (.a M<|.A (.F (.D (.A 3) "parts")<|.B 0) .B)<|.G .F_<|.A (.A 3) .B) (g.A 3<|aH h b) (a.C [.A<|c.map .E,.A d.reverse])=Y (.D<|D.map .E,a.C [.A<|c.map .E,.A d.reverse]):=
    (b6<|aK h_ Z<|(h7 _ _).trans<|aF Y<|ct o.1).trans (bM Z<|f_ (i+4) _)
   refine a' i_<|ey (fU<|ac Z)<|NP D x e_ r λk j t j_=>?_;have k_:k 1=Y (.B a.a):=(t 1<|ae Z).trans r;have l_:k 2=Y (.B<|a.a+1):=(t 2<|ae Z).trans s;have u:k 3=Y (aH h b):=t 3<|ae Z;have m_:ei (al<|i+5) (.E (.F (.m .ignore)<|.D (.A 3) "kind")<|.D (.A 3) "parts") (k.A 6<|.D []) (a.C [.A<|j.map .E,.A d.reverse])=Y (eJ e b,a.C [.A<|j.map .E,.A d.reverse]):=by
    have n_:∀{a:af},ai (al<|i+5) (.F (.m .ignore)<|.D (.A 3) "kind") (k.A 6<|.D []) a=Y (.F e,a):=λ{a}=>by show(((((k 3).map _).bind _)).bind _)=_;rw[u];show((if bG (.A h)then ab else bn (.A h) kd:aD V).or _).map _=_;rw[ao<|show¬bG (.A h)=Q from dy,o.2.2.1];rfl
    haveI o_:∀{a:af},ai (al<|i+5) (.D (.A 3) "parts") (k.A 6<|.D []) a=Y (.F b,a):=λ{a}=>by show((k 3).map _).bind _=_;rw[u];rfl
    show(ai _ (.F (.m .ignore)<|.D (.A 3) "kind") _ _).bind _=_;rw[n_];show(ai _ (.D (.A 3) "parts") _ _).bind _=_;rw[o_];rfl
   refine a' Z<|ey m_<|Uj o.2.1 (aH h b) (a1 b Z) b e (d:=k.A 6<|.D []) o.2.2.2.1 o.2.2.2.2 (by rw[m4];exact(aj Z:N [_,_,_] (.B (0+X) 100000) [.B (S+O+1) 90000,.A X S]) p C) u Z λl F G=>?_;rw[List.nil_append]at G;haveI p_:l 1=Y (.B a.a):=(F 1<|ae Z).trans k_;haveI H:l 2=Y (.B<|a.a+1):=(F 2<|ae Z).trans l_;have I:(a.C [.A<|j.map .E,.A d.reverse]).b (a.a+1)=.A d.reverse:=kZ Z;haveI r_:ai (al<|i+5) (.h (.A 2) .raise<|.A (.q M<|.A 6) .B) l (a.C [.A<|j.map .E,.A d.reverse])=Y (.C,a.C [.A<|j.map .E,.A (f++d).reverse]):=by
    show(ai _ (.A 2) l _).bind _=_;rw[ac H];show(if k1 _ .raise (.B<|a.a+1)then(bK _ (.A (.q M<|.A 6) .B) l _).bind _ else ab)=_;rw[au<|h5 I<|.inr<|.inr<|.inl Z];haveI q_:ai (al<|i+5) (.q M<|.A 6) l (a.C [.A<|j.map .E,.A d.reverse])=Y (.D f.reverse,a.C [.A<|j.map .E,.A d.reverse]):=by show((l 6).map _).bind _=_;rw[G];rfl
    rw[av q_ aQ];show jl _ .raise (.B<|a.a+1) [.D f.reverse]=_;rw[JH I<|by rw[th,th];exact(aj Z:N [_,_,_,_] (.A (X+S) 1000000) [.B (O+ag+1) 90000,.A S O,.A X ag]) p C d_,o'<|ec Z,List.reverse_append];rfl
   refine v6 r_<|aU ?_;exact J (a_+b_) ((aj Z:N [_,_] (.B (X+S)<|X+S+1) [])) (A.C B) ((aj Z:N [_,_,_] (.B (X+S) O) [.B (X+S+1)<|O+1]) w) ((aj Z:N [_,_] (.B (X+S) 90000) [.B (X+S+1) 90000]) p) j_ p_ H y
def Ro(b:ai i j k a=Y (.D h,g)):ai i (.q Q j) k a=Y (.B g.a,g.B<|.A h.reverse):=by show((cc i j).a k a).bind _=_;rw[show(cc i j).a k a=Y (.D h,g)from b];rfl
def O5(m:hx j [k])(f:j<90000)(n:bE λd b=>k=aH d b):bE λc g=>hq c/\aR (i+6) .D_ [k] a=Y (.D<|c.map .E,g)/\cb a g:=by
 refine bE.A n λd b o=>?_;subst o;haveI s:ak (aR (i+6) .D_ [aH d b] a) λh=>∃c,hq c/\h.1=.D (c.map .E)/\cb a h.2:=by
  haveI p:(a.B<|.A []).B (.A [aH d b])=a.C [.A<|([]:R an).map .E,.A [aH d b].reverse]:=by rw[yU (a:=a),rl];rfl
  refine ak.C Z<|eL (e:=.F [.B a.a,.B<|a.a+1]) (f:=(a.B<|.A []).B<|.A [aH d b]) (cB<|av Z<|av ?_ aQ) Z ?_;.exact Ro<|bM (h:=.H_) (a:=al<|i+5) (f:=[aH d b]) Z<|gR (i+4)<|a.B<|.A []
  .rw[p];refine C'<|O6 j m (V9 f) f (am iW λy q=>bW q) Z Z λv c e r=>?_;refine a3 (nQ (ac r)<|kZ (g:=0) Z)<|cW c e Z ⟨cU _ _,λw l=>?_⟩;exact(mP<|ed l).trans<|ao<|UH l
 obtain⟨⟨x,g⟩,t,c,e,rfl,u⟩:=s;exact⟨c,g,aL e t u⟩
end
section
variable{a:V}
def fi.A:∀{a d:R V},fi b a d->b<=c->fi c a d:=by
 intro f
 induction f with
 |nil=>exact @λn g n=>g
 |cons _ _ h=>exact @λ_⟨i,j,k,l,m⟩ e=>⟨i,j,k,l.A e,h m e⟩
def kq(a:bD (b≠"p_bind")<|bD (b≠"p_as")<|bD (b≠"p_array")<|b≠"p_hash"):nn (aH b c) []:=by refine am (λi a=>bW a) λg e=>?_;haveI d:∀{f:aC}{e:af},b≠f->bz (al g) (.C .Eq (.D (.A 0) "kind")<|.J f) (bV .F_ [aH b c]) e=Y (M,e):=λh=>aK Z Z<|(h7 _ _).trans<|aF Y<|ct h;exact bi Z<|as (d a.1)<|as (d a.2.1)<|as (d a.2.2.1)<|as (d a.2.2.2)<|a3 Z Z
def Ck(a:eX b):nn (aH "p_bind" [.E b]) [b]:=am (λd c=>cm.1 c▸a) λe f=>bi Z<|bg Z<|a3 Z Z
def QB(a:eX b):nn (aH "p_as" [c,.E b]) [b]:=am (λe d=>cm.1 d▸a) λf g=>bi Z<|as Z<|bg Z<|a3 Z Z
def QA(e:l0 b):∃i,nn (aH "p_array" [c,d,b,a]) i:=by
 rcases e with rfl|rfl|⟨g,rfl,e⟩;.exact ax ([]) (λl e=>bW e) λh f=>bi Z<|as Z<|as Z<|bg Z<|a3 Z Z
 .exact ax ([]) (λl e=>bW e) λh f=>bi Z<|as Z<|as Z<|bg Z<|a3 Z Z
 .refine ax ([g]) (λk j=>cm.1 j▸e) λh f=>bi Z<|as Z<|as Z<|bg Z<|a3 ((cw ?_).trans Z) Z;show Y (aN<|g≠.A "",f)=_;rw[c0 e.2.2.2.1]
def QC(w:∀a∈b,eX<|.A a.a)(x:b.length<=10)(k:jb c):∃l,nn (aH "p_hash" [d,.D<|(gu b).map bs,ha c]) l:=by
 haveI z:∀(g:U)(f:af),ai (al g) (.d M (.A 1) (.B [1,2]) (.A<|.F (.D (.A 0) "parts")<|.B 1)<|.A (.C .Is (.A 2) .H) .B) (bV .F_ [aH "p_hash" [d,.D<|(gu b).map bs,ha c]]) f=Y (.D<|((gu b).filter λe=>bH e.2).map λe=>aa e.1,f):=λg f=>by refine k7 Z ?_;exact mg (gu b) λy u=>cW _ Z (py<|aK (ac Z) Z Z) λG=>ac Z
 have q:∀i∈((gu b).filter λe=>bH e.2).map (λe=>an.A e.1),eX i:=λi m=>by obtain⟨y,u,rfl⟩:=d4.1 m;obtain⟨a,A,rfl⟩:=d4.1 (FN.1 u).1;exact w a A
 haveI B:(((gu b).filter λe=>bH e.2).map λe=>an.A e.1).map V.E=((gu b).filter λe=>bH e.2).map λe=>aa e.1:=by rw[hm];rfl
 haveI C:(((gu b).filter λe=>bH e.2).map λe=>aa e.1).length<=b.length:=by rw[bC];exact br (FK _ _)<|fI<|bC ..
 have r:∀{l:R an},(∀(g:U)(f:af)(h:aA),h 4=Y (ha c)->ai (al g) (.b (.f<|.A (.l (.A 4) .module)<|.A (.A 4) .B) (.a M<|.A (.A 4) .B)<|.a M .B) h f=Y (.D<|l.map .E,f))->l.length<=1->
  ∀(g:U)(f:af),aR (g+1) .F_ [aH "p_hash" [d,.D<|(gu b).map bs,ha c]] f=Y (.D<|(((gu b).filter λe=>bH e.2).map (λe=>an.A e.1)++l).map .E,f):=λ{l} k D g f=>by
  rw[hR,B];exact bi Z<|as Z<|as Z<|as Z<|bg Z<|a' (z g f)<|a' Z<|a3 (bL (ac Z) (k g f _ Z)<|gp<|by rw[bC (as:=l)];exact(aj Z:N [_,_,_] (.A (X+S) 1000000) [.A S 1,.A O 10,.A X O]) D x C) Z
 haveI t:∀{g:U}{f:af}{h:aA}{p:V}{s:aE},h 4=Y p->iH f .module p=Y s->bz (al g) (.l (.A 4) .module) h f=Y (s,f):=λ{g f h p s} j E=>by show(((h 4).map _).bind _).bind _=_;rw[j];show((iH f .module p).map _).bind _=_;rw[E];rfl
 rcases k.A with⟨_,n,_⟩|⟨_,n,_⟩|⟨i,_,n,_,v⟩;.exact ax _ (λi m=>q i<|by rw[hP]at m;exact m)<|r (λg f h j=>(b6<|fw<|cJ (i:=Q) (t (j.trans<|aF Y n) Z) λk=>by exact bx k).trans Z)<|aX Z
 .exact ax _ (λi m=>q i<|by rw[hP]at m;exact m)<|r (λg f h j=>(b6<|fw<|cJ (i:=Q) (t (j.trans<|aF Y n) Z) λk=>by exact bx k).trans Z)<|aX Z
 .refine ax _ (λF o=>?_) (r (l:=[i]) (λg f h j=>(cw<|fw<|cJ (t (j.trans<|aF Y n) Z) λG=>cJ (c:=Q) (i:=Q) ?_ λG=>ml).trans ?_)<|aY 1)
  .refine b1 (ge.1 o) (λo=>?_) λo=>?_
   .exact q F o
   .exact cm.1 o▸v
  .show((h 4).map _).bind _=_;rw[j,n];show Y (aN<|i≠.A "",f)=_;rw[c0 v.2.2.2.1]
  .exact iI<|av (ac<|j.trans<|aF Y n) aQ
end
def bN(b:U)(c:R V):Prop:=∃a,a<=b/\hx a c
section
variable{a:V}{b:R V}
def bN.B(a:bN c b)(e:c<=d):bN d b:=by refine cg a λf g h=>?_;exact ax f (br g e) h
def bN.C:bN 0 []:=ax 0 (aY _)<|.A
def bN.A(g:bN c d)(h:bN e f):bN (c+e)<|d++f:=by refine a8 g λi a=>?_;refine a8 h λj b=>?_;exact ax (i+j) (by exact Wq a.1 b.1)<|a.2.C b.2
def bN.D(e:yc a c)(f:bN d c):bN (d+1) [a]:=by refine a8 f λg b=>?_;exact ax (g+0+1) (by exact(aj Z:N [_,_] (.A (X+0+1)<|S+1) [.A X S]) b.1)<|.o8 e b.2 .A
def bN.E(d:bN c b):b.length<=c:=by refine a8 d λe a=>?_;exact br a.2.B a.1
def BW:bN 1 [aH "const" [.C,aa c]]:=bN.D ⟨_,_,[],_,ej Z (kq<|ae Z) (ae Z) Z Z Z ⟨[],[],Z,(fo<|.inl Z).A<|aX Z,[],[],Z,(fo<|.inr<|.inr<|.inr<|a1 _ Z).A<|aX Z,Z⟩⟩ .C
def pS:bN 1 [aH "int" [.A c]]:=bN.D ⟨_,_,[],_,ej Z (kq<|ae Z) (ae Z) Z Z Z ⟨[],[],Z,(fo<|.inr<|.inr<|.inl<|a1 _ Z).A<|aX Z,Z⟩⟩ .C
def vx:bN 1 [aH "lvar" [.E c]]:=bN.D ⟨_,_,[],_,ej Z (kq<|ae Z) (ae Z) Z Z Z ⟨[],[],Z,(fo<|.inr<|.inr<|.inr<|a1 _ Z).A<|aX Z,Z⟩⟩ .C
def vy(b:bD (c≠"p_bind")<|bD (c≠"p_as")<|bD (c≠"p_array")<|c≠"p_hash")(g:c≠"t_local")(h:dJ (.A c) n'=M)(i:bn (.A c) kd=Y (.F [a]))(j:bN d [aH e f]):bN (d+1) [aH c [aH e f]]:=
 bN.D ⟨_,_,[],_,ej Z (kq b) g h i Z ⟨[_],[],Z,gR.A<|aX Z,Z⟩⟩ j
def Bf(a:kR e c f d):bN d [c]:=by
 rcases a with⟨b,g,rfl,rfl,rfl,rfl⟩|⟨h,i,j,rfl,rfl,rfl,rfl⟩|⟨k,l,rfl,rfl,rfl,rfl⟩|⟨rfl,rfl,rfl,rfl⟩;.exact(bN.D ⟨_,_,[b],_,ej Z (Ck g) (ae Z) Z Z Z ⟨[],[],Z,(fo<|.inr<|.inr<|.inr<|a1 _ Z).A<|aX Z,Z⟩⟩ .C).B<|aX Z
 .exact(vy (ae Z) (ae Z) Z Z BW).B<|aX Z
 .exact(vy (ae Z) (ae Z) Z Z pS).B<|aX Z
 .exact(vy (ae Z) (ae Z) Z Z vx).B<|aX Z
def AH(b:hr c):∃a,hV 1 (g' c) a/\bN 1 a:=by
 rcases b with rfl|⟨d,rfl,_⟩;.exact ax ([]) (fo<|.inl Z)<|bN.C.B<|aX Z
 .exact ax _ gR BW
def Cp(b:∀a∈c,bN a.c [a.b]):bN (cr c)<|c.map (·.b):=by
 induction c with
 |nil=>exact .C
 |cons a c d=>exact((b a bP).A<|d λe f=>b e<|cx _ f).B<|by show a.c+cr c<=a.c+4+cr c;exact(aj Z:N [_,_] (.A (X+S)<|X+4+S) [])
def NC(h:∀a∈c,a.b=.C\/(bN a.d [a.b]/\bE λf g=>a.b=aH f g)):∃b,fi 2 ((gu c).map bs) b/\bN (fY c) b:=by
 induction c with
 |nil=>exact ax ([]) Z<|.C
 |cons a c j=>
  refine a8 (j λk l=>h k<|cx _ l) λb d=>?_;have i:hV 1 (aa a.a) []:=fo<|.inr<|.inr<|.inr<|a1 _ Z;rcases h a bP with e|⟨m,f,g,e⟩;.refine ax ([]++b) ⟨[],b,aL Z (ie (b:=[aa a.a,a.b]) ⟨[],[],aL Z i ⟨[],[],Z,?_,Z⟩⟩ (ae Z)<|.inr Z) d.1⟩ (d.2.B<|by show fY c<=a.d+8+fY c;exact(aj Z:N [_,_] (.A X<|S+8+X) []));rw[e];exact fo<|.inl Z
  .refine ax ([a.b]++b) ⟨[a.b],b,aL Z (ie (b:=[aa a.a,a.b]) ⟨[],[a.b],aL Z i ⟨[a.b],[],Z,?_,Z⟩⟩ (show 1<90000 by decide)<|.inr Z) d.1⟩ ((m.A d.2).B<|by show a.d+fY c<=a.d+8+fY c;exact(aj Z:N [_,_] (.A (X+S)<|X+8+S) []));rw[e];exact gR
def NN:∀(h:U){x o:V}{y m:U},dt h x o y m->m<80000->bN m [o]:=by
 intro h
 induction h with
 |zero=>exact λd x_=>Bf d
 |succ h f=>
  intro x o y m d e;rcases d with d|⟨c_,d_,e_,f_,l_,m_,n_,o_,i,z,rfl,rfl,rfl,rfl⟩|⟨c_,d_,e_,f_,p,i,g_,rfl,rfl,rfl,rfl⟩|⟨h_,p_,c,A,q,j,B,k,C,rfl,rfl,rfl,rfl⟩|⟨h_,q_,g,q,j,B,k,rfl,rfl,rfl,rfl⟩;.exact Bf d
  .obtain⟨_,D,E,rfl⟩:=jr i;obtain⟨_,F,G,rfl⟩:=jr z;exact bN.D ⟨_,_,[],_,ej Z (kq<|ae Z) (ae Z) Z Z Z ⟨[_,_],[],Z,(ie (vo (b:=[aH D E,aH F G]) λa b=>by
    rcases bj.1 b with rfl|b;.exact⟨_,_,Z⟩
    .exact⟨F,G,cm.1 b⟩) (show 2<90000 by decide)<|.inl Z).A<|aX Z,Z⟩⟩<|(f i<|(aj Z:N [_,_] (.B X 80000) [.B (X+S+1) 80000]) e).A<|f z<|(aj Z:N [_,_] (.B X 80000) [.B (S+X+1) 80000]) e
  .obtain⟨_,D,E,rfl⟩:=jr i;exact(bN.D ⟨_,_,[p],_,ej Z (QB g_) (ae Z) Z Z Z ⟨[_],[],Z,gR.A<|aX Z,[],[],Z,(fo<|.inr<|.inr<|.inr<|a1 _ Z).A<|aX Z,Z⟩⟩<|f i<|(aj Z:N [_] (.B X 80000) [.B (X+3) 80000]) e).B<|(aj Z:N [_] (.A (X+1)<|X+3) [])
  .refine a8 (AH q) λr H=>?_;obtain⟨s,t⟩:=QA (a:=.D<|A.map (·.b)) j;haveI n:∀{c:R bU},∀a∈c,a.c<=cr c:=λ{c} a b=>by
    induction c with
    |nil=>exact bW b
    |cons u c v=>
     rcases bj.1 b with rfl|b;.exact Ec
     .haveI:=v b;exact Ed this
   have I:=Cp λa b=>f (k a b) (by have:=n a b;exact(aj Z:N [_,_,_] (.B X 80000) [.B (31+S+O) 80000,.A X S]) e this);have J:=Cp λa b=>f (C a b) (by haveI:=n a b;exact(aj Z:N [_,_,_] (.B X 80000) [.B (31+S+O) 80000,.A X O]) e this);haveI K:∀{c:R bU},(∀a:bU,a∈c->dt h a.a a.b a.d a.c)->fi 1 (c.map (·.b)) (c.map (·.b)):=λd=>vo λa b=>by obtain⟨u,i_,rfl⟩:=d4.1 b;exact(jr<|d u i_).2
   haveI j_:=I.E;haveI L:=J.E;refine(bN.D ⟨_,_,s,_,ej Z t (ae Z) Z Z Z ⟨r,c.map (·.b)++([]++(A.map (·.b)++[])),Z,H.1.A<|by decide,_,_,Z,(ie (K k) ((a5 1101 Z:N [_,_,_,_] (.B X 90000) [.B (31+S+O) 80000,.A X S,.A ag O]) e j_ L)<|.inl Z).A<|by decide,_,_,Z,?_,_,_,Z,(ie (K C) ((aj Z:N [_,_,_] (.B X 90000) [.B (31+S+O) 80000,.A X O]) e L)<|.inl Z).A<|by decide,Z⟩⟩<|H.2.A<|I.A<|bN.C.A<|J.A .C).B<|(aj Z:N [_,_] (.A (1+(X+(0+(S+0)))+1)<|31+X+S) []);rcases j with rfl|rfl|⟨p,rfl,_⟩;.exact(fo<|.inl Z).A<|by decide
   .exact(fo<|.inr<|.inr<|.inr<|a1 _ Z).A<|by decide
   .exact(fo<|.inr<|.inr<|.inr<|a1 _ Z).A<|by decide
  .refine a8 (AH q) λr a_=>?_;obtain⟨s,t⟩:=QC (λa b=>(k a b).2.1) B j;haveI n:∀{g:R fh},∀a∈g,a.d<=fY g:=λ{g} a b=>by
    induction g with
    |nil=>exact bW b
    |cons u g v=>
     rcases bj.1 b with rfl|b;.exact(aj Z:N [_,_] (.A X<|X+8+S) [])
     .have:=v b;exact(aj Z:N [_,_,_] (.A X<|S+8+O) [.A X O]) this
   refine a8 (NC λa b=>(k a b).2.2.imp (·.2.1) λd=>am (f d (by haveI:=n a b;exact(aj Z:N [_,_] (.B X 80000) [.B (39+S) 80000,.A X S]) e this))<|(jr d).2) λb_ w=>?_;haveI k_:=w.2.E;refine(bN.D ⟨_,_,s,_,ej Z t (ae Z) Z Z Z ⟨r,b_++([]++[]),Z,a_.1.A<|aX Z,b_,[]++[],Z,(ie w.1 ((aj Z:N [_,_] (.B X 90000) [.B (39+S) 80000,.A X S]) e k_)<|.inl Z).A<|aX Z,[],[],Z,?_,Z⟩⟩<|a_.2.A<|w.2.A<|bN.C.A .C).B<|(aj Z:N [_] (.A (1+(X+(0+0))+1)<|39+X) []);rcases j.A with⟨_,l,_⟩|⟨_,l,_⟩|⟨p,_,l,_⟩;.rw[l];exact(fo<|.inl Z).A<|aX Z
   .rw[l];exact(fo<|.inr<|.inl<|a1 _ Z).A<|aX Z
   .rw[l];exact(fo<|.inr<|.inr<|.inr<|a1 _ Z).A<|aX Z
end
def mF(a:U):V:=if a=0 then .C else aH "int" [.A (9:U)]
def ih(a:U)(b:R bU):V:=if a<2 then aH "casein" [e1,.D<|jj 0 b,mF a]else aH (if a=2 then"matchp"else"matchq") [e1,(b.map λc=>c.b).headD .C]
section
variable{a:R bU}
def Tj(a:R bU):ks (rm a)=dT a:=by
 induction a with
 |nil=>rfl
 |cons b a c=>exact aF (b.d+·) c
def B5(h:c=0/\d=.C\/c=1/\d=aH "int" [.A (9:U)])(g:∀e:bU,e∈a->dt b e.a e.b e.d e.c)(i:a.length<=9):l2 (3*b) (3+5*b+1) c (a.map λe=>e.a) (aH "casein" [e1,.D<|jj 0 a,d]) (dT a)<|cr a+8:=
 ⟨⟨_,_,Z⟩,λ{s t u v w x y z A B} e j=>KQ (YR<|aX Z) h (λe f=>Ai b<|g e f) (λe f=>(jr<|g e f).1) i (e.B<|by exact(aj Z:N [_,_] (.A (X+2+S+4)<|X+(S+8)) [])) λk l m n o p q r=>j k l n m (eA (FX<|ae Z) o) p q<|Tj a▸r⟩
def Qc(q:b<4)(e:∀d:bU,d∈a->dt c d.a d.b d.d d.c)(r:a.length<=9)(u:2<=b->a.length=1):l2 (3*c) (3+5*c+1) b (a.map λd=>d.a) (ih b a) (dT a)<|cr a+8:=by
 rcases(show b=0\/b=1\/2<=b by exact(aI (.B (.A 10)<|.B (.A 110)<|.A 11) Z:N [_] (.G (.C X 0)<|.G (.C X 1)<|.A 2 X) [.B X 4]) q)with rfl|rfl|s;.exact B5 (.inl<|am Z Z) e r
 .exact B5 (.inr<|am Z Z) e r
 .refine a8 (List.length_eq_one_iff.1<|u s) λf v=>?_;subst v;haveI t:=Ai c<|e f<|.head _;rcases(show b=2\/b=3 by exact(aI (.B (.A 11)<|.B (.A 11)<|.A 1001) Z:N [_] (.G (.C X 2)<|.C X 3) [.B X 4,.A 2 X]) q s)with rfl|rfl
  .exact⟨⟨_,_,Z⟩,λ{w x y z g A B C D E} d h=>zJ t (d.B<|by show _<=g+(f.c+4+0+8);exact(aj Z:N [_,_] (.A (X+4+S+4)<|X+(S+4+0+8)) [])) λi j k l m n o p=>h i j l k (eA (FX<|ae Z) m) n o<|p.A λG F=>F.1⟩
  .exact⟨⟨_,_,Z⟩,λ{w x y z g A B C D E} d h=>KX t (d.B<|by show _<=g+(f.c+4+0+8);exact(aj Z:N [_,_] (.A (X+4+S+4)<|X+(S+4+0+8)) [])) λi j k l m n o p=>h i j l k (eA (FX<|ae Z) m) n o p⟩
end
section
variable{a:V}{b:R bU}
def gb(b:hV c a d)(g:fi c f e):fi c (a::f)<|d++e:=⟨d,e,aL Z b g⟩
def n3:fi c [] []:=Z
def BX(g:bD (c≠"p_bind")<|bD (c≠"p_as")<|bD (c≠"p_array")<|c≠"p_hash")(h:c≠"t_local")(i:dJ (.A c) n'=M)(j:bn (.A c) kd=Y (.F [f]))(l:∀a∈d,bE λc k=>a=aH c k)(b:bN e d)(m:e<80000):bN (e+1) [aH c [.D d]]:=
 bN.D ⟨_,_,[],_,ej Z (kq g) h i j Z ⟨d,[],(hP _).symm,(ie (vo l) (by haveI:=b.E;exact VI m this)<|.inl Z).A<|aX Z,Z⟩⟩ b
def n6(e:bE λb d=>a=aH b d)(f:bN c [a])(g:c<80000):bN (c+1) [aH "seq" [.D [a]]]:=BX (ae Z) (ae Z) Z Z (λi h=>cm.1 h▸e) f g
def vz(b:bD (c≠"p_bind")<|bD (c≠"p_as")<|bD (c≠"p_array")<|c≠"p_hash")(g:c≠"t_local")(h:dJ (.A c) n'=M)(i:bn (.A c) kd=Y (.F [e,f]))(k:bE λc j=>a=aH c j)(l:bN d [a]):bN (d+2) [aH c [e1,a]]:=by refine bE.A k λn o m=>?_;subst m;exact bN.B (bN.D ⟨_,_,[],_,ej Z (kq b) g h i Z<|gb (gR.A<|aX Z)<|gb (gR.A<|aX Z) n3⟩<|vx.A<|l.A .C)<|(aj Z:N [_] (.A (1+(X+0)+1)<|X+2) [])
def Jd(b:R bU)(g:∀a∈b,bN a.c [a.b]/\bE λe f=>a.b=aH e f):∀c,∃d,fi 2 (jj c b) d/\bN (cr b) d:=by
 induction b with
 |nil=>intro c;exact ax ([]) Z<|.C
 |cons a b i=>
  intro c;refine a8 (i (λj k=>g j<|cx _ k)<|c+1) λd h=>?_;obtain⟨l,e,f,m⟩:=g a bP;haveI n:fi 1 [a.b,.C,aH "int" [.A c]]<|[a.b]++([]++([aH "int" [.A c]]++[])):=gb (by rw[m];exact gR)<|gb (fo<|.inl Z)<|gb gR n3;exact ax _ (gb (ie n (show 2<90000 by decide)<|.inr Z) h.1)<|((l.A<|bN.C.A<|pS.A .C).A h.2).B<|by show a.c+(0+(1+0))+cr b<=a.c+4+cr b;exact(aj Z:N [_,_] (.A (X+(0+(1+0))+S)<|X+4+S) [])
def Qd(r:c<4)(h:∀a:bU,a∈b->dt d a.a a.b a.d a.c)(s:2<=c->b.length=1)(i:cr b<70000):bN (cr b+3) [ih c b]/\bE λj k=>ih c b=aH j k:=by
 haveI u:∀{b:R bU},∀a∈b,a.c<=cr b:=λ{b} a e=>by
  induction b with
  |nil=>exact bW e
  |cons z b t=>
   rcases bj.1 e with rfl|e;.exact Ec
   .haveI:=t e;exact Ed this
 have o:∀a∈b,bN a.c [a.b]/\bE λj k=>a.b=aH j k:=λa e=>am (NN d (h a e) (by haveI:=u a e;exact(aj Z:N [_,_] (.B X 80000) [.B S 70000,.A X S]) i this))<|(jr<|h a e).2;clear h;by_cases l:c<2
 .haveI f:ih c b=aH "casein" [e1,.D<|jj 0 b,mF c]:=au l;rw[f];refine am ?_ ⟨_,_,Z⟩;refine a8 (Jd b o 0) λA m=>?_;haveI v:=m.2.E;obtain⟨n,w,x⟩:∃n,hV 1 (mF c) n/\bN 1 n:=by
   unfold mF;by_cases p:c=0;.rw[au p];exact ax ([]) (fo<|.inl Z)<|bN.C.B<|aX Z
   .rw[ao p];exact ax _ gR pS
  exact bN.B (bN.D ⟨_,_,[],[aa "subject",aa "arms",aa "other"],ej Z (kq<|ae Z) (ae Z) Z Z Z<|gb (gR.A<|aX Z)<|gb ((ie m.1 ((aj Z:N [_,_] (.B X 90000) [.B S 70000,.A X S]) i v)<|.inl Z).A<|aX Z)<|gb (w.A<|aX Z) n3⟩<|vx.A<|m.2.A<|x.A .C)<|(aj Z:N [_] (.A (1+(X+(1+0))+1)<|X+3) [])
 .clear i;obtain⟨a,rfl⟩:∃a,b=[a]:=by
   have f:=s<|Vw r l;cases b;.exact a2 f<|by decide
   .cases tail
    .exact a1 head Z
    .exact a2 (qH f)<|by simp
  haveI f:ih c [a]=aH (if c=2 then"matchp"else"matchq") [e1,a.b]:=ao l;haveI g:=o a bP;haveI y:cr [a]=a.c+4:=Z;rw[f,y];refine am ?_ ⟨_,_,Z⟩;by_cases q:c=2;.rw[au q];exact(vz (ae Z) (ae Z) Z Z g.2 g.1).B<|Eg
  .rw[ao q];exact(vz (ae Z) (ae Z) Z Z g.2 g.1).B<|Eg
def NQ(i:bE λb a=>c=aH b a)(j:bN e [c])(g:e<70000):bN (e+20) [iC d f c]/\bE λb a=>iC d f c=aH b a:=by
 haveI k:bN (e+15) [li d c]:=by
  cases d;.exact(n6 i j<|Eh g).B<|(aj Z:N [_] (.A (X+1)<|X+15) [])
  .haveI m:bN 2 [sd]:=n6 ⟨_,_,Z⟩ pS<|ae Z;haveI n:bN 4 [jC]:=n6 ⟨_,_,Z⟩ (vz (ae Z) (ae Z) Z Z ⟨_,_,Z⟩<|bN.D ⟨_,_,[.A "over"],_,ej Z (Ck BQ) (ae Z) Z Z Z ⟨[],[],Z,(fo<|.inr<|.inr<|.inr<|a1 _ Z).A<|aX Z,Z⟩⟩ .C)<|ae Z;haveI o:hV 4 p1<|[sd]++[]:=(ie (gb (ie (gb (ie (b:=[]) Z (ae Z)<|.inl Z)<|gb (fo<|.inl Z)<|gb gR n3) (show 1<90000 by decide)<|.inr Z) n3) (show 1<90000 by decide)<|.inl Z).A<|aX Z;haveI p:=n6 i j<|Eh g;haveI q:bN (e+13) [pf<|aH "seq" [.D [c]]]:=bN.B (bN.D ⟨_,_,[],[aa "body",aa "rescues",aa "other",aa "ensure"],ej Z (kq<|ae Z) (ae Z) Z Z Z<|gb (gR.A<|aX Z)<|gb o<|gb ((fo<|.inl Z).A<|aX Z)<|gb (gR.A<|aX Z) n3⟩<|p.A<|(m.A .C).A<|bN.C.A<|n.A .C)<|(aj Z:N [_] (.A (X+1+(2+0+(0+(4+0)))+1)<|X+13) []);exact(n6 ⟨_,_,Z⟩ q<|(aj Z:N [_] (.B (X+13) 80000) [.B X 70000]) g).B<|(aj Z:N [_] (.A (X+13+1)<|X+15) [])
 have l:bE λb a=>li d c=aH b a:=by obtain⟨a,r⟩:=vb;exact⟨_,a,r⟩
 cases f;.exact am (k.B<|(aj Z:N [_] (.A (X+15)<|X+20) [])) l
 .refine am ((n6 ⟨_,_,Z⟩ (BX (d:=[aH "int" [.A 4],li d c]) (ae Z) (ae Z) Z Z (λs h=>?_) (pS.A k)<|(aj Z:N [_] (.B (1+(X+15)) 80000) [.B X 70000]) g)<|(aj Z:N [_] (.B (1+(X+15)+1) 80000) [.B X 70000]) g).B<|(aj Z:N [_] (.A (1+(X+15)+1+1)<|X+20) [])) ⟨_,_,Z⟩;rcases bj.1 h with rfl|h
  .exact⟨_,_,Z⟩
  .rw[cm.1 h];exact l
end
abbrev BH:bk:=.c .K<|.A (.n<|.A 14)<|.A (.J "program")<|.A .H<|.A (.K .ignore (.a M<|.A (.J "kept")<|.A (.J "it") .B)<|.G .D_<|.A (.A 13) .B) .B
abbrev KH:bk:=.E BH "code"<|.A (.A 13)<|.A (.J "program") .B
section
variable{a:af}{b:R an}
def PL(a:b.Nodup):iu b:=λg h i c d l=>by refine a8 (fe.1 c) λj e=>?_;refine a8 (fe.1 d) λk f=>?_;exact(FH a).1<|e.trans f.symm
def Tb(e:hq c):oY ⟨[],[],fy [] (.A "kept"::.A "it"::c),0,[]⟩/\(fy [] (.A "kept"::.A "it"::c)).length<=57/\∀a:an,a=.A "kept"\/a=.A "it"->∃i:U,(fy [] (.A "kept"::.A "it"::c))[i]?=Y a:=by
 refine jz (K4 (.A "kept"::.A "it"::c) [] iW) λf g=>?_;have h:∀a∈fy [] (.A "kept"::.A "it"::c),gI a/\cf a=false:=λa b=>by
  rcases bj.1 (((g a).1 b).resolve_left bW)with rfl|b;.exact am BP Z
  .rcases bj.1 b with rfl|b
   .exact am BO Z
   .exact am ((e.2 a b).1)<|(e.2 a b).2.1
 refine aL (am (PL f) λa b=>(h a b).1) (pR f (d:=jD) λa b=>?_) λa b=>Ys<|(g a).2<|.inr ?_;.refine jz (h a b) λj k=>?_;obtain⟨_,l,_,_,d⟩:=j;exact d.resolve_left λd=>by rw[k]at d;exact bx d
 .rcases b with rfl|rfl
  .exact .head _
  .exact .tail _<|.head _
def KM(I:l2 f l m n g o j)(A:j<2300)(w:bN c [iC h d g])(q:c<80000)(J:a.b k=.D f0)(B:e 13=Y (iC h d g))(K:e 14=Y (.B k)):
 bE λ(b:de)(x:af)=>ai (al<|i+f+30) KH e a=Y (b.A,x)/\o9 b l m n h d o/\b.b.length<2500/\(∀c∈b.a,gI c)/\iu b.a/\gK b.a/\.A "kept"∈b.a/\.A "it"∈b.a:=by
 refine cg w λo_ L w=>?_;have D:bE λC t=>iC h d g=aH C t:=by
  cases d;.obtain⟨t,E⟩:=vb;exact⟨_,t,E⟩
  .exact⟨_,_,Z⟩
 obtain⟨u,p,y,a_,-⟩:=O5 (a:=a.A k .B) w (f3 L<|e6 q<|ae Z) D;haveI b_:∀c∈an.A "kept"::an.A "it"::u,bG c=false:=λc q=>by
  rcases bj.1 q with rfl|q;.rfl
  .rcases bj.1 q with rfl|q
   .rfl
   .exact(y.2 c q).1.1
 haveI F:=y.A;haveI c_:=KR (t:=i+f+26) (a:=p) b_ (by rw[dd,dd];exact(aj Z:N [_] (.B (X+1+1) 900) [.A X 57]) F);refine gS (Tb y) λd_ e_ G=>?_;haveI h_:aG p.a [] ⟨p.a+7,p.b⟩ ⟨[],[],fy [] (.A "kept"::.A "it"::u),0,[]⟩ ([],[]) 0 (fy [] (.A "kept"::.A "it"::u)).length<|1+62+j:=⟨aY _,d_,Z,Z,(am Z Z),(am (by exact(aj Z:N [_] (.A (0+(1+62+X)) 2480) [.B X 2300]) A)<|by exact(aj Z:N [_,_] (.A (S+(1+62+X)) 2480) [.B X 2300,.A S 57]) A e_),(λx_=>bW),.nil,λp_ f_ g_=>a2 f_<|xi g_,(λx_=>bW),(λx_=>bW)⟩;haveI i_:ai (al<|i+f+30) BH e a=Y (.B p.a,ap p.a ⟨p.a+7,p.b⟩ ⟨[],[],fy [] (.A "kept"::.A "it"::u),0,[]⟩):=by refine pP (av ?_<|av Z<|av Z<|av (bL Z (bM (av (ac B) aQ) a_)<|gp<|by rw[bC];show 2+_<=_;exact(aj Z:N [_] (.A (2+X) 1000000) [.A X 57]) F) aQ) Z Z c_;show(ai _ (.A 14) e a).bind _=_;rw[ac K];exact nR<|aF ke J
 refine bE.A D λC t H=>?_;haveI r:=KI λ{q_} j_=>H▸Uf (d:=i) I h_ Z j_;rw[<-H]at r;obtain⟨⟨r_,x⟩,k_,l_,s_,E,rfl,v,s,m_,n_⟩:=r;refine⟨l_.a,x,?_,s.2.2.2 s.1 s.2.1 s.2.2.1,by rw[s.2.2.1];exact(aj Z:N [_] (.B (X+1) 2500) [.B X 2480]) m_,n_,v.b,v.a,?_,?_⟩;.exact ak.D<|rI i_ (av (ac B)<|av Z aQ) (ux iN Z) Z<|ax _ k_ Z
 .refine a8 (G _<|.inl Z) λz r=>?_;exact lF<|v.c z _ r
 .refine a8 (G _<|.inr Z) λz r=>?_;exact lF<|v.c z _ r
end
abbrev mI(a:ah):be:=⟨[],a,.C,0⟩
abbrev ig(a:V):R<|an×V:=[(.A "kept",.A 1),(.A "it",a)]
section
variable{g e:af}{k:bR}{f:aA}{i j:V}{h a d:U}{b:be}{c:R<|an×V}{l:aE}
def CQ(d:a+2<m):az m (az a g b c) n o=az a (az m g n o) b c:=by
 refine fT Z λh=>?_;unfold az;dsimp only;by_cases e:h=a;.subst e;rw[ao<|(a5 110 Z:N [_,_] (.D<|.C X S) [.B (X+2) S]) d,ao<|(a5 110 Z:N [_,_] (.D<|.C X<|S+1) [.B (X+2) S]) d,ao<|(a5 110 Z:N [_,_] (.D<|.C X<|S+2) [.B (X+2) S]) d,au Z,au Z]
 .by_cases f:h=a+1
  .subst f;rw[ao<|Ei d,ao<|(a5 110 Z:N [_,_] (.D<|.C (X+1)<|S+1) [.B (X+2) S]) d,ao<|(a5 110 Z:N [_,_] (.D<|.C (X+1)<|S+2) [.B (X+2) S]) d,ao e,au Z,ao e,au Z]
  .by_cases i:h=a+2
   .subst i;rw[ao<|Ej d,ao<|(a5 110 Z:N [_,_] (.D<|.C (X+2)<|S+1) [.B (X+2) S]) d,ao<|(a5 110 Z:N [_,_] (.D<|.C (X+2)<|S+2) [.B (X+2) S]) d,ao e,ao f,au Z,ao e,ao f,au Z]
   .rw[ao e,ao f,ao i,ao e,ao f,ao i]
def y7:aR (h+1) .C_ [m,.A n] e=Y (.B<|e.a+2,az e.a ⟨e.a+3,e.b⟩ (mI n)<|ig m):=by
 refine bi Z<|a3 (f:=((e.B<|.A []).B<|.D<|ig m).B<|.D<|fQ e.a<|mI n) Z<|aF (λf=>(V.B<|e.a+2,f))<|fT Z λc=>?_;unfold az af.B;dsimp only;by_cases a:c=e.a;.subst a;rw[ao<|(a5 10 Z:N [_] (.D<|.C X<|X+1+1) []),ao<|WH,au Z,au Z]
 .by_cases b:c=e.a+1
  .subst b;rw[ao<|(a5 10 Z:N [_] (.D<|.C (X+1)<|X+1+1) []),au Z,ao a,au Z]
  .by_cases d:c=e.a+2
   .subst d;rw[au Z,ao a,ao b,au Z]
   .rw[ao<|(aI (.B (.A 110)<|.A 101) Z:N [_,_] (.D<|.C X<|S+1+1) [.D<|.C X<|S+2]) d,ao b,ao a,ao a,ao b,ao d]
def JM(a:f 5=Y m)(b:f 16=Y (.A n)):ai (al<|h+1) (.I<|.A (.G .C_<|.A (.A 5)<|.A (.A 16) .B)<|.A (.G .C_<|.A (.A 5)<|.A (.A 16) .B) .B) f e=Y (.F [.B<|e.a+2,.B<|e.a+3+2],az e.a (az (e.a+3) ⟨e.a+6,e.b⟩ (mI n)<|ig m) (mI n)<|ig m):=by refine cB<|av (bM (av (ac a)<|av (ac b) aQ)<|y7 (h:=h))<|av ((bM (av (ac a)<|av (ac b) aQ)<|y7 (h:=h)).trans<|aF (λc=>Y (V.B<|e.a+3+2,c)) ?_) aQ;rw[<-CQ (s5)];rfl
def PK{j:U}(d:f j=Y (.B<|a+2))(e:bn (.A m) c=Y i):ai k (.F (.F (.A j)<|.J "names")<|.J m) f (az a g b c)=Y (i,az a g b c):=by show(ai k (.F (.A j)<|.J "names") f<|az a g b c).bind _=_;rw[eH d Z];show(eG (az a g b c) (.B<|a+1)<|aa m).map _=_;rw[pu mM e];rfl
abbrev c3(d:U):Bool:=aN<|1<d
abbrev hC(d:U):Bool:=aN<|d%2=1
def Je(v:d<4)(w:bn (.A "it") c=Y j)(z:c.length<1000):aR (h+1) .o_ [.B<|a+2,.A d,i] (az a g b c)=Y (if hC d then .D [aa "row",.A 4,fz (c3 d) i b]else fz (c3 d) i b,az a g (f8 (c3 d) b)<|h9 (c3 d) c):=by
 haveI A:∀{f:aA}{k:bR},f 0=Y (.B<|a+2)->bz k (.C .IsNot (.F (.A 0)<|.J "ended") .H) f (az a g b c)=Y (!bH b.a,az a g b c):=λm=>aK (eH m Z) Z Z;haveI C:∀{f:aA}{s:cu}{t:f7},f 0=Y (.B<|a+2)->f 2=Y i->ak (aw (al h) s (f.A 2<|ko i b)<|az a g (iL b)<|jB c) t->ak (aw (al h) (.A (.B (.A 2)<|.b (.C .IsNot (.F (.A 0)<|.J "ended") .H) (.B 77)<|.A 2)<|.A (.H (.A 0) (.J "ended") .H)<|.A (.H (.F (.A 0)<|.J "names") (.J "over")<|.F (.F (.A 0)<|.J "names")<|.J "it") s) f<|az a g b c) t:=λ{f s t} o p l=>by
  haveI B:ai (al h) (.b (.C .IsNot (.F (.A 0)<|.J "ended") .H) (.B 77)<|.A 2) f (az a g b c)=Y (ko i b,az a g b c):=by
   haveI m:=A (k:=al h) o;unfold ko;refine c2 (bH b.a) (λu=>?_) λu=>?_;.rw[u]at m;exact(cw m).trans Z
   .rw[u]at m;exact(b6 m).trans<|ac p
  refine a' B<|kr o Z Z<|sE (eH (a:=iL b) o Z) Z (PK o w) z Z ?_;have:jB c=cp (.A "over") j c:=by unfold jB dU;rw[w];rfl
  rw[<-this];exact l
 haveI y:∀{f:aA}{n:aE}{q:V}{e:af},f 1=Y (.A d)->f 2=Y q->hC d=n->ak (aw (al h) (eP 1 (bp .o_).b) f e) (fp (·=(if n then .D [aa "row",.A 4,q]else q,e))):=λ{f n q e} D p E=>by
  haveI x:bz (al h) (.C .Eq (.K .call (.A 1)<|.B 2)<|.B 1) f e=Y (n,e):=by
   rw[<-E];refine aK (bL (ac D) Z<|sc<|ae Z) Z<|aF Y<|i6.2 ?_;haveI:(d:ah).fmod 2=((d%2:U):ah):=by rw[X3 _<|ae Z];rfl
   rw[this];exact Ek this
  cases n;.exact a3 ((b6 x).trans<|ac p) Z
  .exact a3 ((cw x).trans<|iI<|av Z<|av Z<|av (ac p) aQ) Z
 by_cases r:1<d;.rw[show c3 d=Q from c0 r];exact bi Z<|bg (aK (ac Z) Z<|ki<|El r v)<|C Z Z<|aU<|y Z Z Z
 .rw[show c3 d=M from ct r];exact bi Z<|as (aK (ac Z) Z<|ms<|Em v r)<|y Z Z Z
end
def T7(a:V):sZ a a=true:=@c0 _ (qv _) Z
section
variable{a:R<|an×V}{b:R V}{c:R an}
def Bj:∀{a:R<|an×V},bn d a=ab<->d∉a.map (·.1):=by
 intro a
 induction a with
 |nil=>exact⟨λk=>ep,λk=>Z⟩
 |cons i a h=>
  obtain⟨c,e⟩:=i;by_cases f:c=d;.clear h;subst f;exact⟨λb=>(by rw[show bn c ((c,e)::a)=Y e from au Z]at b;exact iR b),λb=>a2 bP b⟩
  .rw[show bn d ((c,e)::a)=bn d a from ao f,h,cl,bj];exact⟨λb g=>g.elim (λj=>f j.symm) b,λb g=>b<|.inr g⟩
def Qr{b a:R<|an×V}(d:∀c,bn c b=bn c a):pZ b a=true:=@c0 _ (qv _) d
def BN:∀{b:R<|an×V},(b.map (·.1)).Nodup->jx b=true:=by
 intro b c
 induction b with
 |nil=>rfl
 |cons d b e=>
  haveI a:=fg.1 c;show((bn d.1 b).isNone&&jx b)=Q;rw[Bj.2 a.1,e a.2];rfl
def C4:∀a∈jD,bD ((dc a&& !bG a)=Q)<|mD a<=60:=ae Z
def P4:∀{b:R<|an×V},(∀a∈b,a.1∈jD)->ln b=true:=by
 intro b
 induction b with
 |nil=>exact λg=>Z
 |cons a b d=>
  intro c;show(dc a.1&& !bG a.1&&ln b)=Q;rw[(C4 a.1<|c a bP).1,d λe f=>c e<|cx _ f];rfl
def Qw:∀{b:R<|an×V},(∀a∈b,ca a.2)->lq b=Q/\mh b<=10:=by
 intro b
 induction b with
 |nil=>exact λi=>am Z<|c8 _
 |cons a b f=>
  intro c;haveI d:=c a bP;haveI e:=f λg h=>c g<|cx _ h;exact am (f1.2 ⟨d.1,e.1⟩)<|F0.2 ⟨d.2.2,e.2⟩
def SL:∀{b:R<|an×V},(∀a∈b,ca a.2/\a.1∈jD)->lw b<=4000*b.length:=by
 intro b
 induction b with
 |nil=>exact λk=>aY _
 |cons a b e=>
  intro c;haveI d:=c a bP;haveI h:=e λf g=>c f<|cx _ g;haveI i:=(C4 a.1 d.2).2;haveI j:=d.1.2.1;exact(aI (.C [1,10,1,1]) Z:N [_,_,_,_] (.A ((.A 10 X)+2+S+10+O)<|.A 4000<|ag+1) [.A S 3000,.A O<|.A 4000 ag,.A X 60]) j h i
def hJ(c a:R<|an×V)(b:an):R<|an×V:=if cf b||bH (dU c b)then a else cp b (dU c b) a
def QT(c:cf d.2=M->e[d.1]?=Y (dU f d.2)):og e a d=hJ f a d.2:=by
 unfold og hJ;refine c2 (cf d.2) (λb=>?_) λb=>?_;.rw[c b];rfl
 .rfl
def QX(g:∀b∈c.zipIdx,eN)(f:R<|U×an):∀{a:R<|an×V},(∀b∈f,cf b.2=M->d[b.1]?=Y (dU e b.2))->f.foldl (og d) a=(f.map (·.2)).foldl (hJ e) a:=by
 induction f with
 |nil=>intro _ _;rfl
 |cons b f h=>
  intro a g;rw[m1,cl,m1,QT<|g b bP,h λi j=>g i<|cx _ j]
def Af(h:cQ c d e):pr c d a=c.foldl (hJ e) a:=by
 unfold pr;rw[QX (c:=[]) (λo o=>ds) _ λb i j=>?_];.rw[List.map_snd_zip<|by rw[jK];exact aY _]
 .refine a8 (Ys i) λk l=>?_;have f:=FG.1 l;haveI m:k=b.1:=by
   haveI:=fe.1 f.1;refine a8 this λn g=>?_;rw[FJ]at g;exact g
  exact h.2 b.1 b.2 (m▸f.2) j
def QV(b:gm a)(f:cf d=Q\/d∈jD):gm<|hJ e a d:=by
 unfold hJ;refine c2 (cf d) (λc=>?_) λc=>?_
 .refine c2 (bH<|dU e d) (λg=>?_) λg=>?_
  .exact b.B<|f.resolve_left<|by rw[c];exact dy
  .exact b
 .exact b
def Nu:∀{c:R an}{a:R<|an×V},gK c->gm a->gm (c.foldl (hJ d) a):=by
 intro c
 induction c with
 |nil=>exact λj b=>b
 |cons f c g=>
  intro a e b;exact g (λh i=>e h<|cx _ i)<|QV b<|e f bP
def Cs(b:d≠e\/(cf d||bH (dU f d))=Q):bn e (hJ f a d)=bn e a:=by
 unfold hJ;refine c2 (cf d||bH (dU f d)) (λc=>?_) λc=>?_;.rw[c]at b;show bn e (cp d _ a)=_;rw[nZ];exact ao<|b.resolve_right dy
 .rfl
def QU(b:(cf d||bH (dU e d))=M):bn d (hJ e a d)=Y (dU e d):=by unfold hJ;rw[b];show bn d (cp d _ a)=_;rw[nZ];exact au Z
def Nr(g:(cf d||bH (dU e d))=Q):∀{c:R an}{a:R<|an×V},bn d (c.foldl (hJ e) a)=bn d a:=by
 intro c
 induction c with
 |nil=>intro _;rfl
 |cons h c b=>
  intro a;rw[m1,b];refine Cs ?_;clear b;by_cases f:h=d;.subst f;exact .inr g
  .exact .inl f
def Nv(f:(cf d||bH (dU e d))=M):∀{c:R an}{a:R<|an×V},(d∈c\/bn d a=Y (dU e d))->bn d (c.foldl (hJ e) a)=Y (dU e d):=by
 intro c
 induction c with
 |nil=>intro _ f;exact f.resolve_left ep
 |cons i c h=>
  intro a b;refine h ?_;clear h;by_cases g:i=d;.clear b;subst g;exact .inr<|QU f
  .rcases b with b|b
   .exact .inl<|(bj.1 b).resolve_left λf=>g f.symm
   .exact .inr<|(Cs<|.inl g).trans b
def Oo:bH d=M<->d≠.C:=by
 constructor;.intro a c;subst c;exact e4 a
 .intro a;refine c2 (bH d) (λb=>?_) λb=>?_
  .rfl
  .exact a2 (On.1 b) a
def Nt{j:U}(k:b9 c j f d)(l:cQ c e d)(m:∀b,b∈a.map (·.1)->(bn b d).isSome):∀b,bn b d=bn b (pr c e a):=by
 intro b;rw[Af l];refine dP (bn b d) (λg=>?none) λn g=>?some
 case some=>
  haveI i:=k.b _<|vd g;haveI h:dU d b=n:=by unfold dU;rw[g];rfl
  rw[Nv (by rw[h,Oo.2 i.2.2.2,i.2.1];rfl)<|.inl i.1,h]
 case none=>
  haveI h:dU d b=.C:=by unfold dU;rw[g];rfl
  rw[Nr<|by rw[h];exact XX _];exact(Bj.2 λo=>by haveI:=m b o;rw[g]at this;exact bx this).symm
def Pu:∀{b:R<|an×V},(b.map (·.1)).Nodup->(d,e)∈b->bn d b=Y e:=by
 intro b
 induction b with
 |nil=>exact λj a=>a2 a ep
 |cons f b g=>
  intro h a;have c:=fg.1 h;refine b1 (bj.1 a) (λa=>?_) λa=>?_;.subst a;exact au Z
  .exact(ao λi:f.1=d=>c.1<|d4.2 ⟨_,a,i.symm⟩).trans<|g c.2 a
def Dx{b:R<|an×V}(a:(bn d b).isSome)(i:(bn e b).isSome)(f:d≠e):2<=b.length:=by
 match b with
 |[]=>exact bx a
 |[g]=>
  haveI h:∀{c},(bn c [g]).isSome->g.1=c:=λ{c} a=>by
   by_cases f:g.1=c;.exact f
   .rw[show bn c [g]=ab from ao f]at a;exact bx a
  exact a2 ((h a).symm.trans<|h i) f
 |_::_::b=>exact qF _ _
end
abbrev p8(a b:U):bk:=.L .epilog<|.a M<|.A (.A b)<|.A (.n<|.F (.A a)<|.J "asked")<|.A (.F (.A a)<|.J "ended") .B
abbrev CL:cu:=.A (.C (.C .NotEq (p8 17 19)<|p8 18 20) (.A (.D<|.i M) .B) .B)
 (.A (.C (.C .NotEq (.p<|.F (.A 17)<|.J "names")<|.p<|.F (.A 18)<|.J "names") (.A (.D<|.i M) .B) .B) .B)
abbrev yP:cu:=.A (.B (.B [17,18])<|.I<|.A (.G .C_<|.A (.A 5)<|.A (.A 16) .B)<|.A (.G .C_<|.A (.A 5)<|.A (.A 16) .B) .B)
 (.A (.B (.A 19)<|.G .o_<|.A (.A 17)<|.A (.A 4)<|.A (.G .m_<|.A (.A 17)<|.A (.A 3)<|.A (.A 7)<|.A (.A 5) .B) .B)
 (.A (.B (.A 19)<|.b (.C .IsNot (.F (.A 17)<|.J "ended") .H) .H<|.A 19)
 (.A (.B (.A 20)<|.G .K_<|.A (.A 15)<|.A (.A 18) .B)
 CL)))
section
variable{b:af}{a:be}{c d:R<|an×V}{e:R V}
def uU(a:g h=Y (.B i))(c:b.b i=.D k)(d:bn (.A j) k=Y f):ai l (.F (.A h)<|.J j) g b=Y (f,b):=by show((g h).map λf=>(f,b)).bind _=_;rw[a];show(eG b (.B i)<|aa j).map _=_;rw[pu c d];rfl
def Le(c:kW f):lV<|kb g h f a:=by
 have d:cM f=Q/\cA f<=100/\cT f=0:=aL c.1 (br c.2.1<|aX Z) c.2.2;haveI e:cM (fz g f a)=Q/\cA (fz g f a)<=100/\cT (fz g f a)=0:=by
  cases g;.exact d
  .show cM (if bH a.a then f else .A 77)=Q/\cA (if bH a.a then f else .A 77)<=100/\cT (if bH a.a then f else .A 77)=0;split
   .exact d
   .exact aL Z (aX Z) Z
 unfold kb;split;.exact aL Z (aX Z)<|aX Z
 .have b:=e;cases h
  .exact aL b.1 (br b.2.1<|aX Z)<|by show cT (fz g f a)<=5;rw[b.2.2];exact aX Z
  .refine aL ?_ ?_ ?_
   .show(Q&&(Q&&(cM (fz g f a)&&Q)))=Q;rw[b.1];rfl
   .show 32+2+(6+2+(cA (fz g f a)+2+0))+3<=500;exact(aj Z:N [_] (.A (32+2+(6+2+(X+2+0))+3) 500) [.A X 100]) b.2.1
   .show bI 0 (bI 0<|bI (cT<|fz g f a) 0)+1<=5;rw[b.2.2];exact aX Z
def Jm:∀{e:R V},(∀b∈e,cM b=Q/\cA b<=9000/\cT b<=20)->dQ e=Q/\dK e<=9002*e.length/\eu e<=20:=by
 intro e
 induction e with
 |nil=>exact λj=>aL Z (aY _)<|c8 _
 |cons g e h=>
  intro f;haveI c:=f g bP;haveI d:=h λa i=>f a<|cx _ i;refine aL (f1.2 ⟨c.1,d.1⟩) ?_<|F0.2 ⟨c.2.2,d.2.2⟩;exact(aj Z:N [_,_,_] (.A (X+2+S)<|.A 9002<|O+1) [.A X 9000,.A S<|.A 9002 O]) c.2.1 d.2.1
def CV(o:h i=Y f)(l:h j=Y (.B<|g+2))(m:b.b (g+2)=.D (fQ g a))(p:b.b g=.A a.b)(q:lV f)(r:lV a.a)(n:a.b.length<=100)(s:∀f∈a.b,cM f=Q/\cA f<=9000/\cT f<=20):
 ai k (p8 j i) h b=Y (.K<|.D [f,.D a.b,a.a],b.A g .B):=by
 haveI t:(b.A g .B).b (g+2)=.D (fQ g a):=by show(if g+2=g then _ else b.b<|g+2)=_;rw[ao<|s1,m]
 haveI c:=Jm s;haveI d:=q;haveI e:=r;refine cS (iI<|av (ac o)<|av (nQ (uU l m Z) p)<|av (uU l t Z) aQ) ?_;show(if dQ [f,.D a.b,a.a]&&aN (cA (.D [f,.D a.b,a.a])<10000000)&&aN (cT (.D [f,.D a.b,a.a])<100)then Y<|V.K<|.D [f,.D a.b,a.a]else ab)=_;rw[au];rw[f1,f1,Æ,Æ];refine⟨⟨?_,?_⟩,?_⟩;.show(cM f&&(dQ a.b&&(cM a.a&&Q)))=Q;rw[d.1,c.1,e.1];rfl
 .show cA f+2+(dK a.b+3+2+(cA a.a+2+0))+3<10000000;haveI:=Y1 9002 n;exact(aI (.C [1,1,1,1,9002]) Z:N [_,_,_,_] (.B (X+2+(S+3+2+(O+2+0))+3) 10000000) [.A ag 100,.A X 500,.A O 500,.A S<|.A 9002 ag]) n d.2.1 e.2.1 c.2.1
 .show bI (cT f) (bI (eu a.b+1)<|bI (cT a.a) 0)+1<100;exact W' c.2.2 d.2.2 e.2.2
def Cy(o:h i=Y (.B<|g+2))(p:b.b (g+2)=.D (fQ g a))(q:b.b (g+1)=.D f)(e:∀c∈f,ca c.2)(k:gm f)(d:2<=f.length):ai j (.p<|.F (.A i)<|.J "names") h b=Y (.K<|.I f,b):=by show(ai j (.F (.A i)<|.J "names") h b).bind _=_;rw[uU o p Z];show(fx<|b.b<|g+1).bind _=_;rw[q,show fx (.D f)=Y f from Z,xm];haveI l:=Qw e;haveI r:=SL λc m=>⟨e c m,k.2 c m⟩;haveI n:=k.A;rw[l.1,c0<|show lw f<10000000 by exact(aI (.C [1,4000,1]) Z:N [_,_] (.B X 10000000) [.A 2 S,.A X<|.A 4000 S,.A S 57]) d r n,c0<|show mh f<100 by exact(a5 11 Z:N [_] (.B X 100) [.A X 10]) l.2,c0 d,c0<|show f.length<64 by exact(a5 11 Z:N [_] (.B X 64) [.A 2 X,.A X 57]) d n];rfl
def RG(o:h 17=Y (.B<|g+2))(p:h 18=Y (.B<|f+2))(y:h 19=Y i)(z:h 20=Y i)(m:g+2<f)(A:b.b g=.A a.b)(B:b.b (g+1)=.D c)(q:b.b (g+2)=.D (fQ g a))(C:b.b f=.A a.b)(D:b.b (f+1)=.D d)(r:b.b (f+2)=.D (fQ f a))
 (s:lV i)(e:b9 k l a c)(t:l<=100)(u:gK k)(v:gm d)(E:∀n∈d,ca n.2)(F:2<=c.length)(G:2<=d.length)(H:∀w,bn w c=bn w d):aw j CL h b=Y (.A,h,(b.A g .B).A f .B):=by
 haveI I:(b.A g .B).b f=.A a.b:=(ao<|s2 m).trans C;haveI J:(b.A g .B).b (f+2)=.D (fQ f a):=(ao<|En m).trans r;haveI K:((b.A g .B).A f .B).b (g+1)=.D c:=(ao<|Ei m).trans<|(ao<|wx).trans B;haveI L:((b.A g .B).A f .B).b (g+2)=.D (fQ g a):=(ao<|Ej m).trans<|(ao<|s1).trans q;haveI a_:((b.A g .B).A f .B).b (f+1)=.D d:=(ao<|wx).trans<|(ao<|(a5 101 Z:N [_,_] (.D<|.C (X+1) S) [.B (S+2) X]) m).trans D;haveI b_:((b.A g .B).A f .B).b (f+2)=.D (fQ f a):=(ao<|s1).trans<|(ao<|En m).trans r;haveI d_:∀n∈c,ca n.2:=λn c_=>(e.b n c_).2.2.1;haveI e_:bz j (.C .NotEq (p8 17 19)<|p8 18 20) h b=Y (M,(b.A g .B).A f .B):=by refine aK (CV y o q A s e.g (br e.a t) e.e) (CV z p J I s e.g (br e.a t) e.e) ?_;show(if sZ (.D [i,.D a.b,a.a]) (.D [i,.D a.b,a.a])then Y Q else ab).map (!·)=_;rw[T7];rfl
 haveI f_:bz j (.C .NotEq (.p<|.F (.A 17)<|.J "names")<|.p<|.F (.A 18)<|.J "names") h ((b.A g .B).A f .B)=Y (M,(b.A g .B).A f .B):=by refine aK (Cy o L K d_ (e.D u) F) (Cy p b_ a_ E v G) ?_;show((if pZ c d&&jx c&&jx d&&ln c then Y Q else ab).or _).map (!·)=_;rw[Qr H,BN e.f,BN v.1,P4 (e.D u).2];rfl
 haveI:=ak.F (show aw j .B h ((b.A g .B).A f .B)=_ from Z) Z;obtain⟨_,x⟩:=fX e_<|fX f_ this;rw[x.1,x.2]
end
section
variable{c:af}{a:R<|an×V}{b:aE}{d:R an}
def BD:((ig e).map (·.1)).Nodup:=show[an.A "kept",an.A "it"].Nodup by decide
def Oi(g:.A "kept"∈d)(h:.A "it"∈d)(c:bA e)(i:ca e):b9 d 0 (mI f)<|ig e:=by
 haveI j:e≠.C:=by rcases c.C with⟨k,rfl⟩|⟨l,m,rfl⟩<;>exact λa=>V.noConfusion a
 refine⟨aY _,λo a=>a2 a ep,BD,λn b=>?_,Z,(ax e Z c),(aL Z (show cA .C<=500 by decide)<|show cT .C<=5 by decide)⟩;rcases bj.1 b with rfl|b;.exact db g Z (uR<|aX Z) λa=>V.noConfusion a
 .rcases bj.1 b with rfl|b
  .exact db h Z i j
  .exact bW b
def SM:cQ d (d.map<|dU a) a:=am (bC _) λc e b f=>by rw[tg,b];rfl
def C3:gm<|ig e:=am BD λb a=>by
 rcases bj.1 a with rfl|a;.exact bP
 .rcases bj.1 a with rfl|a
  .exact cx _ bP
  .exact bW a
def Lb(b:an)(c:V):∀a:R<|an×V,a.length<=(cp b c a).length:=by
 intro a
 induction a with
 |nil=>exact c8 _
 |cons d a e=>
  show _<=(if d.1=b then(d.1,c)::a else d::cp b c a).length;split;.exact aY _
  .exact jM e
def vX(b:e<f)(d:e≠g):(az f (c.A g h) i a).b e=c.b e:=by show(if e=f then _ else if e=f+1 then _ else if e=f+2 then _ else if e=g then h else c.b e)=_;rw[ao<|W5 b,ao<|(a5 110 Z:N [_,_] (.D<|.C X<|S+1) [.B X S]) b,ao<|(a5 110 Z:N [_,_] (.D<|.C X<|S+2) [.B X S]) b,ao d]
structure x5(k:de)(o p:U)(q:R V)(l m:U)(n:V):Prop where
 g:o9 k o p q (c3 l) (hC l) m
 j:l<4
 h:k.b.length<2500
 e:∀r∈k.a,gI r
 a:gK k.a
 i:.A "kept"∈k.a
 f:.A "it"∈k.a
 c:m<=100
 d:bA n
 b:ca n
structure oX(g:de)(h:U)(i:R V)(j:U)(k:V)(f:aA):Prop where
 b:f 3=Y (.A h)
 e:f 4=Y (.A j)
 a:f 5=Y k
 d:f 7=Y (.D i)
 c:f 15=Y g.A
def IX(a:x5 k j l m e o g)(q:oX k l m e g h)(G:h 16=Y (.A n)):ak (aw (al<|i+j+5) yP h f) λb=>b.1=.A/\oX k l m e g b.2.1:=by
 refine gG.A (a.g g (k.a.map<|dU<|ig g) (mI n) (ig g) 0 a.d a.b Z SM Z (Oi a.i a.f a.d a.b) (by haveI:=a.c;exact(aj Z:N [_] (.A (0+X) 100000) [.A X 100]) this)) λw p r H d_ e_ d=>?_;have s:∃t,bn (.A "it") r=Y t:=by
  refine cg d.2.2.2.1.d λt s x_=>?_;revert s;cases c3 e;.exact λu=>a1 t u
  .intro u;refine a1 t ?_;rw[<-u];show _=bn _ (cp _ _ r);rw[nZ];exact(ao<|ae Z).symm
 refine a8 s λt s=>?_;have I:r.length<1000:=by
  have u:=d.2.2.2.1.B a.a;revert u;cases c3 e;.exact id
  .exact f3<|Lb _ _ _
 refine eL (JM q.a G) Z ?_;haveI C:=d.1 (i+5) f.a<|az (f.a+3) ⟨f.a+6,f.b⟩ (mI n)<|ig g;rw[show i+5+j=i+j+5 by exact(aI (.B (.A 1)<|.A 1) Z:N [_,_] (.C (X+5+S)<|X+S+5) [])]at C;refine a' (bM (av (ac Z)<|av (ac q.e)<|av (bM (av (ac Z)<|av (ac q.b)<|av (ac q.d)<|av (ac q.a) aQ) C) aQ)<|Je a.j s I) ?_;generalize J:(if hC e then V.D [aa "row",.A 4,fz (c3 e) w p]else fz (c3 e) w p)=D;haveI b_:∀{h:aA}{c:af},h 17=Y (.B<|f.a+2)->h 19=Y D->ai (al<|i+j+5) (.b (.C .IsNot (.F (.A 17)<|.J "ended") .H) .H<|.A 19) h (az f.a c (f8 (c3 e) p)<|h9 (c3 e) r)=Y (kb (c3 e) (hC e) w p,az f.a c (f8 (c3 e) p)<|h9 (c3 e) r):=λ{h c} K L=>by
  haveI x:bz (al<|i+j+5) (.C .IsNot (.F (.A 17)<|.J "ended") .H) h (az f.a c (f8 (c3 e) p)<|h9 (c3 e) r)=Y (!bH (f8 (c3 e) p).a,az f.a c (f8 (c3 e) p)<|h9 (c3 e) r):=aK (eH K Z) Z Z;haveI a_:kb (c3 e) (hC e) w p=if !bH (f8 (c3 e) p).a then .C else D:=by rw[<-J];cases c3 e<;>rfl
  rw[a_];refine c2 (bH (f8 (c3 e) p).a) (λz=>?_) λz=>?_;.rw[z]at x;exact(cw x).trans Z
  .rw[z]at x;exact(b6 x).trans<|ac L
 refine a' (b_ Z Z) ?_;haveI E:=Qx (h:=i+j) (a:=az f.a ⟨f.a+6,f.b⟩ (f8 (c3 e) p)<|h9 (c3 e) r) a.e d.2.2.2.2.1 (f3 d.2.2.2.2.2.1 a.h) d.2.2.2.2.2.2 (fI d.2.2.1.1.symm) C3 (show f.a+3+2<f.a+6 by exact(aj Z:N [_] (.B (X+3+2)<|X+6) []));rw[CQ<|s5]at E;refine a' (bM (av (ac q.c)<|av (ac Z) aQ) E) ?_;have F:gm<|pr k.a H<|ig g:=by rw[Af d.2.2.1];exact Nu a.a C3
 have A:(bn (.A "it")<|h9 (c3 e) r).isSome:=by refine cg d.2.2.2.1.d λt s x_=>?_;rw[s];rfl
 haveI B:(bn (.A "kept")<|h9 (c3 e) r).isSome:=by rw[d.2.2.2.1.c];rfl
 have y:=Nt d.2.2.2.1 d.2.2.1 (a:=ig g) λi v=>by
  rcases bj.1 v with rfl|v;.exact B
  .rcases bj.1 v with rfl|v
   .exact A
   .exact bW v
 refine cW _ (RG Z Z Z Z (s5) ?_ ?_ ?_ sC mM sD (Le d.2.1) d.2.2.2.1 (by haveI:=a.c;exact(aj Z:N [_] (.A (0+X) 100) [.A X 100]) this) a.a F ?_ (Dx B A<|ae Z) (Dx (by rw[<-y];exact B) (by rw[<-y];exact A)<|ae Z) y) Z ⟨q.b,q.e,q.a,q.d,q.c⟩;.exact(vX ((aj Z:N [_] (.B X<|X+3) []))<|show f.a≠f.a+6 by exact Vt).trans sC
 .exact(vX ((aj Z:N [_] (.B (X+1)<|X+3) []))<|show f.a+1≠f.a+6 by exact(a5 10 Z:N [_] (.D<|.C (X+1)<|X+6) [])).trans mM
 .exact(vX (s5)<|show f.a+2≠f.a+6 by exact(a5 10 Z:N [_] (.D<|.C (X+2)<|X+6) [])).trans sD
 .intro f_ c_;haveI:=Pu F.1 c_;rw[<-y]at this;exact(d.2.2.2.1.b _<|vd this).2.2.1
end
section
variable{c g f:af}{b:aA}{j h:V}{d i a:U}{e:aE}
def IW(j:x5 k o l m a p n)(h:R ah):∀{b:aA}{f:af},oX k l m a n b->ak (dx (λb c=>aw (al<|d+o+5) yP b c) (.A 16) (h.map .A) b f) λe=>e.1=.A:=by
 induction h with
 |nil=>intro b f _;exact ax _ Z Z
 |cons q h r=>
  intro b f g;haveI s:oX k l m a n<|b.A 16<|.A q:=⟨g.b,g.e,g.a,g.d,g.c⟩;haveI:=IX (i:=d) (f:=f) j s Z;exact eS Z<|this.A λe i=>am i.1<|r i.2
def p4(a:ai (al<|d+1) k b c=Y (l,g)):ai (al<|d+1) (.c .A<|.A (.J "seq")<|.A (.I<|.A (.a M<|.A k .B) .B) .B) b c=Y (aH "seq" [.D [l]],g.B .B):=
 ew Z Z Z (cB<|av (iI<|av a aQ) aQ)
def rU(a:ai (al<|d+1) k b c=Y (.A l,g)):ai (al<|d+1) (.c .A<|.A (.J "int")<|.A (.I<|.A k .B) .B) b c=Y (aH "int" [.A l],g.B .B):=
 ew Z Z Z (cB<|av a aQ)
def AZ:ai (al<|d+1) (.c .A<|.A (.J "lvar")<|.A (.I<|.A (.J "it") .B) .B) b c=Y (e1,c.B .B):=
 ew Z Z Z (cB<|av Z aQ)
def NR(o:a<4):∃g,aR (d+2) .h_ [h,.A a] c=Y (iC (c3 a) (hC a) h,g)/\cb c g:=by
 haveI r:∀{b:aA}{i:aE}{k:V}{f:af},b 1=Y (.A a)->b 2=Y k->hC a=i->cb c f->ak (aw (al<|d+1) (eP 2 (bp .h_).b) b f) (fp λe=>e.1=(if i then aH "seq" [.D [aH "array" [.D [aH "int" [.A 4],k]]]]else k)/\cb c e.2):=λ{b i k f} n l s p=>by
  haveI q:bz (al<|d+1) (.C .Eq (.K .call (.A 1)<|.B 2)<|.B 1) b f=Y (i,f):=by
   rw[<-s];refine aK (bL (ac n) Z<|sc<|ae Z) Z<|aF Y<|i6.2 ?_;haveI:(a:ah).fmod 2=((a%2:U):ah):=by rw[X3 _<|ae Z];rfl
   rw[this];exact Ek this
  cases i;.exact a3 ((b6 q).trans<|ac l)<|am Z p
  .exact a3 ((cw q).trans<|p4<|ew (e:="array") (b:=[.D [aH "int" [.A 4],k]]) Z Z Z<|cB<|av (iI<|av (rU Z)<|av (ac l) aQ) aQ)<|am Z<|((p.B cb.A).B cb.A).B cb.A
 haveI t:ak (aR (d+2) .h_ [h,.A a] c) λe=>e.1=iC (c3 a) (hC a) h/\cb c e.2:=by
  refine ak.C Z<|a' (p4<|ac Z) ?_;by_cases m:1<a;.rw[show c3 a=Q from c0 m];refine bg (aK (ac Z) Z<|ki<|El m o)<|a' (iI<|av (cB<|av Z<|av Z<|av (p4<|rU Z) aQ) aQ) ?_;refine a' (p4<|ew (e:="matchp") (b:=[e1,aH "p_bind" [aa "over"]]) Z Z Z<|cB<|av AZ<|av (ew Z Z Z<|cB<|av Z aQ) aQ) ?_;refine a' (p4<|ew (e:="begin") (b:=[aH "seq" [.D [h]],p1,.C,jC]) Z Z Z<|cB<|av (ac Z)<|av (ac Z)<|av Z<|av (ac Z) aQ)<|aU<|r Z Z Z ?_;exact(((((((((cb.A.B cb.A).B cb.A).B cb.A).B cb.A).B cb.A).B cb.A).B cb.A).B cb.A))
  .rw[show c3 a=M from ct m];exact as (aK (ac Z) Z<|ms<|Em o m)<|r Z Z Z cb.A
 refine jA t λu n v l=>?_;obtain⟨j,g⟩:=u;subst v;exact ax g n l
end
section
variable{a:V}{b:R bU}
def Jc(m:e+2<=c)(b:R bU):∀{g:U}{f:af},(∀a:bU,a∈b->dt e a.a a.b a.d a.c)->
 ∃h,ek (λd f=>ai (al<|c+1) (.I<|.A (.G .C<|.A (.A 11) .B)<|.A .H<|.A (.c .A<|.A (.J "int")<|.A (.I<|.A (.A 10) .B) .B) .B) d f) (λd f=>d' (al<|c+1) .B d f) (.B [10,11]) (eJ ((m7 g b.length).map λi:U=>V.A i)<|b.map (·.a)) d f=Y (jj g b,h):=by
 induction b with
 |nil=>intro g f _;exact a1 f Z
 |cons a b n=>
  intro g f j;obtain⟨k,o⟩:=Cc e (j a bP) (c-e-2) f;haveI l:=o.2;rw[show c-e-2+e+3=c+1 by exact Eo m]at l;obtain⟨h,r⟩:=n λp q=>j p<|cx _ q;haveI s:ai (al<|c+1) (.I<|.A (.G .C<|.A (.A 11) .B)<|.A .H<|.A (.c .A<|.A (.J "int")<|.A (.I<|.A (.A 10) .B) .B) .B) ((d.A 10<|.A (g:U)).A 11 a.a) f=Y (.F [a.b,.C,aH "int" [.A g]],k.B .B):=
   cB (av (bM (av (ac Z) aQ) l)<|av Z<|av (rU<|ac Z) aQ)
  refine a1 h ?_;show(ai (al<|c+1) _ ((d.A 10<|.A (g:U)).A 11 a.a) f).bind _=_;rw[s];show(ek _ _ _ (eJ ((m7 (g+1) b.length).map λi:U=>V.A i)<|b.map (·.a)) d<|k.B .B).bind _=_;rw[r];rfl
abbrev wh:bk:=.c .A<|.A (.F (.a M<|.A (.J "matchp")<|.A (.J "matchq") .B)<|.K .call (.A 3)<|.B 2)<|.A (.I<|.A (.A 8)<|.A (.G .C<|.A (.F (.A 7)<|.B 0) .B) .B) .B
abbrev yW:bk:=.d M (.I<|.A (.G .C<|.A (.A 11) .B)<|.A .H<|.A (.c .A<|.A (.J "int")<|.A (.I<|.A (.A 10) .B) .B) .B) (.B [10,11]) (.C<|.A 7) .B
abbrev us:bk:=.c .A<|.A (.J "casein")<|.A (.I<|.A (.A 8)<|.A (.A 12)<|.A (.b (.C .Eq (.A 3)<|.B 0) .H<|.c .A<|.A (.J "int")<|.A (.I<|.A (.B 9) .B) .B) .B) .B
def J8(b:c 3=Y (.A d))(h:c 8=Y e1)(i:c 12=Y (.D e)):∃j,ai (al<|f+1) us c g=Y (aH "casein" [e1,.D e,mF d],j):=by
 unfold mF;by_cases a:d=0;.rw[au a];exact a1 _<|ew Z Z Z<|cB<|av (ac h)<|av (ac i)<|av ((cw<|aK (ac b) Z<|KE.trans<|aF Y<|c0<|Xa a).trans Z) aQ
 .rw[ao a];exact a1 _<|ew Z Z Z<|cB<|av (ac h)<|av (ac i)<|av ((b6<|aK (ac b) Z<|nO<|Xb a).trans<|rU Z) aQ
def TD(y:f+2<=e)(q:d<4)(z:∀a:bU,a∈b->dt f a.a a.b a.d a.c)(F:b≠[])(r:c 3=Y (.A d))(A:c 7=Y (.D<|b.map λa=>a.a))(B:c 8=Y e1)
 (s:∀m j,(∀k,k<9->m k=c k)->m 9=Y (ih d b)->ak (aw (al<|e+1) h m j) i):
 ak (aw (al<|e+1) (.A (.B (.A 9) wh)<|.A (.C (.C .Lt (.A 3)<|.B 2) (.A (.B (.A 12) yW)<|.A (.B (.A 9) us) .B) .B) h) c g) i:=by
 cases b with
 |nil=>exact a2 Z F
 |cons a b=>
  obtain⟨G,H⟩:=Cc f (z a bP) (e-f-2) g;haveI C:=H.2;rw[show e-f-2+f+3=e+1 by exact Eo y]at C;have t:ai (al<|e+1) (.I<|.A (.A 8)<|.A (.G .C<|.A (.F (.A 7)<|.B 0) .B) .B) c g=Y (.F [e1,a.b],G):=
   cB (av (ac B)<|av (bM (av (pw (ac A) Z Z) aQ) C) aQ)
  have u:∀{D:aC}{v:bR},eG g (.D [aa "matchp",aa "matchq"]) (.A<|(d:ah).fmod 2)=Y (aa D)->ai v (.F (.a M<|.A (.J "matchp")<|.A (.J "matchq") .B)<|.K .call (.A 3)<|.B 2) c g=Y (aa D,g):=λf=>pw Z (bL (ac r) Z<|sc<|by decide) f;by_cases o:d<2
  .haveI I:∀{m:aA}{j:af}{v:bR},m 3=Y (.A d)->bz v (.C .Lt (.A 3)<|.B 2) m j=Y (Q,j):=λf=>aK (ac f) Z<|mA<|Xc o q;haveI b_:∀{l:V}{j:af},ak (aw (al<|e+1) (.A (.C (.C .Lt (.A 3)<|.B 2) (.A (.B (.A 12) yW)<|.A (.B (.A 9) us) .B) .B) h) (c.A 9 l) j) i:=λ{l j}=>by
    obtain⟨c_,J⟩:=Jc y (a::b) z;haveI L:ei (al<|e+1) (.C<|.A 7) (c.A 9 l) j=Y (eJ ((m7 0 (a::b).length).map λK:U=>V.A K)<|(a::b).map λa=>a.a,j):=by haveI:=uI (v:=al<|e+1) (a:=j)<|ac A;rwa [bC]at this
    refine bg (I r)<|a' (k7 L J) ?_;obtain⟨d_,E⟩:=J8 (c:=(c.A 9 l).A 12<|.D<|jj 0 (a::b)) r B Z;haveI a_:ih d (a::b)=aH "casein" [e1,.D<|jj 0 (a::b),mF d]:=au o;rw[<-a_]at E;refine a' E<|aU<|s _ _ (λk p=>?_) Z;show(if k=9 then _ else if k=12 then _ else if k=9 then _ else c k)=_;rw[ao<|wG p,ao<|(a5 110 Z:N [_] (.D<|.C X 12) [.B X 9]) p,ao<|wG p]
   haveI:bE λl j=>ai (al<|e+1) wh c g=Y (l,j):=by
    clear s;by_cases n:d=0;.subst n;exact⟨_,_,ew (e:="matchp") (b:=[e1,a.b]) Z Z (u Z) t⟩
    .haveI w:d=1:=by exact(aI (.B (.A 1)<|.B (.A 11)<|.A 1001) Z:N [_] (.C X 1) [.B X 2,.B X 4,.D<|.C X 0]) o q n
     clear n;subst w;exact⟨_,_,ew (e:="matchq") (b:=[e1,a.b]) Z Z (u Z) t⟩
   obtain⟨l,j,x⟩:=this;exact a' x b_
  .haveI:∃j,ai (al<|e+1) wh c g=Y (ih d (a::b),j):=by
    clear s;by_cases n:d=2;.subst n;exact a1 _<|ew (e:="matchp") (b:=[e1,a.b]) Z Z (u Z) t
    .haveI w:d=3:=by exact VE q o n
     subst w;exact a1 _<|ew (e:="matchq") (b:=[e1,a.b]) Z Z (u Z) t
   obtain⟨j,x⟩:=this;refine a' x<|as (aK (ac r) (k:=.A 2) Z<|pJ<|by exact Xd q o)<|s _ _ (λk p=>?_) Z;show(if k=9 then _ else c k)=_;rw[ao<|by exact wG p]
end
section
variable{c p n:af}{a:aA}{q j e:V}{m o b g i f:U}{r h:aE}{k:R ah}{l:de}{d:R bU}
def nY(b:a 0=Y (.D<|k.map .A)):ai s (.L .init<|.A 0) a c=Y (.A k.length,c):=
 cS (ac b) (by show Y (V.A ((k.map V.A).length:U))=_;rw[bC])
def IY(b:a 0=Y (.D<|k.map .A)):∃e:R ah,ei s (.B<|.b (.C .Lt (.L .init<|.A 0)<|.B 2) (.B 3)<|.B 6) a c=Y (e.map .A,c):=by
 by_cases d:k.length<2;.have:ai s (.b (.C .Lt (.L .init<|.A 0)<|.B 2) (.B 3)<|.B 6) a c=Y (.A (3:U),c):=(cw<|aK (nY b) Z<|mA<|wH d).trans Z;refine a1 ([0,1,2]) ?_;show(ai s _ a c).bind _=_;rw[this];rfl
 .have:ai s (.b (.C .Lt (.L .init<|.A 0)<|.B 2) (.B 3)<|.B 6) a c=Y (.A (6:U),c):=(b6<|aK (nY b) Z<|pJ<|wI d).trans Z;refine a1 ([0,1,2,3,4,5]) ?_;show(ai s _ a c).bind _=_;rw[this];rfl
def ON(y:60<=f)(d_:i<=3)(p:g<4)(q:b<4)(z:bA e)(A:ca e)(r:∀j:bU,j∈d->dt i j.a j.b j.d j.c)(B:d.length<=9)(s:2<=g->d.length=1)(e_:d≠[])(C:dT d<=100)(o:cr d<=2000)
 (D:a 0=Y (.D<|k.map .A))(E:a 3=Y (.A g))(t:a 4=Y (.A b))(F:a 5=Y e)(G:a 7=Y (.D<|d.map λj=>j.a))(H:a 9=Y (ih g d)):
 ak (aw (al<|f+1) (eP 6 (bp .L).b) a n) (fp λh=>h.1=.G Q):=by
 haveI u:=Qd p r s<|(aj Z:N [_] (.B X 70000) [.A X 2000]) o;haveI I:=NQ (d:=c3 b) (f:=hC b) u.2 u.1<|(aj Z:N [_] (.B (X+3) 70000) [.A X 2000]) o;obtain⟨c,J⟩:=NR q;haveI v:=J.1;rw[show f-1+2=f+1 by exact Xe y]at v;refine a' (bM (av (ac H)<|av (ac t) aQ) v) ?_;refine a' Z ?_;refine gA<|rG (ac Z) ?_ Z<|ax (.C,(c.B<|.D<|f0.take 6).A c.a<|.D f0) ?_ ?_;.show(fx<|(c.B<|.D<|f0.take 6).b c.a).isSome=Q;rw[show(c.B<|.D<|f0.take 6).b c.a=.D (f0.take 6)from au Z];rfl
 .show(fx<|(c.B<|.D<|f0.take 6).b c.a).bind _=_;rw[show(c.B<|.D<|f0.take 6).b c.a=.D (f0.take 6)from au Z];rfl
 .obtain⟨l,K,m⟩:=KM (a:=(c.B<|.D<|f0.take 6).A c.a<|.D f0) (e:=(a.A 13<|iC (c3 b) (hC b)<|ih g d).A 14<|.B c.a) (Qc p r B s) (by exact(aj Z:N [_] (.B (X+8) 2300) [.A X 2000]) o) I.1 (by exact(aj Z:N [_] (.B (X+3+20) 80000) [.A X 2000]) o) (au Z) Z Z;haveI w:=m.1;rw[show f+1-3*i-30+3*i+30=f+1 by omega]at w;refine a' w ?_;haveI L:oX l g (d.map λj=>j.a) b e<|((a.A 13<|iC (c3 b) (hC b)<|ih g d).A 14<|.B c.a).A 15 l.A:=⟨E,t,F,G,Z⟩;obtain⟨a_,b_⟩:=IY (a:=((a.A 13<|iC (c3 b) (hC b)<|ih g d).A 14<|.B c.a).A 15 l.A) D;haveI x:=IW (d:=f+1-(3+5*i+1)-5) (f:=K) ⟨m.2.1,q,m.2.2.1,m.2.2.2.1,m.2.2.2.2.2.1,m.2.2.2.2.2.2.1,m.2.2.2.2.2.2.2,C,z,A⟩ a_ L;rw[show f+1-(3+5*i+1)-5+(3+5*i+1)+5=f+1 by omega]at x;refine ey b_<|x.A λh c_=>?_;rw[c_];exact a3 (e:=.G Q) (f:=h.2.2) Z Z
end
section
variable{a i:af}{d:bR}{b:aA}{j:V}{e g h c:U}{f:R ah}
def Ob(g:b 0=Y (.D<|f.map .A)):∃e:U,(bD (f.length<2) (e=1)\/bD (2<=f.length) (e=2))/\ai d (.b (.C .Lt (.L .init<|.A 0)<|.B 2) (.B 1)<|.B 2) b a=Y (.A e,a):=by
 by_cases c:f.length<2;.exact ax 1 (.inl ⟨c,Z⟩)<|(cw<|aK (nY g) Z<|mA<|wH c).trans Z
 .exact ax 2 (.inr ⟨by exact(aj Z:N [_] (.A 2 X) [.D<|.B X 2]) c,Z⟩)<|(b6<|aK (nY g) Z<|pJ<|wI c).trans Z
def yS(c:ai d k b a=Y (.G Q,a))(e:ai d l b a=Y (m,n)):ai d (.f<|.A k<|.A l .B) b a=Y (m,n):=by show gt d (.A k<|.A l .B) b a=_;rw[mm,c];exact e
def I3(c:ai d k b a=Y (.G M,a)):ai d (.f<|.A k<|.A l .B) b a=Y (.G M,a):=by show gt d (.A k<|.A l .B) b a=_;rw[mm,c];rfl
def Pr(l:b 0=Y (.D<|f.map .A))(m:b 3=Y (.A h)):∃e:U,1<=e/\e<=2/\(2<=h->e=1)/\(f.length<2->e=1)/\
 ei d (.B<|.K .ignore (.B 1)<|.L .prolog<|.f<|.A (.C .Lt (.A 3)<|.B 2)<|.A (.C .Gt (.L .init<|.A 0)<|.B 1) .B) b a=Y ((dF e).map λe:U=>V.A e,a):=by
 have i:∀g:aE,ai d (.f<|.A (.C .Lt (.A 3)<|.B 2)<|.A (.C .Gt (.L .init<|.A 0)<|.B 1) .B) b a=Y (.G g,a)->ei d (.B<|.K .ignore (.B 1)<|.L .prolog<|.f<|.A (.C .Lt (.A 3)<|.B 2)<|.A (.C .Gt (.L .init<|.A 0)<|.B 1) .B) b a=Y ((dF<|if g then 2 else 1).map λe:U=>V.A e,a):=λg o=>by
  have:ai d (.K .ignore (.B 1)<|.L .prolog<|.f<|.A (.C .Lt (.A 3)<|.B 2)<|.A (.C .Gt (.L .init<|.A 0)<|.B 1) .B) b a=Y (.A ((if g then 2 else 1:U):U),a):=
   bL Z (cS (m:=.A<|if g then 1 else 0) o<|by cases g<;>rfl) (by cases g<;>rfl)
  show(ai d _ b a).bind _=_;rw[this];cases g<;>rfl
 by_cases j:h<2
 .haveI n:ai d (.C .Lt (.A 3)<|.B 2) b a=Y (.G Q,a):=eZ (ac m) Z<|mA<|wH j;by_cases k:1<f.length
  .exact kf 2 (by exact wJ) (by exact(aj Z:N [] (.A 2 2) [])) (λc=>by exact(aj Z:N [_] (.C 2 1) [.A 2 X,.B X 2]) c j) (λc=>by exact(aj Z:N [_] (.C 2 1) [.B 1 X,.B X 2]) k c)<|i Q<|yS n<|eZ (nY l) Z<|ki<|DX k
  .exact kf 1 (by exact Ep) (by exact wJ) (λc=>Z) (λc=>Z)<|i M<|yS n<|eZ (nY l) Z<|ms<|DY k
 .exact kf 1 (by exact Ep) (by exact wJ) (λc=>Z) (λc=>Z)<|i M<|I3<|eZ (ac m) Z<|pJ<|wI j
abbrev NJ:bk:=.G .D<|.A (.A 1)<|.A (.A 5)<|.A (.K .ignore (.A 2)<|.B 1) .B
def NK(d:b 1=Y (.B k))(e:b 2=Y (.A (c:U)))(f:b 5=Y l):ai (al m) NJ b a=aR m .D [.B k,l,.A ((c+1:U):ah)] a:=by show(bK _ _ _ _).bind _=_;rw[av (ac d)<|av (ac f)<|av (bL (ac e) Z Z) aQ];rfl
def OM(p:bD (f.length<2) (k=1)\/bD (2<=f.length) (k=2))(s:h<4)(z:n<4)(t:bA m)(A:ca m)(B:eg l)(u:l.a=if 1<f.length then 15 else 4)(C:l.b=0)(D:0<i.a)
 (v:b 0=Y (.D<|f.map .A))(E:b 1=Y (.B 0))(F:b 2=Y (.A (k:U)))(q:b 3=Y (.A (h:U)))(G:b 4=Y (.A (n:U)))(w:b 5=Y m):
 ak (aw (al 90) (eP 2 (bp .L).b) b<|a7 0 i l) (fp λH=>H.1=.G Q):=by
 obtain⟨e,d⟩:=Pr v q;have r:dR (k+1) l.a+e<=22:=by
  rcases p with⟨c,rfl⟩|⟨c,rfl⟩;.rw[u,ao<|(aj Z:N [_] (.D<|.B 1 X) [.B X 2]) c,d.2.2.2.1 c];exact aX Z
  .rw[u,au<|(aj Z:N [_] (.B 1 X) [.A 2 X]) c];haveI:dR (2+1) 15=20:=ae Z;exact(a5 111 Z:N [_,_] (.A (X+S) 22) [.A 1 S,.C X 20,.A S 2]) d.1 this d.2.1
 refine cy.A (uO (NL<|k+1) (l:=.A 6) (u:=λb a=>d' (al 90) .B b a) (dF e) (λx_ x_=>t)
  (λI K=>ax (b.A 6<|.A I) Z λa=>am Z<|by rw[show 88-2*(k+1)+2*(k+1)+2=90 by exact Xf d.2.2.1 d.2.2.2.1 p];exact NK E F w) D B (by rw[jK];exact(a5 2011 Z:N [_,_,_] (.A (X+(.A 2<|S+O)) 50) [.A (S+O) 22,.C X 0]) r C)) λL a_ b_ c_ j=>?_
 haveI g:=j.2.1;haveI x:=j.2.2.2.2.2.2;rw[jK]at g x;haveI y:=x.c;refine a' (k7 d.2.2.2.2 j.1)<|a' AZ<|TD (Xh d.2.2.1 d.2.2.2.1 p) s j.2.2.1 (λc=>by rw[c]at g;exact a2 g<|by show¬0=e;exact Er d.1 g d.2.1) q Z Z λd_ e_ o J=>?_;refine ON (k:=f) (aX Z) (Xi d.2.2.1 d.2.2.2.1 p) s z t A j.2.2.1 ((a5 111 Z:N [_,_] (.A X 9) [.A 1 S,.C X S,.A S 2]) d.1 g d.2.1) (λc=>by rw[g];exact d.2.2.1 c) (λc=>by rw[c]at g;exact a2 g<|by show¬0=e;exact Er d.1 g d.2.1) ((a5 220011 Z:N [_,_,_,_,_,_] (.A X 100) [.A (S+O) 22,.A (ag+aB)<|S+O,.C aM O,.A X<|.A 2 ag]) r y g j.2.2.2.1) ((aI (.C [1,1,0,4,0,71,75]) Z:N [_,_,_,_,_,_] (.A X 2000) [.A 1 S,.A (O+S) 22,.A (ag+aB)<|O+S,.C aM S,.A S 2,.A X<|(.A 71 ag)+(.A 4 aM)]) d.1 r y g d.2.1 j.2.2.2.2.1) ?_ ?_ ?_ ?_ ?_ J;.rw[o 0<|ae Z];exact v
 .rw[o 3<|ae Z];exact q
 .rw[o 4<|ae Z];exact G
 .rw[o 5<|ae Z];exact w
 .rw[o 7<|ae Z];rfl
def OO(f:R ah):∃i,aR 91 .L [.D<|f.map .A] af.E=Y (.G Q,i):=by
 haveI x:ak (aR 91 .L [.D<|f.map .A] af.E) λn=>n.1=.G true:=by
  obtain⟨o,d⟩:=TR f;haveI j:=d.1;haveI j:aR 90 .i_ [.D<|f.map .A] af.E=Y (.B 0,a7 0 ⟨1,af.E.b⟩ o):=j;obtain⟨e,g⟩:=Ob (b:=bV .L [.D<|f.map .A]) Z;refine ak.C Z<|eL (cB<|av (bM (av (ac Z) aQ) j)<|av g.2 aQ) Z ?_;refine bE.A (mj (d:=89) (b:=0) (c:=⟨1,af.E.b⟩) (e:=4) (by decide) (by decide) d.2.1) λh z a=>?_;refine bE.A (mj (d:=89) (b:=0) (c:=⟨1,af.E.b⟩) (e:=4) (by decide) (by decide) a.2.2.1) λA B b=>?_;obtain⟨p,q,l,⟨r,s,t,u⟩,k⟩:=TA e (d:=0) (b:=⟨1,af.E.b⟩) b.2.2.1;have m:e<=2:=by exact(aI (.B (.A 11)<|.A 11) Z:N [_,_] (.A X 2) [.G (.F (.B S 2)<|.C X 1)<|.F (.A 2 S)<|.C X 2]) g.1
  rw[show 88-e+e+2=90 by exact Xj m]at l;haveI w:ca p:=aL s (br t<|by refine b1 g.1 (λc=>?_) λc=>?_<;>(refine fj c λH v=>?_;subst v;exact aX Z)) (by exact(a5 311 Z:N [_,_] (.A X 10) [.A S 2,.A X<|.A 3 S]) m u);refine eL (cB<|av (bM (av (ac Z)<|av Z aQ) a.1)<|av (bM (av (ac Z)<|av Z aQ) b.1)<|av (bM (av (ac Z)<|av (ac Z) aQ) l) aQ) Z ?_;exact OM (l:=q) (f:=f) g.1 a.2.1 b.2.1 r w k.1 (k.2.1.trans<|b.2.2.2.1.trans<|a.2.2.2.1.trans d.2.2.1) (k.2.2.trans<|b.2.2.2.2.trans<|a.2.2.2.2.trans d.2.2.2) (eV 0) Z Z Z Z Z Z
 obtain⟨⟨C,i⟩,y,rfl⟩:=x;exact a1 i y
end
end M
namespace M.Top
open PySem PySem.W PyProof.Rows
noncomputable section
def fP(a:aq):Addr:=vA 29 [29,37,44,51,58,65,72,79,86,93,100,107,114,121,128,135,142,147,256,263,270,277,284,291,499,504,511,516,645,714,721,735,749,851,1075,1082,1089,1096,1103,1110,1117,728,742,756,763,770,777,784,791,1124,1131,1138,1143,1150,1155,1160,1167,1172,1179,1186,1193,1200,1207,1214,1221,1228,1233,1240,1247,1252,1259,1266,1271,1278,1283,162,169,176,190,211,237,244,446,533,540,561,589,624,631,659,667,674,681,695,700,866,873,880,903,911,927,935,942,949,956,963,977,1006,1020] a.a
def dh:cO->a9
 |.I=>193|.J=>221|.D=>247|.A=>456|.H=>543|.G=>571|.L=>606|.B=>634|.F=>703|.E=>883|.K=>1059|.C=>488
def yg:R Nat:=[193,192,221,220,247,246,456,455,543,542,571,570,606,605,634,633,703,702,883,882,1059,1058,488,487,3,0,2,29,28,22,37,36,30,44,43,51,50,58,57,65,64,72,71,79,78,86,85,93,92,100,99,107,106,114,113,121,120,128,127,135,134,142,141,147,146,256,255,263,262,270,269,277,276,284,283,291,290,499,498,504,503,511,510,516,515,645,644,714,713,721,720,735,734,749,748,851,850,1075,1074,1082,1081,1089,1088,1096,1095,1103,1102,1110,1109,1117,1116,728,727,742,741,756,755,763,762,770,769,777,776,784,783,791,790,1124,1123,1131,1130,1138,1137,1143,1142,1150,1149,1155,1154,1160,1159,1167,1166,1172,1171,1179,1178,1186,1185,1193,1192,1200,1199,1207,1206,1214,1213,1221,1220,1228,1227,1233,1232,1240,1239,1247,1246,1252,1251,1259,1258,1266,1265,1271,1270,1278,1277,1283,1282,162,161,169,168,176,175,190,189,211,210,237,236,244,243,446,445,439,438,533,532,526,540,539,561,560,589,588,624,623,631,630,659,658,667,666,660,674,673,681,680,695,694,700,699,866,865,873,872,880,879,903,902,896,895,911,910,904,927,926,920,935,934,928,942,941,949,948,956,955,963,962,977,976,1006,1005,1020,1019,363,364,365,366,367,368,369,370,371,372,373,374,375,376,377,378,379,380,382,383,384,385,386,387,388,389,390,391,392,393,394,395,396,397,398,400,401,402,403,404,405,406,407,408,409,410,411,412,413,414,415,416,418,419,420,421,422,423,424,425,426,427,428,429,792,793,794,795,796,797,798,799,800,801,802,803,804,805,806,807,808,810,811,812,813,814,815,816,817,818,819,821,822,823,824,825,826,827,828,829,830,831,832,833,834,836,837,838,839,840,841,842,843,844,148,517,430,852]
def nt:R aq:=(dF 109).map aq.mk
def hZ(b:d6):Frag:=yg.map λa=>(a,((hw b 110).c.get a).getD qw)
def Ii{d:U->eB}{a:U}{e:eB}:∀{c:R U},(c.map λa=>(a,d a)).lookup a=Y e->a∈c/\e=d a:=by
 intro g
 induction g with
 |nil=>
  exact @λb=>b8 b
 |cons j c h=>
  exact @λb=>by
   rw[cl,ik]at b;split at b
   .rename_i i
    cases b;rw[ce.1 i];exact am bP Z
   .have f:=h b;exact am (cx _ f.1) f.2
def t0:aD eB->aE
 |some ⟨_,_,.freed,_⟩=>M
 |some _=>Q
 |none=>M
def Ie(b:t0 a=Q):∃c,a=Y c/\alive c=Y c:=by
 match a,b with
 |some ⟨e,f,d,g⟩,b=>cases d<;>first|exact(ax _ Z Z)|cases b
def HY{e:R U}{b:BT}{f a:U}{c:eB}(g:(e.all λa=>Nat.blt a f&&t0 (b.get a))=Q)(h:(e.map λa=>(a,(b.get a).getD qw)).lookup a=Y c):(absHeap b f {}).get? a=Y c:=by obtain⟨i,rfl⟩:=Ii h;have:=f1.1<|oA.1 g a i;obtain⟨c,d⟩:=Ie this.2;rw[abs_get (Nat.blt_eq.mp this.1) d.1,d.2,d.1];rfl
def Hy(a:d6):(yg.all λb=>Nat.blt b (hw a 110).b&&t0 ((hw a 110).c.get b))=true:=by kernel_rfl
def H5{b:eC}(c:q' b a):(hZ b.2).In a:=λd e f=>c d e<|HY (Hy b.2) f
end
noncomputable section
section
variable{a:dH}{b:b4}
def HC(a:aE->aE)(b:ar):Bool:=match b with|.bool c=>a c|_=>M
def HZ(a:ah->aE)(b:ar):Bool:=match b with|.int c _=>a c|_=>M
def t'(a:aJ->aE)(b:ar):Bool:=match b with|.str c _=>a c|_=>M
def t8(a:a9->aE)(b:ar):Bool:=match b with|.ref c=>a c|_=>M
def Io(a:ar):Bool:=match a with|.none=>Q|_=>M
def yL(a:ar)(b:aC->aE):Bool:=a.casesOn M M M (λc=>M) (λc c=>M) (λc c=>M) (λc c=>M) (λc c=>M) b (λc=>M) λc=>M
def t9(a:Data)(b:dk ar->aE):Bool:=a.casesOn M (λd=>M) (λc d=>b c) (λd d=>M) (λd d d=>M) (λd d=>M) (λd=>M) (λd=>M) (λd=>M) (λd=>M) M
def tS(a:Data)(b:dk gF->aE):Bool:=a.casesOn M (λd=>M) (λd d=>M) (λc d=>b c) (λd d d=>M) (λd d=>M) (λd=>M) (λd=>M) (λd=>M) (λd=>M) M
def nA(a:aD c)(b:c->aE):Bool:=a.casesOn M b
def rf(b:aC)(a:eB)(c:Data->aE):Bool:=yL a.1 (·==b)&&(a.2.isNone&&(a.4.1.isEmpty&&c a.3))
def IS(a:yL c d=Q):∃b,c=.type b/\d b=true:=by cases c<;>first|exact bx a|exact ax _ Z a
def yF(a:t9 c d=Q):∃b e,c=.seq b e/\d b=true:=by cases c<;>first|exact bx a|exact ck _ _ Z a
def yl(a:tS c d=Q):∃b e,c=.dict b e/\d b=true:=by cases c<;>first|exact bx a|exact ck _ _ Z a
def o6(a:nA c d=Q):∃b,c=Y b/\d b=true:=by cases c;exact bx a;exact ax _ Z a
def IM(a:t' d c=Q):∃b e,c=.str b e/\d b=true:=by cases c<;>first|exact bx a|exact ck _ _ Z a
def Il{a:eB}(b:a.1=c)(d:a.2=ab)(e:a.4=#[]):a={cls:=c,data:=a.3}:=by obtain⟨f,g,h,i⟩:=a;subst b;subst d;subst e;rfl
def t6(a:rf d c e=Q):∃b,c={cls:=.type d,data:=b}/\e b=true:=
 h3 a λf a=>h3 a λg a=>h3 a λh a=>cg (IS f) λk i j=>ax c.3 (Il (i.trans<|aF _<|ce.1 j) (m9.1 g)<|Array.toList_eq_nil_iff.1<|lE.1 h) a
def yK(a:dH)(c:R ar->aE)(d:a9):Bool:=nA (a.lookup d) λe=>rf "tuple" e λf=>t9 f λb=>hS b.1.length 1000&&c b.1
mutual
noncomputable def rg(a:dH):V->ar->aE
 |.C=>Io
 |.G e=>HC (e==·)
 |.A f=>HZ λg=>aN<|f=g
 |.E d=>t' λh=>dc d&&h==bv d
 |.H i=>t8 λj=>j==fP i
 |.F b=>t8<|yK a<|rh a b
 |_=>λc=>M
noncomputable def rh(a:dH):R V->R ar->aE
 |[]=>Yv
 |k::b=>λc=>match c with|l::c=>rg a k l&&rh a b c|[]=>M
end
def yD(a:t8 d c=Q):∃b,c=.ref b/\d b=true:=by cases c<;>first|exact(ax _ Z a)|exact bx a
def IR(b:yK a d c=Q):∃e f,e.length<=1000/\a.lookup c=Y {cls:=.type "tuple",data:=.seq e.toArray f}/\d e=true:=
 cg (o6 b) λl g b=>cg (t6 b) λm h b=>bS (yF b) λc f i b=>h3 b λj k=>cd c.1 f (aX j) (by subst i;subst h;exact g) k
mutual
noncomputable def o7(j:b.e=fP):∀{o:V}{d:ar},rg a o d=Q->∀e f,(∀h k,a.lookup h=Y k->e h=Y k)->ba b e f o d
 |.C,d,c,e,f,g=>by cases d<;>first|rfl|exact bx c
 |.G u,d,c,e,f,g=>by cases d<;>first|(exact aF _ (ce.1 c).symm)|exact bx c
 |.A v,d,c,e,f,g=>by cases d<;>first|(exact a1 _<|aF (Value.int · _) (f5 c).symm)|exact bx c
 |.E p,d,c,e,f,g=>by cases d<;>first|(exact am ((f1.1 c).1) ⟨_,aF (ts · _)<|ce.1 (f1.1 c).2⟩)|exact bx c
 |.H q,d,c,e,f,g=>by refine cg (yD c) λh m c=>?_;subst m;show _=dn (b.e q);rw[j];exact aF _<|ce.1 c
 |.F l,d,c,e,f,g=>by refine cg (yD c) λh m c=>?_;subst m;refine d2 (IR c) λr p n=>?_;exact cd h r Z (am (br n.1<|aX Z) ⟨p,g _ _ n.2.1⟩)<|uc j n.2.2 e f g
 |.D _,d,c,_,_,_=>bx c
 |.J _,d,c,_,_,_=>bx c
 |.L _ _,d,c,_,_,_=>bx c
 |.B _,d,c,_,_,_=>bx c
 |.K _,d,c,_,_,_=>bx c
 |.I _,d,c,_,_,_=>bx c
noncomputable def uc(j:b.e=fP):∀{l:R V}{i:R ar},rh a l i=Q->∀e f,(∀h k,a.lookup h=Y k->e h=Y k)->bt b e f l i
 |[],i,c,e,f,g=>lE.1 c
 |w::l,i,c,e,f,g=>by
  cases i with
  |nil=>exact bx c
  |cons d i=>
   refine fj (f1.1 c) λs t=>?_;exact cd d i Z (o7 j s e f g)<|uc j t e f g
end
def l8:ar->aJ
 |.str a _=>a
 |_=>""
def ub(a:dH):R (an×V)->R gF->aE
 |[]=>Yv
 |b::e=>λc=>match c with
  |d::c=>dc b.1&& !bG b.1&&d.2.isStr (bv b.1)&&rg a b.2 d.3&&ub a e c
  |[]=>M
def l5(b:R gF):R<|aJ×ar:=b.map λa=>(l8 a.2,a.3)
def H1{a:ar}(b:a.isStr c=Q):∃d,a=.str c d:=by cases a<;>first|(exact a1 _<|aF (ts · _)<|ce.1 b)|exact bx b
def IT(t:b.e=fP):∀{d:R gF},ub a c d=Q->(∀g h,(∀k l,a.lookup k=Y l->g k=Y l)->c1 b g h c (l5 d))/\Pairs (c' b.b b.a) d (l5 d)/\∀f∈d,(c' b.b b.a).1 (l8 f.2) f.2=true:=by
 induction c with
 |nil=>
  intro d e;rw[lE.1 e];exact aL (λF F F=>Z) (.nil) λF u=>bW u
 |cons v c w=>
  intro d e;cases d with
  |nil=>exact bx e
  |cons f d=>
   obtain⟨m,D⟩:=v;refine fj (f1.1 e) λe x=>?_;refine fj (f1.1 e) λe y=>?_;refine fj (f1.1 e) λe z=>?_;refine fj (f1.1 e) λA n=>?_;obtain⟨E,o⟩:=H1 z;have i:=w x;have p:l8 f.2=bv m:=by rw[o];rfl
   have q:(c' b.b b.a).1 (l8 f.2) f.2=true:=by rw[p,o];exact lP _ _ _ _
   refine aL (λg h r=>lg f.3 (l5 d) (aF (λB=>(B,f.3)::l5 d) p) A ?_ (o7 t y g h r)<|i.1 g h r) (.cons q Z i.2.1) λC j=>?_
   .refine c2 (bG m) (λs=>?_) λs=>?_
    .rfl
    .rw[s]at n;exact bx n
   .rcases bj.1 j with rfl|j
    .exact q
    .exact i.2.2 C j
def kT(b:d6)(a:R gF):Prop:=a.map (·.1)=a.map λc=>lK b<|l8 c.2
def yJ(a:dH)(d:R<|an×V)(c:a9):Bool:=nA (a.lookup c) λe=>rf "dict" e λf=>tS f λb=>hS b.1.length 1000&&(!(c==xZ)&&(ub a d b.1&&aN ((l5 b.1).map (·.1)).Nodup))
def HI(a:Data):dk DictEntry:=a.casesOn #[] (λc=>#[]) (λc c=>#[]) (λb c=>b) (λc c c=>#[]) (λc c=>#[]) (λc=>#[]) (λc=>#[]) (λc=>#[]) (λc=>#[]) #[]
def l6(a:dH)(b:a9):dk DictEntry:=(a.lookup b).casesOn #[] λc=>HI c.3
def H6:∀{d:R gF},kT c d->∀a∈d,a.1=lK c (l8 a.2):=by
 intro f
 induction f with
 |nil=>
  exact @λi a b=>bW b
 |cons h d g=>
  exact @λe a b=>by
   unfold kT at e;rw[cl,cl]at e;injection e with h1 h2;rcases bj.1 b with rfl|b;.exact h1
   .exact g h2 a b
def ua(p:b.e=fP)(e:yJ a d c=Q)(h:kT b.a.2 (l6 a c).1):∀g i,(∀c j,a.lookup c=Y j->g c=Y j)->ba b g i (.J d) (.ref c):=by
 refine cg (o6 e) λj m e=>cg (t6 e) λf q e=>bS (yl e) λk r s e=>h3 e λt e=>h3 e λu e=>h3 e λv w=>?_;subst s;subst q;unfold l6 at h;rw[m]at h;have l:=IT p v;have x:=H6 h;intro g i n;refine cd c (l5 k.1) Z (aL ?_ ?_ ⟨_,n _ _ m,k,r,⟨Z,Z,Z⟩,Z,λf y=>?_,l.2.1,f5 w⟩)<|l.1 g i n;.rw[l5,bC];exact aX t
 .intro z;subst z;exact a2 u<|ae Z
 .have o:f∈k.1:=by simpa using y
  exact a1 (l8 f.2) ⟨l.2.2 f o,x f o⟩
end
end
noncomputable section
def tQ:R cO:=[.I,.J,.D,.A,.H,.G,.L,.B,.F,.E,.K,.C]
def t1(a:cO):a∈tQ:=by cases a<;>exact ae Z
def Ip(a:cO):Bool:=match a with|.C=>M|_=>Q
def yC(a:dH)(b:cO):Bool:=hp a (.ref<|dh b) "__getattribute__"==Y (Y<|.builtin "object.__getattribute__")&&hp a (.ref<|dh b) "__getattr__"==Y ab&&xJ a (dh b)&&
 hp a (.ref<|dh b) "__setattr__"==Y (Y<|.builtin "object.__setattr__")&&plainOver a (dh b)&&xL a (.ref<|dh b)
def HN(b:dH)(a:cO):Bool:=(eF a).all λc=>hp b (.ref<|dh a) (b2 c)==Y ab
def yy:∀{e:R<|aC×aq},u' a e=Y b->(a,b)∈e
 |[],c=>b8 c
 |(f,h)::i,c=>by
  by_cases d:f=a;.have:=(au d).symm.trans c;have g:=ch this;subst g;subst d;exact .head _
  .exact .tail _<|yy<|(ao d).symm.trans c
def Ik(d:hF a b=Y c):(b,c)∈vh a:=yy d
def Ij(c:dH)(a:cO):Bool:=(vh a).all λb=>hp c (.ref<|dh a) (b2 b.1)==Y (Y<|.ref<|fP b.2)
def yM(a:aD CFound)(b:ar):Bool:=a.casesOn M λc=>c.casesOn (λd=>d==b) λe e e e=>M
def IU(c:yM b a=Q):b=Y (.val a):=by
 cases b with
 |none=>exact bx c
 |some d=>
  cases d with
  |val e=>exact aF (λa=>Y<|CFound.val a)<|ce.1 (c:(e==a)=Q)
  |get _ _ _ _=>exact bx c
def yp(b:dH)(a:cO):Bool:=(iG a).casesOn Q λc=>makesIn b (dh a)&&hp b (.ref<|dh a) "__init__"==Y (Y<|.ref<|fP c)&&xM b (dh a) (.type "type")&&yM (xI b (.ref<|dh a) (.type "type") "__init__") (.ref<|fP c)&&
 qP b (.ref<|dh a) "__getattribute__"==Y (Y<|.builtin "type.__getattribute__")
def ra(b:dH):Bool:=tQ.all λa=>(!Ip a||yC b a)&&HN b a&&Ij b a&&yp b a
def tX(a:dH)(b:a9):Bool:=typeIn a (.ref b)==Y (.type "function")&&xL a (.ref b)
def yh(a:d6):ra (hZ a)=true:=by kernel_rfl
def H2(a:d6):(nt.all λb=>tX (hZ a)<|fP b)=true:=by kernel_rfl
end
noncomputable section
def re(a:dH)(b:a9):Bool:=nA (a.lookup b) λc=>tS c.3 λd=>d.1.all λe=>t' (λf=>Q) e.2
def nx(a:dH)(b:a9)(c:aJ):aD Value:=nsFind (l6 a b) c
def t5{c:dH}(b:re c a=Q){e:bT}(g:c.In e):e.Ns a<|nx c a:=by refine cg (o6 b) λh f b=>bS (yl b) λi j d b=>?_;obtain⟨o,p,q,r⟩:=h;subst d;unfold nx l6;refine rM _ i j ⟨g _ _ f,Z,λd k=>?_,λs=>by rw[f];rfl⟩;exact bS (IM<|oA.1 b d<|by simpa using k) λl m n s=>f9 l m n
def HA:R Str:=["len","repr","isinstance","sorted"]
def HD:R Str:=["int","bool","str","list","tuple","dict","range","enumerate","zip"]
def tR:R Numpy.ErrWord:=[.ignore,.warn,.raise,.call,.print,.log]
def nB:gh->a9
 |.ignore=>363|.warn=>792|.raise=>148|.call=>517|.print=>430|.log=>852
def yH(b:dH)(a:gh):Bool:=match ly a with
 |.J c=>yJ b c<|nB a
 |d=>rg b d<|.ref<|nB a
def jf(a:dH)(b:a9)(c:aJ):aD Value:=(((l6 a b).1).find? (·.2.isStr c)).map (·.3)
def t3(a:dH):Bool:=re a ip&&re a i2&&re a cStatics&&(jf a cStatics "sys.recursionlimit").isNone&&
 (nt.all λc=>pA c||jf a ip (ps c)==Y (.ref<|fP c))&&(tQ.all λd=>jf a ip (rA d)==Y (.ref<|dh d))&&
 (HA.all λb=>(jf a ip b).isNone&&jf a i2 b==Y (.builtin b.toString))&&(HD.all λb=>(jf a ip b).isNone&&jf a i2 b==Y (.type b.toString))&&
 (tR.all λe=>jf a ip (wd e)==Y (.ref<|nB e))
def ys(a:dH):Bool:=(["NoneType","bool","int","str","list","tuple"].all λc=>[cO.A,.C,.B].all λb=>d7 a (.type c) (.ref<|dh b)==Y M)&&
 d7 a (.type "function") (.type "tuple")==Y M&&d7 a (.ref<|dh .A) (.ref<|dh .A)==Y Q&&d7 a (.ref<|dh .A) (.ref<|dh .C)==Y M&&d7 a (.ref<|dh .A) (.ref<|dh .B)==Y M&&
 (["str","list","tuple"].all λc=>d7 a (.ref<|dh .A) (.type c)==Y M)&&d7 a (.ref<|dh .B) (.ref<|dh .B)==Y Q&&
 ([cO.A,.B].all λb=>plainGet a (dh b) "__class__"&&xJ a (dh b)&&hp a (.ref<|dh b) "__class__"==Y (Y<|.builtin "object.__class__")&&
  qP a (.builtin "object.__class__") "__get__"==Y (Y<|.builtin "getset_descriptor.__get__")&&takesIn a (.builtin "object.__class__")==Y Q&&mroIn a (dh b) (.type "object")==Y Q)
def t4(a:d6):t3 (hZ a)=true:=by kernel_rfl
def H4(a:d6):ys (hZ a)=true:=by kernel_rfl
def yI(a:d6):(tR.all<|yH<|hZ a)=true:=by kernel_rfl
def yo(b:d6):∀c∈[Zx,.warn,.raise],kT b (l6 (hZ b)<|nB c).1:=λc a=>by
 rcases bj.1 a with rfl|a;.unfold kT;kernel_rfl
 .rcases bj.1 a with rfl|a
  .unfold kT;kernel_rfl
  .rcases bj.1 a with rfl|a
   .unfold kT;kernel_rfl
   .exact bW a
end
noncomputable section
def yr:aD xA->aE
 |some .local=>Q
 |some .cell=>Q
 |_=>M
def II(a:Data):R Value:=a.casesOn [] (λc=>[]) (λb c=>b.1) (λc c=>[]) (λc c c=>[]) (λc c=>[]) (λc=>[]) (λc=>[]) (λc=>[]) (λc=>[]) []
def o4(a:dH)(b:ar):R Value:=b.casesOn [] [] [] (λe=>[]) (λe e=>[]) (λe e=>[]) (λe e=>[]) (λe e=>[]) (λe=>[]) (λe=>[]) λc=>(a.lookup c).casesOn [] λd=>II d.3
def yk(a:dH)(b:ar):Bool:=b.casesOn Q M M (λf=>M) (λf f=>M) (λf f=>M) (λf f=>M) (λf f=>M) (λf=>M) (λf=>M) λc=>nA (a.lookup c) λd=>rf "tuple" d λe=>t9 e λf=>Q
def HO(c:dH)(b:aq)(a:xx)(d:R c5):Bool:=
 a.7.isEmpty&&(a.6==ip&&(a.15==i2&&(aN (a.5.1=.function)&&(!a.5.4&&(!a.5.3&&(codeIn c a.13 a.2&&
 ((a.3.1.isEmpty&&(a.3.4.isEmpty&&(a.3.3.isNone&&(a.3.6.isNone&&a.3.2.map (·.1)==(dF (bp b).a).map (ev b)))))&&
 (yk c a.8&&(rh c (bp b).c (o4 c a.8)&&(hS (bp b).c.length (bp b).a&&(jn ⟨ev b,hA b,a.5⟩ (bp b).b d&&(aN ((hA b).map<|ev b).Nodup&&
 (((hA b).all λe=>yr<|a.5.2.lookup<|ev b e)&&((dF (bp b).a).all λf=>(hA b).contains f))))))))))))))
def yn(a:Data)(b:xx->aE):Bool:=a.casesOn M (λc=>M) (λc c=>M) (λc c=>M) (λc c c=>M) (λc c=>M) (λc=>M) b (λc=>M) (λc=>M) M
def HT(c:yn a b=Q):∃d,a=.func d/\b d=true:=by cases a<;>first|exact bx c|exact ax _ Z c
def yG(a:FuncBody)(b:R c5->aE):Bool:=a.casesOn b λc=>M
def IL(c:yG a b=Q):∃d,a=.stmts d/\b d=true:=by cases a<;>first|exact bx c|exact ax _ Z c
def ym(a:cu):Bool:=a.casesOn M λb c=>c.casesOn (u1 b) λd d=>M
def HM(b:ym a=Q):a=.A .F .B:=by
 cases a with
 |B=>exact bx b
 |A c d=>
  cases d with
  |B=>exact CK (c:=λc=>cu.A c .B=.A .F .B) c (tm b) Z
  |A _ _=>exact bx b
def tW(b:dH)(a:aq):Bool:=ym (bp a).b||nA (b.lookup<|fP a) λd=>yn d.3 λc=>yG c.4 λe=>HO b a c e
def HS(a:d6):(nt.all<|tW<|hZ a)=true:=by kernel_rfl
end
noncomputable section
def g3(b:iZ)(c:eC)(a:dH):b4:=⟨b,c,fP,dh,a,nx a ip,nx a i2⟩
def l3(b:iZ)(a:eC):b4:=g3 b a<|hZ a.2
section
variable{c:iZ}{b:eC}{a:dH}
def t2(a:aq):a∈nt\/∃c,a=⟨c+109⟩:=by
 refine b1 (YX a.a 109) (λb=>?_) λb=>?_;.exact .inl<|d4.2 ⟨a.a,oD.2 b,Z⟩
 .exact .inr ⟨a.a-109,by rw[F4 b]⟩
def kV{a:dH}{b:a9}{c:aJ}:nx a b c=jf a b c:=by unfold nx jf nsFind findBy;rw[<-Array.find?_toList]
def yq(i:ra a=Q){b:cO}{c:aq}(j:iG b=Y c):makesIn a (dh b)=Q/\hp a (.ref<|dh b) "__init__"=Y (Y<|.ref<|fP c)/\xM a (dh b) (.type "type")=Q/\xI a (.ref<|dh b) (.type "type") "__init__"=Y (.val<|.ref<|fP c)/\
 qP a (.ref<|dh b) "__getattribute__"=Y (Y<|.builtin "type.__getattribute__"):=by
 have d:=(aP<|fk i<|t1 b).2;unfold yp at d;rw[j]at d;exact haveI e:=aP d;haveI f:=aP e.1;haveI g:=aP f.1;haveI h:=aP g.1;bB h.1 (ce.1 h.2) g.2 (IU f.2)<|ce.1 e.2
def HG(h:ra a=Q)(i:(nt.all λf=>tX a<|fP f)=Q):jT<|g3 c b a:=by
 haveI g:∀d,_:=λd=>aP (aP<|fk h<|t1 d).1;have j:∀d,d≠.C->yC a d=true:=λd e=>by have:=(aP (g d).1).1;cases d<;>first|exact a2 Z e|exact this
 refine⟨λd e=>haveI p:=aP<|j d e;haveI k:=aP p.1;haveI l:=aP k.1;haveI m:=aP l.1;haveI n:=aP m.1;bB (ce.1 n.1) (ce.1 n.2) m.2 (ce.1 l.2) k.2,
  λd f e=>ce.1<|fk (aP (g d).1).2<|td.1 e,λd q f e=>ce.1<|fk (g d).2<|Ik e,λd f e=>haveI o:=yq h e;am o.1 o.2.1,λf=>?_,λd e=>(aP<|j d e).2⟩
 have:tX a (fP f)=true:=by
  rcases t2 f with e|⟨r,rfl⟩;.exact fk i e
  .exact fk i (b:=⟨0⟩)<|td.1 Z
 exact am (ce.1 (aP this).1) (aP this).2
def HE(f:ra a=Q):∀d e,iG d=Y e->xM (g3 c b a).c ((g3 c b a).d d) (.type "type")=Q/\xI (g3 c b a).c (.ref<|(g3 c b a).d d) (.type "type") "__init__"=Y (.val<|.ref<|(g3 c b a).e e)/\
 qP (g3 c b a).c (.ref<|(g3 c b a).d d) "__getattribute__"=Y (Y<|.builtin "type.__getattribute__"):=λd e g=>(yq f g).2.2
def H3(r:ys a=Q):oW<|g3 c b a:=
 haveI f:=aP r;haveI g:=aP f.1;haveI h:=aP g.1;haveI i:=aP h.1;haveI j:=aP i.1;haveI k:=aP j.1;haveI l:=aP k.1
 ⟨λs d t e=>ce.1<|fk (fk l.1 d) e,ce.1 l.2,db (ce.1 k.2) (ce.1 j.2) (ce.1 i.2) λs d=>ce.1<|fk h.2 d,ce.1 g.2,λt e=>
  haveI m:=aP<|fk f.2 e;haveI n:=aP m.1;haveI o:=aP n.1;haveI p:=aP o.1;haveI q:=aP p.1
  gv q.1 q.2 (ce.1 p.2) (ce.1 o.2) (ce.1 n.2) (ce.1 m.2)⟩
def yA(r:t3 a=Q)(s:(tR.all<|yH a)=Q)(h:∀d∈[Zx,.warn,.raise],kT b.2 (l6 a<|nB d).1):ja<|g3 c b a:=by
 haveI k:=aP r;haveI l:=aP k.1;haveI m:=aP l.1;haveI n:=aP m.1;haveI o:=aP n.1;haveI p:=aP (aP (aP o.1).1).1;refine⟨λf i=>t5 p.1 i,λf i=>t5 p.2 i,λt q=>?_,λu=>kV.trans<|ce.1<|fk n.2<|t1 u,λv j=>haveI g:=aP<|fk m.2 j;am (kV.trans<|m9.1 g.1)<|kV.trans<|ce.1 g.2,
  λv j=>haveI g:=aP<|fk l.2 j;am (kV.trans<|m9.1 g.1)<|kV.trans<|ce.1 g.2,λd=>ax (.ref<|nB d) (kV.trans<|ce.1<|fk k.2<|by cases d<;>exact ae Z) ?_⟩
 .rcases t2 t with w|⟨x,rfl⟩
  .exact kn (fk o.2 w) (λf=>bx<|q.symm.trans f) λf=>kV.trans<|ce.1 f
  .exact a2 (q.symm.trans<|FT<|Nat.le_add_left_of_le<|show 75<=109 by decide) dy
 .have e:=fk s (b:=d) (by cases d<;>exact ae Z);cases d with
  |ignore=>exact ua Z e<|h _<|ae Z
  |warn=>exact ua Z e<|h _<|ae Z
  |raise=>exact ua Z e<|h _<|ae Z
  |call=>exact o7 Z e
  |print=>exact o7 Z e
  |log=>exact o7 Z e
def Ic(f:t3 a=Q):∀d,(g3 c b a).c.In d->d.NoLimit:=λd g=>
 haveI e:=aP (aP (aP (aP (aP (aP f).1).1).1).1).1
 ⟨_,t5 (aP e.1).2 g,kV.trans<|m9.1 e.2⟩
def HL:q0<|l3 c b:=⟨yA (t4 _) (yI _)<|yo _,HG (yh _)<|H2 _,H3<|H4 _,HE<|yh _⟩
def Im:∀a,(l3 c b).c.In a->a.NoLimit:=Ic<|t4 _
end
end
noncomputable section
section
variable{a:dH}
def H0(a:yr b=Q):b=Y .local\/b=Y .cell:=by
 match b,a with
 |some .local,_=>exact .inl Z
 |some .cell,_=>exact .inr Z
def HH(c:yk a b=Q):(b=.none/\o4 a b=[])\/∃d e,b=.ref d/\a.lookup d=Y {cls:=.type "tuple",data:=.seq (o4 a b).toArray e}:=by
 cases b with
 |none=>exact .inl<|am Z Z
 |ref d=>
  refine .inr<|cg (o6 c) λi f c=>cg (t6 c) λj g c=>bS (yF c) λk e h l=>?_;subst h;subst g;refine ck d e Z ?_;unfold o4;dsimp only;rw[f];rfl
 |_=>exact bx c
def HQ(e:tW a b=Q):oV (g3 c d a) b\/(bp b).b=.A .F .B:=
 kn e (λe=>.inr<|HM e) λe=>cg (o6 e) λy z e=>cg (HT e) λf A e=>cg (IL e) λB C e=>
 haveI g:=aP e;haveI h:=aP g.2;haveI i:=aP h.2;haveI j:=aP i.2;haveI k:=aP j.2;haveI l:=aP k.2;haveI m:=aP l.2;haveI n:=aP m.2;haveI o:=aP n.2;haveI p:=aP o.2;haveI q:=aP p.2;haveI r:=aP q.2;haveI s:=aP r.2;haveI t:=aP s.2;haveI u:=aP n.1;haveI v:=aP u.2;haveI w:=aP v.2;haveI x:=aP w.2
 .inl ⟨y,f,B,o4 a f.8,z,A,C,lE.1 g.1,ce.1 h.1,ce.1 i.1,f5 j.1,(kx _).mp k.1,(kx _).mp l.1,m.1,
  bB (lE.1 u.1) (lE.1 v.1) (m9.1 w.1) (m9.1 x.1) (ce.1 x.2),
  HH o.1,uc Z p.1,aX q.1,r.1,f5 s.1,λD E=>H0<|oA.1 t.1 D E,λF G=>td.1<|oA.1 t.2 F<|oD.2 G⟩
def HP(e:(nt.all<|tW a)=Q)(d:aq):oV (g3 b c a) d\/(bp d).b=.A .F .B:=by
 rcases t2 d with f|⟨g,rfl⟩;.exact HQ<|oA.1 e d f
 .exact .inr Z
def HR(a:aq):oV (l3 c b) a\/(bp a).b=.A .F .B:=HP (HS b.2) a
def IQ(a:U):ng (l3 b c) (aR a) a:=J3 HL Im HR a
end
end
noncomputable section
abbrev nz:RowW:=tp.row.1
def HU(b:tu [] a .int=Q):∃c,a=.int c:=by cases a<;>first|exact(a1 _ Z)|exact bx b
def HV:∀{a:R WData},GJ [] a .int=Q->∃b:R ah,a=b.map .int:=by
 intro c
 induction c with
 |nil=>
  exact @λj=>a1 ([]) Z
 |cons d a e=>
  exact @λf=>by refine fj (f1.1<|show(tu [] d .int&&GJ [] a .int)=Q from f) λg h=>?_;obtain⟨i,rfl⟩:=HU g;obtain⟨b,rfl⟩:=e h;exact a1 (i::b) Z
def HW(b:tu [] a (.list .int)=Q):∃c:R ah,a=.list (c.map .int):=by
 cases a with
 |list d=>
  have b:(GJ [] d .int||false)=true:=b;rw[oy]at b;obtain⟨c,rfl⟩:=HV b;exact a1 c Z
 |_=>exact bx b
def Hz(h:nz.claim.3 a=Q):∃c:R ah,a=[.list<|c.map .int]/\c.length<=63:=by
 refine fj (pre_splitW h) λb f=>?_;have b:GI [] a [.list .int]=true:=b
 match a,b with
 |[d],b=>
  refine fj (f1.1<|show(tu [] d (.list .int)&&GI [] [] [])=Q from b) λb k=>?_;obtain⟨c,rfl⟩:=HW b;refine ax c Z ?_;change ZM [] (WTm.and (.not<|.lt (.lit<|.int 63)<|.len<|.arg 0)<|.lit<|.bool Q) {args:=[.list<|c.map .int]}=Q at f;haveI e:ZM [] (.and (.not<|.lit<|.bool<|aN<|(63:ah)<(c.map WData.int).length)<|.lit<|.bool Q) {args:=[.list<|c.map .int]}=true:=f;rw[bC]at e;by_cases g:(63:ah)<c.length;.rw[c0 g]at e;exact bx e
  .exact Vs g
 |[],b=>exact bx b
 |d::i::j,b=>
  exact bx<|(f1.1<|show(tu [] d (.list .int)&&GI [] (i::j) [])=Q from b).2
def yN{c:R ah}:∀{d:R ar},WellAll b a d (c.map .int)->∀(e:b4)(f:bF)(g:cj),bt e f g (c.map .A) d:=by
 induction c with
 |nil=>intro d a e f g;cases a;rfl
 |cons l c h=>
  intro d a e f g;cases a with
  |cons i j=>
   cases i with
   |int _ k=>exact cd _ _ Z (a1 k Z)<|h j e f g
def Iq{d:bT}(h:d.Ns a b)(i:d.Ns a c)(e:aJ):b e=c e:=by obtain⟨o,p,q,j,k,_,l⟩:=h;obtain⟨r,s,t,f,g,_,m⟩:=i;rw[j]at f;have n:=ch f;subst n;rw[k]at g;cases g;rw[<-l,m]
def IV(x:∀g:R ah,∃t,aR 91 .L [.D<|g.map .A] af.E=Y (.G Q,t)):WalkO ny nw (λx_ x_=>eN) q' nz tY [] λy j=>fJ y j:=by
 intro c d_ k e_ f_ z A u f g_ h_ i_ j_ k_ l_ m_ n_ o_ B C p_ q_ r_ D s_ t_ E u_;refine cg (Hz D) λg F G=>?_;subst F;have m:=H5 A;have v:=yA (c:=nz.1) (t4 c.2) (yI c.2)<|yo c.2;have H:u=fP .L:=by have l:=Iq (v.d _ m) z.1.1 tY.1;rw[B]at l;have n:=v.e .L Z;have:(dn u)=.ref (fP .L):=cZ<|l.symm.trans n;injection this
 subst H;cases E with
 |cons l n=>
  cases n;cases l with
  |@list d j _ I w=>
   obtain⟨t,J⟩:=x g
   let e:bF:=λa=>if a=d then k.1.get? d else(hZ c.2).lookup a
   have K:bf (l3 nz.1 c) e [] af.E k.1:=by
    refine⟨Z,λa f b=>?_,λo p b=>by simp at b,λo v_ p w_ a b=>by simp at b,λa q=>?_,λa f b=>?_⟩
    .by_cases h:a=d
     .subst h;rwa [show e a=k.1.get? a from au Z]at b
     .rw[show e a=(hZ c.2).lookup a from ao h]at b;exact m a f b
    .refine bS q λo p b x_=>?_;simp at b
    .by_cases h:a=d
     .subst h;rw[show e a=k.1.get? a from au Z];exact m a f b
     .rw[show e a=(hZ c.2).lookup a from ao h];exact b
   have L:j.length=g.length:=by have:=(yN w (l3 nz.1 c) e []).A;rwa [bC]at this
   have a_:bt (l3 nz.1 c) e [] [.D<|g.map .A] [.ref d]:=cd (.ref d) ([]) Z (cd d j Z (am (by exact(a5 111 Z:N [_,_] (.A X 1000000) [.C X S,.A S 63]) L G) ⟨0,(au Z).trans I⟩)<|yN w _ _ _) Z;refine kJ (zk (IQ 91) ⟨Z,Z,aX Z,aX Z⟩ J K a_) (λb_ y_ c_=>?_) λx_ x_ i=>i;refine bS c_ λz_ A_ r s=>?_;have s:b_=.bool true:=s;subst s;refine⟨.inl<|rM _ (.bool Q) ([]) ⟨Z,λB_=>Z,.bool _,?_,λx_=>⟨iW,λx_ i=>bW i⟩⟩,.of_keep λa f b=>r.c a f b (λq=>?_) λi=>i,r.f,.of_eq<|r.e.trans C⟩;.exact postW_of (by rfl) (aF (λa=>Y<|WData.bool a)<|same_self _) Z
   .refine bS q λo p b x_=>?_;simp at b
end
end M.Top
namespace M.Top
def Hx:tp.Holds:=HX<|IV OO
end M.Top
end
end
theorem PySem.Challenge.cw_nz0058_01_holds : PySem.Challenge.rw_nz0058_01.Holds :=
 M.Top.Hx
