import PyProof.Rows.All
import Wide.All
import OpenK.AllK
import Wide.FinOn
import KE.KNestM
import Lean
import PySem.Challenge.RW_sa0220_01
set_option Elab.async false
set_option autoImplicit true
set_option maxHeartbeats 4000000
set_option linter.all false
set_option maxRecDepth 4000
set_option genSizeOf false
set_option genInjectivity false
set_option genCtorIdx false
set_option bootstrap.genMatcherCode false
open Array renaming forIn_toList->abF,getElem?_eq_getElem->Oq,getElem?_eq_some_iff->abS,getElem?_setIfInBounds_self_of_lt->abT
open Bool renaming and_eq_true->cI,and_eq_true_iff->kI,and_true->BQ,eq_false_iff->BX,eq_iff_iff->vK,false->au,false_eq_true->wf,false_ne_true->vP,noConfusion->abm,or_eq_true->pj,or_eq_true_iff->yO,true->aj
open Decidable renaming decide->aZ
open Eq renaming symm->Gr
open Exists renaming elim->Om
open False renaming elim->nZ
open ForIn renaming forIn->vT
open ForInStep renaming yield->yC
open Inhabited renaming default->ys
open Int renaming fdiv_eq_ediv_of_nonneg->abw,fmod_eq_emod_of_nonneg->abA,lt_trans->yu,natCast_nonneg->g9,not_lt->N6,ofNat_inj->Gq,ofNat_lt->eM,toNat_natCast->jC,toNat_of_nonneg->abz
open LawfulBEq renaming eq_of_beq->cr
open List renaming all_cons->m7,all_eq_true->fN,any_cons->NY,any_eq_true->Go,append_assoc->re,append_nil->iD,append_toArray->abI,casesOn->j4,count_cons->abr,count_replicate_self->NV,drop->NJ,drop_of_length_le->abN,ext_getElem?->N2,filterMap->abV,filterMap_cons->abK,filter_append->N4,filter_cons->BU,finRange->Nz,find?_cons->vJ,find?_map->abn,find?_some->NO,flatMap_append->NG,flatMap_cons->abl,foldl_append->NZ,foldl_cons->NW,forIn_cons->BY,forall_mem_cons->sQ,forall_mem_singleton->NQ,getD_eq_getElem?_getD->vO,getElem?_append_left->nY,getElem?_append_right->m5,getElem?_eq_getElem->gP,getElem?_eq_none->ro,getElem?_eq_none_iff->Gg,getElem?_eq_some_iff->dH,getElem?_map->j2,getElem?_mapIdx->uz,getElem?_of_mem->Gm,getElem?_range->BR,getElem?_replicate->yz,getElem?_set_ne->ja,getElem?_set_self->ph,getElem?_toArray->OB,isEmpty_iff->eQ,isEmpty_nil->aca,length_append->cZ,length_cons->mZ,length_drop->Ou,length_eq_zero_iff->abX,length_filter_le->abp,length_map->d5,length_mapIdx->ri,length_nil->abZ,length_range->abx,length_replicate->Gn,length_set->vL,length_singleton->NU,length_take->yw,lookup->sX,lookup_cons->gR,map->NL,map_append->l8,map_congr_left->uA,map_cons->uB,map_map->N5,map_replicate->NR,mem_append->d6,mem_append_left->ma,mem_append_right->vM,mem_cons->gQ,mem_cons_of_mem->iR,mem_cons_self->je,mem_filter->Gk,mem_filterMap->Og,mem_finRange->NE,mem_map->gO,mem_of_find?_eq_some->NP,mem_of_getElem?->cW,mem_of_mem_take->Gh,mem_range->abH,mem_singleton->dq,nil_append->abY,nodup_cons->pn,not_mem_nil->jD,range->j0,range_succ_eq_map->Oa,replicate->eL,reverse_reverse->abq,set_append_right->yv,size_toArray->jd,sum->Gp,sum_cons->yA,take->NK,take_add_one->lD,take_append_drop->NH,take_length->rh,take_of_length_le->yy,toArray->lG,zip_cons_cons->GK,zip_nil_right->abW
open List.cons renaming inj->vQ
open Nat renaming add->gc,add_assoc->ra,add_comm->N0,add_le_add_left->abG,add_le_add_right->N7,add_right_comm->sO,add_sub_cancel_left->yx,ble->yt,casesOn->oa,le_add_left->rp,le_add_right->eN,le_antisymm->abk,le_of_ble_eq_true->cJ,le_of_eq->NF,le_of_lt->hG,le_of_lt_succ->N9,le_of_not_lt->rg,le_of_succ_le->Gs,le_of_succ_le_succ->abo,le_refl->cF,le_sub_of_add_le->abh,le_succ->lE,le_succ_of_le->jc,le_trans->di,lt_irrefl->sT,lt_of_le_of_lt->gF,lt_of_le_of_ne->N1,lt_of_lt_of_eq->uv,lt_of_lt_of_le->gf,lt_of_succ_lt->kJ,lt_of_succ_lt_succ->BS,lt_succ_of_le->abD,lt_succ_of_lt->BV,lt_succ_self->m4,lt_trans->dF,min_eq_left->abL,min_eq_right->abM,min_le_left->abB,mod_lt->sU,ne_of_gt->rm,ne_of_lt->l9,not_lt->sR,not_lt_zero->ux,not_succ_le_self->abC,or_lt_two_pow->abu,sub_add_cancel->vH,sub_pos_of_lt->abi,sub_right_comm->abj,sub_self->qi,succ_le_succ->lF,succ_lt_succ->Gi,succ_mul->N8,succ_ne_self->vN,succ_pos->rn,testBit_or->NX,testBit_two_pow->abv,zero_add->uw,zero_le->lC,zero_testBit->abt
open Nat.succ renaming inj->N3
open Ne renaming symm->hH
open Option renaming all_some->Oo,eq_none_iff_forall_ne_some->abP,getD_some->abQ,isNone_iff_eq_none->OC,isSome_iff_exists->uC,isSome_map->uy,map->Gj,map_eq_some_iff->pi,map_map->aby,map_some->NT,none->ah,not_isSome_iff_eq_none->NM,some->aa
open Option.some renaming inj->bU,injEq->OS
open PUnit renaming unit->vU
open Prod renaming snd->sP
open Pure renaming pure->dG
open PyProof renaming noPylong_small->abJ
open PyProof.Rows renaming IntsAre->yB,assignInOrder_cons->OM,assignInOrder_nil->abU,callWith_type->GB,envOfC->na,spliced_none->vZ,subscriptTail->sW
open PySem renaming Addr->am,Arguments->i9,Around->bq,Comprehension->GI,Const->qm,DictEntry->i8,Env->bP,ExcName->BW,ExceptHandler->sY,Expr->aO,Flow->kK,GenState->Ge,Heap->aQ,Model->jN,NameKind->cK,Obj->cE,OsState->iC,Params->bV,Pos->be,Program->jM,Reads->uD,Result->sV,Scope->dY,Shared->az,Stmt->bK,Str->aD,Tok->kF,Value->aq,World->de,assignEach->GJ,attributeBase->OA,backTo->rz,behindInMarks->Os,beq_builtin_none->Od,binaryOp->mi,builtinsNs->vG,cLine->qj,call->fX,call_meetsIn->Ox,cameBackBy->GH,checkBuiltinCall->yN,closureFor->GE,codeAny->kL,codeAny_call_builtin->ace,compEnvC->yI,compPost->B6,compareOp->oh,eqIsQuiet->Gu,eval->gn,excClassObj->oi,foldedSetIterable->yJ,getAttr->B2,getItem->kN,getMethod->wc,getMethod_builtin->B5,importedModules->Gf,inplaceOp->qk,interactive->OG,isInstance->Of,mainGlobals->e7,model->aU,newFunctionEnv->B8,newList->B7,plainObj_wpAny_Assign_Attribute->OH,rawInt->mh,recursionLimit->wt,relabel->wh,setItem->vY,sizeLine->hU,sizeLine_eq->Ce,slicePicked->B3,starEach->po,storeName->uF,swapsWith->B9,sysModules->Gv,treeTable->jB,truthy->Gx,typeLookup->v7,wpAny->aJ,wpAny_Constant_none->Oh,wpAny_Constant_str->Oi,wpAny_Expr_any->OF,wpAny_Name->Oj,wpAny_Return_some->OE,wpAny_assign_Name->GF,wpAny_bind->bM,wpAny_call->v9,wpAny_comprehension_free->abR,wpAny_evalPart_none->Ov,wpAny_evalPart_some->Ow,wpAny_execs_cons->yM,wpAny_execs_nil->wi,wpAny_field->wq,wpAny_getItem_list_slice->abO,wpAny_holding->GD,wpAny_isSubtype_exc->uI,wpAny_loadName_cell->Ok,wpAny_loadName_local->Gw,wpAny_loadPart_at->m9,wpAny_mkInt->Oe,wpAny_mono->yF,wpAny_newObj_type->OJ,wpAny_of_eq->yG,wpAny_pure->eT,wpAny_pyIter_range->OD,wpAny_setField->OL,wpAny_standAt->GC,wpAny_truthy_bool->Gy,wpAt_bind->acb,wpAt_of_wpAny->acd
open PySem.Around renaming in1_units->Ob
open PySem.Builtin renaming bitAnd->Ol,bitNot->vX
open PySem.Builtin.List renaming listTooLong->GA
open PySem.Builtin.ObjectAttr renaming newKeyGuard->acf,storeInDict->GL
open PySem.Builtin.Range renaming rangeSize->Cb
open PySem.Builtin.Tuple renaming tupleHashOf->abE
open PySem.Calls renaming callWith_builtin->yE,evalArgs_plain->v8,spliced_cons->rA
open PySem.Challenge renaming pw_sa0220_01->iB,rw_sa0220_01->sN
open PySem.Code renaming body->fM
open PySem.Env renaming kindOf->iE
open PySem.Expr renaming Name->uE
open PySem.F renaming excBase_Exception->Cc,plainAttrs_list->Oz,slot_dict_get->Oy,slot_list_getitem->Ot,slot_list_iadd->OI,store_Exception->Cd
open PySem.Flow renaming next->mY
open PySem.FuncBody.stmts renaming injEq->acg
open PySem.Heap renaming ExtBut->m8,SameBut->vV,get?_none_of_le->lH,get?_push_at->OO,get?_push_of_some->jE,get?_push_size->kO,get?_update_other->uH,get?_update_self->rB,lt_size->md,size_push->ON
open PySem.NameKind renaming cell->wg,free->yH
open PySem.Obj renaming data_mapFields->wo,isFreed_of_fields->Ca,mapFields->uG,mapSeq->GG,putNameByArray->yL,putName_eq->yK
open PySem.PyData renaming eqv->On,keyHash->Gc
open PySem.Str renaming ofString->bz
open PySem.Value renaming none->kM,ref->eK
open PySem.W renaming CodeHd->yD,Frag->kG,boot_heap->q7,callWith_of->B4,findIn->j5,getL->B0,handedIn->B1,listOf->rq,looks_findIn->OP,looks_pair->q9,nameG_K->BZ,nsIn->ip,piece_app->sL,piecesOf->pf,plainGet->Gz,pyHash_slot->Oc,segRunT->pd,segRun_of->sM,tabObj->ry,topFrame->kH,topRead_of->vW
open PySem.W.Fast renaming te10110043849684766642->q8,te14364793385576792824->nX
open PySem.W.SharedT renaming mk->Gd
open PySem.Within renaming cons->OQ,nil->OR
namespace Internal
noncomputable section
section
open PySem PySem.W PySem.Calls PyProof.Rows
set_option maxRecDepth 100000
noncomputable abbrev vI(i:Int)(t:kF):aq:=.int i t
noncomputable abbrev vS(x:String)(t:kF):aq:=.str (bz x) t
noncomputable abbrev vR(a:am):aq:=.ref a
noncomputable abbrev eS(P:bV)(x:String)(t:kF)(v:aq):i8:=⟨Gc P (bz x),.str (bz x) t,v⟩
noncomputable def bE:List bK:=behindTheImports iB
noncomputable def ud:Nat->List bK->bK|_,[]=>.Pass ys|0,s::_=>s|n+1,_::l=>ud n l
noncomputable def BL:bK->i9×List bK×dY|.FunctionDef _ a b _ _ _ s _ _ _=>(a,b,s)|_=>(ys,[],ys)
noncomputable def HF:bK->List bK|.ClassDef _ _ _ b _ _ _ _ _ _ _=>b|_=>[]
noncomputable def GS(x:i9×List bK×dY):i9×List bK×dY:=({x.1 with defaults:=[]},x.2)
noncomputable abbrev aX(i:Nat):i9×List bK×dY:=BL (ud i bE)
noncomputable abbrev eI(i j:Nat):i9×List bK×dY:=BL (ud j (HF (ud i bE)))
noncomputable abbrev acG(i:Nat):i9×List bK×dY:=GS (BL (ud i bE))
noncomputable abbrev acv(i j:Nat):i9×List bK×dY:=GS (BL (ud j (HF (ud i bE))))
noncomputable abbrev wT(r:i9×List bK×dY)(n a:String)(g:am)(d kd doc pm c ct:aq)(b:am):Data:=.func {name:=bz n,qualname:=bz a,params:=r.1,body:=.stmts r.2.1,scope:=r.2.2,globals:=g,closure:=[],defaults:=d,kwdefaults:=kd,doc:=doc,pyModule:=pm,annotations:=ah,code:=c,closureTuple:=ct,builtins:=b}
noncomputable abbrev iO(c:aq)(k l:String)(t:Nat)(i f h:Int)(g:am)(b:Bool)(m:am)(a d e:aq)(u:Nat)(j:Int):cE:=⟨c,ah,.fields #[vS k t,vS l (t+1),vS "/claim/cut.py" (t+2),vI i 0,vI f 0,vI 0 0,vI 0 0,vI h 0,vR g,.bool b,vI 181 0,vR m,.none,a,d,e,vI u 0,vI j 0,vS "/claim/cut.py" (u+1)],#[]⟩
noncomputable def ev(l:List cE):Bool->List cE:=l.rec (λz=>[]) λx z a b=>b.rec (a aj) (x::a au)
noncomputable def bt(n:Nat):List cE->BT:=n.rec (λz=>.nil) λz a l=>l.rec .nil λo r z=>.node o (a (ev r aj)) (a (ev r au))
noncomputable def pk(i:Nat)(b:List Nat)(l:List cE):kG:=(l.rec (λz z=>[]) λo z c i b=>b.rec [] λa r z=>(Nat.beq a i).rec (c (i+1) (a::r)) ((a,o)::c (i+1) r):Nat->List Nat->kG) i b
noncomputable def tp(l:List aq):cE:=⟨.type "tuple",ah,.seq ⟨l⟩ 0,#[]⟩
noncomputable def nf:cE:=⟨.none,ah,.fields #[],#[]⟩
noncomputable def fA(r:i9×List bK×dY)(n q:String):cE:=⟨.none,ah,wT r n q 0 .none .none .none .none .none .none 0,#[]⟩
noncomputable def fB(r:i9×List bK×dY)(n q m:String)(t c:Nat):cE:=⟨.type "function",ah,wT r n q 3 .none .none .none (vS m t) (vR c) .none 0,#[]⟩
noncomputable def fC r n:=fA r n n
noncomputable def fD r n:=fB r n n
noncomputable def cB(n q:String)(t:Nat)(l a f:Int)(c b x y z u:Nat)(k:Int):cE:=iO (.type "code") n q t l a f c aj b (vR x) (vR y) (vR z) u k
noncomputable def cC n:=cB n n
noncomputable def eR(P:bV)(x:String)(t a:Nat):i8:=eS P x t (vR a)
noncomputable def ln:List Nat->List aq:=λl=>(l.rec (λz=>[]) λx z a b=>b.rec (vI x 0::vI 0 0::a aj) (vR x::a au):Bool->List aq) au
noncomputable def dz:bP:={scope:=(iB).main.scope,locals:=mainNs,globals:=mainNs,cells:=[],code:=.ref 13,frame:=aa 14}
noncomputable def L0(P:bV):List cE:=[(boot_o_0 P),(boot_o_1 P),(boot_o_2 P),(boot_o_3 P),(boot_o_4 P),(boot_o_5 P),(boot_o_6 P),(boot_o_7 P),(boot_o_8 P),(boot_o_9 P),(boot_o_10 P)]
noncomputable def L1(P:bV):List cE:=(L0 P)++[tp [],nf,iO (.type "code") "<module>" "<module>" 182 1 0 0 11 au 12 .none .none .none 185 1,⟨(.type "frame"),ah,.plain,#[aa (vR 13),aa (vR 3),aa (vR 3),ah,aa (vS "__main__" 164),ah,aa (vR 0)]⟩]
noncomputable def hA(P:bV):aQ:=⟨⟨L1 P⟩,{}⟩
noncomputable def tB(P:bV):BT:=bt 11 (L1 P)
noncomputable def L2(P:bV):List cE:=((((L1 P).set 2 ⟨.none,ah,.dict #[eS P "type.__subclasses__.Exception.0" 221 (vI 38 0),eS P "type.__subclasses__.Exception.n" 222 (vI 1 0)] 2,#[]⟩).set 3 ⟨(.type "dict"),ah,.dict #[eS P "__name__" 165 (vS "f77.errors" 194),eS P "__doc__" 166 .none,eS P "__package__" 167 .none,eS P "__loader__" 168 (.builtin "__main__.__loader__#opaque"),eS P "__spec__" 169 .none,eR P "__annotations__" 170 6,eR P "__builtins__" 171 4,eS P "__file__" 173 (vS "/claim/cut.py" 172),eS P "__cached__" 174 .none,eR P "_wall" 193 21,eR P "F77Error" 224 38,eR P "RunFault" 240 51,eR P "CodeFault" 256 63] 13,#[]⟩).set 12 ⟨.none,ah,.fields (ln [1,20,5,27,10,47,12,59]).toArray,#[]⟩)++[tp [],nf,tp [vS "k" 190],tp [],fC (aX 0) "_wall",cC "_wall" 187 1 1 3 15 16 17 18 19 191 1,fD (aX 0) "_wall" "__main__" 164 20,tp [(.type "Exception")],⟨(.type "builtin_function_or_method"),ah,.fields #[(.builtin "type.__prepare__"),(.type "type")],#[]⟩,⟨(.type "dict"),ah,.dict #[eS P "__module__" 203 (vS "f77.errors" 194),eS P "__qualname__" 205 (vS "F77Error" 204),eS P "__firstlineno__" 207 (vI 5 206),eR P "__init__" 215 35,eR P "__static_attributes__" 217 36] 5,#[]⟩,tp [],⟨.none,ah,.fields #[vI 7 0,vI 4 0,vR 34],#[]⟩,iO (.type "code") "F77Error" "F77Error" 198 5 0 0 25 au 26 .none .none .none 201 5,⟨(.type "frame"),ah,.plain,#[aa (vR 27),aa (vR 3),aa (vR 24),ah,aa (vS "f77.errors" 194),ah,aa (vR 0)]⟩,tp [],nf,tp [vS "self" 211,vS "text" 212],tp [],fA (eI 2 0) "__init__" "F77Error.__init__",cB "__init__" "F77Error.__init__" 208 7 2 3 29 30 31 32 33 213 7,fB (eI 2 0) "__init__" "F77Error.__init__" "f77.errors" 194 34,tp [vS "text" 216],⟨(.type "dict"),ah,.dict #[eS P "__module__" 203 (vS "f77.errors" 194),eS P "__firstlineno__" 207 (vI 5 206),eR P "__init__" 215 35,eR P "__static_attributes__" 217 36,eR P "__weakref__" 219 39,eS P "__doc__" 220 .none] 3,#[]⟩,⟨(.type "type"),ah,.cls {name:=.ofString "F77Error",bases:=[(.type "Exception")],mro:=[vR 38,(.type "Exception"),(.type "BaseException"),(.type "object")],ns:=37,qualname:=.ofString "F77Error",hasDict:=aj,subclasses:=[vR 51,vR 63],abstract:=au,hasDel:=au},#[aa (vR 22),ah,aa (vS "F77Error" 196),aa (vS "F77Error" 204),aa (.builtin "Exception.__new__"),aa (.bool aj)]⟩,⟨(.type "getset_descriptor"),ah,.fields #[vS "__weakref__" 218,vR 38,(.builtin "ExceptionGroup.__weakref__"),.none],#[]⟩,⟨(.type "super"),ah,.fields #[vR 38,vR 38,vR 38],#[]⟩,⟨(.type "builtin_function_or_method"),ah,.fields #[(.builtin "object.__init_subclass__"),vR 38],#[]⟩,tp [vR 38],⟨(.type "builtin_function_or_method"),ah,.fields #[(.builtin "type.__prepare__"),(.type "type")],#[]⟩,⟨(.type "dict"),ah,.dict #[eS P "__module__" 232 (vS "f77.errors" 194),eS P "__qualname__" 234 (vS "RunFault" 233),eS P "__firstlineno__" 236 (vI 10 235),eR P "__static_attributes__" 237 49] 4,#[]⟩,tp [],nf,iO (.type "code") "RunFault" "RunFault" 227 10 0 0 45 au 46 .none .none .none 230 10,⟨(.type "frame"),ah,.plain,#[aa (vR 47),aa (vR 3),aa (vR 44),ah,aa (vS "f77.errors" 194),ah,aa (vR 0)]⟩,tp [],⟨(.type "dict"),ah,.dict #[eS P "__module__" 232 (vS "f77.errors" 194),eS P "__firstlineno__" 236 (vI 10 235),eR P "__static_attributes__" 237 49,eS P "__doc__" 238 .none] 2,#[]⟩,⟨(.type "type"),ah,.cls {name:=.ofString "RunFault",bases:=[vR 38],mro:=[vR 51,vR 38,(.type "Exception"),(.type "BaseException"),(.type "object")],ns:=50,qualname:=.ofString "RunFault",hasDict:=aj,subclasses:=[],abstract:=au,hasDel:=au},#[aa (vR 42),ah,aa (vS "RunFault" 225),aa (vS "RunFault" 233),aa (.builtin "Exception.__new__"),aa (.bool aj)]⟩,⟨(.type "super"),ah,.fields #[vR 51,vR 51,vR 51],#[]⟩,⟨(.type "builtin_function_or_method"),ah,.fields #[(.builtin "object.__init_subclass__"),vR 51],#[]⟩,tp [vR 38],⟨(.type "builtin_function_or_method"),ah,.fields #[(.builtin "type.__prepare__"),(.type "type")],#[]⟩,⟨(.type "dict"),ah,.dict #[eS P "__module__" 248 (vS "f77.errors" 194),eS P "__qualname__" 250 (vS "CodeFault" 249),eS P "__firstlineno__" 252 (vI 12 251),eR P "__static_attributes__" 253 61] 4,#[]⟩,tp [],nf,iO (.type "code") "CodeFault" "CodeFault" 243 12 0 0 57 au 58 .none .none .none 246 12,⟨(.type "frame"),ah,.plain,#[aa (vR 59),aa (vR 3),aa (vR 56),ah,aa (vS "f77.errors" 194),ah,aa (vR 0)]⟩,tp [],⟨(.type "dict"),ah,.dict #[eS P "__module__" 248 (vS "f77.errors" 194),eS P "__firstlineno__" 252 (vI 12 251),eR P "__static_attributes__" 253 61,eS P "__doc__" 254 .none] 2,#[]⟩,⟨(.type "type"),ah,.cls {name:=.ofString "CodeFault",bases:=[vR 38],mro:=[vR 63,vR 38,(.type "Exception"),(.type "BaseException"),(.type "object")],ns:=62,qualname:=.ofString "CodeFault",hasDict:=aj,subclasses:=[],abstract:=au,hasDel:=au},#[aa (vR 54),ah,aa (vS "CodeFault" 241),aa (vS "CodeFault" 249),aa (.builtin "Exception.__new__"),aa (.bool aj)]⟩,⟨(.type "super"),ah,.fields #[vR 63,vR 63,vR 63],#[]⟩,⟨(.type "builtin_function_or_method"),ah,.fields #[(.builtin "object.__init_subclass__"),vR 63],#[]⟩]
noncomputable def t0(P:bV):BT:=bt 11 (L2 P)
noncomputable def Jd(P:bV):List i8:=[eS P "__name__" 165 (vS "f77.reals" 405),eS P "__doc__" 166 .none,eS P "__package__" 167 .none,eS P "__loader__" 168 (.builtin "__main__.__loader__#opaque"),eS P "__spec__" 169 .none,eR P "__annotations__" 170 6,eR P "__builtins__" 171 4,eS P "__file__" 173 (vS "/claim/cut.py" 172),eS P "__cached__" 174 .none,eR P "_wall" 193 21,eR P "F77Error" 224 38,eR P "RunFault" 240 51,eR P "CodeFault" 256 63,eR P "TooLong" 281 82,eR P "fit_int" 292 91,eR P "int_add" 301 98,eR P "int_sub" 310 105,eR P "int_mul" 319 112,eR P "cut_quotient" 328 119,eR P "int_div" 337 126,eR P "inverse_power" 345 133,eR P "int_power" 356 140,eR P "order_of" 364 147,eR P "holds" 372 154,eR P "int_binary" 383 161,eS P "INTEGER" 387 (vI 0 386),eS P "REAL" 389 (vI 1 388),eS P "DOUBLE" 391 (vI 2 390),eS P "COMPLEX" 393 (vI 3 392),eS P "LOGICAL" 395 (vI 4 394),eS P "CHARACTER" 397 (vI 5 396),eR P "units_of" 404 168,eR P "NOUGHT" 409 169,eR P "count_digits" 417 176,eR P "strip_zeros" 425 183]
noncomputable def L3(P:bV):List cE:=((((L2 P).set 3 ⟨(.type "dict"),ah,.dict (Jd P).toArray 35,#[]⟩).set 12 ⟨.none,ah,.fields (ln [1,20,5,27,10,47,12,59,14,71,20,90,25,97,27,104,29,111,31,118,34,125,38,132,44,139,53,146,57,153,71,160,90,167,98,175,108,182]).toArray,#[]⟩).set 38 ⟨(.type "type"),ah,.cls {name:=.ofString "F77Error",bases:=[(.type "Exception")],mro:=[vR 38,(.type "Exception"),(.type "BaseException"),(.type "object")],ns:=37,qualname:=.ofString "F77Error",hasDict:=aj,subclasses:=[vR 51,vR 63,vR 82],abstract:=au,hasDel:=au},#[aa (vR 22),ah,aa (vS "F77Error" 196),aa (vS "F77Error" 204),aa (.builtin "Exception.__new__"),aa (.bool aj)]⟩)++[tp [vR 38],⟨(.type "builtin_function_or_method"),ah,.fields #[(.builtin "type.__prepare__"),(.type "type")],#[]⟩,⟨(.type "dict"),ah,.dict #[eS P "__module__" 264 (vS "f77.errors" 194),eS P "__qualname__" 266 (vS "TooLong" 265),eS P "__firstlineno__" 268 (vI 14 267),eR P "__init__" 276 79,eR P "__static_attributes__" 278 80] 5,#[]⟩,tp [],⟨.none,ah,.fields #[vI 16 0,vI 4 0,vR 78],#[]⟩,iO (.type "code") "TooLong" "TooLong" 259 14 0 0 69 au 70 .none .none .none 262 14,⟨(.type "frame"),ah,.plain,#[aa (vR 71),aa (vR 3),aa (vR 68),ah,aa (vS "f77.errors" 194),ah,aa (vR 0)]⟩,tp [],nf,tp [vS "self" 272,vS "steps" 273],tp [],fA (eI 5 0) "__init__" "TooLong.__init__",cB "__init__" "TooLong.__init__" 269 16 2 3 73 74 75 76 77 274 16,fB (eI 5 0) "__init__" "TooLong.__init__" "f77.errors" 194 78,tp [vS "steps" 277],⟨(.type "dict"),ah,.dict #[eS P "__module__" 264 (vS "f77.errors" 194),eS P "__firstlineno__" 268 (vI 14 267),eR P "__init__" 276 79,eR P "__static_attributes__" 278 80,eS P "__doc__" 279 .none] 2,#[]⟩,⟨(.type "type"),ah,.cls {name:=.ofString "TooLong",bases:=[vR 38],mro:=[vR 82,vR 38,(.type "Exception"),(.type "BaseException"),(.type "object")],ns:=81,qualname:=.ofString "TooLong",hasDict:=aj,subclasses:=[],abstract:=au,hasDel:=au},#[aa (vR 66),ah,aa (vS "TooLong" 257),aa (vS "TooLong" 265),aa (.builtin "Exception.__new__"),aa (.bool aj)]⟩,⟨(.type "super"),ah,.fields #[vR 82,vR 82,vR 82],#[]⟩,⟨(.type "builtin_function_or_method"),ah,.fields #[(.builtin "object.__init_subclass__"),vR 82],#[]⟩,tp [],nf,tp [vS "n" 287,vS "width" 288,vS "most" 289],tp [],fC (aX 7) "fit_int",cC "fit_int" 284 20 2 3 85 86 87 88 89 290 20,fD (aX 7) "fit_int" "f77.ints" 282 90,tp [],nf,tp [vS "x" 296,vS "y" 297,vS "width" 298],tp [],fC (aX 8) "int_add",cC "int_add" 293 25 3 3 92 93 94 95 96 299 25,fD (aX 8) "int_add" "f77.ints" 282 97,tp [],nf,tp [vS "x" 305,vS "y" 306,vS "width" 307],tp [],fC (aX 9) "int_sub",cC "int_sub" 302 27 3 3 99 100 101 102 103 308 27,fD (aX 9) "int_sub" "f77.ints" 282 104,tp [],nf,tp [vS "x" 314,vS "y" 315,vS "width" 316],tp [],fC (aX 10) "int_mul",cC "int_mul" 311 29 3 3 106 107 108 109 110 317 29,fD (aX 10) "int_mul" "f77.ints" 282 111,tp [],nf,tp [vS "x" 323,vS "y" 324,vS "found" 325],tp [],fC (aX 11) "cut_quotient",cC "cut_quotient" 320 31 2 3 113 114 115 116 117 326 31,fD (aX 11) "cut_quotient" "f77.ints" 282 118,tp [],nf,tp [vS "x" 332,vS "y" 333,vS "width" 334],tp [],fC (aX 12) "int_div",cC "int_div" 329 34 3 3 120 121 122 123 124 335 34,fD (aX 12) "int_div" "f77.ints" 282 125,tp [],nf,tp [vS "x" 341,vS "n" 342],tp [],fC (aX 13) "inverse_power",cC "inverse_power" 338 38 2 3 127 128 129 130 131 343 38,fD (aX 13) "inverse_power" "f77.ints" 282 132,tp [],nf,tp [vS "x" 349,vS "n" 350,vS "width" 351,vS "found" 352,vS "turn" 353],tp [],fC (aX 14) "int_power",cC "int_power" 346 44 3 3 134 135 136 137 138 354 44,fD (aX 14) "int_power" "f77.ints" 282 139,tp [],nf,tp [vS "x" 360,vS "y" 361],tp [],fC (aX 15) "order_of",cC "order_of" 357 53 2 3 141 142 143 144 145 362 53,fD (aX 15) "order_of" "f77.ints" 282 146,tp [],nf,tp [vS "op" 368,vS "order" 369],tp [],fC (aX 16) "holds",cC "holds" 365 57 2 3 148 149 150 151 152 370 57,fD (aX 16) "holds" "f77.ints" 282 153,tp [],nf,tp [vS "op" 376,vS "kind" 377,vS "x" 378,vS "y" 379,vS "limits" 380],tp [],fC (aX 17) "int_binary",cC "int_binary" 373 71 5 3 155 156 157 158 159 381 71,fD (aX 17) "int_binary" "f77.ints" 282 160,tp [],nf,tp [vS "kind" 401],tp [],fC (aX 25) "units_of",cC "units_of" 398 90 1 3 162 163 164 165 166 402 90,fD (aX 25) "units_of" "f77.kinds" 384 167,tp [vI 0 407,vI 0 408],tp [],nf,tp [vS "n" 413,vS "count" 414],tp [],fC (aX 28) "count_digits",cC "count_digits" 410 98 1 3 170 171 172 173 174 415 98,fD (aX 28) "count_digits" "f77.reals" 405 175,tp [],nf,tp [vS "m" 421,vS "e" 422],tp [],fC (aX 29) "strip_zeros",cC "strip_zeros" 418 108 2 3 177 178 179 180 181 423 108,fD (aX 29) "strip_zeros" "f77.reals" 405 182]
noncomputable def t1(P:bV):BT:=bt 11 (L3 P)
noncomputable def GX(P:bV):List i8:=((Jd P).set 0 (eS P "__name__" 165 (vS "f77.machine" 550)))++[eR P "round_digits" 438 190,eR P "round_real" 449 197,eR P "real_neg" 456 204,eR P "real_of_int" 465 211,eR P "real_to_int" 475 218,eR P "digits_of" 483 225,eR P "is_zero" 492 232,eR P "trip_count" 507 239,eR P "complex_neg" 516 246,eR P "unary" 528 253,eR P "real_as" 539 260,eR P "convert" 549 267,eR P "Machine" 599 284]
noncomputable def Ng(P:bV):List aq:=ln [1,20,5,27,10,47,12,59,14,71,20,90,25,97,27,104,29,111,31,118,34,125,38,132,44,139,53,146,57,153,71,160,90,167,98,175,108,182,115,189,125,196,133,203,135,210,137,217,143,224,146,231,150,238,160,245,163,252,173,259,180,266,193,273]
noncomputable def L4(P:bV):List cE:=(((L3 P).set 3 ⟨(.type "dict"),ah,.dict (GX P).toArray 48,#[]⟩).set 12 ⟨.none,ah,.fields (Ng P).toArray,#[]⟩)++[tp [],nf,tp [vS "m" 429,vS "e" 430,vS "digits" 431,vS "drop" 432,vS "power" 433,vS "kept" 434,vS "rest" 435],tp [],fC (aX 30) "round_digits",cC "round_digits" 426 115 3 3 184 185 186 187 188 436 115,fD (aX 30) "round_digits" "f77.reals" 405 189,tp [],nf,tp [vS "m" 442,vS "e" 443,vS "digits" 444,vS "top" 445,vS "lead" 446],tp [],fC (aX 31) "round_real",cC "round_real" 439 125 4 3 191 192 193 194 195 447 125,fD (aX 31) "round_real" "f77.reals" 405 196,tp [],nf,tp [vS "x" 453],tp [],fC (aX 32) "real_neg",cC "real_neg" 450 133 1 3 198 199 200 201 202 454 133,fD (aX 32) "real_neg" "f77.reals" 405 203,tp [],nf,tp [vS "n" 460,vS "digits" 461,vS "top" 462],tp [],fC (aX 33) "real_of_int",cC "real_of_int" 457 135 3 3 205 206 207 208 209 463 135,fD (aX 33) "real_of_int" "f77.reals" 405 210,tp [],nf,tp [vS "x" 469,vS "m" 470,vS "e" 471,vS "found" 472],tp [],fC (aX 34) "real_to_int",cC "real_to_int" 466 137 1 3 212 213 214 215 216 473 137,fD (aX 34) "real_to_int" "f77.reals" 405 217,tp [],nf,tp [vS "kind" 479,vS "limits" 480],tp [],fC (aX 35) "digits_of",cC "digits_of" 476 143 2 3 219 220 221 222 223 481 143,fD (aX 35) "digits_of" "f77.reals" 405 224,tp [],nf,tp [vS "value" 489],tp [],fC (aX 37) "is_zero",cC "is_zero" 486 146 1 3 226 227 228 229 230 490 146,fD (aX 37) "is_zero" "f77.counts" 484 231,tp [],nf,tp [vS "kind" 496,vS "first" 497,vS "last" 498,vS "step" 499,vS "operations" 500,vS "limits" 501,vS "reckon" 502,vS "span" 503,vS "count" 504],tp [],fC (aX 38) "trip_count",cC "trip_count" 493 150 6 3 233 234 235 236 237 505 150,fD (aX 38) "trip_count" "f77.counts" 484 238,tp [],nf,tp [vS "x" 513],tp [],fC (aX 40) "complex_neg",cC "complex_neg" 510 160 1 3 240 241 242 243 244 514 160,fD (aX 40) "complex_neg" "f77.complexes" 508 245,tp [],nf,tp [vS "op" 522,vS "kind" 523,vS "x" 524,vS "limits" 525],tp [],fC (aX 42) "unary",cC "unary" 519 163 4 3 247 248 249 250 251 526 163,fD (aX 42) "unary" "f77.operate" 517 252,tp [],nf,tp [vS "value" 532,vS "of" 533,vS "to" 534,vS "limits" 535,vS "digits" 536],tp [],fC (aX 43) "real_as",cC "real_as" 529 173 4 3 254 255 256 257 258 537 173,fD (aX 43) "real_as" "f77.operate" 517 259,tp [],nf,tp [vS "value" 543,vS "of" 544,vS "to" 545,vS "limits" 546],tp [],fC (aX 44) "convert",cC "convert" 540 180 4 3 261 262 263 264 265 547 180,fD (aX 44) "convert" "f77.operate" 517 266,tp [],⟨(.type "builtin_function_or_method"),ah,.fields #[(.builtin "type.__prepare__"),(.type "type")],#[]⟩,⟨(.type "dict"),ah,.dict #[eS P "__module__" 559 (vS "f77.machine" 550),eS P "__qualname__" 561 (vS "Machine" 560),eS P "__firstlineno__" 563 (vI 193 562),eR P "__init__" 574 281,eR P "__static_attributes__" 592 282] 5,#[]⟩,tp [],⟨.none,ah,.fields #[vI 195 0,vI 4 0,vR 280],#[]⟩,iO (.type "code") "Machine" "Machine" 554 193 0 0 271 au 272 .none .none .none 557 193,⟨(.type "frame"),ah,.plain,#[aa (vR 273),aa (vR 3),aa (vR 270),ah,aa (vS "f77.machine" 550),ah,aa (vR 0)]⟩,tp [],nf,tp [vS "self" 567,vS "memory" 568,vS "limits" 569,vS "codes" 570,vS "frames" 571],tp [],fA (eI 46 0) "__init__" "Machine.__init__",cB "__init__" "Machine.__init__" 564 195 5 3 275 276 277 278 279 572 195,fB (eI 46 0) "__init__" "Machine.__init__" "f77.machine" 550 280,tp [vS "active" 575,vS "clears" 576,vS "codes" 577,vS "enter" 578,vS "frames" 579,vS "functions" 580,vS "io" 581,vS "library" 582,vS "limits" 583,vS "memory" 584,vS "operations" 585,vS "ops" 586,vS "places" 587,vS "steps" 588,vS "transfers" 589,vS "units" 590,vS "world" 591],⟨(.type "dict"),ah,.dict #[eS P "__module__" 559 (vS "f77.machine" 550),eS P "__firstlineno__" 563 (vI 193 562),eR P "__init__" 574 281,eR P "__static_attributes__" 592 282,eR P "__dict__" 594 285,eR P "__weakref__" 596 286,eS P "__doc__" 597 .none] 4,#[]⟩,⟨(.type "type"),ah,.cls {name:=.ofString "Machine",bases:=[(.type "object")],mro:=[vR 284,(.type "object")],ns:=283,qualname:=.ofString "Machine",hasDict:=aj,subclasses:=[],abstract:=au,hasDel:=au},#[ah,ah,aa (vS "Machine" 552),aa (vS "Machine" 560),aa (.builtin "object.__new__"),aa (.bool aj)]⟩,⟨(.type "getset_descriptor"),ah,.fields #[vS "__dict__" 593,vR 284,(.builtin "function.__dict__"),(.builtin "function.__dict__#set")],#[]⟩,⟨(.type "getset_descriptor"),ah,.fields #[vS "__weakref__" 595,vR 284,(.builtin "ExceptionGroup.__weakref__"),.none],#[]⟩,⟨(.type "super"),ah,.fields #[vR 284,vR 284,vR 284],#[]⟩,⟨(.type "builtin_function_or_method"),ah,.fields #[(.builtin "object.__init_subclass__"),vR 284],#[]⟩]
noncomputable def t2(P:bV):BT:=bt 11 (L4 P)
noncomputable def Nj(P:bV):List i8:=((GX P).set 0 (eS P "__name__" 165 (vS "f77.code" 664)))++[eR P "Call" 633 305,eR P "plain_frame" 639 314,eR P "run_code" 652 321,eR P "compute" 663 328]
noncomputable def HS(P:bV):List aq:=(Ng P)++ln [213,294,221,313,229,320,247,327]
noncomputable def Ke:cE:=fD (aX 48) "plain_frame" "f77.machine" 550 313
noncomputable def L5(P:bV):List cE:=(((L4 P).set 3 ⟨(.type "dict"),ah,.dict (Nj P).toArray 52,#[]⟩).set 12 ⟨.none,ah,.fields (HS P).toArray,#[]⟩)++[tp [],⟨(.type "builtin_function_or_method"),ah,.fields #[(.builtin "type.__prepare__"),(.type "type")],#[]⟩,⟨(.type "dict"),ah,.dict #[eS P "__module__" 607 (vS "f77.machine" 550),eS P "__qualname__" 609 (vS "Call" 608),eS P "__firstlineno__" 611 (vI 213 610),eR P "__init__" 620 302,eR P "__static_attributes__" 626 303] 5,#[]⟩,tp [],⟨.none,ah,.fields #[vI 215 0,vI 4 0,vR 301],#[]⟩,iO (.type "code") "Call" "Call" 602 213 0 0 292 au 293 .none .none .none 605 213,⟨(.type "frame"),ah,.plain,#[aa (vR 294),aa (vR 3),aa (vR 291),ah,aa (vS "f77.machine" 550),ah,aa (vR 0)]⟩,tp [],nf,tp [vS "self" 615,vS "code" 616,vS "frame" 617],tp [],fA (eI 47 0) "__init__" "Call.__init__",cB "__init__" "Call.__init__" 612 215 3 3 296 297 298 299 300 618 215,fB (eI 47 0) "__init__" "Call.__init__" "f77.machine" 550 301,tp [vS "cells" 621,vS "code" 622,vS "frame" 623,vS "registers" 624,vS "temps" 625],⟨(.type "dict"),ah,.dict #[eS P "__module__" 607 (vS "f77.machine" 550),eS P "__firstlineno__" 611 (vI 213 610),eR P "__init__" 620 302,eR P "__static_attributes__" 626 303,eR P "__dict__" 628 306,eR P "__weakref__" 630 307,eS P "__doc__" 631 .none] 4,#[]⟩,⟨(.type "type"),ah,.cls {name:=.ofString "Call",bases:=[(.type "object")],mro:=[vR 305,(.type "object")],ns:=304,qualname:=.ofString "Call",hasDict:=aj,subclasses:=[],abstract:=au,hasDel:=au},#[ah,ah,aa (vS "Call" 600),aa (vS "Call" 608),aa (.builtin "object.__new__"),aa (.bool aj)]⟩,⟨(.type "getset_descriptor"),ah,.fields #[vS "__dict__" 627,vR 305,(.builtin "function.__dict__"),(.builtin "function.__dict__#set")],#[]⟩,⟨(.type "getset_descriptor"),ah,.fields #[vS "__weakref__" 629,vR 305,(.builtin "ExceptionGroup.__weakref__"),.none],#[]⟩,⟨(.type "super"),ah,.fields #[vR 305,vR 305,vR 305],#[]⟩,⟨(.type "builtin_function_or_method"),ah,.fields #[(.builtin "object.__init_subclass__"),vR 305],#[]⟩,tp [],nf,fC (aX 48) "plain_frame",iO (.type "code") "plain_frame" "plain_frame" 634 221 4 3 310 aj 311 .none .none (vR 312) 637 221,Ke,tp [],nf,tp [vS "machine" 643,vS "call" 644,vS "start" 645,vS "at" 646,vS "ops" 647,vS "op" 648,vS "found" 649],tp [],fC (aX 49) "run_code",cC "run_code" 640 229 3 3 315 316 317 318 319 650 229,fD (aX 49) "run_code" "f77.machine" 550 320,tp [],nf,tp [vS "operations" 656,vS "limits" 657,vS "op" 658,vS "values" 659,vS "word" 660],tp [],fC (aX 50) "compute",cC "compute" 653 247 4 3 322 323 324 325 326 661 247,fD (aX 50) "compute" "f77.machine" 550 327]
noncomputable def t3(P:bV):BT:=bt 11 (L5 P)
noncomputable def GR(P:bV):List i8:=(Nj P)++[eR P "SHAPES" 759 329]
noncomputable def zq(P:bV):List i8:=[eS P "set" 666 (vS "w--" 667),eS P "move" 669 (vS "wr" 670),eS P "bin" 672 (vS "w--rr" 673),eS P "cmp" 675 (vS "w--rr" 676),eS P "un" 678 (vS "w--r" 679),eS P "conv" 681 (vS "w--r" 682),eS P "cat" 684 (vS "wrr" 685),eS P "addr" 687 (vS "w-" 688),eS P "elem" 690 (vS "wrR" 691),eS P "cut" 693 (vS "wroo" 694),eS P "load" 696 (vS "wr" 697),eS P "store" 699 (vS "rr" 700),eS P "temp" 702 (vS "w-r" 703),eS P "intr" 705 (vS "w--R" 706),eS P "call" 708 (vS "v-AJ" 709),eS P "count" 711 (vS "w-rrr" 712),eS P "jump" 714 (vS "j" 715),eS P "true" 717 (vS "rj" 718),eS P "false" 719 (vS "rj" 720),eS P "sign" 721 (vS "rjjj" 722),eS P "switch" 723 (vS "rJ" 724),eS P "setlabel" 725 (vS "r-" 726),eS P "agoto" 727 (vS "rP" 728),eS P "return" 729 (vS "o" 730),eS P "stop" 731 (vS "-" 732),eS P "pause" 733 (vS "-" 734),eS P "io" 735 (vS "-D" 736),eS P "nop" 737 (vS "" 738),eS P "length" 739 (vS "wr" 740),eS P "keep" 741 (vS "-r" 742),eS P "fetch" 743 (vS "w-" 744)]
noncomputable def L6(P:bV):List cE:=((L5 P).set 3 ⟨(.type "dict"),ah,.dict (GR P).toArray 53,#[]⟩)++[⟨(.type "dict"),ah,.dict (zq P).toArray 31,#[]⟩,⟨(.type "dict"),ah,.dict #[eS P "true" 717 (vS "rj" 718),eS P "false" 719 (vS "rj" 720),eS P "sign" 721 (vS "rjjj" 722),eS P "switch" 723 (vS "rJ" 724),eS P "setlabel" 725 (vS "r-" 726),eS P "agoto" 727 (vS "rP" 728),eS P "return" 729 (vS "o" 730),eS P "stop" 731 (vS "-" 732),eS P "pause" 733 (vS "-" 734),eS P "io" 735 (vS "-D" 736),eS P "nop" 737 (vS "" 738),eS P "length" 739 (vS "wr" 740),eS P "keep" 741 (vS "-r" 742),eS P "fetch" 743 (vS "w-" 744)] 14,#[]⟩]
noncomputable def t4(P:bV):BT:=bt 11 (L6 P)
noncomputable def Mz(P:bV):List i8:=((GR P).set 0 (eS P "__name__" 165 (vS "f77.blocks" 903)))++[eR P "LEAVING" 765 331,eR P "Code" 800 348,eR P "reads_of" 806 357,eR P "writes_of" 813 364,eR P "jumps_of" 819 369,eR P "goes_on" 826 376,eR P "with_jumps" 832 381,eR P "read_part" 838 386,eR P "with_reads" 849 393,eR P "Limits" 902 411,eR P "block_begins" 917 422,eR P "follows" 926 429,eR P "sign_of" 934 436]
noncomputable def IV(P:bV):List aq:=(HS P)++ln [263,337,270,356,284,363,288,368,302,375,304,380,324,385,334,392,341,399,353,421,364,428,369,435]
noncomputable def L7(P:bV):List cE:=(((L6 P).set 3 ⟨(.type "dict"),ah,.dict (Mz P).toArray 66,#[]⟩).set 12 ⟨.none,ah,.fields (IV P).toArray,#[]⟩)++[tp [vS "jump" 760,vS "sign" 761,vS "agoto" 762,vS "return" 763,vS "stop" 764],tp [],⟨(.type "builtin_function_or_method"),ah,.fields #[(.builtin "type.__prepare__"),(.type "type")],#[]⟩,⟨(.type "dict"),ah,.dict #[eS P "__module__" 773 (vS "f77.code" 664),eS P "__qualname__" 775 (vS "Code" 774),eS P "__firstlineno__" 777 (vI 263 776),eR P "__init__" 788 345,eR P "__static_attributes__" 793 346] 5,#[]⟩,tp [],⟨.none,ah,.fields #[vI 265 0,vI 4 0,vR 344],#[]⟩,iO (.type "code") "Code" "Code" 768 263 0 0 335 au 336 .none .none .none 771 263,⟨(.type "frame"),ah,.plain,#[aa (vR 337),aa (vR 3),aa (vR 334),ah,aa (vS "f77.code" 664),ah,aa (vR 0)]⟩,tp [],nf,tp [vS "self" 781,vS "ops" 782,vS "registers" 783,vS "entries" 784,vS "formats" 785],tp [],fA (eI 54 0) "__init__" "Code.__init__",cB "__init__" "Code.__init__" 778 265 5 3 339 340 341 342 343 786 265,fB (eI 54 0) "__init__" "Code.__init__" "f77.code" 664 344,tp [vS "entries" 789,vS "formats" 790,vS "ops" 791,vS "registers" 792],⟨(.type "dict"),ah,.dict #[eS P "__module__" 773 (vS "f77.code" 664),eS P "__firstlineno__" 777 (vI 263 776),eR P "__init__" 788 345,eR P "__static_attributes__" 793 346,eR P "__dict__" 795 349,eR P "__weakref__" 797 350,eS P "__doc__" 798 .none] 4,#[]⟩,⟨(.type "type"),ah,.cls {name:=.ofString "Code",bases:=[(.type "object")],mro:=[vR 348,(.type "object")],ns:=347,qualname:=.ofString "Code",hasDict:=aj,subclasses:=[],abstract:=au,hasDel:=au},#[ah,ah,aa (vS "Code" 766),aa (vS "Code" 774),aa (.builtin "object.__new__"),aa (.bool aj)]⟩,⟨(.type "getset_descriptor"),ah,.fields #[vS "__dict__" 794,vR 348,(.builtin "function.__dict__"),(.builtin "function.__dict__#set")],#[]⟩,⟨(.type "getset_descriptor"),ah,.fields #[vS "__weakref__" 796,vR 348,(.builtin "ExceptionGroup.__weakref__"),.none],#[]⟩,⟨(.type "super"),ah,.fields #[vR 348,vR 348,vR 348],#[]⟩,⟨(.type "builtin_function_or_method"),ah,.fields #[(.builtin "object.__init_subclass__"),vR 348],#[]⟩,tp [],nf,fC (aX 55) "reads_of",iO (.type "code") "reads_of" "reads_of" 801 270 1 3 353 aj 354 .none .none (vR 355) 804 270,fD (aX 55) "reads_of" "f77.code" 664 356,tp [],nf,tp [vS "op" 810],tp [],fC (aX 56) "writes_of",cC "writes_of" 807 284 1 3 358 359 360 361 362 811 284,fD (aX 56) "writes_of" "f77.code" 664 363,tp [],nf,fC (aX 57) "jumps_of",iO (.type "code") "jumps_of" "jumps_of" 814 288 1 3 365 aj 366 .none .none (vR 367) 817 288,fD (aX 57) "jumps_of" "f77.code" 664 368,tp [],nf,tp [vS "op" 823],tp [],fC (aX 58) "goes_on",cC "goes_on" 820 302 1 3 370 371 372 373 374 824 302,fD (aX 58) "goes_on" "f77.code" 664 375,tp [],nf,fC (aX 59) "with_jumps",iO (.type "code") "with_jumps" "with_jumps" 827 304 2 3 377 aj 378 .none .none (vR 379) 830 304,fD (aX 59) "with_jumps" "f77.code" 664 380,tp [],nf,fC (aX 60) "read_part",iO (.type "code") "read_part" "read_part" 833 324 3 3 382 aj 383 .none .none (vR 384) 836 324,fD (aX 60) "read_part" "f77.code" 664 385,tp [],nf,tp [vS "op" 842,vS "mapping" 843,vS "shape" 844,vS "parts" 845,vS "at" 846],tp [],fC (aX 61) "with_reads",cC "with_reads" 839 334 2 3 387 388 389 390 391 847 334,fD (aX 61) "with_reads" "f77.code" 664 392,tp [],⟨(.type "builtin_function_or_method"),ah,.fields #[(.builtin "type.__prepare__"),(.type "type")],#[]⟩,⟨(.type "dict"),ah,.dict #[eS P "__module__" 859 (vS "f77.limits" 850),eS P "__qualname__" 861 (vS "Limits" 860),eS P "__firstlineno__" 863 (vI 341 862),eR P "__init__" 886 408,eR P "__static_attributes__" 895 409] 5,#[]⟩,tp [],⟨.none,ah,.fields #[vI 343 0,vI 4 0,vR 407],#[]⟩,iO (.type "code") "Limits" "Limits" 854 341 0 0 397 au 398 .none .none .none 857 341,⟨(.type "frame"),ah,.plain,#[aa (vR 399),aa (vR 3),aa (vR 396),ah,aa (vS "f77.limits" 850),ah,aa (vR 0)]⟩,tp [vI 32 864,vI 7 865,vI 15 866,vI 38 867,vI 1000000 868,vI 19 869,vI 72 870,vI 40 871],tp [],nf,tp [vS "self" 875,vS "width" 876,vS "real_digits" 877,vS "double_digits" 878,vS "top_exponent" 879,vS "steps" 880,vS "continuations" 881,vS "columns" 882,vS "depth" 883],tp [],fA (eI 63 0) "__init__" "Limits.__init__",cB "__init__" "Limits.__init__" 872 343 9 3 402 403 404 405 406 884 343,⟨(.type "function"),ah,wT (eI 63 0) "__init__" "Limits.__init__" 3 (vR 401) .none .none (vS "f77.limits" 850) (vR 407) .none 0,#[]⟩,tp [vS "columns" 887,vS "continuations" 888,vS "depth" 889,vS "double_digits" 890,vS "real_digits" 891,vS "steps" 892,vS "top_exponent" 893,vS "width" 894],⟨(.type "dict"),ah,.dict #[eS P "__module__" 859 (vS "f77.limits" 850),eS P "__firstlineno__" 863 (vI 341 862),eR P "__init__" 886 408,eR P "__static_attributes__" 895 409,eR P "__dict__" 897 412,eR P "__weakref__" 899 413,eS P "__doc__" 900 .none] 4,#[]⟩,⟨(.type "type"),ah,.cls {name:=.ofString "Limits",bases:=[(.type "object")],mro:=[vR 411,(.type "object")],ns:=410,qualname:=.ofString "Limits",hasDict:=aj,subclasses:=[],abstract:=au,hasDel:=au},#[ah,ah,aa (vS "Limits" 852),aa (vS "Limits" 860),aa (.builtin "object.__new__"),aa (.bool aj)]⟩,⟨(.type "getset_descriptor"),ah,.fields #[vS "__dict__" 896,vR 411,(.builtin "function.__dict__"),(.builtin "function.__dict__#set")],#[]⟩,⟨(.type "getset_descriptor"),ah,.fields #[vS "__weakref__" 898,vR 411,(.builtin "ExceptionGroup.__weakref__"),.none],#[]⟩,⟨(.type "super"),ah,.fields #[vR 411,vR 411,vR 411],#[]⟩,⟨(.type "builtin_function_or_method"),ah,.fields #[(.builtin "object.__init_subclass__"),vR 411],#[]⟩,tp [],nf,tp [vS "ops" 908,vS "starts" 909,vS "begins" 910,vS "start" 911,vS "at" 912,vS "goals" 913,vS "goal" 914],tp [],fC (aX 65) "block_begins",cC "block_begins" 905 353 2 3 416 417 418 419 420 915 353,fD (aX 65) "block_begins" "f77.blocks" 903 421,tp [],nf,tp [vS "ops" 921,vS "at" 922,vS "found" 923],tp [],fC (aX 66) "follows",cC "follows" 918 364 2 3 423 424 425 426 427 924 364,fD (aX 66) "follows" "f77.blocks" 903 428,tp [],nf,tp [vS "value" 930,vS "top" 931],tp [],fC (aX 67) "sign_of",cC "sign_of" 927 369 1 3 430 431 432 433 434 932 369,fD (aX 67) "sign_of" "f77.blocks" 903 435]
noncomputable def t5(P:bV):BT:=bt 11 (L7 P)
noncomputable def Iv(P:bV):List i8:=((Mz P).set 0 (eS P "__name__" 165 (vS "f77.memory" 1110)))++[eR P "reached" 945 443,eR P "mask_of" 954 450,eR P "live_ahead" 967 457,eR P "live_behind" 978 464,eR P "do_set" 989 471,eR P "do_move" 998 478,eR P "do_two" 1008 485,eR P "do_one" 1017 492,eR P "do_addr" 1027 499,eR P "do_load" 1036 506,eR P "do_store" 1045 513,eR P "do_nop" 1054 520,eR P "do_jump" 1063 527,eR P "do_true" 1072 534,eR P "do_false" 1081 541,eR P "do_sign" 1090 548,eR P "do_switch" 1100 555,eR P "do_return" 1109 562,eS P "SECOND" 1113 (vI 6 1112)]
noncomputable def Jw(P:bV):List aq:=(IV P)++ln [376,442,385,449,390,456,405,463,411,470,413,477,415,484,418,491,420,498,425,505,427,512,429,519,431,526,433,533,435,540,437,547,439,554,442,561]
noncomputable def L8(P:bV):List cE:=(((L7 P).set 3 ⟨(.type "dict"),ah,.dict (Iv P).toArray 85,#[]⟩).set 12 ⟨.none,ah,.fields (Jw P).toArray,#[]⟩)++[tp [],nf,tp [vS "ops" 938,vS "starts" 939,vS "marks" 940,vS "line" 941,vS "at" 942],tp [],fC (aX 68) "reached",cC "reached" 935 376 2 3 437 438 439 440 441 943 376,fD (aX 68) "reached" "f77.blocks" 903 442,tp [],nf,tp [vS "registers" 949,vS "mask" 950,vS "register" 951],tp [],fC (aX 69) "mask_of",cC "mask_of" 946 385 1 3 444 445 446 447 448 952 385,fD (aX 69) "mask_of" "f77.blocks" 903 449,tp [],nf,tp [vS "ops" 958,vS "live" 959,vS "is_new" 960,vS "at" 961,vS "behind" 962,vS "made" 963,vS "mask" 964],tp [],fC (aX 70) "live_ahead",cC "live_ahead" 955 390 1 3 451 452 453 454 455 965 390,fD (aX 70) "live_ahead" "f77.blocks" 903 456,tp [],nf,tp [vS "ops" 971,vS "live" 972,vS "at" 973,vS "mask" 974,vS "goal" 975],tp [],fC (aX 71) "live_behind",cC "live_behind" 968 405 3 3 458 459 460 461 462 976 405,fD (aX 71) "live_behind" "f77.blocks" 903 463,tp [],nf,tp [vS "machine" 984,vS "call" 985,vS "op" 986],tp [],fC (aX 73) "do_set",cC "do_set" 981 411 3 3 465 466 467 468 469 987 411,fD (aX 73) "do_set" "f77.machineops" 979 470,tp [],nf,tp [vS "machine" 993,vS "call" 994,vS "op" 995],tp [],fC (aX 74) "do_move",cC "do_move" 990 413 3 3 472 473 474 475 476 996 413,fD (aX 74) "do_move" "f77.machineops" 979 477,tp [],nf,tp [vS "machine" 1002,vS "call" 1003,vS "op" 1004,vS "values" 1005],tp [],fC (aX 75) "do_two",cC "do_two" 999 415 3 3 479 480 481 482 483 1006 415,fD (aX 75) "do_two" "f77.machineops" 979 484,tp [],nf,tp [vS "machine" 1012,vS "call" 1013,vS "op" 1014],tp [],fC (aX 76) "do_one",cC "do_one" 1009 418 3 3 486 487 488 489 490 1015 418,fD (aX 76) "do_one" "f77.machineops" 979 491,tp [],nf,tp [vS "machine" 1021,vS "call" 1022,vS "op" 1023,vS "found" 1024],tp [],fC (aX 77) "do_addr",cC "do_addr" 1018 420 3 3 493 494 495 496 497 1025 420,fD (aX 77) "do_addr" "f77.machineops" 979 498,tp [],nf,tp [vS "machine" 1031,vS "call" 1032,vS "op" 1033],tp [],fC (aX 78) "do_load",cC "do_load" 1028 425 3 3 500 501 502 503 504 1034 425,fD (aX 78) "do_load" "f77.machineops" 979 505,tp [],nf,tp [vS "machine" 1040,vS "call" 1041,vS "op" 1042],tp [],fC (aX 79) "do_store",cC "do_store" 1037 427 3 3 507 508 509 510 511 1043 427,fD (aX 79) "do_store" "f77.machineops" 979 512,tp [],nf,tp [vS "machine" 1049,vS "call" 1050,vS "op" 1051],tp [],fC (aX 80) "do_nop",cC "do_nop" 1046 429 3 3 514 515 516 517 518 1052 429,fD (aX 80) "do_nop" "f77.machineops" 979 519,tp [],nf,tp [vS "machine" 1058,vS "call" 1059,vS "op" 1060],tp [],fC (aX 81) "do_jump",cC "do_jump" 1055 431 3 3 521 522 523 524 525 1061 431,fD (aX 81) "do_jump" "f77.machineops" 979 526,tp [],nf,tp [vS "machine" 1067,vS "call" 1068,vS "op" 1069],tp [],fC (aX 82) "do_true",cC "do_true" 1064 433 3 3 528 529 530 531 532 1070 433,fD (aX 82) "do_true" "f77.machineops" 979 533,tp [],nf,tp [vS "machine" 1076,vS "call" 1077,vS "op" 1078],tp [],fC (aX 83) "do_false",cC "do_false" 1073 435 3 3 535 536 537 538 539 1079 435,fD (aX 83) "do_false" "f77.machineops" 979 540,tp [],nf,tp [vS "machine" 1085,vS "call" 1086,vS "op" 1087],tp [],fC (aX 84) "do_sign",cC "do_sign" 1082 437 3 3 542 543 544 545 546 1088 437,fD (aX 84) "do_sign" "f77.machineops" 979 547,tp [],nf,tp [vS "machine" 1094,vS "call" 1095,vS "op" 1096,vS "number" 1097],tp [],fC (aX 85) "do_switch",cC "do_switch" 1091 439 3 3 549 550 551 552 553 1098 439,fD (aX 85) "do_switch" "f77.machineops" 979 554,tp [],nf,tp [vS "machine" 1104,vS "call" 1105,vS "op" 1106],tp [],fC (aX 86) "do_return",cC "do_return" 1101 442 3 3 556 557 558 559 560 1107 442,fD (aX 86) "do_return" "f77.machineops" 979 561]
noncomputable def t6(P:bV):BT:=bt 11 (L8 P)
noncomputable def TA(P:bV):List i8:=((Iv P).set 0 (eS P "__name__" 165 (vS "f77.passes" 1237)))++[eR P "Memory" 1169 600,eR P "need_units" 1178 611,eR P "read_cell" 1188 618,eR P "load_number" 1198 625,eR P "store_number" 1208 632,eR P "load_text" 1218 639,eR P "store_text" 1228 646,eR P "pad" 1236 653,eR P "NOP" 1240 654,eR P "FOLDED" 1247 655,eR P "QUIET" 1254 656,eR P "kind_made" 1262 663,eR P "branch_taken" 1271 670,eR P "folded" 1284 677,eR P "fold" 1299 684,eR P "is_quiet" 1306 691,eR P "drop_dead" 1320 698]
noncomputable def YC(P:bV):List aq:=(Jw P)++ln [446,568,465,610,468,617,473,624,481,631,490,638,496,645,500,652,506,662,515,669,524,676,542,683,557,690,559,697]
noncomputable def L9(P:bV):List cE:=(((L8 P).set 3 ⟨(.type "dict"),ah,.dict (TA P).toArray 102,#[]⟩).set 12 ⟨.none,ah,.fields (YC P).toArray,#[]⟩)++[tp [],⟨(.type "builtin_function_or_method"),ah,.fields #[(.builtin "type.__prepare__"),(.type "type")],#[]⟩,⟨(.type "dict"),ah,.dict #[eS P "__module__" 1121 (vS "f77.memory" 1110),eS P "__qualname__" 1123 (vS "Memory" 1122),eS P "__firstlineno__" 1125 (vI 446 1124),eR P "__init__" 1134 576,eR P "load" 1142 583,eR P "store" 1151 590,eR P "undefine" 1159 597,eR P "__static_attributes__" 1162 598] 8,#[]⟩,tp [],⟨.none,ah,.fields #[vI 448 0,vI 4 0,vR 575,vI 452 0,vI 4 0,vR 582,vI 457 0,vI 4 0,vR 589,vI 463 0,vI 4 0,vR 596],#[]⟩,iO (.type "code") "Memory" "Memory" 1116 446 0 0 566 au 567 .none .none .none 1119 446,⟨(.type "frame"),ah,.plain,#[aa (vR 568),aa (vR 3),aa (vR 565),ah,aa (vS "f77.memory" 1110),ah,aa (vR 0)]⟩,tp [],nf,tp [vS "self" 1129,vS "numeric" 1130,vS "characters" 1131],tp [],fA (eI 89 0) "__init__" "Memory.__init__",cB "__init__" "Memory.__init__" 1126 448 3 3 570 571 572 573 574 1132 448,fB (eI 89 0) "__init__" "Memory.__init__" "f77.memory" 1110 575,tp [],nf,tp [vS "self" 1138,vS "place" 1139],tp [],fA (eI 89 1) "load" "Memory.load",cB "load" "Memory.load" 1135 452 2 3 577 578 579 580 581 1140 452,fB (eI 89 1) "load" "Memory.load" "f77.memory" 1110 582,tp [],nf,tp [vS "self" 1146,vS "place" 1147,vS "value" 1148],tp [],fA (eI 89 2) "store" "Memory.store",cB "store" "Memory.store" 1143 457 3 3 584 585 586 587 588 1149 457,fB (eI 89 2) "store" "Memory.store" "f77.memory" 1110 589,tp [],nf,tp [vS "self" 1155,vS "place" 1156],tp [],fA (eI 89 3) "undefine" "Memory.undefine",cB "undefine" "Memory.undefine" 1152 463 2 3 591 592 593 594 595 1157 463,fB (eI 89 3) "undefine" "Memory.undefine" "f77.memory" 1110 596,tp [vS "characters" 1160,vS "numeric" 1161],⟨(.type "dict"),ah,.dict #[eS P "__module__" 1121 (vS "f77.memory" 1110),eS P "__firstlineno__" 1125 (vI 446 1124),eR P "__init__" 1134 576,eR P "load" 1142 583,eR P "store" 1151 590,eR P "undefine" 1159 597,eR P "__static_attributes__" 1162 598,eR P "__dict__" 1164 601,eR P "__weakref__" 1166 602,eS P "__doc__" 1167 .none] 4,#[]⟩,⟨(.type "type"),ah,.cls {name:=.ofString "Memory",bases:=[(.type "object")],mro:=[vR 600,(.type "object")],ns:=599,qualname:=.ofString "Memory",hasDict:=aj,subclasses:=[],abstract:=au,hasDel:=au},#[ah,ah,aa (vS "Memory" 1114),aa (vS "Memory" 1122),aa (.builtin "object.__new__"),aa (.bool aj)]⟩,⟨(.type "getset_descriptor"),ah,.fields #[vS "__dict__" 1163,vR 600,(.builtin "function.__dict__"),(.builtin "function.__dict__#set")],#[]⟩,⟨(.type "getset_descriptor"),ah,.fields #[vS "__weakref__" 1165,vR 600,(.builtin "ExceptionGroup.__weakref__"),.none],#[]⟩,⟨(.type "super"),ah,.fields #[vR 600,vR 600,vR 600],#[]⟩,⟨(.type "builtin_function_or_method"),ah,.fields #[(.builtin "object.__init_subclass__"),vR 600],#[]⟩,tp [],nf,tp [vS "cells" 1173,vS "address" 1174,vS "count" 1175],tp [],fC (aX 90) "need_units",cC "need_units" 1170 465 3 3 605 606 607 608 609 1176 465,fD (aX 90) "need_units" "f77.memory" 1110 610,tp [],nf,tp [vS "cells" 1182,vS "address" 1183,vS "tag" 1184,vS "cell" 1185],tp [],fC (aX 91) "read_cell",cC "read_cell" 1179 468 3 3 612 613 614 615 616 1186 468,fD (aX 91) "read_cell" "f77.memory" 1110 617,tp [],nf,tp [vS "cells" 1192,vS "kind" 1193,vS "address" 1194,vS "value" 1195],tp [],fC (aX 92) "load_number",cC "load_number" 1189 473 3 3 619 620 621 622 623 1196 473,fD (aX 92) "load_number" "f77.memory" 1110 624,tp [],nf,tp [vS "cells" 1202,vS "kind" 1203,vS "address" 1204,vS "value" 1205],tp [],fC (aX 93) "store_number",cC "store_number" 1199 481 4 3 626 627 628 629 630 1206 481,fD (aX 93) "store_number" "f77.memory" 1110 631,tp [],nf,tp [vS "cells" 1212,vS "address" 1213,vS "length" 1214,vS "signs" 1215],tp [],fC (aX 94) "load_text",cC "load_text" 1209 490 3 3 633 634 635 636 637 1216 490,fD (aX 94) "load_text" "f77.memory" 1110 638,tp [],nf,tp [vS "cells" 1222,vS "address" 1223,vS "text" 1224,vS "k" 1225],tp [],fC (aX 95) "store_text",cC "store_text" 1219 496 3 3 640 641 642 643 644 1226 496,fD (aX 95) "store_text" "f77.memory" 1110 645,tp [],nf,tp [vS "text" 1232,vS "length" 1233],tp [],fC (aX 96) "pad",cC "pad" 1229 500 2 3 647 648 649 650 651 1234 500,fD (aX 96) "pad" "f77.memory" 1110 652,tp [vS "nop" 1239],tp [vS "bin" 1241,vS "cmp" 1242,vS "un" 1243,vS "conv" 1244,vS "cat" 1245,vS "count" 1246],tp [vS "set" 1248,vS "move" 1249,vS "cmp" 1250,vS "cat" 1251,vS "length" 1252,vS "fetch" 1253],tp [],nf,tp [vS "op" 1258,vS "word" 1259],tp [],fC (aX 101) "kind_made",cC "kind_made" 1255 506 1 3 657 658 659 660 661 1260 506,fD (aX 101) "kind_made" "f77.passes" 1237 662,tp [],nf,tp [vS "op" 1266,vS "value" 1267,vS "word" 1268],tp [],fC (aX 102) "branch_taken",cC "branch_taken" 1263 515 2 3 664 665 666 667 668 1269 515,fD (aX 102) "branch_taken" "f77.passes" 1237 669,tp [],nf,tp [vS "op" 1275,vS "known" 1276,vS "compute" 1277,vS "word" 1278,vS "values" 1279,vS "register" 1280,vS "value" 1281],tp [],fC (aX 103) "folded",cC "folded" 1272 524 3 3 671 672 673 674 675 1282 524,fD (aX 103) "folded" "f77.passes" 1237 676,tp [],nf,tp [vS "ops" 1288,vS "starts" 1289,vS "compute" 1290,vS "begins" 1291,vS "known" 1292,vS "out" 1293,vS "at" 1294,vS "op" 1295,vS "made" 1296],tp [],fC (aX 104) "fold",cC "fold" 1285 542 3 3 678 679 680 681 682 1297 542,fD (aX 104) "fold" "f77.passes" 1237 683,tp [],nf,tp [vS "op" 1303],tp [],fC (aX 105) "is_quiet",cC "is_quiet" 1300 557 1 3 685 686 687 688 689 1304 557,fD (aX 105) "is_quiet" "f77.passes" 1237 690,tp [],nf,tp [vS "ops" 1310,vS "starts" 1311,vS "marks" 1312,vS "live" 1313,vS "out" 1314,vS "at" 1315,vS "op" 1316,vS "made" 1317],tp [],fC (aX 106) "drop_dead",cC "drop_dead" 1307 559 2 3 692 693 694 695 696 1318 559,fD (aX 106) "drop_dead" "f77.passes" 1237 697]
noncomputable def t7(P:bV):BT:=bt 11 (L9 P)
noncomputable def Xq(P:bV):List i8:=[eS P "__name__" 165 (vS "law_sa0220_01" 1461),eS P "__doc__" 166 .none,eS P "__package__" 167 .none,eS P "__loader__" 168 (.builtin "__main__.__loader__#opaque"),eS P "__spec__" 169 .none,eR P "__annotations__" 170 6,eR P "__builtins__" 171 4,eS P "__file__" 173 (vS "/claim/cut.py" 172),eS P "__cached__" 174 .none,eR P "_wall" 193 21,eR P "F77Error" 224 38,eR P "RunFault" 240 51,eR P "CodeFault" 256 63,eR P "TooLong" 281 82,eR P "fit_int" 292 91,eR P "int_add" 301 98,eR P "int_sub" 310 105,eR P "int_mul" 319 112,eR P "cut_quotient" 328 119,eR P "int_div" 337 126,eR P "inverse_power" 345 133,eR P "int_power" 356 140,eR P "order_of" 364 147,eR P "holds" 372 154,eR P "int_binary" 383 161,eS P "INTEGER" 387 (vI 0 386),eS P "REAL" 389 (vI 1 388),eS P "DOUBLE" 391 (vI 2 390),eS P "COMPLEX" 393 (vI 3 392),eS P "LOGICAL" 395 (vI 4 394),eS P "CHARACTER" 397 (vI 5 396),eR P "units_of" 404 168,eR P "NOUGHT" 409 169,eR P "count_digits" 417 176,eR P "strip_zeros" 425 183,eR P "round_digits" 438 190,eR P "round_real" 449 197,eR P "real_neg" 456 204,eR P "real_of_int" 465 211,eR P "real_to_int" 475 218,eR P "digits_of" 483 225,eR P "is_zero" 492 232,eR P "trip_count" 507 239,eR P "complex_neg" 516 246,eR P "unary" 528 253,eR P "real_as" 539 260,eR P "convert" 549 267,eR P "Machine" 599 284,eR P "Call" 633 305,eR P "plain_frame" 639 314,eR P "run_code" 652 321,eR P "compute" 663 328,eR P "SHAPES" 759 329,eR P "LEAVING" 765 331,eR P "Code" 800 348,eR P "reads_of" 806 357,eR P "writes_of" 813 364,eR P "jumps_of" 819 369,eR P "goes_on" 826 376,eR P "with_jumps" 832 381,eR P "read_part" 838 386,eR P "with_reads" 849 393,eR P "Limits" 902 411,eR P "block_begins" 917 422,eR P "follows" 926 429,eR P "sign_of" 934 436,eR P "reached" 945 443,eR P "mask_of" 954 450,eR P "live_ahead" 967 457,eR P "live_behind" 978 464,eR P "do_set" 989 471,eR P "do_move" 998 478,eR P "do_two" 1008 485,eR P "do_one" 1017 492,eR P "do_addr" 1027 499,eR P "do_load" 1036 506,eR P "do_store" 1045 513,eR P "do_nop" 1054 520,eR P "do_jump" 1063 527,eR P "do_true" 1072 534,eR P "do_false" 1081 541,eR P "do_sign" 1090 548,eR P "do_switch" 1100 555,eR P "do_return" 1109 562,eS P "SECOND" 1113 (vI 6 1112),eR P "Memory" 1169 600,eR P "need_units" 1178 611,eR P "read_cell" 1188 618,eR P "load_number" 1198 625,eR P "store_number" 1208 632,eR P "load_text" 1218 639,eR P "store_text" 1228 646,eR P "pad" 1236 653,eR P "NOP" 1240 654,eR P "FOLDED" 1247 655,eR P "QUIET" 1254 656,eR P "kind_made" 1262 663,eR P "branch_taken" 1271 670,eR P "folded" 1284 677,eR P "fold" 1299 684,eR P "is_quiet" 1306 691,eR P "drop_dead" 1320 698,eR P "landing" 1330 705,eR P "thread" 1336 710,eR P "squeeze" 1342 715,eR P "SHARED" 1358 716,eR P "WRITERS" 1363 717,eR P "flavour" 1371 724,eR P "Numbers" 1428 762,eR P "key_of" 1434 771,eR P "shared" 1446 778,eR P "share" 1460 785,eR P "_law_tail" 1491 786,eR P "_law_pinch" 1499 793,eR P "_law_drawn" 1511 800,eR P "_law_passed" 1521 807,eR P "_law_left" 1535 814,eR P "law" 1541 819]
noncomputable def UA(P:bV):List aq:=ln [1,20,5,27,10,47,12,59,14,71,20,90,25,97,27,104,29,111,31,118,34,125,38,132,44,139,53,146,57,153,71,160,90,167,98,175,108,182,115,189,125,196,133,203,135,210,137,217,143,224,146,231,150,238,160,245,163,252,173,259,180,266,193,273,213,294,221,313,229,320,247,327,263,337,270,356,284,363,288,368,302,375,304,380,324,385,334,392,341,399,353,421,364,428,369,435,376,442,385,449,390,456,405,463,411,470,413,477,415,484,418,491,420,498,425,505,427,512,429,519,431,526,433,533,435,540,437,547,439,554,442,561,446,568,465,610,468,617,473,624,481,631,490,638,496,645,500,652,506,662,515,669,524,676,542,683,557,690,559,697,574,704,584,709,593,714,605,723,616,730,642,770,646,777,670,784,684,792,687,799,714,806,727,813,744,818]
noncomputable def Dr(P:bV):List cE:=(((L9 P).set 3 ⟨(.type "dict"),ah,.dict (Xq P).toArray 118,#[]⟩).set 12 ⟨.none,ah,.fields (UA P).toArray,#[]⟩)++[tp [],nf,tp [vS "ops" 1324,vS "at" 1325,vS "here" 1326,vS "turn" 1327],tp [],fC (aX 107) "landing",cC "landing" 1321 574 2 3 699 700 701 702 703 1328 574,fD (aX 107) "landing" "f77.passes" 1237 704,tp [],nf,fC (aX 108) "thread",iO (.type "code") "thread" "thread" 1331 584 1 3 706 aj 707 .none .none (vR 708) 1334 584,fD (aX 108) "thread" "f77.passes" 1237 709,tp [],nf,fC (aX 109) "squeeze",iO (.type "code") "squeeze" "squeeze" 1337 593 2 3 711 aj 712 .none .none (vR 713) 1340 593,fD (aX 109) "squeeze" "f77.passes" 1237 714,tp [vS "set" 1345,vS "bin" 1346,vS "cmp" 1347,vS "un" 1348,vS "conv" 1349,vS "cat" 1350,vS "count" 1351,vS "intr" 1352,vS "addr" 1353,vS "elem" 1354,vS "cut" 1355,vS "length" 1356,vS "load" 1357],tp [vS "store" 1359,vS "setlabel" 1360,vS "call" 1361,vS "io" 1362],tp [],nf,tp [vS "op" 1367,vS "word" 1368],tp [],fC (aX 113) "flavour",cC "flavour" 1364 605 1 3 718 719 720 721 722 1369 605,fD (aX 113) "flavour" "f77.sharing" 1343 723,tp [],⟨(.type "builtin_function_or_method"),ah,.fields #[(.builtin "type.__prepare__"),(.type "type")],#[]⟩,⟨(.type "dict"),ah,.dict #[eS P "__module__" 1379 (vS "f77.sharing" 1343),eS P "__qualname__" 1381 (vS "Numbers" 1380),eS P "__firstlineno__" 1383 (vI 616 1382),eR P "__init__" 1390 738,eR P "fresh" 1397 745,eR P "of" 1405 752,eR P "home" 1415 759,eR P "__static_attributes__" 1421 760] 8,#[]⟩,tp [],⟨.none,ah,.fields #[vI 618 0,vI 4 0,vR 737,vI 625 0,vI 4 0,vR 744,vI 629 0,vI 4 0,vR 751,vI 635 0,vI 4 0,vR 758],#[]⟩,iO (.type "code") "Numbers" "Numbers" 1374 616 0 0 728 au 729 .none .none .none 1377 616,⟨(.type "frame"),ah,.plain,#[aa (vR 730),aa (vR 3),aa (vR 727),ah,aa (vS "f77.sharing" 1343),ah,aa (vR 0)]⟩,tp [],nf,tp [vS "self" 1387],tp [],fA (eI 114 0) "__init__" "Numbers.__init__",cB "__init__" "Numbers.__init__" 1384 618 1 3 732 733 734 735 736 1388 618,fB (eI 114 0) "__init__" "Numbers.__init__" "f77.sharing" 1343 737,tp [],nf,tp [vS "self" 1394],tp [],fA (eI 114 1) "fresh" "Numbers.fresh",cB "fresh" "Numbers.fresh" 1391 625 1 3 739 740 741 742 743 1395 625,fB (eI 114 1) "fresh" "Numbers.fresh" "f77.sharing" 1343 744,tp [],nf,tp [vS "self" 1401,vS "register" 1402],tp [],fA (eI 114 2) "of" "Numbers.of",cB "of" "Numbers.of" 1398 629 2 3 746 747 748 749 750 1403 629,fB (eI 114 2) "of" "Numbers.of" "f77.sharing" 1343 751,tp [],nf,tp [vS "self" 1409,vS "register" 1410,vS "number" 1411,vS "there" 1412],tp [],fA (eI 114 3) "home" "Numbers.home",cB "home" "Numbers.home" 1406 635 2 3 753 754 755 756 757 1413 635,fB (eI 114 3) "home" "Numbers.home" "f77.sharing" 1343 758,tp [vS "count" 1416,vS "held" 1417,vS "homes" 1418,vS "known" 1419,vS "writes" 1420],⟨(.type "dict"),ah,.dict #[eS P "__module__" 1379 (vS "f77.sharing" 1343),eS P "__firstlineno__" 1383 (vI 616 1382),eR P "__init__" 1390 738,eR P "fresh" 1397 745,eR P "of" 1405 752,eR P "home" 1415 759,eR P "__static_attributes__" 1421 760,eR P "__dict__" 1423 763,eR P "__weakref__" 1425 764,eS P "__doc__" 1426 .none] 4,#[]⟩,⟨(.type "type"),ah,.cls {name:=.ofString "Numbers",bases:=[(.type "object")],mro:=[vR 762,(.type "object")],ns:=761,qualname:=.ofString "Numbers",hasDict:=aj,subclasses:=[],abstract:=au,hasDel:=au},#[ah,ah,aa (vS "Numbers" 1372),aa (vS "Numbers" 1380),aa (.builtin "object.__new__"),aa (.bool aj)]⟩,⟨(.type "getset_descriptor"),ah,.fields #[vS "__dict__" 1422,vR 762,(.builtin "function.__dict__"),(.builtin "function.__dict__#set")],#[]⟩,⟨(.type "getset_descriptor"),ah,.fields #[vS "__weakref__" 1424,vR 762,(.builtin "ExceptionGroup.__weakref__"),.none],#[]⟩,⟨(.type "super"),ah,.fields #[vR 762,vR 762,vR 762],#[]⟩,⟨(.type "builtin_function_or_method"),ah,.fields #[(.builtin "object.__init_subclass__"),vR 762],#[]⟩,tp [],nf,fC (aX 115) "key_of",iO (.type "code") "key_of" "key_of" 1429 642 2 3 767 aj 768 .none .none (vR 769) 1432 642,fD (aX 115) "key_of" "f77.sharing" 1343 770,tp [],nf,tp [vS "op" 1438,vS "numbers" 1439,vS "made" 1440,vS "key" 1441,vS "holder" 1442,vS "number" 1443],tp [],fC (aX 116) "shared",cC "shared" 1435 646 2 3 772 773 774 775 776 1444 646,fD (aX 116) "shared" "f77.sharing" 1343 777,tp [],nf,tp [vS "ops" 1450,vS "starts" 1451,vS "begins" 1452,vS "numbers" 1453,vS "out" 1454,vS "at" 1455,vS "mapping" 1456,vS "register" 1457],tp [],fC (aX 117) "share",cC "share" 1447 670 2 3 779 780 781 782 783 1458 670,fD (aX 117) "share" "f77.sharing" 1343 784,⟨(.type "list"),ah,.seq #[vI 2 1463,vI 0 1464,vI 0 1465,vI 3 1466,vI 0 1467,vI 0 1468,vI 0 1469,vI 7 1470,vI 2 1471,vI 1 1472,vI 0 1473,vI 0 1474,vI 3 1475,vI 0 1476,vI 1 1477,vI 2 1478,vI 7 1479,vI 0 1480,vI 1 1481,vI 4 1482,vI 9 1483,vI 0 1484,vI 0 1485,vI 5 1486,vI 6 1487,vI 1 1488,vI 1 1489,vI 0 1490] 0,#[]⟩,tp [],nf,tp [vS "tin" 1495,vS "many" 1496],tp [],fC (aX 120) "_law_pinch",cC "_law_pinch" 1492 684 2 3 787 788 789 790 791 1497 684,fD (aX 120) "_law_pinch" "law_sa0220_01" 1461 792,tp [],nf,tp [vS "tin" 1503,vS "size" 1504,vS "way" 1505,vS "a" 1506,vS "b" 1507,vS "c" 1508],tp [],fC (aX 121) "_law_drawn",cC "_law_drawn" 1500 687 2 3 794 795 796 797 798 1509 687,fD (aX 121) "_law_drawn" "law_sa0220_01" 1461 799,tp [],nf,tp [vS "way" 1515,vS "ops" 1516,vS "starts" 1517,vS "deed" 1518],tp [],fC (aX 122) "_law_passed",cC "_law_passed" 1512 714 3 3 801 802 803 804 805 1519 714,fD (aX 122) "_law_passed" "law_sa0220_01" 1461 806,tp [],nf,tp [vS "ops" 1525,vS "start" 1526,vS "steps" 1527,vS "memory" 1528,vS "spots" 1529,vS "machine" 1530,vS "call" 1531,vS "back" 1532],tp [],fC (aX 123) "_law_left",cC "_law_left" 1522 727 3 3 808 809 810 811 812 1533 727,fD (aX 123) "_law_left" "law_sa0220_01" 1461 813,tp [],nf,fC (aX 124) "law",iO (.type "code") "law" "law" 1536 744 1 3 815 aj 816 .none .none (vR 817) 1539 744,fD (aX 124) "law" "law_sa0220_01" 1461 818]
noncomputable def t8(P:bV):BT:=bt 11 (Dr P)
noncomputable def hZ(P:bV):aQ:=⟨⟨Dr P⟩,{}⟩
noncomputable def Cg:List Nat:=[1,2,3,15,17,18,20,21,22,29,31,32,34,35,36,37,38,39,42,49,50,51,54,61,62,63,66,73,75,76,78,79,80,81,82,85,87,88,90,91,92,94,95,97,98,99,101,102,104,105,106,108,109,111,112,113,115,116,118,119,120,122,123,125,126,127,129,130,132,133,134,136,137,139,140,141,143,144,146,147,148,150,151,153,154,155,157,158,160,161,162,164,165,167,168,169,170,172,173,175,176,177,179,180,182,183,184,186,187,189,190,191,193,194,196,197,198,200,201,203,204,205,207,208,210,211,212,214,215,217,218,219,221,222,224,225,226,228,229,231,232,233,235,236,238,239,240,242,243,245,246,247,249,250,252,253,254,256,257,259,260,261,263,264,266,267,275,277,278,280,281,282,283,284,285,286,296,298,299,301,302,303,304,305,306,307,310,313,314,315,317,318,320,321,322,324,325,327,328,329,331,339,341,342,344,345,346,347,348,349,350,353,356,357,358,360,361,363,364,365,368,369,370,372,373,375,376,377,380,381,382,385,386,387,389,390,392,393,401,402,404,405,407,408,409,410,411,412,413,416,418,419,421,422,423,425,426,428,429,430,432,433,435,436,437,439,440,442,443,444,446,447,449,450,451,453,454,456,457,458,460,461,463,464,465,467,468,470,471,472,474,475,477,478,479,481,482,484,485,486,488,489,491,492,493,495,496,498,499,500,502,503,505,506,507,509,510,512,513,514,516,517,519,520,521,523,524,526,527,528,530,531,533,534,535,537,538,540,541,542,544,545,547,548,549,551,552,554,555,556,558,559,561,562,570,572,573,575,576,577,579,580,582,583,584,586,587,589,590,591,593,594,596,597,598,599,600,601,602,605,607,608,610,611,612,614,615,617,618,619,621,622,624,625,626,628,629,631,632,633,635,636,638,639,640,642,643,645,646,647,649,650,652,653,654,655,656,657,659,660,662,663,664,666,667,669,670,671,673,674,676,677,678,680,681,683,684,685,687,688,690,691,692,694,695,697,698,699,701,702,704,705,706,709,710,711,714,715,716,717,718,720,721,723,724,732,734,735,737,738,739,741,742,744,745,746,748,749,751,752,753,755,756,758,759,760,761,762,763,764,767,770,771,772,774,775,777,778,779,781,782,784,785,786,787,789,790,792,793,794,796,797,799,800,801,803,804,806,807,808,810,811,813,814,815,818,819]
@[irreducible]noncomputable def K(P:bV):kG:=pk 0 Cg (Dr P)
noncomputable def c9(a n:Nat):List bK:=(bE.drop a).take n
theorem ZQ:∀w:de,(λos=>topGo jB iB w 11 (aa (eK 6)) 12 ⟨q7 w.params,#[],boot_drawn,boot_toks,os⟩ (topStub iB))=λos=>aa (⟨hA w.params,#[],{},187,os⟩,⟨denote jB (fM bE dz),(fM bE dz),⟨0,0,0,0⟩,[kH ⟨0,0,0,0⟩]⟩):=by intro w;rw[PySem.W.Fast.te15667345088766844465,nX,PySem.W.Fast.te11892475500146522536];kernel_rfl
theorem QH:∀w:de,(λos=>segRun jB iB w 11 (aa (eK 6)) 1 1 ⟨hA w.params,#[],{},187,os⟩ (blockOf bE dz (fM bE dz) ⟨0,0,0,0⟩ [kH ⟨0,0,0,0⟩]))=λos=>aa (mY,(Gd (tB w.params) 15 {} #[] {} 187 os).abs,(fM bE dz),⟨0,0,0,0⟩):=by intro w;rw[nX];kernel_rfl
theorem OX:∀w:de,(λos=>pd jB iB w 11 (aa (eK 6)) 1 693 ⟨tB w.params,15,{},#[],{},187,os⟩ (pf (c9 0 5) dz (fM bE dz) ⟨0,0,0,0⟩ [kH ⟨0,0,0,0⟩]))=λos=>aa (mY,⟨t0 w.params,66,{},#[],{},257,os⟩,(fM bE dz),⟨12,0,13,8⟩):=by intro w;rw[q8,nX];kernel_rfl
theorem So:∀w:de,(λos=>pd jB iB w 11 (aa (eK 6)) 1 770 ⟨t0 w.params,66,{},#[],{},257,os⟩ (pf (c9 5 25) dz (fM bE dz) ⟨12,0,13,8⟩ [kH ⟨0,0,0,0⟩]))=λos=>aa (mY,⟨t1 w.params,184,{},#[],{},426,os⟩,(fM bE dz),⟨108,0,114,17⟩):=by intro w;rw[q8,nX];kernel_rfl
theorem WN:∀w:de,(λos=>pd jB iB w 11 (aa (eK 6)) 1 660 ⟨t1 w.params,184,{},#[],{},426,os⟩ (pf (c9 30 17) dz (fM bE dz) ⟨108,0,114,17⟩ [kH ⟨0,0,0,0⟩]))=λos=>aa (mY,⟨t2 w.params,289,{},#[],{},600,os⟩,(fM bE dz),⟨193,0,212,22⟩):=by intro w;rw[q8,nX];kernel_rfl
theorem YJ:∀w:de,(λos=>pd jB iB w 11 (aa (eK 6)) 1 331 ⟨t2 w.params,289,{},#[],{},600,os⟩ (pf (c9 47 5) dz (fM bE dz) ⟨193,0,212,22⟩ [kH ⟨0,0,0,0⟩]))=λos=>aa (mY,⟨t3 w.params,329,{},#[],{},666,os⟩,(fM bE dz),⟨260,0,260,8⟩):=by intro w;rw[q8,nX];kernel_rfl
theorem Rw:∀w:de,(λos=>pd jB iB (w.withFollow "special-get-raises" au) 11 (aa (eK 6)) 1 567 ⟨t3 (w.withFollow "special-get-raises" au).params,329,{},#[],{},666,os⟩ (pf (c9 52 1) dz (fM bE dz) ⟨260,0,260,8⟩ [kH ⟨0,0,0,0⟩]))=λos=>aa (mY,⟨t4 (w.withFollow "special-get-raises" au).params,331,{},#[],{},760,os⟩,(fM bE dz),⟨261,0,261,6⟩):=by intro w;rw[q8,nX];kernel_rfl
theorem Wd:∀w:de,(λos=>pd jB iB (w.withFollow "special-get-raises" aj) 11 (aa (eK 6)) 1 567 ⟨t3 (w.withFollow "special-get-raises" aj).params,329,{},#[],{},666,os⟩ (pf (c9 52 1) dz (fM bE dz) ⟨260,0,260,8⟩ [kH ⟨0,0,0,0⟩]))=λos=>aa (mY,⟨t4 (w.withFollow "special-get-raises" aj).params,331,{},#[],{},760,os⟩,(fM bE dz),⟨261,0,261,6⟩):=by intro w;rw[q8,nX];kernel_rfl
theorem XG:∀w:de,(λos=>pd jB iB w 11 (aa (eK 6)) 1 567 ⟨t3 w.params,329,{},#[],{},666,os⟩ (pf (c9 52 1) dz (fM bE dz) ⟨260,0,260,8⟩ [kH ⟨0,0,0,0⟩]))=λos=>aa (mY,⟨t4 w.params,331,{},#[],{},760,os⟩,(fM bE dz),⟨261,0,261,6⟩):=byRow2 "special-get-raises" (P:=λw=>(λos=>pd jB iB w 11 (aa (eK 6)) 1 567 ⟨t3 w.params,329,{},#[],{},666,os⟩ (pf (c9 52 1) dz (fM bE dz) ⟨260,0,260,8⟩ [kH ⟨0,0,0,0⟩]))=λos=>aa (mY,⟨t4 w.params,331,{},#[],{},760,os⟩,(fM bE dz),⟨261,0,261,6⟩)) Rw Wd
theorem St:∀w:de,(λos=>pd jB iB w 11 (aa (eK 6)) 1 798 ⟨t4 w.params,331,{},#[],{},760,os⟩ (pf (c9 53 15) dz (fM bE dz) ⟨261,0,261,6⟩ [kH ⟨0,0,0,0⟩]))=λos=>aa (mY,⟨t5 w.params,437,{},#[],{},935,os⟩,(fM bE dz),⟨369,0,375,31⟩):=by intro w;rw[q8,nX];kernel_rfl
theorem RV:∀w:de,(λos=>pd jB iB w 11 (aa (eK 6)) 1 597 ⟨t5 w.params,437,{},#[],{},935,os⟩ (pf (c9 68 21) dz (fM bE dz) ⟨369,0,375,31⟩ [kH ⟨0,0,0,0⟩]))=λos=>aa (mY,⟨t6 w.params,563,{},#[],{},1114,os⟩,(fM bE dz),⟨445,0,445,6⟩):=by intro w;rw[q8,nX];kernel_rfl
theorem aaI:∀w:de,(λos=>pd jB iB w 11 (aa (eK 6)) 1 793 ⟨t6 w.params,563,{},#[],{},1114,os⟩ (pf (c9 89 18) dz (fM bE dz) ⟨445,0,445,6⟩ [kH ⟨0,0,0,0⟩]))=λos=>aa (mY,⟨t7 w.params,699,{},#[],{},1321,os⟩,(fM bE dz),⟨559,0,573,14⟩):=by intro w;rw[q8,nX];kernel_rfl
theorem aaq:∀w:de,(λos=>pd jB iB w 11 (aa (eK 6)) 1 784 ⟨t7 w.params,699,{},#[],{},1321,os⟩ (pf (c9 107 18) dz (fM bE dz) ⟨559,0,573,14⟩ [kH ⟨0,0,0,0⟩]))=λos=>aa (mY,⟨t8 w.params,820,{},#[],{},1542,os⟩,(fM bE dz),⟨744,0,758,15⟩):=by intro w;rw[q8,nX];kernel_rfl
theorem Xg:∀w:de,(λos=>topRun jB iB w 11 (aa (eK 6)) 2 (Gd (t8 w.params) 820 {} #[] {} 1542 os).abs ⟨doneF mY,(fM bE dz),⟨744,0,758,15⟩,[kH ⟨0,0,0,0⟩]⟩)=λos=>aa ⟨hZ w.params,#[],{},1542,os⟩:=by intro w;rw[PySem.W.Fast.te14082659384304107361,nX];kernel_rfl
theorem Xk:bE=(c9 0 5++(c9 5 25++(c9 30 17++(c9 47 5++(c9 52 1++(c9 53 15++(c9 68 21++(c9 89 18++(c9 107 18++[]))))))))):=by kernel_rfl
theorem Zd(w:de)(os:iC):topRun jB iB w 11 (aa (eK 6)) (gc 693 (gc 770 (gc 660 (gc 331 (gc 567 (gc 798 (gc 597 (gc 793 (gc 784 2))))))))) (Gd (tB w.params) 15 {} #[] {} 187 os).abs (restOf (c9 0 5++(c9 5 25++(c9 30 17++(c9 47 5++(c9 52 1++(c9 53 15++(c9 68 21++(c9 89 18++(c9 107 18++[]))))))))) dz (fM bE dz) ⟨0,0,0,0⟩ [kH ⟨0,0,0,0⟩])=aa ⟨hZ w.params,#[],{},1542,os⟩:=(sL (sM (congrFun (OX w) os)) (sL (sM (congrFun (So w) os)) (sL (sM (congrFun (WN w) os)) (sL (sM (congrFun (YJ w) os)) (sL (sM (congrFun (XG w) os)) (sL (sM (congrFun (St w) os)) (sL (sM (congrFun (RV w) os)) (sL (sM (congrFun (aaI w) os)) (sL (sM (congrFun (aaq w) os)) (congrFun (Xg w) os))))))))))
theorem SO(w:de)(os:iC):topRun jB iB w 11 (aa (eK 6)) (gc 12 (gc 1 (gc 693 (gc 770 (gc 660 (gc 331 (gc 567 (gc 798 (gc 597 (gc 793 (gc 784 2))))))))))) ⟨q7 w.params,#[],boot_drawn,boot_toks,os⟩ (topStub iB)=aa ⟨hZ w.params,#[],{},1542,os⟩:=go_top (congrFun (ZQ w) os) (piece_block (congrFun (QH w) os) ((congrArg (λb=>topRun jB iB w 11 (aa (eK 6)) (gc 693 (gc 770 (gc 660 (gc 331 (gc 567 (gc 798 (gc 597 (gc 793 (gc 784 2))))))))) (Gd (tB w.params) 15 {} #[] {} 187 os).abs (restOf b dz (fM bE dz) ⟨0,0,0,0⟩ [kH ⟨0,0,0,0⟩])) Xk).trans (Zd w os)))
noncomputable abbrev pw:jM:=iB
noncomputable def Fp:List Nat->Nat->List bK->List bK|_,_,[]=>[]|a,i,s::l=>match a.contains i with|aj=>Fp a (i+1) l|au=>s::Fp a (i+1) l
noncomputable def d9:jM:={pw with main:={(pw).main with body:=Fp [1,6,18,26,36,39,41,45,51,62,64,72,87,97,110,118] 0 (pw).main.body}}
noncomputable abbrev lI:List aD:=[bz "SHAPES",bz "_law_tail"]
noncomputable abbrev sZ(w:de)(os:iC):az:=⟨hZ w.params,#[],{},1542,os⟩
theorem UF(P:bV):Cg=(K P).map (·.1):=by kernel_rfl
noncomputable abbrev or:Hook:=kmHook K Cg UF [802]
theorem QJ:∀w:de,(fencedOpening jB pw w 12094).map (λs=>(s.heap,s.gens,s.drawn,s.toks))=aa (q7 w.params,Array.mk [],boot_drawn,boot_toks):=boot_open (by kernel_rfl) (by kernel_rfl) (λs=>by kernel_rfl)
theorem Zg:∀w:de,((q7 w.params).isNs e7&&(#[]:Array Ge).size==0,(q7 w.params).objs.size,(q7 w.params).nsMap e7 "__annotations__")=(aj,11,aa (.ref 6)):=λw=>by kernel_rfl
theorem QM:∀w:de,(λos=>(staticsOk (Gf pw.main.body) (q7 w.params) (hZ w.params)))=(λ_:iC=>aj):=λw=>by kernel_rfl
theorem lkB:∀w:de,(λos=>(namesBound pw (hZ w.params)))=(λ_:iC=>aj):=λw=>by kernel_rfl
theorem lkC:∀w:de,(λos=>gensDone (sZ w os))=(λ_:iC=>aj):=λw=>by kernel_rfl
theorem SX:∀w:de,(λos=>laidKept (q7 w.params) (hZ w.params))=(λ_:iC=>aj):=λw=>by kernel_rfl
theorem PR:∀w:de,(λos=>or.obs (sZ w os))=(λ_:iC=>or.val w):=λw=>by kernel_rfl
theorem ZU:∀w:de,(λos=>(sZ w os).heap.bltView)=(λ_:iC=>bltViewBooted):=λw=>by kernel_rfl
theorem RX:∀w:de,(λos=>(sZ w os).heap.keysOk (looseW d9 lI) ((recsOf d9).map (·.name)) ((litsOf d9).map (·.1)) ((clssOf d9 (looseW d9 lI)).map (·.name)))=(λ_:iC=>aj):=λw=>by kernel_rfl
theorem V9:∀w:de,(λos=>(sZ w os).heap.accountedOkI (Gf pw.main.body))=(λ_:iC=>aj):=λw=>by kernel_rfl
theorem YE:∀w:de,(λos=>(sZ w os).heap.isNs e7&&(sZ w os).heap.isNs vG&&tablesOk d9 (sZ w os).heap)=(λ_:iC=>aj):=λw=>by kernel_rfl
theorem XC:∀w:de,(λos=>xlAt d9 [] (sZ w os)&&recOk [] (sZ w os))=(λ_:iC=>aj):=λw=>by kernel_rfl
theorem Uo:∀w:de,(λos=>seen ((recsOf d9).map (·.name)) (ownsOf d9) [] {sZ w os with gens:=#[]})=(λ_:iC=>expectedOf d9):=λw=>by kernel_rfl
theorem Vt:∀w:de,(λos=>tabsOk d9 (sZ w os))=(λ_:iC=>aj):=λw=>by kernel_rfl
theorem lk5:∀w:de,(λos=>pinSeenD d9 (drecsOf d9) (sZ w os))=(λ_:iC=>pinGoodD (drecsOf d9)):=λw=>by kernel_rfl
theorem ZF:∀w:de,(λos=>plainSeenE d9 (looseW d9 lI) (sZ w os))=(λ_:iC=>plainGoodE d9 (looseW d9 lI)):=λw=>by kernel_rfl
theorem V0:∀w:de,(λos=>plainSeenD d9 lI (sZ w os))=(λ_:iC=>plainGoodD d9 lI):=λw=>by kernel_rfl
theorem TG:∀w:de,(λos=>wideSeen d9 (sZ w os))=(λ_:iC=>wideGood d9):=λw=>by kernel_rfl
theorem lk9:∀w:de,(λos=>clsSeenW d9 lI (sZ w os))=(λ_:iC=>clsGoodW d9 lI):=λw=>by kernel_rfl
theorem Us:∀w:de,(λos=>((staticsOk (Gf pw.main.body) (q7 w.params) (hZ w.params)&&namesBound pw (hZ w.params)&&gensDone (sZ w os)&&laidKept (q7 w.params) (hZ w.params)),openSeen d9 lI (Gf pw.main.body) (λs=>xlAt d9 [] s&&recOk [] s) aj (sZ w os),or.obs (sZ w os)))=λz=>(aj,openGood d9 lI,or.val w):=λw=>funext λos=>by have A:=congrFun (QM w) os;have B:=congrFun (lkB w) os;have C:=congrFun (lkC w) os;have D:=congrFun (SX w) os;have k:=congrFun (RX w) os;have k2:=congrFun (V9 w) os;have k3:=congrFun (YE w) os;have a:=congrFun (XC w) os;simp only at A B C D k k2 k3 a;refine q9 (by rw[A,B,C,D];rfl) (q9 ?_ (congrFun (PR w) os));unfold openSeen openGood;refine q9 (congrFun (Uo w) os) (q9 (congrFun (ZU w) os) (q9 ?_ (q9 (congrFun (Vt w) os) (q9 (congrFun (lk5 w) os) (q9 (congrFun (ZF w) os) (q9 (congrFun (V0 w) os) (q9 (congrFun (TG w) os) (congrFun (lk9 w) os))))))));simp only[cI]at k3 a;simp only[k,k2,k3.1.1,k3.1.2,k3.2,a.1,a.2,BQ,if_true];rfl
theorem V5:LeftO pw d9 lI (λs=>xlAt d9 [] s&&recOk [] s) or.obs or.val 12094:=LeftO.of_pieces QJ Zg SO (by kernel_rfl) Us
noncomputable def dD:DefRec:=⟨bz "law",(aX 124).1,(aX 124).2.1,(aX 124).2.2,⟨744,0,758,15⟩⟩
theorem ZI:defOf d9 (bz "law")=aa (dD,[]):=by kernel_rfl
theorem aaj:(pw).theDef (bz "law")=aa (dD.params,dD.body,dD.scope):=by kernel_rfl
theorem OV:kwWritten? dD.params.kwonlyargs dD.params.kw_defaults=aa []:=by kernel_rfl
theorem PQ:sN.wellSaid=aj:=by rw[Fast.te9446332074065402090];kernel_rfl
theorem ZG:(chainsOk d9&&opensWell pw&&(frees sN.row.toRowW&&sN.row.within.isEmpty))=aj:=by kernel_rfl
theorem Qd:(pw).bare:=⟨rfl,rfl,rfl,rfl,rfl,by decide+kernel⟩
theorem W7:sN.row.toRowW.promised:=⟨[.list []],by decide+kernel,by decide+kernel⟩
theorem O6(a:WalkO d9 lI (XL d9 []) or.says sN.row.toRowW dD [] λf vs=>fX f vs):sN.Holds:=holds_law PQ λb=>holds_open (r:=sN.row) (q:=d9) (loose:=lI) (Xt:=λs=>xlAt d9 [] s&&recOk [] s) (XP:=XL d9 []) (YP:=or.says) (d:=dD) (kwd:=[]) V5 (Hook.of or) (Hook.keeps or) (λs e=>xl_of s (kI.mp e).1) XL.keeps ZI aaj OV (λs e=>recFacts_of (kI.mp e).2) rfl b ZG Qd W7 a
end
set_option tactic.hygienic false
set_option genCtorIdx true in structure aC where
 n:Fin 68 deriving DecidableEq
noncomputable def aC.EW:aC:=⟨0⟩
noncomputable def aC.Vf:aC:=⟨1⟩
noncomputable def aC.D5:aC:=⟨2⟩
noncomputable def aC.ZK:aC:=⟨3⟩
noncomputable def aC.Zh:aC:=⟨4⟩
noncomputable def aC.Fy:aC:=⟨5⟩
noncomputable def aC.EF:aC:=⟨6⟩
noncomputable def aC.CT:aC:=⟨7⟩
noncomputable def aC.Ey:aC:=⟨8⟩
noncomputable def aC.EJ:aC:=⟨9⟩
noncomputable def aC.Ua:aC:=⟨10⟩
noncomputable def aC.Pc:aC:=⟨11⟩
noncomputable def aC.nK:aC:=⟨12⟩
noncomputable def aC.nG:aC:=⟨13⟩
noncomputable def aC.iP:aC:=⟨14⟩
noncomputable def aC.gZ:aC:=⟨15⟩
noncomputable def aC.e8:aC:=⟨16⟩
noncomputable def aC.o3:aC:=⟨17⟩
noncomputable def aC.o7:aC:=⟨18⟩
noncomputable def aC.jO:aC:=⟨19⟩
noncomputable def aC.nu:aC:=⟨20⟩
noncomputable def aC.qV:aC:=⟨21⟩
noncomputable def aC.Ee:aC:=⟨22⟩
noncomputable def aC.tD:aC:=⟨23⟩
noncomputable def aC.lK:aC:=⟨24⟩
noncomputable def aC.FV:aC:=⟨25⟩
noncomputable def aC.lq:aC:=⟨26⟩
noncomputable def aC.u3:aC:=⟨27⟩
noncomputable def aC.qf:aC:=⟨28⟩
noncomputable def aC.hY:aC:=⟨29⟩
noncomputable def aC.iG:aC:=⟨30⟩
noncomputable def aC.i6:aC:=⟨31⟩
noncomputable def aC.fG:aC:=⟨32⟩
noncomputable def aC.kz:aC:=⟨33⟩
noncomputable def aC.gE:aC:=⟨34⟩
noncomputable def aC.fZ:aC:=⟨35⟩
noncomputable def aC.ji:aC:=⟨36⟩
noncomputable def aC.k7:aC:=⟨37⟩
noncomputable def aC.A8:aC:=⟨38⟩
noncomputable def aC.z9:aC:=⟨39⟩
noncomputable def aC.jS:aC:=⟨40⟩
noncomputable def aC.rU:aC:=⟨41⟩
noncomputable def aC.mu:aC:=⟨42⟩
noncomputable def aC.jn:aC:=⟨43⟩
noncomputable def aC.kg:aC:=⟨44⟩
noncomputable def aC.Hk:aC:=⟨45⟩
noncomputable def aC.pU:aC:=⟨46⟩
noncomputable def aC.vn:aC:=⟨47⟩
noncomputable def aC.Am:aC:=⟨48⟩
noncomputable def aC.xk:aC:=⟨49⟩
noncomputable def aC.xE:aC:=⟨50⟩
noncomputable def aC.AH:aC:=⟨51⟩
noncomputable def aC.zI:aC:=⟨52⟩
noncomputable def aC.zr:aC:=⟨53⟩
noncomputable def aC.wI:aC:=⟨54⟩
noncomputable def aC.y7:aC:=⟨55⟩
noncomputable def aC.Bu:aC:=⟨56⟩
noncomputable def aC.s_:aC:=⟨57⟩
noncomputable def aC.sF:aC:=⟨58⟩
noncomputable def aC.JT:aC:=⟨59⟩
noncomputable def aC.IU:aC:=⟨60⟩
noncomputable def aC.KV:aC:=⟨61⟩
noncomputable def aC.xA:aC:=⟨62⟩
noncomputable def aC.FX:aC:=⟨63⟩
noncomputable def aC.K6:aC:=⟨64⟩
noncomputable def aC.Ds:aC:=⟨65⟩
noncomputable def aC.CV:aC:=⟨66⟩
noncomputable def aC.DB:aC:=⟨67⟩
noncomputable def aC.all:List aC:=(Nz 68).map aC.mk
theorem aC.jL(s:aC):s∈aC.all:=gO.mpr ⟨s.n,NE _,rfl⟩
noncomputable def aC.xt:List String:=["eq","ne","lt","le","gt","ge","add","sub","mul","div","pow","powi","not","neg","bin","cmp","un","conv","cat","r","o","R","A","D","w","v","j","J","P","return","true","false","jump","sign","move","set","switch","nop","intr","cut","addr","count","load","gone","salt","PQRS","store","Q","w--","wr","w--rr","w--r","w-","rr","rj","rjjj","rJ","","-","S","agoto","stop","length","fetch","elem","setlabel","call","io"]
noncomputable def aC.fQ(s:aC):String:=aC.xt.getD s.n ""
noncomputable def aC.RA:List (aC×List aC):=[(.nu,[.nu]),(.lq,[.lq]),(.Hk,[.qf,.vn,.qV,.JT]),(.Am,[.lK,.sF,.sF]),(.xk,[.lK,.jO]),(.xE,[.lK,.sF,.sF,.jO,.jO]),(.AH,[.lK,.sF,.sF,.jO]),(.zI,[.lK,.sF]),(.zr,[.jO,.jO]),(.wI,[.jO,.lq]),(.y7,[.jO,.lq,.lq,.lq]),(.Bu,[.jO,.u3])]
noncomputable def aC.BJ(s:aC):List aC:=((aC.RA.find? λp=>p.1==s).map λp=>p.2).getD []
noncomputable def aC.at(s:aC)(k:Nat):Option aC:=s.BJ[k]?
noncomputable def aC.XZ:List (aC×Nat):=[(.nu,1),(.lq,1),(.Am,3),(.xk,2),(.xE,5),(.AH,4),(.zI,2),(.zr,2),(.wI,2),(.y7,4),(.Bu,2),(.s_,0)]
noncomputable def aC.bN(s:aC):Option Nat:=((aC.XZ.find? λp=>p.1==s).map λp=>p.2)
noncomputable def aC.Zq:List (aC×aC):=[(.nu,.nu),(.lq,.lq),(.Am,.lK),(.xk,.lK),(.xE,.lK),(.AH,.lK),(.zI,.lK),(.zr,.jO),(.wI,.jO),(.y7,.jO),(.Bu,.jO),(.s_,.s_)]
noncomputable def aC.head(s:aC):Option aC:=((aC.Zq.find? λp=>p.1==s).map λp=>p.2)
noncomputable def aC.Se:List (aC×aC):=[(.fZ,.Am),(.gE,.xk),(.iP,.xE),(.gZ,.xE),(.e8,.AH),(.jS,.zI),(.mu,.xk),(.pU,.zr),(.iG,.wI),(.i6,.wI),(.kz,.y7),(.ji,.Bu),(.fG,.lq),(.hY,.nu),(.k7,.s_)]
noncomputable def aC.qh(s:aC):Option aC:=((aC.Se.find? λp=>p.1==s).map λp=>p.2)
set_option genCtorIdx true in structure At where
 n:Fin 38 deriving DecidableEq
noncomputable def At.pW:At:=⟨0⟩
noncomputable def At.tL:At:=⟨1⟩
noncomputable def At.rR:At:=⟨2⟩
noncomputable def At.Av:At:=⟨3⟩
noncomputable def At.A9:At:=⟨4⟩
noncomputable def At.lT:At:=⟨5⟩
noncomputable def At.ur:At:=⟨6⟩
noncomputable def At.Bw:At:=⟨7⟩
noncomputable def At.AS:At:=⟨8⟩
noncomputable def At.zn:At:=⟨9⟩
noncomputable def At.yU:At:=⟨10⟩
noncomputable def At.zt:At:=⟨11⟩
noncomputable def At.zR:At:=⟨12⟩
noncomputable def At.As:At:=⟨13⟩
noncomputable def At.Bv:At:=⟨14⟩
noncomputable def At.zk:At:=⟨15⟩
noncomputable def At.Aq:At:=⟨16⟩
noncomputable def At.nW:At:=⟨17⟩
noncomputable def At.xq:At:=⟨18⟩
noncomputable def At.uc:At:=⟨19⟩
noncomputable def At.C:At:=⟨20⟩
noncomputable def At.zL:At:=⟨21⟩
noncomputable def At.zV:At:=⟨22⟩
noncomputable def At.xj:At:=⟨23⟩
noncomputable def At.xx:At:=⟨24⟩
noncomputable def At.Hu:At:=⟨25⟩
noncomputable def At.HK:At:=⟨26⟩
noncomputable def At.GU:At:=⟨27⟩
noncomputable def At.Lo:At:=⟨28⟩
noncomputable def At.H3:At:=⟨29⟩
noncomputable def At.GY:At:=⟨30⟩
noncomputable def At.pI:At:=⟨31⟩
noncomputable def At.s5:At:=⟨32⟩
noncomputable def At.iW:At:=⟨33⟩
noncomputable def At.nR:At:=⟨34⟩
noncomputable def At.pB:At:=⟨35⟩
noncomputable def At.pv:At:=⟨36⟩
noncomputable def At.oj:At:=⟨37⟩
noncomputable def At.all:List At:=(Nz 38).map At.mk
theorem At.jL(s:At):s∈At.all:=gO.mpr ⟨s.n,NE _,rfl⟩
noncomputable def At.xt:List String:=["width","memory","limits","codes","frames","ops","operations","io","enter","world","library","functions","clears","places","units","active","transfers","steps","code","frame","registers","cells","temps","entries","formats","real_digits","double_digits","top_exponent","continuations","columns","depth","numeric","characters","held","homes","known","count","writes"]
noncomputable def At.fQ(s:At):String:=At.xt.getD s.n ""
set_option genCtorIdx true in structure Fn where
 n:Fin 76 deriving DecidableEq
noncomputable def Fn.vx:Fn:=⟨0⟩
noncomputable def Fn.KZ:Fn:=⟨1⟩
noncomputable def Fn.MP:Fn:=⟨2⟩
noncomputable def Fn.Lm:Fn:=⟨3⟩
noncomputable def Fn.Hi:Fn:=⟨4⟩
noncomputable def Fn.Hl:Fn:=⟨5⟩
noncomputable def Fn.Nu:Fn:=⟨6⟩
noncomputable def Fn.HI:Fn:=⟨7⟩
noncomputable def Fn.ou:Fn:=⟨8⟩
noncomputable def Fn.CJ:Fn:=⟨9⟩
noncomputable def Fn.Dk:Fn:=⟨10⟩
noncomputable def Fn.zf:Fn:=⟨11⟩
noncomputable def Fn.CU:Fn:=⟨12⟩
noncomputable def Fn.Ef:Fn:=⟨13⟩
noncomputable def Fn.Eu:Fn:=⟨14⟩
noncomputable def Fn.Df:Fn:=⟨15⟩
noncomputable def Fn.kP:Fn:=⟨16⟩
noncomputable def Fn.ug:Fn:=⟨17⟩
noncomputable def Fn.tu:Fn:=⟨18⟩
noncomputable def Fn.q6:Fn:=⟨19⟩
noncomputable def Fn.Dp:Fn:=⟨20⟩
noncomputable def Fn.BN:Fn:=⟨21⟩
noncomputable def Fn.Cj:Fn:=⟨22⟩
noncomputable def Fn.FN:Fn:=⟨23⟩
noncomputable def Fn.DL:Fn:=⟨24⟩
noncomputable def Fn.CO:Fn:=⟨25⟩
noncomputable def Fn.Cf:Fn:=⟨26⟩
noncomputable def Fn.zx:Fn:=⟨27⟩
noncomputable def Fn.My:Fn:=⟨28⟩
noncomputable def Fn.Lv:Fn:=⟨29⟩
noncomputable def Fn.yQ:Fn:=⟨30⟩
noncomputable def Fn.yc:Fn:=⟨31⟩
noncomputable def Fn.Au:Fn:=⟨32⟩
noncomputable def Fn.qO:Fn:=⟨33⟩
noncomputable def Fn.uV:Fn:=⟨34⟩
noncomputable def Fn.wC:Fn:=⟨35⟩
noncomputable def Fn.y8:Fn:=⟨36⟩
noncomputable def Fn.AR:Fn:=⟨37⟩
noncomputable def Fn.Aj:Fn:=⟨38⟩
noncomputable def Fn.zA:Fn:=⟨39⟩
noncomputable def Fn.yZ:Fn:=⟨40⟩
noncomputable def Fn.Be:Fn:=⟨41⟩
noncomputable def Fn.AX:Fn:=⟨42⟩
noncomputable def Fn.BK:Fn:=⟨43⟩
noncomputable def Fn.y5:Fn:=⟨44⟩
noncomputable def Fn.Ci:Fn:=⟨45⟩
noncomputable def Fn.Bp:Fn:=⟨46⟩
noncomputable def Fn.rG:Fn:=⟨47⟩
noncomputable def Fn.Bb:Fn:=⟨48⟩
noncomputable def Fn.wO:Fn:=⟨49⟩
noncomputable def Fn.Xv:Fn:=⟨50⟩
noncomputable def Fn.ZS:Fn:=⟨51⟩
noncomputable def Fn.Lq:Fn:=⟨52⟩
noncomputable def Fn.yS:Fn:=⟨53⟩
noncomputable def Fn.FB:Fn:=⟨54⟩
noncomputable def Fn.zQ:Fn:=⟨55⟩
noncomputable def Fn.EE:Fn:=⟨56⟩
noncomputable def Fn.K7:Fn:=⟨57⟩
noncomputable def Fn.yj:Fn:=⟨58⟩
noncomputable def Fn.Ic:Fn:=⟨59⟩
noncomputable def Fn.Jj:Fn:=⟨60⟩
noncomputable def Fn.xv:Fn:=⟨61⟩
noncomputable def Fn.Ea:Fn:=⟨62⟩
noncomputable def Fn.DM:Fn:=⟨63⟩
noncomputable def Fn.DK:Fn:=⟨64⟩
noncomputable def Fn.Dw:Fn:=⟨65⟩
noncomputable def Fn.Ig:Fn:=⟨66⟩
noncomputable def Fn.Fa:Fn:=⟨67⟩
noncomputable def Fn.zC:Fn:=⟨68⟩
noncomputable def Fn.c6:Fn:=⟨69⟩
noncomputable def Fn.qX:Fn:=⟨70⟩
noncomputable def Fn.yX:Fn:=⟨71⟩
noncomputable def Fn.j9:Fn:=⟨72⟩
noncomputable def Fn.tA:Fn:=⟨73⟩
noncomputable def Fn.om:Fn:=⟨74⟩
noncomputable def Fn.qy:Fn:=⟨75⟩
noncomputable def Fn.all:List Fn:=(Nz 76).map Fn.mk
theorem Fn.jL(s:Fn):s∈Fn.all:=gO.mpr ⟨s.n,NE _,rfl⟩
noncomputable def Fn.xt:List String:=["fit_int","int_add","int_sub","int_mul","cut_quotient","int_div","order_of","holds","int_binary","units_of","unary","compute","Machine.__init__","Call.__init__","run_code","Code.__init__","Limits.__init__","reads_of","writes_of","jumps_of","goes_on","with_jumps","read_part","with_reads","block_begins","follows","sign_of","reached","mask_of","live_ahead","live_behind","do_set","do_move","do_two","do_one","do_addr","do_load","do_store","do_nop","do_jump","do_true","do_false","do_sign","do_switch","do_return","Memory.__init__","Memory.load","Memory.store","need_units","read_cell","load_number","store_number","kind_made","branch_taken","folded","fold","is_quiet","drop_dead","landing","thread","squeeze","flavour","Numbers.__init__","Numbers.fresh","Numbers.of","Numbers.home","key_of","shared","share","deed","_law_pinch","_law_drawn","_law_passed","_law_left","law","plain_frame"]
set_option genCtorIdx true in inductive dr where|qe|qq|oS|jP|jU|jV deriving DecidableEq
noncomputable def dr.all:List dr:=[.qe,.qq,.oS,.jP,.jU,.jV]
noncomputable def dr.fQ:dr->String|.qe=>"Machine"|.qq=>"Call"|.oS=>"Code"|.jP=>"Limits"|.jU=>"Memory"|.jV=>"Numbers"
noncomputable def dr.init:dr->Fn|.qe=>.CU|.qq=>.Ef|.oS=>.Df|.jP=>.kP|.jU=>.Ci|.jV=>.Ea
set_option genCtorIdx true in inductive Mt where|fF|nk|jX|gY|rS|qP|ta|uR|qw deriving DecidableEq
noncomputable def Mt.all:List Mt:=[.fF,.nk,.jX,.gY,.rS,.qP,.ta,.uR,.qw]
noncomputable def Mt.fQ:Mt->String|.fF=>"append"|.nk=>"extend"|.jX=>"pop"|.gY=>"get"|.rS=>"fresh"|.qP=>"of"|.ta=>"home"|.uR=>"load"|.qw=>"store"
inductive Gl where|ku|ue|uN|vi|xB|uQ|Bx|u6|km|vj|u8|u2|vg|qu|tv|fn(f:Fn)
noncomputable def Gl.fQ:Gl->String|.ku=>"INTEGER"|.ue=>"REAL"|.uN=>"DOUBLE"|.vi=>"COMPLEX"|.xB=>"LOGICAL"|.uQ=>"CHARACTER"|.Bx=>"SECOND"|.u6=>"LEAVING"|.km=>"NOP"|.vj=>"FOLDED"|.u8=>"QUIET"|.u2=>"SHARED"|.vg=>"WRITERS"|.qu=>"SHAPES"|.tv=>"_law_tail"|.fn f=>Fn.xt.getD f.n ""
set_option genCtorIdx true in inductive V where|U|none|bool(b:Bool)|int(i:Int)|str(s:aC)|Z(l:List V)|ref(i:Nat)|fn(f:Fn)|fl(l:List Int)|fp
set_option genCtorIdx true in inductive O where|list(l:List V)|dict(l:List (V×V))|bw(k:dr)|fields(l:List (At×V))
noncomputable abbrev H:=List O
set_option genCtorIdx true in inductive iZ where|add|sub|mul|fdiv|fY|mM|qK|nv|lf
set_option genCtorIdx true in inductive l0 where|eq|ne|lt|le|gt|ge|f9|lS|qA
set_option genCtorIdx true in inductive Bi where|dL|qp|nh|qL|iV deriving DecidableEq
inductive CE where|aM|af(i:Nat)|nil|tt|ff|J(i:Int)|str(s:aC)|gl(g:Gl)|aN(op:iZ)(a b:CE)|bn(a:CE)|bZ(a:CE)|bo(isAnd:Bool)(l:List CE)|ao(op:l0)(a b:CE)|mX(o1 o2:l0)(a b c:CE)|gV(c a b:CE)|M(a:CE)(n:At)|Y(a k:CE)|lh(a hi:CE)|oY(a lo hi:CE)|aW(l:List CE)|Z(l:List CE)|bF(l:List CE)|call(f:CE)(l:List CE)|new(k:dr)(l:List CE)|bi(b:Bi)(l:List CE)|bH(a:CE)(m:Mt)(l:List CE)|lc(e:CE)(i:Nat)(it:CE)|o4(e:CE)(i:Nat)(n:CE)
set_option genCtorIdx true in inductive X where|aF|ir deriving DecidableEq
inductive HB where|ju|qg(i:Nat)|qT(i:Nat)
inductive CS where|aM|D(i:Nat)(e:CE)|gK(l:List Nat)(e:CE)|cH(a:CE)(n:At)(e:CE)|cQ(a k e:CE)|fs(i:Nat)(op:iZ)(e:CE)|l7(a:CE)(n:At)(op:iZ)(e:CE)|pX(a k:CE)(op:iZ)(e:CE)|cO(e:CE)|ifs(c:CE)(t e:List CS)|lz(c:CE)(b:List CS)|fr(i:Nat)(it:CE)(b:List CS)|fP(i:Nat)(n:CE)(b:List CS)|lg(i:Nat)(n:CE)(b:List CS)|ret(e:CE)|ju|iJ|pr(e:CE)|tr(b:List CS)(hs:List (X×HB))|o8(i:Nat)
noncomputable def Gl.val:Gl->V|.ku=>.int 0|.ue=>.int 1|.uN=>.int 2|.vi=>.int 3|.xB=>.int 4|.uQ=>.int 5|.Bx=>.int 6|.u6=>.Z [.str .fG,.str .kz,.str .IU,.str .hY,.str .KV]|.km=>.Z [.str .k7]|.vj=>.Z [.str .iP,.str .gZ,.str .e8,.str .o3,.str .o7,.str .rU]|.u8=>.Z [.str .fZ,.str .gE,.str .gZ,.str .o7,.str .xA,.str .FX]|.u2=>.Z [.str .fZ,.str .iP,.str .gZ,.str .e8,.str .o3,.str .o7,.str .rU,.str .A8,.str .jS,.str .K6,.str .z9,.str .xA,.str .mu]|.vg=>.Z [.str .pU,.str .Ds,.str .CV,.str .DB]|.qu=>.fp|.tv=>.fl [2,0,0,3,0,0,0,7,2,1,0,0,3,0,1,2,7,0,1,4,9,0,0,5,6,1,1,0]|.fn f=>.fn f
set_option genCtorIdx true in inductive aB(α:Type)where|ok(a:α)(h:H)|ex(x:X)(h:H)|aM
noncomputable def aB.bind{b β:Type}:aB b->(b->H->aB β)->aB β|.ok a h,k=>k a h|.ex x h,_=>.ex x h|.aM,_=>.aM
noncomputable def fb(v:V):Option Int:=match v with|.U=>ah|.none=>ah|.bool _=>ah|.int i=>aa i|.str _=>ah|.Z _=>ah|.ref _=>ah|.fn _=>ah|.fl _=>ah|.fp=>ah
noncomputable def gJ(v:V):Option Nat:=match v with|.U=>ah|.none=>ah|.bool _=>ah|.int _=>ah|.str _=>ah|.Z _=>ah|.ref i=>aa i|.fn _=>ah|.fl _=>ah|.fp=>ah
noncomputable def iy(v:V):Option aC:=match v with|.U=>ah|.none=>ah|.bool _=>ah|.int _=>ah|.str i=>aa i|.Z _=>ah|.ref _=>ah|.fn _=>ah|.fl _=>ah|.fp=>ah
noncomputable def jx(v:V):Option (List V):=match v with|.U=>ah|.none=>ah|.bool _=>ah|.int _=>ah|.str _=>ah|.Z i=>aa i|.ref _=>ah|.fn _=>ah|.fl _=>ah|.fp=>ah
noncomputable def AN(v:V):Option (List Int):=match v with|.U=>ah|.none=>ah|.bool _=>ah|.int _=>ah|.str _=>ah|.Z _=>ah|.ref _=>ah|.fn _=>ah|.fl i=>aa i|.fp=>ah
noncomputable def ye(v:V):Option Int:=match v with|.U=>ah|.none=>ah|.bool b=>aa (if b then 1 else 0)|.int i=>aa i|.str _=>ah|.Z _=>ah|.ref _=>ah|.fn _=>ah|.fl _=>ah|.fp=>ah
noncomputable def Nw(v:V):Bool:=match v with|.U=>au|.none=>au|.bool _=>au|.int _=>au|.str _=>au|.Z _=>au|.ref _=>au|.fn _=>au|.fl _=>au|.fp=>aj
noncomputable def JC(v:V):Bool:=match v with|.U=>au|.none=>aj|.bool _=>au|.int _=>au|.str _=>au|.Z _=>au|.ref _=>au|.fn _=>au|.fl _=>au|.fp=>au
noncomputable def O.aW:O->Option (List V)|.list l=>aa l|.dict _=>ah|.bw _=>ah|.fields _=>ah
noncomputable def aG(h:H)(i:Nat):Option (List V):=h[i]?.bind O.aW
noncomputable def kf(f:V->V->Bool)(l m:List V):Bool:=match l with|[]=>m.isEmpty|a::x=>match m with|[]=>au|b::y=>f a b&&kf f x y
noncomputable def eU(n:Nat)(h:H)(a b:V):Bool:=match n with|0=>au|n+1=>match a with|.U=>au|.none=>JC b|.bool x=>(ye b).any λy=>(if x then 1 else 0)==y|.int x=>(ye b).any λy=>x==y|.str x=>(iy b).any λy=>x==y|.Z x=>(jx b).any λy=>kf (eU n h) x y|.ref i=>(gJ b).any λj=>(aG h i).any λx=>(aG h j).any λy=>kf (eU n h) x y|.fn _=>au|.fl _=>au|.fp=>au
noncomputable def iq(a b:V):Bool:=eU 9 [] a b
noncomputable def uL(a:V):Bool:=match a with|.U=>au|.none=>aj|.bool _=>au|.int _=>aj|.str _=>aj|.Z _=>au|.ref _=>au|.fn _=>au|.fl _=>au|.fp=>au
noncomputable def fV(n:Nat)(a:V):Bool:=match n with|0=>uL a|n+1=>match jx a with|aa l=>l.all (fV n)|ah=>uL a
noncomputable def yP(v:V):V:=match v with|.U=>.U|.none=>.none|.bool b=>.int (if b then 1 else 0)|.int i=>.int i|.str s=>.str s|.Z l=>.Z l|.ref i=>.ref i|.fn i=>.fn i|.fl i=>.fl i|.fp=>.fp
noncomputable def kn(n:Nat)(v:V):V:=match n with|0=>yP v|n+1=>match jx v with|aa l=>.Z (l.map (kn n))|ah=>yP v
noncomputable def kk(v:V):V:=match jx v with|aa l=>.Z (l.map (kn 7))|ah=>v
noncomputable def eH(l:List (V×V))(k:V):Option V:=(l.find? λp=>iq p.1 k).map (·.2)
noncomputable def sG(k v:V)(p:V×V):V×V:=if iq p.1 k then(p.1,v)else p
noncomputable def gT(l:List (V×V))(k v:V):List (V×V):=if(eH l k).isSome then l.map (sG k v)else l++[(k,v)]
noncomputable def qo(l:List (V×V))(k:V):List (V×V):=l.filter λp=>!iq p.1 k
noncomputable def io(v:V):Nat:=match v with|.U=>0|.none=>0|.bool _=>0|.int _=>1|.str _=>1|.Z _=>2|.ref _=>0|.fn _=>0|.fl _=>0|.fp=>0
noncomputable def eZ(l:List (V×V))(k:V):Bool:=fV 8 k&&io k !=0&&l.all λp=>io p.1==io k
noncomputable def tf(v:V):Bool:=io v==1
noncomputable def qZ(l:List (At×V))(n:At):Option V:=(l.find? λp=>p.1==n).map (·.2)
noncomputable def iQ:List (At×V)->At->V->List (At×V)|[],n,v=>[(n,v)]|p::l,n,v=>if p.1=n then(p.1,v)::l else p::iQ l n v
noncomputable def gB(v:V):Bool:=match v with|.U=>au|.none=>aj|.bool _=>aj|.int _=>aj|.str _=>aj|.Z _=>aj|.ref _=>aj|.fn _=>aj|.fl _=>aj|.fp=>aj
noncomputable def tj(l:List V):Option V:=match l with|[]=>ah|v::l=>if l.isEmpty then aa v else ah
noncomputable def ob{b β:Type}(o:Option b)(k:b->aB β):aB β:=match o with|aa a=>k a|ah=>.aM
noncomputable def gd{β:Type}(b:Bool)(r:aB β):aB β:=if b then r else .aM
noncomputable def i2{β:Type}(a b:V)(k:Int->Int->aB β):aB β:=ob (fb a) λx=>ob (fb b) λy=>k x y
noncomputable def O.bF:O->Option (List (V×V))|.list _=>ah|.dict l=>aa l|.bw _=>ah|.fields _=>ah
noncomputable def O.C5:O->Option dr|.list _=>ah|.dict _=>ah|.bw k=>aa k|.fields _=>ah
noncomputable def O.eG:O->Option (List (At×V))|.list _=>ah|.dict _=>ah|.bw _=>ah|.fields l=>aa l
noncomputable def cN(h:H)(i:Nat):Option (List (V×V)):=h[i]?.bind O.bF
noncomputable def yb(h:H)(i:Nat):Option dr:=h[i]?.bind O.C5
noncomputable def iu(h:H)(i:Nat):Option (List (At×V)):=(yb h i).bind λ_=>h[i+1]?.bind O.eG
noncomputable def qz(h:H)(v:V):Option (List V):=match gJ v with|aa i=>aG h i|ah=>(AN v).map λl=>l.map .int
noncomputable def cM:Nat:=1000
noncomputable def truthy(h:H)(v:V):Option Bool:=match v with|.none=>aa au|.bool b=>aa b|.int i=>aa (i !=0)|.ref i=>(aG h i).bind λl=>if l.length<cM then aa (!l.isEmpty)else ah|.U=>ah|.str _=>ah|.Z _=>ah|.fn _=>ah|.fl _=>ah|.fp=>ah
noncomputable def eP(n:Nat)(h:H)(v:V):Bool:=match n with|0=>au|n+1=>match v with|.U=>au|.none=>aj|.bool _=>aj|.int _=>aj|.str _=>aj|.Z l=>l.all (eP n h)|.ref i=>(aG h i).any λl=>l.all (eP n h)|.fn _=>au|.fl _=>au|.fp=>au
noncomputable def eqv(n:Nat)(h:H)(a b:V):Option Bool:=if eP n h a&&eP n h b then aa (eU n h a b)else ah
noncomputable def gh(s:aC)(l:List V):Option Bool:=match l with|[]=>aa au|v::l=>(iy v).bind λt=>(gh s l).map λb=>s==t||b
noncomputable def small(i:Int):Bool:=aZ (-(2^60)<i/\i<2^60)
noncomputable def f9(h:H)(a b:V):Option Bool:=match jx b with|aa l=>(iy a).bind λs=>gh s l|ah=>(gJ b).bind λi=>(cN h i).bind λl=>if eZ l (kk a)then aa (eH l (kk a)).isSome else ah
noncomputable def wz(a b:V)(k:Int->Int->Bool):Option Bool:=(fb a).bind λx=>(fb b).map λy=>k x y
noncomputable def Ai(a:V):Option Bool:=match a with|.none=>aa aj|.bool _=>aa au|.int _=>aa au|.ref _=>aa au|.U=>ah|.str _=>aa au|.Z _=>aa au|.fn _=>aa au|.fl _=>ah|.fp=>ah
noncomputable def dE(op:l0)(h:H)(a b:V):Option Bool:=match op with|.eq=>eqv 4 h a b|.ne=>(eqv 4 h a b).map (!·)|.lt=>wz a b λx y=>aZ (x<y)|.le=>wz a b λx y=>aZ (x<=y)|.gt=>wz a b λx y=>aZ (y<x)|.ge=>wz a b λx y=>aZ (y<=x)|.f9=>f9 h a b|.lS=>(f9 h a b).map (!·)|.qA=>(Ai b).bind λt=>if t then Ai a else ah
noncomputable def FU(a b:V)(h:H):aB V:=match fb a with|aa x=>ob (fb b) λy=>.ok (.int (x+y)) h|ah=>ob (qz h a) λx=>ob (qz h b) λy=>gd (aZ (x.length+y.length<cM)) (.ok (.ref h.length) (h++[.list (x++y)]))
noncomputable def Dy(a b:V)(h:H):aB V:=match gJ a with|aa i=>ob (fb b) λy=>ob ((aG h i).bind tj) λv=>gd (aZ (0<=y)&&aZ (y<=256)) (.ok (.ref h.length) (h++[.list (eL y.toNat v)]))|ah=>i2 a b λx y=>gd (small x&&small y) (.ok (.int (x*y)) h)
noncomputable def jW(op:iZ)(a b:V)(h:H):aB V:=match op with|.add=>FU a b h|.sub=>i2 a b λx y=>.ok (.int (x-y)) h|.mul=>Dy a b h|.fdiv=>i2 a b λx y=>gd (small x&&aZ (y.natAbs<2^30)&&y !=0) (.ok (.int (x.fdiv y)) h)|.fY=>i2 a b λx y=>gd (y !=0) (.ok (.int (x.fmod y)) h)|.mM=>i2 a b λx y=>gd (small x&&aZ (0<=y)&&aZ (y<=64)) (.ok (.int (x*2^y.toNat)) h)|.qK=>i2 a b λx y=>gd (aZ (0<=y)) (.ok (.int (x.fdiv (2^y.toNat))) h)|.nv=>i2 a b λx y=>gd (aZ (0<=x)&&aZ (0<=y)) (.ok (.int ((x.toNat&&&y.toNat:Nat):Int)) h)|.lf=>i2 a b λx y=>gd (aZ (0<=x)&&aZ (0<=y)) (.ok (.int ((x.toNat|||y.toNat:Nat):Int)) h)
noncomputable def Et(a b:V)(h:H):aB V:=match gJ a with|aa i=>ob (gJ b) λj=>ob (aG h i) λx=>ob (aG h j) λy=>gd (aZ (x.length+y.length<cM)) (.ok (.ref i) (h.set i (.list (x++y))))|ah=>i2 a b λx y=>.ok (.int (x+y)) h
noncomputable def jZ(op:iZ)(a b:V)(h:H):aB V:=match op with|.add=>Et a b h|.sub=>i2 a b λx y=>.ok (.int (x-y)) h|.mul=>.aM|.fdiv=>.aM|.fY=>.aM|.mM=>.aM|.qK=>.aM|.nv=>.aM|.lf=>i2 a b λx y=>gd (aZ (0<=x)&&aZ (0<=y)) (.ok (.int ((x.toNat|||y.toNat:Nat):Int)) h)
noncomputable def pT(l:List V)(k:Int):Option V:=if 0<=k/\k<(cM:Int)then l[k.toNat]? else ah
noncomputable def s6(a k:V):Option V:=match iy a with|aa s=>(fb k).bind λk=>if 0<=k then(s.at k.toNat).map .str else ah|ah=>if Nw a then(iy k).bind λs=>s.qh.map .str else ah
noncomputable def o6(h:H)(i:Nat)(k:V):Option V:=match aG h i with|aa l=>(fb k).bind λk=>pT l k|ah=>(cN h i).bind λl=>if eZ l (kk k)then eH l (kk k)else ah
noncomputable def dy(h:H)(a k:V):Option V:=match gJ a with|aa i=>o6 h i k|ah=>match jx a with|aa l=>(fb k).bind λk=>pT l k|ah=>s6 a k
noncomputable def rK(a hi:V)(h:H):aB V:=match iy a with|aa s=>ob (fb hi) λk=>gd (k==1) (ob s.head λt=>.ok (.str t) h)|ah=>ob (fb hi) λk=>ob (qz h a) λl=>gd (aZ (0<=k)&&aZ (k<2^60)&&aZ (l.length<cM)) (.ok (.ref h.length) (h++[.list (l.take k.toNat)]))
noncomputable def wJ(a lo hi:V)(h:H):aB V:=ob (gJ a) λi=>i2 lo hi λj k=>ob (aG h i) λl=>gd (aZ (0<=j)&&aZ (j<2^60)&&aZ (0<=k)&&aZ (k<2^60)&&aZ (l.length<cM)) (.ok (.ref h.length) (h++[.list ((l.take k.toNat).drop j.toNat)]))
noncomputable def iX(h:H)(a:V)(n:At):Option V:=(gJ a).bind λi=>(iu h i).bind λl=>qZ l n
noncomputable def l5(h:H)(a:V)(n:At)(v:V):Option H:=(gJ a).bind λi=>(iu h i).bind λl=>if l.length<100 then aa (h.set (i+1) (.fields (iQ l n v)))else ah
noncomputable def jk(h:H)(a k v:V):Option H:=(gJ a).bind λi=>match aG h i with|aa l=>(fb k).bind λk=>if 0<=k/\k<(cM:Int)/\k.toNat<l.length then aa (h.set i (.list (l.set k.toNat v)))else ah|ah=>(cN h i).bind λl=>if eZ l (kk k)&&aZ (l.length<cM)then aa (h.set i (.dict (gT l (kk k) v)))else ah
noncomputable def Dx(a:V)(h:H):aB V:=match iy a with|aa s=>ob s.bN λn=>.ok (.int n) h|ah=>match jx a with|aa l=>gd (aZ (l.length<cM)) (.ok (.int l.length) h)|ah=>ob (qz h a) λl=>gd (aZ (l.length<cM)) (.ok (.int l.length) h)
noncomputable def Jl(a:V):Option Bool:=match a with|.Z _=>aa aj|.none=>aa au|.int _=>aa au|.bool _=>aa au|.ref _=>ah|.U=>ah|.str _=>ah|.fn _=>ah|.fl _=>ah|.fp=>ah
noncomputable def lu(b:Bi)(l:List V)(h:H):aB V:=ob (tj l) λa=>match b with|.dL=>Dx a h|.qp=>ob (gJ a) λi=>ob (aG h i) λl=>gd (aZ (l.length<cM)) (.ok (.ref h.length) (h++[.list l]))|.nh=>ob (gJ a) λi=>ob (aG h i) λl=>gd (aZ (l.length<cM)) (.ok (.Z l) h)|.qL=>ob (fb a) λi=>.ok (.int (if i<0 then-i else i)) h|.iV=>ob (Jl a) λt=>.ok (.bool t) h
inductive MK where|list|dict|bw(k:dr)
noncomputable def wG(i:Nat)(x:List V)(h:H):aB V:=match x.reverse with|v::r=>gd (aZ (x.length<cM)) (.ok v (h.set i (.list r.reverse)))|[]=>.aM
noncomputable def G5(m:Mt)(i:Nat)(x:List V)(l:List V)(h:H):aB V:=match m with|.fF=>ob (tj l) λv=>gd (aZ (x.length<cM)) (.ok .none (h.set i (.list (x++[v]))))|.nk=>ob (tj l) λv=>ob (gJ v) λj=>ob (aG h j) λy=>gd (aZ (x.length+y.length<cM)&&i !=j) (.ok .none (h.set i (.list (x++y))))|.jX=>gd l.isEmpty (wG i x h)|.gY=>.aM|.rS=>.aM|.qP=>.aM|.ta=>.aM|.uR=>.aM|.qw=>.aM
noncomputable def zS(x:List (V×V))(k d:V)(h:H):aB V:=gd (eZ x k&&tf k) (.ok ((eH x k).getD d) h)
noncomputable def AU(m:Mt)(i:Nat)(x:List (V×V))(l:List V)(h:H):aB V:=match l with|[]=>.aM|k::l=>match m with|.gY=>(match l with|[]=>zS x k .none h|d::l=>gd l.isEmpty (zS x k d h))|.jX=>gd l.isEmpty (gd (eZ x k&&tf k&&aZ (x.length<cM)) (ob (eH x k) λv=>.ok v (h.set i (.dict (qo x k)))))|.fF=>.aM|.nk=>.aM|.rS=>.aM|.qP=>.aM|.ta=>.aM|.uR=>.aM|.qw=>.aM
noncomputable def ET:List (dr×Mt×Fn):=[(.jV,.rS,.DM),(.jV,.qP,.DK),(.jV,.ta,.Dw),(.jU,.uR,.Bp),(.jU,.qw,.rG)]
noncomputable def lU(k:dr)(m:Mt):Option Fn:=(ET.find? λp=>p.1==k&&p.2.1==m).map λp=>p.2.2
noncomputable def wS(m:Mt):Bool:=m==.fF||m==.nk||m==.jX
noncomputable def xR(m:Mt):Bool:=m==.gY||m==.jX
noncomputable def zG(h:H)(m:Mt)(i:Nat)(o:O):Option MK:=match o with|.list _=>if wS m then aa .list else ah|.dict _=>if xR m then aa .dict else ah|.bw k=>(h[i+1]?.bind O.eG).bind λ_=>if(lU k m).isSome then aa (.bw k)else ah|.fields _=>ah
noncomputable def mR(h:H)(m:Mt)(v:V):Option MK:=(gJ v).bind λi=>h[i]?.bind λo=>zG h m i o
inductive sA where|e9(l:List V)|aW(i:Nat)
noncomputable def jQ(a:Int):List V:=(j0 a.toNat).map λ(k:Nat)=>.int k
noncomputable def qM(a:Int):List V:=(j0 (a+1).toNat).map λ(k:Nat)=>.int (a-k)
noncomputable def oC(v:V):Option sA:=match v with|.U=>ah|.none=>ah|.bool _=>ah|.int _=>ah|.str _=>ah|.Z l=>aa (.e9 l)|.ref i=>aa (.aW i)|.fn _=>ah|.fl _=>ah|.fp=>ah
noncomputable def vw(f:V->H->aB PUnit):List V->H->aB PUnit|[],h=>.ok ⟨⟩ h|v::l,h=>(f v h).bind λ_ h=>vw f l h
noncomputable def qR(f:V->H->aB PUnit)(i:Nat):Nat->Nat->H->aB PUnit|0,_,_=>.aM|n+1,k,h=>match aG h i with|ah=>.aM|aa l=>match l[k]? with|ah=>.ok ⟨⟩ h|aa v=>(f v h).bind λ_ h=>qR f i n (k+1) h
noncomputable def xN(f:V->H->aB PUnit)(it:sA)(h:H):aB PUnit:=match it with|.e9 l=>vw f l h|.aW i=>match aG h i with|aa l=>qR f i (l.length+1) 0 h|ah=>.aM
noncomputable def pK{b:Type}(r:aB b):aB b:=match r with|.ok a h=>.ok a h|.ex _ _=>.aM|.aM=>.aM
noncomputable def lp(l:List V)(d:List (V×V)):Option (List (V×V)):=match l with|[]=>aa d|k::l=>match l with|[]=>ah|v::l=>if eZ d k&&tf k then lp l (gT d k v)else ah
noncomputable def getL(F:List V)(i:Nat):Option V:=F[i]?.bind λv=>if gB v then aa v else ah
noncomputable def jy(a:Nat)(w:V)(h:H):aB PUnit:=match aG h a with|aa b=>if b.length<cM then .ok ⟨⟩ (h.set a (.list (b++[w])))else .aM|ah=>.aM
section
variable(cl:Fn->List V->H->aB V)
noncomputable def De(k:dr)(l:List V)(h:H):aB V:=(cl k.init (.ref h.length::l) (h++[.bw k,.fields []])).bind λv h'=>match v with|.none=>.ok (.ref h.length) h'|_=>.aM
noncomputable def oR(kd:MK)(a:V)(m:Mt)(l:List V)(h:H):aB V:=match kd with|.bw k=>ob (lU k m) λf=>cl f (a::l) h|.list=>ob (gJ a) λi=>ob (aG h i) λx=>G5 m i x l h|.dict=>ob (gJ a) λi=>ob (cN h i) λx=>AU m i x l h
noncomputable def tb(v:V)(h:H):aB Bool:=match truthy h v with|aa b=>.ok b h|ah=>.aM
noncomputable def zz(o:Option Bool)(h:H):aB Bool:=match o with|aa b=>.ok b h|ah=>.aM
noncomputable def kC(o:Option V)(h:H):aB V:=match o with|aa v=>.ok v h|ah=>.aM
noncomputable def s9(o:Option Bool)(h:H):aB V:=match o with|aa v=>.ok (.bool v) h|ah=>.aM
mutual
noncomputable def ax : CE → List V → H → aB V
  | .aM, _, _ => .aM
  | .af i, F, h => kC (getL F i) h
  | .nil, _, h => .ok .none h
  | .tt, _, h => .ok (.bool aj) h
  | .ff, _, h => .ok (.bool au) h
  | .J i, _, h => .ok (.int i) h
  | .str s, _, h => .ok (.str s) h
  | .gl g, _, h => .ok g.val h
  | .aN op a b, F, h => (ax a F h).bind fun x h => (ax b F h).bind fun y h => jW op x y h
  | .bn a, F, h => (ax a F h).bind fun x h => match x with | .int i => .ok (.int (-i)) h | _ => .aM
  | .bZ a, F, h => (ax a F h).bind fun x h => (tb x h).bind fun b h => .ok (.bool (!b)) h
  | .bo isAnd l, F, h => lx isAnd l F h
  | .ao op a b, F, h => (ax a F h).bind fun x h => (ax b F h).bind fun y h => s9 (dE op h x y) h
  | .mX o1 o2 a b c, F, h => (ax a F h).bind fun x h => (ax b F h).bind fun y h => (zz (dE o1 h x y) h).bind fun t h => if t then (ax c F h).bind fun z h => s9 (dE o2 h y z) h else .ok (.bool au) h
  | .gV c a b, F, h => (ax c F h).bind fun x h => (tb x h).bind fun t h => if t then ax a F h else ax b F h
  | .M a n, F, h => (ax a F h).bind fun x h => kC (iX h x n) h
  | .Y a k, F, h => (ax a F h).bind fun x h => (ax k F h).bind fun y h => kC (dy h x y) h
  | .lh a hi, F, h => (ax a F h).bind fun x h => (ax hi F h).bind fun y h => rK x y h
  | .oY a lo hi, F, h => (ax a F h).bind fun x h => (ax lo F h).bind fun y h => (ax hi F h).bind fun z h => wJ x y z h
  | .aW l, F, h => (cY l F h).bind fun vs h => .ok (.ref h.length) (h ++ [.list vs])
  | .Z l, F, h => (cY l F h).bind fun vs h => .ok (.Z vs) h
  | .bF l, F, h => (cY l F h).bind fun vs h => match lp vs [] with
    | aa d => .ok (.ref h.length) (h ++ [.dict d])
    | ah => .aM
  | .call f l, F, h => (ax f F h).bind fun g h => match g with
    | .fn f => (cY l F h).bind fun vs h => cl f vs h
    | _ => .aM
  | .new k l, F, h => (cY l F h).bind fun vs h => De cl k vs h
  | .bi b l, F, h => (cY l F h).bind fun vs h => lu b vs h
  | .bH a m l, F, h => (ax a F h).bind fun x h => match mR h m x with
    | aa kd => (cY l F h).bind fun vs h => oR cl kd x m vs h
    | ah => .aM
  | .lc e i it, F, h => (ax it F h).bind fun x h => match oC x with
    | aa its => (pK (xN (fun v h' => (ax e (F.set i v) h').bind fun w h' => jy h.length w h') its (h ++ [.list []]))).bind fun _ h' => .ok (.ref h.length) h'
    | ah => .aM
  | .o4 e i n, F, h => (ax n F h).bind fun x h => match x with
    | .int n => if small n then (pK (vw (fun v h' => (ax e (F.set i v) h').bind fun w h' => jy h.length w h') (jQ n) (h ++ [.list []]))).bind fun _ h' => .ok (.ref h.length) h' else .aM
    | _ => .aM
noncomputable def cY : List CE → List V → H → aB (List V)
  | [], _, h => .ok [] h
  | e :: l, F, h => (ax e F h).bind fun v h => (cY l F h).bind fun vs h => .ok (v :: vs) h
noncomputable def lx (isAnd : Bool) : List CE → List V → H → aB V
  | [], _, _ => .aM
  | e :: l, F, h => (ax e F h).bind fun v h => match l with
    | [] => .ok v h
    | _ :: _ => (tb v h).bind fun b h => if b == isAnd then lx isAnd l F h else .ok v h
end
end
set_option genCtorIdx true in inductive RS where|nx(F:List V)(h:H)|rt(v:V)(h:H)|ex(x:X)(F:List V)(h:H)|aM
noncomputable def aB.on{b:Type}(r:aB b)(F:List V)(k:b->H->RS):RS:=match r with|.ok a h=>k a h|.ex x h=>.ex x F h|.aM=>.aM
noncomputable def RS.bh(r:RS)(k:List V->H->RS):RS:=match r with|.nx F h=>k F h|r=>r
noncomputable def r7(F:List V)(a:List Nat)(vs:List V):Option (List V):=match a with|[]=>if vs.isEmpty then aa F else ah|i::a=>match vs with|[]=>ah|v::vs=>r7 (F.set i v) a vs
noncomputable def nQ(F:List V):Option H->RS|aa h=>.nx F h|ah=>.aM
noncomputable def l6(f:V->List V->H->RS):List V->List V->H->RS|[],F,h=>.nx F h|v::l,F,h=>match f v F h with|.nx F h=>l6 f l F h|.rt v h=>.rt v h|_=>.aM
noncomputable def qE(f:V->List V->H->RS)(i:Nat):Nat->Nat->List V->H->RS|0,_,_,_=>.aM|n+1,k,F,h=>match aG h i with|ah=>.aM|aa l=>match l[k]? with|ah=>.nx F h|aa v=>match f v F h with|.nx F h=>qE f i n (k+1) F h|.rt v h=>.rt v h|_=>.aM
noncomputable def za(f:V->List V->H->RS)(it:sA)(F:List V)(h:H):RS:=match it with|.e9 l=>l6 f l F h|.aW i=>match aG h i with|aa l=>qE f i (l.length+1) 0 F h|ah=>.aM
noncomputable def q5(c:List V->H->aB Bool)(b:List V->H->RS):Nat->List V->H->RS|0,_,_=>.aM|n+1,F,h=>(c F h).on F λt h=>if t then(b F h).bh λF h=>q5 c b n F h else .nx F h
noncomputable def Bq:Nat:=4096
noncomputable def pt(x:X)(F:List V)(h:H):List (X×HB)->RS|[]=>.aM|(y,a)::r=>if x=y then(match a with|.ju=>.rt .none h|.qg i=>(match getL F i with|aa v=>.rt v h|ah=>.aM)|.qT i=>.nx (F.set i .none) h)else pt x F h r
section
variable(cl:Fn->List V->H->aB V)
noncomputable def jh(e:CE)(F:List V)(h:H):aB Bool:=(ax cl e F h).bind tb
mutual
noncomputable def fE : CS → List V → H → RS
  | .aM, _, _ => .aM
  | .D i e, F, h => (ax cl e F h).on F fun v h => .nx (F.set i v) h
  | .gK is e, F, h => (ax cl e F h).on F fun v h => match v with
    | .Z vs => match r7 F is vs with | aa F => .nx F h | ah => .aM
    | _ => .aM
  | .cH a n e, F, h => (ax cl e F h).on F fun v h => (ax cl a F h).on F fun x h => nQ F (l5 h x n v)
  | .cQ a k e, F, h => (ax cl e F h).on F fun v h => (ax cl a F h).on F fun x h => (ax cl k F h).on F fun y h => nQ F (jk h x y v)
  | .fs i op e, F, h => (ax cl (.af i) F h).on F fun x h => (ax cl e F h).on F fun y h => (jZ op x y h).on F fun v h => .nx (F.set i v) h
  | .l7 a n op e, F, h => (ax cl a F h).on F fun x h => (kC (iX h x n) h).on F fun o h => (ax cl e F h).on F fun y h => (jZ op o y h).on F fun v h => nQ F (l5 h x n v)
  | .pX a k op e, F, h => (ax cl a F h).on F fun x h => (ax cl k F h).on F fun z h => (kC (dy h x z) h).on F fun o h => (ax cl e F h).on F fun y h =>
    (jZ op o y h).on F fun v h => nQ F (jk h x z v)
  | .cO e, F, h => (ax cl e F h).on F fun _ h => .nx F h
  | .ifs c t e, F, h => (jh cl c F h).on F fun b h => if b then aV t F h else aV e F h
  | .lz c b, F, h => q5 (fun F h => jh cl c F h) (fun F h => aV b F h) Bq F h
  | .fr i it b, F, h => (ax cl it F h).on F fun x h => match oC x with
    | aa its => za (fun v F h => aV b (F.set i v) h) its F h
    | ah => .aM
  | .fP i n b, F, h => (ax cl n F h).on F fun x h => match x with
    | .int n => if small n then l6 (fun v F h => aV b (F.set i v) h) (jQ n) F h else .aM
    | _ => .aM
  | .lg i n b, F, h => (ax cl n F h).on F fun x h => match x with
    | .int n => if small n then l6 (fun v F h => aV b (F.set i v) h) (qM n) F h else .aM
    | _ => .aM
  | .ret e, F, h => (ax cl e F h).on F fun v h => .rt v h
  | .ju, _, h => .rt .none h
  | .iJ, F, h => .ex .aF F h
  | .pr e, F, h => (ax cl e F h).on F fun _ h => .ex .ir F h
  | .tr b hs, F, h => match aV b F h with
    | .ex x F h => pt x F h hs
    | r => r
  | .o8 i, F, h => .nx (F.set i (.fn .c6)) h
noncomputable def aV : List CS → List V → H → RS
  | [], F, h => .nx F h
  | s :: l, F, h => (fE s F h).bh fun F h => aV l F h
end
noncomputable def eC:RS->aB V|.nx _ h=>.ok .none h|.rt v h=>.ok v h|.ex x _ h=>.ex x h|.aM=>.aM
end
noncomputable def KH:List CS:=[(.D 2 (.aN .mM (.J 1) (.aN .sub (.af 1) (.J 1)))),(.ifs (.bo au [(.ao .lt (.af 0) (.bn (.af 2))),(.ao .ge (.af 0) (.af 2))]) [.iJ] []),(.ret (.af 0))]
noncomputable def Nh:List CS:=[(.ret (.call (.gl (.fn .vx)) [(.aN .add (.af 0) (.af 1)),(.af 2)]))]
noncomputable def HL:List CS:=[(.ret (.call (.gl (.fn .vx)) [(.aN .sub (.af 0) (.af 1)),(.af 2)]))]
noncomputable def H9:List CS:=[(.ret (.call (.gl (.fn .vx)) [(.aN .mul (.af 0) (.af 1)),(.af 2)]))]
noncomputable def Io:List CS:=[(.D 2 (.aN .fdiv (.bi .qL [(.af 0)]) (.bi .qL [(.af 1)]))),(.ret (.gV (.ao .eq (.ao .lt (.af 0) (.J 0)) (.ao .lt (.af 1) (.J 0))) (.af 2) (.bn (.af 2))))]
noncomputable def IZ:List CS:=[(.ifs (.ao .eq (.af 1) (.J 0)) [.iJ] []),(.ret (.call (.gl (.fn .vx)) [(.call (.gl (.fn .Hi)) [(.af 0),(.af 1)]),(.af 2)]))]
noncomputable def Nq:List CS:=[(.ifs (.ao .eq (.af 0) (.af 1)) [(.ret (.J 0))] []),(.ret (.gV (.ao .lt (.af 0) (.af 1)) (.bn (.J 1)) (.J 1)))]
noncomputable def DF:List CS:=[(.ifs (.ao .eq (.af 0) (.str .EW)) [(.ret (.ao .eq (.af 1) (.J 0)))] []),(.ifs (.ao .eq (.af 0) (.str .Vf)) [(.ret (.ao .ne (.af 1) (.J 0)))] []),(.ifs (.ao .eq (.af 0) (.str .D5)) [(.ret (.ao .lt (.af 1) (.J 0)))] []),(.ifs (.ao .eq (.af 0) (.str .ZK)) [(.ret (.ao .le (.af 1) (.J 0)))] []),(.ifs (.ao .eq (.af 0) (.str .Zh)) [(.ret (.ao .gt (.af 1) (.J 0)))] []),(.ifs (.ao .eq (.af 0) (.str .Fy)) [(.ret (.ao .ge (.af 1) (.J 0)))] []),.iJ]
noncomputable def Ch:List CS:=[(.ifs (.ao .eq (.af 0) (.str .EF)) [(.ret (.call (.gl (.fn .KZ)) [(.af 2),(.af 3),(.M (.af 4) .pW)]))] []),(.ifs (.ao .eq (.af 0) (.str .CT)) [(.ret (.call (.gl (.fn .MP)) [(.af 2),(.af 3),(.M (.af 4) .pW)]))] []),(.ifs (.ao .eq (.af 0) (.str .Ey)) [(.ret (.call (.gl (.fn .Lm)) [(.af 2),(.af 3),(.M (.af 4) .pW)]))] []),(.ifs (.ao .eq (.af 0) (.str .EJ)) [(.ret (.call (.gl (.fn .Hl)) [(.af 2),(.af 3),(.M (.af 4) .pW)]))] []),(.ifs (.bo au [(.ao .eq (.af 0) (.str .Ua)),(.ao .eq (.af 0) (.str .Pc))]) [(.ret .aM)] []),(.ret (.call (.gl (.fn .HI)) [(.af 0),(.call (.gl (.fn .Nu)) [(.af 2),(.af 3)])]))]
noncomputable def RT:List CS:=[(.ifs (.ao .eq (.af 0) (.gl .uQ)) [(.ret (.J 0))] []),(.ifs (.bo au [(.ao .eq (.af 0) (.gl .uN)),(.ao .eq (.af 0) (.gl .vi))]) [(.ret (.J 2))] []),(.ret (.J 1))]
noncomputable def Vi:List CS:=[(.ifs (.bo aj [(.ao .eq (.af 0) (.str .nK)),(.ao .eq (.af 1) (.gl .xB))]) [(.ret (.bZ (.af 2)))] []),(.ifs (.bo aj [(.ao .eq (.af 0) (.str .nG)),(.ao .eq (.af 1) (.gl .ku))]) [(.ret (.call (.gl (.fn .vx)) [(.bn (.af 2)),(.M (.af 3) .pW)]))] []),(.ifs (.bo aj [(.ao .eq (.af 0) (.str .nG)),(.bo au [(.ao .eq (.af 1) (.gl .ue)),(.ao .eq (.af 1) (.gl .uN))])]) [(.ret .aM)] []),(.ifs (.bo aj [(.ao .eq (.af 0) (.str .nG)),(.ao .eq (.af 1) (.gl .vi))]) [(.ret .aM)] []),.iJ]
noncomputable def Fl:List CS:=[(.D 4 (.Y (.af 2) (.J 0))),(.ifs (.bo au [(.ao .eq (.af 4) (.str .iP)),(.ao .eq (.af 4) (.str .gZ))]) [(.ifs (.ao .lS (.Y (.af 2) (.J 3)) (.af 0)) [.iJ] []),(.ret (.call (.Y (.af 0) (.Y (.af 2) (.J 3))) [(.Y (.af 2) (.J 2)),(.Y (.af 2) (.J 3)),(.Y (.af 3) (.J 0)),(.Y (.af 3) (.J 1)),(.af 1)]))] []),(.ifs (.ao .eq (.af 4) (.str .e8)) [(.ret (.call (.gl (.fn .Dk)) [(.Y (.af 2) (.J 2)),(.Y (.af 2) (.J 3)),(.Y (.af 3) (.J 0)),(.af 1)]))] []),(.ifs (.ao .eq (.af 4) (.str .o3)) [(.ret .aM)] []),(.ifs (.ao .eq (.af 4) (.str .o7)) [(.ret (.aN .add (.Y (.af 3) (.J 0)) (.Y (.af 3) (.J 1))))] []),(.ret .aM)]
noncomputable def Z2:List CS:=[(.cH (.af 0) .tL (.af 1)),(.cH (.af 0) .rR (.af 2)),(.cH (.af 0) .Av (.af 3)),(.cH (.af 0) .A9 (.af 4)),(.cH (.af 0) .lT (.bF [])),(.cH (.af 0) .ur (.bF [])),(.cH (.af 0) .Bw (.bF [])),(.cH (.af 0) .AS (.gl (.fn .qy))),(.cH (.af 0) .zn .nil),(.cH (.af 0) .yU .nil),(.cH (.af 0) .zt (.bF [])),(.cH (.af 0) .zR (.bF [])),(.cH (.af 0) .As (.bF [])),(.cH (.af 0) .Bv (.bF [])),(.cH (.af 0) .zk (.aW [])),(.cH (.af 0) .Aq (.aW [])),(.cH (.af 0) .nW (.J 0))]
noncomputable def X8:List CS:=[(.cH (.af 0) .xq (.af 1)),(.cH (.af 0) .uc (.af 2)),(.cH (.af 0) .C (.aN .mul (.aW [.nil]) (.M (.af 1) .C))),(.cH (.af 0) .zL (.bF [])),(.cH (.af 0) .zV (.aW []))]
noncomputable def R0:List CS:=[(.D 3 (.af 2)),(.D 4 (.M (.M (.af 1) .xq) .lT)),(.lz (.ao .lt (.af 3) (.bi .dL [(.af 4)])) [(.l7 (.af 0) .nW .add (.J 1)),(.ifs (.ao .gt (.M (.af 0) .nW) (.M (.M (.af 0) .rR) .nW)) [(.pr (.M (.M (.af 0) .rR) .nW))] []),(.D 5 (.Y (.af 4) (.af 3))),(.ifs (.ao .lS (.Y (.af 5) (.J 0)) (.M (.af 0) .lT)) [.aM] []),(.D 6 (.call (.Y (.M (.af 0) .lT) (.Y (.af 5) (.J 0))) [(.af 0),(.af 1),(.af 5)])),(.ifs (.ao .qA (.af 6) .nil) [(.fs 3 .add (.J 1))] [(.ifs (.bi .iV [(.af 6)]) [(.ret (.Y (.af 6) (.J 1)))] [(.D 3 (.af 6))])])]),.aM]
noncomputable def Sm:List CS:=[(.cH (.af 0) .lT (.af 1)),(.cH (.af 0) .C (.af 2)),(.cH (.af 0) .xj (.af 3)),(.cH (.af 0) .xx (.af 4))]
noncomputable def VA:List CS:=[(.cH (.af 0) .pW (.af 1)),(.cH (.af 0) .Hu (.af 2)),(.cH (.af 0) .HK (.af 3)),(.cH (.af 0) .GU (.af 4)),(.cH (.af 0) .nW (.af 5)),(.cH (.af 0) .Lo (.af 6)),(.cH (.af 0) .H3 (.af 7)),(.cH (.af 0) .GY (.af 8))]
noncomputable def Va:List CS:=[(.D 1 (.aW [])),(.D 2 (.Y (.gl .qu) (.Y (.af 0) (.J 0)))),(.fP 3 (.bi .dL [(.af 2)]) [(.D 4 (.Y (.af 0) (.aN .add (.af 3) (.J 1)))),(.ifs (.bo au [(.ao .eq (.Y (.af 2) (.af 3)) (.str .jO)),(.bo aj [(.ao .eq (.Y (.af 2) (.af 3)) (.str .nu)),(.ao .ge (.af 4) (.J 0))])]) [(.cO (.bH (.af 1) .fF [(.af 4)]))] [(.ifs (.ao .eq (.Y (.af 2) (.af 3)) (.str .qV)) [(.fs 1 .add (.af 4))] [(.ifs (.ao .eq (.Y (.af 2) (.af 3)) (.str .Ee)) [(.fs 1 .add .aM)] [(.ifs (.ao .eq (.Y (.af 2) (.af 3)) (.str .tD)) [(.fs 1 .add (.Y (.af 4) (.J 0)))] [])])])])]),(.ret (.af 1))]
noncomputable def Ld:List CS:=[(.ifs (.ao .f9 (.lh (.Y (.gl .qu) (.Y (.af 0) (.J 0))) (.J 1)) (.Z [(.str .lK),(.str .FV)])) [(.ret (.Y (.af 0) (.J 1)))] []),(.ret (.bn (.J 1)))]
noncomputable def JQ:List CS:=[(.D 1 (.aW [])),(.D 2 (.Y (.gl .qu) (.Y (.af 0) (.J 0)))),(.fP 3 (.bi .dL [(.af 2)]) [(.D 4 (.Y (.af 0) (.aN .add (.af 3) (.J 1)))),(.ifs (.ao .eq (.Y (.af 2) (.af 3)) (.str .lq)) [(.cO (.bH (.af 1) .fF [(.af 4)]))] [(.ifs (.ao .eq (.Y (.af 2) (.af 3)) (.str .u3)) [(.fs 1 .add (.af 4))] [(.ifs (.ao .eq (.Y (.af 2) (.af 3)) (.str .qf)) [(.fs 1 .add (.lc (.Y (.af 5) (.J 1)) 5 (.af 4)))] [(.ifs (.ao .eq (.Y (.af 2) (.af 3)) (.str .tD)) [(.fs 1 .add (.Y (.af 4) (.J 1)))] [])])])])]),(.ret (.af 1))]
noncomputable def Mp:List CS:=[(.ret (.ao .lS (.Y (.af 0) (.J 0)) (.gl .u6)))]
noncomputable def y6:List CS:=[(.D 2 (.Y (.gl .qu) (.Y (.af 0) (.J 0)))),(.D 3 (.aW [(.Y (.af 0) (.J 0))])),(.D 4 (.J 0)),(.fP 5 (.bi .dL [(.af 2)]) [(.D 6 (.Y (.af 0) (.aN .add (.af 5) (.J 1)))),(.ifs (.ao .eq (.Y (.af 2) (.af 5)) (.str .lq)) [(.D 6 (.Y (.af 1) (.af 4))),(.fs 4 .add (.J 1))] [(.ifs (.ao .eq (.Y (.af 2) (.af 5)) (.str .u3)) [(.D 6 (.oY (.af 1) (.af 4) (.aN .add (.af 4) (.bi .dL [(.af 6)])))),(.fs 4 .add (.bi .dL [(.af 6)]))] [(.ifs (.ao .eq (.Y (.af 2) (.af 5)) (.str .qf)) [(.D 6 (.o4 (.Z [(.Y (.Y (.af 6) (.af 7)) (.J 0)),(.Y (.af 1) (.aN .add (.af 4) (.af 7)))]) 7 (.bi .dL [(.af 6)]))),(.fs 4 .add (.bi .dL [(.af 6)]))] [(.ifs (.ao .eq (.Y (.af 2) (.af 5)) (.str .tD)) [(.D 6 (.Z [(.Y (.af 6) (.J 0)),(.oY (.af 1) (.af 4) (.aN .add (.af 4) (.bi .dL [(.Y (.af 6) (.J 1))]))),(.Y (.af 6) (.J 2))])),(.fs 4 .add (.bi .dL [(.Y (.af 6) (.J 1))]))] [])])])]),(.cO (.bH (.af 3) .fF [(.af 6)]))]),(.ret (.bi .nh [(.af 3)]))]
noncomputable def qU:List CS:=[(.ifs (.bo au [(.ao .eq (.af 0) (.str .jO)),(.ao .eq (.af 0) (.str .nu))]) [(.ret (.bH (.af 2) .gY [(.af 1),(.af 1)]))] []),(.ifs (.ao .eq (.af 0) (.str .qV)) [(.ret (.lc (.bH (.af 2) .gY [(.af 3),(.af 3)]) 3 (.af 1)))] []),(.ifs (.ao .eq (.af 0) (.str .Ee)) [(.ret (.lc (.gV (.bi .iV [(.af 3)]) (.af 3) (.bH (.af 2) .gY [(.af 3),(.af 3)])) 3 (.af 1)))] []),(.ifs (.ao .eq (.af 0) (.str .tD)) [(.ret (.Z [(.lc (.bH (.af 2) .gY [(.af 3),(.af 3)]) 3 (.Y (.af 1) (.J 0))),(.Y (.af 1) (.J 1)),(.Y (.af 1) (.J 2))]))] []),(.ret (.af 1))]
noncomputable def Q3:List CS:=[(.D 2 (.Y (.gl .qu) (.Y (.af 0) (.J 0)))),(.D 3 (.aW [(.Y (.af 0) (.J 0))])),(.fP 4 (.bi .dL [(.af 2)]) [(.cO (.bH (.af 3) .fF [(.call (.gl (.fn .Cj)) [(.Y (.af 2) (.af 4)),(.Y (.af 0) (.aN .add (.af 4) (.J 1))),(.af 1)])]))]),(.ret (.bi .nh [(.af 3)]))]
noncomputable def Qc:List CS:=[(.D 2 (.aN .mul (.aW [.ff]) (.aN .add (.bi .dL [(.af 0)]) (.J 1)))),(.fr 3 (.af 1) [(.cQ (.af 2) (.af 3) .tt)]),(.fP 4 (.bi .dL [(.af 0)]) [(.D 5 (.call (.gl (.fn .q6)) [(.Y (.af 0) (.af 4))])),(.fr 6 (.af 5) [(.cQ (.af 2) (.af 6) .tt)]),(.ifs (.bo au [(.af 5),(.bZ (.call (.gl (.fn .Dp)) [(.Y (.af 0) (.af 4))]))]) [(.cQ (.af 2) (.aN .add (.af 4) (.J 1)) .tt)] [])]),(.ret (.af 2))]
noncomputable def S8:List CS:=[(.D 2 (.bi .qp [(.call (.gl (.fn .q6)) [(.Y (.af 0) (.af 1))])])),(.ifs (.call (.gl (.fn .Dp)) [(.Y (.af 0) (.af 1))]) [(.cO (.bH (.af 2) .fF [(.aN .add (.af 1) (.J 1))]))] []),(.ret (.af 2))]
noncomputable def UM:List CS:=[(.D 1 (.af 0)),(.ifs (.bi .iV [(.af 0)]) [(.D 1 (.Y (.af 0) (.J 0)))] []),(.ifs (.ao .eq (.af 1) (.J 0)) [(.ret (.J 0))] []),(.ret (.gV (.ao .gt (.af 1) (.J 0)) (.J 1) (.bn (.J 1))))]
noncomputable def Sa:List CS:=[(.D 2 (.aN .mul (.aW [.ff]) (.bi .dL [(.af 0)]))),(.D 3 (.bi .qp [(.af 1)])),(.lz (.af 3) [(.D 4 (.bH (.af 3) .jX [])),(.ifs (.bo aj [(.ao .lt (.af 4) (.bi .dL [(.af 0)])),(.bZ (.Y (.af 2) (.af 4)))]) [(.cQ (.af 2) (.af 4) .tt),(.cO (.bH (.af 3) .nk [(.call (.gl (.fn .CO)) [(.af 0),(.af 4)])]))] [])]),(.ret (.af 2))]
noncomputable def aaX:List CS:=[(.D 1 (.J 0)),(.fr 2 (.af 0) [(.fs 1 .lf (.aN .mM (.J 1) (.af 2)))]),(.ret (.af 1))]
noncomputable def Kx:List CS:=[(.D 1 (.aN .mul (.aW [(.J 0)]) (.aN .add (.bi .dL [(.af 0)]) (.J 1)))),(.D 2 .tt),(.lz (.af 2) [(.D 2 .ff),(.lg 3 (.aN .sub (.bi .dL [(.af 0)]) (.J 1)) [(.D 4 (.call (.gl (.fn .yQ)) [(.af 0),(.af 1),(.af 3)])),(.D 5 (.call (.gl (.fn .tu)) [(.Y (.af 0) (.af 3))])),(.ifs (.bo aj [(.ao .ge (.af 5) (.J 0)),(.aN .nv (.aN .qK (.af 4) (.af 5)) (.J 1))]) [(.fs 4 .sub (.aN .mM (.J 1) (.af 5)))] []),(.D 6 (.aN .lf (.af 4) (.call (.gl (.fn .My)) [(.call (.gl (.fn .ug)) [(.Y (.af 0) (.af 3))])]))),(.ifs (.ao .ne (.af 6) (.Y (.af 1) (.af 3))) [(.cQ (.af 1) (.af 3) (.af 6)),(.D 2 .tt)] [])])]),(.ret (.af 1))]
noncomputable def Zj:List CS:=[(.D 3 (.J 0)),(.fr 4 (.call (.gl (.fn .CO)) [(.af 0),(.af 2)]) [(.fs 3 .lf (.Y (.af 1) (.af 4)))]),(.ret (.af 3))]
noncomputable def Xw:List CS:=[(.cQ (.M (.af 1) .C) (.Y (.af 2) (.J 1)) (.Y (.af 2) (.J 3)))]
noncomputable def XY:List CS:=[(.cQ (.M (.af 1) .C) (.Y (.af 2) (.J 1)) (.Y (.M (.af 1) .C) (.Y (.af 2) (.J 2))))]
noncomputable def P5:List CS:=[(.D 3 (.aW [(.Y (.M (.af 1) .C) (.Y (.af 2) (.J 4))),(.Y (.M (.af 1) .C) (.Y (.af 2) (.J 5)))])),(.cQ (.M (.af 1) .C) (.Y (.af 2) (.J 1)) (.call (.gl (.fn .zf)) [(.M (.af 0) .ur),(.M (.af 0) .rR),(.af 2),(.af 3)]))]
noncomputable def TO:List CS:=[(.cQ (.M (.af 1) .C) (.Y (.af 2) (.J 1)) (.call (.gl (.fn .zf)) [(.M (.af 0) .ur),(.M (.af 0) .rR),(.af 2),(.aW [(.Y (.M (.af 1) .C) (.Y (.af 2) (.J 4)))])]))]
noncomputable def Nl:List CS:=[(.D 3 (.bH (.M (.af 1) .uc) .gY [(.Y (.af 2) (.J 2))])),(.ifs (.bZ (.bi .iV [(.af 3)])) [.iJ] []),(.cQ (.M (.af 1) .C) (.Y (.af 2) (.J 1)) (.af 3))]
noncomputable def aaP:List CS:=[(.cQ (.M (.af 1) .C) (.Y (.af 2) (.J 1)) (.bH (.M (.af 0) .tL) .uR [(.Y (.M (.af 1) .C) (.Y (.af 2) (.J 2)))]))]
noncomputable def P9:List CS:=[(.cO (.bH (.M (.af 0) .tL) .qw [(.Y (.M (.af 1) .C) (.Y (.af 2) (.J 1))),(.Y (.M (.af 1) .C) (.Y (.af 2) (.J 2)))]))]
noncomputable def PS:List CS:=[(.ret .nil)]
noncomputable def Sb:List CS:=[(.ret (.Y (.af 2) (.J 1)))]
noncomputable def Wx:List CS:=[(.ret (.gV (.Y (.M (.af 1) .C) (.Y (.af 2) (.J 1))) (.Y (.af 2) (.J 2)) .nil))]
noncomputable def Ug:List CS:=[(.ret (.gV (.Y (.M (.af 1) .C) (.Y (.af 2) (.J 1))) .nil (.Y (.af 2) (.J 2))))]
noncomputable def Uw:List CS:=[(.ret (.Y (.af 2) (.aN .add (.J 3) (.call (.gl (.fn .Cf)) [(.Y (.M (.af 1) .C) (.Y (.af 2) (.J 1)))]))))]
noncomputable def U2:List CS:=[(.D 3 (.Y (.M (.af 1) .C) (.Y (.af 2) (.J 1)))),(.ret (.gV (.mX .le .le (.J 1) (.af 3) (.bi .dL [(.Y (.af 2) (.J 2))])) (.Y (.Y (.af 2) (.J 2)) (.aN .sub (.af 3) (.J 1))) .nil))]
noncomputable def O3:List CS:=[(.ret (.Z [(.str .hY),(.gV (.ao .ge (.Y (.af 2) (.J 1)) (.J 0)) (.Y (.M (.af 1) .C) (.Y (.af 2) (.J 1))) (.J 0))]))]
noncomputable def Pw:List CS:=[(.cH (.af 0) .pI (.aN .mul (.aW [.nil]) (.af 1))),(.cH (.af 0) .s5 (.aN .mul (.aW [.nil]) (.af 2)))]
noncomputable def TV:List CS:=[(.ifs (.ao .eq (.Y (.af 1) (.J 0)) (.gl .uQ)) [(.ret .aM)] []),(.ret (.call (.gl (.fn .Xv)) [(.M (.af 0) .pI),(.Y (.af 1) (.J 0)),(.Y (.af 1) (.J 1))]))]
noncomputable def UV:List CS:=[(.ifs (.ao .eq (.Y (.af 1) (.J 0)) (.gl .uQ)) [(.cO .aM)] [(.cO (.call (.gl (.fn .ZS)) [(.M (.af 0) .pI),(.Y (.af 1) (.J 0)),(.Y (.af 1) (.J 1)),(.af 2)]))])]
noncomputable def XA:List CS:=[(.ifs (.bo au [(.ao .lt (.af 1) (.J 0)),(.ao .gt (.aN .add (.af 1) (.af 2)) (.bi .dL [(.af 0)]))]) [.iJ] [])]
noncomputable def Zy:List CS:=[(.D 3 (.Y (.af 0) (.af 1))),(.ifs (.bo au [(.ao .qA (.af 3) .nil),(.ao .ne (.Y (.af 3) (.J 0)) (.af 2))]) [.iJ] []),(.ret (.Y (.af 3) (.J 1)))]
noncomputable def Tp:List CS:=[(.cO (.call (.gl (.fn .Bb)) [(.af 0),(.af 2),(.call (.gl (.fn .CJ)) [(.af 1)])])),(.ifs (.ao .eq (.af 1) (.gl .vi)) [(.ret (.Z [(.call (.gl (.fn .wO)) [(.af 0),(.af 2),(.gl .ue)]),(.call (.gl (.fn .wO)) [(.af 0),(.aN .add (.af 2) (.J 1)),(.gl .ue)])]))] []),(.D 3 (.call (.gl (.fn .wO)) [(.af 0),(.af 2),(.af 1)])),(.ifs (.ao .eq (.af 1) (.gl .uN)) [(.cO (.call (.gl (.fn .wO)) [(.af 0),(.aN .add (.af 2) (.J 1)),(.gl .Bx)]))] []),(.ret (.af 3))]
noncomputable def Su:List CS:=[(.cO (.call (.gl (.fn .Bb)) [(.af 0),(.af 2),(.call (.gl (.fn .CJ)) [(.af 1)])])),(.ifs (.ao .eq (.af 1) (.gl .vi)) [(.cQ (.af 0) (.af 2) (.Z [(.gl .ue),(.Y (.af 3) (.J 0))])),(.cQ (.af 0) (.aN .add (.af 2) (.J 1)) (.Z [(.gl .ue),(.Y (.af 3) (.J 1))])),.ju] []),(.cQ (.af 0) (.af 2) (.Z [(.af 1),(.af 3)])),(.ifs (.ao .eq (.af 1) (.gl .uN)) [(.cQ (.af 0) (.aN .add (.af 2) (.J 1)) (.Z [(.gl .Bx),(.af 3)]))] [])]
noncomputable def ya:List CS:=[(.D 1 (.Y (.af 0) (.J 0))),(.ifs (.bo au [(.ao .eq (.af 1) (.str .iP)),(.ao .eq (.af 1) (.str .e8))]) [(.ret (.Y (.af 0) (.J 3)))] []),(.ifs (.ao .eq (.af 1) (.str .o3)) [(.ret (.Y (.af 0) (.J 2)))] []),(.ifs (.ao .eq (.af 1) (.str .gZ)) [(.ret (.gl .xB))] []),(.ret (.gV (.ao .eq (.af 1) (.str .o7)) (.gl .uQ) (.gl .ku)))]
noncomputable def tE:List CS:=[(.D 2 (.Y (.af 0) (.J 0))),(.ifs (.bo au [(.ao .eq (.af 2) (.str .iG)),(.ao .eq (.af 2) (.str .i6))]) [(.ret (.gV (.ao .eq (.af 1) (.ao .eq (.af 2) (.str .iG))) (.Z [(.str .fG),(.Y (.af 0) (.J 2))]) (.gl .km)))] []),(.ifs (.ao .eq (.af 2) (.str .kz)) [(.ret (.Z [(.str .fG),(.Y (.af 0) (.aN .add (.J 3) (.call (.gl (.fn .Cf)) [(.af 1)])))]))] []),(.ifs (.mX .le .le (.J 1) (.af 1) (.bi .dL [(.Y (.af 0) (.J 2))])) [(.ret (.Z [(.str .fG),(.Y (.Y (.af 0) (.J 2)) (.aN .sub (.af 1) (.J 1)))]))] []),(.ret (.gl .km))]
noncomputable def Nv:List CS:=[(.D 3 (.Y (.af 0) (.J 0))),(.ifs (.bo aj [(.ao .eq (.af 3) (.str .gE)),(.ao .f9 (.Y (.af 0) (.J 2)) (.af 1))]) [(.ret (.Z [(.str .fZ),(.Y (.af 0) (.J 1)),(.Y (.Y (.af 1) (.Y (.af 0) (.J 2))) (.J 0)),(.Y (.Y (.af 1) (.Y (.af 0) (.J 2))) (.J 1))]))] []),(.ifs (.bo aj [(.ao .f9 (.af 3) (.Z [(.str .iG),(.str .i6),(.str .kz),(.str .ji)])),(.ao .f9 (.Y (.af 0) (.J 1)) (.af 1))]) [(.ret (.call (.gl (.fn .yS)) [(.af 0),(.Y (.Y (.af 1) (.Y (.af 0) (.J 1))) (.J 1))]))] []),(.ifs (.ao .lS (.af 3) (.gl .vj)) [(.ret (.af 0))] []),(.D 4 (.aW [])),(.fr 5 (.call (.gl (.fn .ug)) [(.af 0)]) [(.ifs (.ao .lS (.af 5) (.af 1)) [(.ret (.af 0))] []),(.cO (.bH (.af 4) .fF [(.Y (.Y (.af 1) (.af 5)) (.J 1))]))]),(.tr [(.D 6 (.call (.af 2) [(.af 0),(.af 4)]))] [(.aF,(.qg 0))]),(.ret (.Z [(.str .fZ),(.call (.gl (.fn .tu)) [(.af 0)]),(.call (.gl (.fn .Lq)) [(.af 0)]),(.af 6)]))]
noncomputable def Uu:List CS:=[(.D 3 (.call (.gl (.fn .DL)) [(.af 0),(.af 1)])),(.D 4 (.bF [])),(.D 5 (.aW [])),(.fP 6 (.bi .dL [(.af 0)]) [(.ifs (.Y (.af 3) (.af 6)) [(.D 4 (.bF []))] []),(.D 7 (.call (.gl (.fn .FB)) [(.Y (.af 0) (.af 6)),(.af 4),(.af 2)])),(.D 8 (.call (.gl (.fn .tu)) [(.af 7)])),(.ifs (.ao .eq (.Y (.af 7) (.J 0)) (.str .fZ)) [(.cQ (.af 4) (.af 8) (.Z [(.Y (.af 7) (.J 2)),(.Y (.af 7) (.J 3))]))] [(.ifs (.ao .f9 (.af 8) (.af 4)) [(.cO (.bH (.af 4) .jX [(.af 8)]))] [])]),(.cO (.bH (.af 5) .fF [(.af 7)]))]),(.ret (.af 5))]
noncomputable def uJ:List CS:=[(.ret (.bo au [(.ao .f9 (.Y (.af 0) (.J 0)) (.gl .u8)),(.bo aj [(.ao .eq (.Y (.af 0) (.J 0)) (.str .e8)),(.ao .eq (.Y (.af 0) (.J 2)) (.str .nK))])]))]
noncomputable def Ii:List CS:=[(.D 2 (.call (.gl (.fn .zx)) [(.af 0),(.af 1)])),(.D 3 (.call (.gl (.fn .Lv)) [(.af 0)])),(.D 4 (.aW [])),(.fP 5 (.bi .dL [(.af 0)]) [(.D 6 (.Y (.af 0) (.af 5))),(.D 7 (.call (.gl (.fn .tu)) [(.af 6)])),(.ifs (.bZ (.Y (.af 2) (.af 5))) [(.D 6 (.gl .km))] [(.ifs (.bo aj [(.ao .eq (.Y (.af 6) (.J 0)) (.str .gE)),(.ao .eq (.Y (.af 6) (.J 1)) (.Y (.af 6) (.J 2)))]) [(.D 6 (.gl .km))] [(.ifs (.bo aj [(.call (.gl (.fn .EE)) [(.af 6)]),(.bZ (.aN .nv (.aN .qK (.call (.gl (.fn .yQ)) [(.af 0),(.af 3),(.af 5)]) (.af 7)) (.J 1)))]) [(.D 6 (.gl .km))] [])])]),(.cO (.bH (.af 4) .fF [(.af 6)]))]),(.ret (.af 4))]
noncomputable def Zk:List CS:=[(.D 2 (.af 1)),(.fP 3 (.bi .dL [(.af 0)]) [(.ifs (.bo aj [(.ao .lt (.af 2) (.bi .dL [(.af 0)])),(.ao .eq (.Y (.Y (.af 0) (.af 2)) (.J 0)) (.str .k7))]) [(.fs 2 .add (.J 1))] [(.ifs (.bo aj [(.ao .lt (.af 2) (.bi .dL [(.af 0)])),(.ao .eq (.Y (.Y (.af 0) (.af 2)) (.J 0)) (.str .fG))]) [(.D 2 (.Y (.Y (.af 0) (.af 2)) (.J 1)))] [(.ret (.af 2))])])]),(.ret (.af 1))]
noncomputable def Q7:List CS:=[(.D 1 (.aW [])),(.fP 2 (.bi .dL [(.af 0)]) [(.D 3 (.call (.gl (.fn .BN)) [(.Y (.af 0) (.af 2)),(.lc (.call (.gl (.fn .yj)) [(.af 0),(.af 4)]) 4 (.call (.gl (.fn .q6)) [(.Y (.af 0) (.af 2))]))])),(.ifs (.bo aj [(.ao .f9 (.Y (.af 3) (.J 0)) (.Z [(.str .fG),(.str .iG),(.str .i6)])),(.ao .eq (.Y (.call (.gl (.fn .q6)) [(.af 3)]) (.J 0)) (.call (.gl (.fn .yj)) [(.af 0),(.aN .add (.af 2) (.J 1))]))]) [(.ifs (.bo au [(.ao .ne (.call (.gl (.fn .yj)) [(.af 0),(.af 2)]) (.af 2)),(.ao .ne (.Y (.af 3) (.J 0)) (.str .fG))]) [(.D 3 (.gl .km))] [])] []),(.cO (.bH (.af 1) .fF [(.af 3)]))]),(.ret (.af 1))]
noncomputable def XD:List CS:=[(.D 2 (.aW [])),(.D 3 (.aW [])),(.fr 4 (.af 0) [(.cO (.bH (.af 2) .fF [(.bi .dL [(.af 3)])])),(.ifs (.ao .ne (.Y (.af 4) (.J 0)) (.str .k7)) [(.cO (.bH (.af 3) .fF [(.af 4)]))] [])]),(.D 5 (.lc (.call (.gl (.fn .BN)) [(.af 4),(.lc (.Y (.af 2) (.af 6)) 6 (.call (.gl (.fn .q6)) [(.af 4)]))]) 4 (.af 3))),(.ret (.Z [(.af 5),(.lc (.Y (.af 2) (.af 7)) 7 (.af 1))]))]
noncomputable def TR:List CS:=[(.D 1 (.Y (.af 0) (.J 0))),(.ifs (.ao .f9 (.af 1) (.Z [(.str .fZ),(.str .iP),(.str .gZ),(.str .o3)])) [(.ret (.Z [(.Y (.af 0) (.J 2)),(.Y (.af 0) (.J 3))]))] []),(.ifs (.ao .eq (.af 1) (.str .e8)) [(.ret (.Z [(.Y (.af 0) (.J 2)),(.Y (.af 0) (.J 3))]))] []),(.ifs (.ao .eq (.af 1) (.str .A8)) [(.ret (.Z [(.Y (.af 0) (.J 2)),(.bi .nh [(.Y (.af 0) (.J 3))])]))] []),(.ifs (.ao .eq (.af 1) (.str .z9)) [(.ret (.Z [(.ao .lt (.Y (.af 0) (.J 3)) (.J 0)),(.ao .lt (.Y (.af 0) (.J 4)) (.J 0))]))] []),(.ret (.gV (.ao .f9 (.af 1) (.Z [(.str .jS),(.str .rU)])) (.Y (.af 0) (.J 2)) .nil))]
noncomputable def Q8:List CS:=[(.cH (.af 0) .iW (.bF [])),(.cH (.af 0) .nR (.bF [])),(.cH (.af 0) .pB (.bF [])),(.cH (.af 0) .pv (.J 0)),(.cH (.af 0) .oj (.J 0))]
noncomputable def SP:List CS:=[(.l7 (.af 0) .pv .add (.J 1)),(.ret (.M (.af 0) .pv))]
noncomputable def Sw:List CS:=[(.ifs (.ao .lS (.af 1) (.M (.af 0) .iW)) [(.cQ (.M (.af 0) .iW) (.af 1) (.bH (.af 0) .rS [])),(.cQ (.M (.af 0) .nR) (.Y (.M (.af 0) .iW) (.af 1)) (.af 1))] []),(.ret (.Y (.M (.af 0) .iW) (.af 1)))]
noncomputable def aaJ:List CS:=[(.D 2 (.bH (.af 0) .qP [(.af 1)])),(.D 3 (.bH (.M (.af 0) .nR) .gY [(.af 2),(.af 1)])),(.ifs (.ao .ne (.bH (.M (.af 0) .iW) .gY [(.af 3)]) (.af 2)) [(.D 3 (.af 1)),(.cQ (.M (.af 0) .nR) (.af 2) (.af 1))] []),(.ret (.af 3))]
noncomputable def US:List CS:=[(.D 2 (.lc (.bH (.af 1) .qP [(.af 3)]) 3 (.call (.gl (.fn .ug)) [(.af 0)]))),(.D 4 (.gV (.ao .eq (.Y (.af 0) (.J 0)) (.str .mu)) (.M (.af 1) .oj) (.J 0))),(.ret (.Z [(.Y (.af 0) (.J 0)),(.call (.gl (.fn .xv)) [(.af 0)]),(.bi .nh [(.af 2)]),(.af 4)]))]
noncomputable def r8:List CS:=[(.D 2 (.call (.gl (.fn .tu)) [(.af 0)])),(.ifs (.ao .f9 (.Y (.af 0) (.J 0)) (.gl .vg)) [(.l7 (.af 1) .oj .add (.J 1))] []),(.ifs (.ao .lt (.af 2) (.J 0)) [(.ret (.af 0))] []),(.ifs (.ao .eq (.Y (.af 0) (.J 0)) (.str .gE)) [(.cQ (.M (.af 1) .iW) (.af 2) (.bH (.af 1) .qP [(.Y (.af 0) (.J 2))])),(.ret (.af 0))] []),(.ifs (.ao .lS (.Y (.af 0) (.J 0)) (.gl .u2)) [(.cQ (.M (.af 1) .iW) (.af 2) (.bH (.af 1) .rS [])),(.cQ (.M (.af 1) .nR) (.Y (.M (.af 1) .iW) (.af 2)) (.af 2)),(.ret (.af 0))] []),(.D 3 (.call (.gl (.fn .Ig)) [(.af 0),(.af 1)])),(.ifs (.ao .f9 (.af 3) (.M (.af 1) .pB)) [(.gK [4,5] (.Y (.M (.af 1) .pB) (.af 3))),(.ifs (.ao .eq (.bH (.M (.af 1) .iW) .gY [(.af 4)]) (.af 5)) [(.cQ (.M (.af 1) .iW) (.af 2) (.af 5)),(.ret (.Z [(.str .gE),(.af 2),(.af 4)]))] [])] []),(.D 5 (.bH (.af 1) .rS [])),(.cQ (.M (.af 1) .iW) (.af 2) (.af 5)),(.cQ (.M (.af 1) .nR) (.af 5) (.af 2)),(.cQ (.M (.af 1) .pB) (.af 3) (.Z [(.af 2),(.af 5)])),(.ret (.af 0))]
noncomputable def VM:List CS:=[(.D 2 (.call (.gl (.fn .DL)) [(.af 0),(.af 1)])),(.D 3 (.new .jV [])),(.D 4 (.aW [])),(.fP 5 (.bi .dL [(.af 0)]) [(.ifs (.Y (.af 2) (.af 5)) [(.D 3 (.new .jV []))] []),(.D 6 (.bF [])),(.fr 7 (.call (.gl (.fn .ug)) [(.Y (.af 0) (.af 5))]) [(.cQ (.af 6) (.af 7) (.bH (.af 3) .ta [(.af 7)]))]),(.cO (.bH (.af 4) .fF [(.call (.gl (.fn .Fa)) [(.call (.gl (.fn .FN)) [(.Y (.af 0) (.af 5)),(.af 6)]),(.af 3)])]))]),(.ret (.af 4))]
noncomputable def WS:List CS:=[(.ret (.call (.gl (.fn .zf)) [(.bF [(.gl .ku),(.gl (.fn .ou))]),(.new .jP [(.J 8)]),(.af 0),(.af 1)]))]
noncomputable def Pz:List CS:=[(.pX (.af 0) (.str .jn) .add (.J 1)),(.ret (.aN .fY (.Y (.Y (.af 0) (.str .kg)) (.aN .sub (.Y (.af 0) (.str .jn)) (.J 1))) (.af 1)))]
noncomputable def UI:List CS:=[(.gK [2,3,4,5] (.Z [(.call (.gl (.fn .qX)) [(.af 0),(.J 12)]),(.call (.gl (.fn .qX)) [(.af 0),(.J 3)]),(.call (.gl (.fn .qX)) [(.af 0),(.J 3)]),(.call (.gl (.fn .qX)) [(.af 0),(.J 12)])])),(.ifs (.ao .eq (.af 2) (.J 0)) [(.ret (.Z [(.str .fZ),(.af 3),(.gl .ku),(.aN .sub (.af 5) (.J 5))]))] []),(.ifs (.ao .eq (.af 2) (.J 1)) [(.ret (.Z [(.str .gE),(.af 3),(.af 4)]))] []),(.ifs (.ao .eq (.af 2) (.J 2)) [(.ret (.Z [(.str .iP),(.af 3),(.Y (.aW [(.str .EF),(.str .CT),(.str .Ey),(.str .EJ)]) (.aN .fY (.af 5) (.J 4))),(.gl .ku),(.af 4),(.aN .fdiv (.af 5) (.J 4))]))] []),(.ifs (.ao .eq (.af 2) (.J 3)) [(.ret (.Z [(.str .gZ),(.J 3),(.Y (.aW [(.str .D5),(.str .EW),(.str .Fy)]) (.aN .fY (.af 5) (.J 3))),(.gl .ku),(.af 4),(.aN .fdiv (.af 5) (.J 4))]))] []),(.ifs (.ao .eq (.af 2) (.J 4)) [(.ret (.Z [(.str .jS),(.aN .add (.J 4) (.aN .fY (.af 3) (.J 2))),(.Y (.str .Hk) (.aN .fY (.af 5) (.J 4)))]))] []),(.ifs (.ao .eq (.af 2) (.J 5)) [(.ret (.Z [(.str .mu),(.af 3),(.aN .add (.J 4) (.aN .fY (.af 4) (.J 2)))]))] []),(.ifs (.ao .eq (.af 2) (.J 6)) [(.ret (.Z [(.str .pU),(.aN .add (.J 4) (.aN .fY (.af 3) (.J 2))),(.af 4)]))] []),(.ifs (.ao .eq (.af 2) (.J 7)) [(.ret (.Z [(.Y (.aW [(.str .iG),(.str .i6)]) (.aN .fY (.af 5) (.J 2))),(.J 3),(.aN .fY (.aN .add (.af 5) (.af 4)) (.af 1))]))] []),(.ifs (.bo aj [(.ao .eq (.af 2) (.J 8)),(.ao .eq (.af 4) (.J 0))]) [(.ret (.Z [(.str .kz),(.af 3),(.aN .fY (.af 5) (.af 1)),(.aN .fY (.aN .add (.af 5) (.J 1)) (.af 1)),(.aN .fY (.aN .add (.af 5) (.J 2)) (.af 1))]))] []),(.ifs (.ao .eq (.af 2) (.J 8)) [(.ret (.Z [(.str .ji),(.af 3),(.lh (.aW [(.aN .fY (.af 5) (.af 1)),(.aN .fY (.aN .add (.af 5) (.J 1)) (.af 1))]) (.af 4))]))] []),(.ifs (.ao .eq (.af 2) (.J 9)) [(.ret (.Z [(.str .fG),(.aN .fY (.af 5) (.af 1))]))] []),(.ifs (.ao .eq (.af 2) (.J 10)) [(.ret (.Z [(.str .hY),(.gV (.ao .gt (.af 4) (.J 0)) (.af 3) (.bn (.J 1)))]))] []),(.ret (.gV (.ao .eq (.af 4) (.J 0)) (.Z [(.str .e8),(.J 3),(.str .nK),(.gl .xB),(.J 3)]) (.Z [(.str .e8),(.af 3),(.str .nG),(.gl .ku),(.aN .fdiv (.af 5) (.J 4))])))]
noncomputable def OT:List CS:=[(.o8 3),(.ifs (.ao .eq (.af 0) (.J 0)) [(.ret (.Z [(.call (.gl (.fn .zQ)) [(.af 1),(.af 2),(.af 3)]),(.af 2)]))] []),(.ifs (.ao .eq (.af 0) (.J 1)) [(.ret (.Z [(.call (.gl (.fn .zC)) [(.af 1),(.af 2)]),(.af 2)]))] []),(.ifs (.ao .eq (.af 0) (.J 2)) [(.ret (.Z [(.call (.gl (.fn .K7)) [(.af 1),(.af 2)]),(.af 2)]))] []),(.ifs (.ao .eq (.af 0) (.J 3)) [(.ret (.Z [(.call (.gl (.fn .Ic)) [(.af 1)]),(.af 2)]))] []),(.ret (.call (.gl (.fn .Jj)) [(.af 1),(.af 2)]))]
noncomputable def rN:List CS:=[(.D 3 (.new .jU [(.J 3),(.J 0)])),(.D 4 (.aW [(.Z [(.gl .ku),(.J 0),(.J 0),(.Z [])]),(.Z [(.gl .ku),(.J 1),(.J 0),(.Z [])]),(.Z [(.gl .ku),(.J 2),(.J 0),(.Z [])])])),(.cO (.bH (.af 3) .qw [(.Y (.af 4) (.J 0)),(.J 5)])),(.cO (.bH (.af 3) .qw [(.Y (.af 4) (.J 1)),(.bn (.J 4))])),(.D 5 (.new .qe [(.af 3),(.new .jP [(.J 8),(.J 7),(.J 15),(.J 38),(.af 2)]),(.bF []),(.bF [])])),(.cH (.af 5) .ur (.bF [(.gl .ku),(.gl (.fn .ou))])),(.cH (.af 5) .lT (.bF [(.str .fZ),(.gl (.fn .yc)),(.str .gE),(.gl (.fn .Au)),(.str .iP),(.gl (.fn .qO)),(.str .gZ),(.gl (.fn .qO)),(.str .e8),(.gl (.fn .uV)),(.str .jS),(.gl (.fn .wC)),(.str .mu),(.gl (.fn .y8)),(.str .pU),(.gl (.fn .AR)),(.str .k7),(.gl (.fn .Aj)),(.str .fG),(.gl (.fn .zA)),(.str .iG),(.gl (.fn .yZ)),(.str .i6),(.gl (.fn .Be)),(.str .kz),(.gl (.fn .AX)),(.str .ji),(.gl (.fn .BK)),(.str .hY),(.gl (.fn .y5))])),(.D 6 (.new .qq [(.new .oS [(.af 0),(.J 6),(.bF []),(.bF [])]),(.bF [(.str .qf),(.Y (.af 4) (.J 0)),(.str .vn),(.Y (.af 4) (.J 1)),(.str .qV),(.Y (.af 4) (.J 2))])])),(.cH (.af 6) .C (.aW [(.J 2),(.bn (.J 3)),(.J 4),.ff,(.Y (.af 4) (.J 0)),(.Y (.af 4) (.J 1))])),(.tr [(.D 7 (.call (.gl (.fn .Eu)) [(.af 5),(.af 6),(.af 1)]))] [(.aF,(.qT 7)),(.ir,.ju)]),(.ret (.Z [(.M (.af 3) .pI),(.af 7)]))]
noncomputable def Ap:List CS:=[(.D 1 (.bF [(.str .kg),(.aN .add (.lh (.af 0) (.J 28)) (.gl .tv)),(.str .jn),(.J 0)])),(.gK [2,3] (.Z [(.aN .add (.J 5) (.call (.gl (.fn .qX)) [(.af 1),(.J 3)])),(.call (.gl (.fn .qX)) [(.af 1),(.J 2)])])),(.gK [4,5] (.Z [(.call (.gl (.fn .qX)) [(.af 1),(.J 5)]),(.call (.gl (.fn .qX)) [(.af 1),(.J 5)])])),(.D 6 (.aN .add (.o4 (.call (.gl (.fn .yX)) [(.af 1),(.af 2)]) 7 (.aN .sub (.af 2) (.J 1))) (.aW [(.Z [(.str .hY),(.J 0)])]))),(.D 8 (.call (.gl (.fn .tA)) [(.af 6),(.af 3),(.J 24)])),(.ifs (.ao .qA (.af 8) .nil) [(.ret .tt)] []),(.fr 9 (.Z [(.Z [(.af 4),(.af 5)]),(.Z [(.af 5),(.af 4)])]) [(.gK [11,12] (.Z [(.af 6),(.aW [(.af 3)])])),(.fr 10 (.af 9) [(.gK [11,12] (.call (.gl (.fn .j9)) [(.af 10),(.af 11),(.af 12)]))]),(.ifs (.ao .ne (.call (.gl (.fn .tA)) [(.af 11),(.Y (.af 12) (.J 0)),(.J 300)]) (.af 8)) [(.ret .ff)] [])]),(.ret .tt)]
noncomputable def Fn.Xp:List (List CS):=[KH,Nh,HL,H9,Io,IZ,Nq,DF,Ch,RT,Vi,Fl,Z2,X8,R0,Sm,VA,Va,Ld,JQ,Mp,y6,qU,Q3,Qc,S8,UM,Sa,aaX,Kx,Zj,Xw,XY,P5,TO,Nl,aaP,P9,PS,Sb,Wx,Ug,Uw,U2,O3,Pw,TV,UV,XA,Zy,Tp,Su,ya,tE,Nv,Uu,uJ,Ii,Zk,Q7,XD,TR,Q8,SP,Sw,aaJ,US,r8,VM,WS,Pz,UI,OT,rN,Ap,[.aM]]
noncomputable def Fn.body(f:Fn):List CS:=Fn.Xp.getD f.n []
noncomputable def Fn.WA:List Nat:=[2,3,3,3,2,3,2,2,5,1,4,4,5,3,3,5,9,1,1,1,1,2,3,2,2,2,1,2,1,1,3,3,3,3,3,3,3,3,3,3,3,3,3,3,3,3,2,3,3,3,3,4,1,2,3,3,1,2,2,1,2,1,1,1,2,2,2,2,2,2,2,2,3,3,1,4]
noncomputable def Fn.np(f:Fn):Nat:=Fn.WA.getD f.n 0
noncomputable def Fn.Ve:List Nat:=[3,3,3,3,3,3,2,2,5,1,4,5,5,3,7,5,9,6,1,6,1,8,4,5,7,3,2,5,3,7,5,3,3,4,3,4,3,3,3,3,3,3,3,4,3,3,2,3,3,4,4,4,2,3,7,9,1,8,4,5,8,2,1,1,2,4,5,6,8,2,2,6,4,8,13,4]
noncomputable def Fn.nl(f:Fn):Nat:=Fn.Ve.getD f.n 0
noncomputable def Fn.pM(f:Fn):List V:=if f=.kP then[.int 32,.int 7,.int 15,.int 38,.int 1000000,.int 19,.int 72,.int 40]else[]
noncomputable def Fn.VB:List (List String):=[["n","width","most"],["x","y","width"],["x","y","width"],["x","y","width"],["x","y","found"],["x","y","width"],["x","y"],["op","order"],["op","kind","x","y","limits"],["kind"],["op","kind","x","limits"],["operations","limits","op","values","word"],["self","memory","limits","codes","frames"],["self","code","frame"],["machine","call","start","at","ops","op","found"],["self","ops","registers","entries","formats"],["self","width","real_digits","double_digits","top_exponent","steps","continuations","columns","depth"],["op","found","shape","at","part","one"],["op"],["op","found","shape","at","part","pair"],["op"],["op","ats","shape","parts","used","at","part","k"],["role","part","mapping","one"],["op","mapping","shape","parts","at"],["ops","starts","begins","start","at","goals","goal"],["ops","at","found"],["value","top"],["ops","starts","marks","line","at"],["registers","mask","register"],["ops","live","is_new","at","behind","made","mask"],["ops","live","at","mask","goal"],["machine","call","op"],["machine","call","op"],["machine","call","op","values"],["machine","call","op"],["machine","call","op","found"],["machine","call","op"],["machine","call","op"],["machine","call","op"],["machine","call","op"],["machine","call","op"],["machine","call","op"],["machine","call","op"],["machine","call","op","number"],["machine","call","op"],["self","numeric","characters"],["self","place"],["self","place","value"],["cells","address","count"],["cells","address","tag","cell"],["cells","kind","address","value"],["cells","kind","address","value"],["op","word"],["op","value","word"],["op","known","compute","word","values","register","value"],["ops","starts","compute","begins","known","out","at","op","made"],["op"],["ops","starts","marks","live","out","at","op","made"],["ops","at","here","turn"],["ops","out","at","op","goal"],["ops","starts","places","kept","op","out","goal","start"],["op","word"],["self"],["self"],["self","register"],["self","register","number","there"],["op","numbers","reads","register","writes"],["op","numbers","made","key","holder","number"],["ops","starts","begins","numbers","out","at","mapping","register"],["op","values"],["tin","many"],["tin","size","way","a","b","c"],["way","ops","starts","deed"],["ops","start","steps","memory","spots","machine","call","back"],["script","tin","size","start","one","other","ops","turn","due","ways","way","later","starts"],[]]
noncomputable def Fn.Te(f:Fn):List String:=Fn.VB.getD f.n []
noncomputable def pF(f:Fn)(l:List V):Option (List V):=let a:=l++(f.pM).drop ((f.pM).length+l.length-f.np);if l.length<=f.np/\a.length=f.np/\(f.pM.length=0\/l.length=2\/l.length=6)then aa (a++eL (f.nl-f.np) .U)else ah
noncomputable def aF:Nat->Fn->List V->H->aB V|0,_,_,_=>.aM|n+1,f,l,h=>match pF f l with|aa F=>eC (aV (aF n) f.body F h)|ah=>.aM
theorem oA{a b:Prop}{r:Prop}(h:a/\b)(k:a->b->r):r:=k h.1 h.2
theorem oE{A:Sort _}{b:A->Prop}{r:Prop}(h:∃a,b a)(k:∀a,b a->r):r:=h.elim λa h=>k a h
theorem dT{a b c:Prop}{r:Prop}(h:a/\b/\c)(k:a->b->c->r):r:=oA h.2 (k h.1)
theorem ay{A:Sort _}{b c:A->Prop}{r:Prop}(h:∃a,b a/\c a)(k:∀a,b a->c a->r):r:=h.elim λa h=>oA h (k a)
theorem xS{A B:Sort _}{c:A->B->Prop}{r:Prop}(h:∃a b,c a b)(k:∀a b,c a b->r):r:=h.elim λa h=>oE h (k a)
theorem iT{a b c d:Prop}{r:Prop}(h:a/\b/\c/\d)(k:a->b->c->d->r):r:=dT h.2 (k h.1)
theorem pO{A:Sort _}{b c:Prop}{d:A->Prop}{r:Prop}(h:b/\c/\∃a,d a)(k:b->c->∀a,d a->r):r:=h.2.2.elim λf e=>k h.1 h.2.1 f e
theorem zw{A:Sort _}{b:Prop}{c d:A->Prop}{r:Prop}(h:b/\∃a,c a/\d a)(k:b->∀a,c a->d a->r):r:=ay h.2 (k h.1)
theorem cu{A:Sort _}{b c d:A->Prop}{r:Prop}(h:∃a,b a/\c a/\d a)(k:∀a,b a->c a->d a->r):r:=h.elim λa h=>dT h (k a)
theorem ZY{A B:Sort _}{d:A->Prop}{e:A->B->Prop}{r:Prop}(h:∃a,d a/\∃b,e a b)(k:∀a,d a->∀b,e a b->r):r:=h.elim λg c=>c.2.elim λi f=>k g c.1 i f
theorem gw{A B:Sort _}{c d:A->B->Prop}{r:Prop}(h:∃a b,c a b/\d a b)(k:∀a b,c a b->d a b->r):r:=h.elim λa h=>ay h (k a)
theorem YH{A B C:Sort _}{d:A->B->C->Prop}{r:Prop}(h:∃a b c,d a b c)(k:∀a b c,d a b c->r):r:=h.elim λa h=>xS h (k a)
theorem Do{a b c d e:Prop}{r:Prop}(h:a/\b/\c/\d/\e)(k:a->b->c->d->e->r):r:=iT h.2 (k h.1)
theorem O4{A:Sort _}{b c:Prop}{d e:A->Prop}{r:Prop}(h:b/\c/\∃a,d a/\e a)(k:b->c->∀a,d a->e a->r):r:=zw h.2 (k h.1)
theorem sB{A:Sort _}{b c d e:A->Prop}{r:Prop}(h:∃a,b a/\c a/\d a/\e a)(k:∀a,b a->c a->d a->e a->r):r:=h.elim λa h=>iT h (k a)
theorem cG{A B:Sort _}{c d e:A->B->Prop}{r:Prop}(h:∃a b,c a b/\d a b/\e a b)(k:∀a b,c a b->d a b->e a b->r):r:=h.elim λa h=>cu h (k a)
theorem gM{A B C:Sort _}{d e:A->B->C->Prop}{r:Prop}(h:∃a b c,d a b c/\e a b c)(k:∀a b c,d a b c->e a b c->r):r:=h.elim λa h=>gw h (k a)
theorem Uz{A B C D:Sort _}{e:A->B->C->D->Prop}{r:Prop}(h:∃a b c d,e a b c d)(k:∀a b c d,e a b c d->r):r:=h.elim λa h=>YH h (k a)
theorem JI{A B:Sort _}{c:Prop}{d e f:A->B->Prop}{r:Prop}(h:c/\∃a b,d a b/\e a b/\f a b)(k:c->∀a b,d a b->e a b->f a b->r):r:=cG h.2 (k h.1)
theorem uP{A:Sort _}{b c d e f:A->Prop}{r:Prop}(h:∃a,b a/\c a/\d a/\e a/\f a)(k:∀a,b a->c a->d a->e a->f a->r):r:=h.elim λa h=>Do h (k a)
theorem tT{A B:Sort _}{c d e f:A->B->Prop}{r:Prop}(h:∃a b,c a b/\d a b/\e a b/\f a b)(k:∀a b,c a b->d a b->e a b->f a b->r):r:=h.elim λa h=>sB h (k a)
theorem fW{A B C:Sort _}{d e f:A->B->C->Prop}{r:Prop}(h:∃a b c,d a b c/\e a b c/\f a b c)(k:∀a b c,d a b c->e a b c->f a b c->r):r:=h.elim λa h=>cG h (k a)
theorem xm{A B C D:Sort _}{e f:A->B->C->D->Prop}{r:Prop}(h:∃a b c d,e a b c d/\f a b c d)(k:∀a b c d,e a b c d->f a b c d->r):r:=h.elim λa h=>gM h (k a)
theorem xJ{A:Sort _}{c d e f g i:A->Prop}{r:Prop}(h:∃a,c a/\d a/\e a/\f a/\g a/\i a)(k:∀a,c a->d a->e a->f a->g a->i a->r):r:=h.elim λj b=>k j b.1 b.2.1 b.2.2.1 b.2.2.2.1 b.2.2.2.2.1 b.2.2.2.2.2
theorem iF{A B:Sort _}{c d e f g:A->B->Prop}{r:Prop}(h:∃a b,c a b/\d a b/\e a b/\f a b/\g a b)(k:∀a b,c a b->d a b->e a b->f a b->g a b->r):r:=h.elim λa h=>uP h (k a)
theorem oW{A B C:Sort _}{d e f g:A->B->C->Prop}{r:Prop}(h:∃a b c,d a b c/\e a b c/\f a b c/\g a b c)(k:∀a b c,d a b c->e a b c->f a b c->g a b c->r):r:=h.elim λa h=>tT h (k a)
theorem Yc{A B C D:Sort _}{e f g:A->B->C->D->Prop}{r:Prop}(h:∃a b c d,e a b c d/\f a b c d/\g a b c d)(k:∀a b c d,e a b c d->f a b c d->g a b c d->r):r:=h.elim λa h=>fW h (k a)
theorem Jr{A B:Sort _}{c:Prop}{d e f g i:A->B->Prop}{r:Prop}(h:c/\∃a b,d a b/\e a b/\f a b/\g a b/\i a b)(k:c->∀a b,d a b->e a b->f a b->g a b->i a b->r):r:=iF h.2 (k h.1)
theorem X6{A:Sort _}{c d e f g i j:A->Prop}{r:Prop}(h:∃a,c a/\d a/\e a/\f a/\g a/\i a/\j a)(k:∀a,c a->d a->e a->f a->g a->i a->j a->r):r:=h.elim λl b=>k l b.1 b.2.1 b.2.2.1 b.2.2.2.1 b.2.2.2.2.1 b.2.2.2.2.2.1 b.2.2.2.2.2.2
theorem No{A B C D E:Sort _}{i:A->Prop}{j l:A->B->C->D->E->Prop}{r:Prop}(h:∃a,i a/\∃b c d e,j a b c d e/\l a b c d e)(k:∀a,i a->∀b c d e,j a b c d e->l a b c d e->r):r:=h.elim λp f=>f.2.elim λq m=>m.elim λs n=>n.elim λt o=>o.elim λu g=>k p f.1 q s t u g.1 g.2
theorem ze{A B:Sort _}{c d e f g i:A->B->Prop}{r:Prop}(h:∃a b,c a b/\d a b/\e a b/\f a b/\g a b/\i a b)(k:∀a b,c a b->d a b->e a b->f a b->g a b->i a b->r):r:=h.elim λa h=>xJ h (k a)
theorem BM{A B C:Sort _}{d e f g i:A->B->C->Prop}{r:Prop}(h:∃a b c,d a b c/\e a b c/\f a b c/\g a b c/\i a b c)(k:∀a b c,d a b c->e a b c->f a b c->g a b c->i a b c->r):r:=h.elim λa h=>iF h (k a)
theorem IT{A B C D:Sort _}{e f g i:A->B->C->D->Prop}{r:Prop}(h:∃a b c d,e a b c d/\f a b c d/\g a b c d/\i a b c d)(k:∀a b c d,e a b c d->f a b c d->g a b c d->i a b c d->r):r:=h.elim λa h=>oW h (k a)
theorem DN{A B:Sort _}{c d e f g i j:A->B->Prop}{r:Prop}(h:∃a b,c a b/\d a b/\e a b/\f a b/\g a b/\i a b/\j a b)(k:∀a b,c a b->d a b->e a b->f a b->g a b->i a b->j a b->r):r:=h.elim λa h=>X6 h (k a)
theorem y9{A B C:Sort _}{d e f g i j:A->B->C->Prop}{r:Prop}(h:∃a b c,d a b c/\e a b c/\f a b c/\g a b c/\i a b c/\j a b c)(k:∀a b c,d a b c->e a b c->f a b c->g a b c->i a b c->j a b c->r):r:=h.elim λa h=>ze h (k a)
theorem Ue{A B C D:Sort _}{e f g i j:A->B->C->D->Prop}{r:Prop}(h:∃a b c d,e a b c d/\f a b c d/\g a b c d/\i a b c d/\j a b c d)(k:∀a b c d,e a b c d->f a b c d->g a b c d->i a b c d->j a b c d->r):r:=h.elim λa h=>BM h (k a)
theorem Fi{A B:Sort _}{d e f g i j l m:A->B->Prop}{r:Prop}(h:∃a b,d a b/\e a b/\f a b/\g a b/\i a b/\j a b/\l a b/\m a b)(k:∀a b,d a b->e a b->f a b->g a b->i a b->j a b->l a b->m a b->r):r:=h.elim λo n=>n.elim λp c=>k o p c.1 c.2.1 c.2.2.1 c.2.2.2.1 c.2.2.2.2.1 c.2.2.2.2.2.1 c.2.2.2.2.2.2.1 c.2.2.2.2.2.2.2
theorem xC{A B C:Sort _}{d e f g i j l:A->B->C->Prop}{r:Prop}(h:∃a b c,d a b c/\e a b c/\f a b c/\g a b c/\i a b c/\j a b c/\l a b c)(k:∀a b c,d a b c->e a b c->f a b c->g a b c->i a b c->j a b c->l a b c->r):r:=h.elim λa h=>DN h (k a)
theorem EY{A B C D:Sort _}{e f g i j l m:A->B->C->D->Prop}{r:Prop}(h:∃a b c d,e a b c d/\f a b c d/\g a b c d/\i a b c d/\j a b c d/\l a b c d/\m a b c d)(k:∀a b c d,e a b c d->f a b c d->g a b c d->i a b c d->j a b c d->l a b c d->m a b c d->r):r:=h.elim λa h=>xC h (k a)
theorem JW{A B C D E:Sort _}{g i j l m n:A->B->C->D->E->Prop}{r:Prop}(h:∃a b c d e,g a b c d e/\i a b c d e/\j a b c d e/\l a b c d e/\m a b c d e/\n a b c d e)(k:∀a b c d e,g a b c d e->i a b c d e->j a b c d e->l a b c d e->m a b c d e->n a b c d e->r):r:=h.elim λt o=>o.elim λu p=>p.elim λv q=>q.elim λw s=>s.elim λx f=>k t u v w x f.1 f.2.1 f.2.2.1 f.2.2.2.1 f.2.2.2.2.1 f.2.2.2.2.2
theorem acJ{A B C:Sort _}{e f g i j l m n o:A->B->C->Prop}{r:Prop}(h:∃a b c,e a b c/\f a b c/\g a b c/\i a b c/\j a b c/\l a b c/\m a b c/\n a b c/\o a b c)(k:∀a b c,e a b c->f a b c->g a b c->i a b c->j a b c->l a b c->m a b c->n a b c->o a b c->r):r:=h.elim λs p=>p.elim λt q=>q.elim λu d=>k s t u d.1 d.2.1 d.2.2.1 d.2.2.2.1 d.2.2.2.2.1 d.2.2.2.2.2.1 d.2.2.2.2.2.2.1 d.2.2.2.2.2.2.2.1 d.2.2.2.2.2.2.2.2
theorem zm{A B C D E F G o p J:Sort _}{m n:A->B->C->D->E->F->G->o->p->J->Prop}{r:Prop}(h:∃a b c d e f g h i j,m a b c d e f g h i j/\n a b c d e f g h i j)(k:∀a b c d e f g h i j,m a b c d e f g h i j->n a b c d e f g h i j->r):r:=h.elim λL q=>q.elim λM s=>s.elim λN t=>t.elim λQ u=>u.elim λR v=>v.elim λU w=>w.elim λW x=>x.elim λY y=>y.elim λZ z=>z.elim λx9 l=>k L M N Q R U W Y Z x9 l.1 l.2
theorem EL{A B C D E F G n o J p:Sort _}{l m:A->B->C->D->E->F->G->n->o->J->p->Prop}{r:Prop}(h:∃a b c d e f g h i j k,l a b c d e f g h i j k/\m a b c d e f g h i j k)(k:∀a b c d e f g h i j k,l a b c d e f g h i j k->m a b c d e f g h i j k->r):r:=h.elim λa h=>zm h (k a)
theorem uT{A B C D E F G n o J p L:Sort _}{m:A->B->C->D->E->F->G->n->o->J->p->L->Prop}{r:Prop}(h:∃a b c d e f g h i j k l,m a b c d e f g h i j k l)(k:∀a b c d e f g h i j k l,m a b c d e f g h i j k l->r):r:=h.elim λR q=>q.elim λU s=>s.elim λZ v=>v.elim λx3 w=>w.elim λx4 x=>x.elim λx5 y=>y.elim λx6 z=>z.elim λx7 M=>M.elim λx8 N=>N.elim λx9 Q=>Q.elim λW t=>t.elim λY u=>k R U Z x3 x4 x5 x6 x7 x8 x9 W Y u
theorem KF{A B C D E F G o p J q L:Sort _}{m n:A->B->C->D->E->F->G->o->p->J->q->L->Prop}{r:Prop}(h:∃a b c d e f g h i j k l,m a b c d e f g h i j k l/\n a b c d e f g h i j k l)(k:∀a b c d e f g h i j k l,m a b c d e f g h i j k l->n a b c d e f g h i j k l->r):r:=h.elim λa h=>EL h (k a)
theorem UK{A B C D E F G s t J u L M N:Sort _}{p q:A->B->C->D->E->F->G->s->t->J->u->L->M->N->Prop}{r:Prop}(h:∃a b c d e f g h i j k l m n,p a b c d e f g h i j k l m n/\q a b c d e f g h i j k l m n)(k:∀a b c d e f g h i j k l m n,p a b c d e f g h i j k l m n->q a b c d e f g h i j k l m n->r):r:=h.elim λx0 v=>v.elim λx1 w=>w.elim λx2 Q=>Q.elim λx3 R=>R.elim λx4 U=>U.elim λx5 W=>W.elim λx6 Y=>Y.elim λx7 Z=>Z.elim λx8 h8=>h8.elim λx9 h9=>h9.elim λx10 x=>x.elim λx11 y=>y.elim λx12 z=>z.elim λx13 o=>k x0 x1 x2 x3 x4 x5 x6 x7 x8 x9 x10 x11 x12 x13 o.1 o.2
theorem Xc{A B C D E F G v w J x L M N:Sort _}{p q s t u:A->B->C->D->E->F->G->v->w->J->x->L->M->N->Prop}{r:Prop}(h:∃a b c d e f g h i j k l m n,p a b c d e f g h i j k l m n/\q a b c d e f g h i j k l m n/\s a b c d e f g h i j k l m n/\t a b c d e f g h i j k l m n/\u a b c d e f g h i j k l m n)(k:∀a b c d e f g h i j k l m n,p a b c d e f g h i j k l m n->q a b c d e f g h i j k l m n->s a b c d e f g h i j k l m n->t a b c d e f g h i j k l m n->u a b c d e f g h i j k l m n->r):r:=h.elim λx0 y=>y.elim λx1 z=>z.elim λx2 W=>W.elim λx3 Y=>Y.elim λx4 Z=>Z.elim λx5 h5=>h5.elim λx6 h6=>h6.elim λx7 h7=>h7.elim λx8 h8=>h8.elim λx9 h9=>h9.elim λx10 Q=>Q.elim λx11 R=>R.elim λx12 U=>U.elim λx13 o=>k x0 x1 x2 x3 x4 x5 x6 x7 x8 x9 x10 x11 x12 x13 o.1 o.2.1 o.2.2.1 o.2.2.2.1 o.2.2.2.2
theorem TL{A B C D E F G w x J y L M N:Sort _}{p q s t u v:A->B->C->D->E->F->G->w->x->J->y->L->M->N->Prop}{r:Prop}(h:∃a b c d e f g h i j k l m n,p a b c d e f g h i j k l m n/\q a b c d e f g h i j k l m n/\s a b c d e f g h i j k l m n/\t a b c d e f g h i j k l m n/\u a b c d e f g h i j k l m n/\v a b c d e f g h i j k l m n)(k:∀a b c d e f g h i j k l m n,p a b c d e f g h i j k l m n->q a b c d e f g h i j k l m n->s a b c d e f g h i j k l m n->t a b c d e f g h i j k l m n->u a b c d e f g h i j k l m n->v a b c d e f g h i j k l m n->r):r:=h.elim λx0 z=>z.elim λx1 Q=>Q.elim λx2 Y=>Y.elim λx3 Z=>Z.elim λx4 h4=>h4.elim λx5 h5=>h5.elim λx6 h6=>h6.elim λx7 h7=>h7.elim λx8 h8=>h8.elim λx9 h9=>h9.elim λx10 R=>R.elim λx11 U=>U.elim λx12 W=>W.elim λx13 o=>k x0 x1 x2 x3 x4 x5 x6 x7 x8 x9 x10 x11 x12 x13 o.1 o.2.1 o.2.2.1 o.2.2.2.1 o.2.2.2.2.1 o.2.2.2.2.2
theorem RY{A B C D E F G z M J N L:Sort _}{n o q s t u v w x y p:A->B->C->D->E->F->G->z->M->J->N->L->Prop}{r:Prop}(h:∃a b c d e f g h i j k l,n a b c d e f g h i j k l/\o a b c d e f g h i j k l/\q a b c d e f g h i j k l/\s a b c d e f g h i j k l/\t a b c d e f g h i j k l/\u a b c d e f g h i j k l/\v a b c d e f g h i j k l/\w a b c d e f g h i j k l/\x a b c d e f g h i j k l/\y a b c d e f g h i j k l/\p a b c d e f g h i j k l)(k:∀a b c d e f g h i j k l,n a b c d e f g h i j k l->o a b c d e f g h i j k l->q a b c d e f g h i j k l->s a b c d e f g h i j k l->t a b c d e f g h i j k l->u a b c d e f g h i j k l->v a b c d e f g h i j k l->w a b c d e f g h i j k l->x a b c d e f g h i j k l->y a b c d e f g h i j k l->p a b c d e f g h i j k l->r):r:=h.elim λx0 Q=>Q.elim λx1 R=>R.elim λx2 W=>W.elim λx3 Y=>Y.elim λx4 Z=>Z.elim λx5 h5=>h5.elim λx6 h6=>h6.elim λx7 h7=>h7.elim λx8 h8=>h8.elim λx9 h9=>h9.elim λx10 U=>U.elim λx11 m=>k x0 x1 x2 x3 x4 x5 x6 x7 x8 x9 x10 x11 m.1 m.2.1 m.2.2.1 m.2.2.2.1 m.2.2.2.2.1 m.2.2.2.2.2.1 m.2.2.2.2.2.2.1 m.2.2.2.2.2.2.2.1 m.2.2.2.2.2.2.2.2.1 m.2.2.2.2.2.2.2.2.2.1 m.2.2.2.2.2.2.2.2.2.2
theorem eA(d:a)(e:b)(f:c):a/\b/\c:=⟨d,e,f⟩
theorem nN(e:a)(f:b)(g:c)(h:d):a/\b/\c/\d:=⟨e,f,g,h⟩
theorem bC{A:Sort _}{b c:A->Prop}(a)(d:b a)(e:c a):∃a,b a/\c a:=⟨a,d,e⟩
theorem d0{A:Sort _}{b c d:A->Prop}(a)(e:b a)(f:c a)(g:d a):∃a,b a/\c a/\d a:=⟨a,e,f,g⟩
theorem Es{A:Sort _}{b c d e:A->Prop}(a)(f:b a)(g:c a)(h:d a)(i:e a):∃a,b a/\c a/\d a/\e a:=⟨a,f,g,h,i⟩
theorem Ak{A B:Sort _}{c:A->B->Prop}(a)(b)(d:c a b):∃a b,c a b:=⟨a,b,d⟩
theorem iM{A B:Sort _}{c d:A->B->Prop}(a)(b)(e:c a b)(f:d a b):∃a b,c a b/\d a b:=⟨a,b,e,f⟩
theorem gv{A B:Sort _}{c d e:A->B->Prop}(a)(b)(f:c a b)(g:d a b)(h:e a b):∃a b,c a b/\d a b/\e a b:=⟨a,b,f,g,h⟩
theorem Ay{A B:Sort _}{c d e f:A->B->Prop}(a)(b)(g:c a b)(h:d a b)(i:e a b)(j:f a b):∃a b,c a b/\d a b/\e a b/\f a b:=⟨a,b,g,h,i,j⟩
theorem A7{A B:Sort _}{c d e f g:A->B->Prop}(a)(b)(h:c a b)(i:d a b)(j:e a b)(k:f a b)(l:g a b):∃a b,c a b/\d a b/\e a b/\f a b/\g a b:=⟨a,b,h,i,j,k,l⟩
theorem Aa{A B:Sort _}{c d e f g h i:A->B->Prop}(a)(b)(j:c a b)(k:d a b)(l:e a b)(m:f a b)(n:g a b)(o:h a b)(p:i a b):∃a b,c a b/\d a b/\e a b/\f a b/\g a b/\h a b/\i a b:=⟨a,b,j,k,l,m,n,o,p⟩
theorem zU{A B C:Sort _}{d e:A->B->Prop}{f g:A->B->C->Prop}(a)(b)(h:d a b)(i:e a b)(c)(j:f a b c)(k:g a b c):∃a b,d a b/\e a b/\∃c,f a b c/\g a b c:=⟨a,b,h,i,c,j,k⟩
theorem tN{A B C:Sort _}{d e f:A->B->C->Prop}(a)(b)(c)(g:d a b c)(h:e a b c)(i:f a b c):∃a b c,d a b c/\e a b c/\f a b c:=⟨a,b,c,g,h,i⟩
theorem zj{A B C:Sort _}{d e f g:A->B->C->Prop}(a)(b)(c)(h:d a b c)(i:e a b c)(j:f a b c)(k:g a b c):∃a b c,d a b c/\e a b c/\f a b c/\g a b c:=⟨a,b,c,h,i,j,k⟩
theorem DC{A B C D:Sort _}{e f g h i:A->B->C->D->Prop}(a)(b)(c)(d)(j:e a b c d)(k:f a b c d)(l:g a b c d)(m:h a b c d)(n:i a b c d):∃a b c d,e a b c d/\f a b c d/\g a b c d/\h a b c d/\i a b c d:=⟨a,b,c,d,j,k,l,m,n⟩
theorem zi(e:fb v=aa i):v=.int i:=by induction v using V.casesOn<;>first|exact congrArg V.int (bU e)|injection e
theorem Vc(e:gJ v=aa i):v=.ref i:=by induction v using V.casesOn<;>first|exact congrArg V.ref (bU e)|injection e
theorem um(e:iy v=aa i):v=.str i:=by induction v using V.casesOn<;>first|exact congrArg V.str (bU e)|injection e
theorem E8(e:jx v=aa i):v=.Z i:=by induction v using V.casesOn<;>first|exact congrArg V.Z (bU e)|injection e
theorem RP(e:AN v=aa i):v=.fl i:=by induction v using V.casesOn<;>first|exact congrArg V.fl (bU e)|injection e
theorem Mw(e:Nw v=aj):v=.fp:=by induction v using V.casesOn<;>first|rfl|injection e
theorem D9(e:tj l=aa v):l=[v]:=by cases l with|nil=>injection e|cons a l=>cases l with|nil=>exact congrArg (λa=>[a]) (bU e)|cons b l=>injection e
theorem fy{c β:Type}{o:Option c}{k:c->Option β}{b:β}{P:Prop}(e:o.bind k=aa b)(f:∀a,o=aa a->k a=aa b->P):P:=by cases o with|none=>injection e|some a=>exact f a rfl e
theorem ifs{β:Type}{c:Prop} [Decidable c]{o:Option β}{b:β}{P:Prop}(e:(if c then o else ah)=aa b)(f:c->o=aa b->P):P:=by
 by_cases h:c;·rw[if_pos h]at e;exact f h e
 ·rw[if_neg h]at e;injection e
theorem O.Sr{o:O}(e:o.aW=aa l):o=.list l:=by induction o<;>first|exact congrArg O.list (bU e)|injection e
theorem O.V8{o:O}(e:o.bF=aa l):o=.dict l:=by induction o<;>first|exact congrArg O.dict (bU e)|injection e
theorem O.QN{o:O}(e:o.C5=aa l):o=.bw l:=by induction o<;>first|exact congrArg O.bw (bU e)|injection e
theorem O.WZ{o:O}(e:o.eG=aa l):o=.fields l:=by induction o<;>first|exact congrArg O.fields (bU e)|injection e
theorem pN{h:H}{i:Nat}{l:List V}(e:aG h i=aa l):h[i]?=aa (.list l):=fy e λ_ q e=>q.trans (congrArg aa (O.Sr e))
theorem jH{h:H}{i:Nat}{l:List (V×V)}(e:cN h i=aa l):h[i]?=aa (.dict l):=fy e λ_ q e=>q.trans (congrArg aa (O.V8 e))
theorem Lr{h:H}{i:Nat}{l:dr}(e:yb h i=aa l):h[i]?=aa (.bw l):=fy e λ_ q e=>q.trans (congrArg aa (O.QN e))
theorem MJ{h:H}{i:Nat}{l:List (At×V)}(e:iu h i=aa l):∃k,h[i]?=aa (.bw k)/\h[i+1]?=aa (.fields l):=fy e λk q e=>⟨k,Lr q,fy e λ_ q e=>q.trans (congrArg aa (O.WZ e))⟩
theorem Cn(e:h[i]?=aa (.list l)):aG h i=aa l:=congrArg (·.bind O.aW) e
theorem Na(e:h[i]?=aa (.dict l)):cN h i=aa l:=congrArg (·.bind O.bF) e
theorem XR(e:h[i]?=aa o)(n:o.aW=ah):aG h i=ah:=(congrArg (·.bind O.aW) e).trans n
theorem vt(e:h[i]?=aa (.bw k))(a:h[i+1]?=aa (.fields l)):iu h i=aa l:=by unfold iu yb;rw[e,a];rfl
theorem rH{β:Type}{b:Bool}{r:aB β}(h:b=aj):gd b r=r:=if_pos h
theorem qY{β:Type}{p:Prop} [Decidable p]{r:aB β}(h:p):gd (aZ p) r=r:=if_pos (decide_eq_true h)
theorem jg{b β:Type}{o:Option b}{a:b}{k:b->aB β}(e:o=aa a):ob o k=k a:=by rw[e];rfl
theorem FM{a:Type}{k:Int}{f:Int->Option a}:(fb (.int k)).bind f=f k:=rfl
theorem Kv(e:cN h i=aa l):aG h i=ah:=XR (jH e) rfl
theorem yY(e:aG h i=aa l):dy h (.ref i) k=(fb k).bind λk=>pT l k:=by show o6 h i k=_;unfold o6;rw[e]
theorem AJ(e:cN h i=aa l)(f:eZ l (kk k)=aj)(g:eH l (kk k)=aa v):dy h (.ref i) k=aa v:=by show o6 h i k=_;unfold o6;rw[Kv e,e];exact(if_pos f).trans g
theorem E7(e:cN h i=aa l)(f:eZ l (kk k)=aj)(a:l.length<1000):jk h (.ref i) k v=aa (h.set i (.dict (gT l (kk k) v))):=by show(match aG h i with|aa l=>(fb k).bind λk=>_|ah=>(cN h i).bind _)=_;rw[Kv e,e];exact if_pos (by rw[f,decide_eq_true (show l.length<cM from a)];rfl)
theorem EG(e:h[i]?=aa (.bw k))(a:h[i+1]?=aa (.fields l))(f:(lU k m).isSome=aj):mR h m (.ref i)=aa (.bw k):=by show(h[i]?.bind λo=>zG h m i o)=_;rw[e];show((h[i+1]?.bind O.eG).bind λz=>_)=_;rw[a];exact if_pos f
theorem yR(e:iu h i=aa l)(g:qZ l n=aa v):iX h (.ref i) n=aa v:=by show((iu h i).bind λl=>qZ l n)=_;rw[e];exact g
theorem pz{b:Type}{o:Option b}{p:b->Bool}{P:Prop}(e:o.any p=aj)(f:∀a,o=aa a->p a=aj->P):P:=by cases o with|none=>injection e|some a=>exact f a rfl e
theorem KI(e:JC v=aj):v=.none:=by induction v using V.casesOn<;>first|rfl|injection e
theorem RO{F:List V}{i:Nat}{v:V}{P:Prop}(e:getL F i=aa v)(f:F[i]?=aa v->gB v=aj->P):P:=by unfold getL at e;exact fy e λw q e=>ifs e λp e=>f (bU e▸q) (bU e▸p)
noncomputable def CS.sub(s:CS):List CS:=match s with|.lz _ b=>b|.fr _ _ b=>b|.fP _ _ b=>b|.lg _ _ b=>b|.ifs _ t _=>t|.tr b _=>b|_=>[]
noncomputable def yg(l:List CS)(i:Nat):List CS:=(l.getD i .aM).sub
theorem bD(h:a<b)(e:yt b c=aj):a<c:=gf h (cJ e)
theorem c8(h:p<=m)(e:yt (n+k) p=aj):n<=m-k:=abh (di (cJ e) h)
theorem Vh{i:Int}(h:0<i):i.toNat=(i-1).toNat+1:=by induction i with|ofNat n=>(induction n with|zero=>exact absurd h (Int.lt_irrefl 0)|succ n=>show n+1=((n:Int)+1-1).toNat+1;rw[Int.add_sub_cancel];rfl)|negSucc n=>exact absurd h (λh=>nomatch h)
theorem To(h:k<c):c-k=c-k-1+1:=(vH (abi h)).symm
theorem Qh(h:c-k=m+1):c-(k+1)=m:=congrArg Nat.pred h
theorem mF(h:a<b)(k:b<c)(d:Nat)(e:yt c d=aj):a<d:=gf (dF h k) (cJ e)
inductive a7 where|int(i:Int)|bool(b:Bool)|dc(p:Nat)
set_option genCtorIdx true in inductive Bo where|add|sub|mul|Ac
set_option genCtorIdx true in inductive Co where|lt|eq|ge
set_option genCtorIdx true in inductive Pl where|P|Q|R|S
inductive Op where|set(r:Nat)(v:Int)|fg(r:Nat)(b:Bool)|dC(d s:Nat)|aN(o:Bo)(d a b:Nat)|ao(o:Co)(d a b:Nat)|bZ(d a:Nat)|bn(d a:Nat)|fS(d:Nat)(p:Pl)|dU(d s:Nat)|gD(p s:Nat)|br(t:Bool)(r j:Nat)|fz(r j k l:Nat)|ee(r:Nat)(js:List Nat)|dA(j:Nat)|ret(r:Option Nat)|dj
inductive P where|w(r:Nat)|c(v:V)|r(r:Nat)|o(r:Option Nat)|j(t:Nat)|J(l:List Nat)
noncomputable def Bo.eO:Bo->aC|.add=>.EF|.sub=>.CT|.mul=>.Ey|.Ac=>.EJ
noncomputable def Co.eO:Co->aC|.lt=>.D5|.eq=>.EW|.ge=>.Fy
noncomputable def Pl.eO:Pl->aC|.P=>.qf|.Q=>.vn|.R=>.qV|.S=>.JT
noncomputable def Op.bJ:Op->aC|.set ..=>.fZ|.fg ..=>.fZ|.dC ..=>.gE|.aN ..=>.iP|.ao ..=>.gZ|.bZ ..=>.e8|.bn ..=>.e8|.fS ..=>.jS|.dU ..=>.mu|.gD ..=>.pU|.br t ..=>if t then .iG else .i6|.fz ..=>.kz|.ee ..=>.ji|.dA ..=>.fG|.ret ..=>.hY|.dj=>.k7
noncomputable def Op.cS:Op->List P|.set r v=>[.w r,.c (.int 0),.c (.int v)]|.fg r v=>[.w r,.c (.int 4),.c (.bool v)]|.dC d s=>[.w d,.r s]|.aN o d a b=>[.w d,.c (.str o.eO),.c (.int 0),.r a,.r b]|.ao o d a b=>[.w d,.c (.str o.eO),.c (.int 0),.r a,.r b]|.bZ d a=>[.w d,.c (.str .nK),.c (.int 4),.r a]|.bn d a=>[.w d,.c (.str .nG),.c (.int 0),.r a]|.fS d p=>[.w d,.c (.str p.eO)]|.dU d s=>[.w d,.r s]|.gD p s=>[.r p,.r s]|.br _ r j=>[.r r,.j j]|.fz r j k l=>[.r r,.j j,.j k,.j l]|.ee r e=>[.r r,.J e]|.dA j=>[.j j]|.ret r=>[.o r]|.dj=>[]
noncomputable def P.jr:P->aC|.w _=>.lK|.c _=>.sF|.r _=>.jO|.o _=>.nu|.j _=>.lq|.J _=>.u3
noncomputable def nl(l:List Nat):List V:=l.map λ(k:Nat)=>V.int k
noncomputable def kR(r:Option Nat):Int:=match r with|aa r=>(r:Int)|ah=>-1
noncomputable def PE(h:H):P->V->Prop|.w r,v=>v=.int r|.c x,v=>v=x|.r r,v=>v=.int r|.o r,v=>v=.int (kR r)|.j r,v=>v=.int r|.J l,v=>∃i,v=.ref i/\aG h i=aa (nl l)
noncomputable def gy(h:H):List P->List V->Prop|[],[]=>True|p::ps,v::vs=>PE h p v/\gy h ps vs|_,_=>False
noncomputable def bx(h:H)(op:Op)(v:V):Prop:=∃vs,v=.Z (.str op.bJ::vs)/\gy h op.cS vs
noncomputable def P.bR:P->List Nat|.r x=>[x]|.o (aa x)=>[x]|_=>[]
noncomputable def P.L:P->List Nat|.j x=>[x]|.J x=>x|_=>[]
noncomputable def Op.bR(op:Op):List Nat:=op.cS.flatMap P.bR
noncomputable def Op.L(op:Op):List Nat:=op.cS.flatMap P.L
set_option tactic.hygienic true in theorem XF(op:Op):∃s,op.bJ.qh=aa s/\s.bN=aa op.cS.length/\s.BJ=op.cS.map P.jr:=by
 induction op;case br t r j=>induction t<;>exact(d0 _ rfl rfl rfl)
 all_goals exact(d0 _ rfl rfl rfl)
theorem Ao(op:Op):∃s,op.bJ.qh=aa s/\s.bN=aa op.cS.length/\∀k p,op.cS[k]?=aa p->s.at k=aa p.jr:=cu (XF op) λs a b c=>(d0 s a b (λk p h=>by show s.BJ[k]?=_;rw[c,j2,h];rfl))
theorem iU{r:Nat}:(-1000:Int)<r:=Int.lt_of_lt_of_le (by decide) (g9 r)
structure Wp(r:RS)(Q:RS->Prop):Prop where
 d7:Q r
theorem GP(b:0<n)(a:pF f l=aa F):aF n f l h=eC (aV (aF (n-1)) f.body F h):=by obtain⟨m,rfl⟩:∃m,n=m+1:=⟨n-1,by lia⟩;show(match pF f l with|aa F=>eC (aV (aF m) f.body F h)|ah=>.aM)=_;rw[a];rfl
theorem o5{f:Fn}{R:aB V->Prop}(e:0<n)(c:pF f l=aa F)(d:f.body=b)(w:∀a:aB V->Prop,(∀r,R r->a r)->Wp (aV (aF (n-1)) b F h) (λr=>a (eC r))):R (aF n f l h):=by subst d;rw[GP e c];exact(w R λz h=>h).d7
theorem da{f:Fn}{R:aB V->Prop}(d:0<n)(a:pF f l=aa F)(c:f.body=b)(w:Wp (aV (aF (n-1)) b F h) (λr=>R (eC r))):R (aF n f l h):=by subst c;rw[GP d a];exact w.d7
section
variable{cl:Fn->List V->H->aB V}{F:List V}{h h1 h2 h3:H}{x y z v:V}{r:aB V}
theorem E.af(e:getL F i=aa v):ax cl (.af i) F h=.ok v h:=by show kC (getL F i) h=_;rw[e];rfl
theorem E.aN(c:ax cl a F h=.ok x h1)(d:ax cl b F h1=.ok y h2)(e:jW op x y h2=.ok v h3):ax cl (.aN op a b) F h=.ok v h3:=by show(ax cl a F h).bind _=_;rw[c];show(ax cl b F h1).bind _=_;rw[d];exact e
theorem E.ao(c:ax cl a F h=.ok x h1)(d:ax cl b F h1=.ok y h2)(e:dE op h2 x y=aa t):ax cl (.ao op a b) F h=.ok (.bool t) h2:=by show(ax cl a F h).bind _=_;rw[c];show(ax cl b F h1).bind _=_;rw[d];show s9 (dE op h2 x y) h2=_;rw[e];rfl
theorem E.Y(c:ax cl a F h=.ok x h1)(d:ax cl b F h1=.ok y h2)(e:dy h2 x y=aa v):ax cl (.Y a b) F h=.ok v h2:=by show(ax cl a F h).bind _=_;rw[c];show(ax cl b F h1).bind _=_;rw[d];show kC (dy h2 x y) h2=_;rw[e];rfl
theorem E.M(b:ax cl a F h=.ok x h1)(c:iX h1 x n=aa v):ax cl (.M a n) F h=.ok v h1:=by show(ax cl a F h).bind _=_;rw[b];show kC (iX h1 x n) h1=_;rw[c];rfl
theorem E.bn(b:ax cl a F h=.ok (.int i) h1):ax cl (.bn a) F h=.ok (.int (-i)) h1:=by show(ax cl a F h).bind _=_;rw[b];rfl
theorem E.bZ(c:ax cl a F h=.ok x h1)(d:truthy h1 x=aa b):ax cl (.bZ a) F h=.ok (.bool (!b)) h1:=by show(ax cl a F h).bind _=_;rw[c];show(tb x h1).bind _=_;unfold tb;rw[d];rfl
theorem E.bo(e:lx cl b l F h=r):ax cl (.bo b l) F h=r:=e
theorem E.dO(e:ax cl a F h=r):lx cl b [a] F h=r:=by show(ax cl a F h).bind _=_;rw[e];induction r<;>rfl
theorem E.dN(e:ax cl a F h=.ok x h1)(d:truthy h1 x=aa b)(f:lx cl b (c::l) F h1=r):lx cl b (a::c::l) F h=r:=by show(ax cl a F h).bind _=_;rw[e];show(tb x h1).bind _=_;unfold tb;rw[d];show(if b==b then _ else _)=_;rw[if_pos (by induction b<;>rfl)];exact f
theorem E.ig(e:ax cl a F h=.ok x h1)(d:truthy h1 x=aa (!b)):lx cl b (a::c::l) F h=.ok x h1:=by show(ax cl a F h).bind _=_;rw[e];show(tb x h1).bind _=_;unfold tb;rw[d];show(if(!b)==b then _ else _)=_;rw[if_neg (by induction b<;>decide)]
theorem E.oF(e:ax cl c F h=.ok x h1)(d:truthy h1 x=aa aj)(f:ax cl a F h1=r):ax cl (.gV c a b) F h=r:=by show(ax cl c F h).bind _=_;rw[e];show(tb x h1).bind _=_;unfold tb;rw[d];exact f
theorem E.oB(e:ax cl c F h=.ok x h1)(d:truthy h1 x=aa au)(f:ax cl b F h1=r):ax cl (.gV c a b) F h=r:=by show(ax cl c F h).bind _=_;rw[e];show(tb x h1).bind _=_;unfold tb;rw[d];exact f
theorem E.GO(g:ax cl a F h=.ok x h1)(i:ax cl b F h1=.ok y h2)(j:dE e h2 x y=aa aj)(k:ax cl c F h2=.ok z d)(l:dE f d y z=aa t):ax cl (.mX e f a b c) F h=.ok (.bool t) d:=by show(ax cl a F h).bind _=_;rw[g];show(ax cl b F h1).bind _=_;rw[i];show(zz (dE e h2 x y) h2).bind _=_;rw[j];show(ax cl c F h2).bind _=_;rw[k];show s9 (dE f d y z) d=_;rw[l];rfl
theorem E.YF(e:ax cl a F h=.ok x h1)(f:ax cl b F h1=.ok y h2)(g:dE d h2 x y=aa au):ax cl (.mX d i a b c) F h=.ok (.bool au) h2:=by show(ax cl a F h).bind _=_;rw[e];show(ax cl b F h1).bind _=_;rw[f];show(zz (dE d h2 x y) h2).bind _=_;rw[g];rfl
variable{vs:List V}
theorem E.nil:cY cl [] F h=.ok [] h:=rfl
theorem E.cons(a:ax cl e F h=.ok v h1)(b:cY cl l F h1=.ok vs h2):cY cl (e::l) F h=.ok (v::vs) h2:=by show(ax cl e F h).bind _=_;rw[a];show(cY cl l F h1).bind _=_;rw[b];rfl
theorem E.aW(e:cY cl l F h=.ok vs h1):ax cl (.aW l) F h=.ok (.ref h1.length) (h1++[.list vs]):=by show(cY cl l F h).bind _=_;rw[e];rfl
theorem E.Z(e:cY cl l F h=.ok vs h1):ax cl (.Z l) F h=.ok (.Z vs) h1:=by show(cY cl l F h).bind _=_;rw[e];rfl
theorem E.bF(e:cY cl l F h=.ok vs h1)(a:lp vs []=aa d):ax cl (.bF l) F h=.ok (.ref h1.length) (h1++[.dict d]):=by show(cY cl l F h).bind _=_;rw[e];show(match lp vs []with|aa d=>aB.ok _ _|ah=>_)=_;rw[a]
theorem E.call(a:ax cl f F h=.ok (.fn g) h1)(b:cY cl l F h1=.ok vs h2)(c:cl g vs h2=r):ax cl (.call f l) F h=r:=by show(ax cl f F h).bind _=_;rw[a];show(cY cl l F h1).bind _=_;rw[b];exact c
theorem E.new(a:cY cl l F h=.ok vs h1)(b:cl k.init (.ref h1.length::vs) (h1++[.bw k,.fields []])=.ok .none h2):ax cl (.new k l) F h=.ok (.ref h1.length) h2:=by show(cY cl l F h).bind _=_;rw[a];show(cl k.init _ _).bind _=_;rw[b];rfl
theorem E.bi(a:cY cl l F h=.ok vs h1)(c:lu b vs h1=r):ax cl (.bi b l) F h=r:=by show(cY cl l F h).bind _=_;rw[a];exact c
theorem E.bH(b:ax cl a F h=.ok x h1)(c:mR h1 m x=aa kd)(d:cY cl l F h1=.ok vs h2)(e:oR cl kd x m vs h2=r):ax cl (.bH a m l) F h=r:=by show(ax cl a F h).bind _=_;rw[b];show(match mR h1 m x with|aa kd=>(cY cl l F h1).bind _|ah=>_)=_;rw[c];show(cY cl l F h1).bind _=_;rw[d];exact e
theorem E.lh(c:ax cl a F h=.ok x h1)(d:ax cl b F h1=.ok y h2)(e:rK x y h2=r):ax cl (.lh a b) F h=r:=by show(ax cl a F h).bind _=_;rw[c];show(ax cl b F h1).bind _=_;rw[d];exact e
theorem E.oY(d:ax cl a F h=.ok x h1)(e:ax cl b F h1=.ok y h2)(g:ax cl c F h2=.ok z h3)(f:wJ x y z h3=r):ax cl (.oY a b c) F h=r:=by show(ax cl a F h).bind _=_;rw[d];show(ax cl b F h1).bind _=_;rw[e];show(ax cl c F h2).bind _=_;rw[g];exact f
variable{Q:RS->Prop}{l:List CS}
theorem S.nil(q:Q (.nx F h)):Wp (aV cl [] F h) Q:=⟨q⟩
theorem S.D(a:ax cl e F h=.ok v h1)(q:Wp (aV cl l (F.set i v) h1) Q):Wp (aV cl (.D i e::l) F h) Q:=by constructor;show Q ((((ax cl e F h).on F λv h=>.nx (F.set i v) h)).bh _);rw[a];exact q.d7
theorem S.KB{i:Nat}{e:CE}{x:X}(a:ax cl e F h=.ex x h1)(q:Q (.ex x F h1)):Wp (aV cl (.D i e::l) F h) Q:=by constructor;show Q ((((ax cl e F h).on F λv h=>.nx (F.set i v) h)).bh _);rw[a];exact q
theorem S.gK(c:ax cl e F h=.ok (.Z vs) h1)(d:r7 F a vs=aa b)(q:Wp (aV cl l b h1) Q):Wp (aV cl (.gK a e::l) F h) Q:=by constructor;show Q ((((ax cl e F h).on F _)).bh _);rw[c];show Q (RS.bh (match r7 F a vs with|aa F=>.nx F h1|ah=>.aM) _);rw[d];exact q.d7
theorem S.cH(b:ax cl e F h=.ok v h1)(c:ax cl a F h1=.ok x h2)(d:l5 h2 x n v=aa h3)(q:Wp (aV cl l F h3) Q):Wp (aV cl (.cH a n e::l) F h) Q:=by constructor;show Q ((((ax cl e F h).on F _)).bh _);rw[b];show Q ((((ax cl a F h1).on F _)).bh _);rw[c];show Q (RS.bh (nQ F (l5 h2 x n v)) _);rw[d];exact q.d7
theorem S.cQ(c:ax cl e F h=.ok v h1)(d:ax cl a F h1=.ok x h2)(g:ax cl k F h2=.ok y b)(f:jk b x y v=aa h3)(q:Wp (aV cl l F h3) Q):Wp (aV cl (.cQ a k e::l) F h) Q:=by constructor;show Q ((((ax cl e F h).on F _)).bh _);rw[c];show Q ((((ax cl a F h1).on F _)).bh _);rw[d];show Q ((((ax cl k F h2).on F _)).bh _);rw[g];show Q (RS.bh (nQ F (jk b x y v)) _);rw[f];exact q.d7
theorem S.Wc{a k:CE}{e:CE}{x:X}(b:ax cl e F h=.ex x h1)(q:Q (.ex x F h1)):Wp (aV cl (.cQ a k e::l) F h) Q:=by constructor;show Q ((((ax cl e F h).on F _)).bh _);rw[b];exact q
theorem S.fs(a:getL F i=aa x)(b:ax cl e F h=.ok y h1)(c:jZ op x y h1=.ok v h2)(q:Wp (aV cl l (F.set i v) h2) Q):Wp (aV cl (.fs i op e::l) F h) Q:=by constructor;show Q ((((kC (getL F i) h).on F _)).bh _);rw[a];show Q ((((ax cl e F h).on F _)).bh _);rw[b];show Q (RS.bh ((jZ op x y h1).on F _) _);rw[c];exact q.d7
theorem S.l7(c:ax cl a F h=.ok x h1)(d:iX h1 x n=aa o)(f:ax cl e F h1=.ok y h2)(g:jZ op o y h2=.ok v h3)(i:l5 h3 x n v=aa b)(q:Wp (aV cl l F b) Q):Wp (aV cl (.l7 a n op e::l) F h) Q:=by constructor;show Q ((((ax cl a F h).on F _)).bh _);rw[c];show Q ((((kC (iX h1 x n) h1).on F _)).bh _);rw[d];show Q ((((ax cl e F h1).on F _)).bh _);rw[f];show Q (RS.bh ((jZ op o y h2).on F _) _);rw[g];show Q (RS.bh (nQ F (l5 h3 x n v)) _);rw[i];exact q.d7
theorem S.pX(f:ax cl a F h=.ok x h1)(d:ax cl k F h1=.ok z b)(g:dy b x z=aa o)(i:ax cl e F b=.ok y h2)(j:jZ op o y h2=.ok v h3)(m:jk h3 x z v=aa c)(q:Wp (aV cl l F c) Q):Wp (aV cl (.pX a k op e::l) F h) Q:=by constructor;show Q ((((ax cl a F h).on F _)).bh _);rw[f];show Q ((((ax cl k F h1).on F _)).bh _);rw[d];show Q ((((kC (dy b x z) b).on F _)).bh _);rw[g];show Q ((((ax cl e F b).on F _)).bh _);rw[i];show Q (RS.bh ((jZ op o y h2).on F _) _);rw[j];show Q (RS.bh (nQ F (jk h3 x z v)) _);rw[m];exact q.d7
theorem S.cO(a:ax cl e F h=.ok v h1)(q:Wp (aV cl l F h1) Q):Wp (aV cl (.cO e::l) F h) Q:=by constructor;show Q ((((ax cl e F h).on F λz h=>.nx F h)).bh _);rw[a];exact q.d7
theorem ZZ(r:RS)(p q:List V->H->RS):(r.bh p).bh q=r.bh λF h=>(p F h).bh q:=by induction r<;>rfl
theorem M8:aV cl (s++t) F h=(aV cl s F h).bh λF h=>aV cl t F h:=by induction s generalizing F h with|nil=>rfl|cons c s a=>show(fE cl c F h).bh _=((fE cl c F h).bh _).bh _;rw[ZZ];congr 1;funext F h;exact a
theorem S.bQ(a:ax cl c F h=.ok x h1)(b:truthy h1 x=aa aj)(q:Wp (aV cl (s++l) F h1) Q):Wp (aV cl (.ifs c s t::l) F h) Q:=by constructor;show Q ((((ax cl c F h).bind tb).on F _).bh _);rw[a];show Q (((tb x h1).on F _).bh _);unfold tb;rw[b];have q:=q.d7;rw[M8]at q;exact q
theorem S.a8(a:ax cl c F h=.ok x h1)(b:truthy h1 x=aa au)(q:Wp (aV cl (t++l) F h1) Q):Wp (aV cl (.ifs c s t::l) F h) Q:=by constructor;show Q ((((ax cl c F h).bind tb).on F _).bh _);rw[a];show Q (((tb x h1).on F _).bh _);unfold tb;rw[b];have q:=q.d7;rw[M8]at q;exact q
theorem S.ret(a:ax cl e F h=.ok v h1)(q:Q (.rt v h1)):Wp (aV cl (.ret e::l) F h) Q:=by constructor;show Q ((((ax cl e F h).on F λv h=>.rt v h)).bh _);rw[a];exact q
theorem S.SL{e:CE}{x:X}(a:ax cl e F h=.ex x h1)(q:Q (.ex x F h1)):Wp (aV cl (.ret e::l) F h) Q:=by constructor;show Q ((((ax cl e F h).on F λv h=>.rt v h)).bh _);rw[a];exact q
theorem S.iJ(q:Q (.ex .aF F h)):Wp (aV cl (.iJ::l) F h) Q:=⟨q⟩
theorem S.pr(a:ax cl e F h=.ok v h1)(q:Q (.ex .ir F h1)):Wp (aV cl (.pr e::l) F h) Q:=by constructor;show Q ((((ax cl e F h).on F λz h=>.ex .ir F h)).bh _);rw[a];exact q
theorem S.o8(q:Wp (aV cl l (F.set i (.fn .c6)) h) Q):Wp (aV cl (.o8 i::l) F h) Q:=⟨q.d7⟩
theorem wu{m:Int}(h1:-10000<m)(h2:m<10000):small m=aj:=by have a:-(2^60:Int)<m:=yu (by decide) h1;have b:m<(2^60:Int):=yu h2 (by decide);exact decide_eq_true ⟨a,b⟩
noncomputable def Lp(Q:RS->Prop)(a:List V->H->Prop):RS->Prop|.nx F h=>a F h|.rt v h=>Q (.rt v h)|_=>False
set_option tactic.hygienic true in theorem Ia{f:V->List V->H->RS}{q:List V->H->RS}(a:Nat->List V->H->Prop):∀(l:List V)(k:Nat)(F:List V)(h:H),a k F h->(∀j v F h,l[j]?=aa v->a (k+j) F h->Wp (f v F h) (Lp Q (a (k+j+1))))->(∀F h,a (k+l.length) F h->Q (q F h))->Q ((l6 f l F h).bh q):=by intro l;induction l with|nil=>intro k F h i _ b;exact b F h i|cons v l d=>intro k F h i st b;have s:=(st 0 v F h rfl i).d7;show Q ((match f v F h with|.nx F h=>l6 f l F h|.rt v h=>.rt v h|_=>.aM).bh q);cases e:f v F h<;>rw[e]at s;(case nx F' h'=>refine d (k+1) F' h' s (λj v F h c g=>?_) (λF h i=>b F h ?_);(·have:=st (j+1) v F h c (by rw[<-ra,sO];exact g);rw[<-ra,sO k j 1]at this;exact this);·rw[mZ,<-ra,sO];exact i);(case rt=>exact s);all_goals exact s.elim
theorem J6{b:Type}{a:b}{k:b->H->RS}:(aB.ok a h).on F k=k a h:=rfl
noncomputable def Db(g:Int->H->RS)(x:V)(h:H):RS:=match x with|.int n=>if small n then g n h else .aM|_=>.aM
theorem He{g:Int->H->RS}{m:Int}(e:small m=aj):Db g (.int m) h=g m h:=if_pos e
theorem VV{i:Nat}{n:CE}{b:List CS}:fE cl (.fP i n b) F h=(ax cl n F h).on F (Db λn h=>l6 (λv F h=>aV cl b (F.set i v) h) (jQ n) F h):=rfl
theorem Rr{i:Nat}{n:CE}{b:List CS}:fE cl (.lg i n b) F h=(ax cl n F h).on F (Db λn h=>l6 (λv F h=>aV cl b (F.set i v) h) (qM n) F h):=rfl
theorem S.fP{i:Nat}{n:CE}{b:List CS}(m:Nat)(I:Nat->List V->H->Prop)(e1:ax cl n F h=.ok (.int m) h1)(hm:m<10000)(i0:I 0 F h1)(st:∀k F h,k<m->I k F h->Wp (aV cl b (F.set i (.int k)) h) (Lp Q (I (k+1))))(bY:∀F h,I m F h->Wp (aV cl l F h) Q):Wp (aV cl (.fP i n b::l) F h) Q:=by
 constructor;have ev:fE cl (.fP i n b) F h=l6 (λv F h=>aV cl b (F.set i v) h) (jQ m) F h1:=by have sm:small m=aj:=wu (by lia) (by exact eM.mpr (by assumption));rw[VV,e1,J6];exact He sm
 show Q ((fE cl (.fP i n b) F h).bh _);rw[ev];have hl:(jQ m).length=m:=by unfold jQ;simp
 refine Ia I (jQ m) 0 F h1 i0 (λj v F h ej ij=>?_) (λF h i=>(bY F h ?_).d7);·(have hj:j<m:=by have:=(dH.mp ej).1;exact uv (by assumption) (by assumption));rw[uw]at ij⊢;(have:v=.int j:=by unfold jQ at ej;rw[j2,BR (by lia)]at ej;injection ej with q;subst q;rfl);subst this;exact st j F h hj ij
 ·rw[uw,hl]at i;exact i
theorem S.lg{i:Nat}{n:CE}{b:List CS}(m:Nat)(I:Nat->List V->H->Prop)(e1:ax cl n F h=.ok (.int ((m:Int)-1)) h1)(hm:m<10000)(i0:I m F h1)(st:∀k F h,k<m->I (k+1) F h->Wp (aV cl b (F.set i (.int k)) h) (Lp Q (I k)))(bY:∀F h,I 0 F h->Wp (aV cl l F h) Q):Wp (aV cl (.lg i n b::l) F h) Q:=by
 constructor;have ev:fE cl (.lg i n b) F h=l6 (λv F h=>aV cl b (F.set i v) h) (qM ((m:Int)-1)) F h1:=by have sm:small ((m:Int)-1)=aj:=wu (by lia) (by lia);rw[Rr,e1,J6];exact He sm
 show Q ((fE cl (.lg i n b) F h).bh _);rw[ev];have hl:(qM ((m:Int)-1)).length=m:=by unfold qM;simp
 refine Ia (λk=>I (m-k)) (qM ((m:Int)-1)) 0 F h1 i0 (λj v F h ej ij=>?_) (λF h i=>(bY F h ?_).d7);·(have hj:j<m:=by have:=(dH.mp ej).1;exact uv (by assumption) (by assumption));rw[uw]at ij⊢;(have:v=.int ((m-1-j:Nat):Int):=by unfold qM at ej;rw[j2,BR (by lia)]at ej;injection ej with q;subst q;congr 1;lia);subst this;(have q1:m-1-j+1=m-j:=by rw[abj];exact vH (abi hj));have:=st (m-1-j) F h (gf (m4 _) (di (NF q1) (Nat.sub_le ..))) (by rw[q1];exact ij);rw[show m-(j+1)=m-1-j from by rw[abj];rfl];exact this
 ·rw[uw,hl,qi]at i;exact i
set_option tactic.hygienic true in theorem UN(b:Nat->List V->H->Prop)(j:∀k F h,b k F h->aG h a=aa L)(st:∀k v F h,L[k]?=aa v->b k F h->Wp (f v F h) (Lp Q (b (k+1))))(g:∀F h,b L.length F h->Q (q F h)):∀(n k:Nat)(F:List V)(h:H),L.length<n+k->k<=L.length->b k F h->Q ((qE f a n k F h).bh q):=by intro n;induction n with|zero=>intro k F h m c;lia|succ n o=>intro k F h m c i;show Q ((match aG h a with|ah=>RS.aM|aa l=>match l[k]? with|ah=>RS.nx F h|aa v=>match f v F h with|.nx F h=>qE f a n (k+1) F h|.rt v h=>RS.rt v h|_=>RS.aM).bh q);rw[j k F h i];induction e:L[k]? with|none=>have:k=L.length:=abk c (Gg.mp e);subst this;dsimp only;rw[e];exact g F h i|some v=>have s:=(st k v F h e i).d7;dsimp only;rw[e];have p:=(dH.mp e).1;show Q ((match f v F h with|.nx F h=>qE f a n (k+1) F h|.rt v h=>.rt v h|_=>.aM).bh q);cases d:f v F h<;>rw[d]at s;(case nx F' h'=>exact o (k+1) F' h' (by lia) (by lia) s);(case rt=>exact s);all_goals exact s.elim
theorem S.fr(c:Nat->List V->H->Prop)(f:ax cl it F h=.ok (.ref a) h1)(e:c 0 F h1)(d:∀k F h,c k F h->aG h a=aa L)(st:∀k v F h,L[k]?=aa v->c k F h->Wp (aV cl b (F.set i v) h) (Lp Q (c (k+1))))(g:∀F h,c L.length F h->Wp (aV cl l F h) Q):Wp (aV cl (.fr i it b::l) F h) Q:=by constructor;show Q ((((ax cl it F h).on F _)).bh _);rw[f];show Q ((match aG h1 a with|aa l=>qE _ a (l.length+1) 0 F h1|ah=>.aM).bh _);rw[d 0 F h1 e];exact UN c d st (λF h i=>(g F h i).d7) _ 0 F h1 (by exact eN _ _) (by exact cJ rfl) e
set_option tactic.hygienic true in theorem WM(a:Nat->List V->H->Prop)(st:∀m F h,a m F h->∃t h',c F h=.ok t h'/\(if t then Wp (b F h') (λr=>match r with|.nx F h=>∃m'<m,a m' F h|.rt v h=>Q (.rt v h)|.ex x F h=>Q (.ex x F h)|.aM=>False)else Q (q F h'))):∀(n m:Nat)(F:List V)(h:H),m<n->a m F h->Q ((q5 c b n F h).bh q):=by intro n;induction n with|zero=>lia|succ n g=>intro m F h j i;refine gw (st m F h i) λt h' e s=>?_;show Q ((((c F h).on F λt h=>if t then(b F h).bh λF h=>q5 c b n F h else .nx F h)).bh q);rw[e];induction t with|false=>exact s|true=>show Q (((b F h').bh λF h=>q5 c b n F h).bh q);have s':=s.d7;cases d:b F h'<;>rw[d]at s';(case nx F2 h2=>refine ay s' λm' k f=>?_;exact g m' F2 h2 (by lia) f);(case rt=>exact s');(case ex=>exact s');case aM=>exact s'.elim
theorem S.lz(a:Nat->List V->H->Prop)(m:Nat)(f:m<4096)(g:a m F h)(st:∀m F h,a m F h->∃x h1 t,ax cl c F h=.ok x h1/\truthy h1 x=aa t/\(if t then Wp (aV cl b F h1) (λr=>match r with|.nx F h=>∃m'<m,a m' F h|.rt v h=>Q (.rt v h)|.ex x F h=>Q (.ex x F h)|.aM=>False)else Wp (aV cl l F h1) Q)):Wp (aV cl (.lz c b::l) F h) Q:=by constructor;refine WM a (λm F h i=>?_) Bq m F h f g;refine fW (st m F h i) λx h1 t d e s=>(iM t h1 ?_ (by induction t<;>first|exact s|exact s.d7));show(ax cl c F h).bind tb=_;rw[d];show tb x h1=_;unfold tb;rw[e]
theorem S.w0(m:Nat)(a:Nat->List V->H->Prop)(c:ax cl n F h=.ok (.int m) h1)(f:m<10000)(g:a 0 F h1)(st:∀(J:List V->H->Prop)k F h,(∀F h,a (k+1) F h->J F h)->k<m->a k F h->Wp (aV cl b (F.set i (.int k)) h) (Lp Q J))(d:∀F h,a m F h->Wp (aV cl l F h) Q):Wp (aV cl (.fP i n b::l) F h) Q:=S.fP m a c f g (λk F h e i=>st (a (k+1)) k F h (λz z i=>i) e i) d
theorem S.Si(m:Nat)(a:Nat->List V->H->Prop)(c:ax cl n F h=.ok (.int ((m:Int)-1)) h1)(f:m<10000)(g:a m F h1)(st:∀(J:List V->H->Prop)k F h,(∀F h,a k F h->J F h)->k<m->a (k+1) F h->Wp (aV cl b (F.set i (.int k)) h) (Lp Q J))(d:∀F h,a 0 F h->Wp (aV cl l F h) Q):Wp (aV cl (.lg i n b::l) F h) Q:=S.lg m a c f g (λk F h e i=>st (a k) k F h (λz z i=>i) e i) d
theorem S.wF(c:Nat->List V->H->Prop)(d:ax cl it F h=.ok (.ref a) h1)(j:c 0 F h1)(g:∀k F h,c k F h->aG h a=aa L)(st:∀(J:List V->H->Prop)k v F h,(∀F h,c (k+1) F h->J F h)->L[k]?=aa v->c k F h->Wp (aV cl b (F.set i v) h) (Lp Q J))(f:∀F h,c L.length F h->Wp (aV cl l F h) Q):Wp (aV cl (.fr i it b::l) F h) Q:=S.fr c d j g (λk v F h e i=>st (c (k+1)) k v F h (λz z i=>i) e i) f
noncomputable def Wh(Q:RS->Prop)(J:List V->H->Prop):RS->Prop|.nx F h=>J F h|.rt v h=>Q (.rt v h)|.ex x F h=>Q (.ex x F h)|.aM=>False
noncomputable def xM(cl:Fn->List V->H->aB V)(c:CE)(b l:List CS)(F:List V)(h:H)(Q:RS->Prop)(J:List V->H->Prop):Prop:=∃x h1 t,ax cl c F h=.ok x h1/\truthy h1 x=aa t/\(if t then Wp (aV cl b F h1) (Wh Q J)else Wp (aV cl l F h1) Q)
theorem xM.go(a:ax cl c F h=.ok x h1)(d:truthy h1 x=aa aj)(w:Wp (aV cl b F h1) (Wh Q J)):xM cl c b l F h Q J:=⟨x,h1,aj,a,d,w⟩
theorem xM.vf(a:ax cl c F h=.ok x h1)(d:truthy h1 x=aa au)(w:Wp (aV cl l F h1) Q):xM cl c b l F h Q J:=⟨x,h1,au,a,d,w⟩
theorem S.Jv(a:Nat->List V->H->Prop)(m:Nat)(g:m<4096)(j:a m F h)(st:∀(J:List V->H->Prop)m F h,(∀k F h,k<m->a k F h->J F h)->a m F h->xM cl c b l F h Q J):Wp (aV cl (.lz c b::l) F h) Q:=by refine S.lz a m g j λm F h i=>fW (st (λF h=>∃k,k<m/\a k F h) m F h (λk F h f i=>(bC k f i)) i) λx h1 t d e w=>(tN x h1 t d e ?_);induction t with|false=>exact w|true=>refine⟨?_⟩;have w:=Wp.d7 w;cases q:aV cl b F h1<;>rw[q]at w<;>exact w
end
theorem Yr(a:Nat->H->Prop):∀(l:List V)(k:Nat)(h:H),a k h->(∀j v h,l[j]?=aa v->a (k+j) h->∃h',f v h=.ok ⟨⟩ h'/\a (k+j+1) h')->∃h',vw f l h=.ok ⟨⟩ h'/\a (k+l.length) h':=by intro l;induction l with|nil=>intro k h i _;exact(bC h rfl i)|cons v l m=>intro k h i st;refine ay (st 0 v h rfl i) λh1 b e=>?_;refine ay (m (k+1) h1 e (λj v h d n=>by have:=st (j+1) v h d (by rw[<-ra,sO];exact n);rw[<-ra,sO k j 1]at this;exact this)) λh2 c g=>?_;refine(bC h2 ?_ (by rw[mZ,<-ra,sO];exact g));show(f v h).bind _=_;rw[b];exact c
theorem Kt(b:Nat->H->Prop)(j:∀k h,b k h->aG h a=aa L)(st:∀k v h,L[k]?=aa v->b k h->∃h',f v h=.ok ⟨⟩ h'/\b (k+1) h'):∀(n k:Nat)(h:H),L.length<n+k->k<=L.length->b k h->∃h',qR f a n k h=.ok ⟨⟩ h'/\b L.length h':=by intro n;induction n with|zero=>intro k h m c;lia|succ n q=>intro k h m c i;show∃h',(match aG h a with|ah=>.aM|aa l=>match l[k]? with|ah=>.ok ⟨⟩ h|aa v=>(f v h).bind λz h=>qR f a n (k+1) h)=aB.ok ⟨⟩ h'/\_;rw[j k h i];induction e:L[k]? with|none=>have:k=L.length:=abk c (Gg.mp e);subst this;dsimp only;rw[e];exact(bC h rfl i)|some v=>have r:=(dH.mp e).1;refine ay (st k v h e i) λh1 d o=>ay (q (k+1) h1 (by lia) (by lia) o) λh2 g p=>(bC h2 ?_ p);dsimp only;rw[e];show(f v h).bind _=_;rw[d];exact g
theorem dJ:aG (h++[.list l]) h.length=aa l:=by unfold aG;rw[m5 (cF _),qi];rfl
theorem Ex:(h++[o]).set h.length o'=h++[o']:=by rw[yv _ _ (cF _),qi];rfl
theorem d8(e:aG h i=aa l):i<h.length:=(dH.mp (pN e)).1
theorem i7{h:H}(hi:i<h.length):aG (h.set i (.list l)) i=aa l:=Cn (ph hi)
theorem j8(e:a≠i):aG (h.set a o) i=aG h i:=by unfold aG;rw[ja e]
theorem gC(e:aG h i=aa l):aG (h++x) i=aa l:=by have:=d8 e;unfold aG at e⊢;rw[nY this];exact e
noncomputable def a9(h h':H):Prop:=∃x,h'=h++x
theorem a9.b8:a9 h h:=⟨[],by simp⟩
theorem a9.cA:a9 h (h++x):=⟨x,rfl⟩
theorem a9.trans(p:a9 a b)(q:a9 b c):a9 a c:=by refine oE p ?_;try clear p;rintro x rfl;refine oE q ?_;try clear q;rintro y rfl;exact⟨x++y,re _ _ _⟩
theorem a9.le(p:a9 a b):a.length<=b.length:=by refine oE p ?_;try clear p;rintro x rfl;simp
theorem a9.set(p:a9 a b)(hi:a.length<=i):a9 a (b.set i o):=by refine oE p ?_;try clear p;rintro x rfl;exact⟨x.set (i-a.length) o,yv _ _ hi⟩
theorem a9.aW(p:a9 a b)(e:aG a i=aa l):aG b i=aa l:=by refine oE p ?_;try clear p;rintro x rfl;exact gC e
section
variable{cl:Fn->List V->H->aB V}{F:List V}{h h1:H}
theorem Di(e:aG h a=aa L)(b:L.length<1000):jy a w h=.ok ⟨⟩ (h.set a (.list (L++[w]))):=by unfold jy;rw[e];exact if_pos b
theorem E.lc(R:Nat->V->H->Prop)(t:ax cl it F h=.ok (.ref a) h1)(p:aG h1 a=aa L)(C:L.length<900)(n:∀k v h h',R k v h->(a9 h h'\/∃o,h'=h.set h1.length o)->R k v h')(st:∀k v h,L[k]?=aa v->a9 h1 h->h1.length<h.length->∃w h',ax cl e (F.set i v) h=.ok w h'/\a9 h h'/\R k w h'):∃ws h2,ax cl (.lc e i it) F h=.ok (.ref h1.length) h2/\a9 h1 h2/\aG h2 h1.length=aa ws/\ws.length=L.length/\∀k w,ws[k]?=aa w->R k w h2:=by obtain⟨h2,g,ws,k2,s,y,m⟩:=Kt (f:=λv h'=>(ax cl e (F.set i v) h').bind λw h'=>jy h1.length w h') (λk h=>∃ws,a9 h1 h/\aG h h1.length=aa ws/\ws.length=k/\∀k w,ws[k]?=aa w->R k w h) (λk h i=>by refine ay i λws k1 Z=>?_;exact k1.aW p) (λk v h c i=>by refine sB i λws k1 d r z=>?_;(try clear i);have B:=(dH.mp c).1;refine cG (st k v h c k1 (d8 d)) λw h' g k2 m=>⟨_,?_,ws++[w],(k1.trans k2).set (cF _),i7 (d8 (k2.aW d)),by simp[r],?_⟩;(·show(ax cl e (F.set i v) h).bind _=_;rw[g];exact Di (k2.aW d) (by lia));·intro j u b;by_cases x:j<ws.length;(·rw[nY x]at b;exact n _ _ _ _ (n _ _ _ _ (z j u b) (.inl k2)) (.inr ⟨_,rfl⟩));·rw[m5 (by exact rg (by assumption))]at b;(have:j=k:=by have:=(dH.mp b).1;simp at this;lia);subst this;rw[r,qi]at b;injection b with q;subst q;exact n _ _ _ _ m (.inr ⟨_,rfl⟩)) (L.length+1) 0 (h1++[.list []]) (by exact eN _ _) (by exact cJ rfl) (Es ([]) a9.cA dJ rfl (λk w c=>by injection c));refine(A7 ws h2 ?_ k2 s y m);show(ax cl it F h).bind _=_;rw[t];show(pK (match aG (h1++[.list []]) a with|aa l=>qR _ a (l.length+1) 0 (h1++[.list []])|ah=>.aM)).bind _=_;rw[gC p];dsimp only;rw[g];rfl
end
section
variable{cl:Fn->List V->H->aB V}{F:List V}{h:H}
theorem E.J:ax cl (.J i) F h=.ok (.int i) h:=rfl
theorem E.str:ax cl (.str s) F h=.ok (.str s) h:=rfl
theorem E.tt:ax cl .tt F h=.ok (.bool aj) h:=rfl
theorem E.ff:ax cl .ff F h=.ok (.bool au) h:=rfl
theorem E.none:ax cl .nil F h=.ok .none h:=rfl
theorem E.fn:ax cl (.gl (.fn f)) F h=.ok (.fn f) h:=rfl
theorem E.gl:ax cl (.gl g) F h=.ok g.val h:=rfl
theorem Mk{k:Nat}{L:List V}{v:V}(a:L[k]?=aa v)(b:k<1000):pT L k=aa v:=by unfold pT;rw[if_pos ⟨g9 k,by show(k:Int)<(1000:Int);exact eM.mpr (by assumption)⟩];exact a
theorem gL{i:Nat}{k:Nat}{L:List V}{v:V}(e:aG h i=aa L)(a:L[k]?=aa v)(b:k<1000):dy h (.ref i) (.int k)=aa v:=by show o6 h i _=_;unfold o6;rw[e];exact(FM).trans (Mk a b)
theorem WH{k:Nat}{L:List V}{v:V}(a:L[k]?=aa v)(b:k<1000):dy h (.Z L) (.int k)=aa v:=(FM (f:=λk=>pT L k)).trans (Mk a b)
theorem lX(e:aG h i=aa L)(a:wS m=aj):mR h m (.ref i)=aa .list:=by show(h[i]?.bind λo=>zG h m i o)=_;rw[pN e];exact if_pos a
theorem nT(e:aG h i=aa L)(a:L.length<1000):oR cl .list (.ref i) .fF [v] h=.ok .none (h.set i (.list (L++[v]))):=(jg e).trans (qY a)
theorem tX(e:aG h i=aa L)(a:L.length<1000):lu .dL [.ref i] h=.ok (.int L.length) h:=(jg e).trans (qY a)
theorem T9(e:aG h i=aa L)(a:aG h j=aa M)(b:L.length+M.length<1000):jZ .add (.ref i) (.ref j) h=.ok (.ref i) (h.set i (.list (L++M))):=(jg e).trans ((jg a).trans (qY b))
theorem jK(e:bx h op v):dy h' v (.int 0)=aa (.str op.bJ):=by refine ay e ?_;try clear e;rintro vs rfl _;rfl
theorem AV{vs:List V}{s:aC}{k:Nat}{v:V}(e:vs[k]?=aa v)(a:k<900):dy h (.Z (.str s::vs)) (.int ((k:Int)+1))=aa v:=by rw[show((k:Int)+1)=((k+1:Nat):Int)from rfl];exact WH e (by lia)
end
theorem PE.B(k:∀i l,aG h i=aa l->aG h' i=aa l)(e:PE h p v):PE h' p v:=by induction p<;>first|exact e|refine ay e ?_;rintro i rfl e;exact⟨i,rfl,k _ _ e⟩
theorem gy.B(k:∀i l,aG h i=aa l->aG h' i=aa l):∀{p:List P}{v:List V},gy h p v->gy h' p v|[],[],_=>trivial|_::_,_::_,⟨a,b⟩=>⟨a.B k,b.B k⟩
theorem bx.B(k:∀i l,aG h i=aa l->aG h' i=aa l)(e:bx h o v):bx h' o v:=by refine ay e ?_;rintro vs rfl e;exact⟨vs,rfl,e.B k⟩
theorem gy.bN:∀{p:List P}{v:List V},gy h p v->v.length=p.length|[],[],_=>rfl|_::_,_::_,⟨_,b⟩=>congrArg (·+1) b.bN
theorem gy.cp:∀{p:List P}{v:List V}{k:Nat},gy h p v->k<p.length->∃q u,p[k]?=aa q/\v[k]?=aa u/\PE h q u|[],_,_,_,a=>(ux _ a).elim|q::p,v,k,E,a=>by induction v using j4 with|nil=>exact nZ E|cons u v=>induction k using oa with|zero=>exact(gv q u rfl rfl E.1)|succ k=>exact gy.cp (k:=k) E.2 (BS a)
theorem qx(op:Op):op.cS.length<6:=by induction op<;>exact cJ rfl
section
variable{h:H}
theorem vz(e:s.qh=aa t):dy h .fp (.str s)=aa (.str t):=by show s.qh.map V.str=_;rw[e];rfl
theorem len_str{s:aC}(e:s.bN=aa n):lu .dL [.str s] h=.ok (.int n) h:=jg e
theorem zX{s:aC}(e:s.at k=aa t):dy h (.str s) (.int k)=aa (.str t):=by show(if 0<=(k:Int)then(s.at (k:Int).toNat).map V.str else ah)=_;rw[if_pos (by exact g9 _),jC,e];rfl
end
section
variable{cl:Fn->List V->H->aB V}{F:List V}{h:H}{c:CS}{s l:List CS}{Q:RS->Prop}
theorem S.ba(q:Wp (aV cl (c::(s++l)) F h) Q):Wp (aV cl (c::s++l) F h) Q:=q
theorem S.N(q:Wp (aV cl l F h) Q):Wp (aV cl ([]++l) F h) Q:=q
end
section
variable{h:H}{x y:Int}{s t:aC}
theorem O.add:jW .add (.int x) (.int y) h=.ok (.int (x+y)) h:=rfl
theorem O.sub:jW .sub (.int x) (.int y) h=.ok (.int (x-y)) h:=rfl
theorem A.add:jZ .add (.int x) (.int y) h=.ok (.int (x+y)) h:=rfl
theorem A.sub:jZ .sub (.int x) (.int y) h=.ok (.int (x-y)) h:=rfl
theorem O.bb:dE .eq h (.str s) (.str t)=aa (s==t):=rfl
theorem O.xc:dE .ne h (.str s) (.str t)=aa (!(s==t)):=rfl
theorem O.f7:dE .eq h (.int x) (.int y)=aa (x==y):=rfl
theorem O.z8:dE .ne h (.int x) (.int y)=aa (!(x==y)):=rfl
theorem O.lt:dE .lt h (.int x) (.int y)=aa (aZ (x<y)):=rfl
theorem O.gt:dE .gt h (.int x) (.int y)=aa (aZ (y<x)):=rfl
theorem O.ge:dE .ge h (.int x) (.int y)=aa (aZ (y<=x)):=rfl
theorem O.jv(e:gh s l=aa b):dE .f9 h (.str s) (.Z l)=aa b:=e
theorem O.zc(e:gh s l=aa b):dE .lS h (.str s) (.Z l)=aa (!b):=by show(gh s l).map _=_;rw[e];rfl
theorem O.Dc:dE .qA h .none .none=aa aj:=rfl
theorem O.RH:dE .qA h (.int x) .none=aa au:=rfl
theorem O.D3:dE .qA h (.Z l) .none=aa au:=rfl
theorem O.head(e:s.head=aa b):rK (.str s) (.int 1) h=.ok (.str b) h:=jg e
theorem O.Iz:lu .iV [.Z l] h=.ok (.bool aj) h:=rfl
theorem O.Kq:lu .iV [.int x] h=.ok (.bool au) h:=rfl
theorem O.VK:lu .iV [.none] h=.ok (.bool au) h:=rfl
theorem T.bool(e:b=c):truthy h (.bool b)=aa c:=congrArg aa e
theorem I.t0:dy h (.Z (v::l)) (.int 0)=aa v:=rfl
theorem I.t1:dy h (.Z (v::a::l)) (.int 1)=aa a:=rfl
theorem I.t2:dy h (.Z (v::b::a::l)) (.int 2)=aa a:=rfl
theorem I.t3:dy h (.Z (v::b::c::a::l)) (.int 3)=aa a:=rfl
theorem I.t4:dy h (.Z (v::b::c::d::a::l)) (.int 4)=aa a:=rfl
theorem I.t5:dy h (.Z (v::b::c::d::e::a::l)) (.int 5)=aa a:=rfl
end
theorem dg(e:F[i]?=aa v)(p:gB v=aj):getL F i=aa v:=by unfold getL;rw[e];induction v using V.casesOn<;>first|rfl|injection p
noncomputable def P.pl:P->Bool|.c v=>gB v|_=>aj
theorem Tu{op:Op}:op.cS.all P.pl=aj:=by induction op with|ret x=>induction x<;>rfl|_=>rfl
theorem IQ{h:H}{op:Op}{k:Nat}{q:P}{u:V}(b:op.cS[k]?=aa q)(a:PE h q u):gB u=aj:=by induction q with|c v=>exact(a:u=v)▸fN.mp Tu _ (cW b)|J=>refine ay a ?_;try clear a;rintro i rfl _;rfl|_=>cases a;rfl
theorem P.count(l:List P):(l.flatMap P.bR).length<=l.length:=by induction l with|nil=>exact cF _|cons p l a=>(have:p.bR.length<=1:=by induction p with|r=>exact cF _|o x=>induction x<;>exact cJ rfl|_=>exact lC _);simp only[abl,cZ,mZ];lia
theorem Fd{h:H}{L:List Nat}{r:Nat}:h++[.list (nl L++[.int r])]=h++[.list (nl (L++[r]))]:=congrArg (λl=>h++[O.list l]) (by unfold nl;rw[l8];rfl)
theorem FG{h:H}{L l:List Nat}(e:l=[]):h++[.list (nl L)]=h++[.list (nl (L++l))]:=by rw[e,iD]
theorem Ab(z:1<=n)(e:bx h op v):aF n .ug [v] h=.ok (.ref h.length) (h++[.list (nl op.bR)]):=by
 refine cu (Ao op) λs B C D=>ay e ?_;rintro vs rfl e;have G:=qx op;refine da (F:=[.Z (.str op.bJ::vs),.U,.U,.U,.U,.U]) (R:=λr=>r=_) z rfl rfl (S.D (E.aW E.nil) (S.D (E.Y E.gl (E.Y (E.af rfl) E.J rfl) (vz B)) (S.fP op.cS.length (λk F j=>∃a b c,F=[.Z (.str op.bJ::vs),.ref h.length,.str s,a,b,c]/\j=h++[.list (nl ((op.cS.take k).flatMap P.bR))]) (E.bi (E.cons (E.af rfl) E.nil) (len_str C)) (by exact bD (by assumption) (by rfl)) ⟨_,_,_,rfl,rfl⟩ ?_ ?_)));·intro k F j x i;refine gM i ?_;(try clear i;rintro a b c rfl rfl);have⟨q,u,l,w,p⟩:=gy.cp e x;generalize t:(op.cS.take k).flatMap P.bR=L;(have y:(nl L).length<1000:=by have:=P.count (op.cS.take k);rw[t,yw]at this;unfold nl;rw[d5];lia);have d:=zX (h:=h++[.list (nl L)]) (D k q l);have f:=AV (h:=h++[.list (nl L)]) (s:=op.bJ) w (by exact mF (by assumption) (by assumption) _ (by rfl));(have tk:op.cS.take (k+1)=op.cS.take k++[q]:=by rw[lD,l];rfl);have mk:=lX (h:=h++[.list (nl L)]) (m:=.fF) dJ rfl;have g:=nT (cl:=aF (n-1)) (h:=h++[.list (nl L)]) (v:=u) dJ y;rw[Ex]at g;rw[tk,NG,t];induction q with|r r=>cases p;refine S.D (E.Y (E.af rfl) (E.aN (E.af rfl) E.J O.add) f) (S.bQ (E.bo (E.ig (E.ao (E.Y (E.af rfl) (E.af rfl) d) E.str O.bb) (T.bool rfl))) (T.bool rfl) (S.ba (S.cO (E.bH (E.af rfl) mk (E.cons (E.af rfl) E.nil) g) (S.N (S.nil ?_)))));exact⟨_,_,_,rfl,Fd⟩|o r=>cases p;(induction r with|none=>refine S.D (E.Y (E.af rfl) (E.aN (E.af rfl) E.J O.add) f) (S.a8 (E.bo (E.dN (E.ao (E.Y (E.af rfl) (E.af rfl) d) E.str O.bb) (T.bool rfl) (E.dO (E.bo (E.dN (E.ao (E.Y (E.af rfl) (E.af rfl) d) E.str O.bb) (T.bool rfl) (E.dO (E.ao (E.af rfl) E.J O.ge))))))) (T.bool rfl) (S.ba (S.a8 (E.ao (E.Y (E.af rfl) (E.af rfl) d) E.str O.bb) (T.bool rfl) (S.ba (S.a8 (E.ao (E.Y (E.af rfl) (E.af rfl) d) E.str O.bb) (T.bool rfl) (S.ba (S.a8 (E.ao (E.Y (E.af rfl) (E.af rfl) d) E.str O.bb) (T.bool rfl) (S.N (S.N (S.N (S.N (S.nil ?_))))))))))));exact⟨_,_,_,rfl,FG rfl⟩|some r=>refine S.D (E.Y (E.af rfl) (E.aN (E.af rfl) E.J O.add) f) (S.bQ (E.bo (E.dN (E.ao (E.Y (E.af rfl) (E.af rfl) d) E.str O.bb) (T.bool rfl) (E.dO (E.bo (E.dN (E.ao (E.Y (E.af rfl) (E.af rfl) d) E.str O.bb) (T.bool rfl) (E.dO (E.ao (E.af rfl) E.J O.ge))))))) (T.bool rfl) (S.ba (S.cO (E.bH (E.af rfl) mk (E.cons (E.af rfl) E.nil) g) (S.N (S.nil ?_)))));exact⟨_,_,_,rfl,Fd⟩)|_=>refine S.D (E.Y (E.af rfl) (E.aN (E.af rfl) E.J O.add) f) (S.a8 (E.bo (E.dN (E.ao (E.Y (E.af rfl) (E.af rfl) d) E.str O.bb) (T.bool rfl) (E.dO (E.bo (E.ig (E.ao (E.Y (E.af rfl) (E.af rfl) d) E.str O.bb) (T.bool rfl)))))) (T.bool rfl) (S.ba (S.a8 (E.ao (E.Y (E.af rfl) (E.af rfl) d) E.str O.bb) (T.bool rfl) (S.ba (S.a8 (E.ao (E.Y (E.af rfl) (E.af rfl) d) E.str O.bb) (T.bool rfl) (S.ba (S.a8 (E.ao (E.Y (E.af rfl) (E.af rfl) d) E.str O.bb) (T.bool rfl) (S.N (S.N (S.N (S.N (S.nil ?_))))))))))));exact⟨_,_,_,rfl,FG rfl⟩
 ·intro F j i;refine gM i ?_;(try clear i;rintro a b c rfl rfl);refine S.ret (E.af rfl) ?_;rw[rh];rfl
theorem P.IL(q:P):(q.L=[]/\(∀h v,PE h q v->∀h',PE h' q v)/\(q.jr==.lq)=au/\(q.jr==.u3)=au/\(q.jr==.qf)=au/\(q.jr==.tD)=au)\/(∃r,q=.j r)\/∃l,q=.J l:=by induction q with|j r=>exact .inr (.inl ⟨_,rfl⟩)|J r=>exact .inr (.inr ⟨_,rfl⟩)|_=>exact .inl ⟨rfl,λ_ _ e _=>e,rfl,rfl,rfl,rfl⟩
theorem P.AE{l:List P}(c:∀p∈l,p.L.length<=4):(l.flatMap P.L).length<=l.length*4:=by induction l with|nil=>exact cF _|cons p l d=>have a:=c p (.head _);have b:=d λq m=>c q (.tail _ m);simp only[abl,cZ,mZ];lia
noncomputable def qb(op:Op):Prop:=∀p∈op.cS,p.L.length<=4
theorem Xn{h:H}{L l:List Nat}:h++[.list (nl L++nl l)]=h++[.list (nl (L++(l++[])))]:=congrArg (λl=>h++[O.list l]) (by unfold nl;rw[iD,l8])
theorem xu(D:1<=n){h:H}{op:Op}(e:bx h op v)(x:qb op):aF n .q6 [v] h=.ok (.ref h.length) (h++[.list (nl op.L)]):=by
 refine cu (Ao op) λs J M N=>?_;refine ay e ?_;rintro vs rfl e;have sm:=qx op;have hv:=e.bN;refine da (F:=[.Z (.str op.bJ::vs),.U,.U,.U,.U,.U]) (b:=JQ) (R:=λr=>r=_) D rfl rfl ?_;refine S.D (E.aW E.nil) (S.D (v:=.str s) (E.Y E.gl (E.Y (E.af rfl) E.J rfl) (vz J)) ?_);refine S.fP op.cS.length (λk F t=>∃a b c,F=[.Z (.str op.bJ::vs),.ref h.length,.str s,a,b,c]/\t=h++[.list (nl ((op.cS.take k).flatMap P.L))]) (E.bi (E.cons (E.af rfl) E.nil) (len_str M)) (by exact bD (by assumption) (by rfl)) ⟨_,_,_,rfl,rfl⟩ ?_ ?_;·intro k F t C i;refine gM i ?_;(try clear i;rintro a b c rfl rfl);refine cG (gy.cp e C) λq u j z g=>?_;(have tk:op.cS.take (k+1)=op.cS.take k++[q]:=by rw[lD,j];rfl);(have w:(nl ((op.cS.take k).flatMap P.L)).length<900:=by have:=P.AE (l:=op.cS.take k) λp m=>x p (Gh m);rw[yw]at this;unfold nl;rw[d5];lia);have y:=x q (cW j);generalize B:(op.cS.take k).flatMap P.L=L at w⊢;have d:=zX (h:=h++[.list (nl L)]) (N k q j);have o:=AV (h:=h++[.list (nl L)]) (s:=op.bJ) z (by exact mF (by assumption) (by assumption) _ (by rfl));rw[tk,NG,B];rcases q.IL with⟨Q,_,U,W,Y,Z⟩|⟨r,rfl⟩|⟨G,rfl⟩;(·refine S.D (E.Y (E.af rfl) (E.aN (E.af rfl) E.J O.add) o) (S.a8 (E.ao (E.Y (E.af rfl) (E.af rfl) d) E.str O.bb) (T.bool U) (S.ba (S.a8 (E.ao (E.Y (E.af rfl) (E.af rfl) d) E.str O.bb) (T.bool W) (S.ba (S.a8 (E.ao (E.Y (E.af rfl) (E.af rfl) d) E.str O.bb) (T.bool Y) (S.ba (S.a8 (E.ao (E.Y (E.af rfl) (E.af rfl) d) E.str O.bb) (T.bool Z) (S.N (S.N (S.N (S.N (S.nil ?_))))))))))));exact⟨_,_,_,rfl,FG (by show q.L++[]=[];rw[Q];rfl)⟩);(·cases g;have mk:=lX (h:=h++[.list (nl L)]) (m:=.fF) dJ rfl;have f:=nT (cl:=aF (n-1)) (h:=h++[.list (nl L)]) (v:=.int r) dJ (by exact bD (by assumption) (by rfl));rw[Ex]at f;refine S.D (E.Y (E.af rfl) (E.aN (E.af rfl) E.J O.add) o) (S.bQ (E.ao (E.Y (E.af rfl) (E.af rfl) d) E.str O.bb) (T.bool rfl) (S.ba (S.cO (E.bH (E.af rfl) mk (E.cons (E.af rfl) E.nil) f) (S.N (S.nil ?_)))));exact⟨_,_,_,rfl,Fd⟩);·refine ay g ?_;rintro i rfl g;have y:G.length<=4:=y;have f:=T9 (h:=h++[.list (nl L)]) dJ (gC g) (by unfold nl at w⊢;simp only[d5]at w⊢;lia);rw[Ex]at f;refine S.D (E.Y (E.af rfl) (E.aN (E.af rfl) E.J O.add) o) (S.a8 (E.ao (E.Y (E.af rfl) (E.af rfl) d) E.str O.bb) (T.bool rfl) (S.ba (S.bQ (E.ao (E.Y (E.af rfl) (E.af rfl) d) E.str O.bb) (T.bool rfl) (S.ba (S.fs rfl (E.af rfl) f (S.N (S.N (S.nil ?_))))))));exact⟨_,_,_,rfl,Xn⟩
 ·intro F t i;refine gM i ?_;(try clear i;rintro a b c rfl rfl);refine S.ret (E.af rfl) ?_;rw[rh];rfl
noncomputable def Op.wr:Op->Option Nat|.set r _=>r|.fg r _=>r|.dC r _=>r|.aN _ r _ _=>r|.ao _ r _ _=>r|.bZ r _=>r|.bn r _=>r|.fS r _=>r|.dU r _=>r|_=>ah
noncomputable def Op.ui:Op->Bool|.fz ..=>au|.dA ..=>au|.ret ..=>au|_=>aj
theorem VX(op:Op):∃b,gh op.bJ [.str .fG,.str .kz,.str .IU,.str .hY,.str .KV]=aa b/\(!b)=op.ui:=by induction op with|br t=>cases t<;>exact(bC _ rfl rfl)|_=>exact(bC _ rfl rfl)
theorem Kg(d:1<=n)(e:bx h op v):aF n .Dp [v] h=.ok (.bool op.ui) h:=by obtain⟨vs,rfl,e⟩:=e;refine da (F:=[.Z (.str op.bJ::vs)]) (b:=Mp) (R:=λr=>r=_) d rfl rfl ?_;refine ay (VX op) λb a c=>?_;rw[<-c];exact S.ret (E.ao (E.Y (E.af rfl) E.J rfl) E.gl (O.zc a)) rfl
set_option tactic.hygienic true in theorem Ty(op:Op):∃s s',op.bJ.qh=aa s/\s.head=aa s'/\((gh s' [.str .lK,.str .FV]=aa aj/\∃(r:Nat)(l:List P),op.wr=aa r/\op.cS=.w r::l)\/(gh s' [.str .lK,.str .FV]=aa au/\op.wr=ah)):=by
 induction op;case br t _ _=>induction t<;>exact(gv _ _ rfl rfl (.inr ⟨rfl,rfl⟩))
 case gD|fz|ee|dA|ret|dj=>all_goals exact(gv _ _ rfl rfl (.inr ⟨rfl,rfl⟩))
 all_goals exact(gv _ _ rfl rfl (.inl ⟨rfl,_,_,rfl,rfl⟩))
theorem xD(g:1<=n)(e:bx h op v):aF n .tu [v] h=.ok (.int (kR op.wr)) h:=by
 refine ay e ?_;rintro vs rfl e;refine da (F:=[.Z (.str op.bJ::vs)]) (b:=Ld) (R:=λr=>r=_) g rfl rfl ?_;refine cG (Ty op) λs s' f a b=>?_;rcases b with⟨b,r,l,c,d⟩|⟨b,c⟩;·rw[d]at e;induction vs with|nil=>exact e.elim|cons u vs=>cases e.1;refine S.bQ (E.ao (E.lh (E.Y E.gl (E.Y (E.af rfl) E.J rfl) (vz f)) E.J (O.head a)) (E.Z (E.cons E.str (E.cons E.str E.nil))) (O.jv b)) rfl (S.ba (S.ret (E.Y (E.af rfl) E.J I.t1) ?_));rw[c];rfl
 ·refine S.a8 (E.ao (E.lh (E.Y E.gl (E.Y (E.af rfl) E.J rfl) (vz f)) E.J (O.head a)) (E.Z (E.cons E.str (E.cons E.str E.nil))) (O.jv b)) rfl (S.N (S.ret (E.bn E.J) ?_));rw[c];rfl
noncomputable def P.fk(f:Nat->Nat):P->P|.j x=>.j (f x)|.J x=>.J (x.map f)|p=>p
noncomputable def Op.fk(f:Nat->Nat):Op->Op|.br t r x=>.br t r (f x)|.fz r j k l=>.fz r (f j) (f k) (f l)|.ee r x=>.ee r (x.map f)|.dA x=>.dA (f x)|op=>op
theorem Op.DO(f:Nat->Nat)(op:Op):(op.fk f).cS=op.cS.map (P.fk f):=by induction op<;>rfl
theorem Op.yr(f:Nat->Nat)(op:Op):(op.fk f).bJ=op.bJ:=by induction op<;>rfl
noncomputable def Er(p:Nat)(h:H):H:=h.set p (.dict [])
theorem Er.aW(e:aG (Er p h) i=aa l):aG h i=aa l/\p≠i:=by
 unfold Er at e;by_cases c:p=i;·subst c;have:=pN e;rw[ph (by have:=d8 e;simpa using this)]at this;cases this
 ·exact⟨by rwa [j8 c]at e,c⟩
theorem Er.dW(e:aG h i=aa l)(c:p≠i):aG (Er p h) i=aa l:=by unfold Er;rw[j8 c];exact e
theorem Er.set:Er p (h.set p o)=Er p h:=List.set_set ..
theorem Er.keep(k:a9 h h'):∀i l,aG (Er p h) i=aa l->aG (Er p h') i=aa l:=λi l e=>by have:=Er.aW e;exact Er.dW (k.aW this.1) this.2
theorem Er.UR(k:a9 h h'):∀i l,aG (Er p (Er q h)) i=aa l->aG (Er p (Er q h')) i=aa l:=λi l e=>by have a:=Er.aW e;exact Er.dW (Er.keep k i l a.1) a.2
theorem gy.nA:∀{p:List P}{v:List V}{q:P}{u:V},gy h p v->PE h q u->gy h (p++[q]) (v++[u])|[],v,_,_,E,b=>by(induction v using j4 with|nil=>exact⟨b,trivial⟩|cons u v=>exact nZ E)|q::p,v,_,_,E,b=>by induction v using j4 with|nil=>exact nZ E|cons u v=>exact⟨E.1,gy.nA E.2 b⟩
theorem Cs(e:aG h i=aa L)(a:L.length<1000):lu .nh [.ref i] h=.ok (.Z L) h:=(jg e).trans (qY a)
theorem Xs{h:H}{i j k:Nat}{L:List V}(e:aG h i=aa L)(g:L.length<1000)(d:j<1000)(f:k<1000):wJ (.ref i) (.int j) (.int k) h=.ok (.ref h.length) (h++[.list ((L.take k).drop j)]):=by
 have a:(j:Int)<2^60:=yu (eM.mpr d) (by decide);have b:(k:Int)<2^60:=yu (eM.mpr f) (by decide);have c:L.length<cM:=g;refine(jg e).trans ((rH ?_).trans ?_);·rw[decide_eq_true a,decide_eq_true b,decide_eq_true c,decide_eq_true (g9 j),decide_eq_true (g9 k)];rfl
 ·rw[jC,jC]
theorem Ek{op:Op}{q:P}(e:op.cS[k]?=aa q):op.L=(op.cS.take k).flatMap P.L++q.L++(op.cS.drop (k+1)).flatMap P.L:=by
 have b:=(dH.mp e);refine oE b λa h2=>?_;unfold Op.L;conv=>lhs;rw[<-NH k op.cS,List.drop_eq_getElem_cons a,h2]
 simp
theorem aaz{a:Type}(A B C:List a):((A++B++C).take (A.length+B.length)).drop A.length=B:=by
 rw[show A.length+B.length=(A++B).length by simp,List.take_left',List.drop_left'];·rfl
 ·rfl
inductive zY(f:Nat->Nat)(op:Op)(h:H):aB V->Prop|mk{u:V}{h':H}:a9 h h'->bx h' (op.fk f) u->(∀p<h.length,bx (Er p h') (op.fk f) u)->zY f op h (.ok u h')
theorem zY.d7(R:zY f op h r):∃u h',r=.ok u h'/\a9 h h'/\bx h' (op.fk f) u/\∀p<h.length,bx (Er p h') (op.fk f) u:=by induction R with|mk a b c=>exact Ay _ _ rfl a b c
noncomputable def nJ(op:Op)(k:Nat):Nat:=((op.cS.take k).flatMap P.L).length
inductive u1(f:Nat->Nat)(op:Op)(h:H)(a:Nat)(s:aC)(vs:List V):Nat->List V->H->Prop|mk{k:Nat}{hh:H}(x y z:V)(ws:List V):a9 h hh->aG hh h.length=aa (.str op.bJ::ws)->ws.length=k->(∀p≤h.length,gy (Er p (Er h.length hh)) ((op.cS.take k).map (P.fk f)) ws)->u1 f op h a s vs k [.Z (.str op.bJ::vs),.ref a,.str s,.ref h.length,.int (nJ op k),x,y,z] hh
structure k6(f:Nat->Nat)(op:Op)(h:H)(a:Nat)(s:aC)(vs:List V)(k:Nat)(ws:List V)(q:P)(u:V)(hh:H):Prop where
 K:a9 h hh
 hp:aG hh h.length=aa (.str op.bJ::ws)
 wl:ws.length=k
 pe:∀p≤h.length,gy (Er p (Er h.length hh)) ((op.cS.take k).map (P.fk f)) ws
 e1:op.cS[k]?=aa q
 e3:PE h q u
 e4:dy hh (.str s) (.int k)=aa (.str q.jr)
 e5:dy hh (.Z (.str op.bJ::vs)) (.int ((k:Int)+1))=aa u
 ha:aG hh a=aa (nl (op.L.map f))
 hj:op.L.length<100
 hk:k<100
section
variable{n m k a r:Nat}{f:Nat->Nat}{op:Op}{h hh h2:H}{s:aC}{vs ws:List V}{q:P}{u u' y z:V}{Q:RS->Prop}{js:List Nat}
theorem k6.nx(c:k6 f op h a s vs k ws q u hh):nJ op (k+1)=nJ op k+q.L.length:=by unfold nJ;rw[lD,c.e1,NG,cZ];exact congrArg (_+List.length ·) (iD _)
theorem k6.sp(c:k6 f op h a s vs k ws q u hh):op.L.length=nJ op k+q.L.length+((op.cS.drop (k+1)).flatMap P.L).length:=by rw[Ek c.e1,cZ,cZ];rfl
theorem k6.KY(c:k6 f op h a s vs k ws q u hh):h.length<hh.length:=d8 c.hp
theorem k6.bY(c:k6 f op h a s vs k ws q u hh)(g:∀F hh,u1 f op h a s vs (k+1) F hh->Q (.nx F hh))(b:a9 hh h2)(j:gB u'=aj)(i:∀p≤h.length,PE (Er p (Er h.length h2)) (q.fk f) u')(N:m=nJ op k+q.L.length):Wp (aV (aF n) [.cO (.bH (.af 3) .fF [(.af 6)])] [.Z (.str op.bJ::vs),.ref a,.str s,.ref h.length,.int (m:Nat),.int k,u',z] h2) Q:=by have d:=b.aW c.hp;rw[N,<-c.nx];refine S.cO (E.bH (E.af rfl) (lX d rfl) (E.cons (E.af (dg rfl j)) E.nil) (nT d (by rw[mZ,c.wl];exact dF (Gi c.hk) (cJ rfl)))) (S.nil (g _ _ (.mk _ _ _ (ws++[u']) ((c.K.trans b).set (cF _)) (i7 (d8 d)) (by rw[cZ,c.wl];rfl) λp e=>?_)));rw[Er.set,lD,c.e1,l8];exact((c.pe p e).B (Er.UR b)).nA (i p e)
theorem k6.j(c:k6 f op h a s vs k ws (.j r) u hh)(d:∀F hh,u1 f op h a s vs (k+1) F hh->Q (.nx F hh)):Wp (aV (aF n) (yg y6 3) [.Z (.str op.bJ::vs),.ref a,.str s,.ref h.length,.int (nJ op k),.int k,y,z] hh) Q:=by
 have b:u=.int r:=c.e3;subst b;have e:(nl (op.L.map f))[nJ op k]?=aa (.int (f r:Nat)):=by unfold nJ;rw[Ek c.e1];show(nl (((op.cS.take k).flatMap P.L++[r]++_).map f))[_]?=_;simp[nl]
 have g:nJ op k<1000:=dF (gF (c.sp▸di (eN _ _) (eN _ _)) c.hj) (cJ rfl);exact S.D (E.Y (E.af rfl) (E.aN (E.af rfl) E.J O.add) c.e5) (S.bQ (E.ao (E.Y (E.af rfl) (E.af rfl) c.e4) E.str O.bb) rfl (S.ba (S.D (E.Y (E.af rfl) (E.af rfl) (gL c.ha e g)) (S.ba (S.fs rfl E.J A.add (S.N (c.bY (m:=nJ op k+1) d .b8 rfl (λZ Z=>rfl) rfl)))))))
theorem k6.J(c:k6 f op h a s vs k ws (.J js) u hh)(q:js.length<=4)(j:∀F hh,u1 f op h a s vs (k+1) F hh->Q (.nx F hh)):Wp (aV (aF n) (yg y6 3) [.Z (.str op.bJ::vs),.ref a,.str s,.ref h.length,.int (nJ op k),.int k,y,z] hh) Q:=by
 refine ay c.e3 λi g e=>?_;subst g;have v:op.L.length=nJ op k+js.length+((op.cS.drop (k+1)).flatMap P.L).length:=c.sp;have r:=c.hj;have t:nJ op k<200:=by lia
 have b:(nl js).length=js.length:=d5 ..;have o:=tX (c.K.aW e) (by rw[b];lia);have d:=Xs (k:=nJ op k+(nl js).length) c.ha (by unfold nl;rw[d5,d5];exact bD (by assumption) (by rfl)) (by exact bD (by assumption) (by rfl)) (by rw[b];lia);have ct:(NJ (nJ op k) (NK (nJ op k+(nl js).length) (nl (op.L.map f))))=nl (js.map f):=by have:=aaz (nl (((op.cS.take k).flatMap P.L).map f)) (nl (js.map f)) (nl (((op.cS.drop (k+1)).flatMap P.L).map f));rw[Ek c.e1];show NJ _ (NK _ (nl (NL f (List.flatMap P.L (NK k op.cS)++js++_))))=_;simpa[nl,nJ]using this
 rw[ct]at d;exact S.D (E.Y (E.af rfl) (E.aN (E.af rfl) E.J O.add) c.e5) (S.a8 (E.ao (E.Y (E.af rfl) (E.af rfl) c.e4) E.str O.bb) rfl (S.ba (S.bQ (E.ao (E.Y (E.af rfl) (E.af rfl) c.e4) E.str O.bb) rfl (S.ba (S.D (E.oY (E.af rfl) (E.af rfl) (E.aN (E.af rfl) (E.bi (E.cons (E.af rfl) E.nil) o) O.add) d) (S.ba (S.fs rfl (E.bi (E.cons (E.af rfl) E.nil) (tX dJ (by unfold nl;rw[d5,d5];lia))) A.add (S.N (S.N (c.bY (m:=nJ op k+(nl (js.map f)).length) j .cA rfl (λp l=>⟨_,rfl,Er.dW (Er.dW dJ (l9 c.KY)) (l9 (gF l c.KY))⟩) (by unfold nl;rw[d5,d5];rfl)))))))))))
theorem k6.plain(c:k6 f op h a s vs k ws q u hh)(e:∀F hh,u1 f op h a s vs (k+1) F hh->Q (.nx F hh))(g:q.L=[])(l:∀h v,PE h q v->∀h',PE h' q v)(b:(q.jr==.lq)=au)(d:(q.jr==.u3)=au)(m:(q.jr==.qf)=au)(o:(q.jr==.tD)=au):Wp (aV (aF n) (yg y6 3) [.Z (.str op.bJ::vs),.ref a,.str s,.ref h.length,.int (nJ op k),.int k,y,z] hh) Q:=by
 have i:q.fk f=q:=by induction q with|j=>exact abm (b)|J=>exact abm (d)|_=>rfl
 exact S.D (E.Y (E.af rfl) (E.aN (E.af rfl) E.J O.add) c.e5) (S.a8 (E.ao (E.Y (E.af rfl) (E.af rfl) c.e4) E.str O.bb) (T.bool b) (S.ba (S.a8 (E.ao (E.Y (E.af rfl) (E.af rfl) c.e4) E.str O.bb) (T.bool d) (S.ba (S.a8 (E.ao (E.Y (E.af rfl) (E.af rfl) c.e4) E.str O.bb) (T.bool m) (S.ba (S.a8 (E.ao (E.Y (E.af rfl) (E.af rfl) c.e4) E.str O.bb) (T.bool o) (S.N (S.N (S.N (S.N (c.bY e .b8 (IQ c.e1 c.e3) (λZ Z=>by rw[i];exact l _ _ c.e3 _) (by rw[g];rfl)))))))))))))
end
theorem Hj(M:1<=n)(f:Nat->Nat)(e:bx h op v)(o:qb op)(D:aG h a=aa (nl (op.L.map f))):zY f op h (aF n .BN [v,.ref a] h):=by
 refine cu (Ao op) λs Q R U=>ay e ?_;rintro vs rfl e;have W:=qx op;have G:op.L.length<100:=by have:=P.AE o;unfold Op.L;lia
 refine o5 (F:=[.Z (.str op.bJ::vs),.ref a,.U,.U,.U,.U,.U,.U]) M rfl rfl λKK C=>S.D (E.Y E.gl (E.Y (E.af rfl) E.J rfl) (vz Q)) (S.D (E.aW (E.cons (E.Y (E.af rfl) E.J rfl) E.nil)) (S.D E.J ?_));refine S.w0 op.cS.length (u1 f op h a s vs) (E.bi (E.cons (E.af rfl) E.nil) (len_str R)) (dF W (cJ rfl)) (.mk _ _ _ [] .cA dJ rfl (λ_ _=>trivial)) ?_ ?_;·intro J k F hh j L i;induction i with|@mk hh x y z ws d m t b=>refine cG (gy.cp e L) λq u g w B=>?_;have c:k6 f op h a s vs k ws q u hh:=⟨d,m,t,b,g,B,zX (U k q g),AV w (by exact mF (by assumption) (by assumption) _ (by rfl)),d.aW D,G,by exact mF (by assumption) (by assumption) _ (by rfl)⟩;rcases q.IL with⟨Y,Z,z4,z5,z6,z7⟩|⟨r,rfl⟩|⟨js,rfl⟩;(·exact c.plain j Y Z z4 z5 z6 z7);(·exact c.j j);·exact c.J (o _ (cW g)) j
 ·intro F hh i;induction i with|mk x y z ws d m t b=>rw[rh]at b;refine S.ret (E.bi (E.cons (E.af rfl) E.nil) (Cs m (by rw[mZ];lia))) (C _ (.mk d ⟨ws,by rw[Op.yr],?_⟩ λp N=>⟨ws,by rw[Op.yr],?_⟩));(·rw[Op.DO];exact(b _ (cF _)).B λi l e=>(Er.aW (Er.aW e).1).1);·rw[Op.DO];exact(b p (hG N)).B λi l e=>Er.dW (Er.aW (Er.aW e).1).1 (Er.aW e).2
noncomputable def DI(d:List (V×V))(g:Int->Option V):Prop:=(∀p∈d,∃i:Int,p.1=.int i)/\∀i:Int,eH d (.int i)=g i
theorem DI.nil:DI [] λ_=>ah:=⟨λ_ m=>(nomatch m),λ_=>rfl⟩
theorem vm:iq (.int i) (.int j)=(i==j):=rfl
theorem DI.ox(D:DI d g)(a:-1000<i)(b:i<1000):eZ d (.int i)=aj:=by refine kI.mpr ⟨rfl,?_⟩;rw[fN];intro p m;refine oE (D.1 p m) λj e=>?_;rw[e];rfl
theorem H4:(sG k v p).1=p.1:=by
 unfold sG;by_cases c:iq p.1 k=aj;·rw[if_pos c]
 ·rw[if_neg c]
theorem Q9(f:∀p∈d,∃i:Int,p.1=.int i):eH (gT d (.int i) v) (.int j)=if j=i then aa v else eH d (.int j):=by
 have g:¬(eH d (.int i)).isSome=aj->d.find? (λp=>iq p.1 (.int i))=ah:=λc=>NM.mp ((uy ..).symm▸c);unfold gT;by_cases c:(eH d (.int i)).isSome=aj;·rw[if_pos c];show((d.map (sG (.int i) v)).find? _).map _=_;rw[abn,show(λp:V×V=>iq p.1 (.int j))∘sG (.int i) v=λp=>iq p.1 (.int j)from funext λp=>congrArg (iq · _) H4];cases z:d.find? (λp=>iq p.1 (.int j))with|none=>have a:eH d (.int j)=ah:=congrArg (Gj sP) z;by_cases q:j=i;(·rw[<-q,a]at c;injection c);·rw[if_neg q,a];rfl|some p=>have e:=NO z;refine oE (f p (NP z)) λk b=>?_;have a:eH d (.int j)=aa p.2:=congrArg (Gj sP) z;rw[b,vm]at e;rw[a];show aa (sG (.int i) v p).2=_;unfold sG;rw[b,vm,cr e];by_cases q:j=i;(·rw[if_pos q,if_pos (beq_iff_eq.mpr q)]);·rw[if_neg q,if_neg (λh=>q (cr h))]
 ·rw[if_neg c];show((d++[(V.int i,v)]).find? _).map _=_;rw[List.find?_append,vJ,vm];by_cases q:j=i;(·rw[if_pos q,q,g c,beq_self_eq_true];rfl);·rw[if_neg q,beq_eq_false_iff_ne.mpr (hH q)];exact congrArg (Gj _) (Option.or_none ..)
theorem Yk:∀p∈gT d k v,p.1=k\/∃q∈d,q.1=p.1:=by
 intro p m;unfold gT at m;by_cases c:(eH d k).isSome=aj;·rw[if_pos c]at m;exact ay (gO.mp m) λq m e=>.inr ⟨q,m,e▸H4.symm⟩
 ·rw[if_neg c]at m;exact(d6.mp m).elim (λm=>.inr ⟨p,m,rfl⟩) λm=>.inl (congrArg Prod.fst (dq.mp m))
theorem DI.set(D:DI d g):DI (gT d (.int i) v) λj=>if j=i then aa v else g j:=by
 refine⟨λp m=>?_,λj=>by rw[Q9 D.1,D.2]⟩;rcases Yk p m with h|⟨q,m,e⟩;·exact⟨i,h⟩
 ·refine oE (D.1 q m) λk a=>?_;exact⟨k,e▸a⟩
theorem DI.Eb(D:DI d g):DI (qo d (.int i)) λj=>if j=i then ah else g j:=by refine⟨λp m=>D.1 p ((Gk.mp m).1),λj=>?_⟩;show eH _ _=if j=i then ah else g j;rw[<-D.2];have f:=D.1;clear D;unfold eH qo;induction d with|nil=>split<;>rfl|cons p d b=>refine oE (f p (.head _)) λk e=>?_;have b:=b λq m=>f q (.tail _ m);obtain⟨l,n⟩:=p;cases e;rw[BU,vm,vJ,vm];by_cases c:k=i;(·subst c;rw[if_neg (by simp),b];by_cases a:j=k;(·rw[if_pos a,if_pos a]);·rw[if_neg a,if_neg a,show(k==j)=au by simpa usingλh=>a h.symm]);·rw[if_pos (by simp[c]),vJ,vm];by_cases a:k=j;(·subst a;rw[if_neg c];simp);·rw[show(k==j)=au by simpa using a];exact b
theorem oy(e:h[i]?=aa (.dict d)):cN h i=aa d:=Na e
theorem wD(e:h[i]?=aa (.list d)):aG h i=aa d:=Cn e
theorem a9.cp{a b:H}{i:Nat}{o:O}(p:a9 a b)(e:a[i]?=aa o):b[i]?=aa o:=by refine oE p ?_;try clear p;rintro x rfl;rw[nY (dH.mp e).1];exact e
theorem a9.bF{a b:H}{i:Nat}{d:List (V×V)}(p:a9 a b)(e:cN a i=aa d):cN b i=aa d:=oy (p.cp (jH e))
section
variable{h:H}{i:Nat}{d:List (V×V)}{g:Int->Option V}{cl:Fn->List V->H->aB V}
theorem oz(e:cN h i=aa d):i<h.length:=(dH.mp (jH e)).1
theorem AK:cN (h++[.dict d]) h.length=aa d:=oy (by rw[m5 (cF _),qi];rfl)
theorem tV(hi:i<h.length):cN (h.set i (.dict d)) i=aa d:=oy (ph hi)
theorem lZ(e:a≠i):cN (h.set a o) i=cN h i:=by unfold cN;rw[ja e]
theorem uY(e:cN h i=aa d)(a:xR m=aj):mR h m (.ref i)=aa .dict:=by show(h[i]?.bind λo=>zG h m i o)=_;rw[jH e];exact if_pos a
theorem BC(e:cN h i=aa d):oR cl .dict (.ref i) m l h=AU m i d l h:=jg e
theorem ML(e:cN h i=aa d)(D:DI d g)(a:-1000<k)(b:k<1000):oR cl .dict (.ref i) .gY [.int k] h=.ok ((g k).getD .none) h:=by rw[BC e,<-D.2];exact rH (by rw[D.ox a b];rfl)
theorem AP(e:cN h i=aa d)(D:DI d g)(a:-1000<k)(b:k<1000):oR cl .dict (.ref i) .gY [.int k,v] h=.ok ((g k).getD v) h:=by rw[BC e,<-D.2];show zS d (.int k) v h=_;exact rH (by rw[D.ox a b];rfl)
theorem Qk(e:cN h i=aa d)(D:DI d g)(a:-1000<k)(b:k<1000)(f:d.length<1000)(c:g k=aa v):oR cl .dict (.ref i) .jX [.int k] h=.ok v (h.set i (.dict (qo d (.int k)))):=by rw[BC e];show gd (eZ d (.int k)&&tf (.int k)&&aZ (d.length<cM)) (ob (eH d (.int k)) λv=>.ok v (h.set i (.dict (qo d (.int k)))))=_;exact(rH (by rw[D.ox a b,decide_eq_true (show d.length<cM from f)];rfl)).trans (jg ((D.2 k).trans c))
theorem xi(e:cN h i=aa d)(D:DI d g)(a:-1000<k)(b:k<1000):dE .f9 h (.int k) (.ref i)=aa (g k).isSome:=by show((cN h i).bind λl=>if eZ l (kk (.int k))then aa (eH l (kk (.int k))).isSome else ah)=_;rw[e];show(if eZ d (.int k)then aa (eH d (.int k)).isSome else ah)=_;rw[D.ox a b,D.2];rfl
theorem CQ(e:cN h i=aa d)(D:DI d g)(a:-1000<k)(b:k<1000):dE .lS h (.int k) (.ref i)=aa (!(g k).isSome):=by show(dE .f9 h (.int k) (.ref i)).map _=_;rw[xi e D a b];rfl
theorem xr(e:cN h i=aa d)(D:DI d g)(a:-1000<k)(b:k<1000)(c:g k=aa v):dy h (.ref i) (.int k)=aa v:=AJ e (D.ox a b) ((D.2 k).trans c)
theorem zE(e:cN h i=aa d)(D:DI d g)(a:-1000<k)(b:k<1000)(c:d.length<1000):jk h (.ref i) (.int k) v=aa (h.set i (.dict (gT d (.int k) v))):=E7 e (D.ox a b) c
theorem tS(e:aG h i=aa L)(a:k<L.length)(b:k<1000):jk h (.ref i) (.int k) v=aa (h.set i (.list (L.set k v))):=by show(match aG h i with|aa l=>(fb (.int k)).bind λk=>if 0<=k/\k<(cM:Int)/\k.toNat<l.length then aa (h.set i (.list (l.set k.toNat v)))else ah|ah=>(cN h i).bind _)=_;rw[e];refine(FM).trans ?_;rw[if_pos (eA (by exact g9 _) (by show(k:Int)<(1000:Int);exact eM.mpr (by assumption)) (by exact a)),jC]
theorem Bd:(gT d k v).length<=d.length+1:=by
 unfold gT;by_cases c:(eH d k).isSome=aj;·rw[if_pos c,d5];exact lE _
 ·rw[if_neg c,cZ];exact cF _
end
noncomputable def P.kb(f:Nat->Nat):P->P|.r x=>.r (f x)|.o (aa x)=>.o (aa (f x))|p=>p
noncomputable def Op.kb(f:Nat->Nat):Op->Op|.dC d a=>.dC d (f a)|.aN o d a b=>.aN o d (f a) (f b)|.ao o d a b=>.ao o d (f a) (f b)|.bZ d a=>.bZ d (f a)|.bn d a=>.bn d (f a)|.dU d a=>.dU d (f a)|.gD a b=>.gD (f a) (f b)|.br t r x=>.br t (f r) x|.fz r j k l=>.fz (f r) j k l|.ee r x=>.ee (f r) x|.ret (aa r)=>.ret (aa (f r))|op=>op
set_option tactic.hygienic true in theorem Op.U7(f:Nat->Nat)(op:Op):(op.kb f).cS=op.cS.map (P.kb f):=by
 induction op;case ret r=>induction r<;>rfl
 all_goals rfl
set_option tactic.hygienic true in theorem Op.Ss(f:Nat->Nat)(op:Op):(op.kb f).bJ=op.bJ:=by
 induction op;case ret r=>induction r<;>rfl
 all_goals rfl
theorem PD(j:1<=n)(f:Nat->Nat)(e:PE h q u)(s:gB u=aj)(i:cN h m=aa d)(D:DI d g)(t:g (-1)=ah)(p:∀r∈q.bR,r<1000/\g r=aa (.int (f r:Nat))):∃w,aF n .Cj [.str q.jr,u,.ref m] h=.ok w h/\(∀c,PE c q u->PE c (q.kb f) w)/\gB w=aj:=by
 have mk:=uY (m:=.gY) i rfl;have y:(q.jr==.jO)=au->(q.jr==.nu)=au->(q.jr==.qV)=au->(q.jr==.Ee)=au->(q.jr==.tD)=au->q.kb f=q->∃w,aF n .Cj [.str q.jr,u,.ref m] h=.ok w h/\(∀c,PE c q u->PE c (q.kb f) w)/\gB w=aj:=by intro z B C G J L;refine(d0 u ?_ (λZ e=>by rw[L];exact e) s);refine da (F:=[.str q.jr,u,.ref m,.U]) (b:=qU) (R:=λr=>r=.ok u h) j rfl rfl ?_;delta qU;refine S.a8 (E.bo (E.dN (E.ao (E.af rfl) E.str O.bb) (T.bool z) (E.dO (E.ao (E.af rfl) E.str O.bb)))) (T.bool B) (S.N (S.a8 (E.ao (E.af rfl) E.str O.bb) (T.bool C) (S.N (S.a8 (E.ao (E.af rfl) E.str O.bb) (T.bool G) (S.N (S.a8 (E.ao (E.af rfl) E.str O.bb) (T.bool J) (S.N (S.ret (E.af (dg rfl s)) ?_))))))));rfl
 induction q with|r r=>cases e;refine oA (p r (.head _)) λx l=>(d0 (.int (f r:Nat)) ?_ (λZ Z=>rfl) rfl);refine da (b:=qU) (R:=λr=>r=_) j rfl rfl ?_;have a:=AP (cl:=aF (n-1)) i D (k:=r) (v:=.int r) (by exact iU) (by exact eM.mpr (by assumption));rw[l]at a;delta qU;refine S.bQ (E.bo (E.ig (E.ao (E.af rfl) E.str O.bb) (T.bool rfl))) (T.bool rfl) (S.ba (S.ret (E.bH (E.af rfl) mk (E.cons (E.af rfl) (E.cons (E.af rfl) E.nil)) a) ?_));rfl|o r=>cases e;(induction r with|none=>refine(d0 (.int (-1)) ?_ (λZ Z=>rfl) rfl);refine da (F:=[.str .nu,.int (-1),.ref m,.U]) (b:=qU) (R:=λr=>r=_) j rfl rfl ?_;have a:=AP (cl:=aF (n-1)) i D (k:=-1) (v:=.int (-1)) (by decide) (by decide);rw[t]at a;delta qU;refine S.bQ (E.bo (E.dN (E.ao (E.af rfl) E.str O.bb) (T.bool rfl) (E.dO (E.ao (E.af rfl) E.str O.bb)))) (T.bool rfl) (S.ba (S.ret (E.bH (E.af rfl) mk (E.cons (E.af rfl) (E.cons (E.af rfl) E.nil)) a) ?_));rfl|some r=>refine oA (p r (.head _)) λx l=>(d0 (.int (f r:Nat)) ?_ (λZ Z=>rfl) rfl);refine da (F:=[.str .nu,.int r,.ref m,.U]) (b:=qU) (R:=λr=>r=_) j rfl rfl ?_;have a:=AP (cl:=aF (n-1)) i D (k:=r) (v:=.int r) (by exact iU) (by exact eM.mpr (by assumption));rw[l]at a;delta qU;refine S.bQ (E.bo (E.dN (E.ao (E.af rfl) E.str O.bb) (T.bool rfl) (E.dO (E.ao (E.af rfl) E.str O.bb)))) (T.bool rfl) (S.ba (S.ret (E.bH (E.af rfl) mk (E.cons (E.af rfl) (E.cons (E.af rfl) E.nil)) a) ?_));rfl)|_=>exact y rfl rfl rfl rfl rfl rfl
theorem V7(hn:2<=n)(f:Nat->Nat)(e:bx h op v)(Z:cN h m=aa d)(D:DI d g)(U:g (-1)=ah)(Y:∀r∈op.bR,r<1000/\g r=aa (.int (f r:Nat))):∃u h',aF n .FN [v,.ref m] h=.ok u h'/\a9 h h'/\gB u=aj/\∀a,bx a op v->bx a (op.kb f) u:=by
 refine cu (Ao op) λs s1 s2 s3=>ay e ?_;rintro vs rfl e;have sm:=qx op;refine o5 (F:=[.Z (.str op.bJ::vs),.ref m,.U,.U,.U]) (R:=λr=>∃u h',r=.ok u h'/\a9 h h'/\gB u=aj/\∀a,bx a op (.Z (.str op.bJ::vs))->bx a (op.kb f) u) (by exact kJ (by assumption)) rfl rfl λKK Q=>S.D (E.Y E.gl (E.Y (E.af rfl) E.J rfl) (vz s1)) (S.D (E.aW (E.cons (E.Y (E.af rfl) E.J rfl) E.nil)) ?_);refine S.fP op.cS.length (λk F b=>∃x ws,F=[.Z (.str op.bJ::vs),.ref m,.str s,.ref h.length,x]/\a9 h b/\aG b h.length=aa (.str op.bJ::ws)/\ws.length=k/\∀a,gy a op.cS vs->gy a ((op.cS.take k).map (P.kb f)) ws) (E.bi (E.cons (E.af rfl) E.nil) (len_str s2)) (by exact bD (by assumption) (by rfl)) ⟨_,[],rfl,.cA,dJ,rfl,λ_ _=>trivial⟩ ?_ ?_;·intro k F b G i;refine iF i ?_;(try clear i;rintro x ws rfl c o J t);refine cG (gy.cp e G) λq u j B C=>?_;(have tk:op.cS.take (k+1)=op.cS.take k++[q]:=by rw[lD,j];rfl);have M:=zX (h:=b) (s3 k q j);have N:=AV (h:=b) (s:=op.bJ) B (by exact mF (by assumption) (by assumption) _ (by rfl));have hpl:=d8 o;have W:=λr mr=>Y r (List.mem_flatMap.mpr ⟨q,cW j,mr⟩);refine cu (PD (n:=n-1) (by exact c8 (by assumption) (by rfl)) f (C.B λi l=>c.aW) (IQ j C) (c.bF Z) D U W) λw r1 r2 r3=>?_;refine S.cO (E.bH (E.af rfl) (lX o rfl) (E.cons (E.call E.fn (E.cons (E.Y (E.af rfl) (E.af rfl) M) (E.cons (E.Y (E.af rfl) (E.aN (E.af rfl) E.J O.add) N) (E.cons (E.af rfl) E.nil))) r1) E.nil) (nT o (by rw[mZ];lia))) (S.nil ⟨_,ws++[w],rfl,c.set (cF _),i7 hpl,by simp[J],?_⟩);intro a p;rw[tk,l8];refine cG (gy.cp p G) λq' u' y z L=>?_;cases j.symm.trans y;cases B.symm.trans z;exact(t a p).nA (r2 _ L)
 ·intro F b i;refine iF i ?_;(try clear i;rintro x ws rfl c o J t);refine S.ret (E.bi (E.cons (E.af rfl) E.nil) (Cs o (by rw[mZ];lia))) (Q _ ⟨_,_,rfl,c,rfl,λa p=>?_⟩);refine ay p λvs' y z=>?_;cases y;refine⟨ws,by rw[Op.Ss],?_⟩;rw[Op.U7];rw[rh]at t;exact t a z
noncomputable def hW(x:Int):Option Int:=if-128<=x/\x<128 then aa x else ah
theorem u0(e:hW x=aa y):-200<y/\y<200:=by
 unfold hW at e;split at e;·injection e with q;subst q;lia
 ·injection e
noncomputable def oO(x:Int):Int:=if x<0 then-x else x
noncomputable def xH(x y:Int):Int:=if aZ (x<0)==aZ (y<0)then(oO x).fdiv (oO y)else-((oO x).fdiv (oO y))
noncomputable def Bo.ev:Bo->Int->Int->Option Int|.add,x,y=>hW (x+y)|.sub,x,y=>hW (x-y)|.mul,x,y=>hW (x*y)|.Ac,x,y=>if y=0 then ah else hW (xH x y)
noncomputable def Co.ev:Co->Int->Int->Bool|.lt,x,y=>aZ (x<y)|.eq,x,y=>x==y|.ge,x,y=>aZ (y<=x)
noncomputable def nq(o:Option Int)(h:H):aB V:=match o with|aa y=>.ok (.int y) h|ah=>.ex .aF h
section
variable{n:Nat}{h:H}{x y:Int}
theorem O.aar:jW .mM (.int 1) (.int (8-1)) h=.ok (.int 128) h:=rfl
theorem xh(d:1<=n):aF n .vx [.int x,.int 8] h=nq (hW x) h:=by
 refine da (F:=[.int x,.int 8,.U]) (b:=KH) (R:=λr=>r=_) d rfl rfl ?_;unfold hW;refine S.D (E.aN E.J (E.aN (E.af rfl) E.J O.sub) O.aar) ?_;by_cases c:-128<=x/\x<128;·rw[if_pos c];refine S.a8 (E.bo (E.dN (E.ao (E.af rfl) (E.bn (E.af rfl)) O.lt) (T.bool (decide_eq_false (by lia))) (E.dO (E.ao (E.af rfl) (E.af rfl) O.ge)))) (T.bool (decide_eq_false (by lia))) (S.N (S.ret (E.af rfl) ?_));rfl
 ·rw[if_neg c];by_cases a:x< -128;(·refine S.bQ (E.bo (E.ig (E.ao (E.af rfl) (E.bn (E.af rfl)) O.lt) (T.bool (decide_eq_true a)))) (T.bool (decide_eq_true a)) (S.ba (S.iJ rfl)));·refine S.bQ (E.bo (E.dN (E.ao (E.af rfl) (E.bn (E.af rfl)) O.lt) (T.bool (decide_eq_false a)) (E.dO (E.ao (E.af rfl) (E.af rfl) O.ge)))) (T.bool (decide_eq_true (by lia))) (S.ba (S.iJ rfl))
theorem E.mC(a:ax cl e F h=r)(b:r≠.aM):Wp (aV cl (.ret e::l) F h) λq=>eC q=r:=by induction r with|ok v h=>exact S.ret a rfl|ex x h=>exact S.SL a rfl|aM=>exact(b rfl).elim
theorem nH:nq o h≠.aM:=by induction o<;>exactλe=>nomatch e
theorem RD(a:2<=n):aF n .KZ [.int x,.int y,.int 8] h=nq (hW (x+y)) h:=by refine da (F:=[.int x,.int y,.int 8]) (b:=Nh) (R:=λr=>r=_) (by exact kJ (by assumption)) rfl rfl ?_;exact E.mC (E.call E.fn (E.cons (E.aN (E.af rfl) (E.af rfl) O.add) (E.cons (E.af rfl) E.nil)) (xh (by exact c8 (by assumption) (by rfl)))) nH
theorem RG(a:2<=n):aF n .MP [.int x,.int y,.int 8] h=nq (hW (x-y)) h:=by refine da (F:=[.int x,.int y,.int 8]) (b:=HL) (R:=λr=>r=_) (by exact kJ (by assumption)) rfl rfl ?_;exact E.mC (E.call E.fn (E.cons (E.aN (E.af rfl) (E.af rfl) O.sub) (E.cons (E.af rfl) E.nil)) (xh (by exact c8 (by assumption) (by rfl)))) nH
theorem Ba(a:-1000<x)(b:x<1000):small x=aj:=wu (by lia) (by lia)
theorem O.mul(a:small x=aj)(b:small y=aj):jW .mul (.int x) (.int y) h=.ok (.int (x*y)) h:=by show(if small x&&small y then _ else _)=_;rw[a,b];rfl
theorem UL(f:2<=n)(a:-1000<x)(c:x<1000)(d:-1000<y)(e:y<1000):aF n .Lm [.int x,.int y,.int 8] h=nq (hW (x*y)) h:=by refine da (F:=[.int x,.int y,.int 8]) (b:=H9) (R:=λr=>r=_) (by exact kJ (by assumption)) rfl rfl ?_;exact E.mC (E.call E.fn (E.cons (E.aN (E.af rfl) (E.af rfl) (O.mul (Ba a c) (Ba d e))) (E.cons (E.af rfl) E.nil)) (xh (by exact c8 (by assumption) (by rfl)))) nH
theorem O.abs:lu .qL [.int x] h=.ok (.int (oO x)) h:=rfl
theorem O.Kw:dE .eq h (.bool a) (.bool b)=aa (a==b):=by induction a<;>induction b<;>rfl
theorem O.fdiv(a:small x=aj)(b:y.natAbs<2^30)(c:y≠0):jW .fdiv (.int x) (.int y) h=.ok (.int (x.fdiv y)) h:=by show(if small x&&aZ (y.natAbs<2^30)&&y !=0 then _ else _)=_;rw[a,decide_eq_true b,show(y !=0)=aj by simpa using c];rfl
theorem aaf(f:1<=n)(g:-1000<x)(i:x<1000)(j:-1000<y)(k:y<1000)(l:y≠0):aF n .Hi [.int x,.int y] h=.ok (.int (xH x y)) h:=by
 refine da (F:=[.int x,.int y,.U]) (b:=Io) (R:=λr=>r=_) f rfl rfl ?_;have a:small (oO x)=aj:=by apply Ba<;>unfold oO<;>split<;>(first|assumption|lia)
 have d:(oO y).natAbs<2^30:=gf (m:=1000) (by unfold oO;split<;>lia) (by decide);have e:oO y≠0:=by unfold oO;split<;>(first|assumption|lia)
 refine S.D (E.aN (E.bi (E.cons (E.af rfl) E.nil) O.abs) (E.bi (E.cons (E.af rfl) E.nil) O.abs) (O.fdiv a d e)) ?_;unfold xH;cases c:aZ (x<0)==aZ (y<0);·exact S.ret (E.oB (E.ao (E.ao (E.af rfl) E.J O.lt) (E.ao (E.af rfl) E.J O.lt) O.Kw) (T.bool c) (E.bn (E.af rfl))) rfl
 ·exact S.ret (E.oF (E.ao (E.ao (E.af rfl) E.J O.lt) (E.ao (E.af rfl) E.J O.lt) O.Kw) (T.bool c) (E.af rfl)) rfl
theorem Qe(g:2<=n)(a:-1000<x)(d:x<1000)(e:-1000<y)(f:y<1000):aF n .Hl [.int x,.int y,.int 8] h=nq (Bo.Ac.ev x y) h:=by
 refine da (F:=[.int x,.int y,.int 8]) (b:=IZ) (R:=λr=>r=_) (by exact kJ (by assumption)) rfl rfl ?_;show Wp _ λr=>_=nq (if y=0 then ah else hW (xH x y)) h;by_cases c:y=0;·rw[if_pos c];exact S.bQ (E.ao (E.af rfl) E.J O.f7) (T.bool (by simpa using c)) (S.ba (S.iJ rfl))
 ·rw[if_neg c];refine S.a8 (E.ao (E.af rfl) E.J O.f7) (T.bool (by simpa using c)) (S.N ?_);exact E.mC (E.call E.fn (E.cons (E.call E.fn (E.cons (E.af rfl) (E.cons (E.af rfl) E.nil)) (aaf (by exact c8 (by assumption) (by rfl)) a d e f c)) (E.cons (E.af rfl) E.nil)) (xh (by exact c8 (by assumption) (by rfl)))) nH
noncomputable def qc(x y:Int):Int:=if x=y then 0 else if x<y then-1 else 1
theorem SQ:aZ (qc x y<0)=aZ (x<y):=by
 unfold qc;rw[decide_eq_decide];split;·lia
 ·split<;>lia
theorem QK:(qc x y==0)=(x==y):=by
 rw[vK,beq_iff_eq,beq_iff_eq];unfold qc;split;·lia
 ·split<;>lia
theorem U6:aZ (0<=qc x y)=aZ (y<=x):=by
 unfold qc;rw[decide_eq_decide];split;·lia
 ·split<;>lia
theorem Uh(d:1<=n):aF n .Nu [.int x,.int y] h=.ok (.int (qc x y)) h:=by
 refine da (F:=[.int x,.int y]) (b:=Nq) (R:=λr=>r=_) d rfl rfl ?_;unfold qc;by_cases c:x=y;·rw[if_pos c];exact S.bQ (E.ao (E.af rfl) (E.af rfl) O.f7) (T.bool (by simpa using c)) (S.ba (S.ret E.J rfl))
 ·rw[if_neg c];refine S.a8 (E.ao (E.af rfl) (E.af rfl) O.f7) (T.bool (by simpa using c)) (S.N ?_);by_cases a:x<y;(·rw[if_pos a];exact S.ret (E.oF (E.ao (E.af rfl) (E.af rfl) O.lt) (T.bool (decide_eq_true a)) (E.bn E.J)) rfl);·rw[if_neg a];exact S.ret (E.oB (E.ao (E.af rfl) (E.af rfl) O.lt) (T.bool (decide_eq_false a)) E.J) rfl
theorem PC(d:1<=n){o:Co}:aF n .HI [.str o.eO,.int (qc x y)] h=.ok (.bool (o.ev x y)) h:=by
 refine da (F:=[.str o.eO,.int (qc x y)]) (b:=DF) (R:=λr=>r=_) d rfl rfl ?_;have a:∀b c:Bool,b=c->aB.ok (V.bool b) h=aB.ok (V.bool c) h:=λz z e=>by rw[e]
 delta DF;induction o;·refine S.a8 (E.ao (E.af rfl) E.str O.bb) (T.bool rfl) (S.N (S.a8 (E.ao (E.af rfl) E.str O.bb) (T.bool rfl) (S.N (S.bQ (E.ao (E.af rfl) E.str O.bb) (T.bool rfl) (S.ba (S.ret (E.ao (E.af rfl) E.J O.lt) ?_))))));exact a _ _ SQ
 ·refine S.bQ (E.ao (E.af rfl) E.str O.bb) (T.bool rfl) (S.ba (S.ret (E.ao (E.af rfl) E.J O.f7) ?_));exact a _ _ QK
 ·refine S.a8 (E.ao (E.af rfl) E.str O.bb) (T.bool rfl) (S.N (S.a8 (E.ao (E.af rfl) E.str O.bb) (T.bool rfl) (S.N (S.a8 (E.ao (E.af rfl) E.str O.bb) (T.bool rfl) (S.N (S.a8 (E.ao (E.af rfl) E.str O.bb) (T.bool rfl) (S.N (S.a8 (E.ao (E.af rfl) E.str O.bb) (T.bool rfl) (S.N (S.bQ (E.ao (E.af rfl) E.str O.bb) (T.bool rfl) (S.ba (S.ret (E.ao (E.af rfl) E.J O.ge) ?_))))))))))));exact a _ _ U6
theorem aae(t:4<=n){o:Bo}(q:iu h i=aa l)(s:qZ l .pW=aa (.int 8))(c:-1000<x)(d:x<1000)(e:-1000<y)(f:y<1000)(_:gB k=aj):aF n .ou [.str o.eO,k,.int x,.int y,.ref i] h=nq (o.ev x y) h:=by
 refine da (F:=[.str o.eO,k,.int x,.int y,.ref i]) (b:=Ch) (R:=λr=>r=_) (by lia) rfl rfl ?_;have a:iX h (.ref i) .pW=aa (.int 8):=yR q s;have g:=RD (n:=n-1) (h:=h) (x:=x) (y:=y) (by exact c8 (by assumption) (by rfl));have j:=RG (n:=n-1) (h:=h) (x:=x) (y:=y) (by exact c8 (by assumption) (by rfl));have m:=UL (n:=n-1) (h:=h) (x:=x) (y:=y) (by exact c8 (by assumption) (by rfl)) c d e f;have p:=Qe (n:=n-1) (h:=h) (x:=x) (y:=y) (by exact c8 (by assumption) (by rfl)) c d e f;induction o;·exact S.bQ (E.ao (E.af rfl) E.str O.bb) rfl (S.ba (E.mC (E.call E.fn (E.cons (E.af rfl) (E.cons (E.af rfl) (E.cons (E.M (E.af rfl) a) E.nil))) g) nH))
 ·exact S.a8 (E.ao (E.af rfl) E.str O.bb) rfl (S.N (S.bQ (E.ao (E.af rfl) E.str O.bb) rfl (S.ba (E.mC (E.call E.fn (E.cons (E.af rfl) (E.cons (E.af rfl) (E.cons (E.M (E.af rfl) a) E.nil))) j) nH))))
 ·exact S.a8 (E.ao (E.af rfl) E.str O.bb) rfl (S.N (S.a8 (E.ao (E.af rfl) E.str O.bb) rfl (S.N (S.bQ (E.ao (E.af rfl) E.str O.bb) rfl (S.ba (E.mC (E.call E.fn (E.cons (E.af rfl) (E.cons (E.af rfl) (E.cons (E.M (E.af rfl) a) E.nil))) m) nH))))))
 ·exact S.a8 (E.ao (E.af rfl) E.str O.bb) rfl (S.N (S.a8 (E.ao (E.af rfl) E.str O.bb) rfl (S.N (S.a8 (E.ao (E.af rfl) E.str O.bb) rfl (S.N (S.bQ (E.ao (E.af rfl) E.str O.bb) rfl (S.ba (E.mC (E.call E.fn (E.cons (E.af rfl) (E.cons (E.af rfl) (E.cons (E.M (E.af rfl) a) E.nil))) p) nH))))))))
theorem UW(d:2<=n){o:Co}(_:gB k=aj):aF n .ou [.str o.eO,k,.int x,.int y,.ref i] h=.ok (.bool (o.ev x y)) h:=by refine da (F:=[.str o.eO,k,.int x,.int y,.ref i]) (b:=Ch) (R:=λr=>r=_) (by exact kJ (by assumption)) rfl rfl ?_;have a:=Uh (n:=n-1) (h:=h) (x:=x) (y:=y) (by exact c8 (by assumption) (by rfl));have c:=PC (n:=n-1) (h:=h) (x:=x) (y:=y) (o:=o) (by exact c8 (by assumption) (by rfl));have st:∀s:aC,(o.eO==s)=au->truthy h (.bool (o.eO==s))=aa au:=λs e=>T.bool e;refine S.a8 (E.ao (E.af rfl) E.str O.bb) (st _ (by induction o<;>rfl)) (S.N ?_);refine S.a8 (E.ao (E.af rfl) E.str O.bb) (st _ (by induction o<;>rfl)) (S.N ?_);refine S.a8 (E.ao (E.af rfl) E.str O.bb) (st _ (by induction o<;>rfl)) (S.N ?_);refine S.a8 (E.ao (E.af rfl) E.str O.bb) (st _ (by induction o<;>rfl)) (S.N ?_);refine S.a8 (E.bo (E.dN (E.ao (E.af rfl) E.str O.bb) (st _ (by induction o<;>rfl)) (E.dO (E.ao (E.af rfl) E.str O.bb)))) (st _ (by induction o<;>rfl)) (S.N ?_);exact S.ret (E.call E.fn (E.cons (E.af rfl) (E.cons (E.call E.fn (E.cons (E.af rfl) (E.cons (E.af rfl) E.nil)) a) E.nil)) c) rfl
end
noncomputable def P.b7:P->V|.w x=>.int x|.c x=>x|.r x=>.int x|.o x=>.int (kR x)|.j x=>.int x|.J _=>.none
noncomputable def Op.bW:Op->Bool|.ee ..=>au|_=>aj
noncomputable def Op.b7(op:Op):V:=.Z (.str op.bJ::op.cS.map P.b7)
theorem M3:∀{p:List P}{v:List V},(∀q∈p,∀l,q≠.J l)->gy h p v->v=p.map P.b7|[],[],_,_=>rfl|q::_,v::_,f,⟨a,b⟩=>by have:=M3 (λq m=>f q (.tail _ m)) b;congr 1;induction q with|J l=>exact(f _ (.head _) l rfl).elim|_=>exact a
noncomputable def P.nJ:P->Bool|.J _=>au|_=>aj
theorem Rl{op:Op}(f:op.bW=aj):op.cS.all P.nJ=aj:=by induction op with|ee=>injection f|ret x=>induction x<;>rfl|_=>rfl
theorem JZ{op:Op}(f:op.bW=aj):∀q∈op.cS,∀l,q≠.J l:=λq m l e=>by have:=fN.mp (Rl f) q m;subst e;injection this
theorem bx.bW{op:Op}(e:bx h op v)(f:op.bW=aj):v=op.b7:=by refine ay e ?_;rintro vs rfl e;exact congrArg (λl=>V.Z (.str op.bJ::l)) (M3 (JZ f) e)
theorem bx.mk{op:Op}(f:op.bW=aj):bx h op op.b7:=by
 refine⟨_,rfl,?_⟩;have b:∀p:List P,(∀q∈p,∀l,q≠.J l)->gy h p (p.map P.b7):=by intro p;induction p with|nil=>exactλz=>trivial|cons q p a=>intro f;refine⟨?_,a λq m=>f q (.tail _ m)⟩;induction q with|J l=>exact(f _ (.head _) l rfl).elim|_=>rfl
 exact b _ (JZ f)
theorem aaO{R:List V->Prop}(e:gy h [p,q] vs)(k:∀a b,PE h p a->PE h q b->R [a,b]):R vs:=by induction vs with|nil=>exact nZ e|cons a vs=>induction vs with|nil=>exact nZ e.2|cons b vs=>induction vs with|nil=>exact k a b e.1 e.2.1|cons=>exact nZ e.2.2
theorem bx.sw(e:bx h (.ee r c) v):∃i,v=.Z [.str .ji,.int r,.ref i]/\aG h i=aa (nl c):=by refine ay e ?_;rintro vs rfl e;exact aaO (R:=λvs=>∃i,V.Z (V.str (Op.ee r c).bJ::vs)=.Z [.str .ji,.int r,.ref i]/\aG h i=aa (nl c)) e λa b f d=>ay d λi g d=>bC i (by rw[show a=.int r from f,g];rfl) d
noncomputable def a7.b7:a7->V|.int i=>.int i|.bool b=>.bool b|.dc p=>.Z [.int 0,.int p,.int 0,.Z []]
noncomputable def a7.ok:a7->Prop|.int i=>-200<i/\i<200|.bool _=>True|.dc p=>p<3
noncomputable def a7.zJ(v:a7):Option Int:=match v with|.int i=>aa i|_=>ah
noncomputable def a7.MX(v:a7):Option Bool:=match v with|.bool i=>aa i|_=>ah
noncomputable def c2(vs:List a7)(f:Int->Int->Option a7):Option (Option a7):=match vs with|[]=>ah|a::l=>match l with|[]=>ah|b::l=>bif l.isEmpty then a.zJ.bind λx=>b.zJ.map λy=>f x y else ah
noncomputable def c1{b:Type}(p:a7->Option b)(vs:List a7)(f:b->Option a7):Option (Option a7):=match vs with|[]=>ah|a::l=>bif l.isEmpty then(p a).map f else ah
noncomputable def Op.jJ(op:Op)(vs:List a7):Option (Option a7):=match op with|.aN o _ _ _=>c2 vs λx y=>(o.ev x y).map .int|.ao o _ _ _=>c2 vs λx y=>aa (.bool (o.ev x y))|.bZ _ _=>c1 a7.MX vs λb=>aa (.bool !b)|.bn _ _=>c1 a7.zJ vs λx=>(hW (-x)).map .int|_=>ah
theorem D8{v:a7}{i:Int}(e:v.zJ=aa i):v=.int i:=by induction v<;>(first|injection e;done|injection e with q;subst q);rfl
theorem Yp{v:a7}{i:Bool}(e:v.MX=aa i):v=.bool i:=by induction v<;>(first|injection e;done|injection e with q;subst q);rfl
theorem MN{vs:List a7}{f:Int->Int->Option a7}{r:Option a7}(e:c2 vs f=aa r):∃x y,vs=[.int x,.int y]/\r=f x y:=by induction vs with|nil=>injection e|cons a l=>induction l with|nil=>injection e|cons b l=>induction l with|cons=>injection e|nil=>exact ay (Option.bind_eq_some_iff.mp (e)) λx c d=>ay (pi.mp d) λy g h=>(iM x y (by rw[D8 c,D8 g]) h.symm)
theorem Ju{b:Type}{p:a7->Option b}{vs:List a7}{f:b->Option a7}{r:Option a7}(e:c1 p vs f=aa r):∃a x,vs=[a]/\p a=aa x/\r=f x:=by induction vs with|nil=>injection e|cons a l=>induction l with|cons=>injection e|nil=>exact ay (pi.mp (e)) λy c d=>(gv a y rfl c d.symm)
inductive wH:Op->List a7->Option a7->Prop|aN(o:Bo)(d a b:Nat)(x y:Int):wH (.aN o d a b) [.int x,.int y] ((o.ev x y).map .int)|ao(o:Co)(d a b:Nat)(x y:Int):wH (.ao o d a b) [.int x,.int y] (aa (.bool (o.ev x y)))|bZ(d a:Nat)(b:Bool):wH (.bZ d a) [.bool b] (aa (.bool !b))|bn(d a:Nat)(x:Int):wH (.bn d a) [.int x] ((hW (-x)).map .int)
theorem w7{op:Op}{vs:List a7}{r:Option a7}(e:op.jJ vs=aa r):wH op vs r:=by
 induction op;case aN=>refine gw (MN e) ?_;rintro x y rfl rfl;exact .aN ..
 case ao=>refine gw (MN e) ?_;rintro x y rfl rfl;exact .ao ..
 case bZ=>refine cG (Ju e) ?_;rintro a x rfl e2 rfl;rw[Yp e2];exact .bZ ..
 case bn=>refine cG (Ju e) ?_;rintro a x rfl e2 rfl;rw[D8 e2];exact .bn ..
 all_goals injection e
noncomputable def yh(o:Option a7)(h:H):aB V:=match o with|aa y=>.ok y.b7 h|ah=>.ex .aF h
theorem CZ:nq o h=yh (o.map .int) h:=by induction o<;>rfl
theorem Ps:yh o h≠.aM:=by induction o<;>exactλe=>by injection e
theorem u7(e:o.map a7.int=aa v):∃x,o=aa x/\v=.int x:=ay (pi.mp e) λy a b=>(bC y a b.symm)
theorem Bo.It{o:Bo}(e:o.ev x y=aa z):(a7.int z).ok:=by
 induction o;·exact u0 e
 ·exact u0 e
 ·exact u0 e
 ·have e:(if y=0 then ah else hW (xH x y))=aa z:=e;by_cases c:y=0;(·rw[if_pos c]at e;injection e);·rw[if_neg c]at e;exact u0 e
theorem Uy{op:Op}{v:a7}(e:op.jJ vs=aa (aa v)):v.ok:=by generalize a:aa v=r at e;induction w7 e with|aN=>refine ay (u7 a.symm) ?_;rintro z c rfl;exact Bo.It c|ao=>injection a with q;subst q;exact trivial|bZ=>injection a with q;subst q;exact trivial|bn=>refine ay (u7 a.symm) ?_;rintro z c rfl;exact u0 c
structure Dd(h:H)(od lm:Nat):Prop where
 od:∃d,cN h od=aa d/\∃g,DI d g/\g 0=aa (.fn .ou)
 lm:∃l,iu h lm=aa l/\qZ l .pW=aa (.int 8)
theorem Ei(Q:5<=n)(e:bx h op v)(T:Dd h s j)(f:aG h q=aa (vs.map a7.b7))(N:op.jJ vs=aa r)(ok:∀v∈vs,v.ok):aF n .zf [.ref s,.ref j,v,.ref q] h=yh r h:=by
 obtain⟨⟨d,w,g,D,u⟩,l,z,B⟩:=T;have C:=xr w D (by decide) (by decide) u;have G:dE .lS h (.int 0) (.ref s)=aa au:=by rw[CQ w D (by decide) (by decide),u];rfl
 have M:=yR z B;induction w7 N with|aN o d a b x y=>have m:=e.bW rfl;subst m;have f:aG h q=aa [.int x,.int y]:=f;have p:=gL (k:=0) f rfl (by decide);have t:=gL (k:=1) f rfl (by decide);refine da (F:=[.ref s,.ref j,.Z [.str .iP,.int d,.str o.eO,.int 0,.int a,.int b],.ref q,.U]) (b:=Fl) (R:=λq=>q=_) (by lia) rfl rfl ?_;have J:=ok _ (.head _);have L:=ok _ (.tail _ (.head _));have c:=aae (n:=n-1) (o:=o) (x:=x) (y:=y) (k:=.int 0) (by exact c8 (by assumption) (by rfl)) z B (by have:=J.1;lia) (by have:=J.2;lia) (by have:=L.1;lia) (by have:=L.2;lia) rfl;rw[<-CZ];exact S.bQ (E.bo (E.ig (E.ao (E.af rfl) E.str O.bb) rfl)) rfl (S.ba (S.a8 (E.ao (E.Y (E.af rfl) E.J I.t3) (E.af rfl) G) rfl (S.N (S.ba (E.mC (E.call (E.Y (E.af rfl) (E.Y (E.af rfl) E.J I.t3) C) (E.cons (E.Y (E.af rfl) E.J I.t2) (E.cons (E.Y (E.af rfl) E.J I.t3) (E.cons (E.Y (E.af rfl) E.J p) (E.cons (E.Y (E.af rfl) E.J t) (E.cons (E.af rfl) E.nil))))) c) nH)))))|ao o d a b x y=>have m:=e.bW rfl;subst m;have f:aG h q=aa [.int x,.int y]:=f;have p:dy h (.ref q) (.int 0)=aa (.int x):=gL (k:=0) f rfl (by decide);have t:=gL (k:=1) f rfl (by decide);refine da (F:=[.ref s,.ref j,.Z [.str .gZ,.int d,.str o.eO,.int 0,.int a,.int b],.ref q,.U]) (b:=Fl) (R:=λq=>q=_) (by lia) rfl rfl ?_;have c:=UW (n:=n-1) (h:=h) (o:=o) (k:=.int 0) (x:=x) (y:=y) (i:=j) (by exact c8 (by assumption) (by rfl)) rfl;exact S.bQ (E.bo (E.dN (E.ao (E.af rfl) E.str O.bb) rfl (E.dO (E.ao (E.af rfl) E.str O.bb)))) rfl (S.ba (S.a8 (E.ao (E.Y (E.af rfl) E.J I.t3) (E.af rfl) G) rfl (S.N (S.ba (S.ret (E.call (E.Y (E.af rfl) (E.Y (E.af rfl) E.J I.t3) C) (E.cons (E.Y (E.af rfl) E.J I.t2) (E.cons (E.Y (E.af rfl) E.J I.t3) (E.cons (E.Y (E.af rfl) E.J p) (E.cons (E.Y (E.af rfl) E.J t) (E.cons (E.af rfl) E.nil))))) c) rfl)))))|bZ d a b=>have m:=e.bW rfl;subst m;have f:=f;have p:=gL (k:=0) f rfl (by decide);refine da (F:=[.ref s,.ref j,.Z [.str .e8,.int d,.str .nK,.int 4,.int a],.ref q,.U]) (R:=λq=>q=_) (by lia) rfl rfl ?_;(have c:aF (n-1) .Dk [.str .nK,.int 4,.bool b,.ref j] h=.ok (.bool !b) h:=by exact da (F:=[.str .nK,.int 4,.bool b,.ref j]) (R:=λq=>q=_) (by exact c8 (by assumption) (by rfl)) rfl rfl (S.bQ (E.bo (E.dN (E.ao (E.af rfl) E.str O.bb) rfl (E.dO (E.ao (E.af rfl) E.gl O.f7)))) rfl (S.ba (S.ret (E.bZ (E.af rfl) (T.bool rfl)) rfl))));exact S.bQ (E.ao (E.af rfl) E.str O.bb) rfl (S.ba (S.ret (E.call E.fn (E.cons (E.Y (E.af rfl) E.J I.t2) (E.cons (E.Y (E.af rfl) E.J I.t3) (E.cons (E.Y (E.af rfl) E.J p) (E.cons (E.af rfl) E.nil)))) c) rfl))|bn d a x=>have m:=e.bW rfl;subst m;have f:=f;have p:=gL (k:=0) f rfl (by decide);refine da (F:=[.ref s,.ref j,.Z [.str .e8,.int d,.str .nG,.int 0,.int a],.ref q,.U]) (R:=λq=>q=_) (by lia) rfl rfl ?_;(have c:aF (n-1) .Dk [.str .nG,.int 0,.int x,.ref j] h=nq (hW (-x)) h:=by exact da (F:=[.str .nG,.int 0,.int x,.ref j]) (R:=λq=>q=_) (by exact c8 (by assumption) (by rfl)) rfl rfl (S.a8 (E.bo (E.ig (E.ao (E.af rfl) E.str O.bb) rfl)) rfl (S.N (S.bQ (E.bo (E.dN (E.ao (E.af rfl) E.str O.bb) rfl (E.dO (E.ao (E.af rfl) E.gl O.f7)))) rfl (S.ba (E.mC (E.call E.fn (E.cons (E.bn (E.af rfl)) (E.cons (E.M (E.af rfl) M) E.nil)) (xh (by lia))) nH))))));rw[<-CZ];exact S.bQ (E.ao (E.af rfl) E.str O.bb) rfl (S.ba (E.mC (E.call E.fn (E.cons (E.Y (E.af rfl) E.J I.t2) (E.cons (E.Y (E.af rfl) E.J I.t3) (E.cons (E.Y (E.af rfl) E.J p) (E.cons (E.af rfl) E.nil)))) c) nH))
noncomputable def ga(h:H):List Op->List V->Prop|[],[]=>True|p::ps,v::vs=>bx h p v/\ga h ps vs|_,_=>False
theorem ga.B(k:∀i l,aG h i=aa l->aG h' i=aa l):∀{p:List Op}{v:List V},ga h p v->ga h' p v|[],[],_=>trivial|_::_,_::_,⟨a,b⟩=>⟨a.B k,b.B k⟩
theorem ga.bN:∀{p:List Op}{v:List V},ga h p v->v.length=p.length|[],[],_=>rfl|_::_,_::_,⟨_,b⟩=>congrArg (·+1) b.bN
theorem ga.cp:∀{p:List Op}{v:List V}{k:Nat}{q:Op},ga h p v->p[k]?=aa q->∃u,v[k]?=aa u/\bx h q u|[],_,_,_,_,e=>by injection e|q::p,v,k,_,E,e=>by induction v using j4 with|nil=>exact nZ E|cons u v=>induction k using oa with|zero=>exact(bC u rfl (bU e▸E.1))|succ k=>exact ga.cp (k:=k) E.2 e
theorem ga.nA:∀{p:List Op}{v:List V}{q:Op}{u:V},ga h p v->bx h q u->ga h (p++[q]) (v++[u])|[],v,_,_,E,b=>by(induction v using j4 with|nil=>exact⟨b,trivial⟩|cons u v=>exact nZ E)|q::p,v,_,_,E,b=>by induction v using j4 with|nil=>exact nZ E|cons u v=>exact⟨E.1,ga.nA E.2 b⟩
noncomputable def dM(h:H)(i:Nat)(c:List Op):Prop:=∃vs,aG h i=aa vs/\ga h c vs
theorem dM.keep(k:a9 h h')(e:dM h i c):dM h' i c:=by refine ay e λvs a b=>?_;exact⟨vs,k.aW a,b.B λi l=>k.aW⟩
theorem dM.cp{h:H}{i k:Nat}{c:List Op}{op:Op}(e:dM h i c)(d:c[k]?=aa op)(j:c.length<100):∃v,dy h (.ref i) (.int k)=aa v/\bx h op v:=ay e λvs a b=>ay (b.cp d) λu f g=>(bC u (gL a f (by have:=(dH.mp d).1;exact mF (by assumption) (by assumption) _ (by rfl))) g)
theorem dM.bN(e:dM h i c)(d:c.length<100):lu .dL [.ref i] h=.ok (.int c.length) h:=by refine ay e λvs a b=>?_;have:=tX a (by rw[b.bN];exact bD (by assumption) (by rfl));rw[this,b.bN]
theorem bx.plain(e:bx h op v):gB v=aj:=by refine ay e ?_;try clear e;rintro vs rfl _;rfl
noncomputable def ty(r:Nat):Nat:=if r<3 then 0 else if r=3 then 1 else 2
noncomputable def Op.st:Op->Prop|.set x v=>x<3/\-200<v/\v<200|.fg x _=>x=3|.dC d s=>d<6/\s<6/\ty d=ty s|.aN _ d a b=>d<3/\a<3/\b<3|.ao _ d a b=>d=3/\a<3/\b<3|.bZ d a=>d=3/\a=3|.bn d a=>d<3/\a<3|.fS d _=>4<=d/\d<6|.dU d s=>d<3/\4<=s/\s<6|.gD p s=>4<=p/\p<6/\s<3|.br _ x _=>x=3|.fz x _ _ _=>x<3|.ee x l=>x<3/\l.length<=4|.dA _=>True|.ret (aa x)=>x<3|.ret ah=>True|.dj=>True
theorem Cm(h:op.cS.all (λp=>yt p.L.length 4)=aj):qb op:=λp m=>cJ (fN.mp h p m)
theorem Op.st.jp(s:op.st):qb op:=by induction op with|ee x l=>exact Cm (by show(yt l.length 4&&aj)=aj;rw[Nat.ble_eq_true_of_le s.2];rfl)|ret x=>induction x<;>exact Cm rfl|_=>exact Cm rfl
theorem jG(h:x<3):x<6:=dF h (cJ rfl)
theorem Bt(h:x=3):x<6:=h▸cJ rfl
theorem qH(h:a<6):∀r∈[a],r<6:=NQ.mpr h
theorem Nb(h:a<6)(g:b<6):∀r∈[a,b],r<6:=sQ.mpr (.intro h (qH g))
theorem Op.st.rd{op:Op}(s:op.st):∀r∈op.bR,r<6:=by induction op with|dC=>exact qH s.2.1|aN|ao=>all_goals exact Nb (jG s.2.1) (jG s.2.2)|bZ=>exact qH (Bt s.2)|bn=>exact qH (jG s.2)|dU=>exact qH s.2.2|gD=>exact Nb s.2.1 (jG s.2.2)|br=>exact qH (Bt s)|fz=>exact qH (jG s)|ee=>exact qH (jG s.1)|ret x=>(induction x with|none=>exactλ_ m=>(jD m).elim|some x=>exact qH (jG s))|_=>exactλ_ m=>(jD m).elim
noncomputable def AA:Option Nat->Prop|aa r=>r<6|ah=>True
theorem Op.st.AA{op:Op}(s:op.st):Internal.AA op.wr:=by induction op with|set|aN|bn|dU=>all_goals exact jG s.1|fg=>exact Bt s|dC=>exact s.1|ao|bZ=>all_goals exact Bt s.1|fS=>exact s.2|_=>trivial
theorem Op.st.wr{op:Op}(s:op.st):∀r,op.wr=aa r->r<6:=λ_ m=>(congrArg Internal.AA m).mp s.AA
structure mV(c:List Op):Prop where
 bN:c.length<10
 st:∀op∈c,op.st
 mH:∀op∈c,∀g∈op.L,g<=c.length
noncomputable def fH(B:List Bool):List V:=B.map .bool
theorem BD:(fH B).length=B.length:=d5 ..
theorem BG:(fH B).set k (.bool aj)=fH (B.set k aj):=(List.map_set ..).symm
theorem BH{h:H}{v:V}{m:Nat}(a:m<200):jW .mul (.ref h.length) (.int m) (h++[O.list [v]])=.ok (.ref (h.length+1)) (h++[O.list [v]]++[O.list (eL m v)]):=by
 refine(jg (by rw[dJ];rfl)).trans ((rH ?_).trans ?_);·rw[decide_eq_true (g9 m),decide_eq_true (show(m:Int)<=256 by lia)];rfl
 ·rw[jC,cZ];rfl
theorem uj{B:List Bool}{k j:Nat}(e:B[j]?=aa aj):(B.set k aj)[j]?=aa aj:=by
 by_cases c:k=j;·subst c;rw[ph (dH.mp e).1]
 ·rw[ja c];exact e
theorem T.aW(e:aG h i=aa l)(a:l.length<1000):truthy h (.ref i)=aa (!l.isEmpty):=by show((aG h i).bind λl=>if l.length<cM then aa (!l.isEmpty)else ah)=_;rw[e];exact if_pos a
theorem pD{l:List Nat}{k:Nat}{v:V}(e:(nl l)[k]?=aa v):∃x:Nat,v=.int x/\l[k]?=aa x:=by unfold nl at e;rw[j2]at e;induction c:l[k]? with|none=>rw[c]at e;injection e|some x=>rw[c]at e;injection e with q;subst q;exact(bC x rfl rfl)
theorem Lc{n:Nat}(hn:2<=n){h:H}{N Q:Nat}{c:List Op}{U:List Nat}(C:dM h N c)(G:mV c)(hs:aG h Q=aa (nl U))(sb:∀s∈U,s<=c.length):∃b h' B,aF n .DL [.ref N,.ref Q] h=.ok (.ref b) h'/\a9 h h'/\h.length<=b/\aG h' b=aa (fH B)/\B.length=c.length+1/\(∀s∈U,B[s]?=aa aj)/\∀op∈c,∀g∈op.L,B[g]?=aa aj:=by
 have gl:=G.bN;refine o5 (F:=[.ref N,.ref Q,.U,.U,.U,.U,.U]) (R:=λr=>∃b h' B,r=.ok (.ref b) h'/\a9 h h'/\h.length<=b/\aG h' b=aa (fH B)/\B.length=c.length+1/\(∀s∈U,B[s]?=aa aj)/\∀op∈c,∀g∈op.L,B[g]?=aa aj) (by exact kJ (by assumption)) rfl rfl λKK fin0=>?_;have k1:a9 h (h++[.list [.bool au]]):=.cA;have r1:=BH (h:=h) (v:=.bool au) (m:=c.length+1) (by lia);refine S.D (E.aN (E.aW (E.cons E.ff E.nil)) (E.aN (E.bi (E.cons (E.af rfl) E.nil) ((C.keep k1).bN (by exact bD (by assumption) (by rfl)))) E.J O.add) r1) ?_;have k2:a9 h (h++[.list [.bool au]]++[.list (eL (c.length+1) (.bool au))]):=k1.trans .cA;have hb:aG (h++[.list [.bool au]]++[.list (eL (c.length+1) (.bool au))]) (h.length+1)=aa (fH (eL (c.length+1) au)):=by unfold fH;rw[NR];have:=dJ (h:=h++[.list [.bool au]]) (l:=eL (c.length+1) (.bool au));rwa [cZ]at this
 refine S.wF (λk F p=>∃x B,F=[.ref N,.ref Q,.ref (h.length+1),x,.U,.U,.U]/\a9 h p/\aG p (h.length+1)=aa (fH B)/\B.length=c.length+1/\∀j s,j<k->U[j]?=aa s->B[s]?=aa aj) (E.af rfl) (A7 _ _ rfl k2 hb (by simp) (λj s L=>absurd L (by exact absurd (by assumption) (ux _)))) (λk F p i=>by refine cG i λx B _ D _=>?_;exact D.aW hs) ?_ ?_;·intro J k v F p ge ev i;refine iF i ?_;(try clear i;rintro x B rfl D f u bs);refine ay (pD ev) ?_;rintro s rfl es;have sl:=sb s (cW es);refine S.cQ E.tt (E.af rfl) (E.af rfl) (tS f (by rw[BD];lia) (by exact bD (gF (by assumption) (by assumption)) (by rfl))) (S.nil (ge _ _ (A7 _ (B.set s aj) rfl (D.set (by exact eN _ _)) ?_ (by simpa using u) ?_)));(·rw[i7 (d8 f),BG]);·intro j t L d;by_cases c1:j=k;(·subst c1;rw[es]at d;injection d with q;subst q;exact ph (by lia));·exact uj (bs j t (by lia) d)
 intro F p i;refine iF i ?_;try clear i;rintro x B rfl D f u bs
 refine S.w0 c.length (λk F p=>∃x y z w B,F=[.ref N,.ref Q,.ref (h.length+1),x,y,z,w]/\a9 h p/\aG p (h.length+1)=aa (fH B)/\B.length=c.length+1/\(∀s∈U,B[s]?=aa aj)/\∀j op,j<k->c[j]?=aa op->∀g∈op.L,B[g]?=aa aj) (E.bi (E.cons (E.af rfl) E.nil) ((C.keep D).bN (by exact bD (by assumption) (by rfl)))) (by exact bD (by assumption) (by rfl)) ⟨_,_,_,_,B,rfl,D,f,u,λs m=>by refine oE (Gm m) λj d=>?_;exact bs j s (by have:=(dH.mp d).1;simpa[nl]using this) d,λj op L=>absurd L (by exact absurd (by assumption) (ux _))⟩ ?_ ?_;·clear f u bs B D p hb r1 k1 k2;intro J k F p ge hk i;refine JW i ?_;(try clear i;rintro x' y z w B rfl D f u bs M);obtain⟨op,eo⟩:∃op,c[k]?=aa op:=⟨_,gP hk⟩;refine ay ((C.keep D).cp eo (by exact bD (by assumption) (by rfl))) λv Y en=>?_;have mo:=cW eo;have fw:=(G.st op mo).jp;have sj:=xu (n:=n-1) (by exact c8 (by assumption) (by rfl)) en fw;have K2:a9 h (p++[.list (nl op.L)]):=D.trans .cA;refine S.D (E.call E.fn (E.cons (E.Y (E.af rfl) (E.af rfl) Y) E.nil) sj) ?_;refine S.wF (λk2 F Z=>∃w B,F=[.ref N,.ref Q,.ref (h.length+1),x',.int k,.ref p.length,w]/\a9 h Z/\aG Z p.length=aa (nl op.L)/\aG Z (h.length+1)=aa (fH B)/\B.length=c.length+1/\(∀s∈U,B[s]?=aa aj)/\(∀j op,j<k->c[j]?=aa op->∀g∈op.L,B[g]?=aa aj)/\∀j g,j<k2->op.L[j]?=aa g->B[g]?=aa aj) (E.af rfl) ⟨_,B,rfl,K2,dJ,gC f,u,bs,M,λj g L=>absurd L (by exact absurd (by assumption) (ux _))⟩ (λk F p i=>by refine tT i λw B _ _ e _=>?_;exact e) ?_ ?_;(·(have hne:h.length+1≠p.length:=by have:=d8 f;exact(l9 (by assumption)));intro J2 k2 v2 F Z ge2 ev i;refine Fi i ?_;(try clear i;rintro w B rfl W hJ f u bs M bg);refine ay (pD ev) ?_;rintro g rfl eg;have gb:=G.mH op mo g (cW eg);refine S.cQ E.tt (E.af rfl) (E.af rfl) (tS f (by rw[BD];lia) (by exact bD (gF (by assumption) (by assumption)) (by rfl))) (S.nil (ge2 _ _ ⟨_,B.set g aj,rfl,W.set (by exact eN _ _),?_,?_,by simpa using u,λs m=>uj (bs s m),λj o L d g' m=>uj (M j o L d g' m),?_⟩));(·rw[j8 hne];exact hJ);(·rw[i7 (d8 f),BG]);·intro j t L d;by_cases c1:j=k2;(·subst c1;rw[eg]at d;injection d with q;subst q;exact ph (by lia));·exact uj (bg j t (by lia) d));clear f u bs M B;intro F Z i;refine Fi i ?_;(try clear i;rintro w B rfl W hJ f u bs M bg);refine ay ((C.keep W).cp eo (by exact bD (by assumption) (by rfl))) λv' ei' en'=>?_;(have ve:v'=v:=by refine ay C λvs a _=>?_;have e1:=D.aW a;have e2:=W.aW a;rw[yY e1]at Y;rw[yY e2]at ei';exact bU (ei'.symm.trans Y));have sg:=Kg (n:=n-1) (by exact c8 (by assumption) (by rfl)) en';(have jl:(nl op.L).length<1000:=by have:=P.AE fw;have:=qx op;unfold nl Op.L;rw[d5];lia);have tl:=T.aW hJ jl;(have bj':∀j o,j<k+1->c[j]?=aa o->∀g∈o.L,B[g]?=aa aj:=by intro j o L d g m;by_cases c1:j=k;(·subst c1;rw[eo]at d;injection d with q;subst q;refine oE (Gm m) λi Y=>?_;exact bg i g (by have:=(dH.mp Y).1;simpa[nl]using this) Y);·exact M j o (by lia) d g m);(have yes:Wp (aV (aF (n-1)) [.cQ (.af 2) (.aN .add (.af 4) (.J 1)) .tt] [.ref N,.ref Q,.ref (h.length+1),x',.int k,.ref p.length,w] Z) (Lp (λr=>KK (eC r)) J):=by refine S.cQ E.tt (E.af rfl) (E.aN (E.af rfl) E.J O.add) (tS (k:=k+1) f (by rw[BD];lia) (by exact bD (gF (by assumption) (by assumption)) (by rfl))) (S.nil (ge _ _ ⟨_,_,_,_,B.set (k+1) aj,rfl,W.set (by exact eN _ _),?_,by simpa using u,λs m=>uj (bs s m),λj o L d g m=>uj (bj' j o L d g m)⟩));rw[i7 (d8 f),BG]);cases ce:(nl op.L).isEmpty;(·rw[ce]at tl;exact S.bQ (E.bo (E.ig (E.af rfl) tl)) tl yes);·rw[ce]at tl;have cd:=E.bo (E.dN (E.af (F:=[.ref N,.ref Q,.ref (h.length+1),x',.int k,.ref p.length,w]) (i:=5) rfl) tl (E.dO (E.bZ (E.call E.fn (E.cons (E.Y (E.af (i:=0) rfl) (E.af (i:=4) rfl) ei') E.nil) sg) (T.bool rfl))));cases cg:op.ui;(·rw[cg]at cd;exact S.bQ cd rfl yes);·rw[cg]at cd;exact S.a8 cd rfl (S.nil (ge _ _ ⟨_,_,_,_,B,rfl,W,f,u,bs,bj'⟩))
 ·intro F p i;refine JW i ?_;(try clear i;rintro x y z w B rfl D f u bs M);exact S.ret (E.af rfl) (fin0 _ ⟨_,_,B,rfl,D,by exact eN _ _,f,u,bs,λop m g mg=>by refine oE (Gm m) λj d=>?_;exact M j op (dH.mp d).1 d g mg⟩)
noncomputable abbrev Kn:=Nat->Option a7
noncomputable def jw(a:Kn)(r:Nat)(v:Option a7):Kn:=λs=>if s=r then v else a s
noncomputable def lY(d:Nat):a7->Op|.int i=>.set d i|.bool b=>.fg d b|.dc _=>.dj
noncomputable def AT(x:Int):Int:=if x=0 then 0 else if 0<x then 1 else-1
noncomputable def gi(a:List Nat)(x:Int):Option Nat:=if 1<=x/\x<=a.length then a[(x-1).toNat]? else ah
noncomputable def iI(j k l:Nat)(x:Int):Nat:=if x=0 then k else if 0<x then l else j
noncomputable def iH:Option Nat->Op|aa j=>.dA j|ah=>.dj
noncomputable def g8(a:Kn):List Nat->Option (List a7)|[]=>aa []|r::l=>match a r with|aa v=>(g8 a l).map (v::·)|ah=>ah
noncomputable def Op.zo:Op->Bool|.aN ..=>aj|.ao ..=>aj|.bZ ..=>aj|.bn ..=>aj|_=>au
noncomputable def i5(a:Kn)(op:Op):Op:=match op with|.dC d s=>(match a s with|aa v=>lY d v|ah=>op)|.br t x j=>(match a x with|aa (.bool b)=>iH (if b=t then aa j else ah)|_=>op)|.fz x j k l=>(match a x with|aa (.int i)=>.dA (iI j k l i)|_=>op)|.ee x c=>(match a x with|aa (.int i)=>iH (gi c i)|_=>op)|op=>if op.zo then match g8 a op.bR with|aa vs=>(match op.jJ vs with|aa (aa v)=>lY (op.wr.getD 0) v|_=>op)|ah=>op else op
noncomputable def lO:a7->Nat|.int _=>0|.bool _=>1|.dc _=>2
noncomputable def fh(a:Kn):Prop:=∀r v,a r=aa v->v.ok/\lO v=ty r/\lO v≠2
noncomputable def a7.oL:a7->V|.int i=>.Z [.int 0,.int i]|.bool b=>.Z [.int 4,.bool b]|.dc _=>.none
noncomputable def lB(a:Kn):Int->Option V:=λi=>if 0<=i then(a i.toNat).map a7.oL else ah
theorem rZ{a:Kn}{r:Nat}:lB a r=(a r).map a7.oL:=by unfold lB;rw[if_pos (by exact g9 _),jC]
theorem fh.oL(k:fh a)(e:a r=aa v):∃i:Int,v.oL=.Z [.int i,v.b7]:=by
 have:=(k r v e).2.2;induction v;·exact⟨_,rfl⟩
 ·exact⟨_,rfl⟩
 ·exact(this rfl).elim
section
variable{cl:Fn->List V->H->aB V}{F:List V}{h h1:H}{v:V}{Q:RS->Prop}{l:List CS}
theorem S.Il(a:ax cl e F h=.ok v h1)(q:Wp (aV cl l (F.set i v) h1) Q):Wp (aV cl (.tr [.D i e] hs::l) F h) Q:=by constructor;show Q (RS.bh (match((ax cl e F h).on F λv h=>.nx (F.set i v) h).bh λF h=>.nx F h with|.ex x F h=>pt x F h hs|r=>r) _);rw[a];exact q.d7
theorem S.Dl(a:ax cl e F h=.ex x h1)(q:Q ((pt x F h1 hs).bh λF h=>aV cl l F h)):Wp (aV cl (.tr [.D i e] hs::l) F h) Q:=by constructor;show Q (RS.bh (match((ax cl e F h).on F λv h=>.nx (F.set i v) h).bh λF h=>.nx F h with|.ex x F h=>pt x F h hs|r=>r) _);rw[a];exact q
end
theorem O.xo(e:aZ (x<=y)=b):dE .le h (.int x) (.int y)=aa b:=congrArg aa e
theorem MG(b:1<=n):aF n .Cf [.int x] h=.ok (.int (AT x)) h:=by
 refine da (F:=[.int x,.U]) (R:=λr=>r=_) b rfl rfl (S.D (E.af rfl) (S.a8 (E.bi (E.cons (E.af rfl) E.nil) O.Kq) rfl (S.N ?_)));unfold AT;by_cases c:x=0;·rw[if_pos c];exact S.bQ (E.ao (E.af rfl) E.J O.f7) (T.bool (by simpa using c)) (S.ba (S.ret E.J rfl))
 ·rw[if_neg c];refine S.a8 (E.ao (E.af rfl) E.J O.f7) (T.bool (by simpa using c)) (S.N ?_);by_cases a:0<x;(·rw[if_pos a];exact S.ret (E.oF (E.ao (E.af rfl) E.J O.gt) (T.bool (decide_eq_true a)) E.J) rfl);·rw[if_neg a];exact S.ret (E.oB (E.ao (E.af rfl) E.J O.gt) (T.bool (decide_eq_false a)) (E.bn E.J)) rfl
theorem JK{h:H}{w r:V}{j k l:Nat}{x:Int}:dy h (.Z [w,r,.int j,.int k,.int l]) (.int (3+AT x))=aa (.int (iI j k l x:Nat)):=by
 unfold AT iI;by_cases c:x=0;·rw[if_pos c,if_pos c];rfl
 ·rw[if_neg c,if_neg c];by_cases a:0<x;(·rw[if_pos a,if_pos a];rfl);·rw[if_neg a,if_neg a];rfl
theorem Hs(p:d.length<=4)(e:aG h i=aa (nl d))(k:ax cl a F h=.ok (.int x) h)(l:ax cl b F h=.ok (.ref i) h):(∃j:Nat,gi d x=aa j/\ax cl (.mX .le .le (.J 1) a (.bi .dL [b])) F h=.ok (.bool aj) h/\ax cl (.Y b (.aN .sub a (.J 1))) F h=.ok (.int j) h)\/(gi d x=ah/\ax cl (.mX .le .le (.J 1) a (.bi .dL [b])) F h=.ok (.bool au) h):=by
 have m:lu .dL [.ref i] h=.ok (.int d.length) h:=by rw[tX e (by unfold nl;rw[d5];lia)];unfold nl;rw[d5]
 unfold gi;by_cases f:1<=x;·by_cases g:x<=d.length;(·left;rw[if_pos ⟨f,g⟩];(have n:(x-1).toNat<d.length:=by lia);refine(d0 (d[(x-1).toNat]) (gP n) (E.GO E.J k (O.xo (decide_eq_true f)) (E.bi (E.cons l E.nil) m) (O.xo (decide_eq_true g))) ?_);refine E.Y l (E.aN k E.J O.sub) ?_;(have o:(nl d)[(x-1).toNat]?=aa (.int (d[(x-1).toNat]:Nat)):=by unfold nl;rw[j2,gP n];rfl);have:=gL e o (by exact bD (gf (by assumption) (by assumption)) (by rfl));rw[show(((x-1).toNat:Nat):Int)=x-1 by lia]at this;exact this);·right;rw[if_neg λc=>g c.2];exact⟨rfl,E.GO E.J k (O.xo (decide_eq_true f)) (E.bi (E.cons l E.nil) m) (O.xo (decide_eq_false g))⟩
 ·right;rw[if_neg λc=>f c.1];exact⟨rfl,E.YF E.J k (O.xo (decide_eq_false f))⟩
theorem bx.iH:bx h (.dA j) (.Z [.str .fG,.int j]):=bx.mk rfl
theorem bx.dj:bx h .dj (.Z [.str .k7]):=bx.mk rfl
theorem bx.set(e:v.oL=.Z [.int i,v.b7]):bx h (lY d v) (.Z [.str .fZ,.int d,.int i,v.b7]):=by
 induction v;·cases e;exact bx.mk rfl
 ·cases e;exact bx.mk rfl
 ·injection e
section
variable{cl:Fn->List V->H->aB V}{F:List V}{h:H}{k:dr}{L:List (At×V)}{Q:RS->Prop}{l:List CS}
theorem Ku:iu (h++[.bw k,.fields L]) h.length=aa L:=by
 refine vt (k:=k) ?_ ?_;·rw[m5 (cF _),qi];rfl
 ·rw[m5 (eN _ _),yx];rfl
theorem Rg:(h++[O.bw k,O.fields L]).set (h.length+1) (.fields a)=h++[O.bw k,O.fields a]:=by rw[yv _ _ (eN _ _),yx];rfl
theorem nC(e:iu h i=aa L)(a:L.length<100):l5 h (.ref i) n v=aa (h.set (i+1) (.fields (iQ L n v))):=by show((iu h i).bind λl=>if l.length<100 then aa (h.set (i+1) (O.fields (iQ l n v)))else ah)=_;rw[e];exact if_pos a
theorem gp(e:iu h i=aa L)(a:qZ L n=aa v):iX h (.ref i) n=aa v:=yR e a
theorem Zo:(iQ L n v).length<=L.length+1:=by induction L with|nil=>exact cF _|cons p d a=>unfold iQ;split<;>simp only[mZ]<;>lia
theorem S.sD(c:L.length<100)(b:getL F 0=aa (.ref h.length))(a:ax cl e F (h++[.bw k,.fields L])=.ok v (h++[.bw k,.fields L]))(q:Wp (aV cl l F (h++[.bw k,.fields (iQ L n v)])) Q):Wp (aV cl (.cH (.af 0) n e::l) F (h++[.bw k,.fields L])) Q:=S.cH a (E.af b) (by rw[nC Ku c,Rg]) q
end
noncomputable def sC(a:Int):List (At×V):=[(.pW,.int 8),(.Hu,.int 7),(.HK,.int 15),(.GU,.int 38),(.nW,.int a),(.Lo,.int 19),(.H3,.int 72),(.GY,.int 40)]
theorem M9(b:1<=n)(a:pF .kP (.ref h.length::l)=aa [.ref h.length,.int 8,.int 7,.int 15,.int 38,.int s,.int 19,.int 72,.int 40]):aF n .kP (.ref h.length::l) (h++[.bw .jP,.fields []])=.ok .none (h++[.bw .jP,.fields (sC s)]):=da (R:=λr=>r=_) b a rfl (S.sD (cJ rfl) rfl (E.af rfl) (S.sD (cJ rfl) rfl (E.af rfl) (S.sD (cJ rfl) rfl (E.af rfl) (S.sD (cJ rfl) rfl (E.af rfl) (S.sD (cJ rfl) rfl (E.af rfl) (S.sD (cJ rfl) rfl (E.af rfl) (S.sD (cJ rfl) rfl (E.af rfl) (S.sD (cJ rfl) rfl (E.af rfl) (S.nil rfl)))))))))
theorem GT:lp [.int 0,f] []=aa [(.int 0,f)]:=by show(if eZ [] (.int 0)&&aj then aa [(V.int 0,f)]else ah)=_;rw[DI.nil.ox (by decide) (by decide)];rfl
theorem DI.mJ:DI [(.int 0,f)] λj=>if j=0 then aa f else ah:=(DI.nil.set)
theorem R9(f:6<=n)(e:bx h op v)(c:aG h q=aa (vs.map a7.b7))(b:op.jJ vs=aa r)(d:∀v∈vs,v.ok):∃h',a9 h h'/\aF n .c6 [v,.ref q] h=yh r h':=by refine⟨h++[.dict [(.int 0,.fn .ou)]]++[.bw .jP,.fields (sC 1000000)],a9.cA.trans .cA,?_⟩;refine da (F:=[v,.ref q]) (R:=λq=>q=_) (by lia) rfl rfl ?_;have T:Dd (h++[.dict [(.int 0,.fn .ou)]]++[.bw .jP,.fields (sC 1000000)]) h.length (h++[O.dict [(.int 0,.fn .ou)]]).length:=⟨⟨_,a9.cA.bF AK,_,DI.mJ,rfl⟩,_,Ku,rfl⟩;have a:a9 h (h++[.dict [(.int 0,.fn .ou)]]++[.bw .jP,.fields (sC 1000000)]):=a9.cA.trans .cA;refine E.mC (E.call E.fn (E.cons (E.bF (E.cons E.gl (E.cons E.fn E.nil)) GT) (E.cons (E.new (E.cons E.J E.nil) (M9 (by exact c8 (by assumption) (by rfl)) rfl)) (E.cons (E.af (dg rfl e.plain)) (E.cons (E.af rfl) E.nil)))) (Ei (by exact c8 (by assumption) (by rfl)) (e.B λi l=>a.aW) T (a.aW c) b d)) Ps
theorem FD(J:2<=n){x:a7}(e:bx h op v)(z:(∃t r j b,op=.br t r j/\x=.bool b/\o=iH (if b=t then aa j else ah))\/(∃r j k l i,op=.fz r j k l/\x=.int i/\o=.dA (iI j k l i))\/(∃r d i,op=.ee r d/\d.length<=4/\x=.int i/\o=iH (gi d i))):∃u,aF n .yS [v,x.b7] h=.ok u h/\∀C,bx C o u:=by
 rcases z with⟨t,r,j,b,rfl,rfl,rfl⟩|⟨r,j,k,l,i,rfl,rfl,rfl⟩|⟨r,d,i,rfl,B,rfl,rfl⟩;·have f:=e.bW rfl;subst f;by_cases c:b=t;(·refine(bC (.Z [.str .fG,.int j]) ?_ (λZ=>by rw[if_pos c];exact bx.iH));subst c;refine da (F:=[.Z [.str (if b then .iG else .i6),.int r,.int j],.bool b,.U]) (b:=tE) (R:=λq=>q=_) (by exact kJ (by assumption)) rfl rfl ?_;delta tE;induction b;(·exact S.D (E.Y (E.af rfl) E.J I.t0) (S.bQ (E.bo (E.dN (E.ao (E.af rfl) E.str O.bb) (T.bool rfl) (E.dO (E.ao (E.af rfl) E.str O.bb)))) (T.bool rfl) (S.ba (S.ret rfl rfl))));·exact S.D (E.Y (E.af rfl) E.J I.t0) (S.bQ (E.bo (E.ig (E.ao (E.af rfl) E.str O.bb) (T.bool rfl))) (T.bool rfl) (S.ba (S.ret rfl rfl))));·refine(bC (.Z [.str .k7]) ?_ (λZ=>by rw[if_neg c];exact bx.dj));refine da (F:=[.Z [.str (if t then .iG else .i6),.int r,.int j],.bool b,.U]) (b:=tE) (R:=λq=>q=_) (by exact kJ (by assumption)) rfl rfl ?_;delta tE;(induction b<;>induction t<;>first|exact(c rfl).elim|skip);(·exact S.D (E.Y (E.af rfl) E.J I.t0) (S.bQ (E.bo (E.ig (E.ao (E.af rfl) E.str O.bb) (T.bool rfl))) (T.bool rfl) (S.ba (S.ret rfl rfl))));·exact S.D (E.Y (E.af rfl) E.J I.t0) (S.bQ (E.bo (E.dN (E.ao (E.af rfl) E.str O.bb) (T.bool rfl) (E.dO (E.ao (E.af rfl) E.str O.bb)))) (T.bool rfl) (S.ba (S.ret rfl rfl)))
 ·have f:=e.bW rfl;subst f;refine(bC _ ?_ (λZ=>bx.iH));refine da (F:=[.Z [.str .kz,.int r,.int j,.int k,.int l],.int i,.U]) (b:=tE) (R:=λq=>q=_) (by exact kJ (by assumption)) rfl rfl ?_;have s:=MG (n:=n-1) (h:=h) (x:=i) (by exact c8 (by assumption) (by rfl));have D:=JK (h:=h) (w:=.str .kz) (r:=.int r) (j:=j) (k:=k) (l:=l) (x:=i);delta tE;refine S.D (E.Y (E.af rfl) E.J I.t0) (S.a8 (E.bo (E.dN (E.ao (E.af rfl) E.str O.bb) (T.bool rfl) (E.dO (E.ao (E.af rfl) E.str O.bb)))) (T.bool rfl) (S.N (S.bQ (E.ao (E.af rfl) E.str O.bb) (T.bool rfl) (S.ba (S.ret (E.Z (E.cons E.str (E.cons (E.Y (E.af rfl) (E.aN E.J (E.call E.fn (E.cons (E.af rfl) E.nil) s) O.add) D) E.nil))) ?_)))));rfl
 ·refine ay e.sw ?_;rintro a rfl y;(have p:∀(u:V),Wp (aV (aF (n-1)) [(.ifs (.mX .le .le (.J 1) (.af 1) (.bi .dL [(.Y (.af 0) (.J 2))])) [(.ret (.Z [(.str .fG),(.Y (.Y (.af 0) (.J 2)) (.aN .sub (.af 1) (.J 1)))]))] []),(.ret (.gl .km))] [.Z [.str .ji,.int r,.ref a],.int i,.str .ji] h) (λq=>eC q=.ok u h)->aF n .yS [.Z [.str .ji,.int r,.ref a],.int i] h=.ok u h:=by intro u q;refine da (F:=[.Z [.str .ji,.int r,.ref a],.int i,.U]) (R:=λq=>q=_) (by exact kJ (by assumption)) rfl rfl (S.D (E.Y (E.af rfl) E.J I.t0) (S.a8 (E.bo (E.dN (E.ao (E.af rfl) E.str O.bb) rfl (E.dO (E.ao (E.af rfl) E.str O.bb)))) rfl (S.N (S.a8 (E.ao (E.af rfl) E.str O.bb) rfl (S.N q))))));rcases Hs (F:=[.Z [.str .ji,.int r,.ref a],.int i,.str .ji]) (a:=.af 1) (b:=.Y (.af 0) (.J 2)) B y (E.af rfl) (E.Y (E.af rfl) E.J I.t2)with⟨j,g,m,G⟩|⟨g,m⟩;(·rw[g];exact(bC (.Z [.str .fG,.int j]) (p _ (S.bQ m rfl (S.ba (S.ret (E.Z (E.cons E.str (E.cons G E.nil))) rfl)))) (λZ=>bx.iH)));·rw[g];exact(bC (.Z [.str .k7]) (p _ (S.a8 m rfl (S.N (S.ret E.gl rfl)))) (λZ=>bx.dj))
theorem JS{K:Kn}(c:K r=aa v):∀{l:List Nat}{vs:List a7},g8 K l=aa vs->g8 K (l++[r])=aa (vs++[v])|[],vs,e=>by injection e with q;subst q;show(match K r with|aa v=>(g8 K []).map (v::·)|ah=>ah)=_;rw[c];rfl|a::l,vs,e=>by unfold g8 at e;induction b:K a with|none=>rw[b]at e;injection e|some w=>rw[b]at e;induction cl:g8 K l with|none=>rw[cl]at e;injection e|some ws=>rw[cl]at e;injection e with q;subst q;show(match K a with|aa v=>(g8 K (l++[r])).map (v::·)|ah=>ah)=_;rw[b,JS c cl];rfl
theorem Me{K:Kn}(b:K r=ah):∀{l:List Nat},r∈l->g8 K l=ah|a::l,m=>by unfold g8;cases m with|head=>rw[b]|tail _ m=>rw[Me b m];cases K a<;>rfl
theorem CG{K:Kn}(e:g8 K [a]=aa vs):∃x,vs=[x]/\K a=aa x:=by have e:(match K a with|aa v=>aa [v]|ah=>ah)=aa vs:=e;induction c:K a with|none=>rw[c]at e;injection e|some x=>rw[c]at e;injection e with q;subst q;exact(bC x rfl rfl)
theorem TF{K:Kn}(e:g8 K [a,b]=aa vs):∃x y,vs=[x,y]/\K a=aa x/\K b=aa y:=by have e:(match K a with|aa v=>(g8 K [b]).map (v::·)|ah=>ah)=aa vs:=e;induction c:K a with|none=>rw[c]at e;injection e|some x=>rw[c]at e;refine ay (pi.mp (e)) λl d f=>ay (CG d) ?_;rintro y rfl g;exact(gv x y f.symm rfl g)
theorem fh.int{K:Kn}(k:fh K)(c:a<3)(b:K a=aa x):∃i,x=.int i:=by have:=(k a x b).2.1;unfold ty at this;rw[if_pos c]at this;induction x with|int i=>exact⟨i,rfl⟩|_=>injection this
theorem CW{p:a7->Prop}(h:p x):∀v∈[x],p v:=λv m=>by rw[dq.mp m];exact h
theorem Qi{p:a7->Prop}(h:p x)(a:p y):∀v∈[x,y],p v:=λv m=>by cases m with|head=>exact h|tail _ m=>exact CW a v m
theorem ID{K:Kn}{op:Op}{g:Int->Int->Option a7}(k:fh K)(h:a<3)(l:b<3)(e:g8 K [a,b]=aa vs)(f:∀x y,op.jJ [.int x,.int y]=aa (g x y)):∃r,op.jJ vs=aa r/\∀v∈vs,v.ok:=by refine cG (TF e) ?_;rintro x y rfl c d;refine oE (k.int h c) ?_;rintro i rfl;refine oE (k.int l d) ?_;rintro j rfl;exact(bC _ (f i j) (Qi (k _ _ c).1 (k _ _ d).1))
set_option tactic.hygienic true in theorem Ut{K:Kn}{op:Op}(f:op.zo=aj)(s:op.st)(k:fh K)(e:g8 K op.bR=aa vs):∃r,op.jJ vs=aa r/\∀v∈vs,v.ok:=by
 induction op;case aN o d a b=>exact ID k s.2.1 s.2.2 e λz z=>rfl
 case ao o d a b=>exact ID k s.2.1 s.2.2 e λz z=>rfl
 case bn d a=>refine ay (CG e) ?_;rintro x rfl c;refine oE (k.int s.2 c) ?_;rintro i rfl;exact(bC _ rfl (CW (k _ _ c).1))
 case bZ d a=>refine ay (CG e) ?_;rintro x rfl c;have:=(k _ _ c).2.1;cases s.2;induction x with|bool b=>exact(bC _ rfl (CW trivial))|_=>cases this
 all_goals injection f
theorem WE(f:1<=n)(e:bx h op v)(j:op.jJ vs=aa (aa x)):∃i:Int,aF n .Lq [v] h=.ok (.int i) h/\x.oL=.Z [.int i,x.b7]:=by generalize g:aa x=r at j;induction w7 j with|aN o d a b p q=>rw[show v=.Z [.str .iP,.int d,.str o.eO,.int 0,.int a,.int b]from e.bW rfl];refine ay (u7 g.symm) ?_;rintro z c rfl;refine(bC 0 (da (F:=[_,.U]) (R:=λq=>q=_) f rfl rfl ?_) rfl);exact S.D (E.Y (E.af rfl) E.J I.t0) (S.bQ (E.bo (E.ig (E.ao (E.af rfl) E.str O.bb) rfl)) rfl (S.ba (S.ret (E.Y (E.af rfl) E.J I.t3) rfl)))|ao o d a b p q=>rw[show v=.Z [.str .gZ,.int d,.str o.eO,.int 0,.int a,.int b]from e.bW rfl];injection g with q;subst q;refine(bC 4 (da (F:=[_,.U]) (b:=ya) (R:=λq=>q=_) f rfl rfl ?_) rfl);delta ya;refine S.D (E.Y (E.af rfl) E.J I.t0) (S.a8 (E.bo (E.dN (E.ao (E.af rfl) E.str O.bb) (T.bool rfl) (E.dO (E.ao (E.af rfl) E.str O.bb)))) (T.bool rfl) (S.N (S.a8 (E.ao (E.af rfl) E.str O.bb) (T.bool rfl) (S.N (S.bQ (E.ao (E.af rfl) E.str O.bb) (T.bool rfl) (S.ba (S.ret E.gl ?_)))))));rfl|bZ d a b=>rw[show v=.Z [.str .e8,.int d,.str .nK,.int 4,.int a]from e.bW rfl];injection g with q;subst q;refine(bC 4 (da (F:=[_,.U]) (b:=ya) (R:=λq=>q=_) f rfl rfl ?_) rfl);exact S.D (E.Y (E.af rfl) E.J I.t0) (S.bQ (E.bo (E.dN (E.ao (E.af rfl) E.str O.bb) rfl (E.dO (E.ao (E.af rfl) E.str O.bb)))) rfl (S.ba (S.ret (E.Y (E.af rfl) E.J I.t3) rfl)))|bn d a p=>rw[show v=.Z [.str .e8,.int d,.str .nG,.int 0,.int a]from e.bW rfl];refine ay (u7 g.symm) ?_;rintro z c rfl;refine(bC 0 (da (F:=[_,.U]) (b:=ya) (R:=λq=>q=_) f rfl rfl ?_) rfl);exact S.D (E.Y (E.af rfl) E.J I.t0) (S.bQ (E.bo (E.dN (E.ao (E.af rfl) E.str O.bb) rfl (E.dO (E.ao (E.af rfl) E.str O.bb)))) rfl (S.ba (S.ret (E.Y (E.af rfl) E.J I.t3) rfl)))
noncomputable def G8(K:Kn)(op:Op)(v:V)(h:H)(r:aB V):Prop:=∃u h',r=.ok u h'/\a9 h h'/\∀a,bx a op v->bx a (i5 K op) u
noncomputable abbrev X4(v:V)(m:Nat)(op:Op):List V:=[v,.ref m,.fn .c6,.str op.bJ,.U,.U,.U]
noncomputable abbrev sE(n j:Nat)(K:Kn)(op:Op)(v:V)(m:Nat)(h:H):Prop:=Wp (aV (aF n) (Nv.drop j) (X4 v m op) h) λr=>G8 K op v h (eC r)
section
variable{n m:Nat}{h:H}{op:Op}{v:V}{d:List (V×V)}{K:Kn}
theorem FL(a:gB v=aj)(b:gh op.bJ [.str .iP,.str .gZ,.str .e8,.str .o3,.str .o7,.str .rU]=aa au)(c:i5 K op=op):sE n 3 K op v m h:=S.bQ (E.ao (E.af rfl) E.gl (O.zc b)) rfl (S.ba (S.ret (E.af (dg rfl a)) ⟨_,_,rfl,.b8,λd e=>by rw[c];exact e⟩))
theorem Gb(a:(op.bJ==.gE)=au)(q:sE n 2 K op v m h):sE n 1 K op v m h:=S.a8 (E.bo (E.ig (E.ao (E.af rfl) E.str O.bb) (T.bool a))) (T.bool a) (S.N q)
theorem E6(a:gh op.bJ [.str .iG,.str .i6,.str .kz,.str .ji]=aa au)(q:sE n 3 K op v m h):sE n 2 K op v m h:=S.a8 (E.bo (E.ig (E.ao (E.af rfl) (E.Z (E.cons E.str (E.cons E.str (E.cons E.str (E.cons E.str E.nil))))) (O.jv a)) (T.bool rfl))) (T.bool rfl) (S.N q)
theorem Ck(l:gB v=aj)(j:cN h m=aa d)(D:DI d (lB K))(k:fh K){x:Nat}(f:x<6)(g:dy h v (.int 1)=aa (.int x))(o:gh op.bJ [.str .iG,.str .i6,.str .kz,.str .ji]=aa aj)(t:(op.bJ==.gE)=au)(w:gh op.bJ [.str .iP,.str .gZ,.str .e8,.str .o3,.str .o7,.str .rU]=aa au)(z:K x=ah->i5 K op=op)(B:∀y,K x=aa y->∃u,aF n .yS [v,y.b7] h=.ok u h/\∀f,bx f (i5 K op) u):sE n 1 K op v m h:=by refine Gb t ?_;have b:∀{F:List V},F[0]?=aa v->getL F 0=aa v:=λe=>dg e l;have a:=xi j D (k:=x) (by exact iU) (by exact eM.mpr (bD (by assumption) (by rfl)));rw[rZ]at a;induction c:K x with|none=>rw[c]at a;exact S.a8 (E.bo (E.dN (E.ao (E.af rfl) (E.Z (E.cons E.str (E.cons E.str (E.cons E.str (E.cons E.str E.nil))))) (O.jv o)) (T.bool rfl) (E.dO (E.ao (E.Y (E.af (b rfl)) E.J g) (E.af rfl) a)))) (T.bool rfl) (S.N (FL l w (z c)))|some y=>rw[c]at a;refine ay (B y c) λu r s=>oE (k.oL c) λi q=>?_;have p:=xr j D (k:=x) (by exact iU) (by exact eM.mpr (bD (by assumption) (by rfl))) (by rw[rZ,c];exact congrArg aa q);exact S.bQ (E.bo (E.dN (E.ao (E.af rfl) (E.Z (E.cons E.str (E.cons E.str (E.cons E.str (E.cons E.str E.nil))))) (O.jv o)) (T.bool rfl) (E.dO (E.ao (E.Y (E.af (b rfl)) E.J g) (E.af rfl) a)))) (T.bool rfl) (S.ba (S.ret (E.call E.fn (E.cons (E.af (b rfl)) (E.cons (E.Y (E.Y (E.af rfl) (E.Y (E.af (b rfl)) E.J g) p) E.J I.t1) E.nil)) r) ⟨_,_,rfl,.b8,λf Z=>s f⟩))
theorem zT(hn:6<=n)(e:bx h op v)(s:op.st)(L:cN h m=aa d)(D:DI d (lB K))(k:fh K)(z0:op.zo=aj)(z1:gh op.bJ [.str .iP,.str .gZ,.str .e8,.str .o3,.str .o7,.str .rU]=aa aj)(z2:(op.bJ==.gE)=au)(z3:gh op.bJ [.str .iG,.str .i6,.str .kz,.str .ji]=aa au)(B:i5 K op=match g8 K op.bR with|aa vs=>(match op.jJ vs with|aa (aa v)=>lY (op.wr.getD 0) v|_=>op)|ah=>op)(z5:∃d,op.wr=aa d):sE n 1 K op v m h:=by
 have rd:=s.rd;have vp:=e.plain;have f:∀{F:List V},F[0]?=aa v->getL F 0=aa v:=λe=>dg e vp;refine Gb z2 (E6 z3 (S.a8 (E.ao (E.af rfl) E.gl (O.zc z1)) rfl (S.N (S.D (E.aW E.nil) ?_))));have C:a9 h (h++[.list []]):=.cA;have W:=Ab (n:=n) (by refine di ?_ (by assumption);exact cJ rfl) (e.B λi l=>C.aW);have rl:op.bR.length<100:=by have:=P.count op.cS;have:=qx op;unfold Op.bR;exact bD (gF (by assumption) (by assumption)) (by rfl)
 have M:(h++[O.list []]).length=h.length+1:=by rw[cZ];rfl
 rw[M]at W;refine S.fr (λk2 F b=>∃x vs,F=[v,.ref m,.fn .c6,.str op.bJ,.ref h.length,x,.U]/\a9 h b/\aG b h.length=aa (vs.map a7.b7)/\aG b (h.length+1)=aa (nl op.bR)/\g8 K (op.bR.take k2)=aa vs/\vs.length<=k2) (E.call E.fn (E.cons (E.af (f rfl)) E.nil) W) ⟨_,[],rfl,C.trans .cA,gC dJ,M▸dJ,rfl,cF _⟩ (λk F b i=>by refine iF i λx vs _ _ _ e _=>?_;exact e) ?_ ?_;·intro k2 w F b ew i;refine ze i ?_;(try clear i;rintro x vs rfl a j N g Y);refine ay (pD ew) ?_;rintro r rfl t;have R:=cW t;have lr:=rd r R;have k2l:=(dH.mp t).1;have o:=CQ (a.bF L) D (k:=r) (by exact iU) (by exact eM.mpr (bD (by assumption) (by rfl)));rw[rZ]at o;induction c:K r with|none=>rw[c]at o;refine S.bQ (E.ao (E.af rfl) (E.af rfl) o) rfl (S.ba (S.ret (E.af (f rfl)) ⟨_,_,rfl,a,?_⟩));intro Q e;rw[B,Me c R];exact e|some y=>rw[c]at o;refine oE (k.oL c) λi z=>?_;have gx:=xr (a.bF L) D (k:=r) (by exact iU) (by exact eM.mpr (bD (by assumption) (by rfl))) (by rw[rZ,c];exact congrArg aa z);refine S.a8 (E.ao (E.af rfl) (E.af rfl) o) rfl (S.N (S.cO (E.bH (E.af rfl) (lX j rfl) (E.cons (E.Y (E.Y (E.af rfl) (E.af rfl) gx) E.J I.t1) E.nil) (nT j (by rw[d5];lia))) (S.nil ⟨_,vs++[y],rfl,a.set (cF _),?_,?_,?_,by rw[cZ];exact lF Y⟩)));(·rw[i7 (d8 j),l8];rfl);(·rw[j8 (l9 (m4 _))];exact N);·rw[lD,t];exact JS c g
 ·intro F b i;refine ze i ?_;(try clear i;rintro x vs rfl a j N g Y);(have tk:op.bR.take (nl op.bR).length=op.bR:=by unfold nl;rw[d5];exact rh);rw[tk]at g;refine ay (Ut z0 s k g) λr p Z=>?_;have G:=e.B λi l=>a.aW;refine ay (R9 (by assumption) G j p Z) λu q U=>?_;induction r with|none=>refine S.Dl (E.call (E.af rfl) (E.cons (E.af (f rfl)) (E.cons (E.af rfl) E.nil)) U) ?_;(have b:pt .aF [v,.ref m,.fn .c6,.str op.bJ,.ref h.length,x,.U] u [(.aF,.qg 0)]=.rt v u:=by show(if X.aF=X.aF then(match getL [v,.ref m,.fn .c6,.str op.bJ,.ref h.length,x,.U] 0 with|aa v=>RS.rt v u|ah=>.aM)else _)=_;rw[if_pos rfl,f rfl]);rw[b];refine⟨_,_,rfl,a.trans q,?_⟩;intro Q e;rw[B,g];dsimp only;rw[p];exact e|some y=>refine S.Il (E.call (E.af rfl) (E.cons (E.af (f rfl)) (E.cons (E.af rfl) E.nil)) U) ?_;have J:=G.B λi l=>q.aW;refine ay (WE (n:=n) (by refine di ?_ (by assumption);exact cJ rfl) J p) λi sk z=>?_;have sw:=xD (n:=n) (by refine di ?_ (by assumption);exact cJ rfl) J;refine oE z5 λd ed=>?_;(have yp:gB y.b7=aj:=by induction y<;>rfl);refine S.ret (E.Z (E.cons E.str (E.cons (E.call E.fn (E.cons (E.af (f rfl)) E.nil) sw) (E.cons (E.call E.fn (E.cons (E.af (f rfl)) E.nil) sk) (E.cons (E.af (dg rfl yp)) E.nil))))) ⟨_,_,rfl,a.trans q,?_⟩;intro Q e;rw[B,g];dsimp only;rw[p,ed];exact bx.set z
set_option tactic.hygienic true in theorem Yo{n:Nat}(f:7<=n)(e:bx h op v)(s:op.st)(g:cN h m=aa d)(D:DI d (lB K))(k:fh K):∃u h',aF n .FB [v,.ref m,.fn .c6] h=.ok u h'/\a9 h h'/\∀z,bx z op v->bx z (i5 K op) u:=by
 refine da (F:=[v,.ref m,.fn .c6,.U,.U,.U,.U]) (R:=G8 K op v h) (by lia) rfl rfl ?_;have q:=e.plain;refine S.D (E.Y (E.af (dg rfl q)) E.J (jK e)) ?_;obtain⟨n,rfl⟩:∃x,n=x+1:=⟨n-1,(vH (di (cJ rfl) f)).symm⟩;have f:=abo f;show sE n 1 K op v m h;induction op;case dC a b=>have o:v=.Z [.str .gE,.int a,.int b]:=e.bW rfl;subst o;have J:=s.2.1;have r:=xi g D (k:=b) (by exact iU) (by exact eM.mpr (bD (by assumption) (by rfl)));rw[rZ]at r;induction c:K b with|none=>rw[c]at r;exact S.a8 (E.bo (E.dN (E.ao (E.af rfl) E.str O.bb) rfl (E.dO (E.ao (E.Y (E.af rfl) E.J I.t2) (E.af rfl) r)))) rfl (S.N (E6 rfl (FL q rfl (by show(match K b with|aa v=>lY a v|ah=>Op.dC a b)=_;rw[c]))))|some y=>rw[c]at r;refine oE (k.oL c) λi C=>?_;have B:=xr g D (k:=b) (by exact iU) (by exact eM.mpr (bD (by assumption) (by rfl))) (by rw[rZ,c];exact congrArg aa C);refine S.bQ (E.bo (E.dN (E.ao (E.af rfl) E.str O.bb) rfl (E.dO (E.ao (E.Y (E.af rfl) E.J I.t2) (E.af rfl) r)))) rfl (S.ba (S.ret (E.Z (E.cons E.str (E.cons (E.Y (E.af rfl) E.J I.t1) (E.cons (E.Y (E.Y (E.af rfl) (E.Y (E.af rfl) E.J I.t2) B) E.J I.t0) (E.cons (E.Y (E.Y (E.af rfl) (E.Y (E.af rfl) E.J I.t2) B) E.J I.t1) E.nil))))) ⟨_,_,rfl,.b8,?_⟩));intro z e;show bx z (match K b with|aa v=>lY a v|ah=>Op.dC a b) _;rw[c];exact bx.set C
 case br t x j=>have o:=e.bW rfl;subst o;refine Ck q g D k (s.rd x (.head _)) I.t1 (by induction t<;>rfl) (by induction t<;>rfl) (by induction t<;>rfl) (λc=>by show(match K x with|aa (.bool b)=>iH (if b=t then aa j else ah)|_=>Op.br t x j)=_;rw[c]) (λy c=>?_);have ty:=(k x y c).2.1;have w:=s;subst w;induction y with|bool b=>have:=FD (di (by decide) f) e (.inl ⟨t,3,j,b,rfl,rfl,rfl⟩);rwa [show i5 K (.br t 3 j)=iH (if b=t then aa j else ah)by show(match K 3 with|aa (.bool b)=>iH (if b=t then aa j else ah)|_=>Op.br t 3 j)=_;rw[c]]|_=>cases ty
 case fz x j k' l=>have o:=e.bW rfl;subst o;refine Ck q g D k (s.rd x (.head _)) I.t1 rfl rfl rfl (λc=>by show(match K x with|aa (.int i)=>Op.dA (iI j k' l i)|_=>Op.fz x j k' l)=_;rw[c]) (λy c=>?_);have p:=(k x y c).2.1;have w:x<3:=s;unfold ty at p;rw[if_pos w]at p;induction y with|int i=>have:=FD (di (by decide) f) e (.inr (.inl ⟨x,j,k',l,i,rfl,rfl,rfl⟩));rwa [show i5 K (.fz x j k' l)=.dA (iI j k' l i)by show(match K x with|aa (.int i)=>Op.dA (iI j k' l i)|_=>Op.fz x j k' l)=_;rw[c]]|_=>injection p
 case ee x js=>refine ay e.sw λa o G=>?_;subst o;refine Ck q g D k (s.rd x (.head _)) I.t1 rfl rfl rfl (λc=>by show(match K x with|aa (.int i)=>iH (gi js i)|_=>Op.ee x js)=_;rw[c]) (λy c=>?_);have p:=(k x y c).2.1;have w:x<3:=s.1;unfold ty at p;rw[if_pos w]at p;induction y with|int i=>have:=FD (n:=n) (di (by decide) f) e (.inr (.inr ⟨x,js,i,rfl,s.2,rfl,rfl⟩));rwa [show i5 K (.ee x js)=iH (gi js i)by show(match K x with|aa (.int i)=>iH (gi js i)|_=>Op.ee x js)=_;rw[c]]|_=>injection p
 case aN=>exact zT f e s g D k rfl rfl rfl rfl rfl ⟨_,rfl⟩
 case ao=>exact zT f e s g D k rfl rfl rfl rfl rfl ⟨_,rfl⟩
 case bZ=>exact zT f e s g D k rfl rfl rfl rfl rfl ⟨_,rfl⟩
 case bn=>exact zT f e s g D k rfl rfl rfl rfl rfl ⟨_,rfl⟩
 all_goals exact Gb rfl (E6 rfl (FL q rfl rfl))
end
noncomputable def Op.uZ:Op->Option a7|.set _ v=>aa (.int v)|.fg _ b=>aa (.bool b)|_=>ah
noncomputable def sv(K:Kn)(op:Op):Kn:=match op.wr with|aa r=>jw K r op.uZ|ah=>K
noncomputable def mz:Kn:=λ_=>ah
noncomputable def FK(c:List Op)(B:List Bool):Nat->Kn|0=>mz|k+1=>match c[k]? with|aa op=>sv (if B[k]?=aa aj then mz else FK c B k) (i5 (if B[k]?=aa aj then mz else FK c B k) op)|ah=>mz
noncomputable def KA(c:List Op)(B:List Bool)(k:Nat):Kn:=if B[k]?=aa aj then mz else FK c B k
noncomputable def nz(c:List Op)(B:List Bool):List Op:=c.mapIdx λk op=>i5 (KA c B k) op
theorem Js:(nz c B)[k]?=(c[k]?).map (i5 (KA c B k)):=by unfold nz;rw[uz]
theorem Fv:(nz c B).length=c.length:=ri
theorem DY(e:c[k]?=aa op):FK c B (k+1)=sv (KA c B k) (i5 (KA c B k) op):=by show(match c[k]? with|aa op=>_|ah=>_)=_;rw[e];rfl
theorem JN{K:Kn}:lB (jw K r v)=λj=>if j=(r:Int)then v.map a7.oL else lB K j:=by
 funext j;unfold lB jw;by_cases c:0<=j;·rw[if_pos c,if_pos c];by_cases a:j=r;(·subst a;rw[if_pos rfl,jC,if_pos rfl]);·rw[if_neg a,if_neg (by lia)]
 ·rw[if_neg c,if_neg c,if_neg (by lia)]
theorem pG(h:d<3):ty d=0:=if_pos h
theorem Jy(o:v.ok)(t:lO v=ty d)(p:lO v≠2):(lY d v).st:=by unfold ty at t;induction v with|int i=>refine⟨?_,o.1,o.2⟩;by_cases c:d<3;(·exact c);·rw[if_neg c]at t;split at t<;>injection t|bool b=>by_cases c:d<3;(·rw[if_pos c]at t;injection t);·rw[if_neg c]at t;by_cases a:d=3;(·exact a);·rw[if_neg a]at t;cases t|dc=>exact(p rfl).elim
theorem KG:(iH j).st:=by induction j<;>exact trivial
theorem D7{op:Op}(s:op.st)(e:op.jJ vs=aa (aa v)):lO v=ty (op.wr.getD 0)/\lO v≠2:=by
 have d:(0:Nat)≠2:=by decide
 have b:(1:Nat)≠2:=by decide
 generalize a:aa v=r at e;induction w7 e with|aN=>refine ay (u7 a.symm) ?_;rintro z c rfl;exact⟨(pG s.1).symm,d⟩|ao=>injection a with q;subst q;have:=s.1;exact⟨by subst this;rfl,b⟩|bZ=>injection a with q;subst q;have:=s.1;exact⟨by subst this;rfl,b⟩|bn=>refine ay (u7 a.symm) ?_;rintro z c rfl;exact⟨(pG s.1).symm,d⟩
theorem VI{P:Op->Prop}{K:Kn}(a:P op)(b:∀{vs v},g8 K op.bR=aa vs->op.jJ vs=aa (aa v)->P (lY (op.wr.getD 0) v)):P (match g8 K op.bR with|aa vs=>(match op.jJ vs with|aa (aa v)=>lY (op.wr.getD 0) v|_=>op)|ah=>op):=by induction e:g8 K op.bR with|none=>exact a|some vs=>dsimp only;induction c:op.jJ vs with|none=>exact a|some r=>induction r with|none=>exact a|some v=>exact b e c
theorem CB{P:Op->Prop}{K:Kn}(c:P op)(h:∀{d a v},op=.dC d a->K a=aa v->P (lY d v))(br:∀{t x j b},op=.br t x j->K x=aa (.bool b)->P (iH (if b=t then aa j else ah)))(n:∀{x j k l i},op=.fz x j k l->K x=aa (.int i)->P (.dA (iI j k l i)))(o:∀{x f i},op=.ee x f->K x=aa (.int i)->P (iH (gi f i)))(g:∀{vs v},op.zo=aj->g8 K op.bR=aa vs->op.jJ vs=aa (aa v)->P (lY (op.wr.getD 0) v)):P (i5 K op):=by induction op with|dC d a=>show P (match K a with|aa v=>lY d v|ah=>Op.dC d a);(induction e:K a with|none=>exact c|some v=>exact h rfl e)|br t x j=>show P (match K x with|aa (.bool b)=>iH (if b=t then aa j else ah)|_=>Op.br t x j);(induction e:K x with|none=>exact c|some v=>(induction v with|bool b=>exact br rfl e|_=>exact c))|fz x j l m=>show P (match K x with|aa (.int i)=>Op.dA (iI j l m i)|_=>Op.fz x j l m);(induction e:K x with|none=>exact c|some v=>(induction v with|int i=>exact n rfl e|_=>exact c))|ee x f=>show P (match K x with|aa (.int i)=>iH (gi f i)|_=>Op.ee x f);(induction e:K x with|none=>exact c|some v=>(induction v with|int i=>exact o rfl e|_=>exact c))|aN|ao|bZ|bn=>all_goals exact VI c (g rfl)|_=>exact c
theorem ES{K:Kn}(s:op.st)(k:fh K):(i5 K op).st:=CB (P:=Op.st) s (λe c=>by subst e;exact Jy (k _ _ c).1 ((k _ _ c).2.1.trans s.2.2.symm) (k _ _ c).2.2) (λz z=>KG) (λz z=>trivial) (λz z=>KG) λz z a=>Jy (Uy a) (D7 s a).1 (D7 s a).2
theorem fh.jw{K:Kn}(k:fh K)(a:∀x,v=aa x->x.ok/\lO x=ty r/\lO x≠2):fh (jw K r v):=by
 intro s x e;unfold Internal.jw at e;split at e;·rename_i c;subst c;exact a _ e
 ·exact k _ _ e
theorem fh.new{K:Kn}(k:fh K)(s:op.st):fh (sv K op):=by unfold sv;induction w:op.wr with|none=>exact k|some r=>refine k.jw λx e=>?_;cases op;(case set=>cases e;cases w;exact(eA s.2 ((pG s.1).symm) (by decide:(0:Nat)≠2)));(case fg=>cases e;cases w;have:r=3:=s;subst this;exact(eA trivial rfl (by decide:(1:Nat)≠2)));all_goals cases e
theorem fh.no:fh mz:=λ_ _ e=>by injection e
theorem Kb:lB mz=λ_=>ah:=by funext j;unfold lB mz;split<;>rfl
theorem pu(e:cN h m=aa d)(f:aG h i=aa l):aG (h.set m o) i=aa l:=by
 rw[j8];·exact f
 intro c;subst c;have a:=jH e;have b:=pN f;rw[a]at b;cases b
theorem Er.bF(e:cN h m=aa d):∀i l,aG (Er p h) i=aa l->aG (Er p (h.set m o)) i=aa l:=λi l a=>Er.dW (pu e (Er.aW a).1) (Er.aW a).2
theorem TX:(qo d k).length<=d.length:=abp _ _
theorem wW(a:aG h p=aa l)(b:cN h m=aa d):p≠m:=by intro c;subst c;have a:=pN a;have b:=jH b;rw[a]at b;cases b
theorem Ad(a:k<B.length):∃b,(fH B)[k]?=aa (.bool b)/\B[k]?=aa b:=by refine(bC (B[k]) ?_ (gP a));unfold fH;rw[j2,gP a];rfl
theorem dM.same(C:dM h i c)(K:a9 h h')(a:dy h (.ref i) (.int k)=aa v)(b:dy h' (.ref i) (.int k)=aa d):d=v:=by refine ay C λvs e z=>?_;have f:=K.aW e;rw[yY e]at a;rw[yY f]at b;exact bU (b.symm.trans a)
inductive tC(h:H)(ci si b o:Nat)(c:List Op)(B:List Bool)(K:Kn)(k:Nat):List V->H->Prop|mk(m:Nat)(d:List (V×V))(us:List V)(F6 F7 F8:V)(hh:H)(K0:a9 h hh)(hb:aG hh b=aa (fH B))(hm:h.length<=m)(hd:cN hh m=aa d)(D:DI d (lB K))(dl:d.length<=k)(ko:fh K)(ho:aG hh o=aa us)(ul:us.length=k)(en:ga (Er o hh) ((nz c B).take k) us):tC h ci si b o c B K k [.ref ci,.ref si,.fn .c6,.ref b,.ref m,.ref o,F6,F7,F8] hh
noncomputable abbrev Li:List CS:=[(.ifs (.ao .eq (.Y (.af 7) (.J 0)) (.str .fZ)) [(.cQ (.af 4) (.af 8) (.Z [(.Y (.af 7) (.J 2)),(.Y (.af 7) (.J 3))]))] [(.ifs (.ao .f9 (.af 8) (.af 4)) [(.cO (.bH (.af 4) .jX [(.af 8)]))] [])]),(.cO (.bH (.af 5) .fF [(.af 7)]))]
section
variable{n ci si b o k m:Nat}{h hh:H}{c:List Op}{B:List Bool}{K:Kn}{d:List (V×V)}{us:List V}{op o':Op}{u F7 F8 w:V}{Q:RS->Prop}{J:List V->H->Prop}
theorem Bg(l:∀F hh,tC h ci si b o c B K (k+1) F hh->J F hh)(g:a9 h hh)(v:h.length<=o)(bo:b≠o)(r:k<900)(p:aG hh b=aa (fH B))(q:h.length<=m)(e:cN hh m=aa d)(D:DI d (lB K))(i:d.length<=k+1)(s:fh K)(ho:aG hh o=aa us)(f:us.length=k)(j:ga (Er o hh) ((nz c B).take k) us)(t:(nz c B)[k]?=aa o')(a:bx (Er o hh) o' u):Wp (aV (aF n) [(.cO (.bH (.af 5) .fF [(.af 7)]))] [.ref ci,.ref si,.fn .c6,.ref b,.ref m,.ref o,.int k,u,w] hh) (Lp Q J):=by refine S.cO (E.bH (E.af rfl) (lX ho rfl) (E.cons (E.af (dg rfl a.plain)) E.nil) (nT ho (f▸dF r (by decide)))) (S.nil (l _ _ (.mk m d (us++[u]) _ _ _ _ (g.set v) ((j8 bo.symm).symm▸p) q ((lZ (wW ho e)).symm▸e) D i s (i7 (d8 ho)) (by rw[cZ,f];rfl) ?_)));rw[Er.set,lD,t];exact j.nA a
set_option tactic.hygienic true in theorem R6(e:bx hh o' u):((o'.bJ==.fZ)=au/\o'.uZ=ah)\/∃(r:Nat)(i:Int)(y:a7),o'.wr=aa r/\o'.uZ=aa y/\y.oL=.Z [.int i,y.b7]/\u=.Z [.str .fZ,.int r,.int i,y.b7]:=by
 induction o';case set r i=>exact .inr (zj r 0 (.int i) rfl rfl rfl (e.bW rfl))
 case fg r b=>exact .inr (zj r 4 (.bool b) rfl rfl rfl (e.bW rfl))
 case br t _ _=>exact .inl ⟨by induction t<;>rfl,rfl⟩
 all_goals exact .inl ⟨rfl,rfl⟩
theorem Ub(e:K r=ah):jw K r ah=K:=by
 funext j;unfold jw;split;·rename_i q;rw[q,e]
 ·rfl
theorem W4(t:∀F hh,tC h ci si b o c B (sv K o') (k+1) F hh->J F hh)(p:a9 h hh)(L:h.length<=o)(bo:b≠o)(j:k<900)(v:aG hh b=aa (fH B))(g:h.length<=m)(a:cN hh m=aa d)(D:DI d (lB K))(f:d.length<=k)(Y:fh K)(ho:aG hh o=aa us)(M:us.length=k)(q:ga (Er o hh) ((nz c B).take k) us)(C:(nz c B)[k]?=aa o')(U:o'.st)(R:bx hh o' u)(s:bx (Er o hh) o' u):Wp (aV (aF n) Li [.ref ci,.ref si,.fn .c6,.ref b,.ref m,.ref o,.int k,u,.int (kR o'.wr)] hh) (Lp Q J):=by
 have Z:=R.plain;have e:sv K o'=(match o'.wr with|aa r=>jw K r o'.uZ|ah=>K):=rfl;have x:=Y.new U;rcases R6 R with⟨N,W⟩|⟨r,i,y,N,W,z3,z4⟩;·refine S.a8 (E.ao (E.Y (E.af (dg rfl Z)) E.J (jK R)) E.str O.bb) (T.bool N) (S.ba ?_);induction w:o'.wr with|none=>rw[w]at e;exact S.a8 (E.ao (E.af rfl) (E.af rfl) (xi a D (by decide) (by decide))) rfl (S.N (S.N (Bg t p L bo j v g a (by rw[e];exact D) (jc f) x ho M q C s)))|some r=>rw[w,W]at e;have G:=U.wr r w;have l:=xi a D iU (eM.mpr (dF G (by decide)));rw[rZ]at l;induction z:K r with|none=>rw[z]at l;exact S.a8 (E.ao (E.af rfl) (E.af rfl) l) rfl (S.N (S.N (Bg t p L bo j v g a (by rw[e];dsimp only;rw[Ub z];exact D) (jc f) x ho M q C s)))|some y=>rw[z]at l;exact S.bQ (E.ao (E.af rfl) (E.af rfl) l) rfl (S.ba (S.cO (E.bH (E.af rfl) (uY a rfl) (E.cons (E.af rfl) E.nil) (Qk a D (k:=r) iU (eM.mpr (dF G (by decide))) (dF (gF f j) (by decide)) (by rw[rZ,z];rfl))) (S.N (S.N (Bg t (p.set g) L bo j (pu a v) g (tV (oz a)) (by rw[e];dsimp only;rw[JN];exact D.Eb) (di TX (jc f)) x (pu a ho) M (q.B (Er.bF a)) C (s.B (Er.bF a)))))))
 ·subst z4;rw[N]at e⊢;have G:=U.wr r N;exact S.bQ (E.ao (E.Y (E.af rfl) E.J I.t0) E.str O.bb) rfl (S.ba (S.cQ (E.Z (E.cons (E.Y (E.af rfl) E.J I.t2) (E.cons (E.Y (E.af rfl) E.J I.t3) E.nil))) (E.af rfl) (E.af rfl) (zE a D iU (eM.mpr (dF G (by decide))) (dF (gF f j) (by decide))) (S.N (Bg t (p.set g) L bo j (pu a v) g (tV (oz a)) (by rw[e];dsimp only;rw[JN,W,NT,z3];exact D.set) (di Bd (lF f)) x (pu a ho) M (q.B (Er.bF a)) C (s.B (Er.bF a))))))
theorem Ny(z:7<=n)(C:dM h ci c)(G:mV c)(f:c[k]?=aa op)(L:K=KA c B k)(x:∀F hh,tC h ci si b o c B (FK c B (k+1)) (k+1) F hh->J F hh)(M:h.length<=o)(bo:b≠o)(kc:k<900)(i:tC h ci si b o c B K k [.ref ci,.ref si,.fn .c6,.ref b,.ref m,.ref o,.int k,F7,F8] hh):Wp (aV (aF n) ((.D 7 (.call (.gl (.fn .FB)) [(.Y (.af 0) (.af 6)),(.af 4),(.af 2)]))::(.D 8 (.call (.gl (.fn .tu)) [(.af 7)]))::Li) [.ref ci,.ref si,.fn .c6,.ref b,.ref m,.ref o,.int k,F7,F8] hh) (Lp Q J):=by have gl:=G.bN;have st:=G.st op (cW f);cases i with|mk _ d us _ _ _ _ g hb hm y D U p ho ul W=>refine ay ((C.keep g).cp f (dF gl (by decide))) λv r t=>cG (Yo z t st y D p) λu Z rf a s=>?_;have j:=s _ (t.B λi l=>a.aW);have up:=j.plain;refine S.D (E.call E.fn (E.cons (E.Y (E.af rfl) (E.af rfl) r) (E.cons (E.af rfl) (E.cons (E.af rfl) E.nil))) rf) (S.D (E.call E.fn (E.cons (E.af (dg rfl up)) E.nil) (xD (di (by decide) z) j)) ?_);have q:=g.trans a;(have Y:bx (Er o Z) op v:=by refine ay (C.cp f (dF gl (by decide))) λw N R=>?_;cases C.same g N r;exact R.B λi l e=>Er.dW (q.aW e) (rm (gf (d8 e) M)));rw[DY f,<-L]at x;exact W4 x q M bo kc (a.aW hb) hm (a.bF y) D U p (a.aW ho) ul (W.B (Er.keep a)) (by rw[Js,f,<-L];rfl) (ES st p) j (s _ Y)
theorem Q5(j:8<=n){R:aB V->Prop}(C:dM h ci c)(G:mV c)(hs:aG h si=aa (nl y))(sb:∀s∈y,s<=c.length)(q:∀o h' B,a9 h h'->dM h' o (nz c B)->(∀s∈y,B[s]?=aa aj)->(∀op∈c,∀g∈op.L,B[g]?=aa aj)->R (.ok (.ref o) h')):R (aF n .zQ [.ref ci,.ref si,.fn .c6] h):=by
 have gl:=G.bN;obtain⟨n,rfl⟩:∃x,n=x+1:=⟨n-1,(vH (di (cJ rfl) j)).symm⟩;have j:=abo j;refine xC (Lc (di (by decide) j) C G hs sb) λb a B rb t bge f Bl Bs Bj=>da (F:=[.ref ci,.ref si,.fn .c6,.U,.U,.U,.U,.U,.U]) (rn _) rfl rfl (S.D (E.call E.fn (E.cons (E.af rfl) (E.cons (E.af rfl) E.nil)) rb) (S.D (E.bF E.nil rfl) (S.D (E.aW E.nil) ?_)));have hbl:=d8 f;have Z:(a++[O.dict []]).length=a.length+1:=by rw[cZ];rfl
 have J:a9 h (a++[.dict []]++[.list []]):=(t.trans .cA).trans .cA;have w:h.length<=(a++[O.dict []]).length:=by rw[Z];exact jc t.le
 have bo:b≠(a++[O.dict []]).length:=by rw[Z];exact l9 (BV hbl)
 have i0:tC h ci si b (a++[O.dict []]).length c B (FK c B 0) 0 [.ref ci,.ref si,.fn .c6,.ref b,.ref a.length,.ref (a++[O.dict []]).length,.U,.U,.U] (a++[.dict []]++[.list []]):=.mk _ [] [] _ _ _ _ J (gC (gC f)) t.le (a9.cA.bF AK) (by show DI [] (lB mz);rw[Kb];exact DI.nil) (cF _) fh.no dJ rfl trivial;refine S.fP c.length (λk=>tC h ci si b (a++[O.dict []]).length c B (FK c B k) k) (E.bi (E.cons (E.af rfl) E.nil) ((C.keep J).bN (dF gl (by decide)))) (dF gl (by decide)) i0 ?_ ?_;·generalize(a++[O.dict []]).length=o at w bo;intro k F hh u i;have v:k<900:=dF u (dF gl (by decide));obtain⟨op,N⟩:∃op,c[k]?=aa op:=⟨_,gP u⟩;refine ay (Ad (by rw[Bl];exact BV u)) λbk e1 M=>?_;induction i with|mk m d us F6 F7 F8 hh p f U Q D L Y ho z r=>have W:=gL f e1 (dF v (by decide));induction bk with|true=>refine S.bQ (E.Y (E.af rfl) (E.af rfl) W) rfl (S.ba (S.D (E.bF E.nil rfl) (S.N ?_)));have KK:a9 hh (hh++[.dict []]):=.cA;exact Ny j C G N (if_pos M).symm (λ_ _ i=>i) w bo v (.mk _ [] us _ _ _ _ (p.trans .cA) (gC f) p.le AK (by rw[Kb];exact DI.nil) (lC _) fh.no (gC ho) z (r.B (Er.keep KK)))|false=>exact S.a8 (E.Y (E.af rfl) (E.af rfl) W) rfl (S.N (Ny j C G N (if_neg (M▸λe=>nomatch e)).symm (λ_ _ i=>i) w bo v (.mk m d us _ _ _ _ p f U Q D L Y ho z r)))
 ·intro F hh i;induction i with|mk m d us F6 F7 F8 hh p f U Q D L Y ho z r=>refine S.ret (E.af rfl) (q _ _ B p ⟨us,ho,?_⟩ Bs Bj);rw[yy (by rw[Fv];exact cF _)]at r;exact r.B λi l e=>(Er.aW e).1
end
noncomputable def Op.eF(op:Op)(k:Nat):List Nat:=op.L++if op.ui then[k+1]else[]
theorem IG(e:aG h i=aa L)(a:L.length<1000):lu .qp [.ref i] h=.ok (.ref h.length) (h++[.list L]):=(jg e).trans (qY a)
theorem iA:(nl l).length=l.length:=d5 ..
theorem Al(f:qb op):op.L.length<=24:=by have:=P.AE f;have:=qx op;unfold Op.L;lia
theorem H2{n:Nat}(D:2<=n){h:H}{g k:Nat}{c:List Op}{op:Op}(C:dM h g c)(q:c[k]?=aa op)(t:qb op)(w:c.length<100):∃a h',aF n .CO [.ref g,.int k] h=.ok (.ref a) h'/\a9 h h'/\h.length<=a/\aG h' a=aa (nl (op.eF k)):=by
 refine ay (C.cp q w) λv o s=>?_;have y:=xu (n:=n-1) (by exact c8 (by assumption) (by rfl)) s t;have B:=Al t;refine o5 (F:=[.ref g,.int k,.U]) (R:=λr=>∃a h',r=.ok (.ref a) h'/\a9 h h'/\h.length<=a/\aG h' a=aa (nl (op.eF k))) (by exact kJ (by assumption)) rfl rfl λz u=>S.D (E.bi (E.cons (E.call E.fn (E.cons (E.Y (E.af rfl) (E.af rfl) o) E.nil) y) E.nil) (IG dJ (by rw[iA];lia))) ?_;have d:a9 h (h++[.list (nl op.L)]++[.list (nl op.L)]):=a9.cA.trans .cA;have m:=Kg (n:=n-1) (by exact c8 (by assumption) (by rfl)) (s.B λi l=>d.aW);have p:dy (h++[.list (nl op.L)]++[.list (nl op.L)]) (.ref g) (.int k)=aa v:=by refine ay ((C.keep d).cp q w) λG a b=>?_;rw[C.same d o a]at a;exact a
 have x:(h++[O.list (nl op.L)]).length=h.length+1:=by rw[cZ];rfl
 have j:aG (h++[.list (nl op.L)]++[.list (nl op.L)]) (h.length+1)=aa (nl op.L):=x▸dJ;rw[x];cases f:op.ui;·rw[f]at m;refine S.a8 (E.call E.fn (E.cons (E.Y (E.af rfl) (E.af rfl) p) E.nil) m) rfl (S.N (S.ret (E.af rfl) (u _ (Ay _ _ rfl d (by exact eN _ _) ?_))));unfold Op.eF;rw[f,if_neg (λe=>by injection e),iD];exact j
 ·rw[f]at m;refine S.bQ (E.call E.fn (E.cons (E.Y (E.af rfl) (E.af rfl) p) E.nil) m) rfl (S.ba (S.cO (E.bH (E.af rfl) (lX j rfl) (E.cons (E.aN (E.af rfl) E.J O.add) E.nil) (nT j (by rw[iA];lia))) (S.N (S.ret (E.af rfl) (u _ (Ay _ _ rfl (d.set (by exact eN _ _)) (by exact eN _ _) ?_))))));unfold Op.eF;rw[i7 (d8 j),f,if_pos rfl];unfold nl;rw[l8];rfl
theorem W3(e:aG h i=aa (L++[v]))(a:L.length<900):oR cl .list (.ref i) .jX [] h=.ok v (h.set i (.list L)):=by refine(jg e).trans ?_;show wG i (L++[v]) h=_;unfold wG;rw[List.reverse_append];show gd (aZ ((L++[v]).length<cM)) (aB.ok v (h.set i (.list L.reverse.reverse)))=_;rw[abq,qY (by rw[cZ];show L.length+1<1000;lia)]
theorem TM(e:aG h i=aa L)(a:aG h j=aa M)(c:i≠j)(b:L.length+M.length<1000):oR cl .list (.ref i) .nk [.ref j] h=.ok .none (h.set i (.list (L++M))):=by refine(jg e).trans ((jg a).trans (rH ?_));rw[decide_eq_true (show L.length+M.length<cM from b),bne_iff_ne.mpr c];rfl
theorem FE{M:List Bool}(e:M[k]?=aa au):(M.set k aj).count au+1=M.count au:=by induction M generalizing k with|nil=>injection e|cons b M a=>induction k with|zero=>injection e with q;subst q;rw[List.set_cons_zero,List.count_cons_self,List.count_cons_of_ne (by decide)]|succ k=>rw[List.set_cons_succ,abr,abr];have:=a e;lia
structure qd(c:List Op)(ss:List Nat)(M:List Bool)(W:List Nat):Prop where
 bN:M.length=c.length
 lt:30*M.count au+W.length<300
 le:∀w∈W,w<=c.length
 ss:∀s∈ss,s<c.length->M[s]?=aa aj\/s∈W
 eF:∀k(op:Op),c[k]?=aa op->M[k]?=aa aj->∀g∈op.eF k,g<c.length->M[g]?=aa aj\/g∈W
theorem JB{b:Type}{l:List b}{k:Nat}{a:b}(e:l[k]?=aa a):k<l.length:=oE (dH.mp e) λl z=>l
theorem qd.drop(r:qd c d M (W++[w]))(h:M[w]?=aa aj\/c.length<=w):qd c d M W:=by
 have b:∀g,g<c.length->M[g]?=aa aj\/g∈W++[w]->M[g]?=aa aj\/g∈W:=λg l m=>m.elim .inl λm=>(d6.mp m).elim .inr λm=>by rw[dq.mp m]at l⊢;exact h.elim .inl λa=>absurd l (sR.mpr a)
 exact⟨r.bN,by have:=r.lt;rw[cZ]at this;exact hG (bD (by assumption) (by rfl)),λw m=>r.le w (ma _ m),λs m l=>b s l (r.ss s m l),λk op e f g m l=>b g l (r.eF k op e f g m l)⟩
theorem XE{c:List Op}(G:mV c){op:Op}{k g:Nat}(e:c[k]?=aa op)(m:g∈op.eF k):g<=c.length:=by
 unfold Op.eF at m;rcases d6.mp m with m|m;·exact G.mH op (cW e) _ m
 ·split at m;(·rw[dq.mp m];exact JB e);·exact absurd m (jD)
theorem qd.go{c:List Op}(G:mV c){n W:List Nat}{M:List Bool}{w:Nat}{op:Op}(r:qd c n M (W++[w]))(e:c[w]?=aa op)(b:M[w]?=aa au)(f:(op.eF w).length<=25):qd c n (M.set w aj) (W++op.eF w):=by
 have j:∀g,M[g]?=aa aj\/g∈W++[w]->(M.set w aj)[g]?=aa aj\/g∈W++op.eF w:=λg m=>m.elim (λq=>.inl (uj q)) λm=>(d6.mp m).elim (λm=>.inr (ma _ m)) λm=>.inl (by rw[dq.mp m];exact ph (JB b));refine⟨by rw[vL];exact r.bN,?_,λg m=>(d6.mp m).elim (λm=>r.le g (ma _ m)) (XE G e),λs m l=>j s (r.ss s m l),λk o a d g i l=>?_⟩;·have:=r.lt;have cs:=FE b;rw[cZ]at this⊢;rw[NU]at this;lia
 ·by_cases h:k=w;(·subst h;rw[e]at a;injection a with q;subst q;exact .inr (vM _ i));·rw[ja (λe=>h e.symm)]at d;exact j g (r.eF k o a d g i l)
theorem qd.zero(b:∀s∈a,s<=c.length)(l:30*c.length+a.length<300):qd c a (eL c.length au) a:=⟨Gn,by rw[NV];exact l,b,λs m z=>.inr m,λk op z e=>by rw[yz]at e;split at e<;>cases e⟩
inductive HA(h:H)(ci si:Nat)(c:List Op)(ss:List Nat)(m:Nat):List V->H->Prop|mk{hh:H}{x:V}{M:List Bool}{W:List Nat}:a9 h hh->aG hh (h.length+1)=aa (fH M)->aG hh (h.length+2)=aa (nl W)->qd c ss M W->30*M.count au+W.length=m->HA h ci si c ss m [.ref ci,.ref si,.ref (h.length+1),.ref (h.length+2),x] hh
inductive Fq(h:H)(c:List Op)(ss:List Nat):aB V->Prop|mk{h':H}{a:Nat}{M:List Bool}:a9 h h'->h.length<=a->aG h' a=aa (fH M)->qd c ss M []->Fq h c ss (.ok (.ref a) h')
theorem QG(hn:3<=n)(C:dM h d c)(G:mV c)(hs:aG h g=aa (nl j))(sb:∀s∈j,s<=c.length)(sl:j.length<=4):Fq h c j (aF n .zx [.ref d,.ref g] h):=by
 have gl:=G.bN;refine o5 (F:=[.ref d,.ref g,.U,.U,.U]) (R:=Fq h c j) (by lia) rfl rfl λKK fin0=>?_;have k1:a9 h (h++[.list [.bool au]]):=.cA;have r1:=BH (h:=h) (v:=.bool au) (by exact bD (by assumption) (by rfl));refine S.D (E.aN (E.aW (E.cons E.ff E.nil)) (E.bi (E.cons (E.af rfl) E.nil) ((C.keep k1).bN (by exact bD (by assumption) (by rfl)))) r1) ?_;have k2:a9 h (h++[.list [.bool au]]++[.list (eL c.length (.bool au))]):=k1.trans .cA;have l1:(h++[O.list [.bool au]]).length=h.length+1:=by rw[cZ];rfl
 have l2:(h++[O.list [.bool au]]++[O.list (eL c.length (.bool au))]).length=h.length+2:=by rw[cZ,l1];rfl
 have z:aG (h++[.list [.bool au]]++[.list (eL c.length (.bool au))]) (h.length+1)=aa (fH (eL c.length au)):=by unfold fH;rw[NR,<-l1];exact dJ
 refine S.D (E.bi (E.cons (E.af rfl) E.nil) (IG (k2.aW hs) (by rw[iA];lia))) ?_;rw[l2];refine S.Jv (HA h d g c j) (30*c.length+j.length) (by lia) (.mk (k2.trans .cA) (gC z) (l2▸dJ) (.zero sb (by lia)) (by rw[NV])) λJ m F y ge i=>?_;induction i with|@mk y x M W Q z f r e=>subst e;have rl:=r.lt;(have mb:M.length<10:=by rw[r.bN];exact gl);by_cases we:W=[];(·subst we;exact .vf (E.af rfl) (T.aW f (by decide)) (S.ret (E.af rfl) (fin0 _ (.mk Q (by exact eN _ _) z r))));·refine xS (show∃W' w,W=W'++[w]from(Ak _ _ ((List.dropLast_concat_getLast we).symm))) λW w e=>?_;subst e;(have wl:(W++[w]).length<700:=by lia);refine .go (E.af rfl) ((T.aW f (by rw[iA];exact bD (by assumption) (by rfl))).trans (by simp[nl])) ?_;rw[show nl (W++[w])=nl W++[.int w]from l8 ..]at f;rw[cZ,NU]at wl rl ge;refine S.D (E.bH (E.af rfl) (lX f rfl) E.nil (W3 f (by rw[iA];exact hG (bD (by assumption) (by rfl))))) ?_;have t:a9 h (y.set (h.length+2) (.list (nl W))):=Q.set (by exact eN _ _);(have p:aG (y.set (h.length+2) (.list (nl W))) (h.length+1)=aa (fH M):=by rw[j8 (by exact vN _)];exact z);have L:aG (y.set (h.length+2) (.list (nl W))) (h.length+2)=aa (nl W):=i7 (d8 f);generalize y.set (h.length+2) (.list (nl W))=D at t p L;clear z f Q;have ln:=(C.keep t).bN (by exact bD (by assumption) (by rfl));have vf:M[w]?=aa aj\/c.length<=w->J [V.ref d,.ref g,.ref (h.length+1),.ref (h.length+2),.int w] D:=λq=>ge _ _ _ (m4 _) (.mk t p L (r.drop q) rfl);by_cases cw:w<c.length;(·refine ay (Ad (B:=M) (k:=w) (by rw[r.bN];exact cw)) λb b1 Z=>?_;have ib:=gL p b1 (by exact mF (by assumption) (by assumption) _ (by rfl));have u:=E.bo (E.dN (E.ao (E.af (cl:=aF (n-1)) (F:=[V.ref d,.ref g,.ref (h.length+1),.ref (h.length+2),.int w]) (i:=4) rfl) (E.bi (E.cons (E.af (i:=0) rfl) E.nil) ln) O.lt) (T.bool (decide_eq_true (by exact eM.mpr (by assumption)))) (E.dO (E.bZ (E.Y (E.af (i:=2) rfl) (E.af (i:=4) rfl) ib) (T.bool rfl))));induction b with|true=>exact S.a8 u rfl (S.N (S.nil (vf (.inl Z))))|false=>clear vf;refine S.bQ u rfl (S.ba (S.cQ E.tt (E.af rfl) (E.af rfl) (tS p (by rw[BD,r.bN];exact cw) (by exact mF (by assumption) (by assumption) _ (by rfl))) ?_));clear u ib ln;refine oE (show∃op,c[w]?=aa op from⟨_,gP cw⟩) λop eo=>?_;have fw:=(G.st op (cW eo)).jp;have U:=t.set (i:=h.length+1) (o:=.list ((fH M).set w (.bool aj))) (by exact eN _ _);(have hm3:aG (D.set (h.length+1) (.list ((fH M).set w (.bool aj)))) (h.length+1)=aa (fH (M.set w aj)):=by rw[i7 (d8 p),BG]);(have N:aG (D.set (h.length+1) (.list ((fH M).set w (.bool aj)))) (h.length+2)=aa (nl W):=by rw[j8 (by lia)];exact L);generalize D.set (h.length+1) (.list ((fH M).set w (.bool aj)))=h3 at U hm3 N;clear p L t;refine tT (H2 (n:=n-1) (by exact c8 (by assumption) (by rfl)) (C.keep U) eo fw (by exact bD (by assumption) (by rfl))) λa h4 sf Y al ha=>?_;(have eF:(op.eF w).length<=25:=by have:=Al fw;unfold Op.eF;split<;>simp<;>(first|assumption|exact di (by assumption) (cJ (by rfl))));have hw4:=Y.aW N;refine S.cO (E.bH (E.af rfl) (lX N rfl) (E.cons (E.call E.fn (E.cons (E.af rfl) (E.cons (E.af rfl) E.nil)) sf) E.nil) (TM hw4 ha (by have:=d8 N;exact l9 (gf (by assumption) (by assumption))) (by rw[iA,iA];lia))) (S.N (S.nil ?_));refine ge _ _ _ ?_ (.mk ((U.trans Y).set (by exact eN _ _)) ?_ ?_ (r.go G eo Z eF) rfl);(·have cs:=FE Z;rw[cZ];lia);(·rw[j8 (by exact vN _)];exact Y.aW hm3);·rw[i7 (d8 hw4)];unfold nl;rw[l8]);·have u:=E.bo (E.ig (b:=aj) (l:=[]) (c:=.bZ (.Y (.af 2) (.af 4))) (E.ao (E.af (cl:=aF (n-1)) (F:=[V.ref d,.ref g,.ref (h.length+1),.ref (h.length+2),.int w]) (i:=4) rfl) (E.bi (E.cons (E.af (i:=0) rfl) E.nil) ln) O.lt) (T.bool (decide_eq_false (by lia))));exact S.a8 u (T.bool (decide_eq_false (by lia))) (S.N (S.nil (vf (.inr (by exact rg (by assumption))))))
theorem Ws(t:3<=n)(C:dM h d c)(G:mV c)(hs:aG h e=aa (nl b))(u:∀s∈b,s<=c.length)(v:b.length<=4):∃a h' M,aF n .zx [.ref d,.ref e] h=.ok (.ref a) h'/\a9 h h'/\h.length<=a/\aG h' a=aa (fH M)/\M.length=c.length/\(∀s∈b,s<c.length->M[s]?=aa aj)/\∀k(op:Op),c[k]?=aa op->M[k]?=aa aj->∀g∈op.eF k,g<c.length->M[g]?=aa aj:=by have q:=QG t C G hs u v;generalize aF n .zx [.ref d,.ref e] h=r at q;induction q with|mk f i p r=>exact⟨_,_,_,rfl,f,i,p,r.bN,λs m l=>(r.ss s m l).resolve_right (jD),λk op j o g m l=>(r.eF k op j o g m l).resolve_right (jD)⟩
noncomputable def kQ(f:Nat->Nat)(l:List Nat):Nat:=l.foldl (λm g=>m|||f g) 0
theorem Jf{f:Nat->Nat}:∀{l:List Nat}{m:Nat},(l.foldl (λm g=>m|||f g) m).testBit i=(m.testBit i||l.any λg=>(f g).testBit i)|[],m=>by simp|a::l,m=>by rw[NW,Jf,NX,NY,Bool.or_assoc]
theorem Cq:(kQ f l).testBit i=l.any λg=>(f g).testBit i:=by unfold kQ;rw[Jf,abt,Bool.false_or]
theorem Br(b:∀g∈l,f g<64):kQ f l<64:=by
 have d:∀(l:List Nat)(m:Nat),m<2^6->(∀g∈l,f g<2^6)->l.foldl (λm g=>m|||f g) m<2^6:=by intro l;induction l with|nil=>exactλm h z=>h|cons a l c=>exactλm h b=>c _ (abu h (b a (.head _))) λg m=>b g (.tail _ m)
 exact d l 0 (by decide) b
theorem Jz:kQ f (l++[g])=kQ f l|||f g:=by unfold kQ;rw[NZ];rfl
noncomputable def uk(l:List Nat):Nat:=kQ (λr=>2^r) l
theorem U9:(uk l).testBit i=aZ (i∈l):=by
 unfold uk;rw[Cq];rw[vK,Go,decide_eq_true_iff];constructor;·rintro⟨g,m,e⟩;rw[abv]at e;have:=of_decide_eq_true e;subst this;exact m
 ·intro m;exact(bC i m (by rw[abv];exact decide_eq_true rfl))
theorem A.lf{h:H}{x y:Nat}:jZ .lf (.int x) (.int y) h=.ok (.int (x|||y:Nat)) h:=by show(if aZ ((0:Int)<=x)&&aZ ((0:Int)<=y)then aB.ok (V.int (((x:Int).toNat|||(y:Int).toNat:Nat):Int)) h else .aM)=_;rw[decide_eq_true (g9 x),decide_eq_true (g9 y),jC,jC];rfl
theorem O.lf{h:H}{x y:Nat}:jW .lf (.int x) (.int y) h=.ok (.int (x|||y:Nat)) h:=by show(if aZ ((0:Int)<=x)&&aZ ((0:Int)<=y)then aB.ok (V.int (((x:Int).toNat|||(y:Int).toNat:Nat):Int)) h else .aM)=_;rw[decide_eq_true (g9 x),decide_eq_true (g9 y),jC,jC];rfl
theorem O.mM{h:H}{r:Nat}(a:r<60):jW .mM (.int 1) (.int r) h=.ok (.int (2^r:Nat)) h:=by show(if small 1&&aZ ((0:Int)<=r)&&aZ ((r:Int)<=64)then aB.ok (V.int (1*2^(r:Int).toNat)) h else .aM)=_;rw[wu (by decide) (by decide),decide_eq_true (g9 r),decide_eq_true (show(r:Int)<=64 by lia),jC,Int.one_mul];rfl
theorem O.vo{h:H}{m r:Nat}:jW .qK (.int m) (.int r) h=.ok (.int (m>>>r:Nat)) h:=by show(if aZ ((0:Int)<=r)then aB.ok (V.int ((m:Int).fdiv (2^(r:Int).toNat))) h else .aM)=_;rw[decide_eq_true (g9 r),jC,Nat.shiftRight_eq_div_pow];rw[abw _ (by exact_mod_cast lC (2^r))];rfl
theorem O.nv{h:H}{x y:Nat}:jW .nv (.int x) (.int y) h=.ok (.int (x&&&y:Nat)) h:=by show(if aZ ((0:Int)<=x)&&aZ ((0:Int)<=y)then aB.ok (V.int (((x:Int).toNat&&&(y:Int).toNat:Nat):Int)) h else .aM)=_;rw[decide_eq_true (g9 x),decide_eq_true (g9 y),jC,jC];rfl
theorem T.vo:truthy h (.int ((m>>>r)&&&1:Nat))=aa (m.testBit r):=by show aa ((((m>>>r)&&&1:Nat):Int)!=0)=_;congr 1;unfold Nat.testBit;rw[Nat.and_comm];rw[vK,bne_iff_ne,bne_iff_ne];constructor<;>intro h e<;>apply h<;>lia
theorem Je:∀m<64,∀r<6,m.testBit r=aj->2^r<=m/\∀i<6,(m-2^r).testBit i=(m.testBit i&&i !=r):=by decide+kernel
theorem PM{n:Nat}(j:1<=n){h:H}{a:Nat}{l:List Nat}(e:aG h a=aa (nl l))(g:∀r∈l,r<60):aF n .My [.ref a] h=.ok (.int (uk l:Nat)) h:=by
 refine da (F:=[.ref a,.U,.U]) (R:=λr=>r=_) (by lia) rfl rfl (S.D E.J (S.wF (λk F b=>∃x,F=[.ref a,.int (uk (l.take k):Nat),x]/\b=h) (E.af rfl) (bC _ rfl rfl) (λk F b i=>by refine ay i ?_;try clear i;rintro x _ rfl;exact e) ?_ ?_));·intro J k v F b f d i;refine ay i ?_;(try clear i;rintro x rfl rfl);refine ay (pD d) ?_;rintro r rfl c;refine S.fs rfl (E.aN E.J (E.af rfl) (O.mM (g r (cW c)))) A.lf (S.nil (f _ _ (bC (.int r) ?_ rfl)));rw[lD,c];unfold uk;rw[show(aa r).toList=[r]from rfl,Jz];rfl
 ·intro F b i;refine ay i ?_;(try clear i;rintro x rfl rfl);refine S.ret (E.af rfl) ?_;rw[iA,rh];rfl
theorem Ha{n:Nat}(Z:3<=n){h:H}{d f k:Nat}{c:List Op}{op:Op}{L:List Nat}(C:dM h d c)(G:mV c)(l:c[k]?=aa op)(B:aG h f=aa (nl L))(U:L.length=c.length+1):∃h',aF n .yQ [.ref d,.ref f,.int k] h=.ok (.int (kQ (λg=>L.getD g 0) (op.eF k):Nat)) h'/\a9 h h':=by
 have gl:=G.bN;have p:=cW l;have t:=(G.st op p).jp;have kl:=(dH.mp l).1;refine tT (H2 (n:=n-1) (by exact c8 (by assumption) (by rfl)) C l t (by exact bD (by assumption) (by rfl))) λa z N m W M=>o5 (F:=[.ref d,.ref f,.int k,.U,.U]) (R:=λr=>∃h',r=.ok (.int (kQ (λg=>L.getD g 0) (op.eF k):Nat)) h'/\a9 h h') (by lia) rfl rfl λQ s=>S.D E.J ?_;have D:=m.aW B;refine S.wF (λj F e=>∃x,F=[.ref d,.ref f,.int k,.int (kQ (λg=>L.getD g 0) ((op.eF k).take j):Nat),x]/\e=z) (E.call E.fn (E.cons (E.af rfl) (E.cons (E.af rfl) E.nil)) N) (bC _ rfl rfl) (λk F e i=>by refine ay i ?_;try clear i;rintro x _ rfl;exact M) ?_ ?_;·intro J j v F e w q i;refine ay i ?_;(try clear i;rintro x rfl rfl);refine ay (pD q) ?_;rintro g rfl o;have y:=cW o;(have Y:g<=c.length:=by rcases d6.mp y with b|b;(·exact G.mH op p _ b);·split at b;(·cases dq.mp b;lia);·cases b);(have u:(nl L)[g]?=aa (.int (L.getD g 0:Nat)):=by unfold nl;rw[j2,gP (by lia),vO,gP (by lia)];rfl);refine S.fs rfl (E.Y (E.af rfl) (E.af rfl) (gL D u (by exact bD (gF (by assumption) (by assumption)) (by rfl)))) A.lf (S.nil (w _ _ (bC (.int g) ?_ rfl)));rw[lD,o,show(aa g).toList=[g]from rfl,Jz];rfl
 ·intro F e i;refine ay i ?_;(try clear i;rintro x rfl rfl);refine S.ret (E.af rfl) (s _ (bC _ ?_ m));rw[iA,rh];rfl
noncomputable def wM(m:Nat):Option Nat->Nat|aa r=>if m.testBit r then m-2^r else m|ah=>m
noncomputable def iz(op:Op)(L:List Nat)(k:Nat):Nat:=wM (kQ (λg=>L.getD g 0) (op.eF k)) op.wr|||uk op.bR
noncomputable def sub(a b:Nat):Prop:=∀i,a.testBit i=aj->b.testBit i=aj
theorem sub_le(s:sub a b):a<=b:=by
 have:a|||b=b:=Nat.eq_of_testBit_eq λi=>by rw[NX];cases c:a.testBit i;(·rfl);·rw[s i c];rfl
 rw[<-this];exact Nat.left_le_or
theorem WU(h:m<64)(e:m.testBit i=aj):i<6:=by
 by_cases c:i<6;·exact c
 ·rw[Nat.testBit_lt_two_pow (gf h (Nat.pow_le_pow_right (by decide:0<2) (by exact rg (by assumption):6<=i)))]at e;injection e
theorem I0(h:m<64)(g:∀r,w=aa r->r<6)(i:Nat):(wM m w).testBit i=(m.testBit i&&aZ (w≠aa i))/\wM m w<64:=by induction w with|none=>exact⟨by show m.testBit i=_;simp,h⟩|some r=>show(if m.testBit r then m-2^r else m).testBit i=_/\(if m.testBit r then m-2^r else m)<64;induction c:m.testBit r with|false=>rw[if_neg (λe=>by injection e)];refine⟨?_,h⟩;by_cases a:r=i;(·subst a;rw[c];rfl);·have:aZ (aa r≠aa i)=aj:=decide_eq_true (λe=>a (bU e));rw[this,BQ]|true=>rw[if_pos rfl];refine oA (Je m h r (g r rfl) c) λz k2=>?_;have f:m-2^r<64:=gF (Nat.sub_le _ _) h;refine⟨?_,f⟩;by_cases b:i<6;(·rw[k2 i b];congr 1;rw[vK];simp;exact⟨λe q=>e q.symm,λe q=>e q.symm⟩);·(have d:∀x,x<64->x.testBit i=au:=λx j=>by cases c:x.testBit i;(·rfl);·exact(b (WU j c)).elim);rw[d _ f,d _ h];rfl
section
variable{c:List Op}{L:List Nat}
theorem Da(a:∀x∈L,x<64)(g:Nat):L.getD g 0<64:=by rw[vO];induction e:L[g]? with|none=>decide|some x=>exact a x (cW e)
theorem Qz(b:∀r∈l,r<6):uk l<64:=Br λg m=>by have:=b g m;have:=Nat.pow_lt_pow_right (a:=2) (by decide) this;exact this
theorem Tf(a:∀x∈L,x<64)(s:op.st):iz op L k<64:=abu (n:=6) (I0 (Br λg z=>Da a g) s.wr 0).2 (Qz s.rd)
theorem C3(a:∀x∈L,x<64)(s:op.st)(i:Nat):(iz op L k).testBit i=(((op.eF k).any λg=>(L.getD g 0).testBit i)&&aZ (op.wr≠aa i)||aZ (i∈op.bR)):=by unfold iz;rw[NX,U9,(I0 (Br λg z=>Da a g) s.wr i).1,Cq]
theorem WV(c:∀x∈L,x<64)(d:∀x∈a,x<64)(s:op.st)(m:∀g,sub (L.getD g 0) (a.getD g 0)):sub (iz op L k) (iz op a k):=by
 intro i e;rw[C3 c s]at e;rw[C3 d s];simp only[pj,cI,Go]at e⊢;rcases e with⟨⟨g,f,h⟩,b⟩|e;·exact .inl ⟨(bC g f (m g i h)),b⟩
 ·exact .inr e
theorem Ui:∀{k:Nat},k<L.length->(L.set k v).sum+L.getD k 0=L.sum+v:=by induction L with|nil=>exactλh=>absurd h (ux _)|cons a L b=>intro k h;cases k with|zero=>show Gp (v::L)+a=Gp (a::L)+v;rw[yA,yA];lia|succ k=>show Gp (a::L.set k v)+L.getD k 0=Gp (a::L)+v;rw[yA,yA,ra,b (BS h),ra]
theorem Qw:(∀x∈L,x<64)->L.sum<=64*L.length:=by induction L with|nil=>exactλz=>cF _|cons a L b=>intro h;have h:=sQ.mp h;rw[yA,mZ,Nat.mul_succ,N0];exact Nat.add_le_add (b h.2) (hG h.1)
theorem G2(a:k<L.length):(L.set k v).getD g 0=if g=k then v else L.getD g 0:=by
 rw[vO,vO];by_cases e:g=k;·subst e;rw[ph a,if_pos rfl];rfl
 ·rw[ja (λq=>e q.symm),if_neg e]
end
structure wX(c:List Op)(L:List Nat):Prop where
 bN:L.length=c.length+1
 lt:∀x∈L,x<64
 sub:∀k(op:Op),c[k]?=aa op->sub (L.getD k 0) (iz op L k)
inductive Kk(h:H)(ci:Nat)(c:List Op)(m:Nat):List V->H->Prop|mk{w x y z:V}{L:List Nat}{b:Bool}{hh:H}(K:a9 h hh)(hL:aG hh (h.length+1)=aa (nl L))(l:wX c L)(me:m+L.sum=700+if b then 1 else 0)(fx:b=au->∀k(op:Op),c[k]?=aa op->L.getD k 0=iz op L k):Kk h ci c m [.ref ci,.ref (h.length+1),.bool b,w,x,y,z] hh
inductive By(h:H)(ci:Nat)(c:List Op)(L:List Nat)(k:Nat):List V->H->Prop|mk{w x y z:V}{L2:List Nat}{b:Bool}{hh:H}(K:a9 h hh)(hL:aG hh (h.length+1)=aa (nl L2))(l:wX c L2)(bt:b=aj->L.sum<L2.sum)(bf:b=au->L2=L/\∀j(op:Op),k<=j->c[j]?=aa op->L.getD j 0=iz op L j):By h ci c L k [.ref ci,.ref (h.length+1),.bool b,w,x,y,z] hh
theorem wX.dW(l:wX c L)(n:∀op∈c,op.st)(a:c[k]?=aa op)(r:iz op L k≠L.getD k 0):wX c (L.set k (iz op L k))/\L.sum<(L.set k (iz op L k)).sum:=by
 have d:k<L.length:=l.bN▸BV (dH.mp a).1;have f:∀x∈L.set k (iz op L k),x<64:=λx m=>(List.mem_or_eq_of_mem_set m).elim (l.lt x) λe=>e▸Tf l.lt (n op (cW a));have p:∀g,Internal.sub (L.getD g 0) ((L.set k (iz op L k)).getD g 0):=λg=>by rw[G2 d];by_cases q:g=k;(·rw[if_pos q,q];exact l.sub _ op a);·rw[if_neg q];exactλi e=>e
 refine⟨⟨(vL ..).trans l.bN,f,λj o b=>?_⟩,?_⟩;·have h:=WV (k:=j) l.lt f (n o (cW b)) p;rw[G2 d];by_cases q:j=k;(·rw[if_pos q];cases(q▸b:c[k]?=aa o).symm.trans a;exact q▸h);·rw[if_neg q];exactλi e=>h i (l.sub j o b i e)
 ·have s:=Ui (v:=iz op L k) d;have t:=sub_le (l.sub k op a);lia
theorem VN{cl:Fn->List V->H->aB V}{d a k m:Nat}{b:Bool}{w:Option Nat}{z:V}{e:List CS}{h:H}{Q:RS->Prop}(j:m<64)(g:∀r,w=aa r->r<6)(c:Wp (aV cl e [.ref d,.ref a,.bool b,.int k,.int (wM m w:Nat),.int (kR w),z] h) Q):Wp (aV cl (.ifs (.bo aj [(.ao .ge (.af 5) (.J 0)),(.aN .nv (.aN .qK (.af 4) (.af 5)) (.J 1))]) [(.fs 4 .sub (.aN .mM (.J 1) (.af 5)))] []::e) [.ref d,.ref a,.bool b,.int k,.int m,.int (kR w),z] h) Q:=by cases w with|none=>exact S.a8 (E.bo (E.ig (E.ao (E.af rfl) E.J O.ge) (T.bool rfl))) (T.bool rfl) (S.N c)|some r=>have f:=E.bo (E.dN (E.ao (E.af (cl:=cl) (F:=[.ref d,.ref a,.bool b,.int k,.int m,.int r,z]) (h:=h) (i:=5) rfl) E.J O.ge) (T.bool (decide_eq_true (g9 r))) (E.dO (E.aN (E.aN (E.af (i:=4) rfl) (E.af (i:=5) rfl) O.vo) (E.J (i:=1)) (O.nv (y:=1)))));have c:Wp (aV cl e [.ref d,.ref a,.bool b,.int k,.int ((if m.testBit r then m-2^r else m:Nat):Int),.int r,z] h) Q:=c;cases ct:m.testBit r with|false=>rw[ct,if_neg vP]at c;exact S.a8 f (by rw[T.vo,ct]) (S.N c)|true=>rw[ct,if_pos rfl,Int.ofNat_sub (Je m j r (g r rfl) ct).1]at c;exact S.bQ f (by rw[T.vo,ct]) (S.ba (S.fs rfl (E.aN E.J (E.af rfl) (O.mM (dF (g r rfl) (by decide)))) A.sub (S.N c)))
theorem QI{n k q:Nat}{h d:H}{c:List Op}{L:List Nat}{F:List V}{J:List V->H->Prop}{Q:RS->Prop}(u:3<=n)(C:dM h q c)(G:mV c)(t:k<c.length)(ge:∀F d,By h q c L k F d->J F d)(i:By h q c L (k+1) F d):Wp (aV (aF n) (yg (yg Kx 2) 1) (F.set 3 (.int k)) d) (Lp Q J):=by have gl:=G.bN;obtain⟨op,f⟩:∃op,c[k]?=aa op:=⟨_,gP t⟩;have st:=G.st op (cW f);induction i with|@mk w x y z a b d B hL l W U=>refine ay (Ha u (C.keep B) G f hL l.bN) λh2 sb D=>ay ((C.keep (B.trans D)).cp f (dF gl (by decide))) λv Z ev=>S.D (E.call E.fn (E.cons (E.af rfl) (E.cons (E.af rfl) (E.cons (E.af rfl) E.nil))) sb) (S.D (E.call E.fn (E.cons (E.Y (E.af rfl) (E.af rfl) Z) E.nil) (xD (di (by decide) u) ev)) (VN (Br λg _=>Da l.lt g) st.wr ?_));have N:a9 h2 (h2++[.list (nl op.bR)]):=.cA;have s:=(D.trans N).aW hL;have kl:k<a.length:=l.bN▸BV t;(have gk:(nl a)[k]?=aa (.int (a.getD k 0:Nat)):=by unfold nl;rw[j2,vO,gP kl];rfl);refine S.D (E.aN (E.af rfl) (E.call E.fn (E.cons (E.call E.fn (E.cons (E.Y (E.af rfl) (E.af rfl) Z) E.nil) (Ab (di (by decide) u) ev)) E.nil) (PM (di (by decide) u) dJ λr m=>dF (st.rd r m) (by decide))) O.lf) ?_;have Y:=E.ao (E.af (cl:=aF n) (F:=[.ref q,.ref (h.length+1),.bool b,.int k,.int (wM (kQ (λg=>a.getD g 0) (op.eF k)) op.wr:Nat),.int (kR op.wr),.int (iz op a k:Nat)]) (i:=6) rfl) (E.Y (E.af (i:=1) rfl) (E.af (i:=3) rfl) (gL s gk (dF t (dF gl (by decide))))) O.z8;have R:=(B.trans D).trans N;by_cases p:iz op a k=a.getD k 0;(·refine S.a8 Y (T.bool (by rw[p,beq_self_eq_true];rfl)) (S.N (S.nil (ge _ _ (.mk R s l W λe=>oA (U e) λq1 q2=>⟨q1,λj o hj ej=>?_⟩))));by_cases M:j=k;(·cases(M▸ej:c[k]?=aa o).symm.trans f;rw[M,<-q1];exact p.symm);·exact q2 j o (N1 hj (hH M)) ej);·refine oA (l.dW G.st f p) λl' sl=>S.bQ Y (T.bool (by rw[beq_eq_false_iff_ne.mpr λe=>p (Gq.mp e)];rfl)) (S.ba (S.cQ (E.af rfl) (E.af rfl) (E.af rfl) (tS s (by rw[iA];exact kl) (dF t (dF gl (by decide)))) (S.ba (S.D E.tt (S.N (S.nil (ge _ _ (.mk (R.set (lE _)) ((i7 (d8 s)).trans (congrArg aa (List.map_set ..).symm)) l' (λ_=>gF ?_ sl) λe=>by injection e))))))));cases b with|true=>exact hG (W rfl)|false=>exact NF ((U rfl).1▸rfl)
theorem Uk(s:4<=n)(C:dM h f c)(G:mV c):∃a h' L,aF n .Lv [.ref f] h=.ok (.ref a) h'/\a9 h h'/\h.length<=a/\aG h' a=aa (nl L)/\L.length=c.length+1/\(∀x∈L,x<64)/\∀k(op:Op),c[k]?=aa op->L.getD k 0=iz op L k:=by
 have gl:=G.bN;refine o5 (F:=[.ref f,.U,.U,.U,.U,.U,.U]) (R:=λr=>∃a h' L,r=.ok (.ref a) h'/\a9 h h'/\h.length<=a/\aG h' a=aa (nl L)/\L.length=c.length+1/\(∀x∈L,x<64)/\∀k(op:Op),c[k]?=aa op->L.getD k 0=iz op L k) (gf (by decide) s) rfl rfl λKK B=>?_;have k1:a9 h (h++[.list [.int 0]]):=.cA;have r1:=BH (h:=h) (v:=.int 0) (m:=c.length+1) (Gi (dF gl (by decide)));refine S.D (E.aN (E.aW (E.cons E.J E.nil)) (E.aN (E.bi (E.cons (E.af rfl) E.nil) ((C.keep k1).bN (dF gl (by decide)))) E.J O.add) r1) (S.D E.tt ?_);have W:(h++[O.list [.int 0]]).length=h.length+1:=cZ;have N:∀k,(eL (c.length+1) 0).getD k 0=0:=λk=>by rw[vO,yz];split<;>rfl
 refine S.Jv (Kk h f c) 701 (by decide) (.mk (L:=eL (c.length+1) 0) (b:=aj) (k1.trans .cA) (by unfold nl;rw[NR,<-W];exact dJ) ⟨Gn,λx m=>by rw[List.eq_of_mem_replicate m];decide,λk op _ i e=>by rw[N,abt]at e;injection e⟩ (by rw[List.sum_replicate_nat];rfl) λe=>by injection e) ?_;intro J m F o D i;induction i with|@mk w x y z L b o d g l Y q=>cases b with|false=>exact .vf (E.af rfl) (T.bool rfl) (S.ret (E.af rfl) (B _ ⟨_,_,L,rfl,d,lE _,g,l.bN,l.lt,q rfl⟩))|true=>refine .go (E.af rfl) (T.bool rfl) ?_;clear q;refine S.Si c.length (By h f c L) (E.aN (E.bi (E.cons (E.af rfl) E.nil) ((C.keep d).bN (dF gl (by decide)))) E.J O.sub) (dF gl (by decide)) (.mk d g l (λe=>by injection e) λ_=>⟨rfl,λj op Q e=>absurd (dH.mp e).1 (sR.mpr Q)⟩) (λJ2 k F o M U i=>QI (abh s) C G U M i) λF o i=>?_;induction i with|@mk w x y z t b o d g l u p=>have sl:=Qw l.lt;have ll:=l.bN;rw[if_pos rfl]at Y;refine S.nil (D (700+(if b then 1 else 0)-t.sum) _ _ ?_ (.mk d g l ?_ λe=>oA (p e) λZ q2=>Z▸λk op e=>q2 k op (lC _) e));(·cases b with|true=>have:=u rfl;rw[if_pos rfl];lia|false=>have:=(p rfl).1;subst this;rw[if_neg vP];lia);·exact vH (by split<;>lia)
noncomputable def Op.quiet:Op->Bool|.set ..=>aj|.fg ..=>aj|.dC ..=>aj|.ao ..=>aj|.bZ ..=>aj|_=>au
theorem aaw(e:bx h op v)(a:gh op.bJ [.str .fZ,.str .gE,.str .gZ,.str .o7,.str .xA,.str .FX]=aa aj)(b:op.quiet=aj):Wp (aV (aF n) uJ [v] h) λr=>eC r=.ok (.bool op.quiet) h:=by rw[b];exact S.ret (E.bo (E.ig (E.ao (E.Y (E.af (dg rfl e.plain)) E.J (jK e)) E.gl (O.jv a)) (T.bool rfl))) rfl
theorem JM(e:bx h op v)(b:gh op.bJ [.str .fZ,.str .gE,.str .gZ,.str .o7,.str .xA,.str .FX]=aa au)(a:(op.bJ==.e8)=au)(c:op.quiet=au):Wp (aV (aF n) uJ [v] h) λr=>eC r=.ok (.bool op.quiet) h:=by rw[c];exact S.ret (E.bo (E.dN (E.ao (E.Y (E.af (dg rfl e.plain)) E.J (jK e)) E.gl (O.jv b)) (T.bool rfl) (E.dO (E.bo (E.ig (E.ao (E.Y (E.af (dg rfl e.plain)) E.J (jK e)) E.str O.bb) (T.bool a)))))) (by rw[a];rfl)
theorem Hd(c:(t==.nK)=b):Wp (aV (aF n) uJ [.Z [.str .e8,.int d,.str t,.int k,.int a]] h) λr=>eC r=.ok (.bool b) h:=by subst c;exact S.ret (E.bo (E.dN (E.ao (E.Y (E.af rfl) E.J I.t0) E.gl (O.jv rfl)) (T.bool rfl) (E.dO (E.bo (E.dN (E.ao (E.Y (E.af rfl) E.J I.t0) E.str O.bb) (T.bool rfl) (E.dO (E.ao (E.Y (E.af rfl) E.J I.t2) E.str O.bb))))))) rfl
theorem YO(e:bx h op v):Wp (aV (aF n) uJ [v] h) λr=>eC r=.ok (.bool op.quiet) h:=by induction op with|set|fg|dC|ao=>all_goals exact aaw e rfl rfl|bZ d a=>rw[show v=.Z [.str .e8,.int d,.str .nK,.int (4:Nat),.int a]from e.bW rfl];exact Hd rfl|bn d a=>rw[show v=.Z [.str .e8,.int d,.str .nG,.int (0:Nat),.int a]from e.bW rfl];exact Hd rfl|br t _ _=>exact JM e (by induction t<;>rfl) (by induction t<;>rfl) rfl|_=>exact JM e rfl rfl rfl
theorem ZB(a:1<=n)(e:bx h op v):aF n .EE [v] h=.ok (.bool op.quiet) h:=da (F:=[v]) (b:=uJ) (R:=λr=>r=_) a rfl rfl (YO e)
noncomputable def Op.self:Op->Bool|.dC d s=>d==s|_=>au
noncomputable def qN(L:List Nat)(k:Nat)(op:Op):Bool:=match op.wr with|aa r=>(kQ (λg=>L.getD g 0) (op.eF k)).testBit r|ah=>au
noncomputable def k8(M:List Bool)(L:List Nat)(k:Nat)(op:Op):Op:=if M[k]?=aa aj then(if op.self then .dj else if op.quiet&&!qN L k op then .dj else op)else .dj
noncomputable def mK(M:List Bool)(L:List Nat)(c:List Op):List Op:=c.mapIdx (k8 M L)
theorem Tg{op:Op}(a:¬∃d s,op=.dC d s):(op.bJ==.gE)=au/\op.self=au:=by induction op with|dC d s=>exact(a (Ak d s rfl)).elim|br t=>induction t<;>exact⟨rfl,rfl⟩|_=>exact⟨rfl,rfl⟩
theorem ZV{op:Op}(a:op.quiet=aj):∃r,op.wr=aa r:=by induction op<;>first|exact⟨_,rfl⟩|injection a
theorem Rs(hn:5<=n){c:List Op}{ss:List Nat}(C:dM h m c)(G:mV c)(hs:aG h t=aa (nl ss))(sb:∀s∈ss,s<=c.length)(sl:ss.length<=4):∃o h' M L,aF n .K7 [.ref m,.ref t] h=.ok (.ref o) h'/\a9 h h'/\dM h' o (mK M L c)/\(∀s∈ss,s<c.length->M[s]?=aa aj)/\(∀k(op:Op),c[k]?=aa op->M[k]?=aa aj->∀g∈op.eF k,g<c.length->M[g]?=aa aj)/\(∀x∈L,x<64)/\∀k(op:Op),c[k]?=aa op->L.getD k 0=iz op L k:=by
 have gl:=G.bN;refine xC (Ws (n:=n-1) (by exact c8 (by assumption) (by rfl)) C G hs sb sl) λa h1 M rr K1 al Y Ml Ms Mc=>?_;refine xC (Uk (n:=n-1) (by exact c8 (by assumption) (by rfl)) (C.keep K1) G) λb p L rl K2 bl N Ll L6 Le=>?_;refine o5 (F:=[.ref m,.ref t,.U,.U,.U,.U,.U,.U]) (b:=Ii) (R:=λr=>∃o h' M L,r=.ok (.ref o) h'/\a9 h h'/\dM h' o (mK M L c)/\(∀s∈ss,s<c.length->M[s]?=aa aj)/\(∀k(op:Op),c[k]?=aa op->M[k]?=aa aj->∀g∈op.eF k,g<c.length->M[g]?=aa aj)/\(∀x∈L,x<64)/\∀k(op:Op),c[k]?=aa op->L.getD k 0=iz op L k) (by lia) rfl rfl λK0 bY=>?_;refine S.D (E.call E.fn (E.cons (E.af rfl) (E.cons (E.af rfl) E.nil)) rr) (S.D (E.call E.fn (E.cons (E.af rfl) E.nil) rl) (S.D (E.aW E.nil) ?_));have K12:=K1.trans K2;have f:a9 h (p++[.list []]):=K12.trans .cA;have hle:=K12.le;have hM2:=K2.aW Y;have aL:=d8 hM2;have bL:=d8 N;refine S.w0 c.length (λk F j=>∃W x y z,F=[.ref m,.ref t,.ref a,.ref b,.ref p.length,x,y,z]/\a9 h j/\aG j a=aa (fH M)/\aG j b=aa (nl L)/\aG j p.length=aa W/\W.length=k/\ga (Er p.length j) ((mK M L c).take k) W) (E.bi (E.cons (E.af rfl) E.nil) ((C.keep f).bN (by exact bD (by assumption) (by rfl)))) (by exact bD (by assumption) (by rfl)) ⟨[],_,_,_,rfl,f,gC hM2,gC N,dJ,rfl,trivial⟩ ?_ ?_;·clear f rr rl N Y hM2;intro J k F j up hk i;refine EY i ?_;(try clear i;rintro W x y z rfl D Y N ho ul en);obtain⟨op,eo⟩:∃op,c[k]?=aa op:=⟨_,gP hk⟩;have st:=G.st op (cW eo);refine ay ((C.keep D).cp eo (by exact bD (by assumption) (by rfl))) λv ei ev=>?_;refine ay (C.cp eo (by exact bD (by assumption) (by rfl))) λv0 ei0 ev0=>?_;cases C.same D ei0 ei;refine ay (Ad (B:=M) (k:=k) (by exact uv (by assumption) (Gr (by assumption)))) λmk m1 m2=>?_;have Z:=ev.plain;refine S.D (E.Y (E.af rfl) (E.af rfl) ei) (S.D (E.call E.fn (E.cons (E.af (dg rfl Z)) E.nil) (xD (by exact c8 (by assumption) (by rfl)) ev)) ?_);(have key:∀(rest:List CS)(Q:RS->Prop),(∀w u,a9 j w->gB u=aj->(∀hx,bx hx op v->bx hx (k8 M L k op) u)->Wp (aV (aF (n-1)) rest [.ref m,.ref t,.ref a,.ref b,.ref p.length,.int k,u,.int (kR op.wr)] w) Q)->Wp (aV (aF (n-1)) (.ifs (.bZ (.Y (.af 2) (.af 5))) [(.D 6 (.gl .km))] [(.ifs (.bo aj [(.ao .eq (.Y (.af 6) (.J 0)) (.str .gE)),(.ao .eq (.Y (.af 6) (.J 1)) (.Y (.af 6) (.J 2)))]) [(.D 6 (.gl .km))] [(.ifs (.bo aj [(.call (.gl (.fn .EE)) [(.af 6)]),(.bZ (.aN .nv (.aN .qK (.call (.gl (.fn .yQ)) [(.af 0),(.af 3),(.af 5)]) (.af 7)) (.J 1)))]) [(.D 6 (.gl .km))] [])])]::rest) [.ref m,.ref t,.ref a,.ref b,.ref p.length,.int k,v,.int (kR op.wr)] j) Q:=by intro rest Q q;have dj:k8 M L k op=.dj->∀w,a9 j w->Wp (aV (aF (n-1)) (.D 6 (.gl .km)::rest) [.ref m,.ref t,.ref a,.ref b,.ref p.length,.int k,v,.int (kR op.wr)] w) Q:=λz w k3=>S.D (v:=.Z [.str .k7]) E.gl (q w _ k3 rfl λhx _=>by rw[z];exact bx.dj);have cm:=E.bZ (E.Y (E.af (cl:=aF (n-1)) (F:=[.ref m,.ref t,.ref a,.ref b,.ref p.length,.int k,v,.int (kR op.wr)]) (i:=2) rfl) (E.af (i:=5) rfl) (gL Y m1 (by exact mF (by assumption) (by assumption) _ (by rfl)))) (T.bool rfl);induction mk with|false=>exact S.bQ cm rfl (S.ba (dj (by unfold k8;rw[m2];rfl) _ .b8))|true=>refine S.a8 cm rfl ?_;have U:k8 M L k op=if op.self then .dj else if op.quiet&&!qN L k op then .dj else op:=if_pos m2;(have mv:(∃x y,ax (aF (n-1)) (.bo aj [(.ao .eq (.Y (.af 6) (.J 0)) (.str .gE)),(.ao .eq (.Y (.af 6) (.J 1)) (.Y (.af 6) (.J 2)))]) [.ref m,.ref t,.ref a,.ref b,.ref p.length,.int k,v,.int (kR op.wr)] j=.ok (.bool x) y/\y=j/\x=op.self):=by by_cases im:∃d s,op=.dC d s;(·refine xS im ?_;(try clear im;rintro d s rfl);have evv:v=.Z [.str .gE,.int d,.int s]:=ev.bW rfl;subst evv;refine(gv _ _ (E.bo (E.dN (E.ao (E.Y (E.af rfl) E.J I.t0) E.str O.bb) (T.bool rfl) (E.dO (E.ao (E.Y (E.af rfl) E.J I.t1) (E.Y (E.af rfl) E.J I.t2) O.f7)))) rfl ?_);show((d:Int)==s)=(d==s);rw[vK,beq_iff_eq,beq_iff_eq];lia);·have wm:=Tg im;exact(gv _ _ (E.bo (E.ig (E.ao (E.Y (E.af (dg rfl Z)) E.J (jK ev)) E.str O.bb) (T.bool wm.1))) rfl (by rw[wm.1,wm.2])));refine cG mv ?_;rintro x y mv rfl xe;subst xe;refine S.ba ?_;induction os:op.self with|true=>exact S.bQ mv (T.bool os) (S.ba (S.N (dj (by rw[U,if_pos os]) _ .b8)))|false=>rw[os]at U;refine S.a8 mv (T.bool os) (S.ba ?_);have sq:=ZB (n:=n-1) (by exact c8 (by assumption) (by rfl)) ev;induction oq:op.quiet with|false=>rw[oq]at sq U;refine S.a8 (E.bo (E.ig (E.call E.fn (E.cons (E.af (dg rfl Z)) E.nil) sq) (T.bool rfl))) rfl (S.N (S.N (S.N (q _ v .b8 Z λhx e=>?_))));rw[U];exact e|true=>rw[oq]at sq U;refine oE (ZV oq) λr wr=>?_;refine ay (Ha (n:=n-1) (by exact c8 (by assumption) (by rfl)) (C.keep D) G eo N Ll) λw sb f=>?_;(have wa:qN L k op=(kQ (λg=>L.getD g 0) (op.eF k)).testBit r:=by unfold qN;rw[wr]);have cq:=E.bo (E.dN (b:=aj) (E.call E.fn (E.cons (E.af (cl:=aF (n-1)) (F:=[.ref m,.ref t,.ref a,.ref b,.ref p.length,.int k,v,.int r]) (i:=6) (dg rfl Z)) E.nil) sq) (T.bool rfl) (E.dO (E.bZ (E.aN (E.aN (E.call E.fn (E.cons (E.af (i:=0) rfl) (E.cons (E.af (i:=3) rfl) (E.cons (E.af (i:=5) rfl) E.nil))) sb) (E.af (i:=7) rfl) O.vo) (E.J (i:=1)) (O.nv (y:=1))) T.vo)));rw[wr]at q dj⊢;induction ct:(kQ (λg=>L.getD g 0) (op.eF k)).testBit r with|true=>exact S.a8 cq (T.bool (by rw[ct];rfl)) (S.N (S.N (S.N (q _ v f Z λhx e=>by rw[U,wa,ct];exact e))))|false=>exact S.bQ cq (T.bool (by rw[ct];rfl)) (S.ba (S.N (S.N (S.N (dj (by rw[U,wa,ct];rfl) _ f))))));refine key _ _ λw u f pl eu=>?_;have ho3:=f.aW ho;refine S.cO (E.bH (E.af rfl) (lX ho3 rfl) (E.cons (E.af (dg rfl pl)) E.nil) (nT ho3 (by lia))) (S.nil (up _ _ ⟨W++[u],_,_,_,rfl,(D.trans f).set hle,?_,?_,i7 (d8 ho3),by rw[cZ,ul];rfl,?_⟩));(·rw[j8 (by exact(rm (by assumption)))];exact f.aW Y);(·rw[j8 (by exact(rm (by assumption)))];exact f.aW N);·rw[Er.set,lD];(have:(mK M L c)[k]?=aa (k8 M L k op):=by unfold mK;rw[uz,eo];rfl);rw[this];exact(en.B (Er.keep f)).nA (eu _ (ev0.B λi l e=>Er.dW ((D.trans f).aW e) (by have:=d8 e;exact rm (gf (by assumption) (by assumption)))))
 ·intro F j i;refine EY i ?_;(try clear i;rintro W x y z rfl D Y N ho ul en);refine S.ret (E.af rfl) (bY _ ⟨_,_,M,L,rfl,D,⟨W,ho,?_⟩,Ms,Mc,L6,Le⟩);rw[yy (by unfold mK;rw[ri];exact cF _)]at en;exact en.B λi l e=>(Er.aW e).1
noncomputable def Op.du(k:Nat):Op->Option Nat|.dj=>aa (k+1)|.dA j=>aa j|_=>ah
noncomputable def jR(c:List Op)(a:Nat):Nat->Nat->Nat|0,_=>a|n+1,x=>match(c[x]?).bind (Op.du x)with|aa y=>jR c a n y|ah=>x
theorem ym(e:c[x]?=aa op)(q:op.du x=aa y):jR c a (n+1) x=jR c a n y:=by show(match(c[x]?).bind (Op.du x)with|aa y=>jR c a n y|ah=>x)=_;rw[show(c[x]?).bind (Op.du x)=aa y from e▸q]
theorem y0(e:c[x]?=aa op)(q:op.du x=ah):jR c a (n+1) x=x:=by show(match(c[x]?).bind (Op.du x)with|aa y=>jR c a n y|ah=>x)=_;rw[show(c[x]?).bind (Op.du x)=ah from e▸q]
theorem Fk(e:c[x]?=ah):jR c a (n+1) x=x:=by show(match(c[x]?).bind (Op.du x)with|aa y=>jR c a n y|ah=>x)=_;rw[e];rfl
noncomputable def cP(c:List Op)(a:Nat):Nat:=jR c a c.length a
theorem ZJ(op:Op):op=.dj\/(∃j,op=.dA j)\/((op.bJ==.k7)=au/\(op.bJ==.fG)=au/\op.du x=ah):=by induction op with|dj=>exact .inl rfl|dA j=>exact .inr (.inl ⟨j,rfl⟩)|br t _ _=>exact .inr (.inr (eA (by induction t<;>rfl) (by induction t<;>rfl) rfl))|_=>exact .inr (.inr (eA rfl rfl rfl))
theorem JJ{n:Nat}(N:1<=n){h:H}{f a:Nat}{c:List Op}(C:dM h f c)(t:c.length<100):aF n .yj [.ref f,.int a] h=.ok (.int (cP c a:Nat)) h:=by
 refine da (F:=[.ref f,.int a,.U,.U]) (R:=λr=>r=_) (by lia) rfl rfl ?_;have l:=C.bN t;refine S.w0 c.length (λk F b=>∃(x:Nat)(y:V),F=[.ref f,.int a,.int x,y]/\b=h/\jR c a (c.length-k) x=cP c a) (E.bi (E.cons (E.af rfl) E.nil) l) (by exact bD (by assumption) (by rfl)) (gv a _ rfl rfl rfl) ?_ ?_;·intro J k F b z M i;refine cG i ?_;(try clear i;rintro x y rfl rfl e);obtain⟨m,u⟩:∃m,c.length-k=m+1:=⟨c.length-k-1,To (by assumption)⟩;rw[u]at e;have w:c.length-(k+1)=m:=Qh u;by_cases o:x<c.length;(·obtain⟨op,g⟩:∃op,c[x]?=aa op:=⟨_,gP o⟩;refine ay (C.cp g t) λv p q=>?_;have d:∀s,ax (aF (n-1)) (.bo aj [(.ao .lt (.af 2) (.bi .dL [(.af 0)])),(.ao .eq (.Y (.Y (.af 0) (.af 2)) (.J 0)) (.str s))]) ([V.ref f,.int a,.int x,y].set 3 (.int k)) b=.ok (.bool (op.bJ==s)) b:=λs=>E.bo (E.dN (E.ao (E.af rfl) (E.bi (E.cons (E.af rfl) E.nil) l) O.lt) (T.bool (decide_eq_true (by exact eM.mpr (by assumption)))) (E.dO (E.ao (E.Y (E.Y (E.af rfl) (E.af rfl) p) E.J (jK q)) E.str O.bb)));rcases ZJ (x:=x) op with rfl|⟨j,rfl⟩|⟨D,G,L⟩;(·exact S.bQ (d _) rfl (S.ba (S.fs rfl E.J A.add (S.N (S.nil (z _ _ (gv (x+1) _ rfl rfl (w▸ym g rfl▸e))))))));(·have B:=q.bW rfl;subst B;exact S.a8 (d _) rfl (S.ba (S.bQ (d _) rfl (S.ba (S.D (E.Y (E.Y (E.af rfl) (E.af rfl) p) E.J I.t1) (S.N (S.N (S.nil (z _ _ (gv j _ rfl rfl (w▸ym g rfl▸e)))))))))));·refine S.a8 (d _) (T.bool D) (S.ba (S.a8 (d _) (T.bool G) (S.ba (S.ret (E.af rfl) ?_))));show aB.ok (V.int x) b=_;rw[<-e,y0 g L]);·rw[Fk (ro (rg o))]at e;have d:∀s,ax (aF (n-1)) (.bo aj [(.ao .lt (.af 2) (.bi .dL [(.af 0)])),(.ao .eq (.Y (.Y (.af 0) (.af 2)) (.J 0)) (.str s))]) ([V.ref f,.int a,.int x,y].set 3 (.int k)) b=.ok (.bool (aZ ((x:Int)<c.length))) b:=λs=>E.bo (E.ig (E.ao (E.af rfl) (E.bi (E.cons (E.af rfl) E.nil) l) O.lt) (T.bool (decide_eq_false (by lia))));refine S.a8 (d _) (T.bool (decide_eq_false (by lia))) (S.ba (S.a8 (d _) (T.bool (decide_eq_false (by lia))) (S.ba (S.ret (E.af rfl) ?_))));show aB.ok (V.int x) b=_;rw[e]
 ·intro F b i;refine cG i ?_;(try clear i;rintro x y rfl rfl e);rw[qi]at e;refine S.ret (E.af rfl) ?_;rw[<-e];rfl
noncomputable def kZ(c:List Op)(k:Nat)(op:Op):Op:=match op with|.dA j=>if cP c j=cP c (k+1)/\cP c k≠k then .dj else .dA (cP c j)|.br t x j=>if cP c j=cP c (k+1)then .dj else .br t x (cP c j)|op=>op.fk (cP c)
noncomputable def j6(c:List Op):List Op:=c.mapIdx (kZ c)
theorem E9{ws:List V}{f:Nat->Nat}{l:List Nat}(d:ws.length=l.length)(e:∀(k:Nat)(w:V),ws[k]?=aa w->∃g,l[k]?=aa g/\w=V.int (f g:Nat)):ws=nl (l.map f):=by apply N2;intro k;induction c:ws[k]? with|none=>have:=Gg.mp c;rw[ro (by unfold nl;rw[d5,d5];lia)]|some w=>refine ay (e k w c) λg a b=>?_;unfold nl;rw[j2,j2,a,b];rfl
theorem qb.fk(w:qb op):qb (op.fk f):=by intro p m;rw[Op.DO]at m;refine ay (gO.mp m) ?_;rintro q a rfl;have:=w q a;induction q<;>first|exact this|show(NL f _).length<=4;rw[d5];exact this
theorem Qb(a:gh op.bJ [.str .fG,.str .iG,.str .i6]=aa au):kZ c k op=op.fk (cP c):=by induction op with|dA=>cases a|br t=>cases t<;>cases a|_=>rfl
theorem Qn(a:¬gh op.bJ [.str .fG,.str .iG,.str .i6]=aa au):∃j,(op.fk (cP c)).L=[cP c j]/\gh op.bJ [.str .fG,.str .iG,.str .i6]=aa aj/\kZ c k op=if cP c j=cP c (k+1)/\((op.bJ==.fG)=au\/cP c k≠k)then .dj else op.fk (cP c):=by induction op with|dA j=>exact(d0 j rfl rfl (by show(if cP c j=cP c (k+1)/\cP c k≠k then Op.dj else .dA (cP c j))=if _/\((aC.fG==aC.fG)=au\/_)then Op.dj else .dA (cP c j);simp))|br t x j=>refine(d0 j rfl (by cases t<;>rfl) ?_);show(if cP c j=cP c (k+1)then Op.dj else .br t x (cP c j))=_;by_cases q:cP c j=cP c (k+1);(·rw[if_pos q];exact(if_pos ⟨q,.inl (by cases t<;>rfl)⟩).symm);·rw[if_neg q];exact(if_neg λz=>q z.1).symm|_=>exact(a rfl).elim
theorem Wq{n:Nat}(hn:2<=n){h:H}{f:Nat}{c:List Op}(C:dM h f c)(hc:c.length<10)(st:∀op∈c,op.st):∃o h',aF n .Ic [.ref f] h=.ok (.ref o) h'/\a9 h h'/\dM h' o (j6 c):=by
 refine o5 (F:=[.ref f,.U,.U,.U,.U]) (R:=λr=>∃o h',r=.ok (.ref o) h'/\a9 h h'/\dM h' o (j6 c)) (by exact kJ (by assumption)) rfl rfl λKK fin0=>?_;have K0:a9 h (h++[.list []]):=.cA;refine S.w0 c.length (λk F G=>∃D x y z,F=[.ref f,.ref h.length,x,y,z]/\a9 h G/\aG G h.length=aa D/\D.length=k/\ga (Er h.length G) ((j6 c).take k) D) (E.bi (E.cons (E.af rfl) E.nil) ((C.keep K0).bN (by exact bD (by assumption) (by rfl)))) (by exact bD (by assumption) (by rfl)) (DC ([]) _ _ _ rfl K0 dJ rfl trivial) ?_ ?_;·intro J k F G ge hk i;obtain⟨D,x,y,z,rfl,m,ho,ul,en⟩:=i;obtain⟨op,N⟩:∃op,c[k]?=aa op:=⟨_,gP hk⟩;have so:=st op (cW N);have fw:=so.jp;have fl:=Al fw;(have kx:(j6 c)[k]?=aa (kZ c k op):=by unfold j6;rw[uz,N];rfl);refine ay ((C.keep m).cp N (by exact bD (by assumption) (by rfl))) λv Z ev=>?_;have sj:=xu (n:=n-1) (by exact c8 (by assumption) (by rfl)) ev fw;obtain⟨ws,h2,elc,K2,hw,wl,wr⟩:=E.lc (F:=[.ref f,.ref h.length,.int k,y,z]) (e:=.call (.gl (.fn .yj)) [(.af 0),(.af 4)]) (it:=.call (.gl (.fn .q6)) [(.Y (.af 0) (.af 2))]) (i:=4) (λk w _=>∃g,op.L[k]?=aa g/\w=.int (cP c g:Nat)) (E.call E.fn (E.cons (E.Y (E.af rfl) (E.af rfl) Z) E.nil) sj) dJ (by rw[iA];lia) (λ_ _ _ _ e _=>e) (λj u t p K3 _=>by obtain⟨g,rfl,eg⟩:=pD p;exact(zU _ t (E.call E.fn (E.cons (E.af rfl) (E.cons (E.af rfl) E.nil)) (JJ (by exact c8 (by assumption) (by rfl)) (C.keep ((m.trans .cA).trans K3)) (by exact bD (by assumption) (by rfl)))) .b8 g eg rfl));have we:=E9 (by rw[wl,iA]) wr;subst we;have L:=a9.trans .cA K2;refine tT (Hj (n:=n-1) (by exact c8 (by assumption) (by rfl)) (cP c) (ev.B λi l=>L.aW) fw hw).d7 λu t ru K3 p eE=>?_;have U:=L.trans K3;(have ei2:dy h2 (.ref f) (.int k)=aa v:=by refine ay ((C.keep (m.trans L)).cp N (by exact bD (by assumption) (by rfl))) λv' a b=>?_;rw[(C.keep m).same L Z a]at a;exact a);(have ei1:dy (G++[.list (nl op.L)]) (.ref f) (.int k)=aa v:=by obtain⟨v',a,b⟩:=(C.keep (m.trans .cA)).cp N (by exact bD (by assumption) (by rfl));rw[(C.keep m).same .cA Z a]at a;exact a);refine S.D (E.call E.fn (E.cons (E.Y (E.af rfl) (E.af rfl) Z) (E.cons elc E.nil)) ru) ?_;have oE:=eE h.length (by have:=d8 (L.aW ho);assumption);(have Q:∀(w:V)(h4:H),a9 t h4->gB w=aj->bx (Er h.length h4) (kZ c k op) w->Wp (aV (aF (n-1)) [(.cO (.bH (.af 1) .fF [(.af 3)]))] [.ref f,.ref h.length,.int k,w,z] h4) (Lp (λr=>KK (eC r)) J):=by intro w h4 d wp we;have ho4:=(U.trans d).aW ho;refine S.cO (E.bH (E.af rfl) (lX ho4 rfl) (E.cons (E.af (dg rfl wp)) E.nil) (nT ho4 (by lia))) (S.nil (ge _ _ (DC (D++[w]) _ _ _ rfl ((m.trans (U.trans d)).set (cF _)) (i7 (d8 ho4)) (by rw[cZ,ul];rfl) ?_)));rw[Er.set,lD,kx];exact(en.B (Er.keep (U.trans d))).nA we);have B:=p.plain;by_cases jb:gh op.bJ [.str .fG,.str .iG,.str .i6]=aa au;(·have same:=Qb (c:=c) (k:=k) jb;refine S.a8 (E.bo (E.ig (E.ao (E.Y (E.af (dg rfl B)) E.J (jK p)) (E.Z (E.cons E.str (E.cons E.str (E.cons E.str E.nil)))) (O.jv (by rw[Op.yr];exact jb))) (T.bool rfl))) (T.bool rfl) (S.N (Q u t .b8 B (same▸oE))));·refine cu (Qn (c:=c) (k:=k) jb) λj ej z1 te=>?_;have f2:qb (op.fk (cP c)):=fw.fk;have sj2:=xu (n:=n-1) (by exact c8 (by assumption) (by rfl)) p f2;rw[ej]at sj2;have d:a9 t (t++[.list (nl [cP c j])]):=.cA;have ix:=gL (i:=t.length) dJ (show(nl [cP c j])[0]?=aa (.int (cP c j:Nat))from rfl) (by decide);have sl:=λa=>JJ (n:=n-1) (a:=a) (by exact c8 (by assumption) (by rfl)) (C.keep (m.trans (U.trans d))) (by exact bD (by assumption) (by rfl));have cb:=E.bo (E.dN (E.ao (E.Y (E.af (F:=[.ref f,.ref h.length,.int k,u,z]) (i:=3) (dg rfl B)) E.J (jK p)) (E.Z (E.cons E.str (E.cons E.str (E.cons E.str E.nil)))) (O.jv (by rw[Op.yr];exact z1))) (T.bool rfl) (E.dO (E.ao (E.Y (E.call E.fn (E.cons (E.af (i:=3) (dg rfl B)) E.nil) sj2) E.J ix) (E.call E.fn (E.cons (E.af (i:=0) rfl) (E.cons (E.aN (E.af (i:=2) rfl) (E.J (i:=1)) O.add) E.nil)) (sl (k+1))) O.f7)));have oE4:=oE.B (Er.keep d);by_cases W:cP c j=cP c (k+1);(·refine S.bQ cb (T.bool (by rw[W];simp)) (S.ba ?_);have eu4:=p.B λi l=>d.aW;have c2:=sl k;by_cases c3:cP c k=k;(·have M:=E.bo (E.dN (b:=au) (E.ao (E.call E.fn (E.cons (E.af (F:=[.ref f,.ref h.length,.int k,u,z]) (i:=0) rfl) (E.cons (E.af (i:=2) rfl) E.nil)) c2) (E.af (i:=2) rfl) O.z8) (T.bool (by rw[c3];simp)) (E.dO (E.ao (E.Y (E.af (i:=3) (dg rfl B)) E.J (jK eu4)) (E.str (s:=.fG)) O.xc)));rw[Op.yr]at M;induction Y:op.bJ==.fG with|true=>refine S.a8 M (T.bool (by rw[Y];rfl)) (S.N (S.N (Q u _ d B ?_)));have no:¬(cP c j=cP c (k+1)/\((op.bJ==.fG)=au\/cP c k≠k)):=λq=>q.2.elim (λq=>by rw[Y]at q;cases q) (λq=>q c3);rw[te,if_neg no];exact oE4|false=>refine S.bQ M (T.bool (by rw[Y];rfl)) (S.ba (S.D E.gl (S.N (S.N (Q _ _ d rfl ?_)))));rw[te,if_pos ⟨W,.inl Y⟩];exact bx.dj);·have M:=E.bo (E.ig (b:=au) (l:=[]) (c:=.ao .ne (.Y (.af 3) (.J 0)) (.str .fG)) (E.ao (E.call E.fn (E.cons (E.af (F:=[.ref f,.ref h.length,.int k,u,z]) (i:=0) rfl) (E.cons (E.af (i:=2) rfl) E.nil)) c2) (E.af (i:=2) rfl) O.z8) (T.bool (by simp;lia)));refine S.bQ M (T.bool (by simp;lia)) (S.ba (S.D E.gl (S.N (S.N (Q _ _ d rfl ?_)))));rw[te,if_pos ⟨W,.inr c3⟩];exact bx.dj);·refine S.a8 cb (T.bool (by simp;lia)) (S.N (Q u _ d B ?_));rw[te,if_neg λq=>W q.1];exact oE4
 ·intro F G i;obtain⟨D,x,y,z,rfl,m,ho,ul,en⟩:=i;refine S.ret (E.af rfl) (fin0 _ (gv _ _ rfl m ⟨D,ho,?_⟩));rw[yy (by unfold j6;rw[ri];exact cF _)]at en;exact en.B λi l e=>(Er.aW e).1
noncomputable def Op.pP:Op->Bool|.dj=>aj|_=>au
noncomputable def lW(c:List Op):List Op:=c.filter λop=>!op.pP
noncomputable def dc(c:List Op)(k:Nat):Nat:=(lW (c.take k)).length
noncomputable def pb(c:List Op):List Op:=(lW c).map (Op.fk (dc c))
theorem ga.of:∀{c:List Op}{ws:List V},ws.length=c.length->(∀(k:Nat)(w:V),ws[k]?=aa w->∃op,c[k]?=aa op/\bx h op w)->ga h c ws|[],[],_,_=>trivial|o::c,w::ws,f,e=>by refine⟨?_,ga.of (N3 f) λk w d=>e (k+1) w d⟩;refine ay (e 0 w rfl) λop a b=>?_;injection a with q;subst q;exact b
set_option tactic.hygienic true in theorem Ro{op:Op}:(op.bJ==.k7)=op.pP:=by
 induction op;case br t _ _=>induction t<;>rfl
 all_goals rfl
theorem D4{c:List Op}{op:Op}(e:c[k]?=aa op):lW (c.take (k+1))=lW (c.take k)++if op.pP then[]else[op]:=by unfold lW;rw[lD,e,N4];congr 1;show List.filter _ [op]=_;rw[BU];induction op.pP<;>rfl
theorem XT(hn:2<=n){h:H}{c:List Op}{L:List Nat}(C:dM h m c)(hc:c.length<10)(st:∀op∈c,op.st)(jm:∀op∈c,∀g∈op.L,g<c.length)(hs:aG h p=aa (nl L))(sb:∀s∈L,s<c.length)(sl:L.length<=4):∃o s h',aF n .Jj [.ref m,.ref p] h=.ok (.Z [.ref o,.ref s]) h'/\a9 h h'/\dM h' o (pb c)/\aG h' s=aa (nl (L.map (dc c))):=by
 refine ay C λvs hvs evs=>?_;have vl:=evs.bN;refine o5 (F:=[.ref m,.ref p,.U,.U,.U,.U,.U,.U]) (R:=λr=>∃o s h',r=.ok (.Z [.ref o,.ref s]) h'/\a9 h h'/\dM h' o (pb c)/\aG h' s=aa (nl (L.map (dc c)))) (by exact kJ (by assumption)) rfl rfl λKK fin0=>?_;have K0:a9 h (h++[.list []]++[.list []]):=a9.cA.trans .cA;have l1:(h++[O.list []]).length=h.length+1:=by rw[cZ];rfl
 refine S.D (E.aW E.nil) (S.D (E.aW E.nil) ?_);rw[l1];refine S.wF (λk F f=>∃x d,F=[.ref m,.ref p,.ref h.length,.ref (h.length+1),x,.U,.U,.U]/\a9 h f/\aG f h.length=aa (nl ((j0 k).map (dc c)))/\aG f (h.length+1)=aa d/\d.length=dc c k/\ga h (lW (c.take k)) d/\d.length<=k) (E.af rfl) (Aa _ ([]) rfl K0 (gC dJ) (l1▸dJ) rfl trivial (cF _)) (λk F f i=>by refine cG i λx d _ t _=>?_;exact t.aW hvs) ?_ ?_;·intro J k v F f ge Y i;refine DN i ?_;(try clear i;rintro x d rfl t G hk ul z ub);have kl:=(dH.mp Y).1;obtain⟨op,B⟩:∃op,c[k]?=aa op:=⟨_,gP (by exact uv (by assumption) (by assumption))⟩;refine ay (evs.cp B) λv' U D=>?_;rw[Y]at U;injection U with q;subst q;have vp:=D.plain;have ev2:=D.B λi l=>t.aW;(have pl:(nl ((j0 k).map (dc c))).length=k:=by rw[iA,d5,abx]);refine S.cO (E.bH (E.af rfl) (lX G rfl) (E.cons (E.bi (E.cons (E.af rfl) E.nil) (tX hk (by lia))) E.nil) (nT G (by lia))) ?_;(have hp2:aG (f.set h.length (.list (nl ((j0 k).map (dc c))++[.int d.length]))) h.length=aa (nl ((j0 (k+1)).map (dc c))):=by rw[i7 (d8 G),List.range_succ,l8,ul];unfold nl;rw[l8];rfl);(have hk2:aG (f.set h.length (.list (nl ((j0 k).map (dc c))++[.int d.length]))) (h.length+1)=aa d:=by rw[j8 (l9 (m4 _))];exact hk);have M:=t.set (o:=.list (nl ((j0 k).map (dc c))++[.int d.length])) (cF _);have cn:=E.ao (E.Y (E.af (cl:=aF (n-1)) (F:=[.ref m,.ref p,.ref h.length,.ref (h.length+1),v,.U,.U,.U]) (i:=4) (dg rfl vp)) E.J (jK (h':=f.set h.length (.list (nl ((j0 k).map (dc c))++[.int d.length]))) ev2)) (E.str (s:=.k7)) O.xc;rw[Ro]at cn;have y:=D4 B;induction ni:op.pP with|true=>rw[ni]at y;rw[if_pos rfl,iD]at y;refine S.a8 cn (T.bool (by rw[ni];rfl)) (S.N (S.nil (ge _ _ (Aa _ d rfl M hp2 hk2 ?_ ?_ (by exact jc (by assumption))))));(·rw[ul];unfold dc;rw[y]);·rw[y];exact z|false=>rw[ni]at y;refine S.bQ cn (T.bool (by rw[ni];rfl)) (S.ba (S.cO (E.bH (E.af rfl) (lX hk2 rfl) (E.cons (E.af (dg rfl vp)) E.nil) (nT hk2 (by lia))) (S.N (S.nil (ge _ _ (Aa _ (d++[v]) rfl (M.set (by exact eN _ _)) ?_ (i7 (d8 hk2)) ?_ ?_ (cZ▸lF ub)))))));(·rw[j8 (vN _)];exact hp2);(·unfold dc;rw[y,cZ,cZ,ul];rfl);·rw[y];exact z.nA D
 ·intro F f i;refine DN i ?_;(try clear i;rintro x d rfl t G hk ul z ub);rw[vl,rh]at z;have ull:=z.bN;(have pg:∀g,g<c.length->(nl ((j0 vs.length).map (dc c)))[g]?=aa (.int (dc c g:Nat)):=λg hg=>by unfold nl;rw[j2,j2,BR (by exact uv (by assumption) (Gr (by assumption)))];rfl);obtain⟨ws,h2,elc,M,hw,wl,wr⟩:=E.lc (F:=[.ref m,.ref p,.ref h.length,.ref (h.length+1),x,.U,.U,.U]) (e:=.call (.gl (.fn .BN)) [(.af 4),(.lc (.Y (.af 2) (.af 6)) 6 (.call (.gl (.fn .q6)) [(.af 4)]))]) (it:=.af 3) (i:=4) (λk w h3=>∃op,(lW c)[k]?=aa op/\bx (Er f.length h3) (op.fk (dc c)) w) (E.af rfl) hk (by lia) (λk w h3 h4 r q=>by refine ay r λop a b=>?_;rcases q with q|⟨o,rfl⟩;(·exact(bC op a (b.B (Er.keep q))));·exact(bC op a (by rw[Er.set];exact b))) (λk v h3 Y N vD=>by have kl:=(dH.mp Y).1;obtain⟨op,B⟩:∃op,(lW c)[k]?=aa op:=⟨_,gP (by exact uv (by assumption) (by assumption))⟩;refine ay (z.cp B) λv' U D=>?_;rw[Y]at U;injection U with q;subst q;have vp:=D.plain;have mo:=(Gk.mp (cW B)).1;have fw:=(st op mo).jp;have fl:=Al fw;have K03:=t.trans N;have ev3:=D.B λi l=>K03.aW;have sj:=xu (n:=n-1) (by exact c8 (by assumption) (by rfl)) ev3 fw;have hp3:=(N.trans (.cA (x:=[.list (nl op.L)]))).aW G;obtain⟨ws,h4,elc,K4,hw,wl,wr⟩:=E.lc (F:=[.ref m,.ref p,.ref h.length,.ref (h.length+1),v,.U,.U,.U]) (e:=.Y (.af 2) (.af 6)) (it:=.call (.gl (.fn .q6)) [(.af 4)]) (i:=6) (λk w _=>∃g,op.L[k]?=aa g/\w=V.int (dc c g:Nat)) (E.call E.fn (E.cons (E.af (dg rfl vp)) E.nil) sj) dJ (by rw[iA];lia) (λ_ _ _ _ e _=>e) (λj u Z eu Q _=>by refine ay (pD eu) ?_;rintro g rfl W;have gl:=jm op mo g (cW W);exact(zU _ Z (E.Y (E.af rfl) (E.af rfl) (gL (Q.aW hp3) (pg g gl) (by exact mF (by assumption) (by assumption) _ (by rfl)))) .b8 g W rfl));have we:=E9 (by rw[wl,iA]) wr;subst we;have K34:=a9.trans .cA K4;exact tT (Hj (by exact c8 (by assumption) (by rfl)) (dc c) (ev3.B λi l=>K34.aW) fw hw).d7 λu Z ru Q eu eE=>(zU u Z (E.call E.fn (E.cons (E.af (dg rfl vp)) (E.cons elc E.nil)) ru) (K34.trans Q) op B (eE f.length (gf vD K34.le))));have K02:=t.trans M;refine S.D elc ?_;have co:dM h2 f.length (pb c):=⟨ws,hw,ga.of (by unfold pb;rw[d5,wl];assumption) λk w ek=>by refine ay (wr k w ek) λop a b=>(bC _ (by unfold pb;rw[j2,a];rfl) (b.B λi l e=>(Er.aW e).1))⟩;have hp2:=M.aW G;obtain⟨ws3,h3,elc3,N,hw3,wl3,wr3⟩:=E.lc (cl:=aF (n-1)) (F:=[.ref m,.ref p,.ref h.length,.ref (h.length+1),x,.ref f.length,.U,.U]) (e:=.Y (.af 2) (.af 7)) (it:=.af 1) (i:=7) (λk w _=>∃g,L[k]?=aa g/\w=V.int (dc c g:Nat)) (E.af rfl) (K02.aW hs) (by rw[iA];lia) (λ_ _ _ _ e _=>e) (λj u Z eu Q _=>by refine ay (pD eu) ?_;rintro g rfl W;have gl:=sb g (cW W);exact(zU _ Z (E.Y (E.af rfl) (E.af rfl) (gL (Q.aW hp2) (pg g gl) (by exact mF (by assumption) (by assumption) _ (by rfl)))) .b8 g W rfl));have we3:=E9 (by rw[wl3,iA]) wr3;subst we3;exact S.ret (E.Z (E.cons (E.af rfl) (E.cons elc3 E.nil))) (fin0 _ (zj _ _ _ rfl (K02.trans N) (co.keep N) hw3))
inductive KW where|set(v:Int)|fg(b:Bool)|aN(o:Bo)|ao(o:Co)|bZ|bn|fS(p:Pl)|dU
structure dI where
 w:KW
 rd:List Nat
 wr:Nat
noncomputable def KW.bJ:KW->aC|.set _=>.fZ|.fg _=>.fZ|.aN _=>.iP|.ao _=>.gZ|.bZ=>.e8|.bn=>.e8|.fS _=>.jS|.dU=>.mu
noncomputable def KW.kh:KW->V|.set v=>.Z [.int 0,.int v]|.fg b=>.Z [.int 4,.bool b]|.aN o=>.Z [.str o.eO,.int 0]|.ao o=>.Z [.str o.eO,.int 0]|.bZ=>.Z [.str .nK,.int 4]|.bn=>.Z [.str .nG,.int 0]|.fS p=>.str p.eO|.dU=>.none
noncomputable def KW.fl:KW->V|.fg b=>.Z [.int 4,.int (if b then 1 else 0)]|w=>w.kh
noncomputable def dI.kh(k:dI):V:=.Z [.str k.w.bJ,k.w.kh,.Z (nl k.rd),.int k.wr]
noncomputable def dI.b7(k:dI):V:=.Z [.str k.w.bJ,k.w.fl,.Z (nl k.rd),.int k.wr]
theorem XJ(l:List Nat):(nl l).map (kn 6)=nl l:=by induction l with|nil=>rfl|cons a l b=>exact congrArg (V.int a::·) b
theorem KW.kn{w:KW}:Internal.kn 7 w.kh=w.fl:=by induction w<;>rfl
theorem dI.kk{k:dI}:kk k.kh=k.b7:=by show V.Z [.str k.w.bJ,Internal.kn 7 k.w.kh,.Z ((nl k.rd).map (Internal.kn 6)),.int k.wr]=_;rw[XJ,KW.kn];rfl
theorem ZD:∀{m:List Nat},kf (eU (n+1) []) (nl l) (nl m)=aj->l=m:=by induction l with|nil=>intro m e;(induction m with|nil=>rfl|cons=>injection e)|cons a l c=>intro m e;induction m with|nil=>injection e|cons b m=>have e:=kI.mp (e);rw[c e.2,Gq.mp (cr e.1)]
theorem Bo.inj{a b:Bo}(e:(a.eO==b.eO)=aj):a=b:=by induction a<;>induction b<;>first|rfl|injection e
theorem Co.inj{a b:Co}(e:(a.eO==b.eO)=aj):a=b:=by induction a<;>induction b<;>first|rfl|injection e
theorem Pl.inj{a b:Pl}(e:(a.eO==b.eO)=aj):a=b:=by induction a<;>induction b<;>first|rfl|injection e
set_option tactic.hygienic true in theorem KW.inj{a b:KW}(e:(a.bJ==b.bJ)=aj)(c:eU 8 [] a.fl b.fl=aj):a=b:=by
 induction a<;>induction b<;>first|(first|injection e;done|cases e);done|(first|injection c;done|cases c);done|rfl|skip
 ·rw[cr (kI.mp (c)).1]
 ·rename_i a b;induction a<;>induction b<;>first|rfl|injection c
 ·rw[Bo.inj (kI.mp c).1]
 ·rw[Co.inj (kI.mp c).1]
 ·rw[Pl.inj c]
theorem dI.inj{a b:dI}(e:iq a.b7 b.b7=aj):a=b:=by have e:(a.w.bJ==b.w.bJ&&(eU 8 [] a.w.fl b.w.fl&&(kf (eU 7 []) (nl a.rd) (nl b.rd)&&((a.wr:Int)==b.wr&&aj))))=aj:=e;rw[cI,cI,cI,BQ]at e;refine iT e λc d f g=>?_;show dI.mk a.w a.rd a.wr=_;rw[KW.inj c d,ZD f,Gq.mp (cr g)]
noncomputable abbrev KE:=dI×Nat×Nat
noncomputable def qa(e:KE):V×V:=(e.1.b7,.Z [.int e.2.1,.int e.2.2])
theorem dI.ox{k:dI}{l:List KE}:eZ (l.map qa) k.b7=aj:=by
 have b:fV 7 k.w.fl=aj:=by induction k.w<;>rfl
 have c:(nl k.rd).all (fV 6)=aj:=fN.mpr λv m=>ay (gO.mp m) λa z e=>e▸rfl;have d:(l.map qa).all (λp=>io p.1==io k.b7)=aj:=fN.mpr λv m=>ay (gO.mp m) λa z e=>e▸rfl;show((fV 7 k.w.fl&&((nl k.rd).all (fV 6)&&aj))&&aj&&_)=aj;rw[b,c];exact d
noncomputable def nO(l:List KE)(k:dI):Option KE:=l.find? λe=>iq e.1.b7 k.b7
noncomputable def P7(k:dI)(v:Nat×Nat)(p:KE):KE:=if iq p.1.b7 k.b7 then(p.1,v)else p
noncomputable def qI(l:List KE)(k:dI)(v:Nat×Nat):List KE:=if(nO l k).isSome then l.map (P7 k v)else l++[(k,v)]
theorem Fe:eH (l.map qa) k.b7=(nO l k).map λe=>(qa e).2:=by unfold eH nO;rw[abn,aby];rfl
theorem WB{l:List KE}{k:dI}{r m:Nat}:gT (l.map qa) k.b7 (.Z [.int r,.int m])=(qI l k (r,m)).map qa:=by
 unfold gT qI;rw[Fe,uy];by_cases c:(nO l k).isSome=aj;·rw[if_pos c,if_pos c,N5,N5];refine uA λp _=>?_;show(if iq p.1.b7 k.b7=aj then _ else _)=qa (if iq p.1.b7 k.b7=aj then _ else _);by_cases c:iq p.1.b7 k.b7=aj;(·rw[if_pos c,if_pos c];rfl);·rw[if_neg c,if_neg c]
 ·rw[if_neg c,if_neg c,l8];rfl
theorem Hc:∀e∈qI l k v,e∈l\/e=(k,v):=by
 intro e m;unfold qI at m;by_cases c:(nO l k).isSome=aj;·rw[if_pos c]at m;refine ay (gO.mp m) λp m q=>?_;have q:(if iq p.1.b7 k.b7=aj then _ else _)=e:=q;by_cases c:iq p.1.b7 k.b7=aj;(·rw[if_pos c]at q;exact .inr (q▸dI.inj c▸rfl));·rw[if_neg c]at q;exact .inl (q▸m)
 ·rw[if_neg c]at m;exact(d6.mp m).imp id dq.mp
theorem QY:(qI l k v).length<=l.length+1:=by
 unfold qI;by_cases c:(nO l k).isSome=aj;·rw[if_pos c,d5];exact lE _
 ·rw[if_neg c,cZ];exact cF _
theorem Eg(h:nO l k=aa e):e∈l/\e.1=k:=⟨NP h,dI.inj (NO (p:=λe:KE=>iq e.1.b7 k.b7) h)⟩
noncomputable abbrev NN:=Nat->Option Nat
noncomputable def f0(f:NN)(r n:Nat):NN:=λs=>if s=r then aa n else f s
structure NS where
 fu:NN
 gS:NN
 kT:List KE
 count:Nat
 wr:Nat
noncomputable def gN(f:NN):Int->Option V:=λi=>if 0<=i then(f i.toNat).map λ(n:Nat)=>.int n else ah
theorem Ae{f:NN}{r:Nat}:gN f r=(f r).map λ(n:Nat)=>V.int n:=by unfold gN;rw[if_pos (by exact g9 _),jC]
theorem DD:gN (f0 f r n)=λj=>if j=(r:Int)then aa (.int n)else gN f j:=by
 funext j;unfold gN f0;by_cases c:0<=j;·rw[if_pos c,if_pos c];by_cases a:j=r;(·subst a;rw[if_pos rfl,jC,if_pos rfl];rfl);·rw[if_neg a,if_neg (by lia)]
 ·rw[if_neg c,if_neg c,if_neg (by lia)]
noncomputable def eV(X:List Nat)(h h':H):Prop:=h.length<=h'.length/\∀i,i<h.length->i∉X->h'[i]?=h[i]?
theorem eV.b8{X:List Nat}:eV X h h:=⟨cF _,λ_ _ _=>rfl⟩
theorem eV.trans{X:List Nat}(p:eV X a b)(q:eV X b c):eV X a c:=⟨di p.1 q.1,λi hi d=>(q.2 i (gf hi p.1) d).trans (p.2 i hi d)⟩
theorem eV.set{X:List Nat}(m:i∈X):eV X h (h.set i o):=⟨by simp,λj z a=>ja λe=>a (by rw[<-e];exact m)⟩
theorem eV.YW{X:List Nat}(k:a9 a b):eV X a b:=by
 refine oE k ?_;try clear k;rintro x rfl
 exact⟨by simp,λi hi _=>nY hi⟩
theorem eV.keep{X:List Nat}(t:eV X b c)(k:a9 a b)(d:∀x∈X,a.length<=x):a9 a c:=by
 refine⟨c.drop a.length,?_⟩;have e:c.take a.length=a:=by apply N2;intro i;by_cases hi:i<a.length;(·rw[List.getElem?_take_of_lt hi,t.2 i (gf hi k.le) λm=>by have:=d i m;exact absurd (by assumption) (sR.mpr (by assumption))];refine oE k ?_;try clear k;rintro y rfl;rw[nY hi]);·rw[ro (by rw[yw];lia),ro (by exact rg (by assumption))]
 conv=>lhs;rw[<-NH a.length c,e]
structure bO(h:H)(nb a b c:Nat)(Z:NS)(N:Nat):Prop where
 kl:h[nb]?=aa (.bw .jV)
 fl:h[nb+1]?=aa (.fields [(.iW,.ref a),(.nR,.ref b),(.pB,.ref c),(.pv,.int Z.count),(.oj,.int Z.wr)])
 ab:a≠b
 ac:a≠c
 bc:b≠c
 dh:∃d,cN h a=aa d/\DI d (gN Z.fu)/\d.length<=N
 dm:∃d,cN h b=aa d/\DI d (gN Z.gS)/\d.length<=N
 dk:cN h c=aa (Z.kT.map qa)
 dl:Z.kT.length<=N
 cl:Z.count<=N
 wl:Z.wr<=N
section
variable{h h':H}{nb a b c N:Nat}{Z:NS}{cl:Fn->List V->H->aB V}
theorem bO.eG(A:bO h nb a b c Z N):iu h nb=aa [(.iW,.ref a),(.nR,.ref b),(.pB,.ref c),(.pv,.int Z.count),(.oj,.int Z.wr)]:=vt A.kl A.fl
theorem bO.vc(A:bO h nb a b c Z N)(e:(lU .jV m).isSome=aj):mR h m (.ref nb)=aa (.bw .jV):=EG A.kl A.fl e
theorem bO.up(A:bO h nb a b c Z N)(l:N<=M):bO h nb a b c Z M:=⟨A.kl,A.fl,A.ab,A.ac,A.bc,cu A.dh λd x y z=>⟨d,x,y,di z l⟩,cu A.dm λd x y z=>⟨d,x,y,di z l⟩,A.dk,di A.dl l,di A.cl l,di A.wl l⟩
theorem bO.keep(A:bO h nb a b c Z N)(k:a9 h h'):bO h' nb a b c Z N:=⟨k.cp A.kl,k.cp A.fl,A.ab,A.ac,A.bc,cu A.dh λd x y z=>⟨d,k.bF x,y,z⟩,cu A.dm λd x y z=>⟨d,k.bF x,y,z⟩,k.bF A.dk,A.dl,A.cl,A.wl⟩
theorem bO.vF(A:bO h nb a b c Z N)(e:i≠nb)(f:i≠nb+1)(g:i≠a)(j:i≠b)(k:i≠c):bO (h.set i o) nb a b c Z N:=⟨by rw[ja e];exact A.kl,(ja f).symm▸A.fl,A.ab,A.ac,A.bc,cu A.dh λd x y z=>⟨d,by rw[lZ g];exact x,y,z⟩,cu A.dm λd x y z=>⟨d,by rw[lZ j];exact x,y,z⟩,(lZ k).symm▸A.dk,A.dl,A.cl,A.wl⟩
theorem bO.Cr(A:bO h nb a b c Z N)(e:aG h i=aa l):i∉[nb+1,a,b,c]/\i≠nb:=by
 have g:=pN e;refine⟨λm=>?_,λm=>by subst m;rw[A.kl]at g;cases g⟩;simp only[gQ,jD,or_false]at m;rcases m with rfl|rfl|rfl|rfl;·rw[A.fl]at g;cases g
 ·refine ay A.dh λd x _=>?_;rw[jH x]at g;cases g
 ·refine ay A.dm λd x _=>?_;rw[jH x]at g;cases g
 ·rw[jH A.dk]at g;cases g
theorem bO.aW(A:bO h nb a b c Z N)(T:eV [nb+1,a,b,c] h h')(e:aG h i=aa l):aG h' i=aa l:=wD ((T.2 i (d8 e) (A.Cr e).1).trans (pN e))
theorem bO.bF(_:bO h nb a b c Z N)(T:eV [nb+1,a,b,c] h h')(e:cN h i=aa l)(x:i∉[nb+1,a,b,c]):cN h' i=aa l:=oy ((T.2 i (oz e) x).trans (jH e))
theorem bO.La(A:bO h nb a b c Z N)(l:List (At×V))(w n:Nat)(o:l=[(.iW,.ref a),(.nR,.ref b),(.pB,.ref c),(.pv,.int n),(.oj,.int w)])(p:n<=N)(r:w<=N):bO (h.set (nb+1) (.fields l)) nb a b c {Z with count:=n,wr:=w} N:=by
 have f:∀{i d},cN h i=aa d->nb+1≠i:=λe q=>by subst q;have:=jH e;rw[A.fl]at this;cases this
 exact cu A.dh λk g s u=>cu A.dm λm j t v=>⟨by rw[ja (vN _)];exact A.kl,by rw[ph (dH.mp A.fl).1,o],A.ab,A.ac,A.bc,(d0 k (by rw[lZ (f g)];exact g) s u),(d0 m (by rw[lZ (f j)];exact j) t v),by rw[lZ (f A.dk)];exact A.dk,A.dl,p,r⟩
theorem bO.ne(A:bO h nb a b c Z N)(e:cN h i=aa d):i≠nb/\i≠nb+1:=⟨(λq=>by subst q;have:=jH e;rw[A.kl]at this;cases this),(λq=>by subst q;have:=jH e;rw[A.fl]at this;cases this)⟩
theorem bO.Wy(A:bO h nb a b c Z N)(D:DI d (gN f))(i:d.length<=N):bO (h.set a (.dict d)) nb a b c {Z with fu:=f} N:=by refine cu A.dh λm e n o=>cu A.dm λg j k l=>?_;have:=A.ne e;exact⟨by rw[ja this.1];exact A.kl,by rw[ja this.2];exact A.fl,A.ab,A.ac,A.bc,(d0 d (tV (oz e)) D i),(d0 g (by rw[lZ A.ab];exact j) k l),by rw[lZ A.ac];exact A.dk,A.dl,A.cl,A.wl⟩
theorem bO.YN(A:bO h nb a b c Z N)(D:DI d (gN f))(i:d.length<=N):bO (h.set b (.dict d)) nb a b c {Z with gS:=f} N:=by refine cu A.dh λg j k l=>cu A.dm λm e n o=>?_;have:=A.ne e;exact⟨by rw[ja this.1];exact A.kl,by rw[ja this.2];exact A.fl,A.ab,A.ac,A.bc,(d0 g (by rw[lZ A.ab.symm];exact j) k l),(d0 d (tV (oz e)) D i),by rw[lZ A.bc];exact A.dk,A.dl,A.cl,A.wl⟩
theorem bO.RN(A:bO h nb a b c Z N)(f:l.length<=N):bO (h.set c (.dict (l.map qa))) nb a b c {Z with kT:=l} N:=by refine cu A.dh λd g j m=>cu A.dm λe i k n=>?_;have:=A.ne A.dk;exact⟨by rw[ja this.1];exact A.kl,by rw[ja this.2];exact A.fl,A.ab,A.ac,A.bc,(d0 d (by rw[lZ A.ac.symm];exact g) j m),(d0 e (by rw[lZ A.bc.symm];exact i) k n),tV (oz A.dk),f,A.cl,A.wl⟩
noncomputable def NS.k9(Z:NS):NS:={Z with count:=Z.count+1}
theorem Ht(e:1<=n)(A:bO h nb a b c Z N):∃h',aF n .DM [.ref nb] h=.ok (.int (Z.count+1:Nat)) h'/\bO h' nb a b c Z.k9 (N+1)/\eV [nb+1,a,b,c] h h':=by refine da (F:=[.ref nb]) (R:=λr=>∃h',r=.ok (.int (Z.count+1:Nat)) h'/\bO h' nb a b c Z.k9 (N+1)/\eV [nb+1,a,b,c] h h') (by lia) rfl rfl ?_;have d:=(A.up (lE N)).La (iQ [(.iW,.ref a),(.nR,.ref b),(.pB,.ref c),(.pv,.int Z.count),(.oj,.int Z.wr)] .pv (.int (Z.count+1:Nat))) Z.wr (Z.count+1) rfl (lF A.cl) (jc A.wl);refine S.l7 (E.af rfl) (gp A.eG rfl) E.J Internal.A.add (nC A.eG (cJ rfl)) (S.ret (E.M (E.af rfl) (gp d.eG rfl)) (d0 _ rfl d (.set (.head _))))
noncomputable def cD(Z:NS)(r:Nat):NS×Nat:=match Z.fu r with|aa n=>(Z,n)|ah=>({Z with count:=Z.count+1,fu:=f0 Z.fu r (Z.count+1),gS:=f0 Z.gS (Z.count+1) r},Z.count+1)
theorem Cv:a∈[nb+1,a,b,c]:=.tail _ (.head _)
theorem Fw:b∈[nb+1,a,b,c]:=.tail _ (.tail _ (.head _))
theorem DS:c∈[nb+1,a,b,c]:=.tail _ (.tail _ (.tail _ (.head _)))
theorem bO.Bc(A:bO h nb a b c Z N){r n:Nat}(j:r<1000)(i:N<900):∃h',jk h (.ref a) (.int r) (.int n)=aa h'/\bO h' nb a b c {Z with fu:=f0 Z.fu r n} (N+1)/\eV [nb+1,a,b,c] h h':=by refine cu A.dh λg e d f=>(d0 _ (zE e d (by exact iU) (by exact eM.mpr (by assumption)) (by exact bD (gF (by assumption) (by assumption)) (by rfl))) ((A.up (lE N)).Wy (by rw[DD];exact d.set) (di Bd (lF f))) (.set Cv))
theorem bO.FO(A:bO h nb a b c Z N){r n:Nat}(j:r<1000)(i:N<900):∃h',jk h (.ref b) (.int r) (.int n)=aa h'/\bO h' nb a b c {Z with gS:=f0 Z.gS r n} (N+1)/\eV [nb+1,a,b,c] h h':=by refine cu A.dm λg e d f=>(d0 _ (zE e d (by exact iU) (by exact eM.mpr (by assumption)) (by exact bD (gF (by assumption) (by assumption)) (by rfl))) ((A.up (lE N)).YN (by rw[DD];exact d.set) (di Bd (lF f))) (.set Fw))
theorem bO.Eh(A:bO h nb a b c Z N)(i:r<1000)(e:Z.fu r=aa n):dy h (.ref a) (.int r)=aa (.int n):=cu A.dh λg d f j=>xr d f (by exact iU) (by exact eM.mpr (by assumption)) (by rw[Ae,e];rfl)
theorem tH:f0 f r n r=aa n:=if_pos rfl
theorem Ni(e:s≠r):f0 f r n s=f s:=if_neg e
theorem u5(e:lU .jV m=aa f):oR cl (.bw .jV) x m l h=cl f (x::l) h:=jg e
theorem AL{n:Nat}(J:2<=n){r:Nat}(g:r<1000)(G:N<890)(A:bO h nb a b c Z N):∃h',aF n .DK [.ref nb,.int r] h=.ok (.int ((cD Z r).2:Nat)) h'/\bO h' nb a b c (cD Z r).1 (N+3)/\eV [nb+1,a,b,c] h h':=by refine da (F:=[.ref nb,.int r]) (R:=λq=>∃h',q=.ok (.int ((cD Z r).2:Nat)) h'/\bO h' nb a b c (cD Z r).1 (N+3)/\eV [nb+1,a,b,c] h h') (by exact kJ (by assumption)) rfl rfl (cu A.dh λz x y L=>?_);have d:=CQ x y (k:=r) (by exact iU) (by exact eM.mpr (by assumption));rw[Ae]at d;unfold cD;induction e:Z.fu r with|some m=>rw[e]at d;exact S.a8 (E.ao (E.af rfl) (E.M (E.af rfl) (gp A.eG rfl)) d) rfl (S.N (S.ret (E.Y (E.M (E.af rfl) (gp A.eG rfl)) (E.af rfl) (A.Eh g e)) (d0 _ rfl (A.up (by exact eN _ _)) .b8)))|none=>rw[e]at d;refine cu (Ht (n:=n-1) (by exact c8 (by assumption) (by rfl)) A) λB u j l=>cu (j.Bc (n:=Z.count+1) g (by lia)) λC v f o=>?_;have cl:=A.cl;refine cu (f.FO (r:=Z.count+1) (n:=r) (by lia) (by lia)) λD w i p=>?_;have s:=f.Eh g tH;have t:=i.Eh g tH;exact S.bQ (E.ao (E.af rfl) (E.M (E.af rfl) (gp A.eG rfl)) d) rfl (S.ba (S.cQ (E.bH (E.af rfl) (A.vc rfl) E.nil ((u5 rfl).trans u)) (E.M (E.af rfl) (gp j.eG rfl)) (E.af rfl) v (S.ba (S.cQ (E.af rfl) (E.M (E.af rfl) (gp f.eG rfl)) (E.Y (E.M (E.af rfl) (gp f.eG rfl)) (E.af rfl) s) w (S.N (S.ret (E.Y (E.M (E.af rfl) (gp i.eG rfl)) (E.af rfl) t) (d0 _ rfl i ((l.trans o).trans p))))))))
noncomputable def eX(Z:NS)(r:Nat):NS×Nat:=if(cD Z r).1.fu (((cD Z r).1.gS (cD Z r).2).getD r)=aa (cD Z r).2 then((cD Z r).1,((cD Z r).1.gS (cD Z r).2).getD r)else({(cD Z r).1 with gS:=f0 (cD Z r).1.gS (cD Z r).2 r},r)
theorem O.Y6{h:H}{o:Option Nat}{m:Nat}:dE .ne h ((o.map λ(n:Nat)=>V.int n).getD .none) (.int m)=aa (aZ (o≠aa m)):=by induction o with|none=>rfl|some x=>show aa (!((x:Int)==(m:Int)))=_;congr 1;simp;lia
theorem O.ZR{h:H}{o:Option Nat}{m:Nat}:dE .eq h ((o.map λ(n:Nat)=>V.int n).getD .none) (.int m)=aa (aZ (o=aa m)):=by induction o with|none=>rfl|some x=>show aa ((x:Int)==(m:Int))=_;congr 1;simp;lia
theorem RR{n:Nat}(hn:3<=n){r:Nat}(w:r<1000)(Y:N<880)(A:bO h nb a b c Z N)(j:∀m s,(cD Z r).1.gS m=aa s->s<1000)(p:(cD Z r).2<1000):∃h',aF n .Dw [.ref nb,.int r] h=.ok (.int ((eX Z r).2:Nat)) h'/\bO h' nb a b c (eX Z r).1 (N+4)/\eV [nb+1,a,b,c] h h':=by
 refine da (F:=[.ref nb,.int r,.U,.U]) (R:=λq=>∃h',q=.ok (.int ((eX Z r).2:Nat)) h'/\bO h' nb a b c (eX Z r).1 (N+4)/\eV [nb+1,a,b,c] h h') (by lia) rfl rfl (cu (AL (n:=n-1) (by exact c8 (by assumption) (by rfl)) w (by exact bD (by assumption) (by rfl)) A) λU l d o=>?_);unfold eX;generalize cD Z r=q at l d j p⊢;obtain⟨f,m⟩:=q;dsimp only at l d j p⊢;refine cu d.dm λQ y L z2=>cu d.dh λM x J z1=>?_;have u:=AP (cl:=aF (n-1)) y L (k:=m) (v:=.int r) (by exact iU) (by exact eM.mpr (by assumption));have G:((gN f.gS m).getD (.int r))=.int ((f.gS m).getD r:Nat):=by rw[Ae];cases f.gS m<;>rfl
 have tb:(f.gS m).getD r<1000:=by induction e:f.gS m with|none=>exact w|some s=>exact j m s e
 rw[G]at u;have C:=ML (cl:=aF (n-1)) x J (k:=((f.gS m).getD r:Nat)) (by exact iU) (by exact eM.mpr (by assumption));refine S.D (E.bH (E.af rfl) (A.vc rfl) (E.cons (E.af rfl) E.nil) ((u5 rfl).trans l)) (S.D (E.bH (E.M (E.af rfl) (gp d.eG rfl)) (uY y rfl) (E.cons (E.af rfl) (E.cons (E.af rfl) E.nil)) u) ?_);have t:=E.ao (E.bH (E.M (n:=.iW) (E.af (F:=[.ref nb,.int r,.int m,.int ((f.gS m).getD r:Nat)]) (i:=0) rfl) (gp d.eG rfl)) (uY x rfl) (E.cons (E.af (i:=3) rfl) E.nil) C) (E.af (i:=2) rfl) O.Y6;by_cases g:f.fu ((f.gS m).getD r)=aa m;·rw[if_pos g];exact S.a8 t (T.bool (decide_eq_false λq=>q g)) (S.N (S.ret (E.af rfl) (d0 _ rfl (d.up (lE _)) o)))
 ·rw[if_neg g];exact cu (d.FO (by assumption) (by lia)) λW D z B=>S.bQ t (T.bool (decide_eq_true g)) (S.ba (S.D (E.af rfl) (S.ba (S.cQ (E.af rfl) (E.M (E.af rfl) (gp d.eG rfl)) (E.af rfl) D (S.N (S.ret (E.af rfl) (d0 _ rfl z (o.trans B))))))))
end
noncomputable def KW.ty:KW->Nat|.set _=>0|.fg _=>1|.aN _=>0|.ao _=>1|.bZ=>1|.bn=>0|.fS _=>2|.dU=>0
noncomputable def Op.kw:Op->Option KW|.set _ v=>aa (.set v)|.fg _ b=>aa (.fg b)|.aN o _ _ _=>aa (.aN o)|.ao o _ _ _=>aa (.ao o)|.bZ _ _=>aa .bZ|.bn _ _=>aa .bn|.fS _ p=>aa (.fS p)|.dU _ _=>aa .dU|_=>ah
noncomputable def fo(Z:NS)(l:List Nat):NS×List Nat:=l.foldl (λq r=>((cD q.1 r).1,q.2++[(cD q.1 r).2])) (Z,[])
theorem Hn:fo Z (l++[r])=((cD (fo Z l).1 r).1,(fo Z l).2++[(cD (fo Z l).1 r).2]):=by unfold fo;rw[NZ];rfl
noncomputable def GV(Z:NS):KW->Nat|.dU=>Z.wr|_=>0
noncomputable def vy(Z:NS)(w:KW)(a:List Nat):dI:=⟨w,(fo Z a).2,GV Z w⟩
theorem Tv:(fo Z l).2.length=l.length:=by
 have b:∀(l:List Nat)(q:NS×List Nat),(l.foldl (λq r=>((cD q.1 r).1,q.2++[(cD q.1 r).2])) q).2.length=q.2.length+l.length:=by intro l;induction l with|nil=>exactλz=>rfl|cons r l a=>intro q;rw[NW,a];simp;lia
 unfold fo;rw[b];simp
noncomputable def xz(Z:NS)(d:Nat)(a:dI):NS:={Z with count:=Z.count+1,fu:=f0 Z.fu d (Z.count+1),gS:=f0 Z.gS (Z.count+1) d,kT:=qI Z.kT a (d,Z.count+1)}
noncomputable def ie(Z:NS)(d:Nat)(a:dI)(op:Op):NS×Op:=match nO Z.kT a with|aa e=>if Z.fu e.2.1=aa e.2.2 then({Z with fu:=f0 Z.fu d e.2.2},.dC d e.2.1)else(xz Z d a,op)|ah=>(xz Z d a,op)
noncomputable def i4(Z:NS)(op:Op):NS×Op:=match op with|.dC d s=>({(cD Z s).1 with fu:=f0 (cD Z s).1.fu d (cD Z s).2},op)|.gD _ _=>({Z with wr:=Z.wr+1},op)|op=>match op.kw with|aa w=>ie (fo Z op.bR).1 (op.wr.getD 0) (vy Z w op.bR) op|ah=>(Z,op)
structure NI(Z:NS):Prop where
 ex:∃tn:Nat->Nat,(∀r n,Z.fu r=aa n->r<6/\n<=Z.count/\tn n=ty r)/\(∀m s,Z.gS m=aa s->s<6/\m<=Z.count/\tn m=ty s)
 kn:∀e∈Z.kT,e.2.1<6/\e.2.2<=Z.count/\ty e.2.1=e.1.w.ty
theorem o9(e:f0 f r n s=aa m):(s=r/\m=n)\/f s=aa m:=by
 unfold f0 at e;split at e;·injection e with q;subst q;exact .inl ⟨‹_›,rfl⟩
 ·exact .inr e
theorem NI.of(c:NI Z)(d:r<6):NI (cD Z r).1/\(cD Z r).1.fu r=aa (cD Z r).2/\Z.count<=(cD Z r).1.count/\(cD Z r).2<=(cD Z r).1.count:=by unfold cD;induction e:Z.fu r with|some m=>refine ay c.ex λf a b=>?_;exact(nN c e (cF _) ((a r m e).2.1))|none=>refine(nN ⟨?_,λe m=>?_⟩ tH (lE _) (cF _));(·refine ay c.ex λf a b=>(bC (λx=>if x=Z.count+1 then ty r else f x) (λs n h=>?_) (λm s h=>?_));(·rcases o9 h with⟨rfl,rfl⟩|h;(·exact(eA d (cF _) (if_pos rfl)));·exact dT (a s n h) λx y z=>(eA x (jc y) (by dsimp only;rw[if_neg (by lia)];exact z)));·rcases o9 h with⟨rfl,rfl⟩|h;(·exact(eA d (cF _) (if_pos rfl)));·exact dT (b m s h) λx y z=>(eA x (jc y) (by dsimp only;rw[if_neg (by lia)];exact z)));·refine dT (c.kn e m) λx y z=>?_;exact(eA x (jc y) z)
theorem NI.Fc(g:NI Z)(c:r<6):NI (eX Z r).1/\(eX Z r).2<6/\ty (eX Z r).2=ty r/\Z.count<=(eX Z r).1.count:=by
 refine iT (g.of c) λJ i d j=>?_;unfold eX;refine ay J.ex λk a b=>?_;have f:=(a _ _ i).2.2;split;·refine(nN J ?_ ?_ d);(·induction e:(cD Z r).1.gS (cD Z r).2 with|none=>exact c|some s=>exact(b _ _ e).1);·induction e:(cD Z r).1.gS (cD Z r).2 with|none=>rfl|some s=>exact(b _ _ e).2.2.symm.trans f
 ·refine(nN ⟨(bC k a (λm s h=>?_)),J.kn⟩ c rfl d);rcases o9 h with⟨rfl,rfl⟩|h;(·exact(eA c j f));·exact b m s h
theorem NI.fo(g:NI Z)(e:∀r∈l,r<6):NI (fo Z l).1/\Z.count<=(fo Z l).1.count/\∀m∈(fo Z l).2,m<=(fo Z l).1.count:=by
 have k:∀(l:List Nat)(q:NS×List Nat),NI q.1->(∀m∈q.2,m<=q.1.count)->(∀r∈l,r<6)->NI (l.foldl (λq r=>((cD q.1 r).1,q.2++[(cD q.1 r).2])) q).1/\q.1.count<=(l.foldl (λq r=>((cD q.1 r).1,q.2++[(cD q.1 r).2])) q).1.count/\∀m∈(l.foldl (λq r=>((cD q.1 r).1,q.2++[(cD q.1 r).2])) q).2,m<=(l.foldl (λq r=>((cD q.1 r).1,q.2++[(cD q.1 r).2])) q).1.count:=by intro l;induction l with|nil=>exactλq i m z=>(eA i (cF _) m)|cons r l j=>intro q i m e;refine iT (i.of (e r (.head _))) λJ o f h=>?_;refine dT (j ((cD q.1 r).1,q.2++[(cD q.1 r).2]) J (λx d=>by rcases d6.mp d with d|d;(·exact di (m x d) f);·cases dq.mp d;exact h) λs n=>e s (.tail _ n)) λa b c=>?_;exact(eA a (di f b) c)
 exact k l (Z,[]) g (λz m=>nomatch m) e
noncomputable def VG(d:Option Nat):Option KW->Prop|aa w=>(∃x,d=aa x)/\ty (d.getD 0)=w.ty|ah=>True
theorem aaE{op:Op}(s:op.st):VG op.wr op.kw:=by induction op with|set|aN|bn|dU=>all_goals exact .intro ⟨_,rfl⟩ (pG s.1)|fg d=>exact .intro ⟨_,rfl⟩ (congrArg ty (show d=3 from s))|ao|bZ=>all_goals exact .intro ⟨_,rfl⟩ (congrArg ty s.1)|fS d=>exact .intro ⟨_,rfl⟩ (by obtain⟨a,b⟩:=s;show ty d=2;unfold ty;rw[if_neg (by lia),if_neg (by lia)])|_=>trivial
theorem QD{op:Op}{w:KW}(s:op.st)(e:op.kw=aa w)(a:op.wr=aa d):ty d=w.ty:=by have t:=aaE s;rw[e,a]at t;exact t.2
theorem J3{op:Op}(e:op.kw=aa w):∃d,op.wr=aa d:=by induction op<;>first|exact⟨_,rfl⟩|injection e
theorem NI.wV(f:NI Z)(c:d<6)(i:ty d=g.w.ty):NI (xz Z d g):=by
 refine ay f.ex λj a b=>⟨(bC (λx=>if x=Z.count+1 then ty d else j x) (λs n h=>?_) (λm s h=>?_)),λe m=>?_⟩;·rcases o9 h with⟨rfl,rfl⟩|h;(·exact(eA c (cF _) (if_pos rfl)));·exact dT (a s n h) λx y z=>(eA x (jc y) (by dsimp only;rw[if_neg (by lia)];exact z))
 ·rcases o9 h with⟨rfl,rfl⟩|h;(·exact(eA c (cF _) (if_pos rfl)));·exact dT (b m s h) λx y z=>(eA x (jc y) (by dsimp only;rw[if_neg (by lia)];exact z))
 ·rcases Hc e m with m|rfl;(·refine dT (f.kn e m) λx y z=>?_;exact(eA x (jc y) z));·exact(eA c (cF _) i)
set_option tactic.hygienic true in theorem NI.ie(c:NI Z)(s:op.st)(f:d<6)(g:ty d=i.w.ty):NI (ie Z d i op).1/\(ie Z d i op).2.st:=by
 unfold Internal.ie;split;·rename_i e j;refine oA (Eg j) ?_;rintro m rfl;refine dT (c.kn e m) λx y z=>?_;split;(·rename_i k;refine ay c.ex λl a b=>⟨⟨(bC l (λr n h=>?_) b),c.kn⟩,f,x,g.trans z.symm⟩;rcases o9 h with⟨rfl,rfl⟩|h;(·exact(eA f y (((a _ _ k).2.2.trans z).trans g.symm)));·exact a r n h);·exact⟨c.wV f g,s⟩
 ·exact⟨c.wV f g,s⟩
theorem NI.CI(b:NI Z){op:Op}(s:op.st)(e:op.kw=aa w){q:NS×Op}(c:q=Internal.ie (Internal.fo Z op.bR).1 (op.wr.getD 0) (vy Z w op.bR) op):NI q.1/\q.2.st:=by refine oE (J3 e) λd a=>?_;rw[c,a];exact(b.fo s.rd).1.ie s (s.wr d a) (QD s e a)
theorem NI.DH(c:NI Z)(s:op.st):NI (i4 Z op).1/\(i4 Z op).2.st:=by induction op with|dC d r=>refine iT (c.of s.2.1) λJ e i f=>⟨⟨?_,J.kn⟩,s⟩;refine ay J.ex λg a b=>(bC g (λx n h=>?_) b);rcases o9 h with⟨rfl,rfl⟩|h;(·exact(eA s.1 f ((a _ _ e).2.2.trans s.2.2.symm)));·exact a x n h|gD=>exact⟨⟨c.ex,c.kn⟩,s⟩|set|fg|aN|ao|bZ|bn|fS|dU=>all_goals exact c.CI s rfl rfl|_=>exact⟨c,s⟩
noncomputable def iL(Z:NS)(l:List Nat):NS×NN:=l.foldl (λq r=>((eX q.1 r).1,f0 q.2 r (eX q.1 r).2)) (Z,λz=>ah)
theorem Xr:iL Z (l++[r])=((eX (iL Z l).1 r).1,f0 (iL Z l).2 r (eX (iL Z l).1 r).2):=by unfold iL;rw[NZ];rfl
theorem NI.map(f:NI Z)(d:∀r∈l,r<6):NI (iL Z l).1/\(∀r∈l,∃s,(iL Z l).2 r=aa s)/\∀r s,(iL Z l).2 r=aa s->s<6/\ty s=ty r:=by
 have n:∀(l:List Nat)(q:NS×NN),NI q.1->(∀r s,q.2 r=aa s->s<6/\ty s=ty r)->(∀r∈l,r<6)->NI (l.foldl (λq r=>((eX q.1 r).1,f0 q.2 r (eX q.1 r).2)) q).1/\(∀r,(r∈l\/∃s,q.2 r=aa s)->∃s,(l.foldl (λq r=>((eX q.1 r).1,f0 q.2 r (eX q.1 r).2)) q).2 r=aa s)/\∀r s,(l.foldl (λq r=>((eX q.1 r).1,f0 q.2 r (eX q.1 r).2)) q).2 r=aa s->s<6/\ty s=ty r:=by intro l;induction l with|nil=>exactλq i m z=>(eA i (λr h=>h.resolve_left jD) m)|cons x l k=>intro q i m d;refine iT (i.Fc (d x (.head _))) λJ g j z=>?_;refine dT (k ((eX q.1 x).1,f0 q.2 x (eX q.1 x).2) J (λr s h=>by rcases o9 h with⟨rfl,rfl⟩|h;(·exact⟨g,j⟩);·exact m r s h) λs o=>d s (.tail _ o)) λa b c=>?_;refine(eA a (λr h=>b r ?_) c);by_cases e:r=x;(·subst e;exact .inr ⟨_,tH⟩);·rcases h with h|⟨s,h⟩;(·cases h with|head=>exact(e rfl).elim|tail _ h=>exact .inl h);·exact .inr ⟨s,(Ni e).trans h⟩
 exact dT (n l (Z,λz=>ah) f (λz z h=>by injection h) d) λa b c=>(eA a (λr m=>b r (.inl m)) c)
theorem tU(h:x<6/\ty x=ty r)(l:r<3):x<3:=by
 have e:=h.2.trans (pG l);unfold ty at e;by_cases c:x<3;·exact c
 ·rw[if_neg c]at e;split at e<;>injection e
theorem HT(h:x<6/\ty x=ty r)(l:r=3):x=3:=by
 subst l;have e:ty x=1:=h.2;unfold ty at e;by_cases c:x<3;·rw[if_pos c]at e;injection e
 ·rw[if_neg c]at e;by_cases a:x=3;(·exact a);·rw[if_neg a]at e;injection e with e;injection e
theorem JU(h:x<6/\ty x=ty r)(l:4<=r):4<=x:=by
 have e:=h.2;rw[show ty r=2 by unfold ty;rw[if_neg (sR.mpr (Gs l)),if_neg (rm l)]]at e;unfold ty at e;by_cases c:x<3;·rw[if_pos c]at e;injection e
 ·rw[if_neg c]at e;by_cases a:x=3;(·rw[if_pos a]at e;injection e with e;injection e);·exact N1 (rg c) (hH a)
theorem I7{op:Op}{f:Nat->Nat}(s:op.st)(h:∀r∈op.bR,f r<6/\ty (f r)=ty r):(op.kb f).st:=by induction op with|dC d a=>exact⟨s.1,(h a (.head _)).1,s.2.2.trans (h a (.head _)).2.symm⟩|aN|ao=>all_goals exact⟨s.1,tU (h _ (.head _)) s.2.1,tU (h _ (.tail _ (.head _))) s.2.2⟩|bZ d a=>exact⟨s.1,HT (h _ (.head _)) s.2⟩|bn d a=>exact⟨s.1,tU (h _ (.head _)) s.2⟩|dU d a=>exact⟨s.1,JU (h _ (.head _)) s.2.1,(h _ (.head _)).1⟩|gD p a=>exact⟨JU (h _ (.head _)) s.1,(h _ (.head _)).1,tU (h _ (.tail _ (.head _))) s.2.2⟩|br t x j=>exact HT (h _ (.head _)) s|fz x j k l=>exact tU (h _ (.head _)) s|ee x l=>exact⟨tU (h _ (.head _)) s.1,s.2⟩|ret x=>(induction x with|none=>exact trivial|some x=>exact tU (h _ (.head _)) s)|_=>exact s
theorem E.Zt(d:Nat->List V->H->Prop)(r:ax cl it F h=.ok (.ref a) c)(s:aG c a=aa L)(t:d 0 [] (c++[.list []]))(x:L.length<900)(p:∀k b h,d k b h->aG h a=aa L/\aG h c.length=aa b/\b.length=k)(st:∀k v b h,L[k]?=aa v->d k b h->∃w h',ax cl e (F.set i v) h=.ok w h'/\aG h' c.length=aa b/\d (k+1) (b++[w]) (h'.set c.length (.list (b++[w])))):∃b g,ax cl (.lc e i it) F h=.ok (.ref c.length) g/\d L.length b g:=by obtain⟨g,j,b,m⟩:=Kt (f:=λv h'=>(ax cl e (F.set i v) h').bind λw h'=>jy c.length w h') (λk h=>∃b,d k b h) (λk h i=>by refine oE i λb i=>?_;exact(p k b h i).1) (λk v h n i=>by refine oE i λb o=>?_;(try clear i);have u:=(dH.mp n).1;refine cG (st k v b h n o) λw h' j q m=>⟨_,?_,_,m⟩;show(ax cl e (F.set i v) h).bind _=_;rw[j];exact Di q (by have:=(p k b h o).2.2;lia)) (L.length+1) 0 (c++[.list []]) (by exact eN _ _) (by exact cJ rfl) ⟨[],t⟩;refine(iM b g ?_ m);show(ax cl it F h).bind _=_;rw[r];show(pK (match aG (c++[.list []]) a with|aa l=>qR _ a (l.length+1) 0 (c++[.list []])|ah=>.aM)).bind _=_;rw[gC s];dsimp only;rw[j];rfl
set_option tactic.hygienic true in theorem Z9(B:1<=n)(e:bx h op v)(f:op.kw=aa w):aF n .xv [v] h=.ok w.kh h:=by
 have c:∀(s:aC)(a b:V)(l:List V)(d:V),gh s [.str .fZ,.str .iP,.str .gZ,.str .o3]=aa aj->aF n .xv [.Z (.str s::d::a::b::l)] h=.ok (.Z [a,b]) h:=λs a b l d z=>by exact da (F:=[.Z (.str s::d::a::b::l),.U]) (R:=λq=>q=_) (by lia) rfl rfl (S.D (E.Y (E.af rfl) E.J I.t0) (S.bQ (E.ao (E.af rfl) (E.Z (E.cons E.str (E.cons E.str (E.cons E.str (E.cons E.str E.nil))))) (O.jv z)) rfl (S.ba (S.ret (E.Z (E.cons (E.Y (E.af rfl) E.J I.t2) (E.cons (E.Y (E.af rfl) E.J I.t3) E.nil))) rfl))))
 have i:∀(a b:V)(l:List V)(d:V),aF n .xv [.Z (.str .e8::d::a::b::l)] h=.ok (.Z [a,b]) h:=λa b l d=>by exact da (F:=[.Z (.str .e8::d::a::b::l),.U]) (R:=λq=>q=_) (by lia) rfl rfl (S.D (E.Y (E.af rfl) E.J I.t0) (S.a8 (E.ao (E.af rfl) (E.Z (E.cons E.str (E.cons E.str (E.cons E.str (E.cons E.str E.nil))))) (O.jv rfl)) rfl (S.N (S.bQ (E.ao (E.af rfl) E.str O.bb) rfl (S.ba (S.ret (E.Z (E.cons (E.Y (E.af rfl) E.J I.t2) (E.cons (E.Y (E.af rfl) E.J I.t3) E.nil))) rfl))))))
 have g:∀(s:aC)(u:V)(l:List V)(d:V)(r:V)(F:List V),gh s [.str .fZ,.str .iP,.str .gZ,.str .o3]=aa au->(s==.e8)=au->(s==.A8)=au->(s==.z9)=au->ax (aF (n-1)) (.gV (.ao .f9 (.af 1) (.Z [(.str .jS),(.str .rU)])) (.Y (.af 0) (.J 2)) .nil) [.Z (.str s::d::u::l),.str s] h=.ok r h->aF n .xv [.Z (.str s::d::u::l)] h=.ok r h:=λs u l d r F j k m t q=>by refine da (F:=[.Z (.str s::d::u::l),.U]) (R:=λq=>q=_) (by lia) rfl rfl (S.D (E.Y (E.af rfl) E.J I.t0) (S.a8 (E.ao (E.af rfl) (E.Z (E.cons E.str (E.cons E.str (E.cons E.str (E.cons E.str E.nil))))) (O.jv j)) rfl (S.N (S.a8 (E.ao (E.af rfl) E.str O.bb) (T.bool k) (S.N (S.a8 (E.ao (E.af rfl) E.str O.bb) (T.bool m) (S.N (S.a8 (E.ao (E.af rfl) E.str O.bb) (T.bool t) (S.N (S.ret q rfl))))))))))
 induction op<;>(first|injection f;done|injection f with q;subst q);case set x y=>rw[show v=.Z [.str .fZ,.int x,.int 0,.int y]from e.bW rfl];exact c _ _ _ _ _ rfl
 case fg x y=>rw[show v=.Z [.str .fZ,.int x,.int 4,.bool y]from e.bW rfl];exact c _ _ _ _ _ rfl
 case aN o d a b=>rw[show v=.Z [.str .iP,.int d,.str o.eO,.int 0,.int a,.int b]from e.bW rfl];exact c _ _ _ _ _ rfl
 case ao o d a b=>rw[show v=.Z [.str .gZ,.int d,.str o.eO,.int 0,.int a,.int b]from e.bW rfl];exact c _ _ _ _ _ rfl
 case bZ d a=>rw[show v=.Z [.str .e8,.int d,.str .nK,.int 4,.int a]from e.bW rfl];exact i _ _ _ _
 case bn d a=>rw[show v=.Z [.str .e8,.int d,.str .nG,.int 0,.int a]from e.bW rfl];exact i _ _ _ _
 case fS d p=>rw[show v=.Z [.str .jS,.int d,.str p.eO]from e.bW rfl];exact g _ _ _ _ _ [] rfl rfl rfl rfl (E.oF (E.ao (E.af rfl) (E.Z (E.cons E.str (E.cons E.str E.nil))) (O.jv rfl)) rfl (E.Y (E.af rfl) E.J I.t2))
 case dU d a=>rw[show v=.Z [.str .mu,.int d,.int a]from e.bW rfl];exact g _ _ _ _ _ [] rfl rfl rfl rfl (E.oB (E.ao (E.af rfl) (E.Z (E.cons E.str (E.cons E.str E.nil))) (O.jv rfl)) rfl E.none)
section
variable{h h':H}{nb a b c N:Nat}{Z:NS}
theorem Qs{op:Op}{w:KW}(e:op.kw=aa w):w.bJ=op.bJ:=by induction op<;>(first|injection e;done|injection e with q;subst q)<;>rfl
theorem EX:(fo Z l).1.wr=Z.wr:=by
 have b:∀(l:List Nat)(q:NS×List Nat),(l.foldl (λq r=>((cD q.1 r).1,q.2++[(cD q.1 r).2])) q).1.wr=q.1.wr:=by intro l;induction l with|nil=>exactλz=>rfl|cons r l a=>intro q;rw[NW,a];show(cD q.1 r).1.wr=_;unfold cD;split<;>rfl
 exact b l (Z,[])
theorem P8(hn:3<=n){op:Op}{w:KW}(e:bx h op v)(U:op.kw=aa w)(s:op.st)(I:NI Z)(A:bO h nb a b c Z N)(hN:N<800):∃h',aF n .Ig [v,.ref nb] h=.ok (vy Z w op.bR).kh h'/\bO h' nb a b c (fo Z op.bR).1 (N+30)/\eV [nb+1,a,b,c] h h':=by
 have rl:op.bR.length<=5:=by have:=P.count op.cS;have:=qx op;unfold Op.bR;lia
 have rd:=s.rd;refine o5 (F:=[v,.ref nb,.U,.U,.U]) (R:=λq=>∃h',q=.ok (vy Z w op.bR).kh h'/\bO h' nb a b c (fo Z op.bR).1 (N+30)/\eV [nb+1,a,b,c] h h') (by lia) rfl rfl λKK fin0=>?_;have m:=e.plain;have sr:=Ab (n:=n-1) (by exact c8 (by assumption) (by rfl)) e;have G:a9 h (h++[.list (nl op.bR)]):=.cA;have t:(h++[O.list (nl op.bR)]).length=h.length+1:=by rw[cZ];rfl
 have T0:eV [nb+1,a,b,c] h (h++[.list (nl op.bR)]++[.list []]):=.YW (G.trans .cA);obtain⟨f,W,Q,hs2,ha2,⟨M,_⟩,B,J⟩:=E.Zt (F:=[v,.ref nb,.U,.U,.U]) (e:=.bH (.af 1) .qP [(.af 3)]) (it:=.call (.gl (.fn .ug)) [(.af 0)]) (i:=3) (λk f d=>aG d h.length=aa (nl op.bR)/\aG d (h.length+1)=aa f/\(f=nl (fo Z (op.bR.take k)).2/\f.length=k)/\bO d nb a b c (fo Z (op.bR.take k)).1 (N+3*k)/\eV [nb+1,a,b,c] h d) (E.call E.fn (E.cons (E.af (dg rfl m)) E.nil) sr) dJ ⟨gC dJ,t▸dJ,⟨rfl,rfl⟩,A.keep (G.trans .cA),T0⟩ (by rw[iA];lia) (λk f d i=>by refine iT i λx y z _=>?_;rw[t];exact(eA x y z.2)) (λk u f d eu i=>by refine Do i ?_;rintro x y⟨z,zl⟩o T1;refine ay (pD eu) ?_;rintro r rfl p;have lr:=rd r (cW p);have kl:=(dH.mp p).1;refine cu (AL (n:=n-1) (by exact c8 (by assumption) (by rfl)) (r:=r) (by exact bD (by assumption) (by rfl)) (by lia) o) λh3 r3 j C=>?_;have g:=o.aW C y;have x3:=o.aW C x;rw[t];have Y:=j.Cr g;have yl:=d8 g;refine ay j.dh λd1 q1 _=>ay j.dm λd2 q2 _=>(Aa _ h3 (E.bH (E.af rfl) (o.vc rfl) (E.cons (E.af rfl) E.nil) ((u5 rfl).trans r3)) g ((j8 (vN _)).symm▸x3) (i7 yl) ?_ ?_ ?_);(·refine⟨?_,by rw[cZ,zl];rfl⟩;rw[lD,p,show(aa r).toList=[r]from rfl,Hn,z];unfold nl;rw[l8];rfl);(·rw[lD,p,show(aa r).toList=[r]from rfl,Hn];exact j.vF Y.2 (λe=>Y.1 (e▸.head _)) (wW g q1) (wW g q2) (wW g j.dk));·have L:=T1.trans C;refine⟨by simpa using L.1,λi hi hx=>?_⟩;rw[ja (by exact rm (gf (by assumption) (eN _ _)))];exact L.2 i hi hx);rw[t]at Q;have tk:op.bR.take (nl op.bR).length=op.bR:=by rw[iA,rh]
 rw[tk]at M B;subst M;have D:∀d:H,dy d v (.int 0)=aa (.str w.bJ):=λd=>by rw[jK e,Qs U]
 refine S.D Q ?_;have e2:=e.B λi l q=>A.aW J q;have sf:=Z9 (n:=n-1) (by exact c8 (by assumption) (by rfl)) e2 U;have ns:(fo Z op.bR).2.length<900:=by rw[Tv];lia
 have tl:=Cs ha2 (by rw[iA];exact bD (by assumption) (by rfl));have wv:ax (aF (n-1)) (.gV (.ao .eq (.Y (.af 0) (.J 0)) (.str .mu)) (.M (.af 1) .oj) (.J 0)) [v,.ref nb,.ref (h.length+1),.U,.U] W=.ok (.int (GV Z w:Nat)) W:=by induction w;(case dU=>exact E.oF (E.ao (E.Y (E.af (dg rfl m)) E.J (D _)) E.str O.bb) rfl (E.M (E.af rfl) (by rw[gp B.eG rfl,EX];rfl)));all_goals exact E.oB (E.ao (E.Y (E.af (dg rfl m)) E.J (D _)) E.str O.bb) rfl E.J
 refine S.D wv (S.ret (E.Z (E.cons (E.Y (E.af (dg rfl m)) E.J (D _)) (E.cons (E.call E.fn (E.cons (E.af (dg rfl m)) E.nil) sf) (E.cons (E.bi (E.cons (E.af rfl) E.nil) tl) (E.cons (E.af rfl) E.nil))))) (fin0 _ (d0 _ rfl (B.up (by rw[iA];lia)) J)))
end
section
variable{h h':H}{nb a b c N:Nat}{Z:NS}
theorem XH(e:cN h i=aa l)(f:eZ l (kk k)=aj):dE .f9 h k (.ref i)=aa (eH l (kk k)).isSome:=by show((cN h i).bind λl=>if eZ l (kk k)then aa (eH l (kk k)).isSome else ah)=_;rw[e];exact if_pos f
theorem Pp(A:bO h nb a b c Z N):dE .f9 h k.kh (.ref c)=aa (nO Z.kT k).isSome:=by rw[XH A.dk (by rw[dI.kk];exact dI.ox),dI.kk,Fe,uy]
theorem Pv(A:bO h nb a b c Z N)(f:nO Z.kT k=aa e):dy h (.ref c) k.kh=aa (.Z [.int e.2.1,.int e.2.2]):=AJ A.dk (by rw[dI.kk];exact dI.ox) (by rw[dI.kk,Fe,f];rfl)
theorem bO.Qo(A:bO h nb a b c Z N){k:dI}{d m:Nat}(e:N<900):∃h',jk h (.ref c) k.kh (.Z [.int d,.int m])=aa h'/\bO h' nb a b c {Z with kT:=qI Z.kT k (d,m)} (N+1)/\eV [nb+1,a,b,c] h h':=by refine(d0 (h.set c (.dict ((qI Z.kT k (d,m)).map qa))) ?_ ((A.up (lE N)).RN (di QY (lF A.dl))) (.set DS));rw[E7 A.dk (by rw[dI.kk];exact dI.ox) (by rw[d5];exact gF A.dl (dF e (by decide))),dI.kk,WB]
inductive oG(h:H)(nb a b c N:Nat)(op:Op)(v:V)(q:NS×Op):aB V->Prop|mk{u:V}{h':H}:bO h' nb a b c q.1 (N+40)->eV [nb+1,a,b,c] h h'->(∀hx,bx hx op v->bx hx q.2 u)->oG h nb a b c N op v q (.ok u h')
section
variable{n d:Nat}{op:Op}{v:V}
theorem oG.d7(R:oG h nb a b c N op v q r):∃u h',r=.ok u h'/\bO h' nb a b c q.1 (N+40)/\eV [nb+1,a,b,c] h h'/\∀d,bx d op v->bx d q.2 u:=by induction R with|mk A T e=>exact Ay _ _ rfl A T e
theorem JL(e:bx h op v)(A:bO h nb a b c Z N)(d:gh op.bJ [.str .pU,.str .Ds,.str .CV,.str .DB]=aa au)(f:op.wr=ah)(g:i4 Z op=(Z,op)):Wp (aV (aF n) (r8.drop 1) [v,.ref nb,.int (kR op.wr),.U,.U,.U] h) λr=>oG h nb a b c N op v (i4 Z op) (eC r):=by rw[f,g];exact S.a8 (E.ao (E.Y (E.af (dg rfl e.plain)) E.J (jK e)) E.gl (O.jv d)) rfl (S.N (S.bQ (E.ao (E.af rfl) E.J O.lt) (T.bool rfl) (S.ba (S.ret (E.af (dg rfl e.plain)) (.mk (A.up (eN N 40)) .b8 λz e=>e)))))
theorem zb(a:N<700)(b:yt (700+k) 900=aj):N+k<900:=gf (Nat.add_lt_add_right a k) (cJ b)
theorem H1(C:3<=n)(L:gB v=aj)(B:d<6)(f:N<700)(i:bO j nb a b c Z (N+30))(t:eV [nb+1,a,b,c] h j)(z:ie Z d g op=(xz Z d g,op)):Wp (aV (aF n) (r8.drop 7) [v,.ref nb,.int d,g.kh,q,s] j) λr=>oG h nb a b c N op v (ie Z d g op) (eC r):=by rw[z];refine cu (Ht (Gs (Gs C)) i) λM D l u=>?_;exact cu (l.Bc (r:=d) (n:=Z.count+1) (gf B (cJ rfl)) (zb (k:=31) f rfl)) λQ F m w=>cu (m.FO (r:=Z.count+1) (n:=d) (gF (lF i.cl) (gf (zb (k:=31) f rfl) (cJ rfl))) (zb (k:=32) f rfl)) λR G o x=>cu (o.Qo (zb (k:=33) f rfl)) λU J p y=>S.D (E.bH (E.af rfl) (i.vc rfl) E.nil ((u5 rfl).trans D)) (S.cQ (E.af rfl) (E.M (E.af rfl) (gp l.eG rfl)) (E.af rfl) F (S.cQ (E.af rfl) (E.M (E.af rfl) (gp m.eG rfl)) (E.af rfl) G (S.cQ (E.Z (E.cons (E.af rfl) (E.cons (E.af rfl) E.nil))) (E.M (E.af rfl) (gp o.eG rfl)) (E.af rfl) J (S.ret (E.af (dg rfl L)) (.mk (p.up (eN (N+34) 6)) ((((t.trans u).trans w).trans x).trans y) λY e=>e)))))
theorem Zw(w:3<=n)(x:gB v=aj)(q:gB j.kh=aj)(u:d<6)(t:N<700)(J:NI Z)(g:bO p nb a b c Z (N+30))(o:eV [nb+1,a,b,c] h p):Wp (aV (aF n) (r8.drop 6) [v,.ref nb,.int d,j.kh,B,C] p) λr=>oG h nb a b c N op v (ie Z d j op) (eC r):=by have m:=Pp (k:=j) g;induction f:nO Z.kT j with|none=>rw[f]at m;exact S.a8 (E.ao (E.af (dg rfl q)) (E.M (E.af rfl) (gp g.eG rfl)) m) rfl (S.N (H1 w x u t g o (by unfold ie;rw[f])))|some e=>rw[f]at m;have U:=J.kn e (Eg f).1;refine S.bQ (E.ao (E.af (dg rfl q)) (E.M (E.af rfl) (gp g.eG rfl)) m) rfl (S.ba (S.gK (E.Y (E.M (E.af rfl) (gp g.eG rfl)) (E.af (dg rfl q)) (Pv g f)) rfl (S.ba (cu g.dh λR y Q z1'=>?_))));have G:=ML (cl:=aF n) y Q (k:=(e.2.1:Nat)) (by exact iU) (by lia);have s:=E.ao (E.bH (E.M (n:=.iW) (E.af (F:=[v,.ref nb,.int d,j.kh,.int e.2.1,.int e.2.2]) (i:=1) rfl) (gp g.eG rfl)) (uY y rfl) (E.cons (E.af (i:=4) rfl) E.nil) G) (E.af (i:=5) rfl) O.ZR;by_cases l:Z.fu e.2.1=aa e.2.2;(·refine cu (g.Bc (r:=d) (n:=e.2.2) (by exact bD (by assumption) (by rfl)) (by lia)) λW L z D=>?_;(have M:ie Z d j op=({Z with fu:=f0 Z.fu d e.2.2},.dC d e.2.1):=by unfold ie;rw[f];exact if_pos l);rw[M];refine S.bQ s (T.bool (decide_eq_true l)) (S.ba ?_);refine S.cQ (E.af rfl) (E.M (E.af rfl) (gp g.eG rfl)) (E.af rfl) L (S.ba ?_);refine S.ret (v:=.Z [.str .gE,.int d,.int e.2.1]) (E.Z (E.cons E.str (E.cons (E.af rfl) (E.cons (E.af rfl) E.nil)))) ?_;refine .mk (z.up (by lia)) (o.trans D) λY _=>?_;exact bx.mk rfl);·exact S.a8 s (T.bool (decide_eq_false l)) (S.N (S.N (H1 w x u t g o (by unfold ie;rw[f];exact if_neg l))))
theorem U0(k:3<=n)(e:bx h op v)(s:op.st)(i:NI Z)(A:bO h nb a b c Z N)(p:N<700)(o:op.kw=aa w)(j:op.wr=aa d)(t:gh op.bJ [.str .pU,.str .Ds,.str .CV,.str .DB]=aa au)(u:(op.bJ==.gE)=au)(x:gh op.bJ [.str .fZ,.str .iP,.str .gZ,.str .e8,.str .o3,.str .o7,.str .rU,.str .A8,.str .jS,.str .K6,.str .z9,.str .xA,.str .mu]=aa aj)(y:i4 Z op=ie (fo Z op.bR).1 d (vy Z w op.bR) op):Wp (aV (aF n) (r8.drop 1) [v,.ref nb,.int (kR op.wr),.U,.U,.U] h) λr=>oG h nb a b c N op v (i4 Z op) (eC r):=by refine cu (P8 k e o s i A (by exact bD (by assumption) (by rfl))) λz q l m=>dT (i.fo s.rd) λJ Y Y=>?_;rw[j,y];have f:=e.plain;have g:=jK (h':=h) e;exact S.a8 (E.ao (E.Y (E.af (dg rfl f)) E.J g) E.gl (O.jv t)) rfl (S.N (S.a8 (E.ao (E.af rfl) E.J O.lt) (T.bool (decide_eq_false (N6.mpr (g9 d)))) (S.N (S.a8 (E.ao (E.Y (E.af (dg rfl f)) E.J g) E.str O.bb) (T.bool u) (S.N (S.a8 (E.ao (E.Y (E.af (dg rfl f)) E.J g) E.gl (O.zc x)) rfl (S.N (S.D (E.call E.fn (E.cons (E.af (dg rfl f)) (E.cons (E.af rfl) E.nil)) q) (Zw k f rfl (s.wr d j) p J l m)))))))))
theorem ZO(u:3<=n)(s:(Op.dC d r).st)(A:bO h nb a b c Z N)(t:N<700)(k:v=.Z [.str .gE,.int d,.int r]):Wp (aV (aF n) (r8.drop 1) [v,.ref nb,.int d,.U,.U,.U] h) λq=>oG h nb a b c N (.dC d r) v (i4 Z (.dC d r)) (eC q):=by subst k;have e:bx h (.dC d r) (.Z [.str .gE,.int d,.int r]):=bx.mk rfl;exact cu (AL (by refine di ?_ (by assumption);exact cJ rfl) (by have:=s.2.1;exact bD (by assumption) (by rfl)) (by exact bD (by assumption) (by rfl)) A) λo l f i=>cu (f.Bc (by have:=s.1;exact bD (by assumption) (by rfl)) (by lia)) λp m g j=>S.a8 (E.ao (E.Y (E.af rfl) E.J (jK e)) E.gl (O.jv rfl)) rfl (S.N (S.a8 (E.ao (E.af rfl) E.J O.lt) (T.bool (decide_eq_false (N6.mpr (g9 d)))) (S.N (S.bQ (E.ao (E.Y (E.af rfl) E.J (jK e)) E.str O.bb) rfl (S.ba (S.cQ (E.bH (E.af rfl) (A.vc rfl) (E.cons (E.Y (E.af rfl) E.J Internal.I.t2) E.nil) ((u5 rfl).trans l)) (E.M (E.af rfl) (gp f.eG rfl)) (E.af rfl) m (S.ba (S.ret (E.af rfl) (.mk (g.up (by lia)) (i.trans j) λz e=>e)))))))))
theorem Tz(e:bx h (.gD p r) v)(A:bO h nb a b c Z N):Wp (aV (aF n) (r8.drop 1) [v,.ref nb,.int (-1),.U,.U,.U] h) λq=>oG h nb a b c N (.gD p r) v (i4 Z (.gD p r)) (eC q):=by have d:=e.plain;have f:=(A.up (lE N)).La (iQ [(.iW,.ref a),(.nR,.ref b),(.pB,.ref c),(.pv,.int Z.count),(.oj,.int Z.wr)] .oj (.int (Z.wr+1:Nat))) (Z.wr+1) Z.count rfl (jc A.cl) (lF A.wl);exact S.bQ (E.ao (E.Y (E.af (dg rfl d)) E.J (jK e)) E.gl (O.jv rfl)) rfl (S.ba (S.l7 (E.af rfl) (gp A.eG rfl) E.J Internal.A.add (nC A.eG (cJ rfl)) (S.N (S.bQ (E.ao (E.af rfl) E.J O.lt) (T.bool rfl) (S.ba (S.ret (E.af (dg rfl d)) (.mk (f.up (by lia)) (.set (.head _)) λz e=>e)))))))
theorem T8(g:3<=n)(e:bx h op v)(s:op.st)(i:NI Z)(A:bO h nb a b c Z N)(f:N<700):Wp (aV (aF n) (r8.drop 1) [v,.ref nb,.int (kR op.wr),.U,.U,.U] h) λr=>oG h nb a b c N op v (i4 Z op) (eC r):=by induction op with|dC d r=>exact ZO g s A f (e.bW rfl)|gD p r=>exact Tz e A|br t _ _=>exact JL e A (by induction t<;>rfl) rfl rfl|set|fg|aN|ao|bZ|bn|fS|dU=>all_goals exact U0 g e s i A f rfl rfl rfl rfl rfl rfl|_=>exact JL e A rfl rfl rfl
end
theorem Xy(d:4<=n)(e:bx h op v)(s:op.st)(f:NI Z)(A:bO h nb a b c Z N)(g:N<700):oG h nb a b c N op v (i4 Z op) (aF n .Fa [v,.ref nb] h):=da (F:=[v,.ref nb,.U,.U,.U,.U]) (gf (rn 3) d) rfl rfl (S.D (E.call E.fn (E.cons (E.af (dg rfl e.plain)) E.nil) (xD (by exact c8 (by assumption) (by rfl)) e)) (T8 (Nat.le_sub_one_of_lt d) e s f A g))
end
noncomputable def Z0:NS:=⟨λ_=>ah,λ_=>ah,[],0,0⟩
noncomputable def rT(Z:NS)(l:List Nat)(r:Nat):Nat:=((iL Z l).2 r).getD r
noncomputable def nD(Z:NS)(op:Op):NS×Op:=i4 (iL Z op.bR).1 (op.kb (rT Z op.bR))
noncomputable def SZ(c:List Op)(B:List Bool):Nat->NS|0=>Z0|k+1=>match c[k]? with|aa op=>(nD (if B[k]?=aa aj then Z0 else SZ c B k) op).1|ah=>Z0
noncomputable def SA(c:List Op)(B:List Bool)(k:Nat):NS:=if B[k]?=aa aj then Z0 else SZ c B k
noncomputable def mq(c:List Op)(B:List Bool):List Op:=c.mapIdx λk op=>(nD (SA c B k) op).2
theorem AM(e:c[k]?=aa op):SZ c B (k+1)=(nD (SA c B k) op).1:=by show(match c[k]? with|aa op=>_|ah=>_)=_;rw[e];rfl
theorem NI.zero:NI Z0:=⟨(bC (λ_=>0) (λ_ _ h=>by injection h) (λ_ _ h=>by injection h)),λ_ h=>nomatch h⟩
theorem NI.sh(a:NI Z)(s:op.st):NI (nD Z op).1/\(nD Z op).2.st:=by refine dT (a.map s.rd) λJ c b=>J.DH (I7 s λr m=>oE (c r m) λx e=>?_);unfold rT;rw[e];exact b r x e
section
variable{h h':H}{k:dr}{L:List (At×V)}{X:List O}
theorem Ez:iu (h++.bw k::.fields L::X) h.length=aa L:=by
 refine vt (k:=k) ?_ ?_;·rw[m5 (cF _),qi];rfl
 ·rw[m5 (eN _ _),yx];rfl
theorem Fj:(h++.bw k::.fields L::X).set (h.length+1) (.fields a)=h++.bw k::.fields a::X:=by rw[yv _ _ (eN _ _),yx];rfl
variable{cl:Fn->List V->H->aB V}{F:List V}{Q:RS->Prop}{l:List CS}
theorem fl(a:L.length<m):(iQ L n v).length<m+1:=gF Zo (Gi a)
theorem S.j7(a:L.length<m)(d:m<=100)(c:getL F 0=aa (.ref h.length))(b:ax cl e F (h++.bw k::.fields L::X)=.ok v (h++.bw k::.fields L::X))(q:(iQ L n v).length<m+1->Wp (aV cl l F (h++.bw k::.fields (iQ L n v)::X)) Q):Wp (aV cl (.cH (.af 0) n e::l) F (h++.bw k::.fields L::X)) Q:=S.cH b (E.af c) (by rw[nC Ez (gf a d),Fj]) (q (fl a))
theorem S.lJ(b:L.length<m)(f:m<=100)(d:getL F 0=aa (.ref h.length))(a:ax cl e F (h++.bw k::.fields L::X)=.ok (.ref (h++.bw k::.fields L::X).length) (h++.bw k::.fields L::X++[o]))(q:(iQ L n (.ref (h.length+(X.length+2)))).length<m+1->Wp (aV cl l F (h++.bw k::.fields (iQ L n (.ref (h.length+(X.length+2))))::(X++[o]))) Q):Wp (aV cl (.cH (.af 0) n e::l) F (h++.bw k::.fields L::X)) Q:=by
 have c:h++.bw k::.fields L::X++[o]=h++.bw k::.fields L::(X++[o]):=by simp
 rw[c]at a;refine S.cH a (E.af d) (by rw[nC Ez (gf b f),Fj]) ?_;rw[cZ];exact q (fl b)
theorem gx{X:List O}:(h++X)[h.length+j]?=X[j]?:=by rw[m5 (eN _ _),yx]
theorem sx{X:List O}:(h++X).set (h.length+j) o=h++X.set j o:=by rw[yv _ _ (eN _ _),yx]
end
noncomputable def qG(b:Nat):List O:=[.bw .jV,.fields [(.iW,.ref (b+2)),(.nR,.ref (b+3)),(.pB,.ref (b+4)),(.pv,.int 0),(.oj,.int 0)],.dict [],.dict [],.dict []]
theorem Wt(a:1<=n):aF n .Ea [.ref h.length] (h++[.bw .jV,.fields []])=.ok .none (h++qG h.length):=da (F:=[.ref h.length]) (R:=λr=>r=_) a rfl rfl (S.lJ (m:=1) (rn 0) (by decide) rfl (E.bF E.nil rfl) λl=>S.lJ l (by decide) rfl (E.bF E.nil rfl) λl=>S.lJ l (by decide) rfl (E.bF E.nil rfl) λl=>S.j7 l (by decide) rfl E.J λl=>S.j7 l (by decide) rfl E.J λz=>S.nil rfl)
theorem DI.zero:DI [] (gN λ_=>ah):=by
 have:gN (λ_=>ah)=λ_=>ah:=by funext j;unfold gN;split<;>rfl
 rw[this];exact DI.nil
theorem Ls:bO (h++qG h.length) h.length (h.length+2) (h.length+3) (h.length+4) Z0 N:=have g:=λj=>gx (j:=j);⟨g 0,g 1,by lia,by lia,by lia,(d0 ([]) (oy (g 2)) DI.zero (lC _)),(d0 ([]) (oy (g 3)) DI.zero (lC _)),oy (g 4),lC _,lC _,lC _⟩
theorem MQ:1<=n->ax (aF n) (.new .jV []) F h=.ok (.ref h.length) (h++qG h.length):=λa=>E.new E.nil (Wt a)
inductive Eo(h:H)(ci si b o:Nat)(c:List Op)(B:List Bool)(Z:NS)(k:Nat):List V->H->Prop|mk(nb x y z:Nat)(us:List V)(F5 F6 F7:V)(hh:H)(K:a9 h hh)(hb:aG hh b=aa (fH B))(A:bO hh nb x y z Z (60*k))(I:NI Z)(ge:∀i∈[nb+1,x,y,z],h.length<=i)(ho:aG hh o=aa us)(ul:us.length=k)(en:ga (Er o hh) ((mq c B).take k) us):Eo h ci si b o c B Z k [.ref ci,.ref si,.ref b,.ref nb,.ref o,F5,F6,F7] hh
inductive G7(h:H)(ci si b o nb x y z m rl:Nat)(c:List Op)(B:List Bool)(Z:NS)(rd:List Nat)(k:Nat)(us:List V)(j:Nat):List V->H->Prop|mk(F7:V)(d:List (V×V))(hh:H)(K:a9 h hh)(hb:aG hh b=aa (fH B))(A:bO hh nb x y z (iL Z (rd.take j)).1 (60*k+4*j))(ho:aG hh o=aa us)(en:ga (Er o hh) ((mq c B).take k) us)(hr:aG hh rl=aa (nl rd))(hd:cN hh m=aa d)(D:DI d (gN (iL Z (rd.take j)).2))(dl:d.length<=j)(hm:m∉[nb+1,x,y,z]):G7 h ci si b o nb x y z m rl c B Z rd k us j [.ref ci,.ref si,.ref b,.ref nb,.ref o,.int k,.ref m,F7] hh
theorem bO.er(A:bO h d a b c Z N)(T:eV [d+1,a,b,c] h h'):∀i l,aG (Er o h) i=aa l->aG (Er o h') i=aa l:=λz z e=>Er.dW (A.aW T (Er.aW e).1) (Er.aW e).2
theorem bO.WY(A:bO h d a b c Z N)(e:aG h i=aa l):bO (h.set i o) d a b c Z N:=by have n:=A.Cr e;exact A.vF n.2 (λq=>n.1 (q▸.head _)) (λq=>n.1 (q▸Cv)) (λq=>n.1 (q▸Fw)) (λq=>n.1 (q▸DS))
theorem bO.YX(A:bO h f a b c Z N)(e:cN h i=aa d)(n:i∉[f+1,a,b,c]):bO (h.set i o) f a b c Z N:=A.vF (A.ne e).1 (A.ne e).2 (λq=>n (q▸Cv)) (λq=>n (q▸Fw)) (λq=>n (q▸DS))
theorem bO.lt(A:bO h f a b c Z N):∀i∈[f+1,a,b,c],i<h.length:=by
 intro i m;refine ay A.dh λd e z=>ay A.dm λj g z=>?_;simp only[gQ,jD,or_false]at m;rcases m with rfl|rfl|rfl|rfl;·exact(dH.mp A.fl).1
 ·exact oz e
 ·exact oz g
 ·exact oz A.dk
theorem aaB(hn:6<=n){h:H}{c:List Op}{R:aB V->Prop}(C:dM h Y c)(G:mV c)(hs:aG h si=aa (nl ss))(sb:∀s∈ss,s<=c.length)(q:∀o h' B,a9 h h'->dM h' o (mq c B)->(∀s∈ss,B[s]?=aa aj)->(∀op∈c,∀g∈op.L,B[g]?=aa aj)->R (.ok (.ref o) h')):R (aF n .zC [.ref Y,.ref si] h):=by
 have gl:=G.bN;refine xC (Lc (by exact c8 (by assumption) (by rfl)) C G hs sb) λb L B rb K1 bge f Bl Bs Bj=>da (F:=[.ref Y,.ref si,.U,.U,.U,.U,.U,.U]) (by lia) rfl rfl (S.D (E.call E.fn (E.cons (E.af rfl) (E.cons (E.af rfl) E.nil)) rb) (S.D (MQ (by exact c8 (by assumption) (by rfl))) (S.D (E.aW E.nil) ?_)));have hh1:=K1.le;have U:a9 h (L++qG L.length++[.list []]):=(K1.trans .cA).trans .cA;refine S.fP c.length (λk=>Eo h Y si b (L++qG L.length).length c B (SZ c B k) k) (E.bi (E.cons (E.af rfl) E.nil) ((C.keep U).bN (by exact bD (by assumption) (by rfl)))) (by exact bD (by assumption) (by rfl)) (.mk _ _ _ _ [] _ _ _ _ U (gC (gC f)) (Ls.keep .cA) NI.zero (λi m=>by simp only[gQ,jD,or_false]at m;lia) dJ rfl trivial) ?_ ?_;·(have og:h.length<=(L++qG L.length).length:=by rw[cZ];exact di (by assumption) (eN _ _));(have bo:b≠(L++qG L.length).length:=by have:=d8 f;rw[cZ];exact l9 (gf (by assumption) (eN _ _)));generalize(L++qG L.length).length=o at og bo;intro k F a hk i;obtain⟨op,Z⟩:∃op,c[k]?=aa op:=⟨_,gP hk⟩;have st:=G.st op (cW Z);have rd:=st.rd;(have rl5:op.bR.length<=5:=by have:=P.count op.cS;have:=qx op;unfold Op.bR;lia);refine ay (Ad (B:=B) (k:=k) (by lia)) λbk e1 e2=>?_;induction i with|mk M x y z us F5 F6 F7 a p f A I ge ho ul t=>(have go:∀(M x y z:Nat)(a:H),a9 h a->aG a b=aa (fH B)->bO a M x y z (SA c B k) (60*k)->NI (SA c B k)->(∀i∈[M+1,x,y,z],h.length<=i)->aG a o=aa us->ga (Er o a) ((mq c B).take k) us->∀{Q:RS->Prop},(∀F a,Eo h Y si b o c B (SZ c B (k+1)) (k+1) F a->Q (.nx F a))->Wp (aV (aF (n-1)) [(.D 6 (.bF [])),(.fr 7 (.call (.gl (.fn .ug)) [(.Y (.af 0) (.af 5))]) [(.cQ (.af 6) (.af 7) (.bH (.af 3) .ta [(.af 7)]))]),(.cO (.bH (.af 4) .fF [(.call (.gl (.fn .Fa)) [(.call (.gl (.fn .FN)) [(.Y (.af 0) (.af 5)),(.af 6)]),(.af 3)])]))] [.ref Y,.ref si,.ref b,.ref M,.ref o,.int k,F6,F7] a) Q:=by intro M x y z a p f A I ge ho t Q bY;have ml:=p.le;have Kd:a9 a (a++[.dict []]):=.cA;refine ay ((C.keep (p.trans Kd)).cp Z (by exact bD (by assumption) (by rfl))) λv ei ev=>?_;have sr:=Ab (n:=n-1) (by exact c8 (by assumption) (by rfl)) ev;have Kr:a9 (a++[.dict []]) (a++[.dict []]++[.list (nl op.bR)]):=.cA;have mn:=λm=>sT _ (A.lt _ m);refine S.fr (G7 h Y si b o M x y z a.length (a++[O.dict []]).length c B (SA c B k) op.bR k us) (E.call E.fn (E.cons (E.Y (E.af rfl) (E.af rfl) ei) E.nil) sr) (.mk _ [] _ ((p.trans Kd).trans Kr) (gC (gC f)) ((A.keep Kd).keep Kr) (gC (gC ho)) (t.B (Er.keep (Kd.trans Kr))) dJ (Kr.bF AK) DI.zero (lC _) mn) (λj F h2 i=>by induction i;assumption) ?_ ?_;(·intro j w F h2 ew i;refine ay (pD ew) ?_;rintro r rfl er;have lr:=rd r (cW er);have jl:=(dH.mp er).1;(have tk:iL (SA c B k) (op.bR.take (j+1))=((eX (iL (SA c B k) (op.bR.take j)).1 r).1,f0 (iL (SA c B k) (op.bR.take j)).2 r (eX (iL (SA c B k) (op.bR.take j)).1 r).2):=by rw[lD,er];exact Xr);induction i with|mk F7 d h2 p f A ho t hr hd D dl hm=>have J:=(I.map (l:=op.bR.take j) λr m=>rd r (Gh m)).1;refine iT (J.of lr) λJ1 _ _ j3=>ay J1.ex λtn _ tb=>?_;obtain⟨h3,r3,N,T3⟩:=RR (n:=n-1) (by exact c8 (by assumption) (by rfl)) (by exact bD (by assumption) (by rfl)) (by lia) A (λm s e=>dF (tb m s e).1 (by decide)) (by refine cu (AL (by exact cF _) (r:=r) (by exact bD (by assumption) (by rfl)) (by lia) A) λ_ _ A4 _=>?_;have:=A4.cl;lia);have hd3:=A.bF T3 hd hm;(have D2:DI (gT d (.int r) (.int (eX (iL (SA c B k) (op.bR.take j)).1 r).2)) (gN (iL (SA c B k) (op.bR.take (j+1))).2):=by rw[tk,DD];exact D.set);refine S.cQ (E.bH (E.af rfl) (A.vc rfl) (E.cons (E.af rfl) E.nil) ((u5 rfl).trans r3)) (E.af rfl) (E.af rfl) (zE hd3 D (by exact iU) (by exact eM.mpr (bD (by assumption) (by rfl))) (by lia)) (S.nil (.mk _ _ _ ((T3.keep p ge).set ml) (pu hd3 (A.aW T3 f)) ?_ (pu hd3 (A.aW T3 ho)) ((t.B (A.er T3)).B (Er.bF hd3)) (pu hd3 (A.aW T3 hr)) (tV (oz hd3)) D2 (di Bd (lF dl)) hm));·rw[tk];exact(N.up (cF _)).YX hd3 hm);·intro F h2 i;rw[iA]at i;induction i with|mk F7 d h2 U f A ho t hr hd D dl hm=>rw[rh]at A D;refine dT (I.map rd) λJ mx mt=>?_;refine ay ((C.keep U).cp Z (by exact bD (by assumption) (by rfl))) λv ei ev=>?_;(have ev0:bx (Er o h2) op v:=by refine ay (C.cp Z (by exact bD (by assumption) (by rfl))) λw a1 a2=>?_;cases C.same U a1 ei;exact a2.B λi l e=>Er.dW (U.aW e) (by have:=d8 e;exact rm (gf (by assumption) (by assumption))));obtain⟨u,h3,ru,W,up,eu⟩:=V7 (n:=n-1) (by exact c8 (by assumption) (by rfl)) (rT (SA c B k) op.bR) ev hd D rfl (λr m=>⟨dF (rd r m) (by decide),by refine oE (mx r m) λx e=>?_;rw[Ae];unfold rT;rw[e];rfl⟩);(have st2:(op.kb (rT (SA c B k) op.bR)).st:=I7 st λr m=>by refine oE (mx r m) λx e=>?_;unfold rT;rw[e];exact mt r x e);have N:=A.keep W;refine tT (Xy (n:=n-1) (by exact c8 (by assumption) (by rfl)) (eu _ (ev.B λi l=>W.aW)) st2 J N (by lia)).d7 λw h4 rw4 A4 T4 ew=>?_;have ho3:=W.aW ho;have ho4:=N.aW T4 ho3;have eE:=ev0.B (Er.keep W);have eW:=(ew _ (eu _ eE));(have wp:gB w=aj:=by refine ay eW ?_;try clear eW;rintro _ rfl _;rfl);refine S.cO (E.bH (E.af rfl) (lX ho rfl) (E.cons (E.call E.fn (E.cons (E.call E.fn (E.cons (E.Y (E.af rfl) (E.af rfl) ei) (E.cons (E.af rfl) E.nil)) ru) (E.cons (E.af rfl) E.nil)) rw4) E.nil) (nT ho4 (by lia))) (S.nil (bY _ _ (.mk M x y z (us++[w]) _ _ _ _ ((T4.keep (U.trans W) ge).set og) ((j8 bo.symm).symm▸N.aW T4 (W.aW f)) ((AM Z▸A4.WY ho4).up (by lia)) (AM Z▸(I.sh st).1) ge (i7 (d8 ho4)) (by rw[cZ,ul];rfl) ?_)));(have kx:(mq c B)[k]?=aa (nD (SA c B k) op).2:=by unfold mq;rw[uz,Z];rfl);rw[Er.set,lD,kx];exact((t.B (Er.keep W)).B (N.er T4)).nA (eW.B (N.er T4)));induction bk with|true=>have ka:SA c B k=Z0:=if_pos e2;refine S.bQ (E.Y (E.af rfl) (E.af rfl) (gL f e1 (by exact mF (by assumption) (by assumption) _ (by rfl)))) rfl (S.ba (S.D (MQ (by exact c8 (by assumption) (by rfl))) (S.N ?_)));have KK:a9 a (a++qG a.length):=.cA;have hl:=p.le;exact go _ _ _ _ _ (p.trans KK) (KK.aW f) (ka▸Ls) (ka▸NI.zero) (λi m=>by simp only[gQ,jD,or_false]at m;lia) (KK.aW ho) (t.B (Er.keep KK)) λ_ _ i=>i|false=>have ka:SA c B k=SZ c B k:=if_neg (e2▸λe=>nomatch e);exact S.a8 (E.Y (E.af rfl) (E.af rfl) (gL f e1 (by exact mF (by assumption) (by assumption) _ (by rfl)))) rfl (S.N (go M x y z a p f (ka▸A) (ka▸I) ge ho t λ_ _ i=>i))
 ·intro F a i;induction i with|mk M x y z us F5 F6 F7 a p f A I ge ho ul t=>refine S.ret (E.af rfl) (q _ _ B p ⟨us,ho,?_⟩ Bs Bj);rw[yy (by unfold mq;rw[ri];exact cF _)]at t;exact t.B λi l e=>(Er.aW e).1
noncomputable def a7.i:a7->Int|.int i=>i|_=>0
noncomputable def a7.b:a7->Bool|.bool b=>b|_=>au
noncomputable def a7.p:a7->Nat|.dc p=>p|_=>0
noncomputable def Pl.J:Pl->Option Nat|.P=>aa 0|.Q=>aa 1|.R=>aa 2|.S=>ah
structure bX where
 r:Nat->a7
 m:Nat->Option Int
noncomputable def bX.set(s:bX)(d:Nat)(v:a7):bX:={s with r:=λx=>if x=d then v else s.r x}
noncomputable def bX.dW(s:bX)(d:Nat)(v:Int):bX:={s with m:=λx=>if x=d then aa v else s.m x}
set_option genCtorIdx true in inductive bA where|go(k:Nat)(s:bX)|ret(i:Int)|fL
noncomputable def bA.val(o:Option a7)(k d:Nat)(s:bX):bA:=match o with|aa v=>.go (k+1) (s.set d v)|ah=>.fL
noncomputable def Op.bS(k:Nat)(s:bX)(op:Op):bA:=match op with|.set d v=>.go (k+1) (s.set d (.int v))|.fg d b=>.go (k+1) (s.set d (.bool b))|.dC d a=>.go (k+1) (s.set d (s.r a))|.aN o d a b=>.val ((o.ev (s.r a).i (s.r b).i).map .int) k d s|.ao o d a b=>.go (k+1) (s.set d (.bool (o.ev (s.r a).i (s.r b).i)))|.bZ d a=>.go (k+1) (s.set d (.bool !(s.r a).b))|.bn d a=>.val ((hW (-(s.r a).i)).map .int) k d s|.fS d p=>.val (p.J.map .dc) k d s|.dU d a=>.val ((s.m (s.r a).p).map .int) k d s|.gD p a=>.go (k+1) (s.dW (s.r p).p (s.r a).i)|.br t x j=>.go (if(s.r x).b=t then j else k+1) s|.fz x j l m=>.go (iI j l m (s.r x).i) s|.ee x c=>.go ((gi c (s.r x).i).getD (k+1)) s|.dA j=>.go j s|.ret (aa x)=>.ret (s.r x).i|.ret ah=>.ret 0|.dj=>.go (k+1) s
structure bX.ok(s:bX):Prop where
 r:∀x,x<6->(s.r x).ok/\lO (s.r x)=ty x
 m:∀p v,s.m p=aa v->-200<v/\v<200
theorem bX.ok.set{s:bX}(h:s.ok){v:a7}(o:v.ok)(t:lO v=ty d):(s.set d v).ok:=by
 refine⟨λx a=>?_,h.m⟩;show a7.ok (if x=d then v else s.r x)/\lO (if x=d then v else s.r x)=ty x;by_cases c:x=d;·rw[if_pos c,c];exact⟨o,t⟩
 ·rw[if_neg c];exact h.r x a
theorem bX.ok.dW{s:bX}(h:s.ok)(o:-200<v/\v<200):(s.dW d v).ok:=by
 refine⟨h.r,λp w e=>?_⟩;have e:(if p=d then aa v else s.m p)=aa w:=e;by_cases c:p=d;·rw[if_pos c]at e;injection e with q;subst q;exact o
 ·rw[if_neg c]at e;exact h.m p w e
theorem bX.ok.int{s:bX}(h:s.ok)(c:x<3):s.r x=.int (s.r x).i/\-200<(s.r x).i/\(s.r x).i<200:=by refine oA (h.r x (dF c (by decide))) λa b=>?_;rw[pG c]at b;generalize s.r x=v at a b;induction v<;>first|exact⟨rfl,a⟩|cases b
theorem bX.ok.bool{s:bX}(h:s.ok):s.r 3=.bool (s.r 3).b:=by refine oA (h.r 3 (by decide)) λ_ b=>?_;generalize s.r 3=v at b;induction v<;>first|rfl|cases b
theorem JA(a:4<=x):ty x=2:=by unfold ty;rw[if_neg λc=>sT x (dF c (gf (by decide) a)),if_neg λc=>by subst c;exact absurd a (by decide)]
theorem bX.ok.dc{s:bX}(h:s.ok)(c:4<=x)(d:x<6):s.r x=.dc (s.r x).p/\(s.r x).p<3:=by refine oA (h.r x d) λa b=>?_;rw[JA c]at b;generalize s.r x=v at a b;induction v<;>first|exact⟨rfl,a⟩|cases b
theorem PK(e:hW x=aa y):(a7.int y).ok:=u0 e
noncomputable def bA.AZ:bA->Prop|.go _ s=>s.ok|_=>True
theorem XM{s:bX}(h:s.ok)(t:∀v,o=aa v->v.ok/\lO v=ty d):(bA.val o k d s).AZ:=by induction o with|none=>trivial|some v=>exact h.set (t v rfl).1 (t v rfl).2
theorem Dg{o:Option Int}{s:bX}(h:s.ok)(a:d<3)(t:∀v,o=aa v->(a7.int v).ok):(bA.val (o.map .int) k d s).AZ:=by induction o with|none=>trivial|some v=>exact h.set (t v rfl) (pG a).symm
theorem QX{op:Op}{s:bX}(st:op.st)(h:s.ok):(op.bS k s).AZ:=by induction op with|set d v=>exact h.set st.2 (pG st.1).symm|fg d b=>exact h.set trivial (congrArg ty (show d=3 from st)).symm|dC d a=>exact h.set (h.r a st.2.1).1 ((h.r a st.2.1).2.trans st.2.2.symm)|aN o d a b=>exact Dg h st.1 λ_=>Bo.It|ao|bZ=>all_goals exact h.set trivial (congrArg ty st.1).symm|bn d a=>exact Dg h st.1 λ_=>PK|fS d p=>refine XM h λv e=>?_;cases p<;>cases e<;>exact⟨cJ rfl,(JA st.1).symm⟩|dU d a=>exact Dg h st.1 λ_=>h.m _ _|gD p a=>exact h.dW (h.int st.2.2).2|ret x=>induction x<;>trivial|_=>exact h
theorem Zs{op:Op}{s s':bX}(st:op.st)(h:s.ok)(e:op.bS k s=.go k' s'):s'.ok:=(congrArg bA.AZ e).mp (QX st h)
noncomputable def rW(s:bX):List V:=[(s.r 0).b7,(s.r 1).b7,(s.r 2).b7,(s.r 3).b7,(s.r 4).b7,(s.r 5).b7]
noncomputable def iN:Option Int->V|aa v=>.Z [.int 0,.int v]|ah=>.none
noncomputable def jz(m:Nat->Option Int):List V:=[iN (m 0),iN (m 1),iN (m 2)]
noncomputable def fU(p:Nat):V:=.Z [.int 0,.int p,.int 0,.Z []]
noncomputable def rF:List (V×V):=[(.str .fZ,.fn .yc),(.str .gE,.fn .Au),(.str .iP,.fn .qO),(.str .gZ,.fn .qO),(.str .e8,.fn .uV),(.str .jS,.fn .wC),(.str .mu,.fn .y8),(.str .pU,.fn .AR),(.str .k7,.fn .Aj),(.str .fG,.fn .zA),(.str .iG,.fn .yZ),(.str .i6,.fn .Be),(.str .kz,.fn .AX),(.str .ji,.fn .BK),(.str .hY,.fn .y5)]
noncomputable def zg:Op->Fn|.set ..=>.yc|.fg ..=>.yc|.dC ..=>.Au|.aN ..=>.qO|.ao ..=>.qO|.bZ ..=>.uV|.bn ..=>.uV|.fS ..=>.wC|.dU ..=>.y8|.gD ..=>.AR|.br t ..=>if t then .yZ else .Be|.fz ..=>.AX|.ee ..=>.BK|.dA ..=>.zA|.ret ..=>.y5|.dj=>.Aj
noncomputable def uW:List (V×V):=[(.str .qf,fU 0),(.str .vn,fU 1),(.str .qV,fU 2)]
noncomputable def mN(b ci:Nat)(lim k:Int)(s:bX):List O:=[.bw .jU,.fields [(.pI,.ref (b+3)),(.s5,.ref (b+5))],.list [.none],.list (jz s.m),.list [.none],.list [],.list [fU 0,fU 1,fU 2],.bw .jP,.fields (sC lim),.dict [],.dict [],.bw .qe,.fields [(.tL,.ref b),(.rR,.ref (b+7)),(.Av,.ref (b+9)),(.A9,.ref (b+10)),(.lT,.ref (b+23)),(.ur,.ref (b+22)),(.Bw,.ref (b+15)),(.AS,.fn .qy),(.zn,.none),(.yU,.none),(.zt,.ref (b+16)),(.zR,.ref (b+17)),(.As,.ref (b+18)),(.Bv,.ref (b+19)),(.zk,.ref (b+20)),(.Aq,.ref (b+21)),(.nW,.int k)],.dict [],.dict [],.dict [],.dict [],.dict [],.dict [],.dict [],.list [],.list [],.dict [(.int 0,.fn .ou)],.dict rF,.dict [],.dict [],.bw .oS,.fields [(.lT,.ref ci),(.C,.int 6),(.xj,.ref (b+24)),(.xx,.ref (b+25))],.dict uW,.bw .qq,.fields [(.xq,.ref (b+26)),(.uc,.ref (b+28)),(.C,.ref (b+35)),(.zL,.ref (b+33)),(.zV,.ref (b+34))],.list [.none],.list [.none,.none,.none,.none,.none,.none],.dict [],.list [],.list (rW s)]
inductive cj(h:H)(ci:Nat)(lim k:Int)(s:bX):H->Prop|mk(Y:List O):cj h ci lim k s (h++(mN h.length ci lim k s++Y))
section
variable{h hh:H}{ci:Nat}{lim k:Int}{s:bX}
theorem cj.cp(M:cj h ci lim k s hh)(e:(mN h.length ci lim k s)[j]?=aa o):hh[h.length+j]?=aa o:=by induction M;rw[gx,nY (dH.mp e).1];exact e
theorem cj.cA(M:cj h ci lim k s hh){X:List O}:cj h ci lim k s (hh++X):=by induction M with|mk Y=>(have:h++(mN h.length ci lim k s++Y)++X=h++(mN h.length ci lim k s++(Y++X)):=by rw[re,re]);rw[this];exact .mk _
theorem cj.keep(M:cj h ci lim k s hh):a9 h hh:=by induction M;exact .cA
theorem cj.eG(M:cj h ci lim k s hh)(e:(mN h.length ci lim k s)[j]?=aa (.bw c))(a:(mN h.length ci lim k s)[j+1]?=aa (.fields L)):iu hh (h.length+j)=aa L:=vt (M.cp e) (M.cp a)
theorem cj.jw(M:cj h ci lim k s hh)(a:j<36)(e:(mN h.length ci lim k s).set j o=mN h.length ci lim k' s'):cj h ci lim k' s' (hh.set (h.length+j) o):=by induction M with|mk Y=>rw[sx,List.set_append_left _ _ a,e];exact .mk _
theorem cj.M(M:cj h ci lim k s hh)(e:(mN h.length ci lim k s)[j]?=aa (.bw c))(a:(mN h.length ci lim k s)[j+1]?=aa (.fields L))(b:qZ L n=aa v):iX hh (.ref (h.length+j)) n=aa v:=gp (M.eG e a) b
theorem cj.rL(M:cj h ci lim k s hh):iX hh (.ref (h.length+11)) .nW=aa (.int k):=M.M rfl rfl rfl
theorem cj.Pf(M:cj h ci lim k s hh):∃h',l5 hh (.ref (h.length+11)) .nW (.int (k+1))=aa h'/\cj h ci lim (k+1) s h':=(bC _ (nC (M.eG rfl rfl) (cJ rfl)) (M.jw (j:=12) (cJ rfl) rfl))
theorem cj.Xe(M:cj h ci lim k s hh):iX hh (.ref (h.length+29)) .C=aa (.ref (h.length+35)):=M.M rfl rfl rfl
theorem cj.Ir(M:cj h ci lim k s hh):aG hh (h.length+35)=aa (rW s):=wD (M.cp rfl)
theorem rC{P:Nat->Prop}(a:P n)(b:x<n->P x)(h:x<n+1):P x:=(Nat.lt_succ_iff_lt_or_eq.mp h).elim b λe=>e▸a
theorem vD{P:Nat->Prop}(a:P 0)(b:P 1)(c:P 2):x<3->P x:=rC c (rC b (rC a λh=>absurd h (ux x)))
theorem Jp(h:x<3):x=0\/x=1\/x=2:=vD (P:=λx=>x=0\/x=1\/x=2) (.inl rfl) (.inr (.inl rfl)) (.inr (.inr rfl)) h
theorem Ja(h:x<4):x=3\/x=0\/x=1\/x=2:=rC (P:=λx=>x=3\/x=0\/x=1\/x=2) (.inl rfl) (λh=>.inr (Jp h)) h
theorem SV(h:x<2):x=0\/x=1:=rC (P:=λx=>x=0\/x=1) (.inr rfl) (λh=>.inl (Nat.lt_one_iff.mp h)) h
theorem CX{P:Nat->Prop}(a:P 0)(b:P 1)(c:P 2)(d:P 3)(e:P 4)(f:P 5):x<6->P x:=rC f (rC e (rC d (vD a b c)))
theorem VT(a:x<6):(rW s)[x]?=aa (s.r x).b7:=CX (P:=λx=>(rW s)[x]?=aa (s.r x).b7) rfl rfl rfl rfl rfl rfl a
theorem Zc(a:d<6):(rW s).set d v.b7=rW (s.set d v):=CX (P:=λd=>(rW s).set d v.b7=rW (s.set d v)) rfl rfl rfl rfl rfl rfl a
theorem cj.PJ(M:cj h ci lim k s hh){x:Nat}(a:x<6):dy hh (.ref (h.length+35)) (.int x)=aa (s.r x).b7:=gL M.Ir (VT a) (dF a (by decide))
theorem cj.R7(M:cj h ci lim k s hh){d:Nat}(v:a7)(a:d<6):∃h',jk hh (.ref (h.length+35)) (.int d) v.b7=aa h'/\cj h ci lim k (s.set d v) h':=(bC _ (tS M.Ir a (dF a (by decide))) (M.jw (cJ rfl) (by rw[Zc a];rfl)))
theorem cj.Ah(M:cj h ci lim k s hh):aG hh (h.length+3)=aa (jz s.m):=wD (M.cp rfl)
theorem cj.Hr(M:cj h ci lim k s hh):Dd hh (h.length+22) (h.length+7):=⟨⟨_,oy (M.cp rfl),_,DI.mJ,rfl⟩,_,M.eG rfl rfl,rfl⟩
theorem cj.code(M:cj h ci lim k s hh)(C:dM h ci c):dM hh ci c:=C.keep M.keep
end
theorem eY{f:Fn}{R:aB V->Prop}(a:pF f l=aa F)(c:f.body=b)(w:Wp (aV (aF n) b F h) λr=>R (eC r)):R (aF (n+1) f l h):=da (rn n) a c w
inductive kU(h:H)(ci:Nat)(lim k:Int)(pc:Nat)(s:bX):bA->aB V->Prop|none{s':bX}{h':H}:cj h ci lim k s' h'->kU h ci lim k pc s (.go (pc+1) s') (.ok .none h')|dA{j:Nat}{s':bX}{h':H}:cj h ci lim k s' h'->kU h ci lim k pc s (.go j s') (.ok (.int j) h')|ret{i:Int}{h':H}:cj h ci lim k s h'->kU h ci lim k pc s (.ret i) (.ok (.Z [.str .hY,.int i]) h')|fL{h':H}:cj h ci lim k s h'->kU h ci lim k pc s .fL (.ex .aF h')
section
variable{n ci pc:Nat}{h hh:H}{lim k:Int}{s:bX}
theorem IH:aF (n+1) .CJ [.int 0] hh=.ok (.int 1) hh:=eY (F:=[.int 0]) (R:=λr=>r=_) rfl rfl (S.a8 (E.ao (E.af rfl) E.gl O.f7) rfl (S.N (S.a8 (E.bo (E.dN (E.ao (E.af rfl) E.gl O.f7) rfl (E.dO (E.ao (E.af rfl) E.gl O.f7)))) rfl (S.N (S.ret E.J rfl)))))
theorem cj.Ta(M:cj h ci lim k s hh){p:Nat}(c:p<3):aF (n+1) .Bb [.ref (h.length+3),.int p,.int 1] hh=.ok .none hh:=by have a:aZ ((p:Int)<0)=au:=decide_eq_false (by lia);have b:aZ ((3:Int)<(p:Int)+1)=au:=decide_eq_false (by lia);exact eY (F:=[.ref (h.length+3),.int p,.int 1]) (R:=λr=>r=_) rfl rfl (S.a8 (E.bo (E.dN (E.ao (E.af rfl) E.J O.lt) (T.bool a) (E.dO (E.ao (E.aN (E.af rfl) (E.af rfl) O.add) (E.bi (E.cons (E.af rfl) E.nil) (tX M.Ah (cJ rfl))) O.gt)))) (T.bool b) (S.N (S.nil rfl)))
theorem Tt(a:p<3):(jz m)[p]?=aa (iN (m p)):=vD (P:=λp=>(jz m)[p]?=aa (iN (m p))) rfl rfl rfl a
theorem cj.cell(M:cj h ci lim k s hh){p:Nat}(a:p<3):aF (n+1) .wO [.ref (h.length+3),.int p,.int 0] hh=nq (s.m p) hh:=by have b:=gL M.Ah (Tt a) (dF a (by decide));refine eY (F:=[.ref (h.length+3),.int p,.int 0,.U]) (R:=λr=>r=_) rfl rfl (S.D (E.Y (E.af rfl) (E.af rfl) b) ?_);induction s.m p with|none=>exact S.bQ (E.bo (E.ig (E.ao (E.af rfl) E.none O.Dc) rfl)) rfl (S.ba (S.iJ rfl))|some x=>exact S.a8 (E.bo (E.dN (E.ao (E.af rfl) E.none O.D3) rfl (E.dO (E.ao (E.Y (E.af rfl) E.J I.t0) (E.af rfl) O.z8)))) rfl (S.N (S.ret (E.Y (E.af rfl) E.J I.t1) rfl))
theorem cj.dU(M:cj h ci lim k s hh)(b:p<3):aF (n+3) .Bp [.ref (h.length+0),fU p] hh=nq (s.m p) hh:=by refine eY (F:=[.ref (h.length+0),fU p]) (R:=λr=>r=_) rfl rfl (S.a8 (E.ao (E.Y (E.af rfl) E.J I.t0) E.gl O.f7) rfl (S.N (E.mC (E.call E.fn (E.cons (E.M (E.af rfl) (M.M rfl rfl rfl)) (E.cons (E.Y (E.af rfl) E.J I.t0) (E.cons (E.Y (E.af rfl) E.J I.t1) E.nil))) ?_) nH)));refine eY (F:=[.ref (h.length+3),.int 0,.int p,.U]) (R:=λr=>r=_) rfl rfl (S.cO (E.call E.fn (E.cons (E.af rfl) (E.cons (E.af rfl) (E.cons (E.call E.fn (E.cons (E.af rfl) E.nil) IH) E.nil))) (M.Ta b)) (S.a8 (E.ao (E.af rfl) E.gl O.f7) rfl (S.N ?_)));have a:=M.cell (n:=n) b;induction e:s.m p with|none=>rw[e]at a;exact S.KB (E.call E.fn (E.cons (E.af rfl) (E.cons (E.af rfl) (E.cons (E.af rfl) E.nil))) a) rfl|some x=>rw[e]at a;exact S.D (E.call E.fn (E.cons (E.af rfl) (E.cons (E.af rfl) (E.cons (E.af rfl) E.nil))) a) (S.a8 (E.ao (E.af rfl) E.gl O.f7) rfl (S.N (S.ret (E.af rfl) rfl)))
theorem PW(a:p<3):(jz m).set p (.Z [.int 0,.int x])=jz λy=>if y=p then aa x else m y:=vD (P:=λp=>(jz m).set p (.Z [.int 0,.int x])=jz λy=>if y=p then aa x else m y) rfl rfl rfl a
theorem G9(f:iu hh b=aa [(.pI,.ref q),(.s5,e)])(a:aG hh q=aa l)(i:l.length=3)(h:p<3):aF (n+3) .rG [.ref b,fU p,.int x] hh=.ok .none (hh.set q (.list (l.set p (.Z [.int 0,.int x])))):=by
 refine eY (F:=[.ref b,fU p,.int x]) (R:=λr=>r=_) rfl rfl (S.a8 (E.ao (E.Y (E.af rfl) E.J I.t0) E.gl O.f7) rfl (S.ba (S.cO (v:=.none) (E.call E.fn (E.cons (E.M (E.af rfl) (gp f rfl)) (E.cons (E.Y (E.af rfl) E.J I.t0) (E.cons (E.Y (E.af rfl) E.J I.t1) (E.cons (E.af rfl) E.nil)))) ?_) (S.N (S.nil rfl)))));refine eY (F:=[.ref q,.int 0,.int p,.int x]) (R:=λr=>r=_) rfl rfl ?_;have g:aF n.succ .Bb [.ref q,.int p,.int 1] hh=.ok .none hh:=by have c:aZ ((p:Int)<0)=au:=decide_eq_false (by lia);have d:aZ ((l.length:Int)<(p:Int)+1)=au:=decide_eq_false (by lia);exact eY (F:=[.ref q,.int p,.int 1]) (R:=λr=>r=_) rfl rfl (S.a8 (E.bo (E.dN (E.ao (E.af rfl) E.J O.lt) (T.bool c) (E.dO (E.ao (E.aN (E.af rfl) (E.af rfl) O.add) (E.bi (E.cons (E.af rfl) E.nil) (tX a (by lia))) O.gt)))) (T.bool d) (S.N (S.nil rfl)))
 exact S.cO (E.call E.fn (E.cons (E.af rfl) (E.cons (E.af rfl) (E.cons (E.call E.fn (E.cons (E.af rfl) E.nil) IH) E.nil))) g) (S.a8 (E.ao (E.af rfl) E.gl O.f7) rfl (S.N (S.cQ (E.Z (E.cons (E.af rfl) (E.cons (E.af rfl) E.nil))) (E.af rfl) (E.af rfl) (tS a (by exact uv (by assumption) (Gr (by assumption))) (by exact bD (by assumption) (by rfl))) (S.a8 (E.ao (E.af rfl) E.gl O.f7) rfl (S.N (S.nil rfl))))))
theorem cj.gD(M:cj h ci lim k s hh)(a:p<3):∃h',aF (n+3) .rG [.ref (h.length+0),fU p,.int x] hh=.ok .none h'/\cj h ci lim k (s.dW p x) h':=(bC _ (G9 (M.eG rfl rfl) M.Ah rfl a) (M.jw (cJ rfl) (by rw[PW a];rfl)))
theorem cj.mem(M:cj h ci lim k s hh):iX hh (.ref (h.length+11)) .tL=aa (.ref (h.length+0)):=M.M rfl rfl rfl
theorem cj.KQ(M:cj h ci lim k s hh)(e:(lU .jU m).isSome=aj):mR hh m (.ref (h.length+0))=aa (.bw .jU):=EG (M.cp rfl) (M.cp rfl) e
end
section
variable{n ci pc:Nat}{h hh:H}{lim k:Int}{s:bX}{v:V}{op:Op}
theorem IY(M:cj h ci lim k s hh)(a:getL F 1=aa (.ref (h.length+29))):ax (aF n) (.M (.af 1) .C) F hh=.ok (.ref (h.length+35)) hh:=E.M (E.af a) M.Xe
theorem rE{F:List V}{e:CE}{x:Nat}(M:cj h ci lim k s hh)(b:getL F 1=aa (.ref (h.length+29)))(a:ax (aF n) e F hh=.ok (.int x) hh)(c:x<6):ax (aF n) (.Y (.M (.af 1) .C) e) F hh=.ok (s.r x).b7 hh:=E.Y (IY M b) a (M.PJ c)
theorem td{F:List V}{e c:CE}{d:Nat}{o:Option a7}{Q:RS->Prop}{a:H}(b:ax (aF n) e F hh=yh o a)(M:cj h ci lim k s a)(j:getL F 1=aa (.ref (h.length+29)))(i:ax (aF n) c F a=.ok (.int d) a)(l:d<6)(f:∀r,kU h ci lim k pc s (bA.val o pc d s) r->∀q,eC q=r->Q q):Wp (aV (aF n) [.cQ (.M (.af 1) .C) c e] F hh) Q:=by induction o with|none=>exact S.Wc b (f _ (.fL M) _ rfl)|some v=>exact ay (M.R7 v l) λh' m g=>S.cQ b (IY M j) i m (S.nil (f _ (.none g) _ rfl))
theorem uS{Q:aB V->Prop}:∀r,Q r->∀q,eC q=r->Q (eC q):=λ_ h _ e=>e▸h
theorem Im(M:cj h ci lim k s hh)(e:bx hh op v)(j:s.ok){r:aC}{d a b:Nat}{x y:V}{o:Option a7}(p:v=.Z [.str r,.int d,x,y,.int a,.int b])(q:d<6)(f:a<6)(g:b<6)(m:op.jJ [s.r a,s.r b]=aa o):kU h ci lim k pc s (bA.val o pc d s) (aF (n+6) .qO [.ref (h.length+11),.ref (h.length+29),v] hh):=by subst p;refine eY (F:=[_,_,_,.U]) rfl rfl (S.D (E.aW (E.cons (rE M rfl (E.Y (E.af rfl) E.J I.t4) f) (E.cons (rE M rfl (E.Y (E.af rfl) E.J I.t5) g) E.nil))) ?_);have c:=M.cA (X:=[.list [(s.r a).b7,(s.r b).b7]]);exact td (E.call E.fn (E.cons (E.M (E.af rfl) (c.M rfl rfl rfl)) (E.cons (E.M (E.af rfl) (c.M rfl rfl rfl)) (E.cons (E.af rfl) (E.cons (E.af rfl) E.nil)))) (Ei (rp 5 n) (e.B λi l=>a9.cA.aW) c.Hr (dJ) m (sQ.mpr (.intro (j.r a f).1 (NQ.mpr (j.r b g).1))))) c rfl (E.Y (E.af rfl) E.J I.t1) q uS
theorem M7(M:cj h ci lim k s hh)(e:bx hh op v)(m:s.ok){p:aC}{d a:Nat}{x y:V}{o:Option a7}(g:v=.Z [.str p,.int d,x,y,.int a])(j:d<6)(c:a<6)(f:op.jJ [s.r a]=aa o):kU h ci lim k pc s (bA.val o pc d s) (aF (n+6) .uV [.ref (h.length+11),.ref (h.length+29),v] hh):=by subst g;have b:=M.cA (X:=[.list [(s.r a).b7]]);exact eY (F:=[_,_,_]) rfl rfl (td (E.call E.fn (E.cons (E.M (E.af rfl) (M.M rfl rfl rfl)) (E.cons (E.M (E.af rfl) (M.M rfl rfl rfl)) (E.cons (E.af rfl) (E.cons (E.aW (E.cons (rE M rfl (E.Y (E.af rfl) E.J I.t4) c) E.nil)) E.nil)))) (Ei (rp 5 n) (e.B λi l=>a9.cA.aW) b.Hr (dJ) f (NQ.mpr (m.r a c).1))) b rfl (E.Y (E.af rfl) E.J I.t1) j uS)
theorem zd(M:cj h ci lim k s hh)(ok:s.ok){x:Nat}(a:x<3){F:List V}{e:CE}(c:getL F 1=aa (.ref (h.length+29)))(b:ax (aF n) e F hh=.ok (.int x) hh):ax (aF n) (.Y (.M (.af 1) .C) e) F hh=.ok (.int (s.r x).i) hh:=(rE M c b (jG a)).trans (congrArg (λv=>aB.ok (a7.b7 v) hh) (ok.int a).1)
theorem Ya{d:Nat}{p:Pl}(M:cj h ci lim k s hh)(g:d<6):kU h ci lim k pc s (Op.bS pc s (.fS d p)) (aF (n+6) .wC [.ref (h.length+11),.ref (h.length+29),.Z [.str .jS,.int d,.str p.eO]] hh):=by refine eY (F:=[_,_,_,.U]) rfl rfl ?_;have a:∀(w:V),gB w=aj->AU .gY (h.length+28) uW [.str p.eO] hh=.ok w hh->ax (aF (n+5)) (.bH (.M (.af 1) .uc) .gY [.Y (.af 2) (.J 2)]) [.ref (h.length+11),.ref (h.length+29),.Z [.str .jS,.int d,.str p.eO],.U] hh=.ok w hh:=λw z j=>E.bH (E.M (E.af rfl) (M.M rfl rfl rfl)) (uY (oy (M.cp rfl)) rfl) (E.cons (E.Y (E.af rfl) E.J I.t2) E.nil) ((BC (oy (M.cp rfl))).trans j);have b:∀q:Nat,p.J=aa q->ax (aF (n+5)) (.bH (.M (.af 1) .uc) .gY [.Y (.af 2) (.J 2)]) [.ref (h.length+11),.ref (h.length+29),.Z [.str .jS,.int d,.str p.eO],.U] hh=.ok (a7.dc q).b7 hh->Wp (aV (aF (n+5)) Nl [.ref (h.length+11),.ref (h.length+29),.Z [.str .jS,.int d,.str p.eO],.U] hh) λr=>kU h ci lim k pc s (Op.bS pc s (.fS d p)) (eC r):=λq f e=>S.D e (S.a8 (E.bZ (E.bi (E.cons (E.af rfl) E.nil) O.Iz) rfl) rfl (S.N (td (E.af rfl) M rfl (E.Y (E.af rfl) E.J I.t1) g (λr i l c=>by show kU h ci lim k pc s (bA.val (p.J.map .dc) pc d s) (eC l);rw[f,c];exact i))));induction p with|P=>exact b 0 rfl (a _ rfl rfl)|Q=>exact b 1 rfl (a _ rfl rfl)|R=>exact b 2 rfl (a _ rfl rfl)|S=>exact S.D (a .none rfl rfl) (S.bQ (E.bZ (E.bi (E.cons (E.af rfl) E.nil) O.VK) rfl) rfl (S.ba (S.iJ (.fL M))))
set_option tactic.hygienic true in theorem TH(M:cj h ci lim k s hh)(e:bx hh op v)(st:op.st)(ok:s.ok):kU h ci lim k pc s (op.bS pc s) (aF (n+6) (zg op) [.ref (h.length+11),.ref (h.length+29),v] hh):=by
 induction op;case set d x=>rw[show v=.Z [.str .fZ,.int d,.int 0,.int x]from e.bW rfl];exact eY (F:=[_,_,_]) rfl rfl (td (o:=aa (.int x)) (E.Y (E.af rfl) E.J I.t3) M rfl (E.Y (E.af rfl) E.J I.t1) (jG st.1) uS)
 case fg d x=>rw[show v=.Z [.str .fZ,.int d,.int 4,.bool x]from e.bW rfl];exact eY (F:=[_,_,_]) rfl rfl (td (o:=aa (.bool x)) (E.Y (E.af rfl) E.J I.t3) M rfl (E.Y (E.af rfl) E.J I.t1) (by cases st;decide) uS)
 case dC d a=>rw[show v=.Z [.str .gE,.int d,.int a]from e.bW rfl];exact eY (F:=[_,_,_]) rfl rfl (td (o:=aa (s.r a)) (rE M rfl (E.Y (E.af rfl) E.J I.t2) st.2.1) M rfl (E.Y (E.af rfl) E.J I.t1) st.1 uS)
 case aN o d a b=>exact Im M e ok (e.bW rfl) (jG st.1) (jG st.2.1) (jG st.2.2) (by rw[(ok.int st.2.1).1,(ok.int st.2.2).1];rfl)
 case ao o d a b=>exact Im M e ok (o:=aa (.bool (o.ev (s.r a).i (s.r b).i))) (e.bW rfl) (st.1▸cJ rfl) (jG st.2.1) (jG st.2.2) (by rw[(ok.int st.2.1).1,(ok.int st.2.2).1];rfl)
 case bZ d a=>refine oA st ?_;(try clear st;rintro rfl rfl);exact M7 M e ok (o:=aa (.bool !(s.r 3).b)) (e.bW rfl) (cJ rfl) (cJ rfl) (by rw[ok.bool];rfl)
 case bn d a=>exact M7 M e ok (e.bW rfl) (jG st.1) (jG st.2) (by rw[(ok.int st.2).1];rfl)
 case fS d p=>rw[show v=.Z [.str .jS,.int d,.str p.eO]from e.bW rfl];exact Ya M st.2
 case dU d a=>rw[show v=.Z [.str .mu,.int d,.int a]from e.bW rfl];have f:=ok.dc st.2.1 st.2.2;refine eY (F:=[_,_,_]) rfl rfl (td (E.bH (E.M (E.af rfl) M.mem) (M.KQ rfl) (E.cons (rE M rfl (E.Y (E.af rfl) E.J I.t2) st.2.2) E.nil) (?_:aF (n+5) .Bp [.ref (h.length+0),(s.r a).b7] hh=_)) M rfl (E.Y (E.af rfl) E.J I.t1) (jG st.1) uS);rw[<-CZ,show(s.r a).b7=fU (s.r a).p from congrArg a7.b7 f.1];exact M.dU f.2
 case gD p a=>rw[show v=.Z [.str .pU,.int p,.int a]from e.bW rfl];have f:=ok.dc st.1 st.2.1;refine ay (M.gD (n:=n+2) f.2) λh' y q=>eY (F:=[_,_,_]) rfl rfl (S.cO (E.bH (E.M (E.af rfl) M.mem) (M.KQ rfl) (E.cons (rE M rfl (E.Y (E.af rfl) E.J I.t1) st.2.1) (E.cons (zd M ok st.2.2 rfl (E.Y (E.af rfl) E.J I.t2)) E.nil)) (?_:aF (n+5) .rG [.ref (h.length+0),(s.r p).b7,_] hh=.ok .none h')) (S.nil (.none q)));rw[show(s.r p).b7=fU (s.r p).p from congrArg a7.b7 f.1];exact y
 case br t x j=>cases st;(have g:∀F:List V,getL F 1=aa (.ref (h.length+29))->∀{e:CE},ax (aF (n+5)) e F hh=.ok (.int (3:Nat)) hh->ax (aF (n+5)) (.Y (.M (.af 1) .C) e) F hh=.ok (.bool (s.r 3).b) hh:=λF w e u=>by rw[rE M w u (by decide),ok.bool];rfl);rw[show v=.Z [.str (if t then .iG else .i6),.int (3:Nat),.int j]from e.bW rfl];show kU h ci lim k pc s (.go (if(s.r 3).b=t then j else pc+1) s) _;have N:kU h ci lim k pc s (.go (pc+1) s) (.ok .none hh):=.none M;have J:kU h ci lim k pc s (.go j s) (.ok (.int j) hh):=.dA M;induction t;(·refine eY (F:=[_,_,_]) rfl rfl ?_;cases c:(s.r 3).b;(·exact S.ret (E.oB (g _ rfl (E.Y (E.af rfl) E.J I.t1)) (T.bool c) (E.Y (E.af rfl) E.J I.t2)) J);·exact S.ret (E.oF (g _ rfl (E.Y (E.af rfl) E.J I.t1)) (T.bool c) E.none) N);·refine eY (F:=[_,_,_]) rfl rfl ?_;cases c:(s.r 3).b;(·exact S.ret (E.oB (g _ rfl (E.Y (E.af rfl) E.J I.t1)) (T.bool c) E.none) N);·exact S.ret (E.oF (g _ rfl (E.Y (E.af rfl) E.J I.t1)) (T.bool c) (E.Y (E.af rfl) E.J I.t2)) J
 case fz x a b c=>rw[show v=.Z [.str .kz,.int x,.int a,.int b,.int c]from e.bW rfl];exact eY (F:=[_,_,_]) rfl rfl (S.ret (E.Y (E.af rfl) (E.aN E.J (E.call E.fn (E.cons (zd M ok st rfl (E.Y (E.af rfl) E.J I.t1)) E.nil) (MG (rn _))) O.add) JK) (.dA M))
 case ee x js=>refine ay e.sw ?_;rintro i rfl hi;refine eY (F:=[_,_,_,.U]) rfl rfl (S.D (zd M ok st.1 rfl (E.Y (E.af rfl) E.J I.t1)) ?_);show Wp _ λr=>kU h ci lim k pc s (.go ((gi js (s.r x).i).getD (pc+1)) s) (eC r);rcases Hs (F:=[.ref (h.length+11),.ref (h.length+29),.Z [.str .ji,.int x,.ref i],.int (s.r x).i]) (a:=.af 3) (b:=.Y (.af 2) (.J 2)) st.2 hi (E.af rfl) (E.Y (E.af rfl) E.J I.t2)with⟨j,l,m,z⟩|⟨l,m⟩;(·rw[l];exact S.ret (E.oF m rfl z) (.dA M));·rw[l];exact S.ret (E.oB m rfl E.none) (.none M)
 case dA j=>rw[show v=.Z [.str .fG,.int j]from e.bW rfl];exact eY (F:=[_,_,_]) rfl rfl (S.ret (E.Y (E.af rfl) E.J I.t1) (.dA M))
 case ret x=>induction x with|none=>rw[show v=.Z [.str .hY,.int (-1)]from e.bW rfl];exact eY (F:=[_,_,_]) rfl rfl (S.ret (E.Z (E.cons E.str (E.cons (E.oB (E.ao (E.Y (E.af rfl) E.J I.t1) E.J O.ge) rfl E.J) E.nil))) (.ret M))|some x=>rw[show v=.Z [.str .hY,.int x]from e.bW rfl];exact eY (F:=[_,_,_]) rfl rfl (S.ret (E.Z (E.cons E.str (E.cons (E.oF (E.ao (E.Y (E.af rfl) E.J I.t1) E.J O.ge) (T.bool (decide_eq_true (g9 x))) (zd M ok st rfl (E.Y (E.af rfl) E.J I.t1))) E.nil))) (.ret M))
 case dj=>exact eY (F:=[_,_,_]) rfl rfl (S.ret E.none (.none M))
end
noncomputable abbrev pA:=Option Int×(Nat->Option Int)
noncomputable def gU(c:List Op):Nat->Nat->bX->Option pA|0,_,_=>ah|n+1,pc,s=>match c[pc]? with|ah=>ah|aa op=>match op.bS pc s with|.go k s'=>gU c n k s'|.ret i=>aa (aa i,s.m)|.fL=>aa (ah,s.m)
theorem sI:gU c (n+1) pc s=match c[pc]? with|ah=>ah|aa op=>match op.bS pc s with|.go k s'=>gU c n k s'|.ret i=>aa (aa i,s.m)|.fL=>aa (ah,s.m):=rfl
noncomputable abbrev rJ(c:List Op):Prop:=∀(k:Nat)(op:Op)(s s':bX)(k':Nat),c[k]?=aa op->op.bS k s=.go k' s'->k'<c.length
noncomputable def Pk(o:Option Int)(h:H):aB V:=match o with|aa i=>.ok (.int i) h|ah=>.ex .aF h
set_option tactic.hygienic true in theorem zM:eZ rF (.str op.bJ)=aj/\eH rF (.str op.bJ)=aa (.fn (zg op)):=by
 induction op;case br t _ _=>induction t<;>exact⟨rfl,rfl⟩
 all_goals exact⟨rfl,rfl⟩
section
variable{f n ci pc N start:Nat}{h hh:H}{lim k:Int}{s s0:bX}{c:List Op}{op:Op}
theorem cj.Sj(M:cj h ci lim k s hh):dy hh (.ref (h.length+23)) (.str op.bJ)=aa (.fn (zg op)):=AJ (Na (M.cp rfl)) zM.1 zM.2
theorem cj.aap(M:cj h ci lim k s hh):dE .lS hh (.str op.bJ) (.ref (h.length+23))=aa au:=by have e:cN hh (h.length+23)=aa rF:=oy (M.cp rfl);show((cN hh (h.length+23)).bind λl=>if eZ l (.str op.bJ)then aa (eH l (.str op.bJ)).isSome else ah).map _=_;rw[e];show(if eZ rF (.str op.bJ)then aa (eH rF (.str op.bJ)).isSome else ah).map _=_;rw[zM.1,zM.2];rfl
inductive Mm(h:H)(ci start:Nat)(lim:Int)(c:List Op)(o:Option pA)(m:Nat):List V->H->Prop|mk(n pc:Nat)(s:bX)(x y:V)(hh:H)(M:cj h ci lim (lim-n) s hh)(ok:s.ok)(hm:m=n+1)(hs:gU c n pc s=o)(hp:o=ah->pc<c.length):Mm h ci start lim c o m [.ref (h.length+11),.ref (h.length+29),.int start,.int pc,.ref ci,x,y] hh
theorem RJ{R:aB V->Prop}(hN:N<4000)(C:dM h ci c)(J:c.length<100)(st:∀op∈c,op.st)(M:cj h ci N 0 s0 hh)(l:s0.ok)(z:gU c N start s0=ah->start<c.length/\rJ c)(kd:∀o s' k hh,gU c N start s0=aa o->cj h ci N k s' hh->s'.m=o.2->R (Pk o.1 hh))(Q:gU c N start s0=ah->∀s' k hh,cj h ci N k s' hh->R (.ex .ir hh)):R (aF (f+7) .Eu [.ref (h.length+11),.ref (h.length+29),.int start] hh):=by refine eY (F:=[.ref (h.length+11),.ref (h.length+29),.int start,.U,.U,.U,.U]) rfl rfl (S.D (E.af rfl) (S.D (E.M (E.M (E.af rfl) (M.M rfl rfl rfl)) (M.M rfl rfl rfl)) ?_));generalize ho:gU c N start s0=o at z kd Q;refine S.lz (Mm h ci start N c o) (N+1) (by lia) (.mk N start s0 _ _ hh (by rw[Int.sub_self];exact M) l rfl ho λe=>(z e).1) ?_;intro m F hh i;induction i with|mk n pc s x y hh M l L hs hp2=>have Y:=M.code C;(have U:=by induction o with|none=>exact hp2 rfl|some o=>induction n with|zero=>injection hs|succ n=>induction e:c[pc]? with|some op=>exact(dH.mp e).1|none=>rw[sI]at hs;rw[e]at hs;injection hs);refine(tN _ _ aj (E.ao (E.af rfl) (E.bi (E.cons (E.af rfl) E.nil) (Y.bN J)) O.lt) (T.bool (decide_eq_true (eM.mpr U))) (ay M.Pf λw r1 a=>S.l7 (E.af rfl) M.rL E.J A.add r1 ?_));induction n with|zero=>exact S.bQ (E.ao (E.M (E.af rfl) a.rL) (E.M (E.M (E.af rfl) (a.M rfl rfl rfl)) (a.M rfl rfl rfl)) O.gt) (T.bool (decide_eq_true (by lia))) (S.ba (S.pr (E.M (E.M (E.af rfl) (a.M rfl rfl rfl)) (a.M (j:=7) rfl rfl rfl)) (Q hs.symm _ _ _ a)))|succ n=>refine S.a8 (E.ao (E.M (E.af rfl) a.rL) (E.M (E.M (E.af rfl) (a.M (j:=11) rfl rfl rfl)) (a.M rfl rfl rfl)) O.gt) (T.bool (decide_eq_false (by lia))) (S.N ?_);obtain⟨op,g⟩:∃op,c[pc]?=aa op:=⟨_,gP U⟩;have W:=st op (cW g);refine ay ((a.code C).cp g J) λv Z u=>?_;have B:=u.plain;have G:=jK (h':=w) u;refine S.D (E.Y (E.af rfl) (E.af rfl) Z) (S.a8 (E.ao (E.Y (E.af (dg rfl B)) E.J G) (E.M (E.af rfl) (a.M rfl rfl rfl)) a.aap) rfl (S.N ?_));have D:=TH (pc:=pc) (n:=f) a u W l;have p:=λk' s'=>Zs (k:=pc) (k':=k') (s':=s') W l;(have d:(match op.bS pc s with|.go k s'=>gU c n k s'|.ret i=>aa (aa i,s.m)|.fL=>aa (ah,s.m))=o:=by rw[sI]at hs;rw[g]at hs;exact hs);have t:=λk' s' e q=>(z q).2 pc op s s' k' g e;(have hl:(N:Int)-(n+1:Nat)+1=N-n:=by lia);rw[hl]at D;generalize hr:aF (f+6) (zg op) [.ref (h.length+11),.ref (h.length+29),v] w=r at D;have call:ax (aF (f+6)) (.call (.Y (.M (.af 0) .lT) (.Y (.af 5) (.J 0))) [(.af 0),(.af 1),(.af 5)]) [.ref (h.length+11),.ref (h.length+29),.int start,.int pc,.ref ci,v,y] w=r:=E.call (E.Y (E.M (E.af rfl) (a.M rfl rfl rfl)) (E.Y (E.af (dg rfl B)) E.J G) a.Sj) (E.cons (E.af rfl) (E.cons (E.af rfl) (E.cons (E.af (dg rfl B)) E.nil))) hr;generalize op.bS pc s=bS at D p d t;induction D with|none b=>exact S.D call (S.bQ (E.ao (E.af rfl) E.none O.Dc) rfl (S.ba (S.fs rfl E.J A.add (S.N (S.nil (bC (n+1) (L▸m4 _) (.mk n (pc+1) _ _ _ _ b (p _ _ rfl) rfl d λq=>t _ _ rfl q)))))))|dA b=>exact S.D call (S.a8 (E.ao (E.af rfl) E.none O.RH) rfl (S.ba (S.a8 (E.bi (E.cons (E.af rfl) E.nil) O.Kq) rfl (S.ba (S.D (E.af rfl) (S.N (S.N (S.nil (bC (n+1) (L▸m4 _) (.mk n _ _ _ _ _ b (p _ _ rfl) rfl d λq=>t _ _ rfl q))))))))))|ret b=>exact S.D call (S.a8 (E.ao (E.af rfl) E.none O.D3) rfl (S.ba (S.bQ (E.bi (E.cons (E.af rfl) E.nil) O.Iz) rfl (S.ba (S.ret (E.Y (E.af rfl) E.J I.t1) (kd _ _ _ _ d.symm b rfl))))))|fL b=>exact S.KB call (kd _ _ _ _ d.symm b rfl)
end
section
variable{cl:Fn->List V->H->aB V}{F:List V}{h h0:H}{X Y:List O}{vs:List V}
theorem E.xX(e:cY cl l F h0=.ok vs (h++X)):ax cl (.aW l) F h0=.ok (.ref (h.length+X.length)) (h++(X++[.list vs])):=by rw[E.aW e,cZ,re]
theorem E.uf(e:cY cl l F h0=.ok vs (h++X))(a:lp vs []=aa d):ax cl (.bF l) F h0=.ok (.ref (h.length+X.length)) (h++(X++[.dict d])):=by rw[E.bF e a,cZ,re]
theorem E.yk{k:dr}{Y:Nat->List O}(a:cY cl l F h0=.ok vs (h++X))(b:cl k.init (.ref (h++X).length::vs) (h++X++[.bw k,.fields []])=.ok .none (h++X++Y (h++X).length)):ax cl (.new k l) F h0=.ok (.ref (h.length+X.length)) (h++(X++Y (h.length+X.length))):=by rw[E.new a b,cZ,re]
variable{k:dr}{L:List (At×V)}{Q:RS->Prop}{l:List CS}
theorem S.DV{n:At}{e:CE}{m:Nat}{m':Nat}(c:L.length<m')(i:m'<=100)(f:getL F 0=aa (.ref h.length))(g:m<200)(b:ax cl e F (h++.bw k::.fields L::(X++[.list [.none]]))=.ok (.int m) (h++.bw k::.fields L::(X++[.list [.none]])))(q:(iQ L n (.ref (h.length+(X.length+3)))).length<m'+1->Wp (aV cl l F (h++.bw k::.fields (iQ L n (.ref (h.length+(X.length+3))))::(X++[.list [.none]]++[.list (eL m .none)]))) Q):Wp (aV cl (.cH (.af 0) n (.aN .mul (.aW [.nil]) e)::l) F (h++.bw k::.fields L::X)) Q:=by
 have a:h++.bw k::.fields L::X++[.list [.none]]=h++.bw k::.fields L::(X++[.list [.none]]):=by simp
 have d:h++.bw k::.fields L::(X++[.list [.none]])++[.list (eL m .none)]=h++.bw k::.fields L::(X++[.list [.none]]++[.list (eL m .none)]):=by simp
 rw[<-a]at b;have r:=BH (h:=h++.bw k::.fields L::X) (v:=.none) g;rw[a,d]at r;rw[a]at b;refine S.cH (E.aN (E.aW (E.cons E.none E.nil)) (a.symm▸b) (a.symm▸r)) (E.af f) (by rw[nC Ez (gf c i),Fj]) ?_;rw[cZ];exact q (fl c)
end
noncomputable def Bm(b:Nat):List O:=[.bw .jU,.fields [(.pI,.ref (b+3)),(.s5,.ref (b+5))],.list [.none],.list [.none,.none,.none],.list [.none],.list []]
theorem W1:aF (n+1) .Ci [.ref h.length,.int 3,.int 0] (h++[.bw .jU,.fields []])=.ok .none (h++Bm h.length):=eY (F:=[.ref h.length,.int 3,.int 0]) (R:=λr=>r=_) rfl rfl (S.DV (m':=1) (rn 0) (by decide) rfl (by decide) (E.af rfl) λl=>S.DV (m:=0) l (by decide) rfl (by decide) (E.af rfl) λ_=>S.nil rfl)
noncomputable def I9(m l c f:V)(b:Nat):List O:=[.bw .qe,.fields [(.tL,m),(.rR,l),(.Av,c),(.A9,f),(.lT,.ref (b+2)),(.ur,.ref (b+3)),(.Bw,.ref (b+4)),(.AS,.fn .qy),(.zn,.none),(.yU,.none),(.zt,.ref (b+5)),(.zR,.ref (b+6)),(.As,.ref (b+7)),(.Bv,.ref (b+8)),(.zk,.ref (b+9)),(.Aq,.ref (b+10)),(.nW,.int 0)],.dict [],.dict [],.dict [],.dict [],.dict [],.dict [],.dict [],.list [],.list []]
theorem Yw:aF (n+1) .CU [.ref h.length,.ref m,.ref l,.ref c,.ref f] (h++[.bw .qe,.fields []])=.ok .none (h++I9 (.ref m) (.ref l) (.ref c) (.ref f) h.length):=eY (F:=[.ref h.length,.ref m,.ref l,.ref c,.ref f]) (R:=λr=>r=_) rfl rfl (S.j7 (m:=1) (rn 0) (by decide) rfl (E.af rfl) λl=>S.j7 l (by decide) rfl (E.af rfl) λl=>S.j7 l (by decide) rfl (E.af rfl) λl=>S.j7 l (by decide) rfl (E.af rfl) λl=>S.lJ l (by decide) rfl (E.bF E.nil rfl) λl=>S.lJ l (by decide) rfl (E.bF E.nil rfl) λl=>S.lJ l (by decide) rfl (E.bF E.nil rfl) λl=>S.j7 l (by decide) rfl E.fn λl=>S.j7 l (by decide) rfl E.none λl=>S.j7 l (by decide) rfl E.none λl=>S.lJ l (by decide) rfl (E.bF E.nil rfl) λl=>S.lJ l (by decide) rfl (E.bF E.nil rfl) λl=>S.lJ l (by decide) rfl (E.bF E.nil rfl) λl=>S.lJ l (by decide) rfl (E.bF E.nil rfl) λl=>S.lJ l (by decide) rfl (E.aW E.nil) λl=>S.lJ l (by decide) rfl (E.aW E.nil) λl=>S.j7 l (by decide) rfl E.J λ_=>S.nil rfl)
noncomputable def VH(a e f:V)(_:Nat):List O:=[.bw .oS,.fields [(.lT,a),(.C,.int 6),(.xj,e),(.xx,f)]]
theorem Vv:aF (n+1) .Df [.ref h.length,.ref a,.int 6,.ref e,.ref f] (h++[.bw .oS,.fields []])=.ok .none (h++VH (.ref a) (.ref e) (.ref f) h.length):=eY (F:=[.ref h.length,.ref a,.int 6,.ref e,.ref f]) (R:=λr=>r=_) rfl rfl (S.j7 (m:=1) (rn 0) (by decide) rfl (E.af rfl) λl=>S.j7 l (by decide) rfl (E.af rfl) λl=>S.j7 l (by decide) rfl (E.af rfl) λl=>S.j7 l (by decide) rfl (E.af rfl) λ_=>S.nil rfl)
noncomputable def Jq(c f:V)(b:Nat):List O:=[.bw .qq,.fields [(.xq,c),(.uc,f),(.C,.ref (b+3)),(.zL,.ref (b+4)),(.zV,.ref (b+5))],.list [.none],.list [.none,.none,.none,.none,.none,.none],.dict [],.list []]
theorem Ym(g:c<h.length)(e:iX h (.ref c) .C=aa (.int 6)):aF (n+1) .Ef [.ref h.length,.ref c,.ref f] (h++[.bw .qq,.fields []])=.ok .none (h++Jq (.ref c) (.ref f) h.length):=by have b:∀X,iX (h++X) (.ref c) .C=aa (.int 6):=λX=>fy (show((iu h c).bind λl=>qZ l .C)=aa (.int 6)from e) λL q e=>ay (MJ q) λk d a=>yR (vt ((nY g).trans d) ((nY (dH.mp a).1).trans a)) e;exact eY (F:=[.ref h.length,.ref c,.ref f]) (R:=λr=>r=_) rfl rfl (S.j7 (m:=1) (rn 0) (by decide) rfl (E.af rfl) λl=>S.j7 l (by decide) rfl (E.af rfl) λl=>S.DV (m:=6) l (by decide) rfl (by decide) (E.M (E.af rfl) (b _)) λl=>S.lJ l (by decide) rfl (E.bF E.nil rfl) λl=>S.lJ l (by decide) rfl (E.aW E.nil) λz=>S.nil rfl)
noncomputable def gu:bX:=⟨λx=>match x with|0=>.int 2|1=>.int (-3)|2=>.int 4|3=>.bool au|4=>.dc 0|_=>.dc 1,λp=>match p with|0=>aa 5|1=>aa (-4)|_=>ah⟩
theorem gu.ok:gu.ok:=by
 refine⟨λx a=>?_,λp v e=>?_⟩;·exact CX (P:=λx=>(gu.r x).ok/\lO (gu.r x)=ty x) ⟨⟨by decide,by decide⟩,rfl⟩ ⟨⟨by decide,by decide⟩,rfl⟩ ⟨⟨by decide,by decide⟩,rfl⟩ ⟨trivial,rfl⟩ ⟨cJ rfl,rfl⟩ ⟨cJ rfl,rfl⟩ a
 ·match p with|0=>injection e with q;subst q;decide|1=>injection e with q;subst q;decide|_+2=>injection e
theorem Rb:lp [.str .fZ,.fn .yc,.str .gE,.fn .Au,.str .iP,.fn .qO,.str .gZ,.fn .qO,.str .e8,.fn .uV,.str .jS,.fn .wC,.str .mu,.fn .y8,.str .pU,.fn .AR,.str .k7,.fn .Aj,.str .fG,.fn .zA,.str .iG,.fn .yZ,.str .i6,.fn .Be,.str .kz,.fn .AX,.str .ji,.fn .BK,.str .hY,.fn .y5] []=aa rF:=rfl
theorem QT:lp [.str .qf,fU 0,.str .vn,fU 1,.str .qV,fU 2] []=aa uW:=rfl
section
variable{h:H}{X:List O}{j:Nat}{k:dr}{L:List (At×V)}
theorem EB(a:X[j]?=aa (.bw k))(b:X[j+1]?=aa (.fields L)):iu (h++X) (h.length+j)=aa L:=vt (gx.trans a) (gx.trans b)
theorem Xu(a:X[j]?=aa (.bw k))(b:X[j+1]?=aa (.fields L))(e:(lU k m).isSome=aj):mR (h++X) m (.ref (h.length+j))=aa (.bw k):=EG (gx.trans a) (gx.trans b) e
theorem xX(e:X[j]?=aa (.list l)):aG (h++X) (h.length+j)=aa l:=wD (gx.trans e)
theorem FH(a:X[j]?=aa (.bw k))(b:X[j+1]?=aa (.fields L))(c:L.length<100):l5 (h++X) (.ref (h.length+j)) n v=aa (h++X.set (j+1) (.fields (iQ L n v))):=by rw[nC (EB a b) c,ra,sx]
theorem Kl(e:b=h.length)(a:X[0]?=aa (.bw .jU))(c:X[1]?=aa (.fields [(.pI,.ref (b+3)),(.s5,.ref (b+5))]))(d:X[3]?=aa (.list l))(i:l.length=3)(g:p<3):aF (f+3) .rG [.ref (h.length+0),fU p,.int x] (h++X)=.ok .none (h++X.set 3 (.list (l.set p (.Z [.int 0,.int x])))):=by subst e;rw[G9 (EB a c) (xX d) i g,sx]
end
noncomputable def mQ(b:Nat)(m:List V):List O:=[.bw .jU,.fields [(.pI,.ref (b+3)),(.s5,.ref (b+5))],.list [.none],.list m,.list [.none],.list [],.list [fU 0,fU 1,fU 2]]
noncomputable def FR(b:Nat)(a:Int)(o p:Nat):List O:=[.bw .jU,.fields [(.pI,.ref (b+3)),(.s5,.ref (b+5))],.list [.none],.list (jz gu.m),.list [.none],.list [],.list [fU 0,fU 1,fU 2],.bw .jP,.fields (sC a),.dict [],.dict [],.bw .qe,.fields [(.tL,.ref b),(.rR,.ref (b+7)),(.Av,.ref (b+9)),(.A9,.ref (b+10)),(.lT,.ref o),(.ur,.ref p),(.Bw,.ref (b+15)),(.AS,.fn .qy),(.zn,.none),(.yU,.none),(.zt,.ref (b+16)),(.zR,.ref (b+17)),(.As,.ref (b+18)),(.Bv,.ref (b+19)),(.zk,.ref (b+20)),(.Aq,.ref (b+21)),(.nW,.int 0)],.dict [],.dict [],.dict [],.dict [],.dict [],.dict [],.dict [],.list [],.list []]
noncomputable def xg(b:Nat)(a:Int):List O:=FR b a (b+23) (b+22)++[.dict [(.int 0,.fn .ou)],.dict rF]
noncomputable def yo(b a:Nat)(c:Int):List O:=xg b c++[.dict [],.dict [],.bw .oS,.fields [(.lT,.ref a),(.C,.int 6),(.xj,.ref (b+24)),(.xx,.ref (b+25))]]
noncomputable def lxF(b a:Nat)(c:Int):List O:=xg b c++[.dict [],.dict [],.bw .oS,.fields [(.lT,.ref a),(.C,.int 6),(.xj,.ref (b+24)),(.xx,.ref (b+25))],.dict uW,.bw .qq,.fields [(.xq,.ref (b+26)),(.uc,.ref (b+28)),(.C,.ref (b+32)),(.zL,.ref (b+33)),(.zV,.ref (b+34))],.list [.none],.list [.none,.none,.none,.none,.none,.none],.dict [],.list []]
noncomputable def ls:Option Int->V|aa i=>.int i|ah=>.none
theorem IX{h:H}{c:List Op}{R:aB V->Prop}(G:N<4000)(C:dM h a c)(J:c.length<100)(st:∀op∈c,op.st)(q:gU c N b gu=ah->b<c.length/\rJ c)(kd:∀o d,gU c N b gu=aa o->a9 h d->aG d (h.length+3)=aa (jz o.2)->R (.ok (.Z [.ref (h.length+3),ls o.1]) d))(L:gU c N b gu=ah->∀d,a9 h d->R (.ok .none d)):R (aF (f+8) .tA [.ref a,.int b,.int N] h):=by
 refine eY (F:=[.ref a,.int b,.int N,.U,.U,.U,.U,.U]) rfl rfl ?_;have h0:=(iD h).symm;have s:ax (aF (f+7)) (.new .jU [(.J 3),(.J 0)]) [.ref a,.int b,.int N,.U,.U,.U,.U,.U] h=.ok (.ref (h.length+0)) (h++Bm h.length):=E.yk (Y:=Bm) (X:=[]) (h0▸E.cons E.J (E.cons E.J E.nil)) W1;refine S.D s ?_;have t:ax (aF (f+7)) (.aW [(.Z [(.gl .ku),(.J 0),(.J 0),(.Z [])]),(.Z [(.gl .ku),(.J 1),(.J 0),(.Z [])]),(.Z [(.gl .ku),(.J 2),(.J 0),(.Z [])])]) [.ref a,.int b,.int N,.ref (h.length+0),.U,.U,.U,.U] (h++Bm h.length)=.ok (.ref (h.length+6)) (h++mQ h.length [.none,.none,.none]):=E.xX (E.cons (E.Z (E.cons E.gl (E.cons E.J (E.cons E.J (E.cons (E.Z E.nil) E.nil))))) (E.cons (E.Z (E.cons E.gl (E.cons E.J (E.cons E.J (E.cons (E.Z E.nil) E.nil))))) (E.cons (E.Z (E.cons E.gl (E.cons E.J (E.cons E.J (E.cons (E.Z E.nil) E.nil))))) E.nil)));refine S.D t (?_:Wp (aV (aF (f+7)) (rN.drop 2) [.ref a,.int b,.int N,.ref (h.length+0),.ref (h.length+6),.U,.U,.U] (h++mQ h.length [.none,.none,.none])) _);have g:∀{F:List V}{X:List O}{p:Nat},getL F 4=aa (.ref (h.length+6))->X[6]?=aa (.list [fU 0,fU 1,fU 2])->p<3->ax (aF (f+7)) (.Y (.af 4) (.J p)) F (h++X)=.ok (fU p) (h++X):=λ{F X p}s t q=>E.Y (E.af s) E.J (gL (xX t) (by match p,q with|0,_=>rfl|1,_=>rfl|2,_=>rfl) (dF q (by decide)));have U:aF (f+7) .rG [.ref (h.length+0),fU 0,.int 5] (h++mQ h.length [.none,.none,.none])=.ok .none (h++mQ h.length [.Z [.int 0,.int 5],.none,.none]):=Kl (f:=f+4) (X:=mQ h.length [.none,.none,.none]) rfl rfl rfl rfl rfl (by decide);have W:aF (f+7) .rG [.ref (h.length+0),fU 1,.int (-4)] (h++mQ h.length [.Z [.int 0,.int 5],.none,.none])=.ok .none (h++mQ h.length (jz gu.m)):=Kl (X:=mQ h.length [.Z [.int 0,.int 5],.none,.none]) rfl rfl rfl rfl rfl (by decide);have y:∀l,mR (h++mQ h.length l) .qw (.ref (h.length+0))=aa (.bw .jU):=λl=>Xu rfl rfl rfl;refine S.cO (E.bH (E.af rfl) (y _) (E.cons (g (p:=0) rfl rfl (by decide)) (E.cons E.J E.nil)) U) (S.cO (E.bH (E.af rfl) (y _) (E.cons (g (p:=1) rfl rfl (by decide)) (E.cons (E.bn E.J) E.nil)) W) (?_:Wp (aV (aF (f+7)) (rN.drop 4) [.ref a,.int b,.int N,.ref (h.length+0),.ref (h.length+6),.U,.U,.U] (h++mQ h.length (jz gu.m))) _));have D:ax (aF (f+7)) (.new .jP [(.J 8),(.J 7),(.J 15),(.J 38),(.af 2)]) [.ref a,.int b,.int N,.ref (h.length+0),.ref (h.length+6),.U,.U,.U] (h++mQ h.length (jz gu.m))=.ok (.ref (h.length+7)) (h++(mQ h.length (jz gu.m)++[.bw .jP,.fields (sC N)])):=E.yk (Y:=λ_=>[.bw .jP,.fields (sC N)]) (E.cons E.J (E.cons E.J (E.cons E.J (E.cons E.J (E.cons (E.af rfl) E.nil))))) (M9 (rn _) rfl);have u:ax (aF (f+7)) (.new .qe [(.af 3),(.new .jP [(.J 8),(.J 7),(.J 15),(.J 38),(.af 2)]),(.bF []),(.bF [])]) [.ref a,.int b,.int N,.ref (h.length+0),.ref (h.length+6),.U,.U,.U] (h++mQ h.length (jz gu.m))=.ok (.ref (h.length+11)) (h++FR h.length N (h.length+13) (h.length+14)):=E.yk (Y:=I9 (.ref (h.length+0)) (.ref (h.length+7)) (.ref (h.length+9)) (.ref (h.length+10))) (E.cons (E.af rfl) (E.cons D (E.cons (E.uf E.nil rfl) (E.cons (E.uf E.nil rfl) E.nil)))) Yw;refine S.D u ?_;refine(?_:Wp (aV (aF (f+7)) (rN.drop 5) [.ref a,.int b,.int N,.ref (h.length+0),.ref (h.length+6),.ref (h.length+11),.U,.U] (h++FR h.length N (h.length+13) (h.length+14))) _);refine S.cH (E.uf (E.cons E.gl (E.cons E.fn E.nil)) GT) (E.af rfl) (FH rfl rfl (cJ rfl)) ?_;refine S.cH (E.uf (E.cons E.str (E.cons E.fn (E.cons E.str (E.cons E.fn (E.cons E.str (E.cons E.fn (E.cons E.str (E.cons E.fn (E.cons E.str (E.cons E.fn (E.cons E.str (E.cons E.fn (E.cons E.str (E.cons E.fn (E.cons E.str (E.cons E.fn (E.cons E.str (E.cons E.fn (E.cons E.str (E.cons E.fn (E.cons E.str (E.cons E.fn (E.cons E.str (E.cons E.fn (E.cons E.str (E.cons E.fn (E.cons E.str (E.cons E.fn (E.cons E.str (E.cons E.fn E.nil)))))))))))))))))))))))))))))) Rb) (E.af rfl) (FH rfl rfl (cJ rfl)) ?_;refine(?_:Wp (aV (aF (f+7)) (rN.drop 7) [.ref a,.int b,.int N,.ref (h.length+0),.ref (h.length+6),.ref (h.length+11),.U,.U] (h++xg h.length N)) _);have z:ax (aF (f+7)) (.new .oS [(.af 0),(.J 6),(.bF []),(.bF [])]) [.ref a,.int b,.int N,.ref (h.length+0),.ref (h.length+6),.ref (h.length+11),.U,.U] (h++xg h.length N)=.ok (.ref (h.length+26)) (h++yo h.length a N):=E.yk (X:=xg h.length N++[.dict []]++[.dict []]) (E.cons (E.af rfl) (E.cons E.J (E.cons (E.uf E.nil rfl) (E.cons (E.uf E.nil rfl) E.nil)))) Vv;have B:ax (aF (f+7)) (.bF [(.str .qf),(.Y (.af 4) (.J 0)),(.str .vn),(.Y (.af 4) (.J 1)),(.str .qV),(.Y (.af 4) (.J 2))]) [.ref a,.int b,.int N,.ref (h.length+0),.ref (h.length+6),.ref (h.length+11),.U,.U] (h++yo h.length a N)=.ok (.ref (h.length+28)) (h++(yo h.length a N++[.dict uW])):=E.uf (X:=yo h.length a N) (E.cons E.str (E.cons (g (p:=0) rfl rfl (by decide)) (E.cons E.str (E.cons (g (p:=1) rfl rfl (by decide)) (E.cons E.str (E.cons (g (p:=2) rfl rfl (by decide)) E.nil)))))) QT;refine S.D (E.yk (X:=yo h.length a N++[.dict uW]) (E.cons z (E.cons B E.nil)) (Ym ?_ (gp (EB rfl rfl) rfl))) ?_;·rw[cZ];exact Nat.add_lt_add_left (cJ rfl) _
 refine S.cH (E.xX (E.cons E.J (E.cons (E.bn E.J) (E.cons E.J (E.cons E.ff (E.cons (g (p:=0) rfl rfl (by decide)) (E.cons (g (p:=1) rfl rfl (by decide)) E.nil))))))) (E.af rfl) (FH rfl rfl (cJ rfl)) ?_;have M:cj h a N 0 gu (h++(mN h.length a N 0 gu++[])):=.mk [];rw[iD]at M;refine(?_:Wp (aV (aF (f+7)) (rN.drop 9) [.ref a,.int b,.int N,.ref (h.length+0),.ref (h.length+6),.ref (h.length+11),.ref (h.length+29),.U] (h++mN h.length a N 0 gu)) _);generalize h++mN h.length a N 0 gu=d at M;refine RJ (R:=λr=>ax (aF (f+7)) (.call (.gl (.fn .Eu)) [(.af 5),(.af 6),(.af 1)]) [.ref a,.int b,.int N,.ref (h.length+0),.ref (h.length+6),.ref (h.length+11),.ref (h.length+29),.U] d=r->Wp (aV (aF (f+7)) (rN.drop 9) [.ref a,.int b,.int N,.ref (h.length+0),.ref (h.length+6),.ref (h.length+11),.ref (h.length+29),.U] d) λr=>R (eC r)) G C J st M gu.ok q (λo s' k n e j u m=>?_) (λe s' k n j m=>S.Dl m (L e n j.keep)) (E.call E.fn (E.cons (E.af rfl) (E.cons (E.af rfl) (E.cons (E.af rfl) E.nil))) rfl);have x:=j.Ah;rw[u]at x;have v:=kd o n e j.keep x;obtain⟨Q,Z⟩:=o;induction Q with|some i=>exact S.Il m (S.ret (E.Z (E.cons (E.M (E.af rfl) (j.M rfl rfl rfl)) (E.cons (E.af rfl) E.nil))) v)|none=>have w:Wp (aV (aF (f+7)) (rN.drop 10) [.ref a,.int b,.int N,.ref (h.length+0),.ref (h.length+6),.ref (h.length+11),.ref (h.length+29),.none] n) λr=>R (eC r):=S.ret (E.Z (E.cons (E.M (E.af rfl) (j.M rfl rfl rfl)) (E.cons (E.af rfl) E.nil))) v;exact S.Dl m w.d7
noncomputable abbrev LK(h h':H):Prop:=∀i l,aG h i=aa l->aG h' i=aa l
theorem LK.cA{h X:H}:LK h (h++X):=λ_ _ e=>gC e
theorem LK.trans(p:LK a b)(q:LK b c):LK a c:=λi l e=>q i l (p i l e)
structure ow(h:H)(t sl:Nat)(L:List Int)(g:Nat):Prop where
 d:cN h t=aa [(.str .kg,.ref sl),(.str .jn,.int g)]
 l:aG h sl=aa (L.map .int)
theorem ow.cA{h X:H}(T:ow h t sl L g):ow (h++X) t sl L g:=⟨a9.cA.bF T.d,gC T.l⟩
theorem Vu{x:Int}{m:Nat}(a:0<m):∃y:Nat,x.fmod m=y/\y<m:=by have h1:=Int.fmod_nonneg_of_pos x (eM.mpr a);have b:=Int.fmod_lt_of_pos x (eM.mpr a);exact(bC ((x.fmod m).toNat) ((abz h1).symm) ((Int.toNat_lt h1).mpr b))
theorem O.fY{h:H}{x:Int}{m:Nat}(a:0<m):∃y:Nat,jW .fY (.int x) (.int m) h=.ok (.int y) h/\y<m/\x.fmod m=y:=by refine ay (Vu a) λy b d=>(d0 y ?_ d b);have e:((m:Int)!=0)=aj:=bne_iff_ne.mpr λc=>sT 0 (by rw[Int.ofNat_eq_zero.mp c]at a;exact a);show(if((m:Int)!=0)=aj then aB.ok (V.int (x.fmod m)) h else .aM)=_;rw[e,b];rfl
section
variable{f t sl g m:Nat}{h:H}{L:List Int}
theorem rI(T:ow h t sl L g)(p:g<L.length)(w:L.length<900)(y:0<m):∃x h',aF (f+1) .qX [.ref t,.int m] h=.ok (.int (x:Nat)) h'/\x<m/\ow h' t sl L (g+1)/\LK h h'/\h'.length=h.length:=by
 refine cu (O.fY (h:=h.set t (.dict [(.str .kg,.ref sl),(.str .jn,.int (g+1:Nat))])) (x:=L[g]) y) λx h1 u z=>?_;have d:cN (h.set t (.dict [(.str .kg,.ref sl),(.str .jn,.int (g+1:Nat))])) t=aa [(.str .kg,.ref sl),(.str .jn,.int (g+1:Nat))]:=tV (oz T.d);have q:=pu (o:=.dict [(.str .kg,.ref sl),(.str .jn,.int (g+1:Nat))]) T.d T.l;refine(A7 x _ ?_ u ⟨d,q⟩ (λi l e=>pu T.d e) vL);refine eY (F:=[.ref t,.int m]) (R:=λr=>r=_) rfl rfl ?_;have k:∀(s:aC)(v:V)(j:H)(n:Nat),cN j t=aa [(.str .kg,.ref sl),(.str .jn,.int n)]->eZ [(.str .kg,.ref sl),(.str .jn,.int n)] (.str s)=aj->eH [(.str .kg,.ref sl),(.str .jn,.int n)] (.str s)=aa v->dy j (.ref t) (.str s)=aa v:=λs v j n a b c=>by exact AJ a b c
 have st:jk h (.ref t) (.str .jn) (.int (g+1:Nat))=aa (h.set t (.dict [(.str .kg,.ref sl),(.str .jn,.int (g+1:Nat))])):=by exact E7 T.d rfl (cJ rfl)
 refine S.pX (E.af rfl) E.str (k .jn _ _ _ T.d rfl rfl) E.J A.add st (S.ret (E.aN (E.Y (E.Y (E.af rfl) E.str (k .kg _ _ _ d rfl rfl)) (E.aN (E.Y (E.af rfl) E.str (k .jn _ _ _ d rfl rfl)) E.J O.sub) (?_:dy _ (.ref sl) (.int ((g+1:Nat)-1))=aa (.int L[g]))) (E.af rfl) h1) rfl);rw[show(((g+1:Nat):Int)-1)=g by lia];exact gL q (by rw[j2,gP p];rfl) (dF (dF p w) (by decide))
end
inductive iK(size:Nat)(h:H)(t sl:Nat)(L:List Int)(g:Nat):aB V->Prop|mk(op:Op)(v:V)(h':H):op.st->(∀j∈op.L,j<size)->(∀p<h.length,bx (Er p h') op v)->ow h' t sl L g->LK h h'->h.length<=h'.length->iK size h t sl L g (.ok v h')
noncomputable def VW:Nat->Bo|0=>.add|1=>.sub|2=>.mul|_=>.Ac
noncomputable def Xb:Nat->Co|0=>.lt|1=>.eq|_=>.ge
noncomputable def Ye:Nat->Pl|0=>.P|1=>.Q|2=>.R|_=>.S
section
variable{cl:Fn->List V->H->aB V}{F:List V}{h:H}{Q:RS->Prop}{l s:List CS}{i:Nat}{x:Nat}
theorem S.lV(e:getL F i=aa (.int x))(t:x=k->Wp (aV cl (s++l) F h) Q)(f:x≠k->Wp (aV cl l F h) Q):Wp (aV cl (.ifs (.ao .eq (.af i) (.J k)) s []::l) F h) Q:=by
 by_cases c:x=k;·exact S.bQ (E.ao (E.af e) E.J O.f7) (T.bool (c▸beq_self_eq_true _)) (t c)
 ·exact S.a8 (E.ao (E.af e) E.J O.f7) (T.bool (beq_eq_false_iff_ne.mpr λq=>c (Gq.mp q))) (f c)
theorem ER{vs:List CE}{ws:List V}{e:CE}{k:Nat}{v:V}(b:∀a,cY cl vs F a=.ok ws a)(c:∀a,ax cl e F a=.ok (.int k) a)(d:ws[k]?=aa v)(f:k<1000):ax cl (.Y (.aW vs) e) F h=.ok v (h++[.list ws]):=E.Y (E.aW (b h)) (c _) (gL dJ d f)
theorem uq{k m:Nat}{e:CE}(d:0<m)(b:∀a,ax cl e F a=.ok (.int k) a)(a:H):ax cl (.aN .fY e (.J m)) F a=.ok (.int (k% m:Nat)) a:=by
 refine cu (O.fY (h:=a) (x:=k) d) λy h1 f c=>?_;have:((k% m:Nat):Int)=y:=by rw[<-c,abA _ (g9 m)];rfl
 rw[this];exact E.aN (b a) E.J h1
theorem tO{k m j:Nat}{e:CE}(d:getL F j=aa (.int m))(f:0<m)(b:∀a,ax cl e F a=.ok (.int k) a)(a:H):ax cl (.aN .fY e (.af j)) F a=.ok (.int (k% m:Nat)) a:=by
 refine cu (O.fY (h:=a) (x:=k) f) λy h1 g c=>?_;have:((k% m:Nat):Int)=y:=by rw[<-c,abA _ (g9 m)];rfl
 rw[this];exact E.aN (b a) (E.af d) h1
theorem EZ{k:Nat}{e:CE}(c:k<900)(b:∀a,ax cl e F a=.ok (.int k) a)(a:H):ax cl (.aN .fdiv e (.J 4)) F a=.ok (.int (k/4:Nat)) a:=by refine E.aN (b a) E.J ?_;rw[O.fdiv (Ba (by exact iU) (by exact eM.mpr (bD (by assumption) (by rfl)))) (by decide) (by decide),abw _ (by decide)];rfl
end
theorem Op.Xo{op:Op}(e:op.L=[]):∀j∈op.L,j<size:=λj m=>by rw[e]at m;cases m
section
variable{size t sl g:Nat}{h h1 h':H}{L:List Int}{op:Op}
theorem iK.bW(st:op.st)(j:∀j∈op.L,j<size)(e:op.bW=aj)(T:ow h1 t sl L g)(k:LK h h1)(a:h.length<=h1.length):iK size h t sl L g (.ok op.b7 h1):=.mk op _ h1 st j (λz z=>bx.mk e) T k a
theorem iK.y4(st:op.st)(j:∀j∈op.L,j<size)(e:op.bW=aj)(T:ow h1 t sl L g)(k:LK h h1)(a:h.length<=h1.length):iK size h t sl L g (.ok op.b7 (h1++[o])):=.bW st j e T.cA (k.trans .cA) (by rw[cZ];exact Nat.le_add_right_of_le a)
theorem R8{f:Nat}(T:ow h t sl L g)(hg:g+4<=L.length)(y:L.length<900)(hs:0<size):iK size h t sl L (g+4) (aF (f+2) .yX [.ref t,.int size] h):=by
 refine eY (F:=[.ref t,.int size,.U,.U,.U,.U]) rfl rfl (iF (rI (f:=f) (m:=12) T (by lia) y (by decide)) λw h1 r1 l1 M k1 W=>iF (rI (f:=f) (m:=3) M (by lia) y (by decide)) λa h2 r2 n N k2 Y=>iF (rI (f:=f) (m:=3) N (by exact kJ (by assumption)) y (by decide)) λb h3 r3 s Q k3 Z=>iF (rI (f:=f) (m:=12) Q (by lia) y (by decide)) λc e r4 l4 d U n4=>?_);have k:=((k1.trans k2).trans k3).trans U;have i:h.length<=e.length:=by rw[n4,Z,Y,W];exact cF _
 refine S.gK (E.Z (E.cons (E.call E.fn (E.cons (E.af rfl) (E.cons E.J E.nil)) r1) (E.cons (E.call E.fn (E.cons (E.af rfl) (E.cons E.J E.nil)) r2) (E.cons (E.call E.fn (E.cons (E.af rfl) (E.cons E.J E.nil)) r3) (E.cons (E.call E.fn (E.cons (E.af rfl) (E.cons E.J E.nil)) r4) E.nil))))) rfl ?_;clear k1 k2 k3 U r1 r2 r3 r4 W Y Z n4 M N Q T hg;have l:∀{o:Op},o.L=[]->∀j∈o.L,j<size:=Op.Xo;have u:=λx=>sU x hs;have D:c/4<3:=by lia
 have a2:a% 2<2:=sU _ (by decide);have b2:b% 2<2:=sU _ (by decide);refine S.lV rfl (λ_=>?_) λ_=>S.lV rfl (λ_=>?_) λ_=>S.lV rfl (λ_=>?_) λ_=>S.lV rfl (λ_=>?_) λ_=>S.lV rfl (λ_=>?_) λ_=>S.lV rfl (λ_=>?_) λ_=>S.lV rfl (λ_=>?_) λ_=>S.lV rfl (λ_=>?_) λ_=>?_;·exact S.ret (E.Z (E.cons E.str (E.cons (E.af rfl) (E.cons E.gl (E.cons (E.aN (E.af rfl) E.J O.sub) E.nil))))) (iK.bW (op:=.set a (c-5)) ⟨n,by lia,by lia⟩ (l rfl) rfl d k i)
 ·exact S.ret (E.Z (E.cons E.str (E.cons (E.af rfl) (E.cons (E.af rfl) E.nil)))) (iK.bW (op:=.dC a b) ⟨by exact bD (by assumption) (by rfl),by exact bD (by assumption) (by rfl),(pG n).trans (pG s).symm⟩ (l rfl) rfl d k i)
 ·refine S.ret (E.Z (E.cons E.str (E.cons (E.af rfl) (E.cons (ER (λ_=>E.cons E.str (E.cons E.str (E.cons E.str (E.cons E.str E.nil)))) (uq (by decide) λ_=>E.af rfl) ?_ ?_) (E.cons E.gl (E.cons (E.af rfl) (E.cons (EZ (by exact bD (by assumption) (by rfl)) (λ_=>E.af rfl) _) E.nil))))))) (iK.y4 (op:=.aN (VW (c% 4)) a b (c/4)) ⟨n,s,D⟩ (l rfl) rfl d k i);(·have:c% 4<4:=sU _ (by decide);generalize c% 4=x at this;rcases Ja this with rfl|rfl|rfl|rfl<;>rfl);·exact dF (sU _ (by decide)) (by decide)
 ·refine S.ret (E.Z (E.cons E.str (E.cons E.J (E.cons (ER (λ_=>E.cons E.str (E.cons E.str (E.cons E.str E.nil))) (uq (by decide) λ_=>E.af rfl) ?_ ?_) (E.cons E.gl (E.cons (E.af rfl) (E.cons (EZ (by exact bD (by assumption) (by rfl)) (λ_=>E.af rfl) _) E.nil))))))) (iK.y4 (op:=.ao (Xb (c% 3)) 3 b (c/4)) ⟨rfl,s,D⟩ (l rfl) rfl d k i);(·have:c% 3<3:=sU _ (by decide);generalize c% 3=x at this;rcases Jp this with rfl|rfl|rfl<;>rfl);·exact dF (sU _ (by decide)) (by decide)
 ·refine S.ret (E.Z (E.cons E.str (E.cons (E.aN E.J (uq (by decide) (λ_=>E.af rfl) _) O.add) (E.cons (E.Y E.str (uq (by decide) (λ_=>E.af rfl) _) ?_) E.nil)))) (iK.bW (op:=.fS (4+a% 2) (Ye (c% 4))) ⟨by exact eN _ _,by lia⟩ (l rfl) rfl d k i);have:c% 4<4:=sU _ (by decide);generalize c% 4=x at this;rcases Ja this with rfl|rfl|rfl|rfl<;>rfl
 ·exact S.ret (E.Z (E.cons E.str (E.cons (E.af rfl) (E.cons (E.aN E.J (uq (by decide) (λ_=>E.af rfl) _) O.add) E.nil)))) (iK.bW (op:=.dU a (4+b% 2)) ⟨n,by exact eN _ _,by lia⟩ (l rfl) rfl d k i)
 ·exact S.ret (E.Z (E.cons E.str (E.cons (E.aN E.J (uq (by decide) (λ_=>E.af rfl) _) O.add) (E.cons (E.af rfl) E.nil)))) (iK.bW (op:=.gD (4+a% 2) b) ⟨by exact eN _ _,by lia,s⟩ (l rfl) rfl d k i)
 ·(have R:∀tt,∀j∈(Op.br tt 3 ((c+b)% size)).L,j<size:=λtt j m=>by rw[dq.mp m];exact u _);have J:c% 2<2:=sU _ (by decide);refine S.ret (E.Z (E.cons (ER (v:=.str (if c% 2=0 then .iG else .i6)) (λ_=>E.cons E.str (E.cons E.str E.nil)) (uq (by decide) λ_=>E.af rfl) ?_ ?_) (E.cons E.J (E.cons (tO rfl hs (λ_=>E.aN (E.af rfl) (E.af rfl) O.add) _) E.nil)))) ?_;(·generalize c% 2=x at J;rcases SV J with rfl|rfl<;>rfl);(·exact dF J (by decide));·by_cases z:c% 2=0;(·rw[if_pos z];exact iK.y4 (op:=.br aj 3 ((c+b)% size)) rfl (R _) rfl d k i);·rw[if_neg z];exact iK.y4 (op:=.br au 3 ((c+b)% size)) rfl (R _) rfl d k i
 have B:∀(k:Nat)(G:H),ax (aF (f+1)) (.aN .add (.af 5) (.J k)) [.ref t,.int size,.int w,.int a,.int b,.int c] G=.ok (.int (c+k:Nat)) G:=λk G=>E.aN (E.af rfl) E.J O.add;by_cases w8:w=8;·(have q:ax (aF (f+1)) (.ao .eq (.af 2) (.J 8)) [.ref t,.int size,.int w,.int a,.int b,.int c] e=.ok (.bool aj) e:=by subst w8;exact E.ao (E.af rfl) E.J O.f7);by_cases r:b=0;(·(have C:ax (aF (f+1)) (.ao .eq (.af 4) (.J 0)) [.ref t,.int size,.int w,.int a,.int b,.int c] e=.ok (.bool aj) e:=by subst r;exact E.ao (E.af rfl) E.J O.f7);refine S.bQ (E.bo (E.dN q (T.bool rfl) (E.dO C))) rfl (S.ba (S.ret (E.Z (E.cons E.str (E.cons (E.af rfl) (E.cons (tO rfl hs (λ_=>E.af rfl) _) (E.cons (tO rfl hs (B 1) _) (E.cons (tO rfl hs (B 2) _) E.nil)))))) (iK.bW (op:=.fz a (c% size) ((c+1)% size) ((c+2)% size)) n (λj m=>?_) rfl d k i)));have m:j∈[c% size,(c+1)% size,(c+2)% size]:=m;simp only[gQ,jD,or_false]at m;rcases m with rfl|rfl|rfl<;>exact u _);·(have C:ax (aF (f+1)) (.ao .eq (.af 4) (.J 0)) [.ref t,.int size,.int w,.int a,.int b,.int c] e=.ok (.bool au) e:=by have:((b:Int)==0)=au:=beq_eq_false_iff_ne.mpr (by lia);rw[<-this];exact E.ao (E.af rfl) E.J O.f7);refine S.a8 (E.bo (E.dN q (T.bool rfl) (E.dO C))) rfl (S.N (S.bQ q rfl (S.ba ?_)));have e1:ax (aF (f+1)) (.aW [(.aN .fY (.af 5) (.af 1)),(.aN .fY (.aN .add (.af 5) (.J 1)) (.af 1))]) [.ref t,.int size,.int w,.int a,.int b,.int c] e=.ok (.ref e.length) (e++[.list (nl [c% size,(c+1)% size])]):=E.aW (E.cons (tO rfl hs (λ_=>E.af rfl) _) (E.cons (tO rfl hs (B 1) _) E.nil));(have e2:rK (.ref e.length) (.int b) (e++[.list (nl [c% size,(c+1)% size])])=.ok (.ref (e++[O.list (nl [c% size,(c+1)% size])]).length) (e++[.list (nl [c% size,(c+1)% size])]++[.list (nl ([c% size,(c+1)% size].take b))]):=by refine(jg dJ).trans ((rH ?_).trans ?_);(·rw[decide_eq_true (g9 b),decide_eq_true (yu (eM.mpr s) (by decide):(b:Int)<2^60)];rfl);·rw[jC];unfold nl;rw[List.map_take]);refine S.ret (E.Z (E.cons E.str (E.cons (E.af rfl) (E.cons (E.lh e1 (E.af rfl) e2) E.nil)))) (.mk (.ee a ([c% size,(c+1)% size].take b)) _ _ ⟨n,by rw[yw];exact di (Nat.min_le_right _ _) (cJ rfl)⟩ (λj m=>?_) (λp hp=>⟨_,rfl,rfl,⟨_,rfl,Er.dW dJ ?_⟩,trivial⟩) (d.cA.cA) (k.trans (LK.cA.trans .cA)) ?_);(·have m:j∈[c% size,(c+1)% size].take b++[]:=m;rw[iD]at m;have m:=Gh m;simp only[gQ,jD,or_false]at m;rcases m with rfl|rfl<;>exact u _);(·rw[cZ];lia);·rw[cZ,cZ];lia
 ·(have q:ax (aF (f+1)) (.ao .eq (.af 2) (.J 8)) [.ref t,.int size,.int w,.int a,.int b,.int c] e=.ok (.bool au) e:=by have:((w:Int)==8)=au:=beq_eq_false_iff_ne.mpr (by lia);rw[<-this];exact E.ao (E.af rfl) E.J O.f7);refine S.a8 (E.bo (E.ig q (T.bool rfl))) rfl (S.N (S.a8 q rfl (S.N (S.lV rfl (λ_=>?_) λ_=>S.lV rfl (λ_=>?_) λ_=>?_))));(·refine S.ret (E.Z (E.cons E.str (E.cons (tO rfl hs (λ_=>E.af rfl) _) E.nil))) (iK.bW (op:=.dA (c% size)) trivial (λj m=>?_) rfl d k i);rw[dq.mp m];exact u _);(·by_cases r:0<b;(·exact S.ret (E.Z (E.cons E.str (E.cons (E.oF (E.ao (E.af rfl) E.J O.gt) (T.bool (decide_eq_true (eM.mpr r))) (E.af rfl)) E.nil))) (iK.bW (op:=.ret (aa a)) n (l rfl) rfl d k i));·exact S.ret (E.Z (E.cons E.str (E.cons (E.oB (E.ao (E.af rfl) E.J O.gt) (T.bool (decide_eq_false (by lia))) (E.bn E.J)) E.nil))) (iK.bW (op:=.ret ah) trivial (l rfl) rfl d k i));·by_cases r:b=0;(·refine S.ret (E.oF (E.ao (E.af rfl) E.J O.f7) (T.bool (by rw[r];rfl)) (E.Z (E.cons E.str (E.cons E.J (E.cons E.str (E.cons E.gl (E.cons E.J E.nil))))))) (iK.bW (op:=.bZ 3 3) ⟨rfl,rfl⟩ (l rfl) rfl d k i));·refine S.ret (E.oB (E.ao (E.af rfl) E.J O.f7) (T.bool (beq_eq_false_iff_ne.mpr (by lia))) (E.Z (E.cons E.str (E.cons (E.af rfl) (E.cons E.str (E.cons E.gl (E.cons (EZ (by exact bD (by assumption) (by rfl)) (λ_=>E.af rfl) _) E.nil))))))) (iK.bW (op:=.bn a (c/4)) ⟨n,D⟩ (l rfl) rfl d k i)
end
inductive Pass(c:List Op)(s:Nat):List Op->Nat->Prop|wA(B:List Bool):B[s]?=aa aj->(∀op∈c,∀g∈op.L,B[g]?=aa aj)->Pass c s (nz c B) s|wN(B:List Bool):B[s]?=aa aj->(∀op∈c,∀g∈op.L,B[g]?=aa aj)->Pass c s (mq c B) s|drop(M:List Bool)(L:List Nat):M[s]?=aa aj->(∀k(op:Op),c[k]?=aa op->M[k]?=aa aj->∀g∈op.eF k,g<c.length->M[g]?=aa aj)->(∀x∈L,x<64)->(∀k(op:Op),c[k]?=aa op->L.getD k 0=iz op L k)->Pass c s (mK M L c) s|xO:Pass c s (j6 c) s|wU:Pass c s (pb c) (dc c s)
structure u9(c:List Op)(s:Nat):Prop where
 bN:c.length<8
 st:∀op∈c,op.st
 mH:∀op∈c,∀g∈op.L,g<c.length
 s:s<c.length
structure zH(c:List Op)(s:Nat):Prop where
 kj:u9 c s
 ops:∃ops,c=ops++[.ret (aa 0)]
noncomputable def CY:Prop:=∀c s,zH c s->rJ c/\∀b d,Pass c s b d->u9 b d/\∀a e,Pass b d a e->a.length<100/\(∀op∈a,op.st)/\∀o,gU c 24 s gu=aa o->gU a 300 e gu=aa o
theorem Yg{f w d i s:Nat}{h:H}{c:List Op}{R:aB V->Prop}(U:w<5)(C:dM h d c)(P:u9 c s)(hs:aG h i=aa (nl [s]))(q:∀o p u s' h',Pass c s u s'->a9 h h'->dM h' o u->aG h' p=aa (nl [s'])->R (.ok (.Z [.ref o,.ref p]) h')):R (aF (f+9) .j9 [.int w,.ref d,.ref i] h):=by
 refine eY (F:=[.int w,.ref d,.ref i,.U]) rfl rfl (S.o8 ?_);have gl:=P.bN;have G:mV c:=⟨dF P.bN (by decide),P.st,λop m g Q=>hG (P.mH op m g Q)⟩;have v:∀{x:Nat},x∈[s]->x=s:=dq.mp;have t:∀x∈[s],x<=c.length:=λx m=>by rw[v m];exact hG P.s
 have n:s∈[s]:=.head _;refine S.lV rfl (λ_=>?_) λW=>S.lV rfl (λ_=>?_) λY=>S.lV rfl (λ_=>?_) λZ=>S.lV rfl (λ_=>?_) λn3=>?_;·refine S.ba (Q5 (R:=λr=>ax (aF (f+8)) (.call (.gl (.fn .zQ)) [(.af 1),(.af 2),(.af 3)]) [.int w,.ref d,.ref i,.fn .c6] h=r->∀l,Wp (aV (aF (f+8)) (.ret (.Z [(.call (.gl (.fn .zQ)) [(.af 1),(.af 2),(.af 3)]),(.af 2)])::l) [.int w,.ref d,.ref i,.fn .c6] h) λr=>R (eC r)) (rp 8 f) C G hs t (λo h' B a b j k e l=>?_) (E.call E.fn (E.cons (E.af rfl) (E.cons (E.af rfl) (E.cons (E.af rfl) E.nil))) rfl) _);exact S.ret (E.Z (E.cons e (E.cons (E.af rfl) E.nil))) (q _ _ _ _ _ (.wA B (j s n) k) a b (a.aW hs))
 ·refine S.ba (aaB (R:=λr=>ax (aF (f+8)) (.call (.gl (.fn .zC)) [(.af 1),(.af 2)]) [.int w,.ref d,.ref i,.fn .c6] h=r->∀l,Wp (aV (aF (f+8)) (.ret (.Z [(.call (.gl (.fn .zC)) [(.af 1),(.af 2)]),(.af 2)])::l) [.int w,.ref d,.ref i,.fn .c6] h) λr=>R (eC r)) (by exact rp _ _) C G hs t (λo h' B a b j k e l=>?_) (E.call E.fn (E.cons (E.af rfl) (E.cons (E.af rfl) E.nil)) rfl) _);exact S.ret (E.Z (E.cons e (E.cons (E.af rfl) E.nil))) (q _ _ _ _ _ (.wN B (j s n) k) a b (a.aW hs))
 ·exact EY (Rs (by exact rp _ _) C G hs t (cJ rfl)) λo h' M L r a b J N z D=>S.ret (E.Z (E.cons (E.call E.fn (E.cons (E.af rfl) (E.cons (E.af rfl) E.nil)) r) (E.cons (E.af rfl) E.nil))) (q _ _ _ _ _ (.drop M L (J s n P.s) N z D) a b (a.aW hs))
 ·exact cG (Wq (by exact rp _ _) C (by exact bD (by assumption) (by rfl)) P.st) λo h' r a b=>S.ret (E.Z (E.cons (E.call E.fn (E.cons (E.af rfl) E.nil) r) (E.cons (E.af rfl) E.nil))) (q _ _ _ _ _ .xO a b (a.aW hs))
 ·exact oW (XT (by exact rp _ _) C (by exact bD (by assumption) (by rfl)) P.st P.mH hs (λx m=>by rw[v m];exact P.s) (cJ rfl)) λo p h' r a b y=>S.ret (E.call E.fn (E.cons (E.af rfl) (E.cons (E.af rfl) E.nil)) r) (q _ _ _ _ _ .wU a b y)
section
variable{cl:Fn->List V->H->aB V}{F:List V}{h h1:H}{v w:V}{Q:RS->Prop}{l b:List CS}
set_option tactic.hygienic true in theorem S.Lf(a:ax cl it F h=.ok (.Z [v,w]) h1)(q:Wp (aV cl b (F.set i v) h1) (Lp Q λF h=>Wp (aV cl b (F.set i w) h) (Lp Q λF h=>Wp (aV cl l F h) Q))):Wp (aV cl (.fr i it b::l) F h) Q:=by
 constructor;show Q ((((ax cl it F h).on F _)).bh _);rw[a];show Q ((match aV cl b (F.set i v) h1 with|.nx F h=>l6 (λv F h=>aV cl b (F.set i v) h) [w] F h|.rt v h=>.rt v h|_=>.aM).bh _);have q:=q.d7;cases e:aV cl b (F.set i v) h1<;>rw[e]at q;case nx F2 h2=>have q:=Wp.d7 q;show Q ((match aV cl b (F2.set i w) h2 with|RS.nx F h=>RS.nx F h|RS.rt v h=>RS.rt v h|_=>RS.aM).bh _);cases e:aV cl b (F2.set i w) h2<;>rw[e]at q;(case nx=>exact Wp.d7 q);(case rt=>exact q);all_goals exact nZ q
 case rt=>exact q
 all_goals exact nZ q
theorem We{b β:Type}{a:b}{k:b->H->aB β}:(aB.ok a h).bind k=k a h:=rfl
theorem E.o4{e n:CE}{i m:Nat}(I:Nat->List V->H->Prop)(e1:ax cl n F h=.ok (.int m) h1)(hm:m<900)(i0:I 0 [] (h1++[.list []]))(sK:∀k bT h,I k bT h->aG h h1.length=aa bT/\bT.length=k)(st:∀k bT h,k<m->I k bT h->∃w h',ax cl e (F.set i (.int k)) h=.ok w h'/\aG h' h1.length=aa bT/\I (k+1) (bT++[w]) (h'.set h1.length (.list (bT++[w])))):∃bT h2,ax cl (.o4 e i n) F h=.ok (.ref h1.length) h2/\I m bT h2:=by
 have hl:(jQ m).length=m:=by unfold jQ;simp
 obtain⟨h2,e2,bT,i2⟩:=Yr (f:=λv h'=>(ax cl e (F.set i v) h').bind λw h'=>jy h1.length w h') (λk h=>∃bT,I k bT h) (jQ m) 0 (h1++[.list []]) ⟨[],i0⟩ (λj v h ej i=>by refine oE i λbT ii=>?_;(try clear i);(have hj:j<m:=by have:=(dH.mp ej).1;exact uv (by assumption) (by assumption));(have:v=.int j:=by unfold jQ at ej;rw[j2,BR (by lia)]at ej;injection ej with q;subst q;rfl);subst this;rw[uw]at ii⊢;refine cG (st j bT h hj ii) λw h' e2 a2 i2=>⟨_,?_,_,i2⟩;show(ax cl e _ h).bind _=_;rw[e2];exact Di a2 (by have:=(sK j bT h ii).2;lia));rw[uw,hl]at i2;refine(iM bT h2 ?_ i2);have sm:small (m:Int)=aj:=wu (by lia) (by exact eM.mpr (bD (by assumption) (by rfl)));show(ax cl n F h).bind _=_;rw[e1,We];dsimp only;rw[if_pos sm,e2];rfl
end
inductive HV(size t sl bT:Nat)(L:List Int)(k:Nat):List V->H->Prop|mk(ops:List Op)(us:List V)(h:H)(ul:us.length=k)(ol:ops.length=k)(ha:aG h bT=aa us)(T:ow h t sl L (4+4*k))(st:∀op∈ops,op.st/\∀j∈op.L,j<size)(en:ga (Er bT h) ops us):HV size t sl bT L k us h
theorem VJ(d:aG h a=aa (jz m))(f:aG h b=aa (jz m)):dE .ne h (.Z [.ref a,ls x]) (.Z [.ref b,ls x])=aa au:=by
 have cd:∀o,eP 2 h (iN o)=aj/\eU 2 h (iN o) (iN o)=aj:=λo=>by induction o<;>first|exact⟨rfl,rfl⟩|refine⟨rfl,?_⟩;show((0:Int)==0&&((_:Int)==_&&aj))=aj;rw[beq_self_eq_true,beq_self_eq_true];rfl
 have g:eP 3 h (.ref a)=aj/\eP 3 h (.ref b)=aj:=by constructor;(·show((aG h a).any λl=>l.all (eP 2 h))=aj;rw[d];show(eP 2 h (iN (m 0))&&(eP 2 h (iN (m 1))&&(eP 2 h (iN (m 2))&&aj)))=aj;rw[(cd _).1,(cd _).1,(cd _).1];rfl);·show((aG h b).any λl=>l.all (eP 2 h))=aj;rw[f];show(eP 2 h (iN (m 0))&&(eP 2 h (iN (m 1))&&(eP 2 h (iN (m 2))&&aj)))=aj;rw[(cd _).1,(cd _).1,(cd _).1];rfl
 have k:eU 3 h (.ref a) (.ref b)=aj:=by show((aG h a).any λx=>(aG h b).any λy=>kf (eU 2 h) x y)=aj;rw[d,f];show(eU 2 h (iN (m 0)) (iN (m 0))&&(eU 2 h (iN (m 1)) (iN (m 1))&&(eU 2 h (iN (m 2)) (iN (m 2))&&aj)))=aj;rw[(cd _).2,(cd _).2,(cd _).2];rfl
 have j:eP 3 h (ls x)=aj/\eU 3 h (ls x) (ls x)=aj:=by induction x<;>first|exact⟨rfl,rfl⟩|exact⟨rfl,beq_self_eq_true _⟩
 show(eqv 4 h _ _).map _=_;have c:∀i,eP 3 h (.ref i)=aj->eP 4 h (.Z [.ref i,ls x])=aj:=λi e=>by show(eP 3 h (.ref i)&&(eP 3 h _&&aj))=aj;rw[e,j.1];rfl
 unfold eqv;rw[c a g.1,c b g.2];show(aa (eU 3 h (.ref a) (.ref b)&&(eU 3 h _ _&&aj))).map _=_;rw[k,j.2];rfl
noncomputable def vu:List Int:=[2,0,0,3,0,0,0,7,2,1,0,0,3,0,1,2,7,0,1,4,9,0,0,5,6,1,1,0]
inductive MT(l:List Int)(size start w1 w2:V)(ci dv:Nat)(c:List Op)(o:pA):List V->H->Prop|mk(a b x y:V)(h:H)(C:dM h ci c)(hd:aG h dv=aa (jz o.2)):MT l size start w1 w2 ci dv c o [.fl l,.ref 2,size,start,w1,w2,.ref ci,.U,.Z [.ref dv,ls o.1],a,b,x,y] h
theorem J9(HP:CY){l:List Int}{size j m a b x y:V}{g i f w u:Nat}{c:List Op}{o:pA}{G:H}(Y:zH c f)(J:w<5)(hw':u<5)(e:gU c 24 f gu=aa o)(C:dM G g c)(hd:aG G i=aa (jz o.2)){Q:RS->Prop}:Wp (aV (aF 14) [(.gK [11,12] (.Z [(.af 6),(.aW [(.af 3)])])),(.fr 10 (.af 9) [(.gK [11,12] (.call (.gl (.fn .j9)) [(.af 10),(.af 11),(.af 12)]))]),(.ifs (.ao .ne (.call (.gl (.fn .tA)) [(.af 11),(.Y (.af 12) (.J 0)),(.J 300)]) (.af 8)) [(.ret .ff)] [])] [.fl l,.ref 2,size,.int f,j,m,.ref g,.U,.Z [.ref i,ls o.1],.Z [.int w,.int u],b,x,y] G) (Lp Q (MT l size (.int f) j m g i c o)):=by
 refine S.gK (E.Z (E.cons (E.af rfl) (E.cons (E.aW (E.cons (E.af rfl) E.nil)) E.nil))) rfl (S.Lf (E.af rfl) ?_);have pass:∀(w:Nat)(v b10:V)(z B s:Nat)(F:List Op)(n:H)(Q:RS->Prop),w<5->dM n z F->u9 F s->aG n B=aa (nl [s])->(∀t p D s' h',Pass F s D s'->a9 n h'->dM h' t D->aG h' p=aa (nl [s'])->Q (.nx [.fl l,.ref 2,size,.int f,j,m,.ref g,.U,.Z [.ref i,ls o.1],v,.int w,.ref t,.ref p] h'))->Wp (aV (aF 14) [(.gK [11,12] (.call (.gl (.fn .j9)) [(.af 10),(.af 11),(.af 12)]))] [.fl l,.ref 2,size,.int f,j,m,.ref g,.U,.Z [.ref i,ls o.1],v,.int w,.ref z,.ref B] n) Q:=by intro w v b10 z B s F n Q J C P hs q;refine Yg (R:=λr=>ax (aF 14) (.call (.gl (.fn .j9)) [(.af 10),(.af 11),(.af 12)]) [.fl l,.ref 2,size,.int f,j,m,.ref g,.U,.Z [.ref i,ls o.1],v,.int w,.ref z,.ref B] n=r->Wp (aV (aF 14) [(.gK [11,12] (.call (.gl (.fn .j9)) [(.af 10),(.af 11),(.af 12)]))] [.fl l,.ref 2,size,.int f,j,m,.ref g,.U,.Z [.ref i,ls o.1],v,.int w,.ref z,.ref B] n) Q) J C P hs (λt p D s' h' a b c d e=>S.gK e rfl (S.nil (q t p D s' h' a b c d))) (E.call E.fn (E.cons (E.af rfl) (E.cons (E.af rfl) (E.cons (E.af rfl) E.nil))) rfl)
 refine oA (HP c f Y) λ_ h=>pass w _ b g G.length f c _ _ J (C.keep .cA) Y.kj dJ (λo1 p1 U s1 h1 P1 K1 C1 S1=>oA (h U s1 P1) λpre1 h=>pass u _ b o1 p1 s1 U h1 _ hw' C1 pre1 S1 (λt p2 c2 s2 W P2 K2 C2 S2=>dT (h c2 s2 P2) λlen2 st2 h=>?_));have h:=h o e;have L:=(a9.trans .cA K1).trans K2;have ix:=gL (k:=0) S2 rfl (by decide);refine IX (N:=300) (R:=λr=>ax (aF 14) (.call (.gl (.fn .tA)) [(.af 11),(.Y (.af 12) (.J 0)),(.J 300)]) [.fl l,.ref 2,size,.int f,j,m,.ref g,.U,.Z [.ref i,ls o.1],.Z [.int w,.int u],.int u,.ref t,.ref p2] W=r->Wp (aV (aF 14) [(.ifs (.ao .ne (.call (.gl (.fn .tA)) [(.af 11),(.Y (.af 12) (.J 0)),(.J 300)]) (.af 8)) [(.ret .ff)] [])] [.fl l,.ref 2,size,.int f,j,m,.ref g,.U,.Z [.ref i,ls o.1],.Z [.int w,.int u],.int u,.ref t,.ref p2] W) _) (by decide) C2 len2 st2 (λq=>by rw[h]at q;injection q) (λo' h3 e3 M m3 ev=>?_) (λq=>by rw[h]at q;injection q) (E.call E.fn (E.cons (E.af rfl) (E.cons (E.Y (E.af rfl) E.J ix) (E.cons E.J E.nil))) rfl);cases h.symm.trans e3;have Z:=(L.trans M).aW hd;exact S.a8 (E.ao ev (E.af rfl) (VJ m3 Z)) rfl (S.N (S.nil (.mk _ _ _ _ _ (C.keep (L.trans M)) Z)))
theorem UZ(N:CY)(l:List Int)(hl:l.length<=63):∃μ,aF 15 .om [.fl l] []=.ok (.bool aj) μ:=by
 refine eY (F:=[.fl l,.U,.U,.U,.U,.U,.U,.U,.U,.U,.U,.U,.U]) (R:=λr=>∃μ,r=.ok (.bool aj) μ) rfl rfl ?_;have s1:rK (.fl l) (.int 28) []=.ok (.ref 0) [.list ((l.map V.int).take 28)]:=by exact rH (by rw[decide_eq_true (show(l.map V.int).length<cM by rw[d5];exact gF hl (by decide))];rfl)
 have s2:jW .add (.ref 0) (.fl vu) [.list ((l.map V.int).take 28)]=.ok (.ref 1) [.list ((l.map V.int).take 28),.list ((l.take 28++vu).map V.int)]:=by show gd (aZ (((l.map V.int).take 28).length+28<cM)) (aB.ok (V.ref 1) ([.list ((l.map V.int).take 28)]++[O.list ((l.map V.int).take 28++vu.map V.int)]))=_;rw[qY (gF (N7 (by rw[yw];exact abB _ _) _) (by decide)),l8,List.map_take];rfl
 have j:(l.take 28++vu).length<900/\28<=(l.take 28++vu).length:=by rw[cZ,yw];exact⟨gF (N7 (abB _ _) _) (by decide),rp 28 _⟩
 generalize l.take 28++vu=L at s2 j;have dd:lp [.str .kg,.ref 1,.str .jn,.int 0] []=aa [(.str .kg,.ref 1),(.str .jn,.int 0)]:=rfl;refine S.D (E.bF (E.cons E.str (E.cons (E.aN (E.lh (E.af rfl) E.J s1) E.gl s2) (E.cons E.str (E.cons E.J E.nil)))) dd) ?_;have T:ow [.list ((l.map V.int).take 28),.list (L.map V.int),.dict [(.str .kg,.ref 1),(.str .jn,.int 0)]] 2 1 L 0:=⟨rfl,rfl⟩;refine(?_:Wp (aV (aF 14) (Ap.drop 1) [.fl l,.ref 2,.U,.U,.U,.U,.U,.U,.U,.U,.U,.U,.U] [.list ((l.map V.int).take 28),.list (L.map V.int),.dict [(.str .kg,.ref 1),(.str .jn,.int 0)]]) _);refine iF (rI (f:=13) (m:=3) T (by lia) j.1 (by decide)) ?_;rintro x h1 r1 l1 T1- -;refine iF (rI (f:=13) (m:=2) T1 (by lia) j.1 (by decide)) ?_;rintro s h2 r2 l2 T2- -;refine iF (rI (f:=13) (m:=5) T2 (by lia) j.1 (by decide)) ?_;rintro G h3 r3 l3 T3- -;refine iF (rI (f:=13) (m:=5) T3 (by lia) j.1 (by decide)) ?_;rintro M h4 r4 l4 T4- -;refine S.gK (E.Z (E.cons (E.aN E.J (E.call E.fn (E.cons (E.af rfl) (E.cons E.J E.nil)) r1) O.add) (E.cons (E.call E.fn (E.cons (E.af rfl) (E.cons E.J E.nil)) r2) E.nil))) rfl (S.gK (E.Z (E.cons (E.call E.fn (E.cons (E.af rfl) (E.cons E.J E.nil)) r3) (E.cons (E.call E.fn (E.cons (E.af rfl) (E.cons E.J E.nil)) r4) E.nil))) rfl ?_);have h41:h4.length≠1:=rm (d8 T4.l);obtain⟨t,d,elc,ii⟩:=E.o4 (cl:=aF 14) (F:=[.fl l,.ref 2,.int (5+x:Nat),.int s,.int G,.int M,.U,.U,.U,.U,.U,.U,.U]) (e:=.call (.gl (.fn .yX)) [(.af 1),(.af 2)]) (n:=.aN .sub (.af 2) (.J 1)) (i:=7) (HV (5+x) 2 1 h4.length L) (by rw[show((4+x:Nat):Int)=(5+x:Nat)-1 by lia];exact E.aN (E.af rfl) E.J O.sub) (by lia) (.mk [] [] _ rfl rfl dJ T4.cA (λ_ m=>nomatch m) trivial) (λk bT h i=>by induction i;exact⟨by assumption,by assumption⟩) (λk bT h hk i=>by induction i with|mk ops t h ul ol u T st Z=>have D:=R8 (f:=12) (size:=5+x) T (by lia) j.1 (by lia);generalize hr:aF (12+2) .yX [.ref 2,.int (5+x:Nat)] h=r at D;induction D with|mk op v h' so jo eo W lk le=>have ha':=lk _ _ u;refine(gv v h' (E.call E.fn (E.cons (E.af rfl) (E.cons (E.af rfl) E.nil)) hr) ha' (.mk (ops++[op]) _ _ (by rw[cZ,ul];rfl) (by rw[cZ,ol];rfl) (i7 (d8 ha')) ⟨?_,?_⟩ (λo m=>?_) ?_));(·rw[lZ (wW ha' W.d)];exact W.d);(·rw[j8 h41];exact W.l);(·rcases d6.mp m with m|m;(·exact st o m);·rw[dq.mp m];exact⟨so,jo⟩);·rw[Er.set];exact(Z.B λi l e=>Er.dW (lk _ _ (Er.aW e).1) (Er.aW e).2).nA (eo _ (d8 u)));induction ii with|mk ops t d ul ol u T st Z=>(have z:(ops++[Op.ret (aa 0)]).length=5+x:=by rw[cZ,ol];exact sO 4 x 1);(have p:zH (ops++[.ret (aa 0)]) s:=by refine⟨⟨by rw[z];lia,λo m=>?_,λo m g mg=>?_,by rw[z];lia⟩,ops,rfl⟩;(·rcases d6.mp m with m|m;(·exact(st o m).1);·rw[dq.mp m];exact(by decide:(0:Nat)<3));·rw[z];rcases d6.mp m with m|m;(·exact(st o m).2 g mg);·rw[dq.mp m]at mg;cases mg);(have ad:jW .add (.ref h4.length) (.ref d.length) (d++[.list [.Z [.str .hY,.int 0]]])=.ok (.ref (d++[O.list [.Z [.str .hY,.int 0]]]).length) (d++[.list [.Z [.str .hY,.int 0]]]++[.list (t++[.Z [.str .hY,.int 0]])]):=by exact(jg (gC u)).trans ((jg dJ).trans (qY (by rw[ul];show 4+x+1<1000;lia))));have C:dM (d++[.list [.Z [.str .hY,.int 0]]]++[.list (t++[.Z [.str .hY,.int 0]])]) (d++[O.list [.Z [.str .hY,.int 0]]]).length (ops++[.ret (aa 0)]):=⟨_,dJ,(Z.B λi l e=>gC (gC (Er.aW e).1)).nA (bx.mk rfl)⟩;refine S.D (E.aN elc (E.aW (E.cons (E.Z (E.cons E.str (E.cons E.J E.nil))) E.nil)) ad) ?_;generalize(d++[O.list [.Z [.str .hY,.int 0]]]).length=Y at C;generalize d++[O.list [.Z [.str .hY,.int 0]]]++[O.list (t++[.Z [.str .hY,.int 0]])]=h6 at C;generalize ops++[Op.ret (aa 0)]=c at z p C;(have Q0:Wp (aV (aF 14) (Ap.drop 4) [.fl l,.ref 2,.int (5+x:Nat),.int s,.int G,.int M,.ref Y,.U,.U,.U,.U,.U,.U] h6) λr=>∃μ,eC r=.ok (.bool aj) μ:=by refine IX (R:=λr=>ax (aF 14) (.call (.gl (.fn .tA)) [(.af 6),(.af 3),(.J 24)]) [.fl l,.ref 2,.int (5+x:Nat),.int s,.int G,.int M,.ref Y,.U,.U,.U,.U,.U,.U] h6=r->Wp (aV (aF 14) (Ap.drop 4) [.fl l,.ref 2,.int (5+x:Nat),.int s,.int G,.int M,.ref Y,.U,.U,.U,.U,.U,.U] h6) λr=>∃μ,eC r=.ok (.bool aj) μ) (by decide) C (by lia) p.kj.st (λ_=>⟨p.kj.s,(N c s p).1⟩) (λo h7 e K hd ev=>?_) (λ_ h7 K ev=>S.D ev (S.bQ (E.ao (E.af rfl) E.none O.Dc) rfl (S.ba (S.ret E.tt ⟨_,rfl⟩)))) (E.call E.fn (E.cons (E.af rfl) (E.cons (E.af rfl) (E.cons E.J E.nil))) rfl);refine S.D ev (S.a8 (E.ao (E.af rfl) E.none O.D3) rfl (S.N (S.Lf (E.Z (E.cons (E.Z (E.cons (E.af rfl) (E.cons (E.af rfl) E.nil))) (E.cons (E.Z (E.cons (E.af rfl) (E.cons (E.af rfl) E.nil))) E.nil))) ?_)));have C7:=C.keep K;have stp:∀{F:List V}{B:H}{U:RS->Prop}{Q J:List V->H->Prop}{b:List CS},Wp (aV (aF 14) b F B) (Lp U Q)->(∀F h,Q F h->J F h)->Wp (aV (aF 14) b F B) (Lp U J):=λ{F B U Q J b}w m=>⟨by have w:=w.d7;cases q:aV (aF 14) b F B<;>rw[q]at w;(case nx=>exact m _ _ w);all_goals exact w⟩;refine stp (J9 N (a:=.U) p l3 l4 e C7 hd) (λF h8 i=>?_);induction i with|mk a b x y h8 C8 hd8=>refine stp (J9 N (a:=.U) p l4 l3 e C8 hd8) (λF h9 i=>?_);induction i with|mk a b x y h9 C9 hd9=>exact S.ret E.tt ⟨_,rfl⟩);exact Q0
inductive dn(c:List Op)(o:pA):Nat->Nat->bX->Prop|ret{n pc:Nat}{s:bX}{op:Op}{i:Int}:c[pc]?=aa op->op.bS pc s=.ret i->o=(aa i,s.m)->dn c o (n+1) pc s|fL{n pc:Nat}{s:bX}{op:Op}:c[pc]?=aa op->op.bS pc s=.fL->o=(ah,s.m)->dn c o (n+1) pc s|go{n pc k:Nat}{s s':bX}{op:Op}:c[pc]?=aa op->op.du pc=ah->op.bS pc s=.go k s'->dn c o n k s'->dn c o (n+1) pc s|du{n pc k:Nat}{s:bX}{op:Op}:c[pc]?=aa op->op.du pc=aa k->dn c o n k s->dn c o n pc s
section
variable{c:List Op}{o:pA}{n pc k:Nat}{s s':bX}{op:Op}
theorem mD(e:op.du pc=aa k):op.bS pc s=.go k s/\(op=.dj/\k=pc+1\/op=.dA k):=by
 induction op<;>(first|injection e;done|injection e with q;subst q);·exact⟨rfl,.inr rfl⟩
 ·exact⟨rfl,.inl ⟨rfl,rfl⟩⟩
theorem dn.B(r:dn c o n pc s):dn c o (n+1) pc s:=by induction r with|ret e a q=>exact .ret e a q|fL e a q=>exact .fL e a q|go e d a _ b=>exact .go e d a b|du e d _ b=>exact .du e d b
theorem dn.lt(r:dn c o n pc s):∃op,c[pc]?=aa op:=by induction r<;>exact⟨_,by assumption⟩
theorem dn.dK(e:c[pc]?=aa op)(a:op.bS pc s=.go k s')(r:dn c o n k s'):dn c o (n+1) pc s:=by induction q:op.du pc with|none=>exact .go e q a r|some k'=>have:=(mD q).1.symm.trans a;cases this;exact .du e q r.B
theorem dn.Lx:∀{n pc:Nat}{s:bX},gU c n pc s=aa o->dn c o n pc s|0,_,_,e=>by injection e|n+1,pc,s,e=>by rw[sI]at e;induction q:c[pc]? with|none=>rw[q]at e;injection e|some op=>rw[q]at e;dsimp only at e;induction a:op.bS pc s with|go k s'=>rw[a]at e;exact .dK q a (dn.Lx e)|ret i=>rw[a]at e;injection e with q;subst q;exact .ret q a rfl|fL=>rw[a]at e;injection e with q;subst q;exact .fL q a rfl
inductive Sk(c:List Op):Nat->Nat->Nat->Prop|b8{t:Nat}{op:Op}:c[t]?=aa op->op.du t=ah->Sk c 0 t t|dK{m pc k t:Nat}{op:Op}:c[pc]?=aa op->op.du pc=aa k->Sk c m k t->Sk c (m+1) pc t
theorem Sk.Z7(a:Sk c m pc t):Sk c m' pc g->m=m'/\t=g:=by induction a generalizing m' with|b8 e q=>intro b;(induction b with|b8=>exact⟨rfl,rfl⟩|dK f d _=>cases e.symm.trans f;rw[q]at d;injection d)|dK e q _ h=>intro b;induction b with|b8 f d=>cases e.symm.trans f;rw[q]at d;injection d|dK f d b=>cases e.symm.trans f;cases q.symm.trans d;refine oA (h b) ?_;rintro rfl rfl;exact⟨rfl,rfl⟩
theorem Sk.at(a:Sk c m pc t):∃op,c[pc]?=aa op:=by induction a<;>exact⟨_,by assumption⟩
theorem Sk.QU(a:Sk c m pc t):∀M:List Bool,M.length=c.length->(∀p:Nat,M[p]?=aa aj->∀m',Sk c m' p t->m<m')->m<M.count au:=by induction a with|@b8 t op e q=>intro M f d;refine List.count_pos_iff.mpr ?_;(have j:t<M.length:=by rw[f];exact(dH.mp e).1);(induction b:M[t]with|false=>rw[<-b];exact List.getElem_mem j|true=>exact absurd (d t (by rw[gP j,b]) 0 (.b8 e q)) (sT 0))|@dK m pc k t op e q a l=>intro M f d;(have h:pc<M.length:=by rw[f];exact(dH.mp e).1);(have n:M[pc]?=aa au:=by rw[gP h];induction b:M[pc]with|false=>rfl|true=>exact absurd (d pc (by rw[gP h,b]) _ (.dK e q a)) (sT _));(have:=l (M.set pc aj) (by rw[vL];exact f) λp i m' b=>by by_cases g:pc=p;(·subst g;rw[<-(Sk.Z7 (.dK e q a) b).1];exact m4 _);·rw[ja g]at i;exact kJ (d p i m' b));rw[<-FE n];exact Gi this
theorem Sk.jp(a:Sk c m pc t):m<c.length:=by
 have:=a.QU (eL c.length au) Gn λp e=>by rw[yz]at e;split at e<;>cases e
 rwa [NV]at this
theorem HD(a:Sk c m pc t):gU c (m+f) pc s=gU c f t s:=by induction a with|b8=>rw[uw]|dK e q _ b=>rw[sO];rw[sI];rw[e];dsimp only;rw[(mD q).1];exact b
theorem Lh:∀{f pc:Nat}{s:bX},gU c f pc s=aa o->gU c (f+g) pc s=aa o|0,_,_,e=>by injection e|f+1,pc,s,e=>by rw[sO];rw[sI]at e⊢;induction q:c[pc]? with|none=>rw[q]at e;injection e|some op=>rw[q]at e;dsimp only at e⊢;induction a:op.bS pc s with|go k s'=>rw[a]at e;exact Lh e|ret i=>rw[a]at e;exact e|fL=>rw[a]at e;exact e
theorem dn.aaY(r:dn c o n pc s):∃m t f,Sk c m pc t/\f+c.length<=n*c.length+1/\gU c f t s=aa o:=by
 have d:∀{pc:Nat}{op:Op}{s:bX},c[pc]?=aa op->(∀k s',op.bS pc s≠.go k s')->op.du pc=ah:=λ{pc op s}Z a=>by induction q:op.du pc with|none=>rfl|some k=>exact absurd (mD q).1 (a k s)
 induction r with|ret e a q=>refine(tN 0 _ 1 (.b8 e (d e λk s'=>by rw[a];exactλe=>by injection e)) ?_ ?_);(·rw[N8,N0 1];exact lF (rp _ _));·rw[sI];rw[e];dsimp only;rw[a,q]|fL e a q=>refine(tN 0 _ 1 (.b8 e (d e λk s'=>by rw[a];exactλe=>nomatch e)) ?_ ?_);(·rw[N8,N0 1];exact lF (rp _ _));·rw[sI];rw[e];dsimp only;rw[a,q]|go e q a _ b=>refine fW b λm t f x y z=>?_;have:=x.jp;refine(tN 0 _ (m+f+1) (.b8 e q) ?_ ?_);(·rw[N8];lia);·rw[sI];rw[e];dsimp only;rw[a];exact(HD x).trans z|du e q _ b=>exact fW b λm t f x y z=>(tN (m+1) t f (.dK e q x) y z)
theorem dn.gU(r:dn c o n pc s)(d:n<=24)(b:c.length<8):Internal.gU c 300 pc s=aa o:=by refine fW r.aaY λm t f x y z=>?_;have:=x.jp;have a:=Nat.mul_le_mul d (N9 b);have e:300=m+f+(300-(m+f)):=(Nat.add_sub_cancel' (by have:=di y (lF a);lia)).symm;rw[e];exact Lh ((HD x).trans z)
theorem MO(e:gi a x=aa j):j∈a:=by
 unfold gi at e;split at e;·exact cW e
 ·injection e
noncomputable def bA.to(l:List Nat):bA->Prop|.go k _=>k∈l|_=>True
theorem WK:bA.to (l++[pc+1]) (bA.val v pc d s):=by induction v with|none=>trivial|some v=>exact vM _ (.head _)
theorem OW:bA.to (l++[pc+1]) (.go (pc+1) s):=vM _ (.head _)
theorem abg:bA.to (op.eF pc) (op.bS pc s):=by induction op with|aN|bn|fS|dU=>all_goals exact WK|br t x j=>show(if(s.r x).b=t then j else pc+1)∈[j,pc+1];by_cases e:(s.r x).b=t;(·rw[if_pos e];exact .head _);·rw[if_neg e];exact .tail _ (.head _)|fz x a b c=>show iI a b c _∈[a,b,c];unfold iI;split;(·exact .tail _ (.head _));·split;(·exact .tail _ (.tail _ (.head _)));·exact .head _|ee x d=>show(gi d (s.r x).i).getD (pc+1)∈(d++[])++[pc+1];(induction q:gi d (s.r x).i with|some j=>exact ma _ (ma _ (MO q))|none=>exact vM _ (.head _))|dA j=>exact ma _ (.head _)|ret x=>induction x<;>trivial|_=>exact OW
theorem tP(a:op.bS pc s=.go k s'):k∈op.eF pc:=(congrArg (bA.to (op.eF pc)) a).mp abg
theorem rJ.of(e:c=ops++[.ret (aa 0)])(d:∀op∈c,∀g∈op.L,g<c.length):rJ c:=by
 intro k op s s' k' b a;have g:=tP a;have f:=(dH.mp b).1;rcases d6.mp g with m|m;·exact d op (cW b) _ m
 ·induction q:op.ui with|false=>rw[q]at m;cases m|true=>rw[q,if_pos rfl]at m;rw[dq.mp m];refine N1 f λz=>?_;(have:c[k]?=aa (.ret (aa 0)):=by rw[e,cZ]at z;rw[e,m5 (by simp at z;lia)];(have:k-ops.length=0:=by simp at z;lia);rw[this];rfl);cases b.symm.trans this;injection q
noncomputable def bA.zZ(w:Option Nat)(s:bX):bA->Prop|.go _ s'=>∀x,w≠aa x->s'.r x=s.r x|_=>True
theorem KC:bA.zZ (aa d) s (.go k (s.set d v)):=λz a=>if_neg λq=>a (congrArg aa q.symm)
theorem U3:bA.zZ (aa d) s (bA.val v pc d s):=by induction v with|none=>trivial|some v=>exact KC
theorem Wr:bA.zZ op.wr s (op.bS pc s):=by induction op with|aN|bn|fS|dU=>all_goals exact U3|set|fg|dC|ao|bZ=>all_goals exact KC|ret x=>induction x<;>trivial|_=>exactλ_ _=>rfl
theorem IA(a:op.bS pc s=.go k s'):∀x,op.wr≠aa x->s'.r x=s.r x:=(congrArg (bA.zZ op.wr s) a).mp Wr
end
section
variable{c:List Op}{o:pA}{n pc k:Nat}{s s':bX}{op:Op}
noncomputable def bA.FZ(f:Nat->Nat):bA->bA|.go k s=>.go (f k) s|a=>a
theorem Id{f:Nat->Nat}{a b c:Nat}{x:Int}:iI (f a) (f b) (f c) x=f (iI a b c x):=by
 unfold iI;split;·rfl
 ·split<;>rfl
theorem MM:gi (a.map f) x=(gi a x).map f:=by
 unfold gi;rw[d5];split;·exact j2 ..
 ·rfl
theorem Y5{f:Nat->Nat}{a:List Nat}:(gi (a.map f) x).getD (f d)=f ((gi a x).getD d):=by rw[MM];induction gi a x<;>rfl
theorem Hv(h:f (pc+1)=p+1):bA.go (p+1) s'=bA.FZ f (.go (pc+1) s'):=congrArg (bA.go · s') h.symm
theorem Za(h:f (pc+1)=p+1):bA.val v p d s=(bA.val v pc d s).FZ f:=by induction v with|none=>rfl|some v=>exact Hv h
theorem E4(e:op.ui=aj->f (pc+1)=p+1):(op.fk f).bS p s=(op.bS pc s).FZ f:=by induction op with|aN|bn|fS|dU=>all_goals exact Za (e rfl)|br t x j=>show bA.go (if(s.r x).b=t then f j else p+1) s=.go (f (if(s.r x).b=t then j else pc+1)) s;rw[<-e rfl,apply_ite f]|fz a b c d=>exact congrArg (bA.go · s) Id|ee x g=>show bA.go ((gi (g.map f) _).getD (p+1)) s=.go (f _) s;rw[<-e rfl,Y5]|dA=>rfl|ret x=>(induction x with|none=>rfl|some x=>rfl)|_=>exact Hv (e rfl)
theorem Mg(e:op.du pc=ah):(op.fk f).du p=ah:=by induction op<;>first|rfl|injection e
theorem I6(e:c[pc]?=aa op):dc c (pc+1)=dc c pc+if op.pP then 0 else 1:=by unfold dc;rw[D4 e,cZ];induction op.pP<;>rfl
theorem Yu(e:c[pc]?=aa op)(h:op.pP=au):(lW c)[dc c pc]?=aa op:=by
 have a:c=c.take (pc+1)++c.drop (pc+1):=(NH _ _).symm;unfold dc;conv=>lhs;arg 1;rw[a];unfold lW
 rw[N4];have:=D4 e;unfold lW at this⊢;rw[this,h,re,m5 (cF _),qi];rfl
theorem dn.wU(r:dn c o n pc s):dn (pb c) o n (dc c pc) s:=by
 have d:∀{pc:Nat}{op:Op},c[pc]?=aa op->op.pP=au->(pb c)[dc c pc]?=aa (op.fk (dc c))/\dc c (pc+1)=dc c pc+1:=λ{pc op}e h=>by refine⟨by unfold pb;rw[j2,Yu e h];rfl,?_⟩;rw[I6 e,h];rfl
 have i:∀{pc:Nat}{op:Op}{s:bX},(∀k,op.bS pc s≠.go k s)->op.pP=au:=λ{pc op s}h=>by induction op<;>first|rfl|exact absurd rfl (h _)
 induction r with|ret e a q=>exact oA (d e (i λk z=>by rw[a]at z;injection z)) λg f=>.ret g ((E4 λZ=>f).trans (by rw[a];rfl)) q|fL e a q=>exact oA (d e (i λk z=>by rw[a]at z;injection z)) λg f=>.fL g ((E4 λZ=>f).trans (by rw[a];rfl)) q|@go n pc k s s' op e q a _ b=>exact oA (d e (by induction op<;>first|rfl|injection q)) λg f=>.go g (Mg q) ((E4 λZ=>f).trans (by rw[a];rfl)) b|@du n pc k s op e q _ b=>rcases(mD (s:=s) q).2 with⟨rfl,rfl⟩|rfl;(·rw[I6 e]at b;exact b);·exact .du (d e rfl).1 rfl b
noncomputable def mU(a:Kn)(s:bX):Prop:=∀r v,a r=aa v->s.r r=v
theorem HE(h:lO v≠2):(lY d v).bS pc s=.go (pc+1) (s.set d v):=by induction v<;>first|rfl|exact absurd rfl h
theorem Hh:(iH j).bS pc s=.go (j.getD (pc+1)) s:=by induction j<;>rfl
theorem Ie(d:mU b s):∀{l:List Nat}{vs:List a7},g8 b l=aa vs->vs=l.map s.r|[],vs,e=>by injection e with q;subst q;rfl|a::l,vs,e=>by unfold g8 at e;induction c:b a with|none=>rw[c]at e;injection e|some w=>rw[c]at e;induction cl:g8 b l with|none=>rw[cl]at e;injection e|some ws=>rw[cl]at e;injection e with q;subst q;rw[Ie d cl,<-d a w c];rfl
theorem SH(e:op.jJ (op.bR.map s.r)=aa (aa v)):op.bS pc s=.go (pc+1) (s.set (op.wr.getD 0) v):=by generalize g:aa v=r at e;generalize f:op.bR.map s.r=l at e;induction w7 e with|aN o d a b x y=>obtain⟨c,h⟩:=vQ (show[s.r a,s.r b]=[.int x,.int y]from f);show bA.val ((o.ev (s.r a).i (s.r b).i).map .int) pc d s=_;rw[c,(vQ h).1];show bA.val ((o.ev x y).map .int) pc d s=_;rw[<-g];rfl|ao o d a b x y=>obtain⟨c,h⟩:=vQ (show[s.r a,s.r b]=[.int x,.int y]from f);injection g with q;subst q;show bA.go (pc+1) (s.set d (.bool (o.ev (s.r a).i (s.r b).i)))=_;rw[c,(vQ h).1];rfl|bZ d a b=>obtain⟨c,_⟩:=vQ (show[s.r a]=[.bool b]from f);injection g with q;subst q;show bA.go (pc+1) (s.set d (.bool !(s.r a).b))=_;rw[c];rfl|bn d a x=>obtain⟨c,_⟩:=vQ (show[s.r a]=[.int x]from f);show bA.val ((hW (-(s.r a).i)).map .int) pc d s=_;rw[c];show bA.val ((hW (-x)).map .int) pc d s=_;rw[<-g];rfl
theorem MU(a:mU d s)(k:fh d)(st:op.st):(i5 d op).bS pc s=op.bS pc s:=CB (P:=λq=>q.bS pc s=op.bS pc s) rfl (λe c=>by subst e;exact(HE (k _ _ c).2.2).trans (congrArg (λv=>bA.go (pc+1) (s.set _ v)) (a _ _ c).symm)) (λ{t x j b}e c=>by subst e;rw[Hh];show bA.go _ s=.go (if(s.r x).b=t then j else pc+1) s;rw[a x _ c];show bA.go ((if b=t then aa j else ah).getD (pc+1)) s=.go (if b=t then j else pc+1) s;split<;>rfl) (λ{x j k l i}e c=>by subst e;show bA.go (iI j k l i) s=.go (iI j k l (s.r x).i) s;rw[a x _ c];rfl) (λ{x h i}e c=>by subst e;rw[Hh];show bA.go _ s=.go ((gi h (s.r x).i).getD (pc+1)) s;rw[a x _ c];rfl) λz e f=>by have g:=Ie a e;subst g;exact(HE (D7 st f).2).trans (SH f).symm
theorem PX(e:op.uZ=aa v)(w:op.wr=aa r)(a:op.bS pc s=.go k s'):s'.r r=v:=by induction op with|set|fg=>all_goals injection e with e;injection w with w;injection a with _ a;subst e;subst w;subst a;exact if_pos rfl|_=>injection e
theorem Ze{c:Kn}(f:mU c s)(a:op.bS pc s=.go k s'):mU (sv c op) s':=by intro r v e;unfold sv at e;induction w:op.wr with|none=>rw[w]at e;rw[IA a r (w▸λq=>by injection q)];exact f r v e|some d=>rw[w]at e;replace e:(if r=d then op.uZ else c r)=aa v:=e;by_cases b:r=d;(·rw[if_pos b]at e;subst b;exact PX e w a);·rw[if_neg b]at e;rw[IA a r (w▸λq=>b (bU q).symm)];exact f r v e
theorem mU.no:mU mz s:=λ_ _ e=>by injection e
theorem Ma(st:∀op∈c,op.st):∀k,fh (FK c B k)|0=>fh.no|k+1=>by(have a:fh (KA c B k):=by unfold KA;split;(·exact fh.no);·exact Ma st k);induction e:c[k]? with|none=>show fh (match c[k]? with|aa op=>_|ah=>mz);rw[e];exact fh.no|some op=>rw[DY e];exact a.new (ES (st op (cW e)) a)
theorem FC(st:∀op∈c,op.st)(k:Nat):fh (KA c B k):=by
 unfold KA;split;·exact fh.no
 ·exact Ma st k
theorem dn.wA{B:List Bool}(st:∀op∈c,op.st)(j:∀op∈c,∀g∈op.L,B[g]?=aa aj)(r:dn c o n pc s):mU (KA c B pc) s->dn (nz c B) o n pc s:=by
 have h:∀{pc k:Nat}{op:Op}{s s':bX},c[pc]?=aa op->mU (KA c B pc) s->op.bS pc s=.go k s'->mU (KA c B k) s':=λ{pc k op s s'}e d a=>by(have i:∀k,B[k]?=aa aj->mU (KA c B k) s':=λk e=>by rw[show KA c B k=mz from if_pos e];exact mU.no);rcases d6.mp (tP a)with m|m;(·exact i k (j op (cW e) k m));·(have:k=pc+1:=by split at m;(·exact dq.mp m);·cases m);subst this;by_cases b:B[pc+1]?=aa aj;(·exact i _ b);·rw[show KA c B (pc+1)=FK c B (pc+1)from if_neg b,DY e];exact Ze d ((MU d (FC st _) (st op (cW e))).trans a)
 have bS:∀{pc:Nat}{op:Op}{s:bX},c[pc]?=aa op->mU (KA c B pc) s->(nz c B)[pc]?=aa (i5 (KA c B pc) op)/\(i5 (KA c B pc) op).bS pc s=op.bS pc s:=λ{pc op s}e d=>⟨by rw[Js,e];rfl,MU d (FC st _) (st op (cW e))⟩;induction r with|ret e a q=>intro d;refine oA (bS e d) λx y=>?_;exact .ret x (y.trans a) q|fL e a q=>intro d;refine oA (bS e d) λx y=>?_;exact .fL x (y.trans a) q|go e q a _ f=>intro d;refine oA (bS e d) λx y=>?_;exact .dK x (y.trans a) (f (h e d a))|@du n pc k s op e q _ f=>intro d;have a:=(mD (s:=s) q).1;(have l:i5 (KA c B pc) op=op:=by rcases(mD (s:=s) q).2 with⟨rfl,rfl⟩|rfl<;>rfl);have x:=(bS e d).1;rw[l]at x;exact .du x q (f (h e d a))
noncomputable def bA.lR(w:Option Nat)(s c:bX)(b:bA):bA->Prop|.ret i=>b=.ret i|.fL=>b=.fL|.go k s'=>∃a,b=.go k a/\s'.m=a.m/\∀x,(s.r x=c.r x\/w=aa x)->s'.r x=a.r x
theorem vC(b:s.m=a.m):bA.lR (aa d) s a (.go k (a.set d v)) (.go k (s.set d v)):=d0 _ rfl b λx h=>by show(if x=d then v else s.r x)=if x=d then v else a.r x;by_cases c:x=d;(·rw[if_pos c,if_pos c]);·rw[if_neg c,if_neg c];exact h.resolve_right λq=>c (bU q).symm
theorem Ar(b:s.m=a.m):bA.lR (aa d) s a (bA.val v pc d a) (bA.val v pc d s):=by induction v with|none=>rfl|some v=>exact vC b
theorem AB(b:s.m=a.m):bA.lR ah s a (.go k a) (.go k s):=d0 _ rfl b λx h=>h.resolve_right λq=>by injection q
theorem Fs(k:∀r∈op.bR,s.r r=e.r r)(f:s.m=e.m):bA.lR op.wr s e (op.bS pc e) (op.bS pc s):=by have g:=λ{a}m=>k a m;induction op with|set=>exact vC f|fg=>exact vC f|dC d a=>show bA.lR (aa d) s e (.go _ (e.set d (e.r a))) _;rw[<-g (.head _)];exact vC f|aN o d a b=>show bA.lR (aa d) s e (bA.val ((o.ev (e.r a).i (e.r b).i).map .int) pc d e) _;rw[<-g (.head _),<-g (.tail _ (.head _))];exact Ar f|ao o d a b=>show bA.lR (aa d) s e (.go _ (e.set d (.bool (o.ev (e.r a).i (e.r b).i)))) _;rw[<-g (.head _),<-g (.tail _ (.head _))];exact vC f|bZ d a=>show bA.lR (aa d) s e (.go _ (e.set d (.bool !(e.r a).b))) _;rw[<-g (.head _)];exact vC f|bn d a=>show bA.lR (aa d) s e (bA.val ((hW (-(e.r a).i)).map .int) pc d e) _;rw[<-g (.head _)];exact Ar f|fS d p=>exact Ar f|dU d a=>show bA.lR (aa d) s e (bA.val ((e.m (e.r a).p).map .int) pc d e) _;rw[<-g (.head _),<-f];exact Ar f|gD p a=>show bA.lR ah s e (.go _ (e.dW (e.r p).p (e.r a).i)) _;rw[<-g (.head _),<-g (.tail _ (.head _))];exact d0 _ rfl (congrArg (λ(m:Nat->Option Int)x=>if x=(s.r p).p then aa (s.r a).i else m x) f) λx h=>h.resolve_right λq=>by injection q|br t x j=>show bA.lR ah s e (.go (if(e.r x).b=t then j else pc+1) e) _;rw[<-g (.head _)];exact AB f|fz x a b c=>show bA.lR ah s e (.go (iI a b c (e.r x).i) e) _;rw[<-g (.head _)];exact AB f|ee x l=>show bA.lR ah s e (.go ((gi l (e.r x).i).getD (pc+1)) e) _;rw[<-g (.head _)];exact AB f|ret x=>(induction x with|none=>rfl|some x=>show bA.ret (e.r x).i=.ret (s.r x).i;rw[<-g (.head _)])|_=>exact AB f
theorem Ho(h:op.quiet=aj):∃d v,op.wr=aa d/\op.bS pc s=.go (pc+1) (s.set d v):=by induction op<;>first|exact(iM _ _ rfl rfl)|injection h
set_option tactic.hygienic true in theorem Mn(h:op.self=aj):∃s',op.bS pc s=.go (pc+1) s'/\s'.m=s.m/\∀x,s'.r x=s.r x:=by
 induction op<;>first|injection h;done|skip
 rename_i d a;have:d=a:=cr h;subst this;refine(d0 _ rfl rfl (λx=>?_));show(if x=d then s.r d else s.r x)=s.r x;split;·rename_i q;rw[q]
 ·rfl
theorem Wb(h:op.self=aj)(w:op.wr=aa x):x∈op.bR:=by induction op with|dC d b=>rw[<-bU w,cr h];exact .head _|_=>injection h
theorem dn.drop(st:∀op∈c,op.st)(R:∀k(op:Op),c[k]?=aa op->M[k]?=aa aj->∀g∈op.eF k,g<c.length->M[g]?=aa aj)(h6:∀x∈L,x<64)(hL:∀k(op:Op),c[k]?=aa op->L.getD k 0=iz op L k)(r:dn c o n pc s):∀b:bX,M[pc]?=aa aj->s.m=b.m->(∀x,(L.getD pc 0).testBit x=aj->s.r x=b.r x)->dn (mK M L c) o n pc b:=by
 have y:∀{pc:Nat}{op:Op},c[pc]?=aa op->(mK M L c)[pc]?=aa (k8 M L pc op):=λe=>by unfold mK;rw[uz,e];rfl
 have N:∀{pc:Nat}{op:Op},c[pc]?=aa op->∀x,(L.getD pc 0).testBit x=(((op.eF pc).any λg=>(L.getD g 0).testBit x)&&aZ (op.wr≠aa x)||aZ (x∈op.bR)):=λ{pc op}e x=>by rw[hL _ _ e,C3 h6 (st op (cW e))]
 have Q:∀{pc:Nat}{op:Op}{s b:bX},c[pc]?=aa op->(∀x,(L.getD pc 0).testBit x=aj->s.r x=b.r x)->∀r∈op.bR,s.r r=b.r r:=λ{pc op s b}e h r m=>h r (by rw[N e,decide_eq_true m,Bool.or_true]);have D:∀{pc k:Nat}{op:Op}{x:Nat},c[pc]?=aa op->k∈op.eF pc->(L.getD k 0).testBit x=aj->op.wr≠aa x->(L.getD pc 0).testBit x=aj:=λ{pc k op x}e m t w=>by rw[N e,decide_eq_true w,BQ,Go.mpr (bC k m t)];rfl
 have G:∀{pc:Nat}{op:Op},c[pc]?=aa op->M[pc]?=aa aj->k8 M L pc op=op\/(k8 M L pc op=.dj/\(op.self=aj\/op.quiet=aj/\qN L pc op=au)):=λ{pc op}e m=>by unfold k8;rw[if_pos m];cases a:op.self;(·cases q:op.quiet;(·exact .inl rfl);·cases w:qN L pc op;(·exact .inr ⟨rfl,.inr ⟨rfl,rfl⟩⟩);·exact .inl rfl);·exact .inr ⟨rfl,.inl rfl⟩
 have U:∀{pc:Nat}{op:Op}{s:bX},(op.self=aj\/op.quiet=aj/\qN L pc op=au)->(∀k s',op.bS pc s≠.go k s')->False:=λ{pc op s}h z=>by rcases h with h|⟨h,_⟩;(·refine ay (Mn (pc:=pc) (s:=s) h) λs' a _=>?_;exact z _ _ a);·refine gw (Ho (pc:=pc) (s:=s) h) λd v _ a=>?_;exact z _ _ a
 induction r with|@ret n pc s op i e a q=>intro b m j f;have x:=Fs (pc:=pc) (Q e f) j;rw[a]at x;rcases G e m with k|⟨_,k⟩;(·exact .ret (by rw[y e,k]) x (by rw[q,j]));·exact(U k λk s' z=>by rw[a]at z;injection z).elim|@fL n pc s op e a q=>intro b m j f;have x:=Fs (pc:=pc) (Q e f) j;rw[a]at x;rcases G e m with k|⟨_,k⟩;(·exact .fL (by rw[y e,k]) x (by rw[q,j]));·exact(U k λk s' z=>by rw[a]at z;injection z).elim|@go n pc k s s' op e q a r C=>intro b m j f;refine oE r.lt λopk F=>?_;have g:=tP a;have mk:=R pc op e m k g (dH.mp F).1;rcases G e m with J|⟨J,l⟩;(·have x:=Fs (pc:=pc) (Q e f) j;rw[a]at x;refine cu x λs2' Z m2 h2=>.go (by rw[y e,J]) q Z (C s2' mk m2 λx t=>h2 x ?_);by_cases w:op.wr=aa x;(·exact .inr w);·exact .inl (f x (D e g t w)));·(have dj:∀p,op.bS pc s=.go (pc+1) p->(∀x,(L.getD (pc+1) 0).testBit x=aj->p.r x=b.r x)->p.m=b.m->dn (mK M L c) o (n+1) pc b:=λp z1 z2 z3=>by cases a.symm.trans z1;exact .du (by rw[y e,J]) rfl (C b mk z3 z2).B);rcases l with l|⟨l,wn⟩;(·refine cu (Mn (pc:=pc) (s:=s) l) λp u m0 r0=>?_;have B:=tP u;refine dj p u (λx t=>?_) (m0.trans j);rw[r0 x];by_cases w:op.wr=aa x;(·refine f x ?_;have:=Wb l w;rw[N e,decide_eq_true this,Bool.or_true]);·exact f x (D e B t w));·refine gw (Ho (pc:=pc) (s:=s) l) λd v W u=>?_;have B:=tP u;refine dj _ u (λx t=>?_) j;(have Y:x≠d:=λq=>by subst q;(have:qN L pc op=aj:=by unfold qN;rw[W];dsimp only;rw[Cq];exact Go.mpr (bC _ B t));rw[wn]at this;injection this);show(if x=d then v else s.r x)=b.r x;rw[if_neg Y];exact f x (D e B t (by rw[W];exactλq=>Y (bU q).symm))|@du n pc k s op e q r C=>intro b m j f;refine oE r.lt λopk F=>?_;have a:=(mD (s:=s) q).1;have g:=tP a;(have same:k8 M L pc op=op:=by unfold k8;rw[if_pos m];rcases(mD (s:=s) q).2 with⟨rfl,rfl⟩|rfl<;>rfl);(have w:op.wr=ah:=by rcases(mD (s:=s) q).2 with⟨rfl,rfl⟩|rfl<;>rfl);exact .du (by rw[y e,same]) q (C b (R pc op e m k g (dH.mp F).1) j λx t=>f x (D e g t (w▸λz=>by injection z)))
end
section
variable{c:List Op}{o:pA}{n pc k t m:Nat}{s s':bX}{op:Op}
theorem Sd(h:Sk c m k t):∀n,m<n->jR c a n k=t:=by induction h with|@b8 t op e q=>intro n b;obtain⟨n,rfl⟩:∃x,n=x+1:=⟨n-1,(vH (gF (lC _) b)).symm⟩;exact y0 e q|@dK m pc k t op e q _ d=>intro n b;obtain⟨n,rfl⟩:∃x,n=x+1:=⟨n-1,(vH (gF (lC _) b)).symm⟩;exact(ym e q).trans (d n (BS b))
theorem EC(h:Sk c m k t):cP c k=t:=Sd h _ h.jp
theorem Sk.Jb(h:Sk c m k t):∃op,c[t]?=aa op/\op.du t=ah:=by induction h with|b8 e q=>exact(bC _ e q)|dK _ _ _ a=>exact a
theorem sH(e:c[pc]?=aa op):(j6 c)[pc]?=aa (kZ c pc op):=by unfold j6;rw[uz,e];rfl
inductive qF(c:List Op):Nat->Nat->Prop|b8{k:Nat}:qF c k k|dK{k x j:Nat}{op:Op}:c[k]?=aa op->op.du k=aa j->qF c j x->qF c k x
theorem Km:∀{n k:Nat},qF c k (jR c a n k)\/jR c a n k=a|0,k=>.inr rfl|n+1,k=>by induction e:c[k]? with|none=>rw[Fk e];exact .inl .b8|some op=>induction q:op.du k with|none=>rw[y0 e q];exact .inl .b8|some y=>rw[ym e q];exact(Km).imp (.dK e q) id
theorem Mr:qF c k (cP c k):=by
 have h:qF c k (jR c k c.length k)\/jR c k c.length k=k:=Km;rcases h with h|h;·exact h
 ·show qF c k (jR c k c.length k);rw[h];exact .b8
theorem qF.sk(w:qF c k x)(h:Sk c m x t):∃m',Sk c m' k t:=by induction w with|b8=>exact⟨m,h⟩|dK e q _ a=>refine oE (a h) λm' h'=>?_;exact⟨_,.dK e q h'⟩
theorem dn.oX(r:dn (j6 c) o n t s):∀(d m k:Nat),c.length-k<=d->Sk c m k t->dn (j6 c) o n k s:=by intro d;induction d with|zero=>intro m k f h;refine oE h.at λop e=>?_;have:=(dH.mp e).1;lia|succ d i=>intro m k f h;induction h with|b8 e q=>exact r|@dK m k j t op e q h=>have v:=(dH.mp e).1;have g:c.length-(k+1)<=d:=Nat.pred_le_pred f;rcases(mD (s:=s) q).2 with⟨rfl,rfl⟩|rfl;(·exact .du (sH e) rfl (i m _ g h));·have l:=EC h;have a:kZ c k (.dA j)=if cP c j=cP c (k+1)/\cP c k≠k then .dj else .dA (cP c j):=rfl;by_cases b:cP c j=cP c (k+1)/\cP c k≠k;(·rw[if_pos b]at a;exact .du (by rw[sH e,a]) rfl (ay h.Jb λw p u=>oE ((Mr).sk (by rw[<-b.1,l];exact .b8 p u)) λm' h'=>i m' _ g h'));·rw[if_neg b]at a;exact .du (by rw[sH e,a,l]) rfl r
noncomputable def bA.DW(f:Nat->Nat)(b:bA):bA->Prop|.go k s=>∃k',b=.go k' s/\(k'=k\/k'=f k)|_=>True
theorem TQ:bA.DW f a a:=by induction a with|go k s=>exact bC k rfl (.inl rfl)|_=>trivial
theorem abf:bA.DW f ((op.fk f).bS pc s) (op.bS pc s):=by induction op with|br t x j=>refine bC _ rfl ?_;split;(·exact .inr rfl);·exact .inl rfl|fz a b c d=>exact bC _ rfl (.inr Id)|ee x e=>refine bC _ rfl ?_;rw[MM];(induction gi e (s.r x).i with|none=>exact .inl rfl|some j=>exact .inr rfl)|dA j=>exact bC _ rfl (.inr rfl)|_=>exact TQ
theorem SR(a:op.bS pc s=.go k s'):∃k',(op.fk f).bS pc s=.go k' s'/\(k'=k\/k'=f k):=(congrArg (bA.DW f ((op.fk f).bS pc s)) a).mp abf
theorem Xi(q:op.du k=ah):(∃a x j,op=.br a x j)\/kZ c k op=op.fk (cP c):=by induction op with|br t x j=>exact .inl ⟨_,_,_,rfl⟩|dA=>cases q|_=>exact .inr rfl
theorem V6(a:op.bS k s=.ret i):op.du k=ah/\kZ c k op=op:=by induction op with|ret x=>exact⟨rfl,rfl⟩|dA j=>cases a|dj=>cases a|br t x j=>cases a|fz x j k l=>cases a|ee x b=>cases a|_=>exact⟨rfl,rfl⟩
theorem QQ(a:op.bS k s=.fL):op.du k=ah/\kZ c k op=op:=by induction op with|dA j=>cases a|dj=>cases a|br t x j=>cases a|fz x j k l=>cases a|ee x b=>cases a|_=>exact⟨rfl,rfl⟩
theorem dn.xO(r:dn c o n pc s):∃m t,Sk c m pc t/\dn (j6 c) o n t s:=by induction r with|@ret n pc s op i e a q=>have t:=V6 (c:=c) a;exact(iM 0 pc (.b8 e t.1) (.ret (by rw[sH e,t.2]) a q))|@fL n pc s op e a q=>have t:=QQ (c:=c) a;exact(iM 0 pc (.b8 e t.1) (.fL (by rw[sH e,t.2]) a q))|@go n pc k s s' op e q a _ u=>obtain⟨m,t,h,r⟩:=u;refine(iM 0 pc (.b8 e q) ?_);(have d:∀k',k'=k\/k'=cP c k->dn (j6 c) o n k' s':=λk' g=>by rcases g with rfl|rfl;(·exact r.oX _ m _ (cF _) h);·rw[EC h];exact r);refine ay (SR (f:=cP c) a) λk' w g=>?_;rcases Xi q with⟨v,x,j,rfl⟩|z;(·have l:kZ c pc (.br v x j)=if cP c j=cP c (pc+1)then .dj else .br v x (cP c j):=rfl;by_cases p:cP c j=cP c (pc+1);(·rw[if_pos p]at l;cases a;refine .du (by rw[sH e,l]) rfl (dn.B ?_);by_cases y:(s.r x).b=v;(·rw[if_pos y]at h d;refine ay h.Jb λD B C=>?_;obtain⟨m',h'⟩:=(Mr).sk (by rw[<-p,EC h];exact .b8 B C);exact r.oX _ m' _ (cF _) h');·rw[if_neg y]at h d;exact d _ (.inl rfl));·rw[if_neg p]at l;exact .go (by rw[sH e,l];rfl) rfl w (d k' g));·exact .go (by rw[sH e,z]) (Mg q) w (d k' g)|du e q _ u=>obtain⟨m,t,h,r⟩:=u;exact(iM _ t (.dK e q h) r)
theorem dn.ZA(r:dn c o n pc s):dn (j6 c) o n pc s:=gw r.xO λm t h r=>r.oX _ m _ (cF _) h
end
section
variable{c:List Op}{o:pA}{n pc k:Nat}{s s':bX}{op:Op}{Z:NS}{val:Nat->a7}
set_option tactic.hygienic true in theorem Rm(h:∀r∈op.bR,s.r (f r)=s.r r):(op.kb f).bS pc s=op.bS pc s:=by
 have e:=λ{a}m=>h a m;induction op;case dC d a=>show bA.go _ (s.set d (s.r (f a)))=_;rw[e (.head _)];rfl
 case aN o d a b=>show bA.val ((o.ev (s.r (f a)).i (s.r (f b)).i).map .int) pc d s=_;rw[e (.head _),e (.tail _ (.head _))];rfl
 case ao o d a b=>show bA.go _ (s.set d (.bool (o.ev (s.r (f a)).i (s.r (f b)).i)))=_;rw[e (.head _),e (.tail _ (.head _))];rfl
 case bZ d a=>show bA.go _ (s.set d (.bool !(s.r (f a)).b))=_;rw[e (.head _)];rfl
 case bn d a=>show bA.val ((hW (-(s.r (f a)).i)).map .int) pc d s=_;rw[e (.head _)];rfl
 case dU d a=>show bA.val ((s.m (s.r (f a)).p).map .int) pc d s=_;rw[e (.head _)];rfl
 case gD p a=>show bA.go _ (s.dW (s.r (f p)).p (s.r (f a)).i)=_;rw[e (.head _),e (.tail _ (.head _))];rfl
 case br t x j=>show bA.go (if(s.r (f x)).b=t then j else pc+1) s=_;rw[e (.head _)];rfl
 case fz x a b c=>show bA.go (iI a b c (s.r (f x)).i) s=_;rw[e (.head _)];rfl
 case ee x js=>show bA.go ((gi js (s.r (f x)).i).getD (pc+1)) s=_;rw[e (.head _)];rfl
 case ret x=>induction x with|none=>rfl|some x=>show bA.ret (s.r (f x)).i=_;rw[e (.head _)];rfl
 all_goals rfl
noncomputable def KW.ev(m:Nat->Option Int):KW->List a7->Option a7|.set v,_=>aa (.int v)|.fg b,_=>aa (.bool b)|.aN o,l=>(o.ev (l.getD 0 (.int 0)).i (l.getD 1 (.int 0)).i).map .int|.ao o,l=>aa (.bool (o.ev (l.getD 0 (.int 0)).i (l.getD 1 (.int 0)).i))|.bZ,l=>aa (.bool !(l.getD 0 (.int 0)).b)|.bn,l=>(hW (-(l.getD 0 (.int 0)).i)).map .int|.fS p,_=>p.J.map .dc|.dU,l=>(m (l.getD 0 (.int 0)).p).map .int
theorem Uv(e:op.kw=aa w)(a:op.wr=aa d):op.bS pc s=bA.val (w.ev s.m (op.bR.map s.r)) pc d s:=by induction op<;>(first|injection e;done|injection e with q;subst q)<;>(injection a with q;subst q)<;>rfl
structure Nm(Z:NS)(val:Nat->a7)(s:bX):Prop where
 h:∀r n,Z.fu r=aa n->n<=Z.count/\s.r r=val n
 k:∀e∈Z.kT,e.2.2<=Z.count/\(∀n∈e.1.rd,n<=Z.count)/\e.1.wr<=Z.wr/\((e.1.w=.dU->e.1.wr=Z.wr)->e.1.w.ev s.m (e.1.rd.map val)=aa (val e.2.2))
noncomputable def yV(val:Nat->a7)(n:Nat)(v:a7):Nat->a7:=λx=>if x=n then v else val x
theorem vk(h:x<=n):yV val (n+1) v x=val x:=if_neg λ(q:x=n+1)=>abC n (q▸h:n+1<=n)
theorem E1{l:List Nat}(h:∀x∈l,x<=n):l.map (yV val (n+1) v)=l.map val:=uA λx m=>vk (h x m)
theorem Nm.of(N:Nm Z val s)(r:Nat):∃f,Nm (cD Z r).1 f s/\(cD Z r).1.fu r=aa (cD Z r).2/\Z.count<=(cD Z r).1.count/\∀x,x<=Z.count->f x=val x:=by unfold cD;induction e:Z.fu r with|some m=>exact(Es val N e (cF _) (λz z=>rfl))|none=>refine(Es (yV val (Z.count+1) (s.r r)) ⟨λx n h=>?_,λe m=>?_⟩ tH (lE _) (λx h=>vk h));(·rcases o9 h with⟨rfl,rfl⟩|h;(·exact⟨cF _,(if_pos rfl).symm⟩);·refine oA (N.h x n h) λa b=>?_;exact⟨jc a,b.trans (vk a).symm⟩);·exact iT (N.k e m) λa b c d=>(nN (jc a) (λn m=>jc (b n m)) c (λq=>by rw[E1 b,vk a];exact d q))
theorem Nm.fo(N:Nm Z val s)(l:List Nat):∃a,Nm (Internal.fo Z l).1 a s/\(Internal.fo Z l).2.map a=l.map s.r/\∀n∈(Internal.fo Z l).2,n<=(Internal.fo Z l).1.count:=by
 have j:∀(l:List Nat)(q:NS×List Nat)(val:Nat->a7)(c:List Nat),Nm q.1 val s->q.2.map val=c.map s.r->(∀n∈q.2,n<=q.1.count)->∃a,Nm (l.foldl (λq r=>((cD q.1 r).1,q.2++[(cD q.1 r).2])) q).1 a s/\(l.foldl (λq r=>((cD q.1 r).1,q.2++[(cD q.1 r).2])) q).2.map a=(c++l).map s.r/\∀n∈(l.foldl (λq r=>((cD q.1 r).1,q.2++[(cD q.1 r).2])) q).2,n<=(l.foldl (λq r=>((cD q.1 r).1,q.2++[(cD q.1 r).2])) q).1.count:=by intro l;induction l with|nil=>intro q val c N e b;rw[iD];exact(d0 val N e b)|cons r l i=>intro q val c N e b;refine sB (N.of r) λa d h k g=>?_;have f:=d.h _ _ h;have:=i ((cD q.1 r).1,q.2++[(cD q.1 r).2]) a (c++[r]) d (by rw[l8,l8,<-e,uA λx m=>g x (b x m)];show _++[a _]=_++[s.r r];rw[<-f.2]) (λn m=>by rcases d6.mp m with m|m;(·exact di (b n m) k);·rw[dq.mp m];exact f.1);rw[re]at this;exact this
 exact j l (Z,[]) val [] N rfl λz m=>nomatch m
theorem Nm.Fc(N:Nm Z val s)(r:Nat):(∃b,Nm (eX Z r).1 b s)/\s.r (eX Z r).2=s.r r:=by
 refine sB (N.of r) ?_;rintro b a c- -;unfold eX;split;·rename_i e;exact⟨⟨b,a⟩,(a.h _ _ e).2.trans (a.h _ _ c).2.symm⟩
 ·exact⟨⟨b,⟨a.h,a.k⟩⟩,rfl⟩
theorem Nm.map(N:Nm Z val s)(l:List Nat):(∃b,Nm (iL Z l).1 b s)/\∀r x,(iL Z l).2 r=aa x->s.r x=s.r r:=by
 have f:∀(l:List Nat)(q:NS×NN)(val:Nat->a7),Nm q.1 val s->(∀r x,q.2 r=aa x->s.r x=s.r r)->(∃b,Nm (l.foldl (λq r=>((eX q.1 r).1,f0 q.2 r (eX q.1 r).2)) q).1 b s)/\∀r x,(l.foldl (λq r=>((eX q.1 r).1,f0 q.2 r (eX q.1 r).2)) q).2 r=aa x->s.r x=s.r r:=by intro l;induction l with|nil=>exactλq val N h=>⟨⟨val,N⟩,h⟩|cons a l d=>intro q val N h;refine oA (N.Fc a) ?_;rintro⟨b,c⟩e;refine d ((eX q.1 a).1,f0 q.2 a (eX q.1 a).2) b c λr x q=>?_;rcases o9 q with⟨rfl,rfl⟩|q;(·exact e);·exact h r x q
 exact f l (Z,λz=>ah) val N λz z h=>by injection h
theorem Nm.dW(N:Nm Z val s)(c:m<=Z.count)(e:v=val m):Nm {Z with fu:=f0 Z.fu d m} val (s.set d v):=by
 refine⟨λr n h=>?_,N.k⟩;rcases o9 h with⟨rfl,rfl⟩|b;·exact⟨c,(if_pos rfl).trans e⟩
 ·by_cases a:r=d;(·subst a;rw[show n=m from(bU (tH.symm.trans h)).symm];exact⟨c,(if_pos rfl).trans e⟩);·exact⟨(N.h r n b).1,(if_neg a).trans (N.h r n b).2⟩
noncomputable def s8(op:Op)(s:bX)(q:NS×Op):Prop:=(∀pc,q.2.bS pc s=op.bS pc s)/\∀pc k s',op.bS pc s=.go k s'->∃val,Nm q.1 val s'
set_option tactic.hygienic true in theorem Nm.ie(N:Nm Z val s){d:Nat}{f:dI}(D:op.wr=aa d)(l:∀pc,op.bS pc s=bA.val (f.w.ev s.m (f.rd.map val)) pc d s)(p:∀n∈f.rd,n<=Z.count)(C:f.wr<=Z.wr)(z:f.w=.dU->f.wr=Z.wr):s8 op s (Internal.ie Z d f op):=by
 have o:∀pc k s',op.bS pc s=.go k s'->∃B,Nm (xz Z d f) B s':=λpc k s' a=>by rw[l]at a;induction e:f.w.ev s.m (f.rd.map val)with|none=>rw[e]at a;injection a|some v=>rw[e]at a;injection a with _ a;subst a;refine⟨yV val (Z.count+1) v,λr n h=>?_,λj m=>?_⟩;(·have h:f0 Z.fu d (Z.count+1) r=aa n:=h;by_cases g:r=d;(·subst g;rw[show n=Z.count+1 from(bU (tH.symm.trans h)).symm];exact⟨cF _,(if_pos rfl).trans (if_pos rfl).symm⟩);·rw[Ni g]at h;exact⟨jc (N.h r n h).1,(if_neg g).trans ((N.h r n h).2.trans (vk (N.h r n h).1).symm)⟩);·rcases Hc j m with m|rfl;(·exact iT (N.k j m) λa b c d=>(nN (jc a) (λn m=>jc (b n m)) c (λq=>by rw[E1 b,vk a];exact d q)));·exact(nN (cF _) (λn m=>jc (p n m)) C (λY=>by show f.w.ev s.m (f.rd.map _)=aa (if Z.count+1=Z.count+1 then v else _);rw[E1 p,if_pos rfl];exact e))
 unfold Internal.ie;split;·rename_i e t;obtain⟨m,rfl⟩:=Eg t;refine iT (N.k e m) λx Y Y y=>?_;split;(·rename_i u;have hs:=N.h _ _ u;have w:=y z;(have i:∀pc,op.bS pc s=.go (pc+1) (s.set d (s.r e.2.1)):=λpc=>by rw[l,w,hs.2];rfl);refine⟨λpc=>(i pc).symm,λpc k s' a=>?_⟩;injection(i pc).symm.trans a with _ a;subst a;exact⟨val,N.dW hs.1 hs.2⟩);·exact⟨λY=>rfl,o⟩
 ·exact⟨λY=>rfl,o⟩
theorem Nm.CI(N:Nm Z val s)(e:op.kw=aa w)(q:i4 Z op=Internal.ie (Internal.fo Z op.bR).1 (op.wr.getD 0) (vy Z w op.bR) op):s8 op s (i4 Z op):=by
 refine oE (J3 e) λd a=>cu (N.fo op.bR) λg b c f=>?_;rw[q,a];refine b.ie a (λpc=>?_) f ?_ λq=>?_;·rw[Uv e a];show bA.val (w.ev s.m _) pc d s=bA.val (w.ev s.m ((Internal.fo Z op.bR).2.map g)) pc d s;rw[c]
 ·rw[EX];cases w<;>first|exact cF _|exact lC _
 ·rw[EX];subst q;rfl
theorem Nm.HY(N:Nm Z val s)(h:∀pc k s',op.bS pc s=.go k s'->s'=s)(e:i4 Z op=(Z,op)):s8 op s (i4 Z op):=by rw[e];exact⟨λ_=>rfl,λpc k s' a=>⟨val,h pc k s' a▸N⟩⟩
theorem Nm.W6(N:Nm Z val s):s8 (.dC d a) s (i4 Z (.dC d a)):=by refine⟨λz=>rfl,λpc k s' h=>?_⟩;injection h with _ h;subst h;exact sB (N.of a) λe b c z z=>⟨e,b.dW (b.h _ _ c).1 (b.h _ _ c).2⟩
theorem KW.Pa{w:KW}(h:w≠.dU)(m m':Nat->Option Int)(l:List a7):w.ev m l=w.ev m' l:=by induction w with|dU=>exact absurd rfl h|_=>rfl
theorem Nm.Z3(N:Nm Z val s):s8 (.gD p a) s (i4 Z (.gD p a)):=by refine⟨λY=>rfl,λpc k s' h=>?_⟩;injection h with _ h;subst h;refine⟨val,N.h,λe m=>?_⟩;refine iT (N.k e m) λa b c d=>(nN a b (jc c) (λq=>?_));have z:e.1.w≠.dU:=λz=>absurd (q z) (l9 (abD c));exact(KW.Pa z ..).trans (d λq=>absurd q z)
theorem bA.SJ(h:bA.go j s=.go k s'):s'=s:=by injection h with _ h;exact h.symm
theorem Nm.DH(N:Nm Z val s):s8 op s (i4 Z op):=by induction op with|dC=>exact N.W6|gD=>exact N.Z3|set|fg|aN|ao|bZ|bn|fS|dU=>all_goals exact N.CI rfl rfl|ret x=>exact N.HY (λ_ _ _ h=>by induction x<;>injection h) rfl|_=>exact N.HY (λ_ _ _ h=>bA.SJ h) rfl
theorem Nm.mJ(N:Nm Z val s):s8 op s (nD Z op):=by
 refine oA (N.map op.bR) ?_;rintro⟨d,c⟩h;have e:∀pc,(op.kb (rT Z op.bR)).bS pc s=op.bS pc s:=λpc=>Rm λr m=>by unfold rT;induction q:(iL Z op.bR).2 r with|none=>rfl|some x=>exact h r x q
 exact oA (c.DH) λa b=>⟨λpc=>(a pc).trans (e pc),λpc k s' h=>b pc k s' ((e pc).trans h)⟩
theorem Nm.zero:Nm Z0 val s:=⟨(λ_ _ h=>by injection h),λ_ h=>nomatch h⟩
theorem dn.wN{B:List Bool}(j:∀op∈c,∀g∈op.L,B[g]?=aa aj)(r:dn c o n pc s):(∃val,Nm (SA c B pc) val s)->dn (mq c B) o n pc s:=by
 have h:∀{pc k:Nat}{op:Op}{s s':bX},c[pc]?=aa op->(∃val,Nm (SA c B pc) val s)->op.bS pc s=.go k s'->∃val,Nm (SA c B k) val s':=λ{pc k op s s'}e d a=>by(have i:∀k,B[k]?=aa aj->∃val,Nm (SA c B k) val s':=λk e=>by rw[show SA c B k=Z0 from if_pos e];exact⟨λz=>.int 0,Nm.zero⟩);rcases d6.mp (tP a)with m|m;(·exact i k (j op (cW e) k m));·(have:k=pc+1:=by split at m;(·exact dq.mp m);·cases m);subst this;by_cases b:B[pc+1]?=aa aj;(·exact i _ b);·rw[show SA c B (pc+1)=SZ c B (pc+1)from if_neg b,AM e];exact oE d λval N=>N.mJ.2 _ _ _ a
 have bS:∀{pc:Nat}{op:Op}{s:bX},c[pc]?=aa op->(∃val,Nm (SA c B pc) val s)->(mq c B)[pc]?=aa (nD (SA c B pc) op).2/\(nD (SA c B pc) op).2.bS pc s=op.bS pc s:=λ{pc op s}e d=>⟨by unfold mq;rw[uz,e];rfl,by refine oE d λval N=>?_;exact N.mJ.1 pc⟩;induction r with|ret e a q=>intro d;refine oA (bS e d) λx y=>?_;exact .ret x (y.trans a) q|fL e a q=>intro d;refine oA (bS e d) λx y=>?_;exact .fL x (y.trans a) q|go e q a _ f=>intro d;refine oA (bS e d) λx y=>?_;exact .dK x (y.trans a) (f (h e d a))|@du n pc k s op e q _ f=>intro d;have a:=(mD (s:=s) q).1;have x:=(bS e d).1;(have l:(nD (SA c B pc) op).2=op:=by rcases(mD (s:=s) q).2 with⟨rfl,rfl⟩|rfl<;>rfl);rw[l]at x;exact .du x q (f (h e d a))
end
section
variable{c:List Op}{o:pA}{n pc k s t:Nat}{op:Op}
theorem r6(m:x∈c.mapIdx f):∃k op,c[k]?=aa op/\op∈c/\x=f k op:=by refine oE (Gm m) λk a=>?_;rw[uz]at a;induction e:c[k]? with|none=>rw[e]at a;injection a|some op=>rw[e]at a;injection a with q;subst q;exact(gv k op e (cW e) rfl)
theorem Ip(h:op.st):(op.fk f).st:=by
 induction op;case ee=>exact⟨h.1,by rw[d5];exact h.2⟩
 all_goals exact h
set_option tactic.hygienic true in theorem Np:(op.fk f).L=op.L.map f:=by
 induction op;case ee r js=>show js.map f++[]=(js++[]).map f;rw[iD,iD]
 all_goals rfl
theorem H8:k8 M L k op=.dj\/k8 M L k op=op:=by
 unfold k8;split;·split;(·exact .inl rfl);·split;(·exact .inl rfl);·exact .inr rfl
 ·exact .inl rfl
theorem Nr:kZ c k op=.dj\/kZ c k op=op.fk (cP c):=by
 induction op;case dA=>unfold kZ;dsimp only;split;(·exact .inl rfl);·exact .inr rfl
 case br=>unfold kZ;dsimp only;split;(·exact .inl rfl);·exact .inr rfl
 all_goals exact .inr rfl
theorem KM(st:∀op∈c,op.st):∀k,NI (SZ c B k)|0=>NI.zero|k+1=>by(have a:NI (SA c B k):=by unfold SA;split;(·exact NI.zero);·exact KM st k);induction e:c[k]? with|none=>show NI (match c[k]? with|aa op=>_|ah=>Z0);rw[e];exact NI.zero|some op=>rw[AM e];exact(a.sh (st op (cW e))).1
theorem SK(st:∀op∈c,op.st)(k:Nat):NI (SA c B k):=by
 unfold SA;split;·exact NI.zero
 ·exact KM st k
theorem KT(P:u9 c s)(p:Pass c s b g):b.length<8/\(∀op∈b,op.st)/\∀o n,dn c o n s gu->dn b o n g gu:=by induction p with|wA B d f=>refine(eA (by rw[Fv];exact P.bN) (λx m=>?_) (λo n r=>r.wA P.st f (by rw[show KA c B s=mz from if_pos d];exact mU.no)));refine cG (r6 m) ?_;rintro k op e a rfl;exact ES (P.st op a) (FC P.st k)|wN B d f=>refine(eA (by unfold mq;rw[ri];exact P.bN) (λx m=>?_) (λo n r=>r.wN f ((show SA c B s=Z0 from if_pos d).symm▸⟨λz=>.int 0,Nm.zero⟩)));refine cG (r6 m) ?_;rintro k op e a rfl;exact((SK P.st k).sh (P.st op a)).2|drop M L l q i j=>refine(eA (by unfold mK;rw[ri];exact P.bN) (λx m=>?_) (λo n r=>r.drop P.st q i j gu l rfl λz z=>rfl));refine cG (r6 m) ?_;rintro k op e a rfl;rcases H8 with h|h<;>rw[h];(·exact trivial);·exact P.st op a|xO=>refine(eA (by unfold j6;rw[ri];exact P.bN) (λx m=>?_) (λo n r=>r.ZA));refine cG (r6 m) ?_;rintro k op e a rfl;rcases Nr with h|h<;>rw[h];(·exact trivial);·exact Ip (P.st op a)|wU=>refine(eA (by unfold pb;rw[d5];exact gF (abp _ _) P.bN) (λx m=>?_) (λo n r=>r.wU));refine ay (gO.mp m) ?_;rintro op a rfl;exact Ip (P.st op (Gk.mp a).1)
theorem Ix{P:Nat->Prop}:∀g∈(lY d v).L,P g:=by induction v<;>exactλ_ m=>(jD m).elim
theorem Ik{l:List Nat}{j:Option Nat}(h:∀x,j=aa x->x∈l):∀g∈(iH j).L,g∈l:=λg m=>by induction j with|none=>cases m|some x=>rw[dq.mp (m)];exact h x rfl
theorem Tb{d:Kn}:∀g∈(i5 d op).L,g∈op.L:=CB (P:=λq=>∀g∈q.L,g∈op.L) (λz m=>m) (λz z=>Ix) (λe z=>by subst e;refine Ik λx h=>?_;split at h;(·injection h with q;subst q;exact .head _);·injection h) (λ{x a b c i}e z g m=>by subst e;rw[dq.mp (m)];show iI a b c i∈[a,b,c];unfold iI;split;(·exact .tail _ (.head _));·split;(·exact .tail _ (.tail _ (.head _)));·exact .head _) (λ{x f i}e z=>by subst e;exact Ik (l:=f++[]) λx h=>ma _ (MO h)) λz z z=>Ix
set_option tactic.hygienic true in theorem UT:(op.kb f).L=op.L:=by
 induction op;case ret x=>induction x<;>rfl
 all_goals rfl
theorem aaN:(ie Z d b op).2=op\/∃x a,(ie Z d b op).2=.dC x a:=by unfold ie;induction nO Z.kT b with|none=>exact .inl rfl|some e=>by_cases c:Z.fu e.2.1=aa e.2.2;(·exact .inr (Ak d e.2.1 (congrArg sP (if_pos c))));·exact .inl (congrArg sP (if_neg c))
theorem TB:(i4 Z op).2=op\/∃d a,(i4 Z op).2=.dC d a:=by induction op with|set|fg|aN|ao|bZ|bn|fS|dU=>all_goals exact aaN|_=>exact .inl rfl
theorem Q2(C:rJ c)(b:a<c.length):cP c a<c.length:=by
 have g:∀n x,x<c.length->jR c a n x<c.length:=by intro n;induction n with|zero=>exactλz z=>b|succ n f=>intro x d;induction e:c[x]? with|none=>rw[Fk e];exact d|some op=>induction q:op.du x with|none=>rw[y0 e q];exact d|some y=>rw[ym e q];exact f _ (C x _ gu gu _ e (mD q).1)
 exact g _ _ b
theorem JF(e:c=ops++[.ret (aa 0)])(a:g<c.length):dc c g<(lW c).length:=by
 subst e;have b:g<=ops.length:=by rw[cZ]at a;exact N9 a
 unfold dc lW;rw[List.take_append_of_le_length b,N4,cZ];exact abD (((List.take_sublist g ops).filter _).length_le)
theorem PP(o:zH c s)(p:Pass c s i q):(∀op∈i,∀g∈op.L,g<i.length)/\q<i.length:=by have P:=o.kj;refine oE o.ops λops l=>?_;have C:=rJ.of l P.mH;induction p with|wA B r t=>rw[Fv];refine⟨λx m g b=>?_,P.s⟩;refine cG (r6 m) ?_;rintro k op e f rfl;exact P.mH op f g (Tb g b)|wN B r t=>rw[show(mq c B).length=c.length from ri];refine⟨λx m g b=>?_,P.s⟩;refine cG (r6 m) ?_;rintro k op e f rfl;rcases TB with h|⟨d,a,h⟩;(·rw[show(nD (SA c B k) op).2=_ from h,UT]at b;exact P.mH op f g b);·rw[show(nD (SA c B k) op).2=_ from h]at b;cases b|drop M L w f u v=>rw[show(mK M L c).length=c.length from ri];refine⟨λx m g b=>?_,P.s⟩;refine cG (r6 m) ?_;rintro k op e f rfl;rcases H8 with h|h<;>rw[h]at b;(·cases b);·exact P.mH op f g b|xO=>rw[show(j6 c).length=c.length from ri];refine⟨λx m g b=>?_,P.s⟩;refine cG (r6 m) ?_;rintro k op e f rfl;rcases Nr with h|h<;>rw[h]at b;(·cases b);·rw[Np]at b;refine ay (gO.mp b) ?_;rintro j n rfl;exact Q2 C (P.mH op f j n)|wU=>rw[show(pb c).length=(lW c).length from d5 ..];refine⟨λx m g b=>?_,JF l P.s⟩;refine ay (gO.mp m) ?_;rintro op f rfl;rw[Np]at b;refine ay (gO.mp b) ?_;rintro j n rfl;exact JF l (P.mH op (Gk.mp f).1 j n)
theorem plain:CY:=by intro c s a;refine oE a.ops λops k=>⟨rJ.of k a.kj.mH,λj r f=>?_⟩;refine dT (KT a.kj f) λg h p=>oA (PP a f) λm l=>?_;have b:u9 j r:=⟨g,h,m,l⟩;refine⟨b,λt u n=>?_⟩;exact dT (KT b n) λd i q=>(eA (dF d (by decide)) i (λo e=>(q o 24 (p o 24 (dn.Lx e))).gU (cF _) d))
theorem YV(l:List Int)(a:l.length<=63):∃n,n<=150/\∃μ,aF (n+1) .om [.fl l] []=.ok (.bool aj) μ:=(bC 14 (by decide) (UZ plain l a))
end
section
open PySem PySem.W PySem.Calls PyProof.Rows PySem.SeqAt
noncomputable def aC.str(s:aC):aD:=bz s.fQ
noncomputable def At.str(a:At):aD:=bz a.fQ
structure bp where
 aE:jM
 w:de
 K:kG
 h₀:aQ
 p:jM
 loose:List aD
 iw:BW->Option aq
 mg:aD->Option aq
 mb:aD->Option aq
 fa:Fn->am
 ka:dr->am
 xa:X->am
 xb:am
 xn:X->am
 sa:am
 P:am
 Lb:am
 dp:i9
 db:List bK
 ds:dY
 BI:be
 pc:am
theorem kq{b:Type}{P:b->Prop}:∀a∈([]:List b),P a:=λz h=>absurd h jD
theorem jA{c:Type}{P:c->Prop}{b:c}(h:P b):∀a∈[b],P a:=λz q=>(dq.mp q).symm▸h
theorem rY{c:Type}{a b:c}(h:a≠b):a∉[b]:=λq=>h (dq.mp q)
theorem Lk{b:Type}{P:b->Prop}{l m:List b}(h:∀a∈l,P a)(k:∀a∈m,P a):∀a∈l++m,P a:=λa q=>(d6.mp q).elim (h a) (k a)
theorem f8{c:Type}{o:Option c}{a b:c}(x:o=aa a)(y:o=aa b):a=b:=bU (x.symm.trans y)
section
variable(G:bp)
noncomputable def rM(h:aQ)(c:am)(q:aD):Prop:=∃o vs t,h.get? c=aa o/\o.cls=.type "code"/\o.data=.fields vs/\vs[1]?=aa (.str q t)
noncomputable def pE:aD:=bz "_law_passed.<locals>.deed"
noncomputable def wK(h:aQ)(a:am):Prop:=∃doc pm c b,h.get? a=aa {cls:=.type "function",data:=.func (fnX (bz "deed") pE G.dp G.db G.ds [] .none .none doc pm ah (.ref c) b)}/\rM h c pE
mutual
noncomputable def aA (φ : List am) (h : aQ) : V → aq → Prop
  | .U, _ => False
  | .none, w => w = .none
  | .bool b, w => w = .bool b
  | .int i, w => ∃ t, w = .int i t
  | .str s, w => ∃ t, w = .str s.str t
  | .Z l, w => ∃ a vs, w = .ref a ∧ h.get? a = aa { cls := .type "tuple", data := .seq vs.toArray } ∧ bv φ h l vs
  | .ref i, w => ∃ a, φ[i]? = aa a ∧ w = .ref a
  | .fn f, w => if f = .c6 then ∃ a, w = .ref a ∧ wK G h a else w = .ref (G.fa f)
  | .fl l, w => ∃ a vs, w = .ref a ∧ G.h₀.IsList a vs.toArray ∧ yB vs l
  | .fp, w => w = .ref G.sa
noncomputable def bv (φ : List am) (h : aQ) : List V → List aq → Prop
  | [], ws => ws = []
  | v :: l, ws => ∃ w r, ws = w :: r ∧ aA φ h v w ∧ bv φ h l r
end
noncomputable def cX(h h':aQ):Prop:=∀a o,h.get? a=aa o->((∀b n,o.data≠.dict b n)/\∀v,o.data≠.cell v)->(o.cls=.type "tuple"\/o.cls=.type "function"\/o.cls=.type "code")->h'.get? a=aa o
theorem cX.b8(h:aQ):cX h h:=λ_ _ e _ _=>e
theorem cX.nr(k:∀b o,h.get? b=aa o->h'.get? b=aa o):cX h h':=λb o e _ _=>k b o e
theorem rM.B(k:cX h h')(x:rM h c q):rM h' c q:=oW x λo vs t e b a r=>zj o vs t (k _ _ e ⟨(λz z q=>nomatch a.symm.trans q),λz q=>nomatch a.symm.trans q⟩ (.inr (.inr b))) b a r
theorem wK.B(k:cX h h')(x:wK G h a):wK G h' a:=xm x λdoc pm c b e r=>⟨doc,pm,c,b,k _ _ e ⟨(λz z q=>nomatch q),λz q=>nomatch q⟩ (.inr (.inl rfl)),r.B k⟩
variable{G}
theorem aA.B(j:∀(i:Nat)(a:am),φ[i]?=aa a->c[i]?=aa a)(k:cX h h'):∀{w:aq},aA G φ h v w->aA G c h' v w:=by
 refine V.rec (motive_1:=λv=>∀{w:aq},aA G φ h v w->aA G c h' v w) (motive_2:=λl=>∀{ws:List aq},bv G φ h l ws->bv G c h' l ws) (λx=>x) (λx=>x) (λz z x=>x) (λz z x=>x) (λz z x=>x) (λl m w x=>?_) (λi w x=>?_) (λf w x=>?_) (λz z x=>x) (λx=>x) (λx=>x) (λv l a b ws x=>?_) v;·exact cG x λa vs e g r=>gv a vs e (k _ _ g ⟨(λz z q=>nomatch q),λz q=>nomatch q⟩ (.inl rfl)) (m r)
 ·exact ay x λa e r=>bC a (j i a e) r
 ·show(if _ then _ else _);have x:if f=.c6 then _ else _:=x;by_cases d:f=.c6;(·rw[if_pos d]at x⊢;exact ay x λa e r=>bC a e (r.B G k));·rw[if_neg d]at x⊢;exact x
 ·exact cG x λw r e p q=>gv w r e (a p) (b q)
theorem aA.Ej(k:f≠.c6):aA G φ h (.fn f) (.ref (G.fa f)):=by show(if _ then _ else _);rw[if_neg k]
theorem bv.nil:bv G φ h [] []:=rfl
theorem aA.ut:aA G φ h (.fn .c6) w=∃a,w=.ref a/\wK G h a:=if_pos (c:=Fn.c6=Fn.c6) (e:=w=.ref (G.fa .c6)) rfl
theorem aA.xQ:aA G φ h (.int i) (.int i t):=⟨_,rfl⟩
theorem aA.xL:aA G φ h (.str x) (.str x.str t):=⟨_,rfl⟩
theorem aA.yd:aA G φ h (.bool b) (.bool b):=rfl
theorem aA.tZ:aA G φ h .none .none:=rfl
theorem aA.IC(e:φ[i]?=aa a):aA G φ h (.ref i) (.ref a):=bC a e rfl
theorem bv.cons(a:aA G φ h v w)(b:bv G φ h l ws):bv G φ h (v::l) (w::ws):=gv w ws rfl a b
theorem bv.kS(x:bv G φ h (v::l) ws):∃w r,ws=w::r/\aA G φ h v w/\bv G φ h l r:=x
theorem bv.nt(x:bv G φ h [] ws):ws=[]:=x
theorem bv.tK{P:List V->List aq->Prop}(n:P [] [])(c:∀v w l ws,aA G φ h v w->bv G φ h l ws->P l ws->P (v::l) (w::ws)):∀{l:List V}{ws:List aq},bv G φ h l ws->P l ws:=by intro l;induction l with|nil=>intro ws x;rw[x.nt];exact n|cons v l d=>intro ws x;exact cG x.kS λw r e a b=>e▸c v w l r a b (d b)
variable{φ:List am}{h:aQ}{l:List V}{ws:List aq}
theorem bv.B(d:∀(i:Nat)(a:am),φ[i]?=aa a->c[i]?=aa a)(k:cX h h')(x:bv G φ h l ws):bv G c h' l ws:=x.tK (P:=bv G c h') .nil λz z z z a z b=>.cons (a.B d k) b
theorem bv.length(x:bv G φ h l ws):ws.length=l.length:=x.tK (P:=λl ws=>ws.length=l.length) rfl λ_ _ _ _ _ _ b=>congrArg (·+1) b
theorem bv.xP(x:bv G φ h l ws)(y:bv G φ h m c):bv G φ h (l++m) (ws++c):=x.tK (P:=λl ws=>bv G φ h (l++m) (ws++c)) y λz z z z a z b=>.cons a b
theorem bv.cp{i:Nat}{v:V}(x:bv G φ h l ws):l[i]?=aa v->∃w,ws[i]?=aa w/\aA G φ h v w:=x.tK (P:=λl ws=>∀{i:Nat},l[i]?=aa v->∃w,ws[i]?=aa w/\aA G φ h v w) (λe=>nomatch e) (λ_ w _ _ a _ b{i}=>oa i (λe=>bC w rfl (bU e▸a)) λ_ e=>b e)
theorem bv.set(i:Nat)(x:bv G φ h l ws)(y:aA G φ h v w):bv G φ h (l.set i v) (ws.set i w):=x.tK (P:=λl ws=>∀i,bv G φ h (l.set i v) (ws.set i w)) (λ_=>.nil) (λ_ _ _ _ a x b i=>oa i (.cons y x) λi=>.cons a (b i)) i
theorem bv.take(i:Nat)(x:bv G φ h l ws):bv G φ h (l.take i) (ws.take i):=x.tK (P:=λl ws=>∀i,bv G φ h (l.take i) (ws.take i)) (λi=>oa i .nil λ_=>.nil) (λ_ _ _ _ a _ b i=>oa i .nil λi=>.cons a (b i)) i
theorem bv.drop(i:Nat)(x:bv G φ h l ws):bv G φ h (l.drop i) (ws.drop i):=x.tK (P:=λl ws=>∀i,bv G φ h (l.drop i) (ws.drop i)) (λi=>oa i .nil λ_=>.nil) (λ_ _ _ _ a x b i=>oa i (.cons a x) b) i
theorem bv.replicate(a:aA G φ h v w)(n:Nat):bv G φ h (eL n v) (eL n w):=by induction n with|zero=>exact .nil|succ n b=>exact .cons a b
theorem bv.aaR(x:yB vs ns):bv G φ h (ns.map .int) vs:=by induction x with|nil=>exact .nil|cons n t _ a=>exact .cons ⟨t,rfl⟩ a
end
section
variable(G:bp)
inductive fO:V->aq->Prop|none:fO .none .none|int(i:Int)(t:kF):fO (.int i) (.int i t)|bool(b:Bool):fO (.int (if b then 1 else 0)) (.bool b)|str{s:aC}{x:aD}(t:kF):x=s.str->fO (.str s) (.str x t)
inductive dw{α β:Type}(R:α->β->Prop):List α->List β->Prop|nil:dw R [] []|cons{a b l m}:R a b->dw R l m->dw R (a::l) (b::m)
inductive KS(h:aQ)(R:V->aq->Prop):V->aq->Prop|at{v w}:fO v w->KS h R v w|Z{l a vs}:h.get? a=aa {cls:=.type "tuple",data:=.seq (lG vs)}->dw R l vs->KS h R (.Z l) (.ref a)
noncomputable def KR(h:aQ)(n:Nat):V->aq->Prop:=Nat.rec fO (λ_ R=>KS h R) n
noncomputable def C4(n:Nat)(v:V):Nat:=match n with|0=>1|n+1=>match jx v with|aa l=>(l.map (C4 n)).sum+1|ah=>1
noncomputable def An(w:de)(v:V):Int:=match fb v with|aa i=>hashInt i|ah=>match iy v with|aa s=>hashStr w s.str|ah=>reduceHash 0xFCA86420
noncomputable def Dm(w:de)(n:Nat)(v:V):Int:=match n with|0=>An w v|n+1=>match jx v with|aa l=>reduceHash (abE (l.map (Dm w n)))|ah=>An w v
section
variable{α β:Type}{R:α->β->Prop}{l:List α}{m:List β}
theorem dw.map{d e:Type}{c:d->e->Prop}{f:α->d}{g:β->e}(k:∀a b,R a b->c (f a) (g b))(x:dw R l m):dw c (l.map f) (m.map g):=by induction x with|nil=>exact .nil|cons a _ h=>exact .cons (k _ _ a) h
theorem dw.J7{P:List α->List β->Prop}(x:dw R l m)(n:P [] [])(c:∀{a b l m},R a b->P (a::l) (b::m)):P l m:=by induction x with|nil=>exact n|cons r _=>exact c r
theorem dw.cA(x:dw R l m)(y:dw R b m'):dw R (l++b) (m++m'):=by induction x with|nil=>exact y|cons a _ c=>exact .cons a c
variable{p:α->Bool}{q:β->Bool}(k:∀a b,R a b->p a=q b)
include k
theorem dw.filter(x:dw R l m):dw R (l.filter p) (m.filter q):=by induction x with|nil=>exact .nil|@cons a b _ _ r _ c=>rw[BU,BU,<-k a b r];cases p a with|true=>exact .cons r c|false=>exact c
theorem dw.pZ(x:dw R l m){P:Option α->Option β->Prop}(n:P ah ah)(s:∀a b,R a b->P (aa a) (aa b)):P (l.find? p) (m.find? q):=by induction x with|nil=>exact n|@cons a b _ _ r _ c=>rw[vJ,vJ,<-k a b r];cases p a with|true=>exact s a b r|false=>exact c
theorem dw.any(x:dw R l m):m.any q=(l.find? p).isSome:=by induction x with|nil=>rfl|@cons a b _ _ r _ c=>rw[vJ,NY,<-k a b r];cases p a with|true=>rfl|false=>exact c
end
theorem dw.imp{α β:Type}{R c:α->β->Prop}(k:∀a b,R a b->c a b){l:List α}{m:List β}(x:dw R l m):dw c l m:=by induction x with|nil=>exact .nil|cons a _ d=>exact .cons (k _ _ a) d
theorem dw.inj{α β:Type}{R:α->β->Prop}(k:∀a b c,R a c->R b c->a=b){l:List α}{n:List β}(x:dw R l n):∀{m:List α},dw R m n->l=m:=by induction x with|nil=>intro m y;cases y;rfl|cons a _ d=>intro m y;cases y with|cons b y=>rw[k _ _ _ a b,d y]
theorem dw.bN{α β:Type}{R:α->β->Prop}{l:List α}{m:List β}(x:dw R l m):m.length=l.length:=by induction x with|nil=>rfl|cons _ _ a=>exact congrArg (·+1) a
theorem dw.cp{α β:Type}{R:α->β->Prop}{d:α}{l:List α}{m:List β}(x:dw R l m):∀{j:Nat}(h:j<m.length),R (l.getD j d) m[j]:=by induction x with|nil=>intro j h;cases h|cons a _ b=>intro j h;induction j using oa with|zero=>exact a|succ j=>exact b (BS h)
theorem Jx(a:uL (yP v)=aj)(x:aA G φ h v w):fO (yP v) w:=by induction v using V.casesOn with|none=>exact(x:w=.none)▸.none|bool b=>exact(x:w=.bool b)▸.bool b|int i=>exact oE (x:∃t,w=.int i t) λt e=>e▸.int i t|str s=>exact oE (x:∃t,w=.str s.str t) λt e=>e▸.str t rfl|_=>injection a
theorem YK(d:∀v w,fV n (kn n v)=aj->aA G φ h v w->KR h n (kn n v) w):∀(l:List V)(ws:List aq),(l.map (kn n)).all (fV n)=aj->bv G φ h l ws->dw (KR h n) (l.map (kn n)) ws:=by intro l;induction l with|nil=>intro ws _ x;rw[x.nt];exact .nil|cons v l f=>intro ws c x;exact cG x.kS λw r e a b=>e▸.cons (d v w (cI _ _▸c).1 a) (f r (cI _ _▸c).2 b)
theorem KR.Cy(n:Nat):∀(v:V)(w:aq),fV n (kn n v)=aj->aA G φ h v w->KR h n (kn n v) w:=by induction n with|zero=>exactλv w b x=>Jx G b x|succ n c=>intro v w b x;induction v using V.casesOn with|Z l=>exact cG (x:∃a vs,w=.ref a/\h.get? a=aa {cls:=.type "tuple",data:=.seq (lG vs)}/\bv G φ h l vs) λa vs e g r=>e▸.Z g (YK G c l vs b r)|_=>refine .at (Jx G ?_ x);exact b
theorem KR.B{h h':aQ}(k:∀a vs,h.get? a=aa {cls:=.type "tuple",data:=.seq (lG vs)}->h'.get? a=aa {cls:=.type "tuple",data:=.seq (lG vs)})(n:Nat):∀v w,KR h n v w->KR h' n v w:=by induction n with|zero=>exactλ_ _ x=>x|succ n ih=>intro v w x;induction(x:KS h (KR h n) v w)with|«at»a=>exact .at a|Z g r=>exact .Z (k _ _ g) (r.imp ih)
theorem aC.oX:(aC.all.all λs=>aZ (aC.all.find? (λx=>(aC.str x).cps.toList==(aC.str s).cps.toList)=aa s))=aj:=by decide+kernel
theorem aC.BA{s t:aC}(e:s.str=t.str):s=t:=by have hs:=of_decide_eq_true (fN.mp aC.oX s (aC.jL s));have a:=of_decide_eq_true (fN.mp aC.oX t (aC.jL t));rw[e,a]at hs;exact(bU hs).symm
theorem aC.AD(s t:aC):(s.str==t.str)=(s==t):=by
 by_cases e:s=t;·subst e;simp
 ·have:s.str≠t.str:=λq=>e (aC.BA q);rw[beq_eq_false_iff_ne.mpr this,beq_eq_false_iff_ne.mpr e]
noncomputable def RF(u:V)(w:aq):Prop:=match w with|.none=>u=.none|.int i _=>u=.int i|.bool b=>u=.int (if b then 1 else 0)|.str x _=>∃s,u=.str s/\x=s.str|_=>False
theorem fO.sK(x:fO u w):RF u w:=by induction x with|str t e=>exact⟨_,rfl,e⟩|_=>exact rfl
theorem fO.inj(x:fO u w)(y:fO v w):u=v:=by induction x with|str t e=>exact ay y.sK λs a b=>a▸congrArg V.str (aC.BA (e.symm.trans b))|_=>exact Gr y.sK
theorem fO.no(x:fO v (.ref a)):False:=x.sK
theorem KS.ref(x:KS h R v (.ref a)):∃l vs,v=.Z l/\h.get? a=aa {cls:=.type "tuple",data:=.seq (lG vs)}/\dw R l vs:=by cases x with|«at»x=>exact absurd x fO.no|Z g r=>exact⟨_,_,rfl,g,r⟩
theorem M0{vs a:List aq}(e:aa ({cls:=.type "tuple",data:=.seq vs.toArray}:cE)=aa {cls:=.type "tuple",data:=.seq a.toArray}):vs=a:=by injection e with e;injection e with _ _ e;injection e with e;exact congrArg Array.toList e
theorem KR.inj{h:aQ}(n:Nat):∀(u v:V)(w:aq),KR h n u w->KR h n v w->u=v:=by induction n with|zero=>exactλ_ _ _ x y=>fO.inj x y|succ n ih=>intro u v w x;induction(x:KS h (KR h n) u w)with|«at»a=>intro y;(induction(y:KS h (KR h n) v _)with|«at»b=>exact a.inj b|Z=>exact absurd a fO.no)|Z g r=>intro y;refine cG (KS.ref y) λm us e g' r'=>?_;cases M0 (g.symm.trans g');rw[e,r.inj ih r']
theorem PH(k:∀v,p v=aj->f v v=aj)(h:l.all p=aj):kf f l l=aj:=by induction l with|nil=>rfl|cons v l a=>have h:=(cI _ _▸h:p v=aj/\l.all p=aj);show(f v v&&kf f l l)=aj;rw[k v h.1,a h.2];rfl
theorem Y7(k:∀u v,p u=aj->p v=aj->f u v=aj->u=v)(a:l.all p=aj):∀{m:List V},m.all p=aj->kf f l m=aj->l=m:=by induction l with|nil=>exactλz e=>(eQ.mp e).symm|cons u l c=>intro m;induction m using j4 with|nil=>exactλz e=>nomatch e|cons v m=>intro b e;have a:=(cI _ _▸a:p u=aj/\l.all p=aj);have b:=(cI _ _▸b:p v=aj/\m.all p=aj);have e:=(cI _ _▸e:f u v=aj/\kf f l m=aj);rw[k u v a.1 b.1 e.1,c a.2 b.2 e.2]
theorem KJ(e:uL v=aj):eU (n+1) h v v=aj:=by induction v using V.casesOn with|none=>rfl|int i=>exact beq_self_eq_true i|str i=>exact beq_self_eq_true i|_=>injection e
theorem Zu(n:Nat):∀v,fV n v=aj->eU (n+1) h v v=aj:=by induction n with|zero=>exactλv e=>KJ e|succ n a=>intro v e;induction v using V.casesOn with|Z l=>exact PH a e|_=>exact KJ e
inductive FA:V->aq->Prop|int(i:Int)(t:kF):FA (.int i) (.int i t)|str(s:aC)(t:kF):FA (.str s) (.str s.str t)
theorem FA.ka(x:FA v w):fO v w:=by induction x with|int i t=>exact .int i t|str s t=>exact .str t rfl
noncomputable def AO(k:V)(v:aq):Bool:=match v with|.str x _=>(iy k).any λs=>s.str==x|.int i _=>(fb k).any λj=>j==i|_=>au
theorem FA.is(x:FA k v):AO k v=aj:=by induction x with|_=>exact beq_self_eq_true _
theorem FA.of(e:AO k v=aj):FA k v:=by induction v with|str x t=>exact pz (o:=iy k) e λs a q=>um a▸cr q▸.str s t|int i t=>exact pz (o:=fb k) e λs a q=>zi a▸cr q▸.int s t|_=>exact(vP e).elim
theorem FA.Pn(v:aq):AO (.str s) v=v.isStr s.str:=by induction v with|str x t=>exact vK.mpr (beq_iff_eq.trans (eq_comm.trans beq_iff_eq.symm))|_=>rfl
theorem FA.fV(x:FA v w):fV 8 v=aj:=by induction x<;>rfl
theorem JO(a:uL v=aj)(e:ye v=aa i):v=.int i:=by induction v using V.casesOn with|bool=>injection a|_=>first|exact congrArg V.int (bU e)|injection e
theorem Q6(n:Nat):∀u v,fV n u=aj->fV n v=aj->eU (n+1) h u v=aj->u=v:=by induction n with|zero=>intro u v hu b e;(induction u using V.casesOn with|none=>exact(KI e).symm|int i=>exact pz (o:=ye v) e λj a q=>by rw[JO b a,cr q]|str i=>exact pz (o:=iy v) e λj a q=>by rw[um a,cr q]|_=>injection hu)|succ n c=>intro u v hu b e;induction u using V.casesOn with|none=>exact(KI e).symm|int i=>exact pz (o:=ye v) e λj a q=>by rw[JO (by induction v using V.casesOn with|Z=>injection a|_=>exact b) a,cr q]|str i=>exact pz (o:=iy v) e λj a q=>by rw[um a,cr q]|Z l=>exact pz (o:=jx v) e λm a q=>by rw[E8 a]at b⊢;rw[Y7 c hu b q]|_=>injection hu
theorem FY [DecidableEq V](hu:fV 8 u=aj)(a:fV 8 v=aj):iq u v=aZ (u=v):=by
 by_cases e:u=v;·rw[decide_eq_true e,<-e];exact Zu 8 u hu
 ·rw[decide_eq_false e];exact BX.mpr λq=>e (Q6 8 u v hu a q)
theorem QE{f:V->V->Bool}(l:List V):∀m:List V,((j0 (min l.length m.length)).all (λj=>f (l.getD j .none) (m.getD j .none))&&l.length==m.length)=kf f l m:=by induction l with|nil=>intro m;induction m<;>rfl|cons a x c=>intro m;induction m using j4 with|nil=>rfl|cons b y=>show _=(f a b&&kf f x y);rw[<-c y,mZ,mZ,Nat.succ_min_succ,Oa,m7,List.all_map,Bool.and_assoc];exact congrArg (λt=>f a b&&((j0 (min x.length y.length)).all (λj=>f (x.getD j .none) (y.getD j .none))&&t)) (vK.mpr (beq_iff_eq.trans (Nat.succ_inj.trans beq_iff_eq.symm)))
section
variable{s:az}{A:bq}{n:Nat}
theorem Cw{u v:V}{x y:aq}(a:fO u x)(b:fO v y):EqAt A s x y (eU (n+1) [] u v):=by induction a with|none=>(cases b with|none=>exact EqAt.same _|int=>exact EqAt.none_int _ _|bool=>exact EqAt.none_bool _|str=>exact EqAt.none_str _ _)|int i t=>(cases b with|none=>exact EqAt.int_none _ _|int=>exact EqAt.int_int _ _ _ _|bool=>exact EqAt.int_bool _ _ _|str=>exact EqAt.int_str _ _ _ _)|bool c=>(cases b with|none=>exact EqAt.bool_none _|int=>exact EqAt.bool_int _ _ _|bool d=>exact(show(c==d)=eU (n+1) [] (.int (if c then 1 else 0)) (.int (if d then 1 else 0))by induction c<;>induction d<;>rfl)▸EqAt.bool_bool c d|str=>exact EqAt.bool_str _ _ _)|str t e=>cases b with|none=>exact EqAt.str_none _ _|int=>exact EqAt.str_int _ _ _ _|bool=>exact EqAt.str_bool _ _ _|str g f=>rw[e,f,show eU (n+1) [] (.str _) (.str _)=_ from(aC.AD _ _).symm];exact EqAt.str_str _ _ _ _
variable{a:am}{vs:Array aq}(g:s.heap.IsTuple a vs)(hu:A.units<qj)
include g hu
theorem YD{u:V}{x:aq}{l:List V}(k:fO u x):EqAt A s x (.ref a) (eU (n+1) [] u (.Z l)):=by induction k with|none=>exact EqAt.none_tuple g hu|int i t=>exact EqAt.int_tuple i t g hu|bool b=>exact EqAt.bool_tuple b g hu|str t=>exact EqAt.str_tuple _ t g hu
theorem RU{u:V}{x:aq}{l:List V}(k:fO u x):EqAt A s (.ref a) x (eU (n+1) [] (.Z l) u):=by induction k with|none=>exact EqAt.tuple_none g hu|int i t=>exact EqAt.tuple_int i t g hu|bool b=>exact EqAt.tuple_bool b g hu|str t=>exact EqAt.tuple_str _ t g hu
end
theorem fO.fV(x:fO v w)(n:Nat):eU (n+1) [] v v=aj:=by induction x<;>first|rfl|exact beq_self_eq_true _
theorem dw.same(k:∀v w,R v w->f v v=aj)(x:dw R l m):kf f l l=aj:=by induction x with|nil=>rfl|@cons a b l m r _ c=>show(f a a&&kf f l l)=aj;rw[k _ _ r,c];rfl
theorem KR.same{h:aQ}(n:Nat):∀(u:V)(w:aq),KR h n u w->eU (n+1) [] u u=aj:=by induction n with|zero=>exactλz z x=>fO.fV x _|succ n b=>intro u w x;induction(x:KS h (KR h n) u w)with|«at»a=>exact a.fV _|Z g r=>exact r.same b
theorem Sp{s:az}(n:Nat):∀(u v:V)(x y:aq)(A:bq),KR s.heap n u x->KR s.heap n v y->A.units+n<qj->EqAt A s x y (eU (n+1) [] u v):=by induction n with|zero=>exactλu v x y A hx hy _=>Cw hx hy|succ n ih=>intro u v x y A hx hy hu;have h1:A.units<qj:=gF (eN _ _) hu;induction(hx:KS s.heap (KR s.heap n) u x)with|«at»p=>(induction(hy:KS s.heap (KR s.heap n) v y)with|«at»q=>exact Cw p q|Z g r=>exact YD ⟨_,g,rfl,_,rfl⟩ h1 p)|@Z l a vs g r=>induction(hy:KS s.heap (KR s.heap n) v y)with|«at»q=>exact RU ⟨_,g,rfl,_,rfl⟩ h1 q|@Z m b us g' r'=>by_cases hab:a=b;(·subst hab;cases M0 (g.symm.trans g');rw[<-r.inj (KR.inj n) r',show eU (n+1+1) [] (.Z l) (.Z l)=aj from r.same (KR.same n)];exact EqAt.same _);·refine EqAt.of_refs hab ?_;have z:=RcAt.tuples (A:=A) (s:=s) (items:=vs.toArray) (items2:=us.toArray) (e:=λj=>eU (n+1) [] (l.getD j .none) (m.getD j .none)) ⟨_,g,rfl,_,rfl⟩ ⟨_,g',rfl,_,rfl⟩ h1 λj h1 h2=>ih _ _ _ _ _ (r.cp h1) (r'.cp h2) (by rw[Ob];lia);rw[jd,jd,r.bN,r'.bN,QE l m]at z;exact z
section
variable{aE:jM}{w:de}{E:aq->az->Prop}
theorem Ka{A:bq}(k:fO v x)(hu:A.units<qj)(h:Q (An w v) {s with toks:=s.toks+1}):aJ (aU aE w) A (pyHash x) Q E s:=by induction k with|none=>exact Oc (T:="NoneType") rfl F.slot_NoneType_hash F.entry_NoneType_hash (F.args_NoneType_hash_1 _) (Od _) (.inr hu) (bM (eT (bM (Oe (eT (iM _ _ rfl h))))))|int=>exact wpAny_pyHash_int h|bool b=>refine Oc (T:="bool") rfl F.slot_bool_hash F.entry_int_hash (F.args_int_hash_1 _) (Od _) (.inl rfl) (bM (eT (bM (Oe (eT (iM _ _ rfl ?_))))));induction b<;>exact h|str t e=>rw[e];exact wpAny_pyHash_str h
theorem Yx {n : Nat} {f : V → Int} {d : V → Nat} {A : bq} (ih : ∀ (s : az) (v : V) (x : aq) (Q : Int → az → Prop), KR s.heap n v x → Q (f v) { s with toks := s.toks + d v } → aJ (aU aE w) A (pyHash x) Q E s) :
    ∀ (l : List V) (vs : List aq) (s : az) (b : Array Int) (Q : Array Int → az → Prop), dw (KR s.heap n) l vs → (∀ b' : Array Int, b'.toList = b.toList ++ l.map f → Q b' { s with toks := s.toks + (l.map d).sum }) →
    aJ (aU aE w) A (vT vs b fun x r => do let h ← pyHash x; dG vU; dG (yC (r.push h))) Q E s := by
  intro l
  induction l with
  | nil => intro vs s b Q x h; cases x; exact eT (h b (iD _).symm)
  | cons k l il =>
    intro vs s b Q x h
    cases x with
    | cons a r =>
      rw [BY]
      refine bM (bM (ih s k _ _ a (eT (il _ _ _ _ r fun b' hb => ?_))))
      have:= h b' (by rw [hb, Array.toList_push, re]; rfl)
      rw [uB, yA, ← ra] at this
      exact this
theorem Tj(n:Nat):∀(A:bq)(s:az)(v:V)(x:aq)(Q:Int->az->Prop),A.units+n<qj->KR s.heap n v x->Q (Dm w n v) {s with toks:=s.toks+C4 n v}->aJ (aU aE w) A (pyHash x) Q E s:=by induction n with|zero=>exactλA s v x Q hu k h=>Ka k hu h|succ n e=>intro A s v x Q hu k;have c:A.units<qj:=gF (eN _ _) hu;induction(k:KS s.heap (KR s.heap n) v x)with|«at»a=>intro h;exact Ka a c (by induction a<;>exact h)|@Z l a vs g r=>intro h;refine Oc (T:="tuple") ⟨_,g,rfl⟩ F.slot_tuple_hash F.entry_tuple_hash (F.args_tuple_hash_1 _) (Od _) (.inr c) ?_;show aJ _ _ (Builtin.Tuple.tupleItemsOf (.ref a)>>=_) _ _ s;refine bM (wpAny_tupleItemsOf g rfl (bM ?_));rw[<-abF];refine Yx (λs v x Q=>e A.in1 s v x Q (by rw[Ob];lia)) l vs s #[] _ r λb d=>?_;show aJ _ _ (retInt (abE b.toList)) _ _ _;rw[d];exact bM (Oe (eT (iM _ _ rfl h)))
end
end
theorem fO.Fx(k:fO v x):carriedByValue x=aj:=by induction k<;>rfl
section
variable{M:jN}{A:bq}{E:aq->az->Prop}{s:az}{n:Nat}
theorem PO (ih : ∀ (v : V) (x : aq) (Q : Bool → az → Prop), KR s.heap n v x → Q aj s → aJ M A (Gu n x) Q E s) (b : Option Bool × PUnit) {Q : Option Bool × PUnit → az → Prop} (h : Q b s) :
    ∀ (l : List V) (vs : List aq), dw (KR s.heap n) l vs → aJ M A (vT vs b fun y r => do
      if !(← Gu n y) then return ForInStep.done (aa au, ⟨⟩)
      dG (yC b)) Q E s := by
  intro l
  induction l with
  | nil => intro vs x; cases x; exact eT h
  | cons v l il => intro vs x; cases x with
    | cons a r => rw [BY]; exact bM (bM (ih v _ _ a (eT (il _ r))))
theorem aac(n:Nat):∀(v:V)(x:aq)(Q:Bool->az->Prop),KR s.heap n v x->Q aj s->aJ M A (Gu n x) Q E s:=by induction n with|zero=>intro v x Q k h;rw[eqIsQuiet_byValue _ (fO.Fx k)];exact eT h|succ n c=>intro v x Q k;induction(k:KS s.heap (KR s.heap n) v x)with|«at»a=>intro h;rw[eqIsQuiet_byValue _ a.Fx];exact eT h|@Z l a vs g r=>intro h;have b:s.TypeIs (.ref a) "tuple":=⟨_,g,rfl⟩;unfold Gu;refine bM (wpAny_specialOf b F.slot_tuple_eq.lookup ?_);show aJ _ _ (Of (.ref a) (.type "tuple")>>=_) _ _ s;refine bM (wpAny_isInstance b isSubtype_tuple_tuple ?_);show aJ _ _ (_>>=_) _ _ s;refine bM (wpAny_seqItems g rfl (bM ?_));show aJ _ _ (vT vs.toArray _ _) _ _ s;rw[<-abF];exact PO c _ (eT h) l vs r
end
section
open Classical
noncomputable def tQ(aE:jM)(w:de):PySem.HeapKind aE w V where
 is h v a:=KR h 8 v (.ref a)/\fV 8 v=aj
 hash:=Dm w 8
 draws:=C4 8
 room A:=A.units+64<qj
 inj b c:=KR.inj 8 _ _ _ b.1 c.1
 keeps x ho e hs:=⟨KR.B (λa vs g=>(hs.2 a λq=>by rw[q,ho]at g;injection g with g;rw[g]at e;injection e).trans g) 8 _ _ x.1,x.2⟩
 pyHash hu d h:=Tj 8 _ _ _ _ _ (gF (abG (cJ rfl) _) hu) d.1 h
 eqBool hu b c h:=Sp 8 _ _ _ _ _ b.1 c.1 (gF (abG (cJ rfl) _) hu) _ _ _ _ (by rw[<-FY b.2 c.2]at h;exact h)
 quiet d h:=aac 8 _ _ _ d.1 h
noncomputable def oK(aE:jM)(w:de):PySem.KeyKind aE w V where
 is:=AO
 hash:=An w
 inj v a b x y:=(FA.of x).ka.inj (FA.of y).ka
 byValue k v x:=(FA.of x).ka.Fx
 pyHash x h:=by induction FA.of x with|int i t=>exact wpAny_pyHash_int h|str s t=>exact wpAny_pyHash_str h
 eqBool x y h:=Cw (n:=8) (FA.of x).ka (FA.of y).ka _ _ _ _ (by rw[<-FY (FA.of x).fV (FA.of y).fV]at h;exact h)
 «strs»k x t v e:=pz (o:=iy k) e λs c q=>um c▸cr q▸FA.Pn v
end
section
open Classical
variable(G:bp)
noncomputable def gX(o:cE):Prop:=o.cls≠.type "tuple"/\o.cls≠.type "function"/\o.cls≠.type "code"
theorem gX.no(x:gX o)(c:o.cls=.type "tuple"\/o.cls=.type "function"\/o.cls=.type "code"):False:=c.elim x.1 λc=>c.elim x.2.1 x.2.2
noncomputable def iY{β:Type}(N:Nat)(g:β->aq)(φ:List am)(h:aQ):List (V×V)->List (V×β)->Prop:=dw λp q=>(q.1=p.1/\io p.1=N/\fV 8 p.1=aj)/\aA G φ h p.2 (g q.2)
noncomputable abbrev DR:=iY (β:=aq) G 1 λw=>w
noncomputable abbrev uM:=iY (β:=am×aq) G 2 λb=>b.2
noncomputable def jT(φ:List am)(h:aQ):List (At×V)->List i8->Prop:=dw λp e=>(∃t,e=⟨Gc G.w.params p.1.str,.str p.1.str t,e.val⟩)/\aA G φ h p.2 e.val
inductive gH(φ:List am)(h:aQ)(a:am)(l:List (V×V)):Prop|bW(kv:List (V×aq)):h.DictOf (oK G.aE G.w) a kv->DR G φ h l kv->gH φ h a l|tY(kv:List (V×am×aq)):h.DictOfH (tQ G.aE G.w) a kv->uM G φ h l kv->gH φ h a l
noncomputable def kB(φ:List am)(h:aQ)(i:Nat)(a:am):O->Prop|.list l=>∃vs n,h.get? a=aa (rq (lG vs) n)/\bv G φ h l vs|.dict l=>gH G φ h a l|.bw k=>∃d,φ[i+1]?=aa d/\h.get? a=aa (instObj (G.ka k) d)|.fields l=>∃b n,h.get? a=aa (dictOf b n)/\jT G φ h l b
noncomputable def AQ(h:aQ):Prop:=∃ps,h.get? G.P=aa (ry ps)/\TriplesOk ps.toList/\(ps=#[]\/∃c,codeAmong G.BI ps.toList=aa (.ref c)/\rM h c pE)
structure aK(φ:List am)(μ:H)(h:aQ):Prop where
 bN:φ.length=μ.length
 nd:φ.Nodup
 fJ:∀i o,μ[i]?=aa o->∀a,φ[i]?=aa a->kB G φ h i a o
 eJ:G.h₀.StaysIn h
 k9:∀a∈φ,G.h₀.get? a=ah
 rX:G.P∉φ
 tab:AQ G h
 oH:G.Lb∉φ
 lb:∃m,h.Ns G.Lb m
noncomputable def mO(h:aQ)(b:am):Prop:=∃o a n,h.get? b=aa o/\o.cls=.type "frame"/\o.data=.dict a n
structure kA(own:List am)(h h':aQ):Prop where
 oN:∀b o,h.get? b=aa o->∃o',h'.get? b=aa o'
 keep:∀b o,b∉own->b≠G.P->b≠G.Lb->h.get? b=aa o->(o.cls=.type "frame"->∀es n,o.data≠.dict es n)->h'.get? b=aa o
 ns:∀b m,b∉own->h.Ns b m->h'.Ns b m
 fr:∀b,b∉own->b≠G.Lb->mO h b->mO h' b
noncomputable def cy(own:List am)(φ:List am)(s:az)(c:List am)(s':az):Prop:=(∃b,c=φ++b/\∀a∈b,s.heap.get? a=ah)/\kA G (own++φ) s.heap s'.heap/\s'={s with heap:=s'.heap,toks:=s'.toks}
noncomputable abbrev c7(φ:List am)(s:az)(a:List am)(s':az):Prop:=cy G [] φ s a s'
variable{G}
theorem kA.b8(own:List am)(h:aQ):kA G own h h:=⟨λ_ o e=>⟨o,e⟩,λ_ _ _ _ _ e _=>e,λ_ _ _ e=>e,λ_ _ _ e=>e⟩
theorem kA.B(x:kA G own h h')(hs:∀a∈own,a∈own'):kA G own' h h':=⟨x.oN,λb o d g f e c=>x.keep b o (λq=>d (hs b q)) g f e c,λb m d e=>x.ns b m (λq=>d (hs b q)) e,λb d f e=>x.fr b (λq=>d (hs b q)) f e⟩
theorem kW{h:aQ}(e:h.get? a=aa o):h.get? a≠ah:=λq=>nomatch e.symm.trans q
theorem pR{h:aQ}{m:aD->Option aq}(x:h.Ns a m):h.get? a≠ah:=gM x λ_ _ _ e _=>kW e
theorem CL{h:aQ}(x:h.IsCell a v):h.get? a≠ah:=ay x λ_ e _=>kW e
theorem kA.EH{f:aQ}(x:kA G own f h)(y:kA G own' h i)(hs:∀b,f.get? b≠ah->b∈own'->b∈own):kA G own f i:=⟨λb o e=>oE (x.oN b o e) (y.oN b),λb o a g d e c=>y.keep b o (λq=>a (hs b (kW e) q)) g d (x.keep b o a g d e c) c,λb m a e=>y.ns b m (λq=>a (hs b (pR e) q)) (x.ns b m a e),λb a d e=>y.fr b (λq=>a (hs b (gM e λo z z e z=>kW e) q)) d (x.fr b a d e)⟩
theorem kA.none(x:kA G own h h')(e:h'.get? a=ah):h.get? a=ah:=by induction q:h.get? a with|none=>rfl|some o=>refine oE (x.oN a o q) λo' b=>?_;rw[e]at b;injection b
theorem cy.b8(own φ:List am)(s:az):cy G own φ s φ s:=⟨(bC ([]) (by simp) (by simp)),.b8 _ _,rfl⟩
theorem cy.trans(x:cy G own φ s f s₁)(y:cy G own f s₁ g e):cy G own φ s g e:=by
 refine dT x ?_;try clear x;rintro⟨i,rfl,c⟩d p
 refine dT y ?_;try clear y;rintro⟨j,rfl,k⟩l q
 refine⟨(bC (i++j) (by simp) (λa m=>?_)),d.EH l λb n o=>?_,by rw[q,p]⟩;·rcases d6.mp m with h|h;(·exact c a h);·exact d.none (k a h)
 ·rcases d6.mp o with h|h;(·exact ma _ h);·rcases d6.mp h with h|h;(·exact vM _ h);·exact absurd (c b h) n
theorem cy.oM(x:cy G own φ s b s')(hs:∀a∈own,a∈own'):cy G own' φ s b s':=⟨x.1,x.2.1.B λa c=>(d6.mp c).elim (λh=>ma _ (hs a h)) (vM _),x.2.2⟩
theorem cy.eB(x:cy G own φ s b s')(i:Nat)(a:am)(e:φ[i]?=aa a):b[i]?=aa a:=by
 refine oA x ?_;try clear x;rintro⟨c,rfl,_⟩_
 rw[nY (dH.mp e).1];exact e
structure tG(ob:cE):Prop where
 wL:gX ob
 fr:ob.cls≠.type "frame"
 eG:∀vs,ob.data≠.fields vs
 cell:∀v,ob.data≠.cell v
theorem jI{c:aq}{a:String}(e:c=.type a)(b:String)(h:(a==b)=au):c≠.type b:=λq=>by rw[q]at e;injection e with e;rw[e,beq_self_eq_true]at h;injection h
theorem uo{c:aq}{a:am}(e:c=.ref a)(b:String):c≠.type b:=λq=>nomatch e.symm.trans q
theorem tG.ty(c:o.cls=.type n)(a:(n=="tuple")=au)(b:(n=="function")=au)(d:(n=="code")=au)(e:(n=="frame")=au)(f:∀vs,o.data≠.fields vs)(g:∀v,o.data≠.cell v):tG o:=⟨⟨jI c _ a,jI c _ b,jI c _ d⟩,jI c _ e,f,g⟩
theorem tG.bF{a n}(c:o.cls=.type "dict")(d:o.data=.dict a n):tG o:=.ty c rfl rfl rfl rfl (λz q=>nomatch d.symm.trans q) (λz q=>nomatch d.symm.trans q)
theorem gH.fJ(x:gH G φ h a l):∃o b n,h.get? a=aa o/\o.cls=.type "dict"/\o.data=.dict b n:=by induction x with|bW f x=>exact oW x λo b n e c d z=>⟨o,b,n,e,c.1,d⟩|tY f x=>exact oW x λo b n e c d z=>⟨o,b,n,e,c.1,d⟩
theorem kB.own(x:kB G φ h i a o):∃b,h.get? a=aa b/\tG b:=by induction o with|list l=>exact gw x λvs n e z=>⟨_,e,.ty rfl rfl rfl rfl rfl (λz q=>nomatch q) (λz q=>nomatch q)⟩|dict l=>exact fW (gH.fJ x) λo f n e c d=>⟨o,e,.bF c d⟩|bw k=>exact ay x λd z e=>⟨_,e,⟨uo rfl _,uo rfl _,uo rfl _⟩,uo rfl _,(λz q=>nomatch q),λz q=>nomatch q⟩|fields l=>exact gw x λf n e z=>⟨_,e,.bF rfl rfl⟩
theorem aK.own(b:aK G φ μ h)(d:a∈φ):∃c,h.get? a=aa c/\tG c:=by obtain⟨i,hi,rfl⟩:=List.getElem_of_mem d;have e:i<μ.length:=b.bN▸hi;exact(b.fJ i μ[i] (gP e) φ[i] (gP hi)).own
theorem aK.lt(b:aK G φ μ h)(c:a∈φ):a<h.objs.size:=ay (b.own c) λz e z=>md e
theorem aK.nw(a:aK G φ μ h):∃ps,h.get? G.P=aa (ry ps):=ay a.tab λps e z=>⟨ps,e⟩
theorem cX.Y1(x:kA G own h h')(ho:∀a∈own,∀b,h.get? a=aa b->gX b)(k:∀b,h.get? G.P=aa b->gX b)(i:∃m,h.Ns G.Lb m):cX h h':=λa o e d c=>by refine x.keep a o (λq=>?_) (λq=>?_) (λq=>?_) e (λf=>?_);(·exact(ho a q o e).no c);(·exact(k o (q▸e)).no c);(·refine Yc i λm o' n l g j z=>?_;(try clear i);rw[<-q,e]at g;injection g with q;subst q;exact d.1 _ _ j);·exact(gX.no ⟨jI f _ rfl,jI f _ rfl,jI f _ rfl⟩ c).elim
theorem aK.fR{φ i:List am}{μ:H}{s s':az}{own:List am}(d:aK G φ μ s.heap)(x:cy G own φ s i s')(ho:∀a∈own,∀b,s.heap.get? a=aa b->gX b):cX s.heap s'.heap:=by
 refine .Y1 x.2.1 (λa g b e=>?_) (λb e=>?_) d.lb;·rcases d6.mp g with h|h;(·exact ho a h b e);·exact ay (d.own h) λj f c=>bU (f.symm.trans e)▸c.wL
 ·exact oE d.nw λps f=>bU (f.symm.trans e)▸(⟨(λq=>nomatch q),(λq=>nomatch q),λq=>nomatch q⟩:gX (ry ps))
theorem aA.aH{φ c:List am}{μ:H}{s s':az}{own:List am}(d:aK G φ μ s.heap)(x:cy G own φ s c s')(ho:∀a∈own,∀b,s.heap.get? a=aa b->gX b){v:V}{w:aq}(r:aA G φ s.heap v w):aA G c s'.heap v w:=r.B x.eB (d.fR x ho)
theorem dX{s:az}:∀a∈([]:List am),∀b,s.heap.get? a=aa b->gX b:=λz h=>nomatch h
end
section
variable(G:bp)
noncomputable def Holds(env:bP)(h:aQ)(x:aD)(w:aq):Prop:=(env.kindOf x=aa .local/\∃m,h.Ns env.locals m/\m x=aa w)\/((env.kindOf x=aa .cell\/env.kindOf x=aa .free)/\∃c,env.cells.lookup x=aa c/\h.IsCell c (aa w))
structure dZ(sl:List (aD×Nat))(env:bP)(F:List V)(φ:List am)(h:aQ):Prop where
 kind:env.scope.kind=.function
 mW:env.globals=e7
 bi:env.builtins=vG
 fr:∃L m,env.frame=aa L/\h.Ns L m/\L∉φ/\G.h₀.objs.size<=L/\(L=G.Lb\/mO h L)
 af:(∃m,h.Ns env.locals m)/\env.locals∉φ/\G.h₀.objs.size<=env.locals
 hV:∀x c,env.cells.lookup x=aa c->c∉φ/\G.h₀.objs.size<=c/\∃v,h.IsCell c v
 uu:∀x y c,env.cells.lookup x=aa c->env.cells.lookup y=aa c->x=y
 name:∀x i,sl.lookup x=aa i->env.kindOf x=aa .local\/((env.kindOf x=aa .cell\/env.kindOf x=aa .free)/\(env.cells.lookup x).isSome=aj)\/env.kindOf x=ah
 snd:∀x y i,sl.lookup x=aa i->sl.lookup y=aa i->x=y
 val:∀x i v,sl.lookup x=aa i->F[i]?=aa v->v=.U\/∃w,Holds env h x w/\aA G φ h v w
noncomputable def fK(A:bq)(φ:List am)(h:aQ):Prop:=∃a,A.frames=aa a/\∀e∈a,e.scope.kind≠.module/\∃L m,e.frame=aa L/\h.Ns L m/\L∉φ/\G.h₀.objs.size<=L/\(L=G.Lb\/mO h L)
structure dQ(A:bq)(env:bP)(sl:List (aD×Nat))(F:List V)(φ:List am)(μ:H)(s:az):Prop where
 cf:aK G φ μ s.heap
 env:dZ G sl env F φ s.heap
 fr:fK G A φ s.heap
 hh:A.handled=ah
inductive tR(n:aQ)(a:am)(h:aQ)(vs:Array aq)(T:am)(fl:aq):Prop|mk{oT ts}:vs[1]?=aa (.ref T)->n.get? T=ah->T≠a->h.get? T=aa oT->oT.cls=.type "traceback"->oT.data=.fields ts->ts[3]?=aa fl->tR n a h vs T fl
noncomputable def Wm(n:aQ)(a:am)(h:aQ)(vs:Array aq)(b:Option (am×aq)):Prop:=match b with|ah=>vs[1]?=aa .none|aa q=>tR n a h vs q.1 q.2
inductive qB(n:aQ)(x:X)(a:am)(tb:Option (am×aq))(h:aQ):Prop|mk{oe vs a0}:n.get? a=ah->h.get? a=aa oe->oe.cls=.ref (G.xa x)->oe.data=.fields vs->vs[0]?=aa a0->Wm n a h vs tb->qB n x a tb h
noncomputable def nM(n:aQ)(L:Option am)(x:X)(e:aq)(h:aQ):Prop:=∃a b,e=.ref a/\qB G n x a b h/\(b=ah\/∃T,b=aa (T,.none)\/∃l,L=aa l/\b=aa (T,mh l))
noncomputable def aY(L:Option am)(φ:List am)(s:az)(r:aB V)(Q:aq->az->Prop)(E:aq->az->Prop):Prop:=match r with|.ok v b=>∀a s' w,c7 G φ s a s'->aK G a b s'.heap->aA G a s'.heap v w->Q w s'|.ex x b=>∀a s' e,c7 G φ s a s'->aK G a b s'.heap->nM G s.heap L x e s'.heap->E e s'|.aM=>False
noncomputable def gW(L:Option am)(φ:List am)(s:az)(r:aB (List V))(Q:List aq->az->Prop)(E:aq->az->Prop):Prop:=match r with|.ok v b=>∀a s' w,c7 G φ s a s'->aK G a b s'.heap->bv G a s'.heap v w->Q w s'|.ex x b=>∀a s' e,c7 G φ s a s'->aK G a b s'.heap->nM G s.heap L x e s'.heap->E e s'|.aM=>False
noncomputable def fc(L:Option am)(φ:List am)(s:az)(r:aB Bool)(Q:Bool->az->Prop)(E:aq->az->Prop):Prop:=match r with|.ok b c=>∀a s',c7 G φ s a s'->aK G a c s'.heap->Q b s'|.ex x c=>∀a s' e,c7 G φ s a s'->aK G a c s'.heap->nM G s.heap L x e s'.heap->E e s'|.aM=>False
noncomputable def fv(env:bP):List am:=env.locals::env.cells.map (·.2)
noncomputable def bB(env:bP)(c:List (aD×Nat))(φ:List am)(s:az)(r:RS)(Q:kK->az->Prop)(E:aq->az->Prop):Prop:=match r with|.nx F b=>∀a s',cy G (fv env) φ s a s'->aK G a b s'.heap->dZ G c env F a s'.heap->Q .next s'|.rt v b=>∀a s' w,cy G (fv env) φ s a s'->aK G a b s'.heap->aA G a s'.heap v w->Q (.ret w) s'|.ex x F b=>∀a s' e,cy G (fv env) φ s a s'->aK G a b s'.heap->dZ G c env F a s'.heap->nM G s.heap env.frame x e s'.heap->E e s'|.aM=>False
variable{G}
theorem nM.lo(b:∀a,n.get? a=ah->m.get? a=ah)(k:nM G n L x e h):nM G m L x e h:=by refine cG k λa d e k c=>gv a d e ?_ c;induction k with|mk r s u v w t=>exact .mk (b a r) s u v w (by cases d with|none=>exact t|some q=>induction(t:tR n a h _ q.1 q.2)with|mk f g i j l o p=>exact .mk f (b _ g) i j l o p)
theorem aY.aH{E:aq->az->Prop}(x:c7 G φ s f s₁)(h:aY G L φ s r Q E):aY G L f s₁ r Q E:=by induction r with|ok v μ=>exactλd s' w a b c=>h d s' w (x.trans a) b c|ex y μ=>exactλd s' e a b c=>h d s' e (x.trans a) b (c.lo λz q=>x.2.1.none q)|aM=>exact h
theorem gW.aH{E:aq->az->Prop}(x:c7 G φ s f s₁)(h:gW G L φ s r Q E):gW G L f s₁ r Q E:=by induction r with|ok v μ=>exactλd s' w a b c=>h d s' w (x.trans a) b c|ex y μ=>exactλd s' e a b c=>h d s' e (x.trans a) b (c.lo λz q=>x.2.1.none q)|aM=>exact h
theorem fc.aH{E:aq->az->Prop}(x:c7 G φ s f s₁)(h:fc G L φ s r Q E):fc G L f s₁ r Q E:=by induction r with|ok v μ=>exactλd s' a b=>h d s' (x.trans a) b|ex y μ=>exactλd s' e a b c=>h d s' e (x.trans a) b (c.lo λz q=>x.2.1.none q)|aM=>exact h
theorem bB.aH{E:aq->az->Prop}(x:cy G (fv env) φ s i s₁)(h:bB G env g φ s r Q E):bB G env g i s₁ r Q E:=by induction r with|nx v μ=>exactλf s' a b c=>h f s' (x.trans a) b c|rt v μ=>exactλf s' w a b c=>h f s' w (x.trans a) b c|ex y F μ=>exactλf s' e a b c d=>h f s' e (x.trans a) b c (d.lo λz q=>x.2.1.none q)|aM=>exact h
theorem oJ(x:cy G own φ s b s')(c:a∉φ)(d:s.heap.get? a≠ah):a∉b:=ay x.1 λg e f=>e▸λq=>(d6.mp q).elim c λq=>d (f a q)
theorem aK.wY(b:aK G φ μ h)(x:h.Ns a m):a≠G.P:=by rintro rfl;exact oE b.nw λps e=>fW x λo g f c d z=>nomatch(bU (c.symm.trans e)▸d:(ry ps).data=.dict g f)
theorem aK.FQ(b:aK G φ μ h)(x:h.IsCell a v):a≠G.P:=by rintro rfl;exact oE b.nw λps e=>ay x λo c d=>nomatch(bU (c.symm.trans e)▸d:(ry ps).data=.cell v)
theorem DE{h:aQ}{o:cE}(g:∃m,h.Ns G.Lb m)(e:h.get? c=aa o)(d:∀a n,o.data≠.dict a n):c≠G.Lb:=by rintro rfl;exact oE g λm x=>fW x λo a i f b z=>d _ _ (bU (f.symm.trans e)▸b)
theorem kA.cell{h h':aQ}(x:kA G own h h')(f:c∉own)(b:c≠G.P)(a:∃m,h.Ns G.Lb m)(k:h.IsCell c v):h'.IsCell c v:=ay k λo e d=>bC o (x.keep c o f b (DE a e λz z q=>nomatch d.symm.trans q) e λz z z q=>nomatch d.symm.trans q) d
theorem Holds.aH(b:aK G φ μ s.heap)(R:dZ G h env F φ s.heap)(x:cy G own φ s i s')(ho:env.locals∉own)(f:∀x c,env.cells.lookup x=aa c->c∉own)(k:Holds env s.heap n w):Holds env s'.heap n w:=by
 rcases k with⟨k,m,g,e⟩|⟨k,c,a,d⟩;·exact .inl ⟨k,m,x.2.1.ns _ m (λq=>(d6.mp q).elim ho R.af.2.1) g,e⟩
 ·exact .inr ⟨k,c,a,x.2.1.cell (λq=>(d6.mp q).elim (f n c a) (R.hV n c a).1) (b.FQ d) b.lb d⟩
theorem Iw(x:cy G own φ s a s')(h:L∉own++φ)(c:L=G.Lb\/mO s.heap L):L=G.Lb\/mO s'.heap L:=by
 by_cases q:L=G.Lb;·exact .inl q
 ·exact .inr (x.2.1.fr L h q (c.resolve_left q))
theorem dZ.kD(g:aK G φ μ s.heap)(R:dZ G r env F φ s.heap)(x:cy G own φ s t s')(ho:env.locals∉own)(o:∀L,env.frame=aa L->L∉own)(j:∀x c,env.cells.lookup x=aa c->c∉own)(hs:∀a∈own,∀p,s.heap.get? a=aa p->gX p):dZ G r env F t s'.heap where
 kind:=R.kind
 mW:=R.mW
 bi:=R.bi
 fr:=iF R.fr λL m e d a b c=>⟨L,m,e,x.2.1.ns _ m (λq=>(d6.mp q).elim (o L e) a) d,oJ x a (pR d),b,Iw x (λq=>(d6.mp q).elim (o L e) a) c⟩
 af:=dT R.af λl a b=>oE l λm d=>⟨⟨m,x.2.1.ns _ m (λq=>(d6.mp q).elim ho a) d⟩,oJ x a (pR d),b⟩
 hV:=λn c e=>pO (R.hV n c e) λa b v h=>⟨oJ x a (CL h),b,v,x.2.1.cell (λq=>(d6.mp q).elim (j n c e) a) (g.FQ h) g.lb h⟩
 uu:=R.uu
 name:=R.name
 snd:=R.snd
 val:=λn i v e f=>(R.val n i v e f).imp id λk=>ay k λw a b=>⟨w,a.aH g R x ho j,b.aH g x hs⟩
theorem dZ.aH(c:aK G φ μ s.heap)(R:dZ G a env F φ s.heap)(x:c7 G φ s b s'):dZ G a env F b s'.heap:=R.kD c x (by simp) (by simp) (by simp) dX
theorem fK.kD{A:bq}(R:fK G A φ s.heap)(x:cy G own φ s j s')(ho:∀b∈own,∀d,A.frames=aa d->∀e∈d,e.frame=aa b->∀m,s.heap.Ns b m->(b=G.Lb\/mO s.heap b)->(∃m,s'.heap.Ns b m)/\(b=G.Lb\/mO s'.heap b)):fK G A j s'.heap:=by
 refine ay R λd e k=>?_;try clear R
 refine⟨d,e,λh i=>?_⟩;refine Jr (k h i) λk1 L m f g a b c=>?_;by_cases q:L∈own;·refine oA (ho L q d e h i f m g c) ?_;rintro⟨m',n⟩l;exact⟨k1,L,m',f,n,oJ x a (pR g),b,l⟩
 ·exact⟨k1,L,m,f,x.2.1.ns _ m (λz=>(d6.mp z).elim q a) g,oJ x a (pR g),b,Iw x (λz=>(d6.mp z).elim q a) c⟩
theorem fK.aH{A:bq}(R:fK G A φ s.heap)(x:c7 G φ s a s'):fK G A a s'.heap:=R.kD x (λz h=>nomatch h)
theorem dQ.aH{A:bq}{env:bP}{c:List (aD×Nat)}{F:List V}{φ b:List am}{μ d:H}{s s':az}(a:dQ G A env c F φ μ s)(x:c7 G φ s b s')(e:aK G b d s'.heap):dQ G A env c F b d s':=⟨e,a.env.aH a.cf x,a.fr.aH x,a.hh⟩
end
section
variable{G:bp}
theorem KR.fR{h h':aQ}(k:cX h h'){n:Nat}{v:V}{w:aq}(x:KR h n v w):KR h' n v w:=x.B (λ_ _ g=>k _ _ g ⟨(λ_ _ q=>nomatch q),λ_ q=>nomatch q⟩ (.inl rfl))
section
variable{φ φ':List am}{h h':aQ}(hp:∀(i:Nat)(a:am),φ[i]?=aa a->φ'[i]?=aa a)(k:cX h h')
include hp k
theorem iY.B{β:Type}{N:Nat}{g:β->aq}{l:List (V×V)}{a:List (V×β)}(x:iY G N g φ h l a):iY G N g φ' h' l a:=x.imp λz z r=>⟨r.1,r.2.B hp k⟩
theorem jT.B{l:List (At×V)}{a:List i8}(x:jT G φ h l a):jT G φ' h' l a:=x.imp λz z r=>⟨r.1,r.2.B hp k⟩
theorem kB.B{i:Nat}{a:am}{o:O}(ha:∀ob,h.get? a=aa ob->h'.get? a=aa ob)(x:kB G φ h i a o):kB G φ' h' i a o:=by induction o with|list l=>exact gw x λvs n e r=>⟨vs,n,ha _ e,r.B hp k⟩|dict l=>(induction(x:gH G φ h a l)with|bW kv x r=>exact .bW kv (gM x λo es ep e z=>⟨o,es,ep,ha _ e,z⟩) (r.B hp k)|tY kv x r=>exact .tY kv (y9 x λo es ep e c d f g n=>⟨o,es,ep,ha _ e,c,d,f,λx hx=>⟨(g x hx).1.fR k,(g x hx).2⟩,n⟩) (r.B hp k))|bw c=>exact ay x λd e g=>⟨d,hp _ _ e,ha _ g⟩|fields l=>exact gw x λes n e r=>⟨es,n,ha _ e,r.B hp k⟩
end
structure cR(G:bp)(ch:List am)(h h':aQ):Prop where
 keep:∀b o,b∉ch->b≠G.Lb->h.get? b=aa o->h'.get? b=aa o
 ns:G.Lb∉ch->∀m,h.Ns G.Lb m->h'.Ns G.Lb m
 lb:(∃m,h.Ns G.Lb m)->∃m,h'.Ns G.Lb m
 oN:∀b o,b∈ch->h.get? b=aa o->∃o',h'.get? b=aa o'
theorem cR.nr(k:∀b o,h.get? b=aa o->h'.get? b=aa o)(a:List am):cR G a h h':=⟨λb o z z e=>k b o e,λz m x=>x.keeps k,λx=>oE x λm x=>⟨m,x.keeps k⟩,λb o z e=>⟨o,k b o e⟩⟩
theorem cR.push(h:aQ)(o:cE)(a:List am):cR G a h (h.push o):=.nr (λz z e=>jE o e) a
theorem cR.same(hs:vV a h h')(d:G.Lb≠a)(f:∃o,h'.get? a=aa o):cR G [a] h h':=⟨λb o c z e=>(hs.2 b λq=>c (q▸List.mem_singleton_self _)).trans e,λz m x=>x.sameBut hs d,λx=>oE x λm x=>⟨m,x.sameBut hs d⟩,λb o c z=>jA (P:=λb=>∃o,h'.get? b=aa o) f b c⟩
theorem cR.Fg(x:cR G d h h')(hs:∀a∈d,a∈own)(g:∃m,h.Ns G.Lb m):kA G own h h' where
 oN b o e:=by by_cases c:b∈d;(·exact x.oN b o c e);·by_cases q:b=G.Lb;(·rw[q];exact oE (x.lb g) λm y=>gM y λo' Z Z i Z=>⟨o',i⟩);·exact⟨o,x.keep b o c q e⟩
 keep b o c _ k e _:=x.keep b o (λq=>c (hs b q)) k e
 ns b m c z:=by by_cases q:b=G.Lb;(·subst q;exact x.ns (λq=>c (hs _ q)) m z);·exact gM z λo f j e r=>⟨o,f,j,x.keep b o (λq=>c (hs b q)) q e,r⟩
 fr b c g z:=gM z λo f n e r=>⟨o,f,n,x.keep b o (λq=>c (hs b q)) g e,r⟩
theorem cR.fR(g:aK G φ μ h)(x:cR G b h h')(hs:∀a∈b,∀f,h.get? a=aa f->gX f):cX h h':=λa o e d c=>x.keep a o (λq=>(hs a q o e).no c) (DE g.lb e d.1) e
theorem cR.aH(d:aK G φ μ s.heap)(x:cR G c s.heap h')(hs:∀a∈c,a∈own++φ)(b:List am)(e:∀a∈b,s.heap.get? a=ah):cy G own φ s (φ++b) {s with heap:=h',toks:=tk}:=⟨(bC b rfl e),x.Fg hs d.lb,rfl⟩
theorem cR.pp(x:cR G [] s.heap h')(a:aK G φ μ s.heap):cy G [] φ s φ {s with heap:=h',toks:=tk}:=⟨⟨[],(iD _).symm,kq⟩,x.Fg kq a.lb,rfl⟩
theorem aK.Sq(a:aK G φ μ h):G.P≠G.Lb:=λq=>oE a.lb λm x=>a.wY x q.symm
theorem cR.tab(a:aK G φ μ h)(x:cR G b h h')(k:cX h h')(d:G.P∉b):AQ G h':=cu a.tab λps e t c=>⟨ps,x.keep _ _ d a.Sq e,t,c.imp id λc=>ay c λc q r=>⟨c,q,r.B k⟩⟩
theorem aK.KN(d:aK G φ μ h)(x:cR G c h h')(g:∀a∈c,G.h₀.get? a=ah)(f:G.h₀.get? G.Lb=ah):G.h₀.StaysIn h':=λb o e=>x.keep b o (λq=>nomatch(g b q).symm.trans e) (λq=>nomatch(q▸f:G.h₀.get? b=ah).symm.trans e) (d.eJ b o e)
theorem aK.tz(j:G.h₀.get? G.Lb=ah)(b:aK G φ μ h)(x:cR G d h h')(c:∀a∈d,a∉φ/\G.h₀.get? a=ah/\a≠G.P)(k:cX h h'):aK G φ μ h':=⟨b.bN,b.nd,λi o e a f=>(b.fJ i o e a f).B (λZ Z q=>q) k λl q=>x.keep a l (λz=>(c a z).1 (cW f)) (λz=>b.oH (z▸cW f)) q,b.KN x (λa g=>(c a g).2.1) j,b.k9,b.rX,x.tab b k (λq=>(c _ q).2.2 rfl),b.oH,x.lb b.lb⟩
theorem aK.jF(b:G.h₀.get? G.Lb=ah)(a:aK G φ μ h)(x:cR G [] h h'):aK G φ μ h':=a.tz b x kq (x.fR a kq)
theorem FI{φ a:List am}(i:Nat)(b:am)(e:φ[i]?=aa b):(φ++a)[i]?=aa b:=(nY (dH.mp e).1).trans e
theorem vA{φ:List am}{a:am}(i:Nat)(b:am)(e:φ[i]?=aa b):(φ++[a])[i]?=aa b:=FI i b e
theorem aK.Lj{φ:List am}{μ:H}{h:aQ}(c:aK G φ μ h){d:List am}{os:List O}(l:d.length=os.length)(p:d.Nodup)(g:∀a∈d,a∉φ/\G.h₀.get? a=ah/\a≠G.P/\a≠G.Lb)(r:∀i o a,os[i]?=aa o->d[i]?=aa a->kB G (φ++d) h (φ.length+i) a o):aK G (φ++d) (μ++os) h:=by
 refine⟨by rw[cZ,cZ,c.bN,l],List.nodup_append.mpr ⟨c.nd,p,λx m y n q=>(g y n).1 (q▸m)⟩,λi j e b f=>?_,c.eJ,Lk c.k9 λb k=>(g b k).2.1,λq=>(d6.mp q).elim c.rX λq=>(g _ q).2.2.1 rfl,c.tab,λq=>(d6.mp q).elim c.oH λq=>(g _ q).2.2.2 rfl,c.lb⟩;by_cases hi:i<μ.length;·exact(c.fJ i j ((nY hi).symm.trans e) b ((nY (c.bN▸hi)).symm.trans f)).B FI (.b8 _) λZ q=>q
 ·have hi:=sR.mp hi;have z:=r (i-μ.length) j b ((m5 hi).symm.trans e) (c.bN▸(m5 (c.bN▸hi)).symm.trans f);rwa [c.bN,Nat.add_sub_of_le hi]at z
theorem KO{b β:Type}{a:b}{c:β}{P:Nat->b->β->Prop}(h:P 0 a c)(i:Nat)(x:b)(y:β)(e:[a][i]?=aa x)(f:[c][i]?=aa y):P i x y:=by cases i with|zero=>exact bU e▸bU f▸h|succ=>injection e
theorem TS{g β:Type}{a b:g}{c d:β}{P:Nat->g->β->Prop}(h:P 0 a c)(j:P 1 b d)(i:Nat)(x:g)(y:β)(e:[a,b][i]?=aa x)(f:[c,d][i]?=aa y):P i x y:=by cases i with|zero=>exact bU e▸bU f▸h|succ i=>exact KO (P:=λi=>P (i+1)) j i x y e f
theorem aK.new{φ:List am}{μ:H}{h:aQ}(b:aK G φ μ h){a:am}{o:O}(j:a∉φ)(c:G.h₀.get? a=ah)(g:a≠G.P)(d:a≠G.Lb)(r:kB G (φ++[a]) h φ.length a o):aK G (φ++[a]) (μ++[o]) h:=b.Lj rfl (pn.mpr ⟨jD,.nil⟩) (jA (P:=λa=>a∉φ/\G.h₀.get? a=ah/\a≠G.P/\a≠G.Lb) ⟨j,c,g,d⟩) (λi o a e f=>KO (P:=λi o a=>kB G (φ++[_]) h (φ.length+i) a o) r i o a e f)
theorem aK.jw(p:G.h₀.get? G.Lb=ah)(d:aK G φ μ h)(hi:φ[i]?=aa a)(x:cR G [a] h h')(r:kB G φ h' i a o'):aK G φ (μ.set i o') h':=by
 have g:=cW hi;have k:=x.fR d (jA λm e=>ay (d.own g) λs n c=>f8 n e▸c.wL);refine⟨by rw[vL];exact d.bN,d.nd,λj o e b f=>?_,d.KN x (jA (d.k9 a g)) p,d.k9,d.rX,x.tab d k (λq=>d.rX ((dq.mp q)▸g)),d.oH,x.lb d.lb⟩;by_cases l:j=i;·subst l;rw[ph (d.bN▸(dH.mp hi).1)]at e;exact bU e▸f8 hi f▸r
 ·rw[ja (hH l)]at e;exact(d.fJ j o e b f).B (λZ Z q=>q) k λm q=>x.keep b m (rY λz=>l ((List.getElem?_inj (dH.mp f).1 d.nd).mp (f.trans (z▸hi.symm)))) (λz=>d.oH (z▸cW f)) q
noncomputable def nL(G:bp)(h:aQ):List (am×cE):=(j0 h.objs.size).filterMap λa=>if a=G.Lb\/(G.h₀.get? a).isSome=aj then ah else(h.get? a).map λo=>(a,o)
theorem wZ:p∈nL G h<->h.get? p.1=aa p.2/\p.1≠G.Lb/\G.h₀.get? p.1=ah:=by
 refine Og.trans ⟨λk=>ay k λa z e=>?_,λk=>dT k λe b d=>?_⟩;·by_cases c:a=G.Lb\/(G.h₀.get? a).isSome=aj;(·rw[if_pos c]at e;injection e);·rw[if_neg c]at e;exact ay (pi.mp e) λo ho q=>q▸⟨ho,λq=>c (.inl q),NM.mp λq=>c (.inr q)⟩
 ·exact⟨p.1,abH.mpr (md e),by rw[if_neg (not_or.mpr ⟨b,NM.mpr d⟩),e];rfl⟩
theorem ot(h:aQ):News G.h₀ G.Lb h (nL G h):=λ_ hp=>wZ.mp hp
theorem aK.fr(a:aK G φ μ h)(b:G.h₀.objs.size<=G.Lb):∃m,Fr G.h₀ G.Lb h m:=oE a.lb λm x=>⟨m,x,a.eJ,b⟩
theorem IM{h:aQ}{m m':aD->Option aq}(x:h.Ns a m)(y:h.Ns a m'):m=m':=by refine oW x λo k i e d z f=>oW y λo' l j c b z g=>?_;cases f8 e c;cases d.symm.trans b;exact funext λn=>(f n).symm.trans (g n)
theorem cR.yq(F:Fr G.h₀ G.Lb h m)(a:Fr G.h₀ G.Lb h' m)(g:News G.h₀ G.Lb h' f)(hs:∀p∈nL G h,p.1∉c->p∈f)(j:∀b∈c,∃o,(b,o)∈f):cR G c h h' where
 keep b o d i e:=by cases q:G.h₀.get? b with|some o'=>exact f8 (F.keep b o' q) e▸a.keep b o' q|none=>exact(g _ (hs (b,o) (wZ.mpr (eA e i q)) d)).1
 ns _ m' x:=IM F.ns x▸a.ns
 lb _:=⟨_,a.ns⟩
 oN b o d _:=oE (j b d) λo' q=>⟨o',(g _ q).1⟩
end
theorem Mf{i}:ax cl (.af i) F h=(kC (getL F i) h):=rfl
theorem Qg:cY cl [e] F h=(ax cl e F h).bind λv h=>.ok [v] h:=rfl
theorem Po:cY cl [] F h=.ok [] h:=rfl
theorem V4:cY cl (e::l) F h=(ax cl e F h).bind λv h=>(cY cl l F h).bind λvs h=>.ok (v::vs) h:=rfl
theorem GM:lx cl b [e] F h=(ax cl e F h).bind λv h=>.ok v h:=rfl
theorem VP:lx cl b (e::c::l) F h=(ax cl e F h).bind λv h=>(tb v h).bind λt h=>if t==b then lx cl b (c::l) F h else .ok v h:=rfl
theorem Zr{b}{l}:ax cl (.bi b l) F h=((cY cl l F h).bind λvs h=>lu b vs h):=rfl
theorem XB{d}{e}{a}{b}{c}:ax cl (.mX d e a b c) F h=((ax cl a F h).bind λx h=>(ax cl b F h).bind λy h=>(zz (dE d h x y) h).bind λt h=>if t then(ax cl c F h).bind λz h=>s9 (dE e h y z) h else .ok (.bool au) h):=rfl
theorem Xl{op}{a}{b}:ax cl (.ao op a b) F h=((ax cl a F h).bind λx h=>(ax cl b F h).bind λy h=>s9 (dE op h x y) h):=rfl
theorem Mb{l}:ax cl (.bF l) F h=((cY cl l F h).bind λvs h=>match lp vs []with|aa d=>.ok (.ref h.length) (h++[.dict d])|ah=>.aM):=rfl
theorem Y4{c}{a}{b}:ax cl (.gV c a b) F h=((ax cl c F h).bind λx h=>(tb x h).bind λt h=>if t then ax cl a F h else ax cl b F h):=rfl
theorem ZC{e}{i}{it}:ax cl (.lc e i it) F h=((ax cl it F h).bind λx h=>match oC x with|aa a=>(pK (xN (λv h'=>(ax cl e (F.set i v) h').bind λw h'=>jy h.length w h') a (h++[.list []]))).bind λz h'=>.ok (.ref h.length) h'|ah=>.aM):=rfl
theorem WJ{l}:ax cl (.aW l) F h=((cY cl l F h).bind λvs h=>.ok (.ref h.length) (h++[.list vs])):=rfl
theorem Yh{a}:ax cl (.bZ a) F h=((ax cl a F h).bind λx h=>(tb x h).bind λb h=>.ok (.bool (!b)) h):=rfl
theorem abc{l}:ax cl (.Z l) F h=((cY cl l F h).bind λvs h=>.ok (.Z vs) h):=rfl
theorem Yy{i}{e}:fE cl (.D i e) F h=((ax cl e F h).on F λv h=>.nx (F.set i v) h):=rfl
theorem Ry:fE cl (.aM) F h=(.aM):=rfl
theorem Vl{e}:fE cl (.pr e) F h=((ax cl e F h).on F λ_ h=>.ex .ir F h):=rfl
theorem Pb{b}{hs}:fE cl (.tr b hs) F h=(match aV cl b F h with|.ex x F h=>pt x F h hs|r=>r):=rfl
section
structure cL(G:bp):Prop where
 X:G.K.In G.h₀
 T:Top G.p G.loose G.iw G.mg G.mb G.h₀
 Lb:G.h₀.objs.size<=G.Lb
 Ko:G.h₀.get? Gv≠ah
 MI:yD G.h₀ G.pc G.P
 Nt:G.h₀.get? G.P=ah
 gT:G.dp.defaults=[]/\G.dp.kw_defaults=[]/\(∀env,annTrees G.dp ah env=[])/\∀x∈G.ds.names,x.2≠.free
 Kp:∀f:Fn,f≠.c6->∃oc od fd sl,G.K.lookup (G.fa f)=aa ⟨oc,od,.func fd,sl⟩
 Dh:∃es n,G.K.lookup G.sa=aa ⟨.type "dict",ah,.dict es n,#[]⟩/\KeysLit G.w.params es.toList/\∀s t:aC,s.qh=aa t->∃k,ip G.K G.sa s.str=aa (aa (.str t.str k))
 EQ:∀x∈(["len","list","tuple","abs","isinstance","range","Exception"]:List String),ip G.K e7 (bz x)=aa ah
 gl:∀g:Gl,g≠.fn .c6->∀w,ip G.K e7 (bz g.fQ)=aa (aa w)->aA G [] G.h₀ g.val w
noncomputable def jf(A:bq)(n:Nat):Prop:=A.depth+4*n<=980/\A.units+20*n<=9000
variable{G:bp}
theorem cL.lb(a:cL G):G.h₀.get? G.Lb=ah:=by induction q:G.h₀.get? G.Lb with|none=>rfl|some o=>exact absurd (md q) (sR.mpr a.Lb)
section
variable{φ:List am}{s:az}{L:Option am}{M:jN}{A:bq}{Q:aq->az->Prop}{E:aq->az->Prop}
theorem aY.bh(f:aY G L φ s (r.bind k) Q E)(h:∀v d e s₁ w,c7 G φ s e s₁->aK G e d s₁.heap->aA G e s₁.heap v w->aY G L e s₁ (k v d) Q E->g w s₁):aY G L φ s r g E:=by induction r with|ok v d=>exactλi s' w a b c=>h v d i s' w a b c (aY.aH a f)|ex x d=>exact f|aM=>exact f.elim
theorem gW.bh(f:aY G L φ s (r.bind k) Q E)(h:∀v d e s₁ w,c7 G φ s e s₁->aK G e d s₁.heap->bv G e s₁.heap v w->aY G L e s₁ (k v d) Q E->g w s₁):gW G L φ s r g E:=by induction r with|ok v d=>exactλi s' w a b c=>h v d i s' w a b c (aY.aH a f)|ex x d=>exact f|aM=>exact f.elim
theorem aY.ok(a:aK G φ μ s.heap)(r:aA G φ s.heap v w)(b:aY G L φ s (.ok v μ) Q E):Q w s:=b φ s w (.b8 _ _ _) a r
theorem aY.lQ(a:aK G φ μ s.heap)(r:aA G φ s.heap v w)(b:aY G L φ s (.ok v μ) Q E):Q w {s with toks:=tk}:=b φ {s with toks:=tk} w ⟨(bC ([]) (by simp) (by simp)),.b8 _ _,rfl⟩ a r
end
noncomputable def KL(A:bq)(n:Nat):Prop:=A.depth+4*n<=983/\A.units+20*n<=9017
noncomputable def pH(G:bp)(cl:Fn->List V->H->aB V)(n:Nat):Prop:=∀(f:Fn)(a:List V)(μ:H)(A:bq)(φ:List am)(s:az)(b:aq)(ws:List aq)(L:Option am)(R:sV->az->Prop),KL A n->aK G φ μ s.heap->fK G A φ s.heap->A.handled=ah->aA G φ s.heap (.fn f) b->bv G φ s.heap a ws->aY G L φ s (cl f a μ) (λv s'=>R (.ok (.ret v)) s') (λe s'=>R (.error e) s')->kL (aU G.aE G.w) A (.call b ⟨ws,[]⟩) R s
noncomputable abbrev Sl:=List (aD×Nat)
noncomputable def SE(G:bp)(cl:Fn->List V->H->aB V)(n:Nat)(sl:Sl)(sc:List (aD×cK))(c:CE)(e:aO):Prop:=∀(A:bq)(env:bP)(F:List V)(φ:List am)(μ:H)(s:az)(Q:aq->az->Prop)(E:aq->az->Prop),jf A n->env.scope.names=sc->dQ G A env sl F φ μ s->aY G env.frame φ s (ax cl c F μ) Q E->aJ (aU G.aE G.w) A (gn e env) Q E s
section
variable{cl:Fn->List V->H->aB V}{n:Nat}{sl:Sl}{sc:List (aD×cK)}
theorem Uq{k pos}:SE G cl n sl sc .nil (.Constant .none k pos):=λA env F φ μ s Q E z z a b=>Oh (aY.ok a.cf aA.tZ b)
theorem YL{k pos}:SE G cl n sl sc .tt (.Constant (.bool aj) k pos):=λA env F φ μ s Q E z z a b=>wpAny_Constant_bool (aY.ok a.cf aA.yd b)
theorem Qf{k pos}:SE G cl n sl sc .ff (.Constant (.bool au) k pos):=λA env F φ μ s Q E z z a b=>wpAny_Constant_bool (aY.ok a.cf aA.yd b)
theorem TC{k pos}:SE G cl n sl sc (.J i) (.Constant (.int i) k pos):=λA env F φ μ s Q E z z a b=>wpAny_Constant_int (aY.lQ a.cf aA.xQ b)
theorem TZ{k pos}:SE G cl n sl sc (.str x) (.Constant (.str x.str) k pos):=λA env F φ μ s Q E z z a b=>Oi (aY.lQ a.cf aA.xL b)
theorem Jt:SE G cl n sl sc .aM e:=λA env F φ μ s Q E z z b a=>a.elim
theorem VF(p:sl.lookup x=aa i)(j:(x==("__debug__":aD))=au)(h:(x==("__classdict__":aD))=au):SE G cl n sl sc (.af i) (.Name x pos):=λA env F φ μ s Q E z z b a=>by rw[Mf]at a;unfold getL at a;induction e:F[i]? with|none=>rw[e]at a;exact a.elim|some v=>rw[e]at a;rcases b.env.val x i v p e with rfl|⟨w,o,r⟩;(·exact a.elim);(replace a:aY G env.frame φ s (.ok v μ) Q E:=by induction v using V.casesOn<;>first|exact a|exact nZ r);refine Oj ?_ j;rcases o with⟨d,m,l,k⟩|⟨d|d,c,g,f⟩;(·exact Gw b.env.kind d l k (aY.ok b.cf r a));(·exact Ok b.env.kind d g f (aY.ok b.cf r a));·exact wpAny_loadName_free b.env.kind d g f (aY.ok b.cf r a) h
theorem P0(b:cL G)(h:g≠.fn .c6)(l:x=bz g.fQ)(i:sc.lookup x=aa .globalImplicit)(j:(ip G.K e7 x).any (·.isSome)=aj)(f:(x==("__debug__":aD))=au):SE G cl n sl sc (.gl g) (.Name x pos):=λA env F φ μ s Q E z k a d=>by subst l;refine ay (any_some j) λo ho hs=>?_;refine oE (uC.mp hs) ?_;rintro w rfl;have r:=b.gl g h w ho;refine oE (a.cf.fr b.Lb) λm c=>?_;refine BZ c b.X (vW b.T) ho ?_ a.env.mW a.env.kind (by unfold iE;rw[k];exact i) f;exact aY.ok a.cf (r.B (λz z e=>by simp at e) (.nr a.cf.eJ)) d
end
end
theorem GN(d:0<=x)(e:0<=y):Builtin.bitOr x y=((x.toNat|||y.toNat:Nat):Int):=by
 have a:aZ (0<=vX x)=au:=decide_eq_false (by unfold vX;lia);have c:aZ (0<=vX y)=au:=decide_eq_false (by unfold vX;lia);have b:∀z,vX (vX z)=z:=λz=>by unfold vX;lia
 unfold Builtin.bitOr Ol;rw[a,c];simp only[b]
theorem Zb(a:0<=x)(b:0<=y):Ol x y=((x.toNat&&&y.toNat:Nat):Int):=by unfold Ol;rw[decide_eq_true a,decide_eq_true b]
noncomputable def iZ.py:iZ->Operator|.add=>.Add|.sub=>.Sub|.mul=>.Mult|.fdiv=>.FloorDiv|.fY=>.Mod|.mM=>.LShift|.qK=>.RShift|.nv=>.BitAnd|.lf=>.BitOr
section
variable{G:bp}{φ:List am}{μ:H}{s:az}{L:Option am}{A:bq}{Q:aq->az->Prop}{E:aq->az->Prop}
theorem aY.ob{c:Type}{o:Option c}{k:c->aB V}{P:Prop}(b:aY G L φ s (ob o k) Q E)(f:∀a,o=aa a->aY G L φ s (k a) Q E->P):P:=by induction o with|none=>exact b.elim|some a=>exact f a rfl b
theorem aY.gd{b:Bool}{r:aB V}{P:Prop}(a:aY G L φ s (gd b r) Q E)(f:b=aj->aY G L φ s r Q E->P):P:=by induction b with|false=>exact a.elim|true=>exact f rfl a
section
variable{h:aQ}{w:aq}{P:aq->Prop}{v:V}
theorem aA.i{i:Int}(r:aA G φ h (.int i) w)(k:∀t,P (.int i t)):P w:=Om r λt e=>e▸k t
theorem aA.str{i:aC}(r:aA G φ h (.str i) w)(k:∀t,P (.str i.str t)):P w:=Om r λt e=>e▸k t
theorem aA.r{i:Nat}(r:aA G φ h (.ref i) w)(k:∀a,φ[i]?=aa a->P (.ref a)):P w:=Om r λa e=>e.2▸k a e.1
theorem aA.t{l:List V}(r:aA G φ h (.Z l) w)(k:∀a vs,h.get? a=aa {cls:=.type "tuple",data:=.seq vs.toArray}->bv G φ h l vs->P (.ref a)):P w:=cG r λa vs e g q=>e▸k a vs g q
theorem aA.aI{i:Int}(e:fb v=aa i)(r:aA G φ h v w)(k:∀t,P (.int i t)):P w:=aA.i (zi e▸r) k
theorem aA.aS{i:aC}(e:iy v=aa i)(r:aA G φ h v w)(k:∀t,P (.str i.str t)):P w:=aA.str (um e▸r) k
theorem aA.aR{i:Nat}(e:gJ v=aa i)(r:aA G φ h v w)(k:∀a,φ[i]?=aa a->P (.ref a)):P w:=aA.r (Vc e▸r) k
theorem aA.aT(e:jx v=aa l)(r:aA G φ h v w)(k:∀a vs,h.get? a=aa {cls:=.type "tuple",data:=.seq vs.toArray}->bv G φ h l vs->P (.ref a)):P w:=aA.t (E8 e▸r) k
end
theorem qC{h:aQ}(b:aK G φ μ h){i:Nat}{a:am}{l:List V}(f:φ[i]?=aa a)(e:aG μ i=aa l):∃vs n,h.get? a=aa (rq (lG vs) n)/\bv G φ h l vs:=b.fJ i _ (pN e) a f
theorem Y0{h:aQ}(S:aK G φ μ h){i:Nat}{w:aq}{l:List V}(r:aA G φ h (.ref i) w)(e:aG μ i=aa l):∃a vs n,φ[i]?=aa a/\w=.ref a/\μ[i]?=aa (.list l)/\h.get? a=aa (rq (lG vs) n)/\bv G φ h l vs:=aA.r (P:=λw=>∃a vs n,φ[i]?=aa a/\w=.ref a/\μ[i]?=aa (.list l)/\h.get? a=aa (rq (lG vs) n)/\bv G φ h l vs) r λa f=>gw (qC S f e) λvs n x y=>⟨a,vs,n,f,rfl,pN e,x,y⟩
theorem qJ{h:aQ}(b:aK G φ μ h){i:Nat}{a:am}{l:List V}{P:Prop}(f:φ[i]?=aa a)(e:aG μ i=aa l)(k:∀vs n,h.get? a=aa (rq (lG vs) n)->h.IsList a vs.toArray->bv G φ h l vs->P):P:=gw (qC b f e) λvs n x y=>k vs n x ⟨_,x,rfl,n,rfl⟩ y
theorem BF{h:aQ}(S:aK G φ μ h){v:V}{w:aq}{l:List V}(r:aA G φ h v w)(e:qz μ v=aa l):∃a vs,w=.ref a/\h.IsList a (lG vs)/\bv G φ h l vs:=by unfold qz at e;induction q:gJ v with|some i=>rw[q]at e;exact aA.aR (P:=λw=>∃a vs,w=.ref a/\h.IsList a (lG vs)/\bv G φ h l vs) q r λa f=>qJ S f e λvs n _ x y=>(gv a vs rfl x y)|none=>rw[q]at e;induction q:AN v with|none=>rw[q]at e;injection e|some ns=>rw[q]at e;cases bU e;rw[RP q]at r;exact cG r λa vs e x y=>(gv a vs e (x.at (S.eJ a)) (.aaR y))
theorem aK.Ys(a:aK G φ μ h)(F:Fr G.h₀ G.Lb h m)(f:Fr G.h₀ G.Lb h' m)(b:News G.h₀ G.Lb h' ((D,j)::nL G h))(d:h.get? D=ah)(g:G.h₀.get? G.Lb=ah)(r:kB G (φ++[D]) h' φ.length D o):aK G (φ++[D]) (μ++[o]) h':=by
 have c:cR G [] h h':=.yq F f b (λp i z=>iR _ i) (by simp);have k:=b _ (je ..);refine(a.jF g c).new (λq=>?_) k.2.2 (λq=>?_) k.2.1 r;·refine ay (a.own q) λl e z=>?_;rw[d]at e;injection e
 ·refine oE a.nw λps e=>?_;rw[<-q,d]at e;injection e
theorem aY.new{tk:Nat}(a:aK G φ μ s.heap){h':aQ}{m:aD->Option aq}{D:am}{f:cE}{o:O}(h:G.h₀.get? G.Lb=ah)(F:Fr G.h₀ G.Lb s.heap m)(d:Fr G.h₀ G.Lb h' m)(b:News G.h₀ G.Lb h' ((D,f)::nL G s.heap))(e:s.heap.get? D=ah)(r:h'.get? D=aa f->cR G [] s.heap h'->cX s.heap h'->kB G (φ++[D]) h' φ.length D o)(g:aY G L φ s (.ok (.ref μ.length) (μ++[o])) Q E):Q (.ref D) {s with heap:=h',toks:=tk}:=by have c:cR G [] s.heap h':=.yq F d b (λp i z=>iR _ i) (by simp);refine g (φ++[D]) {s with heap:=h',toks:=tk} (.ref D) (c.aH a (by simp) [D] (by simpa using e)) (a.Ys F d b e h (r (b _ (je ..)).1 c (c.fR a (by simp)))) ?_;exact(bC D (by rw[<-a.bN];simp) rfl)
theorem bv.up(k:cX h h')(r:bv G φ h l ws):bv G (φ++[D]) h' l ws:=r.B vA k
theorem aA.up{h h':aQ}{D:am}{l:V}{ws:aq}(k:cX h h')(r:aA G φ h l ws):aA G (φ++[D]) h' l ws:=r.B vA k
theorem G3{h:aQ}{D:am}{h':aQ}{c:cE}(a:News G.h₀ G.Lb h' ((D,c)::nL G h))(b:∀p∈nL G h,p.1<D):h.get? D=ah:=by induction q:h.get? D with|none=>rfl|some o=>have k:=a _ (je ..);exact absurd (b (D,o) (wZ.mpr (eA q k.2.1 k.2.2))) (sT _)
theorem IB{i:Int}(h:small i=aj):i.natAbs<2^60:=oA (of_decide_eq_true h) λa b=>by induction i with|ofNat n=>exact eM.mp b|negSucc n=>exact eM.mp (Int.neg_lt_neg_iff.mp a)
theorem V1{i:Int}(h:small i=aj):Builtin.Int.intBits i<=64:=by
 have:=IB h;unfold Builtin.Int.intBits;split;·exact cJ rfl
 ·rename_i b;have a:i.natAbs≠0:=λq=>b (by rw[beq_iff_eq];exact Int.natAbs_eq_zero.mp q);have:i.natAbs.log2<60:=(Nat.log2_lt a).mpr this;exact bD (by assumption) (by rfl)
theorem Cu{x y:V}{wx wy:aq}{k:Int->Int->aB V}{P:aq->aq->Prop}(hx:aA G φ s.heap x wx)(hy:aA G φ s.heap y wy)(hE:aY G L φ s (i2 x y k) Q E)(f:∀i j t u,aY G L φ s (k i j) Q E->P (.int i t) (.int j u)):P wx wy:=hE.ob λ_ ei hE=>hE.ob λ_ ej hE=>aA.aI (P:=λwx=>P wx wy) ei hx λt=>aA.aI (P:=P _) ej hy λu=>f _ _ t u hE
theorem aY.int{i:Int}{k t:Nat}(a:aK G φ μ s.heap)(h:aY G L φ s (.ok (.int i) μ) Q E):Q (.int i k) {s with toks:=t}:=aY.lQ a .xQ h
theorem PN(O:cL G)(S:aK G φ μ s.heap){a b:V}{wa wb:aq}(ha:aA G φ s.heap a wa)(hb:aA G φ s.heap b wb)(hE:aY G L φ s (Internal.ob (qz μ a) λx=>Internal.ob (qz μ b) λy=>Internal.gd (aZ (x.length+y.length<cM)) (.ok (.ref μ.length) (μ++[.list (x++y)]))) Q E):aJ (aU G.aE G.w) A (mi .Add wa wb) Q E s:=by
 refine hE.ob λx ex hE=>hE.ob λy ey hE=>hE.gd λhl hE=>?_;refine cG (BF S ha ex) λa1 vs e1 l1 r1=>?_;refine cG (BF S hb ey) λa2 us e2 l2 r2=>?_;refine oE (S.fr O.Lb) λm F=>?_;rw[e1,e2];refine add_arrays F (ot s.heap) l1 l2 (λh' F' N'=>?_) ?_;·exact aY.new (o:=.list (x++y)) S O.lb F F' N' (lH (cF _)) (λg c k=>⟨vs++us,0,abI ..▸g,(r1.xP r2).up k⟩) hE
 ·have hl:=of_decide_eq_true hl;rw[jd,jd,r1.length,r2.length];unfold cM at hl;unfold hU;exact hG (bD (by assumption) (by rfl))
theorem Xa(O:cL G)(S:aK G φ μ s.heap){b:V}{i:Nat}{a:am}{wb:aq}(f:φ[i]?=aa a)(hb:aA G φ s.heap b wb)(hE:aY G L φ s (Internal.ob (fb b) λy=>Internal.ob ((aG μ i).bind tj) λv=>Internal.gd (aZ (0<=y)&&aZ (y<=256)) (.ok (.ref μ.length) (μ++[.list (eL y.toNat v)]))) Q E):aJ (aU G.aE G.w) A (mi .Mult (.ref a) wb) Q E s:=by refine hE.ob λj ej hE=>hE.ob λv ev hE=>hE.gd λhc hE=>fy ev λl el eo=>?_;rw[D9 eo]at el;rw[cI,decide_eq_true_eq,decide_eq_true_eq]at hc;refine qJ S f el λvs n g l1 r1=>?_;refine cG r1.kS λw1 r' e q1 q2=>?_;rw[q2.nt]at e;rw[e]at l1;refine aA.aI (P:=λwb=>aJ (aU G.aE G.w) A (mi .Mult (.ref a) wb) Q E s) ej hb λu=>?_;refine oE (S.fr O.Lb) λm F=>?_;refine KMa.mul (vs:=[w1]) (ws:=eL j.toNat w1) F (ot s.heap) l1 (by lia) (by lia) (by simp;lia) (by simp) λD h' F' N' hD=>?_;exact aY.new (o:=.list (eL j.toNat v)) S O.lb F F' N' (G3 N' hD) (λg c k=>⟨_,0,g,bv.replicate (q1.up k) _⟩) hE
theorem QZ(O:cL G)(S:aK G φ μ s.heap)(op:iZ){x y:V}{wx wy:aq}(hx:aA G φ s.heap x wx)(hy:aA G φ s.heap y wy)(hE:aY G L φ s (jW op x y μ) Q E):aJ (aU G.aE G.w) A (mi op.py wx wy) Q E s:=by have W:=@Cu G φ s L Q E x y wx wy;induction op with|add=>have hE:aY G L φ s (FU x y μ) Q E:=hE;unfold FU at hE;(induction q:fb x with|some i=>rw[q]at hE;exact hE.ob λj ej hE=>aA.aI (P:=λwx=>aJ (aU G.aE G.w) A (mi .Add wx wy) Q E s) q hx λt=>aA.aI (P:=λwy=>aJ (aU G.aE G.w) A (mi .Add _ wy) Q E s) ej hy λu=>PyProof.Rows.add_int (hE.int S)|none=>rw[q]at hE;exact PN O S hx hy hE)|sub=>exact W (P:=λwx wy=>aJ (aU G.aE G.w) A (mi .Sub wx wy) Q E s) hx hy hE λi j t u h=>PyProof.Rows.sub_int (h.int S)|mul=>have hE:aY G L φ s (Dy x y μ) Q E:=hE;unfold Dy at hE;(induction q:gJ x with|some i=>rw[q]at hE;exact aA.aR (P:=λwx=>aJ (aU G.aE G.w) A (mi .Mult wx wy) Q E s) q hx λa f=>Xa O S f hy hE|none=>rw[q]at hE;exact W (P:=λwx wy=>aJ (aU G.aE G.w) A (mi .Mult wx wy) Q E s) hx hy hE λi j t u h=>h.gd λc h=>PyProof.Rows.mul_int (h.int S) (.of_left (V1 (cI ..▸c).1)))|fdiv=>refine W (P:=λwx wy=>aJ (aU G.aE G.w) A (mi .FloorDiv wx wy) Q E s) hx hy hE λi j t u h=>h.gd λc h=>?_;rw[cI,cI,decide_eq_true_eq,bne_iff_ne]at c;exact floordiv_int c.2 (h.int S) (.inl (abJ (gf c.1.2 (by decide))))|fY=>exact W (P:=λwx wy=>aJ (aU G.aE G.w) A (mi .Mod wx wy) Q E s) hx hy hE λi j t u h=>h.gd λc h=>mod_int (bne_iff_ne.mp c) (h.int S)|mM=>refine W (P:=λwx wy=>aJ (aU G.aE G.w) A (mi .LShift wx wy) Q E s) hx hy hE λi j t u h=>h.gd λc h=>?_;rw[cI,cI,decide_eq_true_eq,decide_eq_true_eq]at c;exact lshift_int_small c.1.2 (Int.le_trans c.2 (by decide)) (gf (IB c.1.1) (by decide)) (h.int S)|qK=>exact W (P:=λwx wy=>aJ (aU G.aE G.w) A (mi .RShift wx wy) Q E s) hx hy hE λi j t u h=>h.gd λc h=>rshift_int (of_decide_eq_true c) (h.int S)|nv=>refine W (P:=λwx wy=>aJ (aU G.aE G.w) A (mi .BitAnd wx wy) Q E s) hx hy hE λi j t u h=>h.gd λc h=>?_;rw[cI,decide_eq_true_eq,decide_eq_true_eq]at c;rw[<-Zb c.1 c.2]at h;exact and_int (h.int S)|lf=>refine W (P:=λwx wy=>aJ (aU G.aE G.w) A (mi .BitOr wx wy) Q E s) hx hy hE λi j t u h=>h.gd λc h=>?_;rw[cI,decide_eq_true_eq,decide_eq_true_eq]at c;rw[<-GN c.1 c.2]at h;exact or_int (h.int S)
end
section
variable{G:bp}{φ:List am}{μ:H}{s:az}{L:Option am}{A:bq}{E:aq->az->Prop}
theorem BP(d:aK G φ μ s.heap)(r:aA G φ s.heap v w)(e:truthy μ v=aa b)(h:∀k,Q b {s with toks:=k}):aJ (aU G.aE G.w) A (Gx w) Q E s:=by induction v using V.casesOn with|none=>replace r:_=_:=r;subst r;cases bU e;exact truthy_none (h s.toks)|bool b=>replace r:_=_:=r;subst r;cases bU e;exact Gy (h s.toks)|int i=>cases bU e;exact aA.i (P:=λw=>aJ (aU G.aE G.w) A (Gx w) Q E s) r λt=>PyProof.Rows.truthy_int (h s.toks)|ref i=>refine aA.r (P:=λw=>aJ (aU G.aE G.w) A (Gx w) Q E s) r λa f=>fy e λl g e=>ifs e λj e=>qJ d f g λvs n z m c=>?_;refine wpAny_truthy_list (items:=vs.toArray) m (by rw[jd,c.length];unfold cM at j;exact eM.mpr (bD (by assumption) (by rfl))) ?_;(have:(!vs.toArray.isEmpty)=b:=by rw[<-bU e];have:=c.length;induction vs<;>induction l<;>first|rfl|injection this);rw[this];exact h _|U=>injection e|str=>injection e|Z=>injection e|fn=>injection e|fl=>injection e|fp=>injection e
noncomputable def ft(n:Nat)(h:H)(v:V):PyData:=match n with|0=>.none|n+1=>match v with|.none=>.none|.bool b=>.bool b|.int i=>.int i|.str s=>.str s.str|.Z l=>.tuple (l.map (ft n h))|.ref i=>(match aG h i with|aa l=>.list (l.map (ft n h))|ah=>.none)|.U=>.none|.fn _=>.none|.fl _=>.none|.fp=>.none
theorem qS{P:Prop}(e:au=aj):P:=nomatch e
theorem DQ(e:∀(v:V)(w:aq),eP n μ v=aj->aA G φ h v w->∃c,uD h w (ft n μ v) c):∀(l:List V)(ws:List aq),l.all (eP n μ)=aj->bv G φ h l ws->∃c,ReadsAll h ws (l.map (ft n μ)) c|[],_,_,r=>by rw[r.nt];exact⟨_,.nil⟩|v::l,_,d,r=>by refine cG r.kS ?_;rintro w ws rfl a b;rw[m7,cI]at d;refine oE (e v w d.1 a) λc x=>?_;refine oE (DQ e l ws d.2 b) λbs y=>?_;exact⟨_,.cons x y⟩
theorem zK(j:aK G φ μ h):∀(n:Nat)(v:V)(w:aq),eP n μ v=aj->aA G φ h v w->∃c,uD h w (ft n μ v) c|0,_,_,d,_=>nomatch(show au=aj from d)|n+1,v,w,d,r=>by induction v using V.casesOn with|none=>replace r:_=_:=r;subst r;exact⟨_,.none⟩|bool b=>replace r:_=_:=r;subst r;exact⟨_,.bool b⟩|int i=>exact aA.i (P:=λw=>∃c,uD h w (.int i) c) r λt=>⟨_,.int i t⟩|str x=>exact aA.str (P:=λw=>∃c,uD h w (.str x.str) c) r λt=>⟨_,.str _ t⟩|Z l=>exact aA.t (P:=λw=>∃c,uD h w (.tuple (l.map (ft n μ))) c) r λa vs g q=>oE (DQ (zK j n) l vs d q) λc x=>⟨_,.tuple g rfl rfl x⟩|ref i=>refine pz (o:=aG μ i) d λl m d=>?_;(have e:ft (n+1) μ (.ref i)=.list (l.map (ft n μ)):=by show(match aG μ i with|aa l=>PyData.list (l.map (ft n μ))|ah=>.none)=_;rw[m]);rw[e];exact aA.r (P:=λw=>∃c,uD h w (.list (l.map (ft n μ))) c) r λa f=>gw (qC j f m) λvs k p s=>oE (DQ (zK j n) l vs d s) λc x=>⟨a::c,.list p rfl rfl x⟩|_=>exact nomatch(show au=aj from d)
theorem CM(c:∀a b:V,eP n μ a=aj->eP n μ b=aj->On (ft n μ a) (ft n μ b)=eU n μ a b):∀x y:List V,x.all (eP n μ)=aj->y.all (eP n μ)=aj->PyData.eqvAll (x.map (ft n μ)) (y.map (ft n μ))=kf (eU n μ) x y|[],[],_,_=>rfl|[],_::_,_,_=>rfl|_::_,[],_,_=>rfl|a::x,b::y,p,q=>by rw[m7,cI]at p q;exact congr (congrArg and (c a b p.1 q.1)) (CM c x y p.2 q.2)
theorem xy(d:eP (n+1) μ (.ref i)=aj){P:Prop}(k:∀l,aG μ i=aa l->l.all (eP n μ)=aj->P):P:=pz (o:=aG μ i) d k
theorem yi(e:aG μ i=aa l):ft (n+1) μ (.ref i)=.list (l.map (ft n μ)):=by show(match aG μ i with|aa l=>PyData.list (l.map (ft n μ))|ah=>.none)=_;rw[e]
set_option tactic.hygienic true in theorem Ct:∀(n:Nat)(a b:V),eP n μ a=aj->eP n μ b=aj->On (ft n μ a) (ft n μ b)=eU n μ a b|0,_,_,p,_=>qS p|n+1,a,b,p,q=>by induction a using V.casesOn with|ref i=>refine xy p λl e f=>?_;rw[yi e];(induction b using V.casesOn with|ref j=>refine xy q λm c d=>?_;rw[yi c];show _=((aG μ i).any λx=>(aG μ j).any λy=>kf (eU n μ) x y);rw[e,c];exact CM (Ct n) _ _ f d|U|fn _|fl _|fp=>exact qS q|_=>rfl)|Z l=>(induction b using V.casesOn with|Z m=>exact CM (Ct n) _ _ p q|ref j=>refine xy q λm c d=>?_;rw[yi c];rfl|U|fn _|fl _|fp=>exact qS q|_=>rfl)|U|fn _|fl _|fp=>exact qS p|_=>induction b using V.casesOn with|ref j=>refine xy q λm c d=>?_;rw[yi c];rfl|U|fn _|fl _|fp=>exact qS q|_=>first|rfl|exact aC.AD|exact aC.AD ..|rename_i x y;induction x<;>induction y<;>rfl
theorem VZ:(aC.all.all λx=>PyData.strOk x.str)=aj:=by decide+kernel
theorem CP(c:∀v:V,eP n μ v=aj->(ft n μ v).canLay0=aj/\(ft n μ v).depth<=n):∀l:List V,l.all (eP n μ)=aj->PyData.canLayAll0 (l.map (ft n μ))=aj/\PyData.depthAll (l.map (ft n μ))<=n|[],_=>⟨rfl,lC _⟩|v::l,d=>by rw[m7,cI]at d;refine oA (c v d.1) λa b=>?_;refine oA (CP c l d.2) λx y=>?_;simp only[uB,PyData.canLayAll0,PyData.depthAll,a,x,Bool.and_self,true_and];lia
theorem D0:∀(n:Nat)(v:V),eP n μ v=aj->(ft n μ v).canLay0=aj/\(ft n μ v).depth<=n|0,_,p=>qS p|n+1,v,p=>by induction v using V.casesOn with|none|bool _|int _=>exact⟨rfl,lC _⟩|str x=>exact⟨fN.mp VZ x (aC.jL x),lC _⟩|Z l=>exact oA (CP (D0 n) l p) λa b=>⟨a,lF b⟩|ref i=>refine xy p λl c p=>?_;rw[yi c];exact oA (CP (D0 n) l p) λa b=>⟨a,lF b⟩|_=>exact qS p
theorem Hy(c:n<=64)(p:eP n μ v=aj):shaped (ft n μ v)=aj:=by refine oA (D0 n v p) λa b=>?_;unfold shaped;rw[a,Bool.true_and];exact decide_eq_true (by exact di (by assumption) (by assumption))
end
section
open Classical
variable{G:bp}{φ:List am}{μ:H}{h:aQ}
section
variable{β:Type}{N:Nat}{g:β->aq}{l:List (V×V)}{kv:List (V×β)}{k:V}(x:iY G N g φ h l kv)
include x
theorem iY.length:kv.length=l.length:=x.bN
variable(hk:fV 8 k=aj)
include hk
omit x in theorem iY.vv{p:V×V}{q:V×β}(r:(q.1=p.1/\io p.1=N/\fV 8 p.1=aj)/\aA G φ h p.2 (g q.2)):iq p.1 k=aZ (q.1=k):=by rw[r.1.1];exact FY r.1.2.2 hk
theorem iY.pZ{P:Option V->Option aq->Prop}(n:P ah ah)(s:∀v w,aA G φ h v w->P (aa v) (aa w)):P (eH l k) ((kv.find? λq=>aZ (q.1=k)).map λq=>g q.2):=dw.pZ (λ_ _ r=>iY.vv hk r) x (P:=λ(a:Option (V×V))(b:Option (V×β))=>P (a.map sP) (b.map λq:V×β=>g (sP q))) n λa b r=>s (sP a) (g (sP b)) r.2
theorem iY.any:(kv.any λq=>aZ (q.1=k))=(eH l k).isSome:=(dw.any (p:=λp=>iq p.1 k) (λ_ _ r=>iY.vv hk r) x).trans (uy ..).symm
theorem iY.Eb:iY G N g φ h (qo l k) (kv.filter λq=>aZ (q.1≠k)):=dw.filter (λa b r=>(congrArg (!·) (iY.vv hk r)).trans (decide_not ..).symm) x
theorem iY.dW{f:β->β}(m:io k=N)(d:aA G φ h v w)(j:∀b,g (f b)=w)(i:g b=w):iY G N g φ h (gT l k v) (if(kv.any λq=>aZ (q.1=k))=aj then kv.map (λq=>if q.1=k then(q.1,f q.2)else q)else kv++[(k,b)]):=by
 rw[x.any hk];unfold gT;by_cases c:(eH l k).isSome=aj;·rw[if_pos c,if_pos c];refine dw.map (λa q r=>?_) x;have t:=iY.vv hk r;unfold sG;by_cases e:q.1=k;(·rw[if_pos e,if_pos (t.trans (decide_eq_true e))];exact⟨r.1,(j q.2).symm▸d⟩);·rw[if_neg e,if_neg (BX.mp (t.trans (decide_eq_false e)))];exact r
 ·rw[if_neg c,if_neg c];exact dw.cA x (.cons ⟨⟨rfl,m,hk⟩,i.symm▸d⟩ .nil)
end
theorem DR.dW(x:DR G φ h l kv)(hk:fV 8 k=aj)(a:io k=1)(b:aA G φ h v w):DR G φ h (gT l k v) (stored kv k w):=iY.dW (f:=λz=>w) x hk a b (λz=>rfl) rfl
theorem uM.dW{a:am}(x:uM G φ h l kv)(hk:fV 8 k=aj)(c:io k=2)(d:aA G φ h v w):uM G φ h (gT l k v) (storedH kv k a w):=by have z:=iY.dW (b:=(a,w)) (f:=λb=>(b.1,w)) x hk c d (λZ=>rfl) rfl;rw[x.any hk]at z;unfold storedH;rw[show(atKey kv k).isSome=_ from(uy ..).trans ((uy ..).symm.trans (x.pZ hk (P:=λa b=>b.isSome=a.isSome) rfl λZ Z Z=>rfl))];exact z
theorem Vb{a:Type} [DecidableEq a]{knd:PySem.KeyKind G.aE G.w a}{l:List i8}{kv:List (a×aq)}(x:Pairs knd l kv)(e:kv=[]):l=[]:=by induction x with|nil=>rfl|cons=>exact nomatch e
theorem Vk{a:am}(x:h.DictOf (oK G.aE G.w) a []):h.DictOfH (tQ G.aE G.w) a []:=y9 x λo f b e c d z p z=>⟨o,f,b,e,c,d,Vb p rfl,kq,.nil⟩
theorem Yf(x:h.DictOfH (tQ G.aE G.w) a []):h.DictOf (oK G.aE G.w) a []:=by
 refine y9 x λo g f e c d b z z=>⟨o,g,f,e,c,d,λe i=>?_,?_,.nil⟩;·exact absurd (Array.mem_toList_iff.mpr i) (by rw[b];exact jD)
 ·rw[b];exact .nil
theorem K9(h:eZ (p::l) k=aj):io p.1=io k:=cr (kI.mp (kI.mp h).2).1
theorem kE(h:eZ l k=aj):fV 8 k=aj:=(kI.mp (kI.mp h).1).1
theorem Tk(h:eZ l k=aj):io k≠0:=bne_iff_ne.mp (kI.mp (kI.mp h).1).2
theorem gH.xK(x:gH G φ h a l)(f:eZ l k=aj)(n:io k=1):∃kv,h.DictOf (oK G.aE G.w) a kv/\DR G φ h l kv:=by induction x with|bW kv x y=>exact⟨kv,x,y⟩|tY kv x y=>exact dw.J7 y (P:=λl kv=>eZ l k=aj->h.DictOfH (tQ G.aE G.w) a kv->∃kv,h.DictOf (oK G.aE G.w) a kv/\DR G φ h l kv) (λ_ x=>⟨[],Yf x,.nil⟩) (λr f _=>nomatch(r.1.2.1.symm.trans ((K9 f).trans n):2=1)) f x
theorem gH.Ec(x:gH G φ h a l)(f:eZ l k=aj)(n:io k=2):∃kv,h.DictOfH (tQ G.aE G.w) a kv/\uM G φ h l kv:=by induction x with|bW kv x y=>exact dw.J7 y (P:=λl kv=>eZ l k=aj->h.DictOf (oK G.aE G.w) a kv->∃kv,h.DictOfH (tQ G.aE G.w) a kv/\uM G φ h l kv) (λ_ x=>⟨[],Vk x,.nil⟩) (λr f _=>nomatch(r.1.2.1.symm.trans ((K9 f).trans n):1=2)) f x|tY kv x y=>exact⟨kv,x,y⟩
theorem s7(n:io k=1)(r:aA G φ h k w):(oK G.aE G.w).is k w=aj:=by induction k using V.casesOn with|int i=>exact oE (r:∃t,w=.int i t) λt e=>e▸(FA.int i t).is|str x=>exact oE (r:∃t,w=.str x.str t) λt e=>e▸(FA.str x t).is|_=>cases n
theorem Dz(f:eZ l (kk k)=aj):(kk k=k/\io k=1)\/∃t,k=.Z t/\kk k=kn 8 (.Z t):=by have n:=Tk f;induction k using V.casesOn with|int i=>exact .inl ⟨rfl,rfl⟩|str i=>exact .inl ⟨rfl,rfl⟩|Z i=>exact .inr ⟨i,rfl,rfl⟩|_=>exact absurd rfl n
theorem aK.Ki(b:cL G)(c:aK G φ μ h){i:Nat}{a:am}(f:φ[i]?=aa a):(a==Gv)=au:=beq_eq_false_iff_ne.mpr λq=>b.Ko (q▸c.k9 _ (cW f))
end
noncomputable def l0.py:l0->CmpOp|.eq=>.Eq|.ne=>.NotEq|.lt=>.Lt|.le=>.LtE|.gt=>.Gt|.ge=>.GtE|.f9=>.In|.lS=>.NotIn|.qA=>.Is
section
open Classical
variable{G:bp}{φ:List am}{μ:H}{s:az}{L:Option am}{A:bq}{E:aq->az->Prop}
noncomputable def rV(x:aD):aq->Bool|.str y _=>y==x|_=>au
theorem aaM{x t:aC}:rV x.str (.str t.str k)=(x==t):=by
 show(t.str==x.str)=_;rw[aC.AD];by_cases q:x=t;·subst q;rfl
 ·rw[beq_eq_false_iff_ne.mpr q,beq_eq_false_iff_ne.mpr (hH q)]
theorem AW{x:aC}:∀{l:List V}{ws:List aq}{b:Bool},bv G φ h l ws->gh x l=aa b->(∀y∈ws,∃z t,y=.str z t)/\ws.any (rV x.str)=b|[],_,_,r,e=>by rw[r.nt];exact⟨(λZ h=>nomatch h),bU e⟩|v::l,ws,b,r,e=>cG r.kS λw g m a f=>fy e λt j e=>by cases c:gh x l with|none=>rw[c]at e;cases e|some i=>rw[c]at e;rw[m,<-bU e];refine aA.aS (P:=λw=>(∀y∈w::g,∃z t,y=.str z t)/\(w::g).any (rV x.str)=(x==t||i)) j a λk=>⟨λy d=>?_,?_⟩;(·cases d with|head=>exact(Ak _ _ rfl)|tail _ d=>exact(AW f c).1 y d);·rw[NY,(AW f c).2,aaM]
variable{x y:V}{wx wy:aq}{b:Bool}{Q:aq->az->Prop}
noncomputable def sJ(a:Bool):CmpOp:=if a then .NotIn else .In
theorem Ts(c:Bool){z:aC}{vs:List aq}(g:s.heap.get? a=aa {cls:=.type "tuple",data:=.seq vs.toArray})(j:∀y∈vs,∃z t,y=.str z t)(k:vs.any (rV z.str)=b)(h:Q (.bool (if c then !b else b)) s):aJ (aU G.aE G.w) A (oh (sJ c) (.str z.str t) (.ref a)) Q E s:=by have f:∀y,y∈vs.toArray->EqAt A.in1 s y (.str z.str t) (rV z.str y):=λy i=>xS (j y (List.mem_toArray.mp i)) λm l e=>e▸EqAt.str_str _ _ _ _;have d:vs.toArray.any (rV z.str)=b:=(List.any_toArray ..).trans k;induction c with|false=>exact in_tupleAt (rV z.str) (items:=vs.toArray) ⟨_,g,rfl,_,rfl⟩ f (by rw[d];exact h)|true=>exact notIn_tupleAt (rV z.str) (items:=vs.toArray) ⟨_,g,rfl,_,rfl⟩ f (by rw[d];exact h)
theorem Vd(c:Bool)(hs:(a==Gv)=au)(d:gH G φ s.heap a l)(n:io x=1)(e:aA G φ s.heap x wx)(f:eZ l x=aj)(h:∀k,Q (.bool (if c then !(eH l x).isSome else(eH l x).isSome)) {s with toks:=k}):aJ (aU G.aE G.w) A (oh (sJ c) wx (.ref a)) Q E s:=by refine ay (d.xK f n) λj g i=>?_;rw[<-i.pZ (kE f) (P:=λa b=>b.isSome=a.isSome) rfl λz z z=>rfl]at h;induction c with|false=>exact wpAny_in_of (s7 n e) hs g.mapOf (h _)|true=>exact wpAny_notIn_of (s7 n e) hs g.mapOf (h _)
theorem BE(a:A.units<=9000):(tQ G.aE G.w).room A.in1:=by show A.in1.units+64<qj;rw[Ob];unfold qj;lia
theorem YQ(c:Bool)(e:A.units<=9000){b a:am}(hs:(a==Gv)=au)(d:gH G φ s.heap a l)(n:io x=2)(g:KR s.heap 8 x (.ref b))(f:eZ l x=aj)(h:∀k,Q (.bool (if c then !(eH l x).isSome else(eH l x).isSome)) {s with toks:=k}):aJ (aU G.aE G.w) A (oh (sJ c) (.ref b) (.ref a)) Q E s:=by refine ay (d.Ec f n) λm i j=>?_;rw[<-(uy ..).symm.trans (j.pZ (kE f) (P:=λa b=>b.isSome=a.isSome) rfl λz z z=>rfl),<-uy (f:=(·.2))]at h;induction c with|false=>exact wpAny_in_heap (BE e) ⟨g,kE f⟩ hs i (h _)|true=>exact wpAny_notIn_heap (BE e) ⟨g,kE f⟩ hs i (h _)
theorem Hg(c:Bool)(w:cL G)(q:aK G φ μ s.heap)(D:A.units<=9000)(j:aA G φ s.heap x wx)(v:aA G φ s.heap y wy)(e:f9 μ x y=aa b)(h:∀k,Q (.bool (if c then !b else b)) {s with toks:=k}):aJ (aU G.aE G.w) A (oh (sJ c) wx wy) Q E s:=by unfold f9 at e;induction p:jx y with|some l=>rw[p]at e;refine fy e λz C e=>?_;refine aA.aT (P:=λwy=>aJ (aU G.aE G.w) A (oh (sJ c) wx wy) Q E s) p v λa vs g r=>?_;exact aA.aS (P:=λwx=>aJ (aU G.aE G.w) A (oh (sJ c) wx (.ref a)) Q E s) C j λt=>Ts c g (AW r e).1 (AW r e).2 (h s.toks)|none=>rw[p]at e;refine fy e λi B e=>fy e λl F e=>ifs e λf e=>?_;cases bU e;refine aA.aR (P:=λwy=>aJ (aU G.aE G.w) A (oh (sJ c) wx wy) Q E s) B v λa u=>?_;have hs:=q.Ki w u;have d:gH G φ s.heap a l:=q.fJ i _ (jH F) a u;rcases Dz f with⟨m,n⟩|⟨t,rfl,m⟩;(·rw[m]at h f;exact Vd c hs d n j f h);·rw[m]at h f;have o:=KR.Cy G 8 _ _ (kE f) j;revert o;exact aA.t (P:=λwx=>KR s.heap 8 (kn 8 (.Z t)) wx->aJ (aU G.aE G.w) A (oh (sJ c) wx (.ref a)) Q E s) j λb vs Z Z o=>YQ c D hs d rfl o f h
end
section
open Classical
variable{G:bp}{φ:List am}{μ:H}{s:az}{L:Option am}{A:bq}{E:aq->az->Prop}
variable{x y:V}{wx wy:aq}{b:Bool}{Q:aq->az->Prop}
theorem Hq(c:aK G φ μ s.heap)(e:aA G φ s.heap x wx)(f:aA G φ s.heap y wy){P:Prop}(q:eqv 4 μ x y=aa b)(k:∀a bs,uD s.heap wx (ft 4 μ x) a->uD s.heap wy (ft 4 μ y) bs->shaped (ft 4 μ x)=aj->shaped (ft 4 μ y)=aj->On (ft 4 μ x) (ft 4 μ y)=b->P):P:=by unfold eqv at q;refine ifs q λd q=>?_;rw[cI]at d;refine oE (zK c 4 x wx d.1 e) λa g=>oE (zK c 4 y wy d.2 f) λbs h=>?_;exact k a bs g h (Hy (by decide) d.1) (Hy (by decide) d.2) ((Ct 4 x y d.1 d.2).trans (bU q))
theorem YR(d:aA G φ s.heap x wx)(e:Ai x=aa b):(wx==kM)=b:=by induction x using V.casesOn with|none=>replace d:_=_:=d;subst d;cases bU e;rfl|U=>injection e|fl l=>injection e|fp=>injection e|bool _=>replace d:_=_:=d;subst d;exact bU e|int _=>exact aA.i (P:=λw=>(w==kM)=b) d λt=>bU e|str _=>exact aA.str (P:=λw=>(w==kM)=b) d λt=>bU e|Z _=>exact aA.t (P:=λw=>(w==kM)=b) d λz z z z=>bU e|ref _=>exact aA.r (P:=λw=>(w==kM)=b) d λz z=>bU e|fn f=>rw[<-bU e];by_cases c:f=.c6;(·exact ay ((if_pos c).mp d) λa e z=>e▸rfl);·exact((if_neg c).mp d)▸rfl
theorem WF(e:Ai x=aa aj):x=.none:=by induction x using V.casesOn<;>first|rfl|cases e
theorem zu(d:aA G φ s.heap x wx)(g:aA G φ s.heap y wy)(e:wz x y k=aa b){P:aq->aq->Prop}(f:∀i j t u,k i j=b->P (.int i t) (.int j u)):P wx wy:=by refine fy e λi c e=>?_;induction a:fb y with|none=>rw[a]at e;injection e|some j=>rw[a]at e;exact aA.aI (P:=λwx=>P wx wy) c d λt=>aA.aI (P:=P _) a g λu=>f _ _ t u (bU e)
theorem AC(r:cL G)(l:aK G φ μ s.heap)(v:A.units<=9000)(op:l0)(d:aA G φ s.heap x wx)(a:aA G φ s.heap y wy)(e:dE op μ x y=aa b)(h:∀k,Q (.bool b) {s with toks:=k}):aJ (aU G.aE G.w) A (oh op.py wx wy) Q E s:=by
 have w:A.units+64<qj:=by unfold qj;lia
 have f:=h s.toks;induction op with|eq=>exact Hq l d a e λz bs m n o p q=>eq_dataH m n o p w (by rw[q];exact f)|ne=>(induction g:eqv 4 μ x y with|none=>have e:(eqv 4 μ x y).map _=aa b:=e;rw[g]at e;injection e|some c=>have e:(eqv 4 μ x y).map _=aa b:=e;rw[g]at e;exact Hq l d a g λz bs m n o p q=>ne_dataH m n o p w (by rw[q,show(!c)=b from bU e];exact f))|lt=>exact zu d a e (P:=λwx wy=>aJ (aU G.aE G.w) A (oh .Lt wx wy) Q E s) λi j t u q=>PyProof.Rows.lt_int (by rw[q];exact f)|le=>exact zu d a e (P:=λwx wy=>aJ (aU G.aE G.w) A (oh .LtE wx wy) Q E s) λi j t u q=>PyProof.Rows.le_int (by rw[q];exact f)|gt=>exact zu d a e (P:=λwx wy=>aJ (aU G.aE G.w) A (oh .Gt wx wy) Q E s) λi j t u q=>PyProof.Rows.gt_int (by rw[q];exact f)|ge=>exact zu d a e (P:=λwx wy=>aJ (aU G.aE G.w) A (oh .GtE wx wy) Q E s) λi j t u q=>PyProof.Rows.ge_int (by rw[q];exact f)|f9=>exact Hg au r l v d a e h|lS=>have e:(f9 μ x y).map _=aa b:=e;(induction g:f9 μ x y with|none=>rw[g]at e;injection e|some c=>rw[g]at e;rw[<-bU e]at h;exact Hg aj r l v d a g h)|qA=>refine fy e λt B e=>?_;induction t with|false=>injection e|true=>rw[WF B]at a;replace a:_=_:=a;subst a;exact is_none (by rw[YR d e];exact f)
end
section
open Classical
variable{G:bp}{φ:List am}{μ:H}{s:az}{L:Option am}{A:bq}{E:aq->az->Prop}
theorem aC.HQ{x:aC}{n:Nat}{t:aC}(e:x.at n=aa t):n<5:=by have h:=of_decide_eq_true (fN.mp (show(aC.all.all λx=>aZ (x.BJ.length<=5))=aj by decide+kernel) x (aC.jL x));exact gf (dH.mp e).1 h
theorem aC.Xd:(aC.all.all λx=>(j0 5).all λn=>(x.at n).all λt=>aZ (n<x.str.cps.size)&&(x.str.cps[n]?==t.str.cps[0]?)&&t.str.cps.size==1)=aj:=by decide+kernel
theorem aC.Uf{x:aC}{n:Nat}{t:aC}(e:x.at n=aa t):∃c,n<x.str.cps.size/\x.str.cps[n]?=aa c/\t.str=⟨#[c]⟩:=by
 have h:=fN.mp (fN.mp aC.Xd x (aC.jL x)) n (abH.mpr (aC.HQ e));rw[e]at h;simp only[Oo,cI,decide_eq_true_eq,beq_iff_eq]at h;refine oA h ?_;try clear h;rintro⟨a,b⟩f
 refine(d0 (x.str.cps[n]) a (Oq a) ?_);rw[Oq a]at b;have:t.str.cps=#[x.str.cps[n]]:=by apply Array.ext;(·simpa using f);·intro i g d;(have:i=0:=by simp at d;exact d);subst this;rw[Oq g]at b;simpa using(bU b).symm
 induction j:t.str with|mk c=>rw[j]at this;simp only at this;rw[this]
theorem IJ(a:0<=k)(d:k.toNat<n):seqIndex? k n=aa k.toNat:=by
 unfold seqIndex?;have:¬k<0:=by lia
 simp only[this,if_false];have b:aZ (0<=k)=aj:=decide_eq_true a;have c:aZ (k<(n:Int))=aj:=decide_eq_true (by lia);simp only[b,c,Bool.and_self,if_true]
theorem Kh(e:pT l k=aa v){P:Prop}(f:0<=k->k<1000->l[k.toNat]?=aa v->P):P:=by unfold pT at e;exact ifs e λc e=>f c.1 c.2 e
variable{x k v:V}{wx wk:aq}{Q:aq->az->Prop}
theorem Rp{x:aC}(e:s6 (.str x) k=aa v)(i:aA G φ s.heap k wk)(h:∀w t,aA G φ s.heap v w->Q w {s with toks:=t}):aJ (aU G.aE G.w) A (kN (.str x.str t) wk) Q E s:=by have e:((fb k).bind λk=>if 0<=k then(x.at k.toNat).map V.str else ah)=aa v:=e;refine fy e λj f e=>ifs e λg e=>?_;induction q:x.at j.toNat with|none=>rw[q]at e;injection e|some z=>rw[q]at e;cases bU e;refine cu (aC.Uf q) λc a b d=>?_;refine aA.aI (P:=λwk=>aJ (aU G.aE G.w) A (kN (.str x.str t) wk) Q E s) f i λu=>?_;refine PyProof.Rows.getItem_str (c:=c) (by have:=aC.HQ q;simp;lia) ?_ (h _ _ ?_);(·rw[IJ g (show j.toNat<x.str.length from a)];exact b);·exact⟨_,by rw[d]⟩
theorem PA(a:cL G)(b:aK G φ μ s.heap)(e:s6 .fp k=aa v)(j:aA G φ s.heap k wk)(h:∀w t,aA G φ s.heap v w->Q w {s with toks:=t}):aJ (aU G.aE G.w) A (kN (.ref G.sa) wk) Q E s:=by have e:((iy k).bind λs=>s.qh.map V.str)=aa v:=e;refine fy e λx c e=>?_;induction q:x.qh with|none=>rw[q]at e;injection e|some z=>rw[q]at e;cases bU e;refine aA.aS (P:=λwk=>aJ (aU G.aE G.w) A (kN (.ref G.sa) wk) Q E s) c j λu=>?_;refine cG a.Dh λl n d f g=>oE (g x z q) λt i=>oE (b.fr a.Lb) λm F=>?_;exact topGetDict_K F a.X d f i (h _ _ .xL)
theorem VL(m:s.heap.IsList a vs.toArray)(n:bv G φ s.heap l vs)(e:((fb k).bind λk=>pT l k)=aa v)(f:aA G φ s.heap k wk)(h:∀w t,aA G φ s.heap v w->Q w {s with toks:=t}):aJ (aU G.aE G.w) A (kN (.ref a) wk) Q E s:=by refine fy e λj b e=>Kh e λc d g=>ay (n.cp g) λw i o=>?_;exact aA.aI (P:=λwk=>aJ (aU G.aE G.w) A (kN (.ref a) wk) Q E s) b f λt=>wpAny_getItem_list (items:=vs.toArray) m c (yu d (by decide)) (by simpa using i) (h w s.toks o)
theorem XI(g:s.heap.get? a=aa {cls:=.type "tuple",data:=.seq vs.toArray})(m:bv G φ s.heap l vs)(e:((fb k).bind λk=>pT l k)=aa v)(f:aA G φ s.heap k wk)(h:∀w t,aA G φ s.heap v w->Q w {s with toks:=t}):aJ (aU G.aE G.w) A (kN (.ref a) wk) Q E s:=by refine fy e λj c e=>Kh e λd o i=>ay (m.cp i) λw b n=>?_;exact aA.aI (P:=λwk=>aJ (aU G.aE G.w) A (kN (.ref a) wk) Q E s) c f λt=>PyProof.Rows.getItem_tuple (items:=vs.toArray) ⟨_,g,rfl,_,rfl⟩ (by lia) (by lia) (IJ d (by simpa using(dH.mp b).1)) (by simpa using b) (h w s.toks n)
theorem Wj(C:aK G φ μ s.heap)(z:A.units<=9000)(d:gH G φ s.heap a l)(f:eZ l (kk k)=aj)(e:eH l (kk k)=aa v)(g:aA G φ s.heap k wk)(h:∀w t,aA G φ s.heap v w->Q w {s with toks:=t}):aJ (aU G.aE G.w) A (kN (.ref a) wk) Q E s:=by
 rcases Dz f with⟨c,n⟩|⟨t,rfl,c⟩;·rw[c]at e f;refine ay (d.xK f n) λm u x=>?_;exact x.pZ (kE f) (P:=λo b=>o=aa v->valueAt m k=b->aJ (aU G.aE G.w) A (kN (.ref a) wk) Q E s) (λe=>nomatch e) (λZ w r e j=>wpAny_getItem_of (s7 n g) u.mapOf j (h w _ (bU e▸r))) e rfl
 ·rw[c]at e f;have i:=KR.Cy G 8 _ _ (kE f) g;revert i;refine aA.t (P:=λwk=>KR s.heap 8 (kn 8 (.Z t)) wk->aJ (aU G.aE G.w) A (kN (.ref a) wk) Q E s) g λb vs Z Z i=>ay (d.Ec f rfl) λm u x=>?_;exact x.pZ (kE f) (P:=λo y=>o=aa v->(atKey m (kn 8 (.Z t))).map (·.2)=y->aJ (aU G.aE G.w) A (kN (.ref a) (.ref b)) Q E s) (λe=>nomatch e) (λZ w r e j=>ay (pi.mp j) λp B q=>wpAny_getItem_heap (BE z) ⟨i,kE f⟩ u B (h p.2 _ (q▸bU e▸r))) e (aby ..)
theorem Nc(y:cL G)(j:aK G φ μ s.heap)(B:A.units<=9000)(b:aA G φ s.heap x wx)(d:aA G φ s.heap k wk)(e:dy μ x k=aa v)(h:∀w t,aA G φ s.heap v w->Q w {s with toks:=t}):aJ (aU G.aE G.w) A (kN wx wk) Q E s:=by unfold dy at e;induction o:gJ x with|some i=>rw[o]at e;refine aA.aR (P:=λwx=>aJ (aU G.aE G.w) A (kN wx wk) Q E s) o b λa f=>?_;have e:o6 μ i k=aa v:=e;unfold o6 at e;(induction m:aG μ i with|some l=>rw[m]at e;exact qJ j f m λvs n Z F J=>VL F J e d h|none=>rw[m]at e;exact fy e λl D e=>ifs e λC e=>Wj j B (j.fJ i _ (jH D) a f) C e d h)|none=>rw[o]at e;induction p:jx x with|some l=>rw[p]at e;exact aA.aT (P:=λwx=>aJ (aU G.aE G.w) A (kN wx wk) Q E s) p b λa vs g r=>XI g r e d h|none=>rw[p]at e;induction u:iy x with|some z=>rw[um u]at b e;exact aA.str (P:=λwx=>aJ (aU G.aE G.w) A (kN wx wk) Q E s) b λt=>Rp e d h|none=>have q:=e;have e:s6 x k=aa v:=e;unfold s6 at e;rw[u]at e;refine ifs e λc Z=>?_;rw[Mw c]at b q;replace b:_=_:=b;subst b;exact PA y j q d h
end
section
variable{G:bp}
noncomputable def xV(G:bp)(h:aQ)(a:am)(o':cE):List (am×cE):=(nL G h).map λp=>if p.1=a then(a,o')else p
theorem aaT{f:am->Option (am×cE)}(k:∀a p,f a=aa p->p.1=a)(l:List am):((l.filterMap f).map (·.1)).Sublist l:=by induction l with|nil=>exact .slnil|cons x l b=>rw[abK];cases e:f x with|none=>exact .cons _ b|some p=>exact(k x p e).symm▸.cons_cons p.1 b
theorem Tm(h:aQ):((nL G h).map (·.1)).Nodup:=by
 refine(aaT (λa p e=>?_) _).nodup List.nodup_range;by_cases c:a=G.Lb\/(G.h₀.get? a).isSome=aj;·rw[if_pos c]at e;injection e
 ·rw[if_neg c]at e;exact ay (pi.mp e) λo _ q=>q▸rfl
theorem Tq:(a,o)∈l->(l.map (·.1)).Nodup->Upd a o o' l (l.map λp=>if p.1=a then(a,o')else p):=by induction l with|nil=>exactλh=>absurd h jD|cons p l f=>intro h b;have b:=pn.mp b;rw[uB];rcases gQ.mp h with e|h;(·subst e;have k:∀q∈l,q.1≠a:=λq c z=>b.1 (gO.mpr ⟨q,c,z⟩);rw[if_pos rfl,show(l.map λp=>if p.1=a then(a,o')else p)=l from(uA (g:=id) λq c=>if_neg (k q c)).trans (List.map_id l)];exact .head k);·have d:p.1≠a:=λz=>b.1 (gO.mpr ⟨_,h,z.symm⟩);rw[if_neg d];exact .tail d (f h b.2)
theorem aK.Ag(b:aK G φ μ h)(c:a∈φ)(e:h.get? a=aa o):(a,o)∈nL G h:=wZ.mpr (eA e (λq=>b.oH (q▸c)) (b.k9 a c))
theorem aK.u4(b:aK G φ μ h)(c:a∈φ)(e:h.get? a=aa o):Upd a o o' (nL G h) (xV G h a o'):=Tq (b.Ag c e) (Tm h)
theorem cR.FP(g:aK G φ μ h)(F:Fr G.h₀ G.Lb h m)(f:Fr G.h₀ G.Lb h' m)(i:a∈φ)(e:h.get? a=aa o)(c:News G.h₀ G.Lb h' (xV G h a o')):cR G [a] h h'/\h'.get? a=aa o':=by have d:(a,o')∈xV G h a o':=gO.mpr (bC (a,o) (g.Ag i e) (if_pos rfl));exact⟨.yq F f c (λp k j=>gO.mpr (bC p k (if_neg λq=>j (dq.mpr q)))) (jA (P:=λb=>∃o,(b,o)∈xV G h a o') ⟨o',d⟩),(c _ d).1⟩
theorem aK.Dt(f:aK G φ μ h)(i:a∈φ):∀b∈[a],∀d,h.get? b=aa d->gX d:=jA (P:=λb=>∀d,h.get? b=aa d->gX d) λd e=>ay (f.own i) λj g c=>f8 g e▸c.wL
theorem aK.dK(e:cL G)(b:aK G φ μ s.heap)(hi:φ[i]?=aa a)(c:cR G [a] s.heap h')(r:cX s.heap h'->kB G φ h' i a o')(tk:Nat):c7 G φ s φ {s with heap:=h',toks:=tk}/\aK G φ (μ.set i o') h':=by have d:=cW hi;have k:=c.fR b (b.Dt d);refine⟨?_,b.jw e.lb hi c (r k)⟩;have z:=c.aH (own:=[]) (tk:=tk) b (jA d) [] kq;rw[iD]at z;exact z
theorem Heap.SameBut.G6(b:aK G φ μ h)(c:a∈φ)(hs:vV a h h')(d:∃o,h'.get? a=aa o):cR G [a] h h':=.same hs (λq=>b.oH (q▸c)) d
end
section
open Classical
variable{G:bp}{φ:List am}{μ:H}{s:az}{L:Option am}{A:bq}{E:aq->az->Prop}
theorem SW(v:aq):∀{k:Nat},k<l.length->ki_setL l k v=aa (l.set k v):=by induction l with|nil=>exactλh=>absurd h (ux _)|cons x r a=>intro k h;cases k with|zero=>rfl|succ k=>show(match ki_setL r k v with|aa q=>aa (x::q)|ah=>ah)=_;rw[a (BS h)];rfl
variable{x k v:V}{wx wk wv:aq}{Q:Unit->az->Prop}
theorem Wo(g:cL G)(b:aK G φ μ s.heap)(f:φ[i]?=aa a)(M:aG μ i=aa l)(D:aA G φ s.heap k wk)(J:aA G φ s.heap v wv)(e:((fb k).bind λk=>if 0<=k/\k<(cM:Int)/\k.toNat<l.length then aa (μ.set i (.list (l.set k.toNat v)))else ah)=aa r)(h:∀h' t,c7 G φ s φ {s with heap:=h',toks:=t}->aK G φ r h'->Q () {s with heap:=h',toks:=t}):aJ (aU G.aE G.w) A (vY (.ref a) wk wv) Q E s:=by refine fy e λj B e=>ifs e λd e=>?_;cases bU e;refine gw (qC b f M) λvs n p q=>oE (b.fr g.Lb) λm F=>?_;have o:=cW f;refine aA.aI (P:=λwk=>aJ (aU G.aE G.w) A (vY (.ref a) wk wv) Q E s) B D λt=>?_;refine ki_set F (ot s.heap) d.1 (by have:=d.2.1;unfold cM at this;lia) (SW wv (by rw[q.length];exact d.2.2)) (b.u4 o p) λh' u w=>?_;refine oA (cR.FP b F u o p w) λc C=>?_;exact oA (b.dK g f c (o':=.list (l.set j.toNat v)) (λL=>⟨_,n,C,(q.set _ J).B (λZ Z z=>z) L⟩) s.toks) λx y=>h h' s.toks x y
theorem GZ(L:cL G)(j:aK G φ μ s.heap)(Z:A.units<=9000)(N:aA G φ s.heap x wx)(q:aA G φ s.heap k wk)(B:aA G φ s.heap v wv)(e:jk μ x k v=aa U)(h:∀h' t,c7 G φ s φ {s with heap:=h',toks:=t}->aK G φ U h'->Q () {s with heap:=h',toks:=t}):aJ (aU G.aE G.w) A (vY wx wk wv) Q E s:=by refine fy e λi M e=>aA.aR (P:=λwx=>aJ (aU G.aE G.w) A (vY wx wk wv) Q E s) M N λa p=>?_;induction D:aG μ i with|some l=>rw[D]at e;exact Wo L j p D q B e h|none=>rw[D]at e;refine fy e λl hl e=>ifs e λw e=>?_;cases bU e;rw[cI,decide_eq_true_eq]at w;have f:=w.1;have hlen:=w.2;unfold cM at hlen;have d:gH G φ s.heap a l:=j.fJ i _ (jH hl) a p;have m:∀h' t,vV a s.heap h'->(cX s.heap h'->gH G φ h' a (gT l (kk k) v))->(∃o,h'.get? a=aa o)->Q () {s with heap:=h',toks:=t}:=λh' t hs r hd=>oA (j.dK L p (Heap.SameBut.G6 j (cW p) hs hd) (o':=.dict (gT l (kk k) v)) r t) λW Y=>h h' t W Y;clear h e N M;(have R:∀{n},n=l.length->n<=hU:=λe=>by unfold hU;lia);rcases Dz f with⟨u,n⟩|⟨t,rfl,u⟩;(·rw[u]at m f;refine ay (d.xK f n) λkv F c=>?_;exact wpAny_setItem_pairs (s7 n q) F (λh' g J=>m h' _ J (λC=>.bW _ g ((c.dW (kE f) n B).B (λ_ _ z=>z) C)) (gM g λo _ _ e _=>⟨o,e⟩)) (R c.length));·rw[u]at m f;have y:=KR.Cy G 8 _ _ (kE f) q;revert y;refine aA.t (P:=λwk=>KR s.heap 8 (kn 8 (.Z t)) wk->aJ (aU G.aE G.w) A (vY (.ref a) wk wv) Q E s) q λb vs _ _ y=>ay (d.Ec f rfl) λkv F c=>?_;exact wpAny_setItem_heap (BE Z) ⟨y,kE f⟩ F (λh' g J=>m h' _ J (λC=>.tY _ g ((c.dW (kE f) rfl B).B (λ_ _ z=>z) C)) (gM g λo _ _ e _=>⟨o,e⟩)) (R c.length)
end
theorem At.oX:(At.all.all λs=>aZ (At.all.find? (λx=>(At.str x).cps.toList==(At.str s).cps.toList)=aa s))=aj:=by decide+kernel
theorem At.BA{s t:At}(e:s.str=t.str):s=t:=by have hs:=of_decide_eq_true (fN.mp At.oX s (At.jL s));have a:=of_decide_eq_true (fN.mp At.oX t (At.jL t));rw[e,a]at hs;exact(bU hs).symm
noncomputable def Mt.str(m:Mt):aD:=bz m.fQ
noncomputable def dr.str(k:dr):aD:=bz k.fQ
structure pJ(G:bp):Prop where
 cp:∀(k:dr)(n:At),Gz G.K (G.ka k) n.str=aj/\j5 G.K (.ref (G.ka k)) n.str=aa ah
 Fu:∀k:dr,hasDictIn G.K (G.ka k)=aj
 nC:∀k:dr,j5 G.K (.ref (G.ka k)) "__setattr__"=aa (aa (.builtin "object.__setattr__"))/\plainOver G.K (G.ka k)=aj
 bH:∀(k:dr)(m:Mt)(f:Fn),lU k m=aa f->Gz G.K (G.ka k) m.str=aj/\j5 G.K (.ref (G.ka k)) m.str=aa (aa (.ref (G.fa f)))/\isFn G.K (.ref (G.fa f))=aj/\f≠.c6
 name:∀k:dr,ip G.K e7 k.str=aa (aa (.ref (G.ka k)))/\keepIn G.K (.ref (G.ka k))=aj
 HU:∀k:dr,makesIn G.K (G.ka k)=aj/\j5 G.K (.ref (G.ka k)) "__init__"=aa (aa (.ref (G.fa k.init)))/\isFn G.K (.ref (G.fa k.init))=aj/\k.init≠.c6
section
variable{G:bp}{φ:List am}{μ:H}{s:az}{L:Option am}{A:bq}{E:aq->az->Prop}
theorem aaK(n m:At)(t:kF):(Value.str m.str t).isStr n.str=(m==n):=by
 show(m.str==n.str)=_;by_cases e:m=n;·subst e;simp
 ·have:m.str≠n.str:=λq=>e (At.BA q);rw[beq_eq_false_iff_ne.mpr this,beq_eq_false_iff_ne.mpr e]
theorem HG{n:At}{p:At×V}{e:i8}(r:(∃t,e=⟨Gc G.w.params p.1.str,.str p.1.str t,e.val⟩)/\aA G φ h p.2 e.val):(p.1==n)=e.key.isStr n.str:=oE r.1 λt q=>q▸(aaK n p.1 t).symm
theorem jT.GW(x:jT G φ h l a):a.any (λe=>e.refKey)=au:=by induction x with|nil=>rfl|cons r _ b=>exact oE r.1 λt q=>q▸b
theorem jT.getL{n:At}(x:jT G φ h l c){P:Option V->Option (Option aq)->Prop}(z:P ah (aa ah))(s:∀v w,aA G φ h v w->P (aa v) (aa (aa w))):P (qZ l n) (B0 n.str c):=by unfold B0;rw[x.GW];exact dw.pZ (λZ Z r=>HG r) x (P:=λ(a:Option (At×V))(b:Option i8)=>P (a.map sP) (match b with|aa e=>aa (aa e.val)|ah=>if au=aj then ah else aa ah)) z λa b r=>s a.2 b.val r.2
theorem jT.putL{n:At}(b:aA G φ h v w)(t:kF)(x:jT G φ h l a):jT G φ h (iQ l n v) (W.putL n.str (Gc G.w.params n.str) (.str n.str t) w a):=by induction x with|nil=>exact .cons ⟨⟨t,rfl⟩,b⟩ .nil|@cons p e l a r x d=>show jT G φ h (if p.1=n then(p.1,v)::l else p::iQ l n v) (if e.key.isStr n.str=aj then{e with val:=w}::a else e::W.putL n.str _ _ w a);rw[<-HG r];by_cases c:p.1=n;(·rw[if_pos c,if_pos (beq_iff_eq.mpr c)];exact .cons ⟨oE r.1 λt q=>⟨t,q▸rfl⟩,b⟩ x);·rw[if_neg c,if_neg (BX.mp (beq_eq_false_iff_ne.mpr c))];exact .cons r d
theorem Z6(n:At)(v:V)(l:List (At×V)):(iQ l n v).length<=l.length+1:=by induction l with|nil=>exact cF _|cons p l a=>show(if p.1=n then _ else _:List (At×V)).length<=_;by_cases c:p.1=n;(·rw[if_pos c];exact lE _);·rw[if_neg c];exact lF a
theorem EU(c:aK G φ μ h)(f:φ[i]?=aa a)(e:iu μ i=aa l){P:Prop}(g:∀d k b n,φ[i+1]?=aa d->μ[i]?=aa (.bw k)->h.get? a=aa (instObj (G.ka k) d)->h.get? d=aa (dictOf b n)->jT G φ h l b->P):P:=ay (MJ e) λk j o=>ay (c.fJ i _ j a f) λd m p=>gw (c.fJ (i+1) _ o d m) λb n q r=>g d k b n m j p q r
theorem FW(c:h.get? a=aa (instObj C d))(e:h.get? d=aa (dictOf b n)):W.InstAt h a (instObj C d) C (aa (dictOf b n)):=⟨c,rfl,rfl,e⟩
theorem aA.WD(r:aA G φ h v w):B1 w=aj:=by induction v using V.casesOn with|U=>exact r.elim|none=>rw[show w=.none from r];rfl|bool _=>rw[show w=.bool _ from r];rfl|int _=>exact r.i (P:=λw=>B1 w=aj) λ_=>rfl|str _=>exact r.str (P:=λw=>B1 w=aj) λ_=>rfl|Z _=>exact r.t (P:=λw=>B1 w=aj) λ_ _ _ _=>rfl|ref _=>exact r.r (P:=λw=>B1 w=aj) λ_ _=>rfl|fn f=>have r:if f=.c6 then _ else _:=r;by_cases c:f=.c6;(·rw[if_pos c]at r;exact ay r λa e _=>e▸rfl);·rw[if_neg c]at r;rw[r];rfl|fl _=>exact gw r λ_ _ e _=>e▸rfl|fp=>rw[show w=.ref G.sa from r];rfl
theorem JD(g:cL G)(C:pJ G)(j:aK G φ μ s.heap)(L:aA G φ s.heap x b)(e:iX μ x n=aa v)(h:∀w t,aA G φ s.heap v w->Q w {s with toks:=t})(c:Bool):aJ (aU G.aE G.w) A (B2 b n.str c) Q E s:=by refine fy e λi q e=>fy e λl D e=>aA.aR (P:=λb=>aJ (aU G.aE G.w) A (B2 b n.str c) Q E s) q L λa f=>EU j f D λd k r m M N y z B=>?_;exact oE (j.fr g.Lb) λm' F=>B.getL (P:=λo u=>o=aa v->B0 n.str r=u->aJ (aU G.aE G.w) A (B2 (.ref a) n.str c) Q E s) (λe=>nomatch e) (λZ w p e J=>get_own F g.X (FW y z) (C.cp k n).1 (C.Fu k) (C.cp k n).2 rfl J p.WD (h w _ (bU e▸p))) e rfl
theorem Jg(j:cL G)(C:pJ G)(b:aK G φ μ s.heap)(hx:aA G φ s.heap x g)(Z:aA G φ s.heap v p)(e:l5 μ x n v=aa B)(h:∀h' t,c7 G φ s φ {s with heap:=h',toks:=t}->aK G φ B h'->Q () {s with heap:=h',toks:=t}):aJ (aU G.aE G.w) A (setAttr g n.str p) Q E s:=by refine fy e λi N e=>fy e λl W e=>ifs e λhlen e=>aA.aR (P:=λg=>aJ (aU G.aE G.w) A (setAttr g n.str p) Q E s) N hx λa f=>EU b f W λd k es m q h2 U o r=>?_;cases bU e;refine oE (b.fr j.Lb) λm' F=>?_;have w:=cW q;have Y:=r.getL (n:=n) (P:=λ_ u=>u.isSome=aj) rfl λ_ _ _=>rfl;have y:=jT.putL (n:=n) Z (s.toks+1) r;refine set_dict F j.X (ot s.heap) (FW U o) rfl (C.nC k).1 (C.nC k).2 (by unfold takerIn;rw[(C.cp k n).2];rfl) (C.Fu k) Y rfl (b.u4 w o) (by rw[dw.bN y];have:=Z6 n v l;lia) λh' D J=>?_;refine oA (cR.FP b F D w o J) λc R=>?_;exact oA (b.dK j q c (o':=.fields (iQ l n v)) (λkt=>⟨_,_,R,y.B (λ_ _ z=>z) kt⟩) (s.toks+2)) λL M=>h h' _ L M
end
noncomputable def dR(e:aO):Bool:=by cases e with|Set=>exact au|Slice=>exact au|Starred=>exact au|_=>exact aj
theorem aB.lN{a β b:Type}(r:aB a)(f:a->H->aB β)(g:β->H->aB b):(r.bind f).bind g=r.bind λx h=>(f x h).bind g:=by induction r<;>rfl
section
variable{G:bp}{cl:Fn->List V->H->aB V}{n:Nat}{sl:Sl}{sc:List (aD×cK)}
noncomputable def ST(G:bp)(cl:Fn->List V->H->aB V)(n:Nat)(sl:Sl)(sc:List (aD×cK))(c:CE)(e:aO):Prop:=∀(A:bq)(env:bP)(F:List V)(φ:List am)(μ:H)(s:az)(Q:Bool->az->Prop)(E:aq->az->Prop),jf A n->env.scope.names=sc->dQ G A env sl F φ μ s->fc G env.frame φ s (jh cl c F μ) Q E->aJ (aU G.aE G.w) A (isTrue e env (gn e env)) Q E s
noncomputable def oU(G:bp)(cl:Fn->List V->H->aB V)(n:Nat)(sl:Sl)(sc:List (aD×cK))(cs:List CE)(a:List aO):Prop:=∀(A:bq)(env:bP)(F:List V)(φ:List am)(μ:H)(s:az)(pos:be)(Q:List aq->az->Prop)(E:aq->az->Prop),jf A n->env.scope.names=sc->dQ G A env sl F φ μ s->gW G env.frame φ s (cY cl cs F μ) Q E->aJ (aU G.aE G.w) A (spliced (rz pos (po a env))) Q E s
theorem jf.units{A:bq}(h:jf A n):A.units<=9000:=by have:=h.2;lia
theorem xG{d β:Type}{r:aB d}{k:d->H->aB β}{b:β}{μ:H}{P:Prop}(e:r.bind k=.ok b μ)(f:∀a c,r=.ok a c->k a c=.ok b μ->P):P:=by induction r with|ok a c=>exact f a c rfl e|ex=>injection e|aM=>injection e
theorem CR{cs:List CE}:∀{F:List V}{μ a:H}{vs:List V},cY cl cs F μ=.ok vs a->vs.length=cs.length:=by induction cs with|nil=>intro F μ a vs e;injection(e:aB.ok [] μ=_)with e;rw[<-e];rfl|cons c cs d=>intro F μ a vs e;exact xG e λv f z e=>xG e λws g b e=>by injection e with e;rw[<-e];exact congrArg (·+1) (d b)
section
variable{φ:List am}{s:az}{L:Option am}{Q:List aq->az->Prop}{E:aq->az->Prop}
theorem aY.vh(f:gW G L φ s (r.bind k) Q E)(h:∀v d e s₁ w,c7 G φ s e s₁->aK G e d s₁.heap->aA G e s₁.heap v w->gW G L e s₁ (k v d) Q E->g w s₁):aY G L φ s r g E:=by induction r with|ok v d=>exactλi s' w a b c=>h v d i s' w a b c (gW.aH a f)|ex x d=>exact f|aM=>exact f.elim
theorem gW.vh(f:gW G L φ s (r.bind k) Q E)(h:∀v d e s₁ w,c7 G φ s e s₁->aK G e d s₁.heap->bv G e s₁.heap v w->gW G L e s₁ (k v d) Q E->g w s₁):gW G L φ s r g E:=by induction r with|ok v d=>exactλi s' w a b c=>h v d i s' w a b c (gW.aH a f)|ex x d=>exact f|aM=>exact f.elim
theorem aY.nB(f:fc G L φ s (r.bind k) h E)(i:∀v d e s₁ w,c7 G φ s e s₁->aK G e d s₁.heap->aA G e s₁.heap v w->fc G L e s₁ (k v d) h E->g w s₁):aY G L φ s r g E:=by induction r with|ok v d=>exactλj s' w a b c=>i v d j s' w a b c (fc.aH a f)|ex x d=>exact f|aM=>exact f.elim
theorem fc.bh(d:aY G L φ s (r.bind k) g E)(h:∀v c e s₁,c7 G φ s e s₁->aK G e c s₁.heap->aY G L e s₁ (k v c) g E->f v s₁):fc G L φ s r f E:=by induction r with|ok v c=>exactλi s' a b=>h v c i s' a b (aY.aH a d)|ex x c=>exact d|aM=>exact d.elim
theorem fc.nB(d:fc G L φ s (r.bind k) g E)(h:∀v c e s₁,c7 G φ s e s₁->aK G e c s₁.heap->fc G L e s₁ (k v c) g E->f v s₁):fc G L φ s r f E:=by induction r with|ok v c=>exactλi s' a b=>h v c i s' a b (fc.aH a d)|ex x c=>exact d|aM=>exact d.elim
theorem fc.ok(c:aK G φ μ s.heap)(d:fc G L φ s (.ok b μ) a E):a b {s with toks:=tk}:=d φ {s with toks:=tk} ⟨(bC ([]) (by simp) (by simp)),.b8 _ _,rfl⟩ c
end
theorem ZP:oU G cl n sl sc [] []:=λA env F φ μ s pos Q E z z a b=>by exact vZ (b φ s [] (.b8 _ _ _) a.cf .nil)
theorem lP(h:dR e=aj):po (e::a) env=(au,gn e env)::po a env:=by cases e<;>first|rfl|injection h
theorem Vj(o:dR e=aj)(l:SE G cl n sl sc c e)(m:oU G cl n sl sc cs f):oU G cl n sl sc (c::cs) (e::f):=λA env F φ μ s pos Q E g h b a=>by refine spliced_more (l A env F φ μ s _ E g h b (aY.vh a λv t u s₁ w j d r a=>?_)) (lP o);refine m A env F u t s₁ pos _ E g h (b.aH j d) (gW.vh a λvs y x q ws k i p a=>?_);exact a x q (w::ws) (.b8 _ _ _) i (.cons (aA.aH d k dX r) p)
section
variable(O:cL G)(C:pJ G)
include O
theorem Yn(m:SE G cl n sl sc a f)(o:SE G cl n sl sc b g):SE G cl n sl sc (.aN op a b) (.BinOp f op.py g pos):=λA env F φ μ s Q E h i d c=>by refine wpAny_BinOp (m A env F φ μ s _ E h i d (aY.bh c λv q t s₁ w k e r c=>?_));refine o A env F t q s₁ _ E h i (d.aH k e) (aY.bh c λx z B u y l j p c=>?_);exact QZ O j op (aA.aH e l dX r) p c
omit O in theorem Um(g:SE G cl n sl sc a c):SE G cl n sl sc (.bn a) (.UnaryOp .USub c pos):=λA env F φ μ s Q E f h d b=>by refine wpAny_UnaryOp (g A env F φ μ s _ E f h d (aY.bh b λv k l s₁ w j e r b=>?_));induction v using V.casesOn with|int i=>exact aA.i (P:=λw=>aJ (aU G.aE G.w) A (unaryOp .USub w) Q E s₁) r λt=>PyProof.Rows.neg_int (aY.lQ e .xQ b)|_=>exact b.elim
omit O in theorem Wz(h:SE G cl n sl sc a e):SE G cl n sl sc (.bZ a) (.UnaryOp .Not e pos):=λA env F φ μ s Q E g i f c=>by refine wpAny_UnaryOp (h A env F φ μ s _ E g i f (aY.bh c λv j m s₁ w l d r c=>?_));unfold tb at c;induction q:truthy j v with|none=>rw[q]at c;exact c.elim|some b=>rw[q]at c;exact not_of (BP d r q λk=>aY.lQ d aA.yd c)
theorem PB(u:dR e=aj)(p:SE G cl n sl sc a j)(t:SE G cl n sl sc b e):SE G cl n sl sc (.ao op a b) (.Compare j [op.py] [e] pos):=λA env F φ μ s Q E f l g d=>by(have x:Os op.py e=au:=by cases e<;>first|rfl|injection u);refine wpAny_Compare1 (p A env F φ μ s _ E f l g (aY.bh d λv B D s₁ w m h r d=>?_)) x;refine t A env F D B s₁ _ E f l (g.aH m h) (aY.bh d λz C M J L o i y d=>?_);induction q:dE op C v z with|none=>rw[q]at d;exact d.elim|some c=>rw[q]at d;exact AC O i f.units op (aA.aH h o dX r) y q λk=>aY.lQ i aA.yd d
theorem Pi(u:dR e=aj)(p:SE G cl n sl sc a j)(t:SE G cl n sl sc b e):ST G cl n sl sc (.ao op a b) (.Compare j [op.py] [e] pos):=λA env F φ μ s Q E f l g d=>by unfold jh at d;rw[Xl]at d;(have x:Os op.py e=au:=by cases e<;>first|rfl|injection u);rw[aB.lN]at d;refine wpAny_isTrue_Compare1 (p A env F φ μ s _ E f l g (aY.nB d λv B D s₁ w m h r d=>?_)) x;rw[aB.lN]at d;refine t A env F D B s₁ _ E f l (g.aH m h) (aY.nB d λz C M J L o i y d=>?_);induction q:dE op C v z with|none=>rw[q]at d;exact d.elim|some c=>rw[q]at d;exact AC O i f.units op (aA.aH h o dX r) y q λk=>Gy (fc.ok i d)
include C in
theorem Th {a : CE} {nm : At} {ea : aO} {x : aD} {pos : be} (hx : x = nm.str) (hf : gn (.Attribute ea x pos) = fun env => (do
      let o ← gn ea env
      standAt pos.atName
      let r ← holding [o] (B2 o x aj)
      letTemporaryGo ea o r
      dG r)) (ha : SE G cl n sl sc a ea) : SE G cl n sl sc (.M a nm) (.Attribute ea x pos) := fun A env F φ μ s Q E hR hsc I hE => by
  subst hx
  refine Attribute_any_ (ha A env F φ μ s _ E hR hsc I (aY.bh hE fun v μ₁ φ₁ s₁ w aH S r hE => ?_)) (congrFun hf env)
  induction q : iX μ₁ v nm with
  | none => rw [q] at hE; exact hE.elim
  | some u =>
    rw [q] at hE
    exact JD O C S r q (fun w' t r' => aY.lQ S r' hE) aj
omit O in theorem SY(h:dR e=aj)(o i:aq):subscripted e au o i=operate [o,i] (kN o i):=by cases e<;>first|rfl|injection h
omit O in theorem gH.Fh(d:gH G φ h a l):∃b,h.get? a=aa b/\b.cls=.type "dict"/\b.dict=ah:=by induction d with|bW i x=>exact fW x λo g f e c z=>⟨o,e,c.1,c.2.1⟩|tY i x=>exact fW x λo g f e c z=>⟨o,e,c.1,c.2.1⟩
theorem Ra{s:az}(d:aK G φ μ s.heap)(r:aA G φ s.heap x w)(q:dy μ x k=aa v):∃T b,s.TypeIs w T/\v7 (.type T) "__getitem__"=dG (aa (.builtin b)):=by unfold dy at q;induction h:gJ x with|some i=>rw[h]at q;refine aA.aR (P:=λw=>∃T b,s.TypeIs w T/\v7 (.type T) "__getitem__"=dG (aa (.builtin b))) h r λa f=>?_;have q:o6 μ i k=aa v:=q;unfold o6 at q;(induction j:aG μ i with|some l=>exact qJ d f j λvs n B Z Z=>(iM ("list") _ ⟨_,B,rfl⟩ Ot.lookup)|none=>rw[j]at q;exact fy q λl y Z=>cu (gH.Fh (d.fJ i _ (jH y) a f)) λD e c Z=>(iM ("dict") _ ⟨_,e,c⟩ F.slot_dict_getitem.lookup))|none=>rw[h]at q;induction p:jx x with|some l=>exact aA.aT (P:=λw=>∃T b,s.TypeIs w T/\v7 (.type T) "__getitem__"=dG (aa (.builtin b))) p r λa vs g Z=>(iM ("tuple") _ ⟨_,g,rfl⟩ F.slot_tuple_getitem.lookup)|none=>rw[p]at q;have q:s6 x k=aa v:=q;unfold s6 at q;induction o:iy x with|some z=>exact aA.aS (P:=λw=>∃T b,s.TypeIs w T/\v7 (.type T) "__getitem__"=dG (aa (.builtin b))) o r λt=>(iM ("str") _ (typeIs_str _ _ _) F.slot_str_getitem.lookup)|none=>rw[o]at q;refine ifs q λc Z=>?_;rw[Mw c]at r;replace r:_=_:=r;subst r;exact gw O.Dh λC m u Z=>(iM ("dict") _ ⟨_,d.eJ _ _ (O.X _ _ u),rfl⟩ F.slot_dict_getitem.lookup)
theorem W9(z:dR d=aj)(x:SE G cl n sl sc a h)(y:SE G cl n sl sc k d):SE G cl n sl sc (.Y a k) (.Subscript h d pos):=λA env F φ μ s Q E e i f b=>by refine Subscript_ (x A env F φ μ s _ E e i f (aY.bh b λv J M s₁ w l g r b=>?_));refine y A env F M J s₁ _ E e i (f.aH l g) (aY.bh b λD L Y R W m c C b=>?_);induction q:dy L v D with|none=>rw[q]at b;exact b.elim|some u=>rw[q]at b;have j:=aA.aH g m dX r;refine gw (Ra O c j q) λT N o p=>?_;exact tail_any o p (Nc O c e.units j C q λU t B=>aY.lQ c B b) (SY z _ _)
end
end
section
variable{G:bp}{cl:Fn->List V->H->aB V}{n:Nat}{sl:Sl}{sc:List (aD×cK)}
section
variable{φ:List am}{s:az}{L:Option am}{E:aq->az->Prop}
theorem aY.vv{A:bq}(a:fc G L φ s (r.bind tb) Q E)(d:M=aU G.aE G.w):aY G L φ s r (λw s₁=>aJ M A (Gx w) Q E s₁) E:=by subst d;exact aY.nB a λv e g s₁ w f c r a=>by unfold tb at a;induction q:truthy e v with|none=>rw[q]at a;exact a.elim|some b=>rw[q]at a;exact BP c r q λk=>fc.ok c a
end
noncomputable def E2(e:aO):Bool:=by cases e with|UnaryOp o _ _=>exact !aZ (o=.Not)|BoolOp=>exact au|IfExp=>exact au|Compare=>exact au|_=>exact aj
set_option tactic.hygienic true in theorem Mh(b:E2 e=aj)(h:SE G cl n sl sc c e):ST G cl n sl sc c e:=λA env F φ μ s Q E f g d a=>by unfold jh at a;refine isTrue_plain (h A env F φ μ s _ E f g d (aY.vv a rfl)) ?_;(cases e<;>first|rfl|injection b;done|skip);rename_i op x pos;induction op<;>first|rfl|injection b
theorem RZ(i:ST G cl n sl sc a d):ST G cl n sl sc (.bZ a) (.UnaryOp .Not d pos):=λA env F φ μ s Q E g j e c=>by unfold jh at c;rw[Yh]at c;refine isTrue_not (i A env F φ μ s _ E g j e ?_);unfold jh;rw[aB.lN]at c;(have k:(λx h=>((tb x h).bind λb h=>aB.ok (V.bool (!b)) h).bind tb)=λx h=>(tb x h).bind λb h=>aB.ok (!b) h:=by funext x h;unfold tb;cases truthy h x<;>rfl);rw[k,<-aB.lN]at c;exact fc.nB c λv o l s₁ m f c=>c l s₁ (.b8 _ _ _) f
theorem Xf(r:ST G cl n sl sc c l)(p:SE G cl n sl sc a j)(q:SE G cl n sl sc b k):SE G cl n sl sc (.gV c a b) (.IfExp l j k pos):=λA env F φ μ s Q E f g e d=>by rw[Y4]at d;refine wpAny_IfExp (r A env F φ μ s _ E f g e ?_);unfold jh;rw[<-aB.lN]at d;refine fc.bh d λt m o s₁ i h d=>?_;induction t with|true=>exact p A env F o m s₁ Q E f g (e.aH i h) d|false=>exact q A env F o m s₁ Q E f g (e.aH i h) d
noncomputable def wQ(a:Bool):PySem.BoolOp:=if a then .And else .Or
noncomputable def wE(a:Bool)(G:bp)(cl:Fn->List V->H->aB V)(n:Nat)(sl:Sl)(sc:List (aD×cK))(cs:List CE)(b:List aO):Prop:=∀(A:bq)(env:bP)(F:List V)(φ:List am)(μ:H)(s:az)(pos:be)(Q:aq->az->Prop)(E:aq->az->Prop),jf A n->env.scope.names=sc->dQ G A env sl F φ μ s->aY G env.frame φ s (lx cl a cs F μ) Q E->aJ (aU G.aE G.w) A (gn (.BoolOp (wQ a) b pos) env) Q E s
noncomputable def w9(a:Bool)(G:bp)(cl:Fn->List V->H->aB V)(n:Nat)(sl:Sl)(sc:List (aD×cK))(cs:List CE)(b:List aO):Prop:=∀(A:bq)(env:bP)(F:List V)(φ:List am)(μ:H)(s:az)(pos:be)(c:Sem aq)(Q:Bool->az->Prop)(E:aq->az->Prop),jf A n->env.scope.names=sc->dQ G A env sl F φ μ s->fc G env.frame φ s ((lx cl a cs F μ).bind tb) Q E->aJ (aU G.aE G.w) A (isTrue (.BoolOp (wQ a) b pos) env c) Q E s
theorem WR(h:SE G cl n sl sc c e):wE g G cl n sl sc [c] [e]:=λA env F φ μ s pos Q E d f b a=>by rw[GM]at a;refine BoolOp_one (h A env F φ μ s _ E d f b ?_);induction q:ax cl c F μ with|ok v i=>rw[q]at a;exact a|ex x i=>rw[q]at a;exact a|aM=>rw[q]at a;exact a
theorem Ux(h:SE G cl n sl sc c e)(x:wE t G cl n sl sc (d::cs) (f::u)):wE t G cl n sl sc (c::d::cs) (e::f::u):=λA env F φ μ s pos Q E o p m a=>by induction t with|true=>refine BoolOp_and (h A env F φ μ s _ E o p m (aY.bh a λv l i s₁ w aH g r a=>?_));simp only[tb]at a;(induction q:truthy l v with|none=>rw[q]at a;exact a.elim|some b=>rw[q]at a;refine BP g r q λk=>?_;have j:c7 G i s₁ i {s₁ with toks:=k}:=⟨(bC ([]) (by simp) (by simp)),.b8 _ _,rfl⟩;(induction b with|true=>exact x A env F i l _ pos Q E o p ((m.aH aH g).aH j g) (aY.aH j a)|false=>exact aY.lQ g r a))|false=>refine BoolOp_or (h A env F φ μ s _ E o p m (aY.bh a λv l i s₁ w aH g r a=>?_));simp only[tb]at a;induction q:truthy l v with|none=>rw[q]at a;exact a.elim|some b=>rw[q]at a;refine BP g r q λk=>?_;have j:c7 G i s₁ i {s₁ with toks:=k}:=⟨(bC ([]) (by simp) (by simp)),.b8 _ _,rfl⟩;induction b with|false=>exact x A env F i l _ pos Q E o p ((m.aH aH g).aH j g) (aY.aH j a)|true=>exact aY.lQ g r a
theorem RI(h:ST G cl n sl sc c e):w9 l G cl n sl sc [c] [e]:=λA env F φ μ s pos u Q E i j g a=>by rw[GM]at a;(replace a:fc G env.frame φ s (jh cl c F μ) Q E:=by unfold jh;induction q:ax cl c F μ with|ok v o=>rw[q]at a;exact a|ex x o=>rw[q]at a;exact a|aM=>rw[q]at a;exact a);(have k:∀r:aB Bool,r.bind (λb h=>.ok b h)=r:=by intro r;induction r<;>rfl);induction l with|true=>refine isTrue_and (h A env F φ μ s _ E i j g ?_);rw[<-k (jh cl c F μ)]at a;refine fc.nB a λt p f s₁ m d a=>?_;(induction t with|true=>exact isTrue_and_nil (a f s₁ (.b8 _ _ _) d)|false=>exact a f s₁ (.b8 _ _ _) d)|false=>refine isTrue_or (h A env F φ μ s _ E i j g ?_);rw[<-k (jh cl c F μ)]at a;refine fc.nB a λt p f s₁ m d a=>?_;induction t with|true=>exact a f s₁ (.b8 _ _ _) d|false=>exact isTrue_or_nil (a f s₁ (.b8 _ _ _) d)
theorem P4(h:ST G cl n sl sc c e)(r:w9 a G cl n sl sc (d::cs) p):w9 a G cl n sl sc (c::d::cs) (e::p):=λA env F φ μ s pos u Q E j k i b=>by(have v:(lx cl a (c::d::cs) F μ).bind tb=(jh cl c F μ).bind λt h=>if t==a then(lx cl a (d::cs) F h).bind tb else .ok t h:=by rw[VP];unfold jh;rw[aB.lN,aB.lN];congr 1;funext x h;simp only[aB.lN];induction q:truthy h x with|none=>simp only[tb,q];rfl|some t=>(have o:tb x h=.ok t h:=by simp only[tb,q]);rw[o];show aB.bind (if(t==a)=aj then _ else _) tb=_;by_cases e:(t==a)=aj;(·rw[if_pos e];show _=if(t==a)=aj then _ else _;rw[if_pos e]);·rw[if_neg e];show _=if(t==a)=aj then _ else _;rw[if_neg e];exact o);rw[v]at b;induction a with|true=>refine isTrue_and (h A env F φ μ s _ E j k i (fc.nB b λt m g s₁ l f b=>?_));(induction t with|true=>exact r A env F g m s₁ pos u Q E j k (i.aH l f) b|false=>exact b g s₁ (.b8 _ _ _) f)|false=>refine isTrue_or (h A env F φ μ s _ E j k i (fc.nB b λt m g s₁ l f b=>?_));induction t with|false=>exact r A env F g m s₁ pos u Q E j k (i.aH l f) b|true=>exact b g s₁ (.b8 _ _ _) f
theorem Rn(h:wE a G cl n sl sc cs b):SE G cl n sl sc (.bo a cs) (.BoolOp (wQ a) b pos):=λA env F φ μ s Q E e f c d=>by exact h A env F φ μ s pos Q E e f c d
theorem Zl(h:w9 a G cl n sl sc cs b):ST G cl n sl sc (.bo a cs) (.BoolOp (wQ a) b pos):=λA env F φ μ s Q E e f d c=>by unfold jh at c;exact h A env F φ μ s pos _ Q E e f d c
section
variable(OK:cL G)
include OK
theorem aam(Z:dR f=aj)(U:SE G cl n sl sc a M)(W:SE G cl n sl sc b u)(Y:SE G cl n sl sc c f):ST G cl n sl sc (.mX j e a b c) (.Compare M [j.py,e.py] [u,f] pos):=λA env F φ μ s Q E i x o d=>by unfold jh at d;rw[XB]at d;rw[aB.lN]at d;(have hm:lastMarks [j.py,e.py] [u,f]=au:=by show Os e.py f=au;cases f<;>first|rfl|injection Z);refine isTrue_chain (U A env F φ μ s _ E i x o (aY.nB d λv μ₁ φ₁ s₁ w aH p r d=>?_)) hm;rw[aB.lN]at d;refine test_link (W A env F φ₁ μ₁ s₁ _ E i x (o.aH aH p) (aY.nB d λB C m l w2 L g N d=>?_));induction q:dE j C v B with|none=>rw[q]at d;exact d.elim|some t=>rw[q]at d;refine AC OK g i.units j (aA.aH p L dX r) N q λk=>Gy ?_;have J:c7 G m l m {l with toks:=k}:=⟨(bC ([]) (by simp) (by simp)),.b8 _ _,rfl⟩;induction t with|false=>exact fc.ok g d|true=>replace d:fc G env.frame m l (((ax cl c F C).bind λz h=>s9 (dE e h B z) h).bind tb) Q E:=d;rw[aB.lN]at d;refine test_last (Y A env F m C _ _ E i x (((o.aH aH p).aH L g).aH J g) (aY.nB (fc.aH J d) λv3 μ₃ φ₃ s₃ w3 R D r3 d=>?_));induction y:dE e μ₃ B v3 with|none=>rw[y]at d;exact d.elim|some t2=>rw[y]at d;exact AC OK D i.units e (aA.aH (s:={l with toks:=k}) g R dX N) r3 y λk=>Gy (fc.ok D d)
theorem aY.push{φ:List am}{μ:H}{s:az}{L:Option am}{Q:aq->az->Prop}{E:aq->az->Prop}(a:aK G φ μ s.heap){b:cE}{ho:b.isFreed=au}{o:O}{tk:Nat}(r:cX s.heap (s.heap.push b)->(s.heap.push b).get? s.heap.objs.size=aa b->kB G (φ++[s.heap.objs.size]) (s.heap.push b) φ.length s.heap.objs.size o)(f:aY G L φ s (.ok (.ref μ.length) (μ++[o])) Q E):Q (.ref s.heap.objs.size) {s with heap:=s.heap.push b,toks:=tk}:=by
 have d:s.heap.get? s.heap.objs.size=ah:=lH (cF _);have c:cR G [] s.heap (s.heap.push b):=.push _ _ _;have k:=c.fR a (by simp);have i:G.h₀.get? s.heap.objs.size=ah:=by induction q:G.h₀.get? s.heap.objs.size with|none=>rfl|some o'=>have:=a.eJ _ _ q;rw[d]at this;injection this
 have h:s.heap.objs.size≠G.P:=λq=>by refine oE a.nw λps e=>?_;rw[<-q,d]at e;injection e
 have g:s.heap.objs.size≠G.Lb:=λq=>by refine xm a.lb λm o' z z e z=>?_;rw[<-q,d]at e;injection e
 have j:s.heap.objs.size∉φ:=λq=>by refine ay (a.own q) λl e z=>?_;rw[d]at e;injection e
 refine f (φ++[s.heap.objs.size]) _ _ (c.aH a (by simp) [s.heap.objs.size] (by simpa using d)) ((a.jF OK.lb c).new j i h g (r k (kO _ ho))) ?_;exact(bC _ (by rw[<-a.bN];simp) rfl)
theorem TK{cs:List CE}{c:List aO}{pos:be}(t:cs.length<=1000)(h:oU G cl n sl sc cs c):SE G cl n sl sc (.aW cs) (.List c pos):=λA env F φ μ s Q E l p d a=>by rw[WJ]at a;have m:∀vs b,cY cl cs F μ=.ok vs b->vs.length=cs.length:=λvs b e=>CR e;refine wpAny_List (h A env F φ μ s pos _ E l p d ?_);induction q:cY cl cs F μ with|ok vs b=>rw[q]at a;intro u s₁ ws i f r;have j:=m vs b q;refine⟨by rw[r.length,j];unfold hU;exact di (by assumption) (cJ (by rfl)),?_⟩;exact aY.push OK (tk:=s₁.toks) f (ho:=rfl) (o:=.list vs) (λk g=>⟨ws,0,g,r.B vA k⟩) (aY.aH i a)|ex x b=>rw[q]at a;exact a|aM=>rw[q]at a;exact a.elim
theorem Yd(u:cs.length<=1000)(h:oU G cl n sl sc cs f):SE G cl n sl sc (.Z cs) (.Tuple f x pos):=λA env F φ μ s Q E m p g a=>by rw[abc]at a;have o:∀vs b,cY cl cs F μ=.ok vs b->vs.length=cs.length:=λvs b e=>CR e;refine wpAny_Tuple (h A env F φ μ s pos _ E m p g ?_);induction q:cY cl cs F μ with|ok vs b=>rw[q]at a;intro t s₁ ws j d r;have l:=o vs b q;refine⟨by rw[r.length,l];unfold hU;exact di (by assumption) (cJ (by rfl)),?_⟩;have c:cR G [] s₁.heap (s₁.heap.push {cls:=.type "tuple",data:=.seq ws.toArray}):=.push _ _ _;have k:=c.fR d (by simp);have i:=c.pp (tk:=s₁.toks) d;refine aY.aH j a t _ _ i (d.jF OK.lb c) ?_;exact(gv _ ws rfl (kO _ rfl) (r.B (λZ Z z=>z) k))|ex x b=>rw[q]at a;exact a|aM=>rw[q]at a;exact a.elim
end
end
theorem aC.Yj:(aC.all.all λx=>x.head.all λz=>if((B3 x.str ah (aa (1,0)) ah).length==x.str.length)then x.str==z.str else((⟨((B3 x.str ah (aa (1,0)) ah).filterMap (x.str.cps[·]?)).toArray⟩:aD)==z.str))=aj:=by decide+kernel
theorem aC.Hp:(aC.all.all λx=>x.bN.all (λk=>x.str.length==k)&&aZ (x.str.length<=100))=aj:=by decide+kernel
theorem WW{b:Type}(vs:List b)(j k:Nat):(vs.drop (min j vs.length)).take (min k vs.length-min j vs.length)=(vs.take k).drop j:=by
 rw[List.drop_take];rcases Nat.le_total j vs.length with q|q;·rw[abL q];rcases Nat.le_total k vs.length with a|a;(·rw[abL a]);·rw[abM a,yy (by rw[Ou];exact cF _),yy (by rw[Ou];exact Nat.sub_le_sub_right (by assumption) _)]
 ·rw[abM q,abN (cF _),abN q];simp
section
variable{G:bp}{cl:Fn->List V->H->aB V}{n:Nat}{sl:Sl}{sc:List (aD×cK)}
variable(OK:cL G)
include OK
section
variable{φ:List am}{μ:H}{s:az}{L:Option am}{A:bq}{Q:aq->az->Prop}{E:aq->az->Prop}
noncomputable def ki(s:az)(lo hi:aq):az:={s with heap:=s.heap.push {cls:=.type "slice",data:=.fields #[lo,hi,.none]}}
theorem Fz{lo hi:aq}(a:aK G φ μ s.heap){P:Prop}(k:aK G φ μ (ki s lo hi).heap->cX s.heap (ki s lo hi).heap->(∀{r:aB V},aY G L φ s r Q E->aY G L φ (ki s lo hi) r Q E)->(ki s lo hi).heap.get? s.heap.objs.size=aa {cls:=.type "slice",data:=.fields #[lo,hi,.none]}->P):P:=by have c:cR G [] s.heap (ki s lo hi).heap:=.push _ _ _;have b:=c.pp (tk:=s.toks) a;exact k (a.jF OK.lb c) (c.fR a (by simp)) (aY.aH b) (kO _ rfl)
variable{value elo ehi:aO}{p:be}
theorem Vq{x z:aC}{t u:kF}(e:aK G φ μ s.heap)(q:x.head=aa z)(f:aY G L φ s (.ok (.str z) μ) Q E):aJ (aU G.aE G.w) A (sW value (.Slice ah (aa ehi) ah p) (.str x.str t) (.ref s.heap.objs.size)) Q E (ki s .none (.int 1 u)):=by
 refine Fz OK (L:=L) (Q:=Q) (E:=E) (lo:=.none) (hi:=.int 1 u) e λc Z i h=>?_;have d:=i f;have a:=fN.mp aC.Yj x (aC.jL x);rw[q,Oo]at a;have g:B3 x.str ah (aa (1,u)) ah=B3 x.str ah (aa (1,0)) ah:=rfl;refine tail_any (T:="str") (ops:=[.ref s.heap.objs.size,.str x.str t]) (typeIs_str _ _ _) F.slot_str_getitem.lookup (wpAny_getItem_str_slice (l:=ah) (u:=aa (1,u)) (st:=ah) ⟨_,h,rfl,rfl⟩ (by decide) ?_) rfl;unfold sliceMade;rw[g];by_cases b:((B3 x.str ah (aa (1,0)) ah).length==x.str.length)=aj;·rw[if_pos b]at a;rw[if_pos (by rw[b];rfl)];exact aY.ok c (cr a▸aA.xL) d
 ·rw[if_neg b]at a;rw[if_neg (by rw[BX.mpr b];simp),cr a];refine⟨?_,aY.lQ c .xL d⟩;have:=fN.mp aC.Hp z (aC.jL z);rw[cI,decide_eq_true_eq]at this;have:=this.2;unfold hU;exact di (by assumption) (cJ (by rfl))
theorem UY{x:V}{h:aq}{k:Int}{u:kF}{l:List V}(i:aK G φ μ s.heap)(r:aA G φ s.heap x h)(q:qz μ x=aa l)(b:(aZ (0<=k)&&aZ (k<2^60)&&aZ (l.length<cM))=aj)(n:aY G L φ s (.ok (.ref μ.length) (μ++[.list (l.take k.toNat)])) Q E):aJ (aU G.aE G.w) A (sW value (.Slice ah (aa ehi) ah p) h (.ref s.heap.objs.size)) Q E (ki s .none (.int k u)):=by
 refine Fz OK (L:=L) (Q:=Q) (E:=E) (lo:=.none) (hi:=.int k u) i λc w y t=>?_;rw[cI,cI,decide_eq_true_eq,decide_eq_true_eq,decide_eq_true_eq]at b;refine cG (BF c (aA.B (λZ Z z=>z) w r) q) λa vs j d f=>?_;rw[j];have m:=b.2;unfold cM at m;refine tail_any (T:="list") (ops:=[.ref s.heap.objs.size,.ref a]) d.typeIs Ot.lookup (abO (lo:=ah) (hi:=aa k) (st:=ah) d ⟨_,t,rfl,rfl⟩ .none (.int k u) .none (by simp) ?_ (by rw[jd,f.length];unfold hU;exact hG (bD (by assumption) (by rfl)))) rfl;have e:slicePick vs.toArray ah (aa k) ah=(vs.take k.toNat).toArray:=by have:=slicePick_upto' vs.toArray k.toNat;rw[abz b.1.1]at this;simpa using this
 rw[e];exact aY.push OK (s:=ki s .none (.int k u)) (tk:=s.toks) c (ho:=rfl) (o:=.list (l.take k.toNat)) (λv g=>⟨_,0,g,(f.take _).B vA v⟩) (y n)
theorem Pq(f:aK G φ μ s.heap)(g:aA G φ s.heap x c)(h:aA G φ s.heap k b)(a:aY G L φ s (rK x k μ) Q E):aJ (aU G.aE G.w) A (sW value (.Slice ah (aa ehi) ah p) c (.ref s.heap.objs.size)) Q E (ki s .none b):=by unfold rK at a;induction e:iy x with|some z=>rw[e]at a;refine a.ob λj d a=>a.gd λn a=>a.ob λt i a=>?_;refine aA.aI (P:=λb=>aJ (aU G.aE G.w) A (sW value (.Slice ah (aa ehi) ah p) c (.ref s.heap.objs.size)) Q E (ki s .none b)) d h λu=>?_;rw[cr n];exact aA.aS (P:=λc=>aJ (aU G.aE G.w) A (sW value (.Slice ah (aa ehi) ah p) c (.ref s.heap.objs.size)) Q E (ki s .none (.int 1 u))) e g λt=>Vq OK f i a|none=>rw[e]at a;refine a.ob λj d a=>a.ob λl o a=>a.gd λm a=>?_;exact aA.aI (P:=λb=>aJ (aU G.aE G.w) A (sW value (.Slice ah (aa ehi) ah p) c (.ref s.heap.objs.size)) Q E (ki s .none b)) d h λu=>UY OK f g o m a
omit OK in theorem M4(hi:0<=i):clipAt n i=min i.toNat n:=by
 unfold clipAt;rw[if_neg (N6.mpr hi),Int.max_eq_right (Int.le_min.mpr ⟨hi,g9 n⟩),Nat.min_def,Int.min_def];split;·rw[if_pos (Int.toNat_le.mpr ‹_›)]
 ·rw[if_neg λh=>‹¬_› (Int.toNat_le.mp h)];rfl
omit OK in theorem aas{vs:List aq}{j k:Int}(a:0<=j)(b:0<=k):slicePick vs.toArray (aa j) (aa k) ah=((vs.take k.toNat).drop j.toNat).toArray:=by rw[slicePick_plain];simp only[Option.elim_some,jd,M4 a,M4 b];congr 1;exact WW vs j.toNat k.toNat
theorem Yt{x j k:V}{c e h:aq}(r:aK G φ μ s.heap)(J:aA G φ s.heap x c)(N:aA G φ s.heap j e)(M:aA G φ s.heap k h)(b:aY G L φ s (wJ x j k μ) Q E):aJ (aU G.aE G.w) A (sW value (.Slice (aa elo) (aa ehi) ah p) c (.ref s.heap.objs.size)) Q E (ki s e h):=by refine aY.ob b λi v b=>Cu (P:=λe h=>aJ (aU G.aE G.w) A (sW value (.Slice (aa elo) (aa ehi) ah p) c (.ref s.heap.objs.size)) Q E (ki s e h)) N M b λj k t u b=>b.ob λl y b=>b.gd λd b=>?_;refine Fz OK (L:=L) (Q:=Q) (E:=E) (lo:=.int j t) (hi:=.int k u) r λn U R z=>?_;rw[cI,cI,cI,cI,decide_eq_true_eq,decide_eq_true_eq,decide_eq_true_eq,decide_eq_true_eq,decide_eq_true_eq]at d;refine aA.aR (P:=λc=>aJ (aU G.aE G.w) A (sW value (.Slice (aa elo) (aa ehi) ah p) c (.ref s.heap.objs.size)) Q E (ki s (.int j t) (.int k u))) v J λa f=>qJ n f y λvs m D B q=>?_;have w:=d.2;unfold cM at w;refine tail_any (T:="list") (ops:=[.ref s.heap.objs.size,.ref a]) ⟨_,D,rfl⟩ Ot.lookup (abO (lo:=aa j) (hi:=aa k) (st:=ah) B ⟨_,z,rfl,rfl⟩ (.int j t) (.int k u) .none (by simp) ?_ (by rw[jd,q.length];unfold hU;exact hG (bD (by assumption) (by rfl)))) rfl;rw[aas d.1.1.1.1 d.1.1.2];exact aY.push OK (s:=ki s (.int j t) (.int k u)) (tk:=s.toks) n (ho:=rfl) (o:=.list ((l.take k.toNat).drop j.toNat)) (λC g=>⟨_,0,g,((q.take _).drop _).B vA C⟩) (R b)
end
theorem T6(k:SE G cl n sl sc a e)(l:SE G cl n sl sc hi ehi):SE G cl n sl sc (.lh a hi) (.Subscript e (.Slice ah (aa ehi) ah p) pos):=λA env F φ μ s Q E f g c b=>by refine Subscript_ (k A env F φ μ s _ E f g c (aY.bh b λv o q s₁ w i d r b=>?_));refine wpAny_Slice (Ov (Ow ?_));refine l A env F q o s₁ _ E f g (c.aH i d) (aY.bh b λu y z t x j h m b=>?_);exact Ov (Pq OK h (aA.aH d j dX r) m b)
theorem PI{a lo hi:CE}{j elo ehi:aO}{p pos:be}(l:SE G cl n sl sc a j)(o:SE G cl n sl sc lo elo)(m:SE G cl n sl sc hi ehi):SE G cl n sl sc (.oY a lo hi) (.Subscript j (.Slice (aa elo) (aa ehi) ah p) pos):=λA env F φ μ s Q E f g c b=>by refine Subscript_ (l A env F φ μ s _ E f g c (aY.bh b λv x z s₁ w aH d r b=>?_));refine wpAny_Slice (Ow ?_);refine o A env F z x s₁ _ E f g (c.aH aH d) (aY.bh b λD y B u L h e q b=>?_);refine Ow ?_;refine m A env F B y u _ E f g ((c.aH aH d).aH h e) (aY.bh b λJ N R C M i k t b=>?_);exact Ov (Yt OK k (aA.aH e i dX (aA.aH d h dX r)) (aA.aH e i dX q) t b)
end
section
variable{G:bp}(OK:cL G)
include OK
section
variable{φ:List am}{μ:H}{s:az}{L:Option am}{A:bq}{Q:aq->az->Prop}{E:aq->az->Prop}
noncomputable def Bi.fn:Bi->aq|.dL=>.builtin "len"|.qp=>.type "list"|.nh=>.type "tuple"|.qL=>.builtin "abs"|.iV=>.builtin "isinstance"
noncomputable def Bi.oM:Bi->List aq|.iV=>[.type "tuple"]|_=>[]
omit OK in theorem bv.mJ(r:bv G φ h [v] ws):∃w,ws=[w]/\aA G φ h v w:=by refine cG r.kS ?_;rintro w c rfl a b;exact(bC w (by rw[b.nt]) a)
theorem Vx(h:Q (.bool au) {s with toks:=s.toks+1}):aJ (aU G.aE G.w) A (fX (.builtin "isinstance") [.none,.type "tuple"]) Q E s:=call_isinstance (isinstance_false_none (by decide+kernel) F.isi_meta_tuple F.sub_NoneType_tuple) h
theorem WO(d:aK G φ μ s.heap)(r:aA G φ s.heap v w)(b:aY G L φ s (Dx v μ) Q E):aJ (aU G.aE G.w) A (fX (.builtin "len") [w]) Q E s:=by unfold Dx at b;induction h:iy v with|some x=>rw[h]at b;refine b.ob λk q b=>aA.aS (P:=λw=>aJ (aU G.aE G.w) A (fX (.builtin "len") [w]) Q E s) h r λt=>?_;have j:=fN.mp aC.Hp x (aC.jL x);rw[q,Oo,cI,decide_eq_true_eq,beq_iff_eq]at j;refine PyProof.Rows.len_str (by lia) ?_;rw[j.1];exact b.int d|none=>rw[h]at b;induction i:jx v with|some x=>rw[i]at b;refine b.gd λc b=>aA.aT (P:=λw=>aJ (aU G.aE G.w) A (fX (.builtin "len") [w]) Q E s) i r λa vs g r=>?_;have c:=of_decide_eq_true c;unfold cM at c;refine PyProof.Rows.len_tuple (items:=vs.toArray) ⟨_,g,rfl,_,rfl⟩ (by rw[jd,r.length];exact eM.mpr (bD (by assumption) (by rfl))) ?_;rw[jd,r.length];exact b.int d|none=>rw[i]at b;refine b.ob λl c b=>b.gd λf b=>cG (BF d r c) λa vs e n m=>?_;have f:=of_decide_eq_true f;unfold cM at f;rw[e];refine call_len_list n (by rw[jd,m.length];exact eM.mpr (bD (by assumption) (by rfl))) ?_;rw[jd,m.length];exact b.int d
theorem Py(d:aK G φ μ s.heap)(f:φ[i]?=aa a)(b:aY G L φ s (ob (aG μ i) λl=>gd (aZ (l.length<cM)) (.ok (.ref μ.length) (μ++[.list l]))) Q E):aJ (aU G.aE G.w) A (fX (.type "list") [.ref a]) Q E s:=by refine b.ob λl q b=>b.gd λe b=>qJ d f q λvs m g r j=>?_;have e:=of_decide_eq_true e;unfold cM at e;refine oE (d.fr OK.Lb) λm' F=>?_;refine list_copyK (items:=vs.toArray) F (ot s.heap) r (λD c h' n h p=>?_) (by rw[jd,j.length];unfold hU;exact hG (bD (by assumption) (by rfl)));exact aY.new (o:=.list l) d OK.lb F n h (G3 h p) (λg c k=>⟨_,_,g,j.up k⟩) b
theorem Ul(b:aK G φ μ s.heap)(f:φ[i]?=aa a)(d:aY G L φ s (ob (aG μ i) λl=>gd (aZ (l.length<cM)) (.ok (.Z l) μ)) Q E):aJ (aU G.aE G.w) A (fX (.type "tuple") [.ref a]) Q E s:=by refine d.ob λl o d=>d.gd λe d=>qJ b f o λvs m g r j=>?_;have e:=of_decide_eq_true e;unfold cM at e;refine oE (b.fr OK.Lb) λm' F=>?_;refine kde_tupleOf (items:=vs.toArray) (zs:=vs) F (ot s.heap) r (by rw[jd,j.length];exact hG (bD (by assumption) (by rfl))) rfl λD h' k h t=>?_;have c:cR G [] s.heap h':=.yq F k h (λp q Z=>iR _ q) (by simp);have n:=c.pp (tk:=s.toks) b;refine d φ _ _ n (b.jF OK.lb c) ?_;exact(gv D vs rfl ((h _ (je ..)).1) (j.B (λZ Z z=>z) (c.fR b (by simp))))
theorem Wu(c:aK G φ μ s.heap)(r:aA G φ s.heap v w)(e:Jl v=aa b)(d:aY G L φ s (.ok (.bool b) μ) Q E):aJ (aU G.aE G.w) A (fX (.builtin "isinstance") [w,.type "tuple"]) Q E s:=by have bool:∀{t:Nat},Q (.bool b) {s with toks:=t}:=aY.lQ c .yd d;induction v using V.casesOn with|Z l=>cases bU e;exact aA.t (P:=λw=>aJ (aU G.aE G.w) A (fX (.builtin "isinstance") [w,.type "tuple"]) Q E s) r λa vs g z=>IsiPair.tuple_tuple g rfl (bool (t:=s.toks))|none=>cases bU e;replace r:_=_:=r;subst r;exact Vx OK bool|int i=>cases bU e;exact aA.i (P:=λw=>aJ (aU G.aE G.w) A (fX (.builtin "isinstance") [w,.type "tuple"]) Q E s) r λt=>IsiPair.int_tuple bool|bool i=>cases bU e;replace r:_=_:=r;subst r;exact IsiPair.bool_tuple bool|_=>injection e
theorem JY(k:A.handled=ah)(b:Bi)(d:aK G φ μ s.heap)(r:bv G φ s.heap l ws)(c:aY G L φ s (lu b l μ) Q E):aJ (aU G.aE G.w) A (fX b.fn (ws++b.oM)) Q E s:=by refine c.ob λv h c=>?_;rw[D9 h]at r;refine ay r.mJ λw j r=>?_;rw[j];induction b with|dL=>exact WO OK d r c|qp=>exact c.ob λi e c=>aA.aR (P:=λw=>aJ (aU G.aE G.w) A (fX (.type "list") [w]) Q E s) e r λa f=>Py OK d f c|nh=>exact c.ob λi e c=>aA.aR (P:=λw=>aJ (aU G.aE G.w) A (fX (.type "tuple") [w]) Q E s) e r λa f=>Ul OK d f c|qL=>exact c.ob λi e c=>aA.aI (P:=λw=>aJ (aU G.aE G.w) A (fX (.builtin "abs") [w]) Q E s) e r λt=>call_abs_int λu tk=>c.int d|iV=>exact c.ob λt g c=>Wu OK d r g c
end
end
section
variable{G:bp}(OK:cL G)
include OK
section
variable{φ:List am}{μ:H}{s:az}{L:Option am}{A:bq}{Q:aq->az->Prop}{E:aq->az->Prop}
noncomputable def Mt.cM:Mt->String|.fF=>"list.append"|.nk=>"list.extend"|_=>"list.pop"
noncomputable def Mt.xI:Mt->String|.gY=>"dict.get"|_=>"dict.pop"
omit OK in theorem MR:∀(p:List aq)(y:aq),kl_last (p++[y])=aa (p,y)|[],y=>rfl|x::p,y=>by show(match kl_last (p++[y])with|aa (p,y)=>aa (x::p,y)|ah=>aa ([],x))=_;rw[MR p y]
omit OK in theorem bv.split:∀{x y:List V}{ws:List aq},bv G φ h (x++y) ws->∃e vs,ws=e++vs/\bv G φ h x e/\bv G φ h y vs|[],y,ws,r=>(gv ([]) ws rfl .nil r)|v::x,y,_,r=>by refine cG r.kS ?_;rintro w f rfl a b;refine cG b.split ?_;rintro e vs rfl c d;exact(gv (w::e) vs rfl (.cons a c) d)
theorem zW(b:aK G φ μ s.heap)(F:Fr G.h₀ G.Lb s.heap m)(d:Fr G.h₀ G.Lb h' m)(f:φ[i]?=aa a)(g:s.heap.get? a=aa q)(e:News G.h₀ G.Lb h' (xV G s.heap a (rq ws.toArray n)))(r:bv G φ s.heap l ws)(t:aA G φ s.heap v w)(o:aY G L φ s (.ok v (μ.set i (.list l))) Q E):Q w {s with heap:=h'}:=by refine oA (cR.FP b F d (cW f) g e) λc k=>?_;refine oA (b.dK OK f c (o':=.list l) (λp=>⟨ws,n,k,r.B (λZ Z z=>z) p⟩) s.toks) λh j=>?_;exact o φ _ w h j (t.B (λZ Z z=>z) (c.fR b (b.Dt (cW f))))
section
variable{i:Nat}{a:am}{x l:List V}{ws:List aq}{m':aD->Option aq}{vs:List aq}{n:Nat}
theorem QA(b:aK G φ μ s.heap)(f:φ[i]?=aa a)(e:s.heap.get? a=aa (rq (lG vs) n))(g:bv G φ s.heap x vs)(l:aA G φ s.heap v w)(c:aY G L φ s (gd (aZ (x.length<cM)) (.ok .none (μ.set i (.list (x++[v]))))) Q E):aJ (aU G.aE G.w) A (fX (.builtin "list.append") [.ref a,w]) Q E s:=by refine c.gd λd c=>oE (b.fr OK.Lb) λm' F=>?_;have d:=of_decide_eq_true d;have k:=g.length;unfold cM at d;refine append_K F (ot s.heap) (b.u4 (cW f) e) (λh' h j=>?_) (by rw[jd,k];unfold hU;exact hG (bD (by assumption) (by rfl)));exact zW OK (ws:=vs++[w]) (n:=n+1) b F h f e (by simpa using j) (g.xP (.cons l .nil)) .tZ c
theorem VQ(c:aK G φ μ s.heap)(f:φ[i]?=aa a)(g:s.heap.get? a=aa (rq (lG vs) n))(p:bv G φ s.heap x vs)(Y:aA G φ s.heap v w)(d:aY G L φ s (ob (gJ v) λj=>ob (aG μ j) λy=>gd (aZ (x.length+y.length<cM)&&i !=j) (.ok .none (μ.set i (.list (x++y))))) Q E):aJ (aU G.aE G.w) A (fX (.builtin "list.extend") [.ref a,w]) Q E s:=by
 refine d.ob λj N d=>d.ob λy U d=>d.gd λz d=>aA.aR (P:=λw=>aJ (aU G.aE G.w) A (fX (.builtin "list.extend") [.ref a,w]) Q E s) N Y λb r=>oE (c.fr OK.Lb) λm' F=>?_;rw[cI,decide_eq_true_eq]at z;have R:=z.1;unfold cM at R;refine gw (qC c r U) λh Z D J=>?_;have t:=cW f;have u:=cW r;have e:=p.length;have o:=J.length;have B:¬(!vs.toArray.isEmpty&&GA (vs.toArray.size+h.toArray.size))=aj:=by rw[cI];rintro⟨_,q⟩;simp only[jd,e,o,GA,decide_eq_true_eq]at q;unfold hU at q;lia
 have M:vs.length<hU:=by rw[e];unfold hU;lia
 by_cases C:h=[];·subst C;have W:y=[]:=List.eq_nil_of_length_eq_zero o.symm;subst W;refine kxn_extend F (ot s.heap) (c.Ag u D) rfl (c.u4 t g) B (hG M) (by simp only[jd,e];unfold hU;simp;exact hG (bD (by assumption) (by rfl))) λh' k m=>?_;exact zW OK (ws:=vs) (n:=n) c F k f g m (by simpa using p) .tZ d
 ·refine kl_extend (l:=vs++h) F (ot s.heap) (c.Ag u D) rfl (by simpa using C) (c.u4 t g) B (hG M) (by simp only[jd,e,o];unfold hU;exact hG (bD (by assumption) (by rfl))) λh' k m=>?_;exact zW OK (ws:=vs++h) (n:=n+1) c F k f g m (p.xP J) .tZ d
theorem Qr(c:aK G φ μ s.heap)(f:φ[i]?=aa a)(k:s.heap.get? a=aa (rq (lG vs) n))(h:bv G φ s.heap x vs)(b:aY G L φ s (wG i x μ) Q E):aJ (aU G.aE G.w) A (fX (.builtin "list.pop") [.ref a]) Q E s:=by unfold wG at b;have q:=h.length;induction g:x.reverse with|nil=>rw[g]at b;exact b.elim|cons v z=>rw[g]at b;refine aY.gd b λd b=>oE (c.fr OK.Lb) λm' F=>?_;have d:=of_decide_eq_true d;unfold cM at d;(have r:x=z.reverse++[v]:=by rw[<-List.reverse_cons,<-g,abq]);rw[r]at h;refine cG h.split λj C e t u=>ay u.mJ λw o B=>?_;subst o;subst e;refine kl_pop (p:=j) (y:=w) F (ot s.heap) (MR j w) (c.u4 (cW f) k) (by rw[q];unfold hU;exact hG (bD (by assumption) (by rfl))) λh' l m=>?_;exact zW OK (ws:=j) (n:=n+1) c F l f k m t B b
theorem HJ(c:aK G φ μ s.heap)(f:φ[i]?=aa a)(p:aG μ i=aa x)(r:bv G φ s.heap l ws)(b:aY G L φ s (G5 m i x l μ) Q E):aJ (aU G.aE G.w) A (fX (.builtin m.cM) (.ref a::ws)) Q E s:=by
 refine gw (qC c f p) λvs n g h=>?_;have k:∀v,tj l=aa v->∃w,ws=[w]/\aA G φ s.heap v w:=λv e=>by rw[D9 e]at r;exact r.mJ
 induction m with|fF=>exact aY.ob b λv d b=>ay (k v d) λw e j=>e▸QA OK c f g h j b|nk=>exact aY.ob b λv d b=>ay (k v d) λw e j=>e▸VQ OK c f g h j b|jX=>refine aY.gd b λo b=>?_;rw[eQ.mp o]at r;rw[r.nt];exact Qr OK c f g h b|_=>exact b.elim
end
end
section
open Classical
variable{φ:List am}{μ:H}{s:az}{L:Option am}{A:bq}{Q:aq->az->Prop}{E:aq->az->Prop}
variable{i:Nat}{a:am}{x:List (V×V)}
omit OK in theorem Jn(i:aK G φ μ s.heap)(d:gH G φ s.heap a x)(u:aA G φ s.heap k l)(q:aA G φ s.heap e g)(f:aY G L φ s (zS x k e μ) Q E){P:Prop}(m:∀j,(oK G.aE G.w).is k l=aj->s.heap.MapOf (oK G.aE G.w) a j->(∀t,Q ((j k).getD g) {s with toks:=t})->P):P:=by refine aY.gd f λc f=>?_;have c:=kI.mp c;have n:=cr (show(io k==1)=aj from c.2);refine ay (d.xK c.1 n) λp y z=>m (valueAt p) (s7 n u) y.mapOf λt=>?_;exact z.pZ (kE c.1) (P:=λo b=>aY G L φ s (.ok (o.getD e) μ) Q E->Q (b.getD g) {s with toks:=t}) (λh=>aY.lQ i q h) (λv w r h=>aY.lQ i r h) f
theorem Zi(j:aK G φ μ s.heap)(f:φ[i]?=aa a)(d:gH G φ s.heap a x)(W:s.TypeIs (.ref a) "dict")(l:aA G φ s.heap k m)(g:aY G L φ s (gd (eZ x k&&tf k&&aZ (x.length<cM)) (ob (eH x k) λv=>.ok v (μ.set i (.dict (qo x k))))) Q E):aJ (aU G.aE G.w) A (fX (.builtin "dict.pop") [.ref a,m]) Q E s:=by
 refine aY.gd g λh g=>aY.ob g λv J g=>?_;rw[cI,cI,decide_eq_true_eq]at h;have D:=h.2;unfold cM at D;have n:=cr (show(io k==1)=aj from h.1.2);have t:=kE h.1.1;have r:=cW f;have N:(keyPart m).isSome=aj:=by induction k using V.casesOn with|int=>exact l.i (P:=λw=>(keyPart w).isSome=aj) λ_=>rfl|str=>exact l.str (P:=λw=>(keyPart w).isSome=aj) λ_=>rfl|_=>cases n
 refine ay (d.xK h.1.1 n) λu Y p=>p.pZ t (P:=λo b=>o=aa v->valueAt u k=b->_) (λe=>by injection e) (λZ w U e M=>?_) J rfl;injection e with q;subst q;refine Ox F.slot_dict_pop W F.entry_dict_pop (F.args_dict_pop_2 _ _) (meets_dict_pop_there (knd:=oK G.aE G.w) (d:=a) (k:=k) (s7 n l) [] (.inl rfl) N) ⟨u,w,Y,by rw[p.length];unfold hU;exact hG (bD (by assumption) (by rfl)),M,λh' y hs=>?_⟩;have c:=Heap.SameBut.G6 j r hs (gM y λo _ _ e _=>⟨o,e⟩);exact oA (j.dK OK f c (o':=.dict (qo x k)) (λR=>.bW _ y ((p.Eb t).B (λ_ _ z=>z) R)) _) λB C=>g φ _ w B C (U.B (λ_ _ z=>z) (c.fR j (j.Dt r)))
theorem Vo(g:aK G φ μ s.heap)(f:φ[i]?=aa a)(w:cN μ i=aa x)(r:bv G φ s.heap l ws)(b:aY G L φ s (AU m i x l μ) Q E):aJ (aU G.aE G.w) A (fX (.builtin m.xI) (.ref a::ws)) Q E s:=by have d:gH G φ s.heap a x:=g.fJ i _ (jH w) a f;have v:=g.Ki OK f;have u:s.TypeIs (.ref a) "dict":=cu (gH.Fh d) λC e c Z=>⟨_,e,c⟩;induction l with|nil=>exact b.elim|cons k l=>refine cG r.kS λD J e t h=>?_;rw[e];induction m with|gY=>(induction l with|nil=>rw[h.nt];exact Jn g d t .tZ b λn o p q=>Ox Oy u F.entry_dict_get (F.args_dict_get_2 _ _) (meets_dict_get _ a o v) (bC n p (q _))|cons B l=>refine aY.gd b λj b=>?_;rw[eQ.mp j]at h;refine ay h.mJ λz e y=>?_;rw[e];exact Jn g d t y b λn o p q=>Ox Oy u F.entry_dict_get (F.args_dict_get_3 _ _ _) (meets_dict_get_default _ a o v z) (bC n p (q _)))|jX=>refine aY.gd b λj b=>?_;rw[eQ.mp j]at h;rw[h.nt];exact Zi OK g f d u t b|_=>exact b.elim
end
end
section
variable{G:bp}{cl:Fn->List V->H->aB V}{n:Nat}{sl:Sl}{sc:List (aD×cK)}
variable(OK:cL G)
theorem kY(h:a.all dR=aj):(rz pos (po a env)).any (·.1)=au:=by induction a with|nil=>rfl|cons e a b=>rw[m7,cI]at h;rw[lP h.1];show(au||(rz pos (po a env)).any (·.1))=au;rw[b h.2];rfl
theorem vB(d:a.all dR=aj)(i:cs.length=a.length)(h:oU G cl n sl sc cs a){A:bq}{E:aq->az->Prop}(g:jf A n)(j:env.scope.names=sc)(b:dQ G A env sl F φ μ s)(c:gW G env.frame φ s (cY cl cs F μ) (λws s'=>Q ⟨ws,[]⟩ s') E):aJ (aU G.aE G.w) A (evalArgs f aj (rz pos (po a env)) []) Q E s:=by induction a with|nil=>(have:cs=[]:=by induction cs<;>simp at i;rfl);subst this;exact evalArgs_nil3 (c φ s [] (.b8 _ _ _) b.cf .nil)|cons e a=>rw[m7,cI]at d;have hs:=h A env F φ μ s pos _ E g j b c;rw[lP d.1]at hs⊢;exact v8 hs
theorem zP{s:az}(OK:cL G)(d:aK G φ μ s.heap)(r:aA G φ s.heap (.fn f) w):∃q,w=.ref q/\FnAt q s.heap:=by
 by_cases b:f=.c6;·refine No ((if_pos b).mp r) ?_;(try clear r;rintro a rfl doc pm c j e _);exact⟨a,rfl,_,_,_,_,e⟩
 ·replace r:w=_:=(if_neg b).mp r;subst r;refine Uz (OK.Kp f b) λg h fd i e=>?_;exact⟨_,rfl,g,h,fd,i,d.eJ _ _ (OK.X _ _ e)⟩
include OK
theorem Md{A:bq}{E:aq->az->Prop}(c:pH G cl n)(b:jf A n)(d:aK G φ μ s.heap)(g:fK G A φ s.heap)(h:A.handled=ah)(r:aA G φ s.heap (.fn f) w)(i:bv G φ s.heap a ws)(e:aY G L φ s (cl f a μ) Q E):aJ (aU G.aE G.w) A (fX w ws) Q E s:=v9 (c f a μ A φ s w ws L _ ⟨by have:=b.1;exact di (by assumption) (cJ (by rfl)),by have:=b.2;exact di (by assumption) (cJ (by rfl))⟩ d g h r i e)
noncomputable def Du(e:aO):Bool:=by cases e with|Attribute=>exact au|_=>exact aj
omit OK in
theorem tW {fe : aO} {args : List aO} {pos : be} {env : bP} (h : Du fe = aj) : gn (.Call fe args [] pos) env = (do callWith pos (← gn fe env) [] (rz pos (po args env)) (backToKw pos (keywordEach [] env))) := by
  cases fe <;> first | rfl | injection h
theorem XU(p:pH G cl n)(y:Du h=aj)(l:c.all dR=aj)(x:cs.length=c.length)(u:SE G cl n sl sc f h)(hs:oU G cl n sl sc cs c):SE G cl n sl sc (.call f cs) (.Call h c [] pos):=λA env F φ μ s Q E i m b a=>by rw[tW y];refine bM (u A env F φ μ s _ E i m b (aY.bh a λv D L s₁ w aH d r a=>?_));split at a;(·rename_i g;refine ay (zP OK d r) ?_;rintro q rfl X;refine B4 (P:=FnAt q) (by rw[kY l];rfl) keeps_F ?_;refine vB l x hs i m (b.aH aH d) (gW.bh a λvs J M C ws k j z a=>?_);have o:=aA.aH d k dX r;refine ay (zP OK j o) λB e t=>?_;injection e with q;subst q;exact⟨t,Md OK p i j ((b.fr.aH aH).aH k) b.hh o z a⟩);·exact a.elim
end
section
variable{G:bp}{cl:Fn->List V->H->aB V}{n:Nat}{sl:Sl}{sc:List (aD×cK)}
variable(OK:cL G)
noncomputable def Bi.nm:Bi->String|.dL=>"len"|.qp=>"list"|.nh=>"tuple"|.qL=>"abs"|.iV=>"isinstance"
include OK
theorem tw{A:bq}{E:aq->az->Prop}(i:x∈["len","list","tuple","abs","isinstance","range","Exception"])(g:bootBuiltins (bz x)=aa v)(e:bz x≠"__name__")(c:(bz x==("__debug__":aD))=au)(f:env.scope.names=sc)(d:sc.lookup (bz x)=aa .globalImplicit)(a:dQ G A env sl F φ μ s)(h:Q v s):aJ (aU G.aE G.w) A (gn (.Name (bz x) p) env) Q E s:=by refine oE (a.cf.fr OK.Lb) λm b=>?_;have T:=vW OK.T;refine Name_function_global a.env.kind (by unfold iE;rw[f];exact d) (loadGlobal_builtin (env:=env) (by rw[a.env.mW];exact T.g.keeps b.keep) (mg_none_of OK.X T.g (OK.EQ x i)) (by rw[a.env.bi];exact T.b.keeps b.keep) ((T.builtins _ e).trans g) h) c
theorem Ew{A:bq}{env:bP}{b:Bi}{Q:aq->az->Prop}{E:aq->az->Prop}(d:env.scope.names=sc)(c:sc.lookup (bz b.nm)=aa .globalImplicit)(a:dQ G A env sl F φ μ s)(h:Q b.fn s):aJ (aU G.aE G.w) A (gn (.Name (bz b.nm) p) env) Q E s:=by induction b with|dL=>exact tw OK (x:="len") (by simp) (by kernel_rfl) (by decide) (by decide) d c a h|qp=>exact tw OK (x:="list") (by simp) (by kernel_rfl) (by decide) (by decide) d c a h|nh=>exact tw OK (x:="tuple") (by simp) (by kernel_rfl) (by decide) (by decide) d c a h|qL=>exact tw OK (x:="abs") (by simp) (by kernel_rfl) (by decide) (by decide) d c a h|iV=>exact tw OK (x:="isinstance") (by simp) (by kernel_rfl) (by decide) (by decide) d c a h
theorem Ri{b:Bi}{cs:List CE}{c:List aO}(h:b.oM=[])(l:sc.lookup (bz b.nm)=aa .globalImplicit)(d:c.all dR=aj)(m:cs.length=c.length)(hs:oU G cl n sl sc cs c):SE G cl n sl sc (.bi b cs) (.Call (.Name (bz b.nm) p) c [] pos):=λA env F φ μ s Q E k i f g=>by rw[tW rfl];refine bM (Ew OK i l f ?_);(have e:aJ (aU G.aE G.w) A (evalArgs b.fn aj (rz pos (po c env)) []) (λa s₁=>aJ (aU G.aE G.w) A (fX b.fn ([]++a.pos) a.kw) Q E s₁) E s:=by refine vB d m hs k i f (gW.bh g λvs t u r ws q j o g=>?_);have:=JY OK f.hh b j o g;rw[h,iD]at this;exact this);induction b with|dL=>exact yE (kY d) e|qp=>exact GB (kY d) e|nh=>exact GB (kY d) e|qL=>exact yE (kY d) e|iV=>injection h
theorem WI(m:sc.lookup (bz "isinstance")=aa .globalImplicit)(o:sc.lookup (bz "tuple")=aa .globalImplicit)(h:dR e=aj)(l:SE G cl n sl sc a e):SE G cl n sl sc (.bi .iV [a]) (.Call (.Name (bz "isinstance") p) [e,.Name (bz "tuple") i] [] pos):=λA env F φ μ s Q E k f d c=>by rw[Zr]at c;rw[tW rfl];refine bM (Ew OK (b:=.iV) f m d ?_);(have q:[e,uE (bz "tuple") i].all dR=aj:=by rw[m7,h];rfl);refine yE (kY q) ?_;rw[lP h];refine v8 (rA ?_);rw[Qg]at c;rw[aB.lN]at c;refine l A env F φ μ s _ E k f d (aY.bh c λv t u s₁ w j g r c=>?_);refine spliced_more (Ew OK (b:=.nh) f o (d.aH j g) ?_) rfl;refine vZ ?_;exact JY OK d.hh .iV g (bv.cons r .nil) c
end
section
variable{G:bp}{cl:Fn->List V->H->aB V}{n:Nat}{sl:Sl}{sc:List (aD×cK)}
variable(OK:cL G)(C:pJ G)
theorem Mt.YG:(Mt.all.all λm=>At.all.all λn=>m==.fF||m==.nk||m==.jX||m==.gY||n.str !=m.str)=aj:=by decide+kernel
theorem Mt.jL(m:Mt):m∈Mt.all:=by induction m<;>decide
theorem aak:(ET.all λp=>p.2.1 !=.fF&&p.2.1 !=.nk&&p.2.1 !=.jX&&p.2.1 !=.gY)=aj:=by decide+kernel
theorem Pe(h:lU k m=aa f)(n:At):n.str≠m.str:=by have q:=fN.mp (fN.mp Mt.YG m (Mt.jL m)) n (At.jL n);unfold lU at h;induction z:ET.find? λp=>p.1==k&&p.2.1==m with|none=>rw[z]at h;injection h|some p=>have t:=fN.mp aak p (NP z);have e:=NO z;rw[cI,beq_iff_eq,beq_iff_eq]at e;rw[e.2,cI,cI,cI,bne_iff_ne,bne_iff_ne,bne_iff_ne,bne_iff_ne]at t;rw[beq_false_of_ne t.1.1.1,beq_false_of_ne t.1.1.2,beq_false_of_ne t.1.2,beq_false_of_ne t.2]at q;exact bne_iff_ne.mp q
theorem jT.Vn(b:∀n:At,n.str≠x)(y:jT G φ h l a):B0 x a=aa ah:=by
 unfold B0;have k:a.find? (·.key.isStr x)=ah:=by induction y with|nil=>rfl|@cons p _ _ _ r _ c=>exact oE r.1 λt q=>by rw[q,vJ,show(Value.str p.1.str t).isStr x=au from beq_eq_false_iff_ne.mpr (b p.1)];exact c
 rw[y.GW,k];rfl
include OK C
variable{φ:List am}{μ:H}{s:az}{A:bq}{E:aq->az->Prop}{m:Mt}{pl:Sem Bool}{Q:aq×List aq->az->Prop}{a:am}{i:Nat}
omit OK C in theorem aaL(h:wS m=aj):m=.fF\/m=.nk\/m=.jX:=by unfold wS at h;rw[pj,pj,beq_iff_eq,beq_iff_eq,beq_iff_eq]at h;exact or_assoc.mp h
omit OK C in theorem Ur(h:xR m=aj):m=.gY\/m=.jX:=by unfold xR at h;rw[pj,beq_iff_eq,beq_iff_eq]at h;exact h
omit OK C in theorem Wa(g:s.heap.get? a=aa d)(i:d.cls=.type "list")(c:d.dict=ah)(j:wS m=aj)(h:Q (.builtin m.cM,[.ref a]) s):aJ (aU G.aE G.w) A (wc (.ref a) m.str pl) Q E s:=by
 have f:s.TypeIs (.ref a) "list":=⟨_,g,i⟩;have c:∀b,eK a=.ref b->∃o,s.heap.get? b=aa o/\o.dict=ah:=λb e=>(bC _ (Value.ref.inj e▸g) c);rcases aaL j with rfl|rfl|rfl;·exact B5 f Oz F.slot_list_append F.type_list_append c h
 ·exact B5 f Oz F.slot_list_extend F.type_list_extend c h
 ·exact B5 f Oz F.slot_list_pop F.type_list_pop c h
omit OK C in theorem VO(f:s.heap.get? a=aa d)(i:d.cls=.type "dict")(c:d.dict=ah)(j:xR m=aj)(h:Q (.builtin m.xI,[.ref a]) s):aJ (aU G.aE G.w) A (wc (.ref a) m.str pl) Q E s:=by
 have g:s.TypeIs (.ref a) "dict":=⟨_,f,i⟩;have c:∀b,eK a=.ref b->∃o,s.heap.get? b=aa o/\o.dict=ah:=λb e=>(bC _ (Value.ref.inj e▸f) c);rcases Ur j with rfl|rfl;·exact B5 g F.plainAttrs_dict Oy F.type_dict_get c h
 ·exact B5 g F.plainAttrs_dict F.slot_dict_pop F.type_dict_pop c h
theorem Y9(e:aK G φ μ s.heap)(f:φ[i]?=aa a)(w:iu μ i=aa l)(v:yb μ i=aa k)(g:lU k m=aa c)(h:c≠.c6->Q (.ref (G.fa c),[.ref a]) s):aJ (aU G.aE G.w) A (wc (.ref a) m.str pl) Q E s:=by refine EU e f w λd k' x z y b r t u=>oE (e.fr OK.Lb) λm' j=>?_;rw[Lr v]at b;injection b with b;injection b with b;subst b;exact iT (C.bH k m c g) λn o p q=>method_inst j OK.X (FW r t) n o p (jT.Vn (Pe g) u) (h q)
theorem aaC(d:aK G φ μ s.heap)(r:aA G φ s.heap x w)(b:mR μ m x=aa kd)(h:∀q,(match kd with|.list=>q=.builtin m.cM|.dict=>q=.builtin m.xI|.bw k=>∃f,lU k m=aa f/\q=.ref (G.fa f)/\f≠.c6)->Q (q,[w]) s):aJ (aU G.aE G.w) A (wc w m.str pl) Q E s:=by refine fy b λi B b=>fy b λo g b=>?_;revert h;refine aA.aR (P:=λw=>(∀q,(match kd with|.list=>q=.builtin m.cM|.dict=>q=.builtin m.xI|.bw k=>∃f,lU k m=aa f/\q=.ref (G.fa f)/\f≠.c6)->Q (q,[w]) s)->aJ (aU G.aE G.w) A (wc w m.str pl) Q E s) B r λa f h=>?_;induction o with|list l=>exact ifs b λj e=>gw (qC d f (Cn g)) λvs n p Z=>Wa p rfl rfl j (h _ (bU e▸rfl))|dict l=>exact ifs b λj e=>cu (gH.Fh (d.fJ i _ g a f)) λF p v y=>VO p v y j (h _ (bU e▸rfl))|bw k=>refine fy b λl z b=>ifs b λhs e=>?_;refine oE (uC.mp hs) λD t=>?_;have u:yb μ i=aa k:=congrArg (·.bind O.C5) g;exact Y9 OK C d f (l:=l) (by unfold iu;rw[u];exact z) u t λc=>h _ (bU e▸(d0 D t rfl c))|fields l=>injection b
omit OK C in theorem Ep{c pos:be}{a:List aO}{A:bq}{Q:aq->az->Prop}{E:aq->az->Prop}(j:OA o b env (gn o env)=gn o env)(n:a.all dR=aj)(v:a.length<20)(m:(c.endLine==pos.line)=aj)(h:aJ M A (gn o env) (λg s₁=>∀pl,aJ M A (wc g b pl) (λd i=>aJ M A (callWith pos d.1 d.2 (rz pos (po a env)) []) Q E i) E s₁) E s):aJ M A (gn (.Call (.Attribute o b c) a [] pos) env) Q E s:=by
 rw[arm_eval_Call,j];refine bM (yF h (λg s₁ r=>?_) λz z e=>e);refine bM (GC ?_);have q:∀l:List aO,l.all dR=aj->(rz pos (po l env)).all (λx=>!x.1)=aj:=by intro l;induction l with|nil=>intro _;rfl|cons e l u=>intro f;rw[m7,cI]at f;rw[lP f.1];show(!au&&(rz pos (po l env)).all λx=>!x.1)=aj;rw[u f.2];rfl
 have k:methodCallForm (a.length+([]:List Keyword).length) (rz pos (po a env)) (backToKw pos (keywordEach [] env))=aj:=by unfold methodCallForm;rw[q a n];show(aj&&aj&&aZ (a.length+0+0<30))=aj;simp;exact bD (by assumption) (by rfl)
 have p:methodCallPos aj o env c pos=dG pos:=by unfold methodCallPos;simp[m]
 unfold methodCall;rw[k];refine bM (GD ?_);show aJ M A (wc g b _) _ E s₁;refine yF (r _) (λd i t=>?_) λz z e=>e;exact bM (yG p t)
theorem Pd(HC:pH G cl n){a:CE}{m:Mt}{cs:List CE}{o:aO}{u:List aO}{x:aD}{apos pos:be}(z:x=m.str)(hb:∀env,OA o x env (gn o env)=gn o env)(hline:(apos.endLine==pos.line)=aj)(hfew:u.length<20)(d:u.all dR=aj)(U:cs.length=u.length)(ha:SE G cl n sl sc a o)(hs:oU G cl n sl sc cs u):SE G cl n sl sc (.bH a m cs) (.Call (.Attribute o x apos) u [] pos):=λA env F φ μ s Q E y L J c=>by subst z;refine Ep (hb env) d hfew hline (ha A env F φ μ s _ E y L J (aY.bh c λv μ₁ φ₁ s₁ w aH g r c pl=>?_));induction R:mR μ₁ m v with|none=>simp only[R]at c;exact c.elim|some kd=>simp only[R]at c;refine aaC OK C g r R λq t=>?_;have M:=J.aH aH g;induction kd with|list=>simp only at t;subst t;refine yE (kY d) (vB d U hs y L M (gW.bh c λvs Z φ₂ D ws l j B c=>?_));have W:=aA.aH g l dX r;exact aY.ob c λi N c=>aY.ob c λx z c=>aA.aR (P:=λw=>aJ (aU G.aE G.w) A (fX (.builtin m.cM) (w::ws)) Q E D) N W λb f=>HJ OK j f z B c|dict=>simp only at t;subst t;refine yE (kY d) (vB d U hs y L M (gW.bh c λvs Z φ₂ D ws l j B c=>?_));have W:=aA.aH g l dX r;exact aY.ob c λi N c=>aY.ob c λx z c=>aA.aR (P:=λw=>aJ (aU G.aE G.w) A (fX (.builtin m.xI) (w::ws)) Q E D) N W λb f=>Vo OK j f z B c|bw k=>refine cu t ?_;(try clear t;rintro p hfm rfl hnd);have Y:∀{φ h},aA G φ h (.fn p) (.ref (G.fa p)):=λ{φ h}=>aA.Ej hnd;refine ay (zP OK g (f:=p) Y) λq e X=>?_;injection e with q;subst q;refine B4 (P:=FnAt (G.fa p)) (by rw[kY d];rfl) keeps_F ?_;refine vB d U hs y L M (gW.bh c λvs Z φ₂ D ws l j B c=>?_);refine ay (zP OK j (f:=p) Y) λq' e X2=>?_;injection e with q;subst q;(have c:aY G env.frame φ₂ D (cl p (v::vs) Z) Q E:=by refine aY.ob c λf ef c=>?_;rw[hfm]at ef;rw[bU ef];exact c);exact⟨X2,Md OK HC y j ((J.fr.aH aH).aH l) J.hh Y (.cons (aA.aH g l dX r) B) c⟩
end
section
variable{G:bp}{cl:Fn->List V->H->aB V}{n:Nat}{sl:Sl}{sc:List (aD×cK)}
variable(OK:cL G)(C:pJ G)
include OK C
theorem abd{A:bq}{E:aq->az->Prop}(HC:pH G cl n)(N:jf A n)(d:aK G φ μ s.heap)(hF:fK G A φ s.heap)(hh:A.handled=ah)(rs:bv G φ s.heap l ws)(hE:aY G L φ s (De cl k l μ) Q E):aJ (aU G.aE G.w) A (fX (.ref (G.ka k)) ws) Q E s:=by
 refine oE (d.fr OK.Lb) λm z=>?_;refine iT (C.HU k) λc1 c2 c3 c4=>?_;refine call_cls z OK.X (ot s.heap) c1 c2 c3 λx b h' F' j U R=>?_;have c:cR G [] s.heap h':=.yq z F' j (λp y _=>iR _ (iR _ y)) kq;have kt:=c.fR d kq;have g:=j _ (je ..);have f:=j _ (iR _ (je ..));have J:∀D W,(∀p∈nL G s.heap,p.1<D)->h'.get? D=aa W/\D≠G.Lb/\G.h₀.get? D=ah->s.heap.get? D=ah:=λD W hD k=>abP.mpr λo q=>sT _ (hD (D,o) (wZ.mpr ⟨q,k.2.1,k.2.2⟩));have fd:=J b _ U f;have u:=J x _ (λp y=>dF (U p y) R) g;have h:∀D,s.heap.get? D=ah->D∉φ/\D≠G.P:=λD e=>⟨λq=>ay (d.own q) λob' t _=>kW t e,λq=>oE d.nw λps t=>kW (q▸t) e⟩;have Z:∀{P:am->Prop},P x->P b->∀a∈[x,b],P a:=λ{P}p q=>sQ.mpr ⟨p,jA q⟩;have B:aK G (φ++[x,b]) (μ++[.bw k,.fields []]) h':=(d.jF OK.lb c).Lj rfl (pn.mpr ⟨rY (rm R),pn.mpr ⟨jD,.nil⟩⟩) (Z ⟨(h _ u).1,g.2.2,(h _ u).2,g.2.1⟩ ⟨(h _ fd).1,f.2.2,(h _ fd).2,f.2.1⟩) (TS (P:=λi o a=>kB G (φ++[x,b]) h' (φ.length+i) a o) ⟨b,(m5 (lE _)).trans (by rw[Nat.succ_sub (cF _),qi];rfl),g.1⟩ ⟨[],0,f.1,.nil⟩);have F:c7 G φ s (φ++[x,b]) {s with heap:=h'}:=c.aH (tk:=s.toks) d kq [x,b] (Z u fd);have Y:aA G (φ++[x,b]) h' (.ref μ.length) (.ref x):=⟨x,by rw[<-d.bN,m5 (cF _),qi];rfl,rfl⟩;refine HC k.init (.ref μ.length::l) (μ++[.bw k,.fields []]) _ (φ++[x,b]) {s with heap:=h'} _ _ L _ ?_ B (hF.aH F) hh (.Ej c4) (.cons Y (rs.B FI kt)) ?_;·exact⟨by show A.depth+1+4*n<=983;have:=N.1;lia,by show A.units+1+20*n<=9017;have:=N.2;lia⟩
 ·refine aY.bh (aY.aH F hE) λv μ₁ φ₁ s₁ w aH S1 r M=>?_;induction v using V.casesOn with|none=>exact⟨r,aY.ok S1 (aA.aH B aH dX Y) M⟩|_=>exact M.elim
theorem Sh(i:pH G cl n)(r:x=k.str)(o:sc.lookup x=aa .globalImplicit)(l:(x==("__debug__":aD))=au)(f:b.all dR=aj)(q:cs.length=b.length)(hs:oU G cl n sl sc cs b):SE G cl n sl sc (.new k cs) (.Call (.Name x p) b [] pos):=λA env F φ μ s Q E e g a c=>by subst r;rw[tW rfl];refine oE (a.cf.fr OK.Lb) λm h=>?_;refine bM (BZ h OK.X (vW OK.T) (C.name k).1 ?_ a.env.mW a.env.kind (by unfold iE;rw[g];exact o) l);refine B4 (P:=G.K.In) (by rw[kY f];rfl) (keeps_K (C.name k).2) ?_;refine vB f q hs e g a (gW.bh c λvs v w u ws j d t c=>?_);exact⟨OK.X.keeps d.eJ,abd OK C i e d (a.fr.aH j) a.hh t c⟩
end
noncomputable def zh:List aq->List (aq×aq)|k::v::l=>(k,v)::zh l|_=>[]
section
open Classical
variable{G:bp}{φ:List am}{h:aQ}
theorem WG{P:List V->Prop}(h0:P [])(h1:∀a,P [a])(h2:∀a b l,P l->P (a::b::l))(l:List V):P l:=(show P l/\∀a,P (a::l)by induction l with|nil=>exact⟨h0,h1⟩|cons a l ih=>exact⟨ih.2 a,λb=>h2 b a l ih.1⟩).1
theorem WP{k v:V}{l:List V}{d d':List (V×V)}{P:Prop}(e:lp (k::v::l) d=aa d')(f:eZ d k=aj->tf k=aj->lp l (gT d k v)=aa d'->P):P:=ifs (c:=(eZ d k&&tf k)=aj) e λc e=>f (kI.mp c).1 (kI.mp c).2 e
theorem Rh(l:List V):∀(ws:List aq)(d d':List (V×V))(bT:List (V×aq)),lp l d=aa d'->bv G φ h l ws->DR G φ h d bT->∃kvs,Carries (oK G.aE G.w) (zh ws) kvs/\DR G φ h d' (merged bT kvs)/\2*kvs.length<=l.length:=by induction l using WG with|h0=>intro ws d d' bT e r a;rw[r.nt,<-bU e];exact⟨[],trivial,a,cF _⟩|h1=>intro ws d d' bT e;injection e|h2 k v l ih=>intro ws d d' bT e r a;refine WP e λf n e=>cG r.kS λwk w1 ew rk r1=>cG r1.kS λwv w2 ew2 rv r2=>?_;have n:=cr (show(io k==1)=aj from n);refine cu (ih w2 _ d' (stored bT k wv) e r2 (a.dW (kE f) n rv)) λkvs c1 c2 c3=>?_;rw[ew,ew2];exact⟨(k,wv)::kvs,⟨s7 n rk,rfl,c1⟩,c2,N7 c3 2⟩
end
section
open Classical
variable{G:bp}{cl:Fn->List V->H->aB V}{n:Nat}{sl:Sl}{sc:List (aD×cK)}
noncomputable def vq(G:bp)(cl:Fn->List V->H->aB V)(n:Nat)(sl:Sl)(sc:List (aD×cK))(cs:List CE)(a:List (Option aO))(vs:List aO):Prop:=∀(A:bq)(env:bP)(F:List V)(φ:List am)(μ:H)(s:az)(pos:be)(Q:List (aq×aq)->az->Prop)(E:aq->az->Prop),jf A n->env.scope.names=sc->dQ G A env sl F φ μ s->gW G env.frame φ s (cY cl cs F μ) (λws=>Q (zh ws)) E->aJ (aU G.aE G.w) A (evalPairs (pairTrees a vs env pos)) Q E s
theorem U4:vq G cl n sl sc [] [] []:=λA env F φ μ s pos Q E z z a b=>by exact pairTrees_nil_walk (b φ s [] (.b8 _ _ _) a.cf .nil)
theorem aaV(o:SE G cl n sl sc c k)(p:SE G cl n sl sc d v)(q:vq G cl n sl sc cs l vs):vq G cl n sl sc (c::d::cs) (aa k::l) (v::vs):=λA env F φ μ s pos Q E g h b a=>by refine pairTrees_cons_walk (o A env F φ μ s _ E g h b (aY.vh a λM B D s₁ y aH e r a=>?_));rw[V4]at a;rw[aB.lN]at a;refine p A env F D B s₁ _ E g h (b.aH aH e) (aY.vh a λN C J w z i f t a=>?_);rw[aB.lN]at a;refine q A env F J C w pos _ E g h ((b.aH aH e).aH i f) (gW.vh a λvs R L x ws j m u a=>?_);exact a L x (y::z::ws) (.b8 _ _ _) m (.cons (aA.aH f j dX (aA.aH e i dX r)) (.cons (aA.aH f j dX t) u))
variable(OK:cL G)
include OK
theorem X9:SE G cl n sl sc (.bF []) (.Dict [] [] pos):=λA env F φ μ s Q E c d b a=>by rw[Mb,Po]at a;refine wpAny_Dict_empty ?_;exact aY.push OK (tk:=s.toks) b.cf (ho:=rfl) (o:=.dict []) (λk g=>.bW [] (Heap.DictOf.new s.heap) .nil) a
theorem VD(hall:j.all (·.isSome)=aj)(hl:j.length=vs.length)(h0:j≠[])(hlen:j.length<=15)(hcl:(c::d::cs).length<=30)(hs:vq G cl n sl sc (c::d::cs) j vs):SE G cl n sl sc (.bF (c::d::cs)) (.Dict j vs pos):=λA env F φ μ s Q E hR hsc g f=>by rw[Mb]at f;refine wpAny_Dict_any hall hl h0 hlen ?_;have i:s.heap.get? s.heap.objs.size=ah:=lH (cF _);have M:cR G [] s.heap (s.heap.push {cls:=.type "dict",data:=.dict #[]}):=.push _ _ _;have t:=M.pp (tk:=s.toks) g.cf;have S0:=g.cf.jF OK.lb M;have W:(s.heap.push {cls:=.type "dict",data:=.dict #[]}).get? s.heap.objs.size=aa {cls:=.type "dict",data:=.dict #[]}:=kO _ rfl;have N:s.heap.objs.size∉φ:=λq=>ay (g.cf.own q) λob' y _=>kW y i;have C:s.heap.objs.size≠G.P:=λq=>oE g.cf.nw λps y=>kW (q▸y) i;have B:s.heap.objs.size≠G.Lb:=λq=>oE g.cf.lb λm x=>pR (q▸x) i;have R:G.h₀.get? s.heap.objs.size=ah:=abP.mpr λo e=>kW (g.cf.eJ _ _ e) i;refine hs A env F φ μ _ pos _ E hR hsc (g.aH t S0) ?_;induction q:cY cl (c::d::cs) F μ with|aM=>rw[q]at f;exact f.elim|ex x μ'=>rw[q]at f;exactλφ' s' e a b k=>f φ' s' e (t.trans a) b (k.lo λ_ q=>t.2.1.none q)|ok vs' L=>rw[q]at f;intro l s₁ ws u p r;have f:aY G env.frame φ s (match lp vs' []with|aa d=>.ok (.ref L.length) (L++[.dict d])|ah=>.aM) Q E:=f;induction D:lp vs' []with|none=>rw[D]at f;exact f.elim|some w=>rw[D]at f;have U:s₁.heap.get? s.heap.objs.size=aa {cls:=.type "dict",data:=.dict #[]}:=u.2.1.keep _ _ N C B W λq=>absurd q (jI rfl _ rfl);have Y:s.heap.objs.size∉l:=oJ u N (kW W);refine cu (Rh (h:=s₁.heap) (φ:=l) _ ws [] w [] D r .nil) λkvs c1 c2 c3=>?_;refine wpAny_storeAll (zh ws) kvs [] s₁ _ c1 ⟨_,#[],0,U,⟨rfl,rfl,rfl⟩,rfl,λe he=>absurd he (Array.not_mem_empty e),.nil,.nil⟩ (by rw[CR q]at c3;unfold hU;show 0+kvs.length<=_;lia) λh' y1 hsb=>?_;have v:cR G [s.heap.objs.size] s₁.heap h':=.same hsb B.symm (gM y1 λo _ _ e _=>⟨o,e⟩);have Z:cX s₁.heap h':=v.fR p (jA (P:=λb=>∀J,s₁.heap.get? b=aa J->gX J) λJ e=>f8 U e▸(tG.bF rfl rfl).wL);have S3:aK G (l++[s.heap.objs.size]) (L++[.dict w]) h':=(p.tz OK.lb v (jA (P:=λa=>a∉l/\G.h₀.get? a=ah/\a≠G.P) ⟨Y,R,C⟩) Z).new Y R C B (kB.B (o:=.dict w) vA (.b8 _) (λ_ z=>z) (.bW _ y1 (c2.B (λ_ _ z=>z) Z)));refine dT (t.trans u) λk gr e1=>ay k λext ek hext=>?_;refine f (l++[s.heap.objs.size]) _ _ ⟨⟨ext++[s.heap.objs.size],by rw[ek,re],Lk hext (jA i)⟩,?_,by rw[e1]⟩ S3 ⟨_,by rw[<-p.bN];exact List.getElem?_concat_length,rfl⟩;exact gr.EH (own':=[s.heap.objs.size]) (v.Fg (λa ha=>ha) p.lb) λb hb1 hb2=>absurd i ((dq.mp hb2)▸hb1)
end
section
variable{G:bp}
theorem cy.lM(x:cy G own φ s i s₁)(y:cy G own' i s₁ j g)(h:∀b∈own',s.heap.get? b≠ah->b∈own++φ):cy G own φ s j g:=by
 refine dT x ?_;try clear x;rintro⟨k,rfl,d⟩e p
 refine dT y ?_;try clear y;rintro⟨l,rfl,m⟩n q
 refine⟨(bC (k++l) (by simp) (λa o=>?_)),e.EH n λb f c=>?_,by rw[q,p]⟩;·rcases d6.mp o with h|h;(·exact d a h);·exact e.none (m a h)
 ·rcases d6.mp c with c|c;(·exact h b c f);·rcases d6.mp c with c|c;(·exact vM _ c);·exact absurd (d b c) f
inductive mP(G:bp)(φ:List am)(h:aQ)(J:am):List V->Prop|Z{t:am}{vs:List aq}{k:Nat}{l:List V}(i:h.IsTupleIter J t k)(ht:h.get? t=aa {cls:=.type "tuple",data:=.seq vs.toArray})(r:bv G φ h l (vs.drop k)):mP G φ h J l|pL{x fT dK:Int}{l:List V}(i:IsRangeIter h J x fT dK)(e:l=(j0 fT.toNat).map λ(k:Nat)=>V.int (x+k*dK)):mP G φ h J l
theorem mP.fJ(x:mP G φ h J l):∃o,h.get? J=aa o/\o.cls≠.type "tuple"/\o.cls≠.type "function"/\o.cls≠.type "code"/\o.cls≠.type "frame"/\(∀a n,o.data≠.dict a n):=by induction x with|Z i _ _=>refine cu i λo e c d=>?_;try clear i;exact⟨o,e,by rw[c];simp,by rw[c];simp,by rw[c];simp,by rw[c];simp,by rw[d];simp⟩|pL i _=>exact⟨_,i,by simp,by simp,by simp,by simp,by simp⟩
theorem mP.B(g:∀(i:Nat)(a:am),φ[i]?=aa a->f[i]?=aa a)(k:cX h h')(b:∀o,h.get? J=aa o->h'.get? J=aa o)(x:mP G φ h J l):mP G f h' J l:=by induction x with|Z i j r=>refine cu i λo e c d=>?_;try clear i;exact .Z ⟨o,b _ e,c,d⟩ (k _ _ j ⟨(λz z q=>by injection q),λz q=>by injection q⟩ (.inl rfl)) (r.B g k)|pL i e=>exact .pL (b _ i) e
theorem Wl{a:Int}(e:v::l=(j0 a.toNat).map λ(k:Nat)=>V.int (x+k*b)):0<a/\v=.int x/\l=(j0 (a-1).toNat).map λ(k:Nat)=>V.int (x+b+k*b):=by
 have c:0<a:=by induction q:a.toNat with|zero=>rw[q]at e;injection e|succ n=>lia
 have q:a.toNat=(a-1).toNat+1:=Vh (by assumption);rw[q,Oa,uB,N5]at e;injection e with e1 e2;refine(eA c (by rw[e1];simp) ?_);rw[e2];refine uA λk z=>?_;simp only[Function.comp,Nat.succ_eq_add_one];congr 1;push_cast;rw[Int.add_mul];lia
section
variable{φ:List am}{μ:H}{s:az}{A:bq}{E:aq->az->Prop}{J:am}{Q:Option aq->az->Prop}
theorem R5(L:cL G)(j:aK G φ μ s.heap)(g:J∉φ/\G.h₀.get? J=ah/\J≠G.P/\J≠G.Lb)(x:mP G φ s.heap J (v::l))(h:∀h' t w,cy G [J] φ s φ {s with heap:=h',toks:=t}->aK G φ μ h'->cX s.heap h'->aA G φ h' v w->mP G φ h' J l->Q (aa w) {s with heap:=h',toks:=t}):aJ (aU G.aE G.w) A (pyNext (.ref J)) Q E s:=by
 have y:∀{h'},vV J s.heap h'->(∃o,h'.get? J=aa o)->∀t,cy G [J] φ s φ {s with heap:=h',toks:=t}/\aK G φ μ h'/\cX s.heap h':=by intro h' hs ho t;have c:cR G [J] s.heap h':=.same hs g.2.2.2.symm ho;refine uP x.fJ λo e M N R _=>?_;have F:cX s.heap h':=c.fR j (λb C ob u=>by simp only[dq]at C;subst C;rw[e]at u;injection u with q;subst q;exact⟨M,N,R⟩);have p:=c.aH (own:=[J]) (tk:=t) j (by simp) [] (by simp);rw[iD]at p;exact⟨p,j.tz L.lb c (λa B=>by simp only[dq]at B;subst B;exact⟨g.1,g.2.1,g.2.2.1⟩) F,F⟩
 cases x with|@Z t vs k _ i D r=>refine cG r.kS λw r' e a b=>?_;(have Z:vs.toArray[k]?=aa w:=by(have:(vs.drop k)[0]?=aa w:=by rw[e];rfl);simpa using this);(have Y:vs.drop (k+1)=r':=by have:=congrArg List.tail e;simpa using this);refine wpAny_pyNext_tuple_item i ⟨_,D,rfl,_,rfl⟩ Z λh' f hs=>?_;refine dT (y hs (let⟨o,e,_⟩:=f;⟨o,e⟩) s.toks) λm n d=>?_;exact h h' s.toks w m n d (a.B (λ_ _ z=>z) d) (.Z f (d _ _ D ⟨(λ_ _ q=>by injection q),λ_ q=>by injection q⟩ (.inl rfl)) (by rw[Y];exact b.B (λ_ _ z=>z) d))|@pL x fT dK _ i e=>refine dT (Wl e) ?_;rintro U rfl W;refine wpAny_pyNext_range_item i U λh' f hs=>?_;refine dT (y hs ⟨_,f⟩ (s.toks+1)) λm n d=>?_;exact h h' _ _ m n d (⟨_,rfl⟩) (.pL f W)
theorem aK.extBut(d:aK G φ μ s.heap)(g:J∉φ/\G.h₀.get? J=ah/\J≠G.P/\J≠G.Lb)(h:cX s.heap h')(hs:m8 J s.heap h'):aK G φ μ h':=by
 refine⟨d.bN,d.nd,λi o e a f=>(d.fJ i o e a f).B (λZ Z q=>q) h λl q=>hs a l (λz=>g.1 (z▸cW f)) q,λb o e=>hs b o (λq=>by rw[q,g.2.1]at e;injection e) (d.eJ b o e),d.k9,d.rX,?_,d.oH,?_⟩;·refine cu d.tab λps e t c=>?_;exact⟨ps,hs _ _ (hH g.2.2.1) e,t,c.imp id λ⟨c,q,r⟩=>⟨c,q,r.B h⟩⟩
 ·refine xm d.lb λm o k j e r=>?_;exact⟨m,o,k,j,hs _ _ (hH g.2.2.2) e,r⟩
theorem cy.extBut(x:cy G own φ k l s₁)(f:k.heap.get? J=ah)(hs:m8 J s₁.heap h'):cy G own φ k l {s₁ with heap:=h',toks:=t}:=by
 refine dT x ?_;try clear x;rintro⟨p,rfl,u⟩g q
 refine⟨⟨p,rfl,u⟩,⟨λb o e=>?_,λb o a v j e c=>?_,λb m a e=>?_,λb a j z=>?_⟩,by rw[q]⟩;·refine oE (g.oN b o e) λo' h=>?_;exact⟨o',hs b o' (λz=>by rw[z,f]at e;injection e) h⟩
 ·exact hs b o (λz=>by rw[z,f]at e;injection e) (g.keep b o a v j e c)
 ·refine gM (g.ns b m a e) λo i s h r=>?_;exact⟨o,i,s,hs b o (λz=>absurd f (z▸pR e)) h,r⟩
 ·(have w:b≠J:=λq=>by refine gM z λo Z Z e Z=>?_;try clear z;rw[q,f]at e;injection e);refine fW (g.fr b a j z) λo i n e c d=>?_;exact⟨o,i,n,hs b o w e,c,d⟩
theorem Z4(a:A.handled=ah)(x:mP G φ s.heap J [])(h:∀h',m8 J s.heap h'->Q ah {s with heap:=h'}):aJ (aU G.aE G.w) A (pyNext (.ref J)) Q E s:=by cases x with|@Z t vs k _ i c r=>have b:=r.length;refine wpAny_pyNext_tuple_end a i ⟨_,c,rfl,_,rfl⟩ (by have:(vs.drop k).length=0:=b;rw[Ou]at this;rw[OB,ro (by lia)]) h|@pL x d f _ i e=>exact wpAny_pyNext_range_end a i (by cases q:d.toNat with|zero=>lia|succ n=>rw[q,Oa]at e;injection e) h
end
end
noncomputable def i3(env:bP):List (aD×cK)->List (aD×am)->List (aD×am)|[],cs=>cs|(n,k)::l,cs=>i3 env l (if k==.free then(n,(env.cells.lookup n).getD 0)::cs else cs)
theorem Mi(h:∀y∈b.names,y.2=.free->(env.cells.lookup y.1).isSome=aj):GE b env=dG (i3 env b.names []):=by simp only[GE];generalize b.names=l at h;generalize([]:List (aD×am))=cs;induction l generalizing cs with|nil=>rfl|cons y l g=>obtain⟨n,k⟩:=y;rw[BY];have e:=g (λy f=>h y (iR _ f));by_cases a:(k==yH)=aj;(·have hs:=h (n,k) (je ..) (by simpa using a);refine oE (uC.mp hs) λc d=>?_;simp only at d;simp only[a,if_true,cellOf,d];have:=e ((n,c)::cs);unfold i3;simp only[a,if_true,d,abQ];exact this);·simp only[a,wf,if_false];unfold i3;simp only[a,wf,if_false];exact e cs
theorem FS:∀{l:List (aD×cK)}{cs:List (aD×am)},(∀y∈l,y.2=.free->(env.cells.lookup y.1).isSome=aj)->(∀p∈cs,env.cells.lookup p.1=aa p.2)->(∀p∈i3 env l cs,env.cells.lookup p.1=aa p.2)/\(∀y,((y,yH)∈l\/∃c,(y,c)∈cs)->∃c,(y,c)∈i3 env l cs)|[],cs,_,h=>⟨h,λy a=>a.elim (λq=>nomatch q) id⟩|(n,k)::l,cs,hs,h=>by unfold i3;by_cases d:k=.free;(·subst d;refine oE (uC.mp (hs (n,.free) (je ..) rfl)) λc b=>?_;simp only at b;rw[if_pos (by rfl),b,abQ];refine oA (FS (env:=env) (l:=l) (cs:=(n,c)::cs) (λy a=>hs y (iR _ a)) (λp f=>by rcases gQ.mp f with rfl|f;(·exact b);·exact h p f)) λg i=>?_;refine⟨g,λy a=>i y ?_⟩;rcases a with a|⟨j,a⟩;(·rcases gQ.mp a with e|a;(·cases e;exact .inr ⟨c,je ..⟩);·exact .inl a);·exact .inr ⟨j,iR _ a⟩);·(have m:¬(k==yH)=aj:=by simpa using d);rw[if_neg m];refine oA (FS (env:=env) (l:=l) (cs:=cs) (λy a=>hs y (iR _ a)) h) λg i=>?_;refine⟨g,λy a=>i y ?_⟩;rcases a with a|a;(·rcases gQ.mp a with e|a;(·cases e;exact absurd rfl d);·exact .inl a);·exact .inr a
theorem XS{l:List (aD×am)}{f:aD->Option am}(h:∀p∈l,f p.1=aa p.2)(a:(y,c)∈l):l.lookup y=f y:=by induction l with|nil=>nomatch a|cons p l g=>obtain⟨n,d⟩:=p;rw[gR];induction q:y==n with|true=>rw[cr q];exact(h (n,d) (je ..)).symm|false=>refine g (λp b=>h p (iR _ b)) ?_;rcases gQ.mp a with e|a;(·injection e with q;subst q;simp at q);·exact a
theorem mw{a:Type}{l:List (aD×a)}{y:aD}{c:a}(h:l.lookup y=aa c):(y,c)∈l:=by induction l with|nil=>injection h|cons p l b=>obtain⟨n,d⟩:=p;rw[gR]at h;induction q:y==n with|true=>rw[q]at h;injection h with q;subst q;rw[cr q];exact je ..|false=>rw[q]at h;exact iR _ (b h)
noncomputable def oo(b:Sl)(sc:List (aD×cK))(a:dY):Sl:=b.filter λp=>(a.names.lookup p.1).isSome||(sc.lookup p.1).isNone
noncomputable def nF(sc:List (aD×cK))(a:dY):List (aD×cK):=a.names.map λ(n,k)=>if k==.free&&sc.lookup n==aa .cell then(n,.cell)else(n,k)
noncomputable def mG(b:Sl)(sc:List (aD×cK))(a:dY)(x:aD)(i:Nat):Bool:=a.kind==.function&&b.lookup x==aa i&&a.names.lookup x==aa .local&&a.names.all λp=>(p.2==.local&&(p.1==x||((b.lookup p.1).isNone&&a.names.lookup p.1==aa .local)))||(p.2==.free&&p.1 !=x&&a.names.lookup p.1==aa .free&&(b.lookup p.1).isSome&&(sc.lookup p.1==aa .cell||sc.lookup p.1==aa .free))||(p.2==.globalImplicit&&(b.lookup p.1).isNone)
theorem aba{b:Sl}{p:aD->Bool}:(b.filter λq=>p q.1).lookup x=if p x then b.lookup x else ah:=by induction b with|nil=>simp|cons q l c=>obtain⟨n,i⟩:=q;rw[BU];by_cases a:p n=aj;(·rw[if_pos a,gR,gR];induction e:x==n with|true=>rw[cr e,if_pos a]|false=>exact c);·rw[if_neg a,c,gR];induction e:x==n with|true=>rw[cr e,if_neg a,if_neg a]|false=>rfl
theorem DA{sc:List (aD×cK)}:∀{d:List (aD×cK)}{x:aD},(d.map λ(n,k)=>if k==yH&&sc.lookup n==aa wg then(n,wg)else(n,k)).lookup x=(d.lookup x).map λk=>if k==.free&&sc.lookup x==aa .cell then .cell else k|[],x=>rfl|(n,k)::r,x=>by rw[uB];have c:=@DA sc r x;rw[gR (b:=k)];by_cases a:(k==yH&&sc.lookup n==aa wg)=aj;(·simp only[a,if_true];rw[gR];induction e:x==n with|true=>rw[cr e];simp only[NT,a,if_true]|false=>exact c);·simp only[a,if_false,wf];rw[gR];induction e:x==n with|true=>rw[cr e];simp only[NT,a,if_false,wf]|false=>exact c
section
variable{G:bp}
theorem DZ(b:env.scope.kind=.function)(c:env.scope.names=sc):(wh a env).names=nF sc a:=by unfold wh nF;simp only[b,iE,c,beq_self_eq_true,BQ]
structure zv(sl:Sl)(sc:List (aD×cK))(scope:dY)(x:aD)(i:Nat):Prop where
 kind:scope.kind=.function
 Mq:sl.lookup x=aa i
 zy:scope.names.lookup x=aa .local
 af:∀y,(y,NameKind.local)∈scope.names->y=x\/(sl.lookup y=ah/\scope.names.lookup y=aa .local)
 DU:∀y,(y,yH)∈scope.names->y≠x/\scope.names.lookup y=aa .free/\(sl.lookup y).isSome=aj/\(sc.lookup y=aa .cell\/sc.lookup y=aa .free)
 Iu:∀y k,(y,k)∈scope.names->k=.local\/k=.free\/sl.lookup y=ah
theorem Cx(h:mG d sc c x i=aj):zv d sc c x i:=by
 unfold mG at h;simp only[cI,fN,pj,beq_iff_eq,bne_iff_ne,ne_eq,OC]at h;refine oA h ?_;try clear h;rintro⟨⟨m,n⟩,o⟩b
 refine⟨m,n,o,λy a=>?_,λy a=>?_,λy k a=>?_⟩;·rcases b _ a with(⟨_,e⟩|⟨⟨⟨⟨e,_⟩,_⟩,_⟩,_⟩)|⟨e,_⟩;(·exact e);(·injection e);·injection e
 ·rcases b _ a with(⟨e,_⟩|⟨⟨⟨⟨_,f⟩,g⟩,j⟩,l⟩)|⟨e,_⟩;(·injection e);(·exact(nN f g j l));·injection e
 ·rcases b _ a with(⟨e,_⟩|⟨⟨⟨⟨e,_⟩,_⟩,_⟩,_⟩)|⟨_,e⟩;(·exact .inl e);(·exact .inr (.inl e));·exact .inr (.inr e)
theorem Bf(C:zv d sc c x i)(b:env.scope.names=sc)(R:dZ G d env F φ h):∀y∈c.names,y.2=.free->(env.cells.lookup y.1).isSome=aj:=by
 rintro⟨y,k⟩l e;simp only at e;subst e;refine iT (C.DU y l) λm n f a=>?_;refine oE (uC.mp f) λj g=>?_;rcases R.name y j g with q|⟨_,q⟩|q;·unfold iE at q;rw[b]at q;rcases a with a|a<;>(rw[a]at q;cases q)
 ·exact q
 ·unfold iE at q;rw[b]at q;rcases a with a|a<;>(rw[a]at q;injection q)
theorem Sg(C:zv s sc scope x i)(r:env.scope.names=sc)(R:dZ G s env F φ h)(U:h.Ns g m)(hx:m x=aa w)(rv:aA G φ h v w)(Y:g∉φ)(Z:G.h₀.objs.size<=g)(hC3:∀y c,env.cells.lookup y=aa c->c≠g):dZ G (oo s sc scope) (yI scope (i3 env scope.names []) g env) (F.set i v) φ h:=by
 have D:=FS (env:=env) (l:=scope.names) (cs:=[]) (Bf C r R) (by simp);have names:(yI scope (i3 env scope.names []) g env).scope.names=nF sc scope:=DZ R.kind r;have kindOf:∀y,(yI scope (i3 env scope.names []) g env).kindOf y=(scope.names.lookup y).map λk=>if k==.free&&sc.lookup y==aa .cell then .cell else k:=λy=>by unfold iE;rw[names];exact DA
 have t:∀y j,(oo s sc scope).lookup y=aa j->s.lookup y=aa j/\((scope.names.lookup y).isSome=aj\/(scope.names.lookup y=ah/\sc.lookup y=ah)):=λy j e=>by unfold oo at e;rw[aba (p:=λy=>(scope.names.lookup y).isSome||(sc.lookup y).isNone)]at e;split at e;(·rename_i q;refine⟨e,?_⟩;induction h:scope.names.lookup y with|some k=>exact .inl rfl|none=>rw[h]at q;exact .inr ⟨rfl,by simpa using q⟩);·injection e
 have Q:∀y,scope.names.lookup y=aa .free->(i3 env scope.names []).lookup y=env.cells.lookup y:=λy e=>by refine oE (D.2 y (.inl (mw e))) λc hc=>?_;exact XS (f:=λy=>env.cells.lookup y) D.1 hc
 have N:∀y c,(i3 env scope.names []).lookup y=aa c->env.cells.lookup y=aa c:=λy c e=>D.1 (y,c) (mw e);refine⟨by show(wh scope env).kind=_;exact C.kind,R.mW,R.bi,R.fr,⟨⟨m,U⟩,Y,Z⟩,λy c e=>R.hV y c (N y c e),λy z c a b=>R.uu y z c (N y c a) (N z c b),λy j e=>?_,λy z j a b=>R.snd y z j (t y j a).1 (t z j b).1,λy j u e f=>?_⟩;·refine oA (t y j e) λa b=>?_;rw[kindOf];rcases b with b|⟨b,_⟩;rotate_left;(·rw[b];exact .inr (.inr rfl));refine oE (uC.mp b) λk o=>?_;have n:=mw o;rcases C.Iu y k n with rfl|rfl|J;(·rw[o];exact .inl rfl);(·refine iT (C.DU y n) λ_ B _ d=>?_;refine .inr (.inl ⟨?_,?_⟩);(·rw[o];rcases d with d|d;(·left;rw[d];rfl);·right;rw[d];rfl);·show((i3 env scope.names []).lookup y).isSome=aj;rw[Q y B];exact Bf C r R _ n rfl);·rw[J]at a;injection a
 ·refine oA (t y j e) λa b=>?_;by_cases M:y=x;(·subst M;rw[C.Mq]at a;injection a with q;subst q;by_cases hi:i<F.length;(·rw[ph hi]at f;injection f with q;subst q;exact .inr ⟨w,.inl ⟨by rw[kindOf,C.zy];rfl,m,U,hx⟩,rv⟩);·rw[ro (by rw[vL];exact rg (by assumption))]at f;injection f);·have hij:i≠j:=λq=>M (R.snd y x j a (q▸C.Mq));rw[ja hij]at f;rcases b with b|⟨_,b⟩;rotate_left;(·refine(R.val y j u a f).imp id λ⟨W,L,_⟩=>?_;exfalso;rcases L with⟨q,_⟩|⟨q|q,_⟩<;>(unfold iE at q;rw[r,b]at q;injection q));refine oE (uC.mp b) λk o=>?_;have n:=mw o;rcases R.val y j u a f with q|⟨W,L,rw'⟩;(·exact .inl q);·refine .inr ⟨W,?_,rw'⟩;rcases C.Iu y k n with rfl|rfl|J;(·rcases C.af y n with q|⟨q,_⟩;(·exact absurd q M);·rw[q]at a;injection a);(·refine iT (C.DU y n) λ_ B _ d=>?_;rcases L with⟨q,_⟩|⟨_,c,q1,q2⟩;(·unfold iE at q;rw[r]at q;rcases d with d|d<;>(rw[d]at q;cases q));·refine .inr ⟨?_,c,?_,q2⟩;(·rw[kindOf,o];rcases d with d|d;(·left;rw[d];rfl);·right;rw[d];rfl);·show(i3 env scope.names []).lookup y=aa c;rw[Q y B];exact q1);·rw[J]at a;injection a
end
inductive IS where|e9(l:List V)|eB(i n k:Nat)
noncomputable def IS.nx(st:IS)(h:H):Option (Option (V×IS)):=match st with|.e9 l=>(match l with|[]=>aa ah|v::l=>aa (aa (v,.e9 l)))|.eB i n k=>match n with|0=>ah|n+1=>(aG h i).map λl=>l[k]?.map λv=>(v,.eB i n (k+1))
noncomputable def IS.fT:IS->Nat|.e9 l=>l.length|.eB _ n _=>n
noncomputable def oP(f:V->H->aB PUnit):IS->H->aB PUnit|.e9 l,h=>vw f l h|.eB i n k,h=>qR f i n k h
theorem Xh{f:V->H->aB PUnit}{st:IS}{P:Prop}(e:oP f st h=.ok ⟨⟩ h')(z:st.nx h=aa ah->h'=h->P)(s:∀v g a,st.nx h=aa (aa (v,g))->g.fT<st.fT->f v h=.ok ⟨⟩ a->oP f g a=.ok ⟨⟩ h'->P):P:=by induction st with|e9 l=>(induction l using j4 with|nil=>exact z rfl (by injection e with _ e;exact e.symm)|cons v l=>exact Internal.xG e λu a c d=>s v (.e9 l) a rfl (m4 _) c d)|eB i n k=>induction n using oa with|zero=>injection e|succ n=>have e:(match aG h i with|ah=>(.aM:aB PUnit)|aa l=>match l[k]? with|ah=>.ok ⟨⟩ h|aa v=>(f v h).bind λZ h=>qR f i n (k+1) h)=.ok ⟨⟩ h':=e;cases q:aG h i with|none=>rw[q]at e;injection e|some l=>rw[q]at e;(have j:∀{r},l[k]?=r->(IS.eB i (n+1) k).nx h=aa (r.map λv=>(v,.eB i n (k+1))):=λe=>by show(aG h i).map _=_;rw[q,<-e];rfl);have e:(match l[k]? with|ah=>(.ok ⟨⟩ h:aB PUnit)|aa v=>(f v h).bind λZ h=>qR f i n (k+1) h)=.ok ⟨⟩ h':=e;cases b:l[k]? with|none=>rw[b]at e;exact z (j b) (by injection e with _ e;exact e.symm)|some v=>rw[b]at e;exact Internal.xG e λu a c d=>s v (.eB i n (k+1)) a (j b) (m4 _) c d
section
variable{G:bp}
inductive fj(G:bp)(φ:List am)(h:aQ)(J:am):IS->Prop|e9{l:List V}(x:mP G φ h J l):fj G φ h J (.e9 l)|eB{i n k:Nat}{a:am}(x:h.IsListIter J a k)(f:φ[i]?=aa a):fj G φ h J (.eB i n k)
theorem fj.fJ{φ:List am}{h:aQ}{J:am}{st:IS}(x:fj G φ h J st):∃o,h.get? J=aa o/\o.cls≠.type "tuple"/\o.cls≠.type "function"/\o.cls≠.type "code"/\o.cls≠.type "frame"/\(∀a n,o.data≠.dict a n):=by induction x with|e9 x=>exact x.fJ|eB x f=>exact cu x λo e c d=>⟨o,e,jI c _ rfl,jI c _ rfl,jI c _ rfl,jI c _ rfl,λz z q=>by injection d.symm.trans q⟩
theorem fj.B{φ d:List am}{h h':aQ}{J:am}{st:IS}(c:∀(i:Nat)(a:am),φ[i]?=aa a->d[i]?=aa a)(k:cX h h')(b:∀o,h.get? J=aa o->h'.get? J=aa o)(x:fj G φ h J st):fj G d h' J st:=by induction x with|e9 x=>exact .e9 (x.B c k b)|eB x f=>exact ay x λo e r=>.eB ⟨o,b _ e,r⟩ (c _ _ f)
theorem fj.fR{φ:List am}{h h':aQ}{J:am}{st:IS}(x:fj G φ h J st)(hs:m8 J h h'):cX h h':=λa o e d c=>hs a o (λq=>by subst q;exact uP x.fJ λo' i b f g z=>gX.no (o:=o) (f8 i e▸⟨b,f,g⟩) c) e
theorem fj.zD{φ c:List am}{own:List am}{μ:H}{s s':az}{J:am}{st:IS}(x:fj G φ s.heap J st)(i:aK G φ μ s.heap)(a:cy G own φ s c s')(h:cX s.heap s'.heap)(g:J∉own++φ)(b:J≠G.P/\J≠G.Lb):fj G c s'.heap J st:=x.B a.eB h λo e=>by exact xJ x.fJ λo' f z z z d z=>a.2.1.keep J _ g b.1 b.2 e λq=>absurd (f8 f e▸q) d
theorem CD(OK:cL G){s:az}{A:bq}{E:aq->az->Prop}{Q:Option aq->az->Prop}(F:A.handled=ah)(p:aK G φ μ s.heap)(j:J∉φ/\G.h₀.get? J=ah/\J≠G.P/\J≠G.Lb){st:IS}(x:fj G φ s.heap J st)(g:st.nx μ=aa r)(C:r=ah->∀h',m8 J s.heap h'->Q ah {s with heap:=h'})(D:∀v R,r=aa (v,R)->∀h' t w,cy G [J] φ s φ {s with heap:=h',toks:=t}->aK G φ μ h'->cX s.heap h'->aA G φ h' v w->fj G φ h' J R->Q (aa w) {s with heap:=h',toks:=t}):aJ (aU G.aE G.w) A (pyNext (.ref J)) Q E s:=by induction x with|@e9 l x=>(induction l using j4 with|nil=>injection g with q;subst q;exact Z4 F x (C rfl)|cons v l=>injection g with q;subst q;exact R5 OK p j x λh' t w a b c d e=>D v _ rfl h' t w a b c d (.e9 e))|@eB i n k a x f=>induction n using oa with|zero=>injection g|succ n=>refine ay (pi.mp g) λl q g=>qJ p f q λvs m Z L N=>?_;cases u:l[k]? with|none=>rw[u]at g;exact wpAny_pyNext_list_end F x L (by rw[OB];exact ro (N.length▸Gg.mp u)) (C g.symm)|some v=>rw[u]at g;refine ay (N.cp u) λw U W=>wpAny_pyNext_list_item x L (OB.trans U) λh' M hs=>?_;have c:cR G [J] s.heap h':=.same hs j.2.2.2.symm (ay M λo e Z=>⟨o,e⟩);have y:cX s.heap h':=(fj.eB (G:=G) (n:=0) x f).fR hs.extBut;have B:=c.aH (own:=[J]) (tk:=s.toks) p (λa h=>ma _ h) [] kq;rw[iD]at B;exact D v _ g.symm h' s.toks w B (p.tz OK.lb c (jA (P:=λa=>a∉φ/\G.h₀.get? a=ah/\a≠G.P) ⟨j.1,j.2.1,j.2.2.1⟩) y) y (W.B (λZ Z z=>z) y) (.eB M f)
theorem aK.Qp{φ:List am}{μ:H}{s:az}{J:am}{h':aQ}(a:aK G φ μ s.heap){st:IS}(x:fj G φ s.heap J st)(b:J∉φ/\G.h₀.get? J=ah/\J≠G.P/\J≠G.Lb)(hs:m8 J s.heap h'):aK G φ μ h':=a.extBut b (x.fR hs) hs
end
section
variable{G:bp}{cl:Fn->List V->H->aB V}{n:Nat}{sl:Sl}{sc:List (aD×cK)}
theorem tF{a:Type}{M:jN}{A:bq}{t:Sem a}{Q:a->az->Prop}{E:aq->az->Prop}{s:az}(h:∀b:a->az->Prop,(∀x s,Q x s->b x s)->aJ M A t b E s):aJ M A t Q E s:=h Q λZ Z z=>z
theorem Az(x:h.Ns C m)(hs:m8 C h h'):cX h h':=λa o e d c=>hs a o (λq=>by subst q;exact fW x λo' i g f b z=>d.1 _ _ (f8 f e▸b)) e
variable(OK:cL G)
include OK
structure zN(G:bp)(φ₀:List am)(s₀:az)(ai:Nat)(D J C:am)(φ:List am)(μ:H)(s:az):Prop where
 aH:c7 G φ₀ s₀ φ s
 cf:aK G φ μ s.heap
 bT:φ[ai]?=aa D
 jφ:J∉φ
 cφ:C∉φ
 Kf:∃m,s.heap.Ns C m
theorem Pj{A:bq}{env:bP}{F:List V}{M:List am}{p:az}{μ₀:H}(hR:jf A n)(hsc:env.scope.names=sc)(r:dQ G A env sl F M μ₀ p){j:dY}{x:aD}{i:Nat}(CF:zv sl sc j x i){e:CE}{elt iter:aO}{px pos:be}(he:SE G cl n (oo sl sc j) (nF sc j) e elt){D J C:am}{ai:Nat}(hJ:p.heap.get? J=ah)(hC:p.heap.get? C=ah)(hJC:J≠C)(Z:G.h₀.get? J=ah/\J≠G.P/\J≠G.Lb)(hC0:G.h₀.get? C=ah/\C≠G.P/\C≠G.Lb)(hC1:G.h₀.objs.size<=C){μF:H}{R:sV->az->Prop}(hQ:∀φ s,c7 G M p φ s->aK G φ μF s.heap->φ[ai]?=aa D->J∉φ->C∉φ->(∃m,s.heap.Ns C m)->R (.ok .next) s):∀(l:IS)(φ:List am)(μ:H)(s:az),zN G M p ai D J C φ μ s->fj G φ s.heap J l->oP (λv h'=>(ax cl e (F.set i v) h').bind λw h'=>jy ai w h') l μ=.ok ⟨⟩ μF->kL (aU G.aE G.w) A (.compLoop (.ListComp elt [⟨.Name x px,iter,[],0⟩] j pos) 0 (.ref J) (.ref D) (yI j (i3 env j.names []) C env)) R s:=by
 refine ay (show∃T:Nat->az->Prop,(∀l φ μ s,zN G M p ai D J C φ μ s->fj G φ s.heap J l->oP (λv h'=>(ax cl e (F.set i v) h').bind λw h'=>jy ai w h') l μ=.ok ⟨⟩ μF->T l.fT s)/\∀k s(P:Prop),T k s->(∀(l:IS)φ μ,l.fT=k->zN G M p ai D J C φ μ s->fj G φ s.heap J l->oP (λv h'=>(ax cl e (F.set i v) h').bind λw h'=>jy ai w h') l μ=.ok ⟨⟩ μF->P)->P from⟨λk s=>∃(l:IS)(φ:List am)(μ:H),l.fT=k/\zN G M p ai D J C φ μ s/\fj G φ s.heap J l/\oP (λv h'=>(ax cl e (F.set i v) h').bind λw h'=>jy ai w h') l μ=.ok ⟨⟩ μF,λl φ μ s a b c=>⟨l,φ,μ,rfl,a,b,c⟩,λk s P x f=>oW x f⟩) λT mk el=>?_;intro l φ μ s d it hl;refine codeAny_compLoop_list T (λk s xT=>el k s _ xT λl φ μ ek d it hl=>tF λK B=>?_) l.fT (mk l φ μ s d it hl);have jj:∀{φ:List am},J∉φ->J∉φ/\G.h₀.get? J=ah/\J≠G.P/\J≠G.Lb:=λh=>⟨h,Z.1,Z.2.1,Z.2.2⟩;refine Xh hl (λhn e0=>?_) λv l' μ2 hn hlt hf q3=>?_;·subst e0;refine CD OK r.hh d.cf (jj d.jφ) it hn (λ_ h' hs=>B _ _ ?_) (λ_ _ q=>by injection q);exact hQ φ _ (d.aH.extBut (t:=s.toks) hJ hs) (d.cf.extBut (jj d.jφ) (it.fR hs) hs) d.bT d.jφ d.cφ (oE d.Kf λm x=>gM x λo es ep e1 r1=>⟨m,o,es,ep,hs _ _ hJC.symm e1,r1⟩)
 ·refine Internal.xG hf λw μ1 q1 g=>CD OK r.hh d.cf (jj d.jφ) it hn (λq=>by injection q) λv' l'' q Y t1 wv a1 S1 k1 rv it1=>B _ _ (tF λK B=>?_);cases q;have A1:c7 G M p φ {s with heap:=Y,toks:=t1}:=d.aH.lM a1 λb hb hne=>absurd hJ (dq.mp hb▸hne);refine oE d.Kf λm hm=>?_;have hn1:Y.Ns C m:=a1.2.1.ns C m (λq=>(d6.mp q).elim (rY hJC.symm) d.cφ) hm;(have hkx:(yI j (i3 env j.names []) C env).kindOf x=aa .local:=by show(wh j env).names.lookup x=_;rw[DZ r.env.kind hsc];unfold nF;rw[DA,CF.zy];rfl);refine GF (wpAny_storeName_local hkx hn1 (λU hn2 hs2=>B _ _ (tF λK B=>?_)) (by show(j.kind==.class||(j.kind==.module&&_))=au;rw[CF.kind];rfl));have c2:cR G [C] Y U:=.same hs2 hC0.2.2.symm (gM hn2 λo _ _ e _=>⟨o,e⟩);have k2:cX Y U:=Az hn1 hs2.extBut;have S2:aK G φ μ U:=S1.tz OK.lb c2 (jA (P:=λa=>a∉φ/\G.h₀.get? a=ah/\a≠G.P) ⟨d.cφ,hC0.1,hC0.2.1⟩) k2;have a2:=c2.aH (s:={s with heap:=Y,toks:=t1}) (own:=[C]) (tk:=t1+1) S1 (λa h=>ma _ h) [] kq;rw[iD]at a2;have A2:c7 G M p φ {s with heap:=U,toks:=t1+1}:=A1.lM a2 λb hb hne=>absurd hC (dq.mp hb▸hne);have R2:=r.env.aH r.cf A2;have it2:fj G φ U J l':=it1.B (λ_ _ z=>z) k2 λo e=>hs2.extBut _ _ hJC e;have RC:=Sg CF hsc R2 hn2 (if_pos rfl) (rv.B (λ_ _ z=>z) k2) d.cφ hC1 λy c e q=>pO (r.env.hV y c e) λ_ _ u hu=>CL hu (q▸hC);refine he A _ _ φ μ {s with heap:=U,toks:=t1+1} _ _ hR (DZ r.env.kind hsc) ⟨S2,RC,r.fr.aH A2,r.hh⟩ ?_;rw[q1];refineλφ3 s3 wx N S3 rx=>B _ _ (tF λK B=>?_);have acc3:φ3[ai]?=aa D:=N.eB ai D d.bT;have jφ3:J∉φ3:=oJ N d.jφ (ay it2.fJ λo e _=>kW e);have cφ3:C∉φ3:=oJ N d.cφ (pR hn2);have hn3:s3.heap.Ns C _:=N.2.1.ns C _ d.cφ hn2;have it3:fj G φ3 s3.heap J l':=it2.zD S2 N (S2.fR N dX) d.jφ Z.2;unfold jy at g;cases q4:aG μ1 ai with|none=>rw[q4]at g;injection g|some W=>rw[q4]at g;have g:(if W.length<cM then .ok ⟨⟩ (μ1.set ai (.list (W++[w])))else .aM)=aB.ok vU μ2:=g;by_cases hlen:W.length<cM;(·rw[if_pos hlen]at g;injection g with _ g;subst g;refine HJ OK (L:=ah) (m:=.fF) (l:=[w]) (ws:=[wx]) S3 acc3 q4 (.cons rx .nil) ?_;show aY G ah _ _ (gd (aZ (W.length<cM)) (.ok .none (μ1.set ai (.list (W++[w]))))) _ _;rw[qY hlen];exactλφ4 s4 u Q S4 _=>B _ _ ⟨l'.fT,ek▸hlt,mk l' φ4 _ s4 ⟨(A2.trans N).trans Q,S4,Q.eB ai D acc3,oJ Q jφ3 (ay it3.fJ λo e _=>kW e),oJ Q cφ3 (pR hn3),⟨_,Q.2.1.ns C _ cφ3 hn3⟩⟩ (it3.zD S3 Q (S3.fR Q dX) jφ3 Z.2) q3⟩);·rw[if_neg hlen]at g;injection g
end
section
variable{G:bp}{cl:Fn->List V->H->aB V}{n:Nat}{sl:Sl}{sc:List (aD×cK)}
theorem Tl{φ:List am}{s:az}{A:bq}{Q:aq->az->Prop}{E:aq->az->Prop}{J:am}{st:IS}(x:fj G φ s.heap J st)(h:Q (.ref J) s):aJ (aU G.aE G.w) A (pyIter (.ref J)) Q E s:=by induction x with|e9 x=>(induction x with|Z i _ _=>exact wpAny_pyIter_tupleiter i h|pL i _=>exact wpAny_pyIter_rangeiter i h)|eB x _=>exact wpAny_pyIter_listiter x h
theorem Rj(h:mG sl sc a x i=aj):∀y∈a.names,y.2≠.cell:=by unfold mG at h;simp only[cI,fN,pj,beq_iff_eq,bne_iff_ne,ne_eq,OC]at h;rintro⟨y,k⟩b e;simp only at e;subst e;rcases h.2 _ b with(⟨e,_⟩|⟨⟨⟨⟨e,_⟩,_⟩,_⟩,_⟩)|⟨e,_⟩<;>injection e
theorem aK.vr(a:aK G φ μ h):h.objs.size∉φ/\G.h₀.get? h.objs.size=ah/\h.objs.size≠G.P/\h.objs.size≠G.Lb:=by
 have b:h.get? h.objs.size=ah:=lH (cF _);have c:h.objs.size∉φ:=λq=>by refine ay (a.own q) λg e z=>?_;rw[b]at e;injection e
 have d:h.objs.size≠G.P:=λq=>by refine oE a.nw λps e=>?_;rw[<-q,b]at e;injection e
 have f:h.objs.size≠G.Lb:=λq=>by refine xm a.lb λm o' z z e z=>?_;rw[<-q,b]at e;injection e
 refine(nN c ?_ d f);induction q:G.h₀.get? h.objs.size with|none=>rfl|some o'=>have:=a.eJ _ _ q;rw[b]at this;injection this
theorem rQ{h:aQ}:(h.push o).objs.size=h.objs.size+1:=by simp[Heap.push]
theorem aK.LZ(a:aK G φ μ h)(OK:cL G):G.h₀.objs.size<=h.objs.size:=by refine xm a.lb λm o c b e z=>?_;exact di OK.Lb (hG (md e))
noncomputable def IF(G:bp)(cl:Fn->List V->H->aB V)(e:CE)(i:Nat)(F:List V)(st:IS)(d:List am)(a:H)(c:az)(P:am->am->List am->az->Prop):Prop:=∃b,oP (λv h'=>(ax cl e (F.set i v) h').bind λw h'=>jy a.length w h') st (a++[.list []])=.ok ⟨⟩ b/\∀D C φ s,c7 G d c φ s->aK G φ b s.heap->φ[a.length]?=aa D->P D C φ s
theorem Nd{e:CE}{i:Nat}{F:List V}{st:IS}{g:List am}{c:H}{d:az}{A:bq}{L:Option am}{Q:aq->az->Prop}{E:aq->az->Prop}(OK:cL G)(b:aY G L g d ((pK (oP (λv h'=>(ax cl e (F.set i v) h').bind λw h'=>jy c.length w h') st (c++[.list []]))).bind λz h'=>.ok (.ref c.length) h') Q E):IF G cl e i F st g c d (λD C φ s=>C∉φ->G.h₀.get? C=ah/\C≠G.P/\C≠G.Lb->d.heap.get? C=ah->(∃m,s.heap.Ns C m)->B6 (aU G.aE G.w) A E ah Q (.ref D) C (.ok .next) s):=by induction q:oP (λv h'=>(ax cl e (F.set i v) h').bind λw h'=>jy c.length w h') st (c++[.list []])with|aM=>rw[q]at b;exact b.elim|ex x p=>rw[q]at b;exact b.elim|ok u o=>rw[q]at b;refine⟨o,q,λD C φ s a h e j k l⟨m,f⟩=>⟨m,f,λh' hs=>?_⟩⟩;have n:=Az f hs.extBut;exact b φ _ _ (cy.extBut (s₁:=s) (t:=s.toks) a l hs.extBut) (aK.extBut (s:=s) h ⟨j,k⟩ n hs.extBut) (bC _ e rfl)
variable(OK:cL G)
include OK
theorem Cp{A:bq}{env:bP}{F:List V}{f:List am}{c:az}{g:H}(hR:jf A n)(hsc:env.scope.names=sc)(w:dQ G A env sl F f g c){scope:dY}{x:aD}{i:Nat}(N:mG sl sc scope x i=aj){e:CE}{p U:aO}{W pos:be}(he:SE G cl n (oo sl sc scope) (nF sc scope) e p){d:cE}(hf:d.isFreed=au){st:IS}(it:fj G f (c.heap.push d) c.heap.objs.size st){Y:Option (aq->Sem Unit)}{Q:aq->az->Prop}{E:aq->az->Prop}(t:IF G cl e i F st f g c (λD C φ s=>C∉φ->G.h₀.get? C=ah/\C≠G.P/\C≠G.Lb->c.heap.get? C=ah->(∃m,s.heap.Ns C m)->B6 (aU G.aE G.w) A E Y Q (.ref D) C (.ok .next) s)):aJ (aU G.aE G.w) A (B7 []) (λB s₃=>aJ (aU G.aE G.w) A (B8 scope env.globals (i3 env scope.names []) [] env.qual ah .none (aa env)) (λJ s₄=>kL (aU G.aE G.w) A (.compStart (.ListComp p [⟨.Name x W,U,[],0⟩] scope pos) 0 (.ref c.heap.objs.size) B {J with scope:=wh scope env}) (B6 (aU G.aE G.w) A E Y Q B J.locals) s₄) E s₃) E {c with heap:=c.heap.push d}:=by
 have v:=Cx N;refine ay t λμF q t=>?_;refine wpAny_newList ?_;refine wpAny_newFunctionEnv (Rj N) (by simp) (λh' hn hs=>?_) v.kind;show kL (aU G.aE G.w) A (.compStart (.ListComp p [⟨.Name x W,U,[],0⟩] scope pos) 0 (.ref c.heap.objs.size) (.ref (c.heap.push d).objs.size) (yI scope (i3 env scope.names []) _ env)) _ _;have h:=w.cf;have l:aK G f g (c.heap.push d):=h.jF OK.lb (.push _ _ _);have c2:cR G [] (c.heap.push d) ((c.heap.push d).push {cls:=.type "list",data:=.seq ([]:List aq).toArray}):=.push _ _ _;have S1':aK G f g ((c.heap.push d).push {cls:=.type "list",data:=.seq ([]:List aq).toArray}):=l.jF OK.lb c2;have j:=l.vr;have z:aK G (f++[(c.heap.push d).objs.size]) (g++[.list []]) ((c.heap.push d).push {cls:=.type "list",data:=.seq ([]:List aq).toArray}):=S1'.new j.1 j.2.1 j.2.2.1 j.2.2.2 ⟨[],0,kO _ rfl,.nil⟩;have k:=z.vr;have r:∀b o,((c.heap.push d).push {cls:=.type "list",data:=.seq ([]:List aq).toArray}).get? b=aa o->h'.get? b=aa o:=λb o e=>by have hb:b≠((c.heap.push d).push {cls:=.type "list",data:=.seq ([]:List aq).toArray}).objs.size:=l9 (md e);exact(hs.2 b hb).trans (jE _ e)
 have c3:cR G [] ((c.heap.push d).push {cls:=.type "list",data:=.seq ([]:List aq).toArray}) h':=.nr r _;have S3:=z.jF OK.lb c3;have ge0:∀b o,c.heap.get? b=aa o->h'.get? b=aa o:=λb o e=>r b o (jE _ (jE _ e));have L:∀b o,(c.heap.push d).get? b=aa o->h'.get? b=aa o:=λb o e=>r b o (jE _ e);have c0:cR G [] c.heap h':=.nr ge0 _;have u:c7 G f c (f++[(c.heap.push d).objs.size]) {c with heap:=h',toks:=c.toks+0}:=c0.aH h (by simp) _ (λa M=>by simp only[dq]at M;subst M;exact lH (by simp only[rQ];exact eN _ _));have R:fj G (f++[(c.heap.push d).objs.size]) h' c.heap.objs.size st:=it.B u.eB ((cR.nr L []).fR (G:=G) l (by simp)) λo e=>L _ _ e;have y:=h.vr;have Z:c.heap.objs.size∉f++[(c.heap.push d).objs.size]:=λq=>by rcases d6.mp q with q|q;(·exact y.1 q);·simp only[dq,rQ]at q;lia
 have hCn:c.heap.get? ((c.heap.push d).push {cls:=.type "list",data:=.seq ([]:List aq).toArray}).objs.size=ah:=lH (by simp only[rQ];lia);have hJn:c.heap.get? c.heap.objs.size=ah:=lH (cF _);refine codeAny_compStart_list ?_ (Tl (G:=G) (φ:=f++[(c.heap.push d).objs.size]) R ?_);all_goals refine Pj OK hR hsc w v he (ai:=g.length) hJn (lH (by simp only[rQ];lia)) (l9 (by simp only[rQ];exact eN _ _)) y.2 k.2 ?_ (λφ s a S e hJ hC hm=>?_) st _ _ _ ⟨u,S3,?_,Z,k.1,⟨_,hn⟩⟩ R q;(·exact di (di (h.LZ OK) (lE _)) (by simp only[rQ];exact eN _ _));(·exact t _ _ φ s a S e hC k.2 hCn hm);·rw[<-h.bN];simp
end
noncomputable def nE:sA->H->Option IS|.e9 l,_=>aa (.e9 l)|.aW i,h=>(aG h i).map λl=>.eB i (l.length+1) 0
theorem J4:xN f a h=match nE a h with|aa st=>oP f st h|ah=>.aM:=by induction a with|e9 l=>rfl|aW i=>simp only[xN,nE];cases aG h i<;>rfl
section
variable{G:bp}{cl:Fn->List V->H->aB V}{n:Nat}{sl:Sl}{sc:List (aD×cK)}
theorem Cz{φ:List am}{μ:H}{s:az}{A:bq}{Q:aq->az->Prop}{E:aq->az->Prop}{v:V}{w:aq}{d:sA}{st:IS}(c:aK G φ μ s.heap)(r:aA G φ s.heap v w)(hi:oC v=aa d)(hs:nE d μ=aa st)(h:∀b:cE,b.isFreed=au->fj G φ (s.heap.push b) s.heap.objs.size st->Q (.ref s.heap.objs.size) {s with heap:=s.heap.push b}):aJ (aU G.aE G.w) A (pyIter w) Q E s:=by have k:∀o,cX s.heap (s.heap.push o):=λo=>cR.fR (G:=G) c (.push _ _ []) (by simp);induction v using V.casesOn with|Z l=>injection hi with q;subst q;injection hs with q;subst q;refine cG r ?_;(try clear r;rintro a vs rfl g n);refine wpAny_pyIter_tuple ⟨_,g,rfl,_,rfl⟩ (h _ rfl (.e9 (.Z ⟨_,kO _ rfl,rfl,rfl⟩ (jE _ g) (n.B (λZ Z z=>z) (k _)))))|ref i=>injection hi with q;subst q;simp only[nE,pi]at hs;refine ay hs ?_;(try clear hs;rintro l e rfl);refine BM (Y0 c r e) ?_;rintro a vs m f rfl g j p;refine wpAny_pyIter_list ⟨_,j,rfl,_,rfl⟩ (h _ rfl (.eB ⟨_,kO _ rfl,rfl,rfl⟩ f))|_=>injection hi
theorem Jh{φ:List am}{μ:H}{s:az}{v:V}{w:aq}{b:sA}{os:H}(c:aK G φ μ s.heap)(r:aA G φ s.heap v w)(hi:oC v=aa b):nE b (μ++os)=nE b μ:=by induction v using V.casesOn with|Z l=>injection hi with q;subst q;rfl|ref i=>injection hi with q;subst q;refine ay r ?_;(try clear r;rintro a f rfl);have:i<μ.length:=c.bN▸(dH.mp f).1;simp only[nE,aG,nY this]|_=>injection hi
variable(OK:cL G)
include OK
omit OK in theorem H0{A:bq}(o:env.scope.names=sc)(l:dQ G A env sl F φ μ s)(n:mG sl sc scope x i=aj)(m:∀y,yJ a env y=dG y){E:aq->az->Prop}(h:aJ (aU G.aE G.w) A (gn a env) (λv s₁=>aJ (aU G.aE G.w) A (pyIter v) (λit r=>aJ (aU G.aE G.w) A (B7 []) (λd t=>aJ (aU G.aE G.w) A (B8 scope env.globals (i3 env scope.names []) [] env.qual ah .none (aa env)) (λf u=>kL (aU G.aE G.w) A (.compStart (.ListComp j [⟨.Name x c,a,[],0⟩] scope pos) 0 it d {f with scope:=wh scope env}) (B6 (aU G.aE G.w) A E ah Q d f.locals) u) E t) E r) E s₁) E s):aJ (aU G.aE G.w) A (gn (.ListComp j [⟨.Name x c,a,[],0⟩] scope pos) env) Q E s:=by
 have b:=Cx n;rw[eval_ListComp];refine abR (g:=⟨.Name x c,a,[],0⟩) (gs:=[]) rfl m (Mi (Bf b o l.env)) b.kind (λy p e=>?_) h;obtain⟨y,k⟩:=y;simp only at e;subst e;rcases b.af y p with q|⟨_,q⟩;·rw[q];exact b.zy
 ·exact q
theorem U1(l:mG sl sc b x i=aj)(t:∀env y,yJ g env y=dG y)(hi:SE G cl n sl sc it g)(o:SE G cl n (oo sl sc b) (nF sc b) e j):SE G cl n sl sc (.lc e i it) (.ListComp j [⟨.Name x z,g,[],0⟩] b pos):=λA env F φ μ s Q E k f c a=>by refine H0 f c l (t env) (hi A env F φ μ s _ E k f c (aY.bh a λv B D s₁ w m d r a=>?_));induction q:oC v with|none=>rw[q]at a;exact a.elim|some u=>rw[q]at a;simp only at a;rw[J4,Jh d r q]at a;induction h:nE u B with|none=>rw[h]at a;exact a.elim|some st=>rw[h]at a;exact Cz d r q h λC p x=>Cp OK k f (c.aH m d) l o p x (Nd OK a)
theorem Iq(l:sc.lookup (bz "range")=aa .globalImplicit)(g:dR d=aj)(m:SE G cl n sl sc e d){A:bq}(k:jf A n)(j:env.scope.names=sc)(f:dQ G A env sl F φ μ s){E:aq->az->Prop}(h:aY G env.frame φ s (ax cl e F μ) (λw s₁=>∃i t,w=.int i t/\Q (.ref s₁.heap.objs.size) {s₁ with heap:=s₁.heap.push {cls:=.type "range",data:=.fields #[.int 0 s₁.toks,.int i t,.int 1 (s₁.toks+1)]},toks:=s₁.toks+1+1}) E):aJ (aU G.aE G.w) A (gn (.Call (.Name (bz "range") p) [d] [] pos) env) Q E s:=by
 rw[tW rfl];refine bM (tw OK (x:="range") (v:=.type "range") (by simp) (by kernel_rfl) (by decide) (by decide) j l f ?_);have o:[d].all dR=aj:=by rw[m7,g];rfl
 refine GB (kY o) ?_;rw[lP g];refine v8 (rA (m A env F φ μ s _ E k j f ?_));induction q:ax cl e F μ with|ok v u=>rw[q]at h;intro y s' w a b c;refine gw (h y s' w a b c) ?_;rintro i t rfl r;refine vZ ?_;exact call_range_1 r|ex x u=>rw[q]at h;exact h|aM=>rw[q]at h;exact h
theorem RL(y:mG sl sc b x i=aj)(D:sc.lookup (bz "range")=aa .globalImplicit)(L:dR g=aj)(J:SE G cl n sl sc o g)(C:SE G cl n (oo sl sc b) (nF sc b) e q):SE G cl n sl sc (.o4 e i o) (.ListComp q [⟨.Name x N,.Call (.Name (bz "range") p) [g] [] M,[],0⟩] b pos):=λA env F φ μ s Q E u j d a=>by refine H0 j d y (λZ=>rfl) (Iq OK D L J u j d (aY.bh a λv U z s₁ w aH f r a=>?_));induction v using V.casesOn with|int m=>simp only at a;by_cases h:small m=aj;(·rw[if_pos h]at a;refine oE r ?_;(try clear r;rintro t rfl);refine(iM m t rfl ?_);have R:=of_decide_eq_true h;have c:cR G [] s₁.heap (s₁.heap.push {cls:=.type "range",data:=.fields #[.int 0 s₁.toks,.int m t,.int 1 (s₁.toks+1)]}):=.push _ _ _;have l:c7 G z s₁ z {s₁ with heap:=s₁.heap.push {cls:=.type "range",data:=.fields #[.int 0 s₁.toks,.int m t,.int 1 (s₁.toks+1)]},toks:=s₁.toks+1+1}:=c.pp f;have B:=f.jF OK.lb c;refine OD (kO _ rfl) (small_one (by decide) (by decide) (by lia) (by lia)) ?_;refine Cp OK u j ((d.aH aH f).aH l B) y C rfl (st:=.e9 (jQ m)) (.e9 (.pL (kO _ rfl) ?_)) (Nd OK (aY.aH l a));rw[rangeSize_nat,jC,Int.sub_zero];unfold jQ;refine uA λk Z=>?_;simp);·rw[if_neg h]at a;exact a.elim|_=>exact a.elim
end
theorem aax{A:bq}{E:aq->az->Prop}(g:s.heap.Ns a m)(h:∀h',h'.Ns a (λx=>if x=b then aa v else m x)->vV a s.heap h'->(mO s.heap a->mO h' a)->Q () {s with heap:=h',toks:=s.toks+1}):aJ M A (nsSet a b v) Q E s:=λz p Z=>by have k:=Sem.wp_nsSet M z (λe Z s'=>E e s') p s g b v (λZ Z s'=>s'.heap.Ns a (λx=>if x=b then aa v else m x)/\vV a s.heap s'.heap) (λh' x y=>⟨x,y⟩);refine oW g λo u r ho f D L=>?_;(try clear g);simp only[nsSet,strHash,Sem.wp_bind',Sem.wp_cmd_ask,Sem.wp_pure',Sem.wp_cmd_mkText]at k⊢;rw[Sem.wp_loadPart_of M z _ p {s with toks:=s.toks+1} (o:=o) _ ho]at k⊢;(have B:u.any (·.refKey)=au:=by rw[Array.any_eq_false'];intro e C;refine xS (D e C) λn t h=>?_;simp[DictEntry.refKey,h]);simp only[f,aRefKeyMayBeTheName_eq,aRefKeyMayBeTheNameByArray,B,Bool.and_false,wf,if_false,Sem.wp_cmd_updatePart]at k⊢;refine⟨k.1,h _ k.2.1 k.2.2 λw=>?_⟩;refine fW w λo' J N l j F=>?_;(try clear w);rw[ho]at l;injection l with q;subst q;obtain⟨c,d,G,sl⟩:=o;simp only at j f;subst f j;induction hi:u.findIdx? (·.key.isStr b)with|some i=>exact⟨_,_,r,rB _ ho (by simp only[yK,yL,hi];rfl),by simp only[yK,yL,hi],by simp only[yK,yL,hi];rfl⟩|none=>exact⟨_,_,r+1,rB _ ho (by simp only[yK,yL,hi];rfl),by simp only[yK,yL,hi],by simp only[yK,yL,hi];rfl⟩
section
variable{G:bp}{sl:Sl}
theorem uO{h:aQ}{m:aD->Option aq}(x:h.IsCell c v)(y:h.Ns a m):c≠a:=by
 rintro rfl;refine ay x λo e d=>?_;try clear x
 refine fW y λo' i g f b z=>?_;try clear y
 rw[e]at f;injection f with q;subst q;rw[d]at b;injection b
theorem EI(e:env.cells.lookup y=aa c):c∈fv env:=iR _ (gO.mpr (bC (y,c) (mw e) rfl))
theorem JG{F:List V}(f:(F.set i v)[i]?=aa u):u=v:=by
 by_cases hi:i<F.length;·rw[ph hi]at f;injection f with q;subst q;rfl
 ·rw[ro (by rw[vL];exact rg (by assumption))]at f;injection f
theorem fK.nU{A:bq}{env:bP}{s s':az}(R:fK G A φ s.heap)(x:cy G (fv env) φ s d s')(h:env.frame=aa env.locals)(g:∀c∈env.cells.map (·.2),∃v,s.heap.IsCell c v)(f:dZ G sl env F d s'.heap):fK G A d s'.heap:=R.kD x λb a z z z z z m i z=>by rcases gQ.mp a with rfl|a;(·refine iF f.fr λL l e j z z c=>?_;rw[h]at e;injection e with q;subst q;exact⟨⟨_,j⟩,c⟩);·refine oE (g b a) λv k=>?_;exact absurd rfl (uO k i)
variable(OK:cL G)
include OK
theorem Hw{A:bq}{env:bP}{F:List V}{s:az}{x:aD}{Q:Unit->az->Prop}{E:aq->az->Prop}(hx:sl.lookup x=aa i)(p:env.kindOf x=aa .local\/env.kindOf x=aa .cell)(M:aK G φ μ s.heap)(R:dZ G sl env F φ s.heap)(r:aA G φ s.heap v w)(h:∀h' t,cy G (fv env) φ s φ {s with heap:=h',toks:=t}->aK G φ μ h'->dZ G sl env (F.set i v) φ h'->Q () {s with heap:=h',toks:=t}):aJ (aU G.aE G.w) A (uF env x w) Q E s:=by
 refine oE R.af.1 λm N=>?_;have hL0:G.h₀.get? env.locals=ah:=by induction q:G.h₀.get? env.locals with|none=>rfl|some o=>exact absurd (md q) (sR.mpr R.af.2.2)
 rcases p with p|p;·rw[storeName_local p (by rw[R.kind];rfl)];refine aax N (λh' B hs hfr=>?_);have c:cR G [env.locals] s.heap h':=⟨λb o hb _ e=>(hs.2 b (by simpa using hb)).trans e,λhL m x=>x.sameBut hs (λq=>hL (by rw[q];simp)),λ⟨m,x⟩=>by by_cases q:G.Lb=env.locals;(·rw[q];exact⟨_,B⟩);·exact⟨m,x.sameBut hs q⟩,λb o hb e=>by simp only[dq]at hb;subst hb;refine gM B λo _ _ e _=>?_;try clear B;exact⟨o,e⟩⟩;have k:cX s.heap h':=Az N hs.extBut;(have ad:cy G (fv env) φ s φ {s with heap:=h',toks:=s.toks+1}:=by have:=c.aH (own:=fv env) (tk:=s.toks+1) M (λa l=>by simp only[dq]at l;subst l;exact ma _ (je ..)) [] (by simp);rwa [iD]at this);refine h h' _ ad (M.tz OK.lb c (λa l=>by simp only[dq]at l;subst l;exact⟨R.af.2.1,hL0,M.wY N⟩) k) ?_;(have W:∀y c,env.cells.lookup y=aa c->∀v,s.heap.IsCell c v->h'.IsCell c v:=λy c e v Z=>by refine ay Z λo eo d=>?_;(try clear Z);exact⟨o,(hs.2 c (uO ⟨o,eo,d⟩ N)).trans eo,d⟩);refine⟨R.kind,R.mW,R.bi,?_,⟨⟨_,B⟩,R.af.2⟩,λy c e=>let⟨a,b,u,hu⟩:=R.hV y c e;⟨a,b,u,W y c e u hu⟩,R.uu,R.name,R.snd,λy j u e f=>?_⟩;(·refine iF R.fr λL mL e Y a b c=>?_;by_cases q:L=env.locals;(·subst q;exact⟨_,_,e,B,a,b,c.imp id hfr⟩);·exact⟨L,mL,e,Y.sameBut hs q,a,b,c.imp id λ⟨o,es,n,e,z⟩=>⟨o,es,n,(hs.2 L q).trans e,z⟩⟩);·by_cases g:y=x;(·subst g;rw[hx]at e;injection e with q;subst q;rw[JG f];exact .inr ⟨w,.inl ⟨p,_,B,by simp⟩,r.B (λ_ _ z=>z) k⟩);·have hij:i≠j:=λq=>g (R.snd y x j e (q▸hx));rw[ja hij]at f;refine(R.val y j u e f).imp id λ⟨w',hw,rw'⟩=>⟨w',?_,rw'.B (λ_ _ z=>z) k⟩;rcases hw with⟨q,m',C,J⟩|⟨q,c,C,J⟩;(·rw[IM C N]at J;exact .inl ⟨q,_,B,by simp only[if_neg g];exact J⟩);·exact .inr ⟨q,c,C,W y c C _ J⟩
 ·rcases R.name x i hx with q|⟨_,q⟩|q;(·rw[p]at q;cases q);rotate_left;(·rw[p]at q;injection q);refine oE (uC.mp q) λc U=>?_;refine pO (R.hV x c U) λcφ cle u₀ D=>?_;(have hc0:G.h₀.get? c=ah:=by induction q:G.h₀.get? c with|none=>rfl|some o=>exact absurd (md q) (sR.mpr cle));refine wpAny_storeName_cell R.kind p U D (λh' hc' hs=>?_);refine oE M.lb λmL hmL=>?_;have cl:c≠env.locals:=uO D N;have ch:cR G [c] s.heap h':=.same hs (hH (uO D hmL)) (let⟨o,e,_⟩:=hc';⟨o,e⟩);(have k:cX s.heap h':=λa o e d cc=>by by_cases q:a=c;(·subst q;exfalso;refine ay D λo' e' d'=>?_;(try clear D);rw[e]at e';injection e' with q;subst q;exact d.2 _ d');·exact(hs.2 a q).trans e);(have ad:cy G (fv env) φ s φ {s with heap:=h',toks:=s.toks}:=by have:=ch.aH (own:=fv env) (tk:=s.toks) M (λa l=>by simp only[dq]at l;subst l;exact ma _ (EI U)) [] (by simp);rwa [iD]at this);refine h h' _ ad (M.tz OK.lb ch (λa l=>by simp only[dq]at l;subst l;exact⟨cφ,hc0,M.FQ D⟩) k) ?_;(have W:∀y d,env.cells.lookup y=aa d->y≠x->∀v,s.heap.IsCell d v->h'.IsCell d v:=λy d e g v Z=>by refine ay Z λo eo dd=>?_;(try clear Z);exact⟨o,(hs.2 d (λq=>g (R.uu y x d e (q▸U)))).trans eo,dd⟩);have B:=N.sameBut hs (hH cl);refine⟨R.kind,R.mW,R.bi,?_,⟨⟨_,B⟩,R.af.2⟩,λy d e=>?_,R.uu,R.name,R.snd,λy j u e f=>?_⟩;(·refine iF R.fr λL mL e Y a b cc=>?_;exact⟨L,mL,e,Y.sameBut hs (hH (uO D Y)),a,b,cc.imp id λ⟨o,es,n,e,z⟩=>⟨o,es,n,(hs.2 L (hH (uO D Y))).trans e,z⟩⟩);(·refine pO (R.hV y d e) λa b u hu=>?_;refine⟨a,b,?_⟩;by_cases g:y=x;(·subst g;rw[U]at e;injection e with q;subst q;exact⟨_,hc'⟩);·exact⟨u,W y d e g u hu⟩);·by_cases g:y=x;(·subst g;rw[hx]at e;injection e with q;subst q;rw[JG f];exact .inr ⟨w,.inr ⟨.inl p,c,U,hc'⟩,r.B (λ_ _ z=>z) k⟩);·have hij:i≠j:=λq=>g (R.snd y x j e (q▸hx));rw[ja hij]at f;refine(R.val y j u e f).imp id λ⟨w',hw,rw'⟩=>⟨w',?_,rw'.B (λ_ _ z=>z) k⟩;rcases hw with⟨q,m',C,J⟩|⟨q,d,C,J⟩;(·exact .inl ⟨q,m',C.sameBut hs (hH cl),J⟩);·exact .inr ⟨q,d,C,W y d C g _ J⟩
theorem uh{A:bq}{E:aq->az->Prop}(c:sl.lookup x=aa i)(b:env.kindOf x=aa .local\/env.kindOf x=aa .cell)(a:dQ G A env sl F φ μ s)(r:aA G φ s.heap v w)(h:∀h' t,cy G (fv env) φ s φ {s with heap:=h',toks:=t}->aK G φ μ h'->dZ G sl env (F.set i v) φ h'->Q () {s with heap:=h',toks:=t}):aJ (aU G.aE G.w) A (uF env x w) Q E s:=Hw OK c b a.cf a.env r h
end
noncomputable def gI:aD:=bz "deed"
structure ly(G:bp)(A:bq)(env:bP):Prop where
 cells:∀p∈env.cells,env.cells.lookup p.1=aa p.2
 own:env.frame=aa env.locals
 jq:∃outer,A.frames=aa (env::outer)
 ut:env.scope.names.lookup gI=aa .local->env.qual=bz "_law_passed"++bz ".<locals>."/\env.code=.ref G.pc
section
variable(G:bp)(cl:Fn->List V->H->aB V)(n:Nat)(sl:Sl)(sc:List (aD×cK))
noncomputable def SS(c:CS)(st:bK):Prop:=∀(A:bq)(env:bP)(F:List V)(φ:List am)(μ:H)(s:az)(Q:kK->az->Prop)(E:aq->az->Prop),jf A n->env.scope.names=sc->ly G A env->dQ G A env sl F φ μ s->bB G env sl φ s (fE cl c F μ) Q E->aJ (aU G.aE G.w) A (exec st env) Q E s
noncomputable def lA(cs:List CS)(a:List bK):Prop:=∀(A:bq)(env:bP)(F:List V)(φ:List am)(μ:H)(s:az)(Q:kK->az->Prop)(E:aq->az->Prop),jf A n->env.scope.names=sc->ly G A env->dQ G A env sl F φ μ s->bB G env sl φ s (aV cl cs F μ) Q E->aJ (aU G.aE G.w) A (execs a env) Q E s
end
section
variable{G:bp}{cl:Fn->List V->H->aB V}{n:Nat}{sl:Sl}{sc:List (aD×cK)}
theorem dQ.nU{A:bq}{env:bP}{F d:List V}{φ a:List am}{μ f:H}{s s':az}(b:dQ G A env sl F φ μ s)(e:ly G A env)(x:cy G (fv env) φ s a s')(g:aK G a f s'.heap)(R:dZ G sl env d a s'.heap):dQ G A env sl d a f s':=⟨g,R,b.fr.nU x e.own (λc h=>by refine ay (gO.mp h) ?_;rintro p i rfl;refine pO (b.env.hV _ _ (e.cells p i)) λz z v j=>?_;exact⟨v,j⟩) R,b.hh⟩
section
variable{φ:List am}{s:az}{env:bP}{Q:kK->az->Prop}{E:aq->az->Prop}
theorem bB.kX(x:c7 G φ s a s₁)(h:bB G env sl φ s r Q E):bB G env sl a s₁ r Q E:=h.aH (x.oM (by simp))
theorem bB.on{P:aq->az->Prop}(i:aK G φ μ s.heap)(R:dZ G sl env F φ s.heap)(g:bB G env sl φ s (r.on F k) Q E)(j:∀v d f s₁ w,c7 G φ s f s₁->aK G f d s₁.heap->aA G f s₁.heap v w->bB G env sl f s₁ (k v d) Q E->P w s₁):aY G env.frame φ s r P E:=by induction r with|ok v d=>exactλh s' w a b c=>j v d h s' w a b c (bB.kX a g)|ex x d=>exactλh s' e a b c=>g h s' e (a.oM (by simp)) b (R.aH i a) c|aM=>exact g.elim
theorem bB.Hb{P:Bool->az->Prop}(i:aK G φ μ s.heap)(R:dZ G sl env F φ s.heap)(f:bB G env sl φ s (r.on F k) Q E)(j:∀v d h s₁,c7 G φ s h s₁->aK G h d s₁.heap->bB G env sl h s₁ (k v d) Q E->P v s₁):fc G env.frame φ s r P E:=by induction r with|ok v d=>exactλg s' a b=>j v d g s' a b (bB.kX a f)|ex x d=>exactλg s' e a b c=>f g s' e (a.oM (by simp)) b (R.aH i a) c|aM=>exact f.elim
theorem bB.bh{P:kK->az->Prop}(e:bB G env sl φ s (r.bh k) Q E)(i:∀h d f s₁,cy G (fv env) φ s f s₁->aK G f d s₁.heap->dZ G sl env h f s₁.heap->bB G env sl f s₁ (k h d) Q E->P .next s₁)(j:∀w s₁,Q (.ret w) s₁->P (.ret w) s₁):bB G env sl φ s r P E:=by induction r with|nx F d=>exactλg s' a b c=>i F d g s' a b c (bB.aH a e)|rt v d=>exactλg s' w a b c=>j w s' (e g s' w a b c)|ex x F d=>exact e|aM=>exact e.elim
theorem bB.ok(a:aK G φ μ s.heap)(R:dZ G sl env F φ s.heap)(b:bB G env sl φ s (.nx F μ) Q E):Q .next s:=b φ s (.b8 _ _ _) a R
end
theorem XW:lA G cl n sl sc [] []:=λA env F φ μ s Q E d e c a b=>by exact wi (bB.ok a.cf a.env b)
theorem Jk{c:CS}{cs:List CS}{st:bK}{i:List bK}(h:SS G cl n sl sc c st)(hs:lA G cl n sl sc cs i):lA G cl n sl sc (c::cs) (st::i):=λA env F φ μ s Q E f g b e d=>by refine yM (h A env F φ μ s _ E f g b e (bB.bh d (λj l m s₁ a k R d=>?_) λw s₁ q=>q));exact hs A env j m l s₁ Q E f g b (e.nU b a k R) d
theorem Vg{st:bK}:SS G cl n sl sc .aM st:=λA env F φ μ s Q E z z z z a=>by rw[Ry]at a;exact a.elim
theorem ZT(h:SE G cl n sl sc c e):SS G cl n sl sc (.ret c) (.Return (aa e) pos):=λA env F φ μ s Q E g i k b d=>by exact OE (h A env F φ μ s _ E g i b (bB.on b.cf b.env d λv l j s₁ w a f r d=>d j s₁ w (.b8 _ _ _) f r))
theorem Y3:SS G cl n sl sc .ju (.Return ah pos):=λA env F φ μ s Q E d e c a b=>by exact wpAny_Return_none (b φ s .none (.b8 _ _ _) a.cf (aA.tZ))
theorem Rv{c:CE}{t e:List CS}{j:aO}{st l:List bK}{pos:be}(p:ST G cl n sl sc c j)(r:lA G cl n sl sc t st)(q:lA G cl n sl sc e l):SS G cl n sl sc (.ifs c t e) (.If j st l pos):=λA env F φ μ s Q E g h k d f=>by refine wpAny_If (p A env F φ μ s _ E g h d (bB.Hb d.cf d.env f λb m o s₁ a i f=>?_));induction b with|true=>exact r A env F o m s₁ Q E g h k (d.aH a i) f|false=>exact q A env F o m s₁ Q E g h k (d.aH a i) f
noncomputable def ng(e:aO):Bool:=by cases e with|ListComp=>exact au|SetComp=>exact au|DictComp=>exact au|_=>exact aj
theorem vd(h:ng e=aj)(t:Option aO)(l:Nat)(env:bP):B9 e t l env=dG au:=by cases e<;>first|rfl|injection h
theorem Qt(i:ng e=aj)(h:SE G cl n sl sc c e):SS G cl n sl sc (.cO c) (.Expr e pos):=λA env F φ μ s Q E g j k b d=>by refine OF (h A env F φ μ s _ E g j b (bB.on b.cf b.env d λv l m s₁ w a f r d=>?_)) (by unfold OG;rw[b.env.kind];rfl) (vd i _ _ _);exact bB.ok f (b.env.aH b.cf a) d
variable(OK:cL G)
include OK
theorem FJ{A:bq}{E:aq->az->Prop}(f:env.scope.names=sc)(g:sl.lookup x=aa i)(e:sc.lookup x=aa .local\/sc.lookup x=aa .cell)(b:dQ G A env sl F φ μ s)(r:aA G φ s.heap v w)(d:bB G env sl φ s (.nx (F.set i v) μ) Q E):aJ (aU G.aE G.w) A (uF env x w) (λz=>Q .next) E s:=uh OK g (by unfold iE;rw[f];exact e) b r λh' t a c R=>d φ _ a c R
theorem Sn(l:∀env:bP,env.scope.kind=.function->env.scope.names=sc->B9 e (aa (.Name x p)) pos.line env=dG au)(m:sl.lookup x=aa i)(k:sc.lookup x=aa .local\/sc.lookup x=aa .cell)(h:SE G cl n sl sc c e):SS G cl n sl sc (.D i c) (.Assign [.Name x p] e pos):=λA env F φ μ s Q E j f o b d=>by refine wpAny_Assign_Name (h A env F φ μ s _ E j f b (bB.on b.cf b.env d λv q t s₁ w a g r d=>?_)) (l env b.env.kind f);exact FJ OK f m k (b.aH a g) r d
theorem Pg(N:ng e=aj)(L:SE G cl n sl sc z C)(M:SE G cl n sl sc B D)(h:SE G cl n sl sc c e):SS G cl n sl sc (.cQ z B c) (.Assign [.Subscript C D p] e pos):=λA env F φ μ s Q E g m hC d b=>by refine wpAny_Assign_Subscript (h A env F φ μ s _ E g m d (bB.on d.cf d.env b λv μ₁ φ₁ s₁ w a k r b=>?_)) (vd N _ _ _);have i:=d.aH a k;refine L A env F φ₁ μ₁ s₁ _ E g m i (bB.on k i.env b λY μ₂ φ₂ W w2 x f R b=>?_);have j:=i.aH x f;refine M A env F φ₂ μ₂ W _ E g m j (bB.on f j.env b λZ μ₃ φ₃ s₃ w3 l o U b=>?_);have J:=j.aH l o;induction q:jk μ₃ Y Z v with|none=>rw[q]at b;exact b.elim|some μ'=>rw[q]at b;refine GZ OK o g.units (aA.aH f l dX R) U (aA.aH f l dX (aA.aH k x dX r)) q λh' t y u=>?_;exact bB.ok u ((J.aH y u).env) (bB.kX y b)
theorem Rt(y:pJ G)(C:ng e=aj)(B:SE G cl n sl sc m o)(h:SE G cl n sl sc c e):SS G cl n sl sc (.cH m t c) (.Assign [.Attribute o t.str p] e pos):=λA env F φ μ s Q E u x R d b=>by refine OH (h A env F φ μ s _ E u x d (bB.on d.cf d.env b λv L N s₁ w a g r b=>?_)) (vd C _ _ _);have f:=d.aH a g;refine B A env F N L s₁ _ E u x f (bB.on g f.env b λJ M Z U W k i D b=>?_);have z:=f.aH k i;induction q:l5 M J t v with|none=>rw[q]at b;exact b.elim|some Y=>rw[q]at b;refine Jg OK y i D (aA.aH g k dX r) q λh' t l j=>?_;exact bB.ok j ((z.aH l j).env) (bB.kX l b)
end
section
variable{G:bp}{cl:Fn->List V->H->aB V}{n:Nat}{sl:Sl}{sc:List (aD×cK)}
theorem aad{A:bq}{E:aq->az->Prop}(d:s.TypeIs a "list")(e:s.TypeIs b "list")(f:aJ (aU M w) A (fX (.builtin "list.__iadd__") [a,b]) Q E s):aJ (aU M w) A (qk .Add a b) Q E s:=by
 unfold qk;refine GD ?_;have g:fillsInplaceSlot (.type "list") "add" (Operator.Add==.Add)=dG au:=by unfold fillsInplaceSlot;show(v7 (.type "list") (dunderI "add")>>=λc=>dG (c.isSome&&!isSeqSlot c))=dG au;rw[OI.lookup,pure_bind];(have:isSeqSlot (aa (.builtin "list.__iadd__"))=aj:=by decide+kernel);rw[this];rfl
 have h:seqSlot? (.type "list") (dunderI "add")=dG (aa (.builtin "list.__iadd__")):=PySem.seqSlot_of OI.lookup (by decide+kernel);refine bM (wpAny_typeOf d (bM (yG g ?_)));show aJ _ A (if au=aj then _ else _) Q E s;rw[if_neg vP];refine bM (wpAny_binaryOp1_none (nm:="add") d e noFill_list_add ?_);refine bM (yG h ?_);exact bM (wpAny_rule f)
variable(OK:cL G)
include OK
section
variable{φ:List am}{μ:H}{s:az}{A:bq}{Q:aq->az->Prop}{E:aq->az->Prop}{L:Option am}
theorem Rq(e:aK G φ μ s.heap)(f:φ[i]?=aa a)(w:φ[j]?=aa b)(c:aY G L φ s (ob (aG μ i) λx=>ob (aG μ j) λy=>gd (aZ (x.length+y.length<cM)) (.ok (.ref i) (μ.set i (.list (x++y))))) Q E):aJ (aU G.aE G.w) A (qk .Add (.ref a) (.ref b)) Q E s:=by
 refine c.ob λx M c=>c.ob λy N c=>c.gd λk c=>?_;have k:=of_decide_eq_true k;unfold cM at k;refine gw (qC e f M) λvs m g p=>gw (qC e w N) λd J o r=>?_;have h:=p.length;have l:=r.length;have C:¬(!vs.toArray.isEmpty&&GA (vs.toArray.size+d.toArray.size))=aj:=by rw[cI];rintro⟨_,q⟩;simp only[jd,h,l,GA,decide_eq_true_eq]at q;unfold hU at q;lia
 have B:=cW f;refine aad ⟨_,g,rfl⟩ ⟨_,o,rfl⟩ (call_meets OI ⟨_,g,rfl⟩ F.entry_list_iadd (F.args_list_iadd_2 _ _) (AutoSeq1.list___iadd___list_list_0 a vs.toArray m b d.toArray J C (by simp only[jd,h];unfold hU;lia) (by simp only[jd,h,l];unfold hU;exact hG (bD (by assumption) (by rfl)))) ⟨g,o,?_⟩);have hs:vV a s.heap (s.heap.update a (GG λx=>x++d.toArray)):=.update _ _ _;have n:(s.heap.update a (GG λx=>x++d.toArray)).get? a=aa (GG (λx=>x++d.toArray) (rq vs.toArray m)):=rB _ g rfl;have v:cR G [a] s.heap (s.heap.update a (GG λx=>x++d.toArray)):=.same hs (λq=>e.oH (q▸B)) ⟨_,n⟩;exact oA (e.dK OK f v (o':=.list (x++y)) (λD=>⟨vs++d,_,by rw[n,<-abI];rfl,(p.xP r).B (λZ Z z=>z) D⟩) s.toks) λt u=>c φ _ _ t u (.IC f)
theorem C6(k:aK G φ μ s.heap)(op:iZ)(l:aA G φ s.heap x g)(m:aA G φ s.heap y e)(d:aY G L φ s (jZ op x y μ) Q E):aJ (aU G.aE G.w) A (qk op.py g e) Q E s:=by have W:=@Cu G φ s L Q E x y g e;induction op with|add=>have d:aY G L φ s (Et x y μ) Q E:=d;unfold Et at d;(induction q:gJ x with|some i=>rw[q]at d;exact d.ob λj n d=>aA.aR (P:=λg=>aJ (aU G.aE G.w) A (qk .Add g e) Q E s) q l λa f=>aA.aR (P:=λe=>aJ (aU G.aE G.w) A (qk .Add (.ref a) e) Q E s) n m λb o=>Rq OK k f o d|none=>rw[q]at d;exact W (P:=λg e=>aJ (aU G.aE G.w) A (qk .Add g e) Q E s) l m d λi j t u h=>PyProof.Rows.iadd_int (h.int k))|sub=>exact W (P:=λg e=>aJ (aU G.aE G.w) A (qk .Sub g e) Q E s) l m d λi j t u h=>AutoIntOps.isub_0 (h.int k)|lf=>refine W (P:=λg e=>aJ (aU G.aE G.w) A (qk .BitOr g e) Q E s) l m d λi j t u h=>h.gd λc h=>?_;rw[cI,decide_eq_true_eq,decide_eq_true_eq]at c;rw[<-GN c.1 c.2]at h;exact PyProof.Rows.ior_int (h.int k)|_=>exact d.elim
end
theorem Re(D:sl.lookup x=aa i)(j:sc.lookup x=aa .local\/sc.lookup x=aa .cell)(h:SE G cl n sl sc c e):SS G cl n sl sc (.fs i op c) (.AugAssign (.Name x p) op.py e pos):=λA env F φ μ s Q E M y hC d g=>by(have b:aY G env.frame φ s (ax cl (.af i) F μ) (λz s₁=>aJ (aU G.aE G.w) A (gn e env) (λv k=>aJ (aU G.aE G.w) A (qk op.py z v) (λr l=>aJ (aU G.aE G.w) A (uF env x r) (λ_=>Q .next) E l) E k) E s₁) E:=by refine bB.on d.cf d.env g λv μ₁ φ₁ s₁ w a q r g=>?_;have o:=d.aH a q;refine h A env F φ₁ μ₁ s₁ _ E M y o (bB.on q o.env g λv2 μ₂ φ₂ k w2 C t Z g=>?_);have B:=o.aH C t;refine C6 OK t op (aA.aH q C dX r) Z (bB.on t B.env g λv3 μ₃ φ₃ l w3 L J r3 g=>?_);exact FJ OK y D j (B.aH L J) r3 g);refine wpAny_AugAssign_Name ?_;rw[Mf]at b;unfold getL at b;induction u:F[i]? with|none=>rw[u]at b;exact b.elim|some v=>rw[u]at b;rcases d.env.val x i v D u with rfl|⟨w,Y,r⟩;(·exact b.elim);(replace b:aY G env.frame φ s (.ok v μ) (λz s₁=>aJ (aU G.aE G.w) A (gn e env) (λv k=>aJ (aU G.aE G.w) A (qk op.py z v) (λr l=>aJ (aU G.aE G.w) A (uF env x r) (λ_=>Q .next) E l) E k) E s₁) E:=by induction v using V.casesOn<;>first|exact b|exact nZ r);rcases Y with⟨f,m,W,U⟩|⟨f|f,c,R,N⟩;(·exact Gw d.env.kind f W U (aY.ok d.cf r b));(·exact Ok d.env.kind f R N (aY.ok d.cf r b));·exfalso;unfold iE at f;rw[y]at f;rcases j with j|j<;>(rw[j]at f;cases f)
theorem SB {ca ck c : CE} {op : iZ} {ea ek e : aO} {p pos : be} (hsl : ∀ ov iv new, augStore ek ov iv new = (do holding [new, ov, iv] (vY ov iv new); release [new, ov, iv] []; dG .next)) (ha : SE G cl n sl sc ca ea) (hk : SE G cl n sl sc ck ek) (h : SE G cl n sl sc c e) : SS G cl n sl sc (.pX ca ck op c) (.AugAssign (.Subscript ea ek p) op.py e pos) := fun A env F φ μ s Q E hR hsc hC I hE => by
  refine wpAny_AugAssign_SubscriptAny (ha A env F φ μ s _ E hR hsc I (bB.on I.cf I.env hE fun v μ₁ φ₁ s₁ w a S r hE => ?_)) hsl
  have I1 := I.aH a S
  refine hk A env F φ₁ μ₁ s₁ _ E hR hsc I1 (bB.on S I1.env hE fun v2 μ₂ φ₂ s₂ w2 a2 S2 r2 hE => ?_)
  have I2 := I1.aH a2 S2
  induction q : dy μ₂ v v2 with
  | none => rw [q] at hE; exact hE.elim
  | some o =>
    rw [q] at hE
    refine Nc OK S2 hR.units (aA.aH S a2 dX r) r2 q fun w3 t r3 => ?_
    have at' : c7 G φ₂ s₂ φ₂ { s₂ with toks := t } := ⟨(bC ([]) (by simp) (by simp)), .b8 _ _, rfl⟩
    have I2' := I2.aH at' S2
    refine h A env F φ₂ μ₂ _ _ E hR hsc I2' (bB.on S2 I2'.env (bB.kX at' hE) fun v4 μ₄ φ₄ s₄ w4 a4 S4 r4 hE => ?_)
    have I4 := I2'.aH a4 S4
    refine C6 OK S4 op (aA.aH (s := { s₂ with toks := t }) S2 a4 dX r3) r4 (bB.on S4 I4.env hE fun v5 μ₅ φ₅ s₅ w5 a5 S5 r5 hE => ?_)
    have I5 := I4.aH a5 S5
    induction q2 : jk μ₅ v v2 v5 with
    | none => rw [q2] at hE; exact hE.elim
    | some μ' =>
      rw [q2] at hE
      refine GZ OK S5 hR.units (aA.aH S4 a5 dX (aA.aH (s := { s₂ with toks := t }) S2 a4 dX (aA.aH S a2 dX r))) (aA.aH S4 a5 dX (aA.aH (s := { s₂ with toks := t }) S2 a4 dX r2)) r5 q2 fun h' t a6 S6 => ?_
      exact bB.ok S6 ((I5.aH a6 S6).env) (bB.kX a6 hE)
theorem ZX(u:pJ G)(Y:SE G cl n sl sc J L)(h:SE G cl n sl sc c e):SS G cl n sl sc (.l7 J i op c) (.AugAssign (.Attribute L i.str p) op.py e pos):=λA env F φ μ s Q E M N hC f b=>by refine wpAny_AugAssign_AttributeAny (Y A env F φ μ s _ E M N f (bB.on f.cf f.env b λv R m s₁ w a d r b=>?_));have U:=f.aH a d;induction q:iX R v i with|none=>rw[q]at b;exact b.elim|some o=>rw[q]at b;refine JD OK u d r q (λw3 t Z=>?_) aj;have D:c7 G m s₁ m {s₁ with toks:=t}:=⟨(bC ([]) (by simp) (by simp)),.b8 _ _,rfl⟩;have j:=U.aH D d;refine h A env F m R _ _ E M N j (bB.on d j.env (bB.kX D b) λv4 μ₄ φ₄ s₄ w4 k g r4 b=>?_);have x:=j.aH k g;refine C6 OK g op (aA.aH (s:={s₁ with toks:=t}) d k dX Z) r4 (bB.on g x.env b λv5 μ₅ φ₅ s₅ w5 B y r5 b=>?_);have W:=x.aH B y;induction l:l5 μ₅ v i v5 with|none=>rw[l]at b;exact b.elim|some μ'=>rw[l]at b;refine Jg OK u y (aA.aH g B dX (aA.aH (s:={s₁ with toks:=t}) d k dX r)) r5 l λh' t C z=>?_;exact bB.ok z ((W.aH C z).env) (bB.kX C b)
end
section
variable{G:bp}
theorem aaD{A:bq}(g:A.frames=aa a)(R:fK G A φ h):h.FunFrames (hideAll h (a.filterMap (·.frame)++xs)) a:=by
 refine ay R λr e k=>?_;cases f8 g e;have p:∀l:List bP,(∀x∈l,x∈a)->h.FunFrames (hideAll h (a.filterMap (·.frame)++xs)) l:=λl=>by induction l with|nil=>exactλz=>trivial|cons x l n=>intro b;have c:=b x (je ..);exact JI (k x c) λk1 L m f i z=>fW i λo t s e d z=>⟨k1,⟨L,o,f,hideAll_none _ (ma _ (Og.mpr ⟨x,c,f⟩)),e,λvs q=>by injection d.symm.trans q⟩,n λy j=>b y (iR _ j)⟩
 exact p a λz h=>h
variable(G)in inductive my(h h':aQ)(b:am):Prop|mk{o o' vs}:G.h₀.get? b=ah->b≠G.P->h.get? b=aa o->h'.get? b=aa o'->o.data=.fields vs->gX o->my h h' b
theorem my.at(k:my G h h' b)(e:h.get? b=aa a):(∃vs,a.data=.fields vs)/\gX a:=by induction k with|mk _ _ f _ d c=>exact f8 f e▸⟨⟨_,d⟩,c⟩
theorem my.b{h h':aQ}{b:am}(k:my G h h' b):G.h₀.get? b=ah:=by induction k with|mk h=>exact h
theorem my.p{h h':aQ}{b:am}(k:my G h h' b):b≠G.P:=by induction k with|mk _ h=>exact h
theorem my.oN{h h':aQ}{b:am}(k:my G h h' b):∃o,h'.get? b=aa o:=by induction k with|mk _ _ _ e=>exact⟨_,e⟩
structure gA(G:bp)(A:bq)(own:List am)(h h':aQ):Prop where
 keep:∀b o,b∉own->(∀envs,A.frames=aa envs->b∉envs.filterMap (·.frame))->h.get? b=aa o->h'.get? b=aa o
 slots:∀b o,b∉own->h.get? b=aa o->∃sl,h'.get? b=aa {o with slots:=sl}
 own:∀b∈own,my G h h' b
theorem gA.yn{A:bq}{own:List am}{h h':aQ}(x:gA G A own h h'){a:am}{o:cE}(e:h.get? a=aa o)(d:∀vs,o.data≠.fields vs):a∉own:=λq=>oE ((x.own a q).at e).1 d
theorem gA.ns{A:bq}{own:List am}{h h':aQ}(x:gA G A own h h'){a:am}{m:aD->Option aq}(g:h.Ns a m):h'.Ns a m:=fW g λo f c e d r=>oE (x.slots a o (x.yn e λvs q=>by injection d.symm.trans q) e) λi b=>⟨_,f,c,b,d,r⟩
theorem gA.KP{A:bq}{own:List am}{h h':aQ}(x:gA G A own h h'){b:am}(z:mO h b):mO h' b:=gM z λo c n e r=>oE (x.slots b o (x.yn e λvs q=>by injection r.2.symm.trans q) e) λd a=>⟨_,c,n,a,r.1,r.2⟩
theorem gA.sy{A:bq}{own φ:List am}{μ:H}{s:az}{h':aQ}(Z:cL G)(x:gA G A own s.heap h')(g:aK G φ μ s.heap)(R:fK G A φ s.heap)(t:Nat):cy G own φ s φ {s with heap:=h',toks:=t}/\aK G φ μ h'/\cX s.heap h':=by
 refine ay R λy Q k=>?_;have j:∀b,b∈y.filterMap (·.frame)->(∃m,s.heap.Ns b m)/\b∉φ/\G.h₀.objs.size<=b/\(b=G.Lb\/mO s.heap b):=λb u=>ay (Og.mp u) λenv U f=>JI (k env U) λ_ L m J v r=>f8 J f▸⟨⟨m,v⟩,r⟩;have l:∀b o,b∉own->b∉y.filterMap (·.frame)->s.heap.get? b=aa o->h'.get? b=aa o:=λb o M N e=>x.keep b o M (λenvs' h=>f8 Q h▸N) e;have w:cX s.heap h':=λa o e d c=>l a o (λq=>((x.own a q).at e).2.no c) (λq=>oE (j a q).1 λm z=>fW z λo' B ep h F _=>d.1 _ _ (f8 h e▸F)) e;have Y:∀a∈φ,∀o,s.heap.get? a=aa o->h'.get? a=aa o:=λa D o e=>l a o (ay (g.own D) λo' h c=>x.yn e (f8 h e▸c.eG)) (λq=>(j a q).2.1 D) e;refine⟨⟨⟨[],(iD _).symm,kq⟩,⟨λb o e=>?_,λb o u hP C e c=>?_,λb m _ e=>x.ns e,λb u C z=>x.KP z⟩,rfl⟩,?_,w⟩;·by_cases q:b∈own;(·exact(x.own b q).oN);·exact oE (x.slots b o q e) λsl h=>⟨_,h⟩
 ·exact l b o (λq=>u (ma _ q)) (λq=>(j b q).2.2.2.elim C λz=>gM z λo' B n h r=>c (f8 h e▸r.1) B n (f8 h e▸r.2)) e
 ·refine⟨g.bN,g.nd,λi o e a f=>(g.fJ i o e a f).B (λ_ _ q=>q) w λW q=>Y a (cW f) W q,λb o e=>?_,g.k9,g.rX,?_,g.oH,g.lb.imp λm=>x.ns⟩;(·exact l b o (λq=>kW e (x.own b q).b) (λq=>absurd (md e) (sR.mpr (j b q).2.2.1)) (g.eJ b o e));·exact cu g.tab λps e t c=>⟨ps,l _ _ (λq=>(x.own _ q).p rfl) (λq=>oE (j _ q).1 λm v=>g.wY v rfl) e,t,c.imp id λc=>ay c λc q r=>⟨c,q,r.B w⟩⟩
theorem gA.jw{A:bq}{T:am}(f:Array aq->Array aq)(g:h.get? T=aa d)(i:d.data=.fields l)(c:gX d)(j:G.h₀.get? T=ah)(k:T≠G.P):gA G A [T] h (h.update T (uG f)):=⟨λb o a z e=>(uH _ _ λq=>a (dq.mpr q.symm)).trans e,λb o a e=>⟨o.slots,(uH _ _ λq=>a (dq.mpr q.symm)).trans e⟩,jA (P:=my G h _) (.mk j k g (rB _ g (Ca (wo i _))) i c)⟩
end
section
variable{G:bp}
theorem HO {M : jN} {A : bq} {env : bP} {outer : List bP} {L a : am} {s : az} {φ : List am} {oe : cE} {vs : Array aq} {head : aq} {hadNext : Bool} {Q : Unit → az → Prop} {E : aq → az → Prop}
    (hfr : A.frames = aa (env :: outer)) (hf : env.frame = aa L) (R : fK G A φ s.heap) (he : s.heap.get? a = aa oe) (hd : oe.data = .fields vs) (hsz : 1 < vs.size) (ha : G.h₀.get? a = ah ∧ a ≠ G.P) (hc : gX oe)
    (h : ∀ h' T, gA G A [a] s.heap h' → s.heap.get? T = ah → T ≠ a → h'.get? a = aa (oe.mapFields (·.setIfInBounds 1 (.ref T))) → (∃ ts, h'.get? T = aa { cls := .type "traceback", dict := ah, data := .fields ts } ∧ ts[3]? = aa (mh L)) → Q () { s with heap := h' }) :
    aJ M A (do let f ← frameOf env; let pl ← entryPlaceOf L hadNext; let b ← EntryCells.newEntry head f .none (mh L) .none pl; setField (.ref a) 1 b) Q E s := by
  have hl := aaD (xs := []) hfr R
  have hene : a ∉ (env :: outer).filterMap (·.frame) := fun hm => by
    refine zw (hl.mem hm) fun _ o ho hnf => ?_
    rw [he] at ho; injection ho with ho; subst ho; exact hnf vs hd
  refine bM (wpAny_frameOf_fun hfr hl hf fun h₁ hs₁ => ?_)
  refine bM (wpAny_entryPlaceOf fun pl hpl => ?_)
  unfold EntryCells.newEntry newFields
  refine bM (OJ ?_ (hpl.sizeOk5 _ _ _ _ _))
  have he₁ : h₁.get? a = aa oe := (hs₁.2.1 a hene).trans he
  have he₂ := jE (h := h₁) { cls := .type "traceback", dict := ah, data := .fields ([head, .ref L, .none, mh L, .none] ++ (if pl.isEmpty then eL 6 kM else pl)).toArray } he₁
  refine OL he₂ hd hsz (h _ h₁.objs.size ?_ ?_ ?_ ?_ ?_)
  · refine ⟨fun b o hb hfb e => (uH _ _ fun q => hb (dq.mpr q.symm)).trans (jE _ ((hs₁.2.1 b (hfb _ hfr)).trans e)), fun b o hb e => oE (hs₁.2.2 b o e) fun sl e' => ⟨sl, (uH _ _ fun q => hb (dq.mpr q.symm)).trans (jE _ e')⟩,
      jA (P := my G _ _) (.mk ha.1 ha.2 he (rB _ he₂ (Ca (wo hd _))) hd hc)⟩
  · exact lH (by rw [hs₁.1]; exact cF _)
  · exact rm (md he₁)
  · exact rB _ he₂ (Ca (wo hd _))
  · refine (bC _ ((uH _ _ (l9 (md he₁))).trans (kO h₁ rfl)) ?_)
    simp
theorem fK.dK{A:bq}(R:fK G A φ h)(x:gA G A own h h'):fK G A φ h':=ay R λg e k=>⟨g,e,λd i=>Jr (k d i) λk1 L m f j a b c=>⟨k1,L,m,f,x.ns j,a,b,c.imp id x.KP⟩⟩
theorem yT{vs:Array aq}(h:vs[i]?=aa v):i<vs.size:=(abS.mp h).1
theorem qB.entry{n h':aQ}{a T:am}{c:cE}(i:n.get? a=ah)(j:c.cls=.ref (G.xa x))(k:c.data=.fields vs)(l:vs[0]?=aa f)(m:vs[1]?=aa q)(o:n.get? T=ah)(p:T≠a)(g:h'.get? a=aa (c.mapFields (·.setIfInBounds 1 (.ref T))))(b:∃d,h'.get? T=aa {cls:=.type "traceback",dict:=ah,data:=.fields d}/\d[3]?=aa e):qB G n x a (aa (T,e)) h':=ay b λd b h=>.mk i g ((Obj.cls_mapFields ..).trans j) (wo k _) ((Array.getElem?_setIfInBounds_ne (by decide)).trans l) (.mk (abT (yT m)) o p b rfl rfl h)
theorem DT{A:bq}{env:bP}{s:az}{n:aQ}{Q:Unit->az->Prop}{E:aq->az->Prop}(hfr:A.frames=aa (env::outer))(hf:env.frame=aa L)(R:fK G A φ s.heap)(S:aK G φ μ s.heap)(B:∀b,n.get? b=ah->G.h₀.get? b=ah)(hn2:∀b,s.heap.get? b=ah->n.get? b=ah)(K:qB (G:=G) n x a F s.heap)(ht:F=ah\/∃T,F=aa (T,.none)\/F=aa (T,mh L))(h:∀h' own T,gA G A own s.heap h'->(∀b∈own,n.get? b=ah)->qB (G:=G) n x a (aa (T,mh L)) h'->Q () {s with heap:=h'}):aJ M A (noteFrame (.ref a) env) Q E s:=by induction K with|@mk oe vs a0 j k l d W w=>refine oE S.nw λps hP=>?_;have notP:∀{b o us c},s.heap.get? b=aa o->o.data=.fields us->o.cls=c->c≠.none->b≠G.P:=λe _ k1 k2 q=>k2 (k1.symm.trans (f8 e (q▸hP)▸rfl));(have J:a≠G.P:=notP k d l λq=>by injection q);have Z:gX oe:=⟨uo l _,uo l _,uo l _⟩;unfold noteFrame;simp only[hf];rcases ht with rfl|⟨T,rfl|rfl⟩;(·refine bM (wq k d w ?_);rw[if_neg (by decide)];exact HO hfr hf R k d (yT w) ⟨B a j,J⟩ Z λh' T x y Y C U=>h h' [a] T x (jA j) (.entry j l d W w (hn2 T y) Y C U));(·induction(w:tR n a s.heap vs T .none)with|@mk oT ts m t u g p i v=>(have TP:T≠G.P:=notP g i p λq=>by injection q);refine bM (wq k d m ?_);rw[if_pos (show(eK T !=kM)=aj from bne_iff_ne.mpr λq=>by injection q)];refine bM (wq g i v ?_);rw[if_neg (show¬((kM==mh L)=aj)fromλq=>by injection cr q)];refine bM (OL g i (yT v) ?_);have vF:∀b,b≠T->(s.heap.update T (uG (·.setIfInBounds 3 kM))).get? b=s.heap.get? b:=λb f=>uH _ _ (hH f);have cT:gX oT:=⟨jI p _ rfl,jI p _ rfl,jI p _ rfl⟩;have st1:=gA.jw (A:=A) (·.setIfInBounds 3 kM) g i cT (B _ t) TP;have Tnew:=rB (uG (·.setIfInBounds 3 kM)) g (Ca (wo i _));have h3':=(vF a (hH u)).trans k;refine HO (s:={s with heap:=s.heap.update T (uG (·.setIfInBounds 3 kM))}) hfr hf (R.dK st1) h3' d (yT m) ⟨B a j,J⟩ Z λh' r st2 y Y C U=>?_;(have hT0:s.heap.get? r=ah:=by by_cases z:r=T;(·rw[z]at y;exact absurd y (kW Tnew));·exact(vF r z).symm.trans y);have ha':a∉[T]:=rY (hH u);have hT':T∉[a]:=rY u;have D:∀{b},b∉[a,T]->b∉[a]/\b∉[T]:=λf=>⟨λq=>f (gQ.mpr (.inl (dq.mp q))),λq=>f (iR _ q)⟩;refine h h' [a,T] r ⟨λb o f hfb e=>st2.keep b o (D f).1 hfb (st1.keep b o (D f).2 hfb e),λb o f e=>oE (st1.slots b o (D f).2 e) λsl N=>oE (st2.slots b _ (D f).1 N) λsl' e''=>⟨sl',e''⟩,sQ.mpr ⟨.mk (B _ j) J k C d Z,jA (P:=my G _ _) (oE (st2.slots _ _ hT' Tnew) λsl N=>.mk (B _ t) TP g N i cT)⟩⟩ (sQ.mpr ⟨j,jA t⟩) (.entry j l d W m (hn2 r hT0) Y C U));·induction(w:tR n a s.heap vs T (mh L))with|@mk oT ts m t u g p i v=>refine bM (wq k d m ?_);rw[if_pos (show(eK T !=kM)=aj from bne_iff_ne.mpr λq=>by injection q)];refine bM (wq g i v ?_);rw[if_pos (beq_self_eq_true _)];exact eT (h s.heap [] T ⟨λ_ _ _ _ e=>e,λ_ o _ e=>⟨o.slots,e⟩,kq⟩ kq (.mk j k l d W (.mk m t u g p i v)))
end
section
variable{G:bp}
theorem Aw{A:bq}{a T:am}{E:aq->az->Prop}(t:aK G φ μ s.heap)(D:∀b,n.get? b=ah->G.h₀.get? b=ah)(r:qB (G:=G) n x a (aa (T,i)) s.heap)(h:∀h',gA G A [T] s.heap h'->n.get? T=ah->qB (G:=G) n x a (aa (T,j.elim .none λf=>mh f)) h'->Q () {s with heap:=h'}):aJ M A (setFlight (.ref a) j) Q E s:=by induction r with|@mk L vs J w m y o z B=>induction(B:tR n a s.heap vs T i)with|@mk F N k g l d c e v=>refine oE t.nw λps C=>?_;(have u:T≠G.P:=λq=>by injection c.symm.trans (f8 d (q▸C)▸rfl:F.cls=.none));unfold setFlight;refine bM (wq m o k ?_);rw[if_pos (show(eK T !=kM)=aj from bne_iff_ne.mpr λq=>by injection q)];have p:=(abS.mp v).1;exact OL d e p (h _ (gA.jw _ d e ⟨jI c _ rfl,jI c _ rfl,jI c _ rfl⟩ (D _ g) u) g (.mk w ((uH _ _ l).trans m) y o z (.mk k g l (rB _ d (Ca (wo e _))) ((Obj.cls_mapFields ..).trans c) (wo e _) (abT p))))
end
section
variable{G:bp}{sl:Sl}
theorem XV{A:bq}(R:dZ G sl env F φ h)(x:gA G A own h h'):env.locals∉own/\(∀L,env.frame=aa L->L∉own)/\∀y c,env.cells.lookup y=aa c->c∉own:=by
 have ns:∀{b m},h.Ns b m->b∉own:=λa=>fW a λo l j e d z=>x.yn e λvs q=>by injection d.symm.trans q
 exact⟨oE R.af.1 λm a=>ns a,λi f=>cG R.fr λL m e g z=>f8 e f▸ns g,λy c e=>pO (R.hV y c e) λz z v k=>ay k λo e d=>x.yn e λvs q=>by injection d.symm.trans q⟩
theorem gA.env{A:bq}{env:bP}{F:List V}{φ own:List am}{μ:H}{s:az}{h':aQ}{t:Nat}(c:cL G)(x:gA G A own s.heap h')(b:aK G φ μ s.heap)(d:fK G A φ s.heap)(R:dZ G sl env F φ s.heap):dZ G sl env F φ h':=by refine dT (XV R x) λg h i=>?_;exact R.kD b (x.sy c b d t).1 g h i λa f j e=>((x.own a f).at e).2
end
section
variable{G:bp}{sl:Sl}
variable(OK:cL G)
include OK
theorem Vm{A:bq}{E:aq->az->Prop}(J:ly G A env)(D:cy G own M f φ s)(c:∀b,f.heap.get? b=ah->G.h₀.get? b=ah)(n:aK G φ μ s.heap)(i:fK G A φ s.heap)(R:dZ G sl env F φ s.heap)(N:nM G f.heap env.frame x e s.heap)(h:∀s',cy G own M f φ s'->aK G φ μ s'.heap->fK G A φ s'.heap->dZ G sl env F φ s'.heap->nM G f.heap env.frame x e s'.heap->E e s'):notedBy (aU G.aE G.w) A env (GH (aU G.aE G.w) A env E) e s:=by
 refine oE J.jq λouter hfr=>?_;have j:=J.own;refine cG N λa B ea Q L=>?_;subst ea;rw[j]at L;have ht':B=ah\/∃T,B=aa (T,.none)\/B=aa (T,mh env.locals):=L.imp id λk=>oE k λT q=>⟨T,q.imp id λk=>ay k λl e q=>by injection e with q;subst q;exact q⟩;refine DT hfr j i n c (λb=>D.2.1.none) Q ht' λd own1 T y hn1 C=>?_;refine dT (y.sy OK n i s.toks) λZ o _=>?_;have ad1:=D.lM Z λb c v=>absurd (hn1 b c) v;have m:=i.dK y;have W:=y.env (t:=s.toks) OK n i R;unfold GH;have bY:∃w vs,d.get? a=aa w/\w.data=.fields vs/\vs[1]?=aa (.ref T):=by induction C with|mk _ r _ u _ g=>induction(g:tR _ a d _ T _)with|mk p=>exact⟨_,_,r,u,p⟩
 refine cG bY λw vs r u p=>?_;refine bM (wq r u p ?_);rw[if_neg (λq=>by injection cr q)];refine Aw (s:={s with heap:=d}) (φ:=φ) (μ:=μ) (A:=A) o c C λh2 z hT U=>?_;refine dT (gA.sy (s:={s with heap:=d}) OK z o m s.toks) λa2 Y _=>?_;refine h _ (ad1.lM a2 λb c v=>?_) Y (m.dK z) (gA.env (s:={s with heap:=d}) (t:=s.toks) OK z o m W) ⟨a,_,rfl,U,.inr ⟨T,.inr ⟨env.locals,j,by rw[j];rfl⟩⟩⟩;exact absurd hT (dq.mp c▸v)
end
section
variable{G:bp}{cl:Fn->List V->H->aB V}{n:Nat}{sl:Sl}{sc:List (aD×cK)}
variable(OK:cL G)
include OK
theorem aK.E3(a:aK G φ μ h):∀b,h.get? b=ah->G.h₀.get? b=ah:=λb e=>by induction q:G.h₀.get? b with|none=>rfl|some o=>have:=a.eJ _ _ q;rw[e]at this;injection this
theorem bB.oX{A:bq}{E:aq->az->Prop}(f:ly G A env)(c:dQ G A env sl F φ μ s)(b:bB G env sl φ s r Q E):bB G env sl φ s r Q (notedBy (aU G.aE G.w) A env (GH (aU G.aE G.w) A env E)):=by induction r with|nx h g=>exact b|rt v g=>exact b|aM=>exact b|ex x h g=>intro p s' e a d R j;have i:=c.nU f a d R;exact Vm OK f a (aK.E3 OK c.cf) d i.fr R j λo n m z l k=>b p o e n m l k
theorem Px(J:ST G cl n sl sc c l)(D:lA G cl n sl sc b r):SS G cl n sl sc (.lz c b) (.While l r [] pos):=λA env F φ μ s Q E o p f j g=>by replace g:=bB.oX OK f j g;refine wpAny_While (codeAny_whileLoop (λk s'=>∃F φ μ,dQ G A env sl F φ μ s'/\bB G env sl φ s' (q5 (λF h=>jh cl c F h) (λF h=>aV cl b F h) k F μ) Q (notedBy (aU G.aE G.w) A env (GH (aU G.aE G.w) A env E))) ?_ Bq ⟨F,φ,μ,j,g⟩);rintro k L⟨i,Y,R,a,e⟩;induction k with|zero=>unfold q5 at e;exact e.elim|succ k=>unfold q5 at e;refine J A env i Y R L _ _ o p a (bB.Hb a.cf a.env e λt U Z M z x m=>?_);have d:=a.aH z x;induction t with|false=>refine wi ?_;exact bB.ok d.cf d.env m|true=>refine D A env i Z U M _ _ o p f d (bB.bh m (λu W φ3 N B y v C=>?_) λw N q=>q);exact⟨k,m4 k,u,φ3,W,d.nU f B y v,C⟩
end
noncomputable def nS(f:V->List V->H->RS):IS->List V->H->RS|.e9 l,F,h=>l6 f l F h|.eB i n k,F,h=>qE f i n k F h
theorem Sv:za f a F h=match nE a h with|aa st=>nS f st F h|ah=>.aM:=by induction a with|e9 l=>rfl|aW i=>simp only[za,nE];cases aG h i<;>rfl
noncomputable def EP(f:V->List V->H->RS)(F:List V)(h:H)(o:Option (Option (V×IS))):RS:=match o with|ah=>.aM|aa o=>match o with|ah=>.nx F h|aa p=>match f p.1 F h with|.nx F h=>nS f p.2 F h|.rt v h=>.rt v h|.ex _ _ _=>.aM|.aM=>.aM
theorem MS{f:V->List V->H->RS}{st:IS}:nS f st F h=EP f F h (st.nx h):=by
 have z:∀{r:RS}{k:List V->H->RS},(match r with|.nx F h=>k F h|.rt v h=>.rt v h|_=>.aM)=(match r with|.nx F h=>k F h|.rt v h=>.rt v h|.ex _ _ _=>.aM|.aM=>.aM):=λ{r k}=>by induction r<;>rfl
 induction st with|e9 l=>(induction l using j4 with|nil=>rfl|cons v l=>exact z)|eB i n k=>induction n using oa with|zero=>rfl|succ n=>show(match aG h i with|ah=>RS.aM|aa l=>match l[k]? with|ah=>.nx F h|aa v=>match f v F h with|.nx F h=>qE f i n (k+1) F h|.rt v h=>.rt v h|_=>.aM)=EP f F h ((aG h i).map λl=>l[k]?.map λv=>(v,.eB i n (k+1)));cases aG h i with|none=>rfl|some l=>show(match l[k]? with|ah=>RS.nx F h|aa v=>match f v F h with|.nx F h=>qE f i n (k+1) F h|.rt v h=>.rt v h|_=>.aM)=EP f F h (aa (l[k]?.map λv=>(v,.eB i n (k+1))));cases l[k]? with|none=>rfl|some v=>exact z
theorem IS.MW{st a:IS}(e:st.nx h=aa (aa (v,a))):a.fT<st.fT:=by induction st with|e9 l=>(induction l using j4 with|nil=>injection e with e;injection e|cons v l=>injection e with e;injection e with e;exact(Prod.mk.inj e).2▸m4 _)|eB i n k=>induction n using oa with|zero=>injection e|succ n=>exact ay (pi.mp e) λl z e=>ay (pi.mp e) λv z e=>(Prod.mk.inj e).2▸m4 _
section
variable{G:bp}{cl:Fn->List V->H->aB V}{n:Nat}{sl:Sl}{sc:List (aD×cK)}
theorem J5{A:bq}(a:ly G A env)(R:dZ G sl env F φ h):∀b∈fv env,h.get? b≠ah:=sQ.mpr ⟨oE R.af.1 λm d=>pR d,λb c=>ay (gO.mp c) λp f e=>pO (R.hV _ _ (a.cells p f)) λz z v g=>e▸CL g⟩
theorem ww{A:bq}{env:bP}{F:List V}{φ n:List am}{μ:H}{s s':az}(i:ly G A env)(R:dZ G sl env F φ s.heap)(f:aK G φ μ s.heap)(x:cy G (fv env) φ s n s'):cX s.heap s'.heap:=λa o e d c=>by refine x.2.1.keep a o (λq=>(d6.mp q).elim (λq=>(gQ.mp q).elim (λq=>?_) λq=>?_) λq=>?_) (λq=>?_) (DE f.lb e d.1) e λz=>d.1;(·exact oE R.af.1 λm x=>fW x λo' t r b g z=>d.1 _ _ (f8 b (q▸e)▸g));(·exact ay (gO.mp q) λp l h=>pO (R.hV _ _ (i.cells p l)) λz z v k=>ay k λo' b g=>d.2 _ (f8 b (h▸e)▸g));(·exact ay (f.own q) λo' b k=>(f8 b e▸k.wL).no c);·exact oE f.nw λps j=>gX.no (o:=ry ps) ⟨(λq=>by injection q),(λq=>by injection q),λq=>by injection q⟩ (f8 e (q▸j)▸c)
theorem dZ.extBut(R:dZ G sl env F φ h)(hs:m8 J h h')(k:cX h h')(s:J≠env.locals)(t:∀L,env.frame=aa L->J≠L)(B:∀y c,env.cells.lookup y=aa c->J≠c):dZ G sl env F φ h':=by have ns:∀{b m},J≠b->h.Ns b m->h'.Ns b m:=λi x=>gM x λo g D e r=>⟨o,g,D,hs _ _ (hH i) e,r⟩;have p:∀{b v},J≠b->h.IsCell b v->h'.IsCell b v:=λi x=>ay x λo e r=>⟨o,hs _ _ (hH i) e,r⟩;refine⟨R.kind,R.mW,R.bi,iF R.fr λL m e M a b c=>⟨L,m,e,ns (t L e) M,a,b,c.imp id λx=>gM x λo g n C z=>⟨o,g,n,hs _ _ (hH (t L e)) C,z⟩⟩,⟨R.af.1.imp λm=>ns s,R.af.2⟩,λy c e=>pO (R.hV y c e) λa b v N=>⟨a,b,v,p (B y c e) N⟩,R.uu,R.name,R.snd,λy j u e f=>(R.val y j u e f).imp id λx=>ay x λw Q r=>⟨w,?_,r.B (λZ Z z=>z) k⟩⟩;exact Q.imp (λx=>zw x λq m d l=>⟨q,m,ns s d,l⟩) λx=>zw x λq c d l=>⟨q,c,d,p (B y c d) l⟩
variable(OK:cL G)
include OK
theorem Qm{A:bq}(hR:jf A n)(hsc:env.scope.names=sc)(B:ly G A env)(Ib:dQ G A env sl Fb l μb j)(hx:sl.lookup x=aa i)(hk:sc.lookup x=aa .local\/sc.lookup x=aa .cell)(R:lA G cl n sl sc b body)(hJ:j.heap.get? J=ah)(W:G.h₀.get? J=ah/\J≠G.P/\J≠G.Lb){E:aq->az->Prop}:∀(st:IS)(F:List V)(φ:List am)(μ:H)(s:az),cy G (fv env) l j φ s->dQ G A env sl F φ μ s->J∉φ->fj G φ s.heap J st->bB G env sl l j (nS (λv F h=>aV cl b (F.set i v) h) st F μ) Q E->kL (aU G.aE G.w) A (.forLoop (.Name x p) (.ref J) body [] env) (λr s'=>match r with|.ok f=>Q f s'|.error e=>E e s') s:=by intro st F φ μ s U u D it g;have hJo:J∉fv env:=λq=>J5 B Ib.env J q hJ;have Y:J≠env.locals:=λq=>hJo (q▸je ..);have hJc:∀y c,env.cells.lookup y=aa c->J≠c:=λy c e q=>hJo (q▸EI e);refine ay (show∃T:Nat->az->Prop,(∀(st:IS)(F:List V)(φ:List am)(μ:H)s,cy G (fv env) l j φ s->dQ G A env sl F φ μ s->J∉φ->fj G φ s.heap J st->bB G env sl l j (nS (λv F h=>aV cl b (F.set i v) h) st F μ) Q E->T st.fT s)/\∀k s(P:Prop),T k s->(∀(st:IS)(F:List V)(φ:List am)(μ:H),st.fT=k->cy G (fv env) l j φ s->dQ G A env sl F φ μ s->J∉φ->fj G φ s.heap J st->bB G env sl l j (nS (λv F h=>aV cl b (F.set i v) h) st F μ) Q E->P)->P from⟨λk s=>∃(st:IS)(F:List V)(φ:List am)(μ:H),st.fT=k/\cy G (fv env) l j φ s/\dQ G A env sl F φ μ s/\J∉φ/\fj G φ s.heap J st/\bB G env sl l j (nS (λv F h=>aV cl b (F.set i v) h) st F μ) Q E,λst F φ μ s a b c d e=>⟨st,F,φ,μ,rfl,a,b,c,d,e⟩,λk s P x f=>x.elim λst x=>x.elim λF x=>x.elim λφ x=>x.elim λμ x=>f st F φ μ x.1 x.2.1 x.2.2.1 x.2.2.2.1 x.2.2.2.2.1 x.2.2.2.2.2⟩) λT mk el=>?_;refine codeAny_forLoop T (λk s xT=>el k s _ xT λst F φ μ ek U u D it g=>tF λK M=>?_) st.fT (mk st F φ μ s U u D it g);rw[MS]at g;have nJ:∀{φ:List am},J∉φ->J∉fv env++φ:=λh z=>(d6.mp z).elim hJo h;cases q:st.nx μ with|none=>rw[q]at g;exact g.elim|some r=>rw[q]at g;refine CD OK u.hh u.cf ⟨D,W⟩ it q (λZ h' hs=>M _ _ ?_) (λv st' Z h' t w a1 S1 k1 rv it1=>M _ _ (tF λK M=>?_));(·rw[Z]at g;exact wi (g φ _ (cy.extBut (s₁:=s) (t:=s.toks) U hJ hs) (u.cf.Qp it ⟨D,W⟩ hs) (u.env.extBut hs (it.fR hs) Y (λL e=>f8 B.own e▸Y) hJc)));·rw[Z]at g;have ad1:cy G (fv env) l j φ {s with heap:=h',toks:=t}:=U.lM a1 λb R hne=>absurd hJ (dq.mp R▸hne);have R1:dZ G sl env F φ h':=u.env.kD u.cf a1 (rY (hH Y)) (λL e=>f8 B.own e▸rY (hH Y)) (λy c e=>rY (hH (hJc y c e))) (jA (P:=λa=>∀ob,s.heap.get? a=aa ob->gX ob) λob e=>uP it.fJ λo e' c1 c2 c3 _=>f8 e' e▸⟨c1,c2,c3⟩);have I1:dQ G A env sl F φ μ {s with heap:=h',toks:=t}:=⟨S1,R1,u.fr.kD a1 (λb R envs e env' he f m hm _=>(xJ it.fJ λo e' _ _ _ _ d=>fW hm λo' es ep e2 d2 _=>d es ep (f8 e2 (dq.mp R▸e')▸d2)).elim),u.hh⟩;refine GF (uh OK hx (by unfold iE;rw[hsc];exact hk) I1 rv λh2 t2 N S2 R2=>M _ _ (tF λK M=>?_));have I2:dQ G A env sl (F.set i v) φ μ {s with heap:=h2,toks:=t2}:=I1.nU B N S2 R2;have it2:fj G φ h2 J st':=it1.zD S1 N (ww B R1 S1 N) (nJ D) W.2;refine R A env (F.set i v) φ μ _ _ _ hR hsc B I2 ?_;have g:bB G env sl l j (match aV cl b (F.set i v) μ with|.nx F h=>nS (λv F h=>aV cl b (F.set i v) h) st' F h|.rt v h=>.rt v h|.ex _ _ _=>.aM|.aM=>.aM) Q E:=g;cases q3:aV cl b (F.set i v) μ with|aM=>rw[q3]at g;exact g.elim|ex x F' μ'=>rw[q3]at g;exact g.elim|rt v' μ'=>rw[q3]at g;exactλφ' s' w' C b' c'=>M _ _ (g φ' s' w' ((ad1.trans N).trans C) b' c')|nx F' μ'=>rw[q3]at g;exactλφ' s' C S' R'=>M _ _ ⟨st'.fT,ek▸IS.MW (Z▸q),mk st' F' φ' μ' s' ((ad1.trans N).trans C) (I2.nU B C S' R') (oJ C D (ay it2.fJ λo e _=>kW e)) (it2.zD S2 C (ww (s:={s with heap:=h2,toks:=t2}) B R2 S2 C) (nJ D) W.2) g⟩
end
theorem WT{f:V->List V->H->RS}{st:IS}:nS f st F h≠.ex x b h':=by
 have j:∀n(st:IS),st.fT<n->∀F h,nS f st F h≠.ex x b h':=λn=>by induction n with|zero=>exactλst c=>absurd c (ux _)|succ n i=>intro st c F h q;rw[MS]at q;cases e:st.nx h with|none=>rw[e]at q;injection q|some o=>rw[e]at q;cases o with|none=>injection q|some p=>have q:(match f p.1 F h with|.nx F h=>nS f p.2 F h|.rt v h=>.rt v h|.ex _ _ _=>.aM|.aM=>.aM)=RS.ex x b h':=q;cases a:f p.1 F h with|nx d g=>rw[a]at q;exact i p.2 (gf (IS.MW e) (N9 c)) d g q|rt=>rw[a]at q;injection q|ex=>rw[a]at q;injection q|aM=>rw[a]at q;injection q
 exact j _ st (m4 _) F h
section
variable{G:bp}{cl:Fn->List V->H->aB V}{n:Nat}{sl:Sl}{sc:List (aD×cK)}
theorem bB.pK{E a:aq->az->Prop}(b:∀x F h,r≠.ex x F h)(h:bB G env sl φ s r Q E):bB G env sl φ s r Q a:=by induction r with|ex x F h=>exact absurd rfl (b x F _)|nx _ _=>exact h|rt _ _=>exact h|aM=>exact h
variable(OK:cL G)
include OK
theorem DJ{A:bq}{env:bP}{F:List V}{φ:List am}{μ:H}{s:az}(t:jf A n)(y:env.scope.names=sc)(o:ly G A env)(a:dQ G A env sl F φ μ s){x:aD}{i:Nat}{p:be}(z:sl.lookup x=aa i)(w:sc.lookup x=aa .local\/sc.lookup x=aa .cell){b:List CS}{k:List bK}(u:lA G cl n sl sc b k){d:cE}{st:IS}(it:fj G φ (s.heap.push d) s.heap.objs.size st){Q:kK->az->Prop}{E l:aq->az->Prop}(q:bB G env sl φ s (nS (λv F h=>aV cl b (F.set i v) h) st F μ) Q l):kL (aU G.aE G.w) A (.forLoop (.Name x p) (.ref s.heap.objs.size) k [] env) (λr s'=>match r with|.ok f=>Q f s'|.error e=>E e s') {s with heap:=s.heap.push d}:=by have g:=a.cf.vr;have c:cR G [] s.heap (s.heap.push d):=.push _ _ _;have m:=a.cf.jF OK.lb c;have j:c7 G φ s φ {s with heap:=s.heap.push d,toks:=s.toks}:=c.pp a.cf;exact Qm OK t y o a z w u (lH (cF _)) g.2 st F φ μ _ (j.oM kq) (a.aH j m) g.1 it (bB.pK (λZ Z Z=>WT) q)
theorem YY(u:∀env y,yJ e env y=dG y)(z:sl.lookup x=aa i)(t:sc.lookup x=aa .local\/sc.lookup x=aa .cell)(hi:SE G cl n sl sc j e)(o:lA G cl n sl sc b h):SS G cl n sl sc (.fr i j b) (.For (.Name x p) e h [] pos):=λA env F φ μ s Q E k l m d c=>by refine wpAny_For (hi A env F φ μ s _ E k l d (bB.on d.cf d.env c λv C L s₁ w a g r c=>?_)) (u env);induction q:oC v with|none=>rw[q]at c;exact c.elim|some B=>rw[q]at c;simp only at c;rw[Sv]at c;induction f:nE B C with|none=>rw[f]at c;exact c.elim|some st=>rw[f]at c;exact Cz g r q f λJ D x=>DJ OK k l m (d.aH a g) z t o x c
theorem VS{i:Nat}{x:aD}{q:CE}{b:List CS}{h:aO}{o:List bK}{p U W pos:be}(N:sc.lookup (bz "range")=aa .globalImplicit)(M:dR h=aj)(R:sl.lookup x=aa i)(J:sc.lookup x=aa .local\/sc.lookup x=aa .cell)(L:SE G cl n sl sc q h)(D:lA G cl n sl sc b o):SS G cl n sl sc (.fP i q b) (.For (.Name x p) (.Call (.Name (bz "range") U) [h] [] W) o [] pos):=λA env F φ μ s Q E u y C f d=>by refine wpAny_For (Iq OK N M L u y f (bB.on f.cf f.env d λv Z z s₁ w a g r d=>?_));induction v using V.casesOn with|int m=>simp only at d;by_cases j:small m=aj;(·rw[if_pos j]at d;refine oE r λt e=>⟨m,t,e,?_⟩;have Y:=of_decide_eq_true j;have c:cR G [] s₁.heap (s₁.heap.push {cls:=.type "range",data:=.fields #[.int 0 s₁.toks,.int m t,.int 1 (s₁.toks+1)]}):=.push _ _ _;have l:c7 G z s₁ z {s₁ with heap:=s₁.heap.push {cls:=.type "range",data:=.fields #[.int 0 s₁.toks,.int m t,.int 1 (s₁.toks+1)]},toks:=s₁.toks+1+1}:=c.pp g;have B:=g.jF OK.lb c;refine OD (kO _ rfl) (small_one (by decide) (by decide) (by lia) (by lia)) ?_;refine DJ OK u y C ((f.aH a g).aH l B) R J D (st:=.e9 (jQ m)) (.e9 (.pL (kO _ rfl) ?_)) (bB.kX l d);rw[rangeSize_nat,jC,Int.sub_zero];exact uA λk _=>congrArg V.int (by rw[Int.zero_add,Int.mul_one]));·rw[if_neg j]at d;exact d.elim|_=>exact d.elim
omit OK in theorem aau:(Cb m (-1) (-1)).toNat=(m+1).toNat:=by
 unfold Cb;rw[if_neg (by decide)];split;·rw[show-(-1:Int)=1 from rfl,Int.ediv_one];lia
 ·lia
omit OK in theorem ZL(h:small m=aj):Cb m (-1) (-1)<=2^60+1/\0<=Cb m (-1) (-1):=by
 have h:=of_decide_eq_true h;unfold Cb;rw[if_neg (by decide)];split;·rw[show-(-1:Int)=1 from rfl,Int.ediv_one];lia
 ·decide
omit OK in theorem Sy(h:small m=aj):Builtin.Range.small m (-1) (-1)=aj:=by have a:=ZL h;have h:=of_decide_eq_true h;unfold Builtin.Range.small;simp only[Builtin.Range.rangeFitsLong,cI,pj,decide_eq_true_eq,beq_iff_eq];rw[if_neg (by decide:¬((-1:Int)>0))];exact⟨by lia,.inr (by decide)⟩
theorem Vw{i:Nat}{x:aD}{R:CE}{b:List CS}{o l e:aO}{N:List bK}{p p1 p2 pos:be}(hr:sc.lookup (bz "range")=aa .globalImplicit)(Z:dR o=aj)(W:dR l=aj)(Y:dR e=aj)(hx:sl.lookup x=aa i)(hk:sc.lookup x=aa .local\/sc.lookup x=aa .cell)(hn:SE G cl n sl sc R o)(h1:SE G cl n sl sc (.bn (.J 1)) l)(h2:SE G cl n sl sc (.bn (.J 1)) e)(hb:lA G cl n sl sc b N):SS G cl n sl sc (.lg i R b) (.For (.Name x p) (.Call (.Name (bz "range") p1) [o,l,e] [] p2) N [] pos):=λA env F φ μ s Q E q j hC g d=>by(have hok2:[o,l,e].all dR=aj:=by rw[m7,m7,m7,Z,W,Y];rfl);refine wpAny_For (hs:=λ_=>rfl) ?_;rw[tW rfl];refine bM (tw OK (x:="range") (v:=.type "range") (by simp) (by kernel_rfl) (by decide) (by decide) j hr g ?_);refine GB (kY hok2) ?_;rw[lP Z];refine v8 (rA (hn A env F φ μ s _ E q j g (bB.on g.cf g.env d λv μ₁ φ₁ s₁ w a J r d=>?_)));have C:=g.aH a J;rw[lP W];refine rA (h1 A env F φ₁ μ₁ s₁ _ E q j C ?_);have U:∀F h,ax cl (.bn (.J 1)) F h=.ok (.int (-1)) h:=λF h=>rfl;rw[U];intro φ₂ s₂ w2 z L r2;have D:=C.aH z L;rw[lP Y];refine rA (h2 A env F φ₂ μ₁ s₂ _ E q j D ?_);rw[U];intro φ₃ f w3 B y r3;have I3:=D.aH B y;refine vZ ?_;have r':=aA.aH L B dX (aA.aH J z dX r);induction v using V.casesOn with|int m=>simp only at d;by_cases u:small m=aj;(·rw[if_pos u]at d;refine oE r' λt et=>oE r2 λt2 e=>oE r3 λt3 e3=>?_;rw[et,e,e3];have hm':=of_decide_eq_true u;refine call_range_3 (by decide) ?_ (.inl (abJ (by decide)));have c:cR G [] f.heap (f.heap.push {cls:=.type "range",data:=.fields #[.int m t,.int (-1) t2,.int (-1) t3]}):=.push _ _ _;have M:c7 G φ₃ f φ₃ {f with heap:=f.heap.push {cls:=.type "range",data:=.fields #[.int m t,.int (-1) t2,.int (-1) t3]},toks:=f.toks}:=c.pp y;have S4:=y.jF OK.lb c;refine OD (kO _ rfl) (Sy u) (DJ OK q j hC (I3.aH M S4) hx hk hb (st:=.e9 (qM m)) (.e9 (.pL (kO _ rfl) ?_)) (bB.kX M (bB.kX B (bB.kX z d))));rw[aau];exact uA λk _=>congrArg V.int (by lia));·rw[if_neg u]at d;exact d.elim|_=>exact d.elim
end
noncomputable def yf(sc:List (aD×cK))(a:dY)(x:aD)(p pos:be):Bool:=sc.lookup x==aa .local&&p.line==pos.line&&!(a.names.any λ(n,k)=>n==x&&(k==.local||k==.cell))
theorem IP{env:bP}(h:env.scope.kind=.function):env.blockKind=.function:=by unfold Env.blockKind;rw[h];rfl
theorem H5{env:bP}{a:dY}{pos p:be}(d:env.scope.kind=.function)(e:env.scope.names=sc):B9 (.ListComp b c a pos) (aa (.Name x p)) l env=dG (yf sc a x p pos):=by subst e;show(dG (env.blockKind==.function&&env.kindOf x==aa .local&&p.line==pos.line&&!(a.names.any λ(n,k)=>n==x&&(k==.local||k==.cell))):Sem Bool)=_;rw[IP d];rfl
section
variable{G:bp}{cl:Fn->List V->H->aB V}{n:Nat}{sl:Sl}{sc:List (aD×cK)}
theorem abe{A:bq}(p:env.scope.names=sc)(m:dQ G A env sl F φ μ s)(o:mG sl sc scope x i=aj)(n:∀y,yJ a env y=dG y){E:aq->az->Prop}(h:aJ (aU G.aE G.w) A (gn a env) (λz s₁=>aJ (aU G.aE G.w) A (pyIter z) (λit u=>aJ (aU G.aE G.w) A (B7 []) (λd v=>aJ (aU G.aE G.w) A (B8 scope env.globals (i3 env scope.names []) [] env.qual ah .none (aa env)) (λf w=>kL (aU G.aE G.w) A (.compStart (.ListComp j [⟨.Name x c,a,[],0⟩] scope pos) 0 it d {f with scope:=wh scope env}) (B6 (aU G.aE G.w) A E l Q d f.locals) w) E v) E u) E s₁) E s):aJ (aU G.aE G.w) A (comprehension (.ListComp j [⟨.Name x c,a,[],0⟩] scope pos) scope env t (B7 []) au (gn a env) l) Q E s:=by
 have b:=Cx o;refine abR (g:=⟨.Name x c,a,[],0⟩) (gs:=[]) rfl n (Mi (Bf b p m.env)) b.kind (λy r e=>?_) h;obtain⟨y,k⟩:=y;simp only at e;subst e;rcases b.af y r with q|⟨_,q⟩;·rw[q];exact b.zy
 ·exact q
variable(OK:cL G)
include OK
theorem Vy {scope : dY} {x y : aD} {i j : Nat} (hok : mG sl sc scope x i = aj) {e it : CE} {elt iter : aO} {px py pos spos : be} (hns : ∀ env y, yJ iter env y = dG y) (hsw : yf sc scope y py pos = aj) (hy : sl.lookup y = aa j) (hi : SE G cl n sl sc it iter) (he : SE G cl n (oo sl sc scope) (nF sc scope) e elt) :
    SS G cl n sl sc (.D j (.lc e i it)) (.Assign [.Name y py] (.ListComp elt [⟨.Name x px, iter, [], 0⟩] scope pos) spos) := fun A env F φ μ s Q E hR hsc hC I hE => by
  rw [Yy, ZC] at hE
  have hky : sc.lookup y = aa .local := by
    unfold yf at hsw
    simp only [cI, beq_iff_eq] at hsw
    exact hsw.1.1
  rw [exec_Assign_Name_used _ _ _ _ ((H5 I.env.kind hsc).trans (by rw [hsw]))]
  refine bM (GC (bM ?_))
  show aJ _ A (do let _ ← comprehension (.ListComp elt [⟨.Name x px, iter, [], 0⟩] scope pos) scope env _ (B7 []) au (gn iter env) (aa (assign (.Name y py) env))) _ E s
  refine bM (abe (Q := fun _ s' => aJ (aU G.aE G.w) A (dG vU) (fun _ s => aJ (aU G.aE G.w) A (dG .next) Q E s) E s') hsc I hok (hns env) (hi A env F φ μ s _ E hR hsc I ?_))
  refine bB.on (Q := Q) (F := F) (k := fun x h => match oC x with
    | aa its => ((pK (xN (fun v h' => (ax cl e (F.set i v) h').bind fun w h' => jy h.length w h') its (h ++ [.list []]))).bind fun _ h' => .ok (.ref h.length) h').on F fun v h => .nx (F.set j v) h
    | ah => .aM) I.cf I.env ?_ fun v μ₁ φ₁ s₁ w a S r hE => ?_
  · induction q : ax cl it F μ with
    | aM => rw [q] at hE; exact hE.elim
    | ex x μ' => rw [q] at hE; exact hE
    | ok v μ' =>
      rw [q] at hE
      simp only [aB.bind, aB.on] at hE ⊢
      induction q2 : oC v with
      | none => rw [q2] at hE; exact hE.elim
      | some its => rw [q2] at hE; exact hE
  · have I1 := I.aH a S
    induction q : oC v with
    | none => rw [q] at hE; exact hE.elim
    | some its =>
      rw [q] at hE
      simp only at hE
      rw [J4, Jh S r q] at hE
      induction q2 : nE its μ₁ with
      | none => rw [q2] at hE; exact hE.elim
      | some st =>
        rw [q2] at hE
        simp only at hE
        refine Cz S r q q2 fun itO hf x' => Cp OK hR hsc I1 hok he hf x' ?_
        induction q3 : oP (fun v h' => (ax cl e (F.set i v) h').bind fun w h' => jy μ₁.length w h') st (μ₁ ++ [.list []]) with
        | aM => rw [q3] at hE; exact hE.elim
        | ex x μ' => rw [q3] at hE; exact hE.elim
        | ok u μF =>
        rw [q3] at hE
        refine ⟨μF, q3, fun D C φ' s' a' S' eD hCn hC0 hCn0 ⟨m, hm⟩ => ?_⟩
        have I2 := I1.aH a' S'
        show aJ _ A (assign (.Name y py) env (.ref D)) _ E s'
        refine GF (uh OK hy (.inl (by unfold iE; rw [hsc]; exact hky)) I2 (v := .ref μ₁.length) (aA.IC eD) fun h2 t2 a2 S2 R2 => ?_)
        have hCo : C ∉ fv env := fun q => J5 hC I1.env C q hCn0
        have hm2 : h2.Ns C m := a2.2.1.ns C m (by
          intro z
          rcases d6.mp z with z | z
          · exact hCo z
          · exact hCn z) hm
        refine (bC m hm2 (fun h' hs => eT (eT ?_)))
        have k2 := Az hm2 hs.extBut
        have a3 : cy G (fv env) φ₁ s₁ φ' { s' with heap := h2, toks := t2 } := (a'.oM (by simp)).trans a2
        have a4 := cy.extBut (s₁ := { s' with heap := h2, toks := t2 }) (t := t2) a3 hCn0 hs.extBut
        refine hE φ' _ a4 (S2.extBut (s := { s' with heap := h2, toks := t2 }) ⟨hCn, hC0⟩ k2 hs.extBut) (R2.extBut hs.extBut k2 (fun q => hCo (q ▸ je ..)) (fun L e => by rw [hC.own] at e; (injection e with q; subst q); exact fun q => hCo (q ▸ je ..)) fun y c e q => hCo (q ▸ EI e))
end
theorem Jc(h:ng e=aj):swapsWithSole [t] e l env=dG au:=by show B9 e (aa t) l env=dG au;exact vd h _ _ _
noncomputable def tx(sc:List (aD×cK))(b:List aO):List aD:=b.filterMap λ|.Name a pos=>if sc.lookup a==aa .local&&pos.line==(b.head?.map (·.pos.line)).getD 0 then aa a else ah|_=>ah
noncomputable def H7(sc:List (aD×cK))(a vs:List aO):Option (Option (List aD)):=if(!(a.length==2||a.length==3)||vs.length !=a.length)=aj then aa ah else if(vs.any λ|.Starred ..=>aj|_=>au)=aj then aa ah else if((tx sc a).length !=a.length||(tx sc a).eraseDups.length !=(tx sc a).length)=aj then aa ah else if vs.all (foldedForSure 8)=aj then aa ah else if vs.all (constantsAlone 8)=aj then ah else aa (aa (tx sc a))
noncomputable def wP(sc:List (aD×cK))(a:List aO)(b:aO):Option (Option (List aD)):=match b with|.Tuple vs _ _=>H7 sc a vs|_=>aa ah
theorem VR(g:env.scope.kind=.function)(h:H7 env.scope.names a vs=aa r):swappedStores [.Tuple a k j] (.Tuple vs k2 i) env=dG r:=by
 by_cases b:(!(a.length==2||a.length==3)||vs.length !=a.length)=aj;·injection(if_pos b).symm.trans h with h;subst h;exact if_pos (by rw[b];rfl)
 ·replace h:=(if_neg b).symm.trans h;refine(if_neg (by rw[Bool.or_eq_false_iff.mpr (.intro (BX.mpr b) (by rw[IP g];rfl))];exact vP)).trans ?_;by_cases c:(vs.any λ|.Starred ..=>aj|_=>au)=aj;(·injection(if_pos c).symm.trans h with h;subst h;exact if_pos c);·replace h:=(if_neg c).symm.trans h;refine(if_neg c).trans ?_;by_cases d:((tx env.scope.names a).length !=a.length||(tx env.scope.names a).eraseDups.length !=(tx env.scope.names a).length)=aj;(·injection(if_pos d).symm.trans h with h;subst h;exact if_pos d);·replace h:=(if_neg d).symm.trans h;refine(if_neg d).trans ?_;by_cases e:vs.all (foldedForSure 8)=aj;(·injection(if_pos e).symm.trans h with h;subst h;exact if_pos e);·replace h:=(if_neg e).symm.trans h;refine(if_neg e).trans ?_;by_cases f:vs.all (constantsAlone 8)=aj;(·injection(if_pos f).symm.trans h);·injection(if_neg f).symm.trans h with h;subst h;exact if_neg f
theorem HM(c:env.scope.kind=.function)(d:env.scope.names=sc)(h:wP sc b a=aa r):swappedStores [.Tuple b k e] a env=dG r:=by subst d;induction a using Expr.casesOn with|Tuple vs k2 f=>exact VR c h|_=>injection h with h;subst h;rfl
theorem U5:∀{l:List Nat}{vs:List V}{F a:List V},r7 F l vs=aa a->l.length=vs.length:=λ{l}=>by induction l with|nil=>intro vs F a q;(induction vs with|nil=>rfl|cons _ _=>injection q)|cons _ l b=>intro vs F a q;induction vs with|nil=>injection q|cons _ vs=>exact congrArg (·+1) (b q)
section
variable{G:bp}{cl:Fn->List V->H->aB V}{n:Nat}{sl:Sl}{sc:List (aD×cK)}
theorem IO(b:aK G φ μ s.heap)(hs:m8 s.heap.objs.size s.heap h'):c7 G φ s φ {s with heap:=h'}/\aK G φ μ h'/\cX s.heap h':=by have c:cX s.heap h':=λa o e z z=>hs a o (l9 (md e)) e;exact(eA (cy.extBut (s₁:=s) (t:=s.toks) (.b8 _ _ _) (lH (cF _)) hs) (b.extBut b.vr c hs) c)
theorem Kj:∀{a:List (aD×Nat×be)},(GJ (a.map λt=>uE t.1 t.2.2) env).findIdx? (·.1)=ah/\(GJ (a.map λt=>uE t.1 t.2.2) env).length=a.length|[]=>⟨rfl,rfl⟩|t::a=>by refine oA (@Kj env a) λb c=>?_;refine⟨?_,congrArg (·+1) c⟩;show List.findIdx? _ (_::GJ (a.map λt=>uE t.1 t.2.2) env)=ah;rw[List.findIdx?_cons,b];rfl
variable(OK:cL G)
include OK
theorem Hf{A:bq}(h:env.scope.names=sc)(f:ly G A env){E:aq->az->Prop}:∀{d:List (aD×Nat×be)}{F c:List V}{φ:List am}{μ:H}{s:az}{vs:List V}{ws:List aq},(∀t∈d,sl.lookup t.1=aa t.2.1/\(sc.lookup t.1=aa .local\/sc.lookup t.1=aa .cell))->dQ G A env sl F φ μ s->bv G φ s.heap vs ws->r7 F (d.map (·.2.1)) vs=aa c->bB G env sl φ s (.nx c μ) Q E->aJ (aU G.aE G.w) A (assignInOrder ((GJ (d.map λt=>uE t.1 t.2.2) env).map (·.2)) ws) (λZ=>Q .next) E s|[],F,c,φ,μ,s,vs,ws,_,b,r,e,g=>by(induction vs with|nil=>injection e with q;subst q;exact abU (bB.ok b.cf b.env g)|cons _ _=>injection e)|t::d,F,c,φ,μ,s,vs,ws,j,b,r,e,g=>by induction vs with|nil=>injection e|cons v vs=>refine cG r.kS ?_;rintro w y rfl o u;obtain⟨x,i,p⟩:=t;refine oA (j _ (je ..)) λn l=>?_;refine OM (GF (uh OK n (by unfold iE;rw[h];exact l) b o λh' z a k R=>?_));exact Hf h f (λt m=>j t (iR _ m)) (b.nU f a k R) (u.B a.eB (ww f b.env b.cf a)) e (bB.aH a g)
theorem PY{f:List (aD×Nat×be)}(C:ng e=aj)(J:wP sc (f.map λt=>uE t.1 t.2.2) e=aa ah)(D:∀t∈f,sl.lookup t.1=aa t.2.1/\(sc.lookup t.1=aa .local\/sc.lookup t.1=aa .cell))(h:SE G cl n sl sc c e):SS G cl n sl sc (.gK (f.map (·.2.1)) c) (.Assign [.Tuple (f.map λt=>uE t.1 t.2.2) k N] e pos):=λA env F φ μ s Q E y j x i d=>by refine Assign_Tuple (h A env F φ μ s _ E y j i (bB.on i.cf i.env d λv W Y s₁ w a l r d=>?_)) (Jc C) (HM i.env.kind j J);have p:=i.aH a l;cases v with|Z vs=>dsimp only at d;(cases q:r7 F (f.map (·.2.1)) vs with|none=>rw[q]at d;exact d.elim|some U=>rw[q]at d;refine cG r ?_;(try clear r;rintro b R rfl g o);have B:f.length=vs.length:=(d5 ..).symm.trans (U5 q);refine oA (@Kj env f) λL M=>?_;refine wpAny_assign_Tuple (items:=R.toArray) i.hh ⟨_,g,rfl,_,rfl⟩ (by rw[M,B];simp[o.length]) L λh' hs=>?_;refine dT (IO (s:=s₁) l hs) λm u k2=>?_;exact Hf OK j x D (p.aH m u) (o.B (λZ Z z=>z) k2) q (bB.kX m d))|_=>exact d.elim
theorem PG{x y:aD}{i j:Nat}{B C:be}{c:CE}{e:aO}{k:Nat}{tp pos:be}(hn:ng e=aj)(hw:wP sc [.Name x B,.Name y C] e=aa (aa [x,y]))(Y:i≠j)(hx:sl.lookup x=aa i)(Z:sc.lookup x=aa .local\/sc.lookup x=aa .cell)(hy:sl.lookup y=aa j)(hky:sc.lookup y=aa .local\/sc.lookup y=aa .cell)(h:SE G cl n sl sc c e):SS G cl n sl sc (.gK [i,j] c) (.Assign [.Tuple [.Name x B,.Name y C] k tp] e pos):=λA env F φ μ s Q E W l u f d=>by refine Assign_Tuple_swapped (h A env F φ μ s _ E W l f (bB.on f.cf f.env d λv μ₁ φ₁ s₁ w a p r d=>?_)) (Jc hn) (HM f.env.kind l hw);have D:=f.aH a p;induction v using V.casesOn with|Z vs=>rcases vs with _|⟨v1,_|⟨v2,_|⟨v3,vs⟩⟩⟩;(·exact d.elim);(·exact d.elim);(·refine cG r ?_;(try clear r;rintro b us rfl g rs);refine cG rs.kS ?_;rintro w1 us1 rfl r1 rs1;refine cG rs1.kS ?_;rintro w2 us2 rfl r2 rs2;rw[rs2.nt]at g;refine wpAny_unpackItems_tuple (items:=#[w1,w2]) f.hh ⟨_,g,rfl,_,rfl⟩ λh' hs=>?_;refine dT (IO (s:=s₁) p hs) λt q k2=>?_;have m:=D.aH t q;refine OM (wpAny_bindName (uh OK hy (by unfold iE;rw[l];exact hky) m (r2.B (λ_ _ z=>z) k2) λh3 t3 o N L=>?_));have J:=m.nU u o N L;refine OM (wpAny_bindName (uh OK hx (by unfold iE;rw[l];exact Z) J ((r1.B (λ_ _ z=>z) k2).B (λ_ _ z=>z) (ww (s:={s₁ with heap:=h'}) u m.env q o)) λh4 t4 U R M=>?_));refine abU ?_;replace d:bB G env sl φ₁ s₁ (.nx ((F.set i v1).set j v2) μ₁) Q E:=d;rw[List.set_comm _ _ Y]at d;exact bB.ok R M (bB.aH U (bB.aH o (bB.kX t d))));·exact d.elim|_=>exact d.elim
end
theorem RQ{ps:List aD}:∀{ws:List aq}{x:aD},ws.length=ps.length->x∈ps->(sX x (ps.zip ws)).isSome=aj:=by induction ps with|nil=>exactλz h=>absurd h jD|cons p ps b=>intro ws x a h;induction ws using j4 with|nil=>injection a|cons w ws=>rw[GK,gR];cases q:x==p with|true=>rfl|false=>exact b (N3 a) ((gQ.mp h).resolve_left (beq_eq_false_iff_ne.mp q))
theorem aaZ:∀{ws:List aq}{l:List (aD×aq)},ws.length=ps.length->ps.Nodup->(∀x∈ps,sX x l=sX x (ps.zip ws))->abV (λn=>Gj (λx=>(n,x)) (sX n l)) ps=ps.zip ws:=by induction ps with|nil=>exactλz z z=>rfl|cons p ps f=>intro ws l b a h;induction ws using j4 with|nil=>injection b|cons w ws=>have a:=pn.mp a;have d:sX p l=aa w:=(h p (je ..)).trans (by rw[GK,gR,beq_self_eq_true]);rw[abK,d];exact congrArg ((p,w)::·) (f (N3 b) a.2 λx c=>(h x (iR _ c)).trans (by rw[GK,gR,beq_eq_false_iff_ne.mpr λe=>a.1 ((e:x=p)▸c)]))
theorem UP{c:Type}{o:Option c}(a:o.isNone=aj)(b:o.isSome=aj):False:=by cases o with|none=>injection b|some=>injection a
theorem OY(p:i9):(⟨p.posonlyargs,p.args,p.vararg,p.kwonlyargs,p.kw_defaults,p.kwarg,p.defaults⟩:i9)=p:=by cases p;rfl
theorem Qx(a:p.posonlyargs=[])(b:p.kwonlyargs=[])(c:p.vararg=ah)(d:p.kwarg=ah):(⟨[],p.args,ah,[],p.kw_defaults,ah,p.defaults⟩:i9)=p:=by have z:=OY p;rwa [a,b,c,d]at z
theorem aay{nm q bo sc gl cl kwd doc pm an cd ct bu ar kd df}{ws:List aq}(a:ws.length=(ar.map λx:Arg=>x.arg).length)(d:(ar.map λx:Arg=>x.arg).Nodup):bindArgs ⟨nm,q,⟨[],ar,ah,[],kd,ah,df⟩,bo,sc,gl,cl,.none,kwd,doc,pm,an,cd,ct,bu⟩ ⟨ws,[]⟩=dG ((ar.map λx:Arg=>x.arg).zip ws):=by
 refine Eq.trans (if_neg (c:=(aZ (ws.length>(ar.map (·.arg)).length)&&aj)=aj) ?_) ?_;·rw[a,decide_eq_false (sT _)];exact vP
 refine Eq.trans (if_neg ?_) ?_;·rw[show(List.filter _ _:List aD)=[]from List.filter_eq_nil_iff.mpr λx b q=>?_];exact vP;exact UP q (RQ a (Gh b))
 show(vT (List.zip _ (NJ _ [])) _ _>>=_)=_;rw[List.drop_nil,abW];refine congrArg (dG (f:=Sem)) (?_:abV _ (ar.map (·.arg)++[])=_);rw[iD];exact aaZ a d λz z=>rfl
theorem C0(a:fd.params.posonlyargs=[])(b:fd.params.kwonlyargs=[])(c:fd.params.vararg=ah)(d:fd.params.kwarg=ah)(e:fd.defaults=.none)(f:ws.length=(fd.params.args.map λx:Arg=>x.arg).length)(g:(fd.params.args.map λx:Arg=>x.arg).Nodup):bindArgs fd ⟨ws,[]⟩=dG ((fd.params.args.map λx:Arg=>x.arg).zip ws):=by have z:=λx y=>aay (nm:=fd.name) (q:=fd.qualname) (bo:=fd.body) (sc:=fd.scope) (gl:=fd.globals) (cl:=fd.closure) (kwd:=fd.kwdefaults) (doc:=fd.doc) (pm:=x) (an:=fd.annotations) (cd:=fd.code) (ct:=fd.closureTuple) (bu:=y) (kd:=fd.params.kw_defaults) (df:=fd.params.defaults) f g;rw[Qx a b c d,<-e]at z;exact z _ _
noncomputable abbrev uX:cE:={cls:=.type "cell",data:=.cell ah}
noncomputable def jt:List (aD×cK)->aQ->List (aD×am)->aQ×List (aD×am)|[],h,cs=>(h,cs)|(n,k)::l,h,cs=>if(k==.cell)=aj then jt l (h.push uX) ((n,h.objs.size)::cs)else jt l h cs
structure JP(l:List (aD×cK))(h:aQ)(cs:List (aD×am))(h':aQ)(cs':List (aD×am)):Prop where
 keep:∀b o,h.get? b=aa o->h'.get? b=aa o
 ti:∀p∈cs,p∈cs'
 new:∀p∈cs',p∈cs\/((p.1,wg)∈l/\h.objs.size<=p.2/\h'.IsCell p.2 ah)
 all:∀x,(x,wg)∈l->∃c,(x,c)∈cs'
 vb:(cs.map (·.1)).Nodup->(l.map (·.1)).Nodup->(∀x∈l.map (·.1),x∉cs.map (·.1))->(cs'.map (·.1)).Nodup
 xU:(cs.map (·.2)).Nodup->(∀p∈cs,p.2<h.objs.size)->(cs'.map (·.2)).Nodup
theorem Ph(l:List (aD×cK)):∀(h:aQ)(cs:List (aD×am)),JP l h cs (jt l h cs).1 (jt l h cs).2:=by induction l with|nil=>exactλh cs=>⟨λZ Z e=>e,λZ e=>e,λZ e=>.inl e,λZ e=>absurd e jD,λe Z Z=>e,λe Z=>e⟩|cons p l d=>intro h cs;show JP (p::l) h cs (if(p.2==.cell)=aj then jt l (h.push uX) ((p.1,h.objs.size)::cs)else jt l h cs).1 (if(p.2==.cell)=aj then jt l (h.push uX) ((p.1,h.objs.size)::cs)else jt l h cs).2;by_cases f:(p.2==.cell)=aj;(·rw[if_pos f];have d:=d (h.push uX) ((p.1,h.objs.size)::cs);have k:p=(p.1,.cell):=congrArg (Prod.mk p.1) (cr f);have j:(h.push uX).objs.size=h.objs.size+1:=rQ;refine⟨λb o e=>d.keep b o (jE _ e),λp e=>d.ti p (iR _ e),λq e=>(d.new q e).elim (λz=>(gQ.mp z).elim (λz=>?_) .inl) λz=>.inr ⟨iR _ z.1,Gs (di (NF j.symm) z.2.1),z.2.2⟩,λx e=>(gQ.mp e).elim (λz=>⟨h.objs.size,d.ti _ (by rw[<-z];exact je ..)⟩) (d.all x),λa b c=>d.vb (pn.mpr ⟨c p.1 (je ..),a⟩) (pn.mp b).2 λx g q=>(gQ.mp q).elim (λq=>(pn.mp b).1 ((q:x=p.1)▸g)) (c x (iR _ g)),λa b=>d.xU (pn.mpr ⟨λq=>ay (gO.mp q) λp i e=>sT _ (e▸b p i),a⟩) (sQ.mpr ⟨j▸m4 _,λp i=>j▸BV (b p i)⟩)⟩;rw[z];exact .inr ⟨k▸je ..,cF _,_,d.keep _ _ (kO _ rfl),rfl⟩);·rw[if_neg f];have d:=d h cs;exact⟨d.keep,d.ti,λp e=>(d.new p e).imp id λz=>⟨iR _ z.1,z.2⟩,λx e=>(gQ.mp e).elim (λq=>absurd (q▸rfl) f) (d.all x),λa b c=>d.vb a (pn.mp b).2 λx g=>c x (iR _ g),d.xU⟩
noncomputable abbrev xF(scope:dY)(L:am)(cs:List (aD×am))(qual:aD)(a:am)(code:aq):bP:={scope,locals:=L,globals:=e7,cells:=cs,qual,func:=aa a,code,frame:=aa L,builtins:=vG}
theorem E5 {M : jN} {A : bq} {E : aq → az → Prop} {Q : List (aD × am) → az → Prop} : ∀ {l : List (aD × cK)} {cs : List (aD × am)} {s : az}, Q (jt l s.heap cs).2 { s with heap := (jt l s.heap cs).1 } →
    aJ M A (vT l cs fun x r => if (x.2 == wg) = aj then do let a ← alloc uX; dG (yC ((x.1, a) :: r)) else dG (yC r)) Q E s
  | [], cs, s, h => eT h
  | (n, k) :: l, cs, s, h => by
    rw [BY]
    unfold jt at h
    by_cases hk : (k == .cell) = aj
    · rw [if_pos hk] at h
      simp only [hk, if_true]
      refine bM (bM (wpAny_alloc (eT ?_)))
      exact E5 h
    · rw [if_neg hk] at h
      simp only [hk, if_false, wf]
      exact bM (eT (E5 h))
theorem Sz {M : jN} {A : bq} {E : aq → az → Prop} {scope : dY} {binds : List (aD × aq)} {qual : aD} {a : am} {code : aq} {s : az} {Q : bP → az → Prop}
    (h : aJ M A (vT binds vU fun (x : aD × aq) _ => do uF (xF scope s.heap.objs.size (jt scope.names (s.heap.push { cls := .type "frame", data := .dict #[] }) []).2 qual a code) x.1 x.2; dG (yC vU)) (fun _ s' => Q (xF scope s.heap.objs.size (jt scope.names (s.heap.push { cls := .type "frame", data := .dict #[] }) []).2 qual a code) s') E { s with heap := (jt scope.names (s.heap.push { cls := .type "frame", data := .dict #[] }) []).1 }) :
    aJ M A (B8 scope e7 [] binds qual (aa a) code ah vG) Q E s := by
  simp only [B8, Option.isSome_none, wf, if_false]
  refine bM (wpAny_alloc (bM ?_))
  refine E5 ?_
  exact bM (yF h (fun _ _ q => eT q) fun _ _ q => q)
noncomputable def CN(sl:Sl)(a:List (aD×cK))(ps:List aD):Bool:=aZ (a.map (·.1)).Nodup&&aZ (sl.map (·.2)).Nodup&&aZ ps.Nodup&&sl.all (λp=>a.lookup p.1==aa .local||a.lookup p.1==aa .cell||a.lookup p.1==ah)&&ps.zipIdx.all (λp=>sl.lookup p.1==aa p.2&&(a.lookup p.1==aa .local||a.lookup p.1==aa .cell))
structure AI(sl:Sl)(names:List (aD×cK))(ps:List aD):Prop where
 nd:(names.map (·.1)).Nodup
 snd:∀x y i,sl.lookup x=aa i->sl.lookup y=aa i->x=y
 Ln:ps.Nodup
 name:∀x i,sl.lookup x=aa i->names.lookup x=aa .local\/names.lookup x=aa .cell\/names.lookup x=ah
 Pm:∀x i,ps[i]?=aa x->sl.lookup x=aa i/\(names.lookup x=aa .local\/names.lookup x=aa .cell)
theorem J8{sl:Sl}(h:(sl.map (·.2)).Nodup)(a:(x,i)∈sl)(b:(y,i)∈sl):x=y:=by induction sl with|nil=>nomatch a|cons p l e=>rw[uB,pn]at h;rcases gQ.mp a with d|d<;>rcases gQ.mp b with c|c;(·rw[<-d]at c;injection c with q;subst q;rfl);(·subst d;exact absurd (show(x,i).2∈l.map (·.2)from gO.mpr (bC (y,i) c rfl)) h.1);(·subst c;exact absurd (show(y,i).2∈l.map (·.2)from gO.mpr (bC (x,i) d rfl)) h.1);·exact e h.2 d c
theorem Ql(h:CN sl c ps=aj):AI sl c ps:=by
 unfold CN at h;simp only[cI,decide_eq_true_eq,fN,pj,beq_iff_eq]at h;refine oA h ?_;try clear h;rintro⟨⟨⟨d,f⟩,g⟩,j⟩k
 refine⟨d,λx y i a b=>J8 f (mw a) (mw b),g,λx i e=>?_,λx i e=>?_⟩;·rcases j _ (mw e)with(q|q)|q;(·exact .inl q);(·exact .inr (.inl q));·exact .inr (.inr q)
 ·exact k (x,i) (List.mem_zipIdx_iff_getElem?.mpr e)
theorem Kz{b:Type}{l:List (aD×b)}(a:(l.map (·.1)).Nodup){x:aD}{c:b}(h:(x,c)∈l):l.lookup x=aa c:=by induction l with|nil=>nomatch h|cons p l f=>obtain⟨n,d⟩:=p;rw[uB,pn]at a;rw[gR];rcases gQ.mp h with e|e;(·cases e;rw[beq_self_eq_true]);·(have:(x==n)=au:=by rw[beq_eq_false_iff_ne];rintro rfl;exact a.1 (gO.mpr (bC _ e rfl)));rw[this];exact f a.2 e
theorem O2{l:List (aD×am)}(d:(l.map (·.2)).Nodup)(a:(x,c)∈l)(b:(y,c)∈l):x=y:=J8 d a b
noncomputable def va(F:List V):Nat->List V->List V|_,[]=>F|k,v::vs=>va (F.set k v) (k+1) vs
theorem Ij:∀(vs b a:List V),vs.length<=a.length->va (b++a) b.length vs=b++vs++a.drop vs.length|[],b,a,_=>by simp[va]|v::vs,b,a,h=>by induction a with|nil=>simp at h|cons x a=>unfold va;(have e:(b++x::a).set b.length v=(b++[v])++a:=by rw[yv _ _ (cF _)];simp);rw[e];have:=Ij vs (b++[v]) a (by simpa using h);rw[cZ,NU]at this;rw[this];simp
section
variable{G:bp}{cl:Fn->List V->H->aB V}{n:Nat}{sl:Sl}
theorem QW{d:dY}{ps:List aD}(Y:d.kind=.function)(D:AI sl d.names ps){φ:List am}{μ:H}{s:az}(j:aK G φ μ s.heap)(OK:cL G){qual:aD}{a:am}{code:aq}{nl:Nat}{n:az}{cs:List (aD×am)}(W:cs=(jt d.names (s.heap.push {cls:=.type "frame",data:=.dict #[]}) []).2)(Z:n={s with heap:=(jt d.names (s.heap.push {cls:=.type "frame",data:=.dict #[]}) []).1}):c7 G φ s φ n/\aK G φ μ n.heap/\dZ G sl (xF d s.heap.objs.size cs qual a code) (eL nl .U) φ n.heap/\(∀p∈cs,cs.lookup p.1=aa p.2)/\(∀b∈fv (xF d s.heap.objs.size cs qual a code),s.heap.get? b=ah):=by
 subst W Z;have g:=Ph d.names (s.heap.push {cls:=.type "frame",data:=.dict #[]}) [];generalize hC:jt d.names (s.heap.push {cls:=.type "frame",data:=.dict #[]}) []=r at g⊢;obtain⟨h,cs⟩:=r;have U:∀b o,s.heap.get? b=aa o->h.get? b=aa o:=λb o e=>g.keep b o (jE _ e);have c:cR G [] s.heap h:=.nr U _;have J:aK G φ μ h:=j.jF OK.lb c;have L:c7 G φ s φ {s with heap:=h}:=c.pp j;have B:=g.vb (by simp) D.nd (by simp);have xU:=g.xU (by simp) (by simp);have lk:∀p∈cs,cs.lookup p.1=aa p.2:=λp l=>Kz B l;have T:=j.vr;have F:h.get? s.heap.objs.size=aa {cls:=.type "frame",data:=.dict #[]}:=g.keep _ _ (kO _ rfl);have u:h.Ns s.heap.objs.size (λ_=>ah):=by refine gM (Heap.Ns.new s.heap (.type "frame")) λo R Q e r=>?_;exact⟨o,R,Q,g.keep _ _ e,r⟩
 have w:∀p∈cs,(p.1,wg)∈d.names/\s.heap.objs.size<p.2/\h.IsCell p.2 ah:=λp l=>by rcases g.new p l with q|⟨q1,C,q3⟩;(·nomatch q);·rw[rQ]at C;exact⟨q1,C,q3⟩
 have t:=j.LZ OK;have φlt:∀b∈φ,b<s.heap.objs.size:=λb k=>j.lt k;refine⟨L,J,?_,lk,?_⟩;·refine⟨Y,rfl,rfl,⟨_,_,rfl,u,T.1,t,.inr ⟨_,#[],0,F,rfl,rfl⟩⟩,⟨⟨_,u⟩,T.1,t⟩,λx c e=>?_,λx y c M N=>O2 xU (mw M) (mw N),λx i e=>?_,D.snd,λx i v e f=>?_⟩;(·have m:=w _ (mw e);have z:s.heap.objs.size<c:=m.2.1;exact⟨λq=>Nat.lt_asymm z (φlt _ q),hG (gF t z),ah,m.2.2⟩);(·rcases D.name x i e with q|q|q;(·exact .inl q);(·refine .inr (.inl ⟨.inl q,?_⟩);refine oE (g.all x (mw q)) λc m=>?_;show(cs.lookup x).isSome=aj;rw[Kz B m];rfl);·exact .inr (.inr q));·left;by_cases hi:i<nl;(·rw[yz,if_pos hi]at f;injection f with q;subst q;rfl);·rw[yz,if_neg hi]at f;injection f
 ·intro b k;rcases gQ.mp k with rfl|k;(·exact lH (cF _));·refine ay (gO.mp k) ?_;rintro p l rfl;exact lH (hG (w p l).2.1)
variable(OK:cL G)
include OK
theorem Nn {A A' : bq} {env : bP} (hA : A.handled = ah) (hC : ly G A' env) {Q : Unit → az → Prop} {E : aq → az → Prop} : ∀ {ps : List aD} {k : Nat} {F : List V} {φ : List am} {μ : H} {s : az} {vs : List V} {ws : List aq},
    (∀ i x, ps[i]? = aa x → sl.lookup x = aa (k + i) ∧ (env.kindOf x = aa .local ∨ env.kindOf x = aa .cell)) → dQ G A env sl F φ μ s → bv G φ s.heap vs ws → ws.length = ps.length →
    (∀ h' t, cy G (fv env) φ s φ { s with heap := h', toks := t } → aK G φ μ h' → dZ G sl env (va F k vs) φ h' → fK G A φ h' → Q () { s with heap := h', toks := t }) →
    aJ (aU G.aE G.w) A (vT (ps.zip ws) vU fun (x : aD × aq) _ => do uF env x.1 x.2; dG (yC vU)) Q E s
  | [], k, F, φ, μ, s, vs, ws, _, I, r, hl, h => by
    have: ws = [] := abX.mp (by simpa using hl)
    subst this
    have: vs = [] := abX.mp (by have:= r.length; simpa using this.symm)
    subst this
    exact eT (h s.heap s.toks (.b8 _ _ _) I.cf I.env I.fr)
  | x :: ps, k, F, φ, μ, s, vs, ws, hp, I, r, hl, h => by
    induction ws with
    | nil => cases hl
    | cons w ws =>
      induction vs with
      | nil => have:= r.length; cases this
      | cons v vs =>
        refine cG r.kS fun w' rs e r1 r2 => ?_
        cases e
        rw [GK, BY]
        refine oA (hp 0 x rfl) fun hx hk => ?_
        refine bM (bM (uh OK hx hk I r1 fun h' t' a S R => eT ?_))
        have I' : dQ G A env sl (F.set (k + 0) v) φ μ { s with heap := h', toks := t' } := ⟨S, R, I.fr.nU a hC.own (fun c hc => by
          refine ay (gO.mp hc) ?_; rintro p hp rfl
          refine pO (I.env.hV _ _ (hC.cells p hp)) fun _ _ v hv => ?_
          exact ⟨v, hv⟩) R, hA⟩
        refine Nn hA hC (k := k + 1) (fun i y e => ?_) I' (r2.B a.eB (ww hC I.env I.cf a)) (by simpa using hl) fun h2 t2 a2 S2 R2 F2 => ?_
        · have:= hp (i + 1) y (by simpa using e)
          rw [show k + 1 + i = k + (i + 1) from by lia]; exact this
        · exact h h2 t2 (a.trans a2) S2 R2 F2
end
section
variable{G:bp}{cl:Fn->List V->H->aB V}{n:Nat}{sl:Sl}
variable(OK:cL G)
include OK
theorem X7{A:bq}{E:aq->az->Prop}(t:ly G A env)(o:cy G own y d φ s)(c:∀b,d.heap.get? b=ah->G.h₀.get? b=ah)(m:aK G φ μ s.heap)(g:fK G A φ s.heap)(R:dZ G sl env F φ s.heap)(f:nM G d.heap env.frame x e s.heap)(h:∀s',cy G own y d φ s'->aK G φ μ s'.heap->nM G d.heap L x e s'.heap->Q () s'):aJ (aU G.aE G.w) A (leaving env e) Q E s:=by refine oE t.jq λouter W=>?_;have u:=t.own;refine cG f λa j p f v=>?_;rw[u]at v;have Z:j=ah\/∃T,j=aa (T,.none)\/j=aa (T,mh env.locals):=v.imp id λk=>oE k λT q=>⟨T,q.imp id λk=>ay k λl e q=>by injection e with q;subst q;exact q⟩;rw[p];unfold leaving;refine bM (DT W u g m c (λb=>o.2.1.none) f Z λr own1 T w Y z=>?_);refine dT (w.sy OK m g s.toks) λJ n _=>?_;have N:=o.lM J λb c i=>absurd (Y b c) i;have C:=g.dK w;refine Aw (s:={s with heap:=r}) (φ:=φ) (μ:=μ) (A:=A) n c z λh2 st2 U B=>?_;refine dT (gA.sy (s:={s with heap:=r}) OK st2 n C s.toks) λM D _=>?_;refine h _ (N.lM M λb c i=>?_) D ⟨a,_,p,B,.inr ⟨T,.inl rfl⟩⟩;exact absurd U (dq.mp c▸i)
theorem Em{a:am}{o:cE}{fd:FuncData}{h:dY}{ps:List aD}{Z:List CS}{body:List bK}{nl:Nat}{A:bq}{φ:List am}{μ:H}{s:az}{ws bs:List aq}{vs:List V}{L:Option am}{R:sV->az->Prop}(hR:KL A (n+1))(F:aK G φ μ s.heap)(Rf:fK G A φ s.heap)(hh:A.handled=ah)(ho:s.heap.get? a=aa o)(hd:o.data=.func fd)(c:fd.body=.stmts body)(hs:fd.scope=h)(hg:fd.globals=e7)(hbi:fd.builtins=vG)(hcl:fd.closure=[])(hk:h.kind=.function)(hco:h.isCoroutine=au)(hgen:h.isGenerator=au)(hcd:s.heap.CodeRec fd.code fd.qualname)(hdd:h.names.lookup gI=aa .local->fd.qualname=bz "_law_passed"/\fd.code=.ref G.pc)(hbind:BindsTo s fd ⟨ws,[]⟩ (ps.zip bs))(r:bv G φ s.heap vs bs)(hl:bs.length=ps.length)(hnl:ps.length<=nl)(D:AI sl h.names ps)(HB:lA G cl n sl h.names Z body)(d:aY G L φ s (eC (aV cl Z (vs++eL (nl-ps.length) .U) μ)) (λv s'=>R (.ok (.ret v)) s') (λe s'=>R (.error e) s')):kL (aU G.aE G.w) A (.call (.ref a) ⟨ws,[]⟩) R s:=by
 have hlim:s.heap.NoLimit:=OK.T.nolimit.keeps F.eJ;have hroom:A.depth<wt:=by have:=hR.1;unfold wt;lia
 subst hs;refine codeAny_call_function hroom ho hd hco hgen c hcd (hbind _ _ _ _ ?_);rw[hg,hbi,hcl];refine Sz ?_;refine Do (QW (nl:=nl) (qual:=fd.qualname++".<locals>.") (a:=a) (code:=fd.code) hk D F OK rfl rfl) λy S1 B lk own=>?_;generalize hcs:(jt fd.scope.names (s.heap.push {cls:=.type "frame",data:=.dict #[]}) []).2=cs at B lk own⊢;generalize hh1:(jt fd.scope.names (s.heap.push {cls:=.type "frame",data:=.dict #[]}) []).1=t at y S1 B⊢;generalize U:xF fd.scope s.heap.objs.size cs (fd.qualname++".<locals>.") a fd.code=env at B own⊢;have hsc:env.scope.names=fd.scope.names:=by rw[<-U]
 have hloc:env.frame=aa env.locals:=by rw[<-U]
 have hce:∀p∈env.cells,env.cells.lookup p.1=aa p.2:=by rw[<-U];exact lk
 refine ay Rf λW N hfrs=>?_;try clear Rf
 have Q:ly G (A.deeper env) env:=⟨hce,hloc,⟨W,by show A.frames.map (env::·)=_;rw[N];rfl⟩,λq=>by rw[hsc]at q;refine oA (hdd q) λd1 d2=>?_;rw[<-U];exact⟨congrArg (·++(".<locals>.":aD)) d1,d2⟩⟩;have Rf1:fK G A.in1 φ t:=fK.aH (s':={s with heap:=t}) ⟨W,N,hfrs⟩ y;have I1:dQ G A.in1 env sl (eL nl .U) φ μ {s with heap:=t}:=⟨S1,B,Rf1,hh⟩;have kt:cX s.heap t:=F.fR (s':={s with heap:=t}) y dX;have hlv:vs.length=ps.length:=by rw[<-r.length];exact hl
 refine Nn OK (A:=A.in1) (A':=A.deeper env) hh Q (k:=0) (λi x e=>?_) I1 (r.B (λ_ _ z=>z) kt) hl λM t2 a2 S2 C F2=>?_;·refine oA (D.Pm x i e) λp1 p2=>?_;refine⟨by rw[uw];exact p1,?_⟩;unfold iE;rw[hsc];exact p2
 ·(have hF:va (eL nl .U) 0 vs=vs++eL (nl-ps.length) .U:=by have:=Ij vs [] (eL nl .U) (by rw[Gn,hlv];exact hnl);simp only[abY,abZ,List.drop_replicate]at this;rw[this,hlv]);rw[hF]at C;have ad:=y.trans (own:=[]) (cy.b8 [] φ {s with heap:=t});have J:cy G [] φ s φ {s with heap:=M,toks:=t2}:=y.lM a2 λb c g=>absurd (own b c) g;(have F2':fK G (A.deeper env) φ M:=by refine ay F2 λenvs e k=>?_;(try clear F2);refine iF C.fr λL' m f hn b1 b2 b3=>?_;refine⟨env::W,by show A.frames.map (env::·)=_;rw[N];rfl,λe' he'=>?_⟩;rcases gQ.mp he' with rfl|he';(·exact⟨by rw[C.kind];simp,L',m,f,hn,b1,b2,b3⟩);·(have:envs=W:=by have:A.frames=aa envs:=e;rw[N]at this;injection this with q;subst q;rfl);exact k e' (this▸he'));have I2:dQ G (A.deeper env) env sl (vs++eL (nl-ps.length) .U) φ μ {s with heap:=M,toks:=t2}:=⟨S2,C,F2',hh⟩;have lim2:M.NoLimit:=OK.T.nolimit.keeps S2.eJ;refine⟨lim2,codeAny_func ?_⟩;refine HB (A.deeper env) env _ φ μ _ _ _ ⟨by show A.depth+1+4*n<=980;have:=hR.1;lia,by show A.units+3+20*n<=9000;have:=hR.2;lia⟩ hsc Q I2 ?_;induction q:aV cl Z (vs++eL (nl-ps.length) .U) μ with|aM=>rw[q]at d;exact d.elim|nx F' μ'=>rw[q]at d;intro u s' l j Y;exact d u s' .none (J.lM l λb c g=>absurd (own b c) g) j aA.tZ|rt v μ'=>rw[q]at d;intro u s' w l j r3;exact d u s' w (J.lM l λb c g=>absurd (own b c) g) j r3|ex x F' μ'=>rw[q]at d;intro u s' e l j Y K;have a4:cy G [] φ s u s':=J.lM l λb c g=>absurd (own b c) g;refine X7 OK (L:=L) Q a4 (aK.E3 OK F) j ((I2.nU Q l j Y).fr) Y (K.lo λb=>J.2.1.none) λs'' a5 S5 K5=>?_;exact d u s'' e a5 S5 K5
end
section
variable{G:bp}
theorem YZ(u:cL G)(g:aK G φ μ s.heap)(h:m8 G.P s.heap h')(t:AQ G h')(tk:Nat):c7 G φ s φ {s with heap:=h',toks:=tk}/\aK G φ μ h'/\cX s.heap h':=by
 refine oE g.nw λps l=>?_;have p:cX s.heap h':=λa o e d c=>h a o (λq=>by rw[q,l]at e;injection e with q;subst q;rcases c with c|c|c<;>injection c) e;have ns:∀b m,s.heap.Ns b m->h'.Ns b m:=λb m x=>let⟨o,j,k,e,r⟩:=x;⟨o,j,k,h _ _ (g.wY ⟨o,j,k,e,r⟩) e,r⟩;refine⟨⟨⟨[],by simp,by simp⟩,⟨λb o e=>?_,λb o Z w Z e Z=>h b o w e,λb m Z x=>ns b m x,λb Z Z x=>?_⟩,rfl⟩,?_,p⟩;·by_cases q:b=G.P;(·refine ay t λB v Z=>?_;try clear t;exact⟨_,q▸v⟩);·exact⟨o,h b o q e⟩
 ·refine fW x λo j n e c d=>?_;(try clear x);refine⟨o,j,n,h b o (λq=>?_) e,c,d⟩;rw[q,l]at e;injection e with q;subst q;injection d
 ·refine⟨g.bN,g.nd,λi o e a f=>(g.fJ i o e a f).B (λZ Z q=>q) p λy q=>h a y (λz=>g.rX (z▸cW f)) q,λb o e=>h b o (λz=>?_) (g.eJ b o e),g.k9,g.rX,t,g.oH,g.lb.imp λm x=>ns _ m x⟩;have:=g.eJ b o e;exact absurd e (by rw[z,u.Nt];simp)
theorem ZM{A:bq}{E:aq->az->Prop}{c P:am}(D:GE f env=dG [])(W:env.globals=e7)(R:s.heap.Ns e7 e)(G:env.code=.ref c)(C:yD s.heap c P)(i:s.heap.get? P=aa (ry ps))(ht:TriplesOk ps.toList)(hnf:codeAmong pos ps.toList=ah)(U:e7≠P)(j:s.heap.BuiltinsAt e P)(h:∀a v doc h' tk,m8 P s.heap h'->rM h' a qual->h'.get? P=aa (ry (ps++#[mh pos.line,mh pos.col,.ref a]))->Q (.ref h'.objs.size) {s with heap:=h'.push (fnMade r qual u d f [] doc ((e "__name__").getD .none) a v),toks:=tk}):aJ M A (makeFunction r qual u (.stmts d) f env [] [] [] pos x) Q E s:=by
 rw[makeFunction_eq];simp only[abW,List.filterMap_nil,aca,if_true,pure_bind];refine Fi j λbm ob z Y _ Z B F N L=>?_;try clear j
 unfold makeTail;rw[D,W];refine bM (eT ?_);simp only[aca,if_true];refine bM (eT ?_);refine bM (wpAny_functionCodeX G (C.code i ht) (C.tab i) hnf λa h' tk b hge hlt _ o p n=>?_);have k:rM h' a qual:=by refine IT o λc₂ oc vs t w m J hv=>?_;(try clear o);injection w with q;subst q;refine sB n ?_;(try clear n;rintro P' _ _⟨o2,vs2,g,y,g3,g4⟩_);rw[m]at g;injection g with q;subst q;exact⟨oc,vs,t,m,y,J,hv⟩
 have l:=R.extBut b U;refine bM (wpAny_builtinsFor l z Y (b _ _ Z B) F N L ?_);refine bM (wpAny_nsGet l ?_);induction hdoc:docOf d with|none=>exact bM (eT (OJ (h a .none .none h' tk b k p.2) (by size_fits)))|some t=>exact bM (wpAny_mkText (OJ (h a .none _ h' _ b k p.2) (by size_fits)))
variable{cl:Fn->List V->H->aB V}{n:Nat}{sl:Sl}{sc:List (aD×cK)}
theorem Wf(h:cL G)(hx:sl.lookup gI=aa i)(x:sc.lookup gI=aa .local):SS G cl n sl sc (.o8 i) (.FunctionDef gI G.dp G.db [] ah [] G.ds ah gI G.BI):=λA env F φ μ s Q E hR y hC j hE=>by refine iT h.gT λd1 d2 d3 d4=>?_;refine nestDef_K d1 d2 (d3 env) ?_;(have hko:env.kindOf gI=aa .local:=by unfold iE;rw[y];exact x);refine oA (hC.ut (by rw[y];exact x)) λq1 W=>?_;(have hq:qualnameIn env gI gI=pE:=by unfold qualnameIn;rw[hko,if_neg (by decide),q1];decide+kernel);rw[hq];have g:=j.cf;refine cu g.tab λps l z m=>?_;have U:GE G.ds env=dG []:=closureFor_none d4;have T:=h.T;have w:s.heap.Ns e7 G.mg:=T.g.keeps g.eJ;have C:yD s.heap G.pc G.P:=h.MI.keeps g.eJ;have hgP:e7≠G.P:=g.wY w;(have N:s.heap.BuiltinsAt G.mg G.P:=by refine ze T.bmain λbm ob b1 b2 k L b5 t=>?_;refine⟨bm,ob,b1,b2,λq=>?_,λq=>?_,g.eJ _ _ k,L,b5,t⟩;(·refine fW T.g λo es ep e hd _=>?_;rw[q,e]at k;injection k with q;subst q;rw[hd]at t;injection t);·have e:=g.eJ _ _ k;rw[q,l]at e;injection e with q;subst q;injection L);(have M:∀(a:aQ)(d:am)(f doc:aq)(tk:Nat),m8 G.P s.heap a->AQ G a->rM a d pE->aJ (aU G.aE G.w) A (uF env gI (.ref a.objs.size)) (λ_ s''=>Q .next s'') E {s with heap:=a.push (fnMade gI pE G.dp G.db G.ds [] doc ((G.mg "__name__").getD .none) d f),toks:=tk}:=by intro a d f doc tk hx1 ht1 hc1;refine dT (YZ h g hx1 ht1 tk) λD r k1=>?_;have u:cR G [] a (a.push (fnMade gI pE G.dp G.db G.ds [] doc ((G.mg "__name__").getD .none) d f)):=.push _ _ _;have Z:=r.jF h.lb u;(have J:c7 G φ {s with heap:=a,toks:=tk} φ {s with heap:=a.push (fnMade gI pE G.dp G.db G.ds [] doc ((G.mg "__name__").getD .none) d f),toks:=tk}:=by have:=u.aH (s:={s with heap:=a,toks:=tk}) (own:=[]) (tk:=tk) r (by simp) [] (by simp);rwa [iD]at this);have k2:cX a (a.push (fnMade gI pE G.dp G.db G.ds [] doc ((G.mg "__name__").getD .none) d f)):=u.fR r (by simp);have Y:=j.aH (D.trans J) Z;refine FJ h (v:=.fn .c6) y hx (.inl x) Y ?_ (bB.kX (D.trans J) hE);refine aA.ut.mpr ?_;exact⟨_,rfl,_,_,d,f,kO _ rfl,hc1.B k2⟩);rcases m with rfl|⟨c,e,m⟩;(·refine ZM U j.env.mW w W C l z rfl hgP N λd f doc h' tk B R htb=>?_;refine M h' d f doc tk B ⟨_,htb,?_,.inr ⟨d,?_,R⟩⟩ R;(·simp only[Array.toList_append,abY];exact trivial);·simp[codeAmong,mh]);·refine makeFunction_hit U j.env.mW w W C l z e N λf doc h' tk p hsz=>?_;have B:m8 G.P s.heap h':=λb o _ e=>p b o e;exact M h' c f doc tk B ⟨ps,p _ _ l,z,.inr ⟨c,e,m.B (.nr p)⟩⟩ (m.B (.nr p))
end
noncomputable def X.fQ:X->String|.aF=>"RunFault"|.ir=>"TooLong"
noncomputable def X.str(x:X):aD:=bz x.fQ
noncomputable def gG(G:bp):List aq:=[.ref G.xb,.type "Exception",.type "BaseException",.type "object"]
structure oQ(G:bp):Prop where
 cls:∀x:X,∃nm q sn sub ab col dd k0 k1 k2 k3 k5,G.K.lookup (G.xa x)=aa (oi nm q (G.xa x) (G.xn x) [.ref G.xb] (gG G) aj sn sub ab col dd k0 k1 k2 k3 k5 "Exception.__new__")
 ne:G.xa .aF≠G.xa .ir/\G.xa .aF≠G.xb/\G.xa .ir≠G.xb
 name:∀x:X,ip G.K e7 x.str=aa (aa (.ref (G.xa x)))
section
variable{G:bp}
theorem UX(a:oQ G){M:jN}{A:bq}{E:aq->az->Prop}{h:aQ}{g:Array Ge}{d:Drawn}{t:Nat}{os:iC}{e:am}{l:cE}{x y:X}{Q:Bool->az->Prop}(X:G.K.In h)(s:h.get? e=aa l)(o:l.cls=.ref (G.xa x))(c:Q (aZ (x=y)) ⟨h,g,d,t,os⟩):aJ M A (excMatches (.ref e) (.ref (G.xa y))) Q E ⟨h,g,d,t,os⟩:=by
 refine uT (a.cls x) λnm q sn sub ab col dd k0 k1 k2 k3 k5 u=>?_;refine uT (a.cls y) λN R U W w z B C D F J L v=>?_;have m:=X _ _ u;have b:=X _ _ v;have p:(eK (G.xa y)::gG G).contains (.type "BaseException")=aj:=by simp[gG]
 have r:(eK (G.xa x)::gG G).contains (.ref (G.xa y))=aZ (x=y):=by refine dT a.ne λi j k=>?_;unfold gG;induction x<;>induction y<;>simp<;>simp[i,j,k,hH i,hH j,hH k]
 have f:=tc_notTuple;unfold excMatches;repeat first|with_reducible refine m9 s ?_;rw[o]|with_reducible refine m9 b ?_|with_reducible refine uI b ?_;rw[p]|with_reducible refine uI m ?_;rw[r]|wp_step
 cases n:aZ (x=y)<;>(rw[n]at c;wp_walk;exact c)
end
section
variable(G:bp)(sl:Sl)(sc:List (aD×cK))
inductive xY:HB->bK->Prop|ju{k p pos}:xY .ju (.Return (aa (.Constant .none k p)) pos)|qg{i:Nat}{x:aD}{p pos}(hx:sl.lookup x=aa i)(hd:(x==("__debug__":aD))=au)(hcd:(x==("__classdict__":aD))=au):xY (.qg i) (.Return (aa (.Name x p)) pos)|qT{i:Nat}{x:aD}{k p p2 pos}(hx:sl.lookup x=aa i)(hk:sc.lookup x=aa .local\/sc.lookup x=aa .cell):xY (.qT i) (.Assign [.Name x p] (.Constant .none k p2) pos)
inductive uU:List (X×HB)->List sY->Prop|nil:uU [] []|cons{y:X}{hb:HB}{st:bK}{p pos:be}{hs:List (X×HB)}{es:List sY}(hk:sc.lookup y.str=aa .globalImplicit)(h:xY sl sc hb st)(r:uU hs es):uU ((y,hb)::hs) (.ExceptHandler (aa (.Name y.str p)) ah [st] pos::es)
end
section
variable{G:bp}{cl:Fn->List V->H->aB V}{n:Nat}{sl:Sl}{sc:List (aD×cK)}
variable(OK:cL G)(EK:oQ G)
include OK EK
omit OK EK in theorem Zn:pt x F h ((y,a)::r)=if x=y then(match a with|.ju=>.rt .none h|.qg i=>(match getL F i with|aa v=>.rt v h|ah=>.aM)|.qT i=>.nx (F.set i .none) h)else pt x F h r:=rfl
theorem Ru{A:bq}(hsc:env.scope.names=sc)(hC:ly G A env){E:aq->az->Prop}(r:uU sl sc hs es):∀{φ:List am}{s:az}{T:am},aK G φ μ s.heap->fK G A φ s.heap->dZ G sl env F φ s.heap->(∀b,l.heap.get? b=ah->G.h₀.get? b=ah)->cy G (fv env) C l φ s->qB (G:=G) l.heap x a (aa (T,.none)) s.heap->bB G env sl C l (pt x F μ hs) Q E->aJ (aU G.aE G.w) A (handleBy (.ref a) env es) Q E s:=by induction r with|nil=>exactλ_ _ _ _ _ _ f=>f.elim|@cons y hb st _ _ _ _ hk hr r ih=>intro φ s T j J R hn ad D f;(have⟨Z,U,W⟩:∃Z,s.heap.get? a=some Z/\Z.cls=.ref (G.xa x):=by induction D with|mk _ U W=>exact⟨_,U,W⟩);rw[Zn]at f;(refine wpAny_handleBy_cons ?_ λq=>by injection q);refine codeAny_handlers_test ?_;refine oE (j.fr OK.Lb) λm Fm=>?_;refine BZ Fm OK.X (vW OK.T) (EK.name y) ?_ R.mW R.kind (by unfold iE;rw[hsc];exact hk) (by induction y<;>decide+kernel);refine UX EK (h:=s.heap) (g:=s.gens) (d:=s.drawn) (t:=s.toks) (os:=s.os) (OK.X.keeps j.eJ) U W ?_;by_cases B:x=y;(·rw[if_pos B]at f;rw[decide_eq_true B];refine codeAny_handlers_suite ?_;refine Aw (A:=A.mark (aa (.ref a))) (φ:=φ) (μ:=μ) (s:=s) j hn D λh' st0 hT K'=>?_;have st':gA G A [T] s.heap h':=⟨st0.keep,st0.slots,st0.own⟩;refine dT (st'.sy OK j J s.toks) λa1 L k1=>?_;have n:=gA.env (t:=s.toks) OK st' j J R;have M:cy G (fv env) C l φ {s with heap:=h'}:=ad.lM a1 λb hb hne=>absurd hT (dq.mp hb▸hne);refine yM ?_;induction hr with|ju=>refine OE (Oh ?_);exact f φ _ .none M L rfl|@qg i z p pos Y hd hcd=>refine OE (Oj ?_ hd);have f:bB G env sl C l (match getL F i with|aa v=>.rt v μ|ah=>.aM) Q E:=f;(induction o:getL F i with|none=>rw[o]at f;exact f.elim|some v=>rw[o]at f;refine RO o λo pl=>?_;rcases n.val z i v Y o with e|⟨w,hw,rv⟩;(·rw[e]at pl;injection pl);have N:=f φ _ w M L rv;rcases hw with⟨u,m',hn',hm'⟩|⟨u|u,c,hl,hc⟩;(·exact Gw n.kind u hn' hm' N);(·exact Ok n.kind u hl hc N);·exact wpAny_loadName_free n.kind u hl hc N hcd)|@qT i z k p p2 pos Y hkz=>refine wpAny_Assign_Name (Oh ?_) (vd rfl _ _ _);refine Hw OK Y (by unfold iE;rw[hsc];exact hkz) L n (v:=.none) rfl λh2 t2 a2 S2 R2=>?_;exact wi (f φ _ (M.trans a2) S2 R2));·rw[if_neg B]at f;rw[decide_eq_false B];exact ih j J R hn ad D f
theorem Ud(g:lA G cl n sl sc b D)(hr:uU sl sc hs (L::J)):SS G cl n sl sc (.tr b hs) (.Try D (L::J) [] [] pos):=λA env F φ μ s Q E hR N f i c=>by rw[Pb]at c;refine wpAny_Try_except (g A env F φ μ s _ _ hR N f i ?_);induction q:aV cl b F μ with|aM=>rw[q]at c;exact c.elim|nx W B=>rw[q]at c;exactλC s' a d R=>wi (c C s' a d R)|rt v B=>rw[q]at c;exact c|ex x W B=>rw[q]at c;intro C s' e o d R Z;have Y:=i.nU f o d R;have r:=aK.E3 OK i.cf;have h:=Y.fr;refine oE f.jq λouter hfr=>?_;have M:=f.own;refine cG Z λa z ea K0 U=>?_;subst ea;rw[M]at U;have ht':z=ah\/∃T,z=aa (T,.none)\/z=aa (T,mh env.locals):=U.imp id λk=>oE k λT q=>⟨T,q.imp id λk=>ay k λl e q=>by injection e with q;subst q;exact q⟩;refine DT hfr M h d r (λb=>o.2.1.none) K0 ht' λp own1 T w hn1 K1=>?_;refine dT (w.sy OK d h s'.toks) λa1 m _=>?_;have ad1:=o.lM a1 λb g u=>absurd (hn1 b g) u;have j:=h.dK w;have R1:=w.env (t:=s'.toks) OK d h R;refine Aw (s:={s' with heap:=p}) (φ:=C) (μ:=B) (A:=A) m r K1 λh2 y hT K2=>?_;refine dT (gA.sy (s:={s' with heap:=p}) OK y m j s'.toks) λa2 S2 _=>?_;exact Ru OK EK N f hr S2 (j.dK y) (gA.env (s:={s' with heap:=p}) (t:=s'.toks) OK y m j R1) r (ad1.lM a2 λb g u=>absurd hT (dq.mp g▸u)) K2 c
end
section
variable{G:bp}{aE:jM}{w:de}{A:bq}{E:aq->az->Prop}{h:aQ}{g:Array Ge}{d:Drawn}{t:Nat}{os:iC}
variable{nm q:aD}{C N a:am}{bs:List aq}{hdct:Bool}{sn:List aD}{sub:List aq}{ab:Bool}{col:Option Bool}{dd:Option am}{k0 k1 k2 k3 k5:Option aq}
theorem YB{a:Type}{M:jN}{c:Bool}(h:c=au){t e:Sem a}{Q:a->az->Prop}{s:az}(k:aJ M A e Q E s):aJ M A (if c=aj then t else e) Q E s:=by rw[h];exact k
theorem zp{a b:aq}{l:List aq}{r:Bool}(h:(a==b)=au)(k:l.contains a=r):(b::l).contains a=r:=(congrArg (·||l.contains a) h).trans k
theorem EO(C:am):(eK C::gG G).contains (.type "Exception")=aj:=zp rfl (zp rfl rfl)
theorem Jo{X:String}(C:am)(h:[(.type "Exception":aq),.type "BaseException",.type "object"].contains (.type X)=au):(eK C::gG G).contains (.type X)=au:=zp rfl (zp rfl h)
theorem QS(a:h.get? C=aa (oi nm q C N bs (gG G) hdct sn sub ab col dd k0 k1 k2 k3 k5 "Exception.__new__"))(e:Q () ⟨h,g,d,t,os⟩):aJ M A (yN "Exception.__new__" ⟨.ref C::f,[]⟩) Q E ⟨h,g,d,t,os⟩:=by
 have b:=Cc;have c:=EO (G:=G) C;unfold yN;rw[b.newKind,b.newSplit];show aJ _ _ (isType _>>=_) _ _ _;repeat first|refine m9 a ?_|refine uI a ?_;rw[c]|refine wpAny_staticBase_exc a ?_|refine wpAny_madeBy_exc a ?_|refine YB (bne_self_eq_false _) ?_|wp_step
 exact e
theorem O5(b:h.get? C=aa (oi nm q C N bs (gG G) hdct sn sub ab col dd k0 k1 k2 k3 k5 "Exception.__new__"))(j:R (.ok (.ret (.ref (h.objs.size+1)))) ⟨(h.push {cls:=.type "tuple",data:=.seq c.toArray}).push {cls:=.ref C,data:=.fields #[.ref h.objs.size,.none,.none,.none,.bool au,.none]},g,d,t,os⟩)(m:c.length<=hU):kL (aU aE w) A (.builtin "Exception.__new__" ⟨.ref C::c,[]⟩) R ⟨h,g,d,t,os⟩:=by
 have a:=Cc;have l:=a.ends;have f:=EO (G:=G) C;have e:=Jo (G:=G) (X:="AttributeError") C (by decide);have i:=Jo (G:=G) (X:="NameError") C (by decide);refine codeAny_builtinAt a.entry ?_;unfold Builtin.«BaseException.__new__»;refine acb ?_;show PySem.wpAt _ _ _ (stack>>=_) _ _ _;refine acb (PySem.wpAt_stack λp k=>acd ?_);wp_walk;refine acd ?_;rw[a.owner];repeat first|with_reducible refine wpAny_madeHere_exc a.canon b ?_|with_reducible refine m9 b ?_|(with_reducible refine uI b ?_;(first|rw[f]|rw[e]|rw[i]))|wp_step
 show R _ _;rw[ON];exact j
theorem VY(f:h.get? C=aa (oi nm q C N bs (gG G) hdct sn sub ab col dd k0 k1 k2 k3 k5 "Exception.__new__"))(m:h.get? e=aa i)(l:i.cls=.ref C)(o:Q () ⟨h,g,d,t,os⟩):aJ M A (yN "Exception.__init__" ⟨.ref e::j,[]⟩) Q E ⟨h,g,d,t,os⟩:=by
 have c:=Cc;have k:=EO (G:=G) C;have p:=c.noStar;simp only[yN,c.initKind,c.initSplit,c.initRow];repeat first|with_reducible refine m9 m ?_;rw[l]|with_reducible refine m9 f ?_|with_reducible refine uI f ?_;rw[k]|wp_step
 refine wpAny_onRaise ?_;rw[show∀(a b:String)(n:Nat),Bind.check ⟨.positional,"*","Exception",.self,[⟨"args",.varPos,au⟩]⟩ a b n (NL (λx=>x.fst) ({pos:=eK e::j}:Args).kw)=dG ()fromλa b n=>check_star_args _ _ _ _ _ _];exact eT o
noncomputable abbrev lw(C:am)(b:Option am)(a:aq)(c:Array (Option aq)):cE:=⟨.ref C,b,.fields #[a,.none,.none,.none,.bool au,.none],c⟩
theorem Pr{a:List aq}{Q:aq->az->Prop}(i:h.get? C=aa (oi nm q C N bs (gG G) hdct sn sub ab col dd k0 k1 k2 k3 k5 "Exception.__new__"))(c:h.get? e=aa (lw C f (.ref l) k))(n:a.length<=hU)(j:Q .none ⟨(h.push {cls:=.type "tuple",data:=.seq a.toArray}).update e (uG (·.setIfInBounds 0 (.ref h.objs.size))),g,d,t,os⟩):aJ (aU aE w) A (fX (.builtin "Exception.__init__") (.ref e::a)) Q E ⟨h,g,d,t,os⟩:=by have b:=Cc;have m:=jE {cls:=.type "tuple",data:=.seq a.toArray} c;refine v9 (ace b.init.plain b.initEntry (VY i c rfl ?_));wp_walk;exact j
theorem TN{i:kG}{a:List aq}{R:sV->az->Prop}(X:i.In h)(hi:j5 i (.ref C) "__init__"=aa (aa (.ref j)))(x:typeIn i (.ref j)=aa (.type "function"))(c:h.get? C=aa (oi nm q C N bs (gG G) hdct sn sub ab col dd k0 k1 k2 k3 k5 "Exception.__new__"))(D:a.length<=hU)(B:kL (aU aE w) A (.call (.ref j) ⟨.ref (h.objs.size+1)::a,[]⟩) (InitBack (h.objs.size+1) R) ⟨(h.push {cls:=.type "tuple",data:=.seq a.toArray}).push (lw C ah (.ref h.objs.size) #[]),g,d,t,os⟩):aJ (aU aE w) A (Builtin.«type.__call__» ⟨.ref C::a,[]⟩) (λp s'=>match p with|.done f=>R (.ok f) s'|.again l=>l.quiet=aj/\kL (aU aE w) A' l R s') (λe s'=>R (.error e) s') ⟨h,g,d,t,os⟩:=by
 have n:=Cc;repeat first|with_reducible refine m9 c ?_|with_reducible refine wpAny_madeBy_exc c ?_|wp_step
 refine codeAny_call_builtin_code (Code.quiet_builtin _ n.quiet) (QS c ?_);refine O5 c ?_ D;show aJ _ _ _ _ _ _;have m:∀b o,h.get? b=aa o->((h.push {cls:=.type "tuple",data:=.seq a.toArray}).push (lw C ah (.ref h.objs.size) #[])).get? b=aa o:=λb o e=>jE _ (jE _ e);have s:=m _ _ c;have k:=X.keeps m;have y:((h.push {cls:=.type "tuple",data:=.seq a.toArray}).push {cls:=.ref C,data:=.fields #[.ref h.objs.size,.none,.none,.none,.bool au,.none]}).get? (h.objs.size+1)=aa {cls:=.ref C,data:=.fields #[.ref h.objs.size,.none,.none,.none,.bool au,.none]}:=OO (by simp only[ON]) rfl;have u:(eK C::gG G).contains (.ref C)=aj:=congrArg (·||(gG G).contains (.ref C)) (beq_self_eq_true _);unfold Of;repeat first|with_reducible refine m9 y ?_|with_reducible refine uI s ?_;rw[u]|wp_step
 show aJ _ _ (v7 (.ref C) _) _ _ _;refine(OP k hi).at ?_;refine GD (bM ((bind_fn k _ x).at ?_));refine bM (v9 (codeAny_mono B λr s' z=>?_));rcases r with e|(v|_|_|_)<;>first|exact z|exact z.elim|skip
 refine oA z ?_;rintro rfl z;exact eT (eT z)
theorem JE{c:kG}{a:List aq}{R:sV->az->Prop}(X:c.In h)(hi:j5 c (.ref C) "__init__"=aa (aa (.ref e)))(f:typeIn c (.ref e)=aa (.type "function"))(b:h.get? C=aa (oi nm q C N bs (gG G) hdct sn sub ab col dd k0 k1 k2 k3 k5 "Exception.__new__"))(j:a.length<=hU)(i:kL (aU aE w) (A.under (.builtin "type.__call__" ⟨.ref C::a,[]⟩)) (.call (.ref e) ⟨.ref (h.objs.size+1)::a,[]⟩) (InitBack (h.objs.size+1) R) ⟨(h.push {cls:=.type "tuple",data:=.seq a.toArray}).push (lw C ah (.ref h.objs.size) #[]),g,d,t,os⟩):kL (aU aE w) A (.call (.ref C) ⟨a,[]⟩) R ⟨h,g,d,t,os⟩:=by
 have k:=tc_lookup;have l:=tc_bind (.ref C);have m:(⟨h,g,d,t,os⟩:az).TypeIs (.ref C) "type":=⟨_,b,rfl⟩;refine codeAny_of_tree ?_;show aJ _ _ (callAny (.ref C) _) _ _ _;repeat any_goals first|assumption|with_reducible refine m9 b ?_|wp_step
 refine⟨rfl,?_⟩;exact codeAny_call_builtin_at (Code.quiet_builtin _ (by decide+kernel)) entry_typeCall (wpAny_check_type_call_sub b (TN X hi f b j i))
end
section
variable{G:bp}{aE:jM}{w:de}{A:bq}{E:aq->az->Prop}{h:aQ}{g:Array Ge}{d:Drawn}{t:Nat}{os:iC}
variable{nm q:aD}{C N x:am}{bs:List aq}{sn:List aD}{sub:List aq}{ab:Bool}{col:Option Bool}{dd:Option am}{k0 k1 k2 k3 k5:Option aq}{mA:aD->Option aq}{name:aD}{v:aq}
theorem Q4(c:h.get? C=aa (oi nm q C N bs (gG G) aj sn sub ab col dd k0 k1 k2 k3 k5 "Exception.__new__"))(j:h.get? x=aa o)(e:o.cls=.ref C)(i:Q () ⟨h,g,d,t,os⟩):aJ M A (yN "object.__setattr__" ⟨[.ref x,b,v],[]⟩) Q E ⟨h,g,d,t,os⟩:=by
 have a:=Cd;have f:(eK C::gG G).contains (.type "object")=aj:=by simp[gG]
 have k:=a.args (.ref x) b v;simp only[yN,a.kind,a.split];refine bM ?_;·unfold Of;(repeat first|with_reducible refine m9 j ?_;rw[e]|with_reducible refine uI c ?_;rw[f]|wp_step);exact i
theorem UJ(X:U.In h)(hf:j5 U (.ref C) name=aa ah)(W:h.get? C=aa (oi nm q C N bs (gG G) aj sn sub ab col dd k0 k1 k2 k3 k5 "Exception.__new__"))(R:h.Inst x C mA)(Z:∀h' tk',h'.Inst x C (λy=>if y=name then aa v else mA y)->(∀b o,b≠x->(∀f a,h.get? x=aa f->f.dict=aa a->b≠a)->h.get? b=aa o->h'.get? b=aa o)->(∀f,h.get? x=aa f->∃k,h'.get? x=aa k/\k.cls=f.cls/\k.data=f.data/\k.slots=f.slots/\(∀a,f.dict=aa a->k.dict=aa a)/\∀a,f.dict=ah->k.dict=aa a->h.get? a=ah)->Q (.done (.ret .none)) ⟨h',g,d,tk',os⟩)(hw:Within mA ns)(hsz:ns.length<=100):aJ (aU aE w) A (Builtin.«object.__setattr__» ⟨[.ref x,.str name tk,v],[]⟩) Q E ⟨h,g,d,t,os⟩:=by
 refine sB R λo i p B hd=>?_;try clear R
 have hpass:refuseLoop (.ref x) "__setattr__" (.ref C::gG G)=dG ():=by unfold gG;rw[refuseLoop_ref,refuseLoop_ref,Cd.passes]
 have hl:∀{Q:Option aq->az->Prop}{E:aq->az->Prop}{A:bq},Q ah ⟨h,g,d,t,os⟩->aJ (aU aE w) A (v7 (.ref C) name) Q E ⟨h,g,d,t,os⟩:=λq=>(OP X hf).at q;unfold Builtin.«object.__setattr__»;repeat first|rw[refuse_eq]|rw[hpass]|with_reducible refine m9 i ?_;rw[p]|with_reducible refine wpAny_mroOf_exc W ?_|with_reducible refine hl ?_|with_reducible refine m9 W ?_|wp_step
 rcases hd with⟨Y,hmA⟩|⟨a,z,D,hns⟩;·rw[Y,if_neg (by simp[typeHasDict])];split;(·rename_i s;injection s);split;(·rename_i c s;exact absurd s (B c));·have hx₁:(h.push {cls:=.type "dict",data:=.dict #[]}).get? x=aa o:=jE _ i;have L:x≠h.objs.size:=l9 (md i);refine bM (wpAny_alloc' ?_);refine bM (wpAny_update' hx₁ ?_);refine eT ?_;have hgd:((h.push {cls:=.type "dict",data:=.dict #[]}).update x λo=>{cls:=o.cls,dict:=aa h.objs.size,data:=o.data,slots:=o.slots}).get? h.objs.size=aa {cls:=.type "dict",data:=.dict #[]}:=(Heap.get?_update_ne _ _ _ _ L.symm).trans (OO rfl rfl);have hnd:((h.push {cls:=.type "dict",data:=.dict #[]}).update x λo=>{cls:=o.cls,dict:=aa h.objs.size,data:=o.data,slots:=o.slots}).Ns h.objs.size (λ_=>ah):=⟨_,#[],_,hgd,rfl,λe he=>absurd he (by simp),λ_=>rfl⟩;show aJ _ _ (GL h.objs.size (.str name tk) name v) _ _ _;unfold GL acf;refine bM (eT (bM (wpAny_nsSet1 (Heap.Ns1.of_empty hnd) λh' j hs=>?_)));refine fW (j.count (OQ name v OR)) λoD esD epD J u r=>?_;refine bM (wpAny_lookBehind J (by rw[u];exact pastItsLine_dict (di r (by rw[mZ,abZ,Ce];exact cJ rfl))) ?_);wp_walk;have hx':h'.get? x=aa {cls:=o.cls,dict:=aa h.objs.size,data:=o.data,slots:=o.slots}:=?_;refine Z h' _ ⟨{cls:=o.cls,dict:=aa h.objs.size,data:=o.data,slots:=o.slots},hx',p,B,.inr ⟨h.objs.size,rfl,L.symm,?_⟩⟩ (λb ob hbx _ m=>?_) (λf M=>by obtain rfl:o=f:=bU (i.symm.trans M);exact⟨_,hx',rfl,rfl,rfl,(λa e=>by rw[Y]at e;injection e),λa _ e=>by injection e with q;subst q;exact lH (cF _)⟩);(·refine BM j λo' es ep n l e3 eu e4=>?_;(try clear j);exact⟨o',es,ep,n,l,e3,eu,λy=>by rw[e4 y];by_cases hy:y=name<;>simp[hy,hmA]⟩);(·exact(hs.2 b (l9 (md m))).trans ((Heap.get?_update_ne _ _ _ _ hbx).trans (jE _ m)));·refine(hs.2 x L).trans (rB _ hx₁ ?_);have hfr:=(Heap.get?_some_iff.mp i).2;obtain⟨oc,od,odt,osl⟩:=o;induction odt<;>first|rfl|exact hfr
 ·rw[z];refine eT ?_;show aJ _ _ (GL a (.str name tk) name v) _ _ _;unfold GL acf;refine bM (eT (bM (wpAny_nsSet1 hns λh' j hs=>?_)));refine fW (j.count (OQ name v hw)) λoD esD epD J u r=>?_;refine bM (wpAny_lookBehind J (by rw[u];exact pastItsLine_dict (di r (by rw[mZ,Ce];lia))) ?_);wp_walk;refine Z h' _ ⟨o,(hs.2 x D.symm).trans i,p,B,.inr ⟨a,z,D,j⟩⟩ (λb ob _ hbd m=>?_) (λf M=>⟨f,(hs.2 x D.symm).trans M,rfl,rfl,rfl,(λ_ e=>e),λdx' n l=>by rw[n]at l;injection l⟩);exact(hs.2 b (hbd o a i z)).trans m
theorem M5(X:f.In h)(u:j5 f (.ref C) name=aa ah)(hs:j5 f (.ref C) "__setattr__"=aa (aa (.builtin "object.__setattr__")))(m:h.get? C=aa (oi nm q C N bs (gG G) aj sn sub ab col dd k0 k1 k2 k3 k5 "Exception.__new__"))(l:h.Inst x C mA)(B:∀h' j,h'.Inst x C (λy=>if y=name then aa v else mA y)->(∀b o,b≠x->(∀a c,h.get? x=aa a->a.dict=aa c->b≠c)->h.get? b=aa o->h'.get? b=aa o)->(∀a,h.get? x=aa a->∃e,h'.get? x=aa e/\e.cls=a.cls/\e.data=a.data/\e.slots=a.slots/\(∀c,a.dict=aa c->e.dict=aa c)/\∀c,a.dict=ah->e.dict=aa c->h.get? c=ah)->Q () ⟨h',g,d,j,os⟩)(R:Within mA ns)(J:ns.length<=100):aJ (aU aE w) A (setAttr (.ref x) name v) Q E ⟨h,g,d,t,os⟩:=by
 refine cu (id l) λo i n Z=>?_;have r:=Cd.slot.bind (.ref x);unfold setAttr callSpecial? specialOf;refine bM (wpAny_mkText (bM (bM (bM ?_))));have L:Looks (aU aE w) h (typeOf (.ref x)) (.ref C):=by have:=(Looks.ld (M:=aU aE w) (part:=aa headPart) i);intro A Q E s k q;refine bM (wpAny_loadPart (k _ _ i) ?_);rw[n];exact eT q
 refine L.at ?_;refine(OP X hs).at ?_;refine GD (bM (yG r ?_));refine bM (v9 (ace Cd.slot.plain Cd.entry (Q4 m i n (UJ X u m l (λh' j p z D=>?_) R J))));exact eT (eT (B h' j p z D))
end
noncomputable abbrev sS(x:String):aD:=bz x
noncomputable def pV(c:kG)(f:am)(ps:List aD)(e:List bK)(h:List (aD×cK)):Prop:=∃i nm qual a b g doc pm an d ct j,c.lookup f=aa ⟨.type "function",i,.func (fnOf nm qual a e b .none g doc pm an d ct),j⟩/\codeIn c d qual=aj/\b.names=h/\b.kind=.function/\b.isCoroutine=au/\b.isGenerator=au/\a.posonlyargs=[]/\a.args.map (·.arg)=ps/\a.kwonlyargs=[]/\a.vararg=ah/\a.kwarg=ah
theorem pV.isFn(x:pV a f ps b c):typeIn a (.ref f)=aa (.type "function"):=by
 refine KF x λh nm qual i j g doc pm an d ct k e z=>?_;try clear x
 unfold typeIn;simp only[e];rfl
theorem MH{A:bq}(P:pV d f ps e c)(X:d.In s.heap)(z:s.heap.NoLimit)(D:A.depth<wt)(G:ps.Nodup)(l:∀x∈c,x.2≠.cell)(B:∀p∈ps,c.lookup p=aa .local)(u:ws.length=ps.length)(h:∀env a t,env.scope.kind=.function->env.scope.names=c->env.globals=e7->env.builtins=vG->a.Ns env.locals (λy=>(ps.zip ws).reverse.lookup y)->s.heap.get? env.locals=ah->(∀b o,s.heap.get? b=aa o->a.get? b=aa o)->aJ (aU i w) (A.deeper env) (execs e env) (λj s'=>R (.ok (.ret (match j with|.ret v=>v|_=>.none))) s') (λ_ _=>False) {s with heap:=a,toks:=t}):kL (aU i w) A (.call (.ref f) ⟨ws,[]⟩) R s:=by
 refine RY P ?_;try clear P;rintro W nm qual Y Z U doc pm an Q ct sl ho k rfl g m n J rfl L M N
 refine codeAny_call_def D (X _ _ ho) rfl z (codeRec_of X k) rfl (.of_eq (C0 J L M N rfl u G)) l (λx F=>B _ (List.of_mem_zip F).1) (λa C r=>?_) m n g;exact yF (h _ a _ g rfl rfl rfl C (lH (cF _)) r) (λ_ _ q=>q) λ_ _ q=>q.elim
theorem tq{A:bq}{E:aq->az->Prop}(b:env.scope.kind=.function)(e:env.scope.names.lookup x=aa .local)(d:s.heap.Ns env.locals m)(c:m x=aa v)(a:(x==("__debug__":aD))=au)(h:Q v s):aJ M A (gn (.Name x p) env) Q E s:=Oj (Gw b e d c h) a
noncomputable def yW:List (aD×cK):=[(sS "self",.local),(sS "text",.local),(sS "Exception",.globalImplicit)]
noncomputable def Ft:List (aD×cK):=[(sS "self",.local),(sS "steps",.local),(sS "F77Error",.globalImplicit)]
noncomputable def DP(a b c d e f g h i j:be):List bK:=[.Expr (.Call (.Attribute (.Name (sS "Exception") a) (sS "__init__") b) [.Name (sS "self") c,.Name (sS "text") d] [] e) f,.Assign [.Attribute (.Name (sS "self") g) (sS "text") h] (.Name (sS "text") i) j]
noncomputable def Fo(k:Nat)(a b c d e f g h i j:be):List bK:=[.Expr (.Call (.Attribute (.Name (sS "F77Error") a) (sS "__init__") b) [.Name (sS "self") c,.Constant (.str (sS "too many steps")) k d] [] e) f,.Assign [.Attribute (.Name (sS "self") g) (sS "steps") h] (.Name (sS "steps") i) j]
structure qW(G:bp)(xf xl:am):Prop where
 BO:∃p0 p1 p2 p3 p4 p5 p6 p7 p8 p9,pV G.K xf [sS "self",sS "text"] (DP p0 p1 p2 p3 p4 p5 p6 p7 p8 p9) yW/\(p1.endLine==p4.line)=aj
 tl:∃k p0 p1 p2 p3 p4 p5 p6 p7 p8 p9,pV G.K xl [sS "self",sS "steps"] (Fo k p0 p1 p2 p3 p4 p5 p6 p7 p8 p9) Ft/\(p1.endLine==p4.line)=aj
 sa:∀x,j5 G.K (.ref (G.xa x)) "__setattr__"=aa (aa (.builtin "object.__setattr__"))
 fQ:∀x,j5 G.K (.ref (G.xa x)) (sS "text")=aa ah
 rL:j5 G.K (.ref (G.xa .ir)) (sS "steps")=aa ah
 init:j5 G.K (.ref (G.xa .aF)) "__init__"=aa (aa (.ref xf))/\j5 G.K (.ref (G.xa .ir)) "__init__"=aa (aa (.ref xl))
 eJ:ip G.K e7 (sS "F77Error")=aa (aa (.ref G.xb))/\specialIn G.K (.ref G.xb) "__getattribute__"=aa (aa (.builtin "type.__getattribute__"))/\(∃mc,readsIn G.K G.xb mc=aj/\findCls G.K (.ref G.xb) mc (sS "__init__")=aa (.val (.ref xf)))
 keep:∀x,keepIn G.K (.ref (G.xa x))=aj
 MZ:findCls G.K (.type "Exception") (.type "type") (sS "__init__")=aa (.val (.builtin "Exception.__init__"))
section
variable{G:bp}{A:bq}{s:az}{xf xl a tp:am}{x:X}{v:aq}
theorem IN(g:cL G)(EK:oQ G)(n:qW G xf xl)(w:aK G φ μ s.heap)(hroom:A.depth<wt)(ho:s.heap.get? a=aa (lw (G.xa x) ah (.ref tp) #[]))(hbase:G.h₀.get? a=ah)(h:∀h' t f tp' sl,(∀b o,b≠a->s.heap.get? b=aa o->h'.get? b=aa o)->h'.get? a=aa (lw (G.xa x) (aa f) (.ref tp') sl)->f≠a->s.heap.get? f=ah->h'.Ns1 f (λy=>if y=sS "text"then aa v else ah)->R (.ok (.ret .none)) {s with heap:=h',toks:=t}):kL (aU G.aE G.w) A (.call (.ref xf) ⟨[.ref a,v],[]⟩) R s:=by
 refine zm n.BO λp0 p1 p2 p3 p4 p5 p6 p7 p8 p9 PF hline=>?_;have X:G.K.In s.heap:=g.X.keeps w.eJ;refine MH PF X (g.T.nolimit.keeps w.eJ) hroom (by decide+kernel) (by decide+kernel) (by decide+kernel) rfl λenv d t k B hgl hbi z hfr i=>?_;have l1:env.scope.names.lookup (sS "self")=aa .local:=by rw[B];decide+kernel
 have l2:env.scope.names.lookup (sS "text")=aa .local:=by rw[B];decide+kernel
 have m1:(λy=>([sS "self",sS "text"].zip [eK a,v]).reverse.lookup y) (sS "self")=aa (.ref a):=by show sX (sS "self") [(sS "text",v),(sS "self",.ref a)]=_;rw[gR,show(sS "self"==sS "text")=au from by decide+kernel,gR,beq_self_eq_true]
 have m2:(λy=>([sS "self",sS "text"].zip [eK a,v]).reverse.lookup y) (sS "text")=aa v:=by show sX (sS "text") [(sS "text",v),(sS "self",.ref a)]=_;rw[gR,beq_self_eq_true]
 have F:G.K.In d:=X.keeps i;have C:=i _ _ ho;refine uT (EK.cls x) λnm q sn sub ab col dd k0 k1 k2 k3 k5 hx=>?_;refine oE (w.fr g.Lb) λmL l=>?_;have T:=vW g.T;unfold DP;refine yM (OF ?_ (by unfold OG;rw[k];rfl) rfl);refine Ep (by rfl) (by rfl) (by show 2<20;decide) hline ?_;refine Name_function_global k (by unfold iE;rw[B];decide+kernel) (loadGlobal_builtin (env:=env) (by rw[hgl];exact(T.g.keeps l.keep).keeps i) (mg_none_of g.X T.g (g.EQ "Exception" (by simp))) (by rw[hbi];exact(T.b.keeps l.keep).keeps i) ((T.builtins _ (by decide+kernel)).trans (show bootBuiltins _=aa (.type "Exception")from by kernel_rfl)) ?_) (by decide+kernel);intro pl;have F0:Fr G.h₀ G.Lb d mL:=⟨l.ns.keeps i,λb o e=>i _ _ (l.keep b o e),l.above⟩;refine method_type F0 g.X (by kernel_rfl) (by decide+kernel) n.MZ rfl ?_;refine yE (kY rfl) ?_;rw[lP rfl];refine v8 (rA (tq k l1 z m1 (by decide+kernel) ?_));rw[lP rfl];refine rA (tq k l2 z m2 (by decide+kernel) (vZ ?_));refine Pr (F _ _ hx) C (by simp[Ce]) ?_;have ha0:a<d.objs.size:=md C;have u:((d.push {cls:=.type "tuple",data:=.seq [v].toArray}).update a (uG (·.setIfInBounds 0 (.ref d.objs.size)))).get? a=aa (lw (G.xa x) ah (.ref d.objs.size) #[]):=rB _ (jE _ C) rfl;have m:∀b o,b≠a->d.get? b=aa o->((d.push {cls:=.type "tuple",data:=.seq [v].toArray}).update a (uG (·.setIfInBounds 0 (.ref d.objs.size)))).get? b=aa o:=λb o p e=>(uH _ _ (hH p)).trans (jE _ e);generalize(d.push {cls:=.type "tuple",data:=.seq [v].toArray}).update a (uG (·.setIfInBounds 0 (.ref d.objs.size)))=Y at u m⊢;have aL:env.locals≠a:=λq=>by rw[q,ho]at hfr;injection hfr
 have hn1:Y.Ns env.locals (λy=>([sS "self",sS "text"].zip [eK a,v]).reverse.lookup y):=let⟨o,es,ep,e,r⟩:=z;⟨o,es,ep,m _ _ aL e,r⟩;have J:G.K.In Y:=λb o e=>m b o (λq=>by have:=g.X _ _ e;rw[q,hbase]at this;injection this) (F _ _ e);refine yM (OH (tq k l2 hn1 m2 (by decide+kernel) (tq k l1 hn1 m1 (by decide+kernel) ?_)) rfl);refine M5 J (n.fQ x) (n.sa x) (J _ _ hx) (mA:=λ_=>ah) ⟨_,u,rfl,(λc q=>by injection q),.inl ⟨rfl,λ_=>rfl⟩⟩ (λZ t2 D hk2 hs2=>?_) OR (by decide);refine wi ?_;refine xJ (hs2 _ u) λo1 L M N Q e5 e6=>?_;refine sB D λoI U f2 f3 j=>?_;try clear D
 rw[L]at U;injection U with q;subst q;have keep:∀b o,b≠a->s.heap.get? b=aa o->Z.get? b=aa o:=λb o p e=>hk2 b o p (λo₀ f q1 q2=>by rw[u]at q1;injection q1 with q;subst q;injection q2) (m b o p (i b o e));rcases j with⟨_,j⟩|⟨f,j,W,f6⟩;·have:=j (sS "text");simp at this
 ·obtain⟨oc,od,oda,osl⟩:=o1;simp only at M N Q j;subst M N Q j;refine h Z t2 f _ _ keep L W ?_ f6;induction q:s.heap.get? f with|none=>rfl|some o=>have:=e6 f rfl rfl;rw[m _ _ W (i _ _ q)]at this;injection this
end
section
variable{G:bp}{A:bq}{s:az}{xf xl a tp:am}{v:aq}
theorem aK.DG(a:cL G)(c:aK G φ μ h)(k:∀b o,h.get? b=aa o->h'.get? b=aa o):aK G φ μ h':=c.jF a.lb (.nr k _)
theorem PT(d:cL G)(x:oQ G)(f:qW G xf xl)(l:aK G φ μ s.heap)(hroom:A.depth+1<wt)(ho:s.heap.get? a=aa (lw (G.xa .ir) ah (.ref tp) #[]))(Q:G.h₀.get? a=ah)(h:∀h' t g tp' sl,(∀b o,b≠a->s.heap.get? b=aa o->h'.get? b=aa o)->h'.get? a=aa (lw (G.xa .ir) (aa g) (.ref tp') sl)->R (.ok (.ret .none)) {s with heap:=h',toks:=t}):kL (aU G.aE G.w) A (.call (.ref xl) ⟨[.ref a,v],[]⟩) R s:=by
 refine EL f.tl λk p0 p1 p2 p3 p4 p5 p6 p7 p8 p9 PF hline=>?_;have X:G.K.In s.heap:=d.X.keeps l.eJ;refine MH PF X (d.T.nolimit.keeps l.eJ) (by exact hG (bD (by assumption) (by rfl))) (by decide+kernel) (by decide+kernel) (by decide+kernel) rfl λenv h₀ t i u hgl hbi Z W j=>?_;have l1:env.scope.names.lookup (sS "self")=aa .local:=by rw[u];decide+kernel
 have l2:env.scope.names.lookup (sS "steps")=aa .local:=by rw[u];decide+kernel
 have m1:(λy=>([sS "self",sS "steps"].zip [eK a,v]).reverse.lookup y) (sS "self")=aa (.ref a):=by show sX (sS "self") [(sS "steps",v),(sS "self",.ref a)]=_;rw[gR,show(sS "self"==sS "steps")=au from by decide+kernel,gR,beq_self_eq_true]
 have m2:(λy=>([sS "self",sS "steps"].zip [eK a,v]).reverse.lookup y) (sS "steps")=aa v:=by show sX (sS "steps") [(sS "steps",v),(sS "self",.ref a)]=_;rw[gR,beq_self_eq_true]
 have B:aK G φ μ h₀:=l.DG d j;have m:G.K.In h₀:=X.keeps j;have ho0:=j _ _ ho;refine uT (x.cls .ir) λnm q sn sub ab col dd k0 k1 k2 k3 k5 hx=>?_;refine oE (B.fr d.Lb) λmL z=>?_;have T:=vW d.T;refine O4 f.eJ λb1 b2 mc b3 b4=>?_;unfold Fo;refine yM (OF ?_ (by unfold OG;rw[i];rfl) rfl);refine Ep (by rfl) (by rfl) (by show 2<20;decide) hline ?_;refine BZ z d.X T b1 ?_ hgl i (by unfold iE;rw[u];decide+kernel) (by decide+kernel);intro pl;refine method_of_cls z d.X b2 ?_;obtain⟨p77,hp77⟩:∃p,pV G.K xf [sS "self",sS "text"] p yW:=zm f.BO λ_ _ _ _ _ _ _ _ _ _ q _=>⟨_,q⟩;refine cls_value m b3 b4 rfl ?_;have FA:∀{h:aQ},G.K.In h->FnAt xf h:=λXK=>by refine KF hp77 λod nm qual params scope kV doc pm an cdv ct sl e _=>?_;(try clear hp77);exact⟨_,_,_,_,XK _ _ e⟩
 refine B4 (P:=FnAt xf) (by rw[kY rfl];rfl) keeps_F ?_;rw[lP rfl];refine v8 (rA (tq i l1 Z m1 (by decide+kernel) ?_));rw[lP rfl];refine rA (Oi (k:=k) (pos:=p3) (vZ ?_));refine⟨FA m,?_⟩;refine v9 (IN d x f B (A:=A.deeper env) hroom ho0 Q λL t1 g tp1 sl1 n w hne Y hN=>?_);have aL:env.locals≠a:=λq=>by rw[q,ho]at W;injection W
 have hn1:L.Ns env.locals (λy=>([sS "self",sS "steps"].zip [eK a,v]).reverse.lookup y):=let⟨o,es,ep,e,r⟩:=Z;⟨o,es,ep,n _ _ aL e,r⟩;have C:G.K.In L:=λb o e=>n b o (λq=>by have:=d.X _ _ e;rw[q,Q]at this;injection this) (m _ _ e);refine yM (OH (tq i l2 hn1 m2 (by decide+kernel) (tq i l1 hn1 m1 (by decide+kernel) ?_)) rfl);refine M5 (ns:=[sS "text"]) C f.rL (f.sa .ir) (C _ _ hx) (mA:=_) ⟨_,w,rfl,(λc q=>by injection q),.inr ⟨g,rfl,hne,hN⟩⟩ (λM t2 I2 hk2 hs2=>?_) (OQ _ _ OR) (by decide);refine wi ?_;refine xJ (hs2 _ w) λo1 e1 D F J e5 e6=>?_;have keep:∀b o,b≠a->s.heap.get? b=aa o->M.get? b=aa o:=λb o N e=>hk2 b o N (λo₀ dx' q1 q2=>by rw[w]at q1;injection q1 with q;subst q;injection q2 with q;subst q;intro q;rw[<-q,j _ _ e]at Y;injection Y) (n b o N (j b o e));have U:=e5 g rfl;obtain⟨oc,od,oda,osl⟩:=o1;simp only at D F J U;subst D F J U;exact h M t2 g _ _ keep e1
theorem V3(i:cL G)(r:oQ G)(f:qW G xf xl)(x:X)(l:aK G φ μ s.heap)(J:A.depth+3<wt){E:aq->az->Prop}(h:∀h' t a j tp k,(∀b o,s.heap.get? b=aa o->h'.get? b=aa o)->s.heap.get? a=ah->h'.get? a=aa (lw (G.xa x) (aa j) (.ref tp) k)->Q (.ref a) {s with heap:=h',toks:=t}):aJ (aU G.aE G.w) A (fX (.ref (G.xa x)) [v]) Q E s:=by
 have X:G.K.In s.heap:=i.X.keeps l.eJ;refine uT (r.cls x) λnm q sn sub ab col dd k0 k1 k2 k3 k5 B=>?_;obtain⟨c,g,d,tk,os⟩:=s;have n:∀b o,c.get? b=aa o->((c.push {cls:=.type "tuple",data:=.seq [v].toArray}).push (lw (G.xa x) ah (.ref c.objs.size) #[])).get? b=aa o:=λb o e=>jE _ (jE _ e);have y:((c.push {cls:=.type "tuple",data:=.seq [v].toArray}).push (lw (G.xa x) ah (.ref c.objs.size) #[])).get? (c.objs.size+1)=aa (lw (G.xa x) ah (.ref c.objs.size) #[]):=OO (by simp only[ON]) rfl;have m:c.get? (c.objs.size+1)=ah:=lH (lE _);have z:G.h₀.get? (c.objs.size+1)=ah:=by induction q:G.h₀.get? (c.objs.size+1)with|none=>rfl|some o=>have:=l.eJ _ _ q;rw[m]at this;injection this
 have C:∀{b o},c.get? b=aa o->b≠c.objs.size+1:=λe q=>by rw[q,m]at e;injection e
 induction x with|aF=>obtain⟨L,D⟩:∃p,pV G.K xf [sS "self",sS "text"] p yW:=zm f.BO λZ Z Z Z Z Z Z Z Z Z q Z=>⟨_,q⟩;refine v9 (JE X f.init.1 D.isFn (X _ _ B) (by simp[Ce]) ?_);refine IN i r f (l.DG i n) (by show A.depth+1<_;lia) y z λh' t j w k k1 u Z Z Z=>?_;exact⟨rfl,h h' t _ j w k (λb o e=>k1 b o (C e) (n b o e)) m u⟩|ir=>obtain⟨M,F⟩:∃p,pV G.K xl [sS "self",sS "steps"] p Ft:=EL f.tl λZ Z Z Z Z Z Z Z Z Z Z q Z=>⟨_,q⟩;refine v9 (JE X f.init.2 F.isFn (X _ _ B) (by simp[Ce]) ?_);refine PT i r f (l.DG i n) (by show A.depth+1+1<_;exact hG (bD (by assumption) (by rfl))) y z λh' t j w k k1 u=>?_;exact⟨rfl,h h' t _ j w k (λb o e=>k1 b o (C e) (n b o e)) m u⟩
end
section
variable{M:jN}{A:bq}{E:aq->az->Prop}{env:bP}{G:bp}
variable{nm q:aD}{C N:am}{bs:List aq}{hdct:Bool}{sn:List aD}{sub:List aq}{ab:Bool}{col:Option Bool}{dd:Option am}{k0 k1 k2 k3 k5:Option aq}
theorem UU(k:A.handled=ah)(h:aJ M A x (λv s₁=>∃e a t sl,v=.ref e/\s₁.heap.get? C=aa (oi nm q C N bs (gG G) hdct sn sub ab col dd k0 k1 k2 k3 k5 "Exception.__new__")/\s₁.heap.get? e=aa ⟨.ref C,a,.fields #[.ref t,.none,.none,.none,.bool au,.none],sl⟩/\E (.ref e) s₁) E s):aJ M A (raiseStmt env (aa x) ah) Q E s:=by
 have i:(eK C::gG G).contains (.type "BaseException")=aj:=by simp[gG]
 unfold raiseStmt;refine bM (yF h (λv s₁ c=>?_) λz z x=>x);refine IT c ?_;try clear c;rintro e a t sl rfl b j f
 obtain⟨l,g,d,tk,os⟩:=s₁;repeat first|with_reducible refine m9 j ?_|with_reducible refine m9 b ?_|with_reducible refine uI b ?_;rw[i]|wp_step
 exact wpAny_raiseNew_none k f
end
section
variable{G:bp}{cl:Fn->List V->H->aB V}{n:Nat}{sl:Sl}{sc:List (aD×cK)}{xf xl:am}
variable(OK:cL G)(EK:oQ G)(MK:qW G xf xl)
include OK EK MK
theorem IR{A:bq}{E:aq->az->Prop}(B:jf A n)(U:env.scope.names=sc)(c:dQ G A env sl F φ μ s)(L:sc.lookup x.str=aa .globalImplicit)(i:dR e=aj)(J:aJ (aU G.aE G.w) A (gn e env) (λZ s₁=>∃u r,aK G u r s₁.heap/\∀h' t a d f sl,(∀b o,s₁.heap.get? b=aa o->h'.get? b=aa o)->s₁.heap.get? a=ah->h'.get? a=aa (lw (G.xa x) (aa d) (.ref f) sl)->E (.ref a) {s₁ with heap:=h',toks:=t}) E s):aJ (aU G.aE G.w) A (exec (.Raise (aa (.Call (.Name x.str p) [e] [] y)) ah pos) env) Q E s:=by
 refine uT (EK.cls x) λnm q sn sub ab col dd k0 k1 k2 k3 k5 W=>?_;rw[arm_exec_Raise];refine bM (GC (UU (G:=G) (C:=G.xa x) (N:=G.xn x) (nm:=nm) (q:=q) (bs:=[.ref G.xb]) (hdct:=aj) (sn:=sn) (sub:=sub) (ab:=ab) (col:=col) (dd:=dd) (k0:=k0) (k1:=k1) (k2:=k2) (k3:=k3) (k5:=k5) c.hh ?_));refine bM ?_;rw[tW rfl];refine oE (c.cf.fr OK.Lb) λm v=>?_;refine bM (BZ v OK.X (vW OK.T) (EK.name x) ?_ c.env.mW c.env.kind (by unfold iE;rw[U];exact L) (by induction x<;>decide+kernel));have M:[e].all dR=aj:=by rw[m7,i];rfl
 refine B4 (P:=G.K.In) (by rw[kY M];rfl) (keeps_K (MK.keep x)) ?_;rw[lP i];refine v8 (rA (yF J (λw s' j=>?_) λZ Z z=>z));refine gw j λu r g R=>?_;try clear j
 refine vZ ⟨OK.X.keeps g.eJ,?_⟩;refine V3 OK EK MK x g (by have:=B.1;unfold wt;lia) λh' t b d f l k D h=>?_;exact bM (GC (eT ⟨b,aa d,f,l,rfl,k _ _ (g.eJ _ _ (OK.X _ _ W)),h,R h' t b d f l k D h⟩))
theorem Hz{E:aq->az->Prop}(e:aK G d μ s'.heap)(R:dZ G sl env F d s'.heap)(g:cy G (fv env) φ s d s')(j:bB G env sl φ s (.ex x F μ) Q E):∀h' t a h i sl,(∀b o,s'.heap.get? b=aa o->h'.get? b=aa o)->s'.heap.get? a=ah->h'.get? a=aa (lw (G.xa x) (aa h) (.ref i) sl)->E (.ref a) {s' with heap:=h',toks:=t}:=by intro h' t a h i m k l ho;have c:cR G [] s'.heap h':=.nr k _;have f:=c.pp (tk:=t) e;exact j d _ _ (g.trans (f.oM kq)) (e.jF OK.lb c) (R.aH e f) ⟨a,ah,rfl,.mk (g.2.1.none l) ho rfl rfl rfl rfl,.inl rfl⟩
theorem S7{st:aD}{k:Nat}{p b d pos:be}(g:sc.lookup X.aF.str=aa .globalImplicit):SS G cl n sl sc .iJ (.Raise (aa (.Call (.Name X.aF.str p) [.Constant (.str st) k b] [] d)) ah pos):=λA env F φ μ s Q E f h i a e=>by refine IR OK EK MK f h a g rfl (Oi (k:=k) (pos:=b) (iM φ μ a.cf ?_));have c:cy G (fv env) φ s φ {s with toks:=s.toks+1}:=⟨(bC ([]) (by simp) (by simp)),.b8 _ _,rfl⟩;exact Hz (s':={s with toks:=s.toks+1}) OK EK MK a.cf a.env c e
theorem Td(o:sc.lookup X.ir.str=aa .globalImplicit)(t:dR e=aj)(m:SE G cl n sl sc c e):SS G cl n sl sc (.pr c) (.Raise (aa (.Call (.Name X.ir.str p) [e] [] l)) ah pos):=λA env F φ μ s Q E h i u d b=>by rw[Vl]at b;refine IR OK EK MK h i d o t (m A env F φ μ s _ E h i d ?_);induction q:ax cl c F μ with|aM=>rw[q]at b;exact b.elim|ex x j=>rw[q]at b;exactλg s' e a f k=>b g s' e (a.oM (by simp)) f (d.env.aH d.cf a) k|ok v j=>rw[q]at b;exactλg s' w a f r=>(iM g j f (Hz OK EK MK f (d.env.aH d.cf a) (a.oM (by simp)) b))
end
noncomputable abbrev Sc:=List (aD×cK)
noncomputable def Fn.jq(f:Fn):Bool:=![.CU,.Ef,.Df,.kP,.Ci,.Bp,.rG,.Ea,.DM,.DK,.Dw,.c6].elem f
noncomputable def Gl.jq:Gl->Bool|.fn f=>f.jq|_=>aj
noncomputable def BB(x:aD):Bool:=!(x==("__debug__":aD))
noncomputable def A6(e:aO):Bool:=by cases e with|Call f a b p=>exact !(a.isEmpty&&b.isEmpty)|_=>exact aj
noncomputable def Bk(e:aO):Bool:=by cases e with|Set=>exact au|_=>exact aj
noncomputable def oV(sc:Sc)(x:aD):Bool:=sc.lookup x==aa .globalImplicit
noncomputable def SC(e:aO):Type:={x:aD×be//e=.Name x.1 x.2}
noncomputable def ik(e:aO):Option (SC e):=by cases e with|Name x p=>exact aa ⟨(x,p),rfl⟩|_=>exact ah
noncomputable def YT(e:aO):Type:={x:qm×Nat×be//e=.Constant x.1 x.2.1 x.2.2}
noncomputable def rD(e:aO):Option (YT e):=by cases e with|Constant v k p=>exact aa ⟨(v,k,p),rfl⟩|_=>exact ah
noncomputable def Qu(e:aO):Type:={x:aO×Operator×aO×be//e=.BinOp x.1 x.2.1 x.2.2.1 x.2.2.2}
noncomputable def VU(e:aO):Option (Qu e):=by cases e with|BinOp a o b p=>exact aa ⟨(a,o,b,p),rfl⟩|_=>exact ah
noncomputable def Tc(e:aO):Type:={x:UnaryOp×aO×be//e=.UnaryOp x.1 x.2.1 x.2.2}
noncomputable def Ky(e:aO):Option (Tc e):=by cases e with|UnaryOp o a p=>exact aa ⟨(o,a,p),rfl⟩|_=>exact ah
noncomputable def SD(e:aO):Type:={x:BoolOp×List aO×be//e=.BoolOp x.1 x.2.1 x.2.2}
noncomputable def Yb(e:aO):Option (SD e):=by cases e with|BoolOp o l p=>exact aa ⟨(o,l,p),rfl⟩|_=>exact ah
noncomputable def RE(e:aO):Type:={x:aO×List CmpOp×List aO×be//e=.Compare x.1 x.2.1 x.2.2.1 x.2.2.2}
noncomputable def Ih(e:aO):Option (RE e):=by cases e with|Compare a o l p=>exact aa ⟨(a,o,l,p),rfl⟩|_=>exact ah
noncomputable def VIf(e:aO):Type:={x:aO×aO×aO×be//e=.IfExp x.1 x.2.1 x.2.2.1 x.2.2.2}
noncomputable def vIf(e:aO):Option (VIf e):=by cases e with|IfExp a b c p=>exact aa ⟨(a,b,c,p),rfl⟩|_=>exact ah
noncomputable def Zf(e:aO):Type:={x:aO×aD×be//e=.Attribute x.1 x.2.1 x.2.2}
noncomputable def zB(e:aO):Option (Zf e):=by cases e with|Attribute a x p=>exact aa ⟨(a,x,p),rfl⟩|_=>exact ah
noncomputable def aao(e:aO):Type:={x:aO×aO×be//e=.Subscript x.1 x.2.1 x.2.2}
noncomputable def xZ(e:aO):Option (aao e):=by cases e with|Subscript a k p=>exact aa ⟨(a,k,p),rfl⟩|_=>exact ah
noncomputable def Rk(e:aO):Type:={x:Option aO×Option aO×Option aO×be//e=.Slice x.1 x.2.1 x.2.2.1 x.2.2.2}
noncomputable def KD(e:aO):Option (Rk e):=by cases e with|Slice a b c p=>exact aa ⟨(a,b,c,p),rfl⟩|_=>exact ah
noncomputable def PU(e:aO):Type:={x:List aO×be//e=.List x.1 x.2}
noncomputable def aab(e:aO):Option (PU e):=by cases e with|List l p=>exact aa ⟨(l,p),rfl⟩|_=>exact ah
noncomputable def OU(e:aO):Type:={x:List aO×Nat×be//e=.Tuple x.1 x.2.1 x.2.2}
noncomputable def Hx(e:aO):Option (OU e):=by cases e with|Tuple l k p=>exact aa ⟨(l,k,p),rfl⟩|_=>exact ah
noncomputable def aaW(e:aO):Type:={x:List (Option aO)×List aO×be//e=.Dict x.1 x.2.1 x.2.2}
noncomputable def UC(e:aO):Option (aaW e):=by cases e with|Dict k v p=>exact aa ⟨(k,v,p),rfl⟩|_=>exact ah
noncomputable def Yz(e:aO):Type:={x:aO×List aO×List Keyword×be//e=.Call x.1 x.2.1 x.2.2.1 x.2.2.2}
noncomputable def su(e:aO):Option (Yz e):=by cases e with|Call f l k p=>exact aa ⟨(f,l,k,p),rfl⟩|_=>exact ah
noncomputable def Qj(e:aO):Type:={x:aO×List GI×dY×be//e=.ListComp x.1 x.2.1 x.2.2.1 x.2.2.2}
noncomputable def Bz(e:aO):Option (Qj e):=by cases e with|ListComp e l s p=>exact aa ⟨(e,l,s,p),rfl⟩|_=>exact ah
noncomputable def l1{b:Type}(l:List b):Option b:=match l with|[]=>ah|a::l=>bif l.isEmpty then aa a else ah
theorem lL{b:Type}{l:List b}{x:b}(h:l1 l=aa x):l=[x]:=by induction l with|nil=>injection h|cons a l=>induction l with|nil=>injection h with q;subst q;rfl|cons=>injection h
noncomputable def l2{c:Type}(l:List c):Option (c×c):=match l with|[]=>ah|a::l=>(l1 l).map λb=>(a,b)
theorem ua{α:Type}{l:List α}{x:α×α}(h:l2 l=aa x):l=[x.1,x.2]:=by induction l with|nil=>injection h|cons a l=>obtain⟨b,e,h⟩:=pi.mp (show(l1 l).map (λb=>(a,b))=aa x from h);rw[lL e,<-h]
@[irreducible]noncomputable def bG{a:Type}{P:a->Prop}(o:Option {x//P x})(p:a->Bool):Bool:=o.any λx=>p x.1
theorem bI{a:Type}{P:a->Prop}{o:Option {x//P x}}{p:a->Bool}(h:bG o p=aj):∃x,P x/\p x=aj:=by unfold bG at h;induction o with|none=>injection h|some x=>exact(bC x.1 x.2 h)
theorem cV{a:Type}{o:Option a}{p:a->Bool}(h:o.any p=aj):∃x,o=aa x/\p x=aj:=by induction o with|none=>injection h|some x=>exact(bC x rfl h)
theorem av{a b:Bool}(h:(a&&b)=aj):a=aj/\b=aj:=by induction a<;>induction b<;>first|exact⟨rfl,rfl⟩|injection h
noncomputable def zF(c:qm):Bool:=match c with|.none=>aj|_=>au
noncomputable def Dn(c:qm)(b:Bool):Bool:=match c with|.bool x=>x==b|_=>au
noncomputable def G4(c:qm)(i:Int):Bool:=match c with|.int x=>x==i|_=>au
noncomputable def HR(c:qm)(s:aD):Bool:=match c with|.str x=>x==s|_=>au
theorem CH{l:List GI}{g:GI}{t:aO}(h:l1 l=aa g)(e:g.target=t)(c:(g.ifs.isEmpty&&g.is_async==0)=aj):l=[⟨t,g.iter,[],0⟩]:=by cases g;rw[lL h,<-e,<-eQ.mp (av c).1,<-cr (av c).2]
mutual
/-- does the tree say what the core says? t: as a test -/
noncomputable def mE : CE → Bool → Sl → Sc → aO → Bool
  | .aM, t, _, _, e => !t || E2 e
  | .af i, _, sl, _, e => bG (ik e) fun x => sl.lookup x.1 == aa i && (BB x.1 && !(x.1 == ("__classdict__" : aD)))
  | .nil, _, _, _, e => bG (rD e) fun x => zF x.1
  | .tt, _, _, _, e => bG (rD e) fun x => Dn x.1 aj
  | .ff, _, _, _, e => bG (rD e) fun x => Dn x.1 au
  | .J i, _, _, _, e => bG (rD e) fun x => G4 x.1 i
  | .str s, _, _, _, e => bG (rD e) fun x => HR x.1 s.str
  | .gl g, _, _, sc, e => bG (ik e) fun x => g.jq && (x.1 == bz g.fQ && (oV sc x.1 && BB x.1))
  | .aN op a b, _, sl, sc, e => bG (VU e) fun x => aZ (x.2.1 = op.py) && (mE a au sl sc x.1 && mE b au sl sc x.2.2.1)
  | .bn a, _, sl, sc, e => bG (Ky e) fun x => aZ (x.1 = .USub) && mE a au sl sc x.2.1
  | .bZ a, t, sl, sc, e => bG (Ky e) fun x => aZ (x.1 = .Not) && mE a t sl sc x.2.1
  | .bo isAnd l, t, sl, sc, e => bG (Yb e) fun x => aZ (x.1 = wQ isAnd) && Dj l t sl sc x.2.1
  | .ao op a b, _, sl, sc, e => bG (Ih e) fun x => (l1 x.2.1).any fun o => (l1 x.2.2.1).any fun eb => aZ (o = op.py) && (dR eb && (mE a au sl sc x.1 && mE b au sl sc eb))
  | .mX o1 o2 a b c, t, sl, sc, e => bG (Ih e) fun x => (l2 x.2.1).any fun o => (l2 x.2.2.1).any fun y => t && (aZ (o.1 = o1.py ∧ o.2 = o2.py) && (dR y.2 && (mE a au sl sc x.1 && (mE b au sl sc y.1 && mE c au sl sc y.2))))
  | .gV c a b, t, sl, sc, e => bG (vIf e) fun x => !t && (mE c aj sl sc x.1 && (mE a au sl sc x.2.1 && mE b au sl sc x.2.2.1))
  | .M a n, _, sl, sc, e => bG (zB e) fun x => x.2.1 == n.str && (A6 x.1 && mE a au sl sc x.1)
  | .Y a k, _, sl, sc, e => bG (xZ e) fun x => dR x.2.1 && (mE a au sl sc x.1 && mE k au sl sc x.2.1)
  | .lh a hi, _, sl, sc, e => bG (xZ e) fun x => bG (KD x.2.1) fun y => y.2.1.any fun eh => (y.1.isNone && y.2.2.1.isNone) && (mE a au sl sc x.1 && mE hi au sl sc eh)
  | .oY a lo hi, _, sl, sc, e => bG (xZ e) fun x => bG (KD x.2.1) fun y => y.1.any fun el => y.2.1.any fun eh => y.2.2.1.isNone && (mE a au sl sc x.1 && (mE lo au sl sc el && mE hi au sl sc eh))
  | .aW l, _, sl, sc, e => bG (aab e) fun x => aZ (l.length ≤ 1000) && nV l sl sc x.1
  | .Z l, _, sl, sc, e => bG (Hx e) fun x => aZ (l.length ≤ 1000) && nV l sl sc x.1
  | .bF l, _, sl, sc, e => bG (UC e) fun x => (l.isEmpty && (x.1.isEmpty && x.2.1.isEmpty)) || (aZ (2 ≤ l.length ∧ l.length ≤ 30 ∧ x.1.length = x.2.1.length ∧ x.1.length ≤ 15) && (!x.1.isEmpty && (x.1.all (·.isSome) && EN l sl sc x.1 x.2.1)))
  | .call f l, _, sl, sc, e => bG (su e) fun x => x.2.2.1.isEmpty && (Du x.1 && (mE f au sl sc x.1 && nV l sl sc x.2.1))
  | .new k l, _, sl, sc, e => bG (su e) fun x => x.2.2.1.isEmpty && bG (ik x.1) fun n => n.1 == k.str && (oV sc n.1 && (BB n.1 && nV l sl sc x.2.1))
  | .bi b l, _, sl, sc, e => bG (su e) fun x => x.2.2.1.isEmpty && bG (ik x.1) fun n => (aZ (b ≠ .iV) && (n.1 == bz b.nm && (oV sc n.1 && nV l sl sc x.2.1))) ||
      (aZ (b = .iV) && (l2 x.2.1).any fun y => bG (ik y.2) fun m => (n.1 == bz "isinstance" && m.1 == bz "tuple") && ((oV sc n.1 && oV sc m.1) && nV l sl sc [y.1]))
  | .bH a m l, _, sl, sc, e => bG (su e) fun x => x.2.2.1.isEmpty && bG (zB x.1) fun o => (o.2.1 == m.str && A6 o.1) && ((o.2.2.endLine == x.2.2.2.line && aZ (x.2.1.length < 20)) && (mE a au sl sc o.1 && nV l sl sc x.2.1))
  | .lc ce i it, _, sl, sc, e => bG (Bz e) fun x => (l1 x.2.1).any fun g => bG (ik g.target) fun n => (g.ifs.isEmpty && g.is_async == 0) && ((mG sl sc x.2.2.1 n.1 i && Bk g.iter) && (mE it au sl sc g.iter && mE ce au (oo sl sc x.2.2.1) (nF sc x.2.2.1) x.1))
  | .o4 ce i cn, _, sl, sc, e => bG (Bz e) fun x => (l1 x.2.1).any fun g => bG (ik g.target) fun n => (g.ifs.isEmpty && g.is_async == 0) && bG (su g.iter) fun y => y.2.2.1.isEmpty && bG (ik y.1) fun r => (l1 y.2.1).any fun en =>
    (mG sl sc x.2.2.1 n.1 i && r.1 == bz "range") && ((oV sc r.1 && dR en) && (mE cn au sl sc en && mE ce au (oo sl sc x.2.2.1) (nF sc x.2.2.1) x.1))
noncomputable def nV : List CE → Sl → Sc → List aO → Bool
  | [], _, _, es => es.isEmpty
  | c :: l, sl, sc, es => es.head?.any fun e => dR e && (mE c au sl sc e && nV l sl sc es.tail)
noncomputable def Dj : List CE → Bool → Sl → Sc → List aO → Bool
  | [], _, _, _, _ => au
  | c :: l, t, sl, sc, es => es.head?.any fun e => mE c t sl sc e && ((l.isEmpty && es.tail.isEmpty) || (!l.isEmpty && Dj l t sl sc es.tail))
noncomputable def EN : List CE → Sl → Sc → List (Option aO) → List aO → Bool
  | [], _, _, ks, vs => ks.isEmpty && vs.isEmpty
  | c :: l, sl, sc, ks, vs => ks.head?.any fun k => k.any fun k => vs.head?.any fun v => mE c au sl sc k && Nx l sl sc v ks.tail vs.tail
noncomputable def Nx : List CE → Sl → Sc → aO → List (Option aO) → List aO → Bool
  | [], _, _, _, _, _ => au
  | d :: l, sl, sc, v, ks, vs => mE d au sl sc v && EN l sl sc ks vs
end
theorem nc{a:Type}{l:List a}{x:a}(h:l.head?=aa x):l=x::l.tail:=by induction l with|nil=>injection h|cons=>injection h with q;subst q;rfl
structure wR(G:bp)(cl:Fn->List V->H->aB V)(n:Nat):Prop where
 OK:cL G
 CK:pJ G
 Bn:∀g:Gl,g.jq=aj->(ip G.K e7 (bz g.fQ)).any (·.isSome)=aj
 HC:pH G cl n
section
variable{G:bp}{cl:Fn->List V->H->aB V}{n:Nat}
noncomputable def rP(G:bp)(cl:Fn->List V->H->aB V)(n:Nat)(t:Bool)(a:Sl)(sc:Sc)(c:CE)(e:aO):Prop:=if t=aj then ST G cl n a sc c e else SE G cl n a sc c e
noncomputable def Rz(G:bp)(cl:Fn->List V->H->aB V)(n:Nat)(t:Bool)(c:Sl)(sc:Sc)(l:List CE)(a:List aO):Prop:=∀b,if t=aj then w9 b G cl n c sc l a else wE b G cl n c sc l a
theorem rP.of{t:Bool}{a:Sl}{sc:Sc}{c:CE}{e:aO}(b:E2 e=aj)(h:SE G cl n a sc c e):rP G cl n t a sc c e:=by unfold rP;induction t with|true=>exact Mh b h|false=>exact h
theorem rP.f{sl:Sl}{sc:Sc}{c:CE}{e:aO}(h:rP G cl n au sl sc c e):SE G cl n sl sc c e:=h
theorem rP.t{sl:Sl}{sc:Sc}{c:CE}{e:aO}(h:rP G cl n aj sl sc c e):ST G cl n sl sc c e:=h
set_option tactic.hygienic true in theorem JX(h:A6 o=aj):OA o x env a=a:=by
 cases o<;>try rfl
 rename_i f b c p;cases f<;>try rfl
 induction b<;>try rfl
 induction c<;>try rfl
 injection h
theorem Y2 {o : aO} {x : aD} {pos : be} (h : A6 o = aj) : gn (.Attribute o x pos) = fun env => (do
      let ov ← gn o env
      standAt pos.atName
      let r ← holding [ov] (B2 ov x aj)
      letTemporaryGo o ov r
      dG r) := by
  funext env
  rw [arm_eval_Attribute, JX h]
theorem Ga(h:Bk e=aj)(env:bP)(y:aq):yJ e env y=dG y:=by cases e<;>first|rfl|injection h
theorem qv:∀{l:List CE}{b:Sl}{sc:Sc}{a:List aO},nV l b sc a=aj->a.all dR=aj/\l.length=a.length|[],b,sc,a,h=>by cases eQ.mp (show a.isEmpty=aj from h);exact⟨rfl,rfl⟩|c::l,b,sc,a,h=>by refine ay (cV (o:=a.head?) h) λe j h=>?_;refine oA (av h) λd f=>?_;refine oA (qv (av f).2) λg i=>?_;rw[nc j];exact⟨by rw[m7,d,g];rfl,congrArg (·+1) i⟩
theorem jY [Decidable p](h:aZ p=aj):p:=of_decide_eq_true h
theorem r9(h:(!b)=aj):b=au:=by induction b<;>first|rfl|injection h
theorem pS(h:oV sc x=aj):sc.lookup x=aa .globalImplicit:=cr h
theorem tc{a:Type}{o:Option a}(h:o.isNone=aj):o=ah:=by induction o<;>first|rfl|injection h
theorem Dq(h:zF c=aj):c=.none:=by induction c<;>first|rfl|injection h
theorem HW(h:Dn c b=aj):c=.bool b:=by induction c<;>first|exact congrArg _ (cr h)|injection h
theorem Yl(h:G4 c b=aj):c=.int b:=by induction c<;>first|exact congrArg _ (cr h)|injection h
theorem Tx(h:HR c b=aj):c=.str b:=by induction c<;>first|exact congrArg _ (cr h)|injection h
noncomputable abbrev IE(G:bp)(cl:Fn->List V->H->aB V)(n:Nat)(c:CE):Prop:=∀(t:Bool)(sl:Sl)(sc:Sc)(e:aO),mE c t sl sc e=aj->rP G cl n t sl sc c e
noncomputable abbrev pY(G:bp)(cl:Fn->List V->H->aB V)(n:Nat)(l:List CE):Prop:=∀(b:Sl)(sc:Sc)(a:List aO),nV l b sc a=aj->oU G cl n b sc l a
noncomputable abbrev AF(G:bp)(cl:Fn->List V->H->aB V)(n:Nat)(l:List CE):Prop:=∀(t:Bool)(b:Sl)(sc:Sc)(a:List aO),Dj l t b sc a=aj->Rz G cl n t b sc l a
noncomputable abbrev Af(G:bp)(cl:Fn->List V->H->aB V)(n:Nat)(l:List CE):Prop:=∀(b:Sl)(sc:Sc)(a:List (Option aO))(vs:List aO),EN l b sc a vs=aj->vq G cl n b sc l a vs
noncomputable abbrev MY(G:bp)(cl:Fn->List V->H->aB V)(n:Nat)(l:List CE):Prop:=∀(a:Sl)(sc:Sc)(v:aO)(b:List (Option aO))(vs:List aO),Nx l a sc v b vs=aj->∀c k,SE G cl n a sc c k->vq G cl n a sc (c::l) (aa k::b) (v::vs)
variable{a b c:CE}{l:List CE}{i:Nat}
theorem aaF:IE G cl n (.af i):=λt a sc e h=>by refine ay (bI h) λx v h=>?_;rw[v];exact .of rfl (VF (cr (av h).1) (r9 (av (av h).2).1) (r9 (av (av h).2).2))
theorem SN:IE G cl n .nil:=λt a sc e h=>by refine ay (bI h) λx v h=>?_;rw[v,Dq h];exact .of rfl Uq
theorem aaa:IE G cl n .tt:=λt a sc e h=>by refine ay (bI h) λx v h=>?_;rw[v,HW h];exact .of rfl YL
theorem Xx:IE G cl n .ff:=λt a sc e h=>by refine ay (bI h) λx v h=>?_;rw[v,HW h];exact .of rfl Qf
theorem P3{i:Int}:IE G cl n (.J i):=λt a sc e h=>by refine ay (bI h) λx v h=>?_;rw[v,Yl h];exact .of rfl TC
theorem Qy{s:aC}:IE G cl n (.str s):=λt a sc e h=>by refine ay (bI h) λx v h=>?_;rw[v,Tx h];exact .of rfl TZ
theorem Ti(b:IE G cl n a):IE G cl n (.bn a):=λt c sc e h=>by refine ay (bI h) λx v h=>?_;rw[v,jY (av h).1];exact .of rfl (Um (b au c sc _ (av h).2).f)
theorem X3(b:IE G cl n a):IE G cl n (.bZ a):=λt c sc e h=>by refine ay (bI h) λx v h=>?_;rw[v,jY (av h).1];induction t with|true=>exact RZ (b aj c sc _ (av h).2).t|false=>exact Wz (b au c sc _ (av h).2).f
theorem aaQ{p:Bool}(a:AF G cl n l):IE G cl n (.bo p l):=λt b sc e h=>by refine ay (bI h) λx v h=>?_;rw[v,jY (av h).1];have:=a t b sc _ (av h).2 p;induction t with|true=>exact Zl this|false=>exact Rn this
theorem UE(j:IE G cl n c)(g:IE G cl n a)(i:IE G cl n b):IE G cl n (.gV c a b):=λt d sc e h=>by refine ay (bI h) λx v h=>?_;rw[v,r9 (av h).1];have h:=(av h).2;exact Xf (j aj d sc _ (av h).1).t (g au d sc _ (av (av h).2).1).f (i au d sc _ (av (av h).2).2).f
theorem Vr:pY G cl n []:=λb sc a h=>by cases eQ.mp (show a.isEmpty=aj from h);exact ZP
theorem Xm(g:IE G cl n a)(i:pY G cl n l):pY G cl n (a::l):=λb sc c h=>by refine ay (cV (o:=c.head?) h) λe d h=>?_;rw[nc d];exact Vj (av h).1 (g au b sc _ (av (av h).2).1).f (i b sc _ (av (av h).2).2)
theorem Rx(m:IE G cl n a)(p:AF G cl n l):AF G cl n (a::l):=λt j sc b h=>by refine ay (cV (o:=b.head?) h) λe k h=>?_;have c:=m t j sc _ (av h).1;rw[nc k];rcases yO.mp (av h).2 with h|h;(·cases eQ.mp (av h).1;rw[eQ.mp (av h).2];intro i;induction t with|true=>exact RI c.t|false=>exact WR c.f);·intro i;have g:=p t j sc b.tail (av h).2 i;induction l with|nil=>cases(av h).1|cons d l=>generalize b.tail=b at h g;induction b with|nil=>cases(av h).2|cons f b=>induction t with|true=>exact P4 c.t g|false=>exact Ux c.f g
theorem UO:Af G cl n []:=λc sc b vs h=>by have a:=av h;cases eQ.mp a.1;cases eQ.mp a.2;exact U4
theorem aaG(m:IE G cl n a)(p:MY G cl n l):Af G cl n (a::l):=λc sc q vs h=>by refine ay (cV (o:=q.head?) h) λk d i=>?_;refine ay (cV (o:=k) i) λk' e j=>?_;refine ay (cV (o:=vs.head?) j) λv g b=>?_;rw[nc d,nc g,e];exact p c sc _ _ _ (av b).2 a _ (m au c sc _ (av b).1).f
variable(RK:wR G cl n)
include RK
theorem TJ{g:Gl}:IE G cl n (.gl g):=λt d sc e h=>by refine ay (bI h) λx v h=>?_;have a:=(av h).1;have b:=(av h).2;have c:=(av b).2;rw[v];exact .of rfl (P0 RK.OK (λq=>by rw[q]at a;injection a) (cr (av b).1) (pS (av c).1) (by rw[cr (av b).1];exact RK.Bn g a) (r9 (av c).2))
theorem P6{op:iZ}(d:IE G cl n a)(g:IE G cl n b):IE G cl n (.aN op a b):=λt c sc e h=>by refine ay (bI h) λx v h=>?_;rw[v,jY (av h).1];exact .of rfl (Yn RK.OK (d au c sc _ (av (av h).2).1).f (g au c sc _ (av (av h).2).2).f)
theorem Un{op:l0}(j:IE G cl n a)(k:IE G cl n b):IE G cl n (.ao op a b):=λt i sc e h=>by refine ay (bI h) λx v h=>?_;refine ay (cV (o:=l1 x.2.1) h) λo l h=>?_;refine ay (cV (o:=l1 x.2.2.1) h) λd m h=>?_;rw[v,lL l,lL m,jY (av h).1];have c:=(av h).2;have g:=(j au i sc _ (av (av c).2).1).f;have d:=(k au i sc _ (av (av c).2).2).f;induction t with|true=>exact Pi RK.OK (av c).1 g d|false=>exact PB RK.OK (av c).1 g d
theorem aal{q r:l0}(l:IE G cl n a)(m:IE G cl n b)(p:IE G cl n c):IE G cl n (.mX q r a b c):=λt i sc e h=>by refine ay (bI h) λx v h=>?_;refine ay (cV (o:=l2 x.2.1) h) λo s h=>?_;refine ay (cV (o:=l2 x.2.2.1) h) λy u h=>?_;have k:=(av h).1;have g:=(av h).2;rw[v,ua s,ua u,(jY (av g).1).1,(jY (av g).1).2];have j:=(av g).2;have d:=(av j).2;rw[k];exact aam RK.OK (av j).1 (l au i sc _ (av d).1).f (m au i sc _ (av (av d).2).1).f (p au i sc _ (av (av d).2).2).f
theorem O7{nm:At}(b:IE G cl n a):IE G cl n (.M a nm):=λt c sc e h=>by refine ay (bI h) λx v h=>?_;rw[v];exact .of rfl (Th RK.OK RK.CK (cr (av h).1) (Y2 (av (av h).2).1) (b au c sc _ (av (av h).2).2).f)
theorem XO(d:IE G cl n a)(g:IE G cl n b):IE G cl n (.Y a b):=λt c sc e h=>by refine ay (bI h) λx v h=>?_;rw[v];exact .of rfl (W9 RK.OK (av h).1 (d au c sc _ (av (av h).2).1).f (g au c sc _ (av (av h).2).2).f)
theorem XQ(ia:IE G cl n a)(ib:IE G cl n b):IE G cl n (.lh a b):=λt sl sc e h=>by refine ay (bI h) λx v h=>?_;refine ay (bI h) λy v2 h=>?_;refine ay (cV (o:=y.2.1) h) λeh v3 h=>?_;rw[v,v2,v3,tc (av (av h).1).1,tc (av (av h).1).2];exact .of rfl (T6 RK.OK (ia au sl sc _ (av (av h).2).1).f (ib au sl sc _ (av (av h).2).2).f)
theorem RW(ia:IE G cl n a)(ib:IE G cl n b)(ic:IE G cl n c):IE G cl n (.oY a b c):=λt sl sc e h=>by refine ay (bI h) λx v h=>?_;refine ay (bI h) λy v2 h=>?_;refine ay (cV (o:=y.1) h) λel v3 h=>?_;refine ay (cV (o:=y.2.1) h) λeh v4 h=>?_;rw[v,v2,v3,v4,tc (av h).1];have h:=(av h).2;exact .of rfl (PI RK.OK (ia au sl sc _ (av h).1).f (ib au sl sc _ (av (av h).2).1).f (ic au sl sc _ (av (av h).2).2).f)
theorem UQ(a:pY G cl n l):IE G cl n (.aW l):=λt b sc e h=>by refine ay (bI h) λx v h=>?_;rw[v];exact .of rfl (TK RK.OK (jY (av h).1) (a b sc _ (av h).2))
theorem VC(a:pY G cl n l):IE G cl n (.Z l):=λt b sc e h=>by refine ay (bI h) λx v h=>?_;rw[v];exact .of rfl (Yd RK.OK (jY (av h).1) (a b sc _ (av h).2))
theorem Vz(f:Af G cl n l):IE G cl n (.bF l):=λt g sc e h=>by refine ay (bI h) λx v h=>?_;rw[v];rcases yO.mp h with h|h;(·cases eQ.mp (av h).1;rw[eQ.mp (av (av h).2).1,eQ.mp (av (av h).2).2];exact .of rfl (X9 RK.OK));·have q:=jY (av h).1;have h:=(av h).2;have a:=(av h).1;have b:=f g sc _ _ (av (av h).2).2;induction l using j4 with|nil=>exact absurd q.1 (Nat.not_succ_le_zero 1)|cons c l=>induction l using j4 with|nil=>exact absurd q.1 (abC 1)|cons d cs=>exact .of rfl (VD RK.OK (av (av h).2).1 q.2.2.1 (λq=>by rw[q]at a;injection a) q.2.2.2 q.2.1 b)
theorem SM(d:IE G cl n a)(g:pY G cl n l):IE G cl n (.call a l):=λt c sc e h=>by refine ay (bI h) λx v h=>?_;rw[v,eQ.mp (av h).1];have h:=(av h).2;have b:=(av (av h).2).2;exact .of rfl (XU RK.OK RK.HC (av h).1 (qv b).1 (qv b).2 (d au c sc _ (av (av h).2).1).f (g c sc _ b))
theorem ZH{k:dr}(d:pY G cl n l):IE G cl n (.new k l):=λt f sc e h=>by refine ay (bI h) λx v h=>?_;refine ay (bI (av h).2) λy g c=>?_;rw[v,eQ.mp (av h).1,g];have a:=(av c).2;have b:=(av (av a).2).2;exact .of rfl (Sh RK.OK RK.CK RK.HC (cr (av c).1) (pS (av a).1) (r9 (av (av a).2).1) (qv b).1 (qv b).2 (d f sc _ b))
omit RK in theorem aav{l:List CE}{c:Sl}{sc:Sc}{e:aO}(h:nV l c sc [e]=aj){P:Prop}(f:∀a,l=[a]->dR e=aj->mE a au c sc e=aj->P):P:=by induction l using j4 with|nil=>exact qS h|cons a l=>have h:(dR e&&(mE a au c sc e&&nV l c sc []))=aj:=h;induction l using j4 with|nil=>exact f a rfl (av h).1 (av (av h).2).1|cons b l=>exact qS (av (av h).2).2
theorem O9{p:Bi}(D:pY G cl n l)(C:∀a,l=[a]->IE G cl n a):IE G cl n (.bi p l):=λt q sc e h=>by refine ay (bI h) λx v h=>?_;refine ay (bI (av h).2) λy F s=>?_;rw[v,eQ.mp (av h).1,F];rcases yO.mp s with h|h;(·have c:=(av h).2;have b:=(av (av c).2).2;have r:=jY (av h).1;rw[cr (av c).1];exact .of rfl (Ri RK.OK (by induction p<;>first|rfl|exact absurd rfl r) (by rw[<-cr (av c).1];exact pS (av (av c).2).1) (qv b).1 (qv b).2 (D q sc _ b)));·refine ay (cV (o:=l2 x.2.1) (av h).2) λz J i=>?_;refine ay (bI i) λw L d=>?_;have u:=(av (av d).2).2;have g:=(av (av d).2).1;have B:=jY (av h).1;have k:=cr (av (av d).1).1;have m:=cr (av (av d).1).2;rw[k,m]at g;rw[ua J,L,k,m];exact aav u λa j b i=>by rw[j,B];exact .of rfl (WI RK.OK (pS (av g).1) (pS (av g).2) b (C a j au q sc _ i).f)
theorem Sf{m:Mt}(k:IE G cl n a)(o:pY G cl n l):IE G cl n (.bH a m l):=λt j sc e h=>by refine ay (bI h) λx v h=>?_;refine ay (bI (av h).2) λy p i=>?_;rw[v,eQ.mp (av h).1,p];have d:=(av i).1;have b:=(av i).2;have g:=(av b).1;have c:=(av (av b).2).2;exact .of rfl (Pd RK.OK RK.CK RK.HC (cr (av d).1) (λenv=>JX (av d).2) (av g).1 (jY (av g).2) (qv c).1 (qv c).2 (k au j sc _ (av (av b).2).1).f (o j sc _ c))
theorem PV(c:IE G cl n a)(d:IE G cl n b):IE G cl n (.lc a i b):=λt j sc e h=>by refine ay (bI h) λx v h=>?_;refine ay (cV (o:=l1 x.2.1) h) λg k h=>?_;refine ay (bI h) λy l h=>?_;rw[v,CH k l (av h).1];have h:=(av h).2;exact .of rfl (U1 RK.OK (av (av h).1).1 (Ga (av (av h).1).2) (d au j sc _ (av (av h).2).1).f (c au _ _ _ (av (av h).2).2).f)
theorem YI(p:IE G cl n a)(q:IE G cl n b):IE G cl n (.o4 a i b):=λt r sc e h=>by refine ay (bI h) λx v h=>?_;refine ay (cV (o:=l1 x.2.1) h) λg s h=>?_;refine ay (bI h) λy u h=>?_;refine ay (bI (av h).2) λz B k=>?_;refine ay (bI (av k).2) λw C m=>?_;refine ay (cV (o:=l1 z.2.1) m) λF D d=>?_;have l:=cr (av (av d).1).2;have c:=(av d).2;have j:=pS (av (av c).1).1;rw[l]at j;rw[v,CH s u (av h).1,B,eQ.mp (av k).1,C,l,lL D];exact .of rfl (RL RK.OK (av (av d).1).1 j (av (av c).1).2 (q au r sc _ (av (av c).2).1).f (p au _ _ _ (av (av c).2).2).f)
mutual
theorem cU : ∀ c : CE, IE G cl n c
  | .aM => fun t sl sc e h => by
    induction t with
    | false => exact Jt
    | true => exact Mh h Jt
  | .af _ => aaF
  | .nil => SN
  | .tt => aaa
  | .ff => Xx
  | .J _ => P3
  | .str _ => Qy
  | .gl _ => TJ RK
  | .aN _ a b => P6 RK (cU a) (cU b)
  | .bn a => Ti (cU a)
  | .bZ a => X3 (cU a)
  | .bo _ l => aaQ (MV l)
  | .ao _ a b => Un RK (cU a) (cU b)
  | .mX _ _ a b c => aal RK (cU a) (cU b) (cU c)
  | .gV c a b => UE (cU c) (cU a) (cU b)
  | .M a _ => O7 RK (cU a)
  | .Y a b => XO RK (cU a) (cU b)
  | .lh a b => XQ RK (cU a) (cU b)
  | .oY a b c => RW RK (cU a) (cU b) (cU c)
  | .aW l => UQ RK (tJ l)
  | .Z l => VC RK (tJ l)
  | .bF l => Vz RK (Ks l)
  | .call f l => SM RK (cU f) (tJ l)
  | .new _ l => ZH RK (tJ l)
  | .bi _ l => O9 RK (tJ l) (PZ l)
  | .bH a _ l => Sf RK (cU a) (tJ l)
  | .lc a _ b => PV RK (cU a) (cU b)
  | .o4 a _ b => YI RK (cU a) (cU b)
theorem tJ : ∀ l : List CE, pY G cl n l
  | [] => Vr
  | c :: l => Xm (cU c) (tJ l)
theorem PZ : ∀ l : List CE, ∀ a, l = [a] → IE G cl n a
  | [] => fun _ q => nomatch q
  | c :: _ => fun _ q => (vQ q).1 ▸ cU c
theorem MV : ∀ l : List CE, AF G cl n l
  | [] => fun _ _ _ _ h => nomatch h
  | c :: l => Rx (cU c) (MV l)
theorem Ks : ∀ l : List CE, Af G cl n l
  | [] => UO
  | c :: l => aaG (cU c) (TD l)
theorem TD : ∀ l : List CE, MY G cl n l
  | [] => fun _ _ _ _ _ h => nomatch h
  | d :: l => fun sl sc _ _ _ h _ _ hc => aaV hc (cU d au sl sc _ (av h).1).f (Ks l sl sc _ _ (av h).2)
end
end
noncomputable def EV(sc:Sc)(x:aD):Bool:=sc.lookup x==aa .local||sc.lookup x==aa .cell
theorem T7(h:EV sc x=aj):sc.lookup x=aa .local\/sc.lookup x=aa .cell:=by unfold EV at h;simpa using h
noncomputable def pQ(sl:Sl)(sc:Sc)(x:aD)(i:Nat):Bool:=sl.lookup x==aa i&&EV sc x
noncomputable def Nk(e:aO):Bool:=by cases e with|Slice=>exact au|_=>exact aj
theorem Sx {e : aO} (h : Nk e = aj) (ov iv new : aq) : augStore e ov iv new = (do holding [new, ov, iv] (vY ov iv new); release [new, ov, iv] []; dG .next) := by
  cases e <;> first | rfl | injection h
noncomputable def IK(sc:Sc)(y:aD)(a:be)(e:aO):Bool:=ng e||bG (Bz e) λx=>!(yf sc x.2.2.1 y a x.2.2.2)
theorem Pu(h:IK sc y a e=aj)(env:bP)(b:env.scope.kind=.function)(c:env.scope.names=sc):B9 e (aa (.Name y a)) l env=dG au:=by
 rcases yO.mp h with h|h;·exact vd h _ _ _
 ·refine ay (bI h) λx v h=>?_;rw[v,H5 b c,r9 h]
noncomputable def SI(e:bK):Type:={x:List aO×aO×be//e=.Assign x.1 x.2.1 x.2.2}
noncomputable def xp(e:bK):Option (SI e):=by cases e with|Assign t e p=>exact aa ⟨(t,e,p),rfl⟩|_=>exact ah
noncomputable def TU(e:bK):Type:={x:aO×Operator×aO×be//e=.AugAssign x.1 x.2.1 x.2.2.1 x.2.2.2}
noncomputable def Ev(e:bK):Option (TU e):=by cases e with|AugAssign t o e p=>exact aa ⟨(t,o,e,p),rfl⟩|_=>exact ah
noncomputable def aai(e:bK):Type:={x:aO×be//e=.Expr x.1 x.2}
noncomputable def Up(e:bK):Option (aai e):=by cases e with|Expr e p=>exact aa ⟨(e,p),rfl⟩|_=>exact ah
noncomputable def O0(e:bK):Type:={x:aO×List bK×List bK×be//e=.If x.1 x.2.1 x.2.2.1 x.2.2.2}
noncomputable def ZE(e:bK):Option (O0 e):=by cases e with|If e b o p=>exact aa ⟨(e,b,o,p),rfl⟩|_=>exact ah
noncomputable def abb(e:bK):Type:={x:aO×List bK×List bK×be//e=.While x.1 x.2.1 x.2.2.1 x.2.2.2}
noncomputable def Z5(e:bK):Option (abb e):=by cases e with|While e b o p=>exact aa ⟨(e,b,o,p),rfl⟩|_=>exact ah
noncomputable def W5(e:bK):Type:={x:aO×aO×List bK×List bK×be//e=.For x.1 x.2.1 x.2.2.1 x.2.2.2.1 x.2.2.2.2}
noncomputable def CC(e:bK):Option (W5 e):=by cases e with|For t e b o p=>exact aa ⟨(t,e,b,o,p),rfl⟩|_=>exact ah
noncomputable def aag(e:bK):Type:={x:Option aO×be//e=.Return x.1 x.2}
noncomputable def Bh(e:bK):Option (aag e):=by cases e with|Return e p=>exact aa ⟨(e,p),rfl⟩|_=>exact ah
noncomputable def ZW(e:bK):Type:={x:Option aO×Option aO×be//e=.Raise x.1 x.2.1 x.2.2}
noncomputable def H6(e:bK):Option (ZW e):=by cases e with|Raise e c p=>exact aa ⟨(e,c,p),rfl⟩|_=>exact ah
noncomputable def O8(e:bK):Type:={x:List bK×List sY×List bK×List bK×be//e=.Try x.1 x.2.1 x.2.2.1 x.2.2.2.1 x.2.2.2.2}
noncomputable def Z8(e:bK):Option (O8 e):=by cases e with|Try b h o f p=>exact aa ⟨(b,h,o,f,p),rfl⟩|_=>exact ah
noncomputable def SU(e:CE):Type:={x:CE×Nat×CE//e=.lc x.1 x.2.1 x.2.2}
noncomputable def YM(e:CE):Option (SU e):=by cases e with|lc c i t=>exact aa ⟨(c,i,t),rfl⟩|_=>exact ah
noncomputable def EM(h:sY):{x:Option aO×Option aD×List bK×be//h=.ExceptHandler x.1 x.2.1 x.2.2.1 x.2.2.2}:=by cases h;exact⟨(_,_,_,_),rfl⟩
noncomputable def HX(c:qm):Bool:=match c with|.str _=>aj|_=>au
theorem aah(h:HX c=aj):∃s,c=.str s:=by induction c<;>first|exact⟨_,rfl⟩|injection h
noncomputable def En(sl:Sl)(sc:Sc):List Nat->List aO->Bool|[],a=>a.isEmpty|i::b,a=>a.head?.any λe=>bG (ik e) λx=>pQ sl sc x.1 i&&En sl sc b a.tail
noncomputable def Iy(sl:Sl)(sc:Sc):HB->bK->Bool|.ju,st=>bG (Bh st) λx=>x.1.any λe=>bG (rD e) λc=>zF c.1|.qg i,st=>bG (Bh st) λx=>x.1.any λe=>bG (ik e) λy=>sl.lookup y.1==aa i&&(BB y.1&&!(y.1==("__classdict__":aD)))|.qT i,st=>bG (xp st) λx=>(l1 x.1).any λt=>bG (ik t) λy=>bG (rD x.2.1) λc=>zF c.1&&pQ sl sc y.1 i
noncomputable def mH1(sl:Sl)(sc:Sc)(p:X×HB)(x:Option aO×Option aD×List bK×be):Bool:=x.1.any λt=>bG (ik t) λy=>(y.1==p.1.str&&oV sc p.1.str)&&(x.2.1.isNone&&(l1 x.2.2.1).any λst=>Iy sl sc p.2 st)
noncomputable def El(sl:Sl)(sc:Sc):List (X×HB)->List sY->Bool|[],a=>a.isEmpty|p::hs,a=>a.head?.any λe=>mH1 sl sc p (EM e).1&&El sl sc hs a.tail
noncomputable def D6(sc:Sc)(e:aO)(p:List aO->Bool):Bool:=bG (su e) λx=>x.2.2.1.isEmpty&&bG (ik x.1) λr=>(r.1==bz "range"&&oV sc r.1)&&p x.2.1
mutual
noncomputable def mS (sl : Sl) (sc : Sc) : CS → bK → Bool
  | .aM, _ => aj
  | .D j ce, st => bG (xp st) fun x => (l1 x.1).any fun tg => bG (ik tg) fun y => (IK sc y.1 y.2 x.2.1 && (pQ sl sc y.1 j && mE ce au sl sc x.2.1)) || bG (YM ce) fun k => bG (Bz x.2.1) fun z => (l1 z.2.1).any fun g => bG (ik g.target) fun n => (g.ifs.isEmpty && g.is_async == 0) &&
    ((mG sl sc z.2.2.1 n.1 k.2.1 && Bk g.iter) && ((yf sc z.2.2.1 y.1 y.2 z.2.2.2 && sl.lookup y.1 == aa j) && (mE k.2.2 au sl sc g.iter && mE k.1 au (oo sl sc z.2.2.1) (nF sc z.2.2.1) z.1)))
  | .gK is ce, st => bG (xp st) fun x => (l1 x.1).any fun tg => bG (Hx tg) fun y => ng x.2.1 && (mE ce au sl sc x.2.1 && ((En sl sc is y.1 && wP sc y.1 x.2.1 == aa ah) ||
    (l2 is).any fun ij => (l2 y.1).any fun ab => bG (ik ab.1) fun p => bG (ik ab.2) fun q => (pQ sl sc p.1 ij.1 && pQ sl sc q.1 ij.2) && (aZ (ij.1 ≠ ij.2) && wP sc y.1 x.2.1 == aa (aa [p.1, q.1]))))
  | .cH a n c, st => bG (xp st) fun x => (l1 x.1).any fun tg => bG (zB tg) fun y => (y.2.1 == n.str && ng x.2.1) && (mE a au sl sc y.1 && mE c au sl sc x.2.1)
  | .cQ a k c, st => bG (xp st) fun x => (l1 x.1).any fun tg => bG (xZ tg) fun y => ng x.2.1 && (mE a au sl sc y.1 && (mE k au sl sc y.2.1 && mE c au sl sc x.2.1))
  | .fs i op c, st => bG (Ev st) fun x => bG (ik x.1) fun y => aZ (x.2.1 = op.py) && (pQ sl sc y.1 i && mE c au sl sc x.2.2.1)
  | .l7 a n op c, st => bG (Ev st) fun x => bG (zB x.1) fun y => (aZ (x.2.1 = op.py) && y.2.1 == n.str) && (mE a au sl sc y.1 && mE c au sl sc x.2.2.1)
  | .pX a k op c, st => bG (Ev st) fun x => bG (xZ x.1) fun y => (aZ (x.2.1 = op.py) && Nk y.2.1) && (mE a au sl sc y.1 && (mE k au sl sc y.2.1 && mE c au sl sc x.2.2.1))
  | .cO c, st => bG (Up st) fun x => ng x.1 && mE c au sl sc x.1
  | .ifs c t f, st => bG (ZE st) fun x => mE c aj sl sc x.1 && (o0 sl sc t x.2.1 && o0 sl sc f x.2.2.1)
  | .lz c b, st => bG (Z5 st) fun x => x.2.2.1.isEmpty && (mE c aj sl sc x.1 && o0 sl sc b x.2.1)
  | .fr i c b, st => bG (CC st) fun x => bG (ik x.1) fun y => (x.2.2.2.1.isEmpty && Bk x.2.1) && (pQ sl sc y.1 i && (mE c au sl sc x.2.1 && o0 sl sc b x.2.2.1))
  | .fP i c b, st => bG (CC st) fun x => bG (ik x.1) fun y => (x.2.2.2.1.isEmpty && pQ sl sc y.1 i) && (o0 sl sc b x.2.2.1 && D6 sc x.2.1 fun es => (l1 es).any fun e => dR e && mE c au sl sc e)
  | .lg i c b, st => bG (CC st) fun x => bG (ik x.1) fun y => (x.2.2.2.1.isEmpty && pQ sl sc y.1 i) && (o0 sl sc b x.2.2.1 && D6 sc x.2.1 fun es => es.head?.any fun e => (l2 es.tail).any fun d => (dR e && (dR d.1 && dR d.2)) && (mE c au sl sc e && (mE (.bn (.J 1)) au sl sc d.1 && mE (.bn (.J 1)) au sl sc d.2)))
  | .ret c, st => bG (Bh st) fun x => x.1.any fun e => mE c au sl sc e
  | .ju, st => bG (Bh st) fun x => x.1.isNone
  | .iJ, st => bG (H6 st) fun x => x.2.1.isNone && x.1.any fun e => bG (su e) fun y => y.2.2.1.isEmpty && bG (ik y.1) fun z => (z.1 == X.aF.str && oV sc z.1) && (l1 y.2.1).any fun k => bG (rD k) fun c => HX c.1
  | .pr c, st => bG (H6 st) fun x => x.2.1.isNone && x.1.any fun e => bG (su e) fun y => y.2.2.1.isEmpty && bG (ik y.1) fun z => (z.1 == X.ir.str && oV sc z.1) && (l1 y.2.1).any fun k => dR k && mE c au sl sc k
  | .tr b hs, st => bG (Z8 st) fun x => (x.2.2.1.isEmpty && (x.2.2.2.1.isEmpty && !x.2.1.isEmpty)) && (o0 sl sc b x.1 && El sl sc hs x.2.1)
  | .o8 _, _ => au
noncomputable def o0 (sl : Sl) (sc : Sc) : List CS → List bK → Bool
  | [], c9 => c9.isEmpty
  | c :: l, c9 => c9.head?.any fun st => mS sl sc c st && o0 sl sc l c9.tail
end
section
variable{G:bp}{cl:Fn->List V->H->aB V}{n:Nat}{sl:Sl}{sc:Sc}{xf xl:am}
theorem mB(h:pQ sl sc x i=aj):sl.lookup x=aa i/\(sc.lookup x=aa .local\/sc.lookup x=aa .cell):=⟨cr (av h).1,T7 (av h).2⟩
theorem K8:∀{d:List Nat}{a:List aO},En sl sc d a=aj->∃b:List (aD×Nat×be),d=b.map (·.2.1)/\a=b.map (λt=>uE t.1 t.2.2)/\∀t∈b,sl.lookup t.1=aa t.2.1/\(sc.lookup t.1=aa .local\/sc.lookup t.1=aa .cell)|[],a,h=>(d0 ([]) rfl (eQ.mp h) (λz h=>nomatch h))|i::d,a,h=>by refine ay (cV (o:=a.head?) h) λe j h=>?_;refine ay (bI h) λx v h=>?_;refine cu (K8 (av h).2) λb f g k=>?_;refine(d0 ((x.1,i,x.2)::b) (by rw[uB,f]) (by rw[nc j,v,g];rfl) (λt c=>?_));rcases gQ.mp c with rfl|c;(·exact mB (av h).1);·exact k t c
theorem TY{f:HB}{st:bK}(h:Iy sl sc f st=aj):xY sl sc f st:=by induction f with|ju=>refine ay (bI h) λx v h=>?_;refine ay (cV (o:=x.1) h) λe a h=>?_;refine ay (bI h) λc b h=>?_;rw[v,a,b,Dq h];exact .ju|qg i=>refine ay (bI h) λx v h=>?_;refine ay (cV (o:=x.1) h) λe a h=>?_;refine ay (bI h) λc b h=>?_;rw[v,a,b];exact .qg (cr (av h).1) (r9 (av (av h).2).1) (r9 (av (av h).2).2)|qT i=>refine ay (bI h) λx v h=>?_;refine ay (cV (o:=l1 x.1) h) λe a h=>?_;refine ay (bI h) λc b h=>?_;refine ay (bI h) λd g h=>?_;rw[v,lL a,b,g,Dq (av h).1];exact .qT (mB (av h).2).1 (mB (av h).2).2
theorem JH:∀{hs:List (X×HB)}{a:List sY},El sl sc hs a=aj->uU sl sc hs a|[],a,h=>by cases eQ.mp (show a.isEmpty=aj from h);exact .nil|p::hs,a,h=>by refine ay (cV (o:=a.head?) h) λe i h=>?_;have j:=JH (av h).2;have c:=(EM e).2;generalize(EM e).1=x at h c;refine ay (cV (o:=x.1) (av h).1) λt k f=>?_;refine ay (bI f) λy l b=>?_;have d:=(av b).2;refine ay (cV (o:=l1 x.2.2.1) (av d).2) λst m g=>?_;rw[nc i,c,k,l,tc (av d).1,lL m,cr (av (av b).1).1];exact .cons (pS (av (av b).1).2) (TY g) j
theorem Mv(h:D6 sc e p=aj):∃d f b,e=.Call (.Name (bz "range") d) b [] f/\sc.lookup (bz "range")=aa .globalImplicit/\p b=aj:=by refine ay (bI h) λx v h=>?_;refine ay (bI (av h).2) λr i a=>?_;have c:=cr (av (av a).1).1;have g:=pS (av (av a).1).2;rw[c]at g;exact(tN r.2 x.2.2.2 x.2.1 (by rw[v,i,c,eQ.mp (av h).1]) g ((av a).2))
noncomputable abbrev iS(G:bp)(cl:Fn->List V->H->aB V)(n:Nat)(sl:Sl)(sc:Sc)(c:CS):Prop:=∀st:bK,mS sl sc c st=aj->SS G cl n sl sc c st
noncomputable abbrev oZ(G:bp)(cl:Fn->List V->H->aB V)(n:Nat)(sl:Sl)(sc:Sc)(l:List CS):Prop:=∀a:List bK,o0 sl sc l a=aj->lA G cl n sl sc l a
variable{a k c:CE}{op:iZ}{i:Nat}{b d:List CS}
theorem Tr:iS G cl n sl sc .ju:=λst h=>by refine ay (bI h) λx v h=>?_;rw[v,tc h];exact Y3
theorem OZ:oZ G cl n sl sc []:=λa h=>by cases eQ.mp (show a.isEmpty=aj from h);exact XW
theorem UH(d:iS G cl n sl sc s)(c:oZ G cl n sl sc b):oZ G cl n sl sc (s::b):=λf h=>by refine ay (cV (o:=f.head?) h) λe a h=>?_;rw[nc a];exact Jk (d _ (av h).1) (c _ (av h).2)
variable(RK:wR G cl n)
include RK
theorem Zm:iS G cl n sl sc (.D i c):=λst h=>by refine ay (bI h) λx v h=>?_;refine ay (cV (o:=l1 x.1) h) λt j h=>?_;refine ay (bI h) λy l h=>?_;rw[v,lL j,l];rcases yO.mp h with h|h;(·have a:=(av h).2;exact Sn RK.OK (λenv d e=>Pu (av h).1 env d e) (mB (av a).1).1 (mB (av a).1).2 (cU RK _ au sl sc _ (av a).2).f);·refine ay (bI h) λk p h=>?_;refine ay (bI h) λz q h=>?_;refine ay (cV (o:=l1 z.2.1) h) λg r h=>?_;refine ay (bI h) λm s h=>?_;rw[p,q,CH r s (av h).1];have a:=(av h).2;have b:=(av a).2;exact Vy RK.OK (av (av a).1).1 (Ga (av (av a).1).2) (av (av b).1).1 (cr (av (av b).1).2) (cU RK _ au sl sc _ (av (av b).2).1).f (cU RK _ au _ _ _ (av (av b).2).2).f
theorem QP{i:List Nat}:iS G cl n sl sc (.gK i c):=λst h=>by refine ay (bI h) λx v h=>?_;refine ay (cV (o:=l1 x.1) h) λu w h=>?_;refine ay (bI h) λy z h=>?_;have g:=(cU RK _ au sl sc _ (av (av h).2).1).f;rw[v,lL w,z];rcases yO.mp (av (av h).2).2 with a|a;(·refine cu (K8 (av a).1) λu s d t=>?_;have b:=cr (av a).2;rw[d]at b;rw[s,d];exact PY RK.OK (av h).1 b t g);·refine ay (cV (o:=l2 i) a) λC B a=>?_;refine ay (cV (o:=l2 y.1) a) λab l a=>?_;refine ay (bI a) λp m a=>?_;refine ay (bI a) λq r a=>?_;have e:=(av a).2;have b:=cr (av e).2;rw[ua l,m,r]at b;rw[ua B,ua l,m,r];have j:=mB (av (av a).1).1;have k:=mB (av (av a).1).2;exact PG RK.OK (av h).1 b (jY (av e).1) j.1 j.2 k.1 k.2 g
theorem U8:iS G cl n sl sc (.cH a m c):=λst h=>by refine ay (bI h) λx v h=>?_;refine ay (cV (o:=l1 x.1) h) λe b h=>?_;refine ay (bI h) λy d h=>?_;rw[v,lL b,d,cr (av (av h).1).1];exact Rt RK.OK RK.CK (av (av h).1).2 (cU RK _ au sl sc _ (av (av h).2).1).f (cU RK _ au sl sc _ (av (av h).2).2).f
theorem aaH:iS G cl n sl sc (.cQ a k c):=λst h=>by refine ay (bI h) λx v h=>?_;refine ay (cV (o:=l1 x.1) h) λg d h=>?_;refine ay (bI h) λy e h=>?_;rw[v,lL d,e];have b:=(av h).2;exact Pg RK.OK (av h).1 (cU RK _ au sl sc _ (av b).1).f (cU RK _ au sl sc _ (av (av b).2).1).f (cU RK _ au sl sc _ (av (av b).2).2).f
theorem PL:iS G cl n sl sc (.fs i op c):=λst h=>by refine ay (bI h) λx v h=>?_;refine ay (bI h) λy b h=>?_;rw[v,b,jY (av h).1];have a:=(av h).2;exact Re RK.OK (mB (av a).1).1 (mB (av a).1).2 (cU RK _ au sl sc _ (av a).2).f
theorem Rd:iS G cl n sl sc (.l7 a m op c):=λst h=>by refine ay (bI h) λx v h=>?_;refine ay (bI h) λy b h=>?_;rw[v,b,jY (av (av h).1).1,cr (av (av h).1).2];exact ZX RK.OK RK.CK (cU RK _ au sl sc _ (av (av h).2).1).f (cU RK _ au sl sc _ (av (av h).2).2).f
theorem W0:iS G cl n sl sc (.pX a k op c):=λst h=>by refine ay (bI h) λx v h=>?_;refine ay (bI h) λy d h=>?_;rw[v,d,jY (av (av h).1).1];have b:=(av h).2;exact SB RK.OK (Sx (av (av h).1).2) (cU RK _ au sl sc _ (av b).1).f (cU RK _ au sl sc _ (av (av b).2).1).f (cU RK _ au sl sc _ (av (av b).2).2).f
theorem WQ:iS G cl n sl sc (.cO c):=λst h=>by refine ay (bI h) λx v h=>?_;rw[v];exact Qt (av h).1 (cU RK _ au sl sc _ (av h).2).f
theorem Zv(a:oZ G cl n sl sc b)(e:oZ G cl n sl sc d):iS G cl n sl sc (.ifs c b d):=λst h=>by refine ay (bI h) λx v h=>?_;rw[v];exact Rv (cU RK _ aj sl sc _ (av h).1).t (a _ (av (av h).2).1) (e _ (av (av h).2).2)
theorem SG(a:oZ G cl n sl sc b):iS G cl n sl sc (.lz c b):=λst h=>by refine ay (bI h) λx v h=>?_;rw[v,eQ.mp (av h).1];exact Px RK.OK (cU RK _ aj sl sc _ (av (av h).2).1).t (a _ (av (av h).2).2)
theorem Wn(d:oZ G cl n sl sc b):iS G cl n sl sc (.fr i c b):=λst h=>by refine ay (bI h) λx v h=>?_;refine ay (bI h) λy e h=>?_;rw[v,e,eQ.mp (av (av h).1).1];have a:=(av h).2;exact YY RK.OK (Ga (av (av h).1).2) (mB (av a).1).1 (mB (av a).1).2 (cU RK _ au sl sc _ (av (av a).2).1).f (d _ (av (av a).2).2)
theorem Wv(l:oZ G cl n sl sc b):iS G cl n sl sc (.fP i c b):=λst h=>by refine ay (bI h) λx v h=>?_;refine ay (bI h) λy m h=>?_;refine fW (Mv (av (av h).2).2) λq r j d g k=>?_;refine ay (cV (o:=l1 j) k) λe p a=>?_;have s:=mB (av (av h).1).2;rw[v,m,eQ.mp (av (av h).1).1,d,lL p];exact VS RK.OK g (av a).1 s.1 s.2 (cU RK _ au sl sc _ (av a).2).f (l _ (av (av h).2).1)
theorem Y8(q:oZ G cl n sl sc b):iS G cl n sl sc (.lg i c b):=λst h=>by refine ay (bI h) λx v h=>?_;refine ay (bI h) λy r h=>?_;refine fW (Mv (av (av h).2).2) λw z a k g l=>?_;refine ay (cV (o:=a.head?) l) λe t p=>?_;refine ay (cV (o:=l2 a.tail) p) λd u j=>?_;have s:=mB (av (av h).1).2;rw[v,r,eQ.mp (av (av h).1).1,k,nc t,ua u];have o:=(av j).1;have m:=(av j).2;exact Vw RK.OK g (av o).1 (av (av o).2).1 (av (av o).2).2 s.1 s.2 (cU RK _ au sl sc _ (av m).1).f (cU RK _ au sl sc _ (av (av m).2).1).f (cU RK _ au sl sc _ (av (av m).2).2).f (q _ (av (av h).2).1)
theorem QC:iS G cl n sl sc (.ret c):=λst h=>by refine ay (bI h) λx v h=>?_;refine ay (cV (o:=x.1) h) λe a h=>?_;rw[v,a];exact ZT (cU RK _ au sl sc _ h).f
variable(EK:oQ G)(MK:qW G xf xl)
include EK
theorem X5(i:oZ G cl n sl sc b):iS G cl n sl sc (.tr b hs):=λst h=>by refine ay (bI h) λx v h=>?_;have a:=(av h).1;have f:=JH (av (av h).2).2;have g:=i _ (av (av h).2).1;rw[v,eQ.mp (av a).1,eQ.mp (av (av a).2).1];have d:=(av (av a).2).2;generalize x.2.1=c at d f;induction c with|nil=>injection d|cons e c=>exact Ud RK.OK EK g f
include MK
theorem XX:iS G cl n sl sc .iJ:=λst h=>by refine ay (bI h) λx v h=>?_;refine ay (cV (o:=x.1) (av h).2) λe m f=>?_;refine ay (bI f) λy p b=>?_;refine ay (bI (av b).2) λz q a=>?_;refine ay (cV (o:=l1 y.2.1) (av a).2) λk r i=>?_;refine ay (bI i) λc s j=>?_;refine oE (aah j) λt l=>?_;have d:=cr (av (av a).1).1;have g:=pS (av (av a).1).2;rw[d]at g;rw[v,m,tc (av h).1,p,eQ.mp (av b).1,q,d,lL r,s,l];exact S7 RK.OK EK MK g
theorem Zx:iS G cl n sl sc (.pr c):=λst h=>by refine ay (bI h) λx v h=>?_;refine ay (cV (o:=x.1) (av h).2) λe l j=>?_;refine ay (bI j) λy m b=>?_;refine ay (bI (av b).2) λz p a=>?_;refine ay (cV (o:=l1 y.2.1) (av a).2) λk q d=>?_;have i:=cr (av (av a).1).1;have g:=pS (av (av a).1).2;rw[i]at g;rw[v,l,tc (av h).1,m,eQ.mp (av b).1,p,i,lL q];exact Td RK.OK EK MK g (av d).1 (cU RK _ au sl sc _ (av d).2).f
mutual
theorem Tn : ∀ c : CS, iS G cl n sl sc c
  | .aM => fun _ _ => Vg
  | .D _ _ => Zm RK
  | .gK _ _ => QP RK
  | .cH _ _ _ => U8 RK
  | .cQ _ _ _ => aaH RK
  | .fs _ _ _ => PL RK
  | .l7 _ _ _ _ => Rd RK
  | .pX _ _ _ _ => W0 RK
  | .cO _ => WQ RK
  | .ifs _ t f => Zv RK (pC t) (pC f)
  | .lz _ b => SG RK (pC b)
  | .fr _ _ b => Wn RK (pC b)
  | .fP _ _ b => Wv RK (pC b)
  | .lg _ _ b => Y8 RK (pC b)
  | .ret _ => QC RK
  | .ju => Tr
  | .iJ => XX RK EK MK
  | .pr _ => Zx RK EK MK
  | .tr b _ => X5 RK EK (pC b)
  | .o8 _ => fun _ h => nomatch h
theorem pC : ∀ l : List CS, oZ G cl n sl sc l
  | [] => OZ
  | c :: l => UH (Tn c) (pC l)
end
end
noncomputable def qD(f:Fn):Sl:=f.Te.zipIdx.map λp=>(bz p.1,p.2)
noncomputable def ED:List CS->Option (Nat×List CS)|[]=>ah|c::l=>match c with|.o8 i=>aa (i,l)|_=>ah
theorem QF(e:ED l=aa (i,cs)):l=.o8 i::cs:=by induction l with|nil=>injection e|cons c l=>cases c<;>first|cases(bU e);rfl|injection e
noncomputable def wB(f:Fn)(sc:Sc)(a:List bK):Bool:=if f=.j9 then(match ED f.body with|aa p=>(match a with|[]=>au|_::b=>(qD f).lookup gI==aa p.1&&sc.lookup gI==aa .local&&o0 (qD f) sc p.2 b)|ah=>au)else o0 (qD f) sc f.body a&&(sc.lookup gI !=aa .local)
noncomputable def rO(f:Fn)(a:i9)(c:List bK)(b:dY):Bool:=b.kind==.function&&!b.isCoroutine&&!b.isGenerator&&a.posonlyargs.isEmpty&&a.kwonlyargs.isEmpty&&a.vararg.isNone&&a.kwarg.isNone&&CN (qD f) b.names (a.args.map (·.arg))&&aZ (a.args.length=f.np/\f.np<=f.nl)&&wB f b.names c
structure Tw(f:Fn)(params:i9)(scope:dY):Prop where
 kind:scope.kind=.function
 co:scope.isCoroutine=au
 DX:scope.isGenerator=au
 p1:params.posonlyargs=[]
 p3:params.kwonlyargs=[]
 p4:params.vararg=ah
 p5:params.kwarg=ah
 names:AI (qD f) scope.names (params.args.map (·.arg))
 np:params.args.length=f.np
 nl:f.np<=f.nl
theorem Ff(h:rO f d b a=aj):Tw f d a/\wB f a.names b=aj:=by
 unfold rO at h;simp only[cI,beq_iff_eq,Bool.not_eq_true',eQ,OC,decide_eq_true_eq]at h;refine oA h ?_;try clear h;rintro⟨⟨⟨⟨⟨⟨⟨⟨e,i⟩,j⟩,k⟩,l⟩,m⟩,n⟩,o⟩,c⟩g
 exact⟨⟨e,i,j,k,l,m,n,Ql o,c.1,c.2⟩,g⟩
noncomputable def Mo(G:bp):bK:=.FunctionDef gI G.dp G.db [] ah [] G.ds ah gI G.BI
structure F9(G:bp):Prop where
 fn:∀f:Fn,f≠.c6->f≠.qy->∃od nm qual params body scope dV kV doc pm an cdv ct sl,G.K.lookup (G.fa f)=aa ⟨.type "function",od,.func (fnOf nm qual params body scope dV kV doc pm an cdv ct),sl⟩/\codeIn G.K cdv qual=aj/\rO f params body scope=aj/\(f≠.kP->dV=.none)/\(f=.j9->qual=bz "_law_passed"/\cdv=.ref G.pc/\body.head?=aa (Mo G))/\(f=.kP->∃T o m ds,dV=.ref T/\G.K.lookup T=aa o/\o.data=.seq (lG ds) m/\bv G [] G.h₀ f.pM ds/\(∀ws:List aq,(ws.length=2\/ws.length=6)->∀s:az,s.heap.get? T=aa o->BindsTo s (fnOf nm qual params body scope dV kV doc pm an cdv ct) ⟨ws,[]⟩ ((params.args.map (·.arg)).zip (ws++ds.drop (ws.length-1)))))
 ut:rO .c6 G.dp G.db G.ds=aj
theorem EA(b:wR G (aF n) n)(e:oQ G)(g:qW G m o)(h:wB f sc a=aj)(d:f=.j9->a.head?=aa (Mo G)):lA G (aF n) n (qD f) sc f.body a/\(f≠.j9->sc.lookup gI≠aa .local):=by
 by_cases k:f=.j9;·subst k;refine⟨?_,λq=>absurd rfl q⟩;have d:=d rfl;unfold wB at h;simp only at h;rw[if_pos trivial]at h;induction c:ED (Fn.body .j9)with|none=>rw[c]at h;injection h|some p=>rw[c]at h;induction a with|nil=>injection h|cons st r=>have h:(_&&_&&_)=aj:=h;rw[cI,cI,beq_iff_eq,beq_iff_eq]at h;rw[QF (i:=p.1) (cs:=p.2) c,bU d];exact Jk (Wf b.OK h.1.1 h.1.2) (pC b e g _ _ h.2)
 ·unfold wB at h;rw[if_neg k]at h;refine oA (kI.mp h) λl j=>?_;exact⟨pC b e g _ _ l,λz q=>by rw[q]at j;simp at j⟩
theorem aaU(h:pF f l=aa F):∃a,a=l++f.pM.drop (f.pM.length+l.length-f.np)/\l.length<=f.np/\a.length=f.np/\(f.pM.length=0\/l.length=2\/l.length=6)/\F=a++eL (f.nl-f.np) .U:=by
 unfold pF at h;dsimp only at h;split at h;·rename_i c;injection h with q;subst q;exact⟨_,rfl,c.1,c.2.1,c.2.2,rfl⟩
 ·injection h
theorem YU{f:Fn}(h:f≠.kP):f.pM=[]:=if_neg h
theorem Vs:pH G (aF 0) 0:=by intro f b μ A φ s c ws L R _ _ _ _ _ _ a;exact a.elim
theorem W8:eC (aV (aF n) Fn.qy.body F h)=.aM:=by rfl
theorem VE{G:bp}(k:wR G (aF n) n)(EK:oQ G)(MK:qW G xf xl)(FK:F9 G):pH G (aF (n+1)) (n+1):=by intro f g μ A φ s fw ws L R J p y U r h d;unfold aF at d;induction M:pF f g with|none=>rw[M]at d;exact d.elim|some F=>rw[M]at d;simp only at d;refine uP (aaU M) ?_;rintro x B e2 C u rfl;by_cases N:f=.c6;(·subst N;refine No (aA.ut.mp r) ?_;(try clear r;rintro a rfl doc pm c ctv ho hca);refine oA (Ff FK.ut) λb W=>?_;refine oA (EA k EK MK W (λq=>by cases q)) λv Y=>?_;(have D:x=g:=by rw[B];show g++([]:List V).drop _=g;simp);subst D;(have j:ws.length=(G.dp.args.map (·.arg)).length:=by rw[h.length,d5,b.np];exact C);refine oW hca λo vs t c1 c2 c3 c4=>?_;(try clear hca);refine Em (n:=n) (L:=L) k.OK (fd:=fnX (bz "deed") pE G.dp G.db G.ds [] .none .none doc pm ah (.ref c) ctv) (ps:=G.dp.args.map (·.arg)) (nl:=Fn.c6.nl) J p y U ho rfl rfl rfl rfl rfl rfl b.kind b.co b.DX ⟨c,o,vs,t,rfl,c1,c3,c4⟩ (λq=>absurd q (Y (by decide))) (.of_eq (C0 b.p1 b.p3 b.p4 b.p5 rfl j b.names.Ln)) h j (by rw[d5,b.np];exact b.nl) b.names v ?_;rw[d5,b.np];exact d);·by_cases hp:f=.qy;(·subst hp;rw[W8]at d;exact d.elim);·refine TL (FK.fn f N hp) λod nm qual l body Z dV kV doc pm an z ct sl ho hcd hsig k1 k2 k3=>?_;refine oA (Ff hsig) λb W=>?_;refine oA (EA k EK MK W (λq=>(k2 q).2.2)) λv Y=>?_;replace r:_=_:=(if_neg N).mp r;subst r;have X:G.K.In s.heap:=k.OK.X.keeps p.eJ;(have hdd:Z.names.lookup gI=aa .local->qual=bz "_law_passed"/\z=.ref G.pc:=λq=>by by_cases Q:f=.j9;(·exact⟨(k2 Q).1,(k2 Q).2.1⟩);·exact absurd q (Y Q));by_cases w:f=.kP;(·refine Ue (k3 w) ?_;rintro T o m ds rfl hT hod hds hbd;subst w;(have hk:ws.length=2\/ws.length=6:=by rw[h.length];rcases u with u|u;(·injection u);·exact u);(have e6:x=g++Fn.kP.pM.drop (ws.length-1):=by rw[B,h.length];congr 2;show 8+g.length-9=g.length-1;rcases hk with q|q<;>(rw[h.length]at q;lia));(have rd:bv G φ s.heap x (ws++ds.drop (ws.length-1)):=by rw[e6];exact h.xP ((hds.B (λi a e=>by simp at e) (.nr p.eJ)).drop _));(have j:(ws++ds.drop (ws.length-1)).length=(l.args.map (·.arg)).length:=by rw[rd.length,d5,b.np];exact C);refine Em (n:=n) (L:=L) k.OK (fd:=fnOf nm qual l body Z (.ref T) kV doc pm an z ct) (ps:=l.args.map (·.arg)) (nl:=Fn.kP.nl) J p y U (X _ _ ho) rfl rfl rfl rfl rfl rfl b.kind b.co b.DX (codeRec_of X hcd) hdd (hbd ws hk s (X _ _ hT)) rd j (by rw[d5,b.np];exact b.nl) b.names v ?_;rw[d5,b.np];exact d);·(have D:x=g:=by rw[B,YU w];simp);subst D;(have j:ws.length=(l.args.map (·.arg)).length:=by rw[h.length,d5,b.np];exact C);refine Em (n:=n) (L:=L) k.OK (fd:=fnOf nm qual l body Z dV kV doc pm an z ct) (ps:=l.args.map (·.arg)) (nl:=f.nl) J p y U (X _ _ ho) rfl rfl rfl rfl rfl rfl b.kind b.co b.DX (codeRec_of X hcd) hdd (.of_eq (C0 b.p1 b.p3 b.p4 b.p5 (k1 w) j b.names.Ln)) h j (by rw[d5,b.np];exact b.nl) b.names v ?_;rw[d5,b.np];exact d
theorem Lw(e:cL G)(a:pJ G)(f:∀g:Gl,g.jq=aj->(ip G.K e7 (bz g.fQ)).any (·.isSome)=aj)(b:oQ G)(d:qW G h i)(c:F9 G):∀n,pH G (aF n) n|0=>Vs|n+1=>VE ⟨e,a,f,Lw e a f b d c n⟩ b d c
end
section
open PySem PySem.W PySem.Calls PyProof.Rows PySem.SeqAt
set_option maxRecDepth 100000
noncomputable def O1:List am:=[91,98,105,112,119,126,147,154,161,168,253,328,281,302,321,345,408,357,364,369,376,381,386,393,422,429,436,443,450,457,464,471,478,485,492,499,506,513,520,527,534,541,548,555,562,576,583,590,611,618,625,632,663,670,677,684,691,698,705,710,715,724,738,745,752,759,771,778,785,0,793,800,807,814,819,314]
noncomputable def qQ(f:Fn):am:=O1.getD f.n 0
noncomputable def nI:dr->am|.qe=>284|.qq=>305|.oS=>348|.jP=>411|.jU=>600|.jV=>762
noncomputable def UG:X->am|.aF=>51|.ir=>82
noncomputable def QL:X->am|.aF=>50|.ir=>81
noncomputable def Qq:am:=38
noncomputable def AG:am:=329
noncomputable def xfA:am:=35
noncomputable def Xj:am:=79
noncomputable def acT:am:=819
noncomputable def Lu(a:kG)(f:Fn)(fd:FuncData):Bool:=fd.globals==e7&&fd.builtins==vG&&fd.closure.isEmpty&&codeIn a fd.code fd.qualname&&(match fd.body with|.stmts b=>rO f fd.params b fd.scope|.expr _=>au)&&(aZ (f=.kP)||fd.defaults==.none)&&(aZ (f≠.j9)||(fd.qualname==bz "_law_passed"&&fd.code==.ref 806))
noncomputable def FF(b:kG)(f:Fn)(a:am):Bool:=match b.lookup a with|aa o=>o.cls==.type "function"&&(match o.data with|.func fd=>Lu b f fd|_=>au)|ah=>au
set_option tactic.hygienic true in theorem JR(h:FF c f a=aj):∃j nm qual u b v k w doc pm an d ct B,c.lookup a=aa ⟨.type "function",j,.func (fnOf nm qual u b v k w doc pm an d ct),B⟩/\codeIn c d qual=aj/\rO f u b v=aj/\(f≠.kP->k=.none)/\(f=.j9->qual=bz "_law_passed"/\d=.ref 806):=by
 unfold FF at h;split at h;·rename_i o ho;rw[cI]at h;refine oA h λg h=>?_;split at h;(·rename_i fd t;unfold Lu at h;simp only[cI,pj,beq_iff_eq,decide_eq_true_eq,eQ]at h;refine oA h ?_;(try clear h;rintro⟨⟨⟨⟨⟨l,m⟩,n⟩,p⟩,i⟩,r⟩s);obtain⟨oc,j,oda,y⟩:=o;obtain⟨C,N,Q,x,R,U,W,Y,Z,D,F,G,J,L,M⟩:=fd;simp only at g t l m n p i r s;induction x with|stmts b=>rw[beq_iff_eq]at g;subst g t l m n;exact⟨j,_,_,_,b,_,_,_,_,_,_,_,_,y,ho,p,i,λq=>r.resolve_left q,λq=>(s.resolve_left λz=>z q)⟩|expr e=>injection i);·injection h
 ·injection h
theorem A0(h:Fn.all.all p=aj)(f:Fn):p f=aj:=fN.mp h f f.jL
theorem uK(h:dr.all.all p=aj)(f:dr):p f=aj:=fN.mp h f (by induction f<;>decide)
theorem Yi(h:Mt.all.all p=aj)(f:Mt):p f=aj:=fN.mp h f (by induction f<;>decide)
theorem Lz(P:bV):(Fn.all.all λf=>aZ (f=.c6)||aZ (f=.qy)||FF (K P) f (qQ f))=aj:=by kernel_rfl
noncomputable def zO:List bK->i9×List bK×dY×be|.FunctionDef _ a b _ _ _ s _ _ p::_=>(a,b,s,p)|_=>(ys,[],ys,ys)
noncomputable def dP:i9:=(zO (aX 122).2.1).1
noncomputable def dB:List bK:=(zO (aX 122).2.1).2.1
noncomputable def dS:dY:=(zO (aX 122).2.1).2.2.1
noncomputable def HZ:be:=(zO (aX 122).2.1).2.2.2
theorem Yq:rO .c6 dP dB dS=aj:=by kernel_rfl
theorem Xz:(aX 122).2.1.head?=aa (.FunctionDef gI dP dB [] ah [] dS ah gI HZ):=by kernel_rfl
theorem Pt(P:bV):(dr.all.all λk=>At.all.all λn=>Gz (K P) (nI k) n.str&&j5 (K P) (.ref (nI k)) n.str==aa ah)=aj:=by kernel_rfl
theorem Ax(P:bV):(dr.all.all λk=>hasDictIn (K P) (nI k)&&j5 (K P) (.ref (nI k)) "__setattr__"==aa (aa (.builtin "object.__setattr__"))&&plainOver (K P) (nI k)&&ip (K P) e7 k.str==aa (aa (.ref (nI k)))&&keepIn (K P) (.ref (nI k))&&makesIn (K P) (nI k)&&j5 (K P) (.ref (nI k)) "__init__"==aa (aa (.ref (qQ k.init)))&&isFn (K P) (.ref (qQ k.init))&&aZ (k.init≠.c6))=aj:=by kernel_rfl
theorem TI(P:bV):(dr.all.all λk=>Mt.all.all λm=>match lU k m with|ah=>aj|aa f=>Gz (K P) (nI k) m.str&&j5 (K P) (.ref (nI k)) m.str==aa (aa (.ref (qQ f)))&&isFn (K P) (.ref (qQ f))&&aZ (f≠.c6))=aj:=by kernel_rfl
theorem Hm(P:bV):(Fn.all.all λf=>ip (K P) e7 (bz (Gl.fn f).fQ)==(if f.jq then aa (aa (.ref (qQ f)))else aa ah))=aj:=by kernel_rfl
noncomputable def AY(v:aq):Option aD:=by cases v with|str s=>exact aa s|_=>exact ah
theorem Ly(h:AY v=aa s):∃t,v=.str s t:=by induction v<;>(first|injection h;done|injection h with q;subst q);exact⟨_,rfl⟩
theorem Ww(P:bV):(aC.all.all λs=>s.qh.all λt=>(ip (K P) AG s.str).any λo=>o.any λw=>(AY w).any λy=>y==t.str)=aj:=by kernel_rfl
noncomputable def mT(w:de)(aE:jM)(h₀:aQ)(p:jM)(loose:List aD)(iw:BW->Option aq)(mg mb:aD->Option aq)(Lb:am):bp:={aE,w,K:=K w.params,h₀,p,loose,iw,mg,mb,fa:=qQ,ka:=nI,xa:=UG,xb:=Qq,xn:=QL,sa:=AG,P:=802,Lb,dp:=dP,db:=dB,ds:=dS,BI:=HZ,pc:=806}
noncomputable def mI(b:kG)(a:am):List aq:=match b.lookup a with|aa ⟨_,_,.seq vs _,_⟩=>vs.toList|_=>[]
noncomputable def xW(v:aq):Option Int:=by cases v with|int s=>exact aa s|_=>exact ah
theorem FT(h:xW v=aa s):∃t,v=.int s t:=by induction v<;>(first|injection h;done|injection h with q;subst q);exact⟨_,rfl⟩
noncomputable def Dv:List V->List aq->Bool|[],r=>r.isEmpty|v::l,r=>r.head?.any λw=>(iy v).any λs=>(AY w).any λx=>x==s.str&&Dv l r.tail
theorem Nf:∀{l:List V}{r:List aq},Dv l r=aj->bv G φ h l r|[],r,e=>by cases eQ.mp (show r.isEmpty=aj from e);exact .nil|v::l,r,e=>by refine ay (cV (o:=r.head?) e) λw b e=>?_;refine ay (cV (o:=iy v) e) λs c e=>?_;refine ay (cV (o:=AY w) e) λx a e=>?_;refine oE (Ly a) λt a=>?_;rw[nc b,um c,a];exact .cons (cr (av e).1▸aA.xL) (Nf (av e).2)
noncomputable def xw:List V->List aq->Bool|[],r=>r.isEmpty|v::l,r=>r.head?.any λw=>(fb v).any λs=>(xW w).any λx=>x==s&&xw l r.tail
theorem KU:∀{l:List V}{r:List aq},xw l r=aj->bv G φ h l r|[],r,e=>by cases eQ.mp (show r.isEmpty=aj from e);exact .nil|v::l,r,e=>by refine ay (cV (o:=r.head?) e) λw b e=>?_;refine ay (cV (o:=fb v) e) λs c e=>?_;refine ay (cV (o:=xW w) e) λx a e=>?_;refine oE (FT a) λt a=>?_;rw[nc b,zi c,a];exact .cons (cr (av e).1▸aA.xQ) (KU (av e).2)
noncomputable def Yv(a:kG)(g:Gl):Bool:=(ip a e7 (bz g.fQ)).any λo=>o.any λw=>(fb g.val).any λi=>(xW w).any λj=>j==i
noncomputable def tM(b:kG)(g:Gl)(a:am):Bool:=ip b e7 (bz g.fQ)==aa (aa (.ref a))&&(jx g.val).any λl=>Dv l (mI b a)
theorem I8(P:bV):tM (K P) .u6 331=aj:=by kernel_rfl
theorem Jm(P:bV):tM (K P) .km 654=aj:=by kernel_rfl
theorem G0(P:bV):tM (K P) .vj 655=aj:=by kernel_rfl
theorem GQ(P:bV):tM (K P) .u8 656=aj:=by kernel_rfl
theorem JV(P:bV):tM (K P) .u2 716=aj:=by kernel_rfl
theorem Mj(P:bV):tM (K P) .vg 717=aj:=by kernel_rfl
theorem WX(P:bV):(K P).lookup 331=aa {cls:=.type "tuple",data:=.seq (mI (K P) 331).toArray}:=by kernel_rfl
theorem Wk(P:bV):(K P).lookup 654=aa {cls:=.type "tuple",data:=.seq (mI (K P) 654).toArray}:=by kernel_rfl
theorem Uc(P:bV):(K P).lookup 655=aa {cls:=.type "tuple",data:=.seq (mI (K P) 655).toArray}:=by kernel_rfl
theorem aaS(P:bV):(K P).lookup 656=aa {cls:=.type "tuple",data:=.seq (mI (K P) 656).toArray}:=by kernel_rfl
theorem UB(P:bV):(K P).lookup 716=aa {cls:=.type "tuple",data:=.seq (mI (K P) 716).toArray}:=by kernel_rfl
theorem Wi(P:bV):(K P).lookup 717=aa {cls:=.type "tuple",data:=.seq (mI (K P) 717).toArray}:=by kernel_rfl
theorem Ji(P:bV):(ip (K P) e7 (bz Gl.tv.fQ)==aa (aa (.ref 786))&&(AN Gl.tv.val).any λl=>xw (l.map .int) (mI (K P) 786))=aj:=by kernel_rfl
theorem Zz(P:bV):(K P).lookup 786=aa {cls:=.type "list",data:=.seq (mI (K P) 786).toArray}:=by kernel_rfl
theorem Qa(P:bV):(K P).lookup 329=aa ⟨.type "dict",ah,.dict (zq P).toArray 31,#[]⟩:=by kernel_rfl
theorem UD(P:bV):KeysLit P (zq P).toArray.toList:=by
 unfold zq;repeat refine⟨(iM _ _ rfl rfl),?_⟩
 trivial
theorem WC(P:bV):((["len","list","tuple","abs","isinstance","range","Exception"]:List String).all λx=>ip (K P) e7 (bz x)==aa ah)=aj:=by kernel_rfl
theorem Mx:∀{l:List Int}{vs:List aq},xw (l.map .int) vs=aj->yB vs l|[],vs,e=>by cases eQ.mp (show vs.isEmpty=aj from e);exact .nil|i::l,vs,e=>by refine ay (cV (o:=vs.head?) e) λw b e=>?_;refine ay (cV (o:=xW w) e) λx a e=>?_;refine oE (FT a) λt a=>?_;rw[nc b,a,cr (av e).1];exact .cons _ _ (Mx (av e).2)
section
variable{w:de}{aE:jM}{h₀:aQ}{p:jM}{loose:List aD}{iw:BW->Option aq}{mg mb:aD->Option aq}{Lb:am}
theorem V2{P:bV}(m:Yv (K P) g=aj)(b:ip (K P) e7 (bz g.fQ)=aa (aa u)):aA G φ h g.val u:=by refine ay (cV m) λo ho m=>ay (cV m) λw c m=>ay (cV m) λi hi m=>ay (cV m) λj a m=>oE (FT a) λt e=>?_;rw[zi hi,bU ((bU (b.symm.trans ho)).trans c),e,cr m];exact aA.xQ
theorem vE{P:bV}(m:tM (K P) g a=aj)(b:(K P).lookup a=aa {cls:=.type "tuple",data:=.seq (mI (K P) a).toArray})(X:(K P).In h₀)(d:ip (K P) e7 (bz g.fQ)=aa (aa u)):aA G φ h₀ g.val u:=by injection d.symm.trans (cr (av m).1)with e;injection e with e;subst e;refine ay (cV (av m).2) λl c s=>?_;rw[E8 c];exact gv a _ rfl (X _ _ b) (Nf s)
theorem YS(b:f≠.c6)(c:ip (K w.params) e7 (bz (Gl.fn f).fQ)=aa (aa u)):aA (mT w aE h₀ p loose iw mg mb Lb) φ h₀ (.fn f) u:=by
 have e:=c.symm.trans (cr (A0 (Hm w.params) f));by_cases a:f.jq=aj;·injection e.trans (if_pos a)with e;injection e with e;subst e;exact aA.Ej b
 ·injection e.trans (if_neg a)with e;injection e
theorem M6(X:(K w.params).In h₀)(T:Top p loose iw mg mb h₀)(i:h₀.objs.size<=Lb)(j:h₀.get? 802=ah)(h:yD h₀ 806 802):cL (mT w aE h₀ p loose iw mg mb Lb)where
 X:=X
 T:=T
 Lb:=i
 Ko:=by have:h₀.get? 1=aa (boot_o_1 w.params):=X 1 _ (by kernel_rfl);show h₀.get? 1≠ah;rw[this];simp
 MI:=h
 Nt:=j
 gT:=⟨by kernel_rfl,by kernel_rfl,λenv=>by kernel_rfl,by(have:(dS.names.all λx=>aZ (x.2≠.free))=aj:=by kernel_rfl);exactλx b=>of_decide_eq_true (fN.mp this x b)⟩
 Kp f l:=by by_cases c:f=.qy;(·subst c;exact⟨_,_,_,_,show(K w.params).lookup 314=aa Ke from by kernel_rfl⟩);·have:=A0 (Lz w.params) f;simp only[pj,decide_eq_true_eq]at this;refine UK (JR (this.resolve_left λq=>q.elim l c)) λF nm qual G z J C D doc pm an B ct L e Z=>?_;exact⟨_,_,_,_,e⟩
 Dh:=⟨_,_,Qa _,UD _,λs t e=>by have m:=fN.mp (Ww w.params) s (aC.jL s);rw[e]at m;exact ay (cV (o:=ip (K w.params) AG s.str) m) λo ho m=>ay (cV m) λw r m=>ay (cV m) λy v m=>oE (Ly v) λk d=>⟨k,ho.trans (congrArg aa (r.trans (congrArg aa (d.trans (congrArg (Value.str · k) (cr m))))))⟩⟩
 EQ x b:=by have:=fN.mp (WC w.params) x b;rwa [beq_iff_eq]at this
 gl g n u a:=by induction g with|fn f=>exact YS (λq=>n (congrArg Gl.fn q)) a|tv=>have m:=av (Ji w.params);injection a.symm.trans (cr m.1)with e;injection e with e;subst e;exact⟨786,_,rfl,⟨_,X _ _ (Zz _),rfl,_,rfl⟩,Mx m.2⟩|qu=>injection a.symm.trans (show ip (K w.params) e7 (bz Gl.qu.fQ)=aa (aa (.ref AG))from by kernel_rfl)with e;injection e|u6=>exact vE (I8 _) (WX _) X a|km=>exact vE (Jm _) (Wk _) X a|vj=>exact vE (G0 _) (Uc _) X a|u8=>exact vE (GQ _) (aaS _) X a|u2=>exact vE (JV _) (UB _) X a|vg=>exact vE (Mj _) (Wi _) X a|_=>exact V2 (by kernel_rfl) a
theorem Kc:pJ (mT w aE h₀ p loose iw mg mb Lb)where
 cp k n:=by have:=fN.mp (uK (Pt w.params) k) n (At.jL n);rw[cI,beq_iff_eq]at this;exact this
 Fu k:=by have:=uK (Ax w.params) k;simp only[cI,beq_iff_eq,decide_eq_true_eq]at this;exact this.1.1.1.1.1.1.1.1
 nC k:=by have:=uK (Ax w.params) k;simp only[cI,beq_iff_eq,decide_eq_true_eq]at this;exact⟨this.1.1.1.1.1.1.1.2,this.1.1.1.1.1.1.2⟩
 bH k m f e:=by have:=Yi (uK (TI w.params) k) m;rw[e]at this;simp only[cI,beq_iff_eq,decide_eq_true_eq]at this;exact(nN this.1.1.1 this.1.1.2 this.1.2 this.2)
 name k:=by have:=uK (Ax w.params) k;simp only[cI,beq_iff_eq,decide_eq_true_eq]at this;exact⟨this.1.1.1.1.1.2,this.1.1.1.1.2⟩
 HU k:=by have:=uK (Ax w.params) k;simp only[cI,beq_iff_eq,decide_eq_true_eq]at this;exact(nN this.1.1.1.2 this.1.1.2 this.1.2 this.2)
theorem t9{P:bV}{g:Gl}(m:(ip (K P) e7 (bz g.fQ)==aa (aa (.ref a))&&b)=aj):(ip (K P) e7 (bz g.fQ)).any (·.isSome)=aj:=by rw[cr (av m).1];rfl
theorem Mu(g:Gl)(h:g.jq=aj):(ip (K w.params) e7 (bz g.fQ)).any (·.isSome)=aj:=by induction g with|fn f=>rw[cr (A0 (Hm w.params) f),if_pos (show f.jq=aj from h)];rfl|tv=>exact t9 (Ji w.params)|u6=>exact t9 (I8 _)|km=>exact t9 (Jm _)|vj=>exact t9 (G0 _)|u8=>exact t9 (GQ _)|u2=>exact t9 (JV _)|vg=>exact t9 (Mj _)|_=>kernel_rfl
end
section
variable{w:de}{aE:jM}{h₀:aQ}{p:jM}{loose:List aD}{iw:BW->Option aq}{mg mb:aD->Option aq}{Lb:am}
theorem ZN(P:bV):(K P).lookup 51=aa (oi (bz "RunFault") (bz "RunFault") 51 50 [.ref 38] [.ref 38,.type "Exception",.type "BaseException",.type "object"] aj [] [] au ah ah (aa (vR 42)) ah (aa (vS "RunFault" 225)) (aa (vS "RunFault" 233)) (aa (.bool aj)) "Exception.__new__"):=by kernel_rfl
theorem W2(P:bV):(K P).lookup 82=aa (oi (bz "TooLong") (bz "TooLong") 82 81 [.ref 38] [.ref 38,.type "Exception",.type "BaseException",.type "object"] aj [] [] au ah ah (aa (vR 66)) ah (aa (vS "TooLong" 257)) (aa (vS "TooLong" 265)) (aa (.bool aj)) "Exception.__new__"):=by kernel_rfl
theorem II:oQ (mT w aE h₀ p loose iw mg mb Lb)where
 cls x:=by induction x with|aF=>exact⟨_,_,_,_,_,_,_,_,_,_,_,_,ZN _⟩|ir=>exact⟨_,_,_,_,_,_,_,_,_,_,_,_,W2 _⟩
 ne:=by show(51:Nat)≠82/\(51:Nat)≠38/\(82:Nat)≠38;decide
 name x:=by induction x<;>kernel_rfl
theorem aat(P:bV):pV (K P) 35 [sS "self",sS "text"] (DP ⟨8,8,8,17⟩ ⟨8,8,8,26⟩ ⟨8,27,8,31⟩ ⟨8,33,8,37⟩ ⟨8,8,8,38⟩ ⟨8,8,8,38⟩ ⟨9,8,9,12⟩ ⟨9,8,9,17⟩ ⟨9,20,9,24⟩ ⟨9,8,9,24⟩) yW:=⟨ah,bz "__init__",bz "F77Error.__init__",(eI 2 0).1,(eI 2 0).2.2,.none,.none,vS "f77.errors" 194,ah,vR 34,.none,#[],by kernel_rfl,by kernel_rfl,by kernel_rfl,by kernel_rfl,by kernel_rfl,by kernel_rfl,by kernel_rfl,by kernel_rfl,by kernel_rfl,by kernel_rfl,by kernel_rfl⟩
theorem aaA(P:bV):pV (K P) 79 [sS "self",sS "steps"] (Fo 0 ⟨17,8,17,16⟩ ⟨17,8,17,25⟩ ⟨17,26,17,30⟩ ⟨17,32,17,48⟩ ⟨17,8,17,49⟩ ⟨17,8,17,49⟩ ⟨18,8,18,12⟩ ⟨18,8,18,18⟩ ⟨18,21,18,26⟩ ⟨18,8,18,26⟩) Ft:=⟨ah,bz "__init__",bz "TooLong.__init__",(eI 5 0).1,(eI 5 0).2.2,.none,.none,vS "f77.errors" 194,ah,vR 78,.none,#[],by kernel_rfl,by kernel_rfl,by kernel_rfl,by kernel_rfl,by kernel_rfl,by kernel_rfl,by kernel_rfl,by kernel_rfl,by kernel_rfl,by kernel_rfl,by kernel_rfl⟩
theorem IW:qW (mT w aE h₀ p loose iw mg mb Lb) xfA Xj where
 BO:=⟨_,_,_,_,_,_,_,_,_,_,aat _,by decide⟩
 tl:=⟨_,_,_,_,_,_,_,_,_,_,_,aaA _,by decide⟩
 sa x:=by induction x<;>kernel_rfl
 fQ x:=by induction x<;>kernel_rfl
 rL:=by kernel_rfl
 init:=⟨by kernel_rfl,by kernel_rfl⟩
 eJ:=⟨by kernel_rfl,by kernel_rfl,.type "type",by kernel_rfl,by kernel_rfl⟩
 keep x:=by induction x<;>kernel_rfl
 MZ:=by kernel_rfl
theorem WL(P:bV):(K P).lookup 807=aa ⟨.type "function",ah,wT (aX 122) "_law_passed" "_law_passed" 3 .none .none .none (vS "law_sa0220_01" 1461) (vR 806) .none 0,#[]⟩:=by kernel_rfl
theorem XN(P:bV):(K P).lookup 408=aa ⟨.type "function",ah,wT (eI 63 0) "__init__" "Limits.__init__" 3 (vR 401) .none .none (vS "f77.limits" 850) (vR 407) .none 0,#[]⟩:=by kernel_rfl
theorem Vp(P:bV):(K P).lookup 401=aa {cls:=.type "tuple",data:=.seq (mI (K P) 401).toArray}:=by kernel_rfl
theorem Zp(P:bV):xw Fn.kP.pM (mI (K P) 401)=aj:=by kernel_rfl
noncomputable def HN:List aD:=["self","width","real_digits","double_digits","top_exponent","steps","continuations","columns","depth"].map bz
theorem TT:(eI 63 0).1.args.map (·.arg)=HN:=by kernel_rfl
theorem Ed{l:List aq}(h:l.length=n):l=(j0 n).map λi=>l.getD i .none:=by
 apply N2;intro i;rw[j2];by_cases c:i<n;·rw[BR c,gP (h▸c)];show aa _=aa (l.getD i .none);rw[vO,gP (h▸c)];rfl
 ·rw[ro (by rw[h];exact rg c),ro (by rw[abx];exact rg c)];rfl
theorem Wg{nm q bo sc gl cl kwd doc pm an cd ct bu ar kd df}{ws:List aq}{T:am}{s:az}{o:cE}{c:List aq}(d:(ar.map λx:Arg=>x.arg)=HN)(ho:s.heap.get? T=aa o)(hs:o.data=.seq c.toArray m)(e:c.length=8)(b:ws.length=2\/ws.length=6):BindsTo s ⟨nm,q,⟨[],ar,ah,[],kd,ah,df⟩,bo,sc,gl,cl,.ref T,kwd,doc,pm,an,cd,ct,bu⟩ ⟨ws,[]⟩ ((ar.map λx:Arg=>x.arg).zip (ws++c.drop (ws.length-1))):=by
 intro M A E Q a;refine bM (?_:aJ _ _ (dG _) _ _ _);refine eT (bM (wpAny_seqItems ho hs ?_));rw[d]at a⊢;rw[Ed e]at a⊢;generalize(λi=>c.getD i kM)=f at a⊢;rcases b with b|b;·rw[Ed b]at a⊢;generalize(λi=>ws.getD i kM)=g at a⊢;exact yG (by kernel_rfl) a
 ·rw[Ed b]at a⊢;generalize(λi=>ws.getD i kM)=g at a⊢;exact yG (by kernel_rfl) a
theorem YA:F9 (mT w aE h₀ p loose iw mg mb Lb)where
 ut:=Yq
 fn f l m:=by have:=A0 (Lz w.params) f;simp only[pj,decide_eq_true_eq]at this;refine Xc (JR (this.resolve_left λq=>q.elim l m)) λr nm qual t c x g o doc pm an d ct y e h i j k=>?_;refine⟨r,nm,qual,t,c,x,g,o,doc,pm,an,d,ct,y,e,h,i,j,λb=>?_,λb=>?_⟩;(·subst b;refine oA (k rfl) λu v=>?_;refine(eA u v ?_);have a:=e;rw[show qQ .j9=807 from rfl,WL]at a;simp only[OS,Obj.mk.injEq,Data.func.injEq,FuncData.mk.injEq,acg]at a;rw[<-a.2.2.1.2.2.2.1];exact Xz);·subst b;have a:=e;rw[show qQ .kP=408 from rfl,XN]at a;simp only[OS,Obj.mk.injEq,Data.func.injEq,FuncData.mk.injEq,acg]at a;refine iT a ?_;(try clear a;rintro _ _⟨rfl,rfl,rfl,rfl,rfl,_,_,rfl,rfl,rfl,rfl,rfl,rfl,rfl,_⟩_);refine(DC 401 _ _ (mI (K w.params) 401) rfl (Vp _) rfl (KU (Zp _)) (λws n s hs=>?_));exact Wg (ar:=(eI 63 0).1.args) (kd:=(eI 63 0).1.kw_defaults) (df:=(eI 63 0).1.defaults) TT hs rfl (by kernel_rfl) n
theorem Qv(X:(K w.params).In h₀)(T:Top p loose iw mg mb h₀)(b:h₀.objs.size<=Lb)(c:h₀.get? 802=ah)(a:yD h₀ 806 802)(n:Nat):pH (mT w aE h₀ p loose iw mg mb Lb) (aF n) n:=Lw (M6 X T b c a) Kc (λg h=>Mu g h) II IW YA n
end
theorem QO:∀L:Nat,cellsFrom (L+1) dD.scope.names []=[(bz "size",L+1+1),(bz "tin",L+1)]:=λL=>by kernel_rfl
theorem RB:rO .om dD.params dD.body dD.scope=aj:=by kernel_rfl
theorem aan:(dD.scope.names.lookup gI==ah&&dD.scope.names.lookup (bz "script")==aa .local&&(qD .om).lookup (bz "script")==aa 0)=aj:=by kernel_rfl
theorem Rc{w:de}{D:jM}{k:aQ}{p:jM}{loose:List aD}{B:BW->Option aq}{C t:aD->Option aq}{j L:am}{cd:aq}{s:az}{m:aD->Option aq}{A:bq}{a:am}{vs:List aq}{l:List Int}{o1 o2:cE}{M:List (am×cE)}{Q:kK->az->Prop}{E:aq->az->Prop}(X:(K w.params).In k)(T:Top p loose B C t k)(hC:yD k 806 802)(F:Fr k L s.heap m)(N:News k L s.heap M)(n1:(L+1+1,o1)∈M)(n2:(L+1,o2)∈M)(n3:(802,ry #[])∈M)(c1:∃v,o1.data=.cell v)(c2:∃v,o2.data=.cell v)(hA:A.frames=aa [])(hh:A.handled=ah)(hd:A.depth<=310)(hu:A.units<=100)(hm:m (bz "script")=aa (.ref a))(hl:k.IsList a vs.toArray)(hi:yB vs l){n:Nat}(hn:n<=150){μ:H}(hrun:aF (n+1) .om [.fl l] []=.ok (.bool aj) μ)(h:∀s' m',Fr k L s'.heap m'->GrownAll [(806,802)] s'.heap->s'.gens=s.gens->s'.os=s.os->Q (.ret (.bool aj)) s'):aJ (aU D w) (A.deeper (na dD.name dD.scope L j cd)) (execs dD.body (na dD.name dD.scope L j cd)) Q E s:=by
 have nP:=N _ n3;have OK:cL (mT w D k p loose B C t L):=M6 X T F.above nP.2.2 hC;have RK:wR (mT w D k p loose B C t L) (aF n) n:=⟨OK,Kc,λg h=>Mu g h,Qv X T F.above nP.2.2 hC n⟩;refine oA (Ff RB) λG hmB=>?_;refine oA (EA RK II IW hmB (λq=>by cases q)) ?_;rintro HB-;have q0:=aan;simp only[cI,beq_iff_eq]at q0;refine oA q0 ?_;try clear q0;rintro⟨q1,q2⟩q3
 have ec:=QO L;have W:(na dD.name dD.scope L j cd).cells=[(bz "size",L+1+1),(bz "tin",L+1)]:=ec;have hb0:∀b o,k.get? b=aa o->b<L:=λb o e=>gf (md e) F.above;have LP:∀{b},s.heap.get? b=aa (ry #[])->L≠b:=λe q=>by refine fW F.ns λo es ep e' d _=>?_;rw[q,e]at e';injection e' with q;subst q;injection d
 have S:aK (mT w D k p loose B C t L) [] [] s.heap:=⟨rfl,.nil,λi o e=>by simp at e,F.keep,(λ_ q=>nomatch q),(λq=>nomatch q),⟨#[],nP.1,trivial,.inl rfl⟩,(λq=>nomatch q),⟨m,F.ns⟩⟩;have ns:"size"≠"tin":=by decide
 have xc:(bz "tin"==bz "size")=au:=by decide+kernel
 have look:∀x c,(na dD.name dD.scope L j cd).cells.lookup x=aa c->(x=bz "size"/\c=L+1+1)\/(x=bz "tin"/\c=L+1):=by intro x c e;rw[W]at e;rw[gR]at e;induction z:x==bz "size"with|true=>rw[z]at e;injection e with q;subst q;exact .inl ⟨cr z,rfl⟩|false=>rw[z,gR]at e;induction z2:x==bz "tin"with|true=>rw[z2]at e;injection e with q;subst q;exact .inr ⟨cr z2,rfl⟩|false=>rw[z2]at e;injection e
 have R:dZ (mT w D k p loose B C t L) (qD .om) (na dD.name dD.scope L j cd) (.fl l::eL 12 .U) [] s.heap:=by refine⟨G.kind,rfl,rfl,⟨L,m,rfl,F.ns,(λq=>nomatch q),F.above,.inl rfl⟩,⟨⟨m,F.ns⟩,(λq=>nomatch q),F.above⟩,λx c e=>?_,λx y c e1 e2=>?_,λx i e=>?_,G.names.snd,λx i v e f=>?_⟩;(·rcases look x c e with⟨-,rfl⟩|⟨-,rfl⟩;(·refine oE c1 λv Y=>?_;(try clear c1);exact⟨(λq=>nomatch q),di F.above (by omega),v,_,(N _ n1).1,Y⟩);·refine oE c2 λv Y=>?_;(try clear c2);exact⟨(λq=>nomatch q),di F.above (by omega),v,_,(N _ n2).1,Y⟩);(·rcases look x c e1 with⟨rfl,rfl⟩|⟨rfl,rfl⟩<;>rcases look y _ e2 with⟨rfl,q⟩|⟨rfl,q⟩<;>first|rfl|exact absurd q (vN _)|exact absurd q.symm (vN _));(·rcases G.names.name x i e with q|q|q;(·exact .inl q);(·refine .inr (.inl ⟨.inl q,?_⟩);(have Z:(dD.scope.names.all λp=>aZ (p.2≠.cell)||p.1==bz "size"||p.1==bz "tin")=aj:=by kernel_rfl);have:=fN.mp Z _ (mw q);simp only[ne_eq,not_true_eq_false,decide_false,Bool.false_or,pj,beq_iff_eq]at this;rw[W];rcases this with rfl|rfl;(·rw[gR,beq_self_eq_true];rfl);·rw[gR,xc,gR,beq_self_eq_true];rfl);·exact .inr (.inr q));·induction i with|zero=>have Z:=G.names.snd _ _ _ e q3;subst Z;simp only[List.getElem?_cons_zero,OS]at f;subst f;refine .inr ⟨.ref a,.inl ⟨q2,m,F.ns,hm⟩,?_⟩;exact gv a vs rfl hl hi|succ i=>rw[List.getElem?_cons_succ,yz]at f;split at f;(·injection f with q;subst q;exact .inl rfl);·injection f
 have hC':ly (mT w D k p loose B C t L) (A.deeper (na dD.name dD.scope L j cd)) (na dD.name dD.scope L j cd):=by refine⟨λp J=>?_,rfl,⟨[],by show A.frames.map _=_;rw[hA];rfl⟩,λq=>?_⟩;(·rw[W]at J⊢;rcases gQ.mp J with rfl|J;(·rw[gR,beq_self_eq_true]);·simp only[dq]at J;subst J;rw[gR,xc,gR,beq_self_eq_true]);·rw[show(na dD.name dD.scope L j cd).scope.names.lookup gI=ah from q1]at q;injection q
 have I:dQ (mT w D k p loose B C t L) (A.deeper (na dD.name dD.scope L j cd)) (na dD.name dD.scope L j cd) (qD .om) (.fl l::eL 12 .U) [] [] s:=by refine⟨S,R,⟨[na dD.name dD.scope L j cd],by show A.frames.map _=_;rw[hA];rfl,λe he=>?_⟩,hh⟩;simp only[dq]at he;subst he;refine⟨?_,L,m,rfl,F.ns,(λq=>nomatch q),F.above,.inl rfl⟩;rw[show(na dD.name dD.scope L j cd).scope.kind=.function from G.kind];simp
 refine HB (A.deeper (na dD.name dD.scope L j cd)) (na dD.name dD.scope L j cd) _ [] [] s Q E ⟨by show A.depth+1+4*n<=980;omega,by show A.units+3+20*n<=9000;omega⟩ rfl hC' I ?_;have r:eC (aV (aF n) Fn.om.body (.fl l::eL 12 .U) [])=.ok (.bool aj) μ:=hrun;induction q:aV (aF n) Fn.om.body (.fl l::eL 12 .U) []with|nx U μ'=>rw[q]at r;cases r|ex x U μ'=>rw[q]at r;injection r|aM=>rw[q]at r;injection r|rt v μ'=>rw[q]at r;injection r with q;subst q;intro φ' s' u a' S' r';replace r':_=_:=r';subst r';refine oE (S'.fr OK.Lb) λm' U=>?_;refine ay S'.tab λps hP _=>?_;have e3:=a'.2.2;exact h s' m' U ⟨⟨ps,hP⟩,trivial⟩ (by rw[e3]) (by rw[e3])
theorem Uj(P:bV):codeHdIn (K P) 806 802=aj:=by kernel_rfl
noncomputable def E0:Prop:=∀l:List Int,l.length<=63->∃n,n<=150/\∃μ,aF (n+1) .om [.fl l] []=.ok (.bool aj) μ
theorem QR(a:E0){vs:List aq}{l:List Int}(_:yB vs l)(b:¬((63:Nat):Int)<(l.length:Int)):∃n,n<=150/\∃μ,aF (n+1) .om [.fl l] []=.ok (.bool aj) μ:=a l (by omega)
theorem S9(H:E0):WalkO d9 lI (XL d9 []) or.says sN.row.toRowW dD [] λf vs=>fX f vs:=by w_on;intro w s₀ s₁ mg mb G Y fa o pm cd doc dV kV ho hd hcd hD hmg hg args e9 as hpre hlay hrd hwl hlo;have KX:=km_in_of Y;have hT8:=km_tabs_of Y;have X:=(Ground.X G).1;have V:=(Ground.X G).2;refine Ground.open G ?_;intro T B D TE TW;have hT9:TabsAt ([(806,802)]:List (am×am)) _:=sQ.mpr ⟨⟨codeHd_of_K (c:=806) (P:=802) KX (Uj _),hT8 802 (by k_mem)⟩,λ_ h=>nomatch h⟩;clear hmg;wrow_args hpre hlay hrd hwl hlo;refine enter_call ?_;w_top on;kn_posts;w_call any ho hd hcd hD T F;clear hd;kn_ghosts F T;k_drop;rename yB _ _=>hI;rename News _ _ _ _=>hN;rename Fr _ _ _ _=>hF;rename Top topProg _ _ _ _ _=>hT;rename Frag.In _ _=>hX;rename Below _ _ _ _=>hK;rename¬(_<_)=>hc;refine ZY (QR H hI hc) λn hn μ hrun=>?_;refine Rc hX hT codeHd hF hN (.head _) (.tail _ (.head _)) (.tail _ (.tail _ (.head _))) ⟨_,by assumption⟩ ⟨_,by assumption⟩ hK.1 rfl (by decide) (by decide) (by kernel_rfl) lifted hI hn hrun λs' m' F' G' hg' ho'=>⟨goodW_bool F' (hg'.trans hg) (raisesW_false (by wrow_none_raised)) (postW_of rfl (by kernel_rfl) rfl) ho',G'⟩
theorem RM(a:E0):sN.Holds:=O6 (S9 a)
end
end
end Internal
theorem PySem.Challenge.cw_sa0220_01_holds : PySem.Challenge.rw_sa0220_01.Holds :=
 Internal.RM fun l h=>Internal.YV l h
