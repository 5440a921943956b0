import PyProof.Rows.All
import Wide.All
import OpenK.AllK
import Wide.FinOn
import PySem.Challenge.RW_nz0197_01
open PySem
set_option Elab.async false
set_option tactic.hygienic false
set_option linter.all false
set_option genSizeOf false
set_option genInjectivity false
set_option genCtorIdx false
namespace Mu.Internal
set_option backward.eqns.nonrecursive false
set_option backward.eqns.deepRecursiveSplit false
set_option backward.match.sparseCases false
set_option backward.linearNoConfusionType false
abbrev LS:=Lean.Syntax
set_option compiler.extract_closed false
def tA(s:String):LS:=.atom .none s
def tN(s:String)(a:Array LS):LS:=.node .none ("Lean.Parser.Tactic."++s).toName a
def tU(a:Array LS):LS:=.node .none `null a
def tI(n:Lean.Name):LS:=.ident .none "".toSubstring n []
def qm1(s:String)(a:LS):LS:=.node .none ("Lean.Parser.Term."++s).toName #[a]
def qm2(s:String)(a b:LS):LS:=.node .none ("Lean.Parser.Term."++s).toName #[a,b]
def qm3(s:String)(a b c:LS):LS:=.node .none ("Lean.Parser.Term."++s).toName #[a,b,c]
def qn1(s:String)(a:LS):LS:=tN s #[a]
def qn2(s:String)(a b:LS):LS:=tN s #[a,b]
def qn3(s:String)(a b c:LS):LS:=tN s #[a,b,c]
def qn4(s:String)(a b c d:LS):LS:=tN s #[a,b,c,d]
def qn5(s:String)(a b c d e:LS):LS:=tN s #[a,b,c,d,e]
def qu0:LS:=tU #[]
def qu1(a:LS):LS:=tU #[a]
def qu2(a b:LS):LS:=tU #[a,b]
def qu3(a b c:LS):LS:=tU #[a,b,c]
def tg1(a b:LS):LS:=.node .none `group #[a,b]
def tS(a b:LS):LS:=qn3 "paren" (tA "(") (qn1 "tacticSeq" (qn1 "tacticSeq1Indented" (qu3 a (tA ";") b))) (tA ")")
def tO(a:LS):LS:=qn1 "tacticSeq" (qn1 "tacticSeq1Indented" (qu1 a))
def tF(a b:LS):LS:=qn2 "first" (tA "first") (qu2 (tg1 (tA "|") (tO a)) (tg1 (tA "|") (tO b)))
def tR(f:Lean.Name)(c:LS):LS:=qn2 "refine" (tA "refine") (qm2 "app" (tI f) (qu2 c (qm2 "syntheticHole" (tA "?") (qm1 "hole" (tA "_")))))
def tE(c:LS):LS:=qm2 "app" c (qu1 (qm1 "ellipsis" (tA "..")))
def tL(s:String)(a:Array LS):LS:=qn2 s (tA s) (tU a)
def tP(c:LS):LS:=qm3 "paren" (tA "(") c (tA ")")
def tH(c:LS):LS:=qm3 "paren" (qm2 "hygienicLParen" (tA "(") (.node .none `hygieneInfo #[tI .anonymous])) c (tA ")")
@[elab_as_elim] theorem rwg {α:Sort _} {C:α->Prop} {a b:α} (h:a=b) (k:C b):C a:=h▸k
@[elab_as_elim] theorem rwh {α:Sort _} {C:α->Prop} {a b:α} (h:a=b) (k:C a):C b:=h▸k
def tW(x:LS)(r:LS):List LS->LS
 |[]=>r
 |t::l=>let n:=match t[0].getNumArgs with|0=>`rwg|_=>`rwh
  let y:=tS (tF (tR n t[1]) (tF (tR n (tE t[1])) (qn4 "rewriteSeq" (tA "rewrite") (x[1]) (qn3 "rwRuleSeq" (tA "[") (qu1 t) (tA "]")) qu0))) r
  tW x y l
def tV:Option LS->Lean.MacroM LS
 |some r=>return r
 |none=>Lean.Macro.throwUnsupported
def mR(x:LS):Option LS:=match x[1][0].getNumArgs+x[3].getNumArgs with
 |0=>some (tW x (qn2 "tacticTry_" (tA "try") (tO (qn2 "withReducible" (tA "with_reducible") (tO (qn1 "tacticRfl" (tA "rfl")))))) x[2][1].getSepArgs.toList.reverse)
 |_=>none
local macro_rules (kind:=Lean.Parser.Tactic.rwSeq)|x=>tV (mR x)
theorem c_ns{α:Sort _}{a:α}{C:Prop}(h:(none:Option α)=some a):C:=nomatch h
theorem c_sn{α:Sort _}{a:α}{C:Prop}(h:some a=(none:Option α)):C:=nomatch h
theorem c_ft{C:Prop}(h:false=true):C:=nomatch h
theorem c_tf{C:Prop}(h:true=false):C:=nomatch h
theorem c_sp{α β:Type _}{a c:α}{b d:β}{C:Prop}(h:some (a,b)=some (c,d))(k:a=c->b=d->C):C:=k (congrArg Prod.fst (Option.some.inj h)) (congrArg Prod.snd (Option.some.inj h))
theorem c_so{α:Type _}{a b:α}{C:Prop}(h:some a=some b)(k:a=b->C):C:=k (Option.some.inj h)
theorem c_pr{α β:Type _}{a c:α}{b d:β}{C:Prop}(h:(a,b)=(c,d))(k:a=c->b=d->C):C:=k (congrArg Prod.fst h) (congrArg Prod.snd h)
def tX(f:Lean.Name)(c:LS):LS:=qn2 "exact" (tA "exact") (qm2 "app" (tI f) (qu1 c))
def tC(x:LS)(r:LS):List String->LS
 |[]=>r
 |n::l=>tC x (tF (qn5 "induction" (tA "induction") (x[1]) (qu2 (tA "using") (tI n.toName)) qu0 (x[3])) r) l
def tD(h:LS)(n:Lean.Name)(a:Array LS):LS:=tS (tR n h) (tS (tL "clear" #[h]) (tS (tL "intro" a) (tL "subst" a)))
def mC(x:LS):Option LS:=
 let t:=x[1][0]
 let h:=t[1]
 match x[1].getNumArgs==1&&x[2].getNumArgs==0 with
 |false=>none
 |true=>
 match t[0].getNumArgs==0 with
 |false=>match x[3].getNumArgs==0 with
  |true=>none
  |false=>
   let b:=match t[0][0].isIdent with|true=>t[0][0]|false=>t[0][0][0]
   some (tS (qn3 "generalize" (tA "generalize") (qu1 (qn4 "generalizeArg" (qu2 b (tA ":")) h (tA "=") (tI `xx))) qu0) (x.setArg 1 (qu1 ((t.setArg 0 qu0).setArg 1 (tI `xx)))))
 |true=>
 match h.isIdent with
 |false=>none
 |true=>
  let r:=tC x (x.setArg 1 (qu1 (t.setArg 1 (tP h)))) ("And.casesOn Or.casesOn Q.Tr.casesOn Q.Rest.casesOn Q.Tag.casesOn PySem.Data.casesOn Decidable.casesOn PySem.Const.casesOn PySem.CmpOp.casesOn PySem.Operator.casesOn PySem.NameKind.casesOn Cop.casesOn Bop.casesOn Tgt.casesOn Meth.casesOn PySem.Value.casesOn PySem.Stmt.casesOn TS.casesOn T.casesOn Key.casesOn It.casesOn Fl.casesOn Nat.casesAuxOn PySem.Expr.casesOn Prod.casesOn Bool.casesOn List.casesOn Option.casesOn O.casesOn V.casesOn".splitOn " ")
  match x[3].getNumArgs with
  |0=>
   let e:=tI `e
   let f:=tI `e'
   some (tF (tX `c_tf h) (tF (tX `c_ft h) (tF (tX `c_sn h) (tF (tX `c_ns h) (tF (tD h `c_sp #[e,f]) (tF (tD h `c_so #[e]) (tF (tD h `c_pr #[e,f]) r)))))))
  |_=>some r
local macro_rules (kind:=Lean.Parser.Tactic.cases)|x=>tV (mC x)
def tQ(e:LS):LS:=match e.isIdent with
 |true=>qn2 "tacticTry_" (tA "try") (tO (tL "clear" #[e]))
 |false=>qn1 "skip" (tA "skip")
def tM(p:LS):LS:=qn3 "rintro" (tA "rintro") (qu1 (qn1 "rintroPat.one" p)) qu0
def tG(l:LS):LS:=tM (qn3 "rcasesPat.paren" (tA "(") l (tA ")"))
def tT(a:Array LS):LS:=qn3 "rcasesPat.tuple" (tA "⟨") (tU a) (tA "⟩")
def tB(p e:LS):LS:=qn4 "obtain" (tA "obtain") (qu1 (qn1 "rcasesPatMed" (qu1 p))) qu0 (qu2 (tA ":=") (qu1 e))
def tZ(r:LS):List LS->LS
 |[]=>r
 |p::l=>tS (tG p) (tZ r l)
def tK(e:LS)(n m:Nat):Nat->LS
 |0=>tR `E1_2 e
 |k+1=>tF (tR (.mkSimple ("E"++Nat.repr (m -1 -k)++"_"++Nat.repr n)) e) (tK e n m k)
def tJ:List LS->List LS
 |p::_::l=>qn2 "rcasesPatLo" (qn1 "rcasesPatMed" (qu1 p)) qu0::tA ","::tJ l
 |[p]=>[qn2 "rcasesPatLo" (qn1 "rcasesPatMed" (qu1 p)) qu0]
 |[]=>[]
def mO(x:LS):Option LS:=
 let p:=x[1][0][0]
 let q:=match p.getNumArgs with
  |1=>p[0]
  |_=>tT (tJ p.getArgs.toList).toArray
 let e:=x[3][1][0]
 let ps:=q[1].getSepArgs
 let n:=ps.size
 match q.isOfKind ``Lean.Parser.Tactic.rcasesPat.tuple&&x[2].getNumArgs==0&&x[3][1].getNumArgs==1&&Nat.ble 2 n&&Nat.ble n 16&&!e.isOfKind ``Lean.Parser.Term.paren with
 |false=>match p.getNumArgs with
  |1=>none
  |_=>some (x.setArg 1 (qu1 (qn1 "rcasesPatMed" (qu1 q))))
 |true=>
  let cl:=tQ e
  let k:=qn1 "skip" (tA "skip")
  let a:=q[1].getArgs
  let rest:=tS cl (tS (tG ps[0]!) (tM (q.setArg 1 (tU (a.extract 2 a.size)))))
  some (tF (tS (tK e n (min n 12) (min n 12)) (tS cl (tZ k ps.toList))) (tF (tS (tR `E0_2 e) rest) (tF (tS (tR `E1_2 e) rest) (tB q (tH e)))))
local macro_rules (kind:=Lean.Parser.Tactic.obtain)|x=>tV (mO x)
def tY:List LS->LS
 |[]=>qn1 "skip" (tA "skip")
 |p::l=>let q:=p[0]
  tS (match q.isOfKind ``Lean.Parser.Tactic.rcasesPat.tuple&&Nat.ble 2 q[1].getSepArgs.size with
   |true=>tS (tL "intro" #[tI `hq]) (tB q (tI `hq))
   |false=>qn3 "rintro" (tA "rintro") (qu1 p) qu0) (tY l)
def tu:List LS->Bool
 |[]=>false
 |p::l=>match p[0].isOfKind ``Lean.Parser.Tactic.rcasesPat.tuple&&Nat.ble 2 p[0][1].getSepArgs.size with
  |true=>true
  |false=>tu l
def mI(l:List LS):Option LS:=match tu l with
 |true=>some (tY l)
 |false=>none
local macro_rules (kind:=Lean.Parser.Tactic.rintro)|x=>tV (mI x[1].getArgs.toList)
def mE(x:LS):Option LS:=
 let e:=x[1][0][1]
 let ps:=x[2][1][0][0].getSepArgs
 match ps.size==2&&x[1].getNumArgs==1&&x[1][0][0].getNumArgs==0&&!e.isOfKind ``Lean.Parser.Term.paren with
 |false=>none
 |true=>
  let cl:=tQ e
  let r:=qn2 "rotateLeft" (tA "rotate_left") qu0
  let z:LS:=qm2 "syntheticHole" (tA "?") (qm1 "hole" (tA "_"))
  let o:=qn2 "refine" (tA "refine") (qm2 "app" (tI `Or.elim) (qu3 e z z))
  some (tF (tS o (tS (tS cl (tM ps[0]!)) (tS r (tS (tS cl (tM ps[1]!)) r)))) (x.setArg 1 (qu1 (x[1][0].setArg 1 (tP e)))))
local macro_rules (kind:=Lean.Parser.Tactic.rcases)|x=>tV (mE x)
open Option renaming bind_some->eT,map_eq_some_iff->mG,bind_eq_some_iff->pM,isSome_iff_exists->qL,map_some->pC,isNone_iff_eq_none->zy,isSome_map->Ag,bind->z8,map_map->FQ,map->Am
open PySem renaming Str->af,wpAny_bind->aW,Value->al,wpAny_pure->bn,Shared->aN,Addr->ao,NameKind->bM,Expr->aB,wpAny->aZ,sizeLine_eq->eH,strKind->cy,model->bB,mainGlobals->fv,wpAny_holding->jJ,wpAny_standAt->lH,wpAny_letTemporaryGo->uj,wpAny_assign_Name->rY,Around->dF,Comprehension->jE,mem_of_lookup->jn,World->cj,intKind->dW,builtinsNs->gY,Program->el,importedModules->oJ,Scope->c9,recursionLimit->nY,newFunctionEnv->oN,starEach->gh,compareOp->iz,treeTable->iO,wpAny_loadName_cell->wA,FuncData->hA,wpAny_specialOf->re,tupleKeyHash->o6,isSubtype_tuple_tuple->zB,wpAny_execs_cons->xb,closureFor->mn,qualnameIn->lL,Stmt->cJ,wpAny_operating->wM,OsState->iL,codeAny->iB,wpAny_tupleItemsOf->zE,eval_Subscript->uY,wpAny_truthy_bool->Be,wpAny_Assign_Name->B9,relabel->jp,wpAny_getItem_list_slice->IY,wpAny_comprehension_free->Fw,Operator->lW,wpAny_call_entry->Ax,wpAny_isInstance->zT,DictEntry->o7,wpAny_getItem_of->AQ,loadName->ma,storeName->oi,Arguments->oS,call_meets->sp,backTo->iF,codeAny_compStart_list->Gg,Pos->bJ,wpAny_execs_nil->AF,wpAny_storeName_local->IR,wpAny_loadName_local->Gk,getItem->lJ,holding->lV,swapsWith->rF,wpAny_setItem_pairs->JO,wpAny_loadName_free->He,wpAny_isTrue_BoolOp->Lg,evalPart_none->AA,methodCallPos->Ai,wpAny_Constant_str->J9,arm_eval_Attribute->I0,Obj->b8,Arg->mh,hashStr->nU,valueAt->oL,Model->iQ,eqIsQuiet->wH,seqIndex?->xd,seqItems?->wt,Result->mr,pyIter->mx,list_append->zu,wpAny_of_eq->zJ,execs->jt,IsRangeIter->z9,setItem->qV,cLine->kz,wpAny_rule->AZ,isInstance->zD,wpAny_mono->zt,typeLookup->Aw,bindArgs->F6,wpAny_call->Bm,wpAny_Name->A7,assign->oO,Params->qR,Env->dA,Thread->rc
open Nat renaming le_refl->aS,lt_of_lt_of_le->cv,lt_succ_self->cQ,le_trans->bx,ne_of_lt->bP,le_succ->b7,zero_le->cG,le_add_right->gn,add_lt_add_left->kb,le_of_eq->hQ,le_of_lt_succ->lx,lt_succ_of_lt->ly,add_le_add_left->ph,not_lt_zero->nq,lt_of_le_of_lt->rz,add_assoc->lB,lt_add_of_pos_right->yj,mul_le_mul_left->uF,ne_of_gt->ju,zero_add->jm,le_of_lt->kf,add_comm->ko,lt_irrefl->lQ,ge_of_not_lt->su,min_le_right->rn,lt_succ_iff_lt_or_eq->BQ,le_antisymm->ru,le_add_left->qA,min_le_left->sy,pos_of_ne_zero->vY,lt_trans->oM,le_of_succ_le->vW,le_of_ble_eq_true->Ao,lt_of_not_ge->u8,min_eq_left->xc,add_le_add->vA,sub_add_cancel->A3,add_right_comm->B3,lt_of_le_of_ne->zW,le_succ_of_le->z4,succ_le_succ->Bg,lt_add_right->zr,not_le_of_lt->Br,lt_or_ge->wF,add_zero->wn,beq->me,add_left_cancel->Li,succ_pos->B6,add_left_comm->Gn,lt_trichotomy->JK,min_eq_right->KI,succ->wE,not_lt->zp
open Bool renaming false->aj,true->ai,and_eq_true_iff->dL,false_eq_true->d0,false_ne_true->j5,not_true->j7,and_eq_true->pu,not_false->rP,or_eq_true->Hq,false_or->Ir
open _root_.List renaming length_map->bS,length_append->cE,mem_map->bI,map_cons->bW,map_congr_left->ef,flatMap_cons->dR,all_eq_true->dE,take_succ_eq_append_getElem->jH,length_cons->eF,not_mem_nil->eI,mem_cons->dK,mem_append->eE,lookup_cons->fG,mem_singleton->gT,nodup_nil->fJ,getElem_map->gM,map_append->gq,filterMap_cons->jI,find?_cons->im,filter_cons->jf,mem_flatMap->iU,getElem_mem->jP,nodup_append->kC,getElem?_eq_some_iff->r9,forIn_cons->jO,take_length->km,range->fp,append_assoc->lv,map_map->hH,append_nil->kh,nodup_cons->ku,count_append->nG,mem_range->kF,length_nil->li,mem_filter->lC,length_take->nx,any_cons->jW,forIn_nil->lz,getElem?_map->pr,pairwise_map->pq,filter_sublist->uN,mem_filterMap->oK,take_append_drop->sF,mem_of_find?_eq_some->wz,drop_eq_getElem_cons->wV,mem_of_getElem?->rA,length_filterMap_le->wQ,getElem?_eq_getElem->wN,take_of_length_le->wD,getElem?_set_self->wj,count_cons->oR,take_sublist->rG,getElem?_set_ne->wi,map_fst_zip->qH,flatMap_append->v7,map_eq_nil_iff->vI,foldl_cons->qD,length_set->qM,pairwise_cons->wY,zip_cons_cons->wL,count_pos_iff->wI,getElem?_cons_zero->A1,map_nil->oo,foldl_append->wa,map_inj_left->wG,mem_append_right->BP,contains_iff_mem->BX,getElem?_eq_none->Bx,perm_append_comm->As,map_take->qZ,mem_append_left->BW,length_zip->wo,of_mem_zip->xa,length_pos_iff->BV,map_set->rL,mem_cons_self->z6,getElem?_append_right->HM,getLast?_eq_getElem?->Ji,getElem?_eq_none_iff->Jw,getElem?_append_left->GL,mem_or_eq_of_mem_set->Hx,lookup->ro,length_range->zw,pairwise_singleton->F0,length_drop->B0,cons_append->Bl,length_eq_zero_iff->FF,drop_eq_nil_of_le->Gi,getElem_cons_succ->Ib,find?_some->AY,filterMap_append->JW,length_filter_le->Jo,mem_cons_of_mem->Jb,count_singleton->KN,mem_of_mem_tail->KA,drop_succ_cons->Gb,count_eq_zero->K1,getElem?_nil->JH,find?_append->Gj,filter_congr->G3,any_eq_true->Le,map_snd_zip->FT,isEmpty_iff->IT,drop_length->Fy,flatMap_nil->FY,zip_append->Iw,range_succ->Hz,drop_zero->Ih,take_nil->Gp
open PySem.Str renaming ofString->cZ,length->pw,ofString_eq_toList->GP
open Option.some renaming inj->dT,injEq->AC
open Exists renaming imp->de
open PySem.NameKind renaming free->fF,cell->rU,globalImplicit->FG
open _root_.Array renaming length_toList->mJ,getElem?_toList->rm,any_toList->wS,forIn_toList->BS,toList_setIfInBounds->I2,toList_push->Ac,eraseIdxIfInBounds->Jg,mem_toList_iff->GG,isEmpty_toList->Iy,toList_append->KW,size_append->JX
open PySem.Builtin.Tuple renaming tupleHashOf->uM
open PySem.Value renaming isStrOf->jK,ref->iI,isInt->lO,str->nW,isStrOf_shape->IB
open PySem.Spec renaming same->jw,sameAll->zR
open PySem.SeqAt renaming shaped->jr,noMix->lZ,EqAt->vu,noMixAll->GD
open List.Pairwise renaming imp_of_mem->xg
open PySem.PyData renaming keyHash->l9,depth->rZ,strOk->r0,canLay0->wZ,depthAll->AO,tuple->B4,canLayAll0->JZ,int->AE
open Int renaming natCast_nonneg->rs,ofNat_lt->j9,add_assoc->lY,toNat_of_nonneg->wB,add_sub_cancel->Ae,le_refl->qE,ofNat_inj->vQ,ofNat_le->vV,sub_eq_iff_eq_add'->FX,sub_eq_add_neg->Hn,add_right_comm->IV,emod_lt_of_pos->I3,toNat_natCast->ID,le_trans->Av,sub_eq_zero->Hj,natCast_add->IN,emod_nonneg->F8,le_add_one->Ia
open ForInStep renaming yield->oY
open List.cons renaming inj->lS,injEq->qx
open PySem.W renaming SharedT->fx,boot_heap->iA,openEnds->oH,lookIn_dict->H8,alive->AT,codeRec_of->GV,emptyDict->Hb,findIn->l0,keeps_K->KY,instObj->GC,namesBound->AL,openGood->vH,boot_drawn->BH,WRecords->vN
open PySem.F renaming slot_list_append->wr,slot_tuple_hash->vd,args_list_append_2->zX,slot_tuple_eq->wh,slot_dict_pop->vR,entry_list_append->Ba,slot_list_iadd->Bc,plainAttrs_dict->JV,slot_list_pop->Bs,entry_list_pop->Kw,entry_dict_pop->K2
open PyProof.Rows renaming getMethod_list_of->Gu,listItems_at->Kp,IntsAre->Hw
open Ne renaming symm->gP
open PySem.Challenge renaming rw_nz0197_01->Hl,pw_nz0197_01->R8
open PySem.Expr.Attribute renaming elim->BR
open PySem.Expr.Subscript renaming elim->Bv
open PySem.Builtin.List renaming listExtendWith->GS
open PySem.Expr.Constant renaming elim->BL
open Prod renaming fst->j0,ext->rp
open List.Sublist renaming refl->BJ
open Int.ofNat renaming inj->wp
open PySem.Builtin.Range renaming rangeSize->K5
open Eq renaming trans->lT,symm->so
open Nat.succ renaming inj->vU
open False renaming elim->rN
open PySem.W.WShape renaming hasItems->zo,has->AR
open PySem.W.Looks renaming of_pure->Gf
open PySem.Expr.Name renaming elim->AP
open PySem.Const.str renaming elim->AM
open PySem.Expr renaming Constant->zG
open Decidable renaming em->Bi
open PySem.Obj renaming putName->zq,mapSeq->z5
open Nat.Internal.Linear renaming Expr->Qw
open Pure renaming pure->A9
section
variable{C:Prop}{A B D E F G H I J K L:Sort _}
theorem E0_2{l m:Prop}(y:l/\m)(z:l->m->C):C:=z y.1 y.2
theorem E1_2{l:A->Prop}(y:∃a,l a)(z:∀a,l a->C):C:=y.elim z
theorem E0_3{l m n:Prop}(y:l/\m/\n)(z:l->m->n->C):C:=z y.1 y.2.1 y.2.2
theorem E1_3{l m:A->Prop}(y:∃a,l a/\m a)(z:∀a,l a->m a->C):C:=y.elim λ a y=>z a y.1 y.2
theorem E2_3{l:A->B->Prop}(y:∃a b,l a b)(z:∀a b,l a b->C):C:=y.elim λ a y=>y.elim λ b y=>z a b y
theorem E0_4{l m n o:Prop}(y:l/\m/\n/\o)(z:l->m->n->o->C):C:=z y.1 y.2.1 y.2.2.1 y.2.2.2
theorem E1_4{l m n:A->Prop}(y:∃a,l a/\m a/\n a)(z:∀a,l a->m a->n a->C):C:=y.elim λ a y=>z a y.1 y.2.1 y.2.2
theorem E2_4{l m:A->B->Prop}(y:∃a b,l a b/\m a b)(z:∀a b,l a b->m a b->C):C:=y.elim λ a y=>y.elim λ b y=>z a b y.1 y.2
theorem E3_4{l:A->B->D->Prop}(y:∃a b c,l a b c)(z:∀a b c,l a b c->C):C:=y.elim λ a y=>y.elim λ b y=>y.elim λ c y=>z a b c y
theorem E0_5{l m n o p:Prop}(y:l/\m/\n/\o/\p)(z:l->m->n->o->p->C):C:=z y.1 y.2.1 y.2.2.1 y.2.2.2.1 y.2.2.2.2
theorem E1_5{l m n o:A->Prop}(y:∃a,l a/\m a/\n a/\o a)(z:∀a,l a->m a->n a->o a->C):C:=y.elim λ a y=>z a y.1 y.2.1 y.2.2.1 y.2.2.2
theorem E2_5{l m n:A->B->Prop}(y:∃a b,l a b/\m a b/\n a b)(z:∀a b,l a b->m a b->n a b->C):C:=y.elim λ a y=>y.elim λ b y=>z a b y.1 y.2.1 y.2.2
theorem E3_5{l m:A->B->D->Prop}(y:∃a b c,l a b c/\m a b c)(z:∀a b c,l a b c->m a b c->C):C:=y.elim λ a y=>y.elim λ b y=>y.elim λ c y=>z a b c y.1 y.2
theorem E4_5{l:A->B->D->E->Prop}(y:∃a b c d,l a b c d)(z:∀a b c d,l a b c d->C):C:=y.elim λ a y=>y.elim λ b y=>y.elim λ c y=>y.elim λ d y=>z a b c d y
theorem E0_6{l m n o p q:Prop}(y:l/\m/\n/\o/\p/\q)(z:l->m->n->o->p->q->C):C:=z y.1 y.2.1 y.2.2.1 y.2.2.2.1 y.2.2.2.2.1 y.2.2.2.2.2
theorem E1_6{l m n o p:A->Prop}(y:∃a,l a/\m a/\n a/\o a/\p a)(z:∀a,l a->m a->n a->o a->p a->C):C:=y.elim λ a y=>z a y.1 y.2.1 y.2.2.1 y.2.2.2.1 y.2.2.2.2
theorem E2_6{l m n o:A->B->Prop}(y:∃a b,l a b/\m a b/\n a b/\o a b)(z:∀a b,l a b->m a b->n a b->o a b->C):C:=y.elim λ a y=>y.elim λ b y=>z a b y.1 y.2.1 y.2.2.1 y.2.2.2
theorem E3_6{l m n:A->B->D->Prop}(y:∃a b c,l a b c/\m a b c/\n a b c)(z:∀a b c,l a b c->m a b c->n a b c->C):C:=y.elim λ a y=>y.elim λ b y=>y.elim λ c y=>z a b c y.1 y.2.1 y.2.2
theorem E4_6{l m:A->B->D->E->Prop}(y:∃a b c d,l a b c d/\m a b c d)(z:∀a b c d,l a b c d->m a b c d->C):C:=y.elim λ a y=>y.elim λ b y=>y.elim λ c y=>y.elim λ d y=>z a b c d y.1 y.2
theorem E5_6{l:A->B->D->E->F->Prop}(y:∃a b c d e,l a b c d e)(z:∀a b c d e,l a b c d e->C):C:=y.elim λ a y=>y.elim λ b y=>y.elim λ c y=>y.elim λ d y=>y.elim λ e y=>z a b c d e y
theorem E0_7{l m n o p q r:Prop}(y:l/\m/\n/\o/\p/\q/\r)(z:l->m->n->o->p->q->r->C):C:=z y.1 y.2.1 y.2.2.1 y.2.2.2.1 y.2.2.2.2.1 y.2.2.2.2.2.1 y.2.2.2.2.2.2
theorem E1_7{l m n o p q:A->Prop}(y:∃a,l a/\m a/\n a/\o a/\p a/\q a)(z:∀a,l a->m a->n a->o a->p a->q a->C):C:=y.elim λ a y=>z a y.1 y.2.1 y.2.2.1 y.2.2.2.1 y.2.2.2.2.1 y.2.2.2.2.2
theorem E2_7{l m n o p:A->B->Prop}(y:∃a b,l a b/\m a b/\n a b/\o a b/\p a b)(z:∀a b,l a b->m a b->n a b->o a b->p a b->C):C:=y.elim λ a y=>y.elim λ b y=>z a b y.1 y.2.1 y.2.2.1 y.2.2.2.1 y.2.2.2.2
theorem E3_7{l m n o:A->B->D->Prop}(y:∃a b c,l a b c/\m a b c/\n a b c/\o a b c)(z:∀a b c,l a b c->m a b c->n a b c->o a b c->C):C:=y.elim λ a y=>y.elim λ b y=>y.elim λ c y=>z a b c y.1 y.2.1 y.2.2.1 y.2.2.2
theorem E4_7{l m n:A->B->D->E->Prop}(y:∃a b c d,l a b c d/\m a b c d/\n a b c d)(z:∀a b c d,l a b c d->m a b c d->n a b c d->C):C:=y.elim λ a y=>y.elim λ b y=>y.elim λ c y=>y.elim λ d y=>z a b c d y.1 y.2.1 y.2.2
theorem E6_7{l:A->B->D->E->F->G->Prop}(y:∃a b c d e f,l a b c d e f)(z:∀a b c d e f,l a b c d e f->C):C:=y.elim λ a y=>y.elim λ b y=>y.elim λ c y=>y.elim λ d y=>y.elim λ e y=>y.elim λ f y=>z a b c d e f y
theorem E0_8{l m n o p q r s:Prop}(y:l/\m/\n/\o/\p/\q/\r/\s)(z:l->m->n->o->p->q->r->s->C):C:=z y.1 y.2.1 y.2.2.1 y.2.2.2.1 y.2.2.2.2.1 y.2.2.2.2.2.1 y.2.2.2.2.2.2.1 y.2.2.2.2.2.2.2
theorem E3_8{l m n o p:A->B->D->Prop}(y:∃a b c,l a b c/\m a b c/\n a b c/\o a b c/\p a b c)(z:∀a b c,l a b c->m a b c->n a b c->o a b c->p a b c->C):C:=y.elim λ a y=>y.elim λ b y=>y.elim λ c y=>z a b c y.1 y.2.1 y.2.2.1 y.2.2.2.1 y.2.2.2.2
theorem E4_8{l m n o:A->B->D->E->Prop}(y:∃a b c d,l a b c d/\m a b c d/\n a b c d/\o a b c d)(z:∀a b c d,l a b c d->m a b c d->n a b c d->o a b c d->C):C:=y.elim λ a y=>y.elim λ b y=>y.elim λ c y=>y.elim λ d y=>z a b c d y.1 y.2.1 y.2.2.1 y.2.2.2
theorem E0_9{l m n o p q r s t:Prop}(y:l/\m/\n/\o/\p/\q/\r/\s/\t)(z:l->m->n->o->p->q->r->s->t->C):C:=z y.1 y.2.1 y.2.2.1 y.2.2.2.1 y.2.2.2.2.1 y.2.2.2.2.2.1 y.2.2.2.2.2.2.1 y.2.2.2.2.2.2.2.1 y.2.2.2.2.2.2.2.2
theorem E2_9{l m n o p q r:A->B->Prop}(y:∃a b,l a b/\m a b/\n a b/\o a b/\p a b/\q a b/\r a b)(z:∀a b,l a b->m a b->n a b->o a b->p a b->q a b->r a b->C):C:=y.elim λ a y=>y.elim λ b y=>z a b y.1 y.2.1 y.2.2.1 y.2.2.2.1 y.2.2.2.2.1 y.2.2.2.2.2.1 y.2.2.2.2.2.2
theorem E3_9{l m n o p q:A->B->D->Prop}(y:∃a b c,l a b c/\m a b c/\n a b c/\o a b c/\p a b c/\q a b c)(z:∀a b c,l a b c->m a b c->n a b c->o a b c->p a b c->q a b c->C):C:=y.elim λ a y=>y.elim λ b y=>y.elim λ c y=>z a b c y.1 y.2.1 y.2.2.1 y.2.2.2.1 y.2.2.2.2.1 y.2.2.2.2.2
theorem E4_9{l m n o p:A->B->D->E->Prop}(y:∃a b c d,l a b c d/\m a b c d/\n a b c d/\o a b c d/\p a b c d)(z:∀a b c d,l a b c d->m a b c d->n a b c d->o a b c d->p a b c d->C):C:=y.elim λ a y=>y.elim λ b y=>y.elim λ c y=>y.elim λ d y=>z a b c d y.1 y.2.1 y.2.2.1 y.2.2.2.1 y.2.2.2.2
theorem E0_10{l m n o p q r s t u:Prop}(y:l/\m/\n/\o/\p/\q/\r/\s/\t/\u)(z:l->m->n->o->p->q->r->s->t->u->C):C:=z y.1 y.2.1 y.2.2.1 y.2.2.2.1 y.2.2.2.2.1 y.2.2.2.2.2.1 y.2.2.2.2.2.2.1 y.2.2.2.2.2.2.2.1 y.2.2.2.2.2.2.2.2.1 y.2.2.2.2.2.2.2.2.2
theorem E2_10{l m n o p q r s:A->B->Prop}(y:∃a b,l a b/\m a b/\n a b/\o a b/\p a b/\q a b/\r a b/\s a b)(z:∀a b,l a b->m a b->n a b->o a b->p a b->q a b->r a b->s a b->C):C:=y.elim λ a y=>y.elim λ b y=>z a b y.1 y.2.1 y.2.2.1 y.2.2.2.1 y.2.2.2.2.1 y.2.2.2.2.2.1 y.2.2.2.2.2.2.1 y.2.2.2.2.2.2.2
theorem E4_10{l m n o p q:A->B->D->E->Prop}(y:∃a b c d,l a b c d/\m a b c d/\n a b c d/\o a b c d/\p a b c d/\q a b c d)(z:∀a b c d,l a b c d->m a b c d->n a b c d->o a b c d->p a b c d->q a b c d->C):C:=y.elim λ a y=>y.elim λ b y=>y.elim λ c y=>y.elim λ d y=>z a b c d y.1 y.2.1 y.2.2.1 y.2.2.2.1 y.2.2.2.2.1 y.2.2.2.2.2
theorem E2_12{l m n o p q r s t u:A->B->Prop}(y:∃a b,l a b/\m a b/\n a b/\o a b/\p a b/\q a b/\r a b/\s a b/\t a b/\u a b)(z:∀a b,l a b->m a b->n a b->o a b->p a b->q a b->r a b->s a b->t a b->u a b->C):C:=y.elim λ a y=>y.elim λ b y=>z a b y.1 y.2.1 y.2.2.1 y.2.2.2.1 y.2.2.2.2.1 y.2.2.2.2.2.1 y.2.2.2.2.2.2.1 y.2.2.2.2.2.2.2.1 y.2.2.2.2.2.2.2.2.1 y.2.2.2.2.2.2.2.2.2
theorem E8_9{l:A->B->D->E->F->G->H->I->Prop}(y:∃a b c d e f g h,l a b c d e f g h)(z:∀a b c d e f g h,l a b c d e f g h->C):C:=y.elim λ a y=>y.elim λ b y=>y.elim λ c y=>y.elim λ d y=>y.elim λ e y=>y.elim λ f y=>y.elim λ g y=>y.elim λ h y=>z a b c d e f g h y
theorem E8_11{l m n:A->B->D->E->F->G->H->I->Prop}(y:∃a b c d e f g h,l a b c d e f g h/\m a b c d e f g h/\n a b c d e f g h)(z:∀a b c d e f g h,l a b c d e f g h->m a b c d e f g h->n a b c d e f g h->C):C:=y.elim λ a y=>y.elim λ b y=>y.elim λ c y=>y.elim λ d y=>y.elim λ e y=>y.elim λ f y=>y.elim λ g y=>y.elim λ h y=>z a b c d e f g h y.1 y.2.1 y.2.2
theorem E9_12{l m n:A->B->D->E->F->G->H->I->J->Prop}(y:∃a b c d e f g h i,l a b c d e f g h i/\m a b c d e f g h i/\n a b c d e f g h i)(z:∀a b c d e f g h i,l a b c d e f g h i->m a b c d e f g h i->n a b c d e f g h i->C):C:=y.elim λ a y=>y.elim λ b y=>y.elim λ c y=>y.elim λ d y=>y.elim λ e y=>y.elim λ f y=>y.elim λ g y=>y.elim λ h y=>y.elim λ i y=>z a b c d e f g h i y.1 y.2.1 y.2.2
theorem E10_14{l m n o:A->B->D->E->F->G->H->I->J->K->Prop}(y:∃a b c d e f g h i j,l a b c d e f g h i j/\m a b c d e f g h i j/\n a b c d e f g h i j/\o a b c d e f g h i j)(z:∀a b c d e f g h i j,l a b c d e f g h i j->m a b c d e f g h i j->n a b c d e f g h i j->o a b c d e f g h i j->C):C:=y.elim λ a y=>y.elim λ b y=>y.elim λ c y=>y.elim λ d y=>y.elim λ e y=>y.elim λ f y=>y.elim λ g y=>y.elim λ h y=>y.elim λ i y=>y.elim λ j y=>z a b c d e f g h i j y.1 y.2.1 y.2.2.1 y.2.2.2
theorem E11_14{l m n:A->B->D->E->F->G->H->I->J->K->L->Prop}(y:∃a b c d e f g h i j k,l a b c d e f g h i j k/\m a b c d e f g h i j k/\n a b c d e f g h i j k)(z:∀a b c d e f g h i j k,l a b c d e f g h i j k->m a b c d e f g h i j k->n a b c d e f g h i j k->C):C:=y.elim λ a y=>y.elim λ b y=>y.elim λ c y=>y.elim λ d y=>y.elim λ e y=>y.elim λ f y=>y.elim λ g y=>y.elim λ h y=>y.elim λ i y=>y.elim λ j y=>y.elim λ k y=>z a b c d e f g h i j k y.1 y.2.1 y.2.2
theorem E6_15{l m n o p q r s t:A->B->D->E->F->G->Prop}(y:∃a b c d e f,l a b c d e f/\m a b c d e f/\n a b c d e f/\o a b c d e f/\p a b c d e f/\q a b c d e f/\r a b c d e f/\s a b c d e f/\t a b c d e f)(z:∀a b c d e f,l a b c d e f->m a b c d e f->n a b c d e f->o a b c d e f->p a b c d e f->q a b c d e f->r a b c d e f->s a b c d e f->t a b c d e f->C):C:=y.elim λ a y=>y.elim λ b y=>y.elim λ c y=>y.elim λ d y=>y.elim λ e y=>y.elim λ f y=>z a b c d e f y.1 y.2.1 y.2.2.1 y.2.2.2.1 y.2.2.2.2.1 y.2.2.2.2.2.1 y.2.2.2.2.2.2.1 y.2.2.2.2.2.2.2.1 y.2.2.2.2.2.2.2.2
theorem E9_15{l m n o p q:A->B->D->E->F->G->H->I->J->Prop}(y:∃a b c d e f g h i,l a b c d e f g h i/\m a b c d e f g h i/\n a b c d e f g h i/\o a b c d e f g h i/\p a b c d e f g h i/\q a b c d e f g h i)(z:∀a b c d e f g h i,l a b c d e f g h i->m a b c d e f g h i->n a b c d e f g h i->o a b c d e f g h i->p a b c d e f g h i->q a b c d e f g h i->C):C:=y.elim λ a y=>y.elim λ b y=>y.elim λ c y=>y.elim λ d y=>y.elim λ e y=>y.elim λ f y=>y.elim λ g y=>y.elim λ h y=>y.elim λ i y=>z a b c d e f g h i y.1 y.2.1 y.2.2.1 y.2.2.2.1 y.2.2.2.2.1 y.2.2.2.2.2
theorem E11_15{l m n o:A->B->D->E->F->G->H->I->J->K->L->Prop}(y:∃a b c d e f g h i j k,l a b c d e f g h i j k/\m a b c d e f g h i j k/\n a b c d e f g h i j k/\o a b c d e f g h i j k)(z:∀a b c d e f g h i j k,l a b c d e f g h i j k->m a b c d e f g h i j k->n a b c d e f g h i j k->o a b c d e f g h i j k->C):C:=y.elim λ a y=>y.elim λ b y=>y.elim λ c y=>y.elim λ d y=>y.elim λ e y=>y.elim λ f y=>y.elim λ g y=>y.elim λ h y=>y.elim λ i y=>y.elim λ j y=>y.elim λ k y=>z a b c d e f g h i j k y.1 y.2.1 y.2.2.1 y.2.2.2
end
section
open Nat.Internal.Linear
theorem hide{G:Prop}(h:∀C:Prop,(G->C)->C):G:=h G id
abbrev XE:=Qw
abbrev Ct:=Nat×Nat×XE×XE
noncomputable def cl(m:Nat)(x y:XE):Ct:=(0,m,x,y)
noncomputable def ct(m:Nat)(x y:XE):Ct:=(1,m,x,y)
noncomputable def ce(m:Nat)(x y:XE):Ct:=(2,m,x,y)
noncomputable def cf(m:Nat)(x y:XE):Ct:=(3,m,x,y)
noncomputable def aF(x y:XE):Ct:=cl 1 x y
noncomputable def aR(x y:XE):Ct:=ct 1 x y
noncomputable def fH(x y:XE):Ct:=ce 1 x y
noncomputable def dj(x y:XE):Ct:=cf 1 x y
noncomputable def dc(x:XE):XE:=.add x (.num 2)
noncomputable def az(x:XE):XE:=.add x (.num 1)
noncomputable def db(x:XE):XE:=.add x (.num 3)
noncomputable def lg:XE:=.num 1
noncomputable def fQ:XE:=.num 0
noncomputable def bi:XE:=.num 1000
noncomputable def gw:XE:=.num 10
noncomputable def js:XE:=.num 3
noncomputable def jC:XE:=.num 7
noncomputable def eO:XE:=.num 50
noncomputable def dv:XE:=.num 4
noncomputable def eG:XE:=.num 33
noncomputable def aT:XE:=.num 39
noncomputable def gJ:XE:=.num 9
def WV(v:Context)(c:Ct):Prop:=match c.1 with
 |0=>c.2.2.1.denote v<=c.2.2.2.denote v
 |1=>c.2.2.1.denote v<c.2.2.2.denote v
 |_=>c.2.2.1.denote v=c.2.2.2.denote v
def Q9(v:Context):List Ct->Prop
 |[]=>False
 |c::r=>WV v c->Q9 v r
noncomputable def NA(c:Ct)(x y:XE):XE×XE:=match c.1 with
 |0=>(.add (.mulL c.2.1 c.2.2.1) x,.add (.mulL c.2.1 c.2.2.2) y)
 |1=>(.add (.mulL c.2.1 (.add c.2.2.1 lg)) x,.add (.mulL c.2.1 c.2.2.2) y)
 |2=>(.add (.mulL c.2.1 c.2.2.1) x,.add (.mulL c.2.1 c.2.2.2) y)
 |_=>(.add (.mulL c.2.1 c.2.2.2) x,.add (.mulL c.2.1 c.2.2.1) y)
noncomputable def G1:List Ct->XE->XE->XE×XE
 |[],x,y=>(x,y)
 |c::r,x,y=>G1 r (NA c x y).1 (NA c x y).2
theorem Nc{v:Context}{c:Ct}{x y:XE}(h:WV v c)(e:x.denote v<=y.denote v):(NA c x y).1.denote v<=(NA c x y).2.denote v:=by
 obtain k|m|a|b:=c
 match k,h with
 |0,h=>exact vA (uF m h) e
 |1,h=>exact vA (uF m h) e
 |2,h=>exact vA (uF m (hQ h)) e
 |n+3,h=>exact vA (uF m (hQ (so h))) e
theorem Ci{v:Context}:∀(cs:List Ct)(x y:XE),x.denote v<=y.denote v->((G1 cs x y).1.denote v<=(G1 cs x y).2.denote v->False)->Q9 v cs
 |[],_,_,e,h=>h e
 |_::r,_,_,e,h=>λ g=>Ci r _ _ (Nc g e) h
noncomputable def Ra(cs:List Ct):Bool:=(ExprCnstr.toNormPoly ⟨false,(G1 cs fQ fQ).1,(G1 cs fQ fQ).2⟩).isUnsat
theorem aH(v:Context)(cs:List Ct)(h:Ra cs=true):Q9 v cs:=
 Ci cs _ _ (aS _) λ e=>(ExprCnstr.eq_false_of_isUnsat v _ h).mp e
noncomputable def bT(a:Nat):Context:=(.leaf a)
noncomputable def cz(a b:Nat):Context:=(.branch 1 (.leaf a) (.leaf b))
noncomputable def fe(a b c:Nat):Context:=(.branch 1 (.leaf a) (.branch 2 (.leaf b) (.leaf c)))
noncomputable def xi(a b c d:Nat):Context:=(.branch 2 (.branch 1 (.leaf a) (.leaf b)) (.branch 3 (.leaf c) (.leaf d)))
noncomputable def Tq(a b c d e:Nat):Context:=(.branch 2 (.branch 1 (.leaf a) (.leaf b)) (.branch 3 (.leaf c) (.branch 4 (.leaf d) (.leaf e))))
noncomputable def gX6(a b c d e f:Nat):Context:=(.branch 3 (.branch 1 (.leaf a) (.branch 2 (.leaf b) (.leaf c))) (.branch 4 (.leaf d) (.branch 5 (.leaf e) (.leaf f))))
noncomputable def ak:XE:=.var 0
noncomputable def aA:XE:=.var 1
noncomputable def bD:XE:=.var 2
noncomputable def gp:XE:=.var 3
noncomputable def C9:XE:=.var 4
noncomputable def gx5:XE:=.var 5
theorem Ft{x y:Nat}(q:y<x->False):x<=y:=su (q)
theorem Fo{x y:Nat}(q:y<=x->False):x<y:=u8 (q)
theorem d7{A:Prop}{x y:Nat}(q:A->y<x->False):A->x<=y:=λ a=>su (q a)
theorem ii{A:Prop}{x y:Nat}(q:A->y<=x->False):A->x<y:=λ a=>u8 (q a)
theorem jG{A B:Prop}{x y:Nat}(q:A->B->y<x->False):A->B->x<=y:=λ a b=>su (q a b)
theorem lP{A B:Prop}{x y:Nat}(q:A->B->y<=x->False):A->B->x<y:=λ a b=>u8 (q a b)
theorem Lp{A B C:Prop}{x y:Nat}(q:A->B->C->y<x->False):A->B->C->x<=y:=λ a b c=>su (q a b c)
theorem Rt{A B C:Prop}{x y:Nat}(q:A->B->C->y<=x->False):A->B->C->x<y:=λ a b c=>u8 (q a b c)
theorem gL4{A B C D:Prop}{x y:Nat}(q:A->B->C->D->y<x->False):A->B->C->D->x<=y:=λ a b c d=>su (q a b c d)
end
section
open Nat.Internal.Linear
variable{a b c d e f g h i j k l m n:Nat}{x y z u v w:Int}
theorem lt3:a<3->a=0\/a=1\/a=2:=(by decide:∀a<3,a=0\/a=1\/a=2) a
theorem dj1(h:a=b+2\/a=b+4\/a=b+6\/a=b+7\/a=b+9):b<=a:=h.elim (λ e=>e▸gn b _) λ h=>h.elim (λ e=>e▸gn b _) λ h=>h.elim (λ e=>e▸gn b _) λ h=>h.elim (λ e=>e▸gn b _) (λ e=>e▸gn b _)
theorem leq(v:Context)(x y:XE)(h1:Ra [aR x y]=true)(h2:Ra [aR y x]=true):x.denote v=y.denote v:=ru (Ft (aH v _ h2)) (Ft (aH v _ h1))
theorem om1:a+2<b->a<b:=ii (aH (cz a b) [aR (dc ak) aA,aF aA ak] rfl)
theorem om2:a+2<b->a+1<b:=ii (aH (cz a b) [aR (dc ak) aA,aF aA (az ak)] rfl)
theorem om3:a+1+(b+1)+1=a+(b+3):=leq (cz a b) (az (.add (az ak) (az aA))) (.add ak (db aA)) rfl rfl
theorem om4:(0:Int)<=x->¬x<(0:Int):=by omega
theorem om5:x<(0:Int)->x+↑a<↑a:=by omega
theorem Fh:a=b->a<=1000->b<=16777216:=jG (aH (cz a b) [dj ak aA,aF ak bi,aR (.num 16777216) aA] rfl)
theorem adZ:a=b->a<=(100000:Nat)->↑b<(2:Int)^(63:Nat):=by omega
theorem Zu:a<=(100000:Nat)->x<↑a->x<(2:Int)^(63:Nat):=by omega
theorem aaL:(0:Int)<=x+↑a->a=b->-↑b<=x:=by omega
theorem UI:(0:Int)<=x+↑a->a<=(100000:Nat)->-(2:Int)^(63:Nat)<=x:=by omega
theorem YI:a=b->x<↑a->x<↑b:=by omega
theorem acF:(0:Int)<=x+↑a->a=b->(0:Int)<=x+↑b:=by omega
theorem Vs:¬↑a<(0:Int):=by omega
theorem Zx:max (0:Int) (min ↑a ↑b)=↑(min a b):=(Int.max_eq_right (Int.le_min.mpr ⟨rs a,rs b⟩)).trans (by rw[Int.min_def,Nat.min_def];split<;>split<;>first|rfl|omega)
theorem Rl:a+200+40*b<=c->a+1+2<c:=ii (aH (fe a b c) [aF (.add (.add ak (.num 200)) (.mulL 40 aA)) bD,aF bD (dc (az ak))] rfl)
theorem Vx:a+200+40*b<=c->a+64<c:=ii (aH (fe a b c) [aF (.add (.add ak (.num 200)) (.mulL 40 aA)) bD,aF bD (.add ak (.num 64))] rfl)
theorem abr:a<=1000->b<=a+1->b<=16777216+1:=jG (aH (cz a b) [aF ak bi,aF aA (az ak),aR (az (.num 16777216)) aA] rfl)
theorem adW:a+b<=1000->a=c->b=d->c+d<=16777216:=Lp (aH (xi a b c d) [aF (.add ak aA) bi,dj ak bD,dj aA gp,aR (.num 16777216) (.add bD gp)] rfl)
theorem abZ:a+b<=1000->a=c->c<=16777216:=jG (aH (fe a b c) [aF (.add ak aA) bi,dj ak bD,aR (.num 16777216) bD] rfl)
theorem afa:a+b<=1000->a=c->b=d->c+d<=16777216+1:=Lp (aH (xi a b c d) [aF (.add ak aA) bi,dj ak bD,dj aA gp,aR (az (.num 16777216)) (.add bD gp)] rfl)
theorem adJ:a<(2:Nat)^(60:Nat)->a=b->↑b<(2:Int)^(63:Nat):=by omega
theorem abF:¬x<=y->y<=x:=by omega
theorem ZX:a<64->a<=16777216:=d7 (aH (bT a) [aR ak (.num 64),aR (.num 16777216) ak] rfl)
theorem acT:(0:Int)<=x->x<(1000:Int)->x.natAbs<(2:Nat)^(10:Nat):=λ h1 h2=>cv (Int.natAbs_lt_natAbs_of_nonneg_of_lt h1 h2) (by decide)
theorem abS:a<10->a<1920:=ii (aH (bT a) [aR ak gw,aF (.num 1920) ak] rfl)
theorem abT:a+b=c->a<=c:=d7 (aH (fe a b c) [fH (.add ak aA) bD,aR bD ak] rfl)
theorem aey:a+b=c->b -c=0:=λ h=>Nat.sub_eq_zero_of_le (h▸qA b a)
theorem afl:a+b=c->c -b=a:=λ h=>Nat.sub_eq_of_eq_add h.symm
theorem aaN:a -b=c->min c a=c:=λ h=>xc (h▸Nat.sub_le a b)
theorem afi:a -b=c->c=min c a:=λ h=>(xc (h▸Nat.sub_le a b)).symm
theorem adR:min a b<=a:=sy a b
theorem W2:a -b=c->a -c<=b:=λ e=>Nat.sub_le_iff_le_add'.mpr (Nat.le_add_of_sub_le (hQ e))
theorem act:a+b=c->a+b=c:=by omega
theorem acU:a+10+4*(b+1)<=c->a+1+10+4*b<=c:=d7 (aH (fe a b c) [aF (.add (.add ak gw) (.mulL 4 (az aA))) bD,aR bD (.add (.add (.add ak lg) gw) (.mulL 4 aA))] rfl)
theorem aeQ:a+200+40*(b+1)<=c->a+3+200+40*b<=c:=d7 (aH (fe a b c) [aF (.add (.add ak (.num 200)) (.mulL 40 (az aA))) bD,aR bD (.add (.add (.add ak js) (.num 200)) (.mulL 40 aA))] rfl)
theorem Z6:a+b=c->c<=a+b:=d7 (aH (fe a b c) [dj (.add ak aA) bD,aR (.add ak aA) bD] rfl)
theorem WT:a+b=c->a+b<=c:=d7 (aH (fe a b c) [fH (.add ak aA) bD,aR bD (.add ak aA)] rfl)
theorem aei:a+10+4*(b+1)<=c->a<c:=ii (aH (fe a b c) [aF (.add (.add ak gw) (.mulL 4 (az aA))) bD,aF bD ak] rfl)
theorem afe:a+10+4*(b+1)<=c->a+1<c:=ii (aH (fe a b c) [aF (.add (.add ak gw) (.mulL 4 (az aA))) bD,aF bD (az ak)] rfl)
theorem ach:a+10+4*(b+1)<=c->a+1+1+10+4*b<=c:=d7 (aH (fe a b c) [aF (.add (.add ak gw) (.mulL 4 (az aA))) bD,aR bD (.add (.add (.add (.add ak lg) lg) gw) (.mulL 4 aA))] rfl)
theorem acd:a+200+40*(b+1)<=c->a+1+3+200+40*b<=c:=d7 (aH (fe a b c) [aF (.add (.add ak (.num 200)) (.mulL 40 (az aA))) bD,aR bD (.add (.add (.add (.add ak lg) js) (.num 200)) (.mulL 40 aA))] rfl)
theorem aer:a<30->a+0+0<30:=ii (aH (bT a) [aR ak (.num 30),aF (.num 30) (.add (.add ak fQ) fQ)] rfl)
theorem adq:-(2:Int)^(62:Nat)<=(0:Int):=by omega
theorem aeg:(0:Int)<(2:Int)^(62:Nat):=by omega
theorem acf:-(2:Int)^(62:Nat)<=↑a:=by omega
theorem acN:a<(1000:Nat)->↑a<(2:Int)^(62:Nat):=by omega
theorem aed:↑a -(0:Int) -(1:Int)+(1:Int)=↑a:=by omega
theorem afc:a<b->(0:Int)<↑b -↑a:=by omega
theorem acQ:a+b+1<=1000->a<=16777216:=d7 (aH (cz a b) [aF (az (.add ak aA)) bi,aR (.num 16777216) ak] rfl)
theorem UU:a+b+1<=1000->a+(0+1)+b<=1000:=d7 (aH (cz a b) [aF (az (.add ak aA)) bi,aR bi (.add (.add ak (az fQ)) aA)] rfl)
theorem sV:a<=a+1:=Ft (aH (bT a) [aR (az ak) ak] rfl)
theorem adr:a<=b+1->c<=a+d->c<=b+(d+1):=jG (aH (xi a b c d) [aF ak (az aA),aF bD (.add ak gp),aR (.add aA (az gp)) bD] rfl)
theorem abk:a+b+1<=1000->c<=a->c<=16777216:=jG (aH (fe a b c) [aF (az (.add ak aA)) bi,aF bD ak,aR (.num 16777216) bD] rfl)
theorem afp:a<b->b<=1000->min a c<=16777216:=λ h h2=>bx (sy a c) (bx (kf h) (bx h2 (by decide)))
theorem acj:a<b->c=b -a+1->b -(a+1)+1<c:=λ h e=>e▸Nat.succ_lt_succ (Nat.sub_lt_sub_left h (cQ a))
theorem adC:¬a=a+1+1:=aH (bT a) [dj ak (az (az ak))] rfl
theorem I6:a<b+1->c<a->c<b:=lP (aH (fe a b c) [aR ak (az aA),aR bD ak,aF aA bD] rfl)
theorem acq:a=5->b<=100->b+a<=1000:=jG (aH (cz a b) [fH ak (.num 5),aF aA (.num 100),aR bi (.add aA ak)] rfl)
theorem aeu:a=b->b<=100->a<=1000:=jG (aH (cz a b) [fH ak aA,aF aA (.num 100),aR bi ak] rfl)
theorem abz:(0:Int)<=(-1:Int)+(↑a+(1:Int)):=by omega
theorem acp:((-1:Int)+(↑a+(1:Int))).toNat=a:=(congrArg Int.toNat ((congrArg _ (Int.add_comm a 1)).trans (Int.neg_add_cancel_left 1 a))).trans (ID a)
theorem RI:a<1000->a<=999:=d7 (aH (bT a) [aR ak bi,aR (.num 999) ak] rfl)
theorem aep:a+b<=300->a<1000:=ii (aH (cz a b) [aF (.add ak aA) (.num 300),aF bi ak] rfl)
theorem ado:a+1+b<=300->a<1000:=ii (aH (cz a b) [aF (.add (az ak) aA) (.num 300),aF bi ak] rfl)
theorem aew:a+1+(b+1)<=300->a+b<=300:=d7 (aH (cz a b) [aF (.add (az ak) (az aA)) (.num 300),aR (.num 300) (.add ak aA)] rfl)
theorem aeU:a+(b+1)<=300->a+1+b<=300:=d7 (aH (cz a b) [aF (.add ak (az aA)) (.num 300),aR (.num 300) (.add (az ak) aA)] rfl)
theorem afn:a+1+(b+1)<=300->a+1+1+b<=300:=d7 (aH (cz a b) [aF (.add (az ak) (az aA)) (.num 300),aR (.num 300) (.add (az (az ak)) aA)] rfl)
theorem aau:a<a+1+1:=Fo (aH (bT a) [aF (az (az ak)) ak] rfl)
theorem ZQ:a+1<a+1+1:=Fo (aH (bT a) [aF (az (az ak)) (az ak)] rfl)
theorem acG:a<b->a<b+2:=ii (aH (cz a b) [aR ak aA,aF (dc aA) ak] rfl)
theorem aeJ:a+1+1<=b->¬b=a:=aH (cz a b) [aF (az (az ak)) aA,fH aA ak] rfl
theorem adt:a+1+1<=b->¬b=a+1:=aH (cz a b) [aF (az (az ak)) aA,fH aA (az ak)] rfl
theorem Of:a<=a+1+1:=Ft (aH (bT a) [aR (az (az ak)) ak] rfl)
theorem Ud:a+1+1<=b->a<=b:=d7 (aH (cz a b) [aF (az (az ak)) aA,aR aA ak] rfl)
theorem adn:a+1+1<=b->a<=b+1:=d7 (aH (cz a b) [aF (az (az ak)) aA,aR (az aA) ak] rfl)
theorem abI:a<=200->a<100000:=ii (aH (bT a) [aF ak (.num 200),aF (.num 100000) ak] rfl)
theorem TQ:a<=200->1+a<=300:=d7 (aH (bT a) [aF ak (.num 200),aR (.num 300) (.add lg ak)] rfl)
theorem abJ:a+1+1<=b->b+2<=c->a<c:=lP (aH (fe a b c) [aF (az (az ak)) aA,aF (dc aA) bD,aF bD ak] rfl)
theorem wW:a<=b->b<=c->a<=c:=jG (aH (fe a b c) [aF ak aA,aF aA bD,aR bD ak] rfl)
theorem adc:(2:Nat)<=(200:Nat):=by omega
theorem Qx:a<b->b<=c->¬c=a:=aH (fe a b c) [aR ak aA,aF aA bD,fH bD ak] rfl
theorem acO:a<=500->a<=1000:=d7 (aH (bT a) [aF ak (.num 500),aR bi ak] rfl)
theorem sW:a<b->b<=c->a<c:=lP (aH (fe a b c) [aR ak aA,aF aA bD,aF bD ak] rfl)
theorem abG:a=2->b<=100->b+a<=1000:=jG (aH (cz a b) [fH ak (.num 2),aF aA (.num 100),aR bi (.add aA ak)] rfl)
theorem aeG:a=2->b=7->c<=100->c+a+b<=1000:=Lp (aH (fe a b c) [fH ak (.num 2),fH aA jC,aF bD (.num 100),aR bi (.add (.add bD ak) aA)] rfl)
theorem Zh:0<a->b=a -1->c<=b->c+1<=a:=λ h1 h2 I=>bx (Bg I) (hQ ((congrArg wE h2).trans (A3 h1)))
theorem Kl:a<=100->a<=1000:=d7 (aH (bT a) [aF ak (.num 100),aR bi ak] rfl)
theorem ug:a<b->b<=c->¬a=c:=aH (fe a b c) [aR ak aA,aF aA bD,dj ak bD] rfl
theorem bX:a<b->¬a=b:=aH (cz a b) [aR ak aA,dj ak aA] rfl
theorem fS:a<b->¬a=b+1:=aH (cz a b) [aR ak aA,dj ak (az aA)] rfl
theorem xF:¬a=a+1:=aH (bT a) [dj ak (az ak)] rfl
theorem CV:a<b->a<b+1+1:=ii (aH (cz a b) [aR ak aA,aF (az (az aA)) ak] rfl)
theorem pi:a<b->a<b:=ii (aH (cz a b) [aR ak aA,aF aA ak] rfl)
theorem I9:a<=b->a<=b+1+1:=d7 (aH (cz a b) [aF ak aA,aR (az (az aA)) ak] rfl)
theorem ZW:a<=100->b<=a->b<=100:=jG (aH (cz a b) [aF ak (.num 100),aF aA ak,aR (.num 100) aA] rfl)
theorem PO:¬a=b+1->¬b+1=a:=λ h e=>h e.symm
theorem FC:¬a=b->¬b=a:=λ h e=>h e.symm
theorem IG:a+1+1<=b->c<=a->c<=b:=jG (aH (fe a b c) [aF (az (az ak)) aA,aF bD ak,aR aA bD] rfl)
theorem Wg:a+1+1<=b->c<d->d<=a->¬c=b:=aH (xi a b c d) [aF (az (az ak)) aA,aR bD gp,aF gp ak,dj bD aA] rfl
theorem PL:a+1+1<=b->c<a->c<b:=lP (aH (fe a b c) [aF (az (az ak)) aA,aR bD ak,aF aA bD] rfl)
theorem UX:a<b->b<=c->a<c+1+1:=lP (aH (fe a b c) [aR ak aA,aF aA bD,aF (az (az bD)) ak] rfl)
theorem gk:a<b->a<b+1:=ii (aH (cz a b) [aR ak aA,aF (az aA) ak] rfl)
theorem xQ:a<a+1:=Fo (aH (bT a) [aF (az ak) ak] rfl)
theorem TN:¬a=b->¬a=b:=by omega
theorem aaT:(200:Nat)<=(200:Nat):=by omega
theorem aaW:a<=90->a<=500:=d7 (aH (bT a) [aF ak (.num 90),aR (.num 500) ak] rfl)
theorem Y1:a<=90->a<=99:=d7 (aH (bT a) [aF ak (.num 90),aR (.num 99) ak] rfl)
theorem mF:a<=b->a<=b+1:=d7 (aH (cz a b) [aF ak aA,aR (az aA) ak] rfl)
theorem Cr:a<=a+2:=Ft (aH (bT a) [aR (dc ak) ak] rfl)
theorem VG:a<=1000->min b a<=1000:=λ h=>bx (rn b a) h
theorem Z9:a+b<=1000->c<=a+min d b->c<=1000:=λ h1 h2=>bx h2 (bx (ph (rn d b) a) h1)
theorem Va:a+b<=1000->b<=1000:=d7 (aH (cz a b) [aF (.add ak aA) bi,aR bi aA] rfl)
theorem FZ:a+1<=b->a+1<=b:=d7 (aH (cz a b) [aF (az ak) aA,aR aA (az ak)] rfl)
theorem ZI:a+1<=b->b<=c->a<=c:=jG (aH (fe a b c) [aF (az ak) aA,aF aA bD,aR bD ak] rfl)
theorem G7:a+2<=b->a<=b:=d7 (aH (cz a b) [aF (dc ak) aA,aR aA ak] rfl)
theorem Hv:¬a+1=a:=aH (bT a) [fH (az ak) ak] rfl
theorem aaF:a<64->min b a<=1000:=λ h=>bx (rn b a) (bx (kf h) (by decide))
theorem xA:¬a=a+2:=aH (bT a) [dj ak (dc ak)] rfl
theorem FK:¬a+1=a+2:=aH (bT a) [dj (az ak) (dc ak)] rfl
theorem XZ:a<=a+3:=Ft (aH (bT a) [aR (db ak) ak] rfl)
theorem WC:a<=a+2+1+1:=Ft (aH (bT a) [aR (az (az (dc ak))) ak] rfl)
theorem We:a<=a+2+1:=Ft (aH (bT a) [aR (az (dc ak)) ak] rfl)
theorem YV:a<64->b=a->b<=1000:=jG (aH (cz a b) [aR ak (.num 64),fH aA ak,aR bi aA] rfl)
theorem il:a<b->a=b->False:=aH (cz a b) [aR ak aA,dj ak aA] rfl
theorem VO:a<=900->a<=1000:=d7 (aH (bT a) [aF ak (.num 900),aR bi ak] rfl)
theorem OJ:a<64->a<=1000:=d7 (aH (bT a) [aR ak (.num 64),aR bi ak] rfl)
theorem P7:a+1<=b->a<=b:=d7 (aH (cz a b) [aF (az ak) aA,aR aA ak] rfl)
theorem PS:a+1<=b->a<=b+1:=d7 (aH (cz a b) [aF (az ak) aA,aR (az aA) ak] rfl)
theorem Xc:a<1000->a<100000:=ii (aH (bT a) [aR ak bi,aF (.num 100000) ak] rfl)
theorem I5:x<x->False:=λ h=>absurd h (Int.lt_irrefl _)
theorem OI:x<y->y<z->x<z:=by omega
theorem aaR:0<1+a:=Fo (aH (bT a) [aF (.add lg ak) fQ] rfl)
theorem Ys:↑((1:Nat)+a)<=x->↑a<=x -(1:Int):=by omega
theorem Pq:0<a->0<b+a:=ii (aH (cz a b) [aR fQ ak,aF (.add aA ak) fQ] rfl)
theorem U8:↑a<=x->↑a<=x:=by omega
theorem aaI:x -(1:Int) -↑a=x -↑((1:Nat)+a):=by omega
theorem YS:x -(0:Int) -↑a=x -↑((0:Nat)+a):=by omega
theorem YA:x -(1:Int)=(0:Int)->↑((1:Nat)+a)<=x->a=(0:Nat):=λ h1 h2=>Nat.le_zero.mp (Nat.le_of_add_le_add_left (a:=1) (vV.mp (Av h2 (Int.le_of_eq (Hj.mp h1)))))
theorem WU:(0:Nat)<a/\x=↑a->a=(0:Nat)->False:=by omega
theorem WM:x -(1:Int)=(0:Int)->x=(1:Int):=by omega
theorem Wj:¬x -(1:Int)=(0:Int)->((0:Nat)<a/\x -(1:Int)=↑a↔(0:Nat)<(1:Nat)+a/\x=(1:Int)+↑a):=λ h=>⟨λ g=>⟨Nat.lt_add_left 1 g.1,FX.mp g.2⟩,λ g=>have e:=FX.mpr g.2;⟨vY λ q=>h (e.trans (q▸rfl)),e⟩⟩
theorem PE:a=b+c->d+a=d+b+c:=λ h=>h▸(lB d b c).symm
theorem Pc:a=b+c->d+a=b+(d+c):=by omega
theorem Zi:0<a->b+a=0->False:=aH (cz a b) [aR fQ ak,fH (.add aA ak) fQ] rfl
theorem WS:↑(a+b)=(0:Int)->a=(0:Nat):=λ h=>(Nat.eq_zero_of_add_eq_zero_right (vQ.mp h))
theorem OX:x<y->x=y->a=b:=by omega
theorem Ps:x<y->y=x->a=b:=by omega
theorem Ye:a+b<=60->c<=b->c<64:=lP (aH (fe a b c) [aF (.add ak aA) (.num 60),aF bD aA,aF (.num 64) bD] rfl)
theorem XV:a+b<=60->c<=b->d<=min e c->a+d<=900:=λ h1 h2 I=>bx (ph (bx I (bx (rn e c) h2)) a) (bx h1 (by decide))
theorem VT:a+b<=c->c<=50->a+b<=1000:=jG (aH (fe a b c) [aF (.add ak aA) bD,aF bD eO,aR bi (.add ak aA)] rfl)
theorem Uf:a=b+c->a+1=b+1+c:=λ h=>h▸B3 b c 1
theorem TJ:a=b+c->a+1=b+(c+1):=λ h=>h▸rfl
theorem V3:a=b+c->c+b=a:=λ h=>(h.trans (ko b c)).symm
theorem Y4:a=b+c->d+a=d+c+b:=λ h=>h▸leq (fe b c d) (.add bD (.add ak aA)) (.add (.add bD aA) ak) rfl rfl
theorem V6:a=b+c->a<=50->c+b<=50:=jG (aH (fe a b c) [dj ak (.add aA bD),aF ak eO,aR eO (.add bD aA)] rfl)
theorem V5:a+b=c->d+c<=60->e<=b->d+e+a<=60:=Lp (aH (Tq a b c d e) [fH (.add ak aA) bD,aF (.add gp bD) (.num 60),aF C9 aA,aR (.num 60) (.add (.add gp C9) ak)] rfl)
theorem PB:x=↑(a+b)->¬x=(0:Int)->(0:Int)<x:=λ h n=>h▸j9.mpr (vY λ e=>n (h.trans (congrArg Int.ofNat e)))
theorem KP:3<=a->a<3->False:=aH (bT a) [aF js ak,aR ak js] rfl
theorem Ul:a<=b->↑b<=x->↑a<=x:=by omega
theorem aak:a+b<=50->b<64:=ii (aH (cz a b) [aF (.add ak aA) eO,aF (.num 64) aA] rfl)
theorem V2:a+b<=60->c<=b->c<=1000:=jG (aH (fe a b c) [aF (.add ak aA) (.num 60),aF bD aA,aR bi bD] rfl)
theorem aar:a+b<=50->a+0<=50:=d7 (aH (cz a b) [aF (.add ak aA) eO,aR eO (.add ak fQ)] rfl)
theorem XI:x=↑a->x -↑a=(0:Int):=by omega
theorem ZL:(0:Int)<x->x -↑a=(0:Int)->(0:Nat)<a:=by omega
theorem Yx:x -↑a=(0:Int)->x=↑a:=λ h=>Hj.mp h
theorem VY:a<=0->a=0:=by omega
theorem XN:(0:Nat)<=(2:Nat)*(0:Nat):=by omega
theorem Vj:0<=2*(a+1):=Ft (aH (bT a) [aR (.mulL 2 (az ak)) fQ] rfl)
theorem Pg:0<a->b+a=c->c<=d+1->b<=d:=Lp (aH (xi a b c d) [aR fQ ak,fH (.add aA ak) bD,aF bD (az gp),aR gp aA] rfl)
theorem Yt:a<=2*b->a+1<=2*(b+1):=d7 (aH (cz a b) [aF ak (.mulL 2 aA),aR (.mulL 2 (az aA)) (az ak)] rfl)
theorem VN:a<=2*b->a+1+1<=2*(b+1):=d7 (aH (cz a b) [aF ak (.mulL 2 aA),aR (.mulL 2 (az aA)) (az (az ak))] rfl)
theorem Yn:a<=2*b->a+1<=2*b+1:=d7 (aH (cz a b) [aF ak (.mulL 2 aA),aR (az (.mulL 2 aA)) (az ak)] rfl)
theorem fE:a<4->b<a->b<4:=lP (aH (cz a b) [aR ak dv,aR aA ak,aF dv aA] rfl)
theorem UB:a+2<=b->c<=a->c<=b:=jG (aH (fe a b c) [aF (dc ak) aA,aF bD ak,aR aA bD] rfl)
theorem Y8:a+2<=b->a<b:=ii (aH (cz a b) [aF (dc ak) aA,aF aA ak] rfl)
theorem OP:a+2<=b->a+1<b:=ii (aH (cz a b) [aF (dc ak) aA,aF aA (az ak)] rfl)
theorem TF:a<=4->a<=1000:=d7 (aH (bT a) [aF ak dv,aR bi ak] rfl)
theorem aaZ:a+2<=b->b<=c->¬a+1=c:=aH (fe a b c) [aF (dc ak) aA,aF aA bD,dj (az ak) bD] rfl
theorem Zs:a+2<=b->b<=c->¬a=c:=aH (fe a b c) [aF (dc ak) aA,aF aA bD,dj ak bD] rfl
theorem XK:a<b->b<=2->c<=4*a+1->d<=4->c+d<=1000:=gL4 (aH (xi a b c d) [ct 4 ak aA,cl 4 aA (.num 2),aF bD (az (.mulL 4 ak)),aF gp dv,aR bi (.add bD gp)] rfl)
theorem Xm:a+2<=b->b<=c->a+2<=c+1:=jG (aH (fe a b c) [aF (dc ak) aA,aF aA bD,aR (az bD) (dc ak)] rfl)
theorem aay:a<=4*b+1->c<=4->a+c<=4*(b+1)+1:=jG (aH (fe a b c) [aF ak (az (.mulL 4 aA)),aF bD dv,aR (az (.mulL 4 (az aA))) (.add ak bD)] rfl)
theorem Yj:x<y->x=y->False:=by omega
theorem Kh:a+3<=b->c<a->¬c=b:=aH (fe a b c) [aF (db ak) aA,aR bD ak,dj bD aA] rfl
theorem PD:a+3<=b->¬a=b:=aH (cz a b) [aF (db ak) aA,dj ak aA] rfl
theorem OW:a<=50/\b<=100/\c<=100->a<=1000:=by omega
theorem YX:0<a->a=0->False:=aH (bT a) [aR fQ ak,fH ak fQ] rfl
theorem aai:0<a->0<a+b:=ii (aH (cz a b) [aR fQ ak,aF (.add ak aA) fQ] rfl)
theorem UT:a+3<=b->b<c->¬a=c:=aH (fe a b c) [aF (db ak) aA,aR aA bD,dj ak bD] rfl
theorem aaa:a+3<=b->b<c->¬a=c+1:=aH (fe a b c) [aF (db ak) aA,aR aA bD,dj ak (az bD)] rfl
theorem Xe:a+3<=b->b<c->¬a+1=c:=aH (fe a b c) [aF (db ak) aA,aR aA bD,dj (az ak) bD] rfl
theorem Wu:¬a=b->¬a+1=b+1:=λ n e=>n (vU e)
theorem Uh:a+3<=b->¬b=a+1:=aH (cz a b) [aF (db ak) aA,fH aA (az ak)] rfl
theorem Wr:¬a+1=b->¬b=a+1:=λ h e=>h e.symm
theorem OK:¬a+1=b+1->¬b+1=a+1:=λ n e=>n e.symm
theorem UE:a<=50/\b<=100/\c<=100->a<64:=by omega
theorem JN:¬a+1=a+1+1:=aH (bT a) [dj (az ak) (az (az ak))] rfl
theorem ZJ:¬a+1=b+1->¬a+1=b+1:=by omega
theorem XX:¬a=b+1->¬a+1=b+1+1:=by omega
theorem C4:a<b->¬a=b+1+1:=aH (cz a b) [aR ak aA,dj ak (az (az aA))] rfl
theorem aaH:a+3<=b->b<c->a<c:=lP (aH (fe a b c) [aF (db ak) aA,aR aA bD,aF bD ak] rfl)
theorem Yy:a+3<=b->b<c->a+2<c:=lP (aH (fe a b c) [aF (db ak) aA,aR aA bD,aF bD (dc ak)] rfl)
theorem Ym:¬a+2=a+1:=aH (bT a) [fH (dc ak) (az ak)] rfl
theorem JD:¬a=b+1->¬a=b+1:=by omega
theorem ZD:a<=a+1+1+1:=Ft (aH (bT a) [aR (az (az (az ak))) ak] rfl)
theorem Xa:a<b->a=c->c=b+1->False:=aH (fe a b c) [aR ak aA,dj ak bD,dj bD (az aA)] rfl
theorem Vz:a+3<=b->b<c->a+2<c+1+1+1:=lP (aH (fe a b c) [aF (db ak) aA,aR aA bD,aF (az (az (az bD))) (dc ak)] rfl)
theorem X3:a<b->a=b+2->False:=aH (cz a b) [aR ak aA,dj ak (dc aA)] rfl
theorem VI:a<b->a<b+1+1+1:=ii (aH (cz a b) [aR ak aA,aF (az (az (az aA))) ak] rfl)
theorem Zy:a+3<=b->¬b=a+2:=aH (cz a b) [aF (db ak) aA,fH aA (dc ak)] rfl
theorem V0:a+3<=b->c<a->c=b->False:=aH (fe a b c) [aF (db ak) aA,aR bD ak,dj bD aA] rfl
theorem ZB:a+3<=b->b<c->a<=c+1+1+1+1:=jG (aH (fe a b c) [aF (db ak) aA,aR aA bD,aR (az (az (az (az bD)))) ak] rfl)
theorem P9:a+3<=b->¬a+2=b:=aH (cz a b) [aF (db ak) aA,dj (dc ak) aA] rfl
theorem T3:a+1<a+1+1+1:=Fo (aH (bT a) [aF (az (az (az ak))) (az ak)] rfl)
theorem ZF:a+3<=b->b<c->d<a->d=c+1->False:=aH (xi a b c d) [aF (db ak) aA,aR aA bD,aR gp ak,dj gp (az bD)] rfl
theorem Wy:¬a=b+1->¬b+2=a+1:=λ n e=>n (vU e).symm
theorem Vl:a<=50/\b<=100/\c<=100->c<=1000:=λ h=>bx h.2.2 (by decide)
theorem YZ:a+3<=b->b<=c->a+3<=c:=jG (aH (fe a b c) [aF (db ak) aA,aF aA bD,aR bD (db ak)] rfl)
theorem XO:a+3<=b->b<c->c+3<=d->a<d:=Rt (aH (xi a b c d) [aF (db ak) aA,aR aA bD,aF (db bD) gp,aF gp ak] rfl)
theorem Wq:a+3<=b->b<c->c+3<=d->a+1<d:=Rt (aH (xi a b c d) [aF (db ak) aA,aR aA bD,aF (db bD) gp,aF gp (az ak)] rfl)
theorem Xg:a+3<=b->b<c->c+3<=d->a+2<d:=Rt (aH (xi a b c d) [aF (db ak) aA,aR aA bD,aF (db bD) gp,aF gp (dc ak)] rfl)
theorem Z2:a+3<=b->b<c->c+3<=d->d<=e->¬a+2=e:=aH (Tq a b c d e) [aF (db ak) aA,aR aA bD,aF (db bD) gp,aF gp C9,dj (dc ak) C9] rfl
theorem UR:a+b<=100->c<=b->d<=min e c->a+d<=1000:=λ h1 h2 I=>bx (ph (bx I (bx (rn e c) h2)) a) (bx h1 (by decide))
theorem OD:a+3<=b->b<c->c+3<=d->d<=e->¬a=e:=aH (Tq a b c d e) [aF (db ak) aA,aR aA bD,aF (db bD) gp,aF gp C9,dj ak C9] rfl
theorem PW:a+3<=b->b<c->c+3<=d->d<=e->¬a+1=e:=aH (Tq a b c d e) [aF (db ak) aA,aR aA bD,aF (db bD) gp,aF gp C9,dj (az ak) C9] rfl
theorem ZG:¬a+2=b->¬a+2=b:=id
theorem Vt:a+3<=b->b<=c->a+3<=c+1:=jG (aH (fe a b c) [aF (db ak) aA,aF aA bD,aR (az bD) (db ak)] rfl)
theorem Xx:a<b->a=c->c=b+2->False:=aH (fe a b c) [aR ak aA,dj ak bD,dj bD (dc aA)] rfl
theorem Vh:0<a->b+a=c->c<=d->d=d -1+1:=λ h h2 I=>(A3 (cv (cv h (qA a b)) (h2▸I))).symm
theorem Wt:a+3<=b->b<c->c+3<=d->a+3<=d+1:=Lp (aH (xi a b c d) [aF (db ak) aA,aR aA bD,aF (db bD) gp,aR (az gp) (db ak)] rfl)
theorem OZ:a+3<=b->b<c->c+3<=d->¬a=d:=aH (xi a b c d) [aF (db ak) aA,aR aA bD,aF (db bD) gp,dj ak gp] rfl
theorem OO:a+3<=b->b<c->c+3<=d->¬a+1=d:=aH (xi a b c d) [aF (db ak) aA,aR aA bD,aF (db bD) gp,dj (az ak) gp] rfl
theorem Qg:a+3<=b->b<c->c+3<=d->¬a+2=d:=aH (xi a b c d) [aF (db ak) aA,aR aA bD,aF (db bD) gp,dj (dc ak) gp] rfl
theorem CZ:a<b->¬b=a:=aH (cz a b) [aR ak aA,fH aA ak] rfl
theorem TZ:a<b->¬b+1=a:=aH (cz a b) [aR ak aA,fH (az aA) ak] rfl
theorem TY:a<b->¬b+2=a:=aH (cz a b) [aR ak aA,fH (dc aA) ak] rfl
theorem aaG:a+b=c->d+c<=100->e<=b->d+e+a<=100:=Lp (aH (Tq a b c d e) [fH (.add ak aA) bD,aF (.add gp bD) (.num 100),aF C9 aA,aR (.num 100) (.add (.add gp C9) ak)] rfl)
theorem UJ:¬a=(0:Nat)->¬↑a=(0:Int):=by omega
theorem Yf:a<b->a=c->c=b->False:=aH (fe a b c) [aR ak aA,dj ak bD,dj bD aA] rfl
theorem WY:a+3<=b->¬a+1=b:=aH (cz a b) [aF (db ak) aA,dj (az ak) aA] rfl
theorem Xv:¬a+2=a:=aH (bT a) [fH (dc ak) ak] rfl
theorem Ve:a<=50->a<=100:=d7 (aH (bT a) [aF ak eO,aR (.num 100) ak] rfl)
theorem Zp:a<=4->a<=90:=d7 (aH (bT a) [aF ak dv,aR (.num 90) ak] rfl)
theorem Ku:¬a=b->(a<b+1↔a<b):=λ n=>⟨λ h=>zW (lx h) n,ly⟩
theorem fX:a<b+1->¬a=b->a<b:=λ h n=>zW (lx h) n
theorem Uo:a<a+2:=Fo (aH (bT a) [aF (dc ak) ak] rfl)
theorem VP:a<b->¬a=b+5:=aH (cz a b) [aR ak aA,dj ak (.add aA (.num 5))] rfl
theorem aac:a<b->¬a=b+4:=aH (cz a b) [aR ak aA,dj ak (.add aA dv)] rfl
theorem Yh:a<b->¬a=b+3:=aH (cz a b) [aR ak aA,dj ak (db aA)] rfl
theorem WW:¬a+1=a+5:=aH (bT a) [dj (az ak) (.add ak (.num 5))] rfl
theorem Pn:¬a+1=a+4:=aH (bT a) [dj (az ak) (.add ak dv)] rfl
theorem ZA:¬a+1=a+3:=aH (bT a) [dj (az ak) (db ak)] rfl
theorem Xq:¬a+4=a+5:=aH (bT a) [dj (.add ak dv) (.add ak (.num 5))] rfl
theorem lm:a<=50->a<=1000:=d7 (aH (bT a) [aF ak eO,aR bi ak] rfl)
theorem Im:a<=50->a<=999:=d7 (aH (bT a) [aF ak eO,aR (.num 999) ak] rfl)
theorem Jk:a=3->a<=1000:=d7 (aH (bT a) [fH ak js,aR bi ak] rfl)
theorem FJ:a<3->b=3->a<b:=lP (aH (cz a b) [aR ak js,dj aA js,aF aA ak] rfl)
theorem XJ:a<b->a=c->c<=b:=jG (aH (fe a b c) [aR ak aA,dj ak bD,aR aA bD] rfl)
theorem IK:3<=a->b<3->b<a:=lP (aH (cz a b) [aF js ak,aR aA js,aF ak aA] rfl)
theorem O3:a<=1000->min a b<=1000:=λ h=>bx (sy a b) h
theorem Qh:a<=a+1+2:=Ft (aH (bT a) [aR (dc (az ak)) ak] rfl)
theorem V8:a<(1000:Nat)->(0:Int)<=↑a/\↑a<(1000:Int):=by omega
theorem X2:a<1000->min a b<=999:=λ h=>bx (sy a b) (lx h)
theorem XB:a<=49->a<50:=ii (aH (bT a) [aF ak (.num 49),aF eO ak] rfl)
theorem Z8:a<50->a<=1000:=d7 (aH (bT a) [aR ak eO,aR bi ak] rfl)
theorem O8:a<50->b=a->b<=999:=jG (aH (cz a b) [aR ak eO,fH aA ak,aR (.num 999) aA] rfl)
theorem abb:a<50->b=a->b<1000:=lP (aH (cz a b) [aR ak eO,fH aA ak,aF bi aA] rfl)
theorem X1:a+b+c+d=a+b+d+c:=B3 (a+b) c d
theorem Zd:a+b+c+d=a+d+c+b:=leq (xi a b c d) (.add (.add (.add ak aA) bD) gp) (.add (.add (.add ak gp) bD) aA) rfl rfl
theorem Z5:a+b+c+d=d+b+c+a:=leq (xi a b c d) (.add (.add (.add ak aA) bD) gp) (.add (.add (.add gp aA) bD) ak) rfl rfl
theorem PC:a+b<=c->c<=7->b<=50:=jG (aH (fe a b c) [aF (.add ak aA) bD,aF bD jC,aR eO aA] rfl)
theorem Qa:a<=7->a<=100:=d7 (aH (bT a) [aF ak jC,aR (.num 100) ak] rfl)
theorem XF:a+b=c->d+e<=a->f<=b->f+d+e<=c:=Lp (aH (gX6 a b c d e f) [fH (.add ak aA) bD,aF (.add gp C9) ak,aF gx5 aA,aR bD (.add (.add gx5 gp) C9)] rfl)
theorem Yr:0<a->a+b=0->False:=aH (cz a b) [aR fQ ak,fH (.add ak aA) fQ] rfl
theorem Ut:a<=2*b->a<=2*b+1:=d7 (aH (cz a b) [aF ak (.mulL 2 aA),aR (az (.mulL 2 aA)) ak] rfl)
theorem Wx:a<=2*b+1->a<=2*b+1:=d7 (aH (cz a b) [aF ak (az (.mulL 2 aA)),aR (az (.mulL 2 aA)) ak] rfl)
theorem Wa:a+b<=c->c<=7->d<=2*b+1->d<1000:=Rt (aH (xi a b c d) [cl 2 (.add ak aA) bD,cl 2 bD jC,aF gp (az (.mulL 2 aA)),aF bi gp] rfl)
theorem ZR:a+b<=c->d+c<=e->d+a+b<=e:=jG (aH (Tq a b c d e) [aF (.add ak aA) bD,aF (.add gp bD) C9,aR C9 (.add (.add gp ak) aA)] rfl)
theorem aab:a<a->(1:Int)=(0:Int):=by omega
theorem Pp:3<=a->b<3->¬a=b:=aH (cz a b) [aF js ak,aR aA js,fH ak aA] rfl
theorem Gm:a<a->False:=aH (bT a) [aR ak ak] rfl
theorem Ww:a+(1:Nat)=b->↑a=↑b -(1:Int):=by omega
theorem Pr:a<b->b=c+1->¬a=c->a<c:=λ h1 h2 I=>zW (lx (cv h1 (hQ h2))) I
theorem OL:a=b->a<b+1:=ii (aH (cz a b) [fH ak aA,aF (az aA) ak] rfl)
theorem YB:a<b->b=c->a<c:=lP (aH (fe a b c) [aR ak aA,fH aA bD,aF bD ak] rfl)
theorem OA:x<=y->x<y+(1:Int):=by omega
theorem Yw:↑a=↑b -x->↑(b+c) -x=↑(a+c):=λ h=>(congrArg (· -x) (IN b c)).trans ((Hn ..).trans ((IV ..).trans (congrArg (·+(c:Int)) ((Hn ..).symm.trans h.symm))))
theorem aaf:a<40->b<=a->b+0<=50:=jG (aH (cz a b) [aR ak (.num 40),aF aA ak,aR eO (.add aA fQ)] rfl)
theorem ZY:a+b<=c->c<7->a+(b+1)<=60:=jG (aH (fe a b c) [aF (.add ak aA) bD,aR bD jC,aR (.num 60) (.add ak (az aA))] rfl)
theorem Xb:a<7->a+1<=7:=d7 (aH (bT a) [aR ak jC,aR jC (az ak)] rfl)
theorem yi:x<=y->x<=y+(1:Int):=λ h=>Av h (Int.le_add_of_nonneg_right (by decide))
theorem Y9:a+b<=c->a+(b+1)<=c+1:=d7 (aH (fe a b c) [aF (.add ak aA) bD,aR (az bD) (.add ak (az aA))] rfl)
theorem PM:a<10->b<a->b<10:=lP (aH (cz a b) [aR ak gw,aR aA ak,aF gw aA] rfl)
theorem Y0:↑a+↑b+(1:Int)=↑a+(↑b+(1:Int)):=lY ..
theorem T8:a<10->b<=a->b+1+0<=50:=jG (aH (cz a b) [aR ak gw,aF aA ak,aR eO (.add (.add aA lg) fQ)] rfl)
theorem Vv:3<=a->3<=a+1:=d7 (aH (bT a) [aF js ak,aR (az ak) js] rfl)
theorem UO:a<=b->a+1<=b+1:=d7 (aH (cz a b) [aF ak aA,aR (az aA) (az ak)] rfl)
theorem J1:a<=b->a<=b:=d7 (aH (cz a b) [aF ak aA,aR aA ak] rfl)
theorem U6:↑a+(↑b+(1:Int))=↑a+↑b+(1:Int):=by omega
theorem Vn:a<40->b=c+1->b<=a->c+(0+1)<=50:=Lp (aH (fe a b c) [aR ak (.num 40),dj aA (az bD),aF aA ak,aR eO (.add bD (az fQ))] rfl)
theorem aaO:a=b+1->a<=c->b<=c+1:=jG (aH (fe a b c) [dj ak (az aA),aF ak bD,aR (az bD) aA] rfl)
theorem Zj:3<=a->b<3->¬b=a:=aH (cz a b) [aF js ak,aR aA js,dj aA ak] rfl
theorem VK:a+(1:Nat)=b->↑b+↑c -(1:Int)=↑a+↑c:=λ h=>h▸(congrArg (· -(1:Int)) (IV a 1 c)).trans (Ae _ 1)
theorem PA:a<=7->a<=1000:=d7 (aH (bT a) [aF ak jC,aR bi ak] rfl)
theorem OM:a<10->b=c->c<=a->b<=50:=Lp (aH (fe a b c) [aR ak gw,fH aA bD,aF bD ak,aR eO aA] rfl)
theorem YJ:a+1<=b->b<10->a<=50:=jG (aH (cz a b) [aF (az ak) aA,aR aA gw,aR eO ak] rfl)
theorem Pm:a<10->a<40:=ii (aH (bT a) [aR ak gw,aF (.num 40) ak] rfl)
theorem YG:↑a=(4:Int)\/↑a=(5:Int)↔a=(4:Nat)\/a=(5:Nat):=or_congr vQ vQ
theorem WZ:a<10->a<1000:=ii (aH (bT a) [aR ak gw,aF bi ak] rfl)
theorem Um:a<10->b<=a->b<=50:=jG (aH (cz a b) [aR ak gw,aF aA ak,aR eO aA] rfl)
theorem Zb:a<b->b=a->False:=aH (cz a b) [aR ak aA,fH aA ak] rfl
theorem G5:a<=7->a<=50:=d7 (aH (bT a) [aF ak jC,aR eO ak] rfl)
theorem UH:¬↑a%(2:Int)=(1:Int)->↑a%(2:Int)=(0:Int):=λ h=>(Int.emod_two_eq a).resolve_right h
theorem WQ:↑a<(7:Int)->a<(7:Nat):=by omega
theorem Zn:a+b<=c->c<=7->b<1000:=lP (aH (fe a b c) [aF (.add ak aA) bD,aF bD jC,aF bi aA] rfl)
theorem VC:a<=(1000:Nat)->↑a<(2:Int)^(60:Nat):=by omega
theorem Y7:a+b<=c->c<=7->a<=7:=jG (aH (fe a b c) [aF (.add ak aA) bD,aF bD jC,aR jC ak] rfl)
theorem VQ:a+b<=7->a+b<=1000:=d7 (aH (cz a b) [aF (.add ak aA) jC,aR bi (.add ak aA)] rfl)
theorem Vf:a+b<=7->b<=1000:=d7 (aH (cz a b) [aF (.add ak aA) jC,aR bi aA] rfl)
theorem aag:a+b<=7->a<=1000:=d7 (aH (cz a b) [aF (.add ak aA) jC,aR bi ak] rfl)
theorem KJ:a<=60->a<=1000:=d7 (aH (bT a) [aF ak (.num 60),aR bi ak] rfl)
theorem O6:(0:Nat)<a/\a<(1000:Nat)->(0:Int)<↑a/\↑a<(1000:Int):=by omega
theorem P6:(0:Nat)<a/\a<(1000:Nat)->¬↑a=(0:Int):=λ h e=>ju h.1 (vQ.mp e)
theorem Pe:(0:Nat)<a/\a<(1000:Nat)->(0:Int)<↑a:=by omega
theorem Pw:(0:Int)<=x%↑a->x%↑a<↑a->(x%↑a).toNat<a:=λ h1 h2=>(Int.toNat_lt h1).mpr h2
theorem Yo:↑a%(3:Int)=↑(a%(3:Nat)):=rfl
theorem Y2:¬a=a+3:=aH (bT a) [dj ak (db ak)] rfl
theorem VE:¬a=a+4:=aH (bT a) [dj ak (.add ak dv)] rfl
theorem WI:¬a+2=a+4:=aH (bT a) [dj (dc ak) (.add ak dv)] rfl
theorem TE:¬33+a=7:=aH (bT a) [fH (.add eG ak) jC] rfl
theorem I7:39<=a->b<39->¬b=a:=aH (cz a b) [aF aT ak,aR aA aT,dj aA ak] rfl
theorem Pb:39<=a->¬9=a:=aH (bT a) [aF aT ak,dj gJ ak] rfl
theorem aav:39<=a->b<39->¬b=a+1+1:=aH (cz a b) [aF aT ak,aR aA aT,dj aA (az (az ak))] rfl
theorem Oz:39<=a->b<39->¬b=a+1:=aH (cz a b) [aF aT ak,aR aA aT,dj aA (az ak)] rfl
theorem W9:39<=a->¬9=a+1+1:=aH (bT a) [aF aT ak,dj gJ (az (az ak))] rfl
theorem La:39<=a->¬9=a+1:=aH (bT a) [aF aT ak,dj gJ (az ak)] rfl
theorem C1:39<=a->¬a=9:=aH (bT a) [aF aT ak,fH ak gJ] rfl
theorem Xy:a<4->b<=a+a->b<=1000:=jG (aH (cz a b) [ct 2 ak dv,aF aA (.add ak ak),aR bi aA] rfl)
theorem YK:39<=a->17<a+1+2:=ii (aH (bT a) [aF aT ak,aF (dc (az ak)) (.num 17)] rfl)
theorem U2:39<=a->18<a+1+2:=ii (aH (bT a) [aF aT ak,aF (dc (az ak)) (.num 18)] rfl)
theorem WN:39<=a->9<a+1+2:=ii (aH (bT a) [aF aT ak,aF (dc (az ak)) gJ] rfl)
theorem TU:39<=a->15<a+1+2:=ii (aH (bT a) [aF aT ak,aF (dc (az ak)) (.num 15)] rfl)
theorem Gv:a+1<a+1+2:=Fo (aH (bT a) [aF (dc (az ak)) (az ak)] rfl)
theorem ON:x=y+(1:Int)->x<=y->False:=by omega
theorem Pz:a<4->b<=a->b<=1000:=jG (aH (cz a b) [aR ak dv,aF aA ak,aR bi aA] rfl)
theorem UD:39<=a->¬a+1=17:=aH (bT a) [aF aT ak,fH (az ak) (.num 17)] rfl
theorem aaB:39<=a->b<39->b<a+1+2:=lP (aH (cz a b) [aF aT ak,aR aA aT,aF (dc (az ak)) aA] rfl)
theorem Yz:39<=a->b<39->¬b=a+4:=aH (cz a b) [aF aT ak,aR aA aT,dj aA (.add ak dv)] rfl
theorem aax:39<=a->b<39->¬b=a+5:=aH (cz a b) [aF aT ak,aR aA aT,dj aA (.add ak (.num 5))] rfl
theorem V4:39<=a->¬18=a+1:=aH (bT a) [aF aT ak,dj (.num 18) (az ak)] rfl
theorem YN:39<=a->¬18=a+4:=aH (bT a) [aF aT ak,dj (.num 18) (.add ak dv)] rfl
theorem Xh:39<=a->¬9=a+4:=aH (bT a) [aF aT ak,dj gJ (.add ak dv)] rfl
theorem WF:39<=a->¬9=a+5:=aH (bT a) [aF aT ak,dj gJ (.add ak (.num 5))] rfl
theorem XS:39<=a->¬a+1=38:=aH (bT a) [aF aT ak,fH (az ak) (.num 38)] rfl
theorem ZM:39<=a->¬a+1=12:=aH (bT a) [aF aT ak,fH (az ak) (.num 12)] rfl
theorem Z4:39<=a->¬a+4=38:=aH (bT a) [aF aT ak,fH (.add ak dv) (.num 38)] rfl
theorem aaC:39<=a->¬a+4=12:=aH (bT a) [aF aT ak,fH (.add ak dv) (.num 12)] rfl
theorem ZZ:39<=a->¬a+4=17:=aH (bT a) [aF aT ak,fH (.add ak dv) (.num 17)] rfl
theorem Vb:¬a+4=a+1:=aH (bT a) [fH (.add ak dv) (az ak)] rfl
theorem Zw:39<=a->39<=a+6:=d7 (aH (bT a) [aF aT ak,aR (.add ak (.num 6)) aT] rfl)
theorem PR:a<4->a+1<=4:=d7 (aH (bT a) [aR ak dv,aR dv (az ak)] rfl)
theorem PJ:39<=a->a=a -39+39:=λ h=>(A3 h).symm
theorem HK:a<4->33+a<39:=ii (aH (bT a) [aR ak dv,aF aT (.add eG ak)] rfl)
theorem aan:a<4->¬33+a=38:=aH (bT a) [aR ak dv,dj (.add eG ak) (.num 38)] rfl
theorem VF:¬33+a=12:=aH (bT a) [fH (.add eG ak) (.num 12)] rfl
theorem Xn:¬33+a=17:=aH (bT a) [fH (.add eG ak) (.num 17)] rfl
theorem Hm:¬33+a=18:=aH (bT a) [fH (.add eG ak) (.num 18)] rfl
theorem yz:¬33+a=9:=aH (bT a) [fH (.add eG ak) gJ] rfl
theorem Hd:39<=a->39<=a+1:=d7 (aH (bT a) [aF aT ak,aR (az ak) aT] rfl)
theorem UK:a+1<a+6:=Fo (aH (bT a) [aF (.add ak (.num 6)) (az ak)] rfl)
theorem aaq:39<=a->39<=a+4:=d7 (aH (bT a) [aF aT ak,aR (.add ak dv) aT] rfl)
theorem PT:a+4<a+6:=Fo (aH (bT a) [aF (.add ak (.num 6)) (.add ak dv)] rfl)
theorem UV:a<=b+b->a+1<=b+1+b:=d7 (aH (cz a b) [aF ak (.add aA aA),aR (.add (az aA) aA) (az ak)] rfl)
theorem Pu:a<=a+6:=Ft (aH (bT a) [aR (.add ak (.num 6)) ak] rfl)
theorem Zc:x<=y->x<=y+(2:Int):=by omega
theorem Wk:x+(1:Int)<=x+(2:Int):=by omega
theorem PI:39<=a->a<=b->39<=b:=jG (aH (cz a b) [aF aT ak,aF ak aA,aR aA aT] rfl)
theorem Zl:¬7=33+a:=aH (bT a) [dj jC (.add eG ak)] rfl
theorem UZ:¬12=33+a:=aH (bT a) [dj (.num 12) (.add eG ak)] rfl
theorem IQ:¬17=33+a:=aH (bT a) [dj (.num 17) (.add eG ak)] rfl
theorem TL:¬a=b->¬33+a=33+b:=by omega
theorem Yk:a<4->¬38=33+a:=aH (bT a) [aR ak dv,fH (.num 38) (.add eG ak)] rfl
theorem Vi:a<b+c->c<=d->a<b+d:=lP (aH (xi a b c d) [aR ak (.add aA bD),aF bD gp,aF (.add aA gp) ak] rfl)
theorem XC:a<=b+1+b->a<=b+1+b:=d7 (aH (cz a b) [aF ak (.add (az aA) aA),aR (.add (az aA) aA) ak] rfl)
theorem PZ:a+1<=4->b<a+1->b<4:=lP (aH (cz a b) [aF (az ak) dv,aR aA (az ak),aF dv aA] rfl)
theorem aaM:x<=y->y<=z->x<=z:=by omega
theorem YF:a+b<=c->c<=a->¬c=a->a+d<=c:=λ h1 h2 I=>absurd (ru h2 (bx (gn a b) h1)) I
theorem Cw:39<=a->17<a:=ii (aH (bT a) [aF aT ak,aF ak (.num 17)] rfl)
theorem Cg:39<=a->18<a:=ii (aH (bT a) [aF aT ak,aF ak (.num 18)] rfl)
theorem FU:39<=a->9<a:=ii (aH (bT a) [aF aT ak,aF ak gJ] rfl)
theorem TK:a<2->a<=1000:=d7 (aH (bT a) [aR ak (.num 2),aR bi ak] rfl)
theorem Z7:¬5=33+a:=aH (bT a) [dj (.num 5) (.add eG ak)] rfl
theorem WG:¬19=33+a:=aH (bT a) [dj (.num 19) (.add eG ak)] rfl
theorem OG:a<4->b<a+1->b<4:=lP (aH (cz a b) [aR ak dv,aR aA (az ak),aF dv aA] rfl)
theorem Xd:39<=a->39<=b->39<=c->a<d->b<d->c<d->39<=a/\39<=b/\39<=c/\a<d+1/\b<d+1/\c<d+1:=λ h1 h2 I D p q=>⟨h1,h2,I,ly D,ly p,ly q⟩
theorem Ke:39<=a->b<4->¬a=33+b:=aH (cz a b) [aF aT ak,aR aA dv,fH ak (.add eG aA)] rfl
theorem Yv:¬18=33+a:=aH (bT a) [dj (.num 18) (.add eG ak)] rfl
theorem UN:¬9=33+a:=aH (bT a) [dj gJ (.add eG ak)] rfl
theorem Zm:39<=a->1<a:=ii (aH (bT a) [aF aT ak,aF ak lg] rfl)
theorem ZV:¬(1:Nat)=(9:Nat):=by omega
theorem XG:¬(1:Nat)=(18:Nat):=by omega
theorem YL:¬1=33+a:=aH (bT a) [dj lg (.add eG ak)] rfl
theorem OR:39<=a->15<a:=ii (aH (bT a) [aF aT ak,aF ak (.num 15)] rfl)
theorem OB:¬(15:Nat)=(9:Nat):=by omega
theorem O7:¬(15:Nat)=(18:Nat):=by omega
theorem OY:¬15=33+a:=aH (bT a) [dj (.num 15) (.add eG ak)] rfl
theorem XD:39<=a->a<b->15<b:=lP (aH (cz a b) [aF aT ak,aR ak aA,aF aA (.num 15)] rfl)
theorem T0:39<=a->a<b->9<b:=lP (aH (cz a b) [aF aT ak,aR ak aA,aF aA gJ] rfl)
theorem Yg:a<2->b=a->b<=1000:=jG (aH (cz a b) [aR ak (.num 2),fH aA ak,aR bi aA] rfl)
theorem Vr:¬a=9->¬9=a:=by omega
theorem WJ:39<=a->a<b->¬9=b+1+1:=aH (cz a b) [aF aT ak,aR ak aA,dj gJ (az (az aA))] rfl
theorem Us:39<=a->a<b->¬9=b+1:=aH (cz a b) [aF aT ak,aR ak aA,dj gJ (az aA)] rfl
theorem VL:a+1<=b->a<=b+1+2:=d7 (aH (cz a b) [aF (az ak) aA,aR (dc (az aA)) ak] rfl)
theorem U9:39<=a->a<b->c<39->c<b:=Rt (aH (fe a b c) [aF aT ak,aR ak aA,aR bD aT,aF aA bD] rfl)
theorem uz:39<=a->b<39->b<a:=lP (aH (cz a b) [aF aT ak,aR aA aT,aF ak aA] rfl)
theorem Wz:39<=a->a<b->18<b:=lP (aH (cz a b) [aF aT ak,aR ak aA,aF aA (.num 18)] rfl)
theorem aaU:39<=a->¬18=a:=aH (bT a) [aF aT ak,dj (.num 18) ak] rfl
theorem Ug:39<=a->a<b->c<4->33+c<b:=Rt (aH (fe a b c) [aF aT ak,aR ak aA,aR bD dv,aF aA (.add eG bD)] rfl)
theorem YW:39<=a->b<4->¬33+b=a:=aH (cz a b) [aF aT ak,aR aA dv,dj (.add eG aA) ak] rfl
theorem W6:39<=a->b<4->33+b<a+1:=lP (aH (cz a b) [aF aT ak,aR aA dv,aF (az ak) (.add eG aA)] rfl)
theorem OQ:39<=a->b<4->33+b<a:=lP (aH (cz a b) [aF aT ak,aR aA dv,aF ak (.add eG aA)] rfl)
theorem WL:39<=a->a<b->39<=b+1:=jG (aH (cz a b) [aF aT ak,aR ak aA,aR (az aA) aT] rfl)
theorem Wn:a<b->c=a->c<b:=lP (aH (fe a b c) [aR ak aA,fH bD ak,aF aA bD] rfl)
theorem U3:a<2->a+1<=2:=d7 (aH (bT a) [aR ak (.num 2),aR (.num 2) (az ak)] rfl)
theorem UW:39<=a->39<=b->39<=c->a<d->b<d->c<d->39<=a/\39<=b/\39<=c/\a<d+1+2/\b<d+1+2/\c<d+1+2:=λ h1 h2 I D p q=>⟨h1,h2,I,zr 3 D,zr 3 p,zr 3 q⟩
theorem Pk:39<=a->7<a:=ii (aH (bT a) [aF aT ak,aF ak jC] rfl)
theorem UQ:39<=a->12<a:=ii (aH (bT a) [aF aT ak,aF ak (.num 12)] rfl)
theorem W8:39<=a->38<a:=ii (aH (bT a) [aF aT ak,aF ak (.num 38)] rfl)
theorem Uw:a<=b->39<=c->39<=d->39<=e->c<a->d<a->e<a->39<=c/\39<=d/\39<=e/\c<b/\d<b/\e<b:=λ h1 h2 I D p q h7=>⟨h2,I,D,cv p h1,cv q h1,cv h7 h1⟩
theorem YM:a<=b+b+c->a<=b+1+b+c:=d7 (aH (fe a b c) [aF ak (.add (.add aA aA) bD),aR (.add (.add (az aA) aA) bD) ak] rfl)
theorem PK:a<4->a<=3:=d7 (aH (bT a) [aR ak dv,aR js ak] rfl)
theorem Yu:a<=b+1+b->a<=b+1+(b+1):=d7 (aH (cz a b) [aF ak (.add (az aA) aA),aR (.add (az aA) (az aA)) ak] rfl)
theorem aao:a<=b+1+b+1->a<=b+1+(b+1):=d7 (aH (cz a b) [aF ak (az (.add (az aA) aA)),aR (.add (az aA) (az aA)) ak] rfl)
theorem YU:a<b+1->a<b+1:=ii (aH (cz a b) [aR ak (az aA),aF (az aA) ak] rfl)
theorem Ui:a<=2->a<=100:=d7 (aH (bT a) [aF ak (.num 2),aR (.num 100) ak] rfl)
theorem aae:a<4->b<c->c=0\/0<a->0<a/\a<1000:=λ h1 h2 I=>⟨I.resolve_left (λ e=>nq _ (e▸h2)),oM h1 (by decide)⟩
theorem Zg:a<b->b<=2->c=a->c<2:=Rt (aH (fe a b c) [aR ak aA,aF aA (.num 2),fH bD ak,aF (.num 2) bD] rfl)
theorem Xi:39<=a->¬a=7:=aH (bT a) [aF aT ak,fH ak jC] rfl
theorem Ux:a=b->a+1=b+1:=by omega
theorem Vp:(0:Nat)<(2:Nat)/\(2:Nat)<(1000:Nat):=by omega
theorem WP:a<=(2:Nat)->(0:Int)<=↑a/\↑a<(1000:Int):=by omega
theorem aam:¬a=0->0<a:=vY
theorem Ze:(0:Nat)<(3:Nat)/\(3:Nat)<(1000:Nat):=by omega
theorem OS:a<3->a<=2:=d7 (aH (bT a) [aR ak js,aR (.num 2) ak] rfl)
theorem Xo:¬a=(1:Nat)->¬↑a=(1:Int):=by omega
theorem Py:39<=a->39<=a+2:=d7 (aH (bT a) [aF aT ak,aR (dc ak) aT] rfl)
theorem Vo:39<=a->b<39->b<a+2:=lP (aH (cz a b) [aF aT ak,aR aA aT,aF (dc ak) aA] rfl)
theorem IF:39<=a->39<=a+1+4:=d7 (aH (bT a) [aF aT ak,aR (.add (.add ak lg) dv) aT] rfl)
theorem WH:39<=a->39<=a+1+2:=d7 (aH (bT a) [aF aT ak,aR (dc (az ak)) aT] rfl)
theorem Uu:¬9=a+13:=aH (bT a) [dj gJ (.add ak (.num 13))] rfl
theorem Z3:¬9=a+12:=aH (bT a) [dj gJ (.add ak (.num 12))] rfl
theorem Xk:¬9=a+11:=aH (bT a) [dj gJ (.add ak (.num 11))] rfl
theorem WA:¬9=a+10:=aH (bT a) [dj gJ (.add ak gw)] rfl
theorem UY:39<=a->¬9=a+9:=aH (bT a) [aF aT ak,dj gJ (.add ak gJ)] rfl
theorem ZN:39<=a->¬9=a+8:=aH (bT a) [aF aT ak,dj gJ (.add ak (.num 8))] rfl
theorem UL:39<=a->¬9=a+1+6:=aH (bT a) [aF aT ak,dj gJ (.add (.add ak lg) (.num 6))] rfl
theorem XY:¬a=b->¬c+a=c+b:=λ n e=>n (Li e)
theorem Un:a+2<a+1+4:=Fo (aH (bT a) [aF (.add (.add ak lg) dv) (dc ak)] rfl)
theorem Pa:39<=a->¬a+2=9:=aH (bT a) [aF aT ak,fH (dc ak) gJ] rfl
theorem WB:a+2<a+1+2:=Fo (aH (bT a) [aF (dc (az ak)) (dc ak)] rfl)
theorem TP:a+3<a+1+4:=Fo (aH (bT a) [aF (.add (.add ak lg) dv) (db ak)] rfl)
theorem Zf:39<=a->¬a+3=9:=aH (bT a) [aF aT ak,fH (db ak) gJ] rfl
theorem afq:¬a+3<3:=by omega
theorem VM:a<3->1+2*a<39:=ii (aH (bT a) [ct 2 ak js,aF aT (.add lg (.mulL 2 ak))] rfl)
theorem YC:a+b=a+c->b=c:=Li
theorem XH:0+a=0+b->a=b:=λ h=>(jm a).symm.trans (h.trans (jm b))
theorem ZH:0+a=a:=by omega
theorem aaV:a<39->b=a->b<39:=lP (aH (cz a b) [aR ak aT,fH aA ak,aF aT aA] rfl)
theorem Vg:a=b+2\/a=b+4\/a=b+6\/a=b+7\/a=b+9->a<39->39<=b->False:=λ h h1 h2=>zp.mpr (bx h2 (dj1 h)) h1
theorem Vm:39<=a->a+b<39->False:=aH (cz a b) [aF aT ak,aR (.add ak aA) aT] rfl
theorem Wm:39<=a->b<39->b<a+14:=lP (aH (cz a b) [aF aT ak,aR aA aT,aF (.add ak (.num 14)) aA] rfl)
theorem W3:a=b+2\/a=b+4\/a=b+6\/a=b+7\/a=b+9->a<b+14:=λ h=>h.elim (λ e=>e▸kb (by decide) b) λ h=>h.elim (λ e=>e▸kb (by decide) b) λ h=>h.elim (λ e=>e▸kb (by decide) b) λ h=>h.elim (λ e=>e▸kb (by decide) b) (λ e=>e▸kb (by decide) b)
theorem YT:a<3->1+2*a<14:=ii (aH (bT a) [ct 2 ak js,aF (.num 14) (.add lg (.mulL 2 ak))] rfl)
theorem Zo:39<=a->b<39->0+b<a+14:=lP (aH (cz a b) [aF aT ak,aR aA aT,aF (.add ak (.num 14)) (.add fQ aA)] rfl)
theorem Yb:a<14->b+a<b+14:=ii (aH (cz a b) [aR ak (.num 14),aF (.add aA (.num 14)) (.add aA ak)] rfl)
theorem aaQ:a<14->0+a<b+14:=ii (aH (cz a b) [aR ak (.num 14),aF (.add aA (.num 14)) (.add fQ ak)] rfl)
theorem Xr:a<3->b+2+2*a=b+2\/b+2+2*a=b+4\/b+2+2*a=b+6\/b+2+2*a=b+7\/b+2+2*a=b+9:=by intro h;rcases lt3 h with rfl|rfl|rfl;exact .inl rfl;exact .inr (.inl rfl);exact .inr (.inr (.inl rfl))
theorem OF:a<4->a<4:=ii (aH (bT a) [aR ak dv,aF dv ak] rfl)
theorem UF:a<b->x+(1:Int)+↑a<x+(1:Int)+↑b:=λ h=>Int.add_lt_add_left (j9.mpr h) _
theorem XT:a<(3:Nat)->x+(1:Int)+↑a<=x+(3:Int):=λ h=>(lY x 1 a).symm▸Int.add_le_add_left (vV.mpr (ph (lx h) 1)) x
theorem T7:min 56 a<=60:=bx (sy 56 a) (by decide)
end
section
variable{a b c d e f g h i j k l m n:Nat}{x y z u v w:Int}{P Q R:Prop}
theorem nk(k:Nat)(h:a<b):a<b+k:=cv h (gn b k)
theorem nj(k:Nat)(h:a<b):¬a=b+k:=bP (nk k h)
theorem Rf{k:Nat}(q:7<=k)(h:a<b+7):¬a=b+k:=bP (cv h (ph q b))
theorem qa{k:Nat}(q:¬39<=k)(h:39<=a/\a<b/\P):¬a=k:=λ e=>q (e▸h.1)
theorem qb(k:Nat)(h:39<=a/\a<b/\P):¬a=b+k:=nj k h.2.1
theorem qc(k:Nat)(h:39<=a/\a<b/\P):a<b+k:=nk k h.2.1
theorem qd(k:Nat)(h:39<=a):39<=a+k:=bx h (gn a k)
theorem oq1:a<=a -1+1:=Nat.le_succ_of_pred_le (aS _)
theorem oq2:(0:Int)<=(0:Int):=qE 0
theorem oq3:a+(1:Nat)=b->(0:Int)<(b:Int):=λ e=>Int.natCast_pos.mpr (e▸B6 a)
theorem oq4:a+1=b->a<=1000->b<=16777216:=λ e h=>e▸bx (Bg h) (by decide)
theorem oq5:a+1=b->0<b:=by omega
theorem oq7:(a:Int) -((0:Nat):Int)=(a:Int):=Int.sub_zero _
theorem oq8:((a+(1:Nat):Nat):Int)=(a:Int)+(1:Int):=rfl
theorem oq9:(a:Int) -((b:Int)+(1:Int))=(a:Int) -(b:Int) -(1:Int):=(Int.sub_sub _ _ _).symm
theorem WR:a<0->P:=λ h=>absurd h (nq a)
theorem abq:(0:Int)<=(a:Int):=rs a
theorem Wl:a<b->(a:Int)<(b:Int):=j9.mpr
theorem acK:a<b->¬(a:Int)=(b:Int):=λ h e=>bP h (wp e)
theorem EJ:a<b/\P->b<=c->a<c:=λ g h=>cv g.1 h
theorem N2:a<b->b<=a->P:=λ g h=>absurd h (Br g)
theorem LY:a<b->c<d/\P->d<=a->c<b:=by omega
theorem QC:a<b/\P->b<=c->¬a=c:=λ g h=>bP (cv g.1 h)
theorem TA:a<b->b<=c->c=a->P:=by omega
theorem Z0:a<b->a=c->b<=c->P:=by omega
theorem abo:a=b+1+1->b<=a:=λ e=>e▸gn b 2
theorem afh:(a:Int)<=((b+a:Nat):Int):=vV.mpr (qA a b)
theorem adb:((a+b:Nat):Int) -(b:Int)=((a+(0:Nat):Nat):Int):=Ae (a:Int) b
theorem DS:(0:Int)<x->x=(0:Int)->P:=λ h e=>absurd (e▸h:(0:Int)<0) (by decide)
theorem UG:(a:Int)=(b:Int)->a=b:=wp
theorem RY:¬a=b->¬(a:Int)=(b:Int):=λ h e=>h (wp e)
theorem XR:(a:Int)=(b:Int)↔a=b:=⟨wp,λ e=>congrArg _ e⟩
theorem aeL:a<b/\P->¬a=b:=λ h=>bP h.1
theorem abp:a+1<a->P:=λ h=>absurd h (Nat.not_lt_of_le (b7 a))
theorem TW:a<a->P:=λ h=>absurd h (lQ a)
theorem afm:a+1+b=a+b+1:=B3 a 1 b
theorem abh:x -(1:Int)=(0:Int)->¬x -(1:Int)=(0:Int)->P:=λ h g=>absurd h g
theorem ads:a=b->(a:Int)=(b:Int):=λ e=>congrArg _ e
theorem abM:a=b->(b:Int)=(a:Int):=λ e=>congrArg _ e.symm
theorem aeR:39<=a/\a<b/\P->¬a=7:=qa (by decide)
theorem abw:39<=a/\a<b/\P->a<b+1+2:=qc 3
theorem Xj:39<=a/\a<b/\P->¬a=b+4:=qb 4
theorem Z1:39<=a/\a<b/\P->¬a=b+1:=qb 1
theorem adf:39<=a/\a<b/\P->a<b+6:=qc 6
theorem aeS:39<=a/\a<b/\P->¬a=38:=qa (by decide)
theorem abj:39<=a/\a<b/\P->¬a=12:=qa (by decide)
theorem adv:39<=a/\a<b/\P->¬a=17:=qa (by decide)
theorem aat:39<=a/\a<b/\P->¬a=18:=qa (by decide)
theorem aeX:39<=a/\a<b/\P->¬a=b+5:=qb 5
theorem NX:39<=a/\a<b/\P->¬a=9:=qa (by decide)
theorem ack:a+1<=a->P:=λ h=>absurd h (Nat.not_succ_le_self a)
theorem acz:a<=a+5:=gn a 5
theorem acM:x<=x+(1:Int)+(1:Int):=Ia (Ia (qE x))
theorem acy:39<=a->39<=a/\39<=a+2/\39<=a+4/\a<a+5/\a+2<a+5/\a+4<a+5:=λ h=>⟨h,qd 2 h,qd 4 h,yj (by decide),kb (by decide) a,kb (by decide) a⟩
theorem aeo:a≠a+2/\a≠a+4/\a+2≠a+4:=⟨bP (yj (by decide)),bP (yj (by decide)),bP (kb (by decide) a)⟩
theorem aeF:a<=a:=aS a
theorem ace:a<=a+2:=gn a 2
theorem aeh:a<=a+4:=gn a 4
theorem aem:39<=a/\a<b/\P->a<b+1:=qc 1
theorem abi:a<4->b<a->b<4:=λ h g=>oM g h
theorem aet:39<=a/\a<b/\P->b+1<=c->¬a=c+1:=λ h g=>nj 1 (oM h.2.1 g)
theorem aef:39<=a/\a<b/\P->b+1<=c->a<c+1+2:=λ h g=>nk 3 (oM h.2.1 g)
theorem abt:39<=a/\a<b/\P->b+1<=c->a<c:=λ h g=>oM h.2.1 g
theorem abD:39<=a/\a<b/\P->c<4->¬a=33+c:=λ h g e=>absurd (bx (e▸h.1) (ph (lx g) 33):39<=33+3) (by decide)
theorem acC:39<=a/\a<b/\P->b<=c->a<c:=λ h g=>cv h.2.1 g
theorem aec:a<b/\P->a<b+1:=λ h=>nk 1 h.1
theorem abV:a<b->¬a=b+13:=nj 13
theorem acD:a<b->¬a=b+12:=nj 12
theorem adK:a<b->¬a=b+11:=nj 11
theorem aeV:a<b->¬a=b+10:=nj 10
theorem acw:a<b->¬a=b+9:=nj 9
theorem adz:a<b->¬a=b+8:=nj 8
theorem adY:a<b->¬a=b+1+6:=nj 7
theorem Q5:39<=a->39<=a+1+4:=qd 5
theorem acP:a<b->a<b+1+4:=nk 5
theorem VJ:39<=a->39<=a+1+2:=qd 3
theorem aeM:a<b->a<b+1+2:=nk 3
theorem aca:39<=a->39<=a+1:=qd 1
theorem adG:a<b->a<b+1:=nk 1
theorem acI:a<b->¬a=b:=bP
theorem abL:x+(1:Int)+(1:Int)+(1:Int)=x+(3:Int):=(lY (x+1) 1 1).trans (lY x 1 2)
theorem adu:a<b+7->¬a=b+13:=λ h=>Rf (by decide) h
theorem acV:a<b+7->¬a=b+12:=λ h=>Rf (by decide) h
theorem aff:a<b+7->¬a=b+11:=λ h=>Rf (by decide) h
theorem acX:a<b+7->¬a=b+10:=λ h=>Rf (by decide) h
theorem adj:a<b+7->¬a=b+9:=λ h=>Rf (by decide) h
theorem adl:a<b+7->¬a=b+8:=λ h=>Rf (by decide) h
theorem adT:a<b+7->¬a=b+1+6:=λ h=>Rf (k:=7) (b:=b) (by decide) h
theorem acH:a<3->b+1+2*a<b+7:=λ h=>rz (ph (uF 2 (lx h)) (b+1)) (kb (by decide:5<7) b)
theorem adg:a<3->b+2+2*a<b+7:=λ h=>rz (ph (uF 2 (lx h)) (b+2)) (kb (by decide:6<7) b)
theorem abH:a+1<a+1+4:=yj (by decide)
theorem ZC:39<=a->¬a+1=9:=λ h e=>absurd (e▸qd 1 h:39<=9) (by decide)
theorem adE:a+1<a+1+2:=yj (by decide)
theorem abY:x+(1:Int)+((0:Nat):Int)=x+(1:Int):=Int.add_zero _
theorem abX:a+4<a+1+4:=Nat.add_lt_add_right (cQ a) 4
theorem aeW:39<=a->¬a+4=9:=λ h e=>absurd (e▸qd 4 h:39<=9) (by decide)
theorem afd:x+(1:Int)+((2:Nat):Int)=x+(1:Int)+(1:Int)+(1:Int):=(lY (x+1) 1 1).symm
theorem aez:39<=a->a+b=0+c->c<39->P/\b=c:=λ h e g=>absurd (bx h (bx (gn a b) (hQ (e.trans (jm c))))) (Br g)
theorem afg:0+a=b+c->39<=b->a<39->P/\a=c:=λ e h g=>absurd (bx h (bx (gn b c) (hQ (e.symm.trans (jm a))))) (Br g)
theorem acA:39<=a/\a<b/\P->a<b+14:=qc 14
theorem aeN:a=b+2\/a=b+4\/a=b+6\/a=b+7\/a=b+9->39<=a/\a<b/\P->False:=λ h g=>h.elim (nj 2 g.2.1) λ h=>h.elim (nj 4 g.2.1) λ h=>h.elim (nj 6 g.2.1) λ h=>h.elim (nj 7 g.2.1) (nj 9 g.2.1)
section
variable{A B D E F G H I J K L:Sort _}
theorem cY{l m n:Prop}(N:l)(O:m)(P:n):l/\m/\n:=⟨N,O,P⟩
theorem xp{l m n o:Prop}(N:l)(O:m)(P:n)(Q:o):l/\m/\n/\o:=⟨N,O,P,Q⟩
theorem Vu{l m n o p q:Prop}(N:l)(O:m)(P:n)(Q:o)(R:p)(S:q):l/\m/\n/\o/\p/\q:=⟨N,O,P,Q,R,S⟩
theorem acu{l m n o p q r:Prop}(N:l)(O:m)(P:n)(Q:o)(R:p)(S:q)(T:r):l/\m/\n/\o/\p/\q/\r:=⟨N,O,P,Q,R,S,T⟩
theorem adB{l m n o p q r s t:Prop}(N:l)(O:m)(P:n)(Q:o)(R:p)(S:q)(T:r)(U:s)(V:t):l/\m/\n/\o/\p/\q/\r/\s/\t:=⟨N,O,P,Q,R,S,T,U,V⟩
theorem Wb{l m n o p q r s t u:Prop}(N:l)(O:m)(P:n)(Q:o)(R:p)(S:q)(T:r)(U:s)(V:t)(W:u):l/\m/\n/\o/\p/\q/\r/\s/\t/\u:=⟨N,O,P,Q,R,S,T,U,V,W⟩
theorem cC{l m:A->Prop}(a:A)(N:l a)(O:m a):∃a,l a/\m a:=⟨a,N,O⟩
theorem gc{l m n:A->Prop}(a:A)(N:l a)(O:m a)(P:n a):∃a,l a/\m a/\n a:=⟨a,N,O,P⟩
theorem JI{l m n o:A->Prop}(a:A)(N:l a)(O:m a)(P:n a)(Q:o a):∃a,l a/\m a/\n a/\o a:=⟨a,N,O,P,Q⟩
theorem YH{l m n o p:A->Prop}(a:A)(N:l a)(O:m a)(P:n a)(Q:o a)(R:p a):∃a,l a/\m a/\n a/\o a/\p a:=⟨a,N,O,P,Q,R⟩
theorem qz{l m:A->B->Prop}(a:A)(b:B)(N:l a b)(O:m a b):∃a b,l a b/\m a b:=⟨a,b,N,O⟩
theorem pX{l m n:A->B->Prop}(a:A)(b:B)(N:l a b)(O:m a b)(P:n a b):∃a b,l a b/\m a b/\n a b:=⟨a,b,N,O,P⟩
theorem pY{l m n o:A->B->Prop}(a:A)(b:B)(N:l a b)(O:m a b)(P:n a b)(Q:o a b):∃a b,l a b/\m a b/\n a b/\o a b:=⟨a,b,N,O,P,Q⟩
theorem Yp{l m n o p:A->B->Prop}(a:A)(b:B)(N:l a b)(O:m a b)(P:n a b)(Q:o a b)(R:p a b):∃a b,l a b/\m a b/\n a b/\o a b/\p a b:=⟨a,b,N,O,P,Q,R⟩
theorem adD{l m n o p q:A->B->Prop}(a:A)(b:B)(N:l a b)(O:m a b)(P:n a b)(Q:o a b)(R:p a b)(S:q a b):∃a b,l a b/\m a b/\n a b/\o a b/\p a b/\q a b:=⟨a,b,N,O,P,Q,R,S⟩
theorem KL{l m n o p q r s:A->B->Prop}(a:A)(b:B)(N:l a b)(O:m a b)(P:n a b)(Q:o a b)(R:p a b)(S:q a b)(T:r a b)(U:s a b):∃a b,l a b/\m a b/\n a b/\o a b/\p a b/\q a b/\r a b/\s a b:=⟨a,b,N,O,P,Q,R,S,T,U⟩
theorem XA{l m n o p q r s t u:A->B->Prop}(a:A)(b:B)(N:l a b)(O:m a b)(P:n a b)(Q:o a b)(R:p a b)(S:q a b)(T:r a b)(U:s a b)(V:t a b)(W:u a b):∃a b,l a b/\m a b/\n a b/\o a b/\p a b/\q a b/\r a b/\s a b/\t a b/\u a b:=⟨a,b,N,O,P,Q,R,S,T,U,V,W⟩
theorem adN{l m:A->B->D->Prop}(a:A)(b:B)(c:D)(N:l a b c)(O:m a b c):∃a b c,l a b c/\m a b c:=⟨a,b,c,N,O⟩
theorem adw{l m n o:A->B->D->Prop}(a:A)(b:B)(c:D)(N:l a b c)(O:m a b c)(P:n a b c)(Q:o a b c):∃a b c,l a b c/\m a b c/\n a b c/\o a b c:=⟨a,b,c,N,O,P,Q⟩
theorem Qs{l m n o p:A->B->D->Prop}(a:A)(b:B)(c:D)(N:l a b c)(O:m a b c)(P:n a b c)(Q:o a b c)(R:p a b c):∃a b c,l a b c/\m a b c/\n a b c/\o a b c/\p a b c:=⟨a,b,c,N,O,P,Q,R⟩
theorem Lx{l:A->B->D->E->Prop}(a:A)(b:B)(c:D)(d:E)(N:l a b c d):∃a b c d,l a b c d:=⟨a,b,c,d,N⟩
theorem acR{l m:A->B->D->E->Prop}(a:A)(b:B)(c:D)(d:E)(N:l a b c d)(O:m a b c d):∃a b c d,l a b c d/\m a b c d:=⟨a,b,c,d,N,O⟩
theorem abn{l m n:A->B->D->E->Prop}(a:A)(b:B)(c:D)(d:E)(N:l a b c d)(O:m a b c d)(P:n a b c d):∃a b c d,l a b c d/\m a b c d/\n a b c d:=⟨a,b,c,d,N,O,P⟩
theorem abW{l m n o:A->B->D->E->Prop}(a:A)(b:B)(c:D)(d:E)(N:l a b c d)(O:m a b c d)(P:n a b c d)(Q:o a b c d):∃a b c d,l a b c d/\m a b c d/\n a b c d/\o a b c d:=⟨a,b,c,d,N,O,P,Q⟩
theorem WX{l m n o p:A->B->D->E->Prop}(a:A)(b:B)(c:D)(d:E)(N:l a b c d)(O:m a b c d)(P:n a b c d)(Q:o a b c d)(R:p a b c d):∃a b c d,l a b c d/\m a b c d/\n a b c d/\o a b c d/\p a b c d:=⟨a,b,c,d,N,O,P,Q,R⟩
theorem acL{l:A->B->D->E->F->Prop}(a:A)(b:B)(c:D)(d:E)(e:F)(N:l a b c d e):∃a b c d e,l a b c d e:=⟨a,b,c,d,e,N⟩
theorem adO{l m n o p:A->B->D->E->F->Prop}(a:A)(b:B)(c:D)(d:E)(e:F)(N:l a b c d e)(O:m a b c d e)(P:n a b c d e)(Q:o a b c d e)(R:p a b c d e):∃a b c d e,l a b c d e/\m a b c d e/\n a b c d e/\o a b c d e/\p a b c d e:=⟨a,b,c,d,e,N,O,P,Q,R⟩
theorem MI{l m:A->B->D->E->F->G->H->I->Prop}(a:A)(b:B)(c:D)(d:E)(e:F)(f:G)(g:H)(h:I)(N:l a b c d e f g h)(O:m a b c d e f g h):∃a b c d e f g h,l a b c d e f g h/\m a b c d e f g h:=⟨a,b,c,d,e,f,g,h,N,O⟩
theorem aev{l m n:A->B->D->E->F->G->H->I->Prop}(a:A)(b:B)(c:D)(d:E)(e:F)(f:G)(g:H)(h:I)(N:l a b c d e f g h)(O:m a b c d e f g h)(P:n a b c d e f g h):∃a b c d e f g h,l a b c d e f g h/\m a b c d e f g h/\n a b c d e f g h:=⟨a,b,c,d,e,f,g,h,N,O,P⟩
end
theorem ltA{C:Nat->Prop}{i:Nat}(h:i<1)(a:C 0):C i:=Nat.lt_one_iff.mp h▸a
theorem ltB{C:Nat->Prop}{i:Nat}(h:i<2)(a:C 0)(b:C 1):C i:=(BQ.mp h).elim (λ h=>ltA h a) λ e=>e▸b
@[elab_as_elim] theorem To {C:Nat->Prop} {i:Nat} (h:i<3) (a:C 0) (b:C 1) (c:C 2):C i:=(BQ.mp h).elim (λ h=>ltB h a b) λ e=>e▸c
@[elab_as_elim] theorem ltD {C:Nat->Prop} {i:Nat} (h:i<4) (a:C 0) (b:C 1) (c:C 2) (d:C 3):C i:=(BQ.mp h).elim (λ h=>To h a b c) λ e=>e▸d
theorem Nf{α β:Type}{C:List α->List β->Prop}(n:C [] [])(c:∀a l b r,C l r->C (a::l) (b::r)){l:List α}:∀{r:List β},l.length=r.length->C l r:=by
 induction l with
 |nil=>
  intro r h;cases r with
  |nil=>exact n
  |cons b r=>cases h
 |cons a l X=>
  intro r h;cases r with
  |nil=>cases h
  |cons b r=>exact c a l b r (X (vU h))
end
local macro_rules (kind:=termS!_)|x=>tV (x[1][0].isInterpolatedStrLit?.map fun s=>qm2 "app" (tI `PySem.Str.ofString) (qu1 (Lean.Syntax.mkStrLit s)))
def qd1(s:Lean.Name)(a:LS):LS:=qm2 "app" (qm2 "dotIdent" (tA ".") (tI s)) (qu1 a)
local macro_rules (kind:=coeSortNotation)|x=>return qd1 `ref x[1]
local macro_rules (kind:=coeFunNotation)|x=>return qd1 `list x[1]
def qE1:List LS->LS
 |t::l=>let r:=tS (tR t[0].getId t[1][0]) (tL "clear" #[t[1][0]])
  match l with
  |[]=>r
  |_=>tS r (tL "intro" l.toArray)
 |_=>.missing
local macro_rules (kind:=Lean.Parser.Tactic.«tacticExists_,,»)|x=>return qE1 x[1].getSepArgs.toList
def qI1:Lean.Name->Option LS
 |.str .anonymous s=>match s with
  |"Y"=>some (tI `rfl)
  |"J"=>some (tI `Nat)
  |"bG"=>some (tI `Bool)
  |"be"=>some (qm1 "prop" (tA "Prop"))
  |"ag"=>some (qm2 "byTactic" (tA "by") (tO (.node .none `tacticKernel_rfl #[tA "kernel_rfl"])))
  |"aL"=>some (qm2 "byTactic" (tA "by") (tO (qn2 "decide" (tA "decide") (qn1 "optConfig" qu0))))
  |_=>none
 |_=>none
local macro_rules (kind:=ident)|x=>tV (qI1 x.getId)
local macro_rules (kind:=«term#[_,]»)|x=>tV (match x[1].getNumArgs with | 1 => some (qd1 `con (qd1 `ref x[1][0])) | _ => none)
open Option renaming some->U,none->F
abbrev Loc:=J
set_option genCtorIdx true in
inductive V where
 |none
 |bool (b:Bool)
 |int (i:Int)
 |str (s:af)
 |ref (l:Loc)
 |con (v:al)
 deriving DecidableEq
set_option genInjectivity true in
set_option genCtorIdx true in
inductive aJ where
 |int (i:Int)
 |str (s:af)
 |tup (s:af) (ss:List af)
 deriving DecidableEq
set_option genCtorIdx true in
inductive Bop where
 |add|sub|mod
set_option genCtorIdx true in
inductive Cop where
 |eq|ne|lt|gt|is|fj|isin|eW
inductive T where
 |lit (v:V)
 |loc (x:af)
 |cW (x:af)
 |bin (op:Bop) (l r:T)
 |neg (x:T)
 |ite (c a b:T)
 |dict (ks vs:List T)
 |list (es:List T)
 |tup (es:List T)
 |fR (elt:T) (x:af) (it:T) (ifs:List T)
 |iK (a n x:af) (it:T)
 |mP (k v:T) (x:af) (it:T)
 |cmp (op:Cop) (l r:T)
 |aK (o:T) (name:af) (args:List T)
 |call (f:T) (args:List T)
 |attr (o:T) (name:af)
 |sub (o i:T)
 |slice (o:T) (lo hi:Option T)
 |not (x:T)
 |all (es:List T)
 |any (es:List T)
 |bad
set_option genCtorIdx true in
inductive Tgt where
 |loc (x:af)
 |cW (x:af)
set_option genInjectivity true in
inductive TS where
 |expr (e:T)
 |pass|brk|cont
 |ret (e:Option T)
 |asg (t:Tgt) (e:T)
 |rW (t u:Tgt) (e:T)
 |bz (o:T) (name:af) (e:T)
 |fW (o i:T) (e:T)
 |aug (t:Tgt) (op:Bop) (e:T)
 |n7 (o:T) (name:af) (op:Bop) (e:T)
 |sZ (o i:T) (op:Bop) (e:T)
 |ite (c:T) (a b:List TS)
 |jD (c:T) (a:List TS)
 |eL (t:Tgt) (it:T) (a:List TS)
 |bad
structure Pl where
 name:af
 params:List af
 names:List (af×bM)
 body:List TS
 cl:List (af×Loc)
set_option genCtorIdx true in
inductive O where
 |inst (c:ao) (fs:List (af×V))
 |list (xs:List V)
 |tup (xs:List V)
 |dict (es:List (aJ×V))
 |cell (v:Option V)
 |range (n:Nat)
 |iS (c:Pl)
structure St where
 loc:af->Option V
 H:Loc->Option O
 n:Loc
noncomputable def ah{α β:Type}[DecidableEq α](f:α->β)(a:α)(b:β):α->β:=λ x=>if x=a then b else f x
theorem aa{α β:Type}[DecidableEq α](f:α->β)(a:α)(b:β):ah f a b a=b:=if_pos Y
theorem cx{α β:Type}[DecidableEq α](f:α->β){a x:α}(b:β)(h:x≠a):ah f a b x=f x:=if_neg h
theorem ae{α β:Type}[DecidableEq α]{f:α->β}{a x:α}{b:β}(h:x≠a):ah f a b x=f x:=if_neg h
noncomputable abbrev M(α:Type):=St->Option (α×St)
noncomputable def ret{α:Type}(a:α):M α:=λ N=>U (a,N)
noncomputable def aI{α β:Type}(m:M α)(f:α->M β):M β:=λ N=>(m N).bind λ p=>f p.1 p.2
noncomputable def bj{α:Type}:M α:=λ _=>F
noncomputable def uS{α:Type}(o:Option α):M α:=λ N=>o.map λ a=>(a,N)
noncomputable def getL(x:af):M V:=λ N=>(N.loc x).map λ v=>(v,N)
noncomputable def pZ(x:af)(v:V):M Unit:=λ N=>U ((),{N with loc:=ah N.loc x (U v)})
noncomputable def look(l:Loc):M O:=λ N=>(N.H l).map λ o=>(o,N)
noncomputable def put(l:Loc)(o:O):M Unit:=λ N=>U ((),{N with H:=ah N.H l (U o)})
noncomputable def alloc(o:O):M Loc:=λ N=>U (N.n,{loc:=N.loc,H:=ah N.H N.n (U o),n:=N.n+1})
noncomputable def new(o:O):M V:=aI (alloc o) λ l=>ret ↥l
noncomputable def oe(x:af)(v:V):List (af×V)->List (af×V)
 |[]=>[(x,v)]
 |(y,w)::r=>if y=x then(y,v)::r else(y,w)::oe x v r
theorem Se{v w:V}:oe x v ((y,w)::r)=if y=x then(y,v)::r else(y,w)::oe x v r:=rfl
noncomputable def fO(k:aJ)(v:V)(es:List (aJ×V)):List (aJ×V):=
 if es.any (λ e=>decide (e.1=k))then es.map (λ e=>if e.1=k then(e.1,v)else e)else es++[(k,v)]
noncomputable def xH(k:aJ)(es:List (aJ×V)):List (aJ×V):=es.filter λ e=>decide (e.1≠k)
noncomputable def atK(es:List (aJ×V))(k:aJ):Option V:=(es.find? λ e=>decide (e.1=k)).map (·.2)
noncomputable def aJ.toV:aJ->Option V
 |.int i=>U (.int i)
 |.str s=>U (.str s)
 |.tup _ _=>F
structure Fn where
 params:List af
 jM:List V
 names:List (af×bM)
 body:List TS
structure Fp where
 init:ao
 meths:List (af×ao)
 fields:List af
 sup:List ao
structure Gl where
 glob:af->Option V
 fn:ao->Option Fn
 cls:ao->Option Fp
noncomputable def PV{α:Type}(l:Loc)(f:O->Option α):M α:=λ N=>((N.H l).bind f).bind λ a=>U (a,N)
noncomputable def wrO{α:Type}(l:Loc)(f:O->Option O)(a:α):M α:=λ N=>((N.H l).bind f).bind λ o=>U (a,{loc:=N.loc,H:=ah N.H l (U o),n:=N.n})
noncomputable def U1(l:Loc)(f:O->Option O):M V:=λ N=>((N.H l).bind f).bind λ o=>U (↥N.n,{loc:=N.loc,H:=ah N.H N.n (U o),n:=N.n+1})
noncomputable def rwO(l:Loc)(f:O->Option (V×O)):M V:=λ N=>((N.H l).bind f).bind λ p=>U (p.1,{loc:=N.loc,H:=ah N.H l (U p.2),n:=N.n})
noncomputable def CI:O->Option V
 |.cell v=>v
 |_=>F
noncomputable def lU:O->Option Unit
 |.cell _=>U ()
 |_=>F
noncomputable def fK(cs:List (af×Loc))(x:af):M V:=λ N=>((cs.lookup x).bind λ l=>(N.H l).bind CI).bind λ v=>U (v,N)
noncomputable def setC(cs:List (af×Loc))(x:af)(v:V):M Unit:=λ N=>(cs.lookup x).bind λ l=>((N.H l).bind lU).bind λ _=>U ((),{loc:=N.loc,H:=ah N.H l (U (.cell (U v))),n:=N.n})
noncomputable def ff(cs:List (af×Loc)):Tgt->V->M Unit
 |.loc x,v=>pZ x v
 |.cW x,v=>setC cs x v
noncomputable def NY(cs:List (af×Loc)):Tgt->M V
 |.loc x=>getL x
 |.cW x=>fK cs x
noncomputable def V.toStr:V->Option af
 |.str x=>U x
 |_=>F
noncomputable def strsOf:List V->Option (List af)
 |[]=>U []
 |v::r=>v.toStr.bind λ x=>(strsOf r).bind λ xs=>U (x::xs)
noncomputable def PG:O->Option (af×Loc)
 |.tup [.str s,.ref l]=>U (s,l)
 |_=>F
noncomputable def tupS:O->Option (List af)
 |.tup vs=>strsOf vs
 |_=>F
noncomputable def qe(H:Loc->Option O):V->Option aJ
 |.int i=>U (.int i)
 |.str s=>U (.str s)
 |.ref l=>(H l).bind λ o=>(PG o).bind λ p=>(H p.2).bind λ o'=>(tupS o').bind λ b=>U (.tup p.1 b)
 |_=>F
noncomputable def aJ.tag:aJ->J|.int _=>0|.str _=>1|.tup _ _=>2
noncomputable def aJ.isInt(k:aJ):bG:=k.tag==0
noncomputable def aJ.isStr(k:aJ):bG:=k.tag==1
noncomputable def aJ.isTup(k:aJ):bG:=k.tag==2
noncomputable def aJ.fC(k g:aJ):bG:=g.tag==k.tag
noncomputable def aaK(k:aJ):O->Option (List (aJ×V))
 |.dict es=>if es.all (λ e=>k.fC e.1)then U es else F
 |_=>F
noncomputable def idx(xs:List V)(i:Int):Option J:=
 if 0<=i then(if i<xs.length then U i.toNat else F)else(if 0<=i+xs.length then U (i+xs.length).toNat else F)
noncomputable def rM:O->O->Option O
 |.list xs,o=>match o with
  |.list ys=>if xs.length+ys.length<=1000 then U ⇑(xs++ys)else F
  |_=>F
 |_,_=>F
noncomputable def binI(op:Bop)(x y:Int):Option Int:=match op with
 |.add=>U (x+y)
 |.sub=>U (x -y)
 |.mod=>if 0<y/\y<1000 then U (x%y)else F
noncomputable def Bop.isAdd:Bop->bG|.add=>ai|_=>aj
noncomputable def binop(op:Bop)(a b:V):M V:=match a with
 |.int x=>(match b with
  |.int y=>λ N=>(binI op x y).bind λ i=>U (.int i,N)
  |_=>bj)
 |.str x=>(match b with
  |.str y=>if op.isAdd=ai/\x.length+y.length<=1000 then ret (.str (x++y))else bj
  |_=>bj)
 |.ref l=>(match b with
  |.ref Q=>if op.isAdd then λ N=>((N.H l).bind λ o=>(N.H Q).bind (rM o)).bind λ o=>U (↥N.n,{loc:=N.loc,H:=ah N.H N.n (U o),n:=N.n+1})else bj
  |_=>bj)
 |_=>bj
noncomputable def HR(op:Bop)(x y:Int):Option Int:=match op with
 |.add=>U (x+y)
 |.sub=>U (x -y)
 |.mod=>F
noncomputable def ix(op:Bop)(a b:V):M V:=match a with
 |.int x=>(match b with
  |.int y=>λ N=>(HR op x y).bind λ i=>U (.int i,N)
  |_=>bj)
 |.ref l=>(match b with
  |.ref Q=>if op.isAdd=ai/\l≠Q then λ N=>((N.H l).bind λ o=>(N.H Q).bind (rM o)).bind λ o=>U (↥l,{loc:=N.loc,H:=ah N.H l (U o),n:=N.n})else bj
  |_=>bj)
 |_=>bj
noncomputable def IU:V->Option PyData
 |.int i=>U (.int i)
 |.str s=>U (.str s)
 |.bool b=>U (.bool b)
 |_=>F
noncomputable def lN:V->V->Option bG
 |.int a,v=>match v with|.int b=>U (decide (a=b))|_=>F
 |.str a,v=>match v with|.str b=>U (decide (a=b))|_=>F
 |.bool a,v=>match v with|.bool b=>U (decide (a=b))|_=>F
 |_,_=>F
noncomputable def s6{α β:Type}(f:α->Option β):List α->Option (List β)
 |[]=>U []
 |a::r=>(f a).bind λ x=>(s6 f r).bind λ xs=>U (x::xs)
noncomputable def V.Dl:V->Option Loc
 |.ref l=>U l
 |_=>F
noncomputable def Uv(f:V->Option PyData):O->Option PyData
 |.list xs=>(s6 f xs).map PyData.list
 |.tup xs=>(s6 f xs).map B4
 |_=>F
noncomputable def dat(H:Loc->Option O):J->V->Option PyData
 |0,v=>IU v
 |k+1,v=>match v.Dl with
  |some l=>(H l).bind (Uv (dat H k))
  |none=>IU v
noncomputable def zi(a b:V):M bG:=λ N=>(dat N.H 3 a).bind λ x=>(dat N.H 3 b).bind λ y=>if jr x&&jr y&&lZ x y then U (jw x y,N)else F
noncomputable def cI(v:V)(xs:List V):Option bG:=
 if xs.all (λ x=>(lN v x).isSome)then U (xs.any λ x=>lN v x==U ai)else F
noncomputable def V.isBool:V->bG|.bool _=>ai|_=>aj
noncomputable def adM(H:Loc->Option O)(v:V):O->Option bG
 |.list xs=>cI v xs
 |.tup xs=>cI v xs
 |.dict es=>(qe H v).bind λ k=>if es.all (λ e=>k.fC e.1)then U (es.any λ e=>decide (e.1=k))else F
 |_=>F
noncomputable def J6(v c:V):M bG:=match c with
 |.ref l=>if v.isBool then bj else λ N=>((N.H l).bind (adM N.H v)).bind λ b=>U (b,N)
 |_=>bj
noncomputable def HV:V->Option bG
 |.none=>U ai
 |.con _=>F
 |_=>U aj
noncomputable def V.toInt:V->Option Int
 |.int i=>U i
 |_=>F
noncomputable def isQ(a b:V):Option bG:=match b with
 |.none=>HV a
 |_=>F
noncomputable def ew(op:Cop)(a b:V):M bG:=match op with
 |.eq=>zi a b
 |.ne=>aI (zi a b) λ x=>ret !x
 |.lt=>λ N=>(a.toInt.bind λ x=>b.toInt.bind λ y=>U (decide (x<y))).bind λ t=>U (t,N)
 |.gt=>λ N=>(a.toInt.bind λ x=>b.toInt.bind λ y=>U (decide (y<x))).bind λ t=>U (t,N)
 |.is=>λ N=>(isQ a b).bind λ t=>U (t,N)
 |.fj=>λ N=>(isQ a b).bind λ t=>U (!t,N)
 |.isin=>J6 a b
 |.eW=>aI (J6 a b) λ x=>ret !x
noncomputable def RW:O->Option bG
 |.list xs=>if xs.length<2^60 then U (!xs.isEmpty)else F
 |_=>F
noncomputable def truth(v:V):M bG:=match v with
 |.bool b=>ret b
 |.ref l=>PV l RW
 |_=>bj
noncomputable def X9:V->Option V
 |.con _=>F
 |v=>U v
noncomputable def S9(G:Gl)(nm:af):O->Option V
 |.inst c fs=>(G.cls c).bind λ S=>if S.fields.contains nm then(fs.lookup nm).bind X9 else F
 |_=>F
noncomputable def setG(G:Gl)(nm:af)(x:V):O->Option O
 |.inst c fs=>(G.cls c).bind λ S=>if S.fields.contains nm/\fs.length<=100 then U (.inst c (oe nm x fs))else F
 |_=>F
noncomputable def jT(G:Gl)(v:V)(name:af):M V:=match v with
 |.ref l=>PV l (S9 G name)
 |_=>bj
noncomputable def te(G:Gl)(v:V)(name:af)(x:V):M Unit:=match v with
 |.ref l=>wrO l (setG G name x) ()
 |_=>bj
noncomputable def Tw(k:aJ):O->Option V
 |.dict es=>if es.all (λ e=>k.fC e.1)then atK es k else F
 |_=>F
noncomputable def yO(k:Int):O->Option V
 |.list xs=>if xs.length<=1000 then(idx xs k).bind (xs[·]?)else F
 |.tup xs=>if xs.length<=1000 then(idx xs k).bind (xs[·]?)else F
 |o=>Tw (.int k) o
noncomputable def atS(k:af):O->Option V:=Tw (.str k)
noncomputable def atV(H:Loc->Option O):V->O->Option V
 |.int k=>yO k
 |v=>λ o=>(qe H v).bind λ k=>Tw k o
noncomputable def fD(o i:V):M V:=match o with
 |.ref l=>λ N=>((N.H l).bind (atV N.H i)).bind λ v=>U (v,N)
 |_=>bj
noncomputable def putD(k:aJ)(v:V):O->Option O
 |.dict es=>if es.all (λ e=>k.fC e.1)/\es.length<=1000 then U (.dict (fO k v es))else F
 |_=>F
noncomputable def fm(k:Int)(v:V):O->Option O
 |.list xs=>if xs.length<=1000 then(idx xs k).bind (λ j=>U ⇑(xs.set j v))else F
 |o=>putD (.int k) v o
noncomputable def ia(k:af)(v:V):O->Option O:=putD (.str k) v
noncomputable def adL(H:Loc->Option O)(i v:V):O->Option O:=match i with
 |.int k=>fm k v
 |i=>λ o=>(qe H i).bind λ k=>putD k v o
noncomputable def jc(o i v:V):M Unit:=match o with
 |.ref l=>λ N=>((N.H l).bind (adL N.H i v)).bind λ o=>U ((),{loc:=N.loc,H:=ah N.H l (U o),n:=N.n})
 |_=>bj
noncomputable def ts(d:J):Option V->Option J
 |none=>U d
 |some v=>v.toInt.bind λ i=>if 0<=i/\i<2^60 then U i.toNat else F
noncomputable def MP(lo hi:Option V):O->Option O
 |.list xs=>if xs.length<=1000 then(ts 0 lo).bind λ a=>(ts xs.length hi).bind λ b=>U ⇑((xs.take b).drop a)else F
 |_=>F
noncomputable def oV(o:V)(lo hi:Option V):M V:=match o with
 |.ref l=>U1 l (MP lo hi)
 |_=>bj
inductive Meth where
 |fn (f:V) (first:List V)
 |append (l:Loc)
 |lh (l:Loc)
 |kA (l:Loc)
noncomputable def F5(G:Gl)(l:Loc)(nm:af):O->Option Meth
 |.inst c fs=>(G.cls c).bind λ S=>match S.meths.lookup nm with
  |some f=>if(fs.lookup nm).isNone then U (.fn (.con ↥f) [↥l])else F
  |none=>if S.fields.contains nm then(fs.lookup nm).bind (λ f=>f.Dl.bind λ Q=>U (.fn ↥Q []))else F
 |.list _=>if nm=s!"append" then U (.append l)else if nm=s!"pop" then U (.lh l)else F
 |.dict es=>if nm=s!"pop"/\(es.all (λ e=>e.1.isStr)=ai\/es.all (λ e=>e.1.isInt)=ai)then U (.kA l)else F
 |_=>F
noncomputable def oh:V->Option ao
 |.con v=>match v with|.ref c=>U c|_=>F
 |_=>F
noncomputable def qX(G:Gl)(v:V)(name:af):M Meth:=match v with
 |.ref l=>PV l (F5 G l name)
 |v=>λ N=>((oh v).bind λ c=>(G.cls c).bind λ S=>if name=s!"__init__" then U (.fn (.con ↥S.init) [])else F).bind λ m=>U (m,N)
set_option genCtorIdx true in
inductive It where
 |list (l:Loc) (xs:List V)
 |range (n:Nat)
noncomputable def O0(l:Loc):O->Option It
 |.list xs=>U (.list l xs)
 |.range n=>if n<1000 then U (.range n)else F
 |_=>F
noncomputable def dG:V->M It
 |.ref l=>PV l (O0 l)
 |_=>bj
noncomputable def It.items:It->List V
 |.list _ xs=>xs
 |.range n=>(fp n).map λ(i:J)=>V.int (i:Int)
noncomputable def PU(xs:List V):O->Option Unit
 |.list ys=>if ys=xs then U ()else F
 |_=>F
noncomputable def It.ok:It->M Unit
 |.list l xs=>PV l (PU xs)
 |.range _=>ret ()
noncomputable def aJ.Ff:aJ->Option af
 |.str s=>U s
 |_=>F
noncomputable def Ph:O->Option (List af)
 |.dict es=>if es.all (λ e=>e.1.isStr)/\es.length<=1000 then U (es.filterMap λ e=>e.1.Ff)else F
 |_=>F
noncomputable def gE:V->M (List af)
 |.ref l=>PV l Ph
 |_=>bj
noncomputable def lD(f:af->M V):List af->M (List V)
 |[]=>ret []
 |x::r=>aI (f x) λ v=>aI (lD f r) λ vs=>ret (v::vs)
theorem NI:lD f []=ret []:=rfl
theorem Ck:lD f (x::r)=aI (f x) λ v=>aI (lD f r) λ vs=>ret (v::vs):=rfl
set_option genCtorIdx true in
inductive Fl where
 |next|brk|cont|ret (v:V)
noncomputable def forM(it:It)(f:V->M Fl):List V->M Fl
 |[]=>aI it.ok λ _=>ret .next
 |x::r=>aI it.ok λ _=>aI (f x) λ fl=>match fl with
  |.next|.cont=>forM it f r
  |.brk=>ret .next
  |.ret v=>ret (.ret v)
noncomputable def fy{α:Type}(it:It)(f:V->M (Option α)):List V->M (List α)
 |[]=>aI it.ok λ _=>ret []
 |x::r=>aI it.ok λ _=>aI (f x) λ y=>aI (fy it f r) λ ys=>ret (match y with|some v=>v::ys|none=>ys)
noncomputable def jl(c:M bG)(f:M Fl):J->M Fl
 |0=>bj
 |n+1=>aI c λ b=>if b then aI f λ fl=>match fl with
  |.next|.cont=>jl c f n
  |.brk=>ret .next
  |.ret v=>ret (.ret v)
  else ret .next
theorem xG{c:M bG}:jl c f (n+1)=aI c λ b=>if b then aI f λ fl=>match fl with
 |.next|.cont=>jl c f n
 |.brk=>ret .next
 |.ret v=>ret (.ret v)
 else ret .next:=rfl
noncomputable def turns:J:=100000
noncomputable def inner{α:Type}(m:M α):M α:=λ N=>(m {N with loc:=λ _=>F}).map λ p=>(p.1,{p.2 with loc:=N.loc})
noncomputable def once{α:Type}(x:af)(v:V)(m:M α):M α:=aI (pZ x v) λ _=>m
noncomputable def V.isStr:V->bG|.str _=>ai|_=>aj
noncomputable def zx(xs:List V):bG:=xs.all V.isStr
noncomputable def jo(i:Int):List Int->List Int
 |[]=>[i]
 |j::r=>if i<=j then i::j::r else j::jo i r
theorem uO:jo i (j::r)=if i<=j then i::j::r else j::jo i r:=rfl
noncomputable def sortI:List Int->List Int
 |[]=>[]
 |i::r=>jo i (sortI r)
theorem abd:sortI (i::r)=jo i (sortI r):=rfl
theorem ni(i:Int)(l:List Int):(jo i l).Perm (i::l):=by
 induction l with
 |nil=>exact .refl _
 |cons j r X=>
  rw[uO];by_cases q:i<=j
  .rw[if_pos q]
  .rw[if_neg q];exact(X.cons j).trans (.swap i j r)
theorem sortI_perm(l:List Int):(sortI l).Perm l:=by
 induction l with
 |nil=>exact .refl _
 |cons i r X=>exact(ni i _).trans (X.cons i)
theorem sH(i:Int)(l:List Int)(h:l.Pairwise (·<=·)):(jo i l).Pairwise (·<=·):=by
 induction l with
 |nil=>exact F0 ..
 |cons j r X=>
  rw[uO];obtain h1|h2:=wY.mp h;by_cases q:i<=j
  .rw[if_pos q];refine wY.mpr ⟨λ x g=>?_,h⟩;rcases dK.mp g with rfl|g
   .exact q
   .exact Av q (h1 x g)
  .rw[if_neg q];refine wY.mpr ⟨λ x g=>?_,X h2⟩;rcases dK.mp ((ni i r).mem_iff.mp g)with rfl|g
   .exact abF q
   .exact h1 x g
theorem mQ(l:List Int):(sortI l).Pairwise (·<=·):=by
 induction l with
 |nil=>exact .nil
 |cons i r X=>exact sH i _ X
noncomputable def JM(G:Gl)(c:ao):O->Option bG
 |.inst d _=>(G.cls d).bind λ S=>(G.cls c).bind λ _=>U (S.sup.contains c)
 |_=>F
noncomputable def isInt:V->bG
 |.con v=>(match v with|.type t=>t="int"|_=>aj)
 |_=>aj
noncomputable def Q0(G:Gl)(c:V):bG:=match oh c with
 |some c=>(G.cls c).isSome
 |none=>aj
noncomputable def nsI(G:Gl)(c:V)(str:bG):M bG:=if(Q0 G c||str&&isInt c)=ai then ret aj else bj
noncomputable def bZ(G:Gl)(v:V)(c:V):M bG:=match v with
 |.ref l=>λ N=>((oh c).bind λ c=>(N.H l).bind (JM G c)).bind λ b=>U (b,N)
 |.none=>nsI G c aj
 |.str _=>nsI G c ai
 |_=>bj
noncomputable def intKeys:List (aJ×V)->Option (List Int)
 |[]=>U []
 |e::r=>match e.1 with
  |.int i=>(intKeys r).map (i::·)
  |_=>F
theorem Tj{e:aJ×V}:intKeys (e::r)=match e.1 with
 |.int i=>(intKeys r).map (i::·)
 |_=>F:=rfl
noncomputable def uI{α:Type}(f:Loc->M α)(v:V):M α:=match v.Dl with
 |some l=>f l
 |none=>bj
noncomputable def lr(f:V->M V):List V->M V
 |[v]=>f v
 |_=>bj
noncomputable def Qb(f:V->V->M V):List V->M V
 |[v,w]=>f v w
 |_=>bj
noncomputable def Rg:O->Option V
 |.list xs=>if xs.length<=1000 then U (.int xs.length)else F
 |_=>F
noncomputable def t8:O->Option O
 |.dict es=>(intKeys es).bind λ is=>if is.length<64 then U ⇑((sortI is).map .int)else F
 |_=>F
noncomputable def pL:O->Option O
 |.dict es=>if es.all (λ e=>e.1.isStr)/\es.length<=1000 then U ⇑(es.filterMap λ e=>e.1.toV)else F
 |_=>F
noncomputable def Mb:O->Option O
 |.list xs=>if zx xs/\xs.length<=1000 then U (.tup xs)else F
 |_=>F
noncomputable def KH(v:V):M V:=match v.toInt with
 |some i=>if 0<=i/\i<1000 then new (.range i.toNat)else bj
 |none=>bj
noncomputable def Yq(v:V):M V:=match v.toInt with
 |some i=>if 0<=i/\i<1000 then ret (.str (cZ (toString i)))else bj
 |none=>bj
noncomputable def xB(G:Gl)(b:String):List V->M V:=
 if b="len" then lr (uI λ l=>PV l Rg)else if b="isinstance" then Qb (λ v c=>aI (bZ G v c) λ b=>ret (.bool b))else if b="sorted" then lr (uI λ l=>U1 l t8)else λ _=>bj
noncomputable def zZ(t:String):List V->M V:=
 if t="list" then lr (uI λ l=>U1 l pL)else if t="tuple" then lr (uI λ l=>U1 l Mb)else if t="range" then lr KH else if t="str" then lr Yq else λ _=>bj
noncomputable def eh(G:Gl)(cf:V->List V->M V)(f:V)(as:List V):M V:=match f with
 |.con v=>(match v with
  |.builtin b=>xB G b as
  |.type t=>zZ t as
  |v=>cf (.con v) as)
 |f=>cf f as
noncomputable def AB(v:V):O->Option O
 |.list xs=>if xs.length<=1000 then U ⇑(xs++[v])else F
 |_=>F
noncomputable def Au:O->Option (V×O)
 |.list xs=>if xs.length<=1000 then(xs.getLast?).bind λ v=>U (v,⇑xs.dropLast)else F
 |_=>F
noncomputable def zV:O->Option (V×O)
 |.list xs=>match xs with
  |v::r=>if r.length<=1000 then U (v,⇑r)else F
  |[]=>F
 |_=>F
noncomputable def zU(x:af):O->Option (V×O)
 |.dict es=>if es.all (λ e=>(aJ.str x).fC e.1)/\es.length<=1000 then(atK es (.str x)).bind λ v=>U (v,.dict (xH (.str x) es))else F
 |_=>F
noncomputable def wT(x:Int):O->Option Unit
 |.dict es=>if es.all (λ e=>(aJ.int x).fC e.1)/\(atK es (.int x)).isNone then U ()else F
 |_=>F
noncomputable def lh(l:Loc):List V->M V
 |[]=>rwO l Au
 |[v]=>if v=.int 0 then rwO l zV else bj
 |_=>bj
noncomputable def kA(l:Loc):List V->M V
 |[v]=>(match v with|.str x=>rwO l (zU x)|_=>bj)
 |[v,d]=>(match v with|.int x=>λ N=>((N.H l).bind (wT x)).bind λ _=>U (d,N)|_=>bj)
 |_=>bj
noncomputable def lE(cf:V->List V->M V)(m:Meth)(as:List V):M V:=match m with
 |.fn f first=>cf f (first++as)
 |.append l=>lr (λ v=>wrO l (AB v) .none) as
 |.lh l=>lh l as
 |.kA l=>kA l as
noncomputable def bv:List (aJ×V)->List (aJ×V)->List (aJ×V)
 |acc,[]=>acc
 |acc,(k,v)::r=>bv (fO k v acc) r
noncomputable def strKeys(ks:List V):Option (List aJ):=(strsOf ks).map λ l=>l.map aJ.str
section
variable(G:Gl)(cf:V->List V->M V)(cs:List (af×Loc))
mutual
noncomputable def ap:T->M V
 |.lit v=>ret v
 |.loc x=>getL x
 |.cW x=>fK cs x
 |.bin op l r=>aI (ap l) λ a=>aI (ap r) λ b=>binop op a b
 |.neg x=>aI (ap x) λ v=>match v with|.int i=>ret (.int (-i))|_=>bj
 |.ite c a b=>aI (c7 c (ap c)) λ t=>if t then ap a else ap b
 |.dict ks vs=>aI (cX ks) λ a=>aI (cX vs) λ b=>match strKeys a with
  |some ks=>if ks.length=b.length/\ks.length<=15 then new (.dict (bv [] (ks.zip b)))else bj
  |none=>bj
 |.list es=>aI (cX es) λ vs=>if vs.length<=1000 then new ⇑vs else bj
 |.tup es=>aI (cX es) λ vs=>if vs.length<=1000 then new (.tup vs)else bj
 |.fR elt x it ifs=>aI (ap it) λ i=>aI (dG i) λ i=>
  if i.items.length<=1000 then
  aI (inner (fy i (λ v=>once x v (aI (ej ifs) λ b=>if b then aI (ap elt) λ y=>ret (U y)else ret F)) i.items)) λ ys=>new ⇑ys
  else bj
 |.iK a n _ it=>aI (ap it) λ i=>aI (gE i) λ ks=>aI (lD (λ k=>aI (fK cs a) λ o=>aI (jT G o n) λ t=>fD t (.str k)) ks) λ ys=>new ⇑ys
 |.mP k v x it=>aI (ap it) λ i=>aI (dG i) λ i=>
  if i.items.length<=1000 then
  aI (inner (fy i (λ w=>once x w (aI (ap k) λ a=>match a with
   |.int j=>aI (ap v) λ b=>ret (U (aJ.int j,b))
   |_=>bj)) i.items)) λ ys=>new (.dict (bv [] ys))
  else bj
 |.cmp op l r=>aI (ap l) λ a=>aI (ap r) λ b=>aI (ew op a b) λ c=>ret (.bool c)
 |.aK o name args=>aI (ap o) λ v=>aI (qX G v name) λ m=>aI (cX args) λ as=>lE cf m as
 |.call f args=>aI (ap f) λ f=>aI (cX args) λ as=>eh G cf f as
 |.attr o name=>aI (ap o) λ v=>jT G v name
 |.sub o i=>aI (ap o) λ a=>aI (ap i) λ b=>fD a b
 |.slice o lo hi=>aI (ap o) λ a=>aI (jx lo) λ l=>aI (jx hi) λ h=>oV a l h
 |.not _=>bj
 |.all _=>bj
 |.any _=>bj
 |.bad=>bj
noncomputable def c7:T->M V->M bG
 |.not x,_=>aI (c7 x (ap x)) λ b=>ret !b
 |.all es,_=>ej es
 |.any es,_=>pg es
 |.cmp op l r,_=>aI (ap l) λ a=>aI (ap r) λ b=>ew op a b
 |.ite _ _ _,_=>bj
 |_,whole=>aI whole truth
noncomputable def ej:List T->M bG
 |[]=>ret ai
 |e::r=>aI (c7 e (ap e)) λ b=>if b then ej r else ret aj
noncomputable def pg:List T->M bG
 |[]=>ret aj
 |e::r=>aI (c7 e (ap e)) λ b=>if b then ret ai else pg r
noncomputable def cX:List T->M (List V)
 |[]=>ret []
 |e::r=>aI (ap e) λ v=>aI (cX r) λ vs=>ret (v::vs)
noncomputable def jx:Option T->M (Option V)
 |none=>ret F
 |some e=>aI (ap e) λ v=>ret (U v)
end
mutual
noncomputable def c6:TS->M Fl
 |.expr e=>aI (ap G cf cs e) λ _=>ret .next
 |.pass=>ret .next
 |.brk=>ret .brk
 |.cont=>ret .cont
 |.ret F=>ret (.ret .none)
 |.ret (U e)=>aI (ap G cf cs e) λ v=>ret (.ret v)
 |.asg t e=>aI (ap G cf cs e) λ v=>aI (ff cs t v) λ _=>ret .next
 |.rW t I e=>aI (ap G cf cs e) λ v=>match v with
  |.ref l=>aI (look l) λ o=>match o with
   |.tup [a,b]=>aI (ff cs t a) λ _=>aI (ff cs I b) λ _=>ret .next
   |_=>bj
  |_=>bj
 |.bz o name e=>aI (ap G cf cs e) λ v=>aI (ap G cf cs o) λ j=>aI (te G j name v) λ _=>ret .next
 |.fW o i e=>aI (ap G cf cs e) λ v=>aI (ap G cf cs o) λ j=>aI (ap G cf cs i) λ k=>aI (jc j k v) λ _=>ret .next
 |.aug t op e=>aI (NY cs t) λ a=>aI (ap G cf cs e) λ b=>aI (ix op a b) λ v=>aI (ff cs t v) λ _=>ret .next
 |.n7 o name op e=>aI (ap G cf cs o) λ j=>aI (jT G j name) λ a=>aI (ap G cf cs e) λ b=>aI (ix op a b) λ v=>aI (te G j name v) λ _=>ret .next
 |.sZ o i op e=>aI (ap G cf cs o) λ j=>aI (ap G cf cs i) λ k=>aI (fD j k) λ a=>aI (ap G cf cs e) λ b=>aI (ix op a b) λ v=>aI (jc j k v) λ _=>ret .next
 |.ite c a b=>aI (c7 G cf cs c (ap G cf cs c)) λ t=>if t then ay a else ay b
 |.jD c a=>jl (c7 G cf cs c (ap G cf cs c)) (ay a) turns
 |.eL t it a=>aI (ap G cf cs it) λ i=>aI (dG i) λ i=>forM i (λ v=>aI (ff cs t v) λ _=>ay a) i.items
 |.bad=>bj
noncomputable def ay:List TS->M Fl
 |[]=>ret .next
 |s::r=>aI (c6 s) λ fl=>match fl with
  |.next=>ay r
  |fl=>ret fl
end
end
noncomputable def dg:List (af×bM)->List (af×Loc)->M (List (af×Loc))
 |[],acc=>ret acc
 |(x,k)::r,acc=>if k==.cell then aI (alloc (.cell F)) λ l=>dg r ((x,l)::acc)else dg r acc
theorem lM:dg ((x,k)::r) acc=if k==.cell then aI (alloc (.cell F)) λ l=>dg r ((x,l)::acc)else dg r acc:=rfl
noncomputable def bindAll(names:List (af×bM))(cs:List (af×Loc)):List (af×V)->M Unit
 |[]=>ret ()
 |(x,v)::r=>match names.lookup x with
  |some .local=>aI (pZ x v) λ _=>bindAll names cs r
  |some .cell=>aI (setC cs x v) λ _=>bindAll names cs r
  |_=>bj
theorem gI{names:List (af×bM)}{v:V}:bindAll names cs ((x,v)::r)=match names.lookup x with
 |some .local=>aI (pZ x v) λ _=>bindAll names cs r
 |some .cell=>aI (setC cs x v) λ _=>bindAll names cs r
 |_=>bj:=rfl
noncomputable def bindArgs(params:List af)(jM:List V)(args:List V):Option (List (af×V)):=
 if args.length+jM.length=params.length then U (params.zip (args++jM))else F
noncomputable def kw{α:Type}(m:M α):M α:=λ N=>(m {N with loc:=λ _=>F}).map λ p=>(p.1,{p.2 with loc:=N.loc})
noncomputable def flV:Fl->M V
 |.ret v=>ret v
 |.next=>ret .none
 |_=>bj
noncomputable def rO(G:Gl)(cf:V->List V->M V)(fn:Fn)(args:List V):M V:=aI (uS (bindArgs fn.params fn.jM args)) λ bs=>kw (aI (dg fn.names []) λ cs=>aI (bindAll fn.names cs bs) λ _=>aI (ay G cf cs fn.body) flV)
noncomputable def An(G:Gl)(cf:V->List V->M V)(c:Pl)(args:List V):M V:=aI (uS (bindArgs c.params [] args)) λ bs=>kw (aI (bindAll c.names c.cl bs) λ _=>aI (ay G cf c.cl c.body) flV)
noncomputable def aq(G:Gl):J->V->List V->M V
 |0,_,_=>bj
 |d+1,f,args=>match f with
  |.con (.ref a)=>match G.fn a with
   |some fn=>rO G (aq G d) fn args
   |none=>match G.cls a with
    |some S=>match G.fn S.init with
     |some fn=>aI (alloc (.inst a [])) λ l=>aI (rO G (aq G d) fn (↥l::args)) λ r=>match r with
      |.none=>ret ↥l
      |_=>bj
     |none=>bj
    |none=>bj
  |.ref l=>aI (look l) λ o=>match o with
   |.iS c=>An G (aq G d) c args
   |_=>bj
  |_=>bj
noncomputable def nO:lW->Option Bop
 |.Add=>U .add|.Sub=>U .sub|.Mod=>U .mod|_=>F
noncomputable def Hs:CmpOp->Option Cop
 |.Eq=>U .eq|.NotEq=>U .ne|.Lt=>U .lt|.Gt=>U .gt|.Is=>U .is|.IsNot=>U .fj|.In=>U .isin|.NotIn=>U .eW|_=>F
noncomputable def iN(gl:af->Option V)(kd:af->Option bM)(x:af):T:=match kd x with
 |some .local=>.loc x
 |some .cell|some .free=>if x==s!"__classdict__" then .bad else .cW x
 |some .globalImplicit=>match gl x with|some v=>.lit v|none=>.bad
 |_=>.bad
noncomputable def gv(kd:af->Option bM)(x:af):Option Tgt:=match kd x with
 |some .local=>U (.loc x)
 |some .cell=>U (.cW x)
 |_=>F
noncomputable def ey(kd:af->Option bM)(scope:c9):bG:=
 scope.kind==.function&&scope.names.all (λ p=>p.2 !=.cell&&(p.2 !=.local||scope.names.lookup p.1==U .local)&&(p.2 !=.free||kd p.1==U .cell||kd p.1==U .free))
noncomputable def notStar(e:aB):bG:=!(me e.ctorIdx (Expr.Starred e default).ctorIdx)
noncomputable def pick{α:Type}(k:J)(f:∀e:aB,e.ctorIdx=k->α)(e:aB):Option α:=if h:e.ctorIdx=k then U (f e h)else F
theorem k5{α:Type}{f:∀e:aB,e.ctorIdx=k->α}{e:aB}{a:α}(h:pick k f e=U a):∃k,f e k=a:=by
 unfold pick at h;by_cases q:e.ctorIdx=k
 .rw[dif_pos q]at h;exact⟨q,dT h⟩
 .rw[dif_neg q]at h;cases h
noncomputable def ft(e:aB):Option af:=pick 23 (λ e h=>AP (motive_1:=λ _=>af) e h λ x _=>x) e
noncomputable def G8(e:aB):Option aB:=(pick 16 (λ e h=>Expr.Call.elim (motive_1:=λ _=>aB×bG) e h λ f as ks _=>(f,as.isEmpty&&ks.isEmpty)) e).bind λ q=>if q.2 then U q.1 else F
noncomputable def kr(e:aB):bG:=((G8 e).bind ft).all (· !=s!"super")
noncomputable def xf(e:aB):Option (aB×af):=pick 20 (λ e h=>BR (motive_1:=λ _=>aB×af) e h λ o n _=>(o,n)) e
noncomputable def C2(e:aB):Option (aB×aB):=pick 21 (λ e h=>Bv (motive_1:=λ _=>aB×aB) e h λ o i _=>(o,i)) e
noncomputable def F9(c:Const):Option af:=if h:c.ctorIdx=5 then U (AM (motive:=λ _=>af) c h λ s=>s)else F
theorem Bq{c:Const}(h:F9 c=U x):c=.str x:=by
 unfold F9 at h;by_cases q:c.ctorIdx=5
 .rw[dif_pos q]at h;exact AM (motive:=λ c=>∀q,U (AM (motive:=λ _=>af) c q λ s=>s)=U x->c=.str x) c q (λ s _ h=>congrArg Const.str (dT h)) q h
 .rw[dif_neg q]at h;cases h
noncomputable def strOf(e:aB):Option af:=(pick 19 (λ e h=>BL (motive_1:=λ _=>Const) e h λ c _ _=>c) e).bind F9
noncomputable def pureOf(e:aB):Option (af×af×af):=
 (C2 e).bind λ p=>(xf p.1).bind λ q=>(ft q.1).bind λ a=>(ft p.2).map λ z=>(a,q.2,z)
noncomputable def gW(e:aB):bG:=!(me e.ctorIdx (Expr.Set [] 0 default).ctorIdx)
noncomputable def oT:Option T->T
 |some t=>t
 |none=>.bad
noncomputable def NC(q:Option (af×af×af))(scope:c9)(p:af×T×List T)(e:T):T:=match q,p.2.2 with
 |some q,[]=>if q.2.2==p.1&&scope.names.lookup q.1==U .free&&q.1 !=s!"__classdict__"&&q.1 !=s!"__debug__"&&q.2.2 !=s!"__debug__" then .iK q.1 q.2.1 p.1 p.2.1 else .bad
 |_,_=>.fR e p.1 p.2.1 p.2.2
section
variable(gl:af->Option V)
mutual
noncomputable def bU(kd:af->Option bM):aB->T
 |.Constant .none _ _=>.lit .none
 |.Constant (.bool b) _ _=>.lit (.bool b)
 |.Constant (.int i) _ _=>.lit (.int i)
 |.Constant (.str s) _ _=>.lit (.str s)
 |.Name x _=>if x==s!"__debug__" then .bad else iN gl kd x
 |.BinOp l op r _=>oT ((nO op).map λ o=>.bin o (bU kd l) (bU kd r))
 |.UnaryOp .USub x _=>.neg (bU kd x)
 |.UnaryOp .Not x _=>.not (bU kd x)
 |.BoolOp .And vs _=>.all (eD kd vs)
 |.BoolOp .Or vs _=>.any (eD kd vs)
 |.IfExp c a b _=>.ite (bU kd c) (bU kd a) (bU kd b)
 |.Dict ks vs _=>.dict (Bn kd ks) (eD kd vs)
 |.List es _=>.list (eD kd es)
 |.Tuple es _ _=>.tup (eD kd es)
 |.ListComp elt gens scope _=>oT ((ui kd (λ x=>scope.names.lookup x) gens).map λ p=>if ey kd scope&&scope.names.lookup p.1==U .local then NC (pureOf elt) scope p (bU (λ x=>scope.names.lookup x) elt)else .bad)
 |.DictComp k v gens scope _=>oT ((ui kd (λ x=>scope.names.lookup x) gens).map λ p=>if ey kd scope&&scope.names.lookup p.1==U .local&&p.2.2.isEmpty then .mP (bU (λ x=>scope.names.lookup x) k) (bU (λ x=>scope.names.lookup x) v) p.1 p.2.1 else .bad)
 |.Compare l [op] [r] _=>if gW r then oT ((Hs op).map λ o=>.cmp o (bU kd l) (bU kd r))else .bad
 |.Call (.Attribute o name apos) args [] pos=>if apos.endLine==pos.line&&kr o&&decide (args.length<30)then .aK (bU kd o) name (eD kd args)else .bad
 |.Call (.Name x _) args [] _=>if x==s!"__debug__" then .bad else .call (iN gl kd x) (eD kd args)
 |.Attribute o name _=>if kr o then .attr (bU kd o) name else .bad
 |.Subscript o (.Slice lo hi F _) _=>.slice (bU kd o) (Qi kd lo) (Qi kd hi)
 |.Subscript o i _=>.sub (bU kd o) (bU kd i)
 |_=>.bad
noncomputable def eD(kd:af->Option bM):List aB->List T
 |[]=>[]
 |e::r=>bU kd e::eD kd r
noncomputable def Bn(kd:af->Option bM):List (Option aB)->List T
 |[]=>[]
 |e::r=>trK kd e::Bn kd r
noncomputable def trK(a:af->Option bM):Option aB->T
 |some e=>match strOf e with|some s=>.lit (.str s)|none=>.bad
 |none=>.bad
noncomputable def Qi(kd:af->Option bM):Option aB->Option T
 |none=>F
 |some e=>U (bU kd e)
noncomputable def ui(kd a:af->Option bM):List jE->Option (af×T×List T)
 |[⟨t,it,ifs,k⟩]=>if k==0&&gW it then(ft t).map λ x=>(x,bU kd it,eD a ifs)else F
 |_=>F
end
noncomputable def nL(e:aB):bG:=!(me e.ctorIdx (Expr.ListComp e [] default default).ctorIdx||me e.ctorIdx (Expr.SetComp e [] default default).ctorIdx||me e.ctorIdx (Expr.DictComp e e [] default default).ctorIdx)
noncomputable def notTuple(e:aB):bG:=!(me e.ctorIdx (Expr.Tuple [] 0 default).ctorIdx)
noncomputable def k8:Option TS->TS
 |some s=>s
 |none=>.bad
noncomputable def pairOf(e:aB):Option (aB×aB):=(pick 25 (λ e h=>Expr.Tuple.elim (motive_1:=λ _=>List aB) e h λ es _ _=>es) e).bind λ es=>match es with
 |[a,b]=>U (a,b)
 |_=>F
noncomputable def aaP(kd:af->Option bM)(t e:aB):TS:=
 ((ft t).map λ x=>k8 ((gv kd x).map λ t=>.asg t (bU gl kd e))).getD<|
 ((pairOf t).map λ p=>if notTuple e then k8 ((ft p.1).bind λ x=>(ft p.2).bind λ y=>(gv kd x).bind λ t=>(gv kd y).map λ I=>.rW t I (bU gl kd e))else .bad).getD<|
 ((xf t).map λ p=>.bz (bU gl kd p.1) p.2 (bU gl kd e)).getD<|((C2 t).map λ p=>.fW (bU gl kd p.1) (bU gl kd p.2) (bU gl kd e)).getD .bad
noncomputable def YQ(kd:af->Option bM)(t:aB)(op:lW)(e:aB):TS:=
 ((ft t).map λ x=>k8 ((gv kd x).bind λ t=>(nO op).map λ o=>.aug t o (bU gl kd e))).getD<|
 ((xf t).map λ p=>k8 ((nO op).map λ op=>.n7 (bU gl kd p.1) p.2 op (bU gl kd e))).getD<|((C2 t).map λ p=>k8 ((nO op).map λ op=>.sZ (bU gl kd p.1) (bU gl kd p.2) op (bU gl kd e))).getD .bad
mutual
noncomputable def uw(kd:af->Option bM):cJ->TS
 |.Expr e _=>if nL e then .expr (bU gl kd e)else .bad
 |.Pass _=>.pass
 |.Break _=>.brk
 |.Continue _=>.cont
 |.Return F _=>.ret F
 |.Return (U e) _=>.ret (U (bU gl kd e))
 |.Assign [t] e _=>aaP gl kd t e
 |.AugAssign t op e _=>YQ gl kd t op e
 |.If c a b _=>.ite (bU gl kd c) (gy kd a) (gy kd b)
 |.While c a [] _=>.jD (bU gl kd c) (gy kd a)
 |.For g it a [] _=>if gW it then k8 ((ft g).bind λ x=>(gv kd x).map λ t=>.eL t (bU gl kd it) (gy kd a))else .bad
 |_=>.bad
noncomputable def gy(kd:af->Option bM):List cJ->List TS
 |[]=>[]
 |s::r=>uw kd s::gy kd r
end
end
section
variable{gl:af->Option V}{kd:af->Option bM}{p:bJ}{e l r o c a b i:aB}{es:List aB}{x:af}{k:J}
theorem afA:bU gl kd (.Constant .none k p)=.lit .none:=rfl
theorem afz{b:bG}:bU gl kd (.Constant (.bool b) k p)=.lit (.bool b):=rfl
theorem afC{i:Int}:bU gl kd (.Constant (.int i) k p)=.lit (.int i):=rfl
theorem afD:bU gl kd (.Constant (.str x) k p)=.lit (.str x):=rfl
theorem Q8:bU gl kd (.Name x p)=if x==s!"__debug__" then .bad else iN gl kd x:=rfl
theorem Xs:bU gl kd (.BinOp l op r p)=oT ((nO op).map λ o=>.bin o (bU gl kd l) (bU gl kd r)):=rfl
theorem Zv:bU gl kd (.UnaryOp .USub e p)=.neg (bU gl kd e):=rfl
theorem ZO:bU gl kd (.UnaryOp .Not e p)=.not (bU gl kd e):=rfl
theorem aft:bU gl kd (.BoolOp .And es p)=.all (eD gl kd es):=rfl
theorem afB:bU gl kd (.BoolOp .Or es p)=.any (eD gl kd es):=rfl
theorem Yc:bU gl kd (.IfExp c a b p)=.ite (bU gl kd c) (bU gl kd a) (bU gl kd b):=rfl
theorem Q4:bU gl kd (.Dict ks es p)=.dict (Bn gl kd ks) (eD gl kd es):=rfl
theorem Rb:bU gl kd (.List es p)=.list (eD gl kd es):=rfl
theorem Ya:bU gl kd (.Tuple es k p)=.tup (eD gl kd es):=rfl
theorem O4:bU gl kd (.Compare l [op] [r] p)=if gW r then oT ((Hs op).map λ o=>.cmp o (bU gl kd l) (bU gl kd r))else .bad:=rfl
theorem NU{m:bJ}:bU gl kd (.Call (.Attribute o x m) es [] p)=if m.endLine==p.line&&kr o&&decide (es.length<30)then .aK (bU gl kd o) x (eD gl kd es)else .bad:=rfl
theorem RU:bU gl kd (.Call (.Name x g) es [] p)=if x==s!"__debug__" then .bad else .call (iN gl kd x) (eD gl kd es):=rfl
theorem ade:bU gl kd (.Attribute o x p)=if kr o then .attr (bU gl kd o) x else .bad:=rfl
theorem LD{lo hi:Option aB}:bU gl kd (.Subscript o (.Slice lo hi F j) p)=.slice (bU gl kd o) (Qi gl kd lo) (Qi gl kd hi):=rfl
theorem Tz{lo hi:Option aB}:bU gl kd (.Subscript o (.Slice lo hi (U e) j) p)=.sub (bU gl kd o) .bad:=rfl
theorem vP{sc:c9}:bU gl kd (.ListComp e g sc p)=oT ((ui gl kd (λ x=>sc.names.lookup x) g).map λ p=>if ey kd sc&&sc.names.lookup p.1==U .local then NC (pureOf e) sc p (bU gl (λ x=>sc.names.lookup x) e)else .bad):=rfl
theorem wg{sc:c9}:bU gl kd (.DictComp a b g sc p)=oT ((ui gl kd (λ x=>sc.names.lookup x) g).map λ p=>if ey kd sc&&sc.names.lookup p.1==U .local&&p.2.2.isEmpty then .mP (bU gl (λ x=>sc.names.lookup x) a) (bU gl (λ x=>sc.names.lookup x) b) p.1 p.2.1 else .bad):=rfl
theorem pO:eD gl kd []=[]:=rfl
theorem iC:eD gl kd (e::es)=bU gl kd e::eD gl kd es:=rfl
theorem Sy:Bn gl kd []=[]:=rfl
theorem Mj{k:Option aB}{r:List (Option aB)}:Bn gl kd (k::r)=trK gl kd k::Bn gl kd r:=rfl
theorem abP:Qi gl kd F=F:=rfl
theorem acv:Qi gl kd (U e)=U (bU gl kd e):=rfl
variable{q:bJ}{ss tt:List cJ}{t:cJ}
theorem Sf:uw gl kd (.Expr e p)=if nL e then .expr (bU gl kd e)else .bad:=rfl
theorem adm:uw gl kd (.Pass p)=.pass:=rfl
theorem afr:uw gl kd (.Break p)=.brk:=rfl
theorem acn:uw gl kd (.Continue p)=.cont:=rfl
theorem abE:uw gl kd (.Return F p)=.ret F:=rfl
theorem V7:uw gl kd (.Return (U e) p)=.ret (U (bU gl kd e)):=rfl
theorem yZ:uw gl kd (.Assign [.Name x q] e p)=k8 ((gv kd x).map λ t=>.asg t (bU gl kd e)):=rfl
theorem QG:uw gl kd (.Assign [.Tuple [a,b] k q] e p)=if notTuple e then k8 ((ft a).bind λ x=>(ft b).bind λ y=>(gv kd x).bind λ t=>(gv kd y).map λ I=>.rW t I (bU gl kd e))else .bad:=rfl
theorem SS:uw gl kd (.Assign [.Attribute o x q] e p)=.bz (bU gl kd o) x (bU gl kd e):=rfl
theorem Re:uw gl kd (.Assign [.Subscript o i q] e p)=.fW (bU gl kd o) (bU gl kd i) (bU gl kd e):=rfl
theorem Xz:uw gl kd (.AugAssign (.Name x q) op e p)=k8 ((gv kd x).bind λ t=>(nO op).map λ o=>.aug t o (bU gl kd e)):=rfl
theorem Rc:uw gl kd (.AugAssign (.Attribute o x q) op e p)=k8 ((nO op).map λ op=>.n7 (bU gl kd o) x op (bU gl kd e)):=rfl
theorem Rh:uw gl kd (.AugAssign (.Subscript o i q) op e p)=k8 ((nO op).map λ op=>.sZ (bU gl kd o) (bU gl kd i) op (bU gl kd e)):=rfl
theorem abl:uw gl kd (.If c ss tt p)=.ite (bU gl kd c) (gy gl kd ss) (gy gl kd tt):=rfl
theorem NJ:uw gl kd (.While c ss [] p)=.jD (bU gl kd c) (gy gl kd ss):=rfl
theorem Xu:uw gl kd (.For a e ss [] p)=if gW e then k8 ((ft a).bind λ x=>(gv kd x).map λ t=>.eL t (bU gl kd e) (gy gl kd ss))else .bad:=rfl
theorem fk(h:ft e=U x):∃p,e=.Name x p:=by obtain k|rfl:=k5 h;exact AP (motive_1:=λ e=>∀h,∃p,e=.Name (AP (motive_1:=λ _=>af) e h λ x _=>x) p) e k (λ _ p _=>⟨p,Y⟩) k
theorem xC(h:xf e=U (o,x)):∃p,e=.Attribute o x p:=by obtain h|k:=k5 h;exact BR (motive_1:=λ e=>∀h,BR (motive_1:=λ _=>aB×af) e h (λ o n _=>(o,n))=(o,x)->∃p,e=.Attribute o x p) e h (λ _ _ p _ k=>⟨p,congrArg (λ q:aB×af=>Expr.Attribute q.1 q.2 p) k⟩) h k
theorem Ca(h:C2 e=U (o,i)):∃p,e=.Subscript o i p:=by obtain h|k:=k5 h;exact Bv (motive_1:=λ e=>∀h,Bv (motive_1:=λ _=>aB×aB) e h (λ o n _=>(o,n))=(o,i)->∃p,e=.Subscript o i p) e h (λ _ _ p _ k=>⟨p,congrArg (λ q:aB×aB=>Expr.Subscript q.1 q.2 p) k⟩) h k
theorem zz(h:strOf e=U x):∃k p,e=.Constant (.str x) k p:=by obtain c|h|hc:=pM.mp h;obtain q|rfl:=k5 h;have hc:=Bq hc;exact BL (motive_1:=λ e=>∀h,BL (motive_1:=λ _=>Const) e h (λ c _ _=>c)=.str x->∃k p,e=.Constant (.str x) k p) e q (λ c k p _ hc=>⟨k,p,congrArg (zG · k p) hc⟩) q hc
theorem afw:gy gl kd []=[]:=rfl
theorem Kt:gy gl kd (t::ss)=uw gl kd t::gy gl kd ss:=rfl
end
section
variable{G:Gl}{cf:V->List V->M V}{cs:List (af×Loc)}{e l r o c a b i:T}{es fs:List T}{x:af}{v:V}{w:M V}
theorem v_lit:ap G cf cs (.lit v)=ret v:=rfl
theorem afu:ap G cf cs (.loc x)=getL x:=rfl
theorem afy:ap G cf cs (.cW x)=fK cs x:=rfl
theorem TR:ap G cf cs (.bin op l r)=aI (ap G cf cs l) λ a=>aI (ap G cf cs r) λ b=>binop op a b:=rfl
theorem VS:ap G cf cs (.neg e)=aI (ap G cf cs e) λ v=>match v with|.int i=>ret (.int (-i))|_=>bj:=rfl
theorem v_ite:ap G cf cs (.ite c a b)=aI (c7 G cf cs c (ap G cf cs c)) λ t=>if t then ap G cf cs a else ap G cf cs b:=rfl
theorem Sx:ap G cf cs (.dict es fs)=aI (cX G cf cs es) λ a=>aI (cX G cf cs fs) λ b=>match strKeys a with
 |some ks=>if ks.length=b.length/\ks.length<=15 then new (.dict (bv [] (ks.zip b)))else bj
 |none=>bj:=rfl
theorem S7:ap G cf cs ⇑es=aI (cX G cf cs es) λ vs=>if vs.length<=1000 then new ⇑vs else bj:=rfl
theorem WD:ap G cf cs (.tup es)=aI (cX G cf cs es) λ vs=>if vs.length<=1000 then new (.tup vs)else bj:=rfl
theorem NL:ap G cf cs (.fR e x i es)=aI (ap G cf cs i) λ i=>aI (dG i) λ i=>
 if i.items.length<=1000 then
 aI (inner (fy i (λ v=>once x v (aI (ej G cf cs es) λ b=>if b then aI (ap G cf cs e) λ y=>ret (U y)else ret F)) i.items)) λ ys=>new ⇑ys
 else bj:=rfl
theorem Jv{a n:af}:ap G cf cs (.iK a n x i)=aI (ap G cf cs i) λ i=>aI (gE i) λ ks=>aI (lD (λ k=>aI (fK cs a) λ o=>aI (jT G o n) λ t=>fD t (.str k)) ks) λ ys=>new ⇑ys:=rfl
theorem ME:ap G cf cs (.mP a b x i)=aI (ap G cf cs i) λ i=>aI (dG i) λ i=>
 if i.items.length<=1000 then
 aI (inner (fy i (λ w=>once x w (aI (ap G cf cs a) λ a=>match a with
  |.int j=>aI (ap G cf cs b) λ b=>ret (U (aJ.int j,b))
  |_=>bj)) i.items)) λ ys=>new (.dict (bv [] ys))
 else bj:=rfl
theorem aaY:ap G cf cs (.cmp op l r)=aI (ap G cf cs l) λ a=>aI (ap G cf cs r) λ b=>aI (ew op a b) λ c=>ret (.bool c):=rfl
theorem NZ:ap G cf cs (.aK o x es)=aI (ap G cf cs o) λ v=>aI (qX G v x) λ m=>aI (cX G cf cs es) λ as=>lE cf m as:=rfl
theorem SD:ap G cf cs (.call e es)=aI (ap G cf cs e) λ f=>aI (cX G cf cs es) λ as=>eh G cf f as:=rfl
theorem Rk:ap G cf cs (.attr o x)=aI (ap G cf cs o) λ v=>jT G v x:=rfl
theorem v_sub:ap G cf cs (.sub o i)=aI (ap G cf cs o) λ a=>aI (ap G cf cs i) λ b=>fD a b:=rfl
theorem M3{lo hi:Option T}:ap G cf cs (.slice o lo hi)=aI (ap G cf cs o) λ a=>aI (jx G cf cs lo) λ l=>aI (jx G cf cs hi) λ h=>oV a l h:=rfl
theorem uR:cX G cf cs []=ret []:=rfl
theorem kx:cX G cf cs (e::es)=aI (ap G cf cs e) λ v=>aI (cX G cf cs es) λ vs=>ret (v::vs):=rfl
theorem aeP:jx G cf cs F=ret F:=rfl
theorem afj:jx G cf cs (U e)=aI (ap G cf cs e) λ v=>ret (U v):=rfl
theorem Za:c7 G cf cs (.not e) w=aI (c7 G cf cs e (ap G cf cs e)) λ b=>ret !b:=rfl
theorem afv:c7 G cf cs (.all es) w=ej G cf cs es:=rfl
theorem afs:c7 G cf cs (.any es) w=pg G cf cs es:=rfl
theorem Zt:c7 G cf cs (.cmp op l r) w=aI (ap G cf cs l) λ a=>aI (ap G cf cs r) λ b=>ew op a b:=rfl
theorem PN:ej G cf cs []=ret ai:=rfl
theorem JR:ej G cf cs (e::es)=aI (c7 G cf cs e (ap G cf cs e)) λ b=>if b then ej G cf cs es else ret aj:=rfl
theorem QA:pg G cf cs []=ret aj:=rfl
theorem Nt:pg G cf cs (e::es)=aI (c7 G cf cs e (ap G cf cs e)) λ b=>if b then ret ai else pg G cf cs es:=rfl
variable{s:TS}{ss tt:List TS}{t u:Tgt}{op:Bop}
theorem RS:c6 G cf cs (.expr e)=aI (ap G cf cs e) λ _=>ret .next:=rfl
theorem WE:c6 G cf cs (.ret (U e))=aI (ap G cf cs e) λ v=>ret (.ret v):=rfl
theorem CT:c6 G cf cs (.asg t e)=aI (ap G cf cs e) λ v=>aI (ff cs t v) λ _=>ret .next:=rfl
theorem Sz:c6 G cf cs (.rW t u e)=aI (ap G cf cs e) λ v=>match v with
 |.ref l=>aI (look l) λ o=>match o with
  |.tup [a,b]=>aI (ff cs t a) λ _=>aI (ff cs u b) λ _=>ret .next
  |_=>bj
 |_=>bj:=rfl
theorem Rr:c6 G cf cs (.bz o x e)=aI (ap G cf cs e) λ v=>aI (ap G cf cs o) λ j=>aI (te G j x v) λ _=>ret .next:=rfl
theorem RV:c6 G cf cs (.fW o i e)=aI (ap G cf cs e) λ v=>aI (ap G cf cs o) λ j=>aI (ap G cf cs i) λ k=>aI (jc j k v) λ _=>ret .next:=rfl
theorem Uz:c6 G cf cs (.aug t op e)=aI (NY cs t) λ a=>aI (ap G cf cs e) λ b=>aI (ix op a b) λ v=>aI (ff cs t v) λ _=>ret .next:=rfl
theorem Qz:c6 G cf cs (.n7 o x op e)=aI (ap G cf cs o) λ j=>aI (jT G j x) λ a=>aI (ap G cf cs e) λ b=>aI (ix op a b) λ v=>aI (te G j x v) λ _=>ret .next:=rfl
theorem SJ:c6 G cf cs (.sZ o i op e)=aI (ap G cf cs o) λ j=>aI (ap G cf cs i) λ k=>aI (fD j k) λ a=>aI (ap G cf cs e) λ b=>aI (ix op a b) λ v=>aI (jc j k v) λ _=>ret .next:=rfl
theorem aeZ:c6 G cf cs (.ite c ss tt)=aI (c7 G cf cs c (ap G cf cs c)) λ t=>if t then ay G cf cs ss else ay G cf cs tt:=rfl
theorem MZ:c6 G cf cs (.jD c ss)=jl (c7 G cf cs c (ap G cf cs c)) (ay G cf cs ss) turns:=rfl
theorem Uk:c6 G cf cs (.eL t e ss)=aI (ap G cf cs e) λ i=>aI (dG i) λ i=>forM i (λ v=>aI (ff cs t v) λ _=>ay G cf cs ss) i.items:=rfl
theorem afx:ay G cf cs []=ret .next:=rfl
theorem KE:ay G cf cs (s::ss)=aI (c6 G cf cs s) λ fl=>match fl with
 |.next=>ay G cf cs ss
 |fl=>ret fl:=rfl
end
section
set_option maxRecDepth 10000
noncomputable def QZ:List (af×V):=[("Thing",#[45]),("Scalar",#[66]),("Array",#[85]),("Hash",#[104]),("Code",#[123]),("Glob",#[142]),("Ref",#[162]),("Heap",#[225]),("value_of",#[257]),("to_text",#[264]),("parents_of",#[308]),("line_of_package",#[315]),("whole_line",#[322])]
noncomputable def SK:List (af×V):=[("search_line",#[329]),("MethodCache",#[353]),("find_method",#[364]),("bless_value",#[371]),("destroy_code",#[378]),("held_by",#[383]),("empty_out",#[390]),("in_order",#[395]),("Counter",#[487]),("Run",#[508]),("Limits",#[530]),("Stash",#[593]),("swap_held",#[604])]
noncomputable def QB:List (af×V):=[("set_code",#[611]),("_law_classes",#[618]),("_law_take",#[625]),("_law_line",#[630]),("_law_ender",#[637]),("_law_gone",#[642]),("UNIVERSAL",(.str "UNIVERSAL")),("isinstance",(.con (.builtin "isinstance"))),("len",(.con (.builtin "len"))),("sorted",(.con (.builtin "sorted"))),("list",(.con (.type "list"))),("tuple",(.con (.type "tuple"))),("range",(.con (.type "range"))),("str",(.con (.type "str"))),("int",(.con (.type "int")))]
noncomputable def Pf:List (af×V):=QZ++(SK++QB)
noncomputable def acE:List TS:=[.ite (.not (.call (.lit (.con (.builtin "isinstance"))) [(.loc "x"),(.lit #[66])])) [.ret (U (.loc "x"))] [],
 .ite (.cmp .fj (.attr (.loc "x") "magic") (.lit .none)) [.ret (U (.aK (.attr (.loc "x") "magic") "get" []))] [],
 .ret (U (.attr (.loc "x") "value"))]
noncomputable def abx:List TS:=[.ite (.cmp .is (.loc "value") (.lit .none)) [.ret (U (.lit (.str "")))] [],
 .ite (.call (.lit (.con (.builtin "isinstance"))) [(.loc "value"),(.lit (.con (.type "int")))]) [.ret (U (.call .bad [(.loc "value")]))] [],
 .ite (.call (.lit (.con (.builtin "isinstance"))) [(.loc "value"),(.lit #[162])]) [.ret (U (.call .bad [(.loc "value")]))] [],
 .ret (U (.loc "value"))]
noncomputable def adH:List TS:=[.asg (.loc "array") (.aK (.loc "stash") "find_array" [(.bin .add (.loc "package") (.lit (.str "::ISA")))]),
 .ite (.cmp .is (.loc "array") (.lit .none)) [.ret (U ⇑[])] [],
 .ret (U (.fR (.call (.lit #[264]) [(.call (.lit #[257]) [(.loc "item")])]) "item" (.attr (.loc "array") "items") []))]
noncomputable def KD:List TS:=[.asg (.loc "line") ⇑[(.loc "package")],
 .asg (.loc "path") ⇑[(.loc "package")],
 .asg (.loc "rows") (⇑[(.call (.lit #[308]) [(.loc "stash"),(.loc "package")])]),
 .asg (.loc "at") ⇑[(.lit (.int 0))],
 .jD (.loc "path") [.ite (.cmp .eq (.sub (.loc "at") (.neg (.lit (.int 1)))) (.call (.lit (.con (.builtin "len"))) [(.sub (.loc "rows") (.neg (.lit (.int 1))))])) [.expr (.aK (.loc "path") "pop" []),
 .expr (.aK (.loc "rows") "pop" []),
 .expr (.aK (.loc "at") "pop" []),
 .cont] [],
 .asg (.loc "parent") (.sub (.sub (.loc "rows") (.neg (.lit (.int 1)))) (.sub (.loc "at") (.neg (.lit (.int 1))))),
 .sZ (.loc "at") (.neg (.lit (.int 1))) .add (.lit (.int 1)),
 .ite (.cmp .isin (.loc "parent") (.loc "path")) [.bad] [],
 .ite (.cmp .eW (.loc "parent") (.loc "line")) [.expr (.aK (.loc "line") "append" [(.loc "parent")]),
 .expr (.aK (.loc "path") "append" [(.loc "parent")]),
 .expr (.aK (.loc "rows") "append" [(.call (.lit #[308]) [(.loc "stash"),(.loc "parent")])]),
 .expr (.aK (.loc "at") "append" [(.lit (.int 0))])] []],
 .ret (U (.loc "line"))]
noncomputable def Uj:List TS:=[.asg (.loc "line") (.call (.lit #[315]) [(.loc "stash"),(.loc "package")]),
 .eL (.loc "other") (.call (.lit #[315]) [(.loc "stash"),(.lit (.str "UNIVERSAL"))]) [.ite (.cmp .eW (.loc "other") (.loc "line")) [.expr (.aK (.loc "line") "append" [(.loc "other")])] []],
 .ret (U (.loc "line"))]
noncomputable def Qm:List TS:=[.eL (.loc "package") (.loc "line") [.asg (.loc "code") (.aK (.loc "stash") "code_of" [(.bin .add (.bin .add (.loc "package") (.lit (.str "::"))) (.loc "name"))]),
 .ite (.cmp .fj (.loc "code") (.lit .none)) [.ret (U (.tup [(.loc "code"),(.loc "package")]))] []],
 .ret (U (.lit .none))]
noncomputable def afo:List TS:=[.asg (.loc "found") (.aK (.loc "cache") "find" [(.loc "stash"),(.call (.lit #[322]) [(.loc "stash"),(.loc "package")]),(.loc "name")]),
 .ite (.cmp .is (.loc "found") (.lit .none)) [.ret (U (.lit .none))] [],
 .ret (U (.sub (.loc "found") (.lit (.int 0))))]
noncomputable def adA:List TS:=[.ite (.not (.call (.lit (.con (.builtin "isinstance"))) [(.loc "value"),(.lit #[162])])) [.bad] [],
 .ite (.call (.lit (.con (.builtin "isinstance"))) [(.loc "package"),(.lit #[162])]) [.bad] [],
 .asg (.loc "name") (.call (.lit #[264]) [(.loc "package")]),
 .bz (.attr (.loc "value") "target") "blessed" (.ite (.cmp .eq (.loc "name") (.lit (.str ""))) (.lit (.str "main")) (.loc "name")),
 .ret (U (.loc "value"))]
noncomputable def aej:List TS:=[.ite (.cmp .is (.attr (.loc "thing") "blessed") (.lit .none)) [.ret (U (.lit .none))] [],
 .ret (U (.call (.lit #[364]) [(.loc "stash"),(.loc "cache"),(.attr (.loc "thing") "blessed"),(.lit (.str "DESTROY"))]))]
noncomputable def EE:List TS:=[.ite (.call (.lit (.con (.builtin "isinstance"))) [(.cW "thing"),(.lit #[85])]) [.asg (.loc "held") (.attr (.cW "thing") "items")] [.ite (.call (.lit (.con (.builtin "isinstance"))) [(.cW "thing"),(.lit #[104])]) [.asg (.loc "held") (.iK "thing" "table" "key" (.attr (.cW "thing") "table"))] [.ite (.call (.lit (.con (.builtin "isinstance"))) [(.cW "thing"),(.lit #[123])]) [.asg (.loc "held") (.attr (.cW "thing") "captures")] [.ite (.call (.lit (.con (.builtin "isinstance"))) [(.cW "thing"),(.lit #[142])]) [.asg (.loc "held") ⇑[(.attr (.cW "thing") "scalar"),(.attr (.cW "thing") "array"),(.attr (.cW "thing") "hash"),(.attr (.cW "thing") "code")]] [.asg (.loc "held") ⇑[]]]]],
 .ret (U (.fR (.loc "one") "one" (.loc "held") [(.cmp .fj (.loc "one") (.lit .none))]))]
noncomputable def aeO:List TS:=[.ite (.call (.lit (.con (.builtin "isinstance"))) [(.loc "thing"),(.lit #[85])]) [.bz (.loc "thing") "items" ⇑[]] [.ite (.call (.lit (.con (.builtin "isinstance"))) [(.loc "thing"),(.lit #[104])]) [.bz (.loc "thing") "table" (.dict [] []),
 .bz (.loc "thing") "at" (.lit (.int 0))] [.ite (.call (.lit (.con (.builtin "isinstance"))) [(.loc "thing"),(.lit #[123])]) [.bz (.loc "thing") "captures" ⇑[]] [.ite (.call (.lit (.con (.builtin "isinstance"))) [(.loc "thing"),(.lit #[142])]) [.bz (.loc "thing") "scalar" (.lit .none),
 .bz (.loc "thing") "array" (.lit .none),
 .bz (.loc "thing") "hash" (.lit .none),
 .bz (.loc "thing") "code" (.lit .none)] []]]]]
noncomputable def QH:List TS:=[.asg (.cW "found") (.dict [] []),
 .eL (.loc "thing") (.loc "things") [.ite (.all [(.cmp .eq (.attr (.loc "thing") "count") (.lit (.int 0))),(.not (.attr (.loc "thing") "is_freed"))]) [.fW (.cW "found") (.attr (.loc "thing") "number") (.loc "thing")] []],
 .ret (U (.fR (.sub (.cW "found") (.loc "number")) "number" (.call (.lit (.con (.builtin "sorted"))) [(.cW "found")]) []))]
noncomputable def aeH:List TS:=[.ite (.cmp .fj (.loc "new") (.lit .none)) [.expr (.aK (.loc "counter") "hold" [(.loc "new")])] [],
 .ite (.cmp .fj (.loc "old") (.lit .none)) [.expr (.aK (.loc "counter") "let_go" [(.loc "old")])] []]
noncomputable def adp:List TS:=[.asg (.loc "glob") (.aK (.loc "stash") "glob_of" [(.loc "name")]),
 .asg (.loc "old") (.attr (.loc "glob") "code"),
 .bz (.loc "glob") "code" (.loc "code"),
 .expr (.call (.lit #[604]) [(.loc "counter"),(.loc "code"),(.loc "old")]),
 .n7 (.loc "stash") "generation" .add (.lit (.int 1))]
noncomputable def acb:List TS:=[.ret (U ⇑[(.lit (.str "A")),(.lit (.str "B")),(.lit (.str "C")),(.lit (.str "D"))])]
noncomputable def aeB:List TS:=[.asg (.loc "n") (.lit (.int 0)),
 .ite (.cmp .lt (.sub (.loc "spot") (.lit (.int 0))) (.call (.lit (.con (.builtin "len"))) [(.loc "script")])) [.asg (.loc "n") (.sub (.loc "script") (.sub (.loc "spot") (.lit (.int 0))))] [],
 .sZ (.loc "spot") (.lit (.int 0)) .add (.lit (.int 1)),
 .ret (U (.bin .mod (.loc "n") (.loc "limit")))]
noncomputable def SR:List TS:=[.asg (.cW "line") ⇑[(.loc "one")],
 .eL (.loc "parent") (.sub (.loc "parents") (.loc "one")) [.aug (.cW "line") .add (.fR (.loc "other") "other" (.call (.lit #[630]) [(.loc "parents"),(.loc "parent")]) [(.cmp .eW (.loc "other") (.cW "line"))])],
 .ret (U (.cW "line"))]
noncomputable def aah:List TS:=[.eL (.loc "other") (.call (.lit #[630]) [(.loc "parents"),(.loc "one")]) [.ite (.cmp .isin (.loc "other") (.loc "ends")) [.ret (U (.loc "other"))] []],
 .ret (U (.lit .none))]
noncomputable def pT:List TS:=[.asg (.loc "calls") ⇑[],
 .jD (.lit (.bool ai)) [.asg (.cW "counts") (.mP (.loc "k") (.lit (.int 0)) "k" (.sub (.loc "book") (.lit (.str "alive")))),
 .eL (.loc "k") (.sub (.loc "book") (.lit (.str "places"))) [.ite (.cmp .fj (.loc "k") (.lit .none)) [.sZ (.cW "counts") (.loc "k") .add (.lit (.int 1))] []],
 .eL (.loc "k") (.sub (.loc "book") (.lit (.str "alive"))) [.eL (.loc "other") (.sub (.sub (.loc "book") (.lit (.str "parts"))) (.loc "k")) [.sZ (.cW "counts") (.loc "other") .add (.lit (.int 1))]],
 .asg (.cW "wave") (.fR (.loc "k") "k" (.call (.lit (.con (.builtin "sorted"))) [(.cW "counts")]) [(.cmp .eq (.sub (.cW "counts") (.loc "k")) (.lit (.int 0)))]),
 .ite (.cmp .eq (.cW "wave") ⇑[]) [.ret (U (.tup [(.loc "calls"),(.cW "counts")]))] [],
 .eL (.loc "k") (.cW "wave") [.asg (.loc "ender") (.call (.lit #[637]) [(.sub (.loc "book") (.lit (.str "parents"))),(.sub (.loc "book") (.lit (.str "ends"))),(.sub (.sub (.loc "book") (.lit (.str "class"))) (.loc "k"))]),
 .ite (.cmp .fj (.loc "ender") (.lit .none)) [.expr (.aK (.loc "calls") "append" [(.tup [(.loc "k"),(.loc "ender")])])] []],
 .fW (.loc "book") (.lit (.str "alive")) (.fR (.loc "k") "k" (.sub (.loc "book") (.lit (.str "alive"))) [(.cmp .eW (.loc "k") (.cW "wave"))])]]
noncomputable def b42:List TS:=[.bz (.loc "self") "number" (.loc "number"),
 .bz (.loc "self") "count" (.lit (.int 0)),
 .bz (.loc "self") "blessed" (.lit .none),
 .bz (.loc "self") "weak" ⇑[],
 .bz (.loc "self") "is_destroyed" (.lit (.bool aj)),
 .bz (.loc "self") "is_freed" (.lit (.bool aj))]
noncomputable def b63:List TS:=[.expr (.aK (.lit #[45]) "__init__" [(.loc "self"),(.loc "number")]),
 .bz (.loc "self") "value" (.loc "value"),
 .bz (.loc "self") "magic" (.lit .none)]
noncomputable def b82:List TS:=[.expr (.aK (.lit #[45]) "__init__" [(.loc "self"),(.loc "number")]),
 .bz (.loc "self") "items" ⇑[],
 .bz (.loc "self") "tied" (.lit .none)]
noncomputable def adU:List TS:=[.expr (.aK (.lit #[45]) "__init__" [(.loc "self"),(.loc "number")]),
 .bz (.loc "self") "table" (.dict [] []),
 .bz (.loc "self") "at" (.lit (.int 0)),
 .bz (.loc "self") "tied" (.lit .none)]
noncomputable def acB:List TS:=[.expr (.aK (.lit #[45]) "__init__" [(.loc "self"),(.loc "number")]),
 .bz (.loc "self") "sub" (.loc "sub"),
 .bz (.loc "self") "captures" (.loc "captures"),
 .bz (.loc "self") "builtin" (.lit .none),
 .bz (.loc "self") "package" (.lit (.str "main"))]
noncomputable def abv:List TS:=[.expr (.aK (.lit #[45]) "__init__" [(.loc "self"),(.loc "number")]),
 .bz (.loc "self") "name" (.loc "name"),
 .bz (.loc "self") "scalar" (.lit .none),
 .bz (.loc "self") "array" (.lit .none),
 .bz (.loc "self") "hash" (.lit .none),
 .bz (.loc "self") "code" (.lit .none)]
noncomputable def adk:List TS:=[.bz (.loc "self") "target" (.loc "target"),
 .bz (.loc "self") "is_weak" (.loc "is_weak")]
noncomputable def aeK:List TS:=[.bz (.loc "self") "limits" (.loc "limits"),
 .bz (.loc "self") "last" (.lit (.int 0)),
 .bz (.loc "self") "zero" ⇑[]]
noncomputable def ael:List TS:=[.n7 (.loc "self") "last" .add (.lit (.int 1)),
 .ret (U (.attr (.loc "self") "last"))]
noncomputable def aeC:List TS:=[.ret (U (.call (.lit #[66]) [(.aK (.loc "self") "next_number" []),(.loc "value")]))]
noncomputable def abN:List TS:=[.ret (U (.call (.lit #[85]) [(.aK (.loc "self") "next_number" [])]))]
noncomputable def acm:List TS:=[.ret (U (.call (.lit #[104]) [(.aK (.loc "self") "next_number" [])]))]
noncomputable def abg:List TS:=[.ret (U (.call (.lit #[123]) [(.aK (.loc "self") "next_number" []),(.loc "sub"),(.loc "captures")]))]
noncomputable def aeD:List TS:=[.ret (U (.call (.lit #[142]) [(.aK (.loc "self") "next_number" []),(.loc "name")]))]
noncomputable def adi:List TS:=[.bz (.loc "self") "generation" (.neg (.lit (.int 1))),
 .bz (.loc "self") "table" (.dict [] [])]
noncomputable def Mi:List TS:=[.ite (.cmp .ne (.attr (.loc "self") "generation") (.attr (.loc "stash") "generation")) [.bz (.loc "self") "generation" (.attr (.loc "stash") "generation"),
 .bz (.loc "self") "table" (.dict [] [])] [],
 .asg (.loc "key") (.tup [(.loc "name"),(.call (.lit (.con (.type "tuple"))) [(.loc "line")])]),
 .ite (.cmp .eW (.loc "key") (.attr (.loc "self") "table")) [.fW (.attr (.loc "self") "table") (.loc "key") (.call (.lit #[329]) [(.loc "stash"),(.loc "line"),(.loc "name")])] [],
 .ret (U (.sub (.attr (.loc "self") "table") (.loc "key")))]
noncomputable def aen:List TS:=[.bz (.loc "self") "heap" (.loc "heap"),
 .bz (.loc "self") "destroy" (.loc "destroy"),
 .bz (.loc "self") "places" (.dict [] [])]
noncomputable def abO:List TS:=[.n7 (.loc "thing") "count" .add (.lit (.int 1))]
noncomputable def abu:List TS:=[.n7 (.loc "thing") "count" .sub (.lit (.int 1)),
 .ite (.cmp .eq (.attr (.loc "thing") "count") (.lit (.int 0))) [.expr (.aK (.attr (.attr (.loc "self") "heap") "zero") "append" [(.loc "thing")])] []]
noncomputable def ady:List TS:=[.ite (.not (.call (.lit (.con (.builtin "isinstance"))) [(.loc "value"),(.lit #[162])])) [.ret (U (.loc "value"))] [],
 .expr (.aK (.loc "self") "hold" [(.attr (.loc "value") "target")]),
 .ite (.attr (.loc "value") "is_weak") [.ret (U (.call (.lit #[162]) [(.attr (.loc "value") "target")]))] [],
 .ret (U (.loc "value"))]
noncomputable def Vk:List TS:=[.ite (.not (.call (.lit (.con (.builtin "isinstance"))) [(.loc "value"),(.lit #[162])])) [.ret F] [],
 .ite (.attr (.loc "value") "is_weak") [.bz (.attr (.loc "value") "target") "weak" (.fR (.loc "one") "one" (.attr (.attr (.loc "value") "target") "weak") [(.cmp .ne (.attr (.loc "one") "number") (.attr (.cW "scalar") "number"))])] [.expr (.aK (.loc "self") "let_go" [(.attr (.loc "value") "target")])]]
noncomputable def acW:List TS:=[.expr (.aK (.attr (.loc "self") "places") "pop" [(.attr (.loc "scalar") "number"),(.lit .none)]),
 .ite (.cmp .fj (.attr (.loc "scalar") "magic") (.lit .none)) [.expr (.aK (.attr (.loc "scalar") "magic") "put" [(.loc "value")]),
 .ret F] [],
 .asg (.loc "old") (.attr (.loc "scalar") "value"),
 .bz (.loc "scalar") "value" (.aK (.loc "self") "take" [(.loc "value")]),
 .expr (.aK (.loc "self") "put_off" [(.loc "scalar"),(.loc "old")])]
noncomputable def aea:List TS:=[.asg (.loc "scalar") (.aK (.attr (.loc "self") "heap") "new_scalar" [(.aK (.loc "self") "take" [(.loc "value")])]),
 .bz (.loc "scalar") "count" (.lit (.int 1)),
 .ret (U (.loc "scalar"))]
noncomputable def aek:List TS:=[.expr (.aK (.loc "self") "let_go" [(.loc "scalar")])]
noncomputable def wy:List TS:=[.jD (.cmp .gt (.call (.lit (.con (.builtin "len"))) [(.attr (.attr (.loc "self") "heap") "zero")]) (.loc "start")) [.asg (.loc "dying") (.call (.lit #[395]) [(.slice (.attr (.attr (.loc "self") "heap") "zero") (U (.loc "start")) F)]),
 .bz (.attr (.loc "self") "heap") "zero" (.slice (.attr (.attr (.loc "self") "heap") "zero") F (U (.loc "start"))),
 .eL (.loc "thing") (.loc "dying") [.expr (.aK (.loc "self") "finish" [(.loc "thing")])],
 .eL (.loc "thing") (.loc "dying") [.ite (.all [(.cmp .eq (.attr (.loc "thing") "count") (.lit (.int 0))),(.not (.attr (.loc "thing") "is_freed"))]) [.expr (.aK (.loc "self") "free" [(.loc "thing")])] []]]]
noncomputable def adS:List TS:=[.ite (.any [(.cmp .ne (.attr (.loc "thing") "count") (.lit (.int 0))),(.cmp .is (.attr (.loc "thing") "blessed") (.lit .none)),(.attr (.loc "thing") "is_destroyed"),(.cmp .is (.attr (.loc "self") "destroy") (.lit .none))]) [.ret F] [],
 .bz (.loc "thing") "is_destroyed" (.lit (.bool ai)),
 .n7 (.loc "thing") "count" .add (.lit (.int 1)),
 .expr (.aK (.loc "self") "destroy" [(.loc "thing")]),
 .n7 (.loc "thing") "count" .sub (.lit (.int 1))]
noncomputable def p9:List TS:=[.bz (.loc "thing") "is_freed" (.lit (.bool ai)),
 .eL (.loc "scalar") (.attr (.loc "thing") "weak") [.bz (.loc "scalar") "value" (.lit .none)],
 .bz (.loc "thing") "weak" ⇑[],
 .ite (.call (.lit (.con (.builtin "isinstance"))) [(.loc "thing"),(.lit #[66])]) [.expr (.aK (.attr (.loc "self") "places") "pop" [(.attr (.loc "thing") "number"),(.lit .none)]),
 .asg (.loc "old") (.attr (.loc "thing") "value"),
 .bz (.loc "thing") "value" (.lit .none),
 .expr (.aK (.loc "self") "put_off" [(.loc "thing"),(.loc "old")])] [],
 .asg (.loc "gone") (.call (.lit #[383]) [(.loc "thing")]),
 .expr (.call (.lit #[390]) [(.loc "thing")]),
 .eL (.loc "one") (.loc "gone") [.expr (.aK (.loc "self") "let_go" [(.loc "one")])]]
noncomputable def adh:List TS:=[.bz (.loc "self") "heap" (.loc "heap"),
 .bz (.loc "self") "counter" (.loc "counter"),
 .bz (.loc "self") "stash" (.loc "stash"),
 .bz (.loc "self") "limits" (.loc "limits"),
 .bz (.loc "self") "nodes" (.dict [] []),
 .bz (.loc "self") "lvs" (.dict [] []),
 .bz (.loc "self") "statements" (.dict [] []),
 .bz (.loc "self") "funcs" (.dict [] []),
 .bz (.loc "self") "operators" (.dict [] []),
 .bz (.loc "self") "out" ⇑[],
 .bz (.loc "self") "err" ⇑[],
 .bz (.loc "self") "saves" ⇑[],
 .bz (.loc "self") "frames" ⇑[],
 .bz (.loc "self") "match" (.lit .none),
 .bz (.loc "self") "patterns" (.dict [] []),
 .bz (.loc "self") "empties" (.dict [] []),
 .bz (.loc "self") "steps" (.lit (.int 0)),
 .bz (.loc "self") "methods" (.lit .none),
 .bz (.loc "self") "call_code" (.lit .none),
 .bz (.loc "self") "compile_text" (.lit .none)]
noncomputable def adV:List TS:=[.bz (.loc "self") "width" (.loc "width"),
 .bz (.loc "self") "depth" (.loc "depth"),
 .bz (.loc "self") "steps" (.loc "steps"),
 .bz (.loc "self") "text" (.loc "text"),
 .bz (.loc "self") "items" (.loc "items")]
noncomputable def abm:List TS:=[.bz (.loc "self") "heap" (.loc "heap"),
 .bz (.loc "self") "globs" (.dict [] []),
 .bz (.loc "self") "generation" (.lit (.int 0))]
noncomputable def abf:List TS:=[.ite (.cmp .eW (.loc "name") (.attr (.loc "self") "globs")) [.fW (.attr (.loc "self") "globs") (.loc "name") (.aK (.attr (.loc "self") "heap") "new_glob" [(.loc "name")])] [],
 .ret (U (.sub (.attr (.loc "self") "globs") (.loc "name")))]
noncomputable def abR:List TS:=[.asg (.loc "glob") (.aK (.loc "self") "glob_of" [(.loc "name")]),
 .ite (.cmp .is (.attr (.loc "glob") "array") (.lit .none)) [.bz (.loc "glob") "array" (.aK (.attr (.loc "self") "heap") "new_array" []),
 .n7 (.attr (.loc "glob") "array") "count" .add (.lit (.int 1))] [],
 .ret (U (.attr (.loc "glob") "array"))]
noncomputable def acJ:List TS:=[.ite (.cmp .eW (.loc "name") (.attr (.loc "self") "globs")) [.ret (U (.lit .none))] [],
 .ret (U (.attr (.sub (.attr (.loc "self") "globs") (.loc "name")) "code"))]
noncomputable def abU:List TS:=[.ite (.cmp .eW (.loc "name") (.attr (.loc "self") "globs")) [.ret (U (.lit .none))] [],
 .ret (U (.attr (.sub (.attr (.loc "self") "globs") (.loc "name")) "array"))]
noncomputable def VA:Fn:=⟨["x"],[],[("x",.local),("isinstance",.globalImplicit),("Scalar",.globalImplicit)],acE⟩
noncomputable def U7:Fn:=⟨["value"],[],[("value",.local),("isinstance",.globalImplicit),("int",.globalImplicit),("number_text",.globalImplicit),("Ref",.globalImplicit),("ref_text",.globalImplicit)],abx⟩
noncomputable def UM:Fn:=⟨["stash","package"],[],[("stash",.local),("package",.local),("array",.local)],adH⟩
noncomputable def YD:Fn:=⟨["stash","package"],[],[("stash",.local),("package",.local),("line",.local),("path",.local),("rows",.local),("at",.local),("parent",.local),("parents_of",.globalImplicit),("len",.globalImplicit),("Die",.globalImplicit)],KD⟩
noncomputable def aaz:Fn:=⟨["stash","package"],[],[("stash",.local),("package",.local),("line",.local),("other",.local),("line_of_package",.globalImplicit),("UNIVERSAL",.globalImplicit)],Uj⟩
noncomputable def Y6:Fn:=⟨["stash","line","name"],[],[("stash",.local),("line",.local),("name",.local),("package",.local),("code",.local)],Qm⟩
noncomputable def Y5:Fn:=⟨["stash","cache","package","name"],[],[("stash",.local),("cache",.local),("package",.local),("name",.local),("found",.local),("whole_line",.globalImplicit)],afo⟩
noncomputable def Xt:Fn:=⟨["value","package"],[],[("value",.local),("package",.local),("name",.local),("isinstance",.globalImplicit),("Ref",.globalImplicit),("Die",.globalImplicit),("to_text",.globalImplicit)],adA⟩
noncomputable def TG:Fn:=⟨["stash","cache","thing"],[],[("stash",.local),("cache",.local),("thing",.local),("find_method",.globalImplicit)],aej⟩
noncomputable def QR:Fn:=⟨["thing"],[],[("thing",.cell),("held",.local),("isinstance",.globalImplicit),("Array",.globalImplicit),("Hash",.globalImplicit),("Code",.globalImplicit),("Glob",.globalImplicit)],EE⟩
noncomputable def MB:Fn:=⟨["thing"],[],[("thing",.local),("isinstance",.globalImplicit),("Array",.globalImplicit),("Hash",.globalImplicit),("Code",.globalImplicit),("Glob",.globalImplicit)],aeO⟩
noncomputable def R4:Fn:=⟨["things"],[],[("things",.local),("found",.cell),("thing",.local),("sorted",.globalImplicit)],QH⟩
noncomputable def T9:Fn:=⟨["counter","new","old"],[],[("counter",.local),("new",.local),("old",.local)],aeH⟩
noncomputable def aas:Fn:=⟨["stash","counter","name","code"],[],[("stash",.local),("counter",.local),("name",.local),("code",.local),("glob",.local),("old",.local),("swap_held",.globalImplicit)],adp⟩
noncomputable def X6:Fn:=⟨[],[],[],acb⟩
noncomputable def X8:Fn:=⟨["script","spot","limit"],[],[("script",.local),("spot",.local),("limit",.local),("n",.local),("len",.globalImplicit)],aeB⟩
noncomputable def Sr:Fn:=⟨["parents","one"],[],[("parents",.local),("one",.local),("line",.cell),("parent",.local),("_law_line",.globalImplicit)],SR⟩
noncomputable def T5:Fn:=⟨["parents","ends","one"],[],[("parents",.local),("ends",.local),("one",.local),("other",.local),("_law_line",.globalImplicit)],aah⟩
noncomputable def RZ:Fn:=⟨["book"],[],[("book",.local),("calls",.local),("k",.local),("counts",.cell),("other",.local),("wave",.cell),("ender",.local),("sorted",.globalImplicit),("_law_ender",.globalImplicit)],pT⟩
noncomputable def f42:Fn:=⟨["self","number"],[],[("self",.local),("number",.local)],b42⟩
noncomputable def f63:Fn:=⟨["self","number","value"],[],[("self",.local),("number",.local),("value",.local),("Thing",.globalImplicit)],b63⟩
noncomputable def f82:Fn:=⟨["self","number"],[],[("self",.local),("number",.local),("Thing",.globalImplicit)],b82⟩
noncomputable def QL:Fn:=⟨["self","number"],[],[("self",.local),("number",.local),("Thing",.globalImplicit)],adU⟩
noncomputable def SE:Fn:=⟨["self","number","sub","captures"],[],[("self",.local),("number",.local),("sub",.local),("captures",.local),("Thing",.globalImplicit)],acB⟩
noncomputable def Rm:Fn:=⟨["self","number","name"],[],[("self",.local),("number",.local),("name",.local),("Thing",.globalImplicit)],abv⟩
noncomputable def Sl:Fn:=⟨["self","target","is_weak"],[.bool aj],[("self",.local),("target",.local),("is_weak",.local)],adk⟩
noncomputable def acS:Fn:=⟨["self","limits"],[],[("self",.local),("limits",.local)],aeK⟩
noncomputable def aap:Fn:=⟨["self"],[],[("self",.local)],ael⟩
noncomputable def V1:Fn:=⟨["self","value"],[],[("self",.local),("value",.local),("Scalar",.globalImplicit)],aeC⟩
noncomputable def Zz:Fn:=⟨["self"],[],[("self",.local),("Array",.globalImplicit)],abN⟩
noncomputable def YE:Fn:=⟨["self"],[],[("self",.local),("Hash",.globalImplicit)],acm⟩
noncomputable def YY:Fn:=⟨["self","sub","captures"],[],[("self",.local),("sub",.local),("captures",.local),("Code",.globalImplicit)],abg⟩
noncomputable def Uy:Fn:=⟨["self","name"],[],[("self",.local),("name",.local),("Glob",.globalImplicit)],aeD⟩
noncomputable def acx:Fn:=⟨["self"],[],[("self",.local)],adi⟩
noncomputable def aaj:Fn:=⟨["self","stash","line","name"],[],[("self",.local),("stash",.local),("line",.local),("name",.local),("key",.local),("tuple",.globalImplicit),("search_line",.globalImplicit)],Mi⟩
noncomputable def afb:Fn:=⟨["self","heap","destroy"],[],[("self",.local),("heap",.local),("destroy",.local)],aen⟩
noncomputable def XW:Fn:=⟨["self","thing"],[],[("self",.local),("thing",.local)],abO⟩
noncomputable def Yi:Fn:=⟨["self","thing"],[],[("self",.local),("thing",.local)],abu⟩
noncomputable def Nj:Fn:=⟨["self","value"],[],[("self",.local),("value",.local),("isinstance",.globalImplicit),("Ref",.globalImplicit)],ady⟩
noncomputable def RG:Fn:=⟨["self","scalar","value"],[],[("self",.local),("scalar",.cell),("value",.local),("isinstance",.globalImplicit),("Ref",.globalImplicit)],Vk⟩
noncomputable def Sh:Fn:=⟨["self","scalar","value"],[],[("self",.local),("scalar",.local),("value",.local),("old",.local)],acW⟩
noncomputable def SG:Fn:=⟨["self","value"],[],[("self",.local),("value",.local),("scalar",.local)],aea⟩
noncomputable def aad:Fn:=⟨["self","scalar"],[],[("self",.local),("scalar",.local)],aek⟩
noncomputable def VZ:Fn:=⟨["self","start"],[],[("self",.local),("start",.local),("dying",.local),("thing",.local),("len",.globalImplicit),("in_order",.globalImplicit)],wy⟩
noncomputable def R6:Fn:=⟨["self","thing"],[],[("self",.local),("thing",.local)],adS⟩
noncomputable def RF:Fn:=⟨["self","thing"],[],[("self",.local),("thing",.local),("scalar",.local),("old",.local),("gone",.local),("one",.local),("isinstance",.globalImplicit),("Scalar",.globalImplicit),("held_by",.globalImplicit),("empty_out",.globalImplicit)],p9⟩
noncomputable def adx:Fn:=⟨["self","heap","counter","stash","limits"],[],[("self",.local),("heap",.local),("counter",.local),("stash",.local),("limits",.local)],adh⟩
noncomputable def adI:Fn:=⟨["self","width","depth","steps","text","items"],[.int 64,.int 50,.int 1000000,.int 100000,.int 10000],[("self",.local),("width",.local),("depth",.local),("steps",.local),("text",.local),("items",.local)],adV⟩
noncomputable def aeY:Fn:=⟨["self","heap"],[],[("self",.local),("heap",.local)],abm⟩
noncomputable def Ru:Fn:=⟨["self","name"],[],[("self",.local),("name",.local)],abf⟩
noncomputable def Ry:Fn:=⟨["self","name"],[],[("self",.local),("name",.local),("glob",.local)],abR⟩
noncomputable def Q2:Fn:=⟨["self","name"],[],[("self",.local),("name",.local)],acJ⟩
noncomputable def RQ:Fn:=⟨["self","name"],[],[("self",.local),("name",.local)],abU⟩
noncomputable def C6:List (ao×Fn):=[(257,VA),(264,U7),(308,UM),(315,YD),(322,aaz),(329,Y6),(364,Y5),(371,Xt),(378,TG),(383,QR),(390,MB),(395,R4),(604,T9),(611,aas),(618,X6),(625,X8),(630,Sr),(637,T5),(642,RZ),(42,f42),(63,f63),(82,f82),(101,QL),(120,SE),(139,Rm),(159,Sl),(180,acS),(187,aap),(194,V1),(201,Zz),(208,YE),(215,YY),(222,Uy),(343,acx),(350,aaj),(409,afb),(416,XW),(423,Yi),(437,Nj),(442,RG),(449,Sh),(456,SG),(463,aad),(470,VZ),(477,R6),(484,RF),(505,adx),(527,adI),(548,aeY),(555,Ru),(569,Ry),(583,Q2),(590,RQ)]
noncomputable def fnAt(a:ao):Option Fn:=C6.lookup a
noncomputable def kS:List ao:=C6.map (·.1)
noncomputable def A6:List TS:=[.asg (.loc "script") (.slice (.loc "script") F (U (.lit (.int 56)))),
 .asg (.loc "spot") ⇑[(.lit (.int 0))],
 .asg (.loc "limits") (.call (.lit #[530]) []),
 .asg (.loc "heap") (.call (.lit #[225]) [(.loc "limits")]),
 .asg (.cW "calls") ⇑[],
 .asg (.loc "told") (.lit (.int 0)),
 .asg (.cW "owners") (.dict [] []),
 .asg (.cW "numbers") (.dict [] [])]
noncomputable def m8:List TS:=[.asg (.cW "counter") (.call (.lit #[487]) [(.loc "heap"),(.loc "_law_destroy")]),
 .asg (.cW "run") (.call (.lit #[508]) [(.loc "heap"),(.cW "counter"),(.call (.lit #[593]) [(.loc "heap")]),(.loc "limits")]),
 .bz (.cW "run") "methods" (.call (.lit #[353]) []),
 .asg (.loc "parents") ⇑[⇑[],⇑[],⇑[],⇑[]],
 .asg (.loc "ends") ⇑[],
 .eL (.loc "k") (.call (.lit (.con (.type "range"))) [(.lit (.int 4))]) [.ite (.cmp .eq (.call (.lit #[625]) [(.loc "script"),(.loc "spot"),(.lit (.int 2))]) (.lit (.int 1))) [.asg (.loc "code") (.aK (.loc "heap") "new_code" [(.lit .none),⇑[]]),
 .expr (.call (.lit #[611]) [(.attr (.cW "run") "stash"),(.cW "counter"),(.bin .add (.sub (.call (.lit #[618]) []) (.loc "k")) (.lit (.str "::DESTROY"))),(.loc "code")]),
 .fW (.cW "owners") (.attr (.loc "code") "number") (.loc "k"),
 .expr (.aK (.loc "ends") "append" [(.loc "k")])] [],
 .eL (.loc "_") (.call (.lit (.con (.type "range"))) [(.ite (.cmp .gt (.loc "k") (.lit (.int 0))) (.call (.lit #[625]) [(.loc "script"),(.loc "spot"),(.lit (.int 3))]) (.lit (.int 0)))]) [.asg (.loc "parent") (.call (.lit #[625]) [(.loc "script"),(.loc "spot"),(.loc "k")]),
 .expr (.aK (.sub (.loc "parents") (.loc "k")) "append" [(.loc "parent")]),
 .expr (.aK (.attr (.aK (.attr (.cW "run") "stash") "array_of" [(.bin .add (.sub (.call (.lit #[618]) []) (.loc "k")) (.lit (.str "::ISA")))]) "items") "append" [(.aK (.cW "counter") "fresh" [(.sub (.call (.lit #[618]) []) (.loc "parent"))])])]],
 .asg (.loc "places") (.fR (.aK (.cW "counter") "fresh" [(.lit .none)]) "_" (.call (.lit (.con (.type "range"))) [(.lit (.int 3))]) []),
 .asg (.loc "things") ⇑[],
 .asg (.loc "book") (.dict [(.lit (.str "alive")),(.lit (.str "places")),(.lit (.str "parts")),(.lit (.str "class")),(.lit (.str "parents")),(.lit (.str "ends"))] [⇑[],⇑[(.lit .none),(.lit .none),(.lit .none)],⇑[],⇑[],(.loc "parents"),(.loc "ends")]),
 .eL (.loc "turn") (.call (.lit (.con (.type "range"))) [(.lit (.int 10))]) [.asg (.loc "way") (.call (.lit #[625]) [(.loc "script"),(.loc "spot"),(.lit (.int 10))]),
 .asg (.loc "place") (.call (.lit #[625]) [(.loc "script"),(.loc "spot"),(.lit (.int 3))]),
 .asg (.loc "more") (.call (.lit #[625]) [(.loc "script"),(.loc "spot"),(.lit (.int 4))]),
 .asg (.loc "k") (.sub (.sub (.loc "book") (.lit (.str "places"))) (.loc "place")),
 .asg (.loc "other") (.sub (.sub (.loc "book") (.lit (.str "places"))) (.bin .mod (.loc "more") (.lit (.int 3)))),
 .ite (.all [(.cmp .lt (.loc "way") (.lit (.int 4))),(.cmp .lt (.call (.lit (.con (.builtin "len"))) [(.loc "things")]) (.lit (.int 7)))]) [.asg (.loc "thing") (.ite (.cmp .eq (.bin .mod (.loc "way") (.lit (.int 2))) (.lit (.int 0))) (.aK (.loc "heap") "new_array" []) (.aK (.loc "heap") "new_hash" [])),
 .fW (.cW "numbers") (.attr (.loc "thing") "number") (.call (.lit (.con (.builtin "len"))) [(.loc "things")]),
 .fW (.loc "book") (.lit (.str "alive")) (.bin .add (.sub (.loc "book") (.lit (.str "alive"))) ⇑[(.call (.lit (.con (.builtin "len"))) [(.loc "things")])]),
 .fW (.sub (.loc "book") (.lit (.str "places"))) (.loc "place") (.call (.lit (.con (.builtin "len"))) [(.loc "things")]),
 .expr (.aK (.sub (.loc "book") (.lit (.str "parts"))) "append" [⇑[]]),
 .expr (.aK (.sub (.loc "book") (.lit (.str "class"))) "append" [(.loc "more")]),
 .expr (.aK (.loc "things") "append" [(.loc "thing")]),
 .expr (.aK (.cW "counter") "store" [(.sub (.loc "places") (.loc "place")),(.call (.lit #[371]) [(.call (.lit #[162]) [(.loc "thing")]),(.sub (.call (.lit #[618]) []) (.loc "more"))])])] [.ite (.all [(.cmp .isin (.loc "way") (.tup [(.lit (.int 4)),(.lit (.int 5))])),(.cmp .fj (.loc "k") (.lit .none)),(.cmp .fj (.loc "other") (.lit .none))]) [.asg (.loc "part") (.aK (.cW "counter") "fresh" [(.call (.lit #[162]) [(.sub (.loc "things") (.loc "other"))])]),
 .ite (.call (.lit (.con (.builtin "isinstance"))) [(.sub (.loc "things") (.loc "k")),(.lit #[85])]) [.expr (.aK (.attr (.sub (.loc "things") (.loc "k")) "items") "append" [(.loc "part")])] [.fW (.attr (.sub (.loc "things") (.loc "k")) "table") (.call (.lit (.con (.type "str"))) [(.loc "turn")]) (.loc "part")],
 .fW (.sub (.loc "book") (.lit (.str "parts"))) (.loc "k") (.bin .add (.sub (.sub (.loc "book") (.lit (.str "parts"))) (.loc "k")) ⇑[(.loc "other")])] [.ite (.all [(.cmp .eq (.loc "way") (.lit (.int 6))),(.cmp .fj (.loc "k") (.lit .none)),(.cmp .ne (.sub (.sub (.loc "book") (.lit (.str "parts"))) (.loc "k")) ⇑[])]) [.ite (.call (.lit (.con (.builtin "isinstance"))) [(.sub (.loc "things") (.loc "k")),(.lit #[85])]) [.asg (.loc "part") (.aK (.attr (.sub (.loc "things") (.loc "k")) "items") "pop" [(.lit (.int 0))])] [.asg (.loc "key") (.sub (.call (.lit (.con (.type "list"))) [(.attr (.sub (.loc "things") (.loc "k")) "table")]) (.lit (.int 0))),
 .asg (.loc "part") (.aK (.attr (.sub (.loc "things") (.loc "k")) "table") "pop" [(.loc "key")])],
 .expr (.aK (.cW "counter") "drop" [(.loc "part")]),
 .fW (.sub (.loc "book") (.lit (.str "parts"))) (.loc "k") (.slice (.sub (.sub (.loc "book") (.lit (.str "parts"))) (.loc "k")) (U (.lit (.int 1))) F)] [.ite (.all [(.cmp .eq (.loc "way") (.lit (.int 7))),(.cmp .fj (.loc "k") (.lit .none))]) [.expr (.call (.lit #[371]) [(.call (.lit #[162]) [(.sub (.loc "things") (.loc "k"))]),(.sub (.call (.lit #[618]) []) (.loc "more"))]),
 .fW (.sub (.loc "book") (.lit (.str "class"))) (.loc "k") (.loc "more")] [.ite (.cmp .gt (.loc "way") (.lit (.int 7))) [.expr (.aK (.cW "counter") "store" [(.sub (.loc "places") (.loc "place")),(.lit .none)]),
 .fW (.sub (.loc "book") (.lit (.str "places"))) (.loc "place") (.lit .none)] []]]]],
 .expr (.aK (.cW "counter") "settle" [(.lit (.int 0))]),
 .rW (.loc "due") (.loc "counts") (.call (.lit #[642]) [(.loc "book")]),
 .ite (.any [(.cmp .ne (.slice (.cW "calls") (U (.bin .sub (.call (.lit (.con (.builtin "len"))) [(.cW "calls")]) (.call (.lit (.con (.builtin "len"))) [(.loc "due")]))) F) (.loc "due")),(.cmp .ne (.call (.lit (.con (.builtin "len"))) [(.cW "calls")]) (.bin .add (.loc "told") (.call (.lit (.con (.builtin "len"))) [(.loc "due")])))]) [.ret (U (.lit (.bool aj)))] [],
 .asg (.loc "told") (.call (.lit (.con (.builtin "len"))) [(.cW "calls")]),
 .eL (.loc "spare") (.call (.lit (.con (.type "range"))) [(.call (.lit (.con (.builtin "len"))) [(.loc "things")])]) [.ite (.cmp .ne (.attr (.sub (.loc "things") (.loc "spare")) "is_freed") (.cmp .eW (.loc "spare") (.sub (.loc "book") (.lit (.str "alive"))))) [.ret (U (.lit (.bool aj)))] [],
 .ite (.all [(.cmp .isin (.loc "spare") (.loc "counts")),(.cmp .ne (.attr (.sub (.loc "things") (.loc "spare")) "count") (.sub (.loc "counts") (.loc "spare")))]) [.ret (U (.lit (.bool aj)))] []],
 .ite (.all [(.cmp .gt (.sub (.loc "spot") (.lit (.int 0))) (.call (.lit (.con (.builtin "len"))) [(.loc "script")])),(.cmp .gt (.loc "turn") (.lit (.int 2)))]) [.brk] []],
 .ret (U (.lit (.bool ai)))]
noncomputable def E0:List (af×bM):=[("script",.local),("spot",.local),("limits",.local),("heap",.local),("told",.local),("_law_destroy",.local),("counter",.cell),("parents",.local),("ends",.local),("k",.local),("code",.local),("_",.local),("parent",.local),("places",.local),("things",.local),("book",.local),("turn",.local),("way",.local),("place",.local),("more",.local),("other",.local),("thing",.local),("part",.local),("key",.local)]
noncomputable def DT:List (af×bM):=[("due",.local),("counts",.local),("spare",.local),("calls",.cell),("numbers",.cell),("owners",.cell),("run",.cell),("Limits",.globalImplicit),("Heap",.globalImplicit),("Counter",.globalImplicit),("Run",.globalImplicit),("Stash",.globalImplicit),("MethodCache",.globalImplicit),("range",.globalImplicit),("_law_take",.globalImplicit),("set_code",.globalImplicit),("_law_classes",.globalImplicit),("len",.globalImplicit),("bless_value",.globalImplicit),("Ref",.globalImplicit),("isinstance",.globalImplicit),("Array",.globalImplicit),("str",.globalImplicit),("list",.globalImplicit),("_law_gone",.globalImplicit)]
noncomputable def aaA:List (af×bM):=E0++DT
noncomputable def SY:List TS:=[.asg (.loc "code") (.call (.lit #[378]) [(.attr (.cW "run") "stash"),(.attr (.cW "run") "methods"),(.loc "thing")]),
 .ite (.cmp .fj (.loc "code") (.lit .none)) [.expr (.aK (.cW "calls") "append" [(.tup [(.sub (.cW "numbers") (.attr (.loc "thing") "number")),(.sub (.cW "owners") (.attr (.loc "code") "number"))])])] []]
noncomputable def x8:List (af×bM):=[("thing",.local),("code",.local),("calls",.free),("numbers",.free),("owners",.free),("run",.free),("destroy_code",.globalImplicit)]
noncomputable def Kq:List (ao×Fp):=[
 (45,⟨42,[],["number","count","blessed","weak","is_destroyed","is_freed"],[45]⟩),
 (66,⟨63,[],["number","count","blessed","weak","is_destroyed","is_freed","value","magic"],[66,45]⟩),
 (85,⟨82,[],["number","count","blessed","weak","is_destroyed","is_freed","items","tied"],[85,45]⟩),
 (104,⟨101,[],["number","count","blessed","weak","is_destroyed","is_freed","table","at","tied"],[104,45]⟩),
 (123,⟨120,[],["number","count","blessed","weak","is_destroyed","is_freed","sub","captures","builtin","package"],[123,45]⟩),
 (142,⟨139,[],["number","count","blessed","weak","is_destroyed","is_freed","name","scalar","array","hash","code"],[142,45]⟩),
 (162,⟨159,[],["target","is_weak"],[162]⟩),
 (225,⟨180,[("next_number",187),("new_scalar",194),("new_array",201),("new_hash",208),("new_code",215),("new_glob",222)],["limits","last","zero"],[225]⟩),
 (353,⟨343,[("find",350)],["generation","table"],[353]⟩),
 (487,⟨409,[("hold",416),("let_go",423),("take",437),("put_off",442),("store",449),("fresh",456),("drop",463),("settle",470),("finish",477),("free",484)],["heap","destroy","places"],[487]⟩),
 (508,⟨505,[],["heap","counter","stash","limits","nodes","lvs","statements","funcs","operators","out","err","saves","frames","match","patterns","empties","steps","methods","call_code","compile_text"],[508]⟩),
 (530,⟨527,[],["width","depth","steps","text","items"],[530]⟩),
 (593,⟨548,[("glob_of",555),("array_of",569),("code_of",583),("find_array",590)],["heap","globs","generation"],[593]⟩)]
noncomputable def clsAt(a:ao):Option Fp:=Kq.lookup a
noncomputable def dU:List ao:=Kq.map (·.1)
noncomputable def G:Gl:=⟨λ x=>Pf.lookup x,fnAt,clsAt⟩
end
section
variable{prog:el}{w:cj}
def dm(prog:el)(w:cj)(h:Heap)(k:af×List af)(a:ao):be:=
 ∃o t b n,h.get? a=U o/\o.cls=.type "tuple"/\o.data=.seq #[.str k.1 t,↥b] n/\IsTupleKey (cy prog w) h k.2 b
noncomputable def nr(prog:el)(w:cj)(k:af×List af):Int:=reduceHash (uM [nU w k.1,o6 (cy prog w) k.2])
theorem dm.typeIs{s:aN}{k:af×List af}{a:ao}(x:dm prog w s.heap k a):s.TypeIs ↥a "tuple":=by obtain o|_|_|_|f|hc|_:=x;exact⟨o,f,hc⟩
theorem dm.inj{a:ao}(g:dm prog w h x a)(S:dm prog w h y a):x=y:=by
 obtain o|t|b|n|f|_|hd|hi:=g;obtain o'|t'|H|n'|j|_|p|D:=S;obtain rfl:o=o':=dT (f.symm.trans j);rw[hd]at p;injection p with h1 _
 simp only[Array.mk.injEq,qx,Value.str.injEq,Value.ref.injEq,and_true]at h1;obtain⟨h1,_⟩|rfl:=h1;exact rp h1 (hi.inj D)
theorem dm.grow{h h':Heap}{a:ao}(x:dm prog w h k a)(C:∀b o,h.get? b=U o->h'.get? b=U o):dm prog w h' k a:=by obtain o'|t|b|n|j|hc|p|B|items|e|E|D|H|hi:=x;exact⟨o',t,b,n,C _ _ j,hc,p,B,items,e,C _ _ E,D,H,hi⟩
variable{A:dF}{E:al->aN->Prop}{s:aN}
theorem ya{k:af×List af}{a:ao}{Q:Int->aN->be}(p:A.units+2<kz)(C:dm prog w s.heap k a)(h:Q (nr prog w k) {s with toks:=s.toks+(k.2.length+3)}):
 aZ (bB prog w) A (pyHash ↥a) Q E s:=by
 have c:=C.typeIs;obtain o|t|b|n|f|_|hd|hi:=C;unfold pyHash;first|unfold pyHashByItsType|skip
 first|refine aW (wpAny_cRoomFor_or (.inr ((om1 p))) ?_)|skip
 refine aW (re c vd.lookup ?_);show aZ _ _ (if(U (Value.builtin "tuple.__hash__")==U Value.none)=ai then _ else _) Q E s;rw[if_neg (by rw[beq_builtin_none];exact j5)];refine aW (re c vd.lookup ?_);show aZ _ _ (callSpecialIfBoundUnlessNone? ↥a "__hash__" _>>=_) Q E s;refine aW (wpAny_callSpecialIfBoundUnlessNone?_slot c vd (Ax vd c F.entry_tuple_hash ?_ (F.args_tuple_hash_1 _)));show aZ _ _ (Builtin.Tuple.tupleItemsOf ↥a>>=_) _ _ s;refine aW (zE f hd ?_);refine aW ?_;rw[<-BS];show aZ _ _ (forIn [nW k.1 t,iI b] _ _) _ _ s;rw[jO];refine aW (aW ((cy prog w).pyHash (k:=k.1) (by simp[cy,jK]) ?_));first
  |refine aW (bn (bn ?_))
  |refine bn ?_
 dsimp only;rw[jO];refine aW (aW (wpAny_pyHash_tuple (by simp only[Around.in1];exact om2 p) hi ?_));first
  |refine aW (bn (bn ?_))
  |refine bn ?_
 dsimp only;rw[lz];refine bn ?_;show aZ _ _ (retInt (uM [nU w k.1,o6 (cy prog w) k.2])) _ _ _;refine wpAny_ret_mkInt ?_;have h':Q (nr prog w k) {s with toks:=s.toks+1+(k.2.length+1)+1}:=by have e:s.toks+1+(k.2.length+1)+1=s.toks+(k.2.length+3):=om3;rw[e];exact h
 unfold nr reduceHash at h';show aZ _ _ (if(decide (-(2:Int)^63<=uM [nU w k.1,o6 (cy prog w) k.2])&&decide (uM [nU w k.1,o6 (cy prog w) k.2]<2^63))=ai then _ else _) Q E _;by_cases i:(decide (-(2:Int)^63<=uM [nU w k.1,o6 (cy prog w) k.2])&&decide (uM [nU w k.1,o6 (cy prog w) k.2]<2^63))=ai
 .rw[if_pos i];rw[if_pos i]at h';exact bn h'
 .rw[if_neg i];rw[if_neg i]at h';exact aW (AZ (bn h'))
theorem vJ{x y:af×List af}{a b:ao}{P:Fin->aN->be}(p:A.units<kz)(g:dm prog w s.heap x a)(S:dm prog w s.heap y b)(h:P (.done (.ret (.bool (decide (x=y))))) s):
 aZ (bB prog w) A (Builtin.«tuple.__eq__» ⟨[↥a,↥b],[]⟩) P E s:=by
 have f:=S.typeIs;obtain L|t|n|na|v|_|j|k:=g;obtain o|i|d|nb|c|_|l|m:=S;show aZ _ _ (zD ↥b (.type "tuple")>>=_) _ _ s;refine aW (zT f zB ?_);simp only[j7,d0,if_false];refine aW (zE v j ?_);refine aW (zE c l ?_);refine aW ?_;show aZ _ _ (forIn [(nW x.1 t,nW y.1 i),(iI n,iI d)] _ _) _ _ s;rw[jO];refine aW (aW ((cy prog w).eqBool (a:=x.1) (b:=y.1) (by simp[cy,jK]) (by simp[cy,jK]) ?_));by_cases h1:x.1=y.1
 .rw[decide_eq_true h1];simp only[j7,d0,if_false];refine bn ?_;dsimp only;rw[jO];refine aW (aW (wpAny_eqBool_tuple p k m ?_));by_cases h2:x.2=y.2
  .rw[decide_eq_true h2];simp only[j7,d0,if_false];refine bn ?_;dsimp only;rw[lz];refine bn (bn ?_);rw[decide_eq_true (rp h1 h2)]at h;exact h
  .rw[decide_eq_false h2];simp only[rP,if_true];rw[decide_eq_false λ e=>h2 (by rw[e])]at h;exact aW (bn (bn (bn (bn h))))
 .rw[decide_eq_false h1];simp only[rP,if_true];rw[decide_eq_false λ e=>h1 (by rw[e])]at h;exact aW (bn (bn (bn (bn h))))
theorem xP{a b:ao}(p:A.units+2<kz)(g:dm prog w s.heap x a)(S:dm prog w s.heap y b)(h:Q (decide (x=y)) s):
 aZ (bB prog w) A (eqBool ↥a ↥b) Q E s:=by
 unfold eqBool;try with_reducible refine jJ ?_
 show aZ _ _ (if(iI a==iI b)=ai then _ else _) Q E s;by_cases d:(iI a==iI b)=ai
 .rw[if_pos d];have e:a=b:=by have:=eq_of_beq d;injection this
  subst e;obtain rfl:=g.inj S;exact aW (AZ (bn (by simpa using h)))
 .rw[if_neg d];exact aW (wpAny_richCompare_same_room (op:=.Eq) g.typeIs S.typeIs wh
   (Ax wh g.typeIs F.entry_tuple_eq (vJ (by simp only[Around.in1];exact om2 p) g S ⟨_,Y,(λ e=>by cases e),Be h⟩) (F.args_tuple_eq_2 _ _)) ((om1 p)))
theorem yo{a:ao}(C:IsTupleKey (cy prog w) s.heap ks a)(h:Q ai s):aZ (bB prog w) A (wH (j+1) ↥a) Q E s:=by
 have c:=C.typeIs;obtain o|items|n|f|_|hd|hi:=C;unfold wH;refine aW (re c wh.lookup ?_);show aZ _ _ (zD ↥a (.type "tuple")>>=_) _ _ s;refine aW (zT c zB ?_);simp only[j7,d0,if_false];refine aW (wpAny_seqItems f hd ?_);refine aW ?_;show aZ _ _ (forIn items _ _) _ _ s;rw[<-BS];refine wpAny_forIn_list _ (λ rest r L=>r.1=F/\L=s/\∀v∈rest,carriedByValue v=ai) _ ?_ ?_ _ _ ⟨Y,Y,hi.byValue⟩
 .rintro v rest r L ⟨i,rfl,l⟩;rw[eqIsQuiet_byValue _ (l v z6)];refine aW (bn ?_);simp only[j7,d0,if_false];exact bn ⟨Y,Y,λ I b=>l I (Jb _ b)⟩
 .rintro⟨H,m⟩ L ⟨i,rfl,_⟩;simp only at i;subst i;exact bn h
theorem Cd{k:af×List af}{a:ao}{Q:bG->aN->be}(C:dm prog w s.heap k a)(h:Q ai s):aZ (bB prog w) A (wH 8 ↥a) Q E s:=by
 have c:=C.typeIs;obtain o|t|b|n|f|_|hd|hi:=C;unfold wH;refine aW (re c wh.lookup ?_);show aZ _ _ (zD ↥a (.type "tuple")>>=_) _ _ s;refine aW (zT c zB ?_);simp only[j7,d0,if_false];refine aW (wpAny_seqItems f hd ?_);refine aW ?_;show aZ _ _ (forIn #[nW k.1 t,iI b] _ _) _ _ s
 rw[<-BS];show aZ _ _ (forIn [nW k.1 t,iI b] _ _) _ _ s;rw[jO];rw[eqIsQuiet_byValue _ (v:=nW k.1 t) Y];refine aW (aW (bn ?_));simp only[j7,d0,if_false];refine bn ?_;dsimp only;rw[jO];refine aW (aW (yo hi ?_));simp only[j7,d0,if_false];refine bn ?_;dsimp only;rw[lz];exact bn (bn h)
end
noncomputable def kB(prog:el)(w:cj):HeapKind prog w (af×List af)where
 is:=dm prog w
 hash:=nr prog w
 draws:=λ k=>k.2.length+3
 room:=λ A=>A.units+2<kz
 inj:=λ hx hy=>hx.inj hy
 keeps:=λ x ho hd hs=>by
  obtain o'|t|b|n|ho'|hc|hd'|o2|items|n2|ho2|hc2|hd2|hi:=x;refine⟨o',t,b,n,(hs.2 _ ?_).trans ho',hc,hd',o2,items,n2,(hs.2 b ?_).trans ho2,hc2,hd2,hi⟩
  .rintro rfl;rw[ho']at ho;cases ho;rw[hd]at hd';cases hd'
  .rintro rfl;rw[ho2]at ho;cases ho;rw[hd]at hd2;cases hd2
 pyHash:=λ hu hk h=>ya hu hk h
 eqBool:=λ hu hx hy h=>xP hu hx hy h
 quiet:=λ hk h=>Cd hk h
section
structure Lay where
 ad:Loc->ao
 dd:Loc->ao
def VR(n:J)(y:Lay):V->al->be
 |.none,v=>v=.none
 |.bool b,v=>v=.bool b
 |.int i,v=>∃t,v=.int i t
 |.str s,v=>∃t,v=.str s t
 |.ref l,v=>l<n/\v=.ref (y.ad l)
 |.con c,v=>v=c
def dh(n:J)(y:Lay):List V->List al->be
 |[],[]=>True
 |x::xs,v::vs=>VR n y x v/\dh n y xs vs
 |_,_=>False
def zk(n:J)(y:Lay):Option V->Option al->be
 |none,F=>True
 |some x,U v=>VR n y x v
 |_,_=>False
structure Ext(n:J)(y:Lay)(n':J)(y':Lay):Prop where
 le:n<=n'
 ad:∀l,l<n->y'.ad l=y.ad l
 dd:∀l,l<n->y'.dd l=y.dd l
section
variable{n n' n'':J}{y y' y'':Lay}
theorem Ext.refl:Ext n y n y:=⟨aS _,λ _ _=>rfl,λ _ _=>rfl⟩
theorem Ext.trans(a:Ext n y n' y')(b:Ext n' y' n'' y''):Ext n y n'' y'':=
 ⟨bx a.le b.le,λ l h=>(b.ad l (cv h a.le)).trans (a.ad l h),λ l h=>(b.dd l (cv h a.le)).trans (a.dd l h)⟩
theorem VR.mono{x:V}{v:al}(h:VR n y x v)(e:Ext n y n' y'):VR n' y' x v:=by
 cases x with
 |ref l=>exact⟨cv h.1 e.le,by rw[e.ad l h.1];exact h.2⟩
 |_=>exact h
@[elab_as_elim] theorem dh.ind {C:List V->List al->be} {xs:List V} {vs:List al} (a:dh n y xs vs) (h0:C [] []) (h1:∀x xs v vs,VR n y x v->dh n y xs vs->C xs vs->C (x::xs) (v::vs)):C xs vs:=by
 induction xs generalizing vs with
 |nil=>cases vs with
  |nil=>exact h0
  |cons=>exact a.elim
 |cons x xs ih=>cases vs with
  |nil=>exact a.elim
  |cons v vs=>exact h1 x xs v vs a.1 a.2 (ih a.2)
theorem dh.mono{xs:List V}{vs:List al}(a:dh n y xs vs)(e:Ext n y n' y'):dh n' y' xs vs:=dh.ind a trivial λ _ _ _ _ h _ X=>⟨h.mono e,X⟩
theorem zk.mono{x:Option V}{v:Option al}(h:zk n y x v)(e:Ext n y n' y'):zk n' y' x v:=by cases x<;>cases v<;>first|exact h|exact VR.mono h e
theorem dh.length{xs:List V}{vs:List al}(a:dh n y xs vs):xs.length=vs.length:=dh.ind a Y λ _ _ _ _ _ _ X=>congrArg wE X
theorem dh.append{xs:List V}{vs:List al}{x:List V}{v:List al}(a:dh n y xs vs)(b:dh n y x v):dh n y (xs++x) (vs++v):=dh.ind a b λ _ _ _ _ h _ X=>⟨h,X⟩
theorem dh.get{xs:List V}{vs:List al}{i:J}{x:V}(a:dh n y xs vs)(h:xs[i]?=U x):∃v,vs[i]?=U v/\VR n y x v:=by
 revert i;exact dh.ind (C:=λ xs vs=>∀{i},xs[i]?=U x->∃v,vs[i]?=U v/\VR n y x v) a (λ h=>by rw[JH]at h;cases h) λ m xs v vs z _ X i h=>by
  cases i with
  |zero=>cases(dT h);exact cC v Y z
  |succ i=>exact X (i:=i) h
theorem dh.set{xs:List V}{vs:List al}{i:J}{x:V}{v:al}(a:dh n y xs vs)(h:VR n y x v):dh n y (xs.set i x) (vs.set i v):=by
 revert i;exact dh.ind (C:=λ xs vs=>∀{i},dh n y (xs.set i x) (vs.set i v)) a trivial λ m xs D vs z b X i=>by
  cases i with
  |zero=>exact⟨h,b⟩
  |succ i=>exact⟨z,X⟩
theorem dh.take{xs:List V}{vs:List al}(i:J)(a:dh n y xs vs):dh n y (xs.take i) (vs.take i):=by
 revert i;exact dh.ind (C:=λ xs vs=>∀i,dh n y (xs.take i) (vs.take i)) a (λ i=>by cases i<;>exact trivial) λ m xs D vs z b X i=>by
  cases i with
  |zero=>exact trivial
  |succ i=>exact⟨z,X i⟩
theorem dh.drop{xs:List V}{vs:List al}(i:J)(a:dh n y xs vs):dh n y (xs.drop i) (vs.drop i):=by
 revert i;exact dh.ind (C:=λ xs vs=>∀i,dh n y (xs.drop i) (vs.drop i)) a (λ i=>by cases i<;>exact trivial) λ m xs D vs z b X i=>by
  cases i with
  |zero=>exact⟨z,b⟩
  |succ i=>exact X i
end
structure Bk where
 prog:el
 w:cj
 root:Heap
 aO:Heap
 gens:Array GenState
 os:iL
 L:ao
def gx{D K:Type}(n:J)(y:Lay)(b:K->aJ)(f:D->K)(g:D->al):List (aJ×V)->List D->be
 |[],[]=>True
 |e::r,d::j=>e.1=b (f d)/\VR n y e.2 (g d)/\gx n y b f g r j
 |_,_=>False
section
variable{D K:Type}{n n':J}{y y':Lay}{enc:K->aJ}{f:D->K}{g:D->al}{es:List (aJ×V)}{ds:List D}
@[elab_as_elim] theorem gx.ind {C:List (aJ×V)->List D->be} (a:gx n y enc f g es ds) (h0:C [] []) (h1:∀e es d ds,e.1=enc (f d)->VR n y e.2 (g d)->gx n y enc f g es ds->C es ds->C (e::es) (d::ds)):C es ds:=by
 induction es generalizing ds with
 |nil=>cases ds with
  |nil=>exact h0
  |cons=>exact a.elim
 |cons e es ih=>cases ds with
  |nil=>exact a.elim
  |cons d ds=>exact h1 e es d ds a.1 a.2.1 a.2.2 (ih a.2.2)
theorem gx.mono(e:Ext n y n' y')(a:gx n y enc f g es ds):gx n' y' enc f g es ds:=gx.ind a trivial λ _ _ _ _ h v _ X=>⟨h,v.mono e,X⟩
theorem gx.length(a:gx n y enc f g es ds):es.length=ds.length:=gx.ind a Y λ _ _ _ _ _ _ _ X=>congrArg wE X
theorem gx.keys(a:gx n y enc f g es ds):es.map (·.1)=ds.map λ d=>enc (f d):=gx.ind a Y λ e es d ds h _ _ X=>by rw[bW,bW,h,X]
end
def KV{K:Type}(n:J)(y:Lay)(b:K->aJ)(es:List (aJ×V))(kvs:List (K×al)):be:=gx n y b j0 Prod.snd es kvs
def Fm{K:Type}(n:J)(y:Lay)(b:K->aJ)(es:List (aJ×V))(kvs:List (K×ao×al)):be:=gx n y b j0 (λ d=>d.2.2) es kvs
theorem KV.mono{K:Type}{n n':J}{y w:Lay}{b:K->aJ}(e:Ext n y n' w){es:List (aJ×V)}{kvs:List (K×al)}(a:KV n y b es kvs):KV n' w b es kvs:=gx.mono e a
theorem Fm.mono{K:Type}{n n':J}{y w:Lay}{b:K->aJ}(e:Ext n y n' w){es:List (aJ×V)}{kvs:List (K×ao×al)}(a:Fm n y b es kvs):Fm n' w b es kvs:=gx.mono e a
noncomputable def qJ(k:af×List af):aJ:=.tup k.1 k.2
def hJ(prog:el)(w:cj)(n:J)(y:Lay)(h:Heap)(a:ao)(es:List (aJ×V)):be:=
 (es.all (λ e=>e.1.isInt)=ai->∃kvs,h.DictOf (dW prog w) a kvs/\KV n y aJ.int es kvs)/\
 (es.all (λ e=>e.1.isStr)=ai->∃kvs,h.DictOf (cy prog w) a kvs/\KV n y aJ.str es kvs)/\
 (es.all (λ e=>e.1.isTup)=ai->∃xs,h.DictOfH (kB prog w) a xs/\Fm n y qJ es xs)/\
 ∃o,h.get? a=U o/\o.cls=.type "dict"
def Eb(P:qR)(n:J)(y:Lay):List (af×V)->List o7->be
 |[],[]=>True
 |(x,v)::r,e::j=>e.hash=l9 P x/\(∃t,e.key=.str x t)/\VR n y v e.val/\Eb P n y r j
 |_,_=>False
theorem Eb.mono{P:qR}{n n':J}{y w:Lay}(e:Ext n y n' w){fs:List (af×V)}{es:List o7}(a:Eb P n y fs es):Eb P n' w fs es:=by
 induction fs generalizing es with
 |nil=>cases es with
  |nil=>exact trivial
  |cons=>exact a.elim
 |cons f fs X=>cases es with
  |nil=>exact a.elim
  |cons d es=>exact⟨a.1,a.2.1,a.2.2.1.mono e,X a.2.2.2⟩
theorem Eb.length{P:qR}{n:J}{y:Lay}{fs:List (af×V)}{es:List o7}(a:Eb P n y fs es):fs.length=es.length:=by
 induction fs generalizing es with
 |nil=>cases es with
  |nil=>rfl
  |cons=>exact a.elim
 |cons f fs X=>cases es with
  |nil=>exact a.elim
  |cons d es=>rw[eF,eF,X a.2.2.2]
noncomputable def O.cL:O->bG
 |.iS _=>ai
 |_=>aj
noncomputable def O.bZ:O->bG
 |.inst _ _=>ai
 |_=>aj
structure pd(fd:hA)(ps:List af):Prop where
 abc:fd.params.posonlyargs=[]
 vararg:fd.params.vararg=F
 abK:fd.params.kwonlyargs=[]
 kwarg:fd.params.kwarg=F
 args:fd.params.args.map (·.arg)=ps
 nodup:ps.Nodup
structure tx(gl:af->Option V)(fd:hA)(params:List af)(names:List (af×bM))(tbody:List TS):Prop where
 body:∃body,fd.body=.stmts body/\gy gl (λ x=>fd.scope.names.lookup x) body=tbody
 names:fd.scope.names=names
 kind:fd.scope.kind=.function
 acs:fd.scope.isCoroutine=aj
 noGen:fd.scope.isGenerator=aj
 globals:fd.globals=fv
 builtins:fd.builtins=gY
 params:pd fd params
def zd(gl:af->Option V)(c:Pl)(fd:hA):be:=
 tx gl fd c.params c.names c.body/\(∀x∈c.names,x.2≠.cell)/\(∀x,c.names.lookup x=U .free->(c.cl.lookup x).isSome=ai)/\fd.defaults=.none
def ms(B:Bk)(n:J)(y:Lay)(h:Heap)(l:Loc):O->be
 |.inst c fs=>h.get? (y.ad l)=U (W.instObj c (y.dd l))/\y.dd l≠y.ad l/\∃es k,h.get? (y.dd l)=U (W.dictOf es k)/\Eb B.w.params n y fs es
 |.list xs=>∃vs k,IsL h (y.ad l) vs k/\dh n y xs vs.toList
 |.tup xs=>∃vs k,IsT h (y.ad l) vs k/\dh n y xs vs.toList
 |.dict es=>hJ B.prog B.w n y h (y.ad l) es
 |.cell v=>∃D,h.IsCell (y.ad l) D/\zk n y v D
 |.range k=>∃t I v,IsRange h (y.ad l) 0 k 1 t I v
 |.iS c=>∃o fd,B.root.get? (y.ad l)=U o/\o.data=.func fd/\o.cls=.type "function"/\B.root.CodeRec fd.code fd.qualname/\zd G.glob c fd/\fd.closure=c.cl.map (λ p=>(p.1,y.ad p.2))/\∀p∈c.cl,p.2<n
structure R(B:Bk)(y:Lay)(N:St)(s:aN):Prop where
 gens:s.gens=B.gens
 os:s.os=B.os
 root:∀b o,B.root.get? b=U o->B.aO.get? b=U o
 bg:∀b o,B.aO.get? b=U o->s.heap.get? b=U o
 low:B.aO.get? B.L=F
 ns:∃m,s.heap.Ns B.L m/\∀x,zk N.n y (N.loc x) (m x)
 obj:∀l o,N.H l=U o->l<N.n/\ms B N.n y s.heap l o
 new:∀l o,N.H l=U o->o.cL=aj->B.aO.get? (y.ad l)=F/\y.ad l≠B.L
 ic:∀l o,N.H l=U o->o.bZ=ai->B.aO.get? (y.dd l)=F/\y.dd l≠B.L
 inj:∀l o l' o',N.H l=U o->N.H l'=U o'->o.cL=aj->o'.cL=aj->y.ad l=y.ad l'->l=l'
 pW:∀l o l' o',N.H l=U o->N.H l'=U o'->o.bZ=ai->o'.bZ=ai->y.dd l=y.dd l'->l=l'
 ox:∀l o l' o',N.H l=U o->N.H l'=U o'->o.cL=aj->o'.bZ=ai->y.ad l≠y.dd l'
 nolimit:B.root.NoLimit
 hi:∀l o,N.H l=U o->o.cL=aj->2<y.ad l
theorem DictOf.of_get{prog:el}{w:cj}{K:Type}[DecidableEq K]{knd:KeyKind prog w K}{h h':Heap}{a:ao}{kvs:List (K×al)}(x:h.DictOf knd a kvs)(e:h'.get? a=h.get? a):h'.DictOf knd a kvs:=
 x.imp λ _ x=>x.imp λ _ x=>x.imp λ _ x=>⟨e.trans x.1,x.2⟩
def NT(o:b8):be:=o.cls≠.type "tuple"\/∀xs k,o.data≠.seq xs k
theorem dm.but{h h':Heap}{a d:ao}(x:dm prog w h k a)(f:h.get? d=U o)(hd:NT o)(hs:Heap.SameBut d h h'):dm prog w h' k a:=by
 obtain o'|t|b|n|j|hc|p|B|items|e|E|D|H|hi:=x;refine⟨o',t,b,n,(hs.2 a ?_).trans j,hc,p,B,items,e,(hs.2 b ?_).trans E,D,H,hi⟩
 .rintro rfl;rw[j]at f;cases f;exact hd.elim (λ q=>q hc) λ q=>q _ _ p
 .rintro rfl;rw[E]at f;cases f;exact hd.elim (λ q=>q D) λ q=>q _ _ H
theorem ms.yg{B:Bk}{y w:Lay}{h h':Heap}{o:O}(x:ms B n y h l o)(e:Ext n y n' w)(L:l<n)
 (hn:∀k a,dm B.prog B.w h k a->dm B.prog B.w h' k a)(h1:o.cL=aj->h'.get? (y.ad l)=h.get? (y.ad l))(h2:o.bZ=ai->h'.get? (y.dd l)=h.get? (y.dd l)):ms B n' w h' l o:=by
 have j:=e.ad l L;have s:=e.dd l L;cases o with
 |inst c fs=>obtain a|b|es|k|d|f:=x;exact⟨by rw[j,s];exact(h1 Y).trans a,by rw[j,s];exact b,es,k,by rw[s];exact(h2 Y).trans d,f.mono e⟩
 |list xs=>obtain vs|k|C|v:=x;exact⟨vs,k,by rw[j];exact(h1 Y).trans C,v.mono e⟩
 |tup xs=>obtain vs|k|C|v:=x;exact⟨vs,k,by rw[j];exact(h1 Y).trans C,v.mono e⟩
 |dict es=>
  obtain a|b|c|E|i|nP:=x;refine⟨λ q=>?_,λ q=>?_,λ q=>?_,E,by rw[j];exact(h1 Y).trans i,nP⟩
  .obtain kvs|p|q:=a q;exact cC kvs (by rw[j];exact DictOf.of_get p (h1 Y)) (q.mono e)
  .obtain kvs|p|q:=b q;exact cC kvs (by rw[j];exact DictOf.of_get p (h1 Y)) (q.mono e)
  .obtain xs|⟨o,es',ep,C,A,Q,X,S,m⟩|q:=c q;exact cC xs ⟨o,es',ep,by rw[j];exact(h1 Y).trans C,A,Q,X,λ x g=>hn _ _ (S x g),m⟩ (q.mono e)
 |cell v=>obtain D|⟨o,C,r⟩|q:=x;exact⟨D,⟨o,by rw[j];exact(h1 Y).trans C,r⟩,q.mono e⟩
 |range k=>obtain t|I|v|p:=x;exact⟨t,I,v,by rw[j];exact(h1 Y).trans p⟩
 |iS c=>obtain o|fd|A|Q|H|X|S|m|z:=x;refine⟨o,fd,by rw[j];exact A,Q,H,X,S,?_,λ p hp=>cv (z p hp) e.le⟩;rw[m];exact ef λ p hp=>by rw[e.ad _ (z p hp)]
section
variable{B:Bk}{y:Lay}{N:St}{s:aN}
theorem R.update(r:R B y N s){l:Loc}{o o':O}(L:N.H l=U o){a:ao}(ha:a=y.ad l\/(a=y.dd l/\o.bZ=ai))(hc:o.cL=aj)(b':o'.cL=aj)(hi:o'.bZ=o.bZ)
 {h':Heap}{tk:Tok}(hs:Heap.SameBut a s.heap h'){oa:b8}(a':s.heap.get? a=U oa)(nt:NT oa)(t:ms B N.n y h' l o'):
 R B y {N with H:=ah N.H l (U o')} {s with heap:=h',toks:=tk}:=by
 have hb:B.aO.get? a=F/\a≠B.L:=by
  rcases ha with rfl|⟨rfl,q⟩
  .exact r.new l o L hc
  .exact r.ic l o L q
 have d:∀{Q:Loc}{j:O},ah N.H l (U o') Q=U j->(Q=l/\j=o')\/(Q≠l/\N.H Q=U j):=λ{Q j} e=>by
  by_cases q:Q=l
  .obtain rfl:=q.symm;rw[aa]at e;exact .inl ⟨Y,(dT e).symm⟩
  .rw[ae q]at e;exact .inr ⟨q,e⟩
 have old:∀{Q:Loc}{j:O},ah N.H l (U o') Q=U j->∃C,N.H Q=U C/\C.cL=j.cL/\C.bZ=j.bZ:=λ{Q j} e=>by
  rcases d e with⟨rfl,rfl⟩|⟨_,q⟩
  .exact gc o L (hc.trans b'.symm) hi.symm
  .exact gc j q Y Y
 refine⟨r.gens,r.os,r.root,λ b x e=>?_,r.low,?_,λ Q j e=>?_,λ Q j e q=>?_,λ Q j e q=>?_,λ l₁ j l₂ C X P E w=>?_,λ l₁ j l₂ C X P E w=>?_,λ l₁ j l₂ C X P E w=>?_,r.nolimit,λ Q j e q=>?_⟩
 .refine(hs.2 b ?_).trans (r.bg b x e);rintro rfl;rw[hb.1]at e;cases e
 .obtain m|hm|S:=r.ns;exact cC m (hm.sameBut hs (gP hb.2)) S
 .rcases d e with⟨rfl,rfl⟩|⟨q,e⟩
  .exact⟨(r.obj _ _ L).1,t⟩
  .have z:=r.obj _ _ e;refine⟨z.1,z.2.yg .refl z.1 (λ k x g=>g.but a' nt hs) (λ c=>hs.2 _ ?_) (λ c=>hs.2 _ ?_)⟩
   .rcases ha with rfl|⟨rfl,i⟩
    .exact λ e'=>q (r.inj _ _ _ _ e L c hc e')
    .exact r.ox _ _ _ _ e L c i
   .rcases ha with rfl|⟨rfl,i⟩
    .exact λ e'=>r.ox _ _ _ _ L e hc c e'.symm
    .exact λ e'=>q (r.pW _ _ _ _ e L c i e')
 .obtain C|A|p|n:=old e;exact r.new _ _ A (p.trans q)
 .obtain C|A|p|n:=old e;exact r.ic _ _ A (n.trans q)
 .obtain I|A|p|n:=old X;obtain v|h|f|D:=old P;exact r.inj _ _ _ _ A h (p.trans E) (f.trans w)
 .obtain I|A|p|n:=old X;obtain v|h|f|D:=old P;exact r.pW _ _ _ _ A h (n.trans E) (D.trans w)
 .obtain I|A|p|n:=old X;obtain v|h|f|D:=old P;exact r.ox _ _ _ _ A h (p.trans E) (D.trans w)
 .obtain C|A|p|n:=old e;exact r.hi _ _ A (p.trans q)
theorem R.grow(r:R B y N s){h':Heap}(C:∀b o,s.heap.get? b=U o->h'.get? b=U o):R B y N {s with heap:=h',toks:=tk}:=by
 have a:∀(l:Loc)(o:O),N.H l=U o->ms B N.n y h' l o:=λ l o e=>by
  have z:=r.obj l o e;have hg:∀{b:ao}{o:b8},s.heap.get? b=U o->h'.get? b=s.heap.get? b:=λ e=>(C _ _ e).trans e.symm
  refine z.2.yg .refl z.1 (λ k x g=>g.grow C) (λ c=>?_) (λ c=>?_)
  .cases o with
   |inst c fs=>exact hg z.2.1
   |list xs=>obtain vs|k|f|v:=z.2;exact hg f
   |tup xs=>obtain vs|k|f|v:=z.2;exact hg f
   |dict es=>obtain _|_|_|E|i|_:=z.2;exact hg i
   |cell v=>obtain D|⟨o,f,r⟩|q:=z.2;exact hg f
   |range k=>obtain t|I|v|p:=z.2;exact hg p
   |iS S=>cases c
  .cases o with
   |inst c fs=>obtain _|_|es|k|d|_:=z.2;exact hg d
   |_=>cases c
 exact⟨r.gens,r.os,r.root,λ b o e=>C _ _ (r.bg b o e),r.low,r.ns.imp λ _ h=>⟨h.1.keeps C,h.2⟩,λ l o e=>⟨(r.obj l o e).1,a l o e⟩,r.new,r.ic,r.inj,r.pW,r.ox,r.nolimit,r.hi⟩
theorem R.tok(r:R B y N s){tk:Tok}:R B y N {s with toks:=tk}:=r.grow (h':=s.heap) λ _ _ e=>e
noncomputable def Lay.put(y:Lay)(l:Loc)(a d:ao):Lay:=⟨ah y.ad l a,ah y.dd l d⟩
theorem Ext.put{n:J}{y:Lay}{a d:ao}:Ext n y (n+1) (y.put n a d):=
 ⟨b7 _,λ l h=>ae (bP h),λ l h=>ae (bP h)⟩
theorem R.alloc(r:R B y N s){o:O}{a d:ao}{h':Heap}(hc:o.cL=aj)(C:∀b x,s.heap.get? b=U x->h'.get? b=U x)
 (ha:s.heap.get? a=F)(i':a≠B.L)(j':2<a)(hd:o.bZ=ai->s.heap.get? d=F/\d≠B.L/\a≠d)(i:ms B (N.n+1) (y.put N.n a d) h' N.n o):
 R B (y.put N.n a d) {loc:=N.loc,H:=ah N.H N.n (U o),n:=N.n+1} {s with heap:=h',toks:=tk}:=by
 have h:=r.grow (tk:=tk) C;have e:Ext N.n y (N.n+1) (y.put N.n a d):=.put;have L:∀{Q:Loc}{j:O},ah N.H N.n (U o) Q=U j->(Q=N.n/\j=o)\/(Q<N.n/\N.H Q=U j):=λ{Q j} e=>by
  by_cases q:Q=N.n
  .subst q;rw[aa]at e;exact .inl ⟨Y,(dT e).symm⟩
  .rw[ae q]at e;exact .inr ⟨(r.obj _ _ e).1,e⟩
 have g':(y.put N.n a d).ad N.n=a:=aa ..;have k':(y.put N.n a d).dd N.n=d:=aa ..;have out:∀(l:Loc)(j:O),N.H l=U j->j.cL=aj->∃x,s.heap.get? (y.ad l)=U x:=λ l j e c=>by
  have z:=(r.obj l j e).2;cases j with
  |inst c fs=>exact⟨_,z.1⟩
  |list xs=>obtain vs|k|f|v:=z;exact⟨_,f⟩
  |tup xs=>obtain vs|k|f|v:=z;exact⟨_,f⟩
  |dict es=>obtain _|_|_|od|f'|_:=z;exact⟨_,f'⟩
  |cell v=>obtain D|⟨o,f,r⟩|q:=z;exact⟨_,f⟩
  |range k=>obtain t|I|v|p:=z;exact⟨_,p⟩
  |iS c'=>cases c
 have m':∀(l:Loc)(j:O),N.H l=U j->j.bZ=ai->∃x,s.heap.get? (y.dd l)=U x:=λ l j e c=>by
  have z:=(r.obj l j e).2;cases j with
  |inst c fs=>obtain _|_|es|k|d|_:=z;exact⟨_,d⟩
  |_=>cases c
 have aO:∀{b:ao},s.heap.get? b=F->B.aO.get? b=F:=λ{b} q=>by
  cases z:B.aO.get? b with
  |none=>rfl
  |some x=>rw[r.bg _ _ z]at q;cases q
 refine⟨r.gens,r.os,r.root,h.bg,r.low,?_,λ l j q=>?_,λ l j q c=>?_,λ l j q c=>?_,λ l₁ j l₂ e' X P E w=>?_,λ l₁ j l₂ e' X P E w=>?_,λ l₁ j l₂ e' X P E w=>?_,r.nolimit,λ l j q c=>?_⟩
 .obtain m|hm|S:=h.ns;exact cC m hm (λ x=>(S x).mono e)
 .rcases L q with⟨rfl,rfl⟩|⟨lt,q⟩
  .exact⟨cQ _,i⟩
  .have z:=h.obj _ _ q;exact⟨ly lt,z.2.yg e lt (λ _ _ x=>x) (λ _=>rfl) λ _=>rfl⟩
 .rcases L q with⟨rfl,rfl⟩|⟨lt,q⟩
  .rw[g'];exact⟨aO ha,i'⟩
  .rw[e.ad _ lt];exact r.new _ _ q c
 .rcases L q with⟨rfl,rfl⟩|⟨lt,q⟩
  .rw[k'];exact⟨aO (hd c).1,(hd c).2.1⟩
  .rw[e.dd _ lt];exact r.ic _ _ q c
 .rcases L X with⟨rfl,rfl⟩|⟨d',b'⟩<;>rcases L P with⟨rfl,rfl⟩|⟨a',A⟩
  .exact λ _=>rfl
  .rw[g',e.ad _ a'];intro z;obtain x|g:=out _ _ A w;rw[<-z,ha]at g;cases g
  .rw[g',e.ad _ d'];intro z;obtain x|g:=out _ _ b' E;rw[z,ha]at g;cases g
  .rw[e.ad _ d',e.ad _ a'];exact r.inj _ _ _ _ b' A E w
 .rcases L X with⟨rfl,rfl⟩|⟨d',b'⟩<;>rcases L P with⟨rfl,rfl⟩|⟨a',A⟩
  .exact λ _=>rfl
  .rw[k',e.dd _ a'];intro z;obtain x|g:=m' _ _ A w;rw[<-z,(hd E).1]at g;cases g
  .rw[k',e.dd _ d'];intro z;obtain x|g:=m' _ _ b' E;rw[z,(hd w).1]at g;cases g
  .rw[e.dd _ d',e.dd _ a'];exact r.pW _ _ _ _ b' A E w
 .rcases L X with⟨rfl,rfl⟩|⟨d',b'⟩<;>rcases L P with⟨rfl,rfl⟩|⟨a',A⟩
  .rw[g',k'];exact(hd w).2.2
  .rw[g',e.dd _ a'];intro z;obtain x|g:=m' _ _ A w;rw[<-z,ha]at g;cases g
  .rw[k',e.ad _ d'];intro z;obtain x|g:=out _ _ b' E;rw[z,(hd w).1]at g;cases g
  .rw[e.ad _ d',e.dd _ a'];exact r.ox _ _ _ _ b' A E w
 .rcases L q with⟨rfl,rfl⟩|⟨lt,q⟩
  .rw[g'];exact j'
  .rw[e.ad _ lt];exact r.hi _ _ q c
theorem R.frame(r:R B y N s){loc:af->Option V}{h':Heap}(hs:Heap.SameBut B.L s.heap h')(hn:∃m,h'.Ns B.L m/\∀x,zk N.n y (loc x) (m x)):
 R B y {N with loc:=loc} {s with heap:=h',toks:=tk}:=by
 obtain m|⟨P,f,i,h,a,_⟩|_:=r.ns;have nt:NT P:=.inr λ xs k q=>by rw[a]at q;cases q
 refine⟨r.gens,r.os,r.root,λ b x e=>(hs.2 b ?_).trans (r.bg b x e),r.low,hn,λ l o e=>?_,r.new,r.ic,r.inj,r.pW,r.ox,r.nolimit,r.hi⟩
 .rintro rfl;have:=r.low;rw[this]at e;cases e
 .have z:=r.obj l o e;exact⟨z.1,z.2.yg .refl z.1 (λ k x g=>g.but h nt hs) (λ c=>hs.2 _ (r.new _ _ e c).2) λ c=>hs.2 _ (r.ic _ _ e c).2⟩
theorem R.JG(r:R B y N s){x:af}{v:V}{D:al}{h':Heap}{m:af->Option al}{tk:Tok}(S:VR N.n y v D)(hm:∀x,zk N.n y (N.loc x) (m x))(hn:h'.Ns B.L (λ z=>if z=x then U D else m z))(hs:Heap.SameBut B.L s.heap h'):
 R B y {N with loc:=ah N.loc x (U v)} {s with heap:=h',toks:=tk}:=
 r.frame hs ⟨_,hn,λ z=>by
  by_cases q:z=x
  .obtain rfl:=q.symm;rw[aa,if_pos Y];exact S
  .rw[ae q,if_neg q];exact hm z⟩
noncomputable def under(N:St)(y:Lay)(h:Heap)(more:List ao):Heap:=W.hideAll h (more++(fp N.n).filterMap (λ l=>match N.H l with|some o=>if o.cL then F else U (y.ad l)|none=>F)++(fp N.n).filterMap λ l=>match N.H l with|some o=>if o.bZ then U (y.dd l)else F|none=>F)
theorem under_get{h:Heap}{more:List ao}{b:ao}(e:(under N y h more).get? b=U o):h.get? b=U o:=W.of_hideAll _ e
theorem Bu{more:List ao}{b:ao}(hb:b∈more):(under N y h more).get? b=F:=W.hideAll_none _ (BW _ (BW _ hb))
theorem FD(r:R B y N s){more:List ao}{o:O}(e:N.H l=U o)(c:o.cL=aj):(under N y h more).get? (y.ad l)=F:=
 W.hideAll_none _ (BW _ (BP _ (oK.mpr ⟨l,kF.mpr (r.obj _ _ e).1,by rw[e];simp[c]⟩)))
theorem IP(r:R B y N s){more:List ao}{o:O}(e:N.H l=U o)(c:o.bZ=ai):(under N y h more).get? (y.dd l)=F:=
 W.hideAll_none _ (BP _ (oK.mpr ⟨l,kF.mpr (r.obj _ _ e).1,by rw[e];simp[c]⟩))
theorem fc{h:Heap}{more:List ao}{b:ao}{o:b8}(e:h.get? b=U o)(hm:b∉more)(h1:∀l o,N.H l=U o->o.cL=aj->b≠y.ad l)(h2:∀l o,N.H l=U o->o.bZ=ai->b≠y.dd l):
 (under N y h more).get? b=U o:=by
 refine W.hideAll_get _ e ?_;rw[eE,eE];rintro((q|q)|q)
 .exact hm q
 .obtain l|_|q:=oK.mp q;cases z:N.H l with
  |none=>rw[z]at q;cases q
  |some j=>
   rw[z]at q;dsimp only at q;cases c:j.cL with
   |true=>rw[c]at q;cases q
   |false=>rw[c]at q;exact h1 l j z c (dT q).symm
 .obtain l|_|q:=oK.mp q;cases z:N.H l with
  |none=>rw[z]at q;cases q
  |some j=>
   rw[z]at q;dsimp only at q;cases c:j.bZ with
   |false=>rw[c]at q;cases q
   |true=>rw[c]at q;exact h2 l j z c (dT q).symm
theorem R.fP(r:R B y N s){more:List ao}(hm:∀b∈more,B.aO.get? b=F){b:ao}(e:B.aO.get? b=U o):(under N y s.heap more).get? b=U o:=
 fc (r.bg b o e) (λ q=>by rw[hm b q]at e;cases e) (λ l j h c q=>by rw[q,(r.new _ _ h c).1]at e;cases e) λ l j h c q=>by rw[q,(r.ic _ _ h c).1]at e;cases e
noncomputable def Bk.to(B:Bk)(aO:Heap)(L:ao):Bk:={B with aO:=aO,L:=L}
theorem ms.to(x:ms B n y h l o):ms (B.to aO L) n y h l o:=by cases o<;>exact x
theorem ms.from{n:J}{h:Heap}{l:Loc}{o:O}{aO:Heap}{L:ao}(x:ms (B.to aO L) n y h l o):ms B n y h l o:=by cases o<;>exact x
theorem R.push(r:R B y N s){more:List ao}(hm:∀b∈more,B.aO.get? b=F){L':ao}(A:(under N y s.heap more).get? L'=F)(h1:∀l o,N.H l=U o->o.cL=aj->y.ad l≠L')(h2:∀l o,N.H l=U o->o.bZ=ai->y.dd l≠L')
 {h₁:Heap}{tk:Tok}{loc:af->Option V}(C:∀b o,s.heap.get? b=U o->h₁.get? b=U o)(hn:∃m,h₁.Ns L' m/\∀x,zk N.n y (loc x) (m x)):
 R (B.to (under N y s.heap more) L') y {N with loc:=loc} {s with heap:=h₁,toks:=tk}:=by
 have j:=r.grow (tk:=tk) C;exact⟨r.gens,r.os,λ b o e=>r.fP hm (r.root b o e),λ b o e=>C _ _ (under_get e),A,hn,λ l o e=>⟨(j.obj l o e).1,(j.obj l o e).2.to⟩,
  λ l o e c=>⟨FD r e c,h1 l o e c⟩,λ l o e c=>⟨IP r e c,h2 l o e c⟩,j.inj,j.pW,j.ox,j.nolimit,j.hi⟩
theorem R.pop{st':St}{w:Lay}{L:aN}{aO:Heap}(j:R (B.to aO L') w st' L)(hb:∀b o,B.aO.get? b=U o->aO.get? b=U o)(i:∀b o,B.root.get? b=U o->B.aO.get? b=U o)(low:B.aO.get? B.L=F)
 {loc:af->Option V}(hn:∃m,L.heap.Ns B.L m/\∀x,zk st'.n w (loc x) (m x))(h1:∀l o,st'.H l=U o->o.cL=aj->w.ad l≠B.L)(h2:∀l o,st'.H l=U o->o.bZ=ai->w.dd l≠B.L):
 R B w {st' with loc:=loc} L:=by
 have nb:∀{b:ao},aO.get? b=F->B.aO.get? b=F:=λ{b} q=>by
  cases z:B.aO.get? b with
  |none=>rfl
  |some o=>rw[hb _ _ z]at q;cases q
 exact⟨j.gens,j.os,i,λ b o e=>j.bg _ _ (hb _ _ e),low,hn,λ l o e=>⟨(j.obj l o e).1,(j.obj l o e).2.from⟩,λ l o e c=>⟨nb (j.new l o e c).1,h1 l o e c⟩,λ l o e c=>⟨nb (j.ic l o e c).1,h2 l o e c⟩,j.inj,j.pW,j.ox,j.nolimit,j.hi⟩
theorem R.CH(r:R B y N s){more:List ao}(hm:∀b∈more,B.aO.get? b=F)(A:B.L∉more){st':St}(e:Ext N.n y st'.n w)(j:R (B.to (under N y s.heap more) L') w st' L):
 R B w {st' with loc:=N.loc} L:=by
 obtain m|⟨P,f,i,h,a⟩|z:=r.ns;have d:(under N y s.heap more).get? B.L=U P:=fc h A (λ l o e c q=>(r.new l o e c).2 q.symm) λ l o e c q=>(r.ic l o e c).2 q.symm
 refine j.pop (λ b o e=>r.fP hm e) r.root r.low ⟨m,⟨P,f,i,j.bg _ _ d,a⟩,λ x=>(z x).mono e⟩ (λ l o e c q=>?_) λ l o e c q=>?_
 .have:=(j.new l o e c).1;rw[q]at this;rw[show(B.to (under N y s.heap more) L').aO=under N y s.heap more from rfl,d]at this;cases this
 .have:=(j.ic l o e c).1;rw[q]at this;rw[show(B.to (under N y s.heap more) L').aO=under N y s.heap more from rfl,d]at this;cases this
theorem R.M9(r:R B y N s){more:List ao}(hm:∀b∈more,B.aO.get? b=F)(j:R (B.to (under N y s.heap more) B.L) w st' L):R B w st' L:=
 j.pop (λ b o e=>r.fP hm e) r.root r.low j.ns (λ l o e c=>(j.new l o e c).2) λ l o e c=>(j.ic l o e c).2
theorem R.other(r:R B y N s){a:ao}{h':Heap}{tk:Tok}(hs:Heap.SameBut a s.heap h'){L:b8}(v:s.heap.get? a=U L)(nt:NT L)(hb:B.aO.get? a=F)(I:a≠B.L)
 (h1:∀l o,N.H l=U o->o.cL=aj->y.ad l≠a)(h2:∀l o,N.H l=U o->o.bZ=ai->y.dd l≠a):R B y N {s with heap:=h',toks:=tk}:=by
 refine⟨r.gens,r.os,r.root,λ b x e=>(hs.2 b ?_).trans (r.bg b x e),r.low,r.ns.imp λ _ h=>⟨h.1.sameBut hs (gP I),h.2⟩,λ l o e=>?_,r.new,r.ic,r.inj,r.pW,r.ox,r.nolimit,r.hi⟩
 .rintro rfl;rw[hb]at e;cases e
 .have z:=r.obj l o e;exact⟨z.1,z.2.yg .refl z.1 (λ k x g=>g.but v nt hs) (λ c=>hs.2 _ (h1 _ _ e c)) λ c=>hs.2 _ (h2 _ _ e c)⟩
end
end
def dt{β:Type}(B:Bk)(A:dF)(y:Lay)(N:St)(s:aN)(t:Sem β)(rel:J->Lay->β->be)(st':St):be:=
 ∀(E:al->aN->be)(Q:β->aN->be),(∀w b L,Ext N.n y st'.n w->R B w st' L->rel st'.n w b->Q b L)->aZ (bB B.prog B.w) A t Q E s
def vr(v:V):J->Lay->al->be:=λ n y D=>VR n y v D
def br(b:bG):J->Lay->bG->be:=λ _ _ H=>H=b
def ur:J->Lay->Unit->be:=λ _ _ _=>True
structure Good(A:dF)(d:J):Prop where
 handled:A.handled=F
 depth:A.depth+10+4*d<=nY
 units:A.units+200+40*d<=kz
section
variable{B:Bk}{A:dF}{y:Lay}{N st' st'':St}{s:aN}{α β:Type}
theorem bH{N:St}(h:aI m f N=U r):∃a H,m N=U (a,H)/\f a H=U r:=by
 unfold aI at h;cases q:m N with
 |none=>rw[q]at h;cases h
 |some p=>rw[q]at h;exact qz p.1 p.2 Y h
theorem kO{a b:α}{N st':St}(h:ret a N=U (b,st')):b=a/\st'=N:=by cases h;exact⟨Y,Y⟩
theorem qO{b:α}{N st':St}(h:uS o N=U (b,st')):o=U b/\st'=N:=by
 unfold uS at h;cases o with
 |none=>cases h
 |some a=>cases h;exact⟨Y,Y⟩
theorem t7{N st':St}(h:look l N=U (o,st')):N.H l=U o/\st'=N:=by
 unfold look at h;cases q:N.H l with
 |none=>rw[q]at h;cases h
 |some a=>rw[q]at h;cases h;exact⟨Y,Y⟩
theorem dt.pure{b:β}(r:R B y N s)(h:rel N.n y b):dt B A y N s (A9 b) rel N:=λ _ _ k=>bn (k y b s .refl r h)
theorem dt.bind(h:dt B A y N s t rel st')
 (k:∀w a L,Ext N.n y st'.n w->R B w st' L->rel st'.n w a->dt B A w st' L (f a) c st''):dt B A y N s (t>>=f) c st'':=
 λ E Q q=>aW (h E _ λ w a L e r v=>k w a L e r v E Q λ d b g e' j D=>q d b g (e.trans e') j D)
theorem dt.int{t:Sem al}{i:Int}(r:R B y N s)(h:∀E Q,(∀I tk,Q (.int i I) {s with toks:=tk})->aZ (bB B.prog B.w) A t Q E s):dt B A y N s t (vr (.int i)) N:=
 λ E Q q=>h E Q λ _ _=>q y _ _ .refl r.tok ⟨_,Y⟩
theorem R.list(r:R B y N s){l:Loc}{xs:List V}(h:N.H l=U ⇑xs):∃vs k,IsL s.heap (y.ad l) vs k/\dh N.n y xs vs.toList:=(r.obj _ _ h).2
theorem R.tup(r:R B y N s){l:Loc}{xs:List V}(h:N.H l=U (.tup xs)):∃vs k,IsT s.heap (y.ad l) vs k/\dh N.n y xs vs.toList:=(r.obj _ _ h).2
theorem R.dict(r:R B y N s){l:Loc}{es:List (aJ×V)}(h:N.H l=U (.dict es)):hJ B.prog B.w N.n y s.heap (y.ad l) es:=(r.obj _ _ h).2
theorem dC{o:b8}{T:String}(h:o.cls=.type T)(n:T≠"tuple"):NT o:=.inl λ e=>n (Value.type.inj (h.symm.trans e))
theorem isList{h:Heap}{a:ao}(x:IsL h a vs k):h.IsList a vs:=⟨_,x,Y,k,Y⟩
theorem De{h:Heap}{a:ao}(x:IsT h a vs k):h.IsTuple a vs:=⟨_,x,Y,k,Y⟩
theorem R.big(r:R B y N s):2<s.heap.objs.size:=by obtain c|hn|_:=r.nolimit;exact(hn.keeps λ b o e=>r.bg _ _ (r.root _ _ e)).lt
theorem R.nC(r:R B y N s){vs:Array al}(h:dh N.n y xs vs.toList):
 R B (y.put N.n s.heap.objs.size s.heap.objs.size) {loc:=N.loc,H:=ah N.H N.n (U ⇑xs),n:=N.n+1} {s with heap:=s.heap.push {cls:=.type "list",data:=.seq vs},toks:=tk}:=by
 refine r.alloc Y (λ b x e=>Heap.get?_push_of_some _ e) ?_ ?_ ?_ (λ c=>by cases c) ⟨vs,0,?_,h.mono .put⟩
 .cases q:s.heap.get? s.heap.objs.size with
  |none=>rfl
  |some o=>exact absurd (Heap.lt_size q) (lQ _)
 .obtain m|hm|_:=r.ns;exact ju hm.lt
 .exact r.big
 .rw[show(y.put N.n s.heap.objs.size s.heap.objs.size).ad N.n=s.heap.objs.size from aa ..];exact Heap.get?_push_size _ Y
theorem R.Nq(r:R B y N s){vs:Array al}(h:dh N.n y xs vs.toList):
 R B (y.put N.n s.heap.objs.size s.heap.objs.size) {loc:=N.loc,H:=ah N.H N.n (U (.tup xs)),n:=N.n+1} {s with heap:=s.heap.push {cls:=.type "tuple",data:=.seq vs},toks:=tk}:=by
 refine r.alloc Y (λ b x e=>Heap.get?_push_of_some _ e) ?_ ?_ ?_ (λ c=>by cases c) ⟨vs,0,?_,h.mono .put⟩
 .cases q:s.heap.get? s.heap.objs.size with
  |none=>rfl
  |some o=>exact absurd (Heap.lt_size q) (lQ _)
 .obtain m|hm|_:=r.ns;exact ju hm.lt
 .exact r.big
 .rw[show(y.put N.n s.heap.objs.size s.heap.objs.size).ad N.n=s.heap.objs.size from aa ..];exact Heap.get?_push_size _ Y
theorem eN{n:J}{y:Lay}{a d:ao}:VR (n+1) (y.put n a d) ↥n ↥a:=⟨cQ _,by rw[show(y.put n a d).ad n=a from aa ..]⟩
theorem gK{o:O}{v:V}{N st':St}(h:new o N=U (v,st')):v=.ref N.n/\st'={loc:=N.loc,H:=ah N.H N.n (U o),n:=N.n+1}:=by obtain a|i|h1|h2:=bH h;cases h1;cases h2;exact⟨Y,Y⟩
noncomputable def F2:Bop->lW
 |.add=>.Add|.sub=>.Sub|.mod=>.Mod
theorem aw{o:Option α}{b:α}{p:be}(h:o=U b)(e:o=F:=by rfl):p:=c_ns (e.symm.trans h)
theorem fq{o:Option α}{b:β}(h:o.bind f=U b):∃a,o=U a/\f a=U b:=pM.mp h
theorem wU{c:be}[Decidable c]{b:α}(h:(if c then o else F)=U b):c/\o=U b:=by
 by_cases q:c
 .rw[if_pos q]at h;exact⟨q,h⟩
 .rw[if_neg q]at h;cases h
theorem Ow{c:be}[Decidable c]{b:α×St}(h:(if c then m else bj) N=U b):c/\m N=U b:=by
 by_cases q:c
 .rw[if_pos q]at h;exact⟨q,h⟩
 .rw[if_neg q]at h;cases h
theorem au{C:be}{m:M α}{f:α->M β}{N:St}{r:β×St}(h:aI m f N=U r)(k:∀a H,m N=U (a,H)->f a H=U r->C):C:=by have e:=bH h;obtain a|b|c|d:=e;exact k a b c d
theorem aM{C:be}{o:Option α}{f:α->Option β}{b:β}(h:o.bind f=U b)(k:∀a,o=U a->f a=U b->C):C:=by have e:=fq h;obtain a|c|d:=e;exact k a c d
theorem bk{C:be}{a b:α}{N st':St}(h:ret a N=U (b,st'))(k:b=a->st'=N->C):C:=k (kO h).1 (kO h).2
theorem bY{C c:be}[Decidable c]{b:α}(h:(if c then o else F)=U b)(k:c->o=U b->C):C:=k (wU h).1 (wU h).2
theorem l8{C c:be}[Decidable c]{b:α×St}(h:(if c then m else bj) N=U b)(k:c->m N=U b->C):C:=k (Ow h).1 (Ow h).2
theorem wl{l:Loc}{f:O->Option α}{g:α->β}{b:β}(h:(((N.H l).bind f).bind λ a=>U (g a,N))=U (b,st')):∃o a,N.H l=U o/\f o=U a/\b=g a/\st'=N:=by exists aM h,a,h1,h2;exists aM h1,o,I,D;cases h2;exact pY o a I D Y Y
theorem fV{l:Loc}{f:O->Option α}{a:α}(h:PV l f N=U (a,st')):∃o,N.H l=U o/\f o=U a/\st'=N:=
by obtain o|_|h1|h2|I|D:=wl (g:=id) h;exact gc o h1 (I▸h2) D
theorem x9{l:Loc}{f:O->Option O}{a b:α}(h:wrO l f a N=U (b,st')):∃o o',N.H l=U o/\f o=U o'/\b=a/\st'={loc:=N.loc,H:=ah N.H l (U o'),n:=N.n}:=by exists aM h,o',h1,h2;exists aM h1,o,I,D;cases h2;exact pY o o' I D Y Y
theorem kJ{l:Loc}{f:O->Option O}{v:V}(h:U1 l f N=U (v,st')):∃o o',N.H l=U o/\f o=U o'/\v=.ref N.n/\st'={loc:=N.loc,H:=ah N.H N.n (U o'),n:=N.n+1}:=by exists aM h,o',h1,h2;exists aM h1,o,I,D;cases h2;exact pY o o' I D Y Y
theorem sq{l:Loc}{f:O->Option (V×O)}{v:V}(h:rwO l f N=U (v,st')):∃o p,N.H l=U o/\f o=U p/\v=p.1/\st'={loc:=N.loc,H:=ah N.H l (U p.2),n:=N.n}:=by exists aM h,p,h1,h2;exists aM h1,o,I,D;cases h2;exact pY o p I D Y Y
theorem DY(h:rM o o'=U r):∃xs ys,o=.list xs/\o'=.list ys/\xs.length+ys.length<=1000/\r=.list (xs++ys):=by
 cases o with
 |list xs=>cases o' with
  |list ys=>exists bY h,m,h;cases h;exact pY xs ys Y Y m Y
  |_=>exact aw h
 |_=>exact aw h
theorem ut{l Q:Loc}{r:O}(h:((N.H l).bind λ o=>(N.H Q).bind (rM o))=U r):∃xs ys,N.H l=U ⇑xs/\N.H Q=U ⇑ys/\xs.length+ys.length<=1000/\r=.list (xs++ys):=by exists aM h,o,h1,h;exists aM h,o',h2,h;obtain xs|ys|rfl|rfl|m|rfl:=DY h;exact pY xs ys h1 h2 m Y
theorem qU{op:Bop}(h:op.isAdd=ai):op=.add:=by cases op<;>first|rfl|cases h
theorem EI{op:Bop}{a b v:V}{n H:al}(r:R B y N s)(ha:VR N.n y a n)(hb:VR N.n y b H)(h:binop op a b N=U (v,st')):
 dt B A y N s (binaryOp (F2 op) n H) (vr v) st':=by
 cases a with
 |int i=>cases b with
  |int j=>
   obtain t|rfl:=ha;obtain I|rfl:=hb;exists aM h,k,C,h;cases h;cases op with
   |add=>cases C;exact dt.int r λ E Q q=>P.add_int (q _ _)
   |sub=>cases C;exact dt.int r λ E Q q=>P.sub_int (q _ _)
   |mod=>exists bY C,S,C;cases C;rw[<-Int.fmod_eq_emod_of_nonneg _ (Int.le_of_lt S.1)];exact dt.int r λ E Q q=>PyProof.Rows.mod_int' (Int.ne_of_gt S.1) (q _ _)
  |_=>exact aw h
 |str i=>cases b with
  |str j=>exists l8 h;rintro⟨d,m⟩ g;cases g;cases qU d;obtain t|rfl:=ha;obtain I|rfl:=hb;exact λ E Q q=>PyProof.Rows.add_str (λ t' k=>q y _ _ .refl r.tok ⟨t',Y⟩) (by rw[eH];exact bx m aL)
  |_=>exact aw h
 |ref l=>cases b with
  |ref L=>refine l8 h ?_;intro d g;exists aM g,o,g1,g;cases g;obtain xs|ys|h1|h2|m|rfl:=ut g1;cases qU d;obtain vs|X|l1|e:=r.list h1;obtain c|D|l2|w:=r.list h2;obtain _|rfl:=ha;obtain _|rfl:=hb;exact λ E Q q=>P.add_list l1 l2 (q _ _ _ .put (r.nC (by rw[KW];exact e.append w)) eN) (by rw[eH];have:=e.length;have:=w.length;simp only[mJ]at*;omega)
  |_=>exact aw h
 |_=>exact aw h
theorem R.mapList(r:R B y N s)(h:N.H l=U ⇑xs)(L:IsL s.heap (y.ad l) vs k)(P:dh N.n y x (f vs).toList):
 R B y {N with H:=ah N.H l (U (O.list x))} {s with heap:=s.heap.update (y.ad l) (z5 f),toks:=tk}:=
 r.update (o':=⇑x) h (.inl Y) Y Y Y (Heap.SameBut.update ..) L (dC Y aL) ⟨_,_,L.update f,P⟩
theorem dh.dropLast{xs:List V}{vs:List al}{y:Lay}(a:dh n y xs vs):dh n y xs.dropLast vs.dropLast:=by
 induction xs generalizing vs with
 |nil=>cases vs with
  |nil=>exact trivial
  |cons=>exact a.elim
 |cons x xs X=>cases vs with
  |nil=>exact a.elim
  |cons v vs=>cases xs with
   |nil=>cases vs with
    |nil=>exact trivial
    |cons=>exact a.2.elim
   |cons=>cases vs with
    |nil=>exact a.2.elim
    |cons=>exact⟨a.1,X a.2⟩
theorem dh.getLast:∀{xs:List V}{vs:List al}{n:J}{y:Lay}{x:V},dh n y xs vs->xs.getLast?=U x->∃v,vs.getLast?=U v/\VR n y x v:=λ{xs vs n y x} h e=>by rw[Ji]at e⊢;rw[<-h.length];exact h.get e
theorem dh.cons_inv{y:Lay}(h:dh n y (x::xs) vs):∃v r,vs=v::r/\VR n y x v/\dh n y xs r:=by
 cases vs with
 |nil=>exact h.elim
 |cons v r=>exact pX v r Y h.1 h.2
theorem dh.nil_inv{y:Lay}(h:dh n y [] vs):vs=[]:=by
 cases vs with
 |nil=>rfl
 |cons v r=>exact h.elim
structure Wd(K:W.Frag)(B:Bk):Prop where
 ou:K.In B.root
 nolimit:B.root.NoLimit
theorem R.here(r:R B y N s){b:ao}(e:B.root.get? b=U o):s.heap.get? b=U o:=r.bg _ _ (r.root _ _ e)
theorem Heap.NoLimit.Jj{h h':Heap}(x:h.NoLimit)(C:∀b o,h.get? b=U o->h'.get? b=U o):h'.NoLimit:=x.imp λ _ x=>⟨x.1.keeps C,x.2⟩
theorem gR{xs:List V}{k:Int}(h:idx xs k=U j):(0<=k/\k<xs.length/\j=k.toNat)\/(k<0/\0<=k+xs.length/\j=(k+xs.length).toNat):=by
 unfold idx at h;split at h
 .split at h
  .exact .inl ⟨by assumption,by assumption,(dT h).symm⟩
  .cases h
 .split at h
  .exact .inr ⟨by omega,by assumption,(dT h).symm⟩
  .cases h
theorem dh.size{n:J}{y:Lay}{xs:List V}{vs:Array al}(h:dh n y xs vs.toList):xs.length=vs.size:=h.length.trans mJ
theorem pN{i:Int}{n:J}(h0:0<=i)(h1:i<n):xd i n=U i.toNat:=by have h2:¬i<0:=(om4 h0);simp[xd,h0,h1,h2]
theorem seqIndex_neg{i:Int}{n:J}(h0:i<0)(h1:0<=i+n):xd i n=U (i+n).toNat:=by have h2:i+(n:Int)<n:=(om5 h0);simp[xd,h0,h1,h2]
section
variable{l:Loc}{xs:List V}{v k:V}{v' k':al}
theorem zl(r:R B y N s)(h:N.H l=U ⇑xs)(m:xs.length<=1000)(z:VR N.n y v v'):
 dt B A y N s (call (.builtin "list.append") [↥(y.ad l),v']) (vr .none) {N with H:=ah N.H l (U ⇑(xs++[v]))}:=by
 obtain vs|k|L|c:=r.list h;have w:=c.size;exact λ E Q q=>sp wr ⟨_,L,Y⟩ Ba (zX _ _) (zu _ vs k _ (by rw[eH];exact Fh w m))
  ⟨L,q _ _ _ .refl (r.mapList h L (f:=λ x=>x.push v') (by rw[Ac];exact c.append ⟨z,trivial⟩)) Y⟩
theorem MA(r:R B y N s)(h:N.H l=U ⇑xs)(m:xs.length<=1000)(g:xs.getLast?=U v):
 dt B A y N s (call (.builtin "list.pop") [↥(y.ad l)]) (vr v) {N with H:=ah N.H l (U ⇑xs.dropLast)}:=by
 obtain vs|k|L|c:=r.list h;have w:=c.size;obtain I|p|d:=c.getLast g;have b:0<vs.size:=by
  rw[<-w];cases xs with
  |nil=>cases g
  |cons=>simp
 have S:vs[vs.size -1]?=U I:=by rw[<-p,Ji,rm,mJ]
 refine λ E Q q=>sp Bs ⟨_,L,Y⟩ Kw (F.args_list_pop_1 _) (MeetsSeq.list_pop_last _ vs k I S (by rw[eH];exact Fh w m))
  ⟨L,q _ _ _ .refl (r.mapList h L (f:=λ x=>x.eraseIdxIfInBounds (vs.size -1)) ?_) d⟩
 have:(vs.eraseIdxIfInBounds (vs.size -1)).toList=vs.toList.dropLast:=by simp only[Jg,Nat.sub_lt b Nat.one_pos,dite_true,Array.toList_eraseIdx];rw[List.eraseIdx_eq_take_drop_succ,List.drop_of_length_le (by rw[mJ];exact oq1),kh,List.dropLast_eq_take,mJ]
 rw[this];exact c.dropLast
theorem Ju(r:R B y N s)(h:N.H l=U ⇑(v::xs))(m:xs.length<=1000):
 dt B A y N s (call (.builtin "list.pop") [↥(y.ad l),.int 0 t]) (vr v) {N with H:=ah N.H l (U ⇑xs)}:=by
 obtain vs|k|L|c:=r.list h;have w:=c.size;rw[eF]at w;obtain I|i|e|d|a:=c.cons_inv;have S:vs[0]?=U I:=by rw[<-rm,e];rfl
 refine λ E Q q=>sp Bs ⟨_,L,Y⟩ Kw (F.args_list_pop_2 _ _) (MeetsSeq.list_pop_at _ vs k 0 t 0 I aL (pN oq2 ((oq3 w))) S (by rw[eH];exact oq4 w m))
  ⟨L,q _ _ _ .refl (r.mapList h L (f:=λ x=>x.eraseIdxIfInBounds 0) ?_) d⟩
 have:(vs.eraseIdxIfInBounds 0).toList=i:=by simp[Jg,show 0<vs.size from(oq5 w),e]
 rw[this];exact a
theorem Oa(r:R B y N s)(h:N.H l=U ⇑xs)(m:xs.length<=100000):
 dt B A y N s (call (.builtin "len") [↥(y.ad l)]) (vr (.int xs.length)) N:=by
 obtain vs|k|L|c:=r.list h;have w:=c.size;exact λ E Q q=>Calls.call_len_list (isList L) ((adZ w m)) (q _ _ _ .refl r.tok ⟨_,by rw[w]⟩)
theorem zc(r:R B y N s)(h:N.H l=U ⇑xs)(m:xs.length<=100000)(hi:idx xs i=U j)(g:xs[j]?=U v):
 dt B A y N s (lJ ↥(y.ad l) (.int i t)) (vr v) N:=by
 obtain vs|k|L|c:=r.list h;have w:=c.size;obtain I|p|d:=c.get g;rw[rm]at p;rcases gR hi with⟨a,b,rfl⟩|⟨a,b,rfl⟩
 .exact λ E Q q=>wpAny_getItem_list (isList L) a ((Zu m b)) p (q _ _ _ .refl r d)
 .exact λ E Q q=>wpAny_getItem_list_neg (isList L) a ((aaL b w)) ((UI b m)) (by rw[<-w];exact p) (q _ _ _ .refl r d)
theorem BC(r:R B y N s)(h:N.H l=U (.tup xs))(m:xs.length<=100000)(hi:idx xs i=U j)(g:xs[j]?=U v):
 dt B A y N s (lJ ↥(y.ad l) (.int i t)) (vr v) N:=by
 obtain vs|k|L|c:=r.tup h;have w:=c.size;obtain I|p|d:=c.get g;rw[rm]at p;refine λ E Q q=>P.getItem_tuple L ?_ ?_ (k:=j) ?_ p (q _ _ _ .refl r d)
 .rcases gR hi with⟨a,b,rfl⟩|⟨a,b,rfl⟩<;>omega
 .rcases gR hi with⟨a,b,rfl⟩|⟨a,b,rfl⟩<;>omega
 .rcases gR hi with⟨a,b,rfl⟩|⟨a,b,rfl⟩
  .exact pN a ((YI w b))
  .rw[w];exact seqIndex_neg a ((acF b w))
theorem yG(r:R B y N s)(h:N.H l=U ⇑xs)(m:xs.length<=100000)(hi:idx xs i=U j)(z:VR N.n y v v'):
 dt B A y N s (qV ↥(y.ad l) (.int i t) v') ur {N with H:=ah N.H l (U ⇑(xs.set j v))}:=by
 obtain vs|k|L|c:=r.list h;have w:=c.size;rcases gR hi with⟨a,b,rfl⟩|⟨a,b,rfl⟩
 .exact λ E Q q=>W.ki_setAt L a ((Zu m b)) ((YI w b)) (q _ _ _ .refl (r.mapList h L (f:=λ x=>x.setIfInBounds i.toNat v') (by rw[I2];exact c.set z)) trivial)
 .exact λ E Q q=>W.ki_setBack L a ((aaL b w)) ((UI b m)) (q _ _ _ .refl (r.mapList h L (f:=λ x=>x.setIfInBounds (i+vs.size).toNat v') (by rw[I2,<-w];exact c.set z)) trivial)
end
end
theorem rf(items:Array al){lo hi:Option Int}{a b:J}(ha:(lo=F/\a=0)\/lo=U (a:Int))(hb:(hi=F/\b=items.size)\/hi=U (b:Int)):
 (slicePick items lo hi F).toList=(items.toList.take b).drop a:=by
 have e:sliceBounds lo hi F items.size=(((min a items.size:J):Int),((min b items.size:J):Int),1):=by
  simp only[sliceBounds,Option.getD_none,show(1:Int)>0 by decide,if_true];refine rp ?_ (rp ?_ Y)
  .rcases ha with⟨rfl,rfl⟩|rfl
   .simp
   .have h2:¬((a:Int)<0):=Vs;simp only[h2,if_false];exact Zx
  .rcases hb with⟨rfl,rfl⟩|rfl
   .simp
   .have h2:¬((b:Int)<0):=Vs;simp only[h2,if_false];exact Zx
 unfold slicePick;rw[e];simp only[sliceRange_one,pick_run];rw[List.drop_take];have L:items.toList.length=items.size:=mJ;by_cases h1:a<=items.size
 .rw[xc h1];have hd:(items.toList.drop a).length=items.size -a:=B0.trans (congrArg (· -a) L);rcases Nat.le_total b items.size with h|h
  .rw[xc h]
  .rw[KI h];exact(wD (hQ hd)).trans (wD (bx (hQ hd) (Nat.sub_le_sub_right h a))).symm
 .have h2:=Nat.le_of_not_le h1;rw[KI h2,Gi (hQ L),Gi (bx (hQ L) h2)];exact Gp.trans Gp.symm
section
variable{D K:Type}[DecidableEq K]{enc:K->aJ}{f:D->K}{g:D->al}{n:J}{y:Lay}{es:List (aJ×V)}{ds:List D}
theorem gx.find(inj:∀a b,enc a=enc b->a=b)(k:K)(a:gx n y enc f g es ds):zk n y (atK es (enc k)) ((ds.find? λ d=>decide (f d=k)).map g):=
 gx.ind a trivial λ e es d ds h v _ X=>by
  unfold atK at X⊢;rw[im,im,h];by_cases q:f d=k
  .rw[decide_eq_true q,decide_eq_true (congrArg enc q)];exact v
  .rw[decide_eq_false q,decide_eq_false λ e=>q (inj _ _ e)];exact X
theorem gx.any(inj:∀a b,enc a=enc b->a=b)(k:K)(a:gx n y enc f g es ds):es.any (λ e=>decide (e.1=enc k))=ds.any λ d=>decide (f d=k):=
 gx.ind a Y λ e es d ds h v _ X=>by
  rw[jW,jW,X,h];by_cases q:f d=k
  .rw[decide_eq_true q,decide_eq_true (congrArg enc q)]
  .rw[decide_eq_false q,decide_eq_false λ e=>q (inj _ _ e)]
theorem gx.Q1(inj:∀a b,enc a=enc b->a=b){k:K}{v:V}{p:D->D}(hp:∀d,f d=k->f (p d)=k/\VR n y v (g (p d)))(a:gx n y enc f g es ds):
 gx n y enc f g (es.map λ e=>if e.1=enc k then(e.1,v)else e) (ds.map λ d=>if f d=k then p d else d):=
 gx.ind a trivial λ e es d ds h w _ X=>by
  rw[bW,bW];by_cases q:f d=k
  .rw[if_pos q,if_pos (h.trans (congrArg enc q))];exact⟨h.trans (congrArg enc (q.trans (hp d q).1.symm)),(hp d q).2,X⟩
  .rw[if_neg q,if_neg λ e=>q (inj _ _ (h.symm.trans e))];exact⟨h,w,X⟩
theorem gx.snoc{d:D}{v:V}(z:VR n y v (g d))(a:gx n y enc f g es ds):gx n y enc f g (es++[(enc (f d),v)]) (ds++[d]):=
 gx.ind a ⟨Y,z,trivial⟩ λ _ _ _ _ h w _ X=>⟨h,w,X⟩
theorem gx.del(inj:∀a b,enc a=enc b->a=b)(a:gx n y enc f g es ds):gx n y enc f g (xH (enc k) es) (ds.filter λ d=>decide (f d≠k)):=
 gx.ind a trivial λ e es d ds h w _ X=>by
  unfold xH at X⊢;rw[jf,jf,h];by_cases q:f d=k
  .rw[decide_eq_false (not_not_intro q),decide_eq_false (not_not_intro (congrArg enc q))];exact X
  .rw[decide_eq_true q,decide_eq_true (show enc (f d)≠enc k from λ e=>q (inj _ _ e))];exact⟨h,w,X⟩
theorem gx.set(inj:∀a b,enc a=enc b->a=b){k:K}{v:V}{p:D->D}{d:D}(hd:f d=k)(z:VR n y v (g d))(hp:∀d,f d=k->f (p d)=k/\VR n y v (g (p d)))(a:gx n y enc f g es ds):
 gx n y enc f g (fO (enc k) v es) (if(ds.any λ d=>decide (f d=k))=ai then ds.map (λ d=>if f d=k then p d else d)else ds++[d]):=by
 unfold fO;rw[a.any inj k];by_cases q:(ds.any λ d=>decide (f d=k))=ai
 .rw[if_pos q,if_pos q];exact a.Q1 inj hp
 .rw[if_neg q,if_neg q];exact hd▸a.snoc z
end
section
variable{K:Type}[DecidableEq K]{enc:K->aJ}{n:J}{y:Lay}{es:List (aJ×V)}{kvs:List (K×al)}{xs:List (K×ao×al)}
theorem Ip{α:Type}{p:α->bG}{l:List α}:(l.find? p).isSome=l.any p:=by
 induction l with
 |nil=>rfl
 |cons a l X=>
  rw[im,jW];cases p a with
  |true=>rfl
  |false=>exact X
theorem KV.length(a:KV n y enc es kvs):es.length=kvs.length:=gx.length a
theorem KV.at(inj:∀a b,enc a=enc b->a=b)(k:K)(a:KV n y enc es kvs):zk n y (atK es (enc k)) (oL kvs k):=gx.find inj k a
theorem KV.set(inj:∀a b,enc a=enc b->a=b){k:K}{v:V}{D:al}(z:VR n y v D)(h:KV n y enc es kvs):KV n y enc (fO (enc k) v es) (stored kvs k D):=
 gx.set (p:=λ d=>(d.1,D)) (d:=(k,D)) inj Y z (λ _ q=>⟨q,z⟩) h
theorem KV.del(inj:∀a b,enc a=enc b->a=b)(a:KV n y enc es kvs):KV n y enc (xH (enc k) es) (without kvs k):=gx.del inj a
theorem Fm.length(a:Fm n y enc es xs):es.length=xs.length:=gx.length a
theorem Fm.at(inj:∀a b,enc a=enc b->a=b)(k:K)(a:Fm n y enc es xs):zk n y (atK es (enc k)) ((atKey xs k).map (·.2)):=by unfold atKey;rw[FQ];exact gx.find inj k a
theorem Fm.set(inj:∀a b,enc a=enc b->a=b){k:K}{v:V}{D:al}{a:ao}(z:VR n y v D)(h:Fm n y enc es xs):Fm n y enc (fO (enc k) v es) (storedH xs k a D):=by
 have e:(atKey xs k).isSome=xs.any λ d=>decide (d.1=k):=by unfold atKey;rw[Ag,Ip]
 unfold storedH;rw[e];exact gx.set (p:=λ d=>(d.1,d.2.1,D)) (d:=(k,a,D)) inj Y z (λ _ q=>⟨q,z⟩) h
end
theorem Ho(k:aJ)(v:V)(es:List (aJ×V)):∃e∈fO k v es,e.1=k:=by
 unfold fO;split
 .rename_i h;obtain e|P|C:=Le.mp h;exact cC (e.1,v) (bI.mpr ⟨e,P,by rw[if_pos (of_decide_eq_true C)]⟩) (of_decide_eq_true C)
 .exact cC (k,v) (BP _ (.head _)) Y
section
variable{prog:el}{w:cj}{n:J}{y:Lay}{h:Heap}{a:ao}{es:List (aJ×V)}
theorem KV.nil_inv{K:Type}{b:K->aJ}{kvs:List (K×al)}(h:KV n y b [] kvs):kvs=[]:=by
 cases kvs with
 |nil=>rfl
 |cons=>exact h.elim
theorem hJ.empty{K:Type}[DecidableEq K]{knd:KeyKind prog w K}(d:h.DictOf knd a []):hJ prog w n y h a []:=by
 obtain o|es|ep|f|g|hd|C|hp|hn:=d;have e:es=#[]:=by
  cases q:es.toList with
  |nil=>exact Array.toList_eq_nil_iff.mp q
  |cons=>rw[q]at hp;cases hp
 subst e;exact⟨λ _=>⟨[],⟨o,#[],ep,f,g,hd,λ e P=>by simp at P,.nil,.nil⟩,trivial⟩,λ _=>⟨[],⟨o,#[],ep,f,g,hd,λ e P=>by simp at P,.nil,.nil⟩,trivial⟩,
  λ _=>⟨[],⟨o,#[],ep,f,g,hd,Y,λ x g=>by simp at g,.nil⟩,trivial⟩,o,f,g.1⟩
theorem hJ.ofInt{kvs:List (Int×al)}(d:h.DictOf (dW prog w) a kvs)(k:KV n y aJ.int es kvs):hJ prog w n y h a es:=by
 cases es with
 |nil=>obtain rfl:=k.nil_inv;exact hJ.empty d
 |cons e r=>
  cases kvs with
  |nil=>exact k.elim
  |cons e' j=>
   obtain X|v:=e;have q:X=.int e'.1:=k.1;refine⟨λ _=>⟨_,d,k⟩,λ l=>?_,λ l=>?_,?_⟩
   .subst q;cases l
   .subst q;cases l
   .obtain o|es|ep|f|g|_:=d;exact cC o f g.1
theorem hJ.ofStr{kvs:List (af×al)}(d:h.DictOf (cy prog w) a kvs)(k:KV n y aJ.str es kvs):hJ prog w n y h a es:=by
 cases es with
 |nil=>obtain rfl:=k.nil_inv;exact hJ.empty d
 |cons e r=>
  cases kvs with
  |nil=>exact k.elim
  |cons e' j=>
   obtain X|v:=e;have q:X=.str e'.1:=k.1;refine⟨λ l=>?_,λ _=>⟨_,d,k⟩,λ l=>?_,?_⟩
   .subst q;cases l
   .subst q;cases l
   .obtain o|es|ep|f|g|_:=d;exact cC o f g.1
theorem hJ.Ue{xs:List ((af×List af)×ao×al)}(d:h.DictOfH (kB prog w) a xs)(k:Fm n y qJ es xs)(b:es≠[]):hJ prog w n y h a es:=by
 cases es with
 |nil=>exact absurd Y b
 |cons e r=>
  cases xs with
  |nil=>exact k.elim
  |cons e' j=>
   obtain X|v:=e;have q:X=qJ e'.1:=k.1;refine⟨λ l=>?_,λ l=>?_,λ _=>⟨_,d,k⟩,?_⟩
   .subst q;cases l
   .subst q;cases l
   .obtain o|es|ep|f|g|_:=d;exact cC o f g.1
end
theorem nz(a b:Int)(h:aJ.int a=aJ.int b):a=b:=aJ.int.inj h
theorem str_inj(a b:af)(h:aJ.str a=aJ.str b):a=b:=aJ.str.inj h
theorem v8(a b:af×List af)(h:qJ a=qJ b):a=b:=rp (aJ.tup.inj h).1 (aJ.tup.inj h).2
section
variable{B:Bk}{A:dF}{y:Lay}{N st':St}{s:aN}{d:J}
theorem BO{v:V}(h:v.Dl=U l):v=.ref l:=by cases v<;>cases h;rfl
theorem gO{v:V}(h:v.toInt=U i):v=.int i:=by cases v<;>cases h;rfl
theorem rB{v:V}(z:VR n y v D)(hd:IU v=U dd):∃as,Reads h D dd as:=by
 cases v with
 |int i=>obtain t|rfl:=z;cases hd;exact⟨_,.int i t⟩
 |str i=>obtain t|rfl:=z;cases hd;exact⟨_,.str i t⟩
 |bool b=>cases z;cases hd;exact⟨_,.bool b⟩
 |_=>exact aw hd
theorem mY(r:R B y N s)(k:J):∀(v:V)(D:al)(dd:PyData),VR N.n y v D->dat N.H k v=U dd->∃as,Reads s.heap D dd as:=by
 induction k with
 |zero=>exact λ v D dd z hd=>rB z hd
 |succ k X=>
  have all:∀(xs:List V)(vs:List al)(ds:List PyData),dh N.n y xs vs->s6 (dat N.H k) xs=U ds->∃as,ReadsAll s.heap vs ds as:=by
   intro xs
   induction xs with
   |nil=>intro vs ds z hd;obtain rfl:=z.nil_inv;cases hd;exact⟨_,.nil⟩
   |cons x xs h=>intro vs ds z hd;obtain I|i|rfl|h1|h2:=z.cons_inv;exists aM hd,a,Q,hd;exists aM hd,b,w,hd;cases hd;obtain as|f:=X _ _ _ h1 Q;obtain bs|C:=h _ _ h2 w;exact⟨_,.cons f C⟩
  intro v D dd z hd;cases v with
  |ref l=>
   obtain _|rfl:=z;obtain o|e|hd:=fq (show(N.H l).bind (Uv (dat N.H k))=U dd from hd);cases o with
   |list xs=>obtain ds|h1|rfl:=mG.mp hd;obtain vs|g|L|c:=r.list e;obtain as|f:=all _ _ _ c h1;exact⟨_,.list L Y Y f⟩
   |tup xs=>obtain ds|h1|rfl:=mG.mp hd;obtain vs|g|L|c:=r.tup e;obtain as|f:=all _ _ _ c h1;exact⟨_,.tuple L Y Y f⟩
   |_=>exact aw hd
  |_=>exact rB z hd
theorem xk{a b:V}{x:bG}(h:zi a b N=U (x,st')):st'=N/\∃e l,dat N.H 3 a=U e/\dat N.H 3 b=U l/\jr e=ai/\jr l=ai/\lZ e l=ai/\x=jw e l:=by exists aM h,e,Q,h;exists aM h,l,w,h;exists bY h,q,h;rw[pu,pu]at q;cases h;exact⟨Y,adD e l Q w q.1.1 q.1.2 q.2 Y⟩
noncomputable def O9:Cop->CmpOp
 |.eq=>.Eq|.ne=>.NotEq|.lt=>.Lt|.gt=>.Gt|.is=>.Is|.fj=>.IsNot|.isin=>.In|.eW=>.NotIn
def MQ(B:Bk)(h:Heap):aJ->al->be
 |.int i,v=>(∃t,v=.int i t)
 |.str x,v=>(∃t,v=.str x t)
 |.tup x xs,v=>∃a,v=.ref a/\dm B.prog B.w h (x,xs) a
theorem mD:∀{vs:List V}{c:List al}{b:List af}{n:J}{y:Lay},dh n y vs c->strsOf vs=U b->ItemsAre (cy B.prog B.w) b c
 |[],c,b,_,_,S,h=>by obtain rfl:=S.nil_inv;cases h;exact .nil
 |v::r,c,b,_,_,S,h=>by
  obtain I|c|rfl|h1|h2:=S.cons_inv;exists aM h,x,Q,h;exists aM h,xs,w,h;cases h;cases v with
  |str z=>cases Q;obtain t|rfl:=h1;exact .cons (by simp[cy,jK]) (mD h2 w)
  |_=>exact aw Q
theorem BK{p:af×Loc}(h:PG o=U p):o=.tup [.str p.1,↥p.2]:=by
 cases o with
 |tup xs=>cases xs with
  |nil=>exact aw h
  |cons a r=>cases r with
   |nil=>cases a<;>exact aw h
   |cons b q=>cases q with
    |nil=>cases a with
     |str s=>cases b with
      |ref l=>cases h;rfl
      |_=>exact aw h
     |_=>exact aw h
    |cons=>cases a<;>cases b<;>exact aw h
 |_=>exact aw h
theorem DO(h:tupS o=U b):∃vs,o=.tup vs/\strsOf vs=U b:=by
 cases o with
 |tup vs=>exact cC vs Y h
 |_=>exact aw h
theorem mo(r:R B y N s){v:V}{a:al}{k:aJ}(z:VR N.n y v a)(h:qe N.H v=U k):MQ B s.heap k a:=by
 cases v with
 |int i=>cases h;exact z
 |str i=>cases h;exact z
 |ref l=>exists aM h,o,h1,h;exists aM h,p,h2,h;exists aM h,o',I,h;exists aM h,b,D,h;cases h;cases BK h2;obtain n|rfl|x:=DO D;obtain _|rfl:=z;obtain vs|X|f|g:=r.tup h1;obtain c|S|j|w:=r.tup I;obtain P|H|Q|⟨t,rfl⟩|q:=g.cons_inv;obtain e|m|rfl|⟨_,rfl⟩|L:=q.cons_inv;obtain rfl:=L.nil_inv;exact⟨_,Y,_,t,_,X,f,Y,congrArg (Data.seq · X) (Array.ext' Q),_,c,S,j,Y,Y,mD w x⟩
 |_=>exact aw h
theorem ny{i:Int}{es:List (aJ×V)}(h:es.all (λ e=>(aJ.int i).fC e.1)=ai):es.all (λ e=>e.1.isInt)=ai:=h
theorem ki{i:af}{es:List (aJ×V)}(h:es.all (λ e=>(aJ.str i).fC e.1)=ai):es.all (λ e=>e.1.isStr)=ai:=h
theorem qC{x:af}{xs:List af}{es:List (aJ×V)}(h:es.all (λ e=>(aJ.tup x xs).fC e.1)=ai):es.all (λ e=>e.1.isTup)=ai:=h
theorem R.ng(r:R B y N s){l:Loc}{o:O}(h:N.H l=U o)(c:o.cL=aj):(y.ad l==sysModules)=aj:=by have:=r.hi _ _ h c;rw[beq_eq_false_iff_ne];show y.ad l≠1;exact λ e=>absurd this (by rw[e];decide)
theorem zA(es:List (aJ×V))(k:aJ):es.any (λ e=>decide (e.1=k))=(atK es k).isSome:=by
 unfold atK;rw[Ag]
 induction es with
 |nil=>rfl
 |cons e r X=>simp only[jW,im,X];cases decide (e.1=k)<;>simp
theorem zk.isSome{x:Option V}{v:Option al}(h:zk n y x v):v.isSome=x.isSome:=by cases x<;>cases v<;>first|rfl|exact h.elim
theorem in_dict(r:R B y N s)(g:Good A d){es:List (aJ×V)}{k:aJ}(h:N.H l=U (.dict es))(L:es.all (λ e=>k.fC e.1)=ai)(C:MQ B s.heap k j):
 dt B A y N s (iz .In j ↥(y.ad l)) (vr (.bool (es.any λ e=>decide (e.1=k)))) N:=by
 have hm:=r.ng h Y;have D:=r.dict h;rw[zA];cases k with
 |int i=>obtain t|rfl:=C;obtain kvs|hd|X:=D.1 (ny L);exact λ E Q q=>wpAny_in_of (knd:=dW B.prog B.w) (k:=i) (by simp[dW,lO]) hm hd.mapOf (q _ _ _ .refl r.tok (by rw[(X.at nz i).isSome];rfl))
 |str i=>obtain t|rfl:=C;obtain kvs|hd|X:=D.2.1 (ki L);exact λ E Q q=>wpAny_in_of (knd:=cy B.prog B.w) (k:=i) (by simp[cy,jK]) hm hd.mapOf (q _ _ _ .refl r.tok (by rw[(X.at str_inj i).isSome];rfl))
 |tup x xs=>
  obtain a|rfl|hn:=C;obtain kvs|hd|X:=D.2.2.1 (qC L);refine λ E Q q=>wpAny_in_heap (knd:=kB B.prog B.w) (k:=(x,xs)) ?_ hn hm hd (q _ _ _ .refl r.tok ?_)
  .show A.units+1+2<kz;have:=g.units;exact Rl this
  .have:=(X.at v8 (x,xs)).isSome;rw[Ag]at this;rw[this];rfl
theorem QK{M:iQ}{v c:al}:aZ M A (iz .In v c) Q E s↔aZ M A (contains c v) (λ b L=>Q (.bool b) L) E s:=by
 have e:iz .In v c=(contains c v>>=λ b=>A9 (Value.bool b)):=rfl;rw[e];constructor
 .intro h f p a;have:=h f p a;rw[Sem.wp_bind']at this;exact this
 .exact λ h=>aW (zt h (λ _ _ q=>bn q) λ _ _ e=>e)
theorem ye{v c:al}{b:bG}(h:dt B A y N s (iz .In v c) (vr (.bool b)) st'):dt B A y N s (iz .NotIn v c) (vr (.bool (!b))) st':=by intro E Q q;have h1:=QK.mp (h E (λ v L=>v=.bool b/\Q (.bool (!b)) L) λ w H L e r z=>⟨z,q w _ L e r Y⟩);have e:iz .NotIn v c=(contains c v>>=λ b=>A9 (Value.bool (!b))):=rfl;rw[e];refine aW (zt h1 (λ H L hb=>bn ?_) λ _ _ e=>e);obtain a|f:=hb;cases a;exact f
theorem FO:vu A s (.int i t) (.int j I) (decide (i=j)):=λ prog w E Q h=>(dW prog w).eqBool (a:=i) (b:=j) (by simp[dW,lO]) (by simp[dW,lO]) h
theorem Kk:vu A s (.str i t) (.str j I) (decide (i=j)):=λ prog w E Q h=>(cy prog w).eqBool (a:=i) (b:=j) (by simp[cy,jK]) (by simp[cy,jK]) h
noncomputable def uh:al->al->bG
 |.int i _,.int j _=>decide (j=i)
 |.str i _,.str j _=>decide (j=i)
 |_,_=>aj
theorem NR{v x:V}(z:VR n y v D)(g:VR n y x m){b:bG}(h:lN v x=U b)(hb:v.isBool=aj):vu A s m D (uh D m)/\uh D m=b:=by
 cases v with
 |int i=>
  cases x with
  |int j=>obtain t|rfl:=z;obtain I|rfl:=g;cases h;exact⟨FO,decide_eq_decide.mpr ⟨so,so⟩⟩
  |_=>exact aw h
 |str i=>
  cases x with
  |str j=>obtain t|rfl:=z;obtain I|rfl:=g;cases h;exact⟨Kk,decide_eq_decide.mpr ⟨so,so⟩⟩
  |_=>exact aw h
 |bool c=>cases hb
 |_=>exact aw h
theorem pP{v:V}{vs:List al}{b:bG}(S:VR n y v D)(c:dh n y xs vs)(h:cI v xs=U b)(hb:v.isBool=aj):
 (∀x∈vs,vu A s x D (uh D x))/\vs.any (uh D)=b:=by
 refine bY h ?_;intro ha h2;clear h;cases h2
 induction xs generalizing vs with
 |nil=>obtain rfl:=c.nil_inv;exact⟨λ _ g=>absurd g eI,Y⟩
 |cons x xs X=>
  obtain I|i|rfl|h1|h2:=c.cons_inv;rw[List.all_cons,pu]at ha;obtain H|e:=qL.mp ha.1;have p:=NR (A:=A) (s:=s) S h1 e hb;have q:=X h2 ha.2;refine⟨λ z m=>?_,?_⟩
  .rcases dK.mp m with rfl|m
   .exact p.1
   .exact q.1 z m
  .rw[jW,jW,q.2,p.2,e];cases H<;>rfl
theorem in_list(r:R B y N s){v:V}{b:bG}(h:N.H l=U ⇑xs)(z:VR N.n y v D)(hb:v.isBool=aj)(hi:cI v xs=U b):
 dt B A y N s (iz .In D ↥(y.ad l)) (vr (.bool b)) N:=by
 obtain vs|k|L|c:=r.list h;obtain h1|h2:=pP (A:=A.in1) (s:=s) z c hi hb;exact λ E Q q=>SeqAt.in_listAt (uh D) (isList L) (λ x g=>h1 x (GG.mpr g)) (q _ _ _ .refl r (by rw[<-wS,h2];rfl))
theorem AX(r:R B y N s){l:Loc}{xs:List V}{v:V}{D:al}{b:bG}(h:N.H l=U (.tup xs))(z:VR N.n y v D)(hb:v.isBool=aj)(hi:cI v xs=U b):
 dt B A y N s (iz .In D ↥(y.ad l)) (vr (.bool b)) N:=by
 obtain vs|k|L|c:=r.tup h;obtain h1|h2:=pP (A:=A.in1) (s:=s) z c hi hb;exact λ E Q q=>SeqAt.in_tupleAt (uh D) (De L) (λ x g=>h1 x (GG.mpr g)) (q _ _ _ .refl r (by rw[<-wS,h2];rfl))
theorem Di(r:R B y N s)(g:Good A d){a c:V}(ha:VR N.n y a n)(hc:VR N.n y c S)(h:J6 a c N=U (x,st')):
 dt B A y N s (iz .In n S) (vr (.bool x)) st':=by
 cases c with
 |ref l=>
  cases hb:a.isBool with
  |true=>rw[J6,hb]at h;exact aw h
  |false=>
  rw[J6,hb]at h;obtain o|m|h1|h2|rfl|rfl:=wl (g:=id) h;obtain _|rfl:=hc;cases o with
  |list xs=>exact in_list r h1 ha hb h2
  |tup xs=>exact AX r h1 ha hb h2
  |dict es=>exists aM h2,k,C,h2;exists bY h2,L,h2;cases h2;exact in_dict r g h1 L (mo r ha C)
  |_=>exact aw h2
 |_=>exact aw h
theorem y9{a c:V}(ha:VR n y a m)(hc:VR n y c S)(h:isQ a c=U t):S=.none/\t=(m==Value.none):=by
 cases c with
 |none=>
  refine⟨hc,?_⟩;cases a<;>cases h
  .cases ha;rfl
  all_goals first|(obtain t|rfl:=ha;rfl)|(obtain _|rfl:=ha;rfl)|(cases ha;rfl)
 |_=>exact aw h
theorem yC(r:R B y N s)(g:Good A d){op:Cop}{a c:V}{n S:al}{x:bG}(ha:VR N.n y a n)(hc:VR N.n y c S)(h:ew op a c N=U (x,st')):
 dt B A y N s (iz (O9 op) n S) (vr (.bool x)) st':=by
 have p:=g.units;cases op with
 |eq=>obtain rfl|e|l|h1|h2|m|D|k|rfl:=xk h;obtain as|f:=mY r _ _ _ _ ha h1;obtain bs|C:=mY r _ _ _ _ hc h2;exact λ E Q q=>PyProof.Rows.eq_dataH_same f C m D ((Vx p)) k (q _ _ _ .refl r Y)
 |ne=>obtain b|H|h0|o:=bH (show aI (zi a c) (λ x=>ret !x) N=U (x,st')from h);exists bk o;rintro rfl rfl;obtain rfl|e|l|h1|h2|m|D|k|rfl:=xk h0;obtain as|f:=mY r _ _ _ _ ha h1;obtain bs|C:=mY r _ _ _ _ hc h2;exact λ E Q q=>PyProof.Rows.ne_dataH_same f C m D ((Vx p)) k (q _ _ _ .refl r Y)
 |lt=>exists aM h,t,h1,h;exists aM h1,i,h2,h1;exists aM h1,j,m,h1;cases h;cases h1;cases gO h2;cases gO m;obtain t|rfl:=ha;obtain I|rfl:=hc;exact λ E Q q=>P.lt_int (q _ _ _ .refl r Y)
 |gt=>exists aM h,t,h1,h;exists aM h1,i,h2,h1;exists aM h1,j,m,h1;cases h;cases h1;cases gO h2;cases gO m;obtain t|rfl:=ha;obtain I|rfl:=hc;exact λ E Q q=>P.gt_int (q _ _ _ .refl r Y)
 |is=>exists aM h,t,h1,h;cases h;obtain rfl|rfl:=y9 ha hc h1;exact λ E Q q=>is_none (q _ _ _ .refl r Y)
 |fj=>exists aM h,t,h1,h;cases h;obtain rfl|rfl:=y9 ha hc h1;exact λ E Q q=>isNot_none (q _ _ _ .refl r Y)
 |isin=>exact Di r g ha hc h
 |eW=>obtain b|H|h0|o:=bH (show aI (J6 a c) (λ x=>ret !x) N=U (x,st')from h);exists bk o;rintro rfl rfl;exact ye (Di r g ha hc h0)
end
structure rT(K:W.Frag)(c:ao)(ci:Fp):Prop where
 makes:W.makesIn K c=ai
 init:W.findIn K (.ref c) "__init__"=U (U (.ref ci.init))
 hasDict:W.hasDictIn K c=ai
 over:W.plainOver K c=ai
 Zk:W.findIn K (.ref c) "__setattr__"=U (U (.builtin "object.__setattr__"))
 tz:W.findIn K (.ref c) "__getattribute__"=U (U (.builtin "object.__getattribute__"))
 Cc:W.findIn K (.ref c) "__getattr__"=U F
 fields:∀x∈ci.fields,W.findIn K (.ref c) x=U F
 meths:∀p∈ci.meths,W.findIn K (.ref c) p.1=U (U (.ref p.2))/\W.typeIn K (.ref p.2)=U (.type "function")
 bg:W.keepIn K (.ref c)=ai
 RL:W.specialIn K (.ref c) "__getattribute__"=U (U (.builtin "type.__getattribute__"))
 Ms:W.readsIn K c (.type "type")=ai
 NH:W.findCls K (.ref c) (.type "type") "__init__"=U (.val (.ref ci.init))
 aaE:W.findIn K (.ref c) "__class__"=U (U (.builtin "object.__class__"))
 QT:W.specialIn K (.builtin "object.__class__") "__get__"=U (U (.builtin "getset_descriptor.__get__"))
 QF:W.takesIn K (.builtin "object.__class__")=U ai
 isObj:W.mroIn K c (.type "object")=U ai
 Nl:W.isNotIn K "NoneType" c=ai
 Q3:W.isNotIn K "str" c=ai
section
variable{B:Bk}{A:dF}{y:Lay}{N st':St}{s:aN}{d:J}{K:W.Frag}
theorem Eb.get{P:qR}{n:J}(x:af):∀{fs:List (af×V)}{es:List o7},Eb P n y fs es->∃o,W.getL x es=U o/\zk n y (fs.lookup x) o:=by
 intro fs es a
 induction fs generalizing es with
 |nil=>cases es with
  |nil=>exact cC F Y trivial
  |cons=>exact a.elim
 |cons b r X=>cases es with
  |nil=>exact a.elim
  |cons e j=>
   obtain z|v:=b;obtain _|⟨t,C⟩|S|i:=a;have X:=X i;unfold W.getL at X⊢;rw[im,fG];have q:e.key.isStr x=(x==z):=by
    rw[C];show(z==x)=(x==z);by_cases q:z=x
    .subst q;rfl
    .rw[beq_eq_false_iff_ne.mpr q,beq_eq_false_iff_ne.mpr (gP q)]
   rw[q];cases g:x==z with
   |true=>exact cC (U e.val) Y S
   |false=>
    dsimp only;have c:e.refKey=aj:=by unfold DictEntry.refKey;rw[C]
    rw[jW,c,Ir];exact X
theorem Eb.put{P:qR}{n:J}{x:af}{v:V}{D:al}{t:Tok}(S:VR n y v D):∀{fs:List (af×V)}{es:List o7},Eb P n y fs es->Eb P n y (oe x v fs) (W.putL x (l9 P x) (.str x t) D es):=by
 intro fs es a
 induction fs generalizing es with
 |nil=>cases es with
  |nil=>exact⟨Y,⟨t,Y⟩,S,trivial⟩
  |cons=>exact a.elim
 |cons b r X=>cases es with
  |nil=>exact a.elim
  |cons e j=>
   obtain z|w:=b;obtain l|⟨I,C⟩|c|i:=a;rw[Se];unfold W.putL;have q:e.key.isStr x=(z==x):=by rw[C];rfl
   rw[q];by_cases g:z=x
   .subst g;simp only[beq_self_eq_true,if_true];exact⟨l,⟨I,C⟩,S,i⟩
   .rw[beq_eq_false_iff_ne.mpr g,if_neg g];simp only[d0,if_false];exact⟨l,⟨I,C⟩,c,X i⟩
theorem R.inst(r:R B y N s){c:ao}{fs:List (af×V)}(h:N.H l=U (.inst c fs)):
 ∃es k,W.InstAt s.heap (y.ad l) (W.instObj c (y.dd l)) c (U (W.dictOf es k))/\s.heap.get? (y.dd l)=U (W.dictOf es k)/\Eb B.w.params N.n y fs es:=by
 obtain a|b|es|k|e|f:=(r.obj _ _ h).2;exact pX es k ⟨a,Y,Y,e⟩ e f
theorem R.ou(r:R B y N s)(X:K.In B.root):K.In s.heap:=X.keeps λ _ _ e=>r.bg _ _ (r.root _ _ e)
theorem uT{v:V}(h:VR n y v D)(hc:∀c,v≠.con c):W.handedIn D=ai:=by
 cases v with
 |con c=>exact absurd Y (hc c)
 |none=>cases h;rfl
 |bool b=>cases h;rfl
 |int i=>obtain t|rfl:=h;rfl
 |str i=>obtain t|rfl:=h;rfl
 |ref l=>obtain _|rfl:=h;rfl
theorem uo{nm:af}{o:O}{v:V}(h:S9 G nm o=U v):∃c fs S,o=.inst c fs/\G.cls c=U S/\nm∈S.fields/\fs.lookup nm=U v/\∀c,v≠.con c:=by
 cases o with
 |inst c fs=>
  exists aM h,S,h1,h;exists bY h,P,h;exists aM h,w,h2,h;have:w=v/\∀c,v≠.con c:=by cases w<;>cases h<;>exact⟨Y,λ c e=>by cases e⟩
  exact Qs c fs S Y h1 (BX.mp P) (this.1▸h2) this.2
 |_=>exact aw h
theorem yn(r:R B y N s)(X:K.In B.root)(p:∀c S,G.cls c=U S->rT K c S){a v:V}(ha:VR N.n y a n)(h:jT G a name N=U (v,st')):
 dt B A y N s (getAttr n name ex) (vr v) st':=by
 cases a with
 |ref l=>
  obtain o|h1|h2|rfl:=fV h;obtain c|fs|S|rfl|H|P|m|hc:=uo h2;have C:=p _ _ H;obtain _|rfl:=ha;obtain es|k|I|e|j:=r.inst h1;obtain o|hg|z:=j.get name;rw[m]at z;cases o with
  |none=>exact z.elim
  |some D=>exact λ E Q q=>W.get_value (r.ou X) I C.tz (W.findObj_own C.hasDict (C.fields name P) Y (by rw[W.lookIn_dict];exact hg)) (uT z hc) (q _ _ _ .refl r.tok z)
 |_=>exact aw h
set_option tactic.hygienic true in
theorem ES{w:cj}{v:al}{es:List o7}(X:K.In s.heap)
 (I:W.InstAt s.heap x (W.instObj C f) C (U (W.dictOf es n)))(hs:W.findIn K (.ref C) "__setattr__"=U (U (.builtin "object.__setattr__")))(hp:W.plainOver K C=ai)(ht:W.findIn K (.ref C) name=U F)
 (l:W.hasDictIn K C=ai)(L:(W.getL name es).isSome=ai)(m:es.length<=1000)
 (h:Q () {s with heap:=s.heap.update f (zq name (l9 w.params name) (.str name (s.toks+1)) v),toks:=s.toks+2}):
 aZ (bB prog w) A (setAttr (.ref x) name v) Q E s:=by
 refine W.set_plain X I hs ?_;refine W.osa_open (s:={s with toks:=s.toks+1}) X I hp (r:=F) (by unfold W.takerIn;rw[ht];rfl) λ b=>?_
 obtain cd|hc|hd:=W.any_some l;have D:s.heap.get? f=U (W.dictOf es n):=I.dict;have g:=Heap.get?_update_self (zq name (l9 w.params name) (.str name (s.toks+1)) v) D (by rw[W.putName_dict];rfl);have len:(W.putL name (l9 w.params name) (.str name (s.toks+1)) v es).length<=es.length+1:=by
  generalize l9 w.params name=BD;clear g D I L m h
  induction es with
  |nil=>exact aS _
  |cons e r i=>unfold W.putL;split<;>simp only[eF]<;>omega
 refine aW (bn (aW (aW (wpAny_loadPart I.at_ (aW ((W.looks_clsIn X hc).at ?_))))));rw[hd];refine bn (a:=U f) (aW (bn (aW ?_)));unfold nsSet;refine aW (aW (wpAny_askSetting (bn (aW (wpAny_mkText (aW (wpAny_loadPart D ?_)))))));have c:(!es.any (·.key.isStr name)&&es.any (·.refKey))=aj:=by
  unfold W.getL at L;split at L
  .rename_i e P;rw[Le.mpr ⟨e,wz P,AY P⟩];rfl
  .split at L
   .cases L
   .rename_i z;rw[Bool.not_eq_true]at z;rw[z,Bool.and_false]
 dsimp only;rw[aRefKeyMayBeTheName_at,<-wS,<-wS,c];refine wpAny_updatePart D ?_;refine aW (wpAny_lookBehind g (by rw[W.putName_dict];exact pastItsLine_dict (by rw[List.size_toArray,eH];exact abr m len)) ?_);exact bn h
theorem EF{nm:af}{x:V}{o o':O}(h:setG G nm x o=U o'):∃c fs S,o=.inst c fs/\G.cls c=U S/\nm∈S.fields/\fs.length<=100/\o'=.inst c (oe nm x fs):=by
 cases o with
 |inst c fs=>exists aM h,S,h1,h;exists bY h,P,h;cases h;exact Qs c fs S Y h1 (BX.mp P.1) P.2 Y
 |_=>exact aw h
theorem y8(r:R B y N s)(X:K.In B.root)(p:∀c S,G.cls c=U S->rT K c S){a v:V}(ha:VR N.n y a n)(z:VR N.n y v D)(h:te G a name v N=U (f,st')):
 dt B A y N s (setAttr n name D) ur st':=by
 cases a with
 |ref l=>
  obtain o|o'|h1|h2|_|rfl:=x9 h;obtain c|fs|S|rfl|H|P|m|rfl:=EF h2;have C:=p _ _ H;obtain _|rfl:=ha;obtain es|k|I|e|j:=r.inst h1;obtain o|hg|_:=j.get name;refine λ E Q q=>ES (r.ou X) I C.Zk C.over (C.fields name P) C.hasDict (by rw[hg];rfl) (by rw[<-j.length];exact bx m aL) (q y _ _ .refl ?_ trivial)
  have g:=Heap.get?_update_self (zq name (l9 B.w.params name) (.str name (s.toks+1)) D) e (by rw[W.putName_dict];rfl);rw[W.putName_dict]at g;have b:y.dd l≠y.ad l:=(r.obj _ _ h1).2.2.1;exact r.update (o':=.inst c (oe name v fs)) h1 (.inr ⟨Y,Y⟩) Y Y Y (Heap.SameBut.update ..) e (dC Y aL) ⟨(Heap.get?_update_other _ _ b).trans I.at_,b,_,_,g,j.put z⟩
 |_=>exact aw h
theorem kD{c:V}{C:ao}(h:oh c=U C):c=.con ↥C:=by
 cases c with
 |con v=>cases v<;>first|exact aw h|(cases h;rfl)
 |_=>exact aw h
theorem II{c:V}(h:isInt c=ai):c=.con (.type "int"):=by
 cases c with
 |con v=>cases v<;>first|(cases h;done)|(rw[of_decide_eq_true h])
 |_=>cases h
theorem Ej{c:V}(h:Q0 G c=ai):∃C S,c=.con ↥C/\G.cls C=U S:=by
 unfold Q0 at h;cases e:oh c with
 |none=>rw[e]at h;cases h
 |some C=>rw[e]at h;obtain S|H:=qL.mp h;exact qz C S (kD e) H
theorem yR{c:V}(h:nsI G c t N=U (x,st')):st'=N/\x=aj/\((∃C S,c=.con ↥C/\G.cls C=U S)\/(t=ai/\c=.con (.type "int"))):=by
 exists l8 h,q,h;cases h;refine cY Y Y ?_;rcases(Hq ..).mp q with q|q
 .exact .inl (Ej q)
 .rw[pu]at q;exact .inr ⟨q.1,II q.2⟩
theorem At{c:ao}{o:O}{b:bG}(h:JM G c o=U b):∃D fs S cc,o=.inst D fs/\G.cls D=U S/\G.cls c=U cc/\b=S.sup.contains c:=by
 cases o with
 |inst D fs=>exists aM h,S,h1,h;exists aM h,cc,h2,h;cases h;exact abW D fs S cc Y h1 h2 Y
 |_=>exact aw h
theorem AI(r:R B y N s)(X:K.In B.root)(p:∀c S,G.cls c=U S->rT K c S)
 (GI:∀D S C cc,G.cls D=U S->G.cls C=U cc->if S.sup.contains C then W.isIn K ↥D C=ai else W.kin_not K D C=ai)
 {a c:V}{n g:al}{x:bG}(ha:VR N.n y a n)(hc:VR N.n y c g)(h:bZ G a c N=U (x,st')):
 dt B A y N s (call (.builtin "isinstance") [n,g]) (vr (.bool x)) st':=by
 cases a with
 |ref l=>
  exists aM h,b,h1,h;cases h;exists aM h1,v,h2,h1;exists aM h1,o,m,L;cases kD h2;obtain D|fs|S|cc|rfl|f|w|rfl:=At L;obtain _|rfl:=ha;cases hc;obtain es|k|I|e|j:=r.inst m;have C:=p _ _ f;have gi:=GI _ _ _ _ f w;cases q:S.sup.contains v with
  |true=>rw[if_pos q]at gi;exact λ E Q z=>W.isi_call (r.ou X) (λ M=>I.type) gi (by intro e;cases e) (z _ _ _ .refl r Y)
  |false=>rw[q]at gi;exact λ E Q z=>W.kin_callC (r.ou X) I gi (by unfold W.plainGet;rw[C.tz,C.Cc];rfl) C.hasDict C.aaE C.QT C.QF C.isObj (z _ _ _ .refl r.tok Y)
 |none=>
  obtain⟨rfl,rfl,⟨C,S,rfl,H⟩|q⟩:=yR h
  .cases hc;cases ha;exact λ E Q q=>W.isn_call (P:=λ _=>True) (r.ou X) (λ M=>W.Looks.of_pure Y) (p _ _ H).Nl (by intro e;cases e) trivial W.none_cls (q _ _ _ .refl r.tok Y)
  .cases q.1
 |str i=>
  obtain t|rfl:=ha;obtain⟨rfl,rfl,⟨C,S,rfl,H⟩|⟨_,rfl⟩⟩:=yR h
  .cases hc;exact λ E Q q=>W.isn_call (P:=λ _=>True) (r.ou X) (λ M=>W.Looks.of_pure Y) (p _ _ H).Q3 (by intro e;cases e) trivial W.str_cls (q _ _ _ .refl r.tok Y)
  .cases hc;exact λ E Q q=>IsiPair.str_int (q _ _ _ .refl r.tok Y)
 |_=>exact aw h
end
section
variable{B:Bk}{A:dF}{y:Lay}{N st':St}{s:aN}{d:J}
theorem R.cR(r:R B y N s){h₁:Heap}(C:∀b o,s.heap.get? b=U o->h₁.get? b=U o){a:ao}(ha:h₁.objs.size<=a):s.heap.get? a=F/\a≠B.L/\2<a:=by
 refine cY ?_ ?_ ?_
 .cases q:s.heap.get? a with
  |none=>rfl
  |some o=>exact absurd (cv (Heap.lt_size (C _ _ q)) ha) (lQ _)
 .rintro rfl;obtain m|⟨o,es,ep,f,_⟩|_:=r.ns;exact absurd (cv (Heap.lt_size (C _ _ f)) ha) (lQ _)
 .obtain c|hn|_:=r.nolimit;exact cv (hn.keeps λ b o e=>C _ _ (r.bg _ _ (r.root _ _ e))).lt ha
theorem R.uQ(r:R B y N s){vs:Array al}{h':Heap}{a:ao}(C:∀b o,s.heap.get? b=U o->h'.get? b=U o)(ha:s.heap.get? a=F/\a≠B.L/\2<a)(L:IsL h' a vs k)(h:dh N.n y xs vs.toList):
 R B (y.put N.n a a) {loc:=N.loc,H:=ah N.H N.n (U ⇑xs),n:=N.n+1} {s with heap:=h',toks:=tk}:=
 r.alloc Y C ha.1 ha.2.1 ha.2.2 (λ c=>by cases c) ⟨vs,k,by rw[show(y.put N.n a a).ad N.n=a from aa ..];exact L,h.mono .put⟩
theorem R.Jz(r:R B y N s){vs:Array al}{h':Heap}{a:ao}(C:∀b o,s.heap.get? b=U o->h'.get? b=U o)(ha:s.heap.get? a=F/\a≠B.L/\2<a)(L:IsT h' a vs k)(h:dh N.n y xs vs.toList):
 R B (y.put N.n a a) {loc:=N.loc,H:=ah N.H N.n (U (.tup xs)),n:=N.n+1} {s with heap:=h',toks:=tk}:=
 r.alloc Y C ha.1 ha.2.1 ha.2.2 (λ c=>by cases c) ⟨vs,k,by rw[show(y.put N.n a a).ad N.n=a from aa ..];exact L,h.mono .put⟩
theorem o8{op:Bop}{a b v:V}{n H:al}(r:R B y N s)(ha:VR N.n y a n)(hb:VR N.n y b H)(h:ix op a b N=U (v,st')):
 dt B A y N s (inplaceOp (F2 op) n H) (vr v) st':=by
 cases a with
 |int x=>cases b with
  |int z=>
   obtain t|rfl:=ha;obtain I|rfl:=hb;exists aM h,i,hi,h;cases h;cases op with
   |add=>cases hi;exact dt.int r λ E Q q=>P.iadd_int (q _ _)
   |sub=>cases hi;exact dt.int r λ E Q q=>P.isub_int (q _ _)
   |mod=>exact aw hi
  |_=>exact aw h
 |ref l=>cases b with
  |ref L=>
   exists l8 h;rintro⟨C,j⟩ g;exists aM g,o,g1,g;cases g;obtain xs|ys|h1|h2|m|rfl:=ut g1;cases qU C;obtain vs|X|l1|e:=r.list h1;obtain c|S|l2|k:=r.list h2;obtain p|rfl:=ha;obtain _|rfl:=hb;have D:=e.size;have w:=k.size;intro E Q q;have T1:s.TypeIs ↥_ "list":=⟨_,l1,Y⟩;have T2:s.TypeIs ↥_ "list":=⟨_,l2,Y⟩;show aZ _ _ (inplaceOp .Add _ _) Q E s;unfold inplaceOp;refine jJ ?_;have c':fillsInplaceSlot (.type "list") "add" (Operator.Add==.Add)=pure aj:=by unfold fillsInplaceSlot;show(Aw (.type "list") (dunderI "add")>>=λ fi=>pure (fi.isSome&&!isSeqSlot fi))=pure aj;rw[Bc.lookup];rfl
   have d':seqSlot? (.type "list") (dunderI "add")=pure (U (.builtin "list.__iadd__")):=seqSlot_of Bc.lookup (by decide+kernel);refine aW (wpAny_typeOf T1 (aW (zJ c' ?_)));show aZ _ A (if aj=ai then _ else _) Q E s;rw[if_neg j5];refine aW (wpAny_binaryOp1_none (nm:="add") T1 T2 noFill_list_add ?_);refine aW (zJ d' ?_);refine aW (AZ ?_);refine Ax Bc T1 F.entry_list_iadd ?_ (F.args_list_iadd_2 _ _);show aZ _ _ (GS ↥_ ↥_ ↥_) _ _ s;unfold GS;refine aW (wpAny_typeOf T2 ?_);have ht:(Value.type "list"==Value.type "list")=ai:=by rfl
   rw[if_pos (by rw[ht];simp)];refine aW (Kp l2 Y ?_);refine aW (Kp l1 Y ?_);rw[if_neg (by unfold Builtin.List.listTooLong;rw[pu];rintro⟨_,q⟩;revert q;simp[eH];exact adW m D w)];refine aW (PyProof.Rows.listUpdate_at l1 Y ?_ (by rw[eH];exact abZ m D) (by show(vs++c).size<=sizeLine+1;rw[JX,eH];exact afa m D w));refine bn ⟨_,Y,q _ _ _ .refl (r.mapList h1 l1 (f:=λ x=>x++c) (by rw[KW];exact e.append k)) ⟨p,Y⟩⟩
  |_=>exact aw h
 |_=>exact aw h
theorem Dq{b:bG}(h:RW o=U b):∃xs,o=.list xs/\xs.length<2^60/\b=!xs.isEmpty:=by
 cases o with
 |list xs=>exists bY h,h1,h2;cases h2;exact gc xs Y h1 Y
 |_=>exact aw h
theorem Es{v:V}{D:al}{b:bG}(r:R B y N s)(z:VR N.n y v D)(h:truth v N=U (b,st')):dt B A y N s (truthy D) (br b) st':=by
 cases v with
 |bool b=>exists bk h;rintro rfl rfl;cases z;exact λ E Q q=>Be (q _ _ _ .refl r Y)
 |ref l=>
  obtain o|h1|h2|rfl:=fV h;obtain xs|rfl|m|rfl:=Dq h2;obtain vs|k|L|c:=r.list h1;have e:=c.size;obtain _|rfl:=z;refine λ E Q q=>wpAny_truthy_list (isList L) ((adJ m e)) (q _ _ _ .refl r.tok ?_)
  show(!vs.isEmpty)=!xs.isEmpty;congr 1;cases xs with
  |nil=>obtain e:=c.nil_inv;rw[<-Iy,e];rfl
  |cons x xs=>obtain I|i|e|_:=c.cons_inv;rw[<-Iy,e];rfl
 |_=>exact aw h
theorem R.mapDict(r:R B y N s){l:Loc}{es es':List (aJ×V)}(h:N.H l=U (.dict es)){h':Heap}(hs:Heap.SameBut (y.ad l) s.heap h')(i:hJ B.prog B.w N.n y h' (y.ad l) es'){tk:Tok}:
 R B y {N with H:=ah N.H l (U (O.dict es'))} {s with heap:=h',toks:=tk}:=by
 obtain _|_|_|o|f|hc:=r.dict h;exact r.update (o':=.dict es') h (.inl Y) Y Y Y hs f (dC hc aL) i
theorem yw(r:R B y N s)(g:Good A d){es:List (aJ×V)}{k:aJ}{v:V}(h:N.H l=U (.dict es))(L:es.all (λ e=>k.fC e.1)=ai)(C:MQ B s.heap k j)(z:atK es k=U v):
 dt B A y N s (lJ ↥(y.ad l) j) (vr v) N:=by
 have D:=r.dict h;cases k with
 |int i=>
  obtain t|rfl:=C;obtain kvs|hd|X:=D.1 (ny L);have a:=X.at nz i;rw[z]at a;cases q:oL kvs i with
  |none=>rw[q]at a;exact a.elim
  |some I=>rw[q]at a;exact λ E Q k=>AQ (knd:=dW B.prog B.w) (k:=i) (by simp[dW,lO]) hd.mapOf q (k _ _ _ .refl r.tok a)
 |str i=>
  obtain t|rfl:=C;obtain kvs|hd|X:=D.2.1 (ki L);have a:=X.at str_inj i;rw[z]at a;cases q:oL kvs i with
  |none=>rw[q]at a;exact a.elim
  |some I=>rw[q]at a;exact λ E Q k=>AQ (knd:=cy B.prog B.w) (k:=i) (by simp[cy,jK]) hd.mapOf q (k _ _ _ .refl r.tok a)
 |tup x xs=>
  obtain b|rfl|hn:=C;obtain kvs|hd|X:=D.2.2.1 (qC L);have a:=X.at v8 (x,xs);rw[show qJ (x,xs)=aJ.tup x xs from rfl,z]at a;cases q:atKey kvs (x,xs)with
  |none=>rw[q]at a;exact a.elim
  |some p=>
   rw[q]at a;refine λ E Q k=>wpAny_getItem_heap (knd:=kB B.prog B.w) (k:=(x,xs)) ?_ hn hd q (k _ _ _ .refl r.tok a)
   show A.units+1+2<kz;have:=g.units;exact Rl this
theorem yq(r:R B y N s)(g:Good A d){l:Loc}{es:List (aJ×V)}{k:aJ}{j:al}{v:V}{a:al}(h:N.H l=U (.dict es))(L:es.all (λ e=>k.fC e.1)=ai)(C:MQ B s.heap k j)(m:es.length<=1000)(z:VR N.n y v a):
 dt B A y N s (qV ↥(y.ad l) j a) ur {N with H:=ah N.H l (U (.dict (fO k v es)))}:=by
 have D:=r.dict h;cases k with
 |int i=>obtain t|rfl:=C;obtain kvs|hd|X:=D.1 (ny L);have e:=X.length;exact λ E Q k=>JO (knd:=dW B.prog B.w) (k:=i) (by simp[dW,lO]) hd (λ h' hm hs=>k _ _ _ .refl (r.mapDict h hs (hJ.ofInt hm (X.set nz z))) trivial) (by rw[eH];exact Fh e m)
 |str i=>obtain t|rfl:=C;obtain kvs|hd|X:=D.2.1 (ki L);have e:=X.length;exact λ E Q k=>JO (knd:=cy B.prog B.w) (k:=i) (by simp[cy,jK]) hd (λ h' hm hs=>k _ _ _ .refl (r.mapDict h hs (hJ.ofStr hm (X.set str_inj z))) trivial) (by rw[eH];exact Fh e m)
 |tup x xs=>
  obtain b|rfl|hn:=C;obtain kvs|hd|X:=D.2.2.1 (qC L);have e:=X.length;refine λ E Q k=>wpAny_setItem_heap (knd:=kB B.prog B.w) (k:=(x,xs)) ?_ hn hd (λ h' hm hs=>k _ _ _ .refl (r.mapDict h hs (hJ.Ue hm (X.set v8 z) ?_)) trivial) (by rw[eH];exact Fh e m)
  .show A.units+1+2<kz;have:=g.units;exact Rl this
  .obtain e|P|_:=Ho (qJ (x,xs)) v es;exact λ q=>by rw[q]at P;cases P
inductive Sb(H:Loc->Option O)(i v:V):O->Prop
 |list (xs:List V) (k:Int) (j:J) (e:i=.int k) (hz:xs.length<=1000) (hj:idx xs k=U j) (hv:xs[j]?=U v):Sb H i v (.list xs)
 |tup (xs:List V) (k:Int) (j:J) (e:i=.int k) (hz:xs.length<=1000) (hj:idx xs k=U j) (hv:xs[j]?=U v):Sb H i v (.tup xs)
 |dict (es:List (aJ×V)) (k:aJ) (hk:qe H i=U k) (hl:es.all (λ e=>k.fC e.1)=ai) (hv:atK es k=U v):Sb H i v (.dict es)
theorem GQ{i v:V}(C:qe H i=U k)(h:Tw k o=U v):Sb H i v o:=by
 cases o with
 |dict es=>exists bY h,h1,h2;exact .dict es k C h1 h2
 |_=>exact aw h
theorem Kj{H:Loc->Option O}{i v:V}{o:O}(h:atV H i o=U v):Sb H i v o:=by
 have key:((qe H i).bind λ k=>Tw k o)=U v->Sb H i v o:=λ h=>have⟨_,h1,h2⟩:=fq h;GQ h1 h2
 cases i with
 |int k=>cases o with
  |list xs=>exists bY h,h1,h2;exists aM h2,j,I,D;exact .list xs k j Y h1 I D
  |tup xs=>exists bY h,h1,h2;exists aM h2,j,I,D;exact .tup xs k j Y h1 I D
  |dict es=>exact key h
  |_=>exact aw h
 |_=>exact key h
theorem kZ{o i v:V}(h:fD o i N=U (v,st')):st'=N/\∃l w,o=.ref l/\N.H l=U w/\Sb N.H i v w:=by
 cases o with
 |ref l=>obtain w|_|h1|h2|rfl|rfl:=wl (g:=id) h;exact⟨Y,pX l w Y h1 (Kj h2)⟩
 |_=>exact aw h
theorem xV(r:R B y N s)(g:Good A d){o i v:V}(f:VR N.n y o o')(hi:VR N.n y i a)(h:fD o i N=U (v,st')):
 dt B A y N s (lJ o' a) (vr v) st':=by
 obtain rfl|l|w|rfl|h1|h2:=kZ h;obtain _|rfl:=f;cases h2 with
 |list xs k j e m E z=>subst e;obtain t|rfl:=hi;exact zc r h1 (bx m aL) E z
 |tup xs k j e m E z=>subst e;obtain t|rfl:=hi;exact BC r h1 (bx m aL) E z
 |dict es k C L z=>exact yw r g h1 L (mo r hi C) z
theorem EA{v:V}{k:aJ}(h:putD k v o=U o'):∃es,o=.dict es/\es.all (λ e=>k.fC e.1)=ai/\es.length<=1000/\o'=.dict (fO k v es):=by
 cases o with
 |dict es=>exists bY h,h1,h2;cases h2;exact JI es Y h1.1 h1.2 Y
 |_=>exact aw h
theorem yk(r:R B y N s)(g:Good A d){o i v:V}{o' a D:al}{I:Unit}(f:VR N.n y o o')(hi:VR N.n y i a)(z:VR N.n y v D)(h:jc o i v N=U (I,st')):
 dt B A y N s (qV o' a D) ur st':=by
 cases o with
 |ref l=>
  exists aM h,p,h0,h;cases h;exists aM h0,w,h1,h2;obtain _|rfl:=f;have key:((qe N.H i).bind λ k=>putD k v w)=U p->dt B A y N s (qV ↥(y.ad l) a D) ur {loc:=N.loc,H:=ah N.H l (U p),n:=N.n}:=λ h=>by exists aM h,k,C,h;obtain es|rfl|L|m|rfl:=EA h;exact yq r g h1 L (mo r hi C) m z
  cases i with
  |int k=>cases w with
   |list xs=>exists bY h2,m,h2;exists aM h2,j,e,h2;cases h2;obtain t|rfl:=hi;exact yG r h1 (bx m aL) e z
   |dict es=>exact key h2
   |_=>exact aw h2
  |_=>exact key h2
 |_=>exact aw h
def Ar(n:J)(y:Lay):Option V->al->be
 |none,D=>D=.none
 |some v,D=>VR n y v D
theorem qF{n:J}{k:J}{v:Option V}{D:al}{a:J}(h:ts k v=U a)(z:Ar n y v D):
 ∃lo,IsPart D lo/\((lo=F/\a=k)\/lo=U (a:Int)):=by
 cases v with
 |none=>cases h;cases z;exact cC F .none (.inl ⟨Y,Y⟩)
 |some v=>exists aM h,i,hi,h1;exists bY h1,q,h2;cases h2;cases gO hi;obtain t|rfl:=z;exact cC (U i) (.int i t) (.inr (congrArg U (wB q.1).symm))
theorem xU{lo hi:Option V}{o o':O}(h:MP lo hi o=U o'):∃xs a b,o=.list xs/\xs.length<=1000/\ts 0 lo=U a/\ts xs.length hi=U b/\o'=.list ((xs.take b).drop a):=by
 cases o with
 |list xs=>exists bY h,m,h;exists aM h,a,h1,h;exists aM h,b,h2,h;cases h;exact Qs xs a b Y m h1 h2 Y
 |_=>exact aw h
theorem EV(r:R B y N s){o v:V}{lo hi:Option V}(f:VR N.n y o o')(g:Ar N.n y lo n)(j:Ar N.n y hi D)
 (hs:s.heap.IsSliceOf t n D .none)(h:oV o lo hi N=U (v,st')):dt B A y N s (lJ o' ↥t) (vr v) st':=by
 cases o with
 |ref l=>
  obtain w|p|h1|h2|rfl|rfl:=kJ h;obtain _|rfl:=f;obtain xs|a|b|rfl|m|ha|hb|rfl:=xU h2;obtain x|px|ex:=qF ha g;obtain z|pz|i:=qF hb j;obtain vs|k|L|c:=r.list h1;have e:=c.size;refine λ E Q q=>IY (isList L) hs px pz .none (by intro q;cases q) (q _ _ _ .put (r.nC ?_) eN) (by rw[eH];exact Fh e m)
  rw[rf vs ex (by rw[<-e];exact i)];exact(c.take b).drop a
 |_=>exact aw h
end
theorem wq{l m:List Int}(h:m.Perm l)(o:m.Pairwise (·<=·)):m=sortI l:=
 (h.trans (sortI_perm l).symm).eq_of_pairwise (λ _ _ _ _ h1 h2=>Int.le_antisymm h1 h2) o (mQ l)
theorem Ik{ns:List Int}(h:Hw vs ns):dh n y (ns.map .int) vs:=by
 induction h with
 |nil=>exact trivial
 |cons _ t _ X=>exact⟨⟨t,Y⟩,X⟩
section
variable{B:Bk}{A:dF}{y:Lay}{N st':St}{s:aN}{d:J}
theorem ze{es:List (aJ×V)}{is:List Int}(h:intKeys es=U is):es.all (λ e=>e.1.isInt)=ai/\es.map (·.1)=is.map aJ.int:=by
 induction es generalizing is with
 |nil=>cases h;exact⟨Y,Y⟩
 |cons e r X=>
  obtain k|v:=e;cases k with
  |int i=>obtain j|h1|rfl:=mG.mp h;obtain a|b:=X h1;exact⟨a,congrArg (aJ.int i::·) b⟩
  |_=>cases h
theorem KV.keys{K:Type}{b:K->aJ}{y:Lay}{es:List (aJ×V)}{kvs:List (K×al)}(a:KV n y b es kvs):es.map (·.1)=kvs.map λ p=>b p.1:=gx.keys a
theorem sl{kvs:List (Int×al)}{vs:List al}(L:vs.length=kvs.length)(z:∀(j:J)(v:al),vs[j]?=U v->∃k x,kvs[j]?=U (k,x)/\(dW B.prog B.w).is k v=ai):Hw vs (kvs.map (·.1)):=by
 induction kvs generalizing vs with
 |nil=>cases vs with
  |nil=>exact .nil
  |cons=>cases L
 |cons p r X=>
  cases vs with
  |nil=>cases L
  |cons v vs=>obtain k|x|e|C:=z 0 v Y;simp only[A1,AC]at e;subst e;obtain t|rfl:=Value.isInt_shape C;exact .cons k t (X (by simpa using L) λ j v e=>by obtain g|m|e'|a:=z (j+1) v (by simpa using e);exact qz g m (by simpa using e') a)
theorem rj{kvs:List (af×al)}{vs:List al}{n:J}{y:Lay}(L:vs.length=kvs.length)(z:∀(j:J)(v:al),vs[j]?=U v->∃k x,kvs[j]?=U (k,x)/\(cy B.prog B.w).is k v=ai):dh n y (kvs.map λ p=>V.str p.1) vs:=by
 induction kvs generalizing vs with
 |nil=>cases vs with
  |nil=>trivial
  |cons=>cases L
 |cons p r X=>
  cases vs with
  |nil=>cases L
  |cons v vs=>obtain k|x|e|C:=z 0 v Y;simp only[A1,AC]at e;subst e;obtain t|rfl:=IB C;exact⟨⟨t,Y⟩,X (by simpa using L) λ j v e=>by obtain g|m|e'|a:=z (j+1) v (by simpa using e);exact qz g m (by simpa using e') a⟩
open PyProof.Rows in
theorem zM (r:R B y N s) (g:Good A d) {is:List Int} (h:N.H l=some (.dict es)) (hi:intKeys es=some is) (i:is.length<64):
 dt B A y N s (call (.builtin "sorted") [.ref (y.ad l)]) (vr (.ref N.n)) {loc:=N.loc,H:=ah N.H N.n (some (.list ((sortI is).map .int))),n:=N.n+1}:=by
 intro E Q q
 obtain ha|C:=ze hi
 obtain kvs|hd|X:=(r.dict h).1 ha
 obtain ep|f:=hd.dictAt
 have ek:is=kvs.map (·.1):=by
  have e:=X.keys
  rw[C,show kvs.map (λ p=>aJ.int p.1)=(kvs.map (·.1)).map aJ.int by rw[List.map_map];rfl]at e
  exact List.map_inj_right (λ a b=>aJ.int.inj)|>.mp e
 have w:kvs.length<64:=by rw[ek,List.length_map]at i;exact i
 refine Calls.call_function_entry kind_sorted plain_sorted entry_sorted (args_sorted1 _) ?_
 unfold Builtin.«sorted»
 refine wpAny_bind (m:=checkCount "sorted" 1 1 _) (wpAny_pure ?_)
 refine wpAny_bind (W.kdu_collect (A:=A.in1) (W.kdl_dict (knd:=intKind B.prog B.w) (kvs:=kvs) (ep:=ep) (r.ng h rfl)) g.handled f (by rw[sizeLine_eq];exact ZX w) λ h₁ tk acc a' t=>?_)
 have L:acc.toList.length=kvs.length:=by rw[Array.length_toList];exact t.1
 have S:IntsAre acc.toList (kvs.map (·.1)):=sl (B:=B) L λ j v e=>t.2 j v (by rw[<-Array.getElem?_toList];exact e)
 refine wpAny_bind (wpAny_newList ?_ (by have:kvs.length<=sizeLine:=(by rw[sizeLine_eq];exact ZX w);exact L▸this))
 have x:(h₁.push (seqObj "list" acc.toList.toArray 0)).get? h₁.objs.size=some (seqObj "list" acc.toList.toArray 0):=Heap.get?_push_size _ rfl
 refine wpAny_bind (wpAny_holding (wpAny_call_entry slot_list_sort (T:="list") ⟨_,x,rfl⟩ entry_list_sort (list_sort_tree x S (by rw[L];exact w) λ out b' c k z=>⟨_,rfl,?_⟩) (args_list_sort _)))
 refine wpAny_pure ⟨_,rfl,?_⟩
 obtain e|P:=sortedHeap_at (out:=out) x
 have I:=r.cR a' (Nat.le_refl _)
 refine q _ _ _ .put (r.uQ (vs:=out) (a:=h₁.objs.size) (λ b o e=>?_) I P ?_) eN
 .have D:=a' _ _ e
  have lt:=Heap.lt_size D
  rw[sortedHeap_old (Nat.ne_of_lt lt) (by rw[size_push'];exact Nat.lt_succ_of_lt lt)]
  exact Heap.get?_push_of_some _ D
 .have:b'=sortI is:=by rw[ek];exact wq k z
  rw[<-this];exact Ik c
theorem xl{es:List (aJ×V)}{kvs:List (af×al)}{y:Lay}(a:KV n y aJ.str es kvs):(es.filterMap λ e=>e.1.toV)=kvs.map λ p=>V.str p.1:=
 gx.ind (C:=λ es kvs=>(es.filterMap λ e=>e.1.toV)=kvs.map λ p=>V.str p.1) a Y λ e es d ds h _ _ X=>by obtain k|v:=e;cases h;exact congrArg (V.str d.1::·) X
theorem BG(r:R B y N s)(g:Good A d){l:Loc}{es:List (aJ×V)}(h:N.H l=U (.dict es))(ha:es.all (λ e=>e.1.isStr)=ai)(m:es.length<=1000):
 dt B A y N s (call (.type "list") [↥(y.ad l)]) (vr ↥N.n) {loc:=N.loc,H:=ah N.H N.n (U ⇑(es.filterMap λ e=>e.1.toV)),n:=N.n+1}:=by
 intro E Q q;obtain kvs|hd|X:=(r.dict h).2.1 ha;obtain ep|f:=hd.dictAt;have e:=X.length;refine W.kdl_call (W.kdl_dict (knd:=cy B.prog B.w) (kvs:=kvs) (ep:=ep) (r.ng h Y)) g.handled f (by rw[eH];exact Fh e m) λ h' tk acc c C k t=>?_
 have I:=r.cR (h₁:=s.heap) (λ _ _ e=>e) (aS _);refine q _ _ _ .put (r.uQ C I k ?_) eN;rw[xl X];exact rj (B:=B) (by rw[mJ];exact t.1) λ j v e=>t.2 j v (by rw[<-rm];exact e)
theorem xy(r:R B y N s){xs:List V}(h:N.H l=U ⇑xs)(m:xs.length<=1000):
 dt B A y N s (call (.type "tuple") [↥(y.ad l)]) (vr ↥N.n) {loc:=N.loc,H:=ah N.H N.n (U (.tup xs)),n:=N.n+1}:=by
 intro E Q q;obtain vs|k|L|c:=r.list h;have e:=c.size;refine call_tuple_list (isList L) (λ h' C=>?_) (by rw[eH];exact Fh e m);refine q _ _ _ .put (r.Jz (k:=0) (λ b o e=>Heap.get?_push_of_some _ (C _ _ e)) (r.cR C (aS _)) (Heap.get?_push_size _ Y) c) eN
theorem DE(r:R B y N s){i:Int}{t:Tok}(hi:0<=i):
 dt B A y N s (call (.type "range") [.int i t]) (vr ↥N.n) {loc:=N.loc,H:=ah N.H N.n (U (.range i.toNat)),n:=N.n+1}:=by
 intro E Q q;have I:=r.cR (h₁:=s.heap) (λ _ _ e=>e) (aS _);refine call_range_1 (q _ _ _ .put (r.alloc (a:=s.heap.objs.size) (d:=s.heap.objs.size) Y (λ b o e=>Heap.get?_push_of_some _ e) I.1 I.2.1 I.2.2 (λ c=>by cases c) ⟨s.toks,t,s.toks+1,?_⟩) eN);rw[show(y.put N.n s.heap.objs.size s.heap.objs.size).ad N.n=s.heap.objs.size from aa ..,wB hi];exact Heap.get?_push_size _ Y
theorem log2_small{i:Int}(h0:0<=i)(h1:i<1000):i.natAbs.log2<1920:=by
 have:i.natAbs<2^10:=(acT h0 h1);by_cases z:i.natAbs=0
 .rw[z];decide
 .have:=(Nat.log2_lt z).mpr this;exact abS this
theorem zF(r:R B y N s){es:List (aJ×V)}{v:V}(h:N.H l=U (.dict es))(L:es.all (λ e=>(aJ.str x).fC e.1)=ai)(m:es.length<=1000)(S:atK es (.str x)=U v):
 dt B A y N s (call (.builtin "dict.pop") [↥(y.ad l),.str x t]) (vr v) {N with H:=ah N.H l (U (.dict (xH (.str x) es)))}:=by
 intro E Q q;obtain kvs|hd|X:=(r.dict h).2.1 (ki L);have e:=X.length;have a:=X.at str_inj x;rw[S]at a;cases z:oL kvs x with
 |none=>rw[z]at a;exact a.elim
 |some I=>
  rw[z]at a;exact call_meetsIn vR hd.typeIs K2 (F.args_dict_pop_2 _ _) (meets_dict_pop_there (cy B.prog B.w) (y.ad l) (k:=x) (by simp[cy,jK]) [] (.inl Y) Y)
   ⟨kvs,I,hd,(by rw[eH];exact Fh e m),z,λ h' hm hs=>q _ _ _ .refl (r.mapDict h hs (hJ.ofStr hm (X.del str_inj))) a⟩
theorem vO(r:R B y N s){es:List (aJ×V)}{v:V}(h:N.H l=U (.dict es))(L:es.all (λ e=>(aJ.int x).fC e.1)=ai)(g:atK es (.int x)=F)(S:VR N.n y v D):
 dt B A y N s (call (.builtin "dict.pop") [↥(y.ad l),.int x t,D]) (vr v) N:=by
 intro E Q q;obtain kvs|hd|X:=(r.dict h).1 (ny L);have a:=X.at nz x;rw[g]at a;cases z:oL kvs x with
 |some I=>rw[z]at a;exact a.elim
 |none=>exact call_meetsIn vR hd.typeIs K2 (F.args_dict_pop_3 _ _ _) (meets_dict_pop_default (dW B.prog B.w) (y.ad l) (k:=x) (by simp[dW,lO]) (r.ng h Y) Y D) ⟨kvs,hd,z,q _ _ _ .refl r.tok S⟩
end
theorem pj{β c:Type}(f:β->c):∀(l:List (af×β))(x:af),(l.map λ p=>(p.1,f p.2)).lookup x=(l.lookup x).map f
 |[],_=>rfl
 |(k,v)::r,x=>by
  simp only[bW,fG];cases x==k with
  |true=>rfl
  |false=>exact pj f r x
structure f0(B:Bk)(y:Lay)(n:J)(env:dA)(kd:af->Option bM)(cs:List (af×Loc)):Prop where
 kind:env.scope.kind=.function
 L:env.locals=B.L
 globals:env.globals=fv
 builtins:env.builtins=gY
 kinds:∀x,env.kindOf x=kd x\/(kd x=U .free/\env.kindOf x=U .cell)
 cells:∀x,kd x=U .cell\/kd x=U .free->∃l,cs.lookup x=U l/\l<n/\env.cells.lookup x=U (y.ad l)
theorem f0.mono{B:Bk}{y w:Lay}{n n':J}{env:dA}{kd:af->Option bM}{cs:List (af×Loc)}(h:f0 B y n env kd cs)(e:Ext n y n' w):f0 B w n' env kd cs:=
 ⟨h.kind,h.L,h.globals,h.builtins,h.kinds,λ x g=>(h.cells x g).imp λ l q=>⟨q.1,cv q.2.1 e.le,by rw[e.ad l q.2.1];exact q.2.2⟩⟩
theorem f0.to{B b:Bk}(h:f0 B y n env kd cs)(e:b.L=B.L):f0 b y n env kd cs:=
 ⟨h.kind,h.L.trans e.symm,h.globals,h.builtins,h.kinds,h.cells⟩
structure Ds(K:W.Frag)(B:Bk):Prop where
 ou:K.In B.root
 gl:∃mg mb,B.root.Ns fv mg/\B.root.Ns gY mb/\∀x v,G.glob x=U v->∃u,(∀n y,VR n y v u)/\(mg x=U u\/(mg x=F/\mb x=U u))
section
variable{B:Bk}{A:dF}{y:Lay}{N st':St}{s:aN}{d:J}{env:dA}{kd:af->Option bM}{cs:List (af×Loc)}{K:W.Frag}
theorem f0.Db(h:f0 B y N.n env kd cs):(env.scope.kind==.class||(env.scope.kind==.module&&env.locals !=env.globals))=aj:=by rw[h.kind];rfl
theorem yE(r:R B y N s)(e:f0 B y N.n env kd cs){v:V}(C:kd x=U .local)(h:getL x N=U (v,st')):dt B A y N s (ma env x) (vr v) st':=by
 unfold getL at h;obtain D|h1|h2:=mG.mp h;cases h2;obtain m|hn|hm:=r.ns;have a:=hm x;rw[h1]at a;have g:env.kindOf x=U .local:=by
  rcases e.kinds x with q|⟨q,_⟩
  .exact q.trans C
  .rw[C]at q;cases q
 cases q:m x with
 |none=>rw[q]at a;exact a.elim
 |some I=>rw[q]at a;exact λ E Q k=>Gk e.kind g (by rw[e.L];exact hn) q (k _ _ _ .refl r a)
theorem BY{v:V}(h:CI o=U v):o=.cell (U v):=by
 cases o with
 |cell w=>exact congrArg O.cell h
 |_=>exact aw h
theorem uC{x:af}{v:V}(h:fK cs x N=U (v,st')):∃l,cs.lookup x=U l/\N.H l=U (.cell (U v))/\st'=N:=by exists aM h,w,h1,h2;exists aM h1,l,I,D;exists aM D,o,p,q;cases h2;exact gc l I (BY q▸p) Y
theorem EY{x:af}{v:V}{I:Unit}(h:setC cs x v N=U (I,st')):∃l j,cs.lookup x=U l/\N.H l=U (.cell j)/\st'={loc:=N.loc,H:=ah N.H l (U (.cell (U v))),n:=N.n}:=by
 exists aM h,l,h1,h2;exists aM h2,w,m,D;exists aM m,o,p,q;cases D;cases o with
 |cell j=>exact pX l j h1 p Y
 |_=>exact aw q
theorem yf(r:R B y N s)(e:f0 B y N.n env kd cs){v:V}(C:kd x=U .cell\/kd x=U .free)(hc:kd x=U .free->(x==s!"__classdict__")=aj)(h:fK cs x N=U (v,st')):dt B A y N s (ma env x) (vr v) st':=by
 obtain l|h0|h2|rfl:=uC h;obtain L|a|b|c:=e.cells x C;obtain rfl:L=l:=dT (a.symm.trans h0);obtain D|f|i:=(r.obj _ _ h2).2;cases D with
 |none=>exact i.elim
 |some I=>
  intro E Q k;have fin:=k _ _ _ .refl r i;rcases e.kinds x with q|⟨m,X⟩
  .rcases C with C|C
   .exact wA e.kind (q.trans C) c f fin
   .exact He e.kind (q.trans C) c f fin (hc C)
  .exact wA e.kind X c f fin
theorem HX(W:Ds K B)(r:R B y N s)(e:f0 B y N.n env kd cs){v:V}(C:kd x=U .globalImplicit)(h:G.glob x=U v):dt B A y N s (ma env x) (vr v) N:=by
 intro E Q k;obtain m|a|hg|hb|l:=W.gl;obtain I|p|c:=l x v h;have bg:∀b o,B.root.get? b=U o->s.heap.get? b=U o:=λ b o q=>r.bg _ _ (r.root _ _ q)
 have g:env.kindOf x=U .globalImplicit:=by
  rcases e.kinds x with q|⟨q,_⟩
  .exact q.trans C
  .rw[C]at q;cases q
 have fin:aZ (bB B.prog B.w) A (loadGlobal env x) Q E s:=by
  rcases c with c|⟨hn,c⟩
  .exact Calls.loadGlobal_global (by rw[e.globals];exact hg.keeps bg) c (k _ _ _ .refl r (p _ _))
  .exact Calls.loadGlobal_builtin (by rw[e.globals];exact hg.keeps bg) hn (by rw[e.builtins];exact hb.keeps bg) c (k _ _ _ .refl r (p _ _))
 unfold ma;simp only[Env.blockKind,e.kind,g,ScopeKind.isAnnotationScope,Bool.false_and,d0,if_false];exact fin
theorem ja(r:R B y N s)(e:f0 B y N.n env kd cs){x:af}{v:V}{D:al}(C:kd x=U .local)(z:VR N.n y v D):
 dt B A y N s (oi env x D) ur {N with loc:=ah N.loc x (U v)}:=by
 obtain m|hn|hm:=r.ns;have g:env.kindOf x=U .local:=by
  rcases e.kinds x with q|⟨q,_⟩
  .exact q.trans C
  .rw[C]at q;cases q
 exact λ E Q k=>IR g (by rw[e.L];exact hn) (λ h' h n=>k _ _ _ .refl (r.JG z hm (by rw[e.L]at h;exact h) (by rw[e.L]at n;exact n)) trivial) e.Db
theorem yp(r:R B y N s)(e:f0 B y N.n env kd cs){v:V}(C:kd x=U .cell)(z:VR N.n y v D)(h:setC cs x v N=U (I,st')):
 dt B A y N s (oi env x D) ur st':=by
 obtain l|j|h0|h2|rfl:=EY h;obtain L|a|b|c:=e.cells x (.inl C);obtain rfl:L=l:=dT (a.symm.trans h0);have g:env.kindOf x=U .cell:=by
  rcases e.kinds x with q|⟨q,_⟩
  .exact q.trans C
  .rw[C]at q;cases q
 obtain o|⟨S,m,hd⟩|i:=(r.obj _ _ h2).2;exact λ E Q k=>wpAny_storeName_cell e.kind g c ⟨S,m,hd⟩ λ h' f n=>k _ _ {s with heap:=h'} .refl (r.update (o':=.cell (U v)) (tk:=s.toks) h2 (.inl Y) Y Y Y n m (.inr λ xs k q=>nomatch hd.symm.trans q) ⟨U D,f,z⟩) trivial
theorem rH(h:gv kd x=U t):(kd x=U .local/\t=.loc x)\/(kd x=U .cell/\t=.cW x):=by
 unfold gv at h;cases C:kd x with
 |none=>rw[C]at h;cases h
 |some k=>
  rw[C]at h;cases k with
  |«local»=>exact .inl ⟨Y,(dT h).symm⟩
  |cell=>exact .inr ⟨Y,(dT h).symm⟩
  |_=>cases h
theorem hN(r:R B y N s)(e:f0 B y N.n env kd cs){v:V}(ht:gv kd x=U t)(z:VR N.n y v D)(h:ff cs t v N=U (I,st')):
 dt B A y N s (oi env x D) ur st':=by
 rcases rH ht with⟨C,rfl⟩|⟨C,rfl⟩
 .cases h;exact ja r e C z
 .exact yp r e C z h
theorem JP(r:R B y N s)(e:f0 B y N.n env kd cs){v:V}(ht:gv kd x=U t)(h:NY cs t N=U (v,st')):
 dt B A y N s (ma env x) (vr v) st':=by
 rcases rH ht with⟨C,rfl⟩|⟨C,rfl⟩
 .exact yE r e C h
 .exact yf r e (.inl C) (λ q=>nomatch C.symm.trans q) h
end
section
variable{M:iQ}{A:dF}{E:al->aN->Prop}{s:aN}
theorem jQ{β:Type}:∀{ps:List af}{vs:List β},x∉ps->(ps.zip vs).lookup x=F
 |[],_,_=>rfl
 |_::_,[],_=>rfl
 |p::ps,v::vs,h=>by
  rw[wL,fG];have:(x==p)=aj:=beq_eq_false_iff_ne.mpr λ e=>h (by rw[e];exact .head _)
  rw[this];exact jQ λ q=>h (.tail _ q)
theorem kG{α β:Type}{f g:α->Option β}:∀{l:List α},(∀x∈l,f x=g x)->l.filterMap f=l.filterMap g
 |[],_=>rfl
 |a::r,h=>by rw[jI,jI,h a (.head _),kG λ x B=>h x (.tail _ B)]
theorem lF{β:Type}{ps:List af}{vs:List β}(hn:ps.Nodup)(L:vs.length=ps.length):(ps.filterMap λ n=>((ps.zip vs).lookup n).map (n,·))=ps.zip vs:=
 Nf (C:=λ ps vs=>ps.Nodup->(ps.filterMap λ n=>((ps.zip vs).lookup n).map (n,·))=ps.zip vs) (λ _=>rfl) (λ p ps v vs X hn=>by
  obtain h1|h2:=ku.mp hn;have X:=X h2;rw[jI,wL,fG,show(p==p)=ai from beq_self_eq_true p];dsimp only[pC];congr 1;rw[<-X];refine kG λ n h=>?_
  rw[fG,show(n==p)=aj from beq_eq_false_iff_ne.mpr (λ e=>h1 (e▸h))];simp only[X]) L.symm hn
theorem lookup_append{β:Type}:∀{l m:List (af×β)},(l++m).lookup x=(l.lookup x).or (m.lookup x)
 |[],_=>rfl
 |(k,v)::l,m=>by
  rw[Bl,fG,fG];cases x==k with
  |true=>rfl
  |false=>exact lookup_append
theorem xI{ds:List (af×al)}{f:af×al->List (af×al)->Sem (ForInStep (List (af×al)))}
 (P:∀n v slots,f (n,v) slots=if(slots.lookup n).isNone=ai then pure (.yield (slots++[(n,v)]))else pure (.yield slots)):
 ∀{slots:List (af×al)},(ds.map (·.1)).Nodup->(∀p∈ds,slots.lookup p.1=F)->forIn ds slots f=pure (slots++ds):=by
 induction ds with
 |nil=>intro slots _ _;rw[lz,kh]
 |cons p r X=>intro slots hn hs;obtain n|v:=p;rw[bW]at hn;obtain h1|h2:=ku.mp hn;rw[jO,P,hs _ (.head _),if_pos (by rfl),pure_bind];show forIn r (slots++[(n,v)]) f=_;rw[X h2 λ q hq=>?_,lv];rfl;rw[lookup_append,hs _ (.tail _ hq)];show ro q.1 [(n,v)]=F;rw[fG,show(q.1==n)=aj from beq_eq_false_iff_ne.mpr λ e=>h1 (by rw[<-e];exact bI.mpr ⟨q,hq,Y⟩)];rfl
theorem BA{ps:List af}{vs ds D:List al}(k:D=ds)(hn:ps.Nodup)(w:vs.length+ds.length=ps.length){f:af×al->List (af×al)->Sem (ForInStep (List (af×al)))}
 (P:∀n v slots,f (n,v) slots=if(slots.lookup n).isNone=ai then pure (.yield (slots++[(n,v)]))else pure (.yield slots)):
 (ps.take (ps.length -(D.drop (D.length -ps.length)).length)).filter (λ n=>((ps.zip vs).lookup n).isNone)=[]/\
 forIn ((ps.drop (ps.length -(D.drop (D.length -ps.length)).length)).zip (D.drop (D.length -ps.length))) (ps.zip vs) f=pure (ps.zip (vs++ds))/\
 ((ps++[]).filterMap λ n=>((ps.zip (vs++ds)).lookup n).map (n,·))=ps.zip (vs++ds):=by
 cases k;rw[kh];have Q:ds.length -ps.length=0:=(aey w);have i:ps.length -ds.length=vs.length:=(afl w);rw[Q,Ih,i];have split:ps.zip (vs++ds)=(ps.take vs.length).zip vs++(ps.drop vs.length).zip ds:=by
  conv=>lhs;rw[<-sF vs.length ps]
  exact Iw (by rw[nx];exact aaN i)
 have L:ps.zip vs=(ps.take vs.length).zip vs:=by
  conv=>lhs;rw[<-sF vs.length ps,<-kh vs]
  rw[Iw (by rw[nx];simp;exact aaN i),List.zip_nil_right,kh];simp
 have h:((ps.take vs.length).filter λ n=>((ps.zip vs).lookup n).isNone)=[]:=by
  rw[List.filter_eq_nil_iff];intro n hm;rw[L];have:=List.mem_of_mem_take hm;intro q;rw[zy]at q;have B:(ps.take vs.length).filterMap (λ n=>(((ps.take vs.length).zip vs).lookup n).map (n,·))=(ps.take vs.length).zip vs:=lF (hn.sublist (rG ..)) (by rw[nx];exact afi i);have:n∈((ps.take vs.length).zip vs).map (·.1):=by rw[qH (by rw[nx];exact adR)];exact hm
  obtain⟨a,b⟩|d|rfl:=bI.mp this;rw[<-B]at d;obtain c|hc|hd:=oK.mp d;cases l:((ps.take vs.length).zip vs).lookup c with
  |none=>rw[l]at hd;cases hd
  |some z=>rw[l]at hd;cases hd;rw[q]at l;cases l
 have e:=xI (ds:=(ps.drop vs.length).zip ds) (f:=f) P (slots:=ps.zip vs)
  (by rw[qH (by rw[B0];exact W2 i)];exact hn.sublist (List.drop_sublist ..)) (λ p j=>by
   rw[L];refine jQ λ q=>?_
   have h1:=List.mem_map_of_mem (f:=j0) j;rw[qH (by rw[B0];exact W2 i)]at h1;have:=kC.mp ((sF vs.length ps).symm▸hn:(ps.take vs.length++ps.drop vs.length).Nodup);exact this.2.2 _ q _ h1 Y)
 refine cY h (e.trans ?_) (lF hn (by rw[cE];exact act w));rw[L,<-split]
theorem N8{a d:List mh}{b:List mh}{c f:Option mh}(h1:a=[])(h2:d=[])(I:c=F)(D:f=F):(⟨a,b,c,d,e,f,g⟩:oS)=⟨[],b,F,[],e,F,g⟩:=by rw[h1,h2,I,D]
theorem args_eq{p:oS}(h1:p.posonlyargs=[])(h2:p.kwonlyargs=[])(I:p.vararg=F)(D:p.kwarg=F):p=⟨[],p.args,F,[],p.kw_defaults,F,p.defaults⟩:=by
 cases p with
 |mk a b c d e f g=>exact N8 h1 h2 I D
theorem sv{fd:hA}{ps:List af}{vs ds:List al}(hp:pd fd ps)(w:vs.length+ds.length=ps.length){Q:List (af×al)->aN->be}
 (hd:∀m:Option (Array al)->aN->be,(∀xs,xs.getD #[]=ds.toArray->m xs s)->aZ M A (wt fd.defaults) m E s)(h:Q (ps.zip (vs++ds)) s):
 aZ M A (F6 fd ⟨vs,[]⟩) Q E s:=by
 obtain h1|h2|I|D|k|hn:=hp;have e:fd={fd with params:=⟨[],fd.params.args,F,[],fd.params.kw_defaults,F,fd.params.defaults⟩}:=congrArg (λ p:oS=>({fd with params:=p}:hA)) (args_eq h1 I h2 D);clear h1 h2 I D;subst k;rw[e];unfold F6;refine aW (bn (aW (hd _ λ xs g=>?_)));obtain b1|b2|S:=BA (congrArg Array.toList g) (f:=λ x(slots:List (af×al))=>if(slots.lookup x.1).isNone=ai then pure (.yield (slots++[(x.1,x.2)]))else pure (.yield slots)) hn w (λ _ _ _=>rfl);refine wpAny_ite_false (decide_eq_false λ e=>zp.mpr (abT w) (of_decide_eq_true (dL.mp e).1)) (wpAny_ite_false (decide_eq_false λ e=>j5 ((congrArg (λ l:List af=>!l.isEmpty) b1).symm.trans e)) (aW (zJ b2 (aW (bn (bn ((congrArg (Q · s) S).mpr h)))))))
end
def CR(n:J)(y:Lay)(cs:List (af×Loc))(cells:List (af×ao)):be:=cells=cs.map (λ p=>(p.1,y.ad p.2))/\∀p∈cs,p.2<n
theorem CR.mono{n n':J}{y w:Lay}{cs:List (af×Loc)}{cells:List (af×ao)}(h:CR n y cs cells)(e:Ext n y n' w):CR n' w cs cells:=
 ⟨h.1.trans (ef λ p hp=>by rw[e.ad _ (h.2 p hp)]),λ p hp=>cv (h.2 p hp) e.le⟩
theorem CR.lookup{n:J}{y:Lay}{cs:List (af×Loc)}{cells:List (af×ao)}(h:CR n y cs cells){x:af}{l:Loc}(e:cs.lookup x=U l):l<n/\cells.lookup x=U (y.ad l):=by refine⟨h.2 _ (jn e),?_⟩;rw[h.1,pj y.ad cs x,e];rfl
theorem vg{acc cs:List (af×Loc)}{N st':St}(h:dg names acc N=U (cs,st')):st'.loc=N.loc/\(∀x,(acc.lookup x).isSome=ai->(cs.lookup x).isSome=ai)/\∀x,(x,rU)∈names->(cs.lookup x).isSome=ai:=by
 induction names generalizing acc N with
 |nil=>cases h;exact cY Y (λ _ q=>q) (λ x q=>nomatch q)
 |cons p r X=>
  obtain z|k:=p;rw[lM]at h;by_cases C:(k==rU)=ai
  .rw[if_pos C]at h;obtain a|b|c:=X h;refine cY a (λ x q=>b x ?_) (λ x q=>?_)
   .rw[fG];cases x==z with
    |true=>rfl
    |false=>exact q
   .rcases dK.mp q with e|q
    .cases e;exact b _ (by rw[fG,beq_self_eq_true];rfl)
    .exact c x q
  .rw[if_neg C]at h;obtain a|b|c:=X h;refine cY a b (λ x q=>?_);rcases dK.mp q with e|q
   .cases e;exact absurd Y C
   .exact c x q
theorem qB{N:St}(h:∀x∈names,x.2≠.cell):dg names acc N=U (acc,N):=by
 induction names with
 |nil=>rfl
 |cons p r X=>rw[lM,if_neg (λ e=>h p (.head _) (eq_of_beq e))];exact X λ x g=>h x (.tail _ g)
section
variable{B:Bk}{A:dF}{y:Lay}{N st':St}{s:aN}{d:J}
theorem R.Dt(r:R B y N s):R B (y.put N.n s.heap.objs.size s.heap.objs.size) {loc:=N.loc,H:=ah N.H N.n (U (.cell F)),n:=N.n+1} {s with heap:=s.heap.push {cls:=.type "cell",data:=.cell F}}:=by have I:=r.cR (h₁:=s.heap) (λ _ _ e=>e) (aS _);refine r.alloc (o:=O.cell F) (tk:=s.toks) Y (λ b o e=>Heap.get?_push_of_some _ e) I.1 I.2.1 I.2.2 (λ c=>by cases c) ⟨F,?_,trivial⟩;rw[show(y.put N.n s.heap.objs.size s.heap.objs.size).ad N.n=s.heap.objs.size from aa ..];exact⟨_,Heap.get?_push_size _ Y,Y⟩
theorem wR(f:af×bM->List (af×ao)->Sem (ForInStep (List (af×ao))))
 (P:∀name kind cells,f (name,kind) cells=if kind==.cell then(do let a<-PySem.alloc {cls:=.type "cell",data:=.cell F};pure (.yield ((name,a)::cells)))else pure (.yield cells))
 {y:Lay}{N st':St}{s:aN}(r:R B y N s)(c:CR N.n y acc accA)(h:dg names acc N=U (cs,st')):
  dt B A y N s (forIn names accA f) (λ n y cells=>CR n y cs cells) st':=by
  induction names generalizing acc accA y N s with
  |nil=>cases h;rw[lz];exact dt.pure r c
  |cons p rest X=>
   obtain z|k:=p;rw[jO,P];rw[lM]at h;by_cases C:(k==rU)=ai
   .rw[if_pos C]at h;rw[if_pos C];intro E Q q;refine aW (aW (wpAny_alloc (bn ?_)));have e:Ext N.n y (N.n+1) (y.put N.n s.heap.objs.size s.heap.objs.size):=.put;refine X (accA:=(z,s.heap.objs.size)::accA) r.Dt ?_ h E Q λ w b L e' j v=>q w b L (e.trans e') j v
    have S:=c.mono e;refine⟨?_,λ p hp=>?_⟩
    .rw[bW,S.1,show(y.put N.n s.heap.objs.size s.heap.objs.size).ad N.n=s.heap.objs.size from aa ..]
    .rcases dK.mp hp with rfl|hp
     .exact cQ _
     .exact S.2 p hp
   .rw[if_neg C]at h;rw[if_neg C];intro E Q q;exact aW (bn (X r c h E Q q))
theorem yX{env:dA}{names:List (af×bM)}{cs:List (af×Loc)}(f:af×al->PUnit->Sem (ForInStep PUnit))(P:∀x v I,f (x,v) I=(do oi env x v;pure (.yield ⟨⟩)))
 {xs:List (af×V)}{vs:List (af×al)}{y:Lay}{N st':St}{s:aN}{I:Unit}(r:R B y N s)(e:f0 B y N.n env (λ x=>names.lookup x) cs)(hn:xs.map (·.1)=vs.map (·.1))(S:dh N.n y (xs.map (·.2)) (vs.map (·.2)))(h:bindAll names cs xs N=U (I,st')):
  dt B A y N s (forIn vs ⟨⟩ f) (λ _ _ _=>True) st':=by
 induction xs generalizing vs y N s with
 |nil=>
  cases h;cases vs with
  |nil=>rw[lz];exact dt.pure r trivial
  |cons=>cases hn
 |cons p rest X=>
  obtain x|v:=p;cases vs with
  |nil=>cases hn
  |cons p vs=>
   obtain z|D:=p;obtain h0|hm:=lS hn;obtain rfl:x=z:=h0;obtain g|i:=S;rw[jO,P];have go:∀{H:St},dt B A y N s (oi env x D) ur H->dt B A y N s (do oi env x D;pure (.yield ⟨⟩):Sem (ForInStep PUnit)) (λ _ _ b=>b=.yield ⟨⟩) H:=λ h1=>dt.bind h1 λ w a L e' j _=>dt.pure j Y
   rw[gI]at h;cases C:names.lookup x with
   |none=>rw[C]at h;cases h
   |some k=>
    rw[C]at h;cases k with
    |«local»=>
     refine dt.bind (go (ja r e C g)) λ w a L e' j ha=>?_
     subst ha;exact X j (e.mono e') hm (i.mono e') h
    |cell=>
     exists au h,c,H,h1,h2;refine dt.bind (go (yp r e C g h1)) λ w a L e' j ha=>?_
     subst ha;exact X j (e.mono e') hm (i.mono e') h2
    |_=>cases h
end
def flr:Fl->J->Lay->Flow->be
 |.next,_,_,f=>f=.next
 |.brk,_,_,f=>f=.brk
 |.cont,_,_,f=>f=.cont
 |.ret v,n,y,f=>∃D,f=.ret D/\VR n y v D
def BodyOk(K:W.Frag)(d:J)(cf:V->List V->M V):be:=
 ∀(B:Bk)(A:dF)(y:Lay)(N:St)(s:aN)(env:dA)(kd:af->Option bM)(cs:List (af×Loc))(body:List cJ)(fl:Fl)(st':St),
  Ds K B->Good A d->R B y N s->f0 B y N.n env kd cs->ay G cf cs (gy G.glob kd body) N=U (fl,st')->dt B A y N s (jt body env) (flr fl) st'
def Kept(M:iQ)(h:Heap)(f:al):be:=∃k,(k=Keeper.frame\/k=Keeper.machine\/k=Keeper.boundFrame)/\W.Looks M h (keeperOf f) k
def dN(K:W.Frag)(d:J)(cf:V->List V->M V):be:=
 ∀(B:Bk)(A:dF)(y:Lay)(N:St)(s:aN)(f:V)(e:al)(as:List V)(q:List al)(v:V)(st':St),
  Ds K B->Good A d->R B y N s->VR N.n y f e->dh N.n y as q->cf f as N=U (v,st')->Kept (bB B.prog B.w) s.heap e/\dt B A y N s (call e q) (vr v) st'
theorem Good.deeper{A:dF}{d:J}(g:Good A (d+1)):Good (A.deeper env) d:=by
 refine⟨g.handled,?_,?_⟩
 .have:=g.depth;show A.depth+1+10+4*d<=_;exact acU this
 .have:=g.units;show A.units+3+200+40*d<=_;exact aeQ this
section
variable{B:Bk}{A:dF}{y:Lay}{N st':St}{s:aN}{d:J}{K:W.Frag}
theorem pF{α:Type}{m:M α}{N st':St}{a:α}(h:kw m N=U (a,st')):∃H,m {N with loc:=λ _=>F}=U (a,H)/\st'={H with loc:=N.loc}:=by unfold kw at h;obtain⟨n,H⟩|h1|h2:=mG.mp h;cases h2;exact cC H h1 Y
theorem R.noLimit(r:R B y N s):s.heap.NoLimit:=Heap.NoLimit.Jj r.nolimit λ b o e=>r.bg _ _ (r.root _ _ e)
def NG(B:Bk)(A:dF)(y:Lay)(N:St)(s:aN)(c:Code)(v:V)(st':St):be:=
 ∀Q:mr->aN->be,(∀w D L,Ext N.n y st'.n w->R B w st' L->VR st'.n w v D->Q (.ok (.ret D)) L)->iB (bB B.prog B.w) A c Q s
theorem NG.sim{v:V}(h:NG B A y N s (.call f ⟨vs,[]⟩) v st'):dt B A y N s (call f vs) (vr v) st':=
 λ _ _ q=>Bm (h _ λ w D L e r z=>q w D L e r z)
theorem pJ(i':A.depth<nY)(r:R B y N s){a:ao}{o:b8}{fd:hA}{params:List af}{names:List (af×bM)}{m':List TS}{cl:List (af×Loc)}{dfs:List V}{ds vs:List al}{as:List V}
 (ho:s.heap.get? a=U o)(hd:o.data=.func fd)(D:tx G.glob fd params names m')(l':s.heap.CodeRec fd.code fd.qualname)
 (h':CR N.n y cl fd.closure)(j':∀x,names.lookup x=U .free->(cl.lookup x).isSome=ai)
 (p':dh N.n y dfs ds)(r':∀(A:dF)(E:al->aN->be)(Q':Option (Array al)->aN->be),(∀xs,xs.getD #[]=ds.toArray->Q' xs s)->aZ (bB B.prog B.w) A (wt fd.defaults) Q' E s)
 (S:dh N.n y as vs)(m:as.length+dfs.length=params.length)
 {cs:List (af×Loc)}{st₂ st₃:St}{body:List cJ}(h2:dg names cl {N with loc:=λ _=>F}=U (cs,st₂))(h4:bindAll names cs (params.zip (as++dfs)) st₂=U ((),st₃))(hb:fd.body=.stmts body)
 {P:Flow->aN->be}(X:∀(L:ao)(d':Lay)(b':aN)(env:dA),env.scope=fd.scope->env.code=fd.code->env.func=U a->env.qual=fd.qualname++".<locals>."->Ext N.n y st₃.n d'->R (B.to (under N y s.heap []) L) d' st₃ b'->f0 (B.to (under N y s.heap []) L) d' st₃.n env (λ x=>names.lookup x) cs->
  ∀(E:al->aN->be)(Q:Flow->aN->be),(∀f f',P f f'->Q f f')->aZ (bB B.prog B.w) (A.deeper env) (jt body env) Q E b')
 {Q:mr->aN->be}(q:∀f s',P f s'->∃v',(f=.ret v'\/f=.next/\v'=.none)/\Q (.ok (.ret v')) s'):
 iB (bB B.prog B.w) A (.call ↥a ⟨vs,[]⟩) Q s:=by
 have ev:=S.length;have ed:=p'.length;refine codeAny_call_function i' ho hd D.acs D.noGen hb l' (sv (E:=λ e s'=>_) D.params (by rw[<-ev,<-ed];exact m) (r' _ _) ?_);have q':s.heap.get? s.heap.objs.size=F:=by
  cases z:s.heap.get? s.heap.objs.size with
  |none=>rfl
  |some o=>exact absurd (Heap.lt_size z) (lQ _)
 have hU:(under N y s.heap []).get? s.heap.objs.size=F:=by
  cases z:(under N y s.heap []).get? s.heap.objs.size with
  |none=>rfl
  |some o=>rw[under_get z]at q';cases q'
 have w':∀(l:Loc)(o:O),N.H l=U o->o.cL=aj->y.ad l≠s.heap.objs.size:=λ l o e c z=>by
  have w:=(r.obj _ _ e).2;have:∃x,s.heap.get? (y.ad l)=U x:=by
   cases o with
   |inst c fs=>exact⟨_,w.1⟩
   |list xs=>obtain vs|k|ho|v:=w;exact⟨_,ho⟩
   |tup xs=>obtain vs|k|ho|v:=w;exact⟨_,ho⟩
   |dict es=>obtain _|_|_|od|o'|_:=w;exact⟨_,o'⟩
   |cell v=>obtain v'|⟨o,ho,r⟩|q:=w;exact⟨_,ho⟩
   |range k=>obtain t|I|v|p:=w;exact⟨_,p⟩
   |iS c'=>cases c
  obtain x|H:=this;rw[z,q']at H;cases H
 have t':∀(l:Loc)(o:O),N.H l=U o->o.bZ=ai->y.dd l≠s.heap.objs.size:=λ l o e c z=>by
  have w:=(r.obj _ _ e).2;cases o with
  |inst c fs=>obtain _|_|es|k|d|_:=w;rw[z,q']at d;cases d
  |_=>cases c
 have n':R (B.to (under N y s.heap []) s.heap.objs.size) y {N with loc:=λ _=>F} {s with heap:=s.heap.push {cls:=.type "frame",data:=.dict #[]},toks:=s.toks}:=
  r.push (more:=[]) (λ _ hb=>absurd hb eI) hU w' t' (λ b o e=>Heap.get?_push_of_some _ e) ⟨_,Heap.Ns.new ..,λ _=>trivial⟩
 unfold oN;simp only[Option.isSome_none,d0,if_false];refine aW (wpAny_alloc ?_);refine aW ?_;refine wR (B:=B.to (under N y s.heap []) s.heap.objs.size) _ (λ _ _ _=>rfl) n' (cs:=cs) h' (by rw[D.names];exact h2) _ _ λ e' cells a' h j g'=>?_
 have ER:f0 (B.to (under N y s.heap []) s.heap.objs.size) e' st₂.n {scope:=fd.scope,locals:=s.heap.objs.size,globals:=fd.globals,cells:=cells,qual:=fd.qualname++".<locals>.",func:=U a,code:=fd.code,frame:=U s.heap.objs.size,builtins:=fd.builtins} (λ x=>names.lookup x) cs:=by
  refine⟨D.kind,Y,D.globals,D.builtins,λ x=>.inl (by show fd.scope.names.lookup x=_;rw[D.names]),λ x H=>?_⟩;obtain _|i1|i2:=vg h2;have:(cs.lookup x).isSome=ai:=by
   rcases H with H|H
   .exact i2 x (jn H)
   .exact i1 x (j' x H)
  obtain l|g:=qL.mp this;obtain a1|a2:=g'.lookup g;exact gc l g a1 a2
 have n:(params.zip (as++dfs)).map (·.1)=(params.zip (vs++ds)).map (·.1):=by rw[qH (by rw[cE];exact Z6 m),qH (by rw[cE,<-ev,<-ed];exact Z6 m)]
 have hw:dh st₂.n e' ((params.zip (as++dfs)).map (·.2)) ((params.zip (vs++ds)).map (·.2)):=by rw[FT (by rw[cE];exact WT m),FT (by rw[cE,<-ev,<-ed];exact WT m)];exact(S.append p').mono h
 refine aW ?_;refine yX (B:=B.to (under N y s.heap []) s.heap.objs.size) _ (λ _ _ _=>rfl) j ER n hw h4 _ _ λ d' _ b' i C _=>?_
 refine bn ⟨C.noLimit,codeAny_func ?_⟩;refine X s.heap.objs.size d' b' _ Y Y Y Y (h.trans i) C (ER.mono i) _ _ λ f f' hf=>?_
 obtain v'|k'|hq:=q f f' hf;rcases k' with rfl|⟨rfl,rfl⟩
 .exact hq
 .exact hq
theorem ka{cf:V->List V->M V}(X:BodyOk K d cf)(W:Ds K B)(d':A.depth<nY)(g:∀env,Good (A.deeper env) d)(r:R B y N s){a:ao}{o:b8}{fd:hA}{params:List af}{names:List (af×bM)}{h':List TS}{cl:List (af×Loc)}{dfs:List V}{ds vs:List al}{as:List V}{v:V}
 (p:s.heap.get? a=U o)(hd:o.data=.func fd)(D:tx G.glob fd params names h')(g':s.heap.CodeRec fd.code fd.qualname)
 (a':CR N.n y cl fd.closure)(f':∀x,names.lookup x=U .free->(cl.lookup x).isSome=ai)
 (i':dh N.n y dfs ds)(j':∀(A:dF)(E:al->aN->be)(Q':Option (Array al)->aN->be),(∀xs,xs.getD #[]=ds.toArray->Q' xs s)->aZ (bB B.prog B.w) A (wt fd.defaults) Q' E s)
 (z:dh N.n y as vs)(t:as.length+dfs.length=params.length)
 (h:kw (aI (dg names cl) λ cs=>aI (bindAll names cs (params.zip (as++dfs))) λ _=>aI (ay G cf cs h') flV) N=U (v,st')):
 NG B A y N s (.call ↥a ⟨vs,[]⟩) v st':=by
 intro Q q;obtain H|h1|rfl:=pF h;exists au h1,cs,st₂,h2,m;exists au m,I,st₃,e,h5;exists au h5,fl,b',h6,h7;obtain body|hb|rfl:=D.body;refine pJ d' r p hd D g' a' f' i' j' z t h2 e hb (P:=λ f s'=>∃y',Ext N.n y b'.n y'/\R B y' {b' with loc:=N.loc} s'/\flr fl b'.n y' f) (λ L n b env k _ _ _ i C ER E' Q' q'=>?_) λ f s' l=>?_
 .exact X (B.to (under N y s.heap []) L) _ n st₃ b _ _ cs body fl b' ⟨W.ou,W.gl⟩ (g _) C ER (by rw[D.names]at h6;exact h6) _ _ λ c' f S j c l=>q' f S ⟨c',i.trans j,r.CH (more:=[]) (λ _ hb=>absurd hb eI) (λ hb=>nomatch hb) (i.trans j) c,l⟩
 .obtain y'|e'|r'|l:=l;cases fl with
  |next=>cases l;cases h7;exact⟨_,.inr ⟨Y,Y⟩,q y' _ _ e' r' Y⟩
  |ret w=>obtain w'|rfl|k':=l;cases h7;exact⟨w',.inl Y,q y' _ _ e' r' k'⟩
  |_=>cases h7
structure M7(K:W.Frag)(a:ao)(fn:Fn):Prop where
 fd:∃oc od fd osl,K.lookup a=U ⟨oc,od,.func fd,osl⟩/\W.codeIn K fd.code fd.qualname=ai/\fd.closure=[]/\tx G.glob fd fn.params fn.names fn.body/\
  ((fn.jM=[]/\fd.defaults=.none)\/∃T o items n,fd.defaults=.ref T/\K.lookup T=U o/\o.data=.seq items n/\∀n y,dh n y fn.jM items.toList)
 free:∀p∈fn.names,p.2≠.free
 bg:W.keepIn K (.ref a)=ai
theorem hZ{M:iQ}{A:dF}(h:Q F s):aZ M A (wt .none) Q E s:=bn h
theorem rJ{cf:V->List V->M V}(X:BodyOk K d cf)(W:Ds K B)(b:A.depth<nY)(g:∀env,Good (A.deeper env) d)(r:R B y N s){a:ao}{fn:Fn}{as:List V}{vs:List al}{v:V}(j:M7 K a fn)
 (z:dh N.n y as vs)(h:rO G cf fn as N=U (v,st')):NG B A y N s (.call ↥a ⟨vs,[]⟩) v st':=by
 unfold rO at h;exists au h,bs,H,h1,h2;obtain I|rfl:=qO h1;unfold Mu.Internal.bindArgs at I;split at I
 .rename_i w;cases I;obtain⟨S,t,fd,C,f,e,P,D,l⟩|c|_:=j;have X0:=r.ou W.ou;have p:∀x,fn.names.lookup x=U .free->(([]:List (af×Loc)).lookup x).isSome=ai:=λ x q=>absurd Y (c _ (jn q))
  rcases l with⟨Q,i⟩|⟨T,o,items,n,Q,i,L,k⟩
  .exact ka X W b g r (X0 _ _ f) Y D (GV X0 e) (cl:=[]) ⟨P,λ _ hp=>absurd hp eI⟩ p (dfs:=fn.jM) (ds:=[]) (by rw[Q];trivial)
    (λ A E m hq=>by rw[i];exact hZ (hq _ Y)) z w h2
  .refine ka X W b g r (X0 _ _ f) Y D (GV X0 e) (cl:=[]) ⟨P,λ _ hp=>absurd hp eI⟩ p (dfs:=fn.jM) (ds:=items.toList) (k _ _)
    (λ A E m hq=>?_) z w h2
   rw[Q];exact aW (wpAny_load (X0 _ _ i) (by rw[L];exact bn (hq _ (by simp))))
 .cases I
end
structure Tab(K:W.Frag):Prop where
 cls:∀c ci,G.cls c=U ci->rT K c ci
 kin:∀D ci C cc,G.cls D=U ci->G.cls C=U cc->if ci.sup.contains C then W.isIn K (.ref D) C=ai else W.kin_not K D C=ai
 fn:∀a fn,G.fn a=U fn->M7 K a fn
 init:∀c ci,G.cls c=U ci->W.typeIn K (.ref ci.init)=U (.type "function")
section
variable{B:Bk}{A:dF}{y:Lay}{N st':St}{s:aN}{d:J}{K:W.Frag}
theorem E8{α:Type}{f:Loc->M α}{N:St}:aI (Mu.Internal.alloc o) f N=f N.n {loc:=N.loc,H:=ah N.H N.n (U o),n:=N.n+1}:=rfl
set_option tactic.hygienic true in
theorem Ak(T:Tab K)(X:BodyOk K d (aq G d)):dN K (d+1) (aq G (d+1)):=by
 intro B A y N s f f' as g' v st' W g r P has h;have X0:=r.ou W.ou;have d':A.depth<nY:=by have:=g.depth;exact aei this
 unfold aq at h;split at h
 .rename_i a;cases P;cases p':G.fn a with
  |some fn=>rw[p']at h;have j:=T.fn _ _ p';exact⟨KY j.bg _ X0,(rJ X W d' (λ env=>g.deeper) r j has h).sim⟩
  |none=>
   rw[p']at h;dsimp only at h;cases c':G.cls a with
   |none=>rw[c']at h;cases h
   |some ci=>
    rw[c']at h;dsimp only at h;cases l':G.fn ci.init with
    |none=>rw[l']at h;cases h
    |some fn=>
     rw[l']at h;dsimp only at h;rw[E8]at h;have C:=T.cls _ _ c';have j:=T.fn _ _ l';refine⟨KY C.bg _ X0,λ E Q q=>Bm ?_⟩;obtain t|gg|dd|tt|os:=s;exists au h,rv,i,h1,h2;refine PySem.W.make_core (PySem.W.makes_of X0 C.makes) (PySem.W.looks_findIn X0 C.init) (λ self=>PySem.W.bind_fn X0 self (T.init _ _ c')) (.inl rfl) ?_;have an:=r.cR (h₁:=t) (a:=t.objs.size+1) (λ _ _ e=>e) (b7 _);have t':=r.cR (h₁:=t) (a:=t.objs.size) (λ _ _ e=>e) (aS _);have p:R B (y.put N.n (t.objs.size+1) t.objs.size) {loc:=N.loc,H:=ah N.H N.n (U (.inst a [])),n:=N.n+1} {heap:=(t.push Hb).push (GC a t.objs.size),gens:=gg,drawn:=dd,toks:=tt,os:=os}:=by
      have k:(y.put N.n (t.objs.size+1) t.objs.size).ad N.n=t.objs.size+1:=aa ..;have m:(y.put N.n (t.objs.size+1) t.objs.size).dd N.n=t.objs.size:=aa ..;refine r.alloc (o:=O.inst a []) (a:=t.objs.size+1) (d:=t.objs.size) (tk:=tt) rfl (λ b o e=>Heap.get?_push_of_some _ (Heap.get?_push_of_some _ e)) an.1 an.2.1 an.2.2 (λ _=>⟨t'.1,t'.2.1,Nat.succ_ne_self _⟩) ?_;refine⟨?_,?_,[],0,?_,trivial⟩
      .rw[k,m];have:=Heap.get?_push_size (t.push Hb) (o:=GC a t.objs.size) rfl
       rwa [Heap.size_push]at this
      .rw[k,m];exact bP (cQ _)
      .rw[m];exact Heap.get?_push_of_some _ (Heap.get?_push_size _ rfl)
     have hw:(Code.builtin "type.__call__" ⟨.ref a::g',[]⟩).weight=1:=ag;have z:(Code.builtin "type.__call__" ⟨.ref a::g',[]⟩).cUnits=1:=ag;have dp:(A.under (.builtin "type.__call__" ⟨.ref a::g',[]⟩)).depth=A.depth+1:=by show A.depth+_=_;rw[hw]
     have up:(A.under (.builtin "type.__call__" ⟨.ref a::g',[]⟩)).units=A.units+1:=by show A.units+_=_;rw[z]
     have gd:=g.depth;have gu:=g.units;have S:=rJ (A:=A.under (.builtin "type.__call__" ⟨.ref a::g',[]⟩)) X W (by rw[dp];exact afe gd) (λ env=>⟨g.handled,by show(A.under _).depth+1+10+4*d<=_;rw[dp];exact ach gd,by show(A.under _).units+3+200+40*d<=_;rw[up];exact acd gu⟩) p j
      (vs:=.ref (t.objs.size+1)::g') (as:=.ref N.n::as) ⟨eN,has.mono .put⟩ h1
     refine S _ λ y' x s' e' r' i'=>?_
     cases rv with
     |none=>cases i';cases h2;exact⟨rfl,q y' _ _ (Ext.trans .put e') r' ⟨cv (cQ _) e'.le,by rw[e'.ad _ (cQ _)];exact congrArg iI (aa ..).symm⟩⟩
     |_=>cases h2
 .rename_i l;obtain b'|rfl:=P;exists au h,o,i,h1,h2;obtain h1|rfl:=t7 h1;cases o with
  |iS c=>
   obtain _|ob|fd|m'|w'|A'|j'|⟨D,z',h',n'⟩|a'|k':=r.obj _ _ h1;have q':=r.here m';refine⟨⟨.frame,.inl rfl,(PySem.W.Looks.ld (part:=F) q').andThen (by rw[w'];exact .now)⟩,?_⟩;dsimp only at h2;unfold An at h2;exists au h2,bs,st₂,I,L;obtain h5|rfl:=qO I;unfold Mu.Internal.bindArgs at h5;split at h5
   .rename_i w;cases h5;have x':s.heap.CodeRec fd.code fd.qualname:=by obtain c|oc|vs|tq|hc|o'|r':=j';exact⟨c,oc,vs,tq,hc,r.here o',r'⟩
    refine(ka X W d' (λ env=>g.deeper) r q' w' D x' (cl:=c.cl) ⟨a',k'⟩ h' (dfs:=[]) (ds:=[]) trivial (λ A E Q' hq=>by rw[n'];exact hZ (hq _ rfl)) has w ?_).sim;obtain st₃|k1|k2:=pF L;unfold kw;rewrite[show(aI (dg c.names c.cl) λ cs=>aI (bindAll c.names cs (c.params.zip (as++[]))) λ _=>aI (ay G (aq G d) cs c.body) flV) {st₂ with loc:=λ _=>F}=U (v,st₃)from ?_]
    .rw[k2];rfl
    .unfold aI at k1⊢;rw[qB z'];exact k1
   .cases h5
  |_=>cases h2
 .cases h
theorem gz{M:iQ}:Kept M h (.builtin n):=⟨.machine,.inr (.inl Y),Gf Y⟩
theorem E2{M:iQ}:Kept M h (.type n):=⟨.machine,.inr (.inl Y),Gf Y⟩
theorem dh.one{y:Lay}(h:dh n y [x] vs):∃v,vs=[v]/\VR n y x v:=by obtain v|r|rfl|h1|h2:=h.cons_inv;obtain rfl:=h2.nil_inv;exact cC v Y h1
theorem dh.two{y:Lay}(h:dh n y [x,z] vs):∃v I,vs=[v,I]/\VR n y x v/\VR n y z I:=by obtain v|r|rfl|h1|h2:=h.cons_inv;obtain I|rfl|m:=h2.one;exact pX v I Y h1 m
theorem jq{v:V}(h:lr f as N=U (v,st')):∃a,as=[a]/\f a N=U (v,st'):=by
 cases as with
 |nil=>exact aw h
 |cons a as=>cases as with
  |nil=>exact cC a Y h
  |cons=>exact aw h
theorem B5{v:V}(h:Qb f as N=U (v,st')):∃a b,as=[a,b]/\f a b N=U (v,st'):=by
 cases as with
 |nil=>exact aw h
 |cons a as=>cases as with
  |nil=>exact aw h
  |cons b as=>cases as with
   |nil=>exact qz a b Y h
   |cons=>exact aw h
theorem A5{α:Type}{f:Loc->M α}{a:V}{v:α}(h:uI f a N=U (v,st')):∃l,a=.ref l/\f l N=U (v,st'):=by
 cases a with
 |ref l=>exact cC l Y h
 |_=>exact aw h
theorem gA{v:V}(has:dh N.n y as q)(h:lr (uI f) as N=U (v,st')):∃l,q=[↥(y.ad l)]/\f l N=U (v,st'):=by obtain a|rfl|h1:=jq h;obtain l|rfl|h2:=A5 h1;obtain n|rfl|_|rfl:=has.one;exact cC l Y h2
theorem E3{v:V}(h:Rg o=U v):∃xs,o=.list xs/\xs.length<=1000/\v=.int xs.length:=by
 cases o with
 |list xs=>exists bY h,h1,h2;cases h2;exact gc xs Y h1 Y
 |_=>exact aw h
theorem Ah{o o':O}(h:t8 o=U o'):∃es is,o=.dict es/\intKeys es=U is/\is.length<64/\o'=.list ((sortI is).map .int):=by
 cases o with
 |dict es=>exists aM h,is,h1,h;exists bY h,h2,h;cases h;exact pY es is Y h1 h2 Y
 |_=>exact aw h
theorem Bw(h:pL o=U o'):∃es,o=.dict es/\es.all (λ e=>e.1.isStr)=ai/\es.length<=1000/\o'=.list (es.filterMap λ e=>e.1.toV):=by
 cases o with
 |dict es=>exists bY h,h2,h;cases h;exact JI es Y h2.1 h2.2 Y
 |_=>exact aw h
theorem EU(h:Mb o=U o'):∃xs,o=.list xs/\xs.length<=1000/\o'=.tup xs:=by
 cases o with
 |list xs=>exists bY h,h2,h;cases h;exact gc xs Y h2.2 Y
 |_=>exact aw h
theorem yx{a v:V}(h:KH a N=U (v,st')):∃i,a=.int i/\0<=i/\new (.range i.toNat) N=U (v,st'):=by
 cases a with
 |int i=>exists l8 h,h1,h2;exact gc i Y h1.1 h2
 |_=>exact aw h
theorem EX{a v:V}(h:Yq a N=U (v,st')):∃i,a=.int i/\(0<=i/\i<1000)/\st'=N/\v=.str (cZ (toString i)):=by
 cases a with
 |int i=>exists l8 h,h1,h2;cases h2;exact JI i Y h1 Y Y
 |_=>exact aw h
section
variable(T:Tab K)(W:Ds K B)(g:Good A d)(r:R B y N s){as:List V}{as':List al}{v:V}(has:dh N.n y as as')
include T W g r has
theorem EM{b:String}(h:xB G b as N=U (v,st')):dt B A y N s (call (.builtin b) as') (vr v) st':=by
 unfold xB at h;by_cases h1:b="len"
 .rw[if_pos h1]at h;subst h1;obtain l|rfl|k:=gA has h;obtain o|h1|h2|rfl:=fV k;obtain xs|rfl|m|rfl:=E3 h2;exact Oa r h1 (bx m aL)
 rw[if_neg h1]at h;by_cases h2:b="isinstance"
 .rw[if_pos h2]at h;subst h2;obtain a|c|rfl|k:=B5 h;obtain n|i|rfl|ha|hb:=has.two;exists au k,b,H,h1,h2;exists bk h2;rintro rfl rfl;exact AI r W.ou T.cls T.kin ha hb h1
 rw[if_neg h2]at h;by_cases I:b="sorted"
 .rw[if_pos I]at h;subst I;obtain l|rfl|k:=gA has h;obtain o|o'|h1|h2|rfl|rfl:=kJ k;obtain es|is|rfl|hi|m|rfl:=Ah h2;exact zM r g h1 hi m
 rw[if_neg I]at h;exact aw h
omit T W in
theorem zI{t:String}(h:zZ t as N=U (v,st')):dt B A y N s (call (.type t) as') (vr v) st':=by
 unfold zZ at h;by_cases h1:t="list"
 .rw[if_pos h1]at h;subst h1;obtain l|rfl|k:=gA has h;obtain o|o'|h1|h2|rfl|rfl:=kJ k;obtain es|rfl|ha|m|rfl:=Bw h2;exact BG r g h1 ha m
 rw[if_neg h1]at h;by_cases h2:t="tuple"
 .rw[if_pos h2]at h;subst h2;obtain l|rfl|k:=gA has h;obtain o|o'|h1|h2|rfl|rfl:=kJ k;obtain xs|rfl|m|rfl:=EU h2;exact xy r h1 m
 rw[if_neg h2]at h;by_cases I:t="range"
 .rw[if_pos I]at h;subst I;obtain a|rfl|k:=jq h;obtain i|rfl|hi|S:=yx k;obtain n|rfl|t|rfl:=has.one;obtain rfl|rfl:=gK S;exact DE r hi
 rw[if_neg I]at h;by_cases D:t="str"
 .rw[if_pos D]at h;subst D;obtain a|rfl|k:=jq h;obtain i|rfl|hi|rfl|rfl:=EX k;obtain n|rfl|t|rfl:=has.one;exact λ E Q q=>P.str_of_int (log2_small hi.1 hi.2) (q _ _ _ .refl r.tok ⟨_,Y⟩)
 rw[if_neg D]at h;exact aw h
theorem Ew{cf:V->List V->M V}(I:dN K d cf)(P:VR N.n y f e)(h:eh G cf f as N=U (v,st')):
 Kept (bB B.prog B.w) s.heap e/\dt B A y N s (call e as') (vr v) st':=by
 cases f with
 |con c=>cases c with
  |builtin b=>cases P;exact⟨gz,EM T W g r has h⟩
  |type t=>cases P;exact⟨E2,zI g r has h⟩
  |_=>exact I _ _ _ _ _ _ _ _ _ _ _ W g r P has h
 |_=>exact I _ _ _ _ _ _ _ _ _ _ _ W g r P has h
end
def GY(n:J)(y:Lay):Meth->al×List al->be
 |.fn f fs,p=>VR n y f p.1/\dh n y fs p.2
 |.append l,p=>l<n/\p=(.builtin "list.append",[↥(y.ad l)])
 |.lh l,p=>l<n/\p=(.builtin "list.pop",[↥(y.ad l)])
 |.kA l,p=>l<n/\p=(.builtin "dict.pop",[↥(y.ad l)])
inductive uv(l:Loc)(nm:af):O->Meth->Prop
 |qX (c:ao) (fs:List (af×V)) (ci:Fp) (f:ao) (hci:G.cls c=U ci) (hm:ci.meths.lookup nm=U f) (hn:fs.lookup nm=F):uv l nm (.inst c fs) (.fn (.con (.ref f)) [.ref l])
 |field (c:ao) (fs:List (af×V)) (ci:Fp) (l':Loc) (hci:G.cls c=U ci) (hf:nm∈ci.fields) (hl:fs.lookup nm=U (.ref l')):uv l nm (.inst c fs) (.fn (.ref l') [])
 |app (xs:List V) (e:nm=s!"append"):uv l nm (.list xs) (.append l)
 |lh (xs:List V) (e:nm=s!"pop"):uv l nm (.list xs) (.lh l)
 |kA (es:List (aJ×V)) (e:nm=s!"pop") (q:es.all (λ e=>e.1.isStr)=ai\/es.all (λ e=>e.1.isInt)=ai):uv l nm (.dict es) (.kA l)
theorem zO{l:Loc}{nm:af}{o:O}{m:Meth}(h:F5 G l nm o=U m):uv l nm o m:=by
 cases o with
 |inst c fs=>
  exists aM h,S,H,h1;cases hm:S.meths.lookup nm with
  |some f=>rw[hm]at h1;exists bY h1,h2,I;cases I;exact .qX c fs S f H hm (zy.mp h2)
  |none=>rw[hm]at h1;exists bY h1,h2,I;exists aM I,v,D,p;exists aM p,Q,q,h7;cases h7;cases BO q;exact .field c fs S Q H (BX.mp h2) D
 |list xs=>
  by_cases e:nm=s!"append"
  .cases(if_pos e).symm.trans h;exact .app xs e
  .obtain w|h2:=wU ((if_neg e).symm.trans h);cases h2;exact .lh xs w
 |dict es=>exists bY h,h1,h2;cases h2;exact .kA es h1.1 h1.2
 |_=>exact aw h
theorem GF(T:Tab K)(W:Ds K B)(r:R B y N s){v:V}{a:al}{name:af}{m:Meth}{pl:Sem bG}(S:VR N.n y v a)(h:qX G v name N=U (m,st')):
 dt B A y N s (getMethod a name pl) (λ n y p=>GY n y m p) st':=by
 have X0:=r.ou W.ou;cases v with
 |ref l=>
  obtain H|rfl:=S;obtain o|h1|h2|rfl:=fV h;cases zO h2 with
  |qX c fs g f a' hm hn=>
   have C:=T.cls _ _ a';obtain es|k|I|e|j:=r.inst h1;obtain o|hg|b':=j.get name;obtain c1|c2:=C.meths (name,f) (jn hm);refine λ E Q q=>PySem.W.method_fn X0 I C.tz C.Cc c1 c2 ?_ (q _ _ _ .refl r ⟨Y,⟨H,Y⟩,trivial⟩)
   show(PySem.W.lookIn name (PySem.W.dictOf es k)).map _=_;rw[H8,hg];rw[hn]at b';cases o with
   |none=>rfl
   |some z=>exact b'.elim
  |field c fs g b a' P L=>
   have C:=T.cls _ _ a';obtain es|k|I|e|j:=r.inst h1;obtain o|hg|b':=j.get name;rw[L]at b';cases o with
   |none=>exact b'.elim
   |some w=>obtain c'|rfl:=b';exact λ E Q q=>PySem.W.method_usual (r:=F) X0 I C.tz C.Cc (C.fields name P) Y (PySem.W.get_value X0 I C.tz (PySem.W.findObj_own C.hasDict (C.fields name P) Y (by rw[H8];exact hg)) Y (q _ _ _ .refl r.tok ⟨⟨c',Y⟩,trivial⟩))
  |app xs e=>subst e;obtain vs|k|L|t:=r.list h1;exact λ E Q q=>Gu wr F.type_list_append (isList L) ⟨_,L,Y⟩ (q _ _ _ .refl r ⟨H,Y⟩)
  |lh xs e=>subst e;obtain vs|k|L|t:=r.list h1;exact λ E Q q=>Gu Bs F.type_list_pop (isList L) ⟨_,L,Y⟩ (q _ _ _ .refl r ⟨H,Y⟩)
  |kA es e q=>
   subst e;have D:=r.dict h1;rcases q with q|q
   .obtain kvs|hd|kv:=D.2.1 q;exact λ E Q q=>getMethod_builtin hd.typeIs JV vR F.type_dict_pop hd.mapOf.noDict (q _ _ _ .refl r ⟨H,Y⟩)
   .obtain kvs|hd|kv:=D.1 q;exact λ E Q q=>getMethod_builtin hd.typeIs JV vR F.type_dict_pop hd.mapOf.noDict (q _ _ _ .refl r ⟨H,Y⟩)
 |con c=>exists aM h,m',h1,k;cases k;exists aM h1,C0,h2,X;exists aM X,g,a',i;exists bY i,e,x;cases x;subst e;cases kD h2;cases S;have C:=T.cls _ _ a';exact λ E Q q=>PySem.W.method_cls X0 C.RL (PySem.W.cls_value X0 C.Ms C.NH Y (q _ _ _ .refl r.tok ⟨Y,trivial⟩))
 |_=>exact aw h
end
section
variable{B:Bk}{A:dF}{y y':Lay}{N st':St}{s s':aN}{d:J}{K:W.Frag}
theorem R.live(r:R B y N s){l:Loc}{o:O}(e:N.H l=U o)(c:o.cL=aj):∃x,s.heap.get? (y.ad l)=U x:=by
 have w:=(r.obj _ _ e).2;cases o with
 |inst c fs=>exact⟨_,w.1⟩
 |list xs=>obtain vs|k|f|v:=w;exact⟨_,f⟩
 |tup xs=>obtain vs|k|f|v:=w;exact⟨_,f⟩
 |dict es=>obtain _|_|_|E|i|_:=w;exact⟨_,i⟩
 |cell v=>obtain D|⟨o,f,r⟩|q:=w;exact⟨_,f⟩
 |range k=>obtain t|I|v|p:=w;exact⟨_,p⟩
 |iS S=>cases c
theorem R.Iz(r:R B y N s){o:O}(e:N.H l=U o)(c:o.bZ=ai):∃x,s.heap.get? (y.dd l)=U x:=by
 have w:=(r.obj _ _ e).2;cases o with
 |inst c fs=>obtain _|_|es|k|d|_:=w;exact⟨_,d⟩
 |_=>cases c
structure gb(N:St)(y:Lay)(a:ao):Prop where
 ad:∀l o,N.H l=U o->o.cL=aj->y.ad l≠a
 dd:∀l o,N.H l=U o->o.bZ=ai->y.dd l≠a
theorem R.fresh(r:R B y N s){a:ao}(ha:s.heap.get? a=F):gb N y a:=
 ⟨λ l o e c z=>(by obtain x|g:=r.live e c;rw[z,ha]at g;cases g),λ l o e c z=>(by obtain x|g:=r.Iz e c;rw[z,ha]at g;cases g)⟩
noncomputable def _root_.Mu.Internal.Bk.side(B:Bk)(N:St)(y:Lay)(h:Heap):Bk:=B.to (under N y h [B.L]) B.L
theorem R.side(r:R B y N s):R (B.side N y s.heap) y N s:=by refine r.push (more:=[B.L]) (L':=B.L) (loc:=N.loc) (h₁:=s.heap) (tk:=s.toks) (λ b hb=>?_) (Bu (.head _)) (λ l o e c=>(r.new l o e c).2) (λ l o e c=>(r.ic l o e c).2) (λ _ _ e=>e) r.ns;rw[gT.mp hb];exact r.low
theorem R.kg(r:R B y N s)(j:R (B.side N y s.heap) y' st' s'):R B y' st' s':=r.M9 (more:=[B.L]) (λ b hb=>by rw[gT.mp hb];exact r.low) j
theorem R.sh(b:R B y N s)(j:R (B.side N y s.heap) y' st' s'){a:ao}(e:s.heap.get? a=U o)(p:a≠B.L)(I:gb N y a):s'.heap.get? a=U o:=
 j.bg _ _ (fc e (λ h=>p (gT.mp h)) (λ l o h c q=>I.ad l o h c q.symm) λ l o h c q=>I.dd l o h c q.symm)
theorem R.lK(b:R B y N s)(j:R (B.side N y s.heap) y' st' s'){a:ao}(e:s.heap.get? a=U o)(p:a≠B.L)(I:gb N y a):gb st' y' a:=by
 have hb:=fc (N:=N) (y:=y) (more:=[B.L]) e (λ h=>p (gT.mp h)) (λ l o h c q=>I.ad l o h c q.symm) λ l o h c q=>I.dd l o h c q.symm
 refine⟨λ l o h c z=>?_,λ l o h c z=>?_⟩
 .have:=(j.new l o h c).1;rw[z]at this;rw[show(B.side N y s.heap).aO=under N y s.heap [B.L]from rfl,hb]at this;cases this
 .have:=(j.ic l o h c).1;rw[z]at this;rw[show(B.side N y s.heap).aO=under N y s.heap [B.L]from rfl,hb]at this;cases this
theorem R.adopt(r:R B y N s){o:O}{a:ao}(hc:o.cL=aj)(hi:o.bZ=aj)(un:gb N y a)(hb:B.aO.get? a=F)(I:a≠B.L)(p:2<a)(i:ms B (N.n+1) (y.put N.n a a) s.heap N.n o):
 R B (y.put N.n a a) {loc:=N.loc,H:=ah N.H N.n (U o),n:=N.n+1} s:=by
 have e:Ext N.n y (N.n+1) (y.put N.n a a):=.put;have L:∀{Q:Loc}{j:O},ah N.H N.n (U o) Q=U j->(Q=N.n/\j=o)\/(Q<N.n/\N.H Q=U j):=λ{Q j} e=>by
  by_cases q:Q=N.n
  .subst q;rw[aa]at e;exact .inl ⟨Y,(dT e).symm⟩
  .rw[ae q]at e;exact .inr ⟨(r.obj _ _ e).1,e⟩
 have h:(y.put N.n a a).ad N.n=a:=aa ..;refine⟨r.gens,r.os,r.root,r.bg,r.low,?_,λ l j q=>?_,λ l j q c=>?_,λ l j q c=>?_,λ l₁ j l₂ C X P E w=>?_,λ l₁ j l₂ C X P E w=>?_,λ l₁ j l₂ C X P E w=>?_,r.nolimit,λ l j q c=>?_⟩
 .obtain m|hm|S:=r.ns;exact cC m hm (λ x=>(S x).mono e)
 .rcases L q with⟨rfl,rfl⟩|⟨lt,q⟩
  .exact⟨cQ _,i⟩
  .have z:=r.obj _ _ q;exact⟨ly lt,z.2.yg e lt (λ _ _ x=>x) (λ _=>rfl) λ _=>rfl⟩
 .rcases L q with⟨rfl,rfl⟩|⟨lt,q⟩
  .rw[h];exact⟨hb,I⟩
  .rw[e.ad _ lt];exact r.new _ _ q c
 .rcases L q with⟨rfl,rfl⟩|⟨lt,q⟩
  .rw[hi]at c;cases c
  .rw[e.dd _ lt];exact r.ic _ _ q c
 .rcases L X with⟨rfl,rfl⟩|⟨g,k⟩<;>rcases L P with⟨rfl,rfl⟩|⟨f,b⟩
  .exact λ _=>rfl
  .rw[h,e.ad _ f];exact λ z=>absurd z.symm (un.ad _ _ b w)
  .rw[h,e.ad _ g];exact λ z=>absurd z (un.ad _ _ k E)
  .rw[e.ad _ g,e.ad _ f];exact r.inj _ _ _ _ k b E w
 .rcases L X with⟨rfl,rfl⟩|⟨g,k⟩<;>rcases L P with⟨rfl,rfl⟩|⟨f,b⟩
  .exact λ _=>rfl
  .rw[hi]at E;cases E
  .rw[hi]at w;cases w
  .rw[e.dd _ g,e.dd _ f];exact r.pW _ _ _ _ k b E w
 .rcases L X with⟨rfl,rfl⟩|⟨g,k⟩<;>rcases L P with⟨rfl,rfl⟩|⟨f,b⟩
  .rw[hi]at w;cases w
  .rw[h,e.dd _ f];exact λ z=>un.dd _ _ b w z.symm
  .rw[hi]at w;cases w
  .rw[e.ad _ g,e.dd _ f];exact r.ox _ _ _ _ k b E w
 .rcases L q with⟨rfl,rfl⟩|⟨lt,q⟩
  .rw[h];exact p
  .rw[e.ad _ lt];exact r.hi _ _ q c
structure lc(K:W.Frag)(d:J)(B:Bk)(A:dF)(y:Lay)(N:St)(s:aN)(env:dA)(kd:af->Option bM)(cs:List (af×Loc)):Prop where
 W:Ds K B
 g:Good A d
 r:R B y N s
 e:f0 B y N.n env kd cs
end
section
variable{B:Bk}{A:dF}{y y':Lay}{N st':St}{s s':aN}{d:J}{K:W.Frag}{env:dA}{kd:af->Option bM}{cs:List (af×Loc)}{cf:V->List V->M V}
theorem lc.next(S:lc K d B A y N s env kd cs)(e:Ext N.n y st'.n y')(r:R B y' st' s'):lc K d B A y' st' s' env kd cs:=⟨S.W,S.g,r,S.e.mono e⟩
theorem lc.side(S:lc K d B A y N s env kd cs):lc K d (B.side N y s.heap) A y N s env kd cs:=⟨⟨S.W.ou,S.W.gl⟩,S.g,S.r.side,S.e.to Y⟩
def Ev(K:W.Frag)(d:J)(cf:V->List V->M V)(e:aB):be:=
 ∀B A y N s env kd cs v st',lc K d B A y N s env kd cs->ap G cf cs (bU G.glob kd e) N=U (v,st')->dt B A y N s (eval e env) (vr v) st'
def Ts(K:W.Frag)(d:J)(cf:V->List V->M V)(e:aB):be:=
 ∀B A y N s env kd cs b st',lc K d B A y N s env kd cs->c7 G cf cs (bU G.glob kd e) (ap G cf cs (bU G.glob kd e)) N=U (b,st')->dt B A y N s (isTrue e env (eval e env)) (br b) st'
theorem eB{v:V}(h:ap G cf cs .bad N=U (v,st')):False:=by cases h
theorem mL{α:Type}{o:Option α}{f:α->T}(h:ap G cf cs (oT (o.map f)) N=U r):∃a,o=U a/\ap G cf cs (f a) N=U r:=by
 cases o with
 |none=>cases h
 |some a=>exact cC a Y h
theorem k6{c:bG}(h:ap G cf cs (if c=ai then t else .bad) N=U r):c=ai/\ap G cf cs t N=U r:=by
 cases c with
 |true=>exact⟨Y,h⟩
 |false=>cases h
theorem i7{c:bG}(h:ap G cf cs (if c=ai then .bad else t) N=U r):c=aj/\ap G cf cs t N=U r:=by
 cases c with
 |false=>exact⟨Y,h⟩
 |true=>cases h
inductive aal(kd:af->Option bM)(cs:List (af×Loc))(x:af)(N:St)(r:V×St):Prop
 |loc (h:kd x=U .local) (e:getL x N=U r)
 |cW (h:kd x=U .cell\/kd x=U .free) (c:(x==s!"__classdict__")=aj) (e:fK cs x N=U r)
 |jL (v:V) (h:kd x=U .globalImplicit) (g:G.glob x=U v) (e:r=(v,N))
theorem Aa(h:ap G cf cs (iN G.glob kd x) N=U r):aal kd cs x N r:=by
 unfold iN at h;cases C:kd x with
 |none=>rw[C]at h;cases h
 |some k=>
  rw[C]at h;cases k with
  |«local»=>exact .loc C h
  |cell=>exact .cW (.inl C) (i7 h).1 (i7 h).2
  |free=>exact .cW (.inr C) (i7 h).1 (i7 h).2
  |globalImplicit=>
   dsimp only at h;cases hg:G.glob x with
   |none=>rw[hg]at h;cases h
   |some v=>rw[hg]at h;exact .jL v C hg (dT h).symm
  |_=>cases h
set_option tactic.hygienic true in
theorem vX:Ev K d cf (.Name x pos):=by
 intro B A y N s env kd cs v st' S h;obtain hd|h:=i7 h;have go:dt B A y N s (ma env x) (vr v) st'->dt B A y N s (eval (.Name x pos) env) (vr v) st':=λ h E Q q=>A7 (h E Q q) hd
 cases Aa h with
 |loc C e=>exact go (yE S.r S.e C e)
 |cW C c e=>exact go (yf S.r S.e C (λ _=>c) e)
 |jL w C g e=>cases e;exact go (HX S.W S.r S.e C g)
theorem KX{c:Const}:Ev K d cf (.Constant c k pos):=by
 intro B A y N s env kd cs v st' S h;cases c with
 |none=>cases h;exact λ E Q q=>wpAny_Constant_none (q _ _ _ .refl S.r Y)
 |bool b=>cases h;exact λ E Q q=>wpAny_Constant_bool (q _ _ _ .refl S.r Y)
 |int i=>cases h;exact λ E Q q=>wpAny_Constant_int (q _ _ _ .refl S.r.tok ⟨_,Y⟩)
 |str x=>cases h;exact λ E Q q=>J9 (q _ _ _ .refl S.r.tok ⟨_,Y⟩)
 |_=>cases h
theorem nN(h:nO op=U o):op=F2 o:=by cases op<;>cases h<;>rfl
theorem x7(h:Hs op=U o):op=O9 o:=by cases op<;>cases h<;>rfl
set_option tactic.hygienic true in
theorem R3{l r:aB}{op:lW}{pos:bJ}(L:Ev K d cf l)(i:Ev K d cf r):Ev K d cf (.BinOp l op r pos):=by
 intro B A y N s env kd cs v st' S h;rw[Xs]at h;obtain o|f|k:=mL h;clear h;obtain rfl:=nN f;dsimp only[TR]at k;exists au k,a,H,h1,h;exists au h,b,st₂,h2,I;intro E Q q;refine wpAny_BinOp (L _ _ _ _ _ _ _ _ _ _ S h1 E _ λ p m D X j g=>?_);refine i _ _ _ _ _ _ _ _ _ _ (S.next X j) h2 E _ λ n b' z P C vb=>?_
 exact EI C (VR.mono g P) vb I E Q λ x c w t e vc=>q _ _ _ ((X.trans P).trans t) e vc
theorem Rw{x:aB}{pos:bJ}(g:Ev K d cf x):Ev K d cf (.UnaryOp .USub x pos):=by
 intro B A y N s env kd cs v st' S h;dsimp only[Zv,VS]at h;exists au h,a,H,h1,h;intro E Q q;refine wpAny_UnaryOp (g _ _ _ _ _ _ _ _ _ _ S h1 E _ λ p n r X j o=>?_);cases a with
 |int i=>exists bk h;rintro rfl rfl;obtain t|rfl:=o;exact P.neg_int (q _ _ _ X j.tok ⟨_,Y⟩)
 |_=>cases h
theorem GZ{c a b:aB}{pos:bJ}(hc:Ts K d cf c)(ha:Ev K d cf a)(hb:Ev K d cf b):Ev K d cf (.IfExp c a b pos):=by
 intro B A y N s env kd cs v st' S h;dsimp only[Yc,v_ite]at h;exists au h,t,H,h1,h;intro E Q q;refine wpAny_IfExp (hc _ _ _ _ _ _ _ _ _ _ S h1 E _ λ p t' r X j e=>?_);have i:=S.next X j;cases e;cases t with
 |true=>exact ha _ _ _ _ _ _ _ _ _ _ i h E Q λ L n z P C o=>q _ _ _ (X.trans P) C o
 |false=>exact hb _ _ _ _ _ _ _ _ _ _ i h E Q λ L n z P C o=>q _ _ _ (X.trans P) C o
theorem nF(h:gW r=ai):behindInMarks op r=aj:=by cases r<;>first|rfl|cases h
set_option tactic.hygienic true in
theorem Sa{l r:aB}{op:CmpOp}{pos:bJ}(L:Ev K d cf l)(g:Ev K d cf r):Ev K d cf (.Compare l [op] [r] pos):=by
 intro B A y N s env kd cs v st' S h;rw[O4]at h;obtain hn|h:=k6 h;obtain o|f|k:=mL h;clear h;obtain rfl:=x7 f;dsimp only[aaY]at k;exists au k,a,H,h1,h;exists au h,b,st₂,h2,h;exists au h,c,st₃,I,i;exists bk i;rintro rfl rfl;intro E Q q;refine wpAny_Compare1 (L _ _ _ _ _ _ _ _ _ _ S h1 E _ λ p m D X j va=>?_) (nF hn);refine g _ _ _ _ _ _ _ _ _ _ (S.next X j) h2 E _ λ n b' z P C vb=>?_
 exact yC C S.g (VR.mono va P) vb I E Q λ x c w t e vc=>q _ _ _ ((X.trans P).trans t) e vc
theorem eJ(h:kr o=ai):attributeBase o attr env whole=whole:=by
 cases o with
 |Call f as ks p=>cases f with
  |Name id r=>cases as with
   |nil=>cases ks with
    |nil=>exact if_pos (by rewrite[show(id !=s!"super")=ai from h];rfl)
    |cons=>rfl
   |cons=>rfl
  |_=>rfl
 |_=>rfl
theorem L1(T:Tab K){o:aB}{name:af}{pos:bJ}(f:Ev K d cf o):Ev K d cf (.Attribute o name pos):=by
 intro B A y N s env kd cs v st' S h;obtain hn|h:=k6 h;dsimp only[Rk]at h;exists au h,a,H,h1,h2;intro E Q q;rw[I0,eJ hn];refine aW (f _ _ _ _ _ _ _ _ _ _ S h1 E _ λ p n r X j g=>?_);refine aW (lH (aW (jJ ?_)));refine yn j S.W.ou T.cls g h2 E _ λ L i z P C b=>?_
 exact aW (uj (bn (q _ _ _ (X.trans P) C b)))
def Qf(K:W.Frag)(d:J)(cf:V->List V->M V)(es:List aB):be:=
 ∀B A y N s env kd cs vs st' pos,lc K d B A y N s env kd cs->cX G cf cs (eD G.glob kd es) N=U (vs,st')->
  dt B A y N s (spliced (iF pos (gh es env))) (λ n y c=>dh n y vs c) st'/\(iF pos (gh es env)).any (·.1)=aj
theorem iG{env:dA}(h:notStar e=ai):gh (e::r) env=(aj,eval e env)::gh r env:=by cases e<;>first|rfl|cases h
theorem se(h:notStar e=aj):bU G.glob kd e=.bad:=by
 cases e with
 |Starred=>rfl
 |_=>cases h
theorem L2:Qf K d cf []:=by intro B A y N s env kd cs vs st' pos S h;dsimp only[pO,uR]at h;exists bk h;rintro rfl rfl;exact⟨λ E Q q=>wpAny_items_nil (q _ _ _ .refl S.r trivial),Y⟩
theorem GN{e:aB}{r:List aB}(g:Ev K d cf e)(i:Qf K d cf r):Qf K d cf (e::r):=by
 intro B A y N s env kd cs vs st' pos S h;dsimp only[iC,kx]at h;exists au h,v,H,h1,h;refine au h ?_;intro c st₂ h2 I;exists bk I;rintro rfl rfl;cases hn:notStar e with
 |false=>rw[se hn]at h1;exact(eB h1).elim
 |true=>
  have hs:=iG (r:=r) (env:=env) hn;refine⟨λ E Q q=>wpAny_items_cons (g _ _ _ _ _ _ _ _ _ _ S h1 E _ λ p m D X j o=>?_) hs,?_⟩
  .exact(i _ _ _ _ _ _ _ _ _ _ pos (S.next X j) h2).1 E _ λ L k z P C f=>q _ _ _ (X.trans P) C ⟨o.mono P,f⟩
  .rw[hs];show(aj||(iF pos (gh r env)).any (·.1))=aj;have:∀(l:List aB)(N:St)(c:List V)(st':St),cX G cf cs (eD G.glob kd l) N=U (c,st')->(iF pos (gh l env)).any (·.1)=aj:=by
    intro l
    induction l with
    |nil=>intros;rfl
    |cons a l n=>
     intro N c st' h;dsimp only[iC,kx]at h;exists au h,w,H,b,h;exists au h,x,st₂,t,_;cases hm:notStar a with
     |false=>rw[se hm]at b;exact(eB b).elim
     |true=>rw[iG hm];show(aj||(iF pos (gh l env)).any (·.1))=aj;rw[n _ _ _ t];rfl
   rw[this _ _ _ _ h2];rfl
theorem LJ{es:List aB}{pos:bJ}(h:Qf K d cf es):Ev K d cf (.List es pos):=by
 intro B A y N s env kd cs v st' S l;dsimp only[Rb,S7]at l;exists au l,vs,H,h1,h2;split at h2
 .rename_i m;obtain rfl|rfl:=gK h2;intro E Q q;refine wpAny_List ((h _ _ _ _ _ _ _ _ _ _ pos S h1).1 E _ λ p c r X j o=>?_);have:=dh.length o;exact⟨by rw[eH];exact Fh this m,q _ _ _ (X.trans .put) (j.nC (xs:=vs) (vs:=c.toArray) (tk:=r.toks) o) eN⟩
 .cases h2
theorem Rq{es:List aB}{k:J}{pos:bJ}(h:Qf K d cf es):Ev K d cf (.Tuple es k pos):=by
 intro B A y N s env kd cs v st' S l;dsimp only[Ya,WD]at l;exists au l,vs,H,h1,h2;split at h2
 .rename_i m;obtain rfl|rfl:=gK h2;intro E Q q;refine wpAny_Tuple ((h _ _ _ _ _ _ _ _ _ _ pos S h1).1 E _ λ p c r X j o=>?_);have:=dh.length o;exact⟨by rw[eH];exact Fh this m,q _ _ _ (X.trans .put) (j.Nq (xs:=vs) (vs:=c.toArray) (tk:=r.toks) o) eN⟩
 .cases h2
theorem jA(r:R B y N s)(h:N.H l=U o)(c:(∃xs,o=⇑xs)\/(∃xs,o=.tup xs)\/∃es,o=.dict es):
 ∃T id,s.TypeIs ↥(y.ad l) T/\Aw (.type T) "__getitem__"=pure (U (.builtin id)):=by
 rcases c with⟨xs,rfl⟩|⟨xs,rfl⟩|⟨es,rfl⟩
 .obtain vs|k|L|_:=r.list h;exact qz ("list") _ ⟨_,L,Y⟩ slot_list_getitem.lookup
 .obtain vs|k|L|_:=r.tup h;exact qz ("tuple") _ ⟨_,L,Y⟩ F.slot_tuple_getitem.lookup
 .obtain _|_|_|w|f|hc:=r.dict h;exact qz ("dict") _ ⟨w,f,hc⟩ slot_dict_getitem.lookup
theorem dw{M:iQ}{T id:String}(c:s.TypeIs ↥(y.ad l) T)(L:Aw (.type T) "__getitem__"=pure (U (.builtin id)))(q:Q aj s):
 aZ M A (getitemInPython ↥(y.ad l)) Q E s:=by
 rw[getitemInPython_of_ne (by intro h;cases h)];exact aW (re c L (bn q))
noncomputable def nu(e:aB):bG:=!(me e.ctorIdx (Expr.Slice F F F default).ctorIdx)
theorem io(h:nu e=ai):subscripted e aj o i=operate [o,i] (lJ o i):=by cases e<;>first|rfl|cases h
theorem GH{o i v:V}(h:fD o i N=U (v,st')):∃l w,o=.ref l/\N.H l=U w/\((∃xs,w=⇑xs)\/(∃xs,w=.tup xs)\/∃es,w=.dict es):=by
 obtain _|l|w|rfl|h1|h2:=kZ h;refine pX l w Y h1 ?_;cases h2
 .exact .inl ⟨_,Y⟩
 .exact .inr (.inl ⟨_,Y⟩)
 .exact .inr (.inr ⟨_,Y⟩)
theorem Qq{o i:aB}{pos:bJ}(hn:nu i=ai)(f:Ev K d cf o)(hi:Ev K d cf i):Ev K d cf (.Subscript o i pos):=by
 intro B A y N s env kd cs v st' S h;have e:bU G.glob kd (.Subscript o i pos)=.sub (bU G.glob kd o) (bU G.glob kd i):=by
  cases i with
  |Slice=>cases hn
  |_=>rfl
 rw[e]at h;dsimp only[v_sub]at h;exists au h,a,H,h1,h;exists au h,b,st₂,h2,I;intro E Q q;rw[uY];refine aW (f _ _ _ _ _ _ _ _ _ _ S h1 E _ λ p D r X j va=>?_);have m:=S.next X j;refine aW (jJ (hi _ _ _ _ _ _ _ _ _ _ m h2 E _ λ n b' z P C vb=>?_));refine aW (lH ?_);obtain l|ob|rfl|c'|hc:=GH I;obtain T|id|hT|L:=jA C c' hc;obtain g|rfl:=VR.mono va P;refine aW (dw hT L ?_);rw[io hn];refine aW (wM ?_);refine xV C S.g (VR.mono va P) vb I E _ λ x c w t k vc=>?_
 exact aW (uj (bn (q _ _ _ ((X.trans P).trans t) k vc)))
def Xw(K:W.Frag)(d:J)(cf:V->List V->M V)(e:Option aB):be:=
 ∀B A y N s env kd cs v st',lc K d B A y N s env kd cs->jx G cf cs (Qi G.glob kd e) N=U (v,st')->dt B A y N s (evalPart e env) (λ n y D=>Ar n y v D) st'
theorem HL:Xw K d cf F:=by intro B A y N s env kd cs v st' S h;dsimp only[abP,aeP]at h;exists bk h;rintro rfl rfl;rw[AA];exact dt.pure S.r Y
theorem Fz{e:aB}(P:Ev K d cf e):Xw K d cf (U e):=by intro B A y N s env kd cs v st' S h;dsimp only[acv,afj]at h;exists au h,w,H,h1,h2;exists bk h2;rintro rfl rfl;rw[evalPart_some];exact P _ _ _ _ _ _ _ _ _ _ S h1
theorem Ar.mono{n n':J}{y y':Lay}{v:Option V}{D:al}(h:Ar n y v D)(e:Ext n y n' y'):Ar n' y' v D:=by
 cases v with
 |none=>exact h
 |some w=>exact VR.mono h e
theorem z0{o v:V}{a b:Option V}(h:oV o a b N=U (v,st')):∃l xs,o=.ref l/\N.H l=U ⇑xs:=by
 cases o with
 |ref l=>obtain w|p|h1|h2|_:=kJ h;obtain xs|_|_|rfl|_:=xU h2;exact qz l xs Y h1
 |_=>exact aw h
theorem Ii{o:aB}{lo hi:Option aB}{p pos:bJ}(f:Ev K d cf o)(k':Xw K d cf lo)(m':Xw K d cf hi):Ev K d cf (.Subscript o (.Slice lo hi F p) pos):=by
 intro B A y N s env kd cs v st' S h;dsimp only[LD,M3]at h;exists au h,a,H,h1,h;exists au h,b,st₂,h2,h;exists au h,c,st₃,I,D;intro E Q q;rw[uY];refine aW (f _ _ _ _ _ _ _ _ _ _ S h1 E _ λ i a' r X j va=>?_);have e':=S.next X j;refine aW (jJ (wpAny_Slice (k' _ _ _ _ _ _ _ _ _ _ e' h2 E _ λ n b' t P C vb=>?_)));have h':=e'.next P C;refine m' _ _ _ _ _ _ _ _ _ _ h' I E _ λ f' c' m g k vc=>?_
 rw[AA];refine bn ?_;refine aW (lH ?_);obtain l|xs|rfl|j':=z0 D;have l':=(VR.mono va P).mono g;have x:R B f' st₃ {m with heap:=m.heap.push {cls:=.type "slice",data:=.fields #[b',c',.none]},toks:=m.toks}:=k.grow λ _ _ e=>Heap.get?_push_of_some _ e
 obtain T|id|hT|L:=jA x j' (.inl ⟨_,Y⟩);have z:=l';obtain _|rfl:=l';refine aW (dw hT L ?_);refine aW (wM ?_);refine EV x z (vb.mono g) vc (Heap.IsSliceOf.new ..) D E _ λ i' w g' d' x vw=>?_
 exact aW (uj (bn (q _ _ _ (((X.trans P).trans g).trans d') x vw)))
theorem wv{M:iQ}{L:List (bG×Sem al)}(a:L.any (·.1)=aj)(h:aZ M A (spliced L) (λ vs s'=>Q ⟨vs,[]⟩ s') E s):aZ M A (evalArgs f ai L []) Q E s:=by
 cases L with
 |nil=>unfold evalArgs;show aZ M A (spliced []>>=_) Q E s;refine aW (zt h (λ vs s' h'=>?_) λ _ _ x=>x);refine jJ ?_;exact aW (bn (aW (bn (bn h'))))
 |cons p r=>
  obtain b|x:=p;cases b with
  |true=>simp at a
  |false=>exact Calls.evalArgs_plain h
theorem nf{M:iQ}{L:List (bG×Sem al)}(a:L.any (·.1)=aj)
 (h:aZ M A (spliced L) (λ vs r=>Kept M r.heap f/\aZ M A (call f (first++vs)) Q E r) E s):aZ M A (callWith pos f first L []) Q E s:=
 PySem.W.callWith_of (P:=λ h=>Kept M h f) (by rw[a];rfl) (λ _ k=>k) (wv a h)
theorem EN{v:V}(h:AB v o=U o'):∃xs,o=.list xs/\xs.length<=1000/\o'=.list (xs++[v]):=by
 cases o with
 |list xs=>exists bY h,h1,h2;cases h2;exact gc xs Y h1 Y
 |_=>exact aw h
theorem Fc{o:O}{p:V×O}(h:Au o=U p):∃xs,o=.list xs/\xs.length<=1000/\xs.getLast?=U p.1/\p.2=.list xs.dropLast:=by
 cases o with
 |list xs=>exists bY h,h1,h2;exists aM h2,v,I,D;cases D;exact JI xs Y h1 I Y
 |_=>exact aw h
theorem DX{p:V×O}(h:zV o=U p):∃xs,o=.list (p.1::xs)/\xs.length<=1000/\p.2=.list xs:=by
 cases o with
 |list xs=>cases xs with
  |cons v r=>exists bY h,h1,h2;cases h2;exact gc r Y h1 Y
  |nil=>exact aw h
 |_=>exact aw h
theorem DV{x:af}{o:O}{p:V×O}(h:zU x o=U p):∃es,o=.dict es/\es.all (λ e=>(aJ.str x).fC e.1)=ai/\es.length<=1000/\atK es (.str x)=U p.1/\p.2=.dict (xH (.str x) es):=by
 cases o with
 |dict es=>exists bY h,h1,h2;exists aM h2,v,I,D;cases D;exact YH es Y h1.1 h1.2 I Y
 |_=>exact aw h
theorem yu(h:wT x o=U I):∃es,o=.dict es/\es.all (λ e=>(aJ.int x).fC e.1)=ai/\atK es (.int x)=F:=by
 cases o with
 |dict es=>exists bY h,h1,_;exact gc es Y h1.1 (zy.mp h1.2)
 |_=>exact aw h
theorem Gq(r:R B y N s){v:V}(has:dh N.n y as q)(h:lh l as N=U (v,st')):dt B A y N s (call (.builtin "list.pop") (↥(y.ad l)::q)) (vr v) st':=
 by
 cases as with
 |nil=>obtain rfl:=has.nil_inv;obtain o|p|h1|h2|rfl|rfl:=sq h;obtain xs|rfl|m|g|e:=Fc h2;rw[e];exact MA r h1 m g
 |cons a as=>
 cases as with
 |cons b as=>exact aw h
 |nil=>exists l8 h;rintro rfl k;obtain n|rfl|t|rfl:=has.one;obtain o|p|h1|h2|rfl|rfl:=sq k;obtain xs|rfl|m|e:=DX h2;rw[e];exact Ju r h1 m
theorem Jd(r:R B y N s){l:Loc}{as:List V}{q:List al}{v:V}(has:dh N.n y as q)(h:kA l as N=U (v,st')):dt B A y N s (call (.builtin "dict.pop") (↥(y.ad l)::q)) (vr v) st':=
 by
 cases as with
 |nil=>exact aw h
 |cons a as=>
 cases as with
 |nil=>
  cases a with
  |str x=>obtain n|rfl|t|rfl:=has.one;obtain o|p|h1|h2|rfl|rfl:=sq h;obtain es|rfl|L|i|g|e:=DV h2;rw[e];exact zF r h1 L i g
  |_=>exact aw h
 |cons b as=>
 cases as with
 |cons c as=>exact aw h
 |nil=>
  cases a with
  |int x=>obtain n|H|rfl|⟨t,rfl⟩|hb:=has.two;exists aM h,I,h1,k;cases k;exists aM h1,o,h2,m;obtain es|rfl|L|g:=yu m;exact vO r h2 L g hb
  |_=>exact aw h
theorem DL(W:Ds K B)(g:Good A d)(I:dN K d cf)(r:R B y N s){p:al×List al}{v:V}(hm:GY N.n y m p)(has:dh N.n y as q)(h:lE cf m as N=U (v,st')):
 Kept (bB B.prog B.w) s.heap p.1/\dt B A y N s (call p.1 (p.2++q)) (vr v) st':=by
 cases m with
 |fn f fs=>exact I _ _ _ _ _ _ _ _ _ _ _ W g r hm.1 (hm.2.append has) h
 |append l=>obtain _|rfl:=hm;obtain a|rfl|k:=jq h;obtain n|rfl|ha:=has.one;obtain o|o'|h1|h2|rfl|rfl:=x9 k;obtain xs|rfl|i|rfl:=EN h2;exact⟨gz,zl r h1 i ha⟩
 |lh l=>obtain _|rfl:=hm;exact⟨gz,Gq r has h⟩
 |kA l=>obtain _|rfl:=hm;exact⟨gz,Jd r has h⟩
theorem N4(T:Tab K)(a:dN K d cf){x:af}{p pos:bJ}{args:List aB}(ha:Qf K d cf args):Ev K d cf (.Call (.Name x p) args [] pos):=by
 intro B A y N s env kd cs v st' S h;rw[RU]at h;obtain hd|k:=i7 h;dsimp only[SD]at k;exists au k,f,H,h1,h;exists au h,as,st₂,h2,I;intro E Q q;rw[arm_eval_Call_Name'];have b':ap G cf cs (bU G.glob kd (.Name x p)) N=U (f,H):=by rw[Q8,hd];exact h1
 refine aW (vX _ _ _ _ _ _ _ _ _ _ S b' E _ λ l f' r X j g=>?_);have i:=S.next X j;obtain sim|pl:=ha _ _ _ _ _ _ _ _ _ _ pos i h2;refine nf pl (sim E _ λ L e z P C a'=>?_);obtain b|D:=Ew T S.W S.g C a' a (VR.mono g P) I;exact⟨b,D E Q λ o w m t c n=>q _ _ _ ((X.trans P).trans t) c n⟩
theorem Km(T:Tab K)(CO:dN K d cf){o:aB}{name:af}{apos pos:bJ}{args:List aB}(ho:Ev K d cf o)(ha:Qf K d cf args):Ev K d cf (.Call (.Attribute o name apos) args [] pos):=by
 intro B A y N s env kd cs v st' S h;rw[NU]at h;obtain hc|k:=k6 h;obtain hc|l':=dL.mp hc;obtain m'|h':=dL.mp hc;have l':=of_decide_eq_true l';dsimp only[NZ]at k;exists au k,w,H,h1,h;exists au h,m,st₂,h2,h;refine au h ?_;intro as st₃ I D;intro E Q q;rw[arm_eval_Call,eJ h'];refine aW (ho _ _ _ _ _ _ _ _ _ _ S h1 E _ λ i w' r X j vw=>?_);have c':=S.next X j;refine aW (lH ?_);unfold methodCall;have g:∀k',(iF pos (gh args k')).any (·.1)=aj:=by
  intro k';have:∀(l:List aB)(N:St)(us:List V)(st':St),cX G cf cs (eD G.glob kd l) N=U (us,st')->(iF pos (gh l k')).any (·.1)=aj:=by
   intro l
   induction l with
   |nil=>intros;rfl
   |cons a l n=>
    intro N us st' h;dsimp only[iC,kx]at h;exists au h,w,H,k1,h;exists au h,ws,st₂,k2,_;cases hm:notStar a with
    |false=>rw[se hm]at k1;exact(eB k1).elim
    |true=>rw[iG hm];show(aj||(iF pos (gh l k')).any (·.1))=aj;rw[n _ _ _ k2];rfl
  exact this _ _ _ _ I
 have n':methodCallForm (args.length+([]:List Keyword).length) (iF pos (gh args env)) (backToKw pos (keywordEach [] env))=ai:=by
  unfold methodCallForm;have:(iF pos (gh args env)).all (λ x=>!x.1)=ai:=by have:=g env;rw[dE];rw[List.any_eq_false]at this;intro p hp;have:=this p hp;simpa using this
  rw[this];show(ai&&ai&&decide (args.length+0+0<30))=ai;simp only[Bool.true_and,decide_eq_true_eq];exact aer l'
 rw[n'];show aZ _ _ (lV [w'] (calleeOf ai o env w' name)>>=_) _ _ _;refine aW (jJ ?_);show aZ _ _ (getMethod w' name _) _ _ _;refine GF T S.W j vw h2 E _ λ L p z P C vp=>?_
 obtain f|first:=p;have f':=c'.next P C;have i':Ai ai o env apos pos=pure pos:=by unfold Ai;rw[m'];rfl
 show aZ _ _ (Ai ai o env apos pos>>=_) _ _ _;rw[i'];refine aW (bn ?_);obtain sim|pl:=ha _ _ _ _ _ _ _ _ _ _ pos f' I;refine nf pl (sim E _ λ d' us a' t c j'=>?_);have o':GY st₃.n d' m (f,first):=by
  cases m with
  |fn a b=>exact⟨VR.mono vp.1 t,dh.mono vp.2 t⟩
  |append l=>exact⟨cv vp.1 t.le,by rw[t.ad _ vp.1];exact vp.2⟩
  |lh l=>exact⟨cv vp.1 t.le,by rw[t.ad _ vp.1];exact vp.2⟩
  |kA l=>exact⟨cv vp.1 t.le,by rw[t.ad _ vp.1];exact vp.2⟩
 obtain k1|k2:=DL S.W S.g CO c o' j' D;exact⟨k1,k2 E Q λ g' w e' e b' vw=>q _ _ _ (((X.trans P).trans t).trans e) b' vw⟩
theorem Qk{x:aB}{pos:bJ}(g:Ts K d cf x):Ts K d cf (.UnaryOp .Not x pos):=by intro B A y N s env kd cs b st' S h;dsimp only[ZO,Za]at h;exists au h,a,H,h1,h2;exists bk h2;rintro rfl rfl;exact λ E Q q=>wpAny_isTrue_Not (g _ _ _ _ _ _ _ _ _ _ S h1 E _ λ p n r X j o=>q _ _ _ X j (by rw[show n=a from o];rfl))
def HN(K:W.Frag)(d:J)(cf:V->List V->M V)(es:List aB):be:=
 ∀B A y N s env kd cs b st',lc K d B A y N s env kd cs->ej G cf cs (eD G.glob kd es) N=U (b,st')->dt B A y N s (allTrue .And es env) (br b) st'
def HD(K:W.Frag)(d:J)(cf:V->List V->M V)(es:List aB):be:=
 ∀B A y N s env kd cs b st',lc K d B A y N s env kd cs->pg G cf cs (eD G.glob kd es) N=U (b,st')->dt B A y N s (allTrue .Or es env) (br b) st'
theorem HZ:HN K d cf []:=by intro B A y N s env kd cs b st' S h;dsimp only[pO,PN]at h;exists bk h;rintro rfl rfl;exact λ E Q q=>wpAny_allTrue_And_nil (q _ _ _ .refl S.r Y)
theorem DP{e:aB}{r:List aB}(g:Ts K d cf e)(i:HN K d cf r):HN K d cf (e::r):=by
 intro B A y N s env kd cs b st' S h;dsimp only[iC,JR]at h;exists au h,a,H,h1,h2;intro E Q q;refine wpAny_allTrue_And_cons (g _ _ _ _ _ _ _ _ _ _ S h1 E _ λ p n D X j o=>?_);cases o;cases a with
 |true=>exact i _ _ _ _ _ _ _ _ _ _ (S.next X j) h2 E Q λ L c z P C f=>q _ _ _ (X.trans P) C f
 |false=>exists bk h2;rintro rfl rfl;exact q _ _ _ X j Y
theorem K7:HD K d cf []:=by intro B A y N s env kd cs b st' S h;dsimp only[pO,QA]at h;exists bk h;rintro rfl rfl;exact λ E Q q=>wpAny_allTrue_Or_nil (q _ _ _ .refl S.r Y)
theorem Fa{e:aB}{r:List aB}(g:Ts K d cf e)(i:HD K d cf r):HD K d cf (e::r):=by
 intro B A y N s env kd cs b st' S h;dsimp only[iC,Nt]at h;exists au h,a,H,h1,h2;intro E Q q;refine wpAny_allTrue_Or_cons (g _ _ _ _ _ _ _ _ _ _ S h1 E _ λ p n D X j o=>?_);cases o;cases a with
 |false=>exact i _ _ _ _ _ _ _ _ _ _ (S.next X j) h2 E Q λ L c z P C f=>q _ _ _ (X.trans P) C f
 |true=>exists bk h2;rintro rfl rfl;exact q _ _ _ X j Y
theorem SW(h:HN K d cf es):Ts K d cf (.BoolOp .And es pos):=by intro B A y N s env kd cs b st' S l;exact λ E Q q=>Lg (h _ _ _ _ _ _ _ _ _ _ S l E Q q)
theorem TM(h:HD K d cf es):Ts K d cf (.BoolOp .Or es pos):=by intro B A y N s env kd cs b st' S l;exact λ E Q q=>Lg (h _ _ _ _ _ _ _ _ _ _ S l E Q q)
theorem oB(c:∀N v st',w N=U (v,st')->False){b:bG}(h:c7 G cf cs .bad w N=U (b,st')):False:=by obtain a|H|h1|h2:=bH (show aI w truth N=_ from h);exact c _ _ _ h1
theorem Kb{α:Type}{o:Option α}{f:α->T}(h:c7 G cf cs (oT (o.map f)) (ap G cf cs (oT (o.map f))) N=U r):∃a,o=U a/\c7 G cf cs (f a) (ap G cf cs (f a)) N=U r:=by
 cases o with
 |none=>exact(oB (λ _ _ _=>eB) (st':=r.2) (b:=r.1) h).elim
 |some a=>exact cC a Y h
theorem GK{c:bG}(h:c7 G cf cs (if c=ai then t else .bad) (ap G cf cs (if c=ai then t else .bad)) N=U r):c=ai/\c7 G cf cs t (ap G cf cs t) N=U r:=by
 cases c with
 |true=>exact⟨Y,h⟩
 |false=>exact(oB (λ _ _ _=>eB) (st':=r.2) (b:=r.1) h).elim
set_option tactic.hygienic true in
theorem So{l r:aB}{op:CmpOp}{pos:bJ}(L:Ev K d cf l)(i:Ev K d cf r):Ts K d cf (.Compare l [op] [r] pos):=by
 intro B A y N s env kd cs v st' S h;rw[O4]at h;obtain hn|h:=GK h;obtain o|f|k:=Kb h;clear h;obtain rfl:=x7 f;dsimp only[Zt]at k;exists au k,a,H,h1,h;exists au h,b,st₂,h2,I;intro E Q q;refine wpAny_isTrue_Compare1 (L _ _ _ _ _ _ _ _ _ _ S h1 E _ λ p m D X j g=>?_) (nF hn);refine i _ _ _ _ _ _ _ _ _ _ (S.next X j) h2 E _ λ n b' z P C vb=>?_
 refine yC C S.g (VR.mono g P) vb I E _ λ x c w t e vc=>?_
 cases vc;exact Be (q _ _ _ ((X.trans P).trans t) e rfl)
theorem I4{e:aB}(g:∀env whole,isTrue e env whole=(do let v<-whole;standAt e.pos;lV [v] (truthy v)))
 (ht:∀(kd:af->Option bM)(cs:List (af×Loc))(w:M V),c7 G cf cs (bU G.glob kd e) w=aI w truth)(h:Ev K d cf e):Ts K d cf e:=by
 intro B A y N s env kd cs b st' S l;rw[ht]at l;exists au l,a,H,h1,h2;intro E Q q;refine wpAny_isTrue_value (h _ _ _ _ _ _ _ _ _ _ S h1 E _ λ p n r X j o=>?_) (g _ _);exact Es j o h2 E Q λ L c z P C f=>q _ _ _ (X.trans P) C f
theorem Om(h:∀kd,bU G.glob kd e=.bad):Ts K d cf e:=by intro B A y N s env kd cs b st' S l;rw[h]at l;exact(oB (λ _ _ _=>eB) l).elim
theorem Oe(h:∀kd,bU G.glob kd e=.bad):Ev K d cf e:=by intro B A y N s env kd cs b st' S l;rw[h]at l;exact(eB l).elim
def og(n:J)(y:Lay):List af->List V->List (al×al)->be
 |[],[],[]=>True
 |k::ks,v::vs,(g,D)::ps=>(∃t,g=.str k t)/\VR n y v D/\og n y ks vs ps
 |_,_,_=>False
theorem yN:∀{ks:List (Option aB)}{a:List V}{N st':St},cX G cf cs (Bn G.glob kd ks) N=U (a,st')->st'=N/\∃b:List af,a=b.map V.str/\ks.length=b.length/\∀(i:J)(x:Option aB),ks[i]?=U x->∃z k p,b[i]?=U z/\x=U (zG (.str z) k p)
 |[],a,N,st',h=>by dsimp only[Sy,uR]at h;exists bk h;rintro rfl rfl;exact⟨Y,gc [] Y Y (λ i x e=>by simp at e)⟩
 |k::r,a,N,st',h=>by
  dsimp only[Mj,kx]at h;exists au h,v,H,h1,h;exists au h,c,st₂,h2,I;exists bk I;rintro rfl rfl;cases k with
  |none=>cases h1
  |some k=>
  cases m:strOf k with
  |none=>rw[show trK G.glob kd (U k)=.bad from by show(match strOf k with|some s=>_|none=>_)=_;rw[m]]at h1;exact(eB h1).elim
  |some z=>
   obtain o|f|rfl:=zz m;exists bk h1;rintro rfl rfl;obtain rfl|b|rfl|L|hi:=yN h2;refine⟨Y,gc (z::b) Y (by rw[eF,eF,L]) (λ i x e=>?_)⟩;cases i with
   |zero=>simp at e;subst e;exact adN z o f Y Y
   |succ i=>exact hi i x (by simpa using e)
theorem xE(b:List af):strKeys (b.map V.str)=U (b.map aJ.str):=by
 unfold strKeys;have:strsOf (b.map V.str)=U b:=by
  induction b with
  |nil=>rfl
  |cons a l X=>show((strsOf (l.map V.str)).bind λ xs=>U (a::xs))=_;rw[X];rfl
 rw[this];rfl
theorem EK{y:Lay}{b:List af}{ps:List (al×al)}(a:og n y b vs ps)(h:KV n y aJ.str acc kvs):
 KV n y aJ.str (bv acc ((b.map aJ.str).zip vs)) (merged kvs (b.zip (ps.map (·.2)))):=by
 induction b generalizing vs ps acc kvs with
 |nil=>cases vs with
  |nil=>cases ps with
   |nil=>exact h
   |cons=>exact a.elim
  |cons=>exact a.elim
 |cons k ks X=>cases vs with
  |nil=>exact a.elim
  |cons v vs=>cases ps with
   |nil=>exact a.elim
   |cons p ps=>exact X (acc:=fO (.str k) v acc) (kvs:=stored kvs k p.2) a.2.2 (h.set str_inj a.2.1)
theorem og.Mh{y:Lay}{b:List af}{ps:List (al×al)}(a:og n y b vs ps):Carries (cy B.prog B.w) ps (b.zip (ps.map (·.2))):=by
 induction b generalizing vs ps with
 |nil=>cases vs with
  |nil=>cases ps with
   |nil=>exact trivial
   |cons=>exact a.elim
  |cons=>exact a.elim
 |cons k ks X=>cases vs with
  |nil=>exact a.elim
  |cons v vs=>cases ps with
   |nil=>exact a.elim
   |cons p ps=>obtain g|D:=p;obtain⟨t,e⟩|_|I:=a;cases e;exact⟨by simp[cy,jK],Y,X I⟩
def uZ(K:W.Frag)(d:J)(cf:V->List V->M V):List aB->be
 |[]=>True
 |e::r=>Ev K d cf e/\uZ K d cf r
theorem uB:∀{ks:List (Option aB)}{vs:List aB}{m:List af}{b:List V}{pos:bJ}{y:Lay}{N st':St}{s:aN},uZ K d cf vs->lc K d B A y N s env kd cs->
 ks.length=m.length->(∀(i:J)(x:Option aB),ks[i]?=U x->∃z k p,m[i]?=U z/\x=U (zG (.str z) k p))->cX G cf cs (eD G.glob kd vs) N=U (b,st')->m.length=b.length->
 dt B A y N s (evalPairs (pairTrees ks vs env pos)) (λ n y ps=>og n y m b ps) st'
 |[],vs,m,b,pos,y,N,st',s,a,S,L,C,h,w=>by
  cases m with
  |cons=>cases L
  |nil=>
   cases b with
   |cons=>cases w
   |nil=>
    cases vs with
    |nil=>dsimp only[pO,uR]at h;exists bk h;rintro _ rfl;exact λ E Q q=>pairTrees_nil_walk (q _ _ _ .refl S.r trivial)
    |cons e r=>dsimp only[iC,kx]at h;exists au h,v,H,h1,h;exists au h,us,st₂,h2,I;exists bk I,e,_;cases e
 |k::ks,vs,m,b,pos,y,N,st',s,a,S,L,C,h,w=>by
  cases m with
  |nil=>cases L
  |cons z m=>
   obtain z'|kk|pp|f|rfl:=C 0 k Y;simp only[A1,AC]at f;subst f;cases vs with
   |nil=>dsimp only[pO,uR]at h;exists bk h;rintro rfl _;cases w
   |cons e r=>
    dsimp only[iC,kx]at h;exists au h,v,H,h1,h;exists au h,us,st₂,h2,I;exists bk I;rintro rfl rfl;intro E Q q;refine pairTrees_cons_walk (J9 ?_);have a':lc K d B A y N {s with toks:=s.toks+1} env kd cs:=⟨S.W,S.g,S.r.tok,S.e⟩;refine a.1 _ _ _ _ _ _ _ _ _ _ a' h1 E _ λ l v' D X j o=>?_
    refine uB a.2 (a'.next X j) (by simpa using L) (λ i x e=>C (i+1) x (by simpa using e)) h2 (by simpa using w) E _ λ g ps t P c vp=>?_
    exact q _ _ _ (X.trans P) c ⟨⟨_,Y⟩,VR.mono o P,vp⟩
theorem ML{ks:List (Option aB)}{vs:List aB}{pos:bJ}(t:uZ K d cf vs):Ev K d cf (.Dict ks vs pos):=by
 intro B A y N s env kd cs v st' S h;dsimp only[Q4,Sx]at h;exists au h,a,H,h1,h;refine au h ?_;intro b st₂ h2 I;obtain rfl|ss|rfl|L|C:=yN h1;rw[xE]at I;dsimp only at I;split at I
 .rename_i m;obtain rfl|rfl:=gK I;rw[bS]at m;intro E Q q;cases ks with
  |nil=>
   cases ss with
   |cons=>cases L
   |nil=>
    have hb:b=[]:=FF.mp m.1.symm;subst hb;cases vs with
    |cons e r=>dsimp only[iC,kx]at h2;refine au h2 ?_;intro v H h1 h;exists au h,us,st₂,h2,I;exists bk I,e,_;cases e
    |nil=>dsimp only[pO,uR]at h2;exists bk h2;rintro _ rfl;have an:=S.r.cR (h₁:=s.heap) (λ _ _ e=>e) (aS _);rw[eval_Dict_empty];refine aW (lH (wpAny_newObj_type (q _ _ _ .put (S.r.alloc (tk:=s.toks) (o:=.dict []) (a:=s.heap.objs.size) (d:=s.heap.objs.size) Y (λ _ _ e=>Heap.get?_push_of_some _ e) an.1 an.2.1 an.2.2 (λ c=>nomatch c) ?_) eN)));show hJ _ _ _ _ _ ((y.put _ _ _).ad _) _;rw[show(y.put st₂.n s.heap.objs.size s.heap.objs.size).ad st₂.n=s.heap.objs.size from aa ..];exact hJ.empty (knd:=cy B.prog B.w) (Heap.DictOf.new s.heap)
  |cons k ks=>
   have b':(k::ks).all (·.isSome)=ai:=by rw[dE];intro x g;obtain i|hi:=List.getElem?_of_mem g;obtain z|kk|pp|_|rfl:=C i x hi;rfl
   have f':∀(l:List aB)(N:St)(us:List V)(st':St),cX G cf cs (eD G.glob kd l) N=U (us,st')->l.length=us.length:=by
    intro l
    induction l with
    |nil=>intro N us st' h;dsimp only[pO,uR]at h;exists bk h;rintro rfl _;rfl
    |cons a l n=>intro N us st' h;dsimp only[iC,kx]at h;exists au h,w,H,k1,h;exists au h,ws,st₂,k2,I;exists bk I;rintro rfl _;rw[eF,eF,n _ _ _ k2]
   refine wpAny_Dict_walk (knd:=cy B.prog B.w) b' (by rw[L,f' _ _ _ _ h2];exact m.1) (by intro h;cases h) (by rw[L];exact m.2) ?_;have an:=S.r.cR (h₁:=s.heap) (λ _ _ e=>e) (aS _);have a':R B y H {s with heap:=s.heap.push {cls:=.type "dict",data:=.dict #[]},toks:=s.toks}:=S.r.grow λ _ _ e=>Heap.get?_push_of_some _ e
   have d':lc K d B A y H {s with heap:=s.heap.push {cls:=.type "dict",data:=.dict #[]},toks:=s.toks} env kd cs:=⟨S.W,S.g,a',S.e⟩
   have hD:(s.heap.push {cls:=.type "dict",data:=.dict #[]}).get? s.heap.objs.size=U {cls:=.type "dict",data:=.dict #[]}:=Heap.get?_push_size _ Y
   have un:gb H y s.heap.objs.size:=S.r.fresh an.1;refine uB t d'.side L C h2 m.1 E _ λ p ps D X j vp=>?_
   have g':=a'.kg j;have e':=a'.sh j hD an.2.1 un;have c':=a'.lK j hD an.2.1 un;have i':D.heap.DictOf (cy B.prog B.w) s.heap.objs.size []:=⟨_,#[],0,e',⟨Y,Y,Y⟩,Y,λ e P=>by simp at P,.nil,.nil⟩
   refine gc _ (og.Mh vp) i' (λ h' hm hs=>?_);have hb:B.aO.get? s.heap.objs.size=F:=by
    cases z:B.aO.get? s.heap.objs.size with
    |none=>rfl
    |some x=>have:=S.r.bg _ _ z;rw[an.1]at this;cases this
   have f:R B p st₂ {D with heap:=h',toks:=D.toks+ps.length}:=g'.other hs e' (dC Y aL) hb an.2.1 c'.ad c'.dd;refine q _ _ _ (X.trans .put) (f.adopt (o:=.dict (bv [] ((ss.map aJ.str).zip b))) Y Y c' hb an.2.1 an.2.2 ?_) eN;show hJ _ _ _ _ _ ((p.put _ _ _).ad _) _;rw[show(p.put st₂.n s.heap.objs.size s.heap.objs.size).ad st₂.n=s.heap.objs.size from aa ..];exact hJ.ofStr hm ((EK vp (acc:=[]) (kvs:=[]) trivial).mono .put)
 .cases I
theorem R.Bf(r:R B y N s){a:ao}{h':Heap}{tk:Tok}(C:∀b o,b≠a->s.heap.get? b=U o->h'.get? b=U o){L:b8}(v:s.heap.get? a=U L)(nt:NT L)(hb:B.aO.get? a=F)(I:a≠B.L)
 (un:gb N y a):R B y N {s with heap:=h',toks:=tk}:=by
 have hg:∀{b:ao}{o:b8},b≠a->s.heap.get? b=U o->h'.get? b=s.heap.get? b:=λ n e=>(C _ _ n e).trans e.symm
 refine⟨r.gens,r.os,r.root,λ b x e=>C b x ?_ (r.bg b x e),r.low,?_,λ l o e=>?_,r.new,r.ic,r.inj,r.pW,r.ox,r.nolimit,r.hi⟩
 .rintro rfl;rw[hb]at e;cases e
 .obtain m|⟨P,es,ep,h,q⟩|S:=r.ns;exact cC m ⟨P,es,ep,C _ _ (gP I) h,q⟩ S
 .have z:=r.obj l o e;refine⟨z.1,z.2.yg .refl z.1 (λ k x g=>?_) (λ c=>?_) λ c=>?_⟩
  .obtain o'|t|b|n|j|hc|p|f|items|i|E|D|H|hi:=g;refine⟨o',t,b,n,C _ _ ?_ j,hc,p,f,items,i,C _ _ ?_ E,D,H,hi⟩
   .rintro rfl;rw[j]at v;cases v;exact nt.elim (λ q=>q hc) λ q=>q _ _ p
   .rintro rfl;rw[E]at v;cases v;exact nt.elim (λ q=>q D) λ q=>q _ _ H
  .obtain x|g:=r.live e c;exact hg (un.ad _ _ e c) g
  .obtain x|g:=r.Iz e c;exact hg (un.dd _ _ e c) g
def CY(y:Lay)(h:Heap)(I:ao):It->J->be
 |.list l _,i=>h.IsListIter I (y.ad l) i
 |.range n,i=>z9 h I i ((n:Int) -i) 1
theorem CY.obj{h:Heap}(x:CY y h I it i):∃o,h.get? I=U o/\NT o:=by
 cases it with
 |list l xs=>obtain o|f|hc|hd:=x;exact cC o f (dC hc aL)
 |range n=>exact cC _ x (dC Y aL)
def Do(n:J):It->be
 |.list l _=>l<n
 |.range _=>True
theorem CY.mono{h:Heap}{I:ao}{it:It}{i n n':J}(x:CY y h I it i)(e:Ext n y n' y')(f:Do n it):CY y' h I it i:=by
 cases it with
 |list l xs=>show h.IsListIter I (y'.ad l) i;rw[e.ad l f];exact x
 |range n=>exact x
theorem CY.at{h h':Heap}{I:ao}{it:It}{i:J}(x:CY y h I it i)(e:∀o,h.get? I=U o->h'.get? I=U o):CY y h' I it i:=by
 cases it with
 |list l xs=>exact Heap.IsListIter.at (h:=h) x e
 |range n=>exact e _ x
theorem E9(r:R B y N s){v:V}(z:VR N.n y v D)(h:dG v N=U (it,st'))
 (q:st'=N->Do N.n it->∀h',CY y h' s.heap.objs.size it 0->(∀b o,s.heap.get? b=U o->h'.get? b=U o)->Q ↥s.heap.objs.size {s with heap:=h'}):aZ (bB B.prog B.w) A (mx D) Q E s:=by
 cases v with
 |ref l=>
  obtain p|rfl:=z;obtain o|h1|h2|rfl:=fV h;cases o with
  |list xs=>cases h2;obtain vs|k|L|c:=r.list h1;exact wpAny_pyIter_list (isList L) (q Y p _ ⟨_,Heap.get?_push_size _ Y,Y,Y⟩ λ b o e=>Heap.get?_push_of_some _ e)
  |range n=>
   exists bY h2,hn,h2;cases h2;obtain t|I|v|i:=(r.obj _ _ h1).2;refine wpAny_pyIter_range i (small_one adq (aeg) (acf) ((acN hn))) (q Y trivial _ ?_ λ b o e=>Heap.get?_push_of_some _ e);have e:K5 0 (n:Int) 1=(n:Int):=by
    unfold K5;rw[if_pos aL];split
    .rw[Int.ediv_one];exact aed
    .omega
   rw[e];show z9 _ _ ((0:J):Int) _ 1;rw[show(n:Int) -((0:J):Int)=(n:Int)from oq7];exact Heap.get?_push_size _ Y
  |_=>exact aw h2
 |_=>exact aw h
theorem It.xh{it:It}{I:Unit}(h:it.ok N=U (I,st')):st'=N/\∀l xs,it=.list l xs->N.H l=U ⇑xs:=by
 cases it with
 |list l xs=>
  obtain o|h1|h2|rfl:=fV h;cases o with
  |list ys=>exists bY h2;rintro rfl _;exact⟨Y,λ Q x e'=>by cases e';exact h1⟩
  |_=>exact aw h2
 |range n=>cases h;exact⟨Y,λ Q x e'=>by cases e'⟩
theorem next_item(r:R B y N s){it:It}{I:ao}{i:J}{x:V}{f:Unit}(hi:CY y s.heap I it i)(w:it.ok N=U (f,st'))(g:it.items[i]?=U x){E:al->aN->be}{Q:Option al->aN->be}
 (q:∀m h' tk,VR N.n y x m->CY y h' I it (i+1)->Heap.SameBut I s.heap h'->Q (U m) {s with heap:=h',toks:=tk}):aZ (bB B.prog B.w) A (pyNext ↥I) Q E s:=by
 obtain _|L:=It.xh w;cases it with
 |list l xs=>obtain vs|k|L|c:=r.list (L l xs Y);obtain m|t|v:=c.get g;rw[rm]at t;exact wpAny_pyNext_list_item hi (isList L) t λ h' h1 h2=>q m h' s.toks v h1 h2
 |range n=>
  have p:i<n:=by have:=(r9.mp g).1;simpa[It.items]using this
  have e:x=.int (i:Int):=by simp[It.items,p]at g;exact g.symm
  subst e;refine wpAny_pyNext_range_item hi ((afc p)) λ h' h1 h2=>q _ h' _ ⟨_,Y⟩ ?_ h2
  show z9 h' I ((i+1:J):Int) ((n:Int) -((i+1:J):Int)) 1;rw[show((i+1:J):Int)=(i:Int)+1 from oq8,show(n:Int) -((i:Int)+1)=(n:Int) -i -1 from oq9];exact h1
theorem next_end(r:R B y N s)(t:A.handled=F){it:It}{I:ao}{f:Unit}(hi:CY y s.heap I it it.items.length)(w:it.ok N=U (f,st')){E:al->aN->be}{Q:Option al->aN->be}
 (q:∀h',(∀b o,b≠I->s.heap.get? b=U o->h'.get? b=U o)->Q F {s with heap:=h'}):aZ (bB B.prog B.w) A (pyNext ↥I) Q E s:=by
 obtain _|L:=It.xh w;cases it with
 |list l xs=>
  obtain vs|k|L|c:=r.list (L l xs Y);refine wpAny_pyNext_list_end t hi (isList L) ?_ λ h' h1=>q h' h1
  rw[<-rm];exact Bx (by rw[<-c.length];exact aS _)
 |range n=>
  refine wpAny_pyNext_range_end t hi ?_ λ h' h1=>q h' h1
  simp[It.items]
structure sr(B:Bk)(y:Lay)(N:St)(s:aN)(a:ao)(o:b8):Prop where
 get:s.heap.get? a=U o
 un:gb N y a
 aO:B.aO.get? a=F
 jU:a≠B.L
theorem R.oP(r:R B y N s){a:ao}(h:s.heap.get? a=F):B.aO.get? a=F:=by
 cases z:B.aO.get? a with
 |none=>rfl
 |some x=>exact nomatch h.symm.trans (r.bg _ _ z)
section
variable{a b:ao}{o:b8}{h':Heap}{tk:Tok}
theorem sr.new(r:R B y N s)(C:∀b o,s.heap.get? b=U o->h'.get? b=U o)(ha:s.heap.get? a=F)(n:a≠B.L)(e:h'.get? a=U o):sr B y N {s with heap:=h',toks:=tk} a o:=
 ⟨e,r.fresh ha,r.oP ha,n⟩
theorem sr.other(t:sr B y N s a o)(r:R B y N s)(nt:NT o)(hs:Heap.SameBut a s.heap h'):R B y N {s with heap:=h',toks:=tk}:=r.other hs t.get nt t.aO t.jU t.un.ad t.un.dd
theorem sr.side(t:sr B y N s a o)(r:R B y N s)(j:R (B.side N y s.heap) y' st' s'):sr B y' st' s' a o:=⟨r.sh j t.get t.jU t.un,r.lK j t.get t.jU t.un,t.aO,t.jU⟩
theorem sr.bg(t:sr B y N s a o)(n:a≠b)(hs:Heap.SameBut b s.heap h'):sr B y N {s with heap:=h',toks:=tk} a o:=⟨(hs.2 _ n).trans t.get,t.un,t.aO,t.jU⟩
theorem sr.set{o':b8}(t:sr B y N s a o)(e:h'.get? a=U o'):sr B y N {s with heap:=h',toks:=tk} a o':=⟨e,t.un,t.aO,t.jU⟩
theorem sr.loc(t:sr B y N s a o){u:af->Option V}:sr B y {N with loc:=u} s a o:=⟨t.get,⟨t.un.ad,t.un.dd⟩,t.aO,t.jU⟩
end
structure Ay(B:Bk)(y:Lay)(N:St)(s:aN)(I:ao)(di:It)(rest:List V)(i:J)(o:b8):Prop where
 rest:di.items.drop i=rest
 le:i<=di.items.length
 Nk:CY y s.heap I di i
 nt:NT o
 ue:sr B y N s I o
 Tn:Do N.n di
theorem Do.mono{n n':J}{b:It}(h:Do n b)(e:n<=n'):Do n' b:=by
 cases b with
 |list l xs=>exact cv h e
 |range n=>trivial
section
variable{I:ao}{di:It}{rest:List V}{i:J}{o:b8}{x:V}{u:Unit}{h':Heap}{tk:Tok}
theorem Ay.side(t:Ay B y N s I di rest i o)(r:R B y N s)(j:R (B.side N y s.heap) y' st' s')(e:Ext N.n y st'.n y'):Ay B y' st' s' I di rest i o:=
 have t':=t.ue.side r j
 ⟨t.rest,t.le,(t.Nk.mono e t.Tn).at λ _ f=>t'.get.trans (t.ue.get.symm.trans f),t.nt,t',t.Tn.mono e.le⟩
theorem Ay.bg(t:Ay B y N s I di rest i o){D:ao}(n:I≠D)(hs:Heap.SameBut D s.heap h'):Ay B y N {s with heap:=h',toks:=tk} I di rest i o:=
 ⟨t.rest,t.le,t.Nk.at λ _ f=>(hs.2 _ n).trans f,t.nt,t.ue.bg n hs,t.Tn⟩
theorem Ay.done(t:Ay B y N s I di [] i o)(r:R B y N s)(l:A.handled=F)(w:di.ok N=U (u,st')){E:al->aN->be}{Q:Option al->aN->be}
 (q:∀h',R B y N {s with heap:=h'}->(∀b o,b≠I->s.heap.get? b=U o->h'.get? b=U o)->Q F {s with heap:=h'}):aZ (bB B.prog B.w) A (pyNext ↥I) Q E s:=by
 have hi:i=di.items.length:=ru t.le (List.drop_eq_nil_iff.mp t.rest);have h:=t.Nk;rw[hi]at h;exact next_end r l h w λ h' C=>q h' (r.Bf (tk:=s.toks) C t.ue.get t.nt t.ue.aO t.ue.jU t.ue.un) C
theorem Ay.next(t:Ay B y N s I di (x::rest) i o)(r:R B y N s)(w:di.ok N=U (u,st')){E:al->aN->be}{Q:Option al->aN->be}
 (q:∀m h' tk o',VR N.n y x m->R B y N {s with heap:=h',toks:=tk}->Ay B y N {s with heap:=h',toks:=tk} I di rest (i+1) o'->Heap.SameBut I s.heap h'->Q (U m) {s with heap:=h',toks:=tk}):aZ (bB B.prog B.w) A (pyNext ↥I) Q E s:=by
 have g:di.items[i]?=U x:=by rw[<-List.head?_drop,t.rest];rfl
 refine next_item r t.Nk w g λ m h tk v S hs=>?_
 obtain o'|j|n:=S.obj;exact q m h tk o' v (t.ue.other r t.nt hs) ⟨by rw[<-List.tail_drop,t.rest];rfl,(r9.mp g).1,S,n,t.ue.set j,t.Tn⟩ hs
end
def Po(K:W.Frag)(d:J)(cf:V->List V->M V)(b:List cJ):be:=
 ∀B A y N s env kd cs fl st',lc K d B A y N s env kd cs->ay G cf cs (gy G.glob kd b) N=U (fl,st')->dt B A y N s (jt b env) (flr fl) st'
def nX(K:W.Frag)(d:J)(cf:V->List V->M V)(t:cJ):be:=
 ∀B A y N s env kd cs fl st',lc K d B A y N s env kd cs->c6 G cf cs (uw G.glob kd t) N=U (fl,st')->dt B A y N s (exec t env) (flr fl) st'
theorem oj(h:c6 G cf cs .bad N=U (fl,st')):False:=by cases h
theorem fT{α:Type}{o:Option α}{f:α->TS}(h:c6 G cf cs (k8 (o.map f)) N=U r):∃a,o=U a/\c6 G cf cs (f a) N=U r:=by
 cases o with
 |none=>cases h
 |some a=>exact cC a Y h
theorem jd{α:Type}{o:Option α}{f:α->Option TS}(h:c6 G cf cs (k8 (o.bind f)) N=U r):∃a,o=U a/\c6 G cf cs (k8 (f a)) N=U r:=by
 cases o with
 |none=>cases h
 |some a=>exact cC a Y h
theorem q8{c:bG}(h:c6 G cf cs (if c=ai then t else .bad) N=U r):c=ai/\c6 G cf cs t N=U r:=by
 cases c with
 |true=>exact⟨Y,h⟩
 |false=>cases h
theorem sU(h:gW e=ai)(x:al):foldedSetIterable e env x=pure x:=by cases e<;>first|rfl|cases h
inductive T4(B:Bk)(n₀:J)(y:Lay)(I:ao)(di:It)(f:V->M Fl)(fl:Fl)(st':St)(n:J)(s:aN):Prop
 |mk (y₂:Lay) (st₂:St) (rest:List V) (i:J) (o:b8) (hn:n=rest.length+1) (e:Ext n₀ y st₂.n y₂) (r:R B y₂ st₂ s) (it:Ay B y₂ st₂ s I di rest i o) (aE:forM di f rest st₂=U (fl,st'))
theorem okM{α:Type}{b:It}{f:Unit->M α}{a:α}(h:aI b.ok f N=U (a,st')):b.ok N=U ((),N)/\f () N=U (a,st'):=by exists au h,I,H,h1,h2;obtain rfl|_:=It.xh h1;exact⟨h1,h2⟩
theorem forM_nil{b:It}{f:V->M Fl}{fl:Fl}(h:forM b f [] N=U (fl,st')):b.ok N=U ((),N)/\fl=.next/\st'=N:=
by obtain h1|h2:=okM h;exact⟨h1,kO h2⟩
theorem forM_cons{b:It}{f:V->M Fl}{fl:Fl}{x:V}{r:List V}(h:forM b f (x::r) N=U (fl,st')):∃c H,b.ok N=U ((),N)/\f x N=U (c,H)/\(match c with
 |.next|.cont=>forM b f r
 |.brk=>ret .next
 |.ret v=>ret (.ret v)) H=U (fl,st'):=
by obtain h1|h2:=okM h;exists au h2,a,H,I,D;exact pX a H h1 I D
theorem oW(r:R B y N s){v:V}{D:al}{it:It}(z:VR N.n y v D)(h:dG v N=U (it,st')){E:al->aN->be}{Q:al->aN->be}
 (q:st'=N->∀h' o,R B y N {s with heap:=h'}->Ay B y N {s with heap:=h'} s.heap.objs.size it it.items 0 o->(∀b o,s.heap.get? b=U o->h'.get? b=U o)->Q ↥s.heap.objs.size {s with heap:=h'}):aZ (bB B.prog B.w) A (mx D) Q E s:=
 E9 r z h λ e c h' S C=>
  have I:=r.cR (h₁:=s.heap) (λ _ _ e=>e) (aS _);have⟨o,f,nt⟩:=S.obj
  q e h' o (r.grow (tk:=s.toks) C) ⟨Y,cG _,S,nt,.new r C I.1 I.2.1 f,c⟩ C
theorem SM{g it:aB}{pos:bJ}{body:List cJ}(hit:Ev K d cf it)(hb:Po K d cf body):nX K d cf (.For g it body [] pos):=by
 intro B A y N s env kd cs fl st' S h;rw[Xu]at h;obtain f'|h:=q8 h;obtain x|hg|h:=jd h;obtain t|ht|k:=fT h;clear h;obtain px|rfl:=fk hg;dsimp only[Uk]at k;exists au k,v,H,h1,h;exists au h,di,st₂,h2,I;generalize a:(λ v=>aI (ff cs t v) λ _=>ay G cf cs (gy G.glob kd body))=f at I;intro E Q q;refine wpAny_For (hit _ _ _ _ _ _ _ _ _ _ S h1 E _ λ l D r X p vv=>oW p vv h2 λ e h' o C z' _=>?_) (sU f');subst e;refine codeAny_forLoop_any (T4 B st₂.n l r.heap.objs.size di f fl st') ?_ (di.items.length+1) ⟨l,st₂,di.items,0,o,Y,.refl,C,z',I⟩;intro n z j;refine hide λ Gz hG=>?_
 obtain L|st₃|rest|i|o|hn|P|C|b'|t':=j;cases rest with
 |nil=>obtain g1|rfl|rfl:=forM_nil t';exact hG (b'.done C S.g.handled g1 λ k' c _=>AF (q L _ _ (X.trans P) c Y))
 |cons x rest=>
  obtain q'|c'|g1|g2|g4:=forM_cons t';rw[<-a]at g2;exists au g2,u2,r',g5,g6;refine hG (b'.next C g1 λ x' k' tk o' vx c n' l'=>bn (rY ?_));have i':lc K d B A L st₃ {z with heap:=k',toks:=tk} env kd cs:=⟨S.W,S.g,c,S.e.mono (X.trans P)⟩;refine hN c.side i'.side.e ht vx g5 _ _ λ j' _ g' b a' _=>hb _ _ _ _ _ _ _ _ _ _ (i'.side.next b a') g6 _ _ λ m' A' p' d' e' vf=>?_
  have go:∀(g:forM di f rest c'=U (fl,st')),∃m,m<n/\T4 B st₂.n l r.heap.objs.size di f fl st' m p':=λ g=>⟨_,by rw[hn];exact cQ _,m',c',rest,_,o',Y,P.trans (b.trans d'),c.kg e',n'.side c e' (b.trans d'),g⟩
  cases q' with
  |next=>cases vf;exact go g4
  |cont=>cases vf;exact go g4
  |brk=>cases vf;exists bk g4;rintro rfl rfl;exact q _ _ _ (X.trans (P.trans (b.trans d'))) (c.kg e') Y
  |ret w=>obtain w'|rfl|hw:=vf;exists bk g4;rintro rfl rfl;exact q _ _ _ (X.trans (P.trans (b.trans d'))) (c.kg e') ⟨w',Y,hw⟩
theorem Jy{c:aB}{body:List cJ}{pos:bJ}(hc:Ts K d cf c)(hb:Po K d cf body):nX K d cf (.While c body [] pos):=by
 intro B A y N s env kd cs fl st' S h;dsimp only[NJ,MZ]at h;intro E Q q;refine wpAny_While ?_;refine codeAny_whileLoop (λ n z=>∃L st₂,Ext N.n y st₂.n L/\R B L st₂ z/\jl (c7 G cf cs (bU G.glob kd c) (ap G cf cs (bU G.glob kd c))) (ay G cf cs (gy G.glob kd body)) n st₂=U (fl,st')) ?_ turns ⟨y,N,.refl,S.r,h⟩;intro n z j;refine hide λ Gz X=>?_
 obtain L|st₂|P|C|a:=j;have l:=S.next P C;cases n with
 |zero=>cases a
 |succ n=>
  rw[xG]at a;refine au a ?_;intro b st₃ g1 g2;refine X (hc _ _ _ _ _ _ _ _ _ _ l g1 _ _ λ x H m t k vb=>?_);cases vb;have p:=l.next t k;cases b with
  |false=>rw[if_neg j5]at g2;exists bk g2;rintro rfl rfl;exact AF (q _ _ _ (P.trans t) k Y)
  |true=>
   rw[if_pos Y]at g2;exists au g2,f1,g,g3,D;refine hb _ _ _ _ _ _ _ _ _ _ p g3 _ _ λ r f i e v I=>?_
   have et:=(P.trans t).trans e;cases f1 with
   |next=>cases I;exact cC n (cQ _) (pX r g et v D)
   |cont=>cases I;exact cC n (cQ _) (pX r g et v D)
   |brk=>cases I;exists bk D;rintro rfl rfl;exact q _ _ _ et v Y
   |ret w=>obtain o|rfl|a:=I;exists bk D;rintro rfl rfl;exact q _ _ _ et v ⟨o,Y,a⟩
theorem kI(h:nL e=ai):rF e t n env=pure aj:=by cases e<;>first|rfl|cases h
theorem Aq{a:af}:rF e (U (.Attribute o a p)) n env=pure aj:=by cases e<;>rfl
theorem BU:rF e (U (.Subscript o i p)) n env=pure aj:=by cases e<;>rfl
theorem qY(h:nu i=ai)(j k new:al):augStore i j k new=(do lV [new,j,k] (qV j k new);release [new,j,k] [];pure .next):=by cases i<;>first|rfl|cases h
theorem x0{v:V}(h:ap G cf cs (bU G.glob kd i) N=U (v,st')):nu i=ai:=by
 cases i with
 |Slice=>cases h
 |_=>rfl
theorem Np{e:aB}{pos:bJ}(P:Ev K d cf e):nX K d cf (.Expr e pos):=by intro B A y N s env kd cs fl st' S h;rw[Sf]at h;obtain hn|h:=q8 h;dsimp only[RS]at h;exists au h,v,H,h1,h2;exists bk h2;rintro rfl rfl;intro E Q q;rw[exec_Expr env e pos (by unfold interactive;rw[S.e.kind];rfl) (kI hn)];refine aW (lH (aW (P _ _ _ _ _ _ _ _ _ _ S h1 E _ λ p D r X j c=>?_)));exact wpAny_dropValue (q _ _ _ X j Y)
theorem M8:nX K d cf (.Pass pos):=by intro B A y N s env kd cs fl st' S h;cases h;exact λ E Q q=>wpAny_Pass (q _ _ _ .refl S.r Y)
theorem KU:nX K d cf (.Break pos):=by intro B A y N s env kd cs fl st' S h;cases h;exact λ E Q q=>wpAny_Break (q _ _ _ .refl S.r Y)
theorem y0:nX K d cf (.Continue pos):=by intro B A y N s env kd cs fl st' S h;cases h;exact λ E Q q=>wpAny_Continue (q _ _ _ .refl S.r Y)
theorem Af:nX K d cf (.Return F pos):=by intro B A y N s env kd cs fl st' S h;cases h;exact λ E Q q=>wpAny_Return_none (q _ _ _ .refl S.r ⟨_,Y,Y⟩)
theorem ET{e:aB}{pos:bJ}(P:Ev K d cf e):nX K d cf (.Return (U e) pos):=by intro B A y N s env kd cs fl st' S h;dsimp only[V7,WE]at h;exists au h,v,H,h1,h2;exists bk h2;rintro rfl rfl;exact λ E Q q=>wpAny_Return_some (P _ _ _ _ _ _ _ _ _ _ S h1 E _ λ p D r X j c=>q _ _ _ X j ⟨_,Y,c⟩)
theorem Wo{c:aB}{a b:List cJ}{pos:bJ}(hc:Ts K d cf c)(ha:Po K d cf a)(hb:Po K d cf b):nX K d cf (.If c a b pos):=by
 intro B A y N s env kd cs fl st' S h;dsimp only[abl,aeZ]at h;exists au h,t,H,h1,h2;intro E Q q;refine wpAny_If (hc _ _ _ _ _ _ _ _ _ _ S h1 E _ λ p t' r X j e=>?_);cases e;have i:=S.next X j;cases t with
 |true=>rw[if_pos Y]at h2⊢;exact ha _ _ _ _ _ _ _ _ _ _ i h2 E Q λ L f z P C I=>q _ _ _ (X.trans P) C I
 |false=>rw[if_neg j5]at h2⊢;exact hb _ _ _ _ _ _ _ _ _ _ i h2 E Q λ L f z P C I=>q _ _ _ (X.trans P) C I
theorem MS:Po K d cf []:=by intro B A y N s env kd cs fl st' S h;cases h;exact λ E Q q=>AF (q _ _ _ .refl S.r Y)
theorem FW{t:cJ}{r:List cJ}(ht:nX K d cf t)(i:Po K d cf r):Po K d cf (t::r):=by
 intro B A y N s env kd cs fl st' S h;dsimp only[Kt,KE]at h;exists au h,f1,H,h1,h2;intro E Q q;refine xb (ht _ _ _ _ _ _ _ _ _ _ S h1 E _ λ p f D X j I=>?_);cases f1 with
 |next=>cases I;exact i _ _ _ _ _ _ _ _ _ _ (S.next X j) h2 E Q λ L f z P C I=>q _ _ _ (X.trans P) C I
 |brk=>cases I;exists bk h2;rintro rfl rfl;exact q _ _ _ X j Y
 |cont=>cases I;exists bk h2;rintro rfl rfl;exact q _ _ _ X j Y
 |ret w=>obtain o|rfl|c:=I;exists bk h2;rintro rfl rfl;exact q _ _ _ X j ⟨o,Y,c⟩
theorem Qo{x:af}{px pos:bJ}{e:aB}(hn:nL e=ai)(g:Ev K d cf e):nX K d cf (.Assign [.Name x px] e pos):=by
 intro B A y N s env kd cs fl st' S h;rw[yZ]at h;obtain t|ht|h:=fT h;dsimp only[CT]at h;exists au h,v,H,h1,h;exists au h,I,st₂,h2,m;exists bk m;rintro rfl rfl;refine λ E Q q=>B9 (g _ _ _ _ _ _ _ _ _ _ S h1 E _ λ p D r X j c=>?_) (kI hn)
 exact hN j (S.next X j).e ht c h2 E _ λ L _ z P C _=>q _ _ _ (X.trans P) C Y
theorem NS(T:Tab K){o:aB}{name:af}{p pos:bJ}{e:aB}(f:Ev K d cf o)(g:Ev K d cf e):nX K d cf (.Assign [.Attribute o name p] e pos):=by
 intro B A y N s env kd cs fl st' S h;dsimp only[SS,Rr]at h;exists au h,v,H,h1,h;exists au h,b,st₂,h2,h;exists au h,I,st₃,m,D;exists bk D;rintro rfl rfl;refine λ E Q q=>plainObj_wpAny_Assign_Attribute (g _ _ _ _ _ _ _ _ _ _ S h1 E _ λ l a r X j k=>?_) Aq
 have i:=S.next X j;refine f _ _ _ _ _ _ _ _ _ _ i h2 E _ λ L a' z P C n=>?_
 exact y8 C S.W.ou T.cls n (VR.mono k P) m E _ λ x _ w t c _=>q _ _ _ ((X.trans P).trans t) c Y
theorem NK{o i:aB}{p pos:bJ}{e:aB}(f:Ev K d cf o)(hi:Ev K d cf i)(g:Ev K d cf e):nX K d cf (.Assign [.Subscript o i p] e pos):=by
 intro B A y N s env kd cs fl st' S h;dsimp only[Re,RV]at h;exists au h,v,H,h1,h;exists au h,ov,st₂,h2,h;exists au h,iv,st₃,m,h;exists au h,I,a',D,k;exists bk k;rintro rfl rfl;refine λ E Q q=>wpAny_Assign_Subscript (g _ _ _ _ _ _ _ _ _ _ S h1 E _ λ l a r X j vv=>?_) BU
 have b:=S.next X j;refine f _ _ _ _ _ _ _ _ _ _ b h2 E _ λ L f' z P C vo=>?_
 have d':=b.next P C;refine hi _ _ _ _ _ _ _ _ _ _ d' m E _ λ b' g' w t c vi=>?_
 exact yk c S.g (VR.mono vo t) vi ((VR.mono vv P).mono t) D E _ λ e' _ c' n x _=>q _ _ _ (((X.trans P).trans t).trans n) x Y
theorem SV{x:af}{px pos:bJ}{op:lW}{e:aB}(g:Ev K d cf e):nX K d cf (.AugAssign (.Name x px) op e pos):=by
 intro B A y N s env kd cs fl st' S h;rw[Xz]at h;obtain t|ht|h:=jd h;obtain o|f|k:=fT h;clear h;obtain rfl:=nN f;dsimp only[Uz]at k;exists au k,a,H,h1,h;exists au h,b,st₂,h2,h;exists au h,v,st₃,m,h;exists au h,I,e',D,h5;exists bk h5;rintro rfl rfl;refine λ E Q q=>wpAny_AugAssign_Name (JP S.r S.e ht h1 E _ λ p a' r X j va=>?_)
 have d':=S.next X j;refine g _ _ _ _ _ _ _ _ _ _ d' h2 E _ λ L b' z P C vb=>?_
 have h':=d'.next P C;refine o8 C (VR.mono va P) vb m E _ λ f' w i n c vv=>?_
 exact hN c (h'.next n c).e ht vv D E _ λ i' _ g' c' l _=>q _ _ _ (((X.trans P).trans n).trans c') l Y
theorem Ob(T:Tab K){o:aB}{name:af}{p pos:bJ}{op:lW}{e:aB}(n':Ev K d cf o)(g:Ev K d cf e):nX K d cf (.AugAssign (.Attribute o name p) op e pos):=by
 intro B A y N s env kd cs fl st' S h;rw[Rc]at h;obtain b|f|k:=fT h;clear h;obtain rfl:=nN f;dsimp only[Qz]at k;exists au k,ov,H,h1,h;exists au h,a,st₂,h2,h;exists au h,w,st₃,m,h;exists au h,v,d',D,h;exists au h,I,m',h5,h6;exists bk h6;rintro rfl rfl;refine λ E Q q=>wpAny_AugAssign_AttributeAny (n' _ _ _ _ _ _ _ _ _ _ S h1 E _ λ l o' r X j vo=>?_)
 have c':=S.next X j;refine yn j S.W.ou T.cls vo h2 E _ λ L a' z P C va=>?_
 have i':=c'.next P C;refine g _ _ _ _ _ _ _ _ _ _ i' m E _ λ e' w' i t c vw=>?_
 refine o8 c (VR.mono va t) vw D E _ λ j' x h' n b' vv=>?_
 exact y8 b' S.W.ou T.cls (((VR.mono vo P).mono t).mono n) vv h5 E _ λ k' _ l' f' g' _=>q _ _ _ ((((X.trans P).trans t).trans n).trans f') g' Y
theorem Ou{o i:aB}{p pos:bJ}{op:lW}{e:aB}(A':Ev K d cf o)(hi:Ev K d cf i)(g:Ev K d cf e):nX K d cf (.AugAssign (.Subscript o i p) op e pos):=by
 intro B A y N s env kd cs fl st' S h;rw[Rh]at h;obtain b|f|k:=fT h;clear h;obtain rfl:=nN f;dsimp only[SJ]at k;exists au k,ov,H,h1,h;exists au h,iv,st₂,h2,h;exists au h,a,st₃,m,h;exists au h,w,e',D,h;exists au h,v,z',h5,h;exists au h,I,B',h6,h7;exists bk h7;rintro rfl rfl;refine λ E Q q=>wpAny_AugAssign_SubscriptAny (A' _ _ _ _ _ _ _ _ _ _ S h1 E _ λ l o' r X j vo=>?_) (qY (x0 h2))
 have d':=S.next X j;refine hi _ _ _ _ _ _ _ _ _ _ d' h2 E _ λ L i' z P C vi=>?_
 have k':=d'.next P C;refine xV C S.g (VR.mono vo P) vi m E _ λ f' a' b' t c va=>?_
 have l':=k'.next t c;refine g _ _ _ _ _ _ _ _ _ _ l' D E _ λ p' w' j' n c' vw=>?_
 refine o8 c' (VR.mono va n) vw h5 E _ λ q' x r' g' h' vv=>?_
 have C':=(((VR.mono vo P).mono t).mono n).mono g';have D':=((VR.mono vi t).mono n).mono g';exact yk h' S.g C' D' vv h6 E _ λ x' _ m' t' n' _=>q _ _ _ (((((X.trans P).trans t).trans n).trans g').trans t') n' Y
theorem IW{e a b:aB}:swapsWithSole [.Tuple [a,b] k p] e n env=pure aj:=by cases e<;>rfl
theorem AW{e a b:aB}(h:notTuple e=ai):swappedStores [.Tuple [a,b] k p] e env=pure F:=by cases e<;>first|rfl|cases h
theorem Kv{t I:Tgt}{e:T}{fl:Fl}(h:c6 G cf cs (.rW t I e) N=U (fl,st')):∃l a b H st₂,ap G cf cs e N=U (↥l,H)/\H.H l=U (.tup [a,b])/\ff cs t a H=U ((),st₂)/\ff cs I b st₂=U ((),st')/\fl=.next:=by
 rw[Sz]at h;exists au h,v,H,h1,h;cases v with
 |ref l=>
  exists au h,o,st₂,m,D;obtain m|rfl:=t7 m;cases o with
  |tup xs=>cases xs with
   |nil=>cases D
   |cons a xs=>cases xs with
    |nil=>cases D
    |cons b xs=>cases xs with
     |cons=>cases D
     |nil=>exists au D,_,st₃,p,q;exists au q,_,g,h7,c;exists bk c;rintro rfl rfl;exact adO l a b _ st₃ h1 m p h7 Y
  |_=>cases D
 |_=>cases h
set_option tactic.hygienic true in
theorem MC(P:Ev K d cf e):nX K d cf (.Assign [.Tuple [ta,tb] k pt] e pos):=by
 intro B A y N s env kd cs fl st' S h;rw[QG]at h;obtain hn|h:=q8 h;obtain x|g|h:=jd h;obtain z|i|h:=jd h;obtain t|ht|h:=jd h;obtain I|hu|C:=fT h;clear h;obtain px|rfl:=fk g;obtain pz|rfl:=fk i;obtain l|a|b|H|st₂|h1|m|h5|h7|rfl:=Kv C;refine λ E Q q=>wpAny_Assign_stores (P _ _ _ _ _ _ _ _ _ _ S h1 E _ λ p w r X j vv=>?_) IW (AW hn)
 obtain _|rfl:=vv;obtain vs|kk|L|d':=j.tup m;obtain a'|w1|D|va|ww:=d'.cons_inv;obtain b'|rfl|vb:=ww.one;show aZ _ _ (oO (.Tuple [.Name x px,.Name z pz] k pt) env (.ref (p.ad l))) _ _ _;have j':vs.size=2:=by rw[<-mJ,D];rfl
 refine wpAny_assign_Tuple S.g.handled (De L) (by rw[j'];rfl) (by rfl) λ h' g=>?_
 have g':lc K d B A p H {r with heap:=h',toks:=r.toks} env kd cs:=⟨S.W,S.g,j.grow λ b o e=>g b o (bP (Heap.lt_size e)) e,S.e.mono X⟩;rw[D];show aZ _ _ (lV [b'] (oO (.Name x px) env a')>>=λ _=>lV [] (oO (.Name z pz) env b')>>=λ _=>pure ()) _ _ _;refine aW (jJ (rY ?_));refine hN g'.r g'.e ht va h5 E _ λ e' _ c' n c _=>?_
 refine aW (jJ (rY ?_));exact hN c (g'.next n c).e hu (VR.mono vb n) h7 E _ λ i' _ f' f v _=>bn (q _ _ _ ((X.trans n).trans f) v rfl)
noncomputable def dP(env:dA):List (af×bM)->List (af×ao)->List (af×ao)
 |[],acc=>acc
 |(x,k)::r,acc=>if k==.free then dP env r ((x,(env.cells.lookup x).getD 0)::acc)else dP env r acc
theorem oC:dP env ((x,k)::r) acc=if k==.free then dP env r ((x,(env.cells.lookup x).getD 0)::acc)else dP env r acc:=rfl
theorem lj{scope:c9}(h:∀x,(x,fF)∈scope.names->(env.cells.lookup x).isSome=ai):mn scope env=pure (dP env scope.names []):=by
 unfold mn;have:∀(names:List (af×bM))(acc:List (af×ao)),(∀x,(x,fF)∈names->(env.cells.lookup x).isSome=ai)->
  forIn names acc (λ(p:af×bM)(r:List (af×ao))=>if p.2==.free then(do let a<-cellOf env p.1;pure (oY ((p.1,a)::r)):Sem _)else pure (oY r))=pure (dP env names acc):=by
  intro names
  induction names with
  |nil=>intro acc _;rw[lz];rfl
  |cons p r X=>
   intro acc h;obtain x|k:=p;rw[jO];by_cases C:(k==fF)=ai
   .have e:k=.free:=beq_iff_eq.mp C;subst e;obtain a|ha:=qL.mp (h x (.head _));have b:cellOf env x=pure a:=by unfold cellOf;rw[ha]
    rw[if_pos C,b,pure_bind,pure_bind];rw[oC];rw[if_pos C,ha];exact X _ λ z m=>h z (.tail _ m)
   .rw[if_neg C,pure_bind];rw[oC];rw[if_neg C];exact X _ λ z m=>h z (.tail _ m)
 have e:=this scope.names [] h;show(forIn scope.names [] _>>=λ cs=>pure cs)=_;rw[bind_pure];exact e
theorem qS{acc:List (af×ao)}(hs:∀z,(z,fF)∈names->(env.cells.lookup z).isSome=ai)
 (h:(x,fF)∈names\/acc.lookup x=env.cells.lookup x):(dP env names acc).lookup x=env.cells.lookup x:=by
 induction names generalizing acc with
 |nil=>exact h.elim (λ h=>nomatch h) id
 |cons p r X=>
  obtain z|k:=p;rw[oC];have n:∀z,(z,fF)∈r->(env.cells.lookup z).isSome=ai:=λ z m=>hs z (.tail _ m)
  by_cases C:(k==fF)=ai
  .rw[if_pos C];obtain rfl:=eq_of_beq C;refine X n ?_;by_cases q:x=z
   .obtain a|ha:=qL.mp (hs z (.head _));exact .inr (by rw[q,fG,beq_self_eq_true,ha];rfl)
   .refine h.imp (λ h=>?_) λ h=>?_
    .rcases dK.mp h with e|h
     .exact absurd (congrArg j0 e) q
     .exact h
    .rw[fG,show(x==z)=aj from beq_eq_false_iff_ne.mpr q];exact h
  .rw[if_neg C];refine X n (h.imp (λ h=>?_) id);rcases dK.mp h with e|h
   .cases e;exact absurd Y C
   .exact h
theorem jN{f:af->bM->bM}:∀{names:List (af×bM)}{x:af},(names.map λ p=>(p.1,f p.1 p.2)).lookup x=(names.lookup x).map (f x)
 |[],_=>rfl
 |(z,k)::r,x=>by
  rw[bW,fG,fG];cases h:x==z with
  |true=>dsimp only;rw[beq_iff_eq.mp h];rfl
  |false=>exact jN
theorem eU{scope:c9}(h:ey kd scope=ai):scope.kind=.function/\(∀p∈scope.names,p.2≠.cell)/\(∀p∈scope.names,p.2=.local->scope.names.lookup p.1=U .local)/\∀p∈scope.names,p.2=.free->kd p.1=U .cell\/kd p.1=U .free:=by
 unfold ey at h;simp only[pu,beq_iff_eq,dE,bne_iff_ne,Hq,ne_eq]at h;obtain h1|h2:=h;refine xp h1 (λ p hp=>(h2 p hp).1.1) (λ p hp L=>?_) (λ p hp P=>?_)
 .rcases(h2 p hp).1.2 with q|q
  .exact absurd L q
  .exact q
 .rcases(h2 p hp).2 with(q|q)|q
  .exact absurd P q
  .exact .inl q
  .exact .inr q
theorem mj(e:f0 B y N.n env kd cs){scope:c9}(h:ey kd scope=ai):∀x,(x,fF)∈scope.names->(env.cells.lookup x).isSome=ai:=λ x g=>by obtain l|_|_|I:=e.cells x ((eU h).2.2.2 _ g Y);rw[I];rfl
noncomputable def iJ(scope:c9)(env:dA)(C:ao):dA:={scope:=jp scope env,locals:=C,globals:=env.globals,cells:=dP env scope.names [],qual:=env.qual,func:=F,code:=env.code,frame:=env.frame,builtins:=env.builtins}
theorem compEnv(e:f0 B y N.n env kd cs){scope:c9}(h:ey kd scope=ai):
 f0 (B.to aO C) y N.n (iJ scope env C) (λ x=>scope.names.lookup x) cs:=by
 obtain h1|h2|I|D:=eU h;refine⟨h1,Y,e.globals,e.builtins,λ x=>?_,λ x g=>?_⟩
 .show(jp scope env).names.lookup x=_\/_;have:(jp scope env).names.lookup x=(scope.names.lookup x).map λ k=>if(k==.free&&env.scope.kind==.function&&env.kindOf x==U .cell)then rU else k:=by
   rw[<-jN (f:=λ n k=>if(k==.free&&env.scope.kind==.function&&env.kindOf n==U .cell)then rU else k)];unfold jp;congr 1;refine ef λ p _=>?_
   obtain n|k:=p;dsimp only;split<;>rfl
  rw[this];cases q:scope.names.lookup x with
  |none=>exact .inl Y
  |some k=>
   rw[pC];by_cases hc:(k==fF&&env.scope.kind==.function&&env.kindOf x==U .cell)=ai
   .rw[if_pos hc];simp only[pu,beq_iff_eq]at hc;exact .inr ⟨by rw[hc.1.1],by show(jp scope env).names.lookup x=_;rw[this,q,pC,if_pos (by simp[hc])]⟩
   .rw[if_neg hc];exact .inl Y
 .have P:(x,fF)∈scope.names:=by
   rcases g with g|g
   .exact absurd Y (h2 _ (jn g))
   .exact jn g
  obtain l|a|b|c:=e.cells x (D _ P Y);exact gc l a b ((qS (mj e h) (.inl P)).trans c)
def pA(K:W.Frag)(d:J)(cf:V->List V->M V)(es:List aB):be:=
 ∀B A y N s env kd cs b st',lc K d B A y N s env kd cs->ej G cf cs (eD G.glob kd es) N=U (b,st')->
  dt B A y N s (forIn es ai λ c r=>if r=ai then do let ok<-isTrue c env (eval c env);pure (oY ok)else pure (oY r)) (br b) st'
theorem xT{M:iQ}:∀(es:List aB)(s:aN),Q aj s->
 aZ M A (forIn es aj λ c r=>if r=ai then do let ok<-isTrue c env (eval c env);pure (oY ok)else pure (oY r)) Q E s
 |[],s,h=>by rw[lz];exact bn h
 |e::r,s,h=>by rw[jO];refine aW ?_;rw[if_neg j5];exact bn (xT r s h)
theorem Oh:pA K d cf []:=by intro B A y N s env kd cs b st' S h;dsimp only[pO,PN]at h;exists bk h;rintro rfl rfl;rw[lz];exact dt.pure S.r Y
theorem Gy{e:aB}{r:List aB}(g:Ts K d cf e)(i:pA K d cf r):pA K d cf (e::r):=by
 intro B A y N s env kd cs b st' S h;dsimp only[iC,JR]at h;exists au h,a,H,h1,h2;intro E Q q;rw[jO];refine aW ?_;rw[if_pos Y];refine aW (g _ _ _ _ _ _ _ _ _ _ S h1 E _ λ p n D X j o=>bn ?_);cases o;cases a with
 |true=>exact i _ _ _ _ _ _ _ _ _ _ (S.next X j) h2 E Q λ L c z P C f=>q _ _ _ (X.trans P) C f
 |false=>exists bk h2;rintro rfl rfl;exact xT r D (q _ _ _ X j Y)
theorem uy{M:Type}{it:It}{I:ao}{i:J}(h:CY y s.heap I it i){prog:el}{w:cj}{E:al->aN->be}{Q:al->aN->be}(q:Q ↥I s):aZ (bB prog w) A (mx ↥I) Q E s:=by
 cases it with
 |list l xs=>exact wpAny_pyIter_listiter h q
 |range n=>exact wpAny_pyIter_rangeiter h q
theorem qG{α:Type}{m:M α}{N st':St}{a:α}(h:inner m N=U (a,st')):∃H,m {N with loc:=λ _=>F}=U (a,H)/\st'={H with loc:=N.loc}:=by unfold inner at h;obtain⟨n,H⟩|h1|h2:=mG.mp h;cases h2;exact cC H h1 Y
theorem gb.put{a b:ao}{o:O}(I:gb N y b)(r:R B y N s)(n:a≠b)(hi:o.bZ=aj):gb {loc:=N.loc,H:=ah N.H N.n (U o),n:=N.n+1} (y.put N.n a a) b:=by
 refine⟨λ l o' e c=>?_,λ l o' e c=>?_⟩
 .by_cases q:l=N.n
  .subst q;rw[show(y.put N.n a a).ad N.n=a from aa ..];exact n
  .have e':N.H l=U o':=by rw[<-cx N.H (U o) q];exact e
   rw[(Ext.put (y:=y) (a:=a) (d:=a)).ad l (r.obj _ _ e').1];exact I.ad _ _ e' c
 .by_cases q:l=N.n
  .subst q;have e':ah N.H N.n (U o) N.n=U o':=e;rw[aa]at e';cases e';rw[hi]at c;cases c
  .have e':N.H l=U o':=by rw[<-cx N.H (U o) q];exact e
   rw[(Ext.put (y:=y) (a:=a) (d:=a)).dd l (r.obj _ _ e').1];exact I.dd _ _ e' c
structure Left(B:Bk)(y:Lay)(N:St)(s:aN)(C:ao):Prop where
 ns:∃m,s.heap.Ns C m
 un:gb N y C
 aO:B.aO.get? C=F
 jU:C≠B.L
structure CF(K:W.Frag)(d:J)(B:Bk)(A:dF)(y:Lay)(N:St)(s:aN)(env:dA)(cs:List (af×Loc))(scope:c9)(B₁:Bk)(C:ao)(s₁:aN):Prop where
 prog:B₁.prog=B.prog
 w:B₁.w=B.w
 CX:lc K d B₁ A y {N with loc:=λ _=>F} s₁ (iJ scope env C) (λ x=>scope.names.lookup x) cs
 ue:∀a o,s.heap.get? a=F->a≠C->s₁.heap.get? a=U o->sr B₁ y {N with loc:=λ _=>F} s₁ a o
 back:∀y₂ stE s₆,Ext N.n y stE.n y₂->R B₁ y₂ stE s₆->R B y₂ {stE with loc:=N.loc} s₆
 left:∀y₂ stE s₆,R B₁ y₂ stE s₆->Left B y₂ {stE with loc:=N.loc} s₆ C
theorem qT(S:lc K d B A y N s env kd cs){scope:c9}(w:ey kd scope=ai){g:Heap}(f:∀b o,s.heap.get? b=U o->g.get? b=U o){p:b8}(P:p.isFreed=aj){E:al->aN->be}{Q:dA->aN->be}
 (q:∀k C i,CF K d B A y N s env cs scope k C {s with heap:=i}->C≠g.objs.size->i.get? g.objs.size=U p->(∀b o,g.get? b=U o->b≠C/\i.get? b=U o)->Q (newEnv scope C env.globals (dP env scope.names []) env.qual F .none (U env) 0) {s with heap:=i}):
 aZ (bB B.prog B.w) A (oN scope env.globals (dP env scope.names []) [] env.qual F .none (U env)) Q E {s with heap:=g.push p}:=by
 obtain X|t|_|_:=eU w;refine wpAny_newFunctionEnv t (λ _ hp=>absurd hp eI) (λ i H j=>?_) X;have I:=S.r.cR f (kf (show g.objs.size<(g.push p).objs.size by rw[Heap.size_push];exact cQ _));have old:∀b o,(g.push p).get? b=U o->b≠(g.push p).objs.size/\i.get? b=U o:=λ b o e=>⟨bP (Heap.lt_size e),(j.2 b (bP (Heap.lt_size e))).trans (Heap.get?_push_of_some _ e)⟩
 dsimp only at H;generalize(g.push p).objs.size=C at H I old;have un:=S.r.fresh I.1;have ub:∀{a:ao},s.heap.get? a=F->(under N y s.heap []).get? a=F:=λ{a} ha=>by
  cases z:(under N y s.heap []).get? a with
  |none=>rfl
  |some x=>exact nomatch ha.symm.trans (under_get z)
 have v:R (B.to (under N y s.heap []) C) y {N with loc:=λ _=>F} {s with heap:=i,toks:=s.toks}:=
  S.r.push (more:=[]) (λ _ hb=>absurd hb eI) (ub I.1) un.ad un.dd (λ b o e=>(old _ _ (Heap.get?_push_of_some _ (f _ _ e))).2) ⟨_,H,λ _=>trivial⟩
 refine q (B.to (under N y s.heap []) C) C i ⟨Y,Y,⟨⟨S.W.ou,S.W.gl⟩,S.g,v,compEnv S.e w⟩,λ a o ha n e=>⟨e,⟨(S.r.fresh ha).ad,(S.r.fresh ha).dd⟩,ub ha,n⟩,
  λ L stE m e r=>S.r.CH (more:=[]) (λ _ hb=>absurd hb eI) (λ hb=>nomatch hb) e r,λ L stE m r=>⟨r.ns.imp λ _ h=>h.1,⟨λ l o e c=>(r.new l o e c).2,λ l o e c=>(r.ic l o e c).2⟩,S.r.oP I.1,I.2.1⟩⟩
  (old _ _ (Heap.get?_push_size _ P)).1.symm (old _ _ (Heap.get?_push_size _ P)).2 λ b o e=>old b o (Heap.get?_push_of_some _ e)
theorem CF.finish{scope:c9}{k:Bk}{C D:ao}{a m:aN}{stE:St}{L:Lay}{p:b8}{o:O}(j:CF K d B A y N s env cs scope k C a)(c:R B y N s)(e:Ext N.n y stE.n L)(r:R k L stE m)(t:sr k L stE m D p)(f:s.heap.get? D=F/\D≠B.L/\2<D)(x:C≠D)
 (hc:o.cL=aj)(hi:o.bZ=aj)(i:ms B (stE.n+1) (L.put stE.n D D) m.heap stE.n o):
 Ext N.n y (stE.n+1) (L.put stE.n D D)/\R B (L.put stE.n D D) {loc:=N.loc,H:=ah stE.H stE.n (U o),n:=stE.n+1} m/\Left B (L.put stE.n D D) {loc:=N.loc,H:=ah stE.H stE.n (U o),n:=stE.n+1} m C:=
 have b:=j.back _ _ _ e r;have l:=j.left _ _ _ r
 ⟨e.trans .put,b.adopt hc hi ⟨t.un.ad,t.un.dd⟩ (c.oP f.1) f.2.1 f.2.2 i,⟨l.ns,l.un.put b x.symm hi,l.aO,l.jU⟩⟩
inductive LI{α:Type}(B:Bk)(n₀:J)(y:Lay)(I D:ao)(di:It)(Acc:b8->J->Lay->List α->Prop)(f:V->M (Option α))(ys:List α)(stE:St)(n:J)(s:aN):Prop
 |mk (y₂:Lay) (st₂:St) (rest:List V) (i:J) (o oD:b8) (acc ys':List α) (hn:n=rest.length+1) (e:Ext n₀ y st₂.n y₂) (r:R B y₂ st₂ s) (it:Ay B y₂ st₂ s I di rest i o) (tD:sr B y₂ st₂ s D oD) (ha:Acc oD st₂.n y₂ acc) (sz:acc.length+rest.length<=1000) (aE:fy di f rest st₂=U (ys',stE)) (hy:acc++ys'=ys)
section
variable{α:Type}{di:It}{f:V->M (Option α)}{ys:List α}
theorem uq(h:fy di f [] N=U (ys,st')):di.ok N=U ((),N)/\ys=[]/\st'=N:=
 have⟨h1,h2⟩:=okM h;⟨h1,kO h2⟩
theorem rD{x:V}{r:List V}(h:fy di f (x::r) N=U (ys,st')):∃a H b,di.ok N=U ((),N)/\f x N=U (a,H)/\fy di f r H=U (b,st')/\(match a with|some v=>v::b|none=>b)=ys:=
by obtain h1|h2:=okM h;exists au h2,a,H,I,D;exists au D,b,st₂,p,q;exists bk q,h7,c;exact adw a H b h1 I (c▸p) h7.symm
theorem uJ{β:Type}{x:af}{v:V}{m:M β}{b:β}(h:once x v m N=U (b,st')):∃H,pZ x v N=U ((),H)/\m H=U (b,st'):=⟨_,Y,h⟩
theorem LI.side{B:Bk}{a:J}{p L x:Lay}{I D:ao}{Acc:b8->J->Lay->List α->be}{st₂ st₃ stE:St}{z w:aN}{rest:List V}{i n:J}{o b:b8}{acc c:List α}(hn:n=rest.length+1+1)(e:Ext a p st₂.n L)(r:R B L st₂ z)(it:Ay B L st₂ z I di rest i o)(tD:sr B L st₂ z D b)(ha:Acc b st₃.n x acc)(sz:acc.length+rest.length<=1000)
 (e':Ext st₂.n L st₃.n x)(j:R (B.side st₂ L z.heap) x st₃ w)(aE:fy di f rest st₃=U (c,stE))(S:acc++c=ys):∃m,m<n/\LI B a p I D di Acc f ys stE m w:=
 ⟨_,by rw[hn];exact cQ _,x,st₃,rest,i,o,b,acc,c,Y,e.trans e',r.kg j,it.side r j e',tD.side r j,ha,sz,aE,S⟩
end
def TV(o:b8)(n:J)(y:Lay)(acc:List V):be:=∃vs k,o={cls:=.type "list",data:=.seq vs k}/\dh n y acc vs.toList
theorem zn{elt it:aB}{x:af}{px pos:bJ}{ifs:List aB}{scope:c9}(hit:Ev K d cf it)(hel:Ev K d cf elt)(hifs:pA K d cf ifs)
 (S:lc K d B A y N s env kd cs)(l':ey kd scope=ai)(g:scope.names.lookup x=U .local){v:V}
 (h:ap G cf cs (.fR (bU G.glob (λ x=>scope.names.lookup x) elt) x (bU G.glob kd it) (eD G.glob (λ x=>scope.names.lookup x) ifs)) N=U (v,st'))
 {E:al->aN->be}(RR:al->ao->mr->aN->be)
 (post:∀y' D C s',Ext N.n y st'.n y'->R B y' st' s'->VR st'.n y' v ↥D->Left B y' st' s' C->RR ↥D C (.ok .next) s'):
 aZ (bB B.prog B.w) A (eval it env) (λ xv r=>aZ (bB B.prog B.w) A (mx xv) (λ itv t=>aZ (bB B.prog B.w) A (newList []) (λ acc a'=>aZ (bB B.prog B.w) A (oN scope env.globals (dP env scope.names []) [] env.qual F .none (U env)) (λ iJ k'=>iB (bB B.prog B.w) A (.compStart (.ListComp elt [⟨.Name x px,it,ifs,0⟩] scope pos) 0 itv acc {iJ with scope:=jp scope env}) (RR acc iJ.locals) k') E a') E t) E r) E s:=by
 dsimp only[NL]at h;exists au h,iv,H,h1,h;exists au h,di,st₂,h2,h;split at h
 case isFalse=>cases h
 rename_i m;refine au h ?_;intro ys st₃ I h4;obtain rfl|rfl:=gK h4;obtain stE|h5|rfl:=qG I;generalize q:(λ v=>once x v (aI (ej G cf cs (eD G.glob (λ x=>scope.names.lookup x) ifs)) λ b=>if b=ai then aI (ap G cf cs (bU G.glob (λ x=>scope.names.lookup x) elt)) λ y=>ret (U y)else ret F))=f at h5;refine hit _ _ _ _ _ _ _ _ _ _ S h1 E _ λ p v' r X j vv=>oW j vv h2 λ e d' o c e' t'=>?_
 subst e;refine wpAny_newList ?_;have nI:=j.cR (h₁:=r.heap) (λ _ _ e=>e) (aS _);have nD:=j.cR t' (aS d'.objs.size);have L':=bP (Heap.lt_size e'.ue.get);refine qT (S.next X j) l' t' Y λ g' C m' j' hC hD old=>?_
 have oI:=old _ _ e'.ue.get;have z':iB (bB g'.prog g'.w) A (.compLoop (.ListComp elt [⟨.Name x px,it,ifs,0⟩] scope pos) 0 ↥r.heap.objs.size ↥d'.objs.size (iJ scope env C)) (RR ↥d'.objs.size C) {r with heap:=m'}:=by
  refine codeAny_compLoop_tests (LI g' st₂.n p r.heap.objs.size d'.objs.size di TV f ys stE) ?_ (di.items.length+1)
   ⟨p,{st₂ with loc:=λ _=>F},di.items,0,o,_,[],ys,Y,.refl,j'.CX.r,⟨Y,cG _,e'.Nk.at λ o ho=>(old _ _ ho).2,e'.nt,j'.ue _ _ nI.1 oI.1 oI.2,e'.Tn⟩,j'.ue _ _ nD.1 hC.symm hD,⟨#[],0,Y,trivial⟩,by rw[li,jm];exact m,h5,Y⟩
  intro n t Q;refine hide λ Gz hG=>?_
  obtain L|st₃|rest|i|o|oD|acc|ys'|hn|P|c|e'|tD|⟨vs,kL,rfl,ha⟩|sz|aE|l:=Q;cases rest with
  |nil=>obtain g1|rfl|rfl:=uq aE;rw[kh]at l;subst l;refine hG (e'.done c S.g.handled g1 λ h₆ q' H'=>?_);obtain ex|ra|lf:=j'.finish (o:=⇑acc) j P q' (tD.set (H' _ _ L'.symm tD.get)) nD hC Y Y ⟨vs,kL,(congrArg h₆.get? (aa ..)).trans (H' _ _ L'.symm tD.get),ha.mono .put⟩;exact post _ _ _ _ (X.trans ex) ra eN lf
  |cons z rest=>
   obtain a|f'|A'|g1|g2|g3|g4:=rD aE;rw[<-q]at g2;obtain st₅|g7|g8:=uJ g2;exists au g8,ok,st₆,g9,g10;refine hG (e'.next c g1 λ x' C' tk o' vx k I' D'=>rY ?_);have n':lc K d g' A L st₃ {t with heap:=C',toks:=tk} (iJ scope env C) (λ x=>scope.names.lookup x) cs:=⟨j'.CX.W,S.g,k,j'.CX.e.mono P⟩;have tD₃:=tD.bg (tk:=tk) L'.symm D';have X':n=rest.length+1+1:=hn;have sz':acc.length+rest.length+1<=1000:=sz;refine ja k.side n'.side.e g vx _ _ λ r' _ k' b' c' _=>?_
   cases g7;refine hifs _ _ _ _ _ _ _ _ _ _ (n'.side.next b' c') g9 _ _ λ E' ok' P' h' i' vok=>?_
   cases vok;cases ok with
   |false=>exists bk g10;rintro rfl rfl;exact LI.side (Acc:=TV) X' P k I' tD₃ ⟨vs,kL,Y,ha.mono (b'.trans h')⟩ (vW sz') (b'.trans h') i' g3 (by rw[<-l,<-g4])
   |true=>
    rw[if_pos Y]at g10⊢;exists au g10,w,st₈,g11,g12;exists bk g12;rintro rfl rfl;refine hel _ _ _ _ _ _ _ _ _ _ ((n'.side.next b' c').next h' i') g11 _ _ λ S' w' p' Q' q' vw=>?_
    have ex:=(b'.trans h').trans Q';have B':=tD₃.side k q';have hvz:vs.size<=sizeLine:=by rw[eH,<-mJ,<-ha.length];exact acQ sz'
    refine sp wr ⟨_,B'.get,Y⟩ Ba (zX _ _) (zu _ vs kL _ hvz) ⟨B'.get,?_⟩;have hs:=Heap.SameBut.update (a:=d'.objs.size) (h:=p'.heap) (f:=z5 λ x=>x.push w');exact cC _ (by rw[X'];exact cQ _) ⟨S',f',rest,_,o',_,acc++[w],A',Y,P.trans ex,B'.other (tk:=p'.toks) (k.kg q') (dC Y aL) hs,(I'.side k q' ex).bg L' hs,B'.set (IsL.update B'.get λ x=>x.push w'),⟨_,_,Y,by rw[Ac];exact(ha.mono ex).append ⟨vw,trivial⟩⟩,by rw[cE];simp only[eF,li];exact UU sz',g3,by rw[lv,<-l,<-g4];rfl⟩
 rw[j'.prog,j'.w]at z';exact Gg z' (uy (M:=Unit) (e'.Nk.at λ o e=>(old _ _ e).2) z')
theorem iY(k:aJ)(v:V):∀(l acc:List (aJ×V)),bv acc (l++[(k,v)])=fO k v (bv acc l)
 |[],_=>rfl
 |(a,b)::r,acc=>iY k v r (fO a b acc)
theorem yW(k:aJ)(v:V)(l:List (aJ×V)):(fO k v l).length<=l.length+1:=by
 unfold fO;split
 .rw[bS];exact sV
 .rw[cE];simp
theorem hV:∀(l acc:List (aJ×V)),(bv acc l).length<=acc.length+l.length
 |[],acc=>aS _
 |(a,b)::r,acc=>by have:=hV r (fO a b acc);have h2:=yW a b acc;show(bv (fO a b acc) r).length<=_;simp only[eF];exact adr h2 this
def aeb(B:Bk)(D:ao)(o:b8)(n:J)(y:Lay)(acc:List (aJ×V)):be:=∃kvs h,Heap.get? h D=U o/\h.DictOf (dW B.prog B.w) D kvs/\KV n y aJ.int (bv [] acc) kvs
theorem Ab{ke ve it:aB}{x:af}{px pos:bJ}{scope:c9}(hit:Ev K d cf it)(hke:Ev K d cf ke)(hve:Ev K d cf ve)
 (S:lc K d B A y N s env kd cs)(m':ey kd scope=ai)(g:scope.names.lookup x=U .local){v:V}
 (h:ap G cf cs (.mP (bU G.glob (λ x=>scope.names.lookup x) ke) (bU G.glob (λ x=>scope.names.lookup x) ve) x (bU G.glob kd it)) N=U (v,st'))
 {E:al->aN->be}(RR:al->ao->mr->aN->be)
 (post:∀y' D C s',Ext N.n y st'.n y'->R B y' st' s'->VR st'.n y' v ↥D->Left B y' st' s' C->RR ↥D C (.ok .next) s'):
 aZ (bB B.prog B.w) A (eval it env) (λ xv r=>aZ (bB B.prog B.w) A (mx xv) (λ itv t=>aZ (bB B.prog B.w) A newDict (λ acc b'=>aZ (bB B.prog B.w) A (oN scope env.globals (dP env scope.names []) [] env.qual F .none (U env)) (λ iJ l'=>iB (bB B.prog B.w) A (.compStart (.DictComp ke ve [⟨.Name x px,it,[],0⟩] scope pos) 0 itv acc {iJ with scope:=jp scope env}) (RR acc iJ.locals) l') E b') E t) E r) E s:=by
 dsimp only[ME]at h;exists au h,iv,H,h1,h;exists au h,di,st₂,h2,h;split at h
 case isFalse=>cases h
 rename_i m;exists au h,ys,st₃,I,h4;obtain rfl|rfl:=gK h4;obtain stE|h5|rfl:=qG I;generalize hf:(λ w=>once x w (aI (ap G cf cs (bU G.glob (λ x=>scope.names.lookup x) ke)) λ a=>match a with
  |.int j=>aI (ap G cf cs (bU G.glob (λ x=>scope.names.lookup x) ve)) λ b=>ret (U (aJ.int j,b))
  |_=>Mu.Internal.bj))=f at h5
 refine hit _ _ _ _ _ _ _ _ _ _ S h1 E _ λ q v' r X p vv=>oW p vv h2 λ e e' o c f' z'=>?_
 subst e;refine wpAny_newObj_type ?_;have nI:=p.cR (h₁:=r.heap) (λ _ _ e=>e) (aS _);have nD:=p.cR z' (aS e'.objs.size);have P':=bP (Heap.lt_size f'.ue.get);refine qT (S.next X p) m' z' Y λ h' C n' k' hC hD old=>?_
 have oI:=old _ _ f'.ue.get;have hd₀:n'.DictOf (dW B.prog B.w) e'.objs.size []:=⟨_,#[],0,hD,⟨Y,Y,Y⟩,Y,λ e he=>by simp at he,.nil,.nil⟩
 have A':iB (bB h'.prog h'.w) A (.compLoop (.DictComp ke ve [⟨.Name x px,it,[],0⟩] scope pos) 0 ↥r.heap.objs.size ↥e'.objs.size (iJ scope env C)) (RR ↥e'.objs.size C) {r with heap:=n'}:=by
  refine codeAny_compLoop_testsD (LI h' st₂.n q r.heap.objs.size e'.objs.size di (aeb B e'.objs.size) f ys stE) ?_ (di.items.length+1)
   ⟨q,{st₂ with loc:=λ _=>F},di.items,0,o,_,[],ys,Y,.refl,k'.CX.r,⟨Y,cG _,f'.Nk.at λ o ho=>(old _ _ ho).2,f'.nt,k'.ue _ _ nI.1 oI.1 oI.2,f'.Tn⟩,k'.ue _ _ nD.1 hC.symm hD,⟨[],_,hD,hd₀,trivial⟩,by rw[li,jm];exact m,h5,Y⟩
  intro n t Q;refine hide λ Gz hG=>?_
  obtain L|st₃|rest|i|o|oD|acc|ys'|hn|P|c|f'|tD|⟨kvs,hh,hg,hd,ha⟩|sz|aE|l:=Q;cases rest with
  |nil=>
   obtain g1|rfl|rfl:=uq aE;rw[kh]at l;subst l;refine hG (f'.done c S.g.handled g1 λ h₆ r' I'=>?_);have g₆:=I' _ _ P'.symm tD.get;obtain ex|ra|lf:=k'.finish (o:=.dict (bv [] acc)) p P r' (tD.set g₆) nD hC Y Y (by show hJ _ _ _ _ _ ((L.put _ _ _).ad _) _;rw[show(L.put stE.n e'.objs.size e'.objs.size).ad stE.n=e'.objs.size from aa ..];exact hJ.ofInt (DictOf.of_get hd (g₆.trans hg.symm)) (ha.mono .put))
   exact post _ _ _ _ (X.trans ex) ra eN lf
  |cons z rest=>
   obtain a|g'|B'|g1|g2|g3|g4:=rD aE;rw[<-hf]at g2;obtain st₅|g7|g8:=uJ g2;exists au g8,kv,st₆,g9,g10;refine hG (f'.next c g1 λ x' D' tk o' vx a' L' E'=>rY ?_);have p':lc K d h' A L st₃ {t with heap:=D',toks:=tk} (iJ scope env C) (λ x=>scope.names.lookup x) cs:=⟨k'.CX.W,S.g,a',k'.CX.e.mono P⟩;have tD₃:=tD.bg (tk:=tk) P'.symm E';have sz':acc.length+rest.length+1<=1000:=sz;refine ja a'.side p'.side.e g vx _ _ λ t' _ l' c' d' _=>?_
   cases g7;rw[lz];refine bn ?_;rw[if_pos Y];refine hke _ _ _ _ _ _ _ _ _ _ (p'.side.next c' d') g9 _ _ λ H' kv' Q' i' j' vkv=>?_
   cases kv with
   |int j=>
    exists au g10,b,st₈,g11,g12;exists bk g12;rintro rfl rfl;obtain tj|rfl:=vkv;refine hve _ _ _ _ _ _ _ _ _ _ ((p'.side.next c' d').next i' j') g11 _ _ λ X' w' q' S' r' vw=>?_
    have ex:=(c'.trans i').trans S';have C':=tD₃.side a' r';have hlen2:kvs.length<=acc.length:=by rw[<-ha.length];exact bx (hV acc []) (hQ (jm _))
    rw[k'.prog,k'.w];refine wpAny_dictSet_pairs (knd:=dW B.prog B.w) (k:=j) (by simp[dW,lO]) (DictOf.of_get hd (C'.get.trans hg.symm)) (λ h₇ hm₇ hs₇=>?_) (by rw[eH];exact abk sz' hlen2);obtain o₇|_|_|ho₇|_:=id hm₇;obtain _|_|_|hoD|hcD|_:=id hd;cases hg.symm.trans hoD;exact cC _ (by rw[show n=_ from hn];exact cQ _) ⟨X',g',rest,_,o',o₇,acc++[(aJ.int j,b)],B',Y,P.trans ex,C'.other (tk:=q'.toks+1) (a'.kg r') (dC hcD.1 aL) hs₇,(L'.side a' r' ex).bg P' hs₇,C'.set ho₇,⟨_,_,ho₇,hm₇,by rw[iY];exact(ha.mono ex).set nz vw⟩,by rw[cE];simp only[eF,li];exact UU sz',g3,by rw[lv,<-l,<-g4];rfl⟩
   |_=>cases g10
 rw[k'.prog,k'.w]at A';exact codeAny_compStart_dict A' (uy (M:=Unit) (f'.Nk.at λ o e=>(old _ _ e).2) A')
def Still(B:Bk)(A:dF)(y:Lay)(N:St)(s:aN)(t:Sem al)(v:V):be:=∀(E:al->aN->be)(Q:al->aN->be),(∀D tk,VR N.n y v D->Q D {s with toks:=tk})->aZ (bB B.prog B.w) A t Q E s
theorem zm(r:R B y N s)(e:f0 B y N.n env kd cs){v:V}(C:kd x=U .cell\/kd x=U .free)(hc:kd x=U .free->(x==s!"__classdict__")=aj)(h:fK cs x N=U (v,st')):st'=N/\Still B A y N s (ma env x) v:=by
 obtain l|h0|h2|rfl:=uC h;obtain L|a|b|c:=e.cells x C;obtain rfl:L=l:=dT (a.symm.trans h0);obtain D|f|i:=(r.obj _ _ h2).2;cases D with
 |none=>exact i.elim
 |some I=>
  refine⟨Y,λ E Q k=>?_⟩;have fin:=k _ s.toks i;rcases e.kinds x with q|⟨m,X⟩
  .rcases C with C|C
   .exact wA e.kind (q.trans C) c f fin
   .exact He e.kind (q.trans C) c f fin (hc C)
  .exact wA e.kind X c f fin
theorem AD(r:R B y N s)(X:K.In B.root)(p:∀c S,G.cls c=U S->rT K c S){a v:V}(ha:VR N.n y a n)(h:jT G a name N=U (v,st')):st'=N/\Still B A y N s (getAttr n name ex) v:=by
 cases a with
 |ref l=>
  obtain o|h1|h2|rfl:=fV h;obtain c|fs|S|rfl|H|P|m|hc:=uo h2;have C:=p _ _ H;obtain _|rfl:=ha;obtain es|k|I|e|j:=r.inst h1;obtain o|hg|z:=j.get name;rw[m]at z;cases o with
  |none=>exact z.elim
  |some D=>exact⟨Y,λ E Q q=>W.get_value (r.ou X) I C.tz (W.findObj_own C.hasDict (C.fields name P) Y (by rw[W.lookIn_dict];exact hg)) (uT z hc) (q _ _ z)⟩
 |_=>exact aw h
theorem By(r:R B y N s){o v:V}(f:VR N.n y o o')(h:fD o (.str x) N=U (v,st')):
 st'=N/\(∃l es,o=.ref l/\N.H l=U (.dict es))/\Still B A y N s (lJ o' (.str x t)) v:=by
 obtain rfl|l|w|rfl|h1|h2:=kZ h;obtain _|rfl:=f;cases h2 with
 |dict es k C L z=>
  cases C;refine cY Y ⟨_,_,Y,h1⟩ ?_;obtain kvs|hd|X:=(r.dict h1).2.1 (ki L);have a:=X.at str_inj x;rw[z]at a;cases q:oL kvs x with
  |none=>rw[q]at a;exact a.elim
  |some I=>rw[q]at a;exact λ E Q k=>AQ (knd:=cy B.prog B.w) (k:=x) (by simp[cy,jK]) hd.mapOf q (k _ _ a)
 |list xs k j e=>cases e
 |tup xs k j e=>cases e
noncomputable def fU(cs:List (af×Loc))(a n:af)(k:af):M V:=aI (fK cs a) λ o=>aI (jT G o n) λ t=>fD t (.str k)
theorem pE{f:af->M V}(P:∀k v st',f k N=U (v,st')->st'=N):∀{ks:List af}{vs:List V}{st':St},lD f ks N=U (vs,st')->st'=N/\vs.length=ks.length/\∀(i:J) k,ks[i]?=U k->∃v,vs[i]?=U v/\f k N=U (v,N)
 |[],vs,st',h=>by rw[NI]at h;exists bk h;rintro rfl rfl;exact cY Y Y (λ i k e=>by simp at e)
 |x::r,vs,st',h=>by
  rw[Ck]at h;exists au h,v,H,h1,h;exists au h,c,st₂,h2,I;exists bk I;rintro rfl jg;have Q:=P _ _ _ h1;rw[Q]at h1 h2;obtain w|L|hi:=pE P h2;refine cY (jg.trans w) (by rw[eF,eF,L]) (λ i k e=>?_);cases i with
  |zero=>simp at e;subst e;exact cC v Y h1
  |succ i=>exact hi i k (by simpa using e)
theorem qk{α:Type}{o:Option α}{v:α}(h:(o.bind λ v=>U (v,N))=U (v,st')):st'=N:=by exists aM h,w,_,h2;cases h2;rfl
theorem t9{v:V}(h:fK cs x N=U (v,st')):st'=N:=qk h
theorem uL{a v:V}(h:jT G a name N=U (v,st')):st'=N:=by
 cases a with
 |ref l=>exact qk h
 |_=>exact aw h
theorem Ey{o i v:V}(h:fD o i N=U (v,st')):st'=N:=(kZ h).1
theorem sR{a n k:af}{v:V}(h:fU cs a n k N=U (v,st')):st'=N:=by unfold fU at h;exists au h,o,H,h1,h;exists au h,t,st₂,h2,I;obtain rfl:=t9 h1;obtain rfl:=uL h2;exact Ey I
theorem vq{v:V}{ks:List af}(h:gE v N=U (ks,st')):st'=N/\∃l es,v=.ref l/\N.H l=U (.dict es)/\es.all (λ e=>e.1.isStr)=ai/\es.length<=1000/\ks=es.filterMap λ e=>e.1.Ff:=by
 cases v with
 |ref l=>
  obtain o|h1|h2|rfl:=fV h;cases o with
  |dict es=>exists bY h2,q,I;cases I;exact⟨Y,Yp _ _ Y h1 q.1 q.2 Y⟩
  |_=>exact aw h2
 |_=>exact aw h
theorem KV.strs{es:List (aJ×V)}{kvs:List (af×al)}{n:J}{y:Lay}(a:KV n y aJ.str es kvs):(es.filterMap λ e=>e.1.Ff)=kvs.map (·.1):=
 gx.ind (C:=λ es kvs=>(es.filterMap λ e=>e.1.Ff)=kvs.map (·.1)) a Y λ e es d ds h _ _ X=>by obtain k|v:=e;cases h;exact congrArg (d.1::·) X
theorem uU(T:Tab K)(W:Ds K B)(r:R B y N s)(e:f0 B y N.n env kd cs){a n x k:af}{pa pn px ps:bJ}{v:V}(S:kd a=U .free)(a':(a==s!"__classdict__")=aj)(p:(a==s!"__debug__")=aj)(b':(x==s!"__debug__")=aj)
 (d':kd x=U .local)(e':N.loc x=U (.str k))(h:fU cs a n k N=U (v,N)):Still B A y N s (eval (.Subscript (.Attribute (.Name a pa) n pn) (.Name x px) ps) env) v:=by
 unfold fU at h;exists au h,o,H,h1,h;exists au h,t,st₂,h2,X;intro E Q q;obtain rfl|b:=zm (A:=A) r e (.inr S) (λ _=>a') h1;rw[uY];refine aW ?_;rw[I0,eJ Y];refine aW (A7 (b E _ λ o' tk i=>?_) p);have j:R B y H {s with toks:=tk}:=r.tok;refine aW (lH (aW (jJ ?_)));obtain rfl|P:=AD (A:=A) (ex:=ai) j W.ou T.cls i h2;refine P E _ λ t' c' vt=>?_
 refine aW (uj (bn ?_));refine aW (jJ (A7 ?_ b'));have C:R B y st₂ {s with toks:=c'}:=r.tok;obtain m|hn|hm:=C.ns;have z:=hm x;rw[e']at z;have g:env.kindOf x=U .local:=by
  rcases e.kinds x with q|⟨q,_⟩
  .exact q.trans d'
  .rw[d']at q;cases q
 cases qm:m x with
 |none=>rw[qm]at z;exact z.elim
 |some I=>rw[qm]at z;obtain tt|rfl:=z;refine Gk e.kind g (by rw[e.L];exact hn) qm ?_;refine aW (lH ?_);obtain _|⟨l,es,rfl,L⟩|c3:=By (A:=A) (t:=tt) C vt X;obtain T'|id|f|w:=jA C L (.inr (.inr ⟨_,Y⟩));obtain _|rfl:=vt;refine aW (dw f w ?_);rw[io Y];refine aW (wM (c3 E _ λ D f' c=>?_));exact aW (uj (bn (q _ _ c)))
theorem Bo{α:Type}{o:Option α}{u:af->Option V}{v:α}(h:(o.bind λ v=>U (v,N))=U (v,st')):(o.bind λ v=>U (v,{N with loc:=u}))=U (v,{N with loc:=u}):=by exists aM h,w,h1,h2;cases h2;rw[h1];rfl
theorem Ka{v:V}(h:fK cs x N=U (v,st')):fK cs x {N with loc:=u}=U (v,{N with loc:=u}):=Bo h
theorem J2{a v:V}(h:jT G a name N=U (v,st')):jT G a name {N with loc:=u}=U (v,{N with loc:=u}):=by
 cases a with
 |ref l=>exact Bo h
 |_=>exact aw h
theorem JU{o v:V}(h:fD o (.str x) N=U (v,st')):fD o (.str x) {N with loc:=u}=U (v,{N with loc:=u}):=by
 cases o with
 |ref l=>exact Bo h
 |_=>exact aw h
theorem wO{u:af->Option V}{a n k:af}{v:V}(h:fU cs a n k N=U (v,st')):fU cs a n k {N with loc:=u}=U (v,{N with loc:=u}):=by unfold fU at h⊢;exists au h,o,H,h1,h;exists au h,t,st₂,h2,I;obtain rfl:=t9 h1;obtain rfl:=uL h2;show(fK cs a {st₂ with loc:=u}).bind _=_;rw[Ka h1];show(jT G o n {st₂ with loc:=u}).bind _=_;rw[J2 h2];exact JU I
inductive LK(B:Bk)(y:Lay)(N:St)(I D a:ao)(kvs:List (af×al))(ep:J)(ys:List V)(n:J)(s:aN):Prop
 |mk (u:af->Option V) (i:J) (oI:b8) (vs:Array al) (k:J) (hn:n=kvs.length -i+1) (hi:i<=kvs.length) (r:R B y {N with loc:=u} s) (Nk:s.heap.IsKeyIter I a i kvs.length ep) (tI:sr B y {N with loc:=u} s I oI) (nt:NT oI)
  (hat:s.heap.DictAt (cy B.prog B.w) a kvs ep) (tD:sr B y {N with loc:=u} s D {cls:=.type "list",data:=.seq vs k}) (ha:dh N.n y (ys.take i) vs.toList)
theorem yU(T:Tab K){it:aB}{a n x:af}{pa pn pz ps px pos:bJ}{scope:c9}(hit:Ev K d cf it)
 (S:lc K d B A y N s env kd cs)(k':ey kd scope=ai)(g:scope.names.lookup x=U .local)(hka:scope.names.lookup a=U .free)(ha1:(a==s!"__classdict__")=aj)(S':(a==s!"__debug__")=aj)(hx2:(x==s!"__debug__")=aj){v:V}
 (h:ap G cf cs (.iK a n x (bU G.glob kd it)) N=U (v,st'))
 {E:al->aN->be}(RR:al->ao->mr->aN->be)
 (post:∀y' D C s',Ext N.n y st'.n y'->R B y' st' s'->VR st'.n y' v ↥D->Left B y' st' s' C->RR ↥D C (.ok .next) s'):
 aZ (bB B.prog B.w) A (eval it env) (λ xv r=>aZ (bB B.prog B.w) A (mx xv) (λ X' P=>aZ (bB B.prog B.w) A (newList []) (λ acc c'=>aZ (bB B.prog B.w) A (oN scope env.globals (dP env scope.names []) [] env.qual F .none (U env)) (λ iJ i'=>iB (bB B.prog B.w) A (.compStart (.ListComp (.Subscript (.Attribute (.Name a pa) n pn) (.Name x pz) ps) [⟨.Name x px,it,[],0⟩] scope pos) 0 X' acc {iJ with scope:=jp scope env}) (RR acc iJ.locals) i') E c') E P) E r) E s:=by
 dsimp only[Jv]at h;exists au h,iv,H,h1,h;exists au h,ks,st₂,h2,h;refine au h ?_;intro ys st₃ I h4;obtain rfl|l|es|rfl|L|hes|z|z':=vq h2;obtain h3a|t|hitem:=pE (f:=fU cs a n) (λ k v st' h=>sR h) I;subst h3a;obtain rfl|rfl:=gK h4;refine hit _ _ _ _ _ _ _ _ _ _ S h1 E _ λ a' v' r X j vv=>?_
 have e':=S.next X j;obtain j'|rfl:=vv;obtain kvs|hd|kv:=(j.dict L).2.1 hes;obtain ep|r':=hd.dictAt;have hkk:ks=kvs.map (·.1):=by rw[z',kv.strs]
 have hkl:kvs.length<=1000:=by rw[<-kv.length];exact z
 refine wpAny_pyIter_dict (j.ng L Y) r' ?_;have nI:=j.cR (h₁:=r.heap) (λ _ _ e=>e) (aS _);generalize hh₂:r.heap.push {cls:=.type "dict_keyiterator",data:=.fields #[.ref (a'.ad l),.int 0 0,.int kvs.length 0,.int ep 0]}=d'
 have n':∀b o,r.heap.get? b=U o->d'.get? b=U o:=λ b o e=>by rw[<-hh₂];exact Heap.get?_push_of_some _ e
 have hI:d'.IsKeyIter r.heap.objs.size (a'.ad l) 0 kvs.length ep:=by rw[<-hh₂];exact⟨_,Heap.get?_push_size _ Y,Y,Y⟩
 clear hh₂;obtain oI|hoI|hcI|_:=id hI;refine wpAny_newList ?_;have nD:=j.cR n' (aS d'.objs.size);have A':=bP (Heap.lt_size hoI);obtain od|C':=j.live L Y;refine qT (S.next X j) k' n' Y λ f' C l' h' hC hD old=>?_
 have hat':l'.DictAt (cy f'.prog f'.w) (a'.ad l) kvs ep:=by rw[h'.prog,h'.w];exact r'.at' λ o e=>(old _ _ (n' _ _ e)).2
 have hdI:a'.ad l≠r.heap.objs.size:=bP (Heap.lt_size C');have hdD:a'.ad l≠d'.objs.size:=bP (Heap.lt_size (n' _ _ C'));have q:=old _ _ hoI;have o':iB (bB f'.prog f'.w) A (.compLoop (.ListComp (.Subscript (.Attribute (.Name a pa) n pn) (.Name x pz) ps) [⟨.Name x px,it,[],0⟩] scope pos) 0 ↥r.heap.objs.size ↥d'.objs.size (iJ scope env C)) (RR ↥d'.objs.size C) {r with heap:=l'}:=by
  refine codeAny_compLoop_list (LK f' a' st₃ r.heap.objs.size d'.objs.size (a'.ad l) kvs ep ys) ?_ (kvs.length+1)
   ⟨λ _=>F,0,oI,#[],0,Y,cG _,h'.CX.r,hI.at λ o e=>(old _ _ e).2,h'.ue _ _ nI.1 q.1 q.2,dC hcI aL,hat',h'.ue _ _ nD.1 hC.symm hD,trivial⟩
  intro m P Q;refine hide λ Gz hG=>?_
  obtain u|i|oI|vs|kL|hn|hile|c|hI₂|tI|ntI|P'|tD|t':=Q;cases hxi:kvs[i]?with
  |none=>cases ru hile (Jw.mp hxi);refine hG (wpAny_pyNext_dict_end S.g.handled hI₂ P' hxi λ h₆ x'=>?_);rw[wD (by rw[t,hkk,bS];exact aS _)]at t';have Q':=x' _ _ A'.symm tD.get;obtain ex|ra|lf:=h'.finish (stE:={st₃ with loc:=u}) (o:=⇑ys) j .refl (c.Bf (tk:=P.toks) x' tI.get ntI tI.aO tI.jU tI.un) (tD.set Q') nD hC Y Y ⟨vs,kL,(congrArg h₆.get? (aa ..)).trans Q',t'.mono .put⟩;exact post _ _ _ _ (X.trans ex) ra eN lf
  |some p=>
   have H':i<kvs.length:=(r9.mp hxi).1;obtain w|hw|hpi:=hitem i p.1 (by rw[hkk,pr,hxi];rfl);refine hG (wpAny_pyNext_dict_item hI₂ P' hxi λ key p' hkey hI₃ q'=>rY ?_);obtain tk|rfl:=IB hkey;have b':R f' a' {st₃ with loc:=u} {P with heap:=p',toks:=P.toks}:=tI.other c ntI q';have m':lc K d f' A a' {st₃ with loc:=u} {P with heap:=p',toks:=P.toks} (iJ scope env C) (λ x=>scope.names.lookup x) cs:=⟨h'.CX.W,S.g,b',h'.CX.e⟩;obtain oI₃|hoI₃|hcI₃|_:=id hI₃;obtain mm|L'|hm:=b'.ns;have E':Env.kindOf (iJ scope env C) x=U .local:=lookup_relabel_local g;refine IR E' (by rw[h'.CX.e.L];exact L') (λ h₅ hn₅ B'=>?_) h'.CX.e.Db;rw[h'.CX.e.L]at hn₅ B';have g':R f' a' {st₃ with loc:=ah u x (U (.str p.1))} {P with heap:=h₅,toks:=P.toks+1}:=b'.JG (v:=.str p.1) ⟨tk,Y⟩ hm hn₅ B';obtain oa|D':=b'.live (l:=l) L Y;have hdL:a'.ad l≠f'.L:=(b'.new l _ L Y).2;refine uU (A:=A) (pa:=pa) (pn:=pn) (px:=pz) (ps:=ps) T h'.CX.W g' h'.CX.e hka ha1 S' hx2 g (aa ..) (wO hpi) _ _ λ w' tk' vw=>?_
   have hvz:vs.size<=sizeLine:=by rw[eH,<-t'.size,nx];exact afp H' hkl
   have I':=((tD.bg (tk:=P.toks) A'.symm q').loc (u:=ah u x (U (.str p.1)))).bg (tk:=tk') tD.jU B';refine sp wr ⟨_,I'.get,Y⟩ Ba (zX _ _) (zu _ vs kL _ hvz) ⟨I'.get,?_⟩;have hs:=Heap.SameBut.update (a:=d'.objs.size) (h:=h₅) (f:=z5 λ x=>x.push w');have tI₅:=(((tI.set (tk:=P.toks) hoI₃).loc (u:=ah u x (U (.str p.1)))).bg (tk:=tk') tI.jU B').bg (tk:=tk') A' hs;exact cC (kvs.length -(i+1)+1) (acj H' hn) ⟨ah u x (U (.str p.1)),i+1,oI₃,_,_,Y,H',I'.other (g'.tok (tk:=tk')) (dC Y aL) hs,(hI₃.at λ o e=>(B'.2 _ tI.jU).trans e).at λ o e=>(hs.2 _ A').trans e,tI₅,dC hcI₃ aL,
    ((P'.at' λ o e=>(q'.2 _ hdI).trans e).at' λ o e=>(B'.2 _ hdL).trans e).at' λ o e=>(hs.2 _ hdD).trans e,I'.set (IsL.update I'.get λ x=>x.push w'),by rw[Ac,List.take_add_one,hw];exact t'.append ⟨vw,trivial⟩⟩
 rw[h'.prog,h'.w]at o';exact Gg o' (wpAny_pyIter_keyiter (hI.at λ o e=>(old _ _ e).2) o')
def uV(K:W.Frag)(d:J)(cf:V->List V->M V)(e:aB)(scope:c9)(it:aB)(n:Sem al):be:=
 ∀B A y N s env kd cs v st',lc K d B A y N s env kd cs->ap G cf cs (bU G.glob kd e) N=U (v,st')->
  ey kd scope=ai/\gW it=ai/\∀(E:al->aN->be)(b:al->ao->mr->aN->be),
   (∀y' D C s',Ext N.n y st'.n y'->R B y' st' s'->VR st'.n y' v ↥D->Left B y' st' s' C->b ↥D C (.ok .next) s')->
   aZ (bB B.prog B.w) A (eval it env) (λ x r=>aZ (bB B.prog B.w) A (mx x) (λ a z=>aZ (bB B.prog B.w) A n (λ acc w=>
    aZ (bB B.prog B.w) A (oN scope env.globals (dP env scope.names []) [] env.qual F .none (U env)) (λ iJ i=>
     iB (bB B.prog B.w) A (.compStart e 0 a acc {iJ with scope:=jp scope env}) (b acc iJ.locals) i) E w) E z) E r) E s
theorem Left.obj(h:Left B y N s C):∃o,s.heap.get? C=U o/\NT o:=by obtain m|o|es|ep|f|hd|_:=h.ns;exact cC o f (.inr λ xs k q=>by rw[hd]at q;cases q)
theorem mH{env:dA}(h:gW it=ai)(z:al):foldedSetIterable it env z=pure z:=by cases it<;>first|rfl|cases h
theorem wJ{g:jE}(hc:uV K d cf e scope it n)(hg:g.iter=it)(r:clausesOf e=g::i)
 (P:∀env,eval e env=comprehension e scope env p n aj (eval it env)):Ev K d cf e:=by
 intro B A y N s env kd cs v st' S h;obtain w|H|a:=hc _ _ _ _ _ _ _ _ _ _ S h;intro E Q q;rw[P];obtain X|t|k|b:=eU w;refine Fw (use:=F) r (by rw[hg];exact mH H) (lj (mj S.e w)) X k (a E (λ acc C=>compPost (bB B.prog B.w) A E F Q acc C) λ y' D C s' ex j c L=>?_);obtain m|hm:=L.ns;obtain o|f|nt:=L.obj;exact⟨m,hm,λ h' hs=>q y' _ {s' with heap:=h'} ex (j.other (tk:=s'.toks) hs f nt L.aO L.jU L.un.ad L.un.dd) c⟩
theorem xW{e:aB}{scope:c9}{it:aB}{f':Sem al}{p:bJ}{g:jE}{gs:List jE}{x:af}{px pos:bJ}(hc:uV K d cf e scope it f')(hg:g.iter=it)(b':clausesOf e=g::gs)
 (k:∀env,eval e env=comprehension e scope env p f' aj (eval it env))
 (hu:∀env use,evalThenUse e env use=(do let _<-comprehension e scope env p f' aj (eval it env) (U use)))
 (m':∀env,∃b,rF e (U (.Name x px)) pos.line env=pure b):nX K d cf (.Assign [.Name x px] e pos):=by
 intro B A y N s env kd cs fl st' S h;dsimp only[yZ]at h;cases ht:gv kd x with
 |none=>rw[ht]at h;exact(oj h).elim
 |some t=>
  rw[ht]at h;dsimp only[Am,k8,CT]at h;exists au h,v,H,h1,h;exists au h,I,st₂,h2,a;exists bk a;rintro rfl rfl;obtain b|hb:=m' env;cases b with
  |false=>
   refine λ E Q q=>B9 (wJ hc hg b' k _ _ _ _ _ _ _ _ _ _ S h1 E _ λ l w r X j vv=>?_) hb
   have a':=S.next X j;exact hN j a'.e ht vv h2 E _ λ n _ z P c _=>q _ _ _ (X.trans P) c Y
  |true=>
   intro E Q q;obtain d'|c'|g':=hc _ _ _ _ _ _ _ _ _ _ S h1;obtain k1|k2|k3|k4:=eU d';rw[exec_Assign_Name_used _ _ _ _ hb,hu];refine aW (lH (aW (aW ?_)));refine Fw (use:=U (oO (.Name x px) env)) b' (by rw[hg];exact mH c') (lj (mj S.e d')) k1 k3
    (g' E (λ acc C=>compPost (bB B.prog B.w) A E (U (oO (.Name x px) env)) _ acc C) λ y' D C s' ex r' vv L=>?_)
   show aZ _ _ (oO (.Name x px) env ↥D) _ _ _;obtain m|hm:=L.ns;obtain o|i|nt:=L.obj;have f:=S.next ex r';refine rY (hN r'.side f.side.e ht vv h2 E _ λ n _ z P c _=>?_);have k':=r'.kg c;have i':=r'.sh c i L.jU L.un;have j':=r'.lK c i L.jU L.un;have l':z.heap.Ns C m:=by obtain o'|es|ep|e'|q':=hm;have:o'=o:=dT (e'.symm.trans i);subst this;exact⟨o',es,ep,i',q'⟩
   refine cC m l' (λ h' hs=>?_);exact bn (bn (q n _ {z with heap:=h'} (ex.trans P) (k'.other (tk:=z.toks) hs i' nt L.aO L.jU j'.ad j'.dd) Y))
theorem mu{kd a:af->Option bM}(h:ui G.glob kd a gens=U p):
 ∃x px it ifs,gens=[⟨.Name x px,it,ifs,0⟩]/\gW it=ai/\p=(x,bU G.glob kd it,eD G.glob a ifs):=by
 cases gens with
 |nil=>cases h
 |cons g r=>cases r with
  |cons=>cases g;cases h
  |nil=>obtain g|it|ifs|k:=g;have h:(if(k==0&&gW it)=ai then(ft g).map λ x=>(x,bU G.glob kd it,eD G.glob a ifs)else F)=U p:=h;refine bY h ?_;intro C h1;obtain x|hn|h2:=mG.mp h1;clear h h1;obtain px|rfl:=fk hn;obtain o|hs:=dL.mp C;obtain rfl:=beq_iff_eq.mp o;exact abn x px it ifs Y hs h2.symm
def oE(K:W.Frag)(d:J)(cf:V->List V->M V)(gens:List jE):be:=∀g∈gens,Ev K d cf g.iter/\pA K d cf g.ifs
theorem yP(h:eD G.glob kd es=[]):es=[]:=by
 cases es with
 |nil=>rfl
 |cons e r=>cases h
theorem xn{a n z:af}(h:pureOf e=U (a,n,z)):∃P r X S,e=.Subscript (.Attribute (.Name a P) n r) (.Name z X) S:=by obtain⟨o,i⟩|h1|h:=pM.mp h;obtain⟨b,m⟩|h2|h:=pM.mp h;obtain c|I|h:=pM.mp h;obtain w|D|h:=mG.mp h;cases h;obtain _|rfl:=Ca h1;obtain _|rfl:=xC h2;obtain _|rfl:=fk I;obtain _|rfl:=fk D;exact Lx _ _ _ _ Y
theorem za{kd a:af->Option bM}(e:[(⟨.Name x px,it,ifs,0⟩:jE)]=[⟨.Name z pz,b,j,0⟩])(h:p=(z,bU gl kd b,eD gl a j)):p=(x,bU gl kd it,eD gl a ifs):=by cases e;exact h
theorem not_of{b:bG}(h:(!b)=ai):b=aj:=by
 cases b with
 |false=>rfl
 |true=>cases h
theorem FV{scope:c9}(h:ap G cf cs (NC q scope (x,t,b) e) N=U r):
 (∃a n,q=U (a,n,x)/\b=[]/\scope.names.lookup a=U .free/\(a==s!"__classdict__")=aj/\(a==s!"__debug__")=aj/\(x==s!"__debug__")=aj/\ap G cf cs (.iK a n x t) N=U r)\/ap G cf cs (.fR e x t b) N=U r:=by
 cases q with
 |none=>exact .inr h
 |some q=>cases b with
  |cons=>exact .inr h
  |nil=>obtain a|n|z:=q;obtain hc|h:=k6 (show ap G cf cs (if(z==x&&scope.names.lookup a==U .free&&a !=s!"__classdict__"&&a !=s!"__debug__"&&z !=s!"__debug__")=ai then .iK a n x t else .bad) N=U r from h);obtain hc|p:=dL.mp hc;obtain hc|D:=dL.mp hc;obtain hc|I:=dL.mp hc;obtain hc|h2:=dL.mp hc;obtain rfl:=beq_iff_eq.mp hc;exact .inl ⟨a,n,Y,Y,beq_iff_eq.mp h2,not_of I,not_of D,not_of p,h⟩
set_option tactic.hygienic true in
theorem rQ(T:Tab K)(hit:Ev K d cf it)(e:pA K d cf ifs)(c:Ev K d cf elt):
 uV K d cf (.ListComp elt [⟨.Name x px,it,ifs,0⟩] scope pos) scope it (newList []):=by
 intro B A y N s env kd cs v st' S h;rw[vP]at h;obtain p|hg|h:=mL h;obtain hc|h:=k6 h;obtain _|_|_|_|f|H|ep:=mu hg;obtain rfl:=za f ep;obtain b|P:=dL.mp hc;have P:=beq_iff_eq.mp P;refine cY b (by cases f;exact H) (λ E C post=>?_);rcases FV h with⟨a,n,hp,hi,X,D,q,j,k⟩|h
 .clear h;obtain rfl:=yP hi;obtain _|_|_|_|rfl:=xn hp;exact yU T hit S b P X D q j k C post
 .exact zn hit c e S b P h C post
set_option tactic.hygienic true in
theorem rC(hit:Ev K d cf it)(a:Ev K d cf k)(e:Ev K d cf c):
 uV K d cf (.DictComp k c [⟨.Name x px,it,ifs,0⟩] scope pos) scope it newDict:=by
 intro B A y N s env kd cs v st' S h;rw[wg]at h;obtain p|hg|h:=mL h;obtain hc|h:=k6 h;obtain _|_|_|_|f|H|ep:=mu hg;obtain rfl:=za f ep;obtain hc|g:=dL.mp hc;obtain b|P:=dL.mp hc;obtain rfl:=yP (IT.mp g);exact cY b (by cases f;exact H) (λ E C post=>Ab hit a e S b (beq_iff_eq.mp P) h C post)
theorem sx:∃b,rF e (U (.Name x px)) n env=pure b:=by cases e<;>exact⟨_,Y⟩
noncomputable def plainT:T->bG
 |.not _|.all _|.any _|.cmp ..|.ite ..=>aj
 |_=>ai
theorem yJ(h:plainT t=ai)(w:M V):c7 G cf cs t w=aI w truth:=by cases t<;>first|rfl|cases h
theorem tsv{e:aB}(P:∀env whole,isTrue e env whole=(do let v<-whole;standAt e.pos;lV [v] (truthy v)))(hp:∀kd,plainT (bU G.glob kd e)=ai)(h:Ev K d cf e):Ts K d cf e:=
 I4 P (λ kd cs w=>yJ (hp kd) w) h
theorem qi(h:∀kd cs N v st',ap G cf cs (bU G.glob kd e) N=U (v,st')->False):Ev K d cf e:=λ _ _ _ _ _ _ _ _ _ _ _ l=>(h _ _ _ _ _ l).elim
theorem Mc(h:∀kd cs N b st',c7 G cf cs (bU G.glob kd e) (ap G cf cs (bU G.glob kd e)) N=U (b,st')->False):Ts K d cf e:=λ _ _ _ _ _ _ _ _ _ _ _ l=>(h _ _ _ _ _ l).elim
theorem eu{c:bG}{a b:T}(ha:plainT a=ai)(hb:plainT b=ai):plainT (if c=ai then a else b)=ai:=by
 cases c with
 |true=>exact ha
 |false=>exact hb
theorem oX{α:Type}{o:Option α}{f:α->T}(h:∀a,plainT (f a)=ai):plainT (oT (o.map f))=ai:=by
 cases o with
 |none=>rfl
 |some a=>exact h a
theorem A8{kd:af->Option bM}:plainT (iN gl kd x)=ai:=by
 unfold iN;cases kd x with
 |none=>rfl
 |some k=>cases k with
  |cell=>exact eu Y Y
  |free=>exact eu Y Y
  |globalImplicit=>dsimp only;cases gl x<;>rfl
  |_=>rfl
theorem BN:plainT (NC q scope (x,t,b) e)=ai:=by
 cases q with
 |none=>rfl
 |some q=>cases b with
  |cons=>rfl
  |nil=>exact eu Y Y
theorem qQ:plainT (bU G.glob kd (.ListComp elt gens scope pos))=ai:=
 oX λ _=>eu BN Y
theorem rb{k v:aB}:plainT (bU G.glob kd (.DictComp k v gens scope pos))=ai:=
 oX λ _=>eu Y Y
theorem mK(h:ap G cf cs (oT ((ui G.glob kd a gens).map f)) N=U r)(hg:oE K d cf gens):∃x px it ifs,gens=[⟨.Name x px,it,ifs,0⟩]/\Ev K d cf it/\pA K d cf ifs:=by obtain p|h1|_:=mL h;obtain x|px|it|ifs|rfl|_|_:=mu h1;exact acR x px it ifs Y (hg _ (.head _))
theorem Et(T:Tab K)(hg:oE K d cf gens)(c:Ev K d cf elt):Ev K d cf (.ListComp elt gens scope pos):=by intro B A y N s env kd cs v st' S h;obtain x|px|it|ifs|rfl|g1|g2:=mK (vP (kd:=kd)▸h) hg;exact wJ (rQ T g1 g2 c) Y Y (λ _=>rfl) _ _ _ _ _ _ _ _ _ _ S h
theorem EC{k v:aB}(hg:oE K d cf gens)(C:Ev K d cf k)(z:Ev K d cf v):Ev K d cf (.DictComp k v gens scope pos):=by intro B A y N s env kd cs w st' S h;obtain x|px|it|ifs|rfl|g1|g2:=mK (wg (kd:=kd)▸h) hg;exact wJ (rC g1 C z) Y Y (λ _=>rfl) _ _ _ _ _ _ _ _ _ _ S h
theorem FL(T:Tab K){elt:aB}{gens:List jE}{scope:c9}{pos p a:bJ}{m:af}(hg:oE K d cf gens)(c:Ev K d cf elt):nX K d cf (.Assign [.Name m p] (.ListComp elt gens scope pos) a):=by intro B A y N s env kd cs fl st' S h;obtain t|_|h':=fT (yZ (kd:=kd)▸h);rw[CT]at h';exists au h',v,H,h1,_;rw[vP]at h1;obtain x|px|it|ifs|rfl|g1|g2:=mK h1 hg;exact xW (rQ T g1 g2 c) Y Y (λ _=>rfl) (λ _ _=>rfl) (λ _=>sx) _ _ _ _ _ _ _ _ _ _ S h
theorem Hh{k v:aB}{gens:List jE}{scope:c9}{pos p a:bJ}{m:af}(hg:oE K d cf gens)(C:Ev K d cf k)(z:Ev K d cf v):nX K d cf (.Assign [.Name m p] (.DictComp k v gens scope pos) a):=by intro B A y N s env kd cs fl st' S h;obtain t|_|h':=fT (yZ (kd:=kd)▸h);rw[CT]at h';exists au h',w,H,h1,_;rw[wg]at h1;obtain x|px|it|ifs|rfl|g1|g2:=mK h1 hg;exact xW (rC g1 C z) Y Y (λ _=>rfl) (λ _ _=>rfl) (λ _=>sx) _ _ _ _ _ _ _ _ _ _ S h
end
section
set_option maxHeartbeats 4000000
section
variable{d:J}{K:W.Frag}{cf:V->List V->M V}
theorem eA(h:∀kd,bU G.glob kd e=.bad):Ev K d cf e/\Ts K d cf e:=⟨Oe h,Om h⟩
theorem both{e:aB}(P:∀env whole,isTrue e env whole=(do let v<-whole;standAt e.pos;lV [v] (truthy v)))(hp:∀kd,plainT (bU G.glob kd e)=ai)(h:Ev K d cf e):Ev K d cf e/\Ts K d cf e:=⟨h,tsv P hp h⟩
theorem tv{lo hi:Option aB}:Ev K d cf (.Subscript o (.Slice lo hi (U s) p) pos):=by
 refine qi λ kd cs N v st' h=>?_
 obtain a|H|h1|h:=bH (show aI (ap G cf cs (bU G.glob kd o)) (λ a=>aI Mu.Internal.bj λ b=>fD a b) N=_ from h);cases h
mutual
theorem iR(T:Tab K)(I:dN K d cf):(e:aB)->Ev K d cf e/\Ts K d cf e
 |.Constant c k p=>both (λ _ _=>rfl) (λ kd=>by cases c<;>rfl) KX
 |.Name x p=>both (λ _ _=>rfl) (λ kd=>eu Y A8) vX
 |.BoolOp .And vs p=>⟨qi (λ kd cs N v st' h=>by cases h),SW (vF T I vs).2.2.1⟩
 |.BoolOp .Or vs p=>⟨qi (λ kd cs N v st' h=>by cases h),TM (vF T I vs).2.2.2.1⟩
 |.BinOp l op r p=>both (λ _ _=>rfl) (λ kd=>oX λ _=>rfl) (R3 (iR T I l).1 (iR T I r).1)
 |.UnaryOp .USub x p=>both (λ _ _=>rfl) (λ kd=>rfl) (Rw (iR T I x).1)
 |.UnaryOp .Not x p=>⟨qi (λ kd cs N v st' h=>by cases h),Qk (iR T I x).2⟩
 |.UnaryOp .UAdd x p=>eA λ kd=>rfl
 |.UnaryOp .Invert x p=>eA λ kd=>rfl
 |.IfExp c a b p=>⟨GZ (iR T I c).2 (iR T I a).1 (iR T I b).1,Mc λ kd cs N v st' h=>by cases h⟩
 |.Dict ks vs p=>both (λ _ _=>rfl) (λ kd=>rfl) (ML (vF T I vs).2.1)
 |.List es p=>both (λ _ _=>rfl) (λ kd=>rfl) (LJ (vF T I es).1)
 |.Tuple es k p=>both (λ _ _=>rfl) (λ kd=>rfl) (Rq (vF T I es).1)
 |.ListComp elt gens scope p=>both (λ _ _=>rfl) (λ kd=>qQ) (Et T (VV T I gens) (iR T I elt).1)
 |.DictComp k v gens scope p=>both (λ _ _=>rfl) (λ kd=>rb) (EC (VV T I gens) (iR T I k).1 (iR T I v).1)
 |.Compare l [op] [r] p=>⟨Sa (iR T I l).1 (iR T I r).1,So (iR T I l).1 (iR T I r).1⟩
 |.Compare l [] cs p=>eA λ kd=>rfl
 |.Compare l (_::_::_) cs p=>eA λ kd=>rfl
 |.Compare l [_] [] p=>eA λ kd=>rfl
 |.Compare l [_] (_::_::_) p=>eA λ kd=>rfl
 |.Call f args [] p=>by
  cases f with
  |Attribute o name m=>exact both (λ _ _=>rfl) (λ kd=>eu Y Y) (Km T I (iR T I o).1 (vF T I args).1)
  |Name x g=>exact both (λ _ _=>rfl) (λ kd=>eu Y Y) (N4 T I (vF T I args).1)
  |_=>exact eA λ kd=>rfl
 |.Call f args (_::_) p=>by cases f<;>exact eA λ kd=>rfl
 |.Attribute o name p=>both (λ _ _=>rfl) (λ kd=>eu Y Y) (L1 T (iR T I o).1)
 |.Subscript o i p=>by
  have h1:=(iR T I o).1;have h2:=(iR T I i).1;cases i with
  |Slice lo hi s j=>cases s with
   |none=>exact both (λ _ _=>rfl) (λ kd=>rfl) (Ii h1 (okO T I lo) (okO T I hi))
   |some s=>exact both (λ _ _=>rfl) (λ kd=>rfl) tv
  |_=>exact both (λ _ _=>rfl) (λ kd=>rfl) (Qq Y h1 h2)
 |.NamedExpr ..|.Lambda ..|.Set ..|.SetComp ..|.GeneratorExp ..|.Await ..|.Yield ..|.YieldFrom ..|.FormattedValue ..|.JoinedStr ..|.Starred ..|.Slice ..=>eA λ kd=>rfl
theorem vF(T:Tab K)(I:dN K d cf):(es:List aB)->Qf K d cf es/\uZ K d cf es/\HN K d cf es/\HD K d cf es/\pA K d cf es
 |[]=>⟨L2,trivial,HZ,K7,Oh⟩
 |e::r=>
  have P:=iR T I e;have i:=vF T I r
  ⟨GN P.1 i.1,⟨P.1,i.2.1⟩,DP P.2 i.2.2.1,Fa P.2 i.2.2.2.1,Gy P.2 i.2.2.2.2⟩
theorem okO(T:Tab K)(I:dN K d cf):(o:Option aB)->Xw K d cf o
 |none=>HL
 |some e=>Fz (iR T I e).1
theorem VV(T:Tab K)(I:dN K d cf):(i:List jE)->oE K d cf i
 |[]=>λ _ hg=>absurd hg eI
 |⟨t,it,ifs,a⟩::r=>λ g hg=>by
  rcases dK.mp hg with rfl|hg
  .exact⟨(iR T I it).1,(vF T I ifs).2.2.2.2⟩
  .exact VV T I r g hg
end
end
end
section
set_option maxHeartbeats 4000000
section
variable{d:J}{K:W.Frag}{cf:V->List V->M V}
theorem iw(h:∀kd,uw G.glob kd t=.bad):nX K d cf t:=by intro B A y N s env kd cs fl st' S l;rw[h]at l;exact(oj l).elim
theorem Bp(h:∀kd,bU G.glob kd e=.bad):nX K d cf (.Assign [.Name x g] e p):=by
 intro B A y N s env kd cs fl st' S l;dsimp only[yZ]at l;cases ht:gv kd x with
 |none=>rw[ht]at l;exact(oj l).elim
 |some t=>rw[ht]at l;obtain v|H|h1|_:=bH (show aI (ap G cf cs (bU G.glob kd e)) (λ v=>aI (ff cs t v) λ _=>ret Fl.next) N=_ from l);rw[h]at h1;exact(eB h1).elim
theorem Mp(T:Tab K)(I:dN K d cf):nX K d cf (.Assign [.Name x g] e p):=by
 cases hn:nL e with
 |true=>exact Qo hn (iR T I e).1
 |false=>cases e with
  |ListComp elt gens scope ep=>exact FL T (VV T I gens) (iR T I elt).1
  |SetComp=>exact Bp λ kd=>rfl
  |DictComp k v gens scope ep=>exact Hh (VV T I gens) (iR T I k).1 (iR T I v).1
  |_=>cases hn
theorem LF(T:Tab K)(I:dN K d cf):(es:List aB)->nX K d cf (.Assign [.Tuple es k q] e p)
 |[_,_]=>MC (iR T I e).1
 |[]|[_]|_::_::_::_=>iw λ kd=>rfl
theorem IX(T:Tab K)(I:dN K d cf):nX K d cf (.Assign [t] e p):=by
 cases t with
 |Name x g=>exact Mp T I
 |Attribute o n q=>exact NS T (iR T I o).1 (iR T I e).1
 |Subscript o i q=>exact NK (iR T I o).1 (iR T I i).1 (iR T I e).1
 |Tuple es k q=>exact LF T I es
 |_=>exact iw λ kd=>rfl
theorem LR(T:Tab K)(I:dN K d cf):nX K d cf (.AugAssign t op e p):=by
 cases t with
 |Name x g=>exact SV (iR T I e).1
 |Attribute o n q=>exact Ob T (iR T I o).1 (iR T I e).1
 |Subscript o i q=>exact Ou (iR T I o).1 (iR T I i).1 (iR T I e).1
 |_=>exact iw λ kd=>rfl
end
end
section
set_option maxHeartbeats 4000000
section
variable{d:J}{K:W.Frag}{cf:V->List V->M V}
mutual
theorem okS(T:Tab K)(I:dN K d cf):(t:cJ)->nX K d cf t
 |.Return F p=>Af
 |.Return (U e) p=>ET (iR T I e).1
 |.Assign [t] e p=>IX T I
 |.Assign [] e p=>iw λ kd=>rfl
 |.Assign (_::_::_) e p=>iw λ kd=>rfl
 |.AugAssign t op e p=>LR T I
 |.While c a [] p=>Jy (iR T I c).2 (Dw T I a)
 |.While c a (_::_) p=>iw λ kd=>rfl
 |.If c a b p=>Wo (iR T I c).2 (Dw T I a) (Dw T I b)
 |.Expr e p=>Np (iR T I e).1
 |.Pass p=>M8
 |.Break p=>KU
 |.Continue p=>y0
 |.For g it a [] p=>SM (iR T I it).1 (Dw T I a)
 |.For g it a (_::_) p=>iw λ kd=>rfl
 |.FunctionDef ..|.AsyncFunctionDef ..|.ClassDef ..|.Delete ..|.TypeAlias ..|.AnnAssign ..|.AsyncFor ..|.With ..|.AsyncWith ..|.Match ..|.Raise ..|.Try ..|.TryStar ..|.Assert ..|.Import ..|.ImportFrom ..|.Global ..|.Nonlocal ..=>iw λ kd=>rfl
theorem Dw(T:Tab K)(I:dN K d cf):(b:List cJ)->Po K d cf b
 |[]=>MS
 |t::r=>FW (okS T I t) (Dw T I r)
end
theorem Dj(T:Tab K)(I:dN K d cf):BodyOk K d cf:=λ B A y N s env kd cs body fl st' W g r e h=>Dw T I body B A y N s env kd cs fl st' ⟨W,g,r,e⟩ h
end
theorem qp{K:W.Frag}(T:Tab K):∀d,dN K d (aq G d)
 |0=>λ B A y N s f e as q v st' W g r P has h=>by cases h
 |d+1=>Ak T (Dj T (qp T d))
theorem Hf{K:W.Frag}(T:Tab K)(d:J):BodyOk K d (aq G d):=Dj T (qp T d)
end
section
variable{B:Bk}{A:dF}{y:Lay}{N st':St}{s:aN}{d:J}{K:W.Frag}{cf:V->List V->M V}{env:dA}{kd:af->Option bM}{cs:List (af×Loc)}
theorem R.z7(r:R B y N s){root aO:Heap}(h1:∀b o,root.get? b=U o->aO.get? b=U o)(h2:∀b o,aO.get? b=U o->B.aO.get? b=U o)(nl:root.NoLimit)(nc:∀l o,N.H l=U o->o.cL=aj):R {B with root:=root,aO:=aO} y N s:=by
 have nb:∀{b:ao},B.aO.get? b=F->aO.get? b=F:=λ{b} q=>by
  cases z:aO.get? b with
  |none=>rfl
  |some o=>rw[h2 _ _ z]at q;cases q
 refine⟨r.gens,r.os,h1,λ b o e=>r.bg b o (h2 b o e),nb r.low,r.ns,λ l o e=>⟨(r.obj l o e).1,?_⟩,λ l o e c=>⟨nb (r.new l o e c).1,(r.new l o e c).2⟩,λ l o e c=>⟨nb (r.ic l o e c).1,(r.ic l o e c).2⟩,r.inj,r.pW,r.ox,nl,r.hi⟩;have x:=(r.obj l o e).2;cases o with
 |iS c=>cases nc _ _ e
 |_=>exact x
theorem R.NP(r:R B y N s)(nc:∀l o,N.H l=U o->o.cL=aj):R {B with root:=under N y s.heap [B.L],aO:=under N y s.heap [B.L]} y N s:=
 r.side.z7 (root:=under N y s.heap [B.L]) (aO:=under N y s.heap [B.L]) (λ _ _ e=>e) (λ _ _ e=>e) (Heap.NoLimit.Jj r.nolimit λ b o e=>r.fP (λ b hb=>by rw[gT.mp hb];exact r.low) (r.root _ _ e)) nc
theorem R.RD(r:R B y N s){c:Pl}{o:b8}{fd:hA}(h:B.root.get? f=U o)(hd:o.data=.func fd)(v:o.cls=.type "function")(hc:B.root.CodeRec fd.code fd.qualname)(ok:zd G.glob c fd)(g:fd.closure=c.cl.map λ p=>(p.1,y.ad p.2))(lt:∀p∈c.cl,p.2<N.n):
 R B (y.put N.n f f) {loc:=N.loc,H:=ah N.H N.n (U (.iS c)),n:=N.n+1} s:=by
 have e:Ext N.n y (N.n+1) (y.put N.n f f):=.put;have L:∀{Q:Loc}{j:O},ah N.H N.n (U (.iS c)) Q=U j->(Q=N.n/\j=.iS c)\/(Q<N.n/\N.H Q=U j):=λ{Q j} e=>by
  by_cases q:Q=N.n
  .subst q;rw[aa]at e;exact .inl ⟨Y,(dT e).symm⟩
  .rw[ae q]at e;exact .inr ⟨(r.obj _ _ e).1,e⟩
 have fK:∀{Q:Loc}{j:O},ah N.H N.n (U (.iS c)) Q=U j->j.cL=aj->Q<N.n/\N.H Q=U j:=λ{Q j} e c=>by
  rcases L e with⟨_,rfl⟩|q
  .cases c
  .exact q
 have t:∀{Q:Loc}{j:O},ah N.H N.n (U (.iS c)) Q=U j->j.bZ=ai->Q<N.n/\N.H Q=U j:=λ{Q j} e c=>by
  rcases L e with⟨_,rfl⟩|q
  .cases c
  .exact q
 refine⟨r.gens,r.os,r.root,r.bg,r.low,?_,λ l j q=>?_,λ l j q c=>?_,λ l j q c=>?_,λ l₁ j l₂ C X P E w=>?_,λ l₁ j l₂ C X P E w=>?_,λ l₁ j l₂ C X P E w=>?_,r.nolimit,λ l j q c=>?_⟩
 .obtain m|hm|S:=r.ns;exact⟨m,hm,λ x=>(S x).mono e⟩
 .rcases L q with⟨rfl,rfl⟩|⟨lt',q⟩
  .refine⟨cQ _,o,fd,by rw[show(y.put N.n f f).ad N.n=f from aa ..];exact h,hd,v,hc,ok,?_,λ p hp=>ly (lt p hp)⟩;rw[g];exact ef λ p hp=>by rw[e.ad _ (lt p hp)]
  .have z:=r.obj _ _ q;exact⟨ly lt',z.2.yg e lt' (λ _ _ x=>x) (λ _=>rfl) λ _=>rfl⟩
 .obtain lt'|q:=fK q c;rw[e.ad _ lt'];exact r.new _ _ q c
 .obtain lt'|q:=t q c;rw[e.dd _ lt'];exact r.ic _ _ q c
 .obtain a|k:=fK X E;obtain i|b:=fK P w;rw[e.ad _ a,e.ad _ i];exact r.inj _ _ _ _ k b E w
 .obtain a|k:=t X E;obtain i|b:=t P w;rw[e.dd _ a,e.dd _ i];exact r.pW _ _ _ _ k b E w
 .obtain a|k:=fK X E;obtain i|b:=t P w;rw[e.ad _ a,e.dd _ i];exact r.ox _ _ _ _ k b E w
 .obtain lt'|q:=fK q c;rw[e.ad _ lt'];exact r.hi _ _ q c
theorem LX(T:Tab K)(I:dN K d cf){rest:List cJ}{E:al->aN->be}{Q:Flow->aN->be}(pre:List cJ):∀(y:Lay)(N:St)(s:aN),lc K d B A y N s env kd cs->ay G cf cs (gy G.glob kd pre) N=U (.next,st')->
 (∀w L,Ext N.n y st'.n w->R B w st' L->aZ (bB B.prog B.w) A (jt rest env) Q E L)->aZ (bB B.prog B.w) A (jt (pre++rest) env) Q E s:=by
 induction pre with
 |nil=>intro y N s S h k;cases h;exact k y s .refl S.r
 |cons t pre n=>
  intro y N s S h k;dsimp only[Kt,KE]at h;exists au h,f1,H,h1,h2;refine xb (okS T I t _ _ _ _ _ _ _ _ _ _ S h1 E _ λ p f D X j g=>?_);cases f1 with
  |next=>cases g;exact n _ _ _ (S.next X j) h2 λ w L e r=>k w L (X.trans e) r
  |_=>cases(kO h2).1
theorem DN(T:Tab K)(I:dN K d cf){xs:List V}{vs:Array al}{rest:List cJ}(S:lc K d B A y N s env kd cs)(C:kd s!"script"=U .local)
 (g:N.loc s!"script"=U (.con ↥ls))(L:B.aO.IsList ls vs)(z:dh N.n y xs vs.toList)(m:xs.length<=1000)
 (q:∀h H,Ext N.n y (N.n+1) h->R B h ⟨ah N.loc s!"script" (U ↥N.n),ah N.H N.n (U ⇑(xs.take 56)),N.n+1⟩ H->aZ (bB B.prog B.w) A (jt rest env) Q E H):
 aZ (bB B.prog B.w) A (jt (.Assign [.Name s!"script" px] (.Subscript (.Name s!"script" pn) (.Slice F (U (.Constant (.int 56) k pc)) F ps) pos) pa::rest) env) Q E s:=by
 have r:=S.r;refine xb (B9 ?_ (kI Y));rw[uY];have hn:ap G cf cs (bU G.glob kd (.Name s!"script" pn)) N=U (.con ↥ls,N):=by show ap G cf cs (iN G.glob kd s!"script") N=_;unfold iN;rw[C];show getL s!"script" N=_;unfold getL;rw[g];rfl
 refine aW (vX (cf:=cf) B A y N s env kd cs _ _ S hn E _ λ p a' D X j va=>?_);cases va;have i:=S.next X j;have hc:jx G cf cs (Qi G.glob kd (U (.Constant (.int 56) k pc))) N=U (U (.int 56),N):=rfl;refine aW (jJ (wpAny_Slice ?_));rw[AA];refine bn ?_;refine okO (cf:=cf) T I _ B A p N D env kd cs _ _ i hc E _ λ o c' w n c vc=>?_
 refine bn ?_;refine aW (lH ?_);have v:R B o N {w with heap:=w.heap.push {cls:=.type "slice",data:=.fields #[.none,c',.none]},toks:=w.toks}:=c.grow λ _ _ e=>Heap.get?_push_of_some _ e
 obtain ol|g'|P|h':=L;have f':=v.bg _ _ g';refine aW (dw (y:=⟨λ _=>ls,λ _=>ls⟩) (l:=0) ⟨_,f',P⟩ slot_list_getitem.lookup ?_);refine aW (wM ?_);obtain t|rfl:=vc;have e:=z.size;refine IY ⟨_,f',P,h'⟩ (Heap.IsSliceOf.new ..) .none (.int 56 t) .none (by intro q;cases q) ?_ (by rw[eH];exact Fh e m);refine aW (uj (bn ?_));have ee:=X.trans n;refine ja (x:=s!"script") (v.nC (xs:=xs.take 56) (vs:=slicePick vs F (U 56) F) (tk:=w.toks) ?_) ((S.e.mono ee).mono .put) C eN E _ λ d' _ e' f b' _=>q _ _ (ee.trans (.trans .put f)) b'
 rw[rf vs (lo:=F) (hi:=U 56) (a:=0) (b:=56) (.inl ⟨Y,Y⟩) (.inr Y),Ih];exact((z.mono ee).take 56)
theorem Mt{nm:af}{params:oS}{body:List cJ}{scope:c9}{pos:bJ}{iS:Pl}{c P:ao}{mg:af->Option al}{rest:List cJ}{E:al->aN->be}{Q:Flow->aN->be}(S:lc K d B A y N s env kd cs)
 (nc:∀l o,N.H l=U o->o.cL=aj)(f:kd nm=U .local)(hg:B.root.Ns fv mg)(hb:B.aO.BuiltinsAt mg P)(o':env.code=↥c)(C:W.CodeHd B.aO c P)(hP:B.aO.get? P=U (W.tabObj #[]))(hR:B.root.get? P=F)
 (v:mn scope env=pure (iS.cl.map λ p=>(p.1,y.ad p.2)))(a':∀p∈iS.cl,p.2<N.n)(p':params.defaults=[])(e':params.kw_defaults=[])(ha:annTrees params F env=[])
 (ok:∀b' pm c' g' cl,zd G.glob iS (W.fnX nm (lL env nm nm) params body scope cl .none .none b' pm F ↥c' g'))
 (k:∀i n H,Ds K {B with root:=i,aO:=i}->OldK B.aO i->Ext N.n y (N.n+1) n->R {B with root:=i,aO:=i} n ⟨ah N.loc nm (U ↥N.n),ah N.H N.n (U (.iS iS)),N.n+1⟩ H->aZ (bB B.prog B.w) A (jt rest env) Q E H):
 aZ (bB B.prog B.w) A (jt (.FunctionDef nm params body [] F [] scope F nm pos::rest) env) Q E s:=by
 have r:=S.r;have C':fv≠P:=λ q=>by obtain o|_|_|e|_:=hg;rw[q,hR]at e;cases e
 have q':P≠cStatics:=λ q=>by obtain mc|⟨o,_,_,e,_⟩|_:=r.nolimit;rw[<-q,hR]at e;cases e
 have x':P≠B.L:=λ q=>by have:=r.low;rw[<-q,hP]at this;cases this
 obtain bm|ob|b1|b2|b3|b4|b5|b6:=hb;refine xb (W.nestDef_K p' e' ha (W.makeFunction_K v S.e.globals (hg.keeps λ b o e=>r.here e) o' (C.keeps r.bg) (r.bg _ _ hP) trivial Y C' ⟨bm,ob,b1,b2,b3,b4,r.bg _ _ b5,b6⟩ λ c' g' b' h' tk g d' j' z' D'=>?_));have r':∀b o,B.root.get? b=U o->(W.hideAll B.aO [P]).get? b=U o:=λ b o e=>W.hideAll_get _ (r.root _ _ e) λ hb=>by rw[gT.mp hb,hR]at e;cases e
 have r1:=r.z7 r' (λ b o e=>W.of_hideAll _ e) r.nolimit nc;have r2:=r1.Bf (tk:=tk) g (r.bg _ _ hP) (.inl (by intro q;cases q)) (W.hideAll_none _ (.head _)) x' ⟨λ l o e c q=>(by have:=(r.new l o e c).1;rw[q,hP]at this;cases this),λ l o e c q=>(by have:=(r.ic l o e c).1;rw[q,hP]at this;cases this)⟩;have r3:=r2.grow (h':=h'.push (W.fnMade nm (lL env nm nm) params body scope (iS.cl.map λ p=>(p.1,y.ad p.2)) b' ((mg "__name__").getD .none) c' g')) (tk:=tk) λ b o e=>Heap.get?_push_of_some _ e
 have r4:=r3.NP nc;generalize l':W.fnMade nm (lL env nm nm) params body scope (iS.cl.map λ p=>(p.1,y.ad p.2)) b' ((mg "__name__").getD .none) c' g'=fn at*;have A':∀l o,N.H l=U o->o.cL=aj->y.ad l<s.heap.objs.size:=λ l o e c=>by obtain x|g:=r.live e c;exact Heap.lt_size g
 have t':∀l o,N.H l=U o->o.bZ=ai->y.dd l<s.heap.objs.size:=λ l o e c=>by obtain x|g:=r.Iz e c;exact Heap.lt_size g
 have E':B.L<s.heap.objs.size:=by obtain m|hm|_:=r.ns;exact hm.lt
 have B':∀{b:ao}{o:b8},s.heap.objs.size<=b->(h'.push fn).get? b=U o->(under N y (h'.push fn) [B.L]).get? b=U o:=λ{b o} hb e=>fc e (λ q=>ju (cv E' hb) (gT.mp q)) (λ l o e c q=>ju (cv (A' l o e c) hb) q) λ l o e c q=>ju (cv (t' l o e c) hb) q
 have a:(under N y (h'.push fn) [B.L]).get? h'.objs.size=U fn:=B' (kf (rz d' j')) (Heap.get?_push_size _ (by subst l';rfl));obtain h|oc|vs|t|w|k'|hd|z:=z';cases w;have v':(under N y (h'.push fn) [B.L]).CodeRec ↥c' (lL env nm nm):=⟨c',oc,vs,t,Y,B' d' (Heap.get?_push_of_some _ k'),hd,z⟩;have w':∀b o,B.root.get? b=U o->(under N y (h'.push fn) [B.L]).get? b=U o:=λ b o e=>r3.fP (λ b hb=>by rw[gT.mp hb];exact r3.low) (r3.root _ _ e)
 subst l';have r5:=r4.RD (c:=iS) a Y Y v' (ok _ _ _ _ _) Y a';have hW:Ds K {B with root:=under N y (h'.push (W.fnMade nm (lL env nm nm) params body scope (iS.cl.map λ p=>(p.1,y.ad p.2)) b' ((mg "__name__").getD .none) c' g')) [B.L],aO:=under N y (h'.push (W.fnMade nm (lL env nm nm) params body scope (iS.cl.map λ p=>(p.1,y.ad p.2)) b' ((mg "__name__").getD .none) c' g')) [B.L]}:=by refine⟨λ b o e=>w' _ _ (S.W.ou _ _ e),?_⟩;obtain mg|mb|h1|h2|I:=S.W.gl;exact⟨mg,mb,h1.keeps w',h2.keeps w',I⟩
 have n':∀b o,B.aO.get? b=U o->(under N y s.heap [B.L]).get? b=U o:=λ b o e=>r.fP (λ b hb=>by rw[gT.mp hb];exact r.low) e
 have eb:Heap.ExtBut P (under N y s.heap [B.L]) (under N y (h'.push (W.fnMade nm (lL env nm nm) params body scope (iS.cl.map λ p=>(p.1,y.ad p.2)) b' ((mg "__name__").getD .none) c' g')) [B.L]):=λ b o hb e=>W.hideAll_get _ (Heap.get?_push_of_some _ (g _ _ hb (under_get e))) λ hq=>by rw[show(under N y s.heap [B.L]).get? b=F from W.hideAll_none _ hq]at e;cases e
 have m':OldK B.aO _:=(OldK.of_keep n').step_table (C.tab hP) ((C.keeps n').tab (n' _ _ hP)) (more:=#[rawInt pos.line,rawInt pos.col,↥c']) (c:=c) ⟨?_,?_⟩ eb q'
 .refine ja (x:=nm) r5 ((S.e.mono .put).to Y) f eN E _ λ f' _ i' j X _=>k _ _ _ hW m' (.trans .put j) X
 .obtain o|vs|D|L|e4|e5:=(C.tab hP).1;have H':c≠P:=λ q=>by rw[q,hP]at D;cases D;cases L
  exact⟨o,vs,eb _ _ H' (n' _ _ D),L,e4,e5⟩
 .exact fc (Heap.get?_push_of_some _ D') (λ q=>x' (gT.mp q)) (λ l o e c q=>by have:=(r.new l o e c).1;rw[<-q,hP]at this;cases this) λ l o e c q=>by have:=(r.ic l o e c).1;rw[<-q,hP]at this;cases this
set_option maxHeartbeats 2000000 in
theorem Og (T:Tab K) {prog:el} {w:cj} {s:aN} {y₀:Lay} (j':A.depth<nY) (g:∀env,Good (A.deeper env) d) {mg mb:af->Option al} {c P a ls:ao} {o:b8} {fd fd':hA} {names:List (af×bM)} {z':List TS} {first:cJ} {pre post:List cJ}
 {nm:af} {params:oS} {body:List cJ} {scope:c9} {px pn pc ps pos pa dpos:bJ} {ck:Nat} {iS:Pl} {xs:List V} {vs:Array al} {st₂ st₃ wd OE:St}
 (L':s.gens=#[]) (hg:s.heap.Ns fv mg) (hb:s.heap.Ns gY mb) (nl:s.heap.NoLimit) (ou:K.In s.heap) (gl:∀x v,G.glob x=U v->∃I,(∀n y,VR n y v I)/\(mg x=U I\/(mg x=F/\mb x=U I))) (kP:K.lookup P=F)
 (hbm:s.heap.BuiltinsAt mg P) (C:W.CodeHd s.heap c P) (hP:s.heap.get? P=U (W.tabObj #[])) (ho:s.heap.get? a=U o) (hd:o.data=.func fd) (D:tx G.glob fd ["script"] names z') (y':s.heap.CodeRec fd.code fd.qualname) (hc:fd.code=.ref c) (f':fd.closure=[]) (I':fd.defaults=.none)
 (r':names.all (λ p=>!(p.2==.free))=ai) (hbody:fd.body=.stmts (.Assign [.Name s!"script" px] (.Subscript (.Name s!"script" pn) (.Slice F (U (.Constant (.int 56) ck pc)) F ps) pos) pa::(pre++.FunctionDef nm params body [] F [] scope F nm dpos::post)))
 (j:s.heap.IsList ls vs) (t:∀n y,dh n y xs vs.toList) (hz:xs.length<=1000) (h2:dg names [] ⟨λ _=>F,λ _=>F,1⟩=U (cs,st₂)) (X:bindAll names cs [(s!"script",.con (.ref ls))] st₂=U ((),st₃))
 (H':(names.lookup s!"script"=U .local/\names.lookup nm=U .local)/\∀p∈iS.cl,cs.lookup p.1=U p.2/\names.lookup p.1=U .cell) (H:st₃.loc s!"script"=U (.con (.ref ls)))
 (nc3:∀l o,st₃.H l=U o->o.cL=aj) (B':ay G (aq G d) cs (gy G.glob (λ x=>names.lookup x) pre) ⟨ah st₃.loc s!"script" (U (.ref st₃.n)),ah st₃.H st₃.n (U (.list (xs.take 56))),st₃.n+1⟩=U (.next,wd))
 (nc:(fp wd.n).all (λ l=>match wd.H l with|some o=>!o.cL|none=>ai)=ai) (hd0:params.defaults=[]) (t':params.kw_defaults=[]) (ha:∀env,annTrees params F env=[])
 (hclo:∀(env:dA)(y:Lay),(∀p∈iS.cl,env.cells.lookup p.1=U (y.ad p.2))->mn scope env=pure (iS.cl.map λ p=>(p.1,y.ad p.2)))
 (ok:∀q p' pm c' x' cl,zd G.glob iS (W.fnX nm q params body scope cl .none .none p' pm F (.ref c') x'))
 (hpost:ay G (aq G d) cs (gy G.glob (λ x=>names.lookup x) post) ⟨ah wd.loc nm (U (.ref wd.n)),ah wd.H wd.n (U (.iS iS)),wd.n+1⟩=U (.ret (.bool ai),OE))
 {Q:mr->aN->Prop} (q:∀s',OldK s.heap s'.heap->s'.os=s.os->s'.gens=#[]->Q (.ok (.ret (.bool ai))) s'):iB (bB prog w) A (.call (.ref a) ⟨[.ref ls],[]⟩) Q s:=by
 have hPs:P≠cStatics:=λ q=>by obtain mc|⟨o,_,_,e,hd,_⟩|_:=nl;rw[<-q,hP]at e;cases e;cases hd
 have hPg:P≠fv:=λ q=>by obtain o|_|_|e|hd|_:=hg;rw[<-q,hP]at e;cases e;cases hd
 have hPb:P≠gY:=λ q=>by obtain o|_|_|e|hd|_:=hb;rw[<-q,hP]at e;cases e;cases hd
 have C':∀{x z:ao}{m:af->Option al},s.heap.Ns x m->z≠x->(W.hideAll s.heap [z]).Ns x m:=λ{x z m} ⟨o,es,ep,e,h⟩ hz=>⟨o,es,ep,W.hideAll_get _ e λ hb=>hz (gT.mp hb).symm,h⟩
 have P':∀{z:ao},z≠cStatics->(W.hideAll s.heap [z]).NoLimit:=λ{z} hz=>by obtain mc|hn|h:=nl;exact⟨mc,C' hn hz,h⟩
 have no:∀{C:Prop}{o:O},(F:Option O)=U o->C:=λ e=>c_ns e
 have hm:∀x,zk 1 y₀ ((mg x).map .con) (mg x):=λ x=>by
  cases mg x with
  |none=>trivial
  |some v=>rfl
 have R0:R ⟨prog,w,W.hideAll s.heap [fv],W.hideAll s.heap [fv],#[],s.os,fv⟩ y₀ ⟨λ x=>(mg x).map .con,λ _=>F,1⟩ s:=
  ⟨L',rfl,λ _ _ e=>e,λ b o e=>W.of_hideAll _ e,W.hideAll_none _ (.head _),⟨mg,hg,λ x=>hm x⟩,λ l o e=>no e,λ l o e=>no e,λ l o e=>no e,λ l o l' o' e=>no e,λ l o l' o' e=>no e,λ l o l' o' e=>no e,P' aL,λ l o e=>no e⟩
 refine pJ (P:=λ f s'=>f=.ret (.bool ai)/\OldK s.heap s'.heap/\s'.os=s.os/\s'.gens=#[]) j' R0 ho hd D y' (cl:=[]) ⟨f',λ _ hp=>absurd hp eI⟩ (λ x q=>?_) (dfs:=[]) (ds:=[]) trivial (λ A E Q' hq=>by rw[I'];exact hZ (hq _ rfl)) (as:=[.con (.ref ls)]) (vs:=[.ref ls]) ⟨rfl,trivial⟩ rfl h2 X hbody (λ L b' a' env e1 e2 _ _ E₂ k ER E Q' q'=>?_) λ f s' hf=>?_
 .have:=dE.mp r' _ (jn q);cases this
 .have all:∀{b:ao}{o:b8},s.heap.get? b=U o->(under ⟨λ x=>(mg x).map .con,λ _=>F,1⟩ y₀ s.heap []).get? b=U o:=λ e=>fc e (λ q=>nomatch q) (λ l o e=>no e) λ l o e=>no e
  have hU:under ⟨λ x=>(mg x).map .con,λ _=>F,1⟩ y₀ s.heap []=s.heap:=rfl;have W1:Ds K ⟨prog,w,W.hideAll s.heap [P],s.heap,#[],s.os,L⟩:=
   ⟨λ b o e=>W.hideAll_get _ (ou _ _ e) λ hb=>(by rw[gT.mp hb,kP]at e;cases e),mg,mb,C' hg hPg,C' hb hPb,gl⟩
  have r:=k.z7 (root:=W.hideAll s.heap [P]) (aO:=s.heap) (λ b o e=>W.of_hideAll _ e) (λ _ _ e=>all e) (P' hPs) nc3;have S:lc K d ⟨prog,w,W.hideAll s.heap [P],s.heap,#[],s.os,L⟩ (A.deeper env) b' st₃ a' env (λ x=>names.lookup x) cs:=⟨W1,g env,r,ER.to rfl⟩
  refine DN (B:=⟨prog,w,W.hideAll s.heap [P],s.heap,#[],s.os,L⟩) T (qp T d) S H'.1.1 H j (t _ _) hz λ n' i' d' e'=>?_
  refine LX (B:=⟨prog,w,W.hideAll s.heap [P],s.heap,#[],s.os,L⟩) T (qp T d) pre n' _ i' (S.next (st':=⟨_,_,st₃.n+1⟩) d' e') B' λ w' A' g' h'=>?_
  have S':=(S.next (st':=⟨_,_,st₃.n+1⟩) d' e').next g' h'
  have X':∀p∈iS.cl,p.2<wd.n/\env.cells.lookup p.1=U (w'.ad p.2):=λ p hp=>by obtain h1|h2:=H'.2 p hp;obtain l|X|h4|h5:=S'.e.cells p.1 (.inl h2);rw[h1]at X;cases X;exact⟨h4,h5⟩
  have nc':∀l o,wd.H l=U o->o.cL=aj:=λ l o h=>by have:=dE.mp nc l (kF.mpr (h'.obj _ _ h).1);rw[h]at this;dsimp only at this;revert this;cases o.cL<;>decide
  refine Mt (B:=⟨prog,w,W.hideAll s.heap [P],s.heap,#[],s.os,L⟩) S' nc' H'.1.2 (C' hg hPg) hbm (e2.trans hc) C hP (W.hideAll_none _ (.head _)) (hclo env w' λ p hp=>(X' p hp).2) (λ p hp=>(X' p hp).1) hd0 t' (ha env) (λ p' pm c' x' cl=>ok _ p' pm c' x' cl) λ i E' k' W₆ old D' m'=>?_
  refine Hf T d ⟨prog,w,i,i,#[],s.os,L⟩ (A.deeper env) E' _ k' env (λ x=>names.lookup x) cs post _ _ W₆ (g env) m' ((S'.e.mono D').to rfl) hpost E Q' λ y₇ f s₇ e₇ r₇ hf=>?_
  obtain v'|rfl|rfl:=hf;exact q' _ _ ⟨rfl,old.step_keeps r₇.bg,r₇.os,r₇.gens⟩
 .exact⟨_,.inl hf.1,q _ hf.2.1 hf.2.2.1 hf.2.2.2⟩
end
namespace Q
section
theorem Er:Bop.isAdd .add=ai:=rfl
theorem um(k:Int)(xs:List V):yO k ⇑xs=if xs.length<=1000 then(idx xs k).bind (xs[·]?)else F:=rfl
theorem ty(k:Int)(es:List (aJ×V)):yO k (.dict es)=if es.all (λ e=>(aJ.int k).fC e.1)then atK es (.int k)else F:=rfl
theorem si(k:aJ)(es:List (aJ×V)):Tw k (.dict es)=if es.all (λ e=>k.fC e.1)then atK es k else F:=rfl
theorem jv(k:Int)(v:V)(xs:List V):fm k v ⇑xs=if xs.length<=1000 then(idx xs k).bind (λ j=>U ⇑(xs.set j v))else F:=rfl
theorem qK(k:Int)(v:V)(es:List (aJ×V)):fm k v (.dict es)=if es.all (λ e=>(aJ.int k).fC e.1)/\es.length<=1000 then U (.dict (fO (.int k) v es))else F:=rfl
theorem zK(xs ys:List V):rM ⇑xs ⇑ys=if xs.length+ys.length<=1000 then U ⇑(xs++ys)else F:=rfl
theorem M5(es:List (aJ×V)):pL (.dict es)=if es.all (λ e=>e.1.isStr)/\es.length<=1000 then U ⇑(es.filterMap λ e=>e.1.toV)else F:=rfl
theorem CL(es:List (aJ×V)):t8 (.dict es)=(intKeys es).bind λ is=>if is.length<64 then U ⇑((sortI is).map .int)else F:=rfl
theorem Qv(xs:List V):Au ⇑xs=if xs.length<=1000 then(xs.getLast?).bind λ v=>U (v,⇑xs.dropLast)else F:=rfl
theorem SQ(v:V)(r:List V):zV ⇑(v::r)=if r.length<=1000 then U (v,⇑r)else F:=rfl
theorem Od(k:aJ)(es:List (aJ×V)):aaK k (.dict es)=if es.all (λ e=>k.fC e.1)then U es else F:=rfl
theorem vS(l:Loc)(xs:List V):(It.list l xs).items=xs:=rfl
theorem wK(n:J):(It.range n).items=(fp n).map λ(i:J)=>V.int (i:Int):=rfl
theorem xX(a b:Int):lN (.int a) (.int b)=U (decide (a=b)):=rfl
theorem yr(a b:af):lN (.str a) (.str b)=U (decide (a=b)):=rfl
theorem iW(names:List (af×bM))(cs:List (af×Loc)):bindAll names cs []=ret ():=rfl
theorem JC(H:Loc->Option O)(k:J)(i:Int):dat H k (.int i)=U (.int i):=by cases k<;>rfl
theorem G2(H:Loc->Option O)(k:J)(b:bG):dat H k (.bool b)=U (.bool b):=by cases k<;>rfl
theorem FM(H:Loc->Option O)(k:J)(x:af):dat H k (.str x)=U (.str x):=by cases k<;>rfl
theorem eo(a b:String):(cZ a=cZ b)=(a=b):=by
 apply propext;constructor
 .intro h;rw[GP,GP]at h;have h1:(a.toList.map Char.toNat)=(b.toList.map Char.toNat):=by have:=congrArg (λ s:af=>s.cps.toList) h;simpa using this
  have h2:a.toList=b.toList:=by
   have c:∀x y:Char,x.toNat=y.toNat->x=y:=λ x y h=>Char.ext (UInt32.toNat_inj.mp h)
   exact(List.map_inj_right c).mp h1
  exact String.toList_inj.mp h2
 .intro h;rw[h]
theorem rI{α β:Type}[DecidableEq α](f:α->β)(a:α)(b:β)(x:α):ah f a b x=if x=a then b else f x:=rfl
theorem dk{α β:Type}[DecidableEq α](f:α->β)(a:α)(b c:β):ah (ah f a b) a c=ah f a c:=by funext x;simp only[ah];split<;>rfl
theorem fY{α β:Type}[DecidableEq α](f:α->β){a n:α}(b c:β)(h:a≠n):ah (ah f a b) n c=ah (ah f n c) a b:=by
 funext x;simp only[ah];split
 .rename_i h1;rw[if_neg (by rw[h1];exact h.symm)]
 .rfl
theorem cu{α β:Type}[DecidableEq α](f:α->β)(a:α):ah f a (f a)=f:=by
 funext x;simp only[ah];split
 .rename_i h;rw[h]
 .rfl
theorem Fq{α:Type}{o:Option α}{b:α}{p:be}(h:o=U b)(e:o=F:=by rfl):p:=c_ns (e.symm.trans h)
variable(u:af->Option V)(H:J->Option O)(n:J)
noncomputable def Lj{α β:Type}(f:α->M β):α×St->Option (β×St):=λ p=>f p.1 p.2
section
variable{α β:Type}
theorem eM(f:α->M β)(a:α)(N:St):Lj f (a,N)=f a N:=rfl
theorem md(a:α):ret a ⟨u,H,n⟩=U (a,⟨u,H,n⟩):=rfl
theorem Mw:(bj:M α) ⟨u,H,n⟩=F:=rfl
theorem fa(m:M α)(f:α->M β):aI m f ⟨u,H,n⟩=(m ⟨u,H,n⟩).bind (Lj f):=rfl
theorem m9(o:Option α):uS o ⟨u,H,n⟩=o.bind λ a=>U (a,⟨u,H,n⟩):=by cases o<;>rfl
theorem sf(c:be)[Decidable c](a b:M α):(if c then a else b) ⟨u,H,n⟩=if c then a ⟨u,H,n⟩else b ⟨u,H,n⟩:=by split<;>rfl
end
theorem vG(x:af)(v:V):pZ x v ⟨u,H,n⟩=U ((),⟨ah u x (U v),H,n⟩):=rfl
theorem Dk(x:af):getL x ⟨u,H,n⟩=(u x).bind λ v=>U (v,⟨u,H,n⟩):=by show(u x).map _=_;cases u x<;>rfl
theorem C5(l:J):look l ⟨u,H,n⟩=(H l).bind λ v=>U (v,⟨u,H,n⟩):=by show(H l).map _=_;cases H l<;>rfl
theorem GR(o:O):alloc o ⟨u,H,n⟩=U (n,⟨u,ah H n (U o),n+1⟩):=rfl
theorem GU(o:O):new o ⟨u,H,n⟩=U (↥n,⟨u,ah H n (U o),n+1⟩):=rfl
theorem Cs(cs:List (af×J))(x:af):fK cs x ⟨u,H,n⟩=((cs.lookup x).bind λ l=>(H l).bind CI).bind λ v=>U (v,⟨u,H,n⟩):=(Y)
theorem NB(cs:List (af×J))(x:af)(v:V):setC cs x v ⟨u,H,n⟩=(cs.lookup x).bind λ l=>((H l).bind lU).bind λ _=>U ((),⟨u,ah H l (U (.cell (U v))),n⟩):=(Y)
theorem yb(cs:List (af×J))(x:af):ff cs (.loc x)=pZ x:=rfl
noncomputable def eg(nm:af):O->Option V:=S9 G nm
noncomputable def ig(nm:af)(x:V):O->Option O:=setG G nm x
noncomputable def dz(l:J)(nm:af):O->Option Meth:=F5 G l nm
theorem J7(l:J)(k:Int):fD ↥l (.int k) ⟨u,H,n⟩=((H l).bind (yO k)).bind λ v=>U (v,⟨u,H,n⟩):=(Y)
theorem J5(l:J)(k:af):fD ↥l (.str k) ⟨u,H,n⟩=((H l).bind (atS k)).bind λ v=>U (v,⟨u,H,n⟩):=(Y)
theorem Ht(l:J)(k:Int)(v:V):jc ↥l (.int k) v ⟨u,H,n⟩=((H l).bind (fm k v)).bind λ o=>U ((),⟨u,ah H l (U o),n⟩):=(Y)
theorem Kc(l:J)(k:af)(v:V):jc ↥l (.str k) v ⟨u,H,n⟩=((H l).bind (ia k v)).bind λ o=>U ((),⟨u,ah H l (U o),n⟩):=(Y)
theorem xM(d:J)(i:Int):ts d (U (.int i))=if 0<=i/\i<2^60 then U i.toNat else F:=rfl
theorem uE(d:J):ts d F=U d:=rfl
theorem yV(lo hi:Option V)(xs:List V):MP lo hi ⇑xs=if xs.length<=1000 then(ts 0 lo).bind λ a=>(ts xs.length hi).bind λ b=>U ⇑((xs.take b).drop a)else F:=rfl
section
variable(cf:V->List V->M V)
noncomputable def CC(c:ao):O->Option bG:=JM G c
theorem LW(v:V)(c:ao):eh G cf (.con (.builtin "isinstance")) [v,.con ↥c] ⟨u,H,n⟩=(bZ G v (.con ↥c) ⟨u,H,n⟩).bind (Lj λ b=>ret (.bool b)):=(Y)
theorem DR(l:J)(c:ao):bZ G ↥l (.con ↥c) ⟨u,H,n⟩=((H l).bind (CC c)).bind λ b=>U (b,⟨u,H,n⟩):=(Y)
theorem Kr(i:Int):eh G cf (.con (.type "range")) [.int i] ⟨u,H,n⟩=if 0<=i/\i<1000 then U (↥n,⟨u,ah H n (U (.range i.toNat)),n+1⟩)else F:=sf ..
theorem Ro(i:Int):eh G cf (.con (.type "str")) [.int i] ⟨u,H,n⟩=if 0<=i/\i<1000 then U (.str (cZ (toString i)),⟨u,H,n⟩)else F:=sf ..
theorem DD(l:J):eh G cf (.con (.builtin "sorted")) [↥l] ⟨u,H,n⟩=((H l).bind t8).bind λ o=>U (↥n,⟨u,ah H n (U o),n+1⟩):=(Y)
theorem Mf(l:J):eh G cf (.con (.type "list")) [↥l] ⟨u,H,n⟩=((H l).bind pL).bind λ o=>U (↥n,⟨u,ah H n (U o),n+1⟩):=(Y)
theorem Jn(l:J):eh G cf (.con (.type "tuple")) [↥l] ⟨u,H,n⟩=((H l).bind Mb).bind λ o=>U (↥n,⟨u,ah H n (U o),n+1⟩):=(Y)
theorem Dx(l:J)(v:V):lE cf (.append l) [v] ⟨u,H,n⟩=((H l).bind (AB v)).bind λ o=>U (.none,⟨u,ah H l (U o),n⟩):=(Y)
theorem MO(l:J):lE cf (.lh l) [.int 0] ⟨u,H,n⟩=((H l).bind zV).bind λ p=>U (p.1,⟨u,ah H l (U p.2),n⟩):=(Y)
theorem Ny(l:J)(x:af):lE cf (.kA l) [.str x] ⟨u,H,n⟩=((H l).bind (zU x)).bind λ p=>U (p.1,⟨u,ah H l (U p.2),n⟩):=(Y)
end
noncomputable def inO(v:V):O->Option bG
 |.list xs=>cI v xs
 |.tup xs=>cI v xs
 |_=>F
theorem wu(i:Int)(l:J):J6 (.int i) ↥l ⟨u,H,n⟩=((H l).bind λ o=>match o with
 |.dict es=>if es.all (λ e=>(aJ.int i).fC e.1)then U (es.any λ e=>decide (e.1=.int i))else F
 |o=>inO (.int i) o).bind λ b=>U (b,⟨u,H,n⟩):=by
 show((H l).bind _).bind _=_;cases H l with
 |none=>rfl
 |some o=>cases o<;>rfl
theorem B7(s:af)(l:J):J6 (.str s) ↥l ⟨u,H,n⟩=((H l).bind λ o=>match o with
 |.dict es=>if es.all (λ e=>(aJ.str s).fC e.1)then U (es.any λ e=>decide (e.1=.str s))else F
 |o=>inO (.str s) o).bind λ b=>U (b,⟨u,H,n⟩):=by
 show((H l).bind _).bind _=_;cases H l with
 |none=>rfl
 |some o=>cases o<;>rfl
theorem DJ(l:J):truth ↥l ⟨u,H,n⟩=((H l).bind RW).bind λ b=>U (b,⟨u,H,n⟩):=(Y)
theorem zY(l:J)(xs:List V)(h:H l=U ⇑xs):(It.list l xs).ok ⟨u,H,n⟩=U ((),⟨u,H,n⟩):=by show((H l).bind _).bind _=_;rw[h];show((if xs=xs then U ()else F).bind _)=_;rw[if_pos Y];rfl
theorem Nn(a b:af):binop .add (.str a) (.str b) ⟨u,H,n⟩=if a.length+b.length<=1000 then U (.str (a++b),⟨u,H,n⟩)else F:=by show(if _ then _ else _:M V) _=_;simp only[Er,true_and,sf,md,Mw]
theorem LC(l Q:J):binop .add ↥l ↥Q ⟨u,H,n⟩=((H l).bind λ o=>(H Q).bind (rM o)).bind λ o=>U (↥n,⟨u,ah H n (U o),n+1⟩):=(Y)
theorem NF(l Q:J)(L:l≠Q):ix .add ↥l ↥Q ⟨u,H,n⟩=((H l).bind λ o=>(H Q).bind (rM o)).bind λ o=>U (↥l,⟨u,ah H l (U o),n⟩):=by show(if _ then _ else _:M V) _=_;rw[if_pos ⟨Y,L⟩]
theorem Jp(a b:Int):ew .lt (.int a) (.int b) ⟨u,H,n⟩=U (decide (a<b),⟨u,H,n⟩):=rfl
theorem VH(a b:Int):ew .gt (.int a) (.int b) ⟨u,H,n⟩=U (decide (b<a),⟨u,H,n⟩):=rfl
theorem qq(a b:V):ew .isin a b ⟨u,H,n⟩=J6 a b ⟨u,H,n⟩:=rfl
theorem nA(a b:V):ew .eW a b ⟨u,H,n⟩=(J6 a b ⟨u,H,n⟩).bind (Lj λ x=>ret !x):=rfl
theorem Je(a b:V):ew .eq a b ⟨u,H,n⟩=zi a b ⟨u,H,n⟩:=rfl
theorem Cy(a b:V):ew .ne a b ⟨u,H,n⟩=(zi a b ⟨u,H,n⟩).bind (Lj λ x=>ret !x):=rfl
theorem FS(a b:Int):zi (.int a) (.int b) ⟨u,H,n⟩=U (decide (a=b),⟨u,H,n⟩):=by simp[zi,JC,G2,FM,lZ,jw,jr,wZ,rZ];by_cases h:a=b<;>simp[h]
theorem RP(a b:bG):zi (.bool a) (.bool b) ⟨u,H,n⟩=U (decide (a=b),⟨u,H,n⟩):=by simp[zi,JC,G2,FM,lZ,jw,jr,wZ,rZ];by_cases h:a=b<;>simp[h]
theorem Rs(a b:af)(ha:r0 a=ai)(hb:r0 b=ai):zi (.str a) (.str b) ⟨u,H,n⟩=U (decide (a=b),⟨u,H,n⟩):=by simp[zi,JC,G2,FM,lZ,jw,jr,wZ,rZ,ha,hb];by_cases h:a=b<;>simp[h]
end
section
abbrev Hp:=J->Option O
noncomputable abbrev Lc:=af->Option V
noncomputable def qI(a b:List V):M V:=match strKeys a with
 |some ks=>if ks.length=b.length/\ks.length<=15 then new (.dict (bv [] (ks.zip b)))else bj
 |none=>bj
section
variable(g:Gl)(cf:V->List V->M V)(cs:List (af×J))
noncomputable def pI(elt:T)(x:af)(ifs:List T)(v:V):M (Option V):=once x v (aI (ej g cf cs ifs) λ b=>if b then aI (ap g cf cs elt) λ y=>ret (U y)else ret F)
noncomputable def nE(elt:T)(x:af)(ifs:List T)(i:It):M V:=
 if i.items.length<=1000 then
 aI (inner (fy i (pI g cf cs elt x ifs) i.items)) λ ys=>new ⇑ys
 else bj
noncomputable def CN(k v:T)(x:af)(w:V):M (Option (aJ×V)):=once x w (aI (ap g cf cs k) λ a=>match a with
 |.int j=>aI (ap g cf cs v) λ b=>ret (U (aJ.int j,b))
 |_=>bj)
noncomputable def uH(k v:T)(x:af)(i:It):M V:=
 if i.items.length<=1000 then
 aI (inner (fy i (CN g cf cs k v x) i.items)) λ ys=>new (.dict (bv [] ys))
 else bj
noncomputable def CS(a m:af)(ks:List af):M V:=
 aI (lD (λ k=>aI (fK cs a) λ o=>aI (jT g o m) λ t=>fD t (.str k)) ks) λ ys=>new ⇑ys
noncomputable def OC(t I:Tgt)(v:V):M Fl:=match v with
 |.ref l=>aI (look l) λ o=>match o with
  |.tup [a,b]=>aI (ff cs t a) λ _=>aI (ff cs I b) λ _=>ret .next
  |_=>bj
 |_=>bj
theorem MR(t I:Tgt)(l:J):OC cs t I ↥l=aI (look l) λ o=>match o with
 |.tup [a,b]=>aI (ff cs t a) λ _=>aI (ff cs I b) λ _=>ret .next
 |_=>bj:=rfl
noncomputable def C8(t:Tgt)(a:List TS)(v:V):M Fl:=aI (ff cs t v) λ _=>ay g cf cs a
noncomputable def jV(t:Tgt)(a:List TS)(i:It):M Fl:=forM i (C8 g cf cs t a) i.items
end
section
variable(cf:V->List V->M V)(cs:List (af×J))
noncomputable def K(r:List TS):Fl×St->Option (Fl×St)
 |(.next,N)=>ay G cf cs r N
 |(fl,N)=>U (fl,N)
theorem Qr(r:List TS)(N:St):K cf cs r (.next,N)=ay G cf cs r N:=rfl
variable(u:af->Option V)(H:J->Option O)(n:J)
theorem Oy(x:af):ap G cf cs (.loc x) ⟨u,H,n⟩=(u x).bind λ v=>U (v,⟨u,H,n⟩):=Dk ..
theorem nv(s:TS)(r:List TS):ay G cf cs (s::r) ⟨u,H,n⟩=(c6 G cf cs s ⟨u,H,n⟩).bind (K cf cs r):=by show z8 _ _=_;congr 1;funext p;obtain fl|N:=p;cases fl<;>rfl
end
theorem ky{β:Type}(k a:af)(b:β)(r:List (af×β)):ro k ((a,b)::r)=if k=a then U b else ro k r:=by
 rw[fG];by_cases h:k=a
 .obtain rfl:=h.symm;simp
 .rw[if_neg h,(by simpa using h:(k==a)=aj)]
noncomputable def flO:Fl->Option V
 |.ret v=>U v
 |.next=>U .none
 |_=>F
def Ends(X:Option (Fl×St))(Q:V->(J->Option O)->J->be):be:=
 ∃fl A H' n',X=U (fl,⟨A,H',n'⟩)/\∃v,flO fl=U v/\Q v H' n'
def ba(d:J)(f:V)(args:List V)(H:J->Option O)(n:J)(Q:V->(J->Option O)->J->be):be:=
 ∃v H' n',(∀u,aq G d f args ⟨u,H,n⟩=U (v,⟨u,H',n'⟩))/\Q v H' n'
theorem ba.weak{d:J}{f:V}{args:List V}{H:J->Option O}{n:J}{Q R:V->(J->Option O)->J->be}(h:ba d f args H n Q)(hq:∀v H' n',Q v H' n'->R v H' n'):ba d f args H n R:=by obtain v|H'|n'|e|q:=h;exact⟨v,H',n',e,hq _ _ _ q⟩
theorem ba.of{d:J}{a:ao}{fn:Fn}
 (P:G.fn a=U fn)(hb:bindArgs fn.params fn.jM args=U bs)
 (hc:dg fn.names [] ⟨λ _=>F,H,n⟩=U (cs,⟨λ _=>F,H2,E⟩))
 (g:bindAll fn.names cs bs ⟨λ _=>F,H2,E⟩=U ((),⟨L,H1,E⟩))
 (h:Ends (ay G (aq G d) cs fn.body ⟨L,H1,E⟩) Q):ba (d+1) (.con ↥a) args H n Q:=by
 obtain fl|A|H'|n'|e|v|i|q:=h;refine⟨v,H',n',λ u=>?_,q⟩;show(match G.fn a with|some fn=>_|none=>_:M V) _=_;rw[P];show rO G (aq G d) fn args ⟨u,H,n⟩=_;simp only[rO,hb,fa,m9,eT,eM,kw,hc,g,e,FQ];cases fl with
 |next=>cases i;rfl
 |ret w=>cases i;rfl
 |brk=>cases i
 |cont=>cases i
theorem ba.cls{d:J}{c:ao}{S:Fp}{fn:Fn}{args:List V}{H:J->Option O}{n:J}{Q:V->(J->Option O)->J->be}
 (hn:G.fn c=F)(hc:G.cls c=U S)(P:G.fn S.init=U fn)
 (h:ba (d+1) (.con ↥S.init) (↥n::args) (ah H n (U (.inst c []))) (n+1) λ v H' n'=>v=.none/\Q ↥n H' n'):ba (d+1) (.con ↥c) args H n Q:=by
 obtain v|H'|n'|e|i|q:=h;subst i;refine⟨_,H',n',λ u=>?_,q⟩;have D:rO G (aq G d) fn (↥n::args) ⟨u,ah H n (U (.inst c [])),n+1⟩=U (.none,⟨u,H',n'⟩):=by have:=e u;simp only[aq,P]at this;exact this
 simp only[aq,hn,hc,P,fa,GR,eT,eM,D];rfl
noncomputable def Jc:Option bM->bG
 |some .local=>ai
 |_=>aj
noncomputable def lcF:List (af×V)->Lc->Lc
 |[],u=>u
 |(x,v)::r,u=>lcF r (ah u x (U v))
noncomputable def okF(fn:Fn)(k:J):bG:=decide (k+fn.jM.length=fn.params.length)&&(fn.names.all λ p=>!(p.2==.cell))&&fn.params.all λ x=>Jc (fn.names.lookup x)
theorem PP:∀{ns:List (af×bM)},(ns.all λ p=>!(p.2==.cell))=ai->dg ns [] ⟨u,H,n⟩=U ([],⟨u,H,n⟩)
 |[],_=>rfl
 |(x,k)::r,h=>by obtain h1|h2:=(dL).mp h;exact(congrFun (if_neg (by rw[(Bool.not_eq_true' _).mp h1];exact j5)) _).trans (PP h2)
theorem bindL{ns:List (af×bM)}:∀{xs:List af}{vs:List V}{u:Lc},(xs.all λ x=>Jc (ns.lookup x))=ai->bindAll ns [] (xs.zip vs) ⟨u,H,n⟩=U ((),⟨lcF (xs.zip vs) u,H,n⟩)
 |[],_,_,_=>rfl
 |_::_,[],_,_=>rfl
 |x::r,v::vs,u,h=>by
  obtain h1|h2:=(dL).mp h;have:=bindL (H:=H) (n:=n) (vs:=vs) (u:=ah u x (U v)) h2;show(match ns.lookup x with|some .local=>_|some .cell=>_|_=>_:M Unit) _=_;replace h1:Jc (ns.lookup x)=ai:=h1;generalize ns.lookup x=o at h1⊢;cases o with
  |none=>exact absurd h1 j5
  |some k=>cases k with
   |«local»=>exact this
   |_=>exact absurd h1 j5
theorem aE(fn:Fn){d a:J}{args:List V}{H:Hp}{n:J}{Q:V->Hp->J->be}(h:Ends (ay G (aq G d) [] fn.body ⟨lcF (fn.params.zip (args++fn.jM)) λ _=>F,H,n⟩) Q)
 (P:G.fn a=U fn:=by kernel_rfl)(ok:okF fn args.length=ai:=by kernel_rfl):ba (d+1) (.con ↥a) args H n Q:=by
 obtain h1|D:=(dL).mp ok;obtain h2|I:=(dL).mp h1;exact ba.of P (if_pos (of_decide_eq_true h2)) (PP I) (bindL D) h
variable{d:J}{H:J->Option O}{n:J}
theorem vL(a:V)(h:Ends (ay G (aq G d) [("thing",n)] EE ⟨(λ _=>F),(ah H n (U (.cell (U a)))),n+1⟩) Q):ba (d+1) #[383] [a] H n Q:=by
 refine ba.of (fn:=QR) (H2:=(ah H n (U (.cell F)))) (bs:=[("thing",a)]) Y Y ?_ ?_ h
 .rfl
 .first|rfl|simp[QR,iW,gI,ky,eo,pZ,setC,lU,ret,rI,dk,aI]
theorem LO(a:V)(h:Ends (ay G (aq G d) [("found",n)] QH ⟨(ah (λ _=>F) s!"things" (U a)),(ah H n (U (.cell F))),n+1⟩) Q):ba (d+1) #[395] [a] H n Q:=by
 refine ba.of (fn:=R4) (H2:=(ah H n (U (.cell F)))) (bs:=[("things",a)]) Y Y ?_ ?_ h
 .rfl
 .first|rfl|simp[R4,iW,gI,ky,eo,pZ,setC,lU,ret,rI,dk,aI]
theorem Mz(a c:V)(h:Ends (ay G (aq G d) [("line",n)] SR ⟨(ah (ah (λ _=>F) s!"parents" (U a)) s!"one" (U c)),(ah H n (U (.cell F))),n+1⟩) Q):ba (d+1) #[630] [a,c] H n Q:=by
 refine ba.of (fn:=Sr) (H2:=(ah H n (U (.cell F)))) (bs:=[("parents",a),("one",c)]) Y Y ?_ ?_ h
 .rfl
 .first|rfl|simp[Sr,iW,gI,ky,eo,pZ,setC,lU,ret,rI,dk,aI]
theorem Oc(a:V)(h:Ends (ay G (aq G d) [("wave",n+1),("counts",n)] pT ⟨(ah (λ _=>F) s!"book" (U a)),(ah (ah H n (U (.cell F))) (n+1) (U (.cell F))),n+2⟩) Q):ba (d+1) #[642] [a] H n Q:=by
 refine ba.of (fn:=RZ) (H2:=(ah (ah H n (U (.cell F))) (n+1) (U (.cell F)))) (bs:=[("book",a)]) Y Y ?_ ?_ h
 .rfl
 .first|rfl|simp[RZ,iW,gI,ky,eo,pZ,setC,lU,ret,rI,dk,aI]
theorem Cx(a c k:V)(h:Ends (ay G (aq G d) [("scalar",n)] Vk ⟨(ah (ah (λ _=>F) s!"self" (U a)) s!"value" (U k)),(ah H n (U (.cell (U c)))),n+1⟩) Q):ba (d+1) #[442] [a,c,k] H n Q:=by
 refine ba.of (fn:=RG) (H2:=(ah H n (U (.cell F)))) (bs:=[("self",a),("scalar",c),("value",k)]) Y Y ?_ ?_ h
 .rfl
 .first|rfl|simp[RG,iW,gI,ky,eo,pZ,setC,lU,ret,rI,dk,aI]
end
section
theorem vM{α β:Type}[DecidableEq α](f:α->β)(a n:α)(b H c:β):ah (ah (ah f a b) n H) a c=ah (ah f n H) a c:=by funext x;simp only[ah];split<;>rfl
theorem MF{α β:Type}[DecidableEq α](f:α->β)(a n d:α)(b H e c:β):ah (ah (ah (ah f a b) n H) d e) a c=ah (ah (ah f n H) d e) a c:=by funext x;simp only[ah];split<;>rfl
theorem Ei{α β c:Type}(x:Option α)(f:α->Option β)(g:β->Option c):(x.bind f).bind g=x.bind λ y=>(f y).bind g:=by cases x<;>rfl
theorem bH{α β:Type}(x:α)(f:α->Option β):(U x).bind f=f x:=rfl
theorem S6:G.cls 66=U ⟨63,[],["number","count","blessed","weak","is_destroyed","is_freed","value","magic"],[66,45]⟩:=rfl
theorem SU:G.cls 85=U ⟨82,[],["number","count","blessed","weak","is_destroyed","is_freed","items","tied"],[85,45]⟩:=rfl
theorem MJ:G.cls 104=U ⟨101,[],["number","count","blessed","weak","is_destroyed","is_freed","table","at","tied"],[104,45]⟩:=rfl
theorem M2:G.cls 123=U ⟨120,[],["number","count","blessed","weak","is_destroyed","is_freed","sub","captures","builtin","package"],[123,45]⟩:=rfl
theorem Md:G.cls 142=U ⟨139,[],["number","count","blessed","weak","is_destroyed","is_freed","name","scalar","array","hash","code"],[142,45]⟩:=rfl
theorem MN:G.cls 162=U ⟨159,[],["target","is_weak"],[162]⟩:=rfl
inductive Rest where
 |nR (v:V)
 |arr (it:J)
 |BD (tb:J)
 |nP (sub caps:V)
 |jL (name:af) (a c:V)
noncomputable def Rest.cls:Rest->ao
 |.nR _=>66|.arr _=>85|.BD _=>104|.nP _ _=>123|.jL _ _ _=>142
noncomputable def Rest.fs:Rest->List (af×V)
 |.nR v=>[("value",v),("magic",.none)]
 |.arr it=>[("items",↥it),("tied",.none)]
 |.BD i=>[("table",↥i),("at",.int 0),("tied",.none)]
 |.nP s c=>[("sub",s),("captures",c),("builtin",.none),("package",.str "main")]
 |.jL x a c=>[("name",.str x),("scalar",.none),("array",a),("hash",.none),("code",c)]
noncomputable def TO(num aC:Int)(bl:V)(wk:J)(ds fr:bG)(r:Rest):O:=
 .inst r.cls (("number",.int num)::("count",.int aC)::("blessed",bl)::("weak",↥wk)::("is_destroyed",.bool ds)::("is_freed",.bool fr)::r.fs)
noncomputable def eQ(t:V)(w:bG):O:=.inst 162 [("target",t),("is_weak",.bool w)]
noncomputable def aX(lim:V)(last:Int)(z:J):O:=.inst 225 [("limits",lim),("last",.int last),("zero",↥z)]
noncomputable def gf(g:Int)(t:J):O:=.inst 353 [("generation",.int g),("table",↥t)]
noncomputable def bq(h d p:J):O:=.inst 487 [("heap",↥h),("destroy",↥d),("places",↥p)]
noncomputable def dD(h g:J)(gen:Int):O:=.inst 593 [("heap",↥h),("globs",↥g),("generation",.int gen)]
variable(num aC:Int)(bl:V)(wk:J)(ds fr:Bool)(r:Rest)
theorem gZ:eg s!"number" (TO num aC bl wk ds fr r)=U (.int num):=by cases r<;>kernel_rfl
theorem hY:eg s!"count" (TO num aC bl wk ds fr r)=U (.int aC):=by cases r<;>kernel_rfl
theorem Rp:eg s!"blessed" (TO num aC .none wk ds fr r)=U .none:=by cases r<;>kernel_rfl
theorem AH(s:af):eg s!"blessed" (TO num aC (.str s) wk ds fr r)=U (.str s):=by cases r<;>kernel_rfl
theorem K9:eg s!"weak" (TO num aC bl wk ds fr r)=U ↥wk:=by cases r<;>kernel_rfl
theorem YR:eg s!"is_destroyed" (TO num aC bl wk ds fr r)=U (.bool ds):=by cases r<;>kernel_rfl
theorem Jh:eg s!"is_freed" (TO num aC bl wk ds fr r)=U (.bool fr):=by cases r<;>kernel_rfl
theorem l7(x:Int):ig s!"count" (.int x) (TO num aC bl wk ds fr r)=U (TO num x bl wk ds fr r):=by cases r<;>kernel_rfl
theorem U0(s:V):ig s!"blessed" (s) (TO num aC bl wk ds fr r)=U (TO num aC s wk ds fr r):=by cases r<;>kernel_rfl
theorem Ga(x:J):ig s!"weak" ↥x (TO num aC bl wk ds fr r)=U (TO num aC bl x ds fr r):=by cases r<;>kernel_rfl
theorem XM(x:bG):ig s!"is_destroyed" (.bool x) (TO num aC bl wk ds fr r)=U (TO num aC bl wk x fr r):=by cases r<;>kernel_rfl
theorem Ki(x:bG):ig s!"is_freed" (.bool x) (TO num aC bl wk ds fr r)=U (TO num aC bl wk ds x r):=by cases r<;>kernel_rfl
theorem uW:eg s!"value" (TO num aC bl wk ds fr (.nR .none))=U (.none):=ag
theorem vC(l:J):eg s!"value" (TO num aC bl wk ds fr (.nR ↥l))=U ↥l:=ag
theorem Df(s:af):eg s!"value" (TO num aC bl wk ds fr (.nR (.str s)))=U (.str s):=ag
theorem rk(v:V):eg s!"magic" (TO num aC bl wk ds fr (.nR v))=U (.none):=ag
theorem n9(v x:V):ig s!"value" (x) (TO num aC bl wk ds fr (.nR v))=U (TO num aC bl wk ds fr (.nR x)):=ag
theorem kM(l:J):eg s!"items" (TO num aC bl wk ds fr (.arr l))=U ↥l:=ag
theorem Ic(l x:J):ig s!"items" ↥x (TO num aC bl wk ds fr (.arr l))=U (TO num aC bl wk ds fr (.arr x)):=ag
theorem mW(l:J):eg s!"table" (TO num aC bl wk ds fr (.BD l))=U ↥l:=ag
theorem Ig(l x:J):ig s!"table" ↥x (TO num aC bl wk ds fr (.BD l))=U (TO num aC bl wk ds fr (.BD x)):=ag
theorem UA(l:J):ig s!"at" (.int 0) (TO num aC bl wk ds fr (.BD l))=U (TO num aC bl wk ds fr (.BD l)):=ag
theorem HY(x:af)(c:V):eg s!"array" (TO num aC bl wk ds fr (.jL x .none c))=U (.none):=ag
theorem mZ(x:af)(c:V)(l:J):eg s!"array" (TO num aC bl wk ds fr (.jL x ↥l c))=U ↥l:=ag
theorem Kz(x:af)(a:V):eg s!"code" (TO num aC bl wk ds fr (.jL x a .none))=U (.none):=ag
theorem NM(x:af)(a c y:V):ig s!"array" (y) (TO num aC bl wk ds fr (.jL x a c))=U (TO num aC bl wk ds fr (.jL x y c)):=ag
theorem Nd(x:af)(a c y:V):ig s!"code" (y) (TO num aC bl wk ds fr (.jL x a c))=U (TO num aC bl wk ds fr (.jL x a y)):=ag
theorem Ad(l:J)(w:bG):eg s!"target" (eQ ↥l w)=U ↥l:=ag
theorem IC(v:V)(w:bG):eg s!"is_weak" (eQ v w)=U (.bool w):=ag
theorem CW(v:V)(i:Int)(z:J):eg s!"last" (aX v i z)=U (.int i):=ag
theorem qj(v:V)(i:Int)(z:J):eg s!"zero" (aX v i z)=U ↥z:=ag
theorem MM(v:V)(i j:Int)(z:J):ig s!"last" (.int j) (aX v i z)=U (aX v j z):=ag
theorem NW(v:V)(i:Int)(z y:J):ig s!"zero" ↥y (aX v i z)=U (aX v i y):=ag
theorem Ot(i:Int)(z:J):eg s!"generation" (gf i z)=U (.int i):=ag
theorem qu(i:Int)(z:J):eg s!"table" (gf i z)=U ↥z:=ag
theorem Mn(i j:Int)(z:J):ig s!"generation" (.int j) (gf i z)=U (gf j z):=ag
theorem Lz(i:Int)(z y:J):ig s!"table" ↥y (gf i z)=U (gf i y):=ag
theorem gX(a b c:J):eg s!"heap" (bq a b c)=U ↥a:=ag
theorem No(a b c:J):eg s!"destroy" (bq a b c)=U ↥b:=ag
theorem oU(a b c:J):eg s!"places" (bq a b c)=U ↥c:=ag
theorem yl(a b:J)(g:Int):eg s!"heap" (dD a b g)=U ↥a:=ag
theorem dB(a b:J)(g:Int):eg s!"globs" (dD a b g)=U ↥b:=ag
theorem we(a b:J)(g:Int):eg s!"generation" (dD a b g)=U (.int g):=ag
theorem NV(a b:J)(g j:Int):ig s!"generation" (.int j) (dD a b g)=U (dD a b j):=ag
theorem d8(l:J)(v:V)(i:Int)(z:J):dz l s!"next_number" (aX v i z)=U (.fn #[187] [↥l]):=ag
theorem lG(l:J)(v:V)(i:Int)(z:J):dz l s!"new_scalar" (aX v i z)=U (.fn #[194] [↥l]):=ag
theorem np(l:J)(v:V)(i:Int)(z:J):dz l s!"new_array" (aX v i z)=U (.fn #[201] [↥l]):=ag
theorem xZ(l:J)(v:V)(i:Int)(z:J):dz l s!"new_hash" (aX v i z)=U (.fn #[208] [↥l]):=ag
theorem xN(l:J)(v:V)(i:Int)(z:J):dz l s!"new_code" (aX v i z)=U (.fn #[215] [↥l]):=ag
theorem yF(l:J)(v:V)(i:Int)(z:J):dz l s!"new_glob" (aX v i z)=U (.fn #[222] [↥l]):=ag
theorem Mv(l:J)(i:Int)(z:J):dz l s!"find" (gf i z)=U (.fn #[350] [↥l]):=ag
theorem Cj(l:J)(a b c:J):dz l s!"hold" (bq a b c)=U (.fn #[416] [↥l]):=ag
theorem nT(l:J)(a b c:J):dz l s!"let_go" (bq a b c)=U (.fn #[423] [↥l]):=ag
theorem kR(l:J)(a b c:J):dz l s!"take" (bq a b c)=U (.fn #[437] [↥l]):=ag
theorem fN(l:J)(a b c:J):dz l s!"put_off" (bq a b c)=U (.fn #[442] [↥l]):=ag
theorem yH(l:J)(a b c:J):dz l s!"store" (bq a b c)=U (.fn #[449] [↥l]):=ag
theorem qP(l:J)(a b c:J):dz l s!"fresh" (bq a b c)=U (.fn #[456] [↥l]):=ag
theorem L8(l:J)(a b c:J):dz l s!"drop" (bq a b c)=U (.fn #[463] [↥l]):=ag
theorem D9(l:J)(a b c:J):dz l s!"settle" (bq a b c)=U (.fn #[470] [↥l]):=ag
theorem Ep(l:J)(a b c:J):dz l s!"finish" (bq a b c)=U (.fn #[477] [↥l]):=ag
theorem MW(l:J)(a b c:J):dz l s!"free" (bq a b c)=U (.fn #[484] [↥l]):=ag
theorem ml(l:J)(a b:J)(g:Int):dz l s!"glob_of" (dD a b g)=U (.fn #[555] [↥l]):=ag
theorem yD(l:J)(a b:J)(g:Int):dz l s!"array_of" (dD a b g)=U (.fn #[569] [↥l]):=ag
theorem B8(l:J)(a b:J)(g:Int):dz l s!"code_of" (dD a b g)=U (.fn #[583] [↥l]):=ag
theorem sX(l:J)(a b:J)(g:Int):dz l s!"find_array" (dD a b g)=U (.fn #[590] [↥l]):=ag
theorem BM(l:J)(a b c:J):dz l s!"destroy" (bq a b c)=U (.fn ↥b []):=ag
theorem cS(l:J)(xs:List V):dz l s!"append" ⇑xs=U (.append l):=ag
theorem wX(l:J)(xs:List V):dz l s!"pop" ⇑xs=U (.lh l):=ag
end
section
def aG(X:Option (Fl×St))(Q:Fl->Lc->Hp->J->be):be:=∃fl A H' n',X=U (fl,⟨A,H',n'⟩)/\Q fl A H' n'
theorem aG.mk(q:Q fl u H n):aG (U (fl,⟨u,H,n⟩)) Q:=⟨_,_,_,_,Y,q⟩
def Is(v:V)(H:J->Option O)(n:J):V->(J->Option O)->J->be:=λ w H' n'=>w=v/\H'=H/\n'=n
inductive Tr(α:Type)where
 |ret (a:α) (u:Lc)
 |bj
 |eZ (m:M V) (u:Lc) (k:V->Lc->Tr α)
 |subB (m:M Bool) (u:Lc) (k:Bool->Lc->Tr α)
 |mz (m:M Fl) (u:Lc) (k:Fl->Lc->Tr α)
 |lI (m:M Unit) (u:Lc) (k:Lc->Tr α)
 |tp (m:M Meth) (u:Lc) (k:Meth->Lc->Tr α)
namespace Tr
variable{α β:Type}
noncomputable def bind:Tr α->(α->Lc->Tr β)->Tr β
 |ret a u,f=>f a u
 |bj,_=>bj
 |eZ m u k,f=>eZ m u λ v u=>(k v u).bind f
 |subB m u k,f=>subB m u λ v u=>(k v u).bind f
 |mz m u k,f=>mz m u λ v u=>(k v u).bind f
 |lI m u k,f=>lI m u λ u=>(k u).bind f
 |tp m u k,f=>tp m u λ v u=>(k v u).bind f
noncomputable def aE:Tr α->Hp->J->Option (α×St)
 |ret a u,H,n=>U (a,⟨u,H,n⟩)
 |bj,_,_=>F
 |eZ m u k,H,n=>(m ⟨u,H,n⟩).bind λ p=>(k p.1 p.2.loc).aE p.2.H p.2.n
 |subB m u k,H,n=>(m ⟨u,H,n⟩).bind λ p=>(k p.1 p.2.loc).aE p.2.H p.2.n
 |mz m u k,H,n=>(m ⟨u,H,n⟩).bind λ p=>(k p.1 p.2.loc).aE p.2.H p.2.n
 |lI m u k,H,n=>(m ⟨u,H,n⟩).bind λ p=>(k p.2.loc).aE p.2.H p.2.n
 |tp m u k,H,n=>(m ⟨u,H,n⟩).bind λ p=>(k p.1 p.2.loc).aE p.2.H p.2.n
noncomputable def CD(o:Option α)(u:Lc):Tr α:=match o with
 |some a=>ret a u
 |none=>bj
noncomputable def isM:Tr α->Option (M V)|eZ m _ _=>U m|_=>F
noncomputable def kT:Tr α->V->Tr α|eZ _ u k,v=>k v u|_,_=>bj
noncomputable def TD:Tr α->Option (M bG)|subB m _ _=>U m|_=>F
noncomputable def mw:Tr α->bG->Tr α|subB _ u k,v=>k v u|_,_=>bj
noncomputable def xK:Tr α->Option (M Fl)|mz m _ _=>U m|_=>F
noncomputable def zf:Tr α->Lc|mz _ u _=>u|_=>λ _=>F
noncomputable def KC:Tr α->Fl->Lc->Tr α|mz _ _ k,v,u=>k v u|_,_,_=>bj
noncomputable def Ng:Tr α->Option (M Unit)|lI m _ _=>U m|_=>F
noncomputable def pV:Tr α->Tr α|lI _ u k=>k u|_=>bj
noncomputable def Ta:Tr α->Option (M Meth)|tp m _ _=>U m|_=>F
noncomputable def Q7:Tr α->Meth->Tr α|tp _ u k,v=>k v u|_,_=>bj
noncomputable def Lu:Tr α->Option α|ret a _=>U a|_=>F
noncomputable def gr:Tr α->Lc|ret _ u=>u|_=>λ _=>F
theorem cV{P:Tr α->be}{t:Tr α}{m:M V}(e:t.isM=U m)(h:∀u k,P (eZ m u k)):P t:=by
 cases t with
 |eZ=>cases e;exact h _ _
 |_=>exact Fq e
theorem cB{P:Tr α->be}{t:Tr α}{m:M bG}(e:t.TD=U m)(h:∀u k,P (subB m u k)):P t:=by
 cases t with
 |subB=>cases e;exact h _ _
 |_=>exact Fq e
theorem cF{P:Tr α->be}{t:Tr α}{m:M Fl}(e:t.xK=U m)(h:∀u k,P (mz m u k)):P t:=by
 cases t with
 |mz=>cases e;exact h _ _
 |_=>exact Fq e
theorem cU{P:Tr α->be}{t:Tr α}{m:M Unit}(e:t.Ng=U m)(h:∀u k,P (lI m u k)):P t:=by
 cases t with
 |lI=>cases e;exact h _ _
 |_=>exact Fq e
theorem cM{P:Tr α->be}{t:Tr α}{m:M Meth}(e:t.Ta=U m)(h:∀u k,P (tp m u k)):P t:=by
 cases t with
 |tp=>cases e;exact h _ _
 |_=>exact Fq e
theorem cD{P:Tr α->be}{t:Tr α}{a:α}(e:t.Lu=U a)(h:∀u,P (ret a u)):P t:=by
 cases t with
 |ret=>cases e;exact h _
 |_=>exact Fq e
variable{R:Fl->Lc->Hp->J->Prop}{n n':J}{H H':Hp}{t:Tr Fl}
theorem Ec{β:Type}{R:Fl->Lc->Hp->J->be}{x:Option (β×St)}{p:β×St}{f:β×St->Option (Fl×St)}(h:x=U p)(k:aG (f p) R):aG (x.bind f) R:=by rw[h];exact k
abbrev nQ(t:Tr α)(m:M V):be:=t.isM=U m
abbrev Dr(t:Tr α)(m:M bG):be:=t.TD=U m
abbrev IsU(t:Tr α)(m:M Unit):be:=t.Ng=U m
abbrev abe(t:Tr α)(l:J)(nm:af):be:=t.isM=U (jT G ↥l nm)
abbrev DC(t:Tr α)(l:J)(nm:af)(v:V):be:=t.Ng=U (te G ↥l nm v)
abbrev acZ(t:Tr α)(l:J)(nm:af):be:=t.Ta=U (qX G ↥l nm)
abbrev IsC(t:Tr α)(d:J)(f:V)(as:List V):be:=t.isM=U (aq G d f as)
theorem sM{m:M V}{v:V}(h:∀u,m ⟨u,H,n⟩=U (v,⟨u,H',n'⟩))(e:nQ t m:=by kernel_rfl)(k:aG ((t.kT v).aE H' n') R):aG (t.aE H n) R:=
 cV (P:=λ t=>aG ((t.kT v).aE H' n') R->aG (t.aE H n) R) e (λ u k q=>Ec (f:=λ p=>(k p.1 p.2.loc).aE p.2.H p.2.n) (h u) q) k
theorem sO{m:M bG}{v:bG}(h:∀u,m ⟨u,H,n⟩=U (v,⟨u,H',n'⟩))(e:Dr t m:=by kernel_rfl)(k:aG ((t.mw v).aE H' n') R):aG (t.aE H n) R:=
 cB (P:=λ t=>aG ((t.mw v).aE H' n') R->aG (t.aE H n) R) e (λ u k q=>Ec (f:=λ p=>(k p.1 p.2.loc).aE p.2.H p.2.n) (h u) q) k
theorem Td{m:M Unit}(h:∀u,m ⟨u,H,n⟩=U ((),⟨u,H',n'⟩))(e:IsU t m:=by kernel_rfl)(k:aG (t.pV.aE H' n') R):aG (t.aE H n) R:=
 cU (P:=λ t=>aG (t.pV.aE H' n') R->aG (t.aE H n) R) e (λ u k q=>Ec (f:=λ p=>(k p.2.loc).aE p.2.H p.2.n) (h u) q) k
theorem sMM{m:M Meth}{v:Meth}(h:∀u,m ⟨u,H,n⟩=U (v,⟨u,H',n'⟩))(e:t.Ta=U m:=by kernel_rfl)(k:aG ((t.Q7 v).aE H' n') R):aG (t.aE H n) R:=
 cM (P:=λ t=>aG ((t.Q7 v).aE H' n') R->aG (t.aE H n) R) e (λ u k q=>Ec (f:=λ p=>(k p.1 p.2.loc).aE p.2.H p.2.n) (h u) q) k
theorem jj{α β c:Type}{x:Option α}{f:α->Option β}{a:α}{b:β}(g:β->Option c)(h:x=U a)(P:f a=U b):(x.bind f).bind g=g b:=by rw[h];show(f a).bind g=_;rw[P];rfl
theorem cH{l:J}{o:O}{nm:af}{v:V}(h:H l=U o)(P:eg nm o=U v)(e:abe t l nm:=by kernel_rfl)(k:aG ((t.kT v).aE H n) R):aG (t.aE H n) R:=
 sM (λ _=>jj _ h P) e k
theorem my{l:J}{o o':O}{nm:af}{v:V}(h:H l=U o)(P:ig nm v o=U o')(e:DC t l nm v:=by kernel_rfl)(k:aG (t.pV.aE (ah H l (U o')) n) R):aG (t.aE H n) R:=
 Td (λ _=>jj _ h P) e k
theorem ei{l:J}{o:O}{nm:af}{v:Meth}(h:H l=U o)(P:dz l nm o=U v)(e:acZ t l nm:=by kernel_rfl)(k:aG ((t.Q7 v).aE H n) R):aG (t.aE H n) R:=
 sMM (λ _=>jj _ h P) e k
theorem sL{cs:List (af×J)}{x:af}{l:J}{v:V}(h:H l=U (.cell (U v)))(e:nQ t (fK cs x):=by kernel_rfl)(L:cs.lookup x=U l:=by kernel_rfl)(k:aG ((t.kT v).aE H n) R):aG (t.aE H n) R:=
 sM (λ _=>by rewrite[Cs,L,eT];exact jj _ h Y) e k
theorem sP{cs:List (af×J)}{x:af}{l:J}{v:V}{w:Option V}(h:H l=U (.cell w))(e:IsU t (setC cs x v):=by kernel_rfl)(L:cs.lookup x=U l:=by kernel_rfl)(k:aG (t.pV.aE (ah H l (U (.cell (U v)))) n) R):aG (t.aE H n) R:=
 Td (λ _=>by rw[NB,L,eT];exact jj _ h Y) e k
theorem sC{d:J}{f:V}{as:List V}{Q:V->Hp->J->be}(h:ba d f as H n Q)(e:IsC t d f as:=by kernel_rfl)(k:∀v H' n',Q v H' n'->aG ((t.kT v).aE H' n') R):aG (t.aE H n) R:=
by obtain v|H'|n'|D|q:=h;exact sM D e (k v H' n' q)
theorem sD{d:J}{f:V}{as:List V}{v:V}(h:ba d f as H n (Is v H' n'))(e:IsC t d f as:=by kernel_rfl)(k:aG ((t.kT v).aE H' n') R):aG (t.aE H n) R:=
 sC h e λ _ _ _ ⟨a,b,c⟩=>a▸b▸c▸k
end Tr
open Tr
noncomputable def atR(v:V)(nm:af)(u:Lc):Tr V:=.eZ (jT G v nm) u .ret
noncomputable def mtR(v:V)(nm:af)(u:Lc):Tr Meth:=match v with
 |.ref l=>.tp (qX G ↥l nm) u .ret
 |v=>CD ((oh v).bind λ c=>(G.cls c).bind λ S=>if nm=s!"__init__" then U (.fn (.con ↥S.init) [])else F) u
noncomputable def biR(op:Bop)(a b:V)(u:Lc):Tr V:=match a with
 |.int x=>(match b with
  |.int y=>(CD (binI op x y) u).bind λ i u=>.ret (.int i) u
  |_=>.bj)
 |a=>.eZ (binop op a b) u .ret
noncomputable def Sn(op:Bop)(a b:V)(u:Lc):Tr V:=match a with
 |.int x=>(match b with
  |.int y=>(CD (HR op x y) u).bind λ i u=>.ret (.int i) u
  |_=>.bj)
 |a=>.eZ (ix op a b) u .ret
noncomputable def cmR(op:Cop)(a b:V)(u:Lc):Tr bG:=match op with
 |.is=>CD (isQ a b) u
 |.fj=>(CD (isQ a b) u).bind λ t u=>.ret (!t) u
 |op=>.subB (ew op a b) u .ret
noncomputable def trR(v:V)(u:Lc):Tr bG:=match v with
 |.bool b=>.ret b u
 |v=>.subB (truth v) u .ret
noncomputable def ngR(v:V)(u:Lc):Tr V:=match v with
 |.int i=>.ret (.int (-i)) u
 |_=>.bj
section
variable(cf:V->List V->M V)(cs:List (af×J))
mutual
noncomputable def gF:T->Lc->Tr V
 |.lit v,u=>.ret v u
 |.loc x,u=>CD (u x) u
 |.cW x,u=>.eZ (fK cs x) u .ret
 |.bin op l r,u=>(gF l u).bind λ a u=>(gF r u).bind λ b u=>biR op a b u
 |.attr o nm,u=>(gF o u).bind λ v u=>atR v nm u
 |.list es,u=>(rR es u).bind λ vs u=>.eZ (if vs.length<=1000 then new ⇑vs else bj) u .ret
 |.aK o nm args,u=>(gF o u).bind λ v u=>(mtR v nm u).bind λ m u=>(rR args u).bind λ as u=>.eZ (lE cf m as) u .ret
 |.call f args,u=>(gF f u).bind λ f u=>(rR args u).bind λ as u=>.eZ (eh G cf f as) u .ret
 |.sub o i,u=>(gF o u).bind λ a u=>(gF i u).bind λ b u=>.eZ (fD a b) u .ret
 |.ite c a b,u=>(P8 c u).bind λ t u=>if t then gF a u else gF b u
 |.neg x,u=>(gF x u).bind λ v u=>ngR v u
 |.dict ks vs,u=>(rR ks u).bind λ a u=>(rR vs u).bind λ b u=>.eZ (qI a b) u .ret
 |.tup es,u=>(rR es u).bind λ vs u=>.eZ (if vs.length<=1000 then new (.tup vs)else bj) u .ret
 |.fR elt x it ifs,u=>(gF it u).bind λ i u=>.eZ (aI (dG i) λ i=>nE G cf cs elt x ifs i) u .ret
 |.iK a m _ it,u=>(gF it u).bind λ i u=>.eZ (aI (gE i) λ ks=>CS G cs a m ks) u .ret
 |.mP k v x it,u=>(gF it u).bind λ i u=>.eZ (aI (dG i) λ i=>uH G cf cs k v x i) u .ret
 |.cmp op l r,u=>(gF l u).bind λ a u=>(gF r u).bind λ b u=>(cmR op a b u).bind λ c u=>.ret (.bool c) u
 |.slice o lo hi,u=>(gF o u).bind λ a u=>(SO lo u).bind λ l u=>(SO hi u).bind λ h u=>.eZ (oV a l h) u .ret
 |.not _,_=>.bj
 |.all _,_=>.bj
 |.any _,_=>.bj
 |.bad,_=>.bj
noncomputable def SO:Option T->Lc->Tr (Option V)
 |none,u=>.ret F u
 |some e,u=>(gF e u).bind λ v u=>.ret (U v) u
noncomputable def P8:T->Lc->Tr bG
 |.cmp op l r,u=>(gF l u).bind λ a u=>(gF r u).bind λ b u=>cmR op a b u
 |.not x,u=>(P8 x u).bind λ b u=>.ret (!b) u
 |.all es,u=>RN es u
 |.any es,u=>Qj es u
 |.loc x,u=>(CD (u x) u).bind λ v u=>trR v u
 |.attr o nm,u=>((gF o u).bind λ v u=>atR v nm u).bind λ v u=>trR v u
 |.call f args,u=>((gF f u).bind λ f u=>(rR args u).bind λ as u=>.eZ (eh G cf f as) u .ret).bind λ v u=>trR v u
 |e,u=>.subB (c7 G cf cs e (ap G cf cs e)) u .ret
noncomputable def rR:List T->Lc->Tr (List V)
 |[],u=>.ret [] u
 |e::r,u=>(gF e u).bind λ v u=>(rR r u).bind λ vs u=>.ret (v::vs) u
noncomputable def RN:List T->Lc->Tr bG
 |[],u=>.ret ai u
 |e::r,u=>(P8 e u).bind λ b u=>if b then RN r u else .ret aj u
noncomputable def Qj:List T->Lc->Tr bG
 |[],u=>.ret aj u
 |e::r,u=>(P8 e u).bind λ b u=>if b then .ret ai u else Qj r u
end
end
section
variable{α β:Type}{H:Hp}{n:J}{u:Lc}
theorem i5{α β c:Type}{x:Option α}{f:α->Option β}{g:β->Option c}{h:α->Option c}(e:∀a,h a=(f a).bind g):x.bind h=(x.bind f).bind g:=by
 cases x with
 |none=>rfl
 |some a=>exact e a
theorem run_bind(t:Tr α)(f:α->Lc->Tr β):∀(H:Hp)(n:J),(t.bind f).aE H n=(t.aE H n).bind λ p=>(f p.1 p.2.loc).aE p.2.H p.2.n:=by
 induction t with
 |ret a u=>exact λ _ _=>rfl
 |bj=>exact λ _ _=>rfl
 |eZ m u k X=>exact λ H n=>i5 λ _=>X _ _ _ _
 |subB m u k X=>exact λ H n=>i5 λ _=>X _ _ _ _
 |mz m u k X=>exact λ H n=>i5 λ _=>X _ _ _ _
 |lI m u k X=>exact λ H n=>i5 λ _=>X _ _ _
 |tp m u k X=>exact λ H n=>i5 λ _=>X _ _ _ _
theorem eY{m:M α}{f:α->M β}{t:Tr α}{g:α->Lc->Tr β}(h1:t.aE H n=m ⟨u,H,n⟩)(h2:∀a u H n,(g a u).aE H n=f a ⟨u,H,n⟩):(t.bind g).aE H n=aI m f ⟨u,H,n⟩:=by rw[run_bind,h1];show z8 _ _=z8 _ _;congr 1;funext ⟨a,u,H,n⟩;exact h2 a u H n
theorem jX{α:Type}{x:Option α}{f:α->Option α}(e:∀a,f a=U a):x.bind f=x:=by
 cases x with
 |none=>rfl
 |some a=>exact e a
theorem zg(m:M V):(Tr.eZ m u .ret).aE H n=m ⟨u,H,n⟩:=jX λ _=>rfl
theorem yc(m:M bG):(Tr.subB m u .ret).aE H n=m ⟨u,H,n⟩:=jX λ _=>rfl
theorem brF(m:M Fl):(Tr.mz m u .ret).aE H n=m ⟨u,H,n⟩:=jX λ _=>rfl
theorem brW(m:M Unit):(Tr.lI m u (.ret ())).aE H n=m ⟨u,H,n⟩:=jX λ _=>rfl
theorem brM(m:M Meth):(Tr.tp m u .ret).aE H n=m ⟨u,H,n⟩:=jX λ _=>rfl
theorem PX(o:Option α):(CD o u).aE H n=uS o ⟨u,H,n⟩:=by cases o<;>rfl
theorem vy(o:Option α):(CD o u).aE H n=o.bind λ a=>U (a,⟨u,H,n⟩):=by cases o<;>rfl
theorem Kg(v:V)(nm:af):(atR v nm u).aE H n=jT G v nm ⟨u,H,n⟩:=zg _
theorem VD(v:V)(nm:af):(mtR v nm u).aE H n=qX G v nm ⟨u,H,n⟩:=by
 cases v with
 |ref l=>exact brM _
 |con c=>exact vy _
 |_=>rfl
theorem WK(op:Bop)(a b:V):(biR op a b u).aE H n=binop op a b ⟨u,H,n⟩:=by
 cases a with
 |int x=>cases b with
  |int y=>show((CD (binI op x y) u).bind _).aE H n=(binI op x y).bind _;cases binI op x y<;>rfl
  |_=>rfl
 |_=>exact zg _
theorem Io(op:Bop)(a b:V):(Sn op a b u).aE H n=ix op a b ⟨u,H,n⟩:=by
 cases a with
 |int x=>cases b with
  |int y=>show((CD (HR op x y) u).bind _).aE H n=(HR op x y).bind _;cases HR op x y<;>rfl
  |_=>rfl
 |_=>exact zg _
theorem Qe(op:Cop)(a b:V):(cmR op a b u).aE H n=ew op a b ⟨u,H,n⟩:=by
 cases op with
 |is=>exact vy _
 |fj=>show((CD (isQ a b) u).bind _).aE H n=(isQ a b).bind _;cases isQ a b<;>rfl
 |_=>exact yc _
theorem Js(v:V):(trR v u).aE H n=truth v ⟨u,H,n⟩:=by
 cases v with
 |bool b=>rfl
 |_=>exact yc _
end
section
variable(cf:V->List V->M V)(cs:List (af×J))
mutual
theorem jR:∀(e:T)(u:Lc)(H:Hp)(n:J),(gF cf cs e u).aE H n=ap G cf cs e ⟨u,H,n⟩
 |.lit _,_,_,_=>rfl
 |.loc _,_,_,_=>(PX _).trans ((m9 ..).trans (Oy ..).symm)
 |.cW _,_,_,_=>zg _
 |.bin _ l r,u,H,n=>eY (jR l u H n) λ _ u H n=>eY (jR r u H n) λ _ _ _ _=>WK ..
 |.attr o _,u,H,n=>eY (jR o u H n) λ _ _ _ _=>Kg ..
 |.list es,u,H,n=>eY (xO es u H n) λ _ _ _ _=>zg _
 |.aK o _ args,u,H,n=>eY (jR o u H n) λ _ _ _ _=>eY (VD ..) λ _ u H n=>eY (xO args u H n) λ _ _ _ _=>zg _
 |.call f args,u,H,n=>eY (jR f u H n) λ _ u H n=>eY (xO args u H n) λ _ _ _ _=>zg _
 |.sub o i,u,H,n=>eY (jR o u H n) λ _ u H n=>eY (jR i u H n) λ _ _ _ _=>zg _
 |.ite c a b,u,H,n=>eY (Tc c u H n) λ t u H n=>by cases t;exact jR b u H n;exact jR a u H n
 |.neg x,u,H,n=>eY (α:=V) (β:=V) (f:=λ v=>match v with|.int i=>Mu.Internal.ret (V.int (-i))|_=>Mu.Internal.bj) (g:=λ v u=>ngR v u) (jR x u H n) λ v _ _ _=>by cases v<;>rfl
 |.dict ks vs,u,H,n=>by show((rR cf cs ks u).bind (λ a u=>(rR cf cs vs u).bind λ b u=>.eZ (qI a b) u .ret)).aE H n=aI (cX G cf cs ks) (λ a=>aI (cX G cf cs vs) λ b=>qI a b) ⟨u,H,n⟩;exact eY (xO ks u H n) λ _ u H n=>eY (xO vs u H n) λ _ _ _ _=>zg _
 |.tup es,u,H,n=>eY (xO es u H n) λ _ _ _ _=>zg _
 |.fR elt x it ifs,u,H,n=>by show((gF cf cs it u).bind (λ i u=>.eZ (aI (dG i) λ i=>nE G cf cs elt x ifs i) u .ret)).aE H n=aI (ap G cf cs it) (λ i=>aI (dG i) λ i=>nE G cf cs elt x ifs i) ⟨u,H,n⟩;exact eY (jR it u H n) λ _ _ _ _=>zg _
 |.iK a m x it,u,H,n=>by show((gF cf cs it u).bind (λ i u=>.eZ (aI (gE i) λ ks=>CS G cs a m ks) u .ret)).aE H n=aI (ap G cf cs it) (λ i=>aI (gE i) λ ks=>CS G cs a m ks) ⟨u,H,n⟩;exact eY (jR it u H n) λ _ _ _ _=>zg _
 |.mP k v x it,u,H,n=>by show((gF cf cs it u).bind (λ i u=>.eZ (aI (dG i) λ i=>uH G cf cs k v x i) u .ret)).aE H n=aI (ap G cf cs it) (λ i=>aI (dG i) λ i=>uH G cf cs k v x i) ⟨u,H,n⟩;exact eY (jR it u H n) λ _ _ _ _=>zg _
 |.cmp op l r,u,H,n=>eY (jR l u H n) λ _ u H n=>eY (jR r u H n) λ _ _ _ _=>eY (Qe ..) λ _ _ _ _=>rfl
 |.slice o lo hi,u,H,n=>eY (jR o u H n) λ _ u H n=>eY (TH lo u H n) λ _ u H n=>eY (TH hi u H n) λ _ _ _ _=>zg _
 |.not _,_,_,_=>rfl
 |.all _,_,_,_=>rfl
 |.any _,_,_,_=>rfl
 |.bad,_,_,_=>rfl
theorem TH:∀(e:Option T)(u:Lc)(H:Hp)(n:J),(SO cf cs e u).aE H n=jx G cf cs e ⟨u,H,n⟩
 |none,_,_,_=>rfl
 |some e,u,H,n=>by show((gF cf cs e u).bind (λ v u=>.ret (U v) u)).aE H n=aI (ap G cf cs e) (λ v=>ret (U v)) ⟨u,H,n⟩;exact eY (jR e u H n) λ _ _ _ _=>rfl
theorem Tc:∀(e:T)(u:Lc)(H:Hp)(n:J),(P8 cf cs e u).aE H n=c7 G cf cs e (ap G cf cs e) ⟨u,H,n⟩
 |.cmp _ l r,u,H,n=>eY (jR l u H n) λ _ u H n=>eY (jR r u H n) λ _ _ _ _=>Qe ..
 |.not x,u,H,n=>eY (Tc x u H n) λ _ _ _ _=>rfl
 |.all es,u,H,n=>Vq es u H n
 |.lit _,_,_,_=>yc _
 |.loc _,u,H,n=>eY ((PX _).trans ((m9 ..).trans (Oy ..).symm)) λ _ _ _ _=>Js _
 |.cW _,_,_,_=>yc _
 |.bin _ _ _,_,_,_=>yc _
 |.attr o _,u,H,n=>eY (eY (jR o u H n) λ _ _ _ _=>Kg ..) λ _ _ _ _=>Js _
 |.list _,_,_,_=>yc _
 |.aK _ _ _,_,_,_=>yc _
 |.call f args,u,H,n=>eY (eY (jR f u H n) λ _ u H n=>eY (xO args u H n) λ _ _ _ _=>zg _) λ _ _ _ _=>Js _
 |.sub _ _,_,_,_=>yc _
 |.ite _ _ _,_,_,_=>yc _
 |.neg _,_,_,_=>yc _
 |.dict _ _,_,_,_=>yc _
 |.tup _,_,_,_=>yc _
 |.fR _ _ _ _,_,_,_=>yc _
 |.iK _ _ _ _,_,_,_=>yc _
 |.mP _ _ _ _,_,_,_=>yc _
 |.slice _ _ _,_,_,_=>yc _
 |.any es,u,H,n=>TX es u H n
 |.bad,_,_,_=>yc _
theorem xO:∀(es:List T)(u:Lc)(H:Hp)(n:J),(rR cf cs es u).aE H n=cX G cf cs es ⟨u,H,n⟩
 |[],_,_,_=>rfl
 |e::r,u,H,n=>eY (jR e u H n) λ _ u H n=>eY (xO r u H n) λ _ _ _ _=>rfl
theorem Vq:∀(es:List T)(u:Lc)(H:Hp)(n:J),(RN cf cs es u).aE H n=ej G cf cs es ⟨u,H,n⟩
 |[],_,_,_=>rfl
 |e::r,u,H,n=>eY (Tc e u H n) λ b u H n=>by cases b;rfl;exact Vq r u H n
theorem TX:∀(es:List T)(u:Lc)(H:Hp)(n:J),(Qj cf cs es u).aE H n=pg G cf cs es ⟨u,H,n⟩
 |[],_,_,_=>rfl
 |e::r,u,H,n=>eY (Tc e u H n) λ b u H n=>by cases b;exact TX r u H n;rfl
end
end
theorem brS{β:Type}{f:V->M β}{g:V->Lc->Tr β}(h2:∀a u H n,(g a u).aE H n=f a ⟨u,H,n⟩):(Tr.eZ m u g).aE H n=aI m f ⟨u,H,n⟩:=by show(m _).bind _=(m _).bind _;congr 1;funext ⟨a,u,H,n⟩;exact h2 a u H n
noncomputable def OE(cs:List (af×J))(t:Tgt)(v:V)(u:Lc):Tr Unit:=match t with
 |.loc x=>.ret () (ah u x (U v))
 |.cW x=>.lI (setC cs x v) u (.ret ())
noncomputable def gtR(cs:List (af×J))(t:Tgt)(u:Lc):Tr V:=match t with
 |.loc x=>CD (u x) u
 |.cW x=>.eZ (fK cs x) u .ret
noncomputable def Xf(v:V)(nm:af)(x:V)(u:Lc):Tr Unit:=.lI (te G v nm x) u (.ret ())
section
variable{H:Hp}{n:J}{u:Lc}
theorem Pd(cs:List (af×J))(t:Tgt)(v:V):(OE cs t v u).aE H n=ff cs t v ⟨u,H,n⟩:=by
 cases t with
 |loc x=>rfl
 |cW x=>exact brW _
theorem US(cs:List (af×J))(t:Tgt):(gtR cs t u).aE H n=NY cs t ⟨u,H,n⟩:=by
 cases t with
 |loc x=>exact(vy _).trans (Dk ..).symm
 |cW x=>exact zg _
theorem OT(v:V)(nm:af)(x:V):(Xf v nm x u).aE H n=te G v nm x ⟨u,H,n⟩:=brW _
end
section
variable(cf:V->List V->M V)(cs:List (af×J))
mutual
noncomputable def exR:TS->Lc->Tr Fl
 |.expr e,u=>(gF cf cs e u).bind λ _ u=>.ret .next u
 |.pass,u=>.ret .next u
 |.brk,u=>.ret .brk u
 |.cont,u=>.ret .cont u
 |.ret F,u=>.ret (.ret .none) u
 |.ret (U e),u=>(gF cf cs e u).bind λ v u=>.ret (.ret v) u
 |.asg t e,u=>(gF cf cs e u).bind λ v u=>(OE cs t v u).bind λ _ u=>.ret .next u
 |.rW t I e,u=>.mz (c6 G cf cs (.rW t I e)) u .ret
 |.bz o nm e,u=>(gF cf cs e u).bind λ v u=>(gF cf cs o u).bind λ j u=>(Xf j nm v u).bind λ _ u=>.ret .next u
 |.fW o i e,u=>(gF cf cs e u).bind λ v u=>(gF cf cs o u).bind λ j u=>(gF cf cs i u).bind λ k u=>.lI (jc j k v) u (.ret .next)
 |.aug t op e,u=>(gtR cs t u).bind λ a u=>(gF cf cs e u).bind λ b u=>(Sn op a b u).bind λ v u=>(OE cs t v u).bind λ _ u=>.ret .next u
 |.n7 o nm op e,u=>(gF cf cs o u).bind λ j u=>(atR j nm u).bind λ a u=>(gF cf cs e u).bind λ b u=>(Sn op a b u).bind λ v u=>(Xf j nm v u).bind λ _ u=>.ret .next u
 |.sZ o i op e,u=>(gF cf cs o u).bind λ j u=>(gF cf cs i u).bind λ k u=>.eZ (fD j k) u λ a u=>(gF cf cs e u).bind λ b u=>(Sn op a b u).bind λ v u=>.lI (jc j k v) u (.ret .next)
 |.ite c a b,u=>(P8 cf cs c u).bind λ t u=>if t then du a u else du b u
 |.jD c a,u=>.mz (c6 G cf cs (.jD c a)) u .ret
 |.eL t it a,u=>(gF cf cs it u).bind λ i u=>.mz (aI (dG i) λ i=>jV G cf cs t a i) u .ret
 |.bad,_=>.bj
noncomputable def du:List TS->Lc->Tr Fl
 |[],u=>.ret .next u
 |s::r,u=>(exR s u).bind λ fl u=>match fl with
  |.next=>du r u
  |fl=>.ret fl u
end
mutual
theorem brX:∀(s:TS)(u:Lc)(H:Hp)(n:J),(exR cf cs s u).aE H n=c6 G cf cs s ⟨u,H,n⟩
 |.expr e,u,H,n=>eY (β:=Fl) (f:=λ _=>ret .next) (g:=λ _ u=>.ret .next u) (jR cf cs e u H n) λ _ _ _ _=>rfl
 |.pass,_,_,_=>rfl
 |.brk,_,_,_=>rfl
 |.cont,_,_,_=>rfl
 |.ret F,_,_,_=>rfl
 |.ret (U e),u,H,n=>eY (β:=Fl) (f:=λ v=>ret (.ret v)) (g:=λ v u=>.ret (.ret v) u) (jR cf cs e u H n) λ _ _ _ _=>rfl
 |.asg t e,u,H,n=>eY (β:=Fl) (f:=λ v=>aI (ff cs t v) λ _=>ret .next) (g:=λ v u=>(OE cs t v u).bind λ _ u=>.ret .next u) (jR cf cs e u H n) λ _ _ _ _=>eY (Pd ..) λ _ _ _ _=>rfl
 |.rW _ _ _,_,_,_=>brF _
 |.bz o nm e,u,H,n=>eY (β:=Fl) (f:=λ v=>aI (ap G cf cs o) λ j=>aI (te G j nm v) λ _=>ret .next) (g:=λ v u=>(gF cf cs o u).bind λ j u=>(Xf j nm v u).bind λ _ u=>.ret .next u) (jR cf cs e u H n) λ _ u H n=>eY (jR cf cs o u H n) λ _ _ _ _=>eY (OT ..) λ _ _ _ _=>rfl
 |.fW o i e,u,H,n=>eY (β:=Fl) (f:=λ v=>aI (ap G cf cs o) λ j=>aI (ap G cf cs i) λ k=>aI (jc j k v) λ _=>ret .next) (g:=λ v u=>(gF cf cs o u).bind λ j u=>(gF cf cs i u).bind λ k u=>.lI (jc j k v) u (.ret .next)) (jR cf cs e u H n) λ _ u H n=>eY (jR cf cs o u H n) λ _ u H n=>eY (jR cf cs i u H n) λ _ _ _ _=>rfl
 |.aug t op e,u,H,n=>eY (β:=Fl) (f:=λ a=>aI (ap G cf cs e) λ b=>aI (ix op a b) λ v=>aI (ff cs t v) λ _=>ret .next) (g:=λ a u=>(gF cf cs e u).bind λ b u=>(Sn op a b u).bind λ v u=>(OE cs t v u).bind λ _ u=>.ret .next u) (US ..) λ _ u H n=>eY (jR cf cs e u H n) λ _ _ _ _=>eY (Io ..) λ _ _ _ _=>eY (Pd ..) λ _ _ _ _=>rfl
 |.n7 o nm op e,u,H,n=>eY (β:=Fl) (f:=λ j=>aI (jT G j nm) λ a=>aI (ap G cf cs e) λ b=>aI (ix op a b) λ v=>aI (te G j nm v) λ _=>ret .next) (g:=λ j u=>(atR j nm u).bind λ a u=>(gF cf cs e u).bind λ b u=>(Sn op a b u).bind λ v u=>(Xf j nm v u).bind λ _ u=>.ret .next u) (jR cf cs o u H n) λ _ _ _ _=>eY (Kg ..) λ _ u H n=>eY (jR cf cs e u H n) λ _ _ _ _=>eY (Io ..) λ _ _ _ _=>eY (OT ..) λ _ _ _ _=>rfl
 |.sZ o i op e,u,H,n=>eY (β:=Fl) (f:=λ j=>aI (ap G cf cs i) λ k=>aI (fD j k) λ a=>aI (ap G cf cs e) λ b=>aI (ix op a b) λ v=>aI (jc j k v) λ _=>ret .next) (g:=λ j u=>(gF cf cs i u).bind λ k u=>.eZ (fD j k) u λ a u=>(gF cf cs e u).bind λ b u=>(Sn op a b u).bind λ v u=>.lI (jc j k v) u (.ret .next)) (jR cf cs o u H n) λ _ u H n=>eY (jR cf cs i u H n) λ _ _ _ _=>brS λ _ u H n=>eY (jR cf cs e u H n) λ _ _ _ _=>eY (Io ..) λ _ _ _ _=>rfl
 |.ite c a b,u,H,n=>by show((P8 cf cs c u).bind (λ t u=>if t then du cf cs a u else du cf cs b u)).aE H n=aI (c7 G cf cs c (ap G cf cs c)) (λ t=>if t then ay G cf cs a else ay G cf cs b) ⟨u,H,n⟩;exact eY (Tc cf cs c u H n) λ t u H n=>by cases t;exact iM b u H n;exact iM a u H n
 |.jD _ _,_,_,_=>brF _
 |.eL t it a,u,H,n=>eY (β:=Fl) (f:=λ i=>aI (dG i) λ i=>jV G cf cs t a i) (g:=λ i u=>.mz (aI (dG i) λ i=>jV G cf cs t a i) u .ret) (jR cf cs it u H n) λ _ _ _ _=>brF _
 |.bad,_,_,_=>rfl
theorem iM:∀(b:List TS)(u:Lc)(H:Hp)(n:J),(du cf cs b u).aE H n=ay G cf cs b ⟨u,H,n⟩
 |[],_,_,_=>rfl
 |s::r,u,H,n=>by show((exR cf cs s u).bind (λ fl u=>match fl with|.next=>du cf cs r u|fl=>.ret fl u)).aE H n=aI (c6 G cf cs s) (λ fl=>match fl with|.next=>ay G cf cs r|fl=>ret fl) ⟨u,H,n⟩;exact eY (brX s u H n) λ fl u H n=>by cases fl;exact iM r u H n;rfl;rfl;rfl
end
end
def EQ(Q:V->Hp->J->be)(fl:Fl)(_:Lc)(H:Hp)(n:J):be:=∃v,flO fl=U v/\Q v H n
theorem Tr.sQ{Q:V->Hp->J->be}{n:J}{H:Hp}{t:Tr Fl}(fl:Fl){v:V}(e:t.Lu=U fl)(z:flO fl=U v)(q:Q v H n):aG (t.aE H n) (EQ Q):=
 cD (P:=λ t=>aG (t.aE H n) (EQ Q)) e λ _=>aG.mk ⟨_,z,q⟩
namespace Tr
variable{α β:Type}{R:Fl->Lc->Hp->J->Prop}{n n':J}{H H':Hp}{t:Tr Fl}
theorem sEq{a b:Int}{v:bG}(h:decide (a=b)=v)(e:Dr t (ew .eq (.int a) (.int b)))(k:aG ((t.mw v).aE H n) R):aG (t.aE H n) R:=
 sO (λ u=>by rw[Je,FS,h]) e k
theorem pU{cf:V->List V->M V}{l:J}{c:ao}{o:O}{b:bG}(h:H l=U o)(hi:CC c o=U b)(e:nQ t (eh G cf (.con (.builtin "isinstance")) [↥l,.con ↥c]))(k:aG ((t.kT (.bool b)).aE H n) R):aG (t.aE H n) R:=
 sM (λ u=>by rw[LW,DR,h];show((CC c o).bind _).bind _=_;rw[hi];rfl) e k
theorem sAp{cf:V->List V->M V}{l:J}{v:V}{xs:List V}(h:H l=U ⇑xs)(L:xs.length<=1000)(e:nQ t (lE cf (.append l) [v]))(k:aG ((t.kT .none).aE (ah H l (U ⇑(xs++[v]))) n) R):aG (t.aE H n) R:=
 sM (λ u=>by rw[Dx,h];show((AB v ⇑xs).bind _)=_;rw[show AB v ⇑xs=U ⇑(xs++[v])from if_pos L];rfl) e k
theorem sN(vs:List V)(L:vs.length<=1000)(e:nQ t (if vs.length<=1000 then new ⇑vs else Mu.Internal.bj))(k:aG ((t.kT ↥n).aE (ah H n (U ⇑vs)) (n+1)) R):aG (t.aE H n) R:=
 sM (λ u=>by rw[if_pos L];rfl) e k
theorem sE(e:nQ t (qI [] []))(k:aG ((t.kT ↥n).aE (ah H n (U (.dict []))) (n+1)) R):aG (t.aE H n) R:=
 sM (λ _=>rfl) e k
theorem sW0{l:J}{o o':O}{nm:af}{v:V}(P:ig nm v o=U o')(e:DC t l nm v)(k:aG (t.pV.aE (ah H l (U o')) n) R):aG (t.aE (ah H l (U o)) n) R:=
 my (aa ..) P e (by rw[dk];exact k)
theorem sW1{l l2:J}{o o':O}{x:Option O}{nm:af}{v:V}(L:l≠l2)(P:ig nm v o=U o')(e:DC t l nm v)(k:aG (t.pV.aE (ah (ah H l (U o')) l2 x) n) R):aG (t.aE (ah (ah H l (U o)) l2 x) n) R:=
 my (by rw[ae L];exact aa ..) P e (by rw[fY _ _ _ L.symm,dk];exact k)
theorem Wi{c:ao}{fs:List (af×V)}{l:J}{nm:af}{v:V}(P:ig nm v (.inst c fs)=U (.inst c (oe nm v fs)))(e:DC t l nm v)(k:aG (t.pV.aE (ah H l (U (.inst c (oe nm v fs)))) n) R):aG (t.aE (ah H l (U (.inst c fs))) n) R:=sW0 P e k
theorem CJ{c:ao}{fs:List (af×V)}{l l2:J}{x:Option O}{nm:af}{v:V}(L:l≠l2)(P:ig nm v (.inst c fs)=U (.inst c (oe nm v fs)))(e:DC t l nm v)(k:aG (t.pV.aE (ah (ah H l (U (.inst c (oe nm v fs)))) l2 x) n) R):aG (t.aE (ah (ah H l (U (.inst c fs))) l2 x) n) R:=sW1 L P e k
theorem TB{c:ao}{fs:List (af×V)}{l l2 i:J}{x y:Option O}{nm:af}{v:V}(L:l≠l2)(h:l≠i)(P:ig nm v (.inst c fs)=U (.inst c (oe nm v fs)))(e:DC t l nm v)(k:aG (t.pV.aE (ah (ah (ah H l (U (.inst c (oe nm v fs)))) l2 x) i y) n) R):aG (t.aE (ah (ah (ah H l (U (.inst c fs))) l2 x) i y) n) R:=
 my (by rw[ae h,ae L];exact aa ..) P e (by rw[fY _ _ _ h.symm,fY _ _ _ L.symm,dk];exact k)
end Tr
theorem aP{cf:V->List V->M V}{cs:List (af×J)}{b:List TS}{u:Lc}{H:Hp}{n:J}{Q:V->Hp->J->be}(h:aG ((du cf cs b u).aE H n) (EQ Q)):Ends (ay G cf cs b ⟨u,H,n⟩) Q:=by rw[<-iM];exact h
end
section
open Tr
variable{d:J}{H:J->Option O}{n:J}
theorem ba.Fd{d:J}{c:ao}{S:Fp}{H H1:J->Option O}{n E:J}
 (hn:G.fn c=F)(hc:G.cls c=U S)(P:G.fn S.init=U fn)
 (h:ba (d+1) (.con ↥S.init) (↥n::args) (ah H n (U (.inst c []))) (n+1) (Is .none H1 E)):ba (d+1) (.con ↥c) args H n (Is ↥n H1 E):=
 ba.cls hn hc P (h.weak λ v H' n' ⟨a,b,c⟩=>⟨a,Y,b,c⟩)
theorem J3:n≠n+1+1:=adC
theorem kE:n≠n+1:=bP (cQ _)
theorem JY{c l:J}{num aC:Int}{bl:V}{wk:J}{ds fr:bG}{r:Rest}
 (h1:H l=U (TO num aC bl wk ds fr r)):
 ba (d+1) #[416] [↥c,↥l] H n (Is .none (ah H l (U (TO num (aC+1) bl wk ds fr r))) n):=
 aE XW (aP (cH h1 (hY ..) ag (my h1 (l7 ..) ag (sQ .next ag Y ⟨Y,Y,Y⟩))))
theorem ym{c l hp z:J}{dl p:J}{num aC:Int}{bl:V}{wk:J}{ds fr:bG}{r:Rest}{lim:V}{last:Int}{zs:List V}
 (h1:H l=U (TO num aC bl wk ds fr r))(h2:H c=U (bq hp dl p))(I:H hp=U (aX lim last z))(D:H z=U ⇑zs)(m:zs.length<=1000)
 (x:c≠l)(q:hp≠l)(h7:z≠l):
 ba (d+1) #[423] [↥c,↥l] H n (Is .none (if aC -1=0 then ah (ah H l (U (TO num (aC -1) bl wk ds fr r))) z (U ⇑(zs++[↥l]))else ah H l (U (TO num (aC -1) bl wk ds fr r))) n):=by
 have Q:=aa H l (U (TO num (aC -1) bl wk ds fr r));refine aE Yi (aP (cH h1 (hY ..) ag (my h1 (l7 ..) ag (cH Q (hY ..) ag ?_))));by_cases h:aC -1=0
 .rw[if_pos h];exact sEq (decide_eq_true h) ag (cH ((ae x).trans h2) (gX ..) ag (cH ((ae q).trans I) (qj ..) ag (ei (nm:="append") (v:=.append z) ((ae h7).trans D) ag ag (sAp (cf:=aq G d) (v:=↥l) ((ae h7).trans D) m ag (sQ .next ag Y ⟨Y,Y,Y⟩)))))
 .rw[if_neg h];exact sEq (decide_eq_false h) ag (sQ .next ag Y ⟨Y,Y,Y⟩)
theorem j8{c:ao}{l:J}{num:Int}(hc:c=66\/c=85\/c=104\/c=123\/c=142)(L:l≠n):
 ba (d+1) #[42] [↥l,.int num] (ah H l (U (.inst c []))) n (Is .none (ah (ah H l (U (.inst c [("number",.int num),("count",.int 0),("blessed",.none),("weak",↥n),("is_destroyed",.bool aj),("is_freed",.bool aj)]))) n (U ⇑[])) (n+1)):=by
 rcases hc with rfl|rfl|rfl|rfl|rfl<;>
 exact aE f42 (aP (Wi (nm:="number") (v:=.int num) ag ag (Wi (nm:="count") (v:=.int 0) ag ag (Wi (nm:="blessed") (v:=.none) ag ag
  (sN [] (cG _) ag (CJ (nm:="weak") (v:=↥n) L ag ag (CJ (nm:="is_destroyed") (v:=.bool aj) L ag ag (CJ (nm:="is_freed") (v:=.bool aj) L ag ag (sQ .next ag Y ⟨Y,ag,Y⟩)))))))))
theorem Mr{num:Int}{v:V}:ba (d+2) #[66] [.int num,v] H n (Is ↥n (ah (ah H n (U (TO num 0 .none (n+1) aj aj (.nR v)))) (n+1) (U ⇑[])) (n+2)):=
 ba.Fd (fn:=f63) Y S6 Y (aE f63 (aP (sD (j8 (d:=d) (num:=num) (c:=66) (.inl Y) kE) ag (CJ (nm:="value") (v:=v) kE ag ag (CJ (nm:="magic") (v:=.none) kE ag ag (sQ .next ag Y ⟨Y,ag,Y⟩))))))
theorem Nu{num:Int}:ba (d+2) #[85] [.int num] H n (Is ↥n (ah (ah (ah H n (U (TO num 0 .none (n+1) aj aj (.arr (n+2))))) (n+1) (U ⇑[])) (n+2) (U ⇑[])) (n+3)):=
 ba.Fd (fn:=f82) Y SU Y (aE f82 (aP (sD (j8 (d:=d) (num:=num) (c:=85) (.inr (.inl Y)) kE) ag (sN [] (cG _) ag (TB (nm:="items") (v:=↥(n+1+1)) kE J3 ag ag (TB (nm:="tied") (v:=.none) kE J3 ag ag (sQ .next ag Y ⟨Y,ag,Y⟩)))))))
theorem Lb{num:Int}:ba (d+2) #[104] [.int num] H n (Is ↥n (ah (ah (ah H n (U (TO num 0 .none (n+1) aj aj (.BD (n+2))))) (n+1) (U ⇑[])) (n+2) (U (.dict []))) (n+3)):=
 ba.Fd (fn:=QL) Y MJ Y (aE QL (aP (sD (j8 (d:=d) (num:=num) (c:=104) (.inr (.inr (.inl Y))) kE) ag (sE ag (TB (nm:="table") (v:=↥(n+1+1)) kE J3 ag ag (TB (nm:="at") (v:=.int 0) kE J3 ag ag (TB (nm:="tied") (v:=.none) kE J3 ag ag (sQ .next ag Y ⟨Y,ag,Y⟩))))))))
theorem K6{num:Int}{s c:V}:ba (d+2) #[123] [.int num,s,c] H n (Is ↥n (ah (ah H n (U (TO num 0 .none (n+1) aj aj (.nP s c)))) (n+1) (U ⇑[])) (n+2)):=
 ba.Fd (fn:=SE) Y M2 Y (aE SE (aP (sD (j8 (d:=d) (num:=num) (c:=123) (.inr (.inr (.inr (.inl Y)))) kE) ag (CJ (nm:="sub") (v:=s) kE ag ag (CJ (nm:="captures") (v:=c) kE ag ag (CJ (nm:="builtin") (v:=.none) kE ag ag (CJ (nm:="package") (v:=.str "main") kE ag ag (sQ .next ag Y ⟨Y,ag,Y⟩))))))))
theorem Ja{num:Int}{x:af}:ba (d+2) #[142] [.int num,.str x] H n (Is ↥n (ah (ah H n (U (TO num 0 .none (n+1) aj aj (.jL x .none .none)))) (n+1) (U ⇑[])) (n+2)):=
 ba.Fd (fn:=Rm) Y Md Y (aE Rm (aP (sD (j8 (d:=d) (num:=num) (c:=142) (.inr (.inr (.inr (.inr Y)))) kE) ag (CJ (nm:="name") (v:=.str x) kE ag ag (CJ (nm:="scalar") (v:=.none) kE ag ag (CJ (nm:="array") (v:=.none) kE ag ag (CJ (nm:="hash") (v:=.none) kE ag ag (CJ (nm:="code") (v:=.none) kE ag ag (sQ .next ag Y ⟨Y,ag,Y⟩)))))))))
theorem Jm{t:J}:ba (d+2) #[162] [↥t] H n (Is ↥n (ah H n (U (eQ ↥t aj))) (n+1)):=
 ba.Fd (fn:=Sl) Y MN Y (aE Sl (aP (Wi (nm:="target") (v:=↥t) ag ag (Wi (nm:="is_weak") (v:=.bool aj) ag ag (sQ .next ag Y ⟨Y,ag,Y⟩)))))
theorem rX{l z:J}{lim:V}{last:Int}(h1:H l=U (aX lim last z)):
 ba (d+1) #[187] [↥l] H n (Is (.int (last+1)) (ah H l (U (aX lim (last+1) z))) n):=
 aE aap (aP (cH h1 (CW ..) ag (my h1 (MM ..) ag (cH (aa ..) (CW ..) ag (sQ (.ret (.int (last+1))) ag Y ⟨Y,Y,Y⟩)))))
theorem y5{v:V}{l z:J}{lim:V}{last:Int}(h1:H l=U (aX lim last z)):
 ba (d+3) #[194] [↥l,v] H n (Is ↥n (ah (ah (ah H l (U (aX lim (last+1) z))) (n) (U (TO (last+1) 0 .none (n+1) aj aj (.nR v)))) (n+1) (U ⇑[])) (n+2)):=
 aE V1 (aP (ei h1 (d8 ..) ag (sD (rX (d:=d+1) h1) ag (sD (Mr (d:=d) (num:=last+1) (v:=v)) ag (sQ (.ret ↥n) ag Y ⟨Y,Y,Y⟩)))))
theorem y6{l z:J}{lim:V}{last:Int}(h1:H l=U (aX lim last z)):
 ba (d+3) #[201] [↥l] H n (Is ↥n (ah (ah (ah (ah H l (U (aX lim (last+1) z))) (n) (U (TO (last+1) 0 .none (n+1) aj aj (.arr (n+2))))) (n+1) (U ⇑[])) (n+2) (U ⇑[])) (n+3)):=
 aE Zz (aP (ei h1 (d8 ..) ag (sD (rX (d:=d+1) h1) ag (sD (Nu (d:=d) (num:=last+1)) ag (sQ (.ret ↥n) ag Y ⟨Y,Y,Y⟩)))))
theorem HT{l z:J}{lim:V}{last:Int}(h1:H l=U (aX lim last z)):
 ba (d+3) #[208] [↥l] H n (Is ↥n (ah (ah (ah (ah H l (U (aX lim (last+1) z))) (n) (U (TO (last+1) 0 .none (n+1) aj aj (.BD (n+2))))) (n+1) (U ⇑[])) (n+2) (U (.dict []))) (n+3)):=
 aE YE (aP (ei h1 (d8 ..) ag (sD (rX (d:=d+1) h1) ag (sD (Lb (d:=d) (num:=last+1)) ag (sQ (.ret ↥n) ag Y ⟨Y,Y,Y⟩)))))
theorem JQ{s c:V}{l z:J}{lim:V}{last:Int}(h1:H l=U (aX lim last z)):
 ba (d+3) #[215] [↥l,s,c] H n (Is ↥n (ah (ah (ah H l (U (aX lim (last+1) z))) (n) (U (TO (last+1) 0 .none (n+1) aj aj (.nP s c)))) (n+1) (U ⇑[])) (n+2)):=
 aE YY (aP (ei h1 (d8 ..) ag (sD (rX (d:=d+1) h1) ag (sD (K6 (d:=d) (num:=last+1) (s:=s) (c:=c)) ag (sQ (.ret ↥n) ag Y ⟨Y,Y,Y⟩)))))
theorem Kn{x:af}{l z:J}{lim:V}{last:Int}(h1:H l=U (aX lim last z)):
 ba (d+3) #[222] [↥l,.str x] H n (Is ↥n (ah (ah (ah H l (U (aX lim (last+1) z))) (n) (U (TO (last+1) 0 .none (n+1) aj aj (.jL x .none .none)))) (n+1) (U ⇑[])) (n+2)):=
 aE Uy (aP (ei h1 (d8 ..) ag (sD (rX (d:=d+1) h1) ag (sD (Ja (d:=d) (num:=last+1) (x:=x)) ag (sQ (.ret ↥n) ag Y ⟨Y,Y,Y⟩)))))
end
section
open Tr
variable{d:J}{H:J->Option O}{n:J}
theorem zL{c:J}:ba (d+2) #[437] [↥c,.none] H n (Is .none H n):=
 aE Nj (aP (sM (m:=eh G (aq G (d+1)) (.con (.builtin "isinstance")) [.none,#[162]]) (v:=.bool aj) (λ _=>rfl) ag (sQ (.ret .none) ag Y ⟨Y,Y,Y⟩)))
theorem SN{c:J}{s:af}:ba (d+2) #[437] [↥c,.str s] H n (Is (.str s) H n):=
 aE Nj (aP (sM (m:=eh G (aq G (d+1)) (.con (.builtin "isinstance")) [.str s,#[162]]) (v:=.bool aj) (λ _=>rfl) ag (sQ (.ret (.str s)) ag Y ⟨Y,Y,Y⟩)))
theorem G4{c rl t hp dl pl:J}{num aC:Int}{bl:V}{wk:J}{ds fr:bG}{r:Rest}(hc:H c=U (bq hp dl pl))(i:H rl=U (eQ ↥t aj))(ht:H t=U (TO num aC bl wk ds fr r))(h:rl≠t):
 ba (d+2) #[437] [↥c,↥rl] H n (Is ↥rl (ah H t (U (TO num (aC+1) bl wk ds fr r))) n):=
 aE Nj (aP (pU (cf:=aq G (d+1)) (c:=162) (b:=ai) i ag ag (ei hc (Cj ..) ag (cH i (Ad ..) ag (sD (JY (d:=d) (c:=c) ht) ag (cH ((ae h).trans i) (IC ..) ag (sQ (.ret ↥rl) ag Y ⟨Y,Y,Y⟩)))))))
theorem oZ{c s:J}:ba (d+2) #[442] [↥c,↥s,.none] H n (Is .none (ah H n (U (.cell (U ↥s)))) (n+1)):=
 Cx _ _ _ (aP (sM (m:=eh G (aq G (d+1)) (.con (.builtin "isinstance")) [.none,#[162]]) (v:=.bool aj) (λ _=>rfl) ag (sQ (.ret .none) ag Y ⟨Y,Y,Y⟩)))
theorem Fe{c s rl t hp z dl pl:J}{lim:V}{last:Int}{zs:List V}{num aC:Int}{bl:V}{wk:J}{ds fr:bG}{r:Rest}(i:H rl=U (eQ ↥t aj))
 (h1:H t=U (TO num aC bl wk ds fr r))(h2:H c=U (bq hp dl pl))(I:H hp=U (aX lim last z))(D:H z=U ⇑zs)(m:zs.length<=1000)
 (p:c≠t)(q:hp≠t)(h7:z≠t)(E:rl<n)(e:t<n)(h:c<n)(o:hp<n)(a:z<n):
 ba (d+2) #[442] [↥c,↥s,↥rl] H n (Is .none (if aC -1=0 then ah (ah (ah H n (U (.cell (U ↥s)))) t (U (TO num (aC -1) bl wk ds fr r))) z (U ⇑(zs++[↥t]))else ah (ah H n (U (.cell (U ↥s)))) t (U (TO num (aC -1) bl wk ds fr r))) (n+1)):=by
 have f:=(cx H (U (.cell (U ↥s))) (bP E)).trans i;have g1:=(cx H (U (.cell (U ↥s))) (bP e)).trans h1;have g2:=(cx H (U (.cell (U ↥s))) (bP h)).trans h2;have g3:=(cx H (U (.cell (U ↥s))) (bP o)).trans I;have g:=(cx H (U (.cell (U ↥s))) (bP a)).trans D;exact Cx _ _ _ (aP (pU (cf:=aq G (d+1)) (c:=162) (b:=ai) f ag ag (cH f (IC ..) ag (ei g2 (nT ..) ag (cH f (Ad ..) ag (sD (ym (d:=d) g1 g2 g3 g m p q h7) ag (sQ .next ag Y ⟨Y,Y,Y⟩)))))))
theorem uD{s:af}:ba (d+1) #[264] [.str s] H n (Is (.str s) H n):=
 aE U7 (aP (sM (m:=eh G (aq G d) (.con (.builtin "isinstance")) [.str s,.con (.type "int")]) (v:=.bool aj) (λ _=>rfl) ag (sM (m:=eh G (aq G d) (.con (.builtin "isinstance")) [.str s,#[162]]) (v:=.bool aj) (λ _=>rfl) ag (sQ (.ret (.str s)) ag Y ⟨Y,Y,Y⟩))))
theorem AJ{l:J}{num aC:Int}{bl:V}{wk:J}{ds fr:bG}{s:af}(h:H l=U (TO num aC bl wk ds fr (.nR (.str s)))):
 ba (d+1) #[257] [↥l] H n (Is (.str s) H n):=
 aE VA (aP (pU (cf:=aq G d) (c:=66) (b:=ai) h ag ag (cH h (rk ..) ag (cH h (Df ..) ag (sQ (.ret (.str s)) ag Y ⟨Y,Y,Y⟩)))))
theorem Nr{rl t:J}{s:af}{num aC:Int}{bl:V}{wk:J}{ds fr:bG}{r:Rest}(hs:r0 s=ai)(k:s≠s!"")(i:H rl=U (eQ ↥t aj))(ht:H t=U (TO num aC bl wk ds fr r)):
 ba (d+2) #[371] [↥rl,.str s] H n (Is ↥rl (ah H t (U (TO num aC (.str s) wk ds fr r))) n):=by
 have P:r0 (s!"")=ai:=by decide+kernel
 refine aE Xt (aP (pU (cf:=aq G (d+1)) (c:=162) (b:=ai) i ag ag (sM (m:=eh G (aq G (d+1)) (.con (.builtin "isinstance")) [.str s,#[162]]) (v:=.bool aj) (λ _=>rfl) ag (sD (uD (d:=d) (s:=s)) ag (sO (m:=ew .eq (.str s) (.str (""))) (v:=aj) (λ u=>?_) ag (cH i (Ad ..) ag (my ht (U0 (s:=.str s) ..) ag (sQ (.ret ↥rl) ag Y ⟨Y,Y,Y⟩))))))))
 rw[Je,Rs (a:=s) (b:=s!"") (ha:=hs) (hb:=P),decide_eq_false k]
theorem Cz{c hp z dl pl:J}{lim:V}{last:Int}{v:V}(S:v=.none\/∃s,v=.str s)(h2:H c=U (bq hp dl pl))(I:H hp=U (aX lim last z)):
 ba (d+4) #[456] [↥c,v] H n (Is ↥n (ah (ah (ah H hp (U (aX lim (last+1) z))) n (U (TO (last+1) 1 .none (n+1) aj aj (.nR v)))) (n+1) (U ⇑[])) (n+2)):=by
 have ht:ba (d+3) #[437] [↥c,v] H n (Is v H n):=by
  rcases S with rfl|⟨s,rfl⟩
  .exact zL
  .exact SN
 exact aE SG (aP (cH h2 (gX ..) ag (ei I (lG ..) ag (ei h2 (kR ..) ag (sD ht ag (sD (y5 (d:=d) (v:=v) I) ag (sW1 kE (l7 (x:=1) ..) ag (sQ (.ret ↥n) ag Y ⟨Y,Y,Y⟩))))))))
theorem Ol{c hp z dl pl rl t:J}{lim:V}{last:Int}{num aC:Int}{bl:V}{wk:J}{ds fr:bG}{r:Rest}(h2:H c=U (bq hp dl pl))(I:H hp=U (aX lim last z))(i:H rl=U (eQ ↥t aj))(ht:H t=U (TO num aC bl wk ds fr r))(h:rl≠t)(a:hp≠t):
 ba (d+4) #[456] [↥c,↥rl] H n (Is ↥n (ah (ah (ah (ah H t (U (TO num (aC+1) bl wk ds fr r))) hp (U (aX lim (last+1) z))) n (U (TO (last+1) 1 .none (n+1) aj aj (.nR ↥rl)))) (n+1) (U ⇑[])) (n+2)):=
 aE SG (aP (cH h2 (gX ..) ag (ei I (lG ..) ag (ei h2 (kR ..) ag (sD (G4 (d:=d+1) h2 i ht h) ag (sD (y5 (d:=d) (v:=↥rl) ((ae a).trans I)) ag (sW1 kE (l7 (x:=1) ..) ag (sQ (.ret ↥n) ag Y ⟨Y,Y,Y⟩))))))))
end
def Go(g:Fl×St->Option (Fl×St))(R:Fl->Lc->Hp->J->be)(I:Lc->Hp->J->be)(fl:Fl)(u:Lc)(H:Hp)(n:J):be:=match fl with
 |.next|.cont=>I u H n
 |.ret v=>aG (g (.ret v,⟨u,H,n⟩)) R
 |.brk=>aG (g (.next,⟨u,H,n⟩)) R
theorem aG.goN{R:Fl->Lc->Hp->J->be}(h:I u H n):aG (U (.next,⟨u,H,n⟩)) (Go g R I):=aG.mk h
theorem aG.goB{R:Fl->Lc->Hp->J->be}(h:aG (g (.next,⟨u,H,n⟩)) R):aG (U (.brk,⟨u,H,n⟩)) (Go g R I):=aG.mk h
theorem Sg{it:It}:forM it f []=aI it.ok λ _=>ret .next:=rfl
theorem RC{it:It}:forM it f (x::r)=aI it.ok λ _=>aI (f x) λ fl=>match fl with
 |.next|.cont=>forM it f r
 |.brk=>ret .next
 |.ret v=>ret (.ret v):=rfl
theorem LV{α:Type}{it:It}{f:V->M (Option α)}:fy it f []=aI it.ok λ _=>ret []:=rfl
theorem qo{α:Type}{it:It}{f:V->M (Option α)}:fy it f (x::r)=aI it.ok λ _=>aI (f x) λ y=>aI (fy it f r) λ ys=>ret (match y with|some v=>v::ys|none=>ys):=rfl
theorem Iv{it:It}{R:Fl->Lc->Hp->J->be}(I:J->Lc->Hp->J->be)(xs:List V)
 (ok:∀j u H n,I j u H n->it.ok ⟨u,H,n⟩=U ((),⟨u,H,n⟩)):
 ∀(k:J)(u:Lc)(H:Hp)(n:J),I k u H n->
 (∀j(E:j<xs.length) u H n,I (k+j) u H n->aG (f xs[j] ⟨u,H,n⟩) (Go g R (I (k+j+1))))->
 (∀u H n,I (k+xs.length) u H n->aG (g (.next,⟨u,H,n⟩)) R)->
 aG ((forM it f xs ⟨u,H,n⟩).bind g) R:=by
 induction xs with
 |nil=>intro k u H n h0 step o;simp only[Sg,fa,ok _ _ _ _ h0,bH,eM,md];exact o _ _ _ h0
 |cons x r X=>
  intro k u H n h0 step o;have h1:=step 0 (by simp) u H n h0;obtain fl|A|H'|n'|e|q:=h1;simp only[List.getElem_cons_zero]at e;simp only[RC,fa,ok _ _ _ _ h0,bH,eM,e];cases fl with
  |next=>
   refine X (k+1) A H' n' q (λ j E u H n S=>?_) (λ u H n S=>o _ _ _ ?_)
   .have:=step (j+1) (by simpa using E) u H n (by rwa [lB,ko 1 j]at S);simpa only[Ib,lB,ko 1 j,Gn 1 j]using this
   .rw[eF,ko r.length 1,<-lB];exact S
  |cont=>
   refine X (k+1) A H' n' q (λ j E u H n S=>?_) (λ u H n S=>o _ _ _ ?_)
   .have:=step (j+1) (by simpa using E) u H n (by rwa [lB,ko 1 j]at S);simpa only[Ib,lB,ko 1 j,Gn 1 j]using this
   .rw[eF,ko r.length 1,<-lB];exact S
  |brk=>exact q
  |ret v=>exact q
theorem aG.eL{cf:V->List V->M V}{a:List TS}{i:It}{R:Fl->Lc->Hp->J->be}(I:J->Lc->Hp->J->be)
 (h0:I 0 u H n)(ok:∀j u H n,I j u H n->i.ok ⟨u,H,n⟩=U ((),⟨u,H,n⟩))
 (step:∀j(E:j<i.items.length) u H n,I j u H n->aG (C8 G cf cs t a i.items[j] ⟨u,H,n⟩) (Go g R (I (j+1))))
 (k:∀u H n,I i.items.length u H n->aG (g (.next,⟨u,H,n⟩)) R):aG ((jV G cf cs t a i ⟨u,H,n⟩).bind g) R:=by
 refine Iv I i.items ok 0 u H n h0 (λ j E u H n S=>?_) (λ u H n S=>k _ _ _ (by simpa using S));simpa using step j E u H n (by simpa using S)
theorem aG.X7{cf:V->List V->M V}{a:List TS}{xs:List V}{R:Fl->Lc->Hp->J->be}(I:J->Lc->Hp->J->be)
 (h0:I 0 u H n)(ok:∀j u H n,I j u H n->H l=U ⇑xs)
 (step:∀j(E:j<xs.length) u H n,I j u H n->aG (ay G cf cs a ⟨ah u x (U xs[j]),H,n⟩) (Go g R (I (j+1))))
 (k:∀u H n,I xs.length u H n->aG (g (.next,⟨u,H,n⟩)) R):aG ((jV G cf cs (.loc x) a (.list l xs) ⟨u,H,n⟩).bind g) R:=by
 refine aG.eL I h0 (λ j u H n h=>zY _ _ _ _ _ (ok _ _ _ _ h)) (λ j E u H n S=>?_) k;simp only[C8,fa,yb,vG,bH,eM];exact step j E u H n S
theorem aG.Vy{cf:V->List V->M V}{a:List TS}{R:Fl->Lc->Hp->J->be}(I:J->Lc->Hp->J->be)
 (h0:I 0 u H n)
 (step:∀j(E:j<m) u H n,I j u H n->aG (ay G cf cs a ⟨ah u x (U (.int j)),H,n⟩) (Go g R (I (j+1))))
 (k:∀u H n,I m u H n->aG (g (.next,⟨u,H,n⟩)) R):aG ((jV G cf cs (.loc x) a (.range m) ⟨u,H,n⟩).bind g) R:=by
 refine aG.eL I h0 (λ j u H n h=>rfl) (λ j E u H n S=>?_) (λ u H n S=>k _ _ _ (by simpa[vS,wK]using S));simp only[C8,fa,yb,vG,bH,eM];have B:j<m:=by simpa[vS,wK]using E
 have:=step j B u H n S;simpa[vS,wK]using this
theorem Bh{c:M bG}{R:Fl->Lc->Hp->J->be}(I:J->Lc->Hp->J->be)
 (step:∀m u H n,I m u H n->∃b,c ⟨u,H,n⟩=U (b,⟨u,H,n⟩)/\(b=ai->aG (f ⟨u,H,n⟩) (Go g R λ u H n=>∃m',m'<m/\I m' u H n))/\(b=aj->aG (g (.next,⟨u,H,n⟩)) R)):
 ∀(k m:J)(u:Lc)(H:Hp)(n:J),m<k->I m u H n->aG ((jl c f k ⟨u,H,n⟩).bind g) R:=by
 intro k
 induction k with
 |zero=>intro m u H n h;exact WR h
 |succ k X=>
  intro m u H n hm S;obtain b|a|h1|h2:=step m u H n S;simp only[xG,fa,a,bH,eM];cases b with
  |false=>simp only[d0,↓reduceIte,md,bH];exact h2 Y
  |true=>
   obtain fl|A|H'|n'|e|q:=h1 Y;simp only[↓reduceIte,fa,e,bH,eM];cases fl with
   |next=>obtain m'|d|i:=q;exact X m' A H' n' ((I6 hm d)) i
   |cont=>obtain m'|d|i:=q;exact X m' A H' n' ((I6 hm d)) i
   |brk=>exact q
   |ret v=>exact q
theorem aG.jD{c:M bG}{R:Fl->Lc->Hp->J->be}(I:J->Lc->Hp->J->be)(m:J)(hm:m<100000)(h0:I m u H n)
 (step:∀m u H n,I m u H n->∃b,c ⟨u,H,n⟩=U (b,⟨u,H,n⟩)/\(b=ai->aG (f ⟨u,H,n⟩) (Go g R λ u H n=>∃m',m'<m/\I m' u H n))/\(b=aj->aG (g (.next,⟨u,H,n⟩)) R)):
 aG ((jl c f turns ⟨u,H,n⟩).bind g) R:=Bh I step turns m u H n hm h0
theorem r7{α:Type}{it:It}{f:V->M (Option α)}(h:V->Option α)(ok:∀u,it.ok ⟨u,H,n⟩=U ((),⟨u,H,n⟩))(xs:List V)
 (P:∀v∈xs,∀u,∃A,f v ⟨u,H,n⟩=U (h v,⟨A,H,n⟩)):∀u,∃A,fy it f xs ⟨u,H,n⟩=U (xs.filterMap h,⟨A,H,n⟩):=by
 induction xs with
 |nil=>intro u;exact⟨u,by simp only[LV,fa,ok,bH,eM,md,List.filterMap_nil]⟩
 |cons x r X=>intro u;obtain l1|Q:=P x (by simp) u;obtain l2|w:=X (λ v z u=>P v (by simp[z]) u) l1;refine⟨l2,?_⟩;simp only[qo,fa,ok,bH,eM,Q,w,md,jI];cases h x<;>rfl
theorem Bd{cf:V->List V->M V}{i:It}(h:V->Option V)(L:i.items.length<=1000)(ok:∀u,i.ok ⟨u,H,n⟩=U ((),⟨u,H,n⟩))
 (P:∀v∈i.items,∀u:Lc,(ej G cf cs ifs ⟨ah u x (U v),H,n⟩).bind (Lj λ b=>if b then aI (ap G cf cs elt) λ y=>ret (U y)else ret F)=U (h v,⟨ah u x (U v),H,n⟩)):
 nE G cf cs elt x ifs i ⟨u,H,n⟩=U (↥n,⟨u,ah H n (U ⇑(i.items.filterMap h)),n+1⟩):=by
 obtain A|e:=r7 (it:=i) (f:=pI G cf cs elt x ifs) h ok i.items (λ v z u=>⟨_,by simp only[pI,once,fa,vG,bH,eM];exact P v z u⟩) (λ _=>F)
 simp only[nE,sf,L,if_true,fa,inner,e,pC,bH,eM,GU]
theorem Al{cf:V->List V->M V}{k v:T}{i:It}(h:V->aJ×V)(L:i.items.length<=1000)(ok:∀u,i.ok ⟨u,H,n⟩=U ((),⟨u,H,n⟩))
 (P:∀w∈i.items,∀u:Lc,CN G cf cs k v x w ⟨u,H,n⟩=U (U (h w),⟨ah u x (U w),H,n⟩)):
 uH G cf cs k v x i ⟨u,H,n⟩=U (↥n,⟨u,ah H n (U (.dict (bv [] (i.items.map h)))),n+1⟩):=by
 obtain A|e:=r7 (it:=i) (f:=CN G cf cs k v x) (λ w=>U (h w)) ok i.items (λ v z u=>⟨_,P v z u⟩) (λ _=>F);simp only[uH,sf,L,if_true,fa,inner,e,pC,bH,eM,GU,List.filterMap_eq_map']
section
variable{d:J}{H:Hp}{n:J}
theorem find_key(es:List (aJ×V))(k:aJ):(es.any λ e=>decide (e.1=k))=(atK es k).isSome:=by
 induction es with
 |nil=>rfl
 |cons e r X=>
  simp only[jW,atK,im]at X⊢;by_cases h:e.1=k
  .simp[h]
  .simp only[h,decide_false,Ir];exact X
theorem gG{es:List (aJ×V)}(h:∀e∈es,e.1.isStr=ai)(s:af):es.all (λ e=>(aJ.str s).fC e.1)=ai:=by rw[dE];intro e P;have:=h e P;cases h1:e.1<;>rw[h1]at this<;>first|rfl|cases this
theorem dx{es:List (aJ×V)}(h:∀e∈es,e.1.isInt=ai)(s:Int):es.all (λ e=>(aJ.int s).fC e.1)=ai:=by rw[dE];intro e P;have:=h e P;cases h1:e.1<;>rw[h1]at this<;>first|rfl|cases this
namespace Tr
variable{t:Tr Fl}{H H':Hp}{n n':J}{R:Fl->Lc->Hp->J->Prop}
theorem Dz{gl:J}{es:List (aJ×V)}{x:af}{b:bG}(h:H gl=U (.dict es))(C:∀e∈es,e.1.isStr=ai)(ha:(atK es (.str x)).isSome=b)(e:Dr t (ew .eW (.str x) ↥gl))(k:aG ((t.mw (!b)).aE H n) R):aG (t.aE H n) R:=
 sO (λ u=>by simp only[nA,B7,h,bH,Od,gG C,if_true,inO,find_key,ha,eM,md]) e k
theorem IA{x y:af}(h:x.length+y.length<=1000)(e:nQ t (binop .add (.str x) (.str y)))(k:aG ((t.kT (.str (x++y))).aE H n) R):aG (t.aE H n) R:=
 sM (λ u=>by simp only[Nn,h,if_true]) e k
theorem sGs{gl:J}{es:List (aJ×V)}{x:af}{v:V}(h:H gl=U (.dict es))(C:∀e∈es,e.1.isStr=ai)(ha:atK es (.str x)=U v)(e:nQ t (fD ↥gl (.str x)))(k:aG ((t.kT v).aE H n) R):aG (t.aE H n) R:=
 sM (λ u=>by simp only[J5,h,bH,atS,si,gG C,if_true,ha]) e k
theorem fB{l:J}{o:O}{i:Int}{v:V}(h:H l=U o)(ha:yO i o=U v)(e:nQ t (fD ↥l (.int i)))(k:aG ((t.kT v).aE H n) R):aG (t.aE H n) R:=
 sM (λ u=>by simp only[J7,h,bH,ha]) e k
end Tr
open Tr
def bK(m:J)(H H':Hp):be:=∀l:J,l<m->H' l=H l
theorem bK.refl(m:J)(H:Hp):bK m H H:=λ _ _=>rfl
theorem bK.trans{m m':J}{H H' a:Hp}(h:bK m H H')(h':bK m' H' a)(hm:m<=m'):bK m H a:=λ l L=>(h' l (cv L hm)).trans (h l L)
theorem bK.ah{m l:J}{H H':Hp}{o:Option O}(h:bK m H H')(L:m<=l):bK m H (ah H' l o):=λ x g=>by rw[ae (bP (cv g L))];exact h x g
theorem bK.weak{m m':J}{H H':Hp}(h:bK m' H H')(hm:m<=m'):bK m H H':=λ l L=>h l (cv L hm)
theorem bK.at{m l:J}{H H':Hp}{o:O}(h:bK m H H')(L:l<m)(f:H l=U o):H' l=U o:=(h l L).trans f
structure df(H:Hp)(m N:J)(gl:J)(es:List (aJ×V))(gen:Int):Prop where
 jg:∃hp:J,H N=U (dD hp gl gen)
 F1:H gl=U (.dict es)
 ks:∀e∈es,e.1.isStr=ai
 sm:N<m
 gm:gl<m
theorem df.bg{H H':Hp}{m N gl:J}{es:List (aJ×V)}{gen:Int}(h:df H m N gl es gen)(k:bK m H H'):df H' m N gl es gen:=
 ⟨h.jg.imp λ _ e=>k.at h.sm e,k.at h.gm h.F1,h.ks,h.sm,h.gm⟩
theorem u7{N gl m:J}{es:List (aJ×V)}{gen:Int}{x:af}(h:df H m N gl es gen)(C:atK es (.str x)=F):
 ba (d+1) #[590] [↥N,.str x] H n (Is .none H n):=by
 obtain hp|hs:=h.jg;exact aE RQ (aP (cH hs (dB ..) ag (Dz (b:=aj) h.F1 h.ks (by rw[C];rfl) ag (sQ (.ret .none) ag Y ⟨Y,Y,Y⟩))))
theorem mB{N gl m g:J}{es:List (aJ×V)}{gen:Int}{x:af}{num aC:Int}{bl:V}{wk:J}{ds fr:bG}{nm:af}{a c:V}(h:df H m N gl es gen)(C:atK es (.str x)=U ↥g)(hg:H g=U (TO num aC bl wk ds fr (.jL nm a c)))(ha:a=.none\/∃l,a=↥l):
 ba (d+1) #[590] [↥N,.str x] H n (Is a H n):=by
 obtain hp|hs:=h.jg;have P:eg s!"array" (TO num aC bl wk ds fr (.jL nm a c))=U a:=by rcases ha with rfl|⟨l,rfl⟩<;>kernel_rfl
 exact aE RQ (aP (cH hs (dB ..) ag (Dz (b:=ai) h.F1 h.ks (by rw[C];rfl) ag (cH hs (dB ..) ag (sGs h.F1 h.ks C ag (cH hg P ag (sQ (.ret a) ag Y ⟨Y,Y,Y⟩)))))))
theorem Ee{N gl m:J}{es:List (aJ×V)}{gen:Int}{x:af}(h:df H m N gl es gen)(C:atK es (.str x)=F):
 ba (d+1) #[583] [↥N,.str x] H n (Is .none H n):=by
 obtain hp|hs:=h.jg;exact aE Q2 (aP (cH hs (dB ..) ag (Dz (b:=aj) h.F1 h.ks (by rw[C];rfl) ag (sQ (.ret .none) ag Y ⟨Y,Y,Y⟩))))
theorem EB{N gl m g:J}{es:List (aJ×V)}{gen:Int}{x:af}{num aC:Int}{bl:V}{wk:J}{ds fr:bG}{nm:af}{a c:V}(h:df H m N gl es gen)(C:atK es (.str x)=U ↥g)(hg:H g=U (TO num aC bl wk ds fr (.jL nm a c)))(ha:c=.none\/∃l,c=↥l):
 ba (d+1) #[583] [↥N,.str x] H n (Is c H n):=by
 obtain hp|hs:=h.jg;have P:eg s!"code" (TO num aC bl wk ds fr (.jL nm a c))=U c:=by rcases ha with rfl|⟨l,rfl⟩<;>kernel_rfl
 exact aE Q2 (aP (cH hs (dB ..) ag (Dz (b:=ai) h.F1 h.ks (by rw[C];rfl) ag (cH hs (dB ..) ag (sGs h.F1 h.ks C ag (cH hg P ag (sQ (.ret c) ag Y ⟨Y,Y,Y⟩)))))))
def fA(H:Hp)(m:J):List V->List af->be
 |[],[]=>True
 |v::vs,s::b=>(∃l:J,∃num aC bl wk ds fr,v=.ref l/\l<m/\H l=U (TO num aC bl wk ds fr (.nR (.str s))))/\fA H m vs b
 |_,_=>False
def Up(m:J)(S:Hp)(m':J)(y:Hp):be:=∀l o,l<m->S l=U o->l<m'/\y l=U o
theorem bK.up{H H':Hp}(k:∀l:J,l<m->H' l=H l)(h:m<=m'):Up m H m' H':=λ l _ L e=>⟨cv L h,(k l L).trans e⟩
theorem fA.up(I:Up m S m' y)(h:fA S m vs b):fA y m' vs b:=by
 induction vs generalizing b with
 |nil=>cases b with
  |nil=>exact trivial
  |cons=>exact h.elim
 |cons v vs X=>cases b with
  |nil=>exact h.elim
  |cons s b=>exact⟨h.1.imp λ l=>de λ num=>de λ aC=>de λ bl=>de λ wk=>de λ ds=>de λ fr q=>⟨q.1,I _ _ q.2.1 q.2.2⟩,X h.2⟩
theorem fA.len{H:Hp}{m:J}{vs:List V}:∀{b:List af},fA H m vs b->vs.length=b.length:=by
 induction vs with
 |nil=>
  intro b h;cases b with
  |nil=>rfl
  |cons=>exact rN h
 |cons v vs X=>
  intro b h;cases b with
  |nil=>exact rN h
  |cons s b=>exact congrArg (·+1) (X h.2)
theorem fA.get{H:Hp}{m:J}:∀{vs:List V}{b:List af},fA H m vs b->∃f:V->Option V,(∀v∈vs,∃s l num aC bl wk ds fr,f v=U (.str s)/\v=.ref l/\H l=U (TO num aC bl wk ds fr (.nR (.str s))))/\vs.filterMap f=b.map .str:=by
 intro vs b h;refine⟨λ v=>match v with|.ref l=>(match H l with|some o=>eg s!"value" o|none=>F)|_=>F,?_⟩
 induction vs generalizing b with
 |nil=>cases b with
  |nil=>exact⟨λ v z=>(by cases z),Y⟩
  |cons=>cases h
 |cons v vs X=>cases b with
  |nil=>cases h
  |cons s b=>
   obtain⟨l,num,aC,bl,wk,ds,fr,rfl,L,t⟩|r:=h;obtain y|i:=X r;have P:(match H l with|some o=>eg s!"value" o|none=>F)=U (.str s):=by rw[t];exact Df ..
   constructor
   .intro v z;cases z with
    |head=>exact aev s l num aC bl wk ds fr P Y t
    |tail _ z=>exact y v z
   .rw[jI];simp only[P,i,bW]
def sY(H:Hp)(m:J)(es:List (aJ×V))(B:af)(ps:List af):be:=
 ps.length<=100/\((atK es (.str (B++s!"::ISA"))=F/\ps=[])\/∃g:J,∃num aC bl wk ds fr nm a c,atK es (.str (B++s!"::ISA"))=U ↥g/\g<m/\H g=U (TO num aC bl wk ds fr (.jL nm a c))/\
  ((a=.none/\ps=[])\/∃z:J,∃num aC bl wk ds fr it vs,a=.ref z/\z<m/\H z=U (TO num aC bl wk ds fr (.arr it))/\it<m/\H it=U ⇑vs/\fA H m vs ps))
theorem sY.up(I:Up m S m' y)(h:sY S m es B ps)(P:atK es' (.str (B++s!"::ISA"))=atK es (.str (B++s!"::ISA"))):sY y m' es' B ps:=by
 unfold sY;rw[P];exact⟨h.1,h.2.imp id λ q=>q.imp λ g=>de λ num=>de λ aC=>de λ bl=>de λ wk=>de λ ds=>de λ fr=>de λ nm=>de λ a=>de λ c q=>
  have a:=I _ _ q.2.1 q.2.2.1
  ⟨q.1,a.1,a.2,q.2.2.2.imp id λ q=>q.imp λ z=>de λ num=>de λ aC=>de λ bl=>de λ wk=>de λ ds=>de λ fr=>de λ it=>de λ vs q=>
   have a:=I _ _ q.2.1 q.2.2.1;have b:=I _ _ q.2.2.2.1 q.2.2.2.2.1
   ⟨q.1,a.1,a.2,b.1,b.2,q.2.2.2.2.2.up I⟩⟩⟩
theorem sY.bg{H H':Hp}{m:J}(k:bK m H H'){es:List (aJ×V)}{B:af}{ps:List af}(h:sY H m es B ps):sY H' m es B ps:=h.up (bK.up k (aS _)) Y
def ji(m:J)(H:Hp)(n:J)(xs:List V):V->Hp->J->be:=λ v H' n'=>∃l:J,v=.ref l/\n<=l/\l<n'/\H' l=U ⇑xs/\bK n H H'/\n<=n'
end
namespace Tr
variable{α:Type}{R:Fl->Lc->Hp->J->Prop}{n:J}{H:Hp}{t:Tr Fl}
noncomputable def rest(t:Tr Fl):Fl×St->Option (Fl×St):=λ p=>(t.KC p.1 p.2.loc).aE p.2.H p.2.n
noncomputable def X4:Tr Fl->bG|ret .next _=>ai|ret .cont _=>ai|_=>aj
inductive xr(I:J->Lc->Hp->J->Prop)(m:J)(u:Lc)(H:Hp)(n:J):Prop
 |mk (m':J) (h:m'<m) (i:I m' u H n):xr I m u H n
section
variable{g:Fl×St->Option (Fl×St)}{I:Lc->Hp->J->Prop}
theorem Te(e:t.X4=ai:=by kernel_rfl)(k:I t.gr H n):aG (t.aE H n) (Go g R I):=by
 cases t with
 |ret fl u=>cases fl with
  |next=>exact aG.mk k
  |cont=>exact aG.mk k
  |_=>cases e
 |_=>cases e
theorem sGe(u:Lc)(k:I u H n)(e:t.X4=ai:=by kernel_rfl)(a:t.gr=u:=by kernel_rfl):aG (t.aE H n) (Go g R I):=Te e (a▸k)
theorem sGb(e:t.Lu=U .brk:=by kernel_rfl)(k:aG (g (.next,⟨t.gr,H,n⟩)) R):aG (t.aE H n) (Go g R I):=
 cD (P:=λ t=>aG (g (.next,⟨t.gr,H,n⟩)) R->aG (t.aE H n) (Go g R I)) e (λ _ q=>aG.mk (Q:=Go g R I) q) k
theorem sGr{v:V}(e:t.Lu=U (.ret v):=by kernel_rfl)(k:aG (g (.ret v,⟨t.gr,H,n⟩)) R):aG (t.aE H n) (Go g R I):=
 cD (P:=λ t=>aG (g (.ret v,⟨t.gr,H,n⟩)) R->aG (t.aE H n) (Go g R I)) e (λ _ q=>aG.mk (Q:=Go g R I) q) k
end
section
variable(cf:V->List V->M V)(cs:List (af×J))(c:T)(a:List TS)
noncomputable def Qn(u:Lc):Tr Fl:=(P8 cf cs c u).bind λ b u=>if b then du cf cs a u else .ret .brk u
theorem N5(u:Lc)(H:Hp)(n:J):(Qn cf cs c a u).aE H n=(c7 G cf cs c (ap G cf cs c) ⟨u,H,n⟩).bind λ p=>if p.1 then ay G cf cs a p.2 else U (.brk,p.2):=by
 unfold Qn;rw[run_bind,Tc];congr 1;funext ⟨b,N⟩;cases b with
 |true=>exact iM cf cs a _ _ _
 |false=>rfl
end
theorem Ix{cf:V->List V->M V}{c:T}{a:List TS}(I:J->Lc->Hp->J->be)
 (step:∀m u H n,I m u H n->aG ((Qn cf cs c a u).aE H n) (Go g R (xr I m))):
 ∀(k m:J)(u:Lc)(H:Hp)(n:J),m<k->I m u H n->aG ((jl (c7 G cf cs c (ap G cf cs c)) (ay G cf cs a) k ⟨u,H,n⟩).bind g) R:=by
 intro k
 induction k with
 |zero=>exact λ m u H n h _=>absurd h (nq _)
 |succ k X=>
  intro m u H n hm S;obtain fl|A|H'|n'|e|q:=step m u H n S;rw[N5]at e;obtain⟨b,N⟩|Q|w:=pM.mp e;show aG (((c7 G cf cs c (ap G cf cs c) ⟨u,H,n⟩).bind _).bind g) R;rw[Q];cases b with
  |false=>cases w;exact q
  |true=>
   show aG (((ay G cf cs a N).bind _).bind g) R;rw[show ay G cf cs a N=_ from w];cases fl with
   |next=>cases q with|mk m' d i=>exact X m' A H' n' (cv d (lx hm)) i
   |cont=>cases q with|mk m' d i=>exact X m' A H' n' (cv d (lx hm)) i
   |brk=>exact q
   |ret v=>exact q
noncomputable def wb(b:List TS)(i:J):List TS:=match b[i]?with
 |some (.jD _ a)=>a
 |some (.eL _ _ a)=>a
 |_=>[]
noncomputable def wc(b:List TS)(i:J):T:=match b[i]?with
 |some (.jD c _)=>c
 |_=>.bad
theorem sWh{cf:V->List V->M V}{cs:List (af×J)}{c:T}{a:List TS}(I:J->Lc->Hp->J->be)(m:J)(hm:m<100000)(h0:I m t.zf H n)(e:t.xK=U (c6 G cf cs (.jD c a)))
 (step:∀m u H n,I m u H n->aG ((Qn cf cs c a u).aE H n) (Go t.rest R (xr I m))):aG (t.aE H n) R:=
 cF (P:=λ t=>I m t.zf H n->(∀m u H n,I m u H n->aG ((Qn cf cs c a u).aE H n) (Go t.rest R (xr I m)))->aG (t.aE H n) R) e (λ _ _ h0 step=>Ix I step turns m _ _ _ hm h0) h0 step
theorem Ll{cf:V->List V->M V}{cs:List (af×J)}{x:af}{a:List TS}{l:J}{xs:List V}(I:J->Lc->Hp->J->be)(h0:I 0 t.zf H n)(ok:∀j u H n,I j u H n->H l=U ⇑xs)
 (e:t.xK=U (aI (dG ↥l) λ i=>jV G cf cs (.loc x) a i):=by kernel_rfl)
 (step:∀j(E:j<xs.length) u H n,I j u H n->aG ((du cf cs a (ah u x (U xs[j]))).aE H n) (Go t.rest R (I (j+1))))
 (k:∀u H n,I xs.length u H n->aG ((t.KC .next u).aE H n) R):aG (t.aE H n) R:=
 cF (P:=λ t=>I 0 t.zf H n->(∀j(E:j<xs.length) u H n,I j u H n->aG ((du cf cs a (ah u x (U xs[j]))).aE H n) (Go t.rest R (I (j+1))))->(∀u H n,I xs.length u H n->aG ((t.KC .next u).aE H n) R)->aG (t.aE H n) R) e (λ u o h0 step k=>by show aG ((((H l).bind (O0 l)).bind _).bind _|>.bind _) R;rw[ok _ _ _ _ h0];exact aG.X7 I h0 ok (λ j E u H n h=>by rw[<-iM];exact step j E u H n h) k) h0 step k
theorem sFr{cf:V->List V->M V}{cs:List (af×J)}{x:af}{a:List TS}{l m:J}(I:J->Lc->Hp->J->be)(h:H l=U (.range m))(hm:m<1000)(h0:I 0 t.zf H n)
 (e:t.xK=U (aI (dG ↥l) λ i=>jV G cf cs (.loc x) a i):=by kernel_rfl)
 (step:∀j(E:j<m) u H n,I j u H n->aG ((du cf cs a (ah u x (U (.int j)))).aE H n) (Go t.rest R (I (j+1))))
 (k:∀u H n,I m u H n->aG ((t.KC .next u).aE H n) R):aG (t.aE H n) R:=
 cF (P:=λ t=>I 0 t.zf H n->(∀j(E:j<m) u H n,I j u H n->aG ((du cf cs a (ah u x (U (.int j)))).aE H n) (Go t.rest R (I (j+1))))->(∀u H n,I m u H n->aG ((t.KC .next u).aE H n) R)->aG (t.aE H n) R) e (λ u o h0 step k=>by show aG ((((H l).bind (O0 l)).bind _).bind _|>.bind _) R;rewrite[h,eT,show O0 l (.range m)=U (It.range m)from if_pos hm,eT];exact aG.Vy I h0 (λ j E u H n h=>by rw[<-iM];exact step j E u H n h) k) h0 step k
theorem oq{l:J}{xs:List V}(h:H l=U ⇑xs)(L:xs.length<=1000)(e:nQ t (xB G "len" [↥l]))(k:aG ((t.kT (.int xs.length)).aE H n) R):aG (t.aE H n) R:=
 sM (λ u=>by show((H l).bind Rg).bind _=_;rw[h];show(if _ then _ else _:Option V).bind _=_;rw[if_pos L];rfl) e k
theorem sLn{l m:J}{xs:List V}(h:H l=U ⇑xs)(L:xs.length=m)(hm:m<=1000)(e:nQ t (xB G "len" [↥l]))(k:aG ((t.kT (.int m)).aE H n) R):aG (t.aE H n) R:=by subst L;exact oq h hm e k
theorem sAd{l Q:J}{o o' B:O}(h:H l=U o)(h':H Q=U o')(ha:rM o o'=U B)(e:nQ t (binop .add ↥l ↥Q))(k:aG ((t.kT ↥n).aE (ah H n (U B)) (n+1)) R):aG (t.aE H n) R:=
 sM (λ u=>by rewrite[LC,h];show((H Q).bind _).bind _=_;rewrite[h'];show(rM o o').bind _=_;rewrite[ha];rfl) e k
theorem nw{l:J}{v:V}{xs:List V}(h:H l=U ⇑xs)(L:xs.length<=1000)(e:nQ t (lr (λ v=>wrO l (AB v) .none) [v]))(k:aG ((t.kT .none).aE (ah H l (U ⇑(xs++[v]))) n) R):aG (t.aE H n) R:=
 sM (λ u=>by show((H l).bind (AB v)).bind _=_;rw[h];show(if _ then _ else _:Option O).bind _=_;rw[if_pos L];rfl) e k
theorem Ce{l:J}{o o':O}{i:Int}{v:V}(h:H l=U o)(ha:fm i v o=U o')(e:IsU t (jc ↥l (.int i) v))(k:aG (t.pV.aE (ah H l (U o')) n) R):aG (t.aE H n) R:=
 Td (λ u=>by rw[Ht,h];show(fm i v o).bind _=_;rw[ha];rfl) e k
theorem sTl{l:J}{xs:List V}(h:H l=U ⇑xs)(L:xs.length<2^60)(e:Dr t (truth ↥l))(k:aG ((t.mw (!xs.isEmpty)).aE H n) R):aG (t.aE H n) R:=
 sO (λ u=>by rw[DJ,h];show(if _ then _ else _:Option bG).bind _=_;rw[if_pos L];rfl) e k
theorem Ri{l:J}{o o':O}{v:V}(h:H l=U o)(hp:Au o=U (v,o'))(e:nQ t (lh l []))(k:aG ((t.kT v).aE (ah H l (U o')) n) R):aG (t.aE H n) R:=
 sM (λ u=>by show((H l).bind Au).bind _=_;rw[h];show(Au o).bind _=_;rw[hp];rfl) e k
theorem sIn{l:J}{x:af}{xs:List V}{b:bG}(h:H l=U ⇑xs)(g:cI (.str x) xs=U b)(e:Dr t (ew .isin (.str x) ↥l))(k:aG ((t.mw b).aE H n) R):aG (t.aE H n) R:=
 sO (λ u=>by rw[qq,B7,h];show(cI (.str x) xs).bind _=_;rw[g];rfl) e k
theorem sNi{l:J}{x:af}{xs:List V}{b:bG}(h:H l=U ⇑xs)(g:cI (.str x) xs=U b)(e:Dr t (ew .eW (.str x) ↥l))(k:aG ((t.mw (!b)).aE H n) R):aG (t.aE H n) R:=
 sO (λ u=>by rw[nA,B7,h];show((cI (.str x) xs).bind _).bind _=_;rw[g];rfl) e k
theorem Tg{a b:Int}{v:bG}(h:decide (a=b)=v)(e:Dr t (ew .ne (.int a) (.int b)))(k:aG ((t.mw (!v)).aE H n) R):aG (t.aE H n) R:=
 sO (λ u=>by rw[Cy,FS,h];rfl) e k
theorem Tx(vs:List V)(L:vs.length<=1000)(e:nQ t (if vs.length<=1000 then new (.tup vs)else Mu.Internal.bj))(k:aG ((t.kT ↥n).aE (ah H n (U (.tup vs))) (n+1)) R):aG (t.aE H n) R:=
 sM (λ u=>by rw[if_pos L];rfl) e k
theorem vD{cf:V->List V->M V}{cs:List (af×J)}{b:List TS}{u:Lc}{Q m:V->Hp->J->be}(h:Ends (ay G cf cs b ⟨u,H,n⟩) m)(q:∀v H n,m v H n->Q v H n)(e:t=du cf cs b u:=by kernel_rfl):aG (t.aE H n) (EQ Q):=
by obtain fl|A|H'|n'|D|v|w|f:=h;exact⟨fl,A,H',n',by rw[e,iM];exact D,v,w,q _ _ _ f⟩
theorem sF0{cf:V->List V->M V}{cs:List (af×J)}{x:Tgt}{a:List TS}{l:J}(h:H l=U ⇑[])(e:t.xK=U (aI (dG ↥l) λ i=>jV G cf cs x a i))(k:aG ((t.KC .next t.zf).aE H n) R):aG (t.aE H n) R:=
 cF (P:=λ t=>aG ((t.KC .next t.zf).aE H n) R->aG (t.aE H n) R) e (λ u o k=>Ec (p:=((.next:Fl),(⟨u,H,n⟩:St))) (f:=λ p=>(o p.1 p.2.loc).aE p.2.H p.2.n) (by show(((H l).bind (O0 l)).bind _).bind _=_;rw[h];show forM _ _ _ _=_;show aI _ _ _=_;show(((H l).bind (PU [])).bind _).bind _=_;rw[h];rfl) k) k
theorem OV{d m n0:J}{H0:Hp}{f:V}{as xs:List V}(h:ba d f as H n (ji m H0 n0 xs))(e:IsC t d f as)(k:∀l H' n',n0<=l->l<n'->H' l=U ⇑xs->bK n0 H0 H'->n0<=n'->aG ((t.kT ↥l).aE H' n') R):aG (t.aE H n) R:=
by refine sC h e ?_;rintro _ _ _ ⟨l,rfl,b,c,d,e,f⟩;exact k l _ _ b c d e f
def EG(g:Fl×St->Option (Fl×St))(R:Fl->Lc->Hp->J->be):Fl->Lc->Hp->J->be:=λ fl u H n=>aG (g (fl,⟨u,H,n⟩)) R
noncomputable def lay:List (af×V)->Lc->Lc
 |[],u=>u
 |(x,v)::r,u=>ah (lay r u) x (U v)
abbrev Told(L:List (af×V))(u:Lc):be:=L.map (λ p=>u p.1)=L.map λ p=>U p.2
theorem Told.nil{u:Lc}:Told [] u:=rfl
theorem Told.cons{L:List (af×V)}{u:Lc}{x:af}{v:V}(h:u x=U v)(t:Told L u):Told ((x,v)::L) u:=by
 show u x::L.map (λ p=>u p.1)=U v::L.map λ p=>U p.2
 rw[h,show L.map (λ p=>u p.1)=_ from t]
theorem Told.hd{L:List (af×V)}{u:Lc}{x:af}{v:V}(t:Told ((x,v)::L) u):u x=U v:=(lS t).1
theorem Told.tl(t:Told (p::L) u):Told L u:=(lS t).2
theorem Told.lay(t:Told L u):u=lay L u:=by
 induction L with
 |nil=>rfl
 |cons p L X=>have h:u p.1=U p.2:=(lS t).1;show u=ah (Tr.lay L u) p.1 (U p.2);rw[<-X (lS t).2,<-h,cu]
theorem Told.set{L:List (af×V)}{u:Lc}(t:Told L u){x:af}{v:Option V}(h:(L.all λ p=>decide (p.1≠x))=ai:=by kernel_rfl):Told L (ah u x v):=by
 induction L with
 |nil=>rfl
 |cons p L X=>obtain h1|h2:=(dL).mp h;exact .cons ((ae (of_decide_eq_true h1)).trans t.hd) (X t.tl h2)
theorem Told.imp{L:List (af×V)}{u A:Lc}{p:af->bG}(t:Told L u)(b:∀x,p x=ai->A x=u x)(h:(L.all λ q=>p q.1)=ai:=by kernel_rfl):Told L A:=by
 induction L with
 |nil=>rfl
 |cons q L X=>obtain h1|h2:=(dL).mp h;exact .cons ((b _ h1).trans t.hd) (X t.tl h2)
theorem lay0(u:Lc):u=lay [] u:=rfl
theorem r8{v:V}(e:u=lay L u)(h:u x=U v):u=lay ((x,v)::L) u:=by show u=ah (lay L u) x (U v);rw[<-e,<-h,cu]
section
variable{cf:V->List V->M V}{cs:List (af×J)}{b:List TS}{u lc':Lc}{g:Fl×St->Option (Fl×St)}
theorem CA{X:Option (Fl×St)}(h:aG X (EG g R)):aG (X.bind g) R:=by obtain fl|lc'|H'|n'|e|q:=h;rw[e];exact q
theorem ql(L:u=lc')(h:aG ((du cf cs b lc').aE H n) (EG g R)):aG ((ay G cf cs b ⟨u,H,n⟩).bind g) R:=CA (by rw[L,<-iM];exact h)
theorem VX(L:u=lc')(h:aG ((exR cf cs s lc').aE H n) (EG g R)):aG ((c6 G cf cs s ⟨u,H,n⟩).bind g) R:=CA (by rw[L,<-brX];exact h)
theorem acg(h:aG X (EG U R)):aG X R:=by obtain fl|lc'|H'|n'|e|f2|l2|H2|i|w|q:=h;cases w;exact⟨_,_,_,_,e,q⟩
noncomputable def eK:Fl->Lc->Tr Fl
 |.next,u=>.ret .next u
 |fl,u=>.ret fl u
theorem QS{t:Tr Fl}(h:aG (t.aE H n) R):aG ((t.bind eK).aE H n) R:=by obtain fl|lc'|H'|n'|e|q:=h;rw[run_bind,e];exact⟨fl,lc',H',n',by cases fl<;>rfl,q⟩
theorem LL(L:u=lc')(h:aG ((ay G cf cs b ⟨u,H,n⟩).bind g) R)(e:t=du cf cs b lc':=by kernel_rfl):aG (t.aE H n) (EG g R):=by rw[e,<-L,iM];obtain fl|lc'|H'|n'|e|q:=h;obtain⟨f1,l1,H1,E⟩|Q|w:=pM.mp e;exact⟨f1,l1,H1,E,Q,fl,lc',H',n',w,q⟩
theorem Fu(L:u=lc')(h:aG ((ay G cf cs b ⟨u,H,n⟩).bind g) R)(e:t=(du cf cs b lc').bind eK:=by kernel_rfl):aG (t.aE H n) (EG g R):=
 e▸QS (LL L h Y)
noncomputable def nK(cf:V->List V->M V)(cs:List (af×J))(r:List TS):Fl->Lc->Tr Fl
 |.next,u=>du cf cs r u
 |fl,u=>.ret fl u
theorem sBc{f:Fl->Lc->Tr Fl}(L:u=lc')(h:aG ((ay G cf cs b ⟨u,H,n⟩).bind λ p=>(f p.1 p.2.loc).aE p.2.H p.2.n) R)(e:t=(du cf cs b lc').bind f:=by kernel_rfl):aG (t.aE H n) R:=by rw[e,run_bind,<-L,iM];exact h
theorem sBe(L:u=lc')(h:aG (ay G cf cs b ⟨u,H,n⟩) R)(e:t=du cf cs b lc':=by kernel_rfl):aG (t.aE H n) R:=by rw[e,<-L,iM];exact h
theorem sG(L:u=lc')(k:aG (g (.next,⟨u,H,n⟩)) R)(e:t.Lu=U .next:=by kernel_rfl)(a:t.gr=lc':=by kernel_rfl):aG (t.aE H n) (EG g R):=
 cD (P:=λ t=>t.gr=lc'->aG (t.aE H n) (EG g R)) e (λ l q=>aG.mk (show aG (g (.next,⟨l,H,n⟩)) R by rw[show l=lc' from q,<-L];exact k)) a
end
theorem ada{l:J}{i:Int}{xs:List V}{b:bG}(h:H l=U (.tup xs))(hi:cI (.int i) xs=U b)(e:Dr t (ew .isin (.int i) ↥l))(k:aG ((t.mw b).aE H n) R):aG (t.aE H n) R:=
 sO (λ _=>by rewrite[qq,wu,h];show(cI (.int i) xs).bind _=_;rewrite[hi];rfl) e k
theorem sNj{l:J}{i:Int}{xs:List V}{b:bG}(h:H l=U ⇑xs)(g:cI (.int i) xs=U b)(e:Dr t (ew .eW (.int i) ↥l))(k:aG ((t.mw (!b)).aE H n) R):aG (t.aE H n) R:=
 sO (λ u=>by rewrite[nA,wu,h];show((cI (.int i) xs).bind _).bind _=_;rewrite[g];rfl) e k
theorem adX{l:J}{i:Int}{es:List (aJ×V)}{b:bG}(h:H l=U (.dict es))(L:(es.all λ e=>(aJ.int i).fC e.1)=ai)(g:(es.any λ e=>decide (e.1=aJ.int i))=b)(e:Dr t (ew .isin (.int i) ↥l))(k:aG ((t.mw b).aE H n) R):aG (t.aE H n) R:=
 sO (λ u=>by rewrite[qq,wu,h];show(if _ then _ else _:Option bG).bind _=_;rewrite[if_pos L,g];rfl) e k
theorem Tk{cf:V->List V->M V}{i:Int}(h:0<=i/\i<1000)(e:nQ t (eh G cf (.con (.type "range")) [.int i]))(k:aG ((t.kT ↥n).aE (ah H n (U (.range i.toNat))) (n+1)) R):aG (t.aE H n) R:=
 sM (λ u=>by rewrite[Kr,if_pos h];rfl) e k
theorem abC{cf:V->List V->M V}{i:Int}(h:0<=i/\i<1000)(e:nQ t (eh G cf (.con (.type "str")) [.int i]))(k:aG ((t.kT (.str (cZ (toString i)))).aE H n) R):aG (t.aE H n) R:=
 sM (λ u=>by rewrite[Ro,if_pos h];rfl) e k
theorem sLs{cf:V->List V->M V}{l:J}{o o':O}(h:H l=U o)(L:pL o=U o')(e:nQ t (eh G cf (.con (.type "list")) [↥l]))(k:aG ((t.kT ↥n).aE (ah H n (U o')) (n+1)) R):aG (t.aE H n) R:=
 sM (λ u=>by rewrite[Mf,h];show(pL o).bind _=_;rewrite[L];rfl) e k
theorem aba{cf:V->List V->M V}{l:J}{o o':O}{v:V}(h:H l=U o)(hp:zV o=U (v,o'))(e:nQ t (lE cf (.lh l) [.int 0]))(k:aG ((t.kT v).aE (ah H l (U o')) n) R):aG (t.aE H n) R:=
 sM (λ u=>by rewrite[MO,h];show(zV o).bind _=_;rewrite[hp];rfl) e k
theorem XQ{cf:V->List V->M V}{l:J}{x:af}{o o':O}{v:V}(h:H l=U o)(hp:zU x o=U (v,o'))(e:nQ t (lE cf (.kA l) [.str x]))(k:aG ((t.kT v).aE (ah H l (U o')) n) R):aG (t.aE H n) R:=
 sM (λ u=>by rewrite[Ny,h];show(zU x o).bind _=_;rewrite[hp];rfl) e k
theorem acY{a b v:bG}(h:decide (a=b)=v)(e:Dr t (ew .ne (.bool a) (.bool b)))(k:aG ((t.mw (!v)).aE H n) R):aG (t.aE H n) R:=
 sO (λ u=>by rewrite[Cy,RP,h];rfl) e k
section
variable{cf:V->List V->M V}{cs:List (af×J)}{b:List TS}{u lc':Lc}{g:Fl×St->Option (Fl×St)}
theorem sHl(L:u=lc')(h:aG ((du cf cs b lc').aE H n) R):aG ((du cf cs b u).aE H n) R:=L▸h
theorem Ws{x:af}{v:Option V}(L:u=lc')(h:aG ((du cf cs b (ah lc' x v)).aE H n) R):aG ((du cf cs b (ah u x v)).aE H n) R:=L▸h
theorem Qd{fl:Fl}(L:u=lc')(k:aG (g (fl,⟨u,H,n⟩)) R)(e:t.Lu=U fl:=by kernel_rfl)(a:t.gr=lc':=by kernel_rfl):aG (t.aE H n) (EG g R):=
 cD (P:=λ t=>t.gr=lc'->aG (t.aE H n) (EG g R)) e (λ l q=>aG.mk (show aG (g (fl,⟨l,H,n⟩)) R by rw[show l=lc' from q,<-L];exact k)) a
theorem L6{H':Hp}(h:H=H')(k:aG (t.aE H' n) R):aG (t.aE H n) R:=h▸k
theorem nS{t':Tr Fl}(k:aG (t'.aE H n) R)(e:t=t':=by kernel_rfl):aG (t.aE H n) R:=e▸k
theorem ZK{fl:Fl}(e:t.Lu=U fl)(k:R fl t.gr H n):aG (t.aE H n) R:=
 cD (P:=λ t=>R fl t.gr H n->aG (t.aE H n) R) e (λ _ q=>aG.mk q) k
theorem Lo{fl:Fl}{lc':Lc}(q:R fl lc' H n)(e:t.Lu=U fl:=by kernel_rfl)(a:t.gr=lc':=by kernel_rfl):aG (t.aE H n) R:=
 ZK e (a▸q)
theorem sGk{Q:Lc->be}(h:∀u,Q u->R .next u H n)(k:Q t.gr)(e:t.Lu=U .next:=by kernel_rfl):aG (t.aE H n) R:=
 cD (P:=λ t=>Q t.gr->aG (t.aE H n) R) e (λ u q=>aG.mk (h u q)) k
theorem sFp{x:af}{a:List TS}{l m:J}(I:J->Lc->be)(h:H l=U (.range m))(hm:m<1000)(h0:I 0 t.zf)
 (e:t.xK=U (aI (dG ↥l) λ i=>jV G cf cs (.loc x) a i):=by kernel_rfl)
 (step:∀j(E:j<m) u,I j u->∀C:Fl->Lc->Hp->J->be,(∀u,I (j+1) u->C .next u H n)->aG ((du cf cs a (ah u x (U (.int j)))).aE H n) C)
 (k:∀u,I m u->aG ((t.KC .next u).aE H n) R):aG (t.aE H n) R:=
 sFr (λ j u H' n'=>I j u/\H'=H/\n'=n) h hm ⟨h0,Y,Y⟩ e (λ j E u H' n' ⟨a,b,c⟩=>by rw[b,c];exact step j E u a _ λ _ i=>⟨i,Y,Y⟩) λ u H' n' ⟨a,b,c⟩=>by rw[b,c];exact k u a
end
theorem sLt{x y:Int}{b:bG}(h:decide (x<y)=b)(e:Dr t (ew .lt (.int x) (.int y)))(k:aG ((t.mw b).aE H n) R):aG (t.aE H n) R:=
 sO (λ _=>by rw[Jp,h]) e k
theorem Gc{x y:Int}{b:bG}(h:decide (y<x)=b)(e:Dr t (ew .gt (.int x) (.int y)))(k:aG ((t.mw b).aE H n) R):aG (t.aE H n) R:=
 sO (λ _=>by rw[VH,h]) e k
theorem sLc{cf:V->List V->M V}{cs:List (af×J)}{elt:T}{x:af}{ifs:List T}{l:J}{xs ys:List V}(h:H l=U ⇑xs)(f:V->Option V)(L:xs.length<=1000)(S:xs.filterMap f=ys)
 (P:∀v∈xs,∀u:Lc,(ej G cf cs ifs ⟨ah u x (U v),H,n⟩).bind (Lj λ b=>if b then aI (ap G cf cs elt) λ y=>Mu.Internal.ret (U y)else Mu.Internal.ret F)=U (f v,⟨ah u x (U v),H,n⟩))
 (e:nQ t (aI (dG ↥l) λ i=>nE G cf cs elt x ifs i))(k:aG ((t.kT ↥n).aE (ah H n (U ⇑ys)) (n+1)) R):aG (t.aE H n) R:=
 sM (λ u=>by show(((H l).bind (O0 l)).bind _).bind _=_;rw[h,<-S];exact Bd (i:=.list l xs) f L (λ u=>zY _ _ _ _ _ h) P) e k
noncomputable def Sj:Option V->Fl
 |some v=>.ret v
 |none=>.next
noncomputable def elS(elt:T)(ifs:List T):List TS:=[.ite (.all ifs) [.ret (U elt)] []]
theorem Tp{cf:V->List V->M V}{cs:List (af×J)}{elt:T}{x:af}{ifs:List T}{l:J}{xs ys:List V}(h:H l=U ⇑xs)(f:V->Option V)(L:xs.length<=1000)(S:xs.filterMap f=ys)
 (P:∀v∈xs,∀u:Lc,∀C:Fl->Lc->Hp->J->be,C (Sj (f v)) (ah u x (U v)) H n->aG ((du cf cs (elS elt ifs) (ah u x (U v))).aE H n) C)
 (e:nQ t (aI (dG ↥l) λ i=>nE G cf cs elt x ifs i))(k:aG ((t.kT ↥n).aE (ah H n (U ⇑ys)) (n+1)) R):aG (t.aE H n) R:=
 sLc h f L S (λ v z u=>by
  have r:=P v z u (λ fl A H' n'=>fl=Sj (f v)/\(⟨A,H',n'⟩:St)=⟨ah u x (U v),H,n⟩) ⟨Y,Y⟩;rw[iM]at r;obtain fl|A|H'|n'|e|m|X:=r;rw[m,X]at e;replace e:((ej G cf cs ifs ⟨ah u x (U v),H,n⟩).bind (Lj λ t=>if t then ay G cf cs [.ret (U elt)]else ay G cf cs [])).bind (K cf cs [])=U (Sj (f v),⟨ah u x (U v),H,n⟩):=by rw[<-e,elS,nv];rfl
  generalize ej G cf cs ifs ⟨ah u x (U v),H,n⟩=o at e⊢;cases o with
  |none=>cases e
  |some p=>
   obtain b|N:=p;cases b with
   |false=>
    replace e:U (Fl.next,N)=U (Sj (f v),⟨ah u x (U v),H,n⟩):=e;generalize f v=y at e⊢;cases y with
    |none=>exact congrArg (λ p:Option (Fl×St)=>p.map λ q=>((F:Option V),q.2)) e
    |some y=>cases e
   |true=>
    replace e:((((ap G cf cs elt N).bind (Lj λ v=>Mu.Internal.ret (.ret v))).bind (K cf cs [])).bind (K cf cs []))=U (Sj (f v),⟨ah u x (U v),H,n⟩):=by rw[<-e];obtain a|b|c:=N;show _=(ay G cf cs [.ret (U elt)] ⟨a,b,c⟩).bind _;rw[nv];rfl
    show(ap G cf cs elt N).bind (Lj λ y=>Mu.Internal.ret (U y))=_;generalize ap G cf cs elt N=o at e⊢;cases o with
    |none=>cases e
    |some p=>
     obtain w|N:=p;replace e:U (Fl.ret w,N)=U (Sj (f v),⟨ah u x (U v),H,n⟩):=e;generalize f v=y at e⊢;cases y with
     |none=>cases e
     |some y=>
      injection e with e;injection e with Q s;injection Q with Q
      rw[Q,<-s];rfl) e k
theorem Cu{cf:V->List V->M V}{b:List TS}(L:u=A)(h:aG ((du cf cs b A).aE H n) (EQ Q)):Ends (ay G cf cs b ⟨u,H,n⟩) Q:=by rw[L];exact aP h
theorem sA2{cf:V->List V->M V}{cs:List (af×J)}{x y:af}{ee:T}{d:J}{f:V}{as:List V}{Q:V->Hp->J->be}(h:ba d f as H n Q)(e:t.xK=U (c6 G cf cs (.rW (.loc x) (.loc y) ee)))(i:ap G cf cs ee ⟨t.zf,H,n⟩=aq G d f as ⟨t.zf,H,n⟩)
 (k:∀v H' n',Q v H' n'->∃l a b,v=.ref l/\H' l=U (.tup [a,b])/\aG ((t.KC .next (ah (ah t.zf x (U a)) y (U b))).aE H' n') R):aG (t.aE H n) R:=by
 obtain v|H'|n'|D|q:=h;obtain l|a|b|w|L|r:=k _ _ _ q;refine cF (P:=λ t=>ap G cf cs ee ⟨t.zf,H,n⟩=aq G d f as ⟨t.zf,H,n⟩->aG ((t.KC .next (ah (ah t.zf x (U a)) y (U b))).aE H' n') R->aG (t.aE H n) R) e (λ u o i r=>Ec (f:=λ p=>(o p.1 p.2.loc).aE p.2.H p.2.n) (p:=((.next:Fl),⟨ah (ah u x (U a)) y (U b),H',n'⟩)) ?_ r) i r;show(ap G cf cs ee ⟨u,H,n⟩).bind _=_;rw[show ap G cf cs ee ⟨u,H,n⟩=_ from i,D,w];show OC cs (.loc x) (.loc y) ↥l ⟨u,H',n'⟩=_;rw[MR];show(look l ⟨u,H',n'⟩).bind _=_;rw[C5,L];rfl
theorem Bt(h:∀C:Fl->Lc->Hp->J->be,(∀fl u H n,R fl u H n->C fl u H n)->aG X C):aG X R:=h R λ _ _ _ _ q=>q
theorem O1{g:Fl×St->Option (Fl×St)}{E:Fl->Lc->Hp->J->be}{I:Lc->Hp->J->be}(h:∀fl u H n,Go g E I fl u H n->R fl u H n)(k:I t.gr H n)(e:t.Lu=U .next:=by kernel_rfl):aG (t.aE H n) R:=ZK e (h _ _ _ _ k)
theorem sFh{cf:V->List V->M V}{cs:List (af×J)}{x:af}{a:List TS}{l:J}{xs:List V}(h:J->Hp)(L:List (af×V))(h0:H=h 0)(ok:∀j,h j l=U ⇑xs)(d:Told L t.zf)
 (e:t.xK=U (aI (dG ↥l) λ i=>jV G cf cs (.loc x) a i))
 (step:∀j(E:j<xs.length) u,Told L u->∀C:Fl->Lc->Hp->J->be,(∀u,Told L u->C .next u (h (j+1)) n)->aG ((du cf cs a (ah u x (U xs[j]))).aE (h j) n) C)
 (k:∀u,Told L u->aG ((t.KC .next u).aE (h xs.length) n) R):aG (t.aE H n) R:=
 Ll (λ j u H' n'=>Told L u/\H'=h j/\n'=n) ⟨d,h0,Y⟩ (λ j _ _ _ i=>i.2.1▸ok j) e (λ j E u H' n' ⟨a,b,c⟩=>by rw[b,c];exact step j E u a _ λ _ i=>⟨i,Y,Y⟩) λ u H' n' ⟨a,b,c⟩=>by rw[b,c];exact k u a
end Tr
section
open Tr
section
variable{H:Hp}{n d:J}
theorem mT{N gl m:J}{es:List (aJ×V)}{gen:Int}{B:af}{ps:List af}(h:df H m N gl es gen)(hp:sY H m es B ps)(L:B.length<=100):
 ba (d+3) #[308] [↥N,.str B] H n (ji m H n (ps.map .str)):=by
 obtain k|hs:=h.jg;have P:B.length+pw s!"::ISA"<=1000:=by
  have:pw s!"::ISA"=5:=by decide+kernel
  exact acq this L
 refine aE UM (aP (ei hs (sX ..) ag (IA P ag ?_)));have last:∀{xs:List V},ji m H n xs ↥n (ah H n (U ⇑xs)) (n+1):=⟨n,Y,aS _,cQ _,aa ..,(bK.refl _ _).ah (aS _),b7 _⟩;rcases hp.2 with⟨C,rfl⟩|⟨g,num,aC,bl,wk,ds,fr,nm,a,c,e,hm,hg,t⟩
 .exact sD (u7 (d:=d+1) h C) ag (sN [] (cG _) ag (sQ (.ret ↥n) ag Y last))
 .rcases t with⟨rfl,rfl⟩|⟨j,o,y,A,E,S,r,it,vs,rfl,h1,h2,I,D,p⟩
  .exact sD (mB (d:=d+1) h e hg (.inl Y)) ag (sN [] (cG _) ag (sQ (.ret ↥n) ag Y last))
  .obtain f|f1|f2:=p.get;have w:=p.len;have:=hp.1;refine sD (mB (d:=d+1) h e hg (.inr ⟨_,Y⟩)) ag (cH h2 (kM ..) ag (Tp (cf:=aq G (d+2)) (cs:=[]) (elt:=.call (.lit #[264]) [(.call (.lit #[257]) [(.loc "item")])]) (x:=s!"item") (ifs:=[]) D f (aeu w this) f2 (λ v z u b q=>?_) ag (sQ (.ret ↥n) ag Y last)))
   obtain s|l|num|aC|bl|wk|ds|fr|Q|rfl|i:=f1 v z;rw[Q]at q;exact sD (AJ (d:=d+1) (n:=n) i) ag (sD (uD (d:=d+1) (H:=H) (n:=n) (s:=s)) ag (Lo q))
end
variable{H:Hp}{n:J}
theorem xt(xs:List V)(v:V):idx (xs++[v]) (-1)=U xs.length:=by unfold idx;rw[if_neg aL,if_pos (by simp;exact abz)];simp;exact acp
theorem e3(xs:List V)(v:V)(h:xs.length<1000):yO (-1) ⇑(xs++[v])=U v:=by simp only[um,ty,si,xt,eT];rw[if_pos (by simp;exact RI h)];simp
theorem xu(xs:List V)(v w:V)(h:xs.length<1000):fm (-1) w ⇑(xs++[v])=U ⇑(xs++[w]):=by simp only[jv,qK,xt,eT];rw[if_pos (by simp;exact RI h)];simp
theorem rh(xs:List V)(v:V)(h:xs.length<1000):Au ⇑(xs++[v])=U (v,⇑xs):=by simp only[Qv];rw[if_pos (by simp;exact RI h)];simp
theorem kU(xs:List V)(i:J)(h:i<xs.length):idx xs (i:Int)=U i:=by unfold idx;rw[if_pos abq,if_pos ((Wl h))];simp
theorem ga(xs:List V)(i:J)(v:V)(h:xs[i]?=U v)(L:xs.length<=1000):yO (i:Int) ⇑xs=U v:=by
 have hi:i<xs.length:=by
  rcases wF i xs.length with h1|h1
  .exact h1
  .rw[Bx h1]at h;cases h
 simp only[um,ty,si,kU xs i hi,eT,L,if_true,h]
theorem iy(x:af)(l:List af):cI (.str x) (l.map .str)=U (decide (x∈l)):=by
 have h1:(l.map V.str).all (λ y=>(lN (.str x) y).isSome)=ai:=by rw[dE];intro y S;obtain s|_|rfl:=bI.mp S;rfl
 simp only[cI,h1,if_true];congr 1
 induction l with
 |nil=>rfl
 |cons a r X=>have X:=X (by rw[dE]at h1⊢;intro y S;exact h1 y (by simp[S]));simp only[bW,jW,X];by_cases h:x=a<;>simp[xX,yr,h]
theorem pH(x:Int)(l:List Int):cI (.int x) (l.map .int)=U (decide (x∈l)):=by
 have h1:(l.map V.int).all (λ y=>(lN (.int x) y).isSome)=ai:=by rw[dE];intro y S;obtain s|_|rfl:=bI.mp S;rfl
 simp only[cI,h1,if_true];congr 1
 induction l with
 |nil=>rfl
 |cons a r X=>have X:=X (by rw[dE]at h1⊢;intro y S;exact h1 y (by simp[S]));simp only[bW,jW,X];by_cases h:x=a<;>simp[xX,yr,h]
noncomputable def g0{α:Type}[DecidableEq α](pf:α->List α):J->List α->List (α×List α×J)->Option (List α)
 |_,line,[]=>U line
 |0,_,_=>F
 |k+1,line,(p,row,i)::N=>match row[i]?with
  |none=>g0 pf k line N
  |some x=>if x∈p::N.map (·.1)then F else
   if x∈line then g0 pf k line ((p,row,i+1)::N)else g0 pf k (line++[x]) ((x,pf x,0)::(p,row,i+1)::N)
theorem fL{α:Type}[DecidableEq α]{pf:α->List α}{k:J}{line:List α}{p:α}{row:List α}{i:J}{N:List (α×List α×J)}:g0 pf (k+1) line ((p,row,i)::N)=match row[i]?with
 |none=>g0 pf k line N
 |some x=>if x∈p::N.map (·.1)then F else
  if x∈line then g0 pf k line ((p,row,i+1)::N)else g0 pf k (line++[x]) ((x,pf x,0)::(p,row,i+1)::N):=rfl
noncomputable abbrev m7(pf:af->List af)(k:J)(line:List af)(N:List (af×List af×J)):Option (List af):=g0 pf k line N
structure P4 where
 a:J
 b:J
 c:J
 d:J
structure P4.Ok(P:P4)(m k:J):Prop where
 ab:P.a≠P.b
 ac:P.a≠P.c
 ad:P.a≠P.d
 bc:P.b≠P.c
 bd:P.b≠P.d
 cd:P.c≠P.d
 la:m<=P.a
 lb:m<=P.b
 u:m<=P.c
 ld:m<=P.d
 ua:P.a<k
 ub:P.b<k
 uc:P.c<k
 ud:P.d<k
theorem P4.Ok.ne{P:P4}{m k n l:J}(q:P.Ok m k)(h:k<=n)(g:n<=l):l≠P.a/\l≠P.b/\l≠P.c/\l≠P.d:=
 have a:∀{x},x<k->l≠x:=λ I=>ju (cv I (bx h g))
 ⟨a q.ua,a q.ub,a q.uc,a q.ud⟩
structure F4(P:P4)(H:Hp)(o1 o2 o3 o4:O):Prop where
 a:H P.a=U o1
 b:H P.b=U o2
 c:H P.c=U o3
 d:H P.d=U o4
def Off(P:P4)(n:J)(H H':Hp):be:=∀l,l<n->l≠P.a->l≠P.b->l≠P.c->l≠P.d->H' l=H l
section
variable{P:P4}{m k n':J}{H':Hp}{o o1 o2 o3 o4:O}{x:Option O}
theorem F4.sa(f:F4 P H o1 o2 o3 o4)(q:P.Ok m k):F4 P (ah H P.a (U o)) o o2 o3 o4:=⟨aa ..,(ae q.ab.symm).trans f.b,(ae q.ac.symm).trans f.c,(ae q.ad.symm).trans f.d⟩
theorem F4.sb(f:F4 P H o1 o2 o3 o4)(q:P.Ok m k):F4 P (ah H P.b (U o)) o1 o o3 o4:=⟨(ae q.ab).trans f.a,aa ..,(ae q.bc.symm).trans f.c,(ae q.bd.symm).trans f.d⟩
theorem F4.sc(f:F4 P H o1 o2 o3 o4)(q:P.Ok m k):F4 P (ah H P.c (U o)) o1 o2 o o4:=⟨(ae q.ac).trans f.a,(ae q.bc).trans f.b,aa ..,(ae q.cd.symm).trans f.d⟩
theorem F4.sd(f:F4 P H o1 o2 o3 o4)(q:P.Ok m k):F4 P (ah H P.d (U o)) o1 o2 o3 o:=⟨(ae q.ad).trans f.a,(ae q.bd).trans f.b,(ae q.cd).trans f.c,aa ..⟩
theorem F4.bg(f:F4 P H o1 o2 o3 o4)(h:bK n H H')(q:P.Ok m k)(C:k<=n):F4 P H' o1 o2 o3 o4:=
 ⟨h.at (cv q.ua C) f.a,h.at (cv q.ub C) f.b,h.at (cv q.uc C) f.c,h.at (cv q.ud C) f.d⟩
theorem Off.refl:Off P n H H:=λ _ _ _ _ _ _=>rfl
theorem Off.a(f:Off P n H H'):Off P n H (ah H' P.a x):=λ l h h1 h2 I D=>(ae h1).trans (f l h h1 h2 I D)
theorem Off.b(f:Off P n H H'):Off P n H (ah H' P.b x):=λ l h h1 h2 I D=>(ae h2).trans (f l h h1 h2 I D)
theorem Off.c(f:Off P n H H'):Off P n H (ah H' P.c x):=λ l h h1 h2 I D=>(ae I).trans (f l h h1 h2 I D)
theorem Off.d(f:Off P n H H'):Off P n H (ah H' P.d x):=λ l h h1 h2 I D=>(ae D).trans (f l h h1 h2 I D)
theorem Off.on{H2:Hp}(f:Off P n H H')(g:bK n H' H2):Off P n H H2:=λ l h h1 h2 I D=>(g l h).trans (f l h h1 h2 I D)
theorem Off.bg(f:Off P n H H')(q:P.Ok m k)(hm:m<=n):bK m H H':=λ l h=>f l (cv h hm) (bP (cv h q.la)) (bP (cv h q.lb)) (bP (cv h q.u)) (bP (cv h q.ld))
end
structure rd(H:Hp)(n:J)(P:P4)(dJ:List af)(rl:J)(row:List af)(i:J):Prop where
 lt:rl<n
 na:rl≠P.a
 nb:rl≠P.b
 nc:rl≠P.c
 nd:rl≠P.d
 N:H rl=U (.list (row.map .str))
 le:i<=row.length
 len:row.length<=100
 dJ:∀x∈row,x∈dJ
inductive Rows(H:Hp)(n:J)(P:P4)(dJ:List af):List J->List (af×List af×J)->Prop
 |nil:Rows H n P dJ [] []
 |cons {rl rls p row i N}:rd H n P dJ rl row i->Rows H n P dJ rls N->Rows H n P dJ (rl::rls) ((p,row,i)::N)
theorem rd.move{H H':Hp}{n n':J}{P:P4}{dJ:List af}{rl i:J}{row:List af}(r:rd H n P dJ rl row i)(f:Off P n H H')(hn:n<=n'):rd H' n' P dJ rl row i:=
 ⟨cv r.lt hn,r.na,r.nb,r.nc,r.nd,(f rl r.lt r.na r.nb r.nc r.nd).trans r.N,r.le,r.len,r.dJ⟩
theorem Rows.move{H H':Hp}{n n':J}{P:P4}{dJ:List af}{g:List J}{N:List (af×List af×J)}(h:Rows H n P dJ g N)(f:Off P n H H')(hn:n<=n'):Rows H' n' P dJ g N:=by
 induction h with
 |nil=>exact .nil
 |cons r _ X=>exact .cons (r.move f hn) X
theorem Rows.len{H:Hp}{n:J}{P:P4}{dJ:List af}{g:List J}{N:List (af×List af×J)}(h:Rows H n P dJ g N):g.length=N.length:=by
 induction h with
 |nil=>rfl
 |cons _ _ X=>exact congrArg (·+1) X
noncomputable def lcL(N:J)(B:af)(P:P4):Lc:=ah (ah (ah (ah (ah (ah (λ _=>F) s!"stash" (U ↥N)) s!"package" (U (.str B))) s!"line" (U ↥P.a)) s!"path" (U ↥P.b)) s!"rows" (U ↥P.c)) s!"at" (U ↥P.d)
noncomputable abbrev wd(s:List (af×List af×J)):O:=⇑((s.map (·.1)).reverse.map .str)
noncomputable abbrev QD(s:List (af×List af×J)):O:=⇑((s.map λ s=>(s.2.2:Int)).reverse.map .int)
noncomputable def Fj(N:J)(B:af)(P:P4)(w:Option V):Lc:=ah (lcL N B P) s!"parent" w
noncomputable def uK(d:J)(N:J)(B:af)(P:P4)(w:Option V):Tr Fl:=Qn (aq G (d+3)) [] (wc KD 4) (wb KD 4) (Fj N B P w)
section
variable{d N gl m m0 i k rl:J}{es:List (aJ×V)}{gen:Int}{pk p x:af}{pf:af->List af}{dJ row:List af}{P:P4}{w:Option V}{la a b c xs:List V}
 {g:Fl×St->Option (Fl×St)}{R:Fl->Lc->Hp->J->Prop}{I:Lc->Hp->J->Prop}
theorem Zq{α:Type}{x:α}:[x].length<=1000:=show 1<=1000 by decide
theorem Cq{x:List V}{v:V}(h:x.length<1000):(x++[v]).length<=1000:=by rw[cE];exact h
theorem Vd{x:List V}{v:V}(h:x.length<1000):(x++[v]).length<2^60:=rz (Cq h) aL
theorem JB(x:List V)(v:V):(!(x++[v]).isEmpty)=ai:=by cases x<;>rfl
theorem FH{v:V}{i:J}(h:xs[i]?=U v):¬(i:Int)=xs.length:=by have:=(r9.mp h).1;exact acK this
theorem Rn(f:F4 P H ⇑la ⇑[] ⇑b ⇑c)(hg:aG (g (.next,⟨Fj N pk P w,H,n⟩)) R):aG ((uK d N pk P w).aE H n) (Go g R I):=by refine sTl f.b aL ag (sGb ag hg)
theorem LQ(q:P.Ok m0 k)(f:F4 P H ⇑la ⇑(a++[.str p]) ⇑(b++[↥rl]) ⇑(c++[.int i]))(t:H rl=U ⇑xs)(L:xs.length<=1000)(hi:i=xs.length)(A:a.length<1000)(z:b.length<1000)(cc:c.length<1000)
 (k:∀H',F4 P H' ⇑la ⇑a ⇑b ⇑c->Off P n H H'->I (Fj N pk P w) H' n):aG ((uK d N pk P w).aE H n) (Go g R I):=by
 refine sTl f.b (Vd A) ag ?_;rw[JB];refine fB f.d (e3 _ _ cc) ag (fB f.c (e3 _ _ z) ag (oq t L ag (sEq (decide_eq_true (congrArg Int.ofNat hi)) ag ?_)));refine ei f.b (wX ..) ag ?_;refine Ri f.b (rh _ _ A) ag ?_;have r:=f.sb (o:=⇑a) q;refine ei r.c (wX ..) ag ?_;refine Ri r.c (rh _ _ z) ag ?_;have h:=r.sc (o:=⇑b) q;refine ei h.d (wX ..) ag ?_;refine Ri h.d (rh _ _ cc) ag ?_;exact Te ag (k _ (h.sd q) Off.refl.b.c.d)
theorem Rv(q:P.Ok m0 k)(f:F4 P H ⇑la ⇑(a++[.str p]) ⇑(b++[↥rl]) ⇑(c++[.int i]))(t:H rl=U ⇑xs)(L:xs.length<=1000)(hi:xs[i]?=U (.str x))(A:a.length<1000)(z:b.length<1000)(cc:c.length<1000)
 (ha:cI (.str x) (a++[.str p])=U aj)(B:cI (.str x) la=U ai)
 (k:∀H',F4 P H' ⇑la ⇑(a++[.str p]) ⇑(b++[↥rl]) ⇑(c++[.int (i+1)])->Off P n H H'->I (Fj N pk P (U (.str x))) H' n):aG ((uK d N pk P w).aE H n) (Go g R I):=by
 refine sTl f.b (Vd A) ag ?_;rw[JB];refine fB f.d (e3 _ _ cc) ag (fB f.c (e3 _ _ z) ag (oq t L ag (sEq (decide_eq_false (FH hi)) ag ?_)));refine fB f.c (e3 _ _ z) ag (fB f.d (e3 _ _ cc) ag (fB t (ga _ _ _ hi L) ag ?_));refine fB f.d (e3 _ _ cc) ag ?_;refine Ce (v:=.int (i+1)) f.d (xu _ _ _ cc) ag ?_;have fd:=f.sd (o:=⇑(c++[.int (i+1)])) q;refine sIn fd.b ha ag (sNi fd.a B ag ?_);have e:Fj N pk P (U (.str x))=ah (Fj N pk P w) s!"parent" (U (.str x)):=(dk ..).symm;rw[e]at k;exact Te ag (k _ fd Off.refl.d)
theorem R9(q:P.Ok m0 k)(C:k<=n)(f:F4 P H ⇑la ⇑(a++[.str p]) ⇑(b++[↥rl]) ⇑(c++[.int i]))(t:H rl=U ⇑xs)(L:xs.length<=1000)(hi:xs[i]?=U (.str x))(cl:la.length<1000)(A:a.length<1000)(z:b.length<1000)(cc:c.length<1000)
 (ha:cI (.str x) (a++[.str p])=U aj)(B:cI (.str x) la=U aj)
 (hS:∀H',Off P n H H'->ba (d+3) #[308] [↥N,.str x] H' n (ji m H' n ((pf x).map .str)))
 (j:∀H' n' l,F4 P H' ⇑(la++[.str x]) ⇑(a++[.str p]++[.str x]) ⇑(b++[↥rl]++[↥l]) ⇑(c++[.int (i+1)]++[.int 0])->Off P n H H'->n<=n'->n<=l->l<n'->H' l=U ⇑((pf x).map .str)->I (Fj N pk P (U (.str x))) H' n'):aG ((uK d N pk P w).aE H n) (Go g R I):=by
 refine sTl f.b (Vd A) ag ?_;rw[JB];refine fB f.d (e3 _ _ cc) ag (fB f.c (e3 _ _ z) ag (oq t L ag (sEq (decide_eq_false (FH hi)) ag ?_)));refine fB f.c (e3 _ _ z) ag (fB f.d (e3 _ _ cc) ag (fB t (ga _ _ _ hi L) ag ?_));refine fB f.d (e3 _ _ cc) ag ?_;refine Ce (v:=.int (i+1)) f.d (xu _ _ _ cc) ag ?_;have fd:=f.sd (o:=⇑(c++[.int (i+1)])) q;refine sIn fd.b ha ag (sNi fd.a B ag ?_);refine ei fd.a (cS ..) ag ?_;refine nw (v:=.str x) fd.a (kf cl) ag ?_;have D:=fd.sa (o:=⇑(la++[.str x])) q;refine ei D.b (cS ..) ag ?_;refine nw (v:=.str x) D.b (Cq A) ag ?_;have r:=D.sb (o:=⇑(a++[.str p]++[.str x])) q;refine ei r.c (cS ..) ag ?_;refine OV (hS _ Off.refl.d.a.b) ag λ l H' n' g1 g2 g3 s y=>?_
 have E:=r.bg s q C;refine nw (v:=↥l) E.c (Cq z) ag ?_;have h:=E.sc (o:=⇑(b++[↥rl]++[↥l])) q;refine ei h.d (cS ..) ag ?_;refine nw (v:=.int 0) h.d (Cq cc) ag ?_;have e:Fj N pk P (U (.str x))=ah (Fj N pk P w) s!"parent" (U (.str x)):=(dk ..).symm;rw[e]at j;obtain ua|ub|uc|ud:=q.ne C g1;exact Te ag (j _ _ l (h.sd q) (Off.refl.d.a.b.on s).c.d y g1 g2 (((Off.refl (n:=n')).c.d l g2 ua ub uc ud).trans g3))
end
structure PH(H0:Hp)(n0 k:J)(pf:af->List af)(dJ out:List af)(P:P4)(m:J)(H:Hp)(n:J)(line:List af)(stk:List (af×List af×J))(rls:List J):Prop where
 aE:m7 pf m line stk=U out
 b1:line.length+m<=300
 b2:stk.length+m<=300
 f:F4 P H (.list (line.map .str)) (wd stk) (.list (rls.reverse.map .ref)) (QD stk)
 rows:Rows H n P dJ rls stk
 bg:bK n0 H0 H
 kn:k<=n
inductive uG(H0:Hp)(n0 k N:J)(pk:af)(pf:af->List af)(dJ out:List af)(P:P4)(m:J)(u:Lc)(H:Hp)(n:J):Prop
 |mk (w:Option V) (line:List af) (stk:List (af×List af×J)) (rls:List J) (e:Fj N pk P w=u) (I:PH H0 n0 k pf dJ out P m H n line stk rls):uG H0 n0 k N pk pf dJ out P m u H n
section
variable{d N gl m0 m k n0:J}{H0:Hp}{es:List (aJ×V)}{gen:Int}{pk p x:af}{pf:af->List af}{dJ out row line:List af}{P:P4}{w:Option V}{u:Lc}
 {stk r:List (af×List af×J)}{rl i:J}{rls:List J}{g:Fl×St->Option (Fl×St)}{R:Fl->Lc->Hp->J->Prop}
theorem uG.elim{C:Lc->be}(Q:uG H0 n0 k N pk pf dJ out P m u H n)(h:∀w line stk rls,PH H0 n0 k pf dJ out P m H n line stk rls->C (Fj N pk P w)):C u:=
 by cases Q with
 |mk w line stk rls e I=>exact e▸h w line stk rls I
theorem yA:wd ((p,row,i)::r)=.list ((r.map (·.1)).reverse.map V.str++[.str p]):=by simp[wd]
theorem yI:QD ((p,row,i)::r)=.list ((r.map λ s=>(s.2.2:Int)).reverse.map V.int++[.int i]):=by simp[QD]
theorem CK:O.list ((rl::rls).reverse.map V.ref)=.list (rls.reverse.map V.ref++[↥rl]):=by simp
theorem LG:O.list ((line++[x]).map V.str)=.list (line.map V.str++[.str x]):=by rw[gq];rfl
theorem F4.cast{j B q s o e h l:O}(f:F4 P H j B q s)(a:j=o)(b:B=e)(c:q=h)(d:s=l):F4 P H o e h l:=a▸b▸c▸d▸f
theorem F4.pull(f:F4 P H ⇑(line.map .str) (wd ((p,row,i)::r)) ⇑((rl::rls).reverse.map .ref) (QD ((p,row,i)::r))):
 F4 P H ⇑(line.map .str) ⇑((r.map (·.1)).reverse.map V.str++[.str p]) ⇑(rls.reverse.map V.ref++[↥rl]) ⇑((r.map λ s=>(s.2.2:Int)).reverse.map V.int++[.int i]):=
 f.cast Y yA CK yI
theorem Dc(h:¬x∈p::r.map (·.1)):cI (.str x) ((r.map (·.1)).reverse.map V.str++[.str p])=U aj:=by rw[show(r.map (·.1)).reverse.map V.str++[.str p]=((r.map (·.1)).reverse++[p]).map V.str by rw[gq];rfl,iy];exact congrArg U (decide_eq_false λ e=>h (by simpa[or_comm]using e))
theorem afk{α:Type}{f:α->V}{l:List α}(h:l.length+m<=300):(l.map f).length<1000:=by rw[bS];exact aep h
theorem R1{α:Type}{f:α->V}{l:List α}(h:l.length+1+m<=300):(l.reverse.map f).length<1000:=by rw[bS,List.length_reverse];exact ado h
theorem Gs(hS:df H0 m0 N gl es gen)(hm:m0<=n0)(hp:∀p∈dJ,p.length<=100/\sY H0 m0 es p (pf p)/\∀x∈pf p,x∈dJ)(q:P.Ok n0 k)(kn:k<=n)(hn:n0<=n)
 (aE:m7 pf (m+1) line ((p,row,i)::r)=U out)(b1:line.length+(m+1)<=300)(b2:r.length+1+(m+1)<=300)(f:F4 P H ⇑(line.map .str) (wd ((p,row,i)::r)) ⇑((rl::rls).reverse.map .ref) (QD ((p,row,i)::r)))
 (a:rd H n P dJ rl row i)(C:Rows H n P dJ rls r)(bg:bK n0 H0 H):
 aG ((uK d N pk P w).aE H n) (Go g R (xr (uG H0 n0 k N pk pf dJ out P) (m+1))):=by
 have e:=f.pull;have A:((r.map (·.1)).reverse.map V.str).length<1000:=R1 (m:=m+1) (by rw[bS];exact b2);have z:(rls.reverse.map V.ref).length<1000:=R1 (m:=m+1) (by rw[C.len];exact b2);have cc:((r.map λ s=>(s.2.2:Int)).reverse.map V.int).length<1000:=R1 (m:=m+1) (by rw[bS];exact b2);have L:(row.map V.str).length<=1000:=by rw[bS];exact bx a.len aL
 have h:=fL.symm.trans aE;cases B:row[i]?with
 |none=>
  rw[B]at h;refine LQ q e a.N L (by rw[bS];exact ru a.le (Jw.mp B)) A z cc λ H' f2 o=>?_
  exact⟨m,cQ _,_,_,_,_,Y,h,vW b1,(aew b2),f2,C.move o (aS _),bg.trans (o.bg q hn) (aS _),kn⟩
 |some x=>
  rw[B]at h;have hi:i<row.length:=(r9.mp B).1;have t:(row.map V.str)[i]?=U (.str x):=by rw[pr,B];rfl
  obtain I|D|Q:=hp x (a.dJ x (rA B));have E:rd H n P dJ rl row (i+1):=⟨a.lt,a.na,a.nb,a.nc,a.nd,a.N,hi,a.len,a.dJ⟩;by_cases c:x∈p::r.map (·.1)
  .exact Fq ((if_pos c).symm.trans h)
  replace h:=(if_neg c).symm.trans h;by_cases y:x∈line
  .refine Rv q e a.N L t A z cc (Dc c) ((iy x line).trans (congrArg U (decide_eq_true y))) λ H' f2 o=>?_
   exact⟨m,cQ _,_,_,_,_,Y,(if_pos y).symm.trans h,vW b1,vW b2,f2.cast Y yA.symm CK.symm yI.symm,.cons (E.move o (aS _)) (C.move o (aS _)),bg.trans (o.bg q hn) (aS _),kn⟩
  .refine R9 (d:=d) (m:=m0) (pf:=pf) q kn e a.N L t (afk b1) A z cc (Dc c) ((iy x line).trans (congrArg U (decide_eq_false y))) (λ H' o=>?_) λ H' n' l f2 o v j b S=>?_
   .have X:=bg.trans (o.bg q hn) (aS _);exact mT (d:=d) (hS.bg (X.weak hm)) (D.bg (X.weak hm)) I
   .obtain na|nb|nc|nd:=q.ne kn j;exact⟨m,cQ _,_,_,_,_,Y,(if_neg y).symm.trans h,by rw[cE];show line.length+1+m<=300;exact aeU b1,by show r.length+1+1+m<=300;exact afn b2,f2.cast LG.symm (by simp[wd]) (by simp) (by simp[QD]),.cons ⟨b,na,nb,nc,nd,S,cG _,D.1,Q⟩ (.cons (E.move o v) (C.move o v)),bg.trans (o.bg q hn) (aS _),bx kn v⟩
theorem DU(hS:df H0 m0 N gl es gen)(hm:m0<=n0)(hp:∀p∈dJ,p.length<=100/\sY H0 m0 es p (pf p)/\∀x∈pf p,x∈dJ)(q:P.Ok n0 k)(hg:∀w H n,H P.a=U ⇑(out.map .str)->bK n0 H0 H->k<=n->aG (g (.next,⟨Fj N pk P w,H,n⟩)) R)
 (aE:m7 pf m line stk=U out)(b1:line.length+m<=300)(b2:stk.length+m<=300)(f:F4 P H ⇑(line.map .str) (wd stk) ⇑(rls.reverse.map .ref) (QD stk))(C:Rows H n P dJ rls stk)(bg:bK n0 H0 H)(kn:k<=n):
 aG ((uK d N pk P w).aE H n) (Go g R (xr (uG H0 n0 k N pk pf dJ out P) m)):=by
 cases C with
 |nil=>have h:U line=U out:=lT (by cases m<;>rfl) aE;refine Rn f (hg _ _ _ (f.a.trans ?_) bg kn);rw[dT h]
 |cons a C=>cases m with
  |zero=>exact Fq aE
  |succ m=>exact Gs hS hm hp q kn (bx (kf (rz q.la q.ua)) kn) aE b1 b2 f a C bg
end
theorem uk{d:J}{N gl m:J}{es:List (aJ×V)}{gen:Int}{B:af}{pf:af->List af}{dJ out:List af}{k:J}
 (hS:df H m N gl es gen)(hm:m<=n)(hp:∀p∈dJ,p.length<=100/\sY H m es p (pf p)/\∀x∈pf p,x∈dJ)(hd:B∈dJ)(f:k<=200)(i:m7 pf k [B] [(B,pf B,0)]=U out):
 ba (d+4) #[315] [↥N,.str B] H n (ji m H n (out.map .str)):=by
 obtain e|r|X:=hp B hd;have o:bK n H (ah (ah H n (U ⇑[.str B])) (n+1) (U ⇑[.str B])):=((bK.refl _ _).ah (aS _)).ah (b7 _);refine aE YD (aP (sN [.str B] Zq ag (sN [.str B] Zq ag (OV (mT (d:=d) (hS.bg (o.weak hm)) (r.bg (o.weak hm)) e) ag λ l H1 E g1 g2 g3 s y=>?_))));refine sN [↥l] Zq ag (sN [.int 0] Zq ag ?_);have q:P4.Ok ⟨n,n+1,E,E+1⟩ n (E+2):=by constructor<;>dsimp only<;>omega
 have a:H1 n=U ⇑[.str B]:=(s _ aau).trans ((ae kE).trans (aa ..));have b:H1 (n+1)=U ⇑[.str B]:=(s _ ZQ).trans (aa ..);have P:F4 ⟨n,n+1,E,E+1⟩ (ah (ah H1 E (U ⇑[↥l])) (E+1) (U ⇑[.int 0])) ⇑[.str B] ⇑[.str B] ⇑[↥l] ⇑[.int 0]:=
  ⟨(ae q.ad).trans ((ae q.ac).trans a),(ae q.bd).trans ((ae q.bc).trans b),(ae q.cd).trans (aa ..),aa ..⟩
 have L:rd (ah (ah H1 E (U ⇑[↥l])) (E+1) (U ⇑[.int 0])) (E+2) ⟨n,n+1,E,E+1⟩ dJ l (pf B) 0:=
  have v:l≠E:=bP g2;have j:l≠E+1:=bP (ly g2)
  ⟨(acG g2),by show l≠n;exact aeJ g1,by show l≠n+1;exact adt g1,v,j,(ae j).trans ((ae v).trans g3),cG _,r.1,X⟩
 have S:bK n H (ah (ah H1 E (U ⇑[↥l])) (E+1) (U ⇑[.int 0])):=((o.trans s Of).ah ((Ud y))).ah ((adn y));refine sWh (cf:=aq G (d+3)) (cs:=[]) (c:=wc KD 4) (a:=wb KD 4) (uG H n (E+2) N B pf dJ out ⟨n,n+1,E,E+1⟩) k ((abI f)) ⟨F,[B],[(B,pf B,0)],[l],lT (b:=lcL N B ⟨n,n+1,E,E+1⟩) (cu _ _) ag,i,by show 1+k<=300;exact TQ f,by show 1+k<=300;exact TQ f,P,.cons L .nil,S,aS _⟩ ag ?_;intro m' A H' n' Q;refine Q.elim (C:=λ u=>aG ((Qn _ _ _ _ u).aE H' n') _) λ w line z g I=>DU (d:=d) hS hm hp q (λ w H' n' a b(c:E+2<=n')=>?_) I.aE I.b1 I.b2 I.f I.rows I.bg I.kn
 have h:n<n':=(abJ y c);exact sQ (t:=_) (.ret ↥n) ag Y ⟨n,Y,aS _,h,a,b,kf h⟩
end
section
open Tr
variable{d:J}{H:Hp}{n:J}
inductive WhI(H0:Hp)(n0 N ll:J)(pk:af)(xs:List V):J->Lc->Hp->J->Prop
 |a:WhI H0 n0 N ll pk xs 0 (ah (ah (ah (λ _=>F) s!"stash" (U (.ref N))) s!"package" (U (.str pk))) s!"line" (U (.ref ll))) H0 n0
 |b:WhI H0 n0 N ll pk xs 1 (ah (ah (ah (ah (λ _=>F) s!"stash" (U (.ref N))) s!"package" (U (.str pk))) s!"line" (U (.ref ll))) s!"other" (U (.str s!"UNIVERSAL"))) (ah H0 ll (U (.list xs))) n0
theorem Me{N gl m:J}{es:List (aJ×V)}{gen:Int}{B:af}{pf:af->List af}{dJ out:List af}{k:J}
 (hS:df H m N gl es gen)(hm:m<=n)(hp:∀p∈dJ,p.length<=100/\sY H m es p (pf p)/\∀x∈pf p,x∈dJ)(hd:B∈dJ)(C:k<=200)(i:m7 pf k [B] [(B,pf B,0)]=U out)
 (r:s!"UNIVERSAL"∈dJ)(w:pf s!"UNIVERSAL"=[])(o:s!"UNIVERSAL"∉out)(f:out.length<=500):
 ba (d+5) #[322] [↥N,.str B] H n (ji m H n ((out++[s!"UNIVERSAL"]).map .str)):=by
 have g:m7 pf 2 [s!"UNIVERSAL"] [(s!"UNIVERSAL",pf s!"UNIVERSAL",0)]=U [s!"UNIVERSAL"]:=by rw[w];rfl
 have c:(out.map V.str).length<=1000:=by rw[bS];exact acO f
 refine aE aaz (aP (OV (uk (d:=d) hS hm hp hd C i) ag λ l1 H1 e g1 g2 g3 s y=>?_));refine OV (uk (d:=d) (hS.bg (s.weak hm)) ((wW hm y)) (λ p h=>⟨(hp p h).1,(hp p h).2.1.bg (s.weak hm),(hp p h).2.2⟩) r adc g) ag λ l2 H2 L X t q A D=>?_
 have Q:H2 l1=U ⇑(out.map .str):=(A _ g2).trans g3;have z:l2≠l1:=(Qx g2 X);refine Ll (cf:=aq G (d+4)) (cs:=[]) (x:=s!"other") (a:=wb Uj 1) (l:=l2) (xs:=[.str s!"UNIVERSAL"]) (WhI H2 L N l1 B (out.map .str++[.str s!"UNIVERSAL"])) .a (λ j u H' n' I=>?_) ag (λ j E u H' n' I=>?_) λ u H' n' I=>?_
 .cases I with
  |a=>exact q
  |b=>exact(ae z).trans q
 .cases I with
  |a=>exact sNi Q (iy _ _) ag (by rw[decide_eq_false o];exact ei Q (cS ..) ag<|nw (v:=.str s!"UNIVERSAL") Q c ag (sGe _ .b))
  |b=>exact absurd E (lQ 1)
 .cases I with
  |b=>refine sQ (.ret ↥l1) ag Y ⟨l1,Y,g1,(sW g2 D),?_,(s.trans A y).ah g1,(wW y D)⟩;rw[aa,gq];rfl
theorem WO{α:Type}{x y:α}:[x,y].length<=1000:=show 2<=1000 by decide
noncomputable def Iu:Option J->V
 |some l=>.ref l
 |none=>.none
def pe(H:Hp)(m:J)(es:List (aJ×V))(B:af)(c:Option J):be:=
 (atK es (.str (B++s!"::"++s!"DESTROY"))=F/\c=F)\/∃g:J,∃num aC bl wk ds fr nm a,atK es (.str (B++s!"::"++s!"DESTROY"))=U ↥g/\g<m/\H g=U (TO num aC bl wk ds fr (.jL nm a (Iu c)))
theorem pe.up(I:Up m S m' y){c:Option J}(h:pe S m es B c)(P:atK es' (.str (B++s!"::"++s!"DESTROY"))=atK es (.str (B++s!"::"++s!"DESTROY"))):pe y m' es' B c:=by
 unfold pe;rw[P];exact h.imp id λ q=>q.imp λ g=>de λ num=>de λ aC=>de λ bl=>de λ wk=>de λ ds=>de λ fr=>de λ nm=>de λ a q=>
  have a:=I _ _ q.2.1 q.2.2
  ⟨q.1,a.1,a.2⟩
theorem pe.bg{H H':Hp}{m:J}(k:bK m H H'){es:List (aJ×V)}{B:af}{c:Option J}(h:pe H m es B c):pe H' m es B c:=h.up (bK.up k (aS _)) Y
theorem pe.adP{N gl m:J}{c:Option J}(hS:df H m N gl es gen)(h:pe H m es B c):
 ba (d+1) #[583] [↥N,.str (B++s!"::"++s!"DESTROY")] H n (Is (Iu c) H n):=by
 rcases h with⟨h,rfl⟩|⟨g,num,aC,bl,wk,ds,fr,nm,a,e,hm,hg⟩
 .exact Ee hS h
 .refine EB hS e hg ?_;cases c with
  |none=>exact .inl Y
  |some l=>exact .inr ⟨l,Y⟩
noncomputable def ch(cf:af->Option J):List af->Option (J×af)
 |[]=>F
 |p::r=>match cf p with
  |some c=>U (c,p)
  |none=>ch cf r
theorem k7{cf:af->Option J}:ch cf (p::r)=match cf p with
 |some c=>U (c,p)
 |none=>ch cf r:=rfl
def iE(H:Hp)(m n:J)(o:Option (J×af))(v:V):be:=match o with
 |none=>v=.none
 |some (c,p)=>∃l:J,v=.ref l/\m<=l/\l<n/\H l=U (.tup [↥c,.str p])
theorem iE.bg{H H':Hp}{m m' n n':J}{o:Option (J×af)}{v:V}(h:iE H m n o v)(k:∀l o,l<n->H l=U (.tup o)->H' l=U (.tup o))(hm:m'<=m)(hn:n<=n'):iE H' m' n' o v:=by
 cases o with
 |none=>exact h
 |some q=>obtain l|e|h0|h1|h2:=h;exact⟨l,e,(wW hm h0),(sW h1 hn),k _ _ h1 h2⟩
theorem jB(cf:af->Option J):∀(j:J)(line:List af),(∀p∈line.take j,cf p=F)->ch cf (line.drop j)=ch cf line
 |0,_,_=>rfl
 |j+1,[],_=>rfl
 |j+1,p::r,h=>by have h1:=h p (by simp);have:=jB cf j r (λ q hq=>h q (by simp[hq]));simp only[Gb,k7,h1];exact this
noncomputable def RT(N D:J):Lc:=ah (ah (ah (λ _=>F) s!"stash" (U ↥N)) s!"line" (U ↥D)) s!"name" (U (.str s!"DESTROY"))
noncomputable def Tv(N D:J)(a b:Option V):Lc:=ah (ah (RT N D) s!"package" a) s!"code" b
inductive HE(H0:Hp)(n0 N ll:J)(cf:af->Option J)(line:List af)(j:J):Lc->Hp->J->Prop
 |mk (a b:Option V) (h:∀p∈line.take j,cf p=F):HE H0 n0 N ll cf line j (Tv N ll a b) H0 n0
theorem HH{N D:J}{a b c e:Option V}:ah (ah (Tv N D a b) s!"package" c) s!"code" e=Tv N D c e:=(congrArg (ah · _ e) (vM ..)).trans (vM ..)
theorem yh{N gl m D j:J}{cf:af->Option J}{line:List af}{a b:Option V}{R:Fl->Lc->Hp->J->be}
 (hS:df H m N gl es gen)(hp:∀p∈line,p.length<=100/\pe H m es p (cf p))(E:j<line.length)(I:∀p∈line.take j,cf p=F)
 (k:∀u v H' n',iE H' n n' (ch cf line) v/\bK n H H'/\n<=n'->aG (g (.ret v,⟨u,H',n'⟩)) R):
 aG ((du (aq G (d+1)) [] (wb Qm 0) (ah (Tv N D a b) s!"package" (U (.str line[j])))).aE H n) (Go g R (HE H n N D cf line (j+1))):=by
 obtain A|r:=hp line[j] (jP E);obtain l|hs:=hS.jg;have s:pw s!"::"=2:=by decide+kernel
 have i:pw s!"DESTROY"=7:=by decide+kernel
 have t:∀a b:af,(a++b).length=a.length+b.length:=λ a b=>JX
 have P:line[j].length+pw s!"::"<=1000:=(abG s A);have Q:(line[j]++s!"::").length+pw s!"DESTROY"<=1000:=by rw[t];exact aeG s i A
 refine ei hs (B8 ..) ag ?_;refine IA P ag (IA Q ag (sD (pe.adP (d:=d) (n:=n) hS r) ag ?_));have jg:=jH E;cases hc:cf line[j]with
 |none=>
  refine Te ag ?_;have q:HE H n N D cf line (j+1) (Tv N D (U (.str line[j])) (U .none)) H n:=⟨_,_,λ p hp=>by
   rw[jg]at hp;rcases eE.mp hp with h|h
   .exact I p h
   .rw[gT.mp h];exact hc⟩
  rw[<-HH (a:=a) (b:=b)]at q;exact q
 |some c=>refine Tx [↥c,.str line[j]] WO ag (sGr (v:=↥n) ag (k _ _ _ _ ⟨?_,(bK.refl _ _).ah (aS _),b7 _⟩));have:=jB cf j line I;rw[wV E]at this;rw[<-this,k7,hc];exact⟨n,Y,aS _,cQ _,aa ..⟩
theorem GB{N gl m D:J}{es:List (aJ×V)}{gen:Int}{cf:af->Option J}{line:List af}
 (hS:df H m N gl es gen)(hm:m<=n)(hp:∀p∈line,p.length<=100/\pe H m es p (cf p))(L:H D=U ⇑(line.map .str)):
 ba (d+2) #[329] [↥N,↥D,.str s!"DESTROY"] H n λ v H' n'=>iE H' n n' (ch cf line) v/\bK n H H'/\n<=n':=by
 have P:Tv N D F F=RT N D:=lT (b:=ah (ah (RT N D) s!"package" (RT N D s!"package")) s!"code" (ah (RT N D) s!"package" (RT N D s!"package") s!"code")) ag ((cu _ _).trans (cu _ _));have i:HE H n N D cf line 0 (RT N D) H n:=P▸⟨F,F,λ _ hp=>absurd hp eI⟩;refine aE Y6 (aP (Ll (cf:=aq G (d+1)) (cs:=[]) (x:=s!"package") (a:=wb Qm 0) (l:=D) (xs:=line.map .str) (HE H n N D cf line) i (λ j u H' n' I=>by cases I with|mk _ _ _=>exact L) ag (λ j E u H' n' I=>?_) λ u H' n' I=>?_))
 .have B:j<line.length:=by rw[bS]at E;exact E
  cases I with
  |mk a b X=>rw[gM];exact yh (d:=d) hS hp B X λ u v H' n' q=>aG.mk ⟨v,Y,q⟩
 .cases I with
  |mk a b X=>refine sQ (.ret .none) ag Y ⟨?_,bK.refl _ _,aS _⟩;rw[bS]at X;have:=jB cf line.length line X;rw[Fy]at this;rw[<-this];rfl
end
section
open Tr
variable{d:J}{H:Hp}{n:J}
theorem iZ{α:Type}[DecidableEq α]:∀(l ks:List α),l.Nodup->(∀x∈l,x∈ks)->l.length<=ks.length
 |[],_,_,_=>cG _
 |a::r,ks,hn,hs=>by
  rw[ku]at hn;have h1:=iZ r (ks.erase a) hn.2 (λ x g=>by
   have:x≠a:=λ e=>hn.1 (e▸g)
   exact(List.mem_erase_of_ne this).mpr (hs x (by simp[g])))
  have h2:=List.length_erase_of_mem (hs a (by simp));have I:0<ks.length:=List.length_pos_of_mem (hs a (by simp));simp only[eF];exact Zh I h2 h1
theorem gQ{v:V}(h:atK es k=F):fO k v es=es++[(k,v)]:=by unfold fO;rw[find_key,h];rfl
theorem jy{v:V}(h:atK es k=U v):(k,v)∈es:=by
 unfold atK at h;cases P:es.find? (λ e=>decide (e.1=k))with
 |none=>rw[P]at h;cases h
 |some e=>rw[P]at h;cases h;have h1:=AY P;have h2:=wz P;simp at h1;rw[<-h1];exact h2
theorem xJ(h:atK es k=F):∀e∈es,e.1≠k:=by
 unfold atK at h;intro e P C;cases l:es.find? (λ e=>decide (e.1=k))with
 |some e=>rw[l]at h;cases h
 |none=>have:=List.find?_eq_none.mp l e P;simp[C]at this
theorem kN{v:V}(h:atK es k=F):atK (es++[(k,v)]) k=U v:=by
 unfold atK at h⊢;rw[Gj];cases P:es.find? (λ e=>decide (e.1=k))with
 |some e=>rw[P]at h;cases h
 |none=>simp
theorem Cb(b:List af):strsOf (b.map .str)=U b:=by
 induction b with
 |nil=>rfl
 |cons a r X=>show((strsOf (r.map V.str)).bind λ xs=>U (a::xs))=_;rw[X];rfl
theorem oA{b:List af}(h:H l=U (.tup [.str s,↥Q]))(h':H Q=U (.tup (b.map .str))):qe H ↥l=U (.tup s b):=by show(H l).bind _=_;rw[h];show(H Q).bind _=_;rw[h'];show(strsOf (b.map V.str)).bind _=_;rw[Cb];rfl
theorem nV{es:List (aJ×V)}(h:∀e∈es,e.1.isTup=ai)(s:af)(b:List af):es.all (λ e=>(aJ.tup s b).fC e.1)=ai:=dE.mpr h
theorem AX{l Q t:J}{s:af}{b:List af}{es:List (aJ×V)}(h:H l=U (.tup [.str s,↥Q]))(h':H Q=U (.tup (b.map .str)))(ht:H t=U (.dict es))(C:∀e∈es,e.1.isTup=ai)(u:Lc):
 J6 ↥l ↥t ⟨u,H,n⟩=U ((atK es (.tup s b)).isSome,⟨u,H,n⟩):=by
 show((H t).bind _).bind _=_;rw[ht];show((qe H ↥l).bind _).bind _=_;rw[oA h h'];show(if _ then _ else _:Option bG).bind _=_;rw[if_pos (nV C s b),find_key];rfl
theorem Cp{l Q t:J}{s:af}{b:List af}{es:List (aJ×V)}(h:H l=U (.tup [.str s,↥Q]))(h':H Q=U (.tup (b.map .str)))(ht:H t=U (.dict es))(C:∀e∈es,e.1.isTup=ai)(u:Lc):
 fD ↥t ↥l ⟨u,H,n⟩=(atK es (.tup s b)).bind λ v=>U (v,⟨u,H,n⟩):=by
 show((H t).bind _).bind _=_;rw[ht];show((qe H ↥l).bind _).bind _=_;rw[oA h h'];show(if _ then _ else _:Option V).bind _=_;rw[if_pos (nV C s b)]
theorem Nh{l Q t:J}{s:af}{b:List af}{es:List (aJ×V)}{v:V}(h:H l=U (.tup [.str s,↥Q]))(h':H Q=U (.tup (b.map .str)))(ht:H t=U (.dict es))(C:∀e∈es,e.1.isTup=ai)(L:es.length<=1000)(u:Lc):
 jc ↥t ↥l v ⟨u,H,n⟩=U ((),⟨u,ah H t (U (.dict (fO (.tup s b) v es))),n⟩):=by
 show((H t).bind _).bind _=_;rw[ht];show((qe H ↥l).bind _).bind _=_;rw[oA h h'];show(if _ then _ else _:Option O).bind _=_;rw[if_pos ⟨nV C s b,L⟩];rfl
structure Cache(S H:Hp)(n:J)(cf:af->Option J)(ks:List aJ)(ca t:J)(g:Int)(es:List (aJ×V)):Prop where
 hc:H ca=U (gf g t)
 ht:H t=U (.dict es)
 kt:∀e∈es,e.1.isTup=ai
 nd:(es.map (·.1)).Nodup
 sub:∀e∈es,e.1∈ks
 ok:∀ss v,(aJ.tup s!"DESTROY" ss,v)∈es->iE S 0 n (ch cf ss) v
 cm:ca<n
 tm:t<n
 ne:ca≠t
def Found(S H:Hp)(n:J)(cf:af->Option J)(ks:List aJ)(A t:J)(gen:Int)(H':Hp)(n':J):be:=
 n<=n'/\(∀l,l<n->l≠A->l≠t->H' l=H l)/\∃y t' es',Cache y H' n' cf ks A t' gen es'/\(t'=t\/n<=t')/\
  (y=S\/∃l o,n<=l/\l<n'/\H' l=U (.tup o)/\y=ah S l (U (.tup o)))
def Ge'(S y:Hp):be:=∀l o,S l=U o->y l=U o
theorem AG(b:List af):zx (b.map .str)=ai:=by unfold zx;rw[dE];intro v z;obtain s|_|rfl:=bI.mp z;rfl
noncomputable def Rz(A N D:J):Lc:=ah (ah (ah (ah (λ _=>F) s!"self" (U ↥A)) s!"stash" (U ↥N)) s!"line" (U ↥D)) s!"name" (U (.str s!"DESTROY"))
theorem Tr.aco{R:Fl->Lc->Hp->J->be}{t:Tr Fl}{cf:V->List V->M V}{l:J}{o o':O}(h:H l=U o)(ht:Mb o=U o')(e:nQ t (eh G cf (.con (.type "tuple")) [↥l]))(k:aG ((t.kT ↥n).aE (ah H n (U o')) (n+1)) R):aG (t.aE H n) R:=
 sM (λ _=>by rw[Jn];exact jj _ h ht) e k
theorem DQ{S:Hp}{N gl D A t:J}{es k':List (aJ×V)}{gen g:Int}{cf:af->Option J}{ks:List aJ}{line:List af}
 (hS:df H n N gl es gen)(hp:∀p∈line,p.length<=100/\pe H n es p (cf p))(L:H D=U ⇑(line.map .str))(d':D<n)(p':line.length<=100)
 (hC:Cache S H n cf ks A t g k')(h':∀l o,S l=U o->l<n/\H l=U o/\l≠A/\l≠t)(C:aJ.tup s!"DESTROY" line∈ks)(e':ks.length<=100)(jg:A≠N/\t≠N/\A≠gl/\t≠gl/\A≠D/\t≠D)
 (t':∀p∈line,∀H',(∀l,l<n->l≠A->l≠t->H' l=H l)->pe H' n es p (cf p))(v':∀H',(∀l,l<n->l≠A->l≠t->H' l=H l)->df H' n N gl es gen)
 (H1:Hp)(E t1:J)(b':List (aJ×V))(g':n<=E)(q':∀l,l<n->l≠A->l≠t->H1 l=H l)(k:Cache S H1 E cf ks A t1 gen b')(w':t1=t\/n<=t1):
 aG ((du (aq G (d+2)) [] (Mi.drop 1) (Rz A N D)).aE H1 E) (EQ λ v H' n'=>iE H' 0 n' (ch cf line) v/\Found S H n cf ks A t gen H' n'):=by
 obtain s1|s2|s3|s4|s5|j:=jg;have x':(line.map V.str).length<=1000:=by rw[bS];exact Kl p'
 have j':H1 D=U ⇑(line.map .str):=by rw[q' D d' (gP s5) (gP j)];exact L
 have c1:=k.cm;have c2:=k.tm;have a4:¬t1=E:=(bX c2);have a5:¬t1=E+1:=(fS c2);refine aco (cf:=aq G (d+2)) j' (o':=.tup (line.map .str)) (if_pos ⟨AG _,x'⟩) ag ?_;refine Tx [.str s!"DESTROY",↥E] WO ag ?_;have l':bK E H1 (ah (ah H1 E (U (.tup (line.map .str)))) (E+1) (U (.tup [.str s!"DESTROY",↥E]))):=((bK.refl _ _).ah (aS _)).ah (b7 _);have Q:(ah (ah H1 E (U (.tup (line.map .str)))) (E+1) (U (.tup [.str s!"DESTROY",↥E]))) (E+1)=U (.tup [.str s!"DESTROY",↥E]):=aa ..;have i:(ah (ah H1 E (U (.tup (line.map .str)))) (E+1) (U (.tup [.str s!"DESTROY",↥E]))) E=U (.tup (line.map .str)):=(ae xF).trans (aa ..);generalize(ah (ah H1 E (U (.tup (line.map .str)))) (E+1) (U (.tup [.str s!"DESTROY",↥E])))=H2 at l' Q i⊢;have f:=l'.at c2 k.ht;have X:=l'.at c1 k.hc;refine cH X (qu ..) ag ?_;refine sO (m:=ew .eW ↥(E+1) ↥t1) (v:=!(atK b' (.tup s!"DESTROY" line)).isSome) (λ u=>by rw[nA,AX Q i f k.kt];rfl) ag ?_;cases c':atK b' (.tup s!"DESTROY" line)with
 |some v0=>
  refine cH X (qu ..) ag ?_;refine sM (m:=fD ↥t1 ↥(E+1)) (v:=v0) (λ u=>by rw[Cp Q i f k.kt,c'];rfl) ag ?_;refine sQ (.ret v0) ag Y ⟨?_,?_,?_,S,t1,b',⟨X,f,k.kt,k.nd,k.sub,?_,(CV c1),(CV c2),k.ne⟩,w',.inl Y⟩
  .refine(k.ok _ _ (jy c')).bg (λ l o L h=>?_) (aS _) (Of);obtain j1|j2|j3|j4:=h' _ _ h;rw[l' l ((pi L)),q' l j1 j3 j4];exact j2
  .exact I9 g'
  .intro l h1 h2 I;rw[l' l ((sW h1 g'))];exact q' l h1 h2 I
  .intro s v h;exact(k.ok _ _ h).bg (λ l o L h=>h) (aS _) (Of)
 |none=>
  have r':∀l,l<n->l≠A->l≠t->H2 l=H l:=λ l h1 h2 I=>(l' l ((sW h1 g'))).trans (q' l h1 h2 I)
  have s':H2 D=U ⇑(line.map .str):=(r' D d' (gP s5) (gP j)).trans L;refine sC (GB (d:=d) (v' _ r') ((I9 g')) (λ p h=>⟨(hp p h).1,t' p h _ r'⟩) s') ag λ v H3 n3 q=>?_
  have z:=q.1;have i':=q.2.1;have f':=q.2.2;have f1:H3 (E+1)=U (.tup [.str s!"DESTROY",↥E]):=by rw[i' _ ZQ];exact Q
  have f2:H3 E=U (.tup (line.map .str)):=by rw[i' _ aau];exact i
  have f3:H3 t1=U (.dict b'):=by rw[i' _ ((CV c2))];exact f
  have f4:H3 A=U (gf gen t1):=by rw[i' _ ((CV c1))];exact X
  have r:b'.length<=100:=by
   have:=iZ (b'.map (·.1)) ks k.nd (λ x B=>by obtain e|P|rfl:=bI.mp B;exact k.sub e P)
   rw[bS]at this;exact ZW e' this
  refine cH f4 (qu ..) ag ?_;refine Td (m:=jc ↥t1 ↥(E+1) v) (λ u=>Nh f1 f2 f3 k.kt ((Kl r)) u) ag ?_;have b1:¬E+1=t1:=(PO a5);have b2:¬E=t1:=(FC a4);rw[gQ c'];have y':∀e∈b'++[(aJ.tup s!"DESTROY" line,v)],e.1.isTup=ai:=λ e P=>(eE.mp P).elim (k.kt e) λ h=>by rw[gT.mp h];rfl
  have q4:∀l:J,l≠t1->ah H3 t1 (U (.dict (b'++[(aJ.tup s!"DESTROY" line,v)]))) l=H3 l:=λ l h=>ae h
  have i3:ah H3 t1 (U (.dict (b'++[(aJ.tup s!"DESTROY" line,v)]))) t1=U (.dict (b'++[(aJ.tup s!"DESTROY" line,v)])):=aa ..;generalize ah H3 t1 (U (.dict (b'++[(aJ.tup s!"DESTROY" line,v)])))=H4 at q4 i3⊢;have i1:=(q4 _ b1).trans f1;have i2:=(q4 _ b2).trans f2;have i4:=(q4 _ k.ne).trans f4;refine cH i4 (qu ..) ag ?_;refine sM (m:=fD ↥t1 ↥(E+1)) (v:=v) (λ u=>by rw[Cp i1 i2 i3 y',kN c'];rfl) ag ?_;have z':∀l o,H3 l=U (.tup o)->H4 l=U (.tup o):=by intro l o h;rw[q4 l (λ e=>by rw[e,f3]at h;cases h)];exact h
  have A':iE H4 0 n3 (ch cf line) v:=z.bg (λ l o _ h=>z' l o h) (cG _) (aS _);have m':∃y,Ge' S y/\iE y 0 n3 (ch cf line) v/\(y=S\/∃l o,n<=l/\l<n3/\H4 l=U (.tup o)/\y=ah S l (U (.tup o))):=by
   cases hs:ch cf line with
   |none=>rw[hs]at z;exact gc S (λ _ _ h=>h) z (.inl Y)
   |some q=>obtain c|p:=q;rw[hs]at z;obtain l|rfl|j1|j2|j3:=z;refine gc (ah S l (U (.tup [↥c,.str p]))) ?_ ⟨l,Y,cG _,j2,aa ..⟩ (.inr ⟨l,_,(IG j1 g'),j2,z' _ _ j3,Y⟩);intro x o B;have:=(h' x o B).1;rw[ae ((Wg j1 this g'))];exact B
  obtain y|a'|B'|m':=m';refine sQ (.ret v) ag Y ⟨A',(IG f' g'),?_,y,t1,_,⟨i4,i3,y',?_,?_,?_,(PL f' c1),(PL f' c2),k.ne⟩,w',m'⟩
  .intro l h1 h2 I;have:l≠t1:=by
    rcases w' with h|h
    .rw[h];exact I
    .exact ug h1 h
   rw[q4 l this,i' l ((UX h1 g'))];exact r' l h1 h2 I
  .rw[gq,bW,oo,kC];refine cY k.nd (by simp) ?_;intro a ha b hb;simp at hb;subst hb;obtain e|P|rfl:=bI.mp ha;exact xJ c' e P
  .intro e P;rcases eE.mp P with h|h
   .exact k.sub e h
   .simp at h;rw[h];exact C
  .intro s w h;rcases eE.mp h with h|h
   .exact(k.ok s w h).bg (λ l o _ h=>a' _ _ h) (aS _) ((Ud f'))
   .simp at h;obtain rfl|rfl:=h;exact B'
theorem RO{N gl D A t:J}{cf:af->Option J}{ks:List aJ}{line:List af}
 (hS:df H n N gl es gen)(hp:∀p∈line,p.length<=100/\pe H n es p (cf p))(L:H D=U ⇑(line.map .str))(j:D<n)(i:line.length<=100)
 (x:Cache S H n cf ks A t g f)(c:∀l o,S l=U o->l<n/\H l=U o/\l≠A/\l≠t)(C:aJ.tup s!"DESTROY" line∈ks)(Q:ks.length<=100)(jg:A≠N/\t≠N/\A≠gl/\t≠gl/\A≠D/\t≠D)
 (r:∀p∈line,∀H',(∀l,l<n->l≠A->l≠t->H' l=H l)->pe H' n es p (cf p))(s:∀H',(∀l,l<n->l≠A->l≠t->H' l=H l)->df H' n N gl es gen):
 ba (d+3) #[350] [↥A,↥N,↥D,.str s!"DESTROY"] H n λ v H' n'=>iE H' 0 n' (ch cf line) v/\Found S H n cf ks A t gen H' n':=by
 have rest:=DQ (d:=d) hS hp L j i x c C Q jg r s;obtain w|k:=hS.jg;have hc:=x.hc;refine aE aaj (aP ?_);refine cH hc (Ot ..) ag (cH k (we ..) ag ?_);by_cases hg:g=gen
 .subst hg;refine Tg (a:=g) (b:=g) (v:=ai) (decide_eq_true Y) ag ?_;exact vD (cs:=[]) (b:=Mi.drop 1) (u:=Rz A N D) (aP (rest H n t f (aS _) (λ l _ _ _=>rfl) x (.inl Y))) λ _ _ _ q=>q
 .have h:¬N=A:=λ e=>jg.1 e.symm
  have X:¬A=n:=(bX x.cm);refine Tg (a:=g) (b:=gen) (v:=aj) (decide_eq_false hg) ag ?_;refine cH k (we ..) ag (my (v:=V.int gen) hc (Mn ..) ag ?_);refine sE ag ?_;refine my (v:=V.ref n) ((ae X).trans (aa ..)) (Lz ..) ag ?_;refine vD (cs:=[]) (b:=Mi.drop 1) (u:=Rz A N D) (aP (rest _ (n+1) n [] (b7 _) (λ l h1 h2 I=>?_) ⟨aa ..,(ae (FC X)).trans (aa ..),(λ e P=>nomatch P),fJ,(λ e P=>nomatch P),(λ m v P=>nomatch P),(gk x.cm),xQ,(TN X)⟩ (.inr (aS _)))) λ _ _ _ q=>q
  exact(ae h2).trans ((ae (bX h1)).trans (ae h2))
end
section
open Tr
variable{d:J}{H:Hp}{n:J}
structure jF(H:Hp)(n N gl:J)(es:List (aJ×V))(gen:Int)(pf:af->List af)(cf:af->Option J)(dJ:List af):Prop where
 hS:df H n N gl es gen
 hp:∀p∈dJ,p.length<=100/\sY H n es p (pf p)/\(∀x∈pf p,x∈dJ)/\pe H n es p (cf p)
theorem Up.grow{H:Hp}(hm:m<=m'):Up m H m' H:=λ _ _ L e=>⟨cv L hm,e⟩
theorem sY.grow{H:Hp}(h:sY H m es B ps)(hm:m<=m'):sY H m' es B ps:=h.up (.grow hm) Y
theorem pe.grow{H:Hp}{c:Option J}(h:pe H m es B c)(hm:m<=m'):pe H m' es B c:=h.up (.grow hm) Y
theorem df.grow{H:Hp}{m m' N gl:J}(h:df H m N gl es gen)(hm:m<=m'):df H m' N gl es gen:=
 ⟨h.jg,h.F1,h.ks,cv h.sm hm,cv h.gm hm⟩
theorem jF.bg{H H':Hp}{n n' N gl:J}{es:List (aJ×V)}{gen:Int}{pf:af->List af}{cf:af->Option J}{dJ:List af}(h:jF H n N gl es gen pf cf dJ)(k:bK n H H')(hn:n<=n'):jF H' n' N gl es gen pf cf dJ:=
 ⟨(h.hS.bg k).grow hn,λ p hp=>⟨(h.hp p hp).1,((h.hp p hp).2.1.bg k).grow hn,(h.hp p hp).2.2.1,((h.hp p hp).2.2.2.bg k).grow hn⟩⟩
theorem Cache.bg{S H H':Hp}{n n':J}{cf:af->Option J}{ks:List aJ}{A t:J}{g:Int}{es:List (aJ×V)}(h:Cache S H n cf ks A t g es)(k:bK n H H')(hn:n<=n'):Cache S H' n' cf ks A t g es:=
 ⟨k.at h.cm h.hc,k.at h.tm h.ht,h.kt,h.nd,h.sub,λ b v z=>(h.ok b v z).bg (λ l o L f=>f) (aS _) hn,cv h.cm hn,cv h.tm hn,h.ne⟩
structure uX(pf:af->List af)(dJ:List af)(ks:List aJ)(pk:af)(out:List af):Prop where
 aE:m7 pf 200 [pk] [(pk,pf pk,0)]=U out
 un:s!"UNIVERSAL"∉out
 len:out.length<=90
 sub:∀p∈out,p∈dJ
 key:aJ.tup s!"DESTROY" (out++[s!"UNIVERSAL"])∈ks
structure Apart(H:Hp)(n N gl:J)(es:List (aJ×V))(gen:Int)(pf:af->List af)(cf:af->Option J)(dJ:List af)(ca t:J):Prop where
 ne:ca≠N/\t≠N/\ca≠gl/\t≠gl
 N:∀H',(∀l,l<n->l≠ca->l≠t->H' l=H l)->jF H' n N gl es gen pf cf dJ
theorem tf{S:Hp}{N gl A t:J}{es a':List (aJ×V)}{gen g:Int}{pf:af->List af}{cf:af->Option J}{dJ:List af}{ks:List aJ}{B:af}{out:List af}
 (hS:jF H n N gl es gen pf cf dJ)(s:Apart H n N gl es gen pf cf dJ A t)(x:Cache S H n cf ks A t g a')(b:∀l o,S l=U o->l<n/\H l=U o/\l≠A/\l≠t)(Q:ks.length<=100)
 (hd:B∈dJ)(r:s!"UNIVERSAL"∈dJ)(c':pf s!"UNIVERSAL"=[])(L:uX pf dJ ks B out):
 ba (d+6) #[364] [↥N,↥A,.str B,.str s!"DESTROY"] H n λ v H' n'=>v=Iu ((ch cf (out++[s!"UNIVERSAL"])).map (·.1))/\Found S H n cf ks A t gen H' n':=by
 have hc:=x.hc;have w:=L.len;refine aE Y5 (aP ?_);refine ei hc (Mv ..) ag ?_;refine OV (Me (d:=d) hS.hS (aS _) (λ p hp=>⟨(hS.hp p hp).1,(hS.hp p hp).2.1,(hS.hp p hp).2.2.1⟩) hd aaT L.aE r c' L.un ((aaW w))) ag λ j H1 E g1 g2 g3 D f=>?_
 have b':=hS.bg D f;have k:=x.bg D f;have e':=x.cm;have f':=x.tm;obtain P|a|C|a4:=s.ne;have d':∀p∈out++[s!"UNIVERSAL"],p∈dJ:=by
  intro p hp;rcases eE.mp hp with h|h
  .exact L.sub p h
  .simp at h;rw[h];exact r
 have jg:∀H',(∀l,l<E->l≠A->l≠t->H' l=H1 l)->jF H' E N gl es gen pf cf dJ:=by intro H' h;have:=s.N H' (λ l h1 h2 I=>by rw[h l ((sW h1 f)) h2 I,D l h1]);exact this.bg (bK.refl _ _) f
 refine sC (RO (d:=d+2) b'.hS (λ p hp=>⟨(b'.hp p (d' p hp)).1,(b'.hp p (d' p hp)).2.2.2⟩) g3 g2 (by simp;exact Y1 w) k (λ l o h=>by obtain j1|j2|j3|j4:=b l o h;exact xp (sW j1 f) ((D l j1).trans j2) j3 j4) L.key Q ⟨P,a,C,a4,(ug e' g1),(ug f' g1)⟩ (λ p hp H' h=>((jg H' h).hp p (d' p hp)).2.2.2) (λ H' h=>(jg H' h).hS)) ag ?_;rintro v H2 e ⟨z,f1,f2,y,t',es',f3,f4,f5⟩;have hF:Found S H n cf ks A t gen H2 e:=by
  refine⟨(wW f f1),λ l h1 h2 I=>by rw[f2 l ((sW h1 f)) h2 I,D l h1],y,t',es',f3,?_,?_⟩
  .rcases f4 with h|h
   .exact .inl h
   .exact .inr ((wW f h))
  .rcases f5 with h|⟨l,o,h1,h2,I⟩
   .exact .inl h
   .exact .inr ⟨l,o,(wW f h1),h2,I⟩
 cases hs:ch cf (out++[s!"UNIVERSAL"])with
 |none=>rw[hs]at z;have:v=.none:=z;subst this;exact sQ (.ret .none) ag Y ⟨Y,hF⟩
 |some q=>obtain c|p:=q;rw[hs]at z;obtain l|rfl|q0|m|X:=z;refine fB (i:=0) (v:=↥c) X Y ag ?_;exact sQ (.ret ↥c) ag Y ⟨Y,hF⟩
theorem r6{N gl A t th:J}{cf:af->Option J}{ks:List aJ}
 {num aC:Int}(ht:H th=U (TO num aC (.str B) wk ds fr r))
 (hS:jF H n N gl es gen pf cf dJ)(q:Apart H n N gl es gen pf cf dJ A t)(x:Cache S H n cf ks A t g f)(b:∀l o,S l=U o->l<n/\H l=U o/\l≠A/\l≠t)(Q:ks.length<=100)
 (hd:B∈dJ)(p:s!"UNIVERSAL"∈dJ)(w:pf s!"UNIVERSAL"=[])(L:uX pf dJ ks B out):
 ba (d+7) #[378] [↥N,↥A,↥th] H n λ v H' n'=>v=Iu ((ch cf (out++[s!"UNIVERSAL"])).map (·.1))/\Found S H n cf ks A t gen H' n':=by
 refine aE TG (aP ?_);refine cH ht (AH ..) ag (cH ht (AH ..) ag ?_);exact sC (tf (d:=d) hS q x b Q hd p w L) ag λ v H1 E h=>sQ (.ret v) ag Y h
end
set_option genInjectivity true in
set_option genCtorIdx true in
inductive Tag where
 |heap|zero|b9|ax|cb|bw|bO|aV|bh|bu|cache|dQ
 |aD (k:Nat)|items (k:Nat)|aU (j:Nat)
 deriving DecidableEq
structure W(S:Hp)(L:Tag->J)(C:Tag->Option O)(H:Hp)(n:J):Prop where
 N:∀l o,S l=U o->l<n/\H l=U o
 dy:∀t o,C t=U o->L t<n/\H (L t)=U o
 sd:∀l o t o',S l=U o->C t=U o'->l≠L t
 inj:∀t u o o',C t=U o->C u=U o'->L t=L u->t=u
section
variable{S:Hp}{L:Tag->J}{C:Tag->Option O}{H H':Hp}{n n':J}
theorem W.put(w:W S L C H n){t:Tag}{o0:O}(o:O)(h:C t=U o0):W S L (ah C t (U o)) (ah H (L t) (U o)) n:=by
 have x:∀I o',ah C t (U o) I=U o'->∃r,C I=U r:=by
  intro I o' p;by_cases e:I=t
  .obtain rfl:=e.symm;exact⟨_,h⟩
  .rw[ae e]at p;exact⟨_,p⟩
 refine⟨λ l r g=>?_,λ I r p=>?_,λ l r I B g p=>?_,λ I v r B p z e=>?_⟩
 .rw[ae (w.sd l r t o0 g h)];exact w.N l r g
 .by_cases e:I=t
  .obtain rfl:=e.symm;rw[aa]at p⊢;cases p;exact⟨(w.dy _ _ h).1,Y⟩
  .rw[ae e]at p;rw[cx]
   .exact w.dy I r p
   .intro e';exact e (w.inj _ _ _ _ p h e')
 .obtain q|m:=x I B p;exact w.sd l r I q g m
 .obtain q|m:=x I r p;obtain s|D:=x v B z;exact w.inj _ _ _ _ m D e
theorem W.bg(w:W S L C H n)(k:bK n H H')(hn:n<=n'):W S L C H' n':=by
 refine⟨λ l o g=>?_,λ t o ht=>?_,w.sd,w.inj⟩
 .have:=w.N l o g;exact⟨(EJ this hn),k.at this.1 this.2⟩
 .have:=w.dy t o ht;exact⟨(EJ this hn),k.at this.1 this.2⟩
theorem W.new(w:W S L C H n){l:J}(o:O)(h1:n<=l)(h2:l<n'):W (ah S l (U o)) L C (ah H l (U o)) n':=by
 have hS:S l=F:=by
  cases h:S l with
  |none=>rfl
  |some r=>have:=(w.N l r h).1;exact N2 this h1
 refine⟨λ x r g=>?_,λ t r ht=>?_,λ x r t B g ht=>?_,w.inj⟩
 .by_cases e:x=l
  .obtain rfl:=e.symm;rw[aa]at g⊢;exact⟨h2,g⟩
  .rw[ae e]at g⊢;have:=w.N x r g;exact⟨(LY h2 this h1),this.2⟩
 .have:=w.dy t r ht;rw[ae ((QC this h1))];exact⟨(LY h2 this h1),this.2⟩
 .by_cases e:x=l
  .obtain rfl:=e.symm;have:=(w.dy t B ht).1;exact Qx this h1
  .rw[ae e]at g;exact w.sd x r t B g ht
theorem W.move(w:W S L C H n){l:J}(t:Tag)(o:O)(h1:n<=l)(h2:l<n'):W S (ah L t l) (ah C t (U o)) (ah H l (U o)) n':=by
 refine⟨λ x r g=>?_,λ I r p=>?_,λ x r I B g p=>?_,λ I v r B p z e=>?_⟩
 .have:=w.N x r g;rw[ae ((QC this h1))];exact⟨(LY h2 this h1),this.2⟩
 .by_cases e:I=t
  .obtain rfl:=e.symm;rw[aa]at p⊢;rw[aa];exact⟨h2,p⟩
  .rw[ae e]at p⊢;have:=w.dy I r p;rw[ae ((QC this h1))];exact⟨(LY h2 this h1),this.2⟩
 .have:=(w.N x r g).1;by_cases e:I=t
  .obtain rfl:=e.symm;rw[aa];exact ug this h1
  .rw[ae e]at p⊢;exact w.sd x r I B g p
 .by_cases a:I=t
  .by_cases i:v=t
   .rw[a,i]
   .rw[ae i]at z e;rw[a,aa]at e;have:=(w.dy v B z).1;exact TA this h1 e
  .by_cases i:v=t
   .rw[ae a]at p e;rw[i,aa]at e;have:=(w.dy I r p).1;exact Z0 this e h1
   .rw[ae a]at p e;rw[ae i]at z e;exact w.inj _ _ _ _ p z e
theorem W.ne(w:W S L C H n){t I:Tag}{o o':O}(ht:C t=U o)(p:C I=U o')(h:t≠I):L t≠L I:=λ e=>h (w.inj _ _ _ _ ht p e)
end
structure Th where
 hs:Bool
 num:Int
 aC:Int
 bl:V
 ds:Bool
 fr:Bool
 ps:List J
 ks:List af
structure Sc where
 num:Int
 aC:Int
 fr:Bool
 val:Option J
set_option genCtorIdx true in
inductive Z where
 |t (k:Nat)|s (j:Nat)
structure Co where
 last:Int
 zero:List Z
 nt:J
 th:J->Th
 ns:J
 sc:J->Sc
 ax:List (J×J)
 b9:Int
 av:List J
 bA:List (Option J)
 cO:List (List J)
 dH:List J
structure Pt where
 L:Tag->J
 ir:J->J
 iu:J->J
 rl:J->J
 cl:List J
 dZ:J
 bA:List J
 cg:Int
 ct:List (aJ×V)
structure Fx where
 lim:V
 aC:J
 eP:J
 Fs:J
 par:J
 ends:J
 L:Tag->J
 cf:af->Option J
 ks:List aJ
noncomputable def Tag.fixed:Tag->bG
 |.heap|.b9|.ax|.cb|.bw|.bO|.aV|.bh|.bu|.cache=>ai
 |.aU j=>decide (j<3)
 |_=>aj
noncomputable def Z.tag:Z->Tag
 |.t k=>.aD k
 |.s j=>.aU j
noncomputable def fM:Option J->V
 |none=>.none
 |some k=>.int k
noncomputable def aY(l:List J):List V:=l.map λ(k:J)=>V.int k
noncomputable def Th.rest(t:Th)(it:J):Rest:=if t.hs then .BD it else .arr it
noncomputable def Th.items(t:Th)(L:Tag->J):O:=if t.hs then .dict (List.zip (t.ks.map aJ.str) (t.ps.map λ j=>V.ref (L (.aU j))))else⇑(t.ps.map λ j=>V.ref (L (.aU j)))
noncomputable def Th.obj(t:Th)(wk it:J):O:=TO t.num t.aC t.bl wk t.ds t.fr (t.rest it)
noncomputable def Sc.v(s:Sc)(rl:J):V:=match s.val with
 |none=>.none
 |some _=>↥rl
noncomputable def Sc.obj(s:Sc)(wk rl:J):O:=TO s.num s.aC .none wk aj s.fr (.nR (s.v rl))
noncomputable def numsOf(D:Co):List (aJ×V):=(fp D.nt).map λ k=>(aJ.int (D.th k).num,V.int k)
noncomputable def cont(X:Fx)(D:Co)(P:Pt):Tag->Option O
 |.heap=>U (aX X.lim D.last (P.L .zero))
 |.zero=>U ⇑(D.zero.map λ z=>↥(P.L z.tag))
 |.b9=>U ⇑[.int D.b9]
 |.ax=>U ⇑(P.cl.map .ref)
 |.cb=>U (.dict (numsOf D))
 |.bw=>U ⇑((fp D.nt).map λ k=>↥(P.L (.aD k)))
 |.bO=>U (.dict [(.str "alive",↥P.dZ),(.str "places",↥(P.L .aV)),(.str "parts",↥(P.L .bh)),(.str "class",↥(P.L .bu)),(.str "parents",↥X.par),(.str "ends",↥X.ends)])
 |.aV=>U ⇑(D.bA.map fM)
 |.bh=>U ⇑(P.bA.map .ref)
 |.bu=>U ⇑(aY D.dH)
 |.cache=>U (gf P.cg (P.L .dQ))
 |.dQ=>U (.dict P.ct)
 |.aD k=>if k<D.nt then U ((D.th k).obj (P.ir k) (P.L (.items k)))else F
 |.items k=>if k<D.nt then U ((D.th k).items P.L)else F
 |.aU j=>if j<D.ns then U ((D.sc j).obj (P.iu j) (P.rl j))else F
def dO{α β:Type}(p:α->β->be):List α->List β->be
 |[],[]=>True
 |a::r,b::j=>p a b/\dO p r j
 |_,_=>False
section
variable{α β:Type}{p q:α->β->Prop}{as:List α}{bs:List β}
@[elab_as_elim] theorem dO.ind {C:List α->List β->be} (a:dO p as bs) (h0:C [] []) (h1:∀a as b bs,p a b->dO p as bs->C as bs->C (a::as) (b::bs)):C as bs:=by
 induction as generalizing bs with
 |nil=>cases bs with
  |nil=>exact h0
  |cons=>exact a.elim
 |cons x as ih=>cases bs with
  |nil=>exact a.elim
  |cons y bs=>exact h1 x as y bs a.1 a.2 (ih a.2)
theorem dO.imp(h:∀a b,p a b->q a b)(a:dO p as bs):dO q as bs:=dO.ind a trivial λ a _ b _ x _ X=>⟨h a b x,X⟩
theorem dO.length(a:dO p as bs):as.length=bs.length:=dO.ind a Y λ _ _ _ _ _ _ X=>congrArg wE X
theorem dO.snoc{a:α}{b:β}(h:p a b)(x:dO p as bs):dO p (as++[a]) (bs++[b]):=dO.ind x ⟨h,trivial⟩ λ _ _ _ _ h _ X=>⟨h,X⟩
theorem dO.set{i:J}{a:α}{b:β}(h:p a b)(x:dO p as bs):dO p (as.set i a) (bs.set i b):=by
 revert i;exact dO.ind (C:=λ as bs=>∀{i},dO p (as.set i a) (bs.set i b)) x trivial λ _ _ _ _ h' x X i=>by
  cases i with
  |zero=>exact⟨h,x⟩
  |succ i=>exact⟨h',X⟩
theorem dO.drop(i:J)(x:dO p as bs):dO p (as.drop i) (bs.drop i):=by
 revert i;exact dO.ind (C:=λ as bs=>∀i,dO p (as.drop i) (bs.drop i)) x (λ i=>by cases i<;>exact trivial) λ _ _ _ _ h x X i=>by
  cases i with
  |zero=>exact⟨h,x⟩
  |succ i=>exact X i
theorem dO.get{i:J}{b:β}(x:dO p as bs)(h:bs[i]?=U b):∃a,as[i]?=U a/\p a b:=by
 revert i;exact dO.ind (C:=λ as bs=>∀{i},bs[i]?=U b->∃a,as[i]?=U a/\p a b) x (λ h=>by rw[JH]at h;cases h) λ a _ H _ h' _ X i h=>by
  cases i with
  |zero=>cases(dT h);exact cC a Y h'
  |succ i=>exact X (i:=i) h
end
def ij(S:Hp)(ls:List J)(cs:List (J×J)):be:=dO (λ l c=>S l=U (.tup [.int c.1,.int c.2])) ls cs
def nM(S:Hp)(ls:List J)(cs:List (List J)):be:=dO (λ l c=>S l=U ⇑(aY c)) ls cs
def vZ(S:Hp)(o:Option (J×af))(v:V):be:=match o with
 |none=>v=.none
 |some (c,p)=>∃l:J,v=.ref l/\S l=U (.tup [↥c,.str p])
structure qr(X:Fx)(P:Pt)(S:Hp):Prop where
 kt:∀e∈P.ct,e.1.isTup=ai
 nd:(P.ct.map (·.1)).Nodup
 sub:∀e∈P.ct,e.1∈X.ks
 ok:∀ss v,(aJ.tup s!"DESTROY" ss,v)∈P.ct->vZ S (ch X.cf ss) v
structure Wd(X:Fx)(D:Co)(P:Pt)(S:Hp)(H:Hp)(n:J):Prop where
 w:W S P.L (cont X D P) H n
 aC:S X.aC=U (bq (P.L .heap) X.Fs X.eP)
 eP:S X.eP=U (.dict [])
 ir:∀k,k<D.nt->S (P.ir k)=U (.list [])
 iu:∀j,j<D.ns->S (P.iu j)=U (.list [])
 ref:∀j,j<D.ns->∀k,(D.sc j).val=U k->S (P.rl j)=U (eQ (.ref (P.L (.aD k))) aj)/\k<D.nt
 ax:ij S P.cl D.ax
 dZ:S P.dZ=U (.list (aY D.av))
 cO:nM S P.bA D.cO
 fix:∀t,t.fixed=ai->P.L t=X.L t
 ck:qr X P S
def Ge(S y:Hp):be:=∀l o,S l=U o->y l=U o
theorem Ge.refl(S:Hp):Ge S S:=λ _ _ h=>h
theorem Ge.trans{S y s:Hp}(h:Ge S y)(h':Ge y s):Ge S s:=λ l o e=>h' l o (h l o e)
theorem W.ge(w:W S L C H n)(o:O)(h1:n<=l):Ge S (ah S l (U o)):=by intro x o' g;have:=(w.N x o' g).1;rw[ae ((ug this h1))];exact g
theorem ij.ge(g:Ge S y)(a:ij S ls cs):ij y ls cs:=dO.imp (λ _ _ h=>g _ _ h) a
theorem nM.ge(g:Ge S y)(a:nM S ls cs):nM y ls cs:=dO.imp (λ _ _ h=>g _ _ h) a
theorem vZ.ge(g:Ge S y){v:V}(h:vZ S o v):vZ y o v:=by
 cases o with
 |none=>exact h
 |some q=>obtain l|e|h:=h;exact⟨l,e,g _ _ h⟩
theorem qr.ge(g:Ge S y)(h:qr X P S):qr X P y:=⟨h.kt,h.nd,h.sub,λ b v z=>(h.ok b v z).ge g⟩
section
variable{X:Fx}{D:Co}{P:Pt}{S H H':Hp}{n n':J}
theorem Wd.bg(w:Wd X D P S H n)(k:bK n H H')(hn:n<=n'):Wd X D P S H' n':=
 ⟨w.w.bg k hn,w.aC,w.eP,w.ir,w.iu,w.ref,w.ax,w.dZ,w.cO,w.fix,w.ck⟩
theorem Wd.new(w:Wd X D P S H n){l:J}(o:O)(h1:n<=l)(h2:l<n'):Wd X D P (ah S l (U o)) (ah H l (U o)) n':=
 have g:=w.w.ge o h1
 ⟨w.w.new o h1 h2,g _ _ w.aC,g _ _ w.eP,λ k C=>g _ _ (w.ir k C),λ k C=>g _ _ (w.iu k C),λ j E k C=>⟨g _ _ (w.ref j E k C).1,(w.ref j E k C).2⟩,w.ax.ge g,g _ _ w.dZ,w.cO.ge g,w.fix,w.ck.ge g⟩
theorem M6{t:Th}(C:k<D.nt)(h1:t.hs=(D.th k).hs)(h2:t.ps=(D.th k).ps)(m:t.ks=(D.th k).ks)(i:t.num=(D.th k).num):
 cont X {D with th:=ah D.th k t} {P with ir:=ah P.ir k wk}=ah (cont X D P) (.aD k) (U (t.obj wk (P.L (.items k)))):=by
 funext I;cases I with
 |aD g=>
  by_cases e:g=k
  .obtain rfl:=e.symm;simp[cont,ah,C]
  .simp[cont,ah,e]
 |items g=>
  by_cases e:g=k
  .obtain rfl:=e.symm;simp[cont,ah,C,Th.items,h1,h2,m]
  .simp[cont,ah,e]
 |cb=>
  simp only[cont,ah,numsOf,reduceCtorEq,if_false];congr 2;apply ef;intro x _;by_cases e:x=k
  .obtain rfl:=e.symm;simp[i]
  .simp[e]
 |_=>kernel_rfl
theorem N3(E:j<D.ns):
 cont X {D with sc:=ah D.sc j t} {P with iu:=ah P.iu j wk,rl:=ah P.rl j rl}=ah (cont X D P) (.aU j) (U (t.obj wk rl)):=by
 funext I;cases I with
 |aU b=>
  by_cases e:b=j
  .obtain rfl:=e.symm;simp[cont,ah,E]
  .simp[cont,ah,e]
 |_=>kernel_rfl
theorem Fg:cont X {D with zero:=zs} P=ah (cont X D P) .zero (U ⇑(zs.map λ z=>↥(P.L z.tag))):=by funext I;cases I<;>simp[cont,ah,numsOf]
theorem Wd.aD(w:Wd X D P S H n)(C:k<D.nt):H (P.L (.aD k))=U ((D.th k).obj (P.ir k) (P.L (.items k))):=
 (w.w.dy (.aD k) _ (if_pos C)).2
theorem Wd.items(w:Wd X D P S H n){k:J}(C:k<D.nt):H (P.L (.items k))=U ((D.th k).items P.L):=
 (w.w.dy (.items k) _ (if_pos C)).2
theorem Wd.aU(w:Wd X D P S H n)(E:j<D.ns):H (P.L (.aU j))=U ((D.sc j).obj (P.iu j) (P.rl j)):=
 (w.w.dy (.aU j) _ (if_pos E)).2
theorem Wd.heap(w:Wd X D P S H n):H (P.L .heap)=U (aX X.lim D.last (P.L .zero)):=(w.w.dy .heap _ Y).2
theorem Wd.zero(w:Wd X D P S H n):H (P.L .zero)=U ⇑(D.zero.map λ z=>↥(P.L z.tag)):=(w.w.dy .zero _ Y).2
theorem Wd.jh(w:Wd X D P S H n):H X.aC=U (bq (P.L .heap) X.Fs X.eP):=(w.w.N _ _ w.aC).2
theorem Wd.RK(w:Wd X D P S H n):H X.eP=U (.dict []):=(w.w.N _ _ w.eP).2
theorem Wd.zj(w:Wd X D P S H n)(C:k<D.nt):∃o,cont X D P (.aD k)=U o:=⟨_,if_pos C⟩
theorem Wd.DI(w:Wd X D P S H n)(E:j<D.ns):∃o,cont X D P (.aU j)=U o:=⟨_,if_pos E⟩
theorem Wd.tit(w:Wd X D P S H n)(C:k<D.nt):∃o,cont X D P (.items k)=U o:=⟨_,if_pos C⟩
theorem Wd.Pj(w:Wd X D P S H n)(C:k<D.nt){t:Th}(h1:t.hs=(D.th k).hs)(h2:t.ps=(D.th k).ps)(I:t.ks=(D.th k).ks)(i:t.num=(D.th k).num)(p:S wk=U ⇑[]):
 Wd X {D with th:=ah D.th k t} {P with ir:=ah P.ir k wk} S (ah H (P.L (.aD k)) (U (t.obj wk (P.L (.items k))))) n:=by
 obtain o|f:=w.zj C;have h:=w.w.put (t.obj wk (P.L (.items k))) f;rw[<-M6 C h1 h2 I i]at h;refine⟨h,w.aC,w.eP,λ g a=>?_,w.iu,w.ref,w.ax,w.dZ,w.cO,w.fix,⟨w.ck.kt,w.ck.nd,w.ck.sub,w.ck.ok⟩⟩;by_cases e:g=k
 .obtain rfl:=e.symm;show S (ah P.ir k wk k)=_;rw[aa];exact p
 .show S (ah P.ir k wk g)=_;rw[ae e];exact w.ir g a
theorem Wd.ff(w:Wd X D P S H n)(C:k<D.nt){t:Th}(h1:t.hs=(D.th k).hs)(h2:t.ps=(D.th k).ps)(I:t.ks=(D.th k).ks)(i:t.num=(D.th k).num):
 Wd X {D with th:=ah D.th k t} P S (ah H (P.L (.aD k)) (U (t.obj (P.ir k) (P.L (.items k))))) n:=by
 have:=w.Pj C h1 h2 I i (w.ir k C);rw[cu]at this;exact this
theorem Wd.Dg(w:Wd X D P S H n)(E:j<D.ns){t:Sc}(p:S wk=U ⇑[])(q:∀k,t.val=U k->S rl=U (eQ ↥(P.L (.aD k)) aj)/\k<D.nt):
 Wd X {D with sc:=ah D.sc j t} {P with iu:=ah P.iu j wk,rl:=ah P.rl j rl} S (ah H (P.L (.aU j)) (U (t.obj wk rl))) n:=by
 obtain o|f:=w.DI E;have h:=w.w.put (t.obj wk rl) f;rw[<-N3 E]at h;refine⟨h,w.aC,w.eP,w.ir,λ b B=>?_,λ b B=>?_,w.ax,w.dZ,w.cO,w.fix,⟨w.ck.kt,w.ck.nd,w.ck.sub,w.ck.ok⟩⟩
 .by_cases e:b=j
  .obtain rfl:=e.symm;show S (ah P.iu j wk j)=_;rw[aa];exact p
  .show S (ah P.iu j wk b)=_;rw[ae e];exact w.iu b B
 .by_cases e:b=j
  .obtain rfl:=e.symm;intro k;show(ah D.sc j t j).val=_->S (ah P.rl j rl j)=_/\_;rw[aa,aa];exact q k
  .intro k;show(ah D.sc j t b).val=_->S (ah P.rl j rl b)=_/\_;rw[ae e,ae e];exact w.ref b B k
theorem Wd.jc(w:Wd X D P S H n)(E:j<D.ns){t:Sc}(q:t.val=(D.sc j).val):
 Wd X {D with sc:=ah D.sc j t} P S (ah H (P.L (.aU j)) (U (t.obj (P.iu j) (P.rl j)))) n:=by
 have:=w.Dg E (t:=t) (w.iu j E) (λ k C=>w.ref j E k (q▸C));rw[cu,cu]at this;exact this
theorem Wd.Ij(w:Wd X D P S H n)(zs:List Z):Wd X {D with zero:=zs} P S (ah H (P.L .zero) (U ⇑(zs.map λ z=>↥(P.L z.tag)))) n:=by have h:=w.w.put (t:=.zero) ⇑(zs.map λ z=>↥(P.L z.tag)) Y;rw[<-Fg]at h;exact⟨h,w.aC,w.eP,w.ir,w.iu,w.ref,w.ax,w.dZ,w.cO,w.fix,w.ck⟩
theorem Wd.ne(w:Wd X D P S H n){t I:Tag}(ht:∃o,cont X D P t=U o)(p:∃o,cont X D P I=U o)(h:t≠I):P.L t≠P.L I:=by obtain o|f:=ht;obtain o'|j:=p;exact w.w.ne f j h
theorem Wd.lt(w:Wd X D P S H n){t:Tag}(ht:∃o,cont X D P t=U o):P.L t<n:=by obtain o|f:=ht;exact(w.w.dy t o f).1
theorem Wd.qt(w:Wd X D P S H n){l:J}{o:O}{t:Tag}(L:S l=U o)(ht:∃o,cont X D P t=U o):l≠P.L t:=by obtain o'|f:=ht;exact w.w.sd _ _ _ _ L f
end
def fw(P B:Pt):be:=(∀k,B.L (.aD k)=P.L (.aD k))/\∀j,B.L (.aU j)=P.L (.aU j)
theorem fw.refl(P:Pt):fw P P:=⟨λ _=>rfl,λ _=>rfl⟩
theorem fw.trans{P B p:Pt}(h:fw P B)(h':fw B p):fw P p:=⟨λ k=>(h'.1 k).trans (h.1 k),λ k=>(h'.2 k).trans (h.2 k)⟩
theorem fw.tag{P B:Pt}(h:fw P B)(z:Z):B.L z.tag=P.L z.tag:=by
 cases z with
 |t k=>exact h.1 k
 |s j=>exact h.2 j
section
open Tr
noncomputable def Co.goT(D:Co)(k:J):Co:={D with th:=ah D.th k {D.th k with aC:=(D.th k).aC -1},zero:=if(D.th k).aC -1=0 then D.zero++[.t k]else D.zero}
noncomputable def Co.yQ(D:Co)(j:J):Co:={D with sc:=ah D.sc j {D.sc j with aC:=(D.sc j).aC -1},zero:=if(D.sc j).aC -1=0 then D.zero++[.s j]else D.zero}
noncomputable def Co.mV(D:Co)(k:J):Co:={D with th:=ah D.th k {D.th k with aC:=(D.th k).aC+1}}
section
variable{X:Fx}{D:Co}{P:Pt}{S H:Hp}{n d:J}
theorem xY(w:Wd X D P S H n)(E:j<D.ns)(m:D.zero.length<=1000):
 ba (d+1) #[423] [↥X.aC,↥(P.L (.aU j))] H n λ v H' n'=>v=.none/\n'=n/\Wd X (D.yQ j) P S H' n:=by
 have ht:=w.aU E;refine(ym ht w.jh w.heap w.zero (by simpa using m) (w.qt w.aC (w.DI E)) (w.ne ⟨_,Y⟩ (w.DI E) (by simp)) (w.ne ⟨_,Y⟩ (w.DI E) (by simp))).weak ?_;rintro _ _ _ ⟨rfl,rfl,rfl⟩;refine cY Y Y ?_;have h1:=w.jc E (t:={D.sc j with aC:=(D.sc j).aC -1}) Y;unfold Co.yQ;by_cases h:(D.sc j).aC -1=0
 .rw[if_pos h,if_pos h];have h2:=h1.Ij (D.zero++[.s j]);simpa[Z.tag,Sc.obj,Sc.v]using h2
 .rw[if_neg h,if_neg h];exact h1
end
section
variable{H:Hp}{n d:J}
theorem oy{cs:List (af×J)}{l:J}{xs:List V}{u:Lc}{n0:J}{H0:Hp}(g:∀v∈xs,∃l,v=↥l)(L:H l=U ⇑xs)(w:xs.length<=1000)(h1:u s!"held"=U ↥l)(S:bK n0 H0 H)(hn:n0<=n):
 Ends (ay G (aq G d) cs (EE.drop 1) ⟨u,H,n⟩) (ji 0 H0 n0 xs):=by
 refine Cu (Told.cons h1 .nil).lay (Tp (cf:=aq G d) (cs:=cs) (elt:=.loc "one") (x:=s!"one") (ifs:=[.cmp .fj (.loc "one") (.lit .none)]) L (λ v=>U v) w (ys:=xs) List.filterMap_some (λ v z u C q=>?_) ag (sQ (.ret ↥n) ag Y ⟨n,Y,hn,cQ _,aa ..,S.ah hn,mF hn⟩));obtain Q|rfl:=g v z;exact Lo q
theorem G6{xs:List V}{num aC:Int}(g:∀v∈xs,∃l,v=↥l)(ht:H t=U (TO num aC bl wk ds fr (.arr it)))(hi:H it=U ⇑xs)(w:xs.length<=1000)(h1:t<n)(h2:it<n):
 ba (d+1) #[383] [↥t] H n (ji 0 H n xs):=by
 refine vL _ (aP ?_);have f:=(cx (a:=n) H (U (O.cell (U (V.ref t)))) (bX h1)).trans ht;exact sL (cs:=[("thing",n)]) (x:=s!"thing") (aa ..) ag ag (pU (cf:=aq G d) (c:=85) (b:=ai) f ag ag (sL (cs:=[("thing",n)]) (x:=s!"thing") (aa ..) ag ag (cH f (kM ..) ag
  (vD (cs:=[("thing",n)]) (b:=EE.drop 1) (u:=ah (λ _=>F) s!"held" (U ↥it)) (oy (n:=n+1) (d:=d) (n0:=n) (H0:=H) g ((ae (bX h2)).trans hi) w (aa ..) ((bK.refl _ _).ah (aS _)) sV) (λ _ _ _ q=>q)))))
theorem FP{v:V}{num aC:Int}(ht:H t=U (TO num aC bl wk ds fr (.nR v)))(h1:t<n):
 ba (d+1) #[383] [↥t] H n (ji 0 H n []):=by
 refine vL _ (aP ?_);have f:=(cx (a:=n) H (U (O.cell (U (V.ref t)))) (bX h1)).trans ht;exact sL (cs:=[("thing",n)]) (x:=s!"thing") (aa ..) ag ag (pU (cf:=aq G d) (c:=85) (b:=aj) f ag ag (sL (cs:=[("thing",n)]) (x:=s!"thing") (aa ..) ag ag (pU (cf:=aq G d) (c:=104) (b:=aj) f ag ag
  (sL (cs:=[("thing",n)]) (x:=s!"thing") (aa ..) ag ag (pU (cf:=aq G d) (c:=123) (b:=aj) f ag ag (sL (cs:=[("thing",n)]) (x:=s!"thing") (aa ..) ag ag (pU (cf:=aq G d) (c:=142) (b:=aj) f ag ag
  (sN [] (cG _) ag (vD (cs:=[("thing",n)]) (b:=EE.drop 1) (u:=ah (λ _=>F) s!"held" (U ↥(n+1))) (oy (n:=n+2) (d:=d) (n0:=n) (H0:=H) (λ v h=>absurd h eI) (aa ..) (cG _) (aa ..) (((bK.refl _ _).ah (aS _)).ah sV) Cr) (λ _ _ _ q=>q))))))))))
theorem zP(f:af->M V)(u:Lc)(es:List (aJ×V))(ks:List af)(C:es.map (·.1)=ks.map .str)(h:∀k v,(aJ.str k,v)∈es->f k ⟨u,H,n⟩=U (v,⟨u,H,n⟩)):
 lD f ks ⟨u,H,n⟩=U (es.map (·.2),⟨u,H,n⟩):=by
 induction ks generalizing es with
 |nil=>cases es with
  |nil=>rfl
  |cons=>cases C
 |cons k ks X=>cases es with
  |nil=>cases C
  |cons e es=>obtain g|v:=e;simp only[bW,qx]at C;obtain rfl|C:=C;simp only[Ck,fa,h k v (by simp),bH,eM,X es C (λ k v z=>h k v (by simp[z])),md,bW]
theorem oG{es:List (aJ×V)}(hn:(es.map (·.1)).Nodup){v:V}(h:(k,v)∈es):atK es k=U v:=by
 induction es with
 |nil=>cases h
 |cons e r X=>
  obtain g|D:=e;simp only[bW,ku]at hn;unfold atK;rw[im];by_cases C:g=k
  .obtain rfl:=C.symm;simp only[decide_true,pC];cases h with
   |head=>rfl
   |tail _ h=>exact absurd (bI.mpr ⟨_,h,Y⟩) hn.1
  .simp only[C,decide_false];have h':(k,v)∈r:=by
    cases h with
    |head=>exact absurd Y C
    |tail _ h=>exact h
   exact X hn.2 h'
theorem Ef{es:List (aJ×V)}{ks:List af}(C:es.map (·.1)=ks.map .str)(w:es.length<=1000)(l:H i=U (.dict es))(u:Lc):
 gE ↥i ⟨u,H,n⟩=U (ks,⟨u,H,n⟩):=by
 have h1:es.all (λ e=>e.1.isStr)=ai:=by rw[dE];intro e P;have:e.1∈es.map (·.1):=bI.mpr ⟨e,P,Y⟩;rw[C]at this;obtain s|_|hs:=bI.mp this;rw[<-hs];rfl
 have h2:(es.filterMap λ e=>e.1.Ff)=ks:=by
  clear w l h1
  induction ks generalizing es with
  |nil=>cases es with
   |nil=>rfl
   |cons=>cases C
  |cons k ks X=>cases es with
   |nil=>cases C
   |cons e es=>obtain g|v:=e;simp only[bW,qx]at C;obtain rfl|C:=C;show _::es.filterMap (λ e=>e.1.Ff)=_;rw[X C]
 show((H i).bind Ph).bind _=_;rw[l];show(if _ then _ else _:Option (List af)).bind _=_;rw[if_pos ⟨h1,w⟩,h2];rfl
theorem H7{t i:J}{es:List (aJ×V)}{ks:List af}{num aC:Int}{bl:V}{wk:J}{ds fr:bG}(g:∀v∈es.map (·.2),∃l,v=↥l)(C:es.map (·.1)=ks.map .str)(hn:ks.Nodup)(ht:H t=U (TO num aC bl wk ds fr (.BD i)))(hi:H i=U (.dict es))(w:es.length<=1000)(h1:t<n)(h2:i<n):
 ba (d+1) #[383] [↥t] H n (ji 0 H n (es.map (·.2))):=by
 refine vL _ (aP ?_);have Q:∀e∈es,e.1.isStr=ai:=by intro e P;have:e.1∈es.map (·.1):=bI.mpr ⟨e,P,Y⟩;rw[C]at this;obtain s|_|hs:=bI.mp this;rw[<-hs];rfl
 have o:(es.map (·.1)).Nodup:=by rw[C];exact List.Pairwise.map _ (λ a b h e=>h (by cases e;rfl)) hn
 have f:=(cx (a:=n) H (U (O.cell (U (V.ref t)))) (bX h1)).trans ht;have D:=(cx (a:=n) H (U (O.cell (U (V.ref t)))) (bX h2)).trans hi;refine sL (cs:=[("thing",n)]) (x:=s!"thing") (aa ..) ag ag (pU (cf:=aq G d) (c:=85) (b:=aj) f ag ag (sL (cs:=[("thing",n)]) (x:=s!"thing") (aa ..) ag ag (pU (cf:=aq G d) (c:=104) (b:=ai) f ag ag
  (sL (cs:=[("thing",n)]) (x:=s!"thing") (aa ..) ag ag (cH f (mW ..) ag (sM (m:=aI (gE ↥i) λ ks=>CS G [("thing",n)] s!"thing" s!"table" ks) (v:=↥(n+1)) (H':=ah (ah H n (U (O.cell (U (V.ref t))))) (n+1) (U ⇑(es.map (·.2)))) (n':=n+2) (λ u=>?_) ag
  (vD (cs:=[("thing",n)]) (b:=EE.drop 1) (u:=ah (λ _=>F) s!"held" (U ↥(n+1))) (oy (n:=n+2) (d:=d) (n0:=n) (H0:=H) g (aa ..) (by rw[bS];exact w) (aa ..) (((bK.refl _ _).ah (aS _)).ah sV) Cr) (λ _ _ _ q=>q))))))))
 show(gE ↥i ⟨u,_,_⟩).bind _=_;rw[Ef C w D];show(lD _ ks _).bind _=_;rewrite[zP _ u es ks C λ k v z=>?_]
 .rfl
 .show((((ah H n (U (.cell (U ↥t))) n).bind CI).bind _).bind _)=_;rw[aa];show(((ah H n (U (.cell (U ↥t))) t).bind _).bind _).bind _=_;rw[f];show((ah H n (U (.cell (U ↥t))) i).bind _).bind _=_;rw[D];show((if _ then _ else _:Option V)).bind _=_;rw[if_pos (gG Q k),oG o z];rfl
theorem Fb{t it:J}{num aC:Int}{bl:V}{wk:J}{ds fr:bG}(ht:H t=U (TO num aC bl wk ds fr (.arr it)))(h1:t<n):
 ba (d+1) #[390] [↥t] H n (Is .none (ah (ah H n (U ⇑[])) t (U (TO num aC bl wk ds fr (.arr n)))) (n+1)):=
 aE MB (aP (pU (cf:=aq G d) (c:=85) (b:=ai) ht ag ag (sN [] (cG _) ag (my ((ae (bX h1)).trans ht) (Ic ..) ag (sQ .next ag Y ⟨Y,Y,Y⟩)))))
theorem EH{t it:J}{num aC:Int}{bl:V}{wk:J}{ds fr:bG}(ht:H t=U (TO num aC bl wk ds fr (.BD it)))(h1:t<n):
 ba (d+1) #[390] [↥t] H n (Is .none (ah (ah H n (U (.dict []))) t (U (TO num aC bl wk ds fr (.BD n)))) (n+1)):=
 aE MB (aP (pU (cf:=aq G d) (c:=85) (b:=aj) ht ag ag (pU (cf:=aq G d) (c:=104) (b:=ai) ht ag ag (sE ag (my ((ae (bX h1)).trans ht) (Ig ..) ag (my (aa ..) (UA ..) ag (L6 (dk ..) (sQ .next ag Y ⟨Y,Y,Y⟩))))))))
theorem DG{t:J}{v:V}{num aC:Int}{bl:V}{wk:J}{ds fr:bG}(ht:H t=U (TO num aC bl wk ds fr (.nR v))):
 ba (d+1) #[390] [↥t] H n (Is .none H n):=
 aE MB (aP (pU (cf:=aq G d) (c:=85) (b:=aj) ht ag ag (pU (cf:=aq G d) (c:=104) (b:=aj) ht ag ag (pU (cf:=aq G d) (c:=123) (b:=aj) ht ag ag (pU (cf:=aq G d) (c:=142) (b:=aj) ht ag ag
  (sQ .next ag Y ⟨Y,Y,Y⟩))))))
end
end
section
open Tr
noncomputable def Co.lX(D:Co)(l:List J):Co:=l.foldl Co.yQ D
noncomputable def Co.Fi(D:Co)(k:J):Co:={D with th:=ah D.th k {D.th k with ps:=[],ks:=[]}}
noncomputable def Co.iq(D:Co)(k:J):Co:=({D with th:=ah D.th k {D.th k with fr:=ai,ps:=[],ks:=[]}}:Co).lX (D.th k).ps
noncomputable def Co.fI(D:Co)(j:J):Co:=match(D.sc j).val with
 |none=>{D with sc:=ah D.sc j {D.sc j with fr:=ai,val:=F}}
 |some k=>({D with sc:=ah D.sc j {D.sc j with fr:=ai,val:=F}}:Co).goT k
def Th.ok(t:Th):be:=t.hs=ai->t.ks.length=t.ps.length/\t.ks.Nodup
section
variable{X:Fx}{D:Co}{P:Pt}{S H:Hp}{n d:J}
theorem Ly(D:Co)(j:J):(D.yQ j).zero.length<=D.zero.length+1:=by unfold Co.yQ;dsimp only;split<;>simp
theorem MV(D:Co)(l:List J):(D.lX l).ns=D.ns:=by
 unfold Co.lX
 induction l generalizing D with
 |nil=>rfl
 |cons a r X=>rw[qD,X];rfl
theorem Hg(D:Co)(l:List J):(D.lX l).zero.length<=D.zero.length+l.length:=by
 unfold Co.lX
 induction l generalizing D with
 |nil=>simp
 |cons a r X=>rw[qD];have:=X (D.yQ a);have:=Ly D a;simp only[eF];omega
theorem MD{α β:Type}(l:List α)(r:List β)(h:l.length=r.length):(l.zip r).map (·.1)=l:=
 Nf (C:=λ(l:List α)(r:List β)=>(l.zip r).map (·.1)=l) Y (λ a _ _ _ X=>congrArg (a::·) X) h
theorem Ma{α β:Type}(l:List α)(r:List β)(h:l.length=r.length):(l.zip r).map (·.2)=r:=
 Nf (C:=λ(l:List α)(r:List β)=>(l.zip r).map (·.2)=r) Y (λ _ _ b _ X=>congrArg (b::·) X) h
theorem QP(w:Wd X D P S H n){k:J}(C:k<D.nt)(f:(D.th k).ok)(L:(D.th k).ps.length<=1000):
 ba (d+1) #[383] [↥(P.L (.aD k))] H n (ji 0 H n ((D.th k).ps.map λ j=>↥(P.L (.aU j)))):=by
 have ht:=w.aD C;have hi:=w.items C;have h1:=w.lt (w.zj C);have h2:=w.lt (w.tit C);cases l:(D.th k).hs with
 |false=>simp only[Th.obj,Th.rest,l,d0,if_false]at ht;simp only[Th.items,l,d0,if_false]at hi;exact G6 (by intro v z;obtain j|_|rfl:=bI.mp z;exact⟨_,Y⟩) ht hi (by simpa using L) h1 h2
 |true=>
  obtain r|B:=f l;simp only[Th.obj,Th.rest,l,if_true]at ht;simp only[Th.items,l,if_true]at hi;have i:=Ma ((D.th k).ks.map aJ.str) ((D.th k).ps.map λ j=>V.ref (P.L (.aU j))) (by simpa using r);have Q:=MD ((D.th k).ks.map aJ.str) ((D.th k).ps.map λ j=>V.ref (P.L (.aU j))) (by simpa using r);have:=H7 (d:=d) (n:=n) (ks:=(D.th k).ks) (by rw[i];intro v z;obtain j|_|rfl:=bI.mp z;exact⟨_,Y⟩) Q B ht hi (by rw[wo];simp;exact VG L) h1 h2
  rwa [i]at this
theorem Wd.SF(w:Wd X D P S H n)(C:k<D.nt):Wd X (D.Fi k) {P with L:=ah P.L (.items k) n} S
 (ah (ah H n (U (if(D.th k).hs then .dict []else⇑[]))) (P.L (.aD k)) (U ((D.th k).obj (P.ir k) n))) (n+1):=by
 have h1:=w.w.move (n':=n+1) (.items k) (if(D.th k).hs then .dict []else⇑[]) (aS _) (cQ _);have h2:=h1.put (t:=.aD k) ((D.th k).obj (P.ir k) n) (o0:=(D.th k).obj (P.ir k) (P.L (.items k))) (by rw[ae (by simp)];exact if_pos C);rewrite[cx (P.L) _ (by simp)]at h2;have e:cont X (D.Fi k) {P with L:=ah P.L (.items k) n}=ah (ah (cont X D P) (.items k) (U (if(D.th k).hs then .dict []else⇑[]))) (.aD k) (U ((D.th k).obj (P.ir k) n)):=by
  funext I;cases I with
  |aD g=>
   by_cases e:g=k
   .obtain rfl:=e.symm;simp[Co.Fi,cont,ah,C,Th.obj,Th.rest]
   .simp[Co.Fi,cont,ah,e]
  |items g=>
   by_cases e:g=k
   .obtain rfl:=e.symm;simp[Co.Fi,cont,ah,C,Th.items]
   .simp[Co.Fi,cont,ah,e,Th.items]
  |cb=>
   simp only[Co.Fi,cont,ah,numsOf,reduceCtorEq,if_false];congr 2;apply ef;intro x _;by_cases e:x=k
   .obtain rfl:=e.symm;simp
   .simp[e]
  |zero=>simp only[Co.Fi,cont,ah,reduceCtorEq,if_false];congr 2;apply ef;intro z _;cases z<;>simp[Z.tag]
  |aU b=>kernel_rfl
  |_=>simp[Co.Fi,cont,ah]
 rw[<-e]at h2;refine⟨h2,?_,w.eP,λ g a=>w.ir g a,w.iu,λ j E g a=>?_,w.ax,w.dZ,w.cO,λ t ht=>?_,⟨w.ck.kt,w.ck.nd,w.ck.sub,w.ck.ok⟩⟩
 .show S X.aC=U (bq (ah P.L (.items k) n .heap) X.Fs X.eP);exact w.aC
 .show S (P.rl j)=U (eQ ↥(ah P.L (.items k) n (.aD g)) aj)/\_;exact w.ref j E g a
 .show ah P.L (.items k) n t=_;rw[cx]
  .exact w.fix t ht
  .intro e;rw[e]at ht;cases ht
theorem ND(w:Wd X D P S H n)(C:k<D.nt):
 ba (d+1) #[390] [↥(P.L (.aD k))] H n λ v H' n'=>v=.none/\Wd X (D.Fi k) {P with L:=ah P.L (.items k) n} S H' n'/\n<=n':=by
 have ht:=w.aD C;have h1:=w.lt (w.zj C);have c:=w.SF C;cases l:(D.th k).hs with
 |false=>simp only[Th.obj,Th.rest,l,d0,if_false]at ht c;refine(Fb ht h1).weak ?_;rintro _ _ _ ⟨rfl,rfl,rfl⟩;exact cY Y c (b7 _)
 |true=>simp only[Th.obj,Th.rest,l,if_true]at ht c;refine(EH ht h1).weak ?_;rintro _ _ _ ⟨rfl,rfl,rfl⟩;exact cY Y c (b7 _)
theorem QM{a b:Int}{c:V}(h:bG):CC 66 (TO a b c w x y (if h then .BD it else .arr it))=U aj:=by cases h<;>kernel_rfl
theorem uP(w:Wd X D P S H n){l:J}{ps:List J}{cs:List (af×J)}{u:Lc}(L:H l=U ⇑(ps.map λ j=>↥(P.L (.aU j))))(hS:S l=U ⇑(ps.map λ j=>↥(P.L (.aU j))))
 (hp:∀j∈ps,j<D.ns)(m:ps=[]\/D.zero.length+ps.length<=1000)(h1:u s!"gone"=U ↥l)(h2:u s!"self"=U ↥X.aC):
 Ends (ay G (aq G (d+1)) cs (p9.drop 6) ⟨u,H,n⟩) λ v H' n'=>v=.none/\Wd X (D.lX ps) P S H' n'/\n'=n:=by
 refine Cu (Told.cons h1 (.cons h2 .nil)).lay (Ll (cf:=aq G (d+1)) (cs:=cs) (x:=s!"one") (a:=wb p9 6) (λ j u H' n'=>u s!"self"=U ↥X.aC/\Wd X (D.lX (ps.take j)) P S H' n'/\n'=n) ⟨ag,w,Y⟩ (λ _ _ _ _ i=>(i.2.1.w.N _ _ hS).2) ag ?_ ?_)
 .rintro j E u H' n' ⟨h2,s,hn⟩;refine Bt λ C h=>?_
  have B:j<ps.length:=by rw[bS]at E;exact E
  rw[gM];refine Ws (Told.cons h2 .nil).lay (ei s.jh (nT ..) ag (sC (xY (d:=d) s (j:=ps[j]) ?_ ?_) ag ?_))
  .rw[MV];exact hp _ (jP B)
  .have:=Hg D (ps.take j);rw[nx]at this;rcases m with rfl|m
   .simp at B
   .exact Z9 m this
  .rintro v H2 e ⟨rfl,rfl,I⟩;refine O1 h (cY ag ?_ hn);have:D.lX (ps.take (j+1))=(D.lX (ps.take j)).yQ ps[j]:=by rw[jH B];unfold Co.lX;rw[wa];rfl
   rw[this];exact I
 .rintro u H' n' ⟨_,s,hn⟩;rw[wD (hQ (bS _).symm)]at s;exact sQ .next ag Y ⟨Y,s,hn⟩
theorem qk{P B:Pt}(k l:J)(h:B.L=ah P.L (.items k) l):fw P B:=
 ⟨λ g=>by rw[h,ae (by simp)],λ g=>by rw[h,ae (by simp)]⟩
theorem Wd.adopt(w:Wd X D P S H n)(k:bK n H H')(h1:n<=l)(h2:l<n')(h:H' l=U o):Wd X D P (ah S l (U o)) H' n':=by have:=(w.bg k (aS _)).new o h1 h2;rw[<-h,cu,h]at this;exact this
theorem Ends.imp{X:Option (Fl×St)}{Q R:V->Hp->J->be}(h:Ends X Q)(hq:∀v H n,Q v H n->R v H n):Ends X R:=by obtain fl|u|H|n|e|v|w|q:=h;exact⟨fl,u,H,n,e,v,w,hq _ _ _ q⟩
theorem Rj(w:Wd X D P S H n)(C:k<D.nt)(f:(D.th k).ok)(hp:∀j∈(D.th k).ps,j<D.ns)(m:D.zero.length+(D.th k).ps.length<=1000):
 ba (d+2) #[484] [↥X.aC,↥(P.L (.aD k))] H n λ v H' n'=>v=.none/\∃B y,Wd X (D.iq k) B y H' n'/\fw P B/\Ge S y/\n<=n':=by
 have ht:=w.aD C;have b':=(w.w.N _ _ (w.ir k C)).2;have p:=w.lt (w.zj C);have c':=(w.w.N _ _ (w.ir k C)).1;have Q:¬P.L (.aD k)=n:=(bX p);have i:¬P.ir k=P.L (.aD k):=w.qt (w.ir k C) (w.zj C);have q:=(w.new (l:=n) (n':=n+1) ⇑[] (aS _) (cQ _)).Pj C (t:={D.th k with fr:=ai}) (wk:=n) Y Y Y Y (aa ..);refine aE RF (aP (my (v:=.bool ai) ht (Ki ..) ag (cH (aa ..) (K9 ..) ag (sF0 (cf:=aq G (d+1)) (cs:=[]) (x:=.loc s!"scalar") (a:=wb p9 1) ((ae i).trans b') ag
  (sN [] (cG _) ag (my (v:=↥n) ((ae Q).trans (aa ..)) (Ga ..) ag (L6 (vM ..) (pU (cf:=aq G (d+1)) (c:=66) (b:=aj) (aa ..) (QM _) ag ?_))))))))
 obtain⟨L,A⟩:∃L,L=({D with th:=ah D.th k {D.th k with fr:=ai}}:Co):=⟨_,Y⟩;rw[<-A]at q;have r:L.th k={D.th k with fr:=ai}:=by rw[A];exact aa ..
 have d2:L.nt=D.nt:=by rw[A]
 have d3:L.ns=D.ns:=by rw[A]
 have d4:L.zero=D.zero:=by rw[A]
 have d5:(L.th k).ps=(D.th k).ps:=by rw[r]
 refine sC (QP (d:=d) q (k:=k) (by rw[d2];exact C) (by rw[r];exact f) (by rw[d5];exact Va m)) ag ?_;rintro v H2 e ⟨l,rfl,g1,g2,g3,s,g⟩;have I:=q.adopt s ((FZ g1)) g2 g3;refine sC (ND (d:=d) I (k:=k) (by rw[d2];exact C)) ag ?_;rintro v H3 h ⟨rfl,o,g6⟩;have a':(ah (ah S n (U ⇑[])) l (U ⇑((L.th k).ps.map λ j=>↥(P.L (.aU j))))) l=U ⇑((L.th k).ps.map λ j=>↥(P.L (.aU j))):=aa ..;refine vD (cs:=[]) (b:=p9.drop 6) (u:=ah (ah (ah (λ _=>F) s!"self" (U ↥X.aC)) s!"thing" (U ↥(P.L (.aD k)))) s!"gone" (U ↥l)) (uP (d:=d) o (ps:=(L.th k).ps) (o.w.N _ _ a').2 a' (λ j E=>?_) (.inr ?_) ag ag) ?_
 .rw[d5]at E;show j<L.ns;rw[d3];exact hp j E
 .show L.zero.length+_<=_;rw[d4,d5];exact m
 .rintro v H4 n4 ⟨rfl,z,rfl⟩;have:(L.Fi k).lX (L.th k).ps=D.iq k:=by unfold Co.iq Co.Fi;rw[d5,r,A];simp only[dk]
  rw[this]at z;refine⟨Y,pY _ _ z ?_ ((w.w.ge _ (aS _)).trans (q.w.ge _ ((FZ g1)))) (ZI g g6)⟩;exact qk k _ Y
end
end
section
open Tr
theorem i0(l:J):dz l s!"pop" (.dict [])=U (.kA l):=ag
theorem kX(x:Int):wT x (.dict [])=U ():=rfl
section
variable{X:Fx}{D:Co}{P:Pt}{S H:Hp}{n d:J}
theorem n8(w:Wd X D P S H n)(C:k<D.nt)(i:S r=U (eQ ↥(P.L (.aD k)) aj))(m:D.zero.length<=1000):
 ba (d+2) #[442] [↥X.aC,↥s,↥r] H n λ v H' n'=>v=.none/\Wd X (D.goT k) P S H' n'/\n'=n+1:=by
 have ht:=w.aD C;refine(Fe (s:=s) (w.w.N _ _ i).2 ht w.jh w.heap w.zero (by simpa using m) (w.qt w.aC (w.zj C)) (w.ne ⟨_,Y⟩ (w.zj C) (by simp)) (w.ne ⟨_,Y⟩ (w.zj C) (by simp)) (w.w.N _ _ i).1 (w.lt (w.zj C)) (w.w.N _ _ w.aC).1 (w.lt ⟨_,Y⟩) (w.lt ⟨_,Y⟩)).weak ?_;rintro _ _ _ ⟨rfl,rfl,rfl⟩;refine cY Y ?_ Y;have q:=w.bg (H':=ah H n (U (.cell (U ↥s)))) (n':=n+1) ((bK.refl _ _).ah (aS _)) (b7 _);have h1:=q.ff C (t:={D.th k with aC:=(D.th k).aC -1}) Y Y Y Y;unfold Co.goT;by_cases h:(D.th k).aC -1=0
 .rw[if_pos h,if_pos h];have h2:=h1.Ij (D.zero++[.t k]);simpa[Z.tag,Th.obj,Th.rest]using h2
 .rw[if_neg h,if_neg h];exact h1
theorem Sc.Qt{s:Sc}(h:s.val=F):s.obj wk rl=TO s.num s.aC .none wk aj s.fr (.nR .none):=by unfold Sc.obj Sc.v;rw[h]
theorem Sc.SH{s:Sc}(h:s.val=U k):s.obj wk rl=TO s.num s.aC .none wk aj s.fr (.nR ↥rl):=by unfold Sc.obj Sc.v;rw[h]
theorem Tr.Tl{R:Fl->Lc->Hp->J->be}{n:J}{H:Hp}{t:Tr Fl}{l:J}{o:O}{x:Int}{d:V}(h:H l=U o)(hn:wT x o=U ())(e:nQ t (kA l [.int x,d]))(k:aG ((t.kT d).aE H n) R):aG (t.aE H n) R:=
 sM (λ _=>jj _ h hn) e k
theorem yM{u:Lc}{x y:af}{a b:V}(h1:u x=U a)(h2:u y=U b):u=ah (ah u y (U b)) x (U a):=by rw[<-h2,cu,<-h1,cu]
theorem zb(w:Wd X D P S H n){j:J}(E:j<D.ns){u:Lc}(h1:u s!"thing"=U ↥(P.L (.aU j)))(h2:u s!"self"=U ↥X.aC):
 Ends (ay G (aq G (d+1)) [] (p9.drop 4) ⟨u,H,n⟩) λ v H' n'=>v=.none/\∃y,Wd X D P y H' n'/\Ge S y/\n<=n':=by
 rw[yM h1 h2];refine aP (sC (FP (d:=d) (w.aU E) (w.lt (w.DI E))) ag λ v H2 i h=>?_);obtain l|e|g1|g2|g3|s|f:=h;subst e;have I:=w.adopt s g1 g2 g3;refine sD (DG (d:=d) (I.aU E)) ag ?_;exact vD (cs:=[]) (b:=p9.drop 6) (u:=ah (ah (ah u s!"self" (U ↥X.aC)) s!"thing" (U ↥(P.L (.aU j)))) s!"gone" (U ↥l)) (uP (d:=d) I (l:=l) (ps:=[]) g3 (aa ..) (by simp) (.inl Y) ag ag) λ v r o q=>⟨q.1,_,q.2.1,w.w.ge _ g1,q.2.2▸f⟩
theorem QO(w:Wd X D P S H n)(E:j<D.ns)(m:D.zero.length<=1000):
 ba (d+3) #[484] [↥X.aC,↥(P.L (.aU j))] H n λ v H' n'=>v=.none/\∃B y,Wd X (D.fI j) B y H' n'/\fw P B/\Ge S y/\n<=n':=by
 refine aE RF (aP ?_);have hs:=w.aU E;have a':=(w.w.N _ _ (w.iu j E)).2;have Q:¬P.L (.aU j)=n:=(bX (w.lt (w.DI E)));have i:¬P.iu j=P.L (.aU j):=w.qt (w.iu j E) (w.DI E);have f:¬X.aC=P.L (.aU j):=w.qt w.aC (w.DI E);have A:¬X.eP=P.L (.aU j):=w.qt w.eP (w.DI E);have p:¬X.aC=n:=bX (w.w.N _ _ w.aC).1;have e6:¬X.eP=n:=bX (w.w.N _ _ w.eP).1;have hc:=w.jh;have hp:=w.RK;have g:=(w.new (l:=n) (n':=n+1) ⇑[] (aS _) (cQ _)).Dg E (t:={D.sc j with fr:=ai,val:=F}) (wk:=n) (rl:=P.rl j) (aa ..) (λ k C=>by cases C);have fin:∀{I:Co}{B:Pt}{y H':Hp}{n':J}(_:Wd X I B y H' n')(_:I=D.fI j)(_:B.L=P.L)(_:Ge S y)(_:n<=n')(_:j<I.ns)(u:Lc)(_:u s!"thing"=U ↥(B.L (.aU j)))(_:u s!"self"=U ↥X.aC),
  Ends (ay G (aq G (d+2)) [] (p9.drop 4) ⟨u,H',n'⟩) λ v H' n'=>v=.none/\∃B y,Wd X (D.fI j) B y H' n'/\fw P B/\Ge S y/\n<=n':=λ o hD hP hS hn e u l1 l2=>
  (zb (d:=d+1) o e l1 l2).imp λ v H4 n4 q=>⟨q.1,_,q.2.choose,by rw[<-hD];exact q.2.choose_spec.1,⟨λ _=>by rw[hP],λ _=>by rw[hP]⟩,hS.trans q.2.choose_spec.2.1,bx hn q.2.choose_spec.2.2⟩
 cases z:(D.sc j).val with
 |none=>
  rw[Sc.Qt z]at hs;refine my (v:=V.bool ai) hs (Ki ..) ag (cH (aa ..) (K9 ..) ag ?_);refine sF0 (cf:=aq G (d+2)) (cs:=[]) (x:=.loc s!"scalar") (a:=wb p9 1) ((ae i).trans a') ag ?_;refine sN [] (cG _) ag ?_;rw[fY _ _ _ Q];refine sW0 (v:=↥n) (Ga ..) ag ?_;refine pU (cf:=aq G (d+2)) (c:=66) (b:=ai) (aa ..) ag ag ?_;refine cH ((ae f).trans ((ae p).trans hc)) (oU ..) ag (ei ((ae A).trans ((ae e6).trans hp)) (i0 ..) ag (cH (aa ..) (gZ ..) ag ?_));refine Tl (x:=(D.sc j).num) (d:=.none) ((ae A).trans ((ae e6).trans hp)) (kX _) ag ?_;refine cH (aa ..) (uW ..) ag (my (v:=V.none) (aa ..) (n9 ..) ag (ei ((ae f).trans ((ae f).trans ((ae p).trans hc))) (fN ..) ag ?_));rw[dk];refine sD (oZ (d:=d) (c:=X.aC) (s:=P.L (.aU j))) ag ?_;exact vD (cs:=[]) (b:=p9.drop 4) (u:=ah (ah (ah (λ _=>F) s!"self" (U ↥X.aC)) s!"thing" (U ↥(P.L (.aU j)))) s!"old" (U .none))
   (fin (g.bg ((bK.refl _ _).ah (aS _)) (b7 _)) (by unfold Co.fI;rw[z]) Y (w.w.ge _ (aS _)) (by omega) E _ ag ag) λ _ _ _ q=>q
 |some k=>
  obtain h|C:=w.ref j E k z;rw[Sc.SH z]at hs;refine my (v:=V.bool ai) hs (Ki ..) ag (cH (aa ..) (K9 ..) ag ?_);refine sF0 (cf:=aq G (d+2)) (cs:=[]) (x:=.loc s!"scalar") (a:=wb p9 1) ((ae i).trans a') ag ?_;refine sN [] (cG _) ag ?_;rw[fY _ _ _ Q];refine sW0 (v:=↥n) (Ga ..) ag ?_;refine pU (cf:=aq G (d+2)) (c:=66) (b:=ai) (aa ..) ag ag ?_;refine cH ((ae f).trans ((ae p).trans hc)) (oU ..) ag (ei ((ae A).trans ((ae e6).trans hp)) (i0 ..) ag (cH (aa ..) (gZ ..) ag ?_));refine Tl (x:=(D.sc j).num) (d:=.none) ((ae A).trans ((ae e6).trans hp)) (kX _) ag ?_;refine cH (aa ..) (vC ..) ag (my (v:=V.none) (aa ..) (n9 ..) ag (ei ((ae f).trans ((ae f).trans ((ae p).trans hc))) (fN ..) ag ?_));rw[dk];refine sC (n8 (d:=d) g (s:=P.L (.aU j)) (k:=k) (r:=P.rl j) C (w.w.ge _ (aS _) _ _ h) m) ag λ v H2 L q=>?_
  exact vD (cs:=[]) (b:=p9.drop 4) (u:=ah (ah (ah (λ _=>F) s!"self" (U ↥X.aC)) s!"thing" (U ↥(P.L (.aU j)))) s!"old" (U ↥(P.rl j)))
   (fin q.2.1 (by unfold Co.fI;rw[z]) Y (w.w.ge _ (aS _)) (by have:=q.2.2;exact abo this) E _ ag ag) λ _ _ _ q=>q
end
end
section
open Tr
section
variable{H:Hp}{n d:J}
noncomputable def dY(xs:List (J×Int)):List (aJ×V):=xs.map λ p=>(aJ.int p.2,V.ref p.1)
theorem sT(xs:List (J×Int)):intKeys (dY xs)=U (xs.map (·.2)):=by
 induction xs with
 |nil=>rfl
 |cons a r X=>exact congrArg (Am (a.2::·)) X
theorem sj(xs:List (J×Int)):∀e∈dY xs,e.1.isInt=ai:=by intro e P;obtain p|_|rfl:=bI.mp P;rfl
theorem Bz{xs:List (J×Int)}{p:J×Int}(h:p.2∉xs.map (·.2)):fO (.int p.2) ↥p.1 (dY xs)=dY (xs++[p]):=by
 have:atK (dY xs) (.int p.2)=F:=by
  cases ha:atK (dY xs) (.int p.2)with
  |none=>rfl
  |some v=>have:=jy ha;obtain q|hq|e:=bI.mp this;have e:aJ.int q.2=aJ.int p.2:=congrArg j0 e;rw[<-aJ.int.inj e]at h;exact absurd (bI.mpr ⟨q,hq,Y⟩) h
 rw[gQ this];simp[dY]
theorem Kf{xs:List (J×Int)}(h:i∈xs.map (·.2)):∃v,atK (dY xs) (.int i)=U v:=by
 cases ha:atK (dY xs) (.int i)with
 |some v=>exact⟨v,Y⟩
 |none=>obtain p|hp|rfl:=bI.mp h;exact absurd Y (xJ ha (aJ.int p.2,V.ref p.1) (bI.mpr ⟨p,hp,Y⟩))
noncomputable def Oo(xs:List (J×Int)):List V:=(sortI (xs.map (·.2))).filterMap λ i=>atK (dY xs) (.int i)
theorem Tr.aaS{R:Fl->Lc->Hp->J->be}{t:Tr Fl}{cf:V->List V->M V}{l:J}{o o':O}(h:H l=U o)(hs:t8 o=U o')(e:nQ t (eh G cf (.con (.builtin "sorted")) [↥l]))(k:aG ((t.kT ↥n).aE (ah H n (U o')) (n+1)) R):aG (t.aE H n) R:=
 sM (λ _=>by rw[DD];exact jj _ h hs) e k
inductive W0(H0:Hp)(n0 l:J)(xs:List (J×Int))(j:J)(u:Lc)(H:Hp)(n:J):Prop
 |mk (en:n=n0+2) (hK:bK n0 H0 H) (h1:H n0=U (.cell (U (.ref (n0+1))))) (h2:H (n0+1)=U (.dict (dY (xs.take j)))):W0 H0 n0 l xs j u H n
theorem Bj{l:J}{xs:List (J×Int)}(L:H l=U ⇑(xs.map λ p=>↥p.1))(f:l<n)
 (g:∀p∈xs,p.1<n/\∃bl wk ds r,H p.1=U (TO p.2 0 bl wk ds aj r))(hn:(xs.map (·.2)).Nodup)(o:xs.length<64):
 ba (d+1) #[395] [↥l] H n (ji 0 H n (Oo xs)):=by
 have P:¬l=n:=(bX f);have D:¬l=n+1:=(fS f);refine LO _ (aP ?_);refine sE ag ?_;refine sP (cs:=[("found",n)]) (x:=s!"found") (l:=n) (v:=↥(n+1)) ((ae kE).trans (aa ..)) ag ag ?_;refine Ll (cf:=aq G d) (cs:=[("found",n)]) (x:=s!"thing") (a:=wb QH 1) (l:=l) (xs:=xs.map λ p=>↥p.1) (W0 H n l xs) ⟨Y,((((bK.refl _ _).ah (aS _)).ah (b7 _)).ah (aS _)),aa ..,(ae (gP kE)).trans (aa ..)⟩ (λ j u H' n' Q=>by cases Q with|mk _ S _ _=>exact(S _ f).trans L) ag (λ j E u H' n' Q=>?_) λ u H' n' Q=>?_
 .refine Bt λ C h=>?_
  obtain en|S|h1|h2:=Q;have B:j<xs.length:=by rw[bS]at E;exact E
  obtain m|bl|wk|ds|r|X:=g xs[j] (jP B);have e:=S.at m X;have hd:xs[j].2∉(xs.take j).map (·.2):=by
   intro hm;have I:xs=xs.take j++xs[j]::xs.drop (j+1):=by rw[<-wV B,sF]
   rw[I,gq,bW,kC]at hn;exact hn.2.2 _ hm _ (by simp) Y
  have w:(dY (xs.take j)).length<=1000:=by simp[dY];exact aaF o
  rw[gM];refine cH e (hY ..) ag ?_;refine sEq (a:=0) (b:=0) (v:=ai) Y ag ?_;refine cH e (Jh ..) ag (sL (cs:=[(cZ "found",n)]) (x:=cZ "found") h1 ag ag (cH e (gZ ..) ag ?_));refine Ce (i:=xs[j].2) (v:=↥xs[j].1) h2 (o':=.dict (dY (xs.take (j+1)))) (by simp only[jv,qK,dx (sj _),w,and_self,if_true,Bz hd,<-jH B]) ag ?_;exact O1 h ⟨en,S.ah (b7 _),(ae kE).trans h1,aa ..⟩
 .obtain en|S|h1|h2:=Q;subst en;rw[bS,km]at h2;have w:(xs.map (·.2)).length<64:=by rw[bS];exact o
  have c:¬n=n+2:=xA;have k:¬n+1=n+2:=FK;refine sL (cs:=[(cZ "found",n)]) (x:=cZ "found") h1 ag ag ?_;refine aaS (cf:=aq G d) h2 (o':=⇑((sortI (xs.map (·.2))).map .int)) (by simp only[CL,sT,eT,w,if_true]) ag ?_;refine Tp (cf:=aq G d) (cs:=[("found",n)]) (elt:=.sub (.cW "found") (.loc "number")) (x:=s!"number") (ifs:=[]) (ys:=Oo xs) (aa ..) (λ v=>match v with|.int i=>atK (dY xs) (.int i)|_=>F) ?_ ?_ (λ v z u C q=>?_) ag (sQ (.ret ↥(n+3)) ag Y ⟨n+3,Y,XZ,cQ _,aa ..,(S.ah Cr).ah We,WC⟩)
  .rw[bS];have:(sortI (xs.map (·.2))).length=xs.length:=by rw[(sortI_perm _).length_eq,bS]
   exact YV o this
  .rw[List.filterMap_map];rfl
  .obtain i|hi|rfl:=bI.mp z;obtain v|z:=Kf ((sortI_perm _).mem_iff.mp hi);replace q:C (Sj (atK (dY xs) (.int i))) _ _ _:=q;rw[z]at q;exact sL (cs:=[("found",n)]) (x:=s!"found") ((ae c).trans h1) ag ag (fB (i:=i) ((ae k).trans h2) (show(if _ then _ else _:Option V)=U v by rw[if_pos (dx (sj _) i),z]) ag (Lo q))
end
end
section
variable{X:Fx}{D:Co}{P:Pt}{S H H':Hp}{n n' d:J}
theorem Wd.cache(w:Wd X D P S H n):Cache S H n X.cf X.ks (P.L .cache) (P.L .dQ) P.cg P.ct:=by
 refine⟨(w.w.dy .cache _ Y).2,(w.w.dy .dQ _ Y).2,w.ck.kt,w.ck.nd,w.ck.sub,λ b v z=>?_,w.lt ⟨_,Y⟩,w.lt ⟨_,Y⟩,w.ne ⟨_,Y⟩ ⟨_,Y⟩ (by simp)⟩;have:=w.ck.ok b v z;cases hs:ch X.cf b with
 |none=>rw[hs]at this;exact this
 |some q=>rw[hs]at this;obtain l|e|h:=this;exact⟨l,e,cG _,(w.w.N _ _ h).1,h⟩
theorem Wd.found(w:Wd X D P S H n)(h:Found S H n X.cf X.ks (P.L .cache) (P.L .dQ) gen H' n'):
 ∃B y,Wd X D B y H' n'/\fw P B/\Ge S y/\n<=n':=by
 obtain hn|f'|y|t'|es'|C|a'|c':=h;have c:Ge S y:=by
  rcases c' with rfl|⟨l,o,h1,h2,m,rfl⟩
  .exact Ge.refl _
  .exact w.w.ge _ h1
 have s:∀l o,y l=U o->S l=U o\/(n<=l/\l<n'/\H' l=U o/\l≠t'):=by
  intro l o g;rcases c' with rfl|⟨Q,o',h1,h2,m,rfl⟩
  .exact .inl g
  .by_cases e:l=Q
   .obtain rfl:=e.symm;rw[aa]at g;cases g;refine .inr ⟨h1,h2,m,?_⟩;intro e;rw[e,C.ht]at m;cases m
   .rw[ae e]at g;exact .inl g
 have d':=C.cm;have e':=C.tm;have A:∀I,I≠Tag.dQ->ah P.L .dQ t' I=P.L I:=λ I p=>ae p
 have hC:∀I o,I≠Tag.dQ->I≠Tag.cache->cont X D {P with cg:=gen,ct:=es',L:=ah P.L .dQ t'} I=U o->cont X D P I=U o:=by
  intro I o h1 h2 h;cases I with
  |dQ=>exact absurd Y h1
  |cache=>exact absurd Y h2
  |zero=>rw[<-h];simp only[cont];congr 2;apply ef;intro z _;cases z<;>simp[Z.tag,ah]
  |items k=>rw[<-h];simp[cont,Th.items,ah]
  |_=>rw[<-h];simp[cont,ah]
 have hE:∀I,I≠Tag.dQ->(∃o,cont X D {P with cg:=gen,ct:=es',L:=ah P.L .dQ t'} I=U o)->∃o,cont X D P I=U o:=by
  intro I h1 ⟨o,h⟩;by_cases h2:I=Tag.cache
  .subst h2;exact⟨_,Y⟩
  .exact⟨o,hC I o h1 h2 h⟩
 refine pY ({P with cg:=gen,ct:=es',L:=ah P.L .dQ t'}) y ⟨⟨?_,?_,?_,?_⟩,?_,c _ _ w.eP,λ k f=>c _ _ (w.ir k f),λ k f=>c _ _ (w.iu k f),?_,w.ax.ge c,c _ _ w.dZ,w.cO.ge c,?_,⟨C.kt,C.nd,C.sub,?_⟩⟩ ?_ c hn
 .intro l o g;rcases s l o g with h|⟨h1,h2,m,i⟩
  .have:=w.w.N l o h;exact⟨(EJ this hn),(f' l this.1 (w.qt h ⟨_,Y⟩) (w.qt h ⟨_,Y⟩)).trans this.2⟩
  .exact⟨h2,m⟩
 .intro I o p;by_cases h1:I=Tag.dQ
  .subst h1;cases p;show ah P.L .dQ t' .dQ<n'/\H' (ah P.L .dQ t' .dQ)=_;rw[aa];exact⟨e',C.ht⟩
  .show ah P.L .dQ t' I<n'/\H' (ah P.L .dQ t' I)=_;rw[A I h1];by_cases h2:I=Tag.cache
   .subst h2;cases p;show _/\_=U (gf gen (ah P.L .dQ t' .dQ));rw[aa];exact⟨d',C.hc⟩
   .have m:=hC I o h1 h2 p;have i:=w.w.dy I o m;refine⟨(EJ i hn),(f' _ i.1 ?_ ?_).trans i.2⟩
    .exact w.ne ⟨o,m⟩ ⟨_,Y⟩ h2
    .exact w.ne ⟨o,m⟩ ⟨_,Y⟩ h1
 .intro l o I o' g p;show l≠ah P.L .dQ t' I;by_cases h1:I=Tag.dQ
  .subst h1;rw[aa];rcases s l o g with h|⟨h1,h2,m,i⟩
   .rcases a' with rfl|x
    .exact w.qt h ⟨_,Y⟩
    .have:=(w.w.N l o h).1;exact ug this x
   .exact i
  .rw[A I h1];have b':=hE I h1 ⟨_,p⟩;rcases s l o g with h|⟨h1,h2,m,i⟩
   .exact w.qt h b'
   .have:=w.lt b';exact Qx this h1
 .intro I v o o' p a e;have e:ah P.L .dQ t' I=ah P.L .dQ t' v:=e;by_cases h1:I=Tag.dQ
  .by_cases h2:v=Tag.dQ
   .rw[h1,h2]
   .subst h1;rw[aa,A v h2]at e;have r:=hE v h2 ⟨_,a⟩;rcases a' with rfl|x
    .exact absurd e.symm (w.ne r ⟨_,Y⟩ h2)
    .have:=w.lt r;exact TA this x e
  .have b':=hE I h1 ⟨_,p⟩;by_cases h2:v=Tag.dQ
   .subst h2;rw[aa,A I h1]at e;rcases a' with rfl|x
    .exact absurd e (w.ne b' ⟨_,Y⟩ h1)
    .have:=w.lt b';exact Z0 this e x
   .rw[A I h1,A v h2]at e;have r:=hE v h2 ⟨_,a⟩;by_cases m:I=v
    .exact m
    .exact absurd e (w.ne b' r m)
 .show y X.aC=U (bq (ah P.L .dQ t' .heap) X.Fs X.eP);rw[A _ (by simp)];exact c _ _ w.aC
 .intro j E k f;show y (P.rl j)=U (eQ ↥(ah P.L .dQ t' (.aD k)) aj)/\_;rw[A _ (by simp)];exact⟨c _ _ (w.ref j E k f).1,(w.ref j E k f).2⟩
 .intro t ht;show ah P.L .dQ t' t=_;rw[A t (by intro e;rw[e]at ht;cases ht)];exact w.fix t ht
 .intro b v a;have:=C.ok b v a;cases hs:ch X.cf b with
  |none=>rw[hs]at this;exact this
  |some q=>rw[hs]at this;obtain l|e|_|_|h:=this;exact⟨l,e,h⟩
 .exact⟨λ k=>A (.aD k) (by simp),λ k=>A (.aU k) (by simp)⟩
end
section
open Tr
noncomputable def NN(hp cn N:J)(lim:V)(b:J)(m:V):O:=.inst 508 [("heap",↥hp),("counter",↥cn),("stash",↥N),("limits",lim),("nodes",↥b),("lvs",↥(b+1)),("statements",↥(b+2)),("funcs",↥(b+3)),("operators",↥(b+4)),
 ("out",↥(b+5)),("err",↥(b+6)),("saves",↥(b+7)),("frames",↥(b+8)),("match",.none),("patterns",↥(b+9)),("empties",↥(b+10)),("steps",.int 0),("methods",m),("call_code",.none),("compile_text",.none)]
theorem jz(hp cn N:J)(lim:V)(b:J)(m:V):eg s!"stash" (NN hp cn N lim b m)=U ↥N:=ag
theorem yy(hp cn N:J)(lim:V)(b l:J):eg s!"methods" (NN hp cn N lim b ↥l)=U ↥l:=ag
theorem ba.iS{d l:J}{c:Pl}
 (g:H l=U (.iS c))(hb:bindArgs c.params [] args=U bs)(a:bindAll c.names c.cl bs ⟨λ _=>F,H,n⟩=U ((),⟨L,H1,n⟩))
 (h:Ends (ay G (aq G d) c.cl c.body ⟨L,H1,n⟩) Q):ba (d+1) ↥l args H n Q:=by
 obtain fl|A|H'|n'|e|v|i|q:=h;refine⟨v,H',n',λ u=>?_,q⟩;simp only[aq,fa,C5,g,bH,eM,An,hb,m9,kw,a,e];cases fl with
 |next=>cases i;rfl
 |ret w=>cases i;rfl
 |brk=>cases i
 |cont=>cases i
theorem jF.into{m n N gl:J}{cf:af->Option J}(h:jF S m N gl es gen pf cf dJ)(g:∀l o,S l=U o->l<n/\H l=U o):jF H n N gl es gen pf cf dJ:=
 have I:Up m S n H:=λ l o _=>g l o
 have⟨hp,jg⟩:=h.hS.jg
 ⟨⟨⟨hp,(g _ _ jg).2⟩,(g _ _ h.hS.F1).2,h.hS.ks,(g _ _ jg).1,(g _ _ h.hS.F1).1⟩,λ p hp=>have q:=h.hp p hp;⟨q.1,q.2.1.up I Y,q.2.2.1,q.2.2.2.up I Y⟩⟩
structure Kx where
 cr:J
 co:J
 cn:J
 cc:J
 aE:J
 hp:J
 b:J
 sth:J
 own:J
 ow:List (aJ×V)
 gl:J
 es:List (aJ×V)
 gen:Int
 pf:af->List af
 dJ:List af
 nm:J->af
 out:J->List af
 dI:J->Option J
structure pS(X:Fx)(K:Kx)(S:Hp):Prop where
 Fs:S X.Fs=U (.iS ⟨s!"_law_destroy",[s!"thing"],x8,SY,[("run",K.cr),("owners",K.co),("numbers",K.cn),("calls",K.cc)]⟩)
 cr:S K.cr=U (.cell (U (.ref K.aE)))
 aE:S K.aE=U (NN K.hp X.aC K.sth X.lim K.b (.ref (X.L .cache)))
 co:S K.co=U (.cell (U (.ref K.own)))
 own:S K.own=U (.dict K.ow)
 owi:∀e∈K.ow,e.1.isInt=ai
 cn:S K.cn=U (.cell (U (.ref (X.L .cb))))
 cc:S K.cc=U (.cell (U (.ref (X.L .ax))))
 N:∀(H:Hp)(n:J),(∀l o,S l=U o->l<n/\H l=U o)->jF H n K.sth K.gl K.es K.gen K.pf X.cf K.dJ
 Wf:s!"UNIVERSAL"∈K.dJ
 Ur:K.pf s!"UNIVERSAL"=[]
 ks:X.ks.length<=100
 nmd:∀c,c<4->K.nm c∈K.dJ
 line:∀c,c<4->uX K.pf K.dJ X.ks (K.nm c) (K.out c)
 dI:∀c,c<4->(ch X.cf (K.out c++[s!"UNIVERSAL"])=F/\K.dI c=F)\/∃l p num aC bl wk ds fr s cp,∃j:J,ch X.cf (K.out c++[s!"UNIVERSAL"])=U (l,p)/\S l=U (TO num aC bl wk ds fr (.nP s cp))/\atK K.ow (.int num)=U (.int j)/\K.dI c=U j
theorem pS.ge{K:Kx}(f:pS X K S)(g:Ge S y):pS X K y:=by
 refine⟨g _ _ f.Fs,g _ _ f.cr,g _ _ f.aE,g _ _ f.co,g _ _ f.own,f.owi,g _ _ f.cn,g _ _ f.cc,?_,f.Wf,f.Ur,f.ks,f.nmd,f.line,λ c hc=>?_⟩
 .intro H n h;exact f.N H n λ l o L=>h l o (g _ _ L)
 .rcases f.dI c hc with h|⟨l,p,num,aC,bl,wk,ds,fr,s,k,j,h1,h2,I⟩
  .exact .inl h
  .exact .inr ⟨l,p,num,aC,bl,wk,ds,fr,s,k,j,h1,g _ _ h2,I⟩
noncomputable def Co.called(D:Co)(k:J)(e:Option J):Co:=match e with
 |none=>D
 |some j=>{D with ax:=D.ax++[(k,j)]}
theorem ij.snoc{c:J×J}(h:S l=U (.tup [.int c.1,.int c.2]))(a:ij S ls cs):ij S (ls++[l]) (cs++[c]):=dO.snoc (p:=λ l(c:J×J)=>S l=U (.tup [.int c.1,.int c.2])) h a
theorem ij.len{S:Hp}{ls:List J}{cs:List (J×J)}(a:ij S ls cs):ls.length=cs.length:=dO.length a
section
variable{X:Fx}{D:Co}{P:Pt}{S H H':Hp}{n n' d:J}{K:Kx}
theorem Wd.setC(w:Wd X D P S H n){c:J×J}(h:S l=U (.tup [.int c.1,.int c.2])):
 Wd X {D with ax:=D.ax++[c]} {P with cl:=P.cl++[l]} S (ah H (P.L .ax) (U ⇑((P.cl++[l]).map .ref))) n:=by
 have h1:=w.w.put (t:=.ax) ⇑((P.cl++[l]).map .ref) Y;have e:cont X {D with ax:=D.ax++[c]} {P with cl:=P.cl++[l]}=ah (cont X D P) .ax (U ⇑((P.cl++[l]).map .ref)):=by funext I;cases I<;>simp[cont,ah,numsOf]
 rw[<-e]at h1;exact⟨h1,w.aC,w.eP,w.ir,w.iu,w.ref,w.ax.snoc h,w.dZ,w.cO,w.fix,⟨w.ck.kt,w.ck.nd,w.ck.sub,w.ck.ok⟩⟩
theorem Wd.apart(w:Wd X D P S H n)(f:pS X K S):Apart H n K.sth K.gl K.es K.gen K.pf X.cf K.dJ (P.L .cache) (P.L .dQ):=by
 have hs:=f.N S n λ l o h=>⟨(w.w.N l o h).1,h⟩
 obtain hp|h1:=hs.hS.jg;have h2:=hs.hS.F1;refine⟨⟨(w.qt h1 ⟨_,Y⟩).symm,(w.qt h1 ⟨_,Y⟩).symm,(w.qt h2 ⟨_,Y⟩).symm,(w.qt h2 ⟨_,Y⟩).symm⟩,λ H' a=>f.N H' n λ l o h=>?_⟩;have:=w.w.N l o h;exact⟨this.1,(a l this.1 (w.qt h ⟨_,Y⟩) (w.qt h ⟨_,Y⟩)).trans this.2⟩
theorem Oj(g:∀a b,a<D.nt->b<D.nt->(D.th a).num=(D.th b).num->a=b)(C:k<D.nt):atK (numsOf D) (.int (D.th k).num)=U (.int k):=by
 apply oG
 .simp only[numsOf,hH];refine pq.mpr (xg (λ{a b} ha hb p e=>?_) List.pairwise_lt_range);have:=g a b (kF.mp ha) (kF.mp hb) (aJ.int.inj e);exact il p this
 .exact bI.mpr ⟨k,kF.mpr C,Y⟩
theorem xm(D:Co):∀e∈numsOf D,e.1.isInt=ai:=by intro e P;obtain k|_|rfl:=bI.mp P;rfl
noncomputable def Tu(K:Kx):List (af×J):=[("run",K.cr),("owners",K.co),("numbers",K.cn),("calls",K.cc)]
theorem E4(w:Wd X D P S H n)(f:pS X K S){k c:J}(C:k<D.nt)(hc:c<4)(hb:(D.th k).bl=.str (K.nm c))
 (c':∀a b,a<D.nt->b<D.nt->(D.th a).num=(D.th b).num->a=b)(r:D.ax.length<=900):
 ba (d+8) ↥X.Fs [↥(P.L (.aD k))] H n λ v H' n'=>v=.none/\∃B y,Wd X (D.called k (K.dI c)) B y H' n'/\fw P B/\Ge S y/\n<=n':=by
 refine ba.iS (w.w.N _ _ f.Fs).2 Y (L:=ah (λ _=>F) s!"thing" (U ↥(P.L (.aD k)))) (H1:=H) ?_ ?_
 .kernel_rfl
 have ht:=w.aD C;have m:=(w.w.N _ _ f.cr).2;have z:=(w.w.N _ _ f.aE).2;have q3:=w.fix .cache Y;rw[<-q3]at z;rw[Th.obj,hb]at ht;refine aP (cs:=Tu K) (b:=SY) ?_;refine sL (cs:=Tu K) (x:=cZ "run") m ag ag (cH z (jz ..) ag (sL (cs:=Tu K) (x:=cZ "run") m ag ag (cH z (yy ..) ag ?_)));refine sC (r6 (d:=d) ht (f.N H n (λ l o h=>w.w.N l o h)) (w.apart f) w.cache (λ l o h=>⟨(w.w.N l o h).1,(w.w.N l o h).2,w.qt h ⟨_,Y⟩,w.qt h ⟨_,Y⟩⟩) f.ks (f.nmd c hc) f.Wf f.Ur (f.line c hc)) ag ?_;rintro v H1 E ⟨rfl,hF⟩;obtain P1|S1|q|hs|a'|hn:=w.found hF;rcases f.dI c hc with⟨h1,h2⟩|⟨l,p,num,aC,bl,wk,ds,fr,s,cp,j,h1,h2,I,e⟩
 .rw[h1,h2];exact sQ .next ag Y ⟨Y,P1,S1,q,hs,a',hn⟩
 .rw[h1,e];have f1:=f.ge a';have A:=(q.w.N _ _ f1.cc).2;have Q:=(q.w.N _ _ f1.cn).2;have p3:=(q.w.N _ _ f1.co).2;have p4:=(q.w.N _ _ f1.own).2;have p5:=(q.w.N _ _ (a' _ _ h2)).2;have p6:=q.aD C;have p7:H1 (X.L .ax)=U ⇑(P1.cl.map .ref):=by rw[<-q.fix .ax Y];exact(q.w.dy .ax _ Y).2
  have p8:H1 (X.L .cb)=U (.dict (numsOf D)):=by rw[<-q.fix .cb Y];exact(q.w.dy .cb _ Y).2
  have b':(P1.cl.map V.ref).length<=1000:=by rw[bS,q.ax.len];exact VO r
  rw[hs.1 k,Th.obj,hb]at p6;have g1:¬X.L .ax=E:=by rw[<-q.fix .ax Y];exact bX (q.lt (t:=.ax) ⟨_,Y⟩)
  refine sL (cs:=Tu K) (x:=cZ "calls") A ag ag (ei p7 (cS ..) ag (sL (cs:=Tu K) (x:=cZ "numbers") Q ag ag (cH p6 (gZ ..) ag ?_)));refine fB (i:=(D.th k).num) p8 (v:=.int k) (by simp only[um,ty,si,dx (xm _),Oj c' C,if_true]) ag ?_;refine sL (cs:=Tu K) (x:=cZ "owners") p3 ag ag (cH p5 (gZ ..) ag ?_);refine fB (i:=num) p4 (v:=.int j) (by simp only[um,ty,si,dx f.owi,I,if_true]) ag ?_;refine Tx [.int k,.int j] WO ag ?_;refine nw (v:=↥E) ((ae g1).trans p7) b' ag ?_;have g:=(q.new (l:=E) (n':=E+1) (.tup [.int k,.int j]) (aS _) (cQ _)).setC (c:=(k,j)) (aa ..);rw[q.fix .ax Y,gq]at g;exact sQ .next ag Y ⟨Y,_,_,g,hs,a'.trans (q.w.ge _ (aS _)),(mF hn)⟩
end
end
section
open Tr
noncomputable def Co.dsT(D:Co)(k:J):Co:={D with th:=ah D.th k {D.th k with ds:=ai}}
noncomputable def Co.Aj(D:Co)(k:J)(e:Option J):Co:=(D.dsT k).called k e
noncomputable def Co.Qy(D:Co):Z->Int
 |.t k=>(D.th k).aC
 |.s j=>(D.sc j).aC
noncomputable def Co.znum(D:Co):Z->Int
 |.t k=>(D.th k).num
 |.s j=>(D.sc j).num
noncomputable def Co.zfr(D:Co):Z->bG
 |.t k=>(D.th k).fr
 |.s j=>(D.sc j).fr
def Co.Cn(D:Co):Z->be
 |.t k=>k<D.nt
 |.s j=>j<D.ns
noncomputable def Co.MK(en:V->Option J)(D:Co):Z->Co
 |.t k=>D.Aj k (en (D.th k).bl)
 |.s _=>D
noncomputable def Co.O2(D:Co):Z->Co
 |.t k=>D.iq k
 |.s j=>D.fI j
noncomputable def Co.fz(en:V->Option J)(D:Co)(l:List Z):Co:=l.foldl (Co.MK en) D
noncomputable def Co.dX(D:Co)(l:List Z):Co:=l.foldl Co.O2 D
def Co.yv(D:Co):be:=∀a b,a<D.nt->b<D.nt->(D.th a).num=(D.th b).num->a=b
def Co.Jl(K:Kx)(D:Co):Z->be
 |.t k=>k<D.nt/\(D.th k).aC=0/\(D.th k).ds=aj/\(∃c,c<4/\(D.th k).bl=.str (K.nm c))/\D.ax.length<=900/\D.yv
 |.s j=>j<D.ns/\(D.sc j).aC=0
def Co.freeOk(D:Co):Z->be
 |.t k=>k<D.nt/\(D.th k).aC=0/\(D.th k).fr=aj/\(D.th k).ok/\(∀j∈(D.th k).ps,j<D.ns)/\D.zero.length+(D.th k).ps.length<=1000
 |.s j=>j<D.ns/\(D.sc j).aC=0/\(D.sc j).fr=aj/\D.zero.length<=1000
section
variable{X:Fx}{D:Co}{P:Pt}{S H H':Hp}{n n' d:J}{K:Kx}
theorem FI(w:Wd X D P S H n)(f:pS X K S){en:V->Option J}(l:∀c,c<4->en (.str (K.nm c))=K.dI c){k:J}(h:D.Jl K (.t k)):
 ba (d+9) #[477] [↥X.aC,↥(P.L (.aD k))] H n λ v H' n'=>v=.none/\∃B y,Wd X (D.MK en (.t k)) B y H' n'/\fw P B/\Ge S y/\n<=n':=by
 obtain C|h0|g'|⟨c,hc,hb⟩|r|g:=h;refine aE R6 (aP ?_);have ht:=w.aD C;have d':=w.jh;have Q:¬X.aC=P.L (.aD k):=w.qt w.aC (w.zj C);rw[Th.obj,hb,g',h0]at ht;obtain⟨L,A⟩:∃L,L=({D with th:=ah D.th k {D.th k with ds:=ai,aC:=0+1}}:Co):=⟨_,Y⟩;have q:=w.ff C (t:={D.th k with ds:=ai,aC:=0+1}) Y Y Y Y;rw[<-A]at q;have s:L.th k={D.th k with ds:=ai,aC:=0+1}:=by rw[A];exact aa ..
 have j:L.nt=D.nt:=by rw[A]
 have m:L.ax=D.ax:=by rw[A]
 have x:∀a,(L.th a).num=(D.th a).num:=by
  intro a;rw[A];show(ah D.th k _ a).num=_;by_cases e:a=k
  .obtain rfl:=e.symm;rw[aa]
  .rw[ae e]
 rw[Th.obj]at q;dsimp only at q;rw[hb]at q;refine cH ht (hY ..) ag ?_;refine Tg (a:=0) (b:=0) (v:=ai) Y ag ?_;refine cH ht (AH ..) ag (cH ht (YR ..) ag (cH d' (No ..) ag (my (v:=V.bool ai) ht (XM ..) ag (cH (aa ..) (hY ..) ag (my (v:=V.int (0+1)) (aa ..) (l7 ..) ag (ei ((ae Q).trans ((ae Q).trans d')) (BM ..) ag ?_))))));rw[dk];refine sC (E4 (d:=d) q f (k:=k) (c:=c) (by rw[j];exact C) hc (by rw[s];exact hb) (λ a b ha e' e=>?_) (by rw[m];exact r)) ag ?_
 .rw[x,x]at e;rw[j]at ha e';exact g a b ha e' e
 rintro v H1 E ⟨rfl,i,z,I,hs,hg,hn⟩;have b':k<(L.called k (K.dI c)).nt:=by unfold Co.called;split<;>(show k<L.nt;rw[j];exact C)
 have p:(L.called k (K.dI c)).th=L.th:=by unfold Co.called;split<;>rfl
 have a':=I.aD b';have c':=hs.1 k;rw[c',p,s]at a';rw[Th.obj]at a';dsimp only at a';rw[hb]at a';refine cH a' (hY ..) ag (my (v:=V.int (0+1 -1)) a' (l7 ..) ag ?_);have o:=I.ff b' (t:={D.th k with ds:=ai,aC:=0+1 -1}) (by rw[p,s]) (by rw[p,s]) (by rw[p,s]) (by rw[p,s]);have f':({L.called k (K.dI c)with th:=ah (L.called k (K.dI c)).th k {D.th k with ds:=ai,aC:=0+1 -1}}:Co)=D.MK en (.t k):=by
  show _=(D.dsT k).called k (en (D.th k).bl);rw[hb,l c hc,p];have:({D.th k with ds:=ai,aC:=0+1 -1}:Th)={D.th k with ds:=ai}:=by
   have:(0:Int)+1 -1=(D.th k).aC:=by rw[h0];rfl
   rw[this]
  rw[this,A];unfold Co.called Co.dsT;cases K.dI c<;>simp only[dk]
 rw[f']at o;rw[c',Th.obj]at o;dsimp only at o;rw[hb]at o;exact sQ .next ag Y ⟨Y,i,z,o,hs,hg,hn⟩
theorem Lf(w:Wd X D P S H n){j:J}(E:j<D.ns)(h0:(D.sc j).aC=0):
 ba (d+1) #[477] [↥X.aC,↥(P.L (.aU j))] H n (Is .none H n):=by
 refine aE R6 (aP ?_);have ht:=w.aU E;rw[Sc.obj,h0]at ht;refine cH ht (hY ..) ag ?_;refine Tg (a:=0) (b:=0) (v:=ai) Y ag ?_;refine cH ht (Rp ..) ag ?_;exact sQ (.ret .none) ag Y ⟨Y,Y,Y⟩
theorem KG(w:Wd X D P S H n)(f:pS X K S)(l:∀c,c<4->en (.str (K.nm c))=K.dI c){z:Z}(h:D.Jl K z):
 ba (d+9) #[477] [↥X.aC,↥(P.L z.tag)] H n λ v H' n'=>v=.none/\∃B y,Wd X (D.MK en z) B y H' n'/\fw P B/\Ge S y/\n<=n':=by
 cases z with
 |t k=>exact FI w f l h
 |s j=>refine(Lf w h.1 h.2).weak ?_;rintro _ _ _ ⟨rfl,rfl,rfl⟩;exact⟨Y,pY P S w (fw.refl _) (Ge.refl _) (aS _)⟩
theorem Sw(w:Wd X D P S H n){z:Z}(h:D.freeOk z):
 ba (d+3) #[484] [↥X.aC,↥(P.L z.tag)] H n λ v H' n'=>v=.none/\∃B y,Wd X (D.O2 z) B y H' n'/\fw P B/\Ge S y/\n<=n':=by
 cases z with
 |t k=>exact Rj w h.1 h.2.2.2.1 h.2.2.2.2.1 h.2.2.2.2.2
 |s j=>exact QO w h.1 h.2.2.2
theorem Wd.aaJ(w:Wd X D P S H n){z:Z}(h:D.Cn z):∃bl wk ds r,H (P.L z.tag)=U (TO (D.znum z) (D.Qy z) bl wk ds (D.zfr z) r):=by
 cases z with
 |t k=>exact Lx _ _ _ _ (w.aD h)
 |s j=>exact Lx _ _ _ _ (w.aU h)
theorem Wd.ltZ(w:Wd X D P S H n){z:Z}(h:D.Cn z):P.L z.tag<n:=by
 cases z with
 |t k=>exact w.lt (w.zj h)
 |s j=>exact w.lt (w.DI h)
end
end
section
open Tr
noncomputable def pR(num:Z->Int)(zs:List Z):List Z:=(sortI (zs.map num)).filterMap λ i=>zs.find? λ z=>decide (num z=i)
noncomputable def Co.mN(D:Co):Co:={D with zero:=[]}
structure Co.TurnOk(K:Kx)(en:V->Option J)(D:Co)(o:List Z):Prop where
 zs:∀z∈D.zero,D.Cn z/\D.Qy z=0/\D.zfr z=aj
 nd:(D.zero.map D.znum).Nodup
 len:D.zero.length<64
 ord:o=pR D.znum D.zero
 fin:∀i(h:i<o.length),(D.mN.fz en (o.take i)).Jl K o[i]
 free:∀i(h:i<o.length),((D.mN.fz en o).dX (o.take i)).freeOk o[i]
noncomputable def Co.aQ(en:V->Option J)(D:Co)(o:List Z):Co:=(D.mN.fz en o).dX o
inductive gC(K:Kx)(en:V->Option J):J->Co->Co->Prop
 |done {D:Co}:D.zero=[]->gC K en 0 D D
 |aQ {m:J} {D D':Co} {o:List Z}:D.zero≠[]->D.TurnOk K en o->gC K en m (D.aQ en o) D'->gC K en (m+1) D D'
section
variable{X:Fx}{D:Co}{P:Pt}{S H H':Hp}{n n' d:J}{K:Kx}
theorem DZ(L:Tag->J)(num:Z->Int)(zs:List Z):Oo (zs.map λ z=>(L z.tag,num z))=(pR num zs).map λ z=>.ref (L z.tag):=by
 have h1:∀i,atK (dY (zs.map λ z=>(L z.tag,num z))) (.int i)=(zs.find? λ z=>decide (num z=i)).map λ z=>.ref (L z.tag):=by
  intro i
  induction zs with
  |nil=>rfl
  |cons a r X=>
   simp only[dY,bW,atK,im]at X⊢;by_cases h:num a=i
   .simp[h]
   .simp only[aJ.int.injEq,h,decide_false];exact X
 unfold Oo pR;rw[hH,List.map_filterMap];simp only[h1];rfl
theorem Wd.Ql(w:Wd X D P S H n)(h1:n<=l)(h2:l<n'):Wd X D.mN {P with L:=ah P.L .zero l} S (ah (ah H l (U ⇑[])) (P.L .heap) (U (aX X.lim D.last l))) n':=by
 have c:=w.w.move (n':=n') .zero ⇑[] h1 h2;have k:=c.put (t:=.heap) (aX X.lim D.last l) (o0:=aX X.lim D.last (P.L .zero)) ag;rewrite[cx (P.L) _ (by simp)]at k;have e:cont X D.mN {P with L:=ah P.L .zero l}=ah (ah (cont X D P) .zero (U ⇑[])) .heap (U (aX X.lim D.last l)):=by
  funext I;cases I with
  |aU b=>kernel_rfl
  |aD b=>kernel_rfl
  |items b=>kernel_rfl
  |_=>simp[Co.mN,cont,ah,numsOf]
 rw[<-e]at k;refine⟨k,?_,w.eP,w.ir,w.iu,λ j E g a=>?_,w.ax,w.dZ,w.cO,λ t ht=>?_,⟨w.ck.kt,w.ck.nd,w.ck.sub,w.ck.ok⟩⟩
 .show S X.aC=U (bq (ah P.L .zero l .heap) X.Fs X.eP);exact w.aC
 .show S (P.rl j)=U (eQ ↥(ah P.L .zero l (.aD g)) aj)/\_;exact w.ref j E g a
 .show ah P.L .zero l t=_;rw[cx]
  .exact w.fix t ht
  .intro e;rw[e]at ht;cases ht
theorem Ek{P B:Pt}(l:J)(h:B.L=ah P.L .zero l):fw P B:=
 ⟨λ g=>by rw[h,ae (by simp)],λ g=>by rw[h,ae (by simp)]⟩
theorem HI{u:Lc}{x y z:af}{a b c:V}(h1:u x=U a)(h2:u y=U b)(I:u z=U c):u=ah (ah (ah u z (U c)) y (U b)) x (U a):=by rw[<-I,cu,<-h2,cu,<-h1,cu]
theorem Tr.sSl{R:Fl->Lc->Hp->J->be}{t:Tr Fl}{l:J}{o o':O}{lo hi:Option V}(h:H l=U o)(hs:MP lo hi o=U o')(e:nQ t (oV ↥l lo hi))(k:aG ((t.kT ↥n).aE (ah H n (U o')) (n+1)) R):aG (t.aE H n) R:=
 sM (λ _=>jj _ h hs) e k
theorem Qp{xs:List V}(h:xs.length<=1000):MP (U (.int 0)) F ⇑xs=U ⇑xs:=by show(if _ then _ else _:Option O)=_;rw[if_pos h];show U (O.list ((xs.take xs.length).drop 0))=_;rw[km];rfl
theorem W7{xs:List V}(h:xs.length<=1000):MP F (U (.int 0)) ⇑xs=U ⇑[]:=by show(if _ then _ else _:Option O)=_;rw[if_pos h];show U (O.list ((xs.take 0).drop 0))=_;rfl
structure aee(X:Fx)(E:J->Co)(P:Pt)(S:Hp)(n:J)(j:J)(u:Lc)(H:Hp)(n':J)(P':Pt)(S':Hp):Prop where
 m1:u s!"self"=U (.ref X.aC)
 m2:u s!"start"=U (.int 0)
 w:Wd X (E j) P' S' H n'
 hs:fw P P'
 hg:Ge S S'
 hn:n<=n'
inductive RJ(X:Fx)(E:J->Co)(P:Pt)(S:Hp)(n l:J)(j:J)(u:Lc)(H:Hp)(n':J):Prop
 |mk (P':Pt) (S':Hp) (i:aee X E P S n j u H n' P' S') (m3:u s!"dying"=U (.ref l)):RJ X E P S n l j u H n'
theorem QV(w:Wd X D P S H n)(f:pS X K S){en:V->Option J}(c':∀c,c<4->en (.str (K.nm c))=K.dI c){o:List Z}(ok:D.TurnOk K en o)
 {g:Fl×St->Option (Fl×St)}{R:Fl->Lc->Hp->J->be}{I:Lc->Hp->J->be}{cs:List (af×J)}{u:Lc}(c:T)(body:List TS)(hb:wy=[.jD c body])
 (l1:u s!"self"=U ↥X.aC)(l2:u s!"start"=U (.int 0))
 (hI:∀A B y H' n',Wd X (D.aQ en o) B y H' n'->fw P B->Ge S y->n<=n'->A s!"self"=U ↥X.aC->A s!"start"=U (.int 0)->I A H' n'):
 aG (ay G (aq G (d+9)) cs body ⟨u,H,n⟩) (Go g R I):=by
 simp only[wy,qx,TS.jD.injEq,and_true]at hb;obtain rfl|rfl:=hb;have m:(D.zero.map λ z=>V.ref (P.L z.tag)).length<=1000:=by rw[bS];exact OJ ok.len
 have hc:=w.jh;have h:=w.heap;have a1:¬X.aC=n:=bX (w.w.N _ _ w.aC).1;rw[yM l1 l2,<-iM];refine cH hc (gX ..) ag (cH h (qj ..) ag ?_);refine sSl w.zero (Qp m) ag (OV (Bj (d:=d+8) (xs:=D.zero.map λ z=>(P.L z.tag,D.znum z)) ?_ (cQ _) ?_ ?_ ?_) ag λ l H1 e g1 g2 g3 g4 g5=>?_)
 .rw[aa,hH];rfl
 .intro p hp;obtain z|i|rfl:=bI.mp hp;obtain q1|q2|q3:=ok.zs z i;obtain bl|wk|ds|r|C:=w.aaJ q1;have:=w.ltZ q1;rw[q2,q3]at C;exact⟨ly this,Lx bl wk ds r ((ae (bP this)).trans C)⟩
 .rw[hH];exact ok.nd
 .rw[bS];exact ok.len
 rw[DZ,<-ok.ord]at g3;have q:=(w.bg (H':=ah H n (U ⇑(D.zero.map λ z=>V.ref (P.L z.tag)))) (n':=n+1) ((bK.refl _ _).ah (aS _)) (b7 _)).adopt g4 g1 g2 g3;have k':=q.jh;have q':=q.heap;have a2:¬X.aC=e:=bX (q.w.N _ _ q.aC).1;have a3:¬P.L .heap=e:=bX (q.lt (t:=.heap) ⟨_,Y⟩);refine cH k' (gX ..) ag (cH q' (qj ..) ag ?_);refine sSl q.zero (W7 m) ag ?_;refine cH ((ae a2).trans k') (gX ..) ag (my (v:=V.ref e) ((ae a3).trans q') (NW ..) ag ?_);have w2:=q.Ql (l:=e) (n':=e+1) (aS _) (cQ _);have l':fw P ({P with L:=ah P.L .zero e}:Pt):=Ek (P:=P) e Y;have o':Ge S (ah S l (U ⇑(o.map λ z=>V.ref (P.L z.tag)))):=w.w.ge _ ((P7 g1));have e':ah S l (U ⇑(o.map λ z=>V.ref (P.L z.tag))) l=U ⇑(o.map λ z=>V.ref (P.L z.tag)):=aa ..;generalize({P with L:=ah P.L .zero e}:Pt)=P2 at w2 l';generalize ah S l (U ⇑(o.map λ z=>V.ref (P.L z.tag)))=S2 at q w2 o' e';refine Ll (cf:=aq G (d+9)) (cs:=cs) (x:=s!"thing") (a:=wb (wb wy 0) 2) (l:=l) (RJ X (λ j=>D.mN.fz en (o.take j)) P2 S2 n l) ⟨P2,S2,⟨ag,ag,w2,fw.refl _,Ge.refl _,(PS g5)⟩,ag⟩ (λ j u H' n' Q=>by cases Q with|mk B y I _=>exact(I.w.w.N _ _ (I.hg _ _ e')).2) ag (λ j E u H' n' Q=>?_) λ u H' n' Q=>?_
 .refine Bt λ RR hR=>?_
  obtain B|y|I|m3:=Q;have a':j<o.length:=by rw[bS]at E;exact E
  have hc:=I.w.jh;rw[HI I.m1 I.m2 m3,gM,<-l'.tag,<-I.hs.tag];refine ei hc (Ep ..) ag ?_;refine sC (KG (d:=d) I.w (f.ge (o'.trans I.hg)) c' (ok.fin j a')) ag ?_;rintro v H2 n2 ⟨_,P3,S3,w3,i',p',d'⟩;refine O1 hR ⟨P3,S3,⟨ag,ag,?_,I.hs.trans i',I.hg.trans p',(wW I.hn d')⟩,ag⟩;show Wd X (D.mN.fz en (o.take (j+1))) P3 S3 H2 n2;rw[jH a'];unfold Co.fz;rw[wa];exact w3
 .obtain B|y|I|m3:=Q;have w':Wd X (D.mN.fz en o) B y H' n':=by have:=I.w;rwa [bS,km]at this
  have m':=(w'.w.N _ _ (I.hg _ _ e')).2;rw[HI I.m1 I.m2 m3];refine Ll (cf:=aq G (d+9)) (cs:=cs) (x:=s!"thing") (a:=wb (wb wy 0) 3) (l:=l) (RJ X (λ j=>(D.mN.fz en o).dX (o.take j)) B y n l) ⟨B,y,⟨ag,ag,w',fw.refl _,Ge.refl _,I.hn⟩,ag⟩ (λ j u H' n' Q=>by cases Q with|mk g' f' I' _=>exact(I'.w.w.N _ _ (I'.hg _ _ (I.hg _ _ e'))).2) ag (λ j E u h' n' Q=>?_) λ u h' n' Q=>?_
  .refine Bt λ RR hR=>?_
   obtain g'|f'|I'|m3:=Q;have a':j<o.length:=by rw[bS]at E;exact E
   have b':=ok.free j a';have j':((D.mN.fz en o).dX (o.take j)).Cn o[j]/\((D.mN.fz en o).dX (o.take j)).Qy o[j]=0/\((D.mN.fz en o).dX (o.take j)).zfr o[j]=aj:=by
    cases i:o[j]with
    |t k=>rw[i]at b';exact cY b'.1 b'.2.1 b'.2.2.1
    |s k=>rw[i]at b';exact cY b'.1 b'.2.1 b'.2.2.1
   obtain bl|wk|ds|r|C:=I'.w.aaJ j'.1;rw[j'.2.1,j'.2.2]at C;have hc:=I'.w.jh;rw[HI I'.m1 I'.m2 m3,gM,<-l'.tag,<-I.hs.tag,<-I'.hs.tag];refine cH C (hY ..) ag ?_;refine sEq (a:=0) (b:=0) (v:=ai) Y ag ?_;refine cH C (Jh ..) ag (ei hc (MW ..) ag ?_);refine sC (Sw (d:=d+6) I'.w b') ag ?_;rintro v H2 n2 ⟨_,P3,S3,w3,i',p',d'⟩;refine O1 hR ⟨P3,S3,⟨ag,ag,?_,I'.hs.trans i',I'.hg.trans p',(wW I'.hn d')⟩,ag⟩;show Wd X ((D.mN.fz en o).dX (o.take (j+1))) P3 S3 H2 n2;rw[jH a'];unfold Co.dX;rw[wa];exact w3
  .obtain g'|f'|I'|m3:=Q;have r':Wd X ((D.mN.fz en o).dX o) g' f' h' n':=by have:=I'.w;rwa [bS,km]at this
   exact sGe u (hI _ _ _ _ _ r' ((l'.trans I.hs).trans I'.hs) (o'.trans (I.hg.trans I'.hg)) I'.hn I'.m1 I'.m2)
def abB(X:Fx)(K:Kx)(en:V->Option J)(I:Co)(P:Pt)(S:Hp)(n0 m:J)(u:Lc)(H:Hp)(n:J):be:=
 ∃D B y,gC K en m D I/\Wd X D B y H n/\fw P B/\Ge S y/\n0<=n/\Told [("self",↥X.aC),("start",.int 0)] u
theorem Jq{m:J}{g:Co}{en:V->Option J}(i:gC K en m D g)(hm:m<1000)(w:Wd X D P S H n)(f:pS X K S)(l:∀c,c<4->en (.str (K.nm c))=K.dI c):
 ba (d+10) #[470] [↥X.aC,.int 0] H n λ v H' n'=>v=.none/\∃B o,Wd X g B o H' n'/\fw P B/\Ge S o/\n<=n':=by
 refine aE VZ (aP (sWh (cf:=aq G (d+9)) (cs:=[]) (c:=wc wy 0) (a:=wb wy 0) (abB X K en g P S n) m (Xc hm) ⟨D,P,S,i,w,fw.refl _,Ge.refl _,aS _,ag⟩ ag ?_));rintro m u H' n' ⟨E,B,o,i,s,hs,hg,hn,tl⟩;have t:E.zero.length<=1000:=by
  cases i with
  |done h=>rw[h];exact cG _
  |aQ h1 h2 I=>have:=h2.len;exact OJ this
 rw[tl.lay];refine cH s.jh (gX ..) ag (cH s.heap (qj ..) ag (sLn s.zero (bS _) t ag ?_));cases i with
 |done h=>exact Gc (x:=(g.zero.length:J)) (y:=0) (b:=aj) (by rw[h];rfl) ag (sGb ag (sQ .next ag Y ⟨Y,B,o,s,hs,hg,hn⟩))
 |aQ h1 h2 I=>refine Gc (decide_eq_true (j9.mpr (BV.mpr h1))) ag (sBe (cf:=aq G (d+9)) (cs:=[]) (b:=wb wy 0) tl.lay (QV (d:=d) s (f.ge hg) l h2 (wc wy 0) _ Y tl.hd tl.tl.hd λ A p q H2 e L k j C r z=>?_));exact⟨_,cQ _,_,p,q,I,L,hs.trans k,hg.trans j,wW hn C,.cons r (.cons z .nil)⟩
end
end
theorem sB{α:Type}(r:α->α->be)(i:∀a,¬r a a)(t:∀a b c,r a b->r b c->r a c)(l:List α):∀Q:List α,l.Pairwise r->Q.Pairwise r->(∀x,x∈l↔x∈Q)->l=Q:=by
 induction l with
 |nil=>
  intro Q _ _ h;cases Q with
  |nil=>rfl
  |cons b Q=>exact absurd ((h b).mpr (.head _)) eI
 |cons a l X=>
  intro Q h1 h2 h;cases Q with
  |nil=>exact absurd ((h a).mp (.head _)) eI
  |cons b Q=>
  rw[wY]at h1 h2;have d:a=b:=by
   have ha:=(h a).mp (by simp);have hb:=(h b).mpr (by simp);cases ha with
   |head=>rfl
   |tail _ ha=>
    cases hb with
    |head=>rfl
    |tail _ hb=>exact absurd (t _ _ _ (h2.1 a ha) (h1.1 b hb)) (i b)
  subst d;congr 1;refine X Q h1.2 h2.2 λ x=>⟨λ g=>?_,λ g=>?_⟩
  .have:=(h x).mp (by simp[g]);cases this with
   |head=>exact absurd (h1.1 _ g) (i _)
   |tail _ this=>exact this
  .have:=(h x).mpr (by simp[g]);cases this with
   |head=>exact absurd (h2.1 _ g) (i _)
   |tail _ this=>exact this
theorem mf(num:Z->Int):∀(zs:List Z),(zs.map num).Nodup->∀z∈zs,zs.find? (λ y=>decide (num y=num z))=U z
 |[],_,z,m=>by cases m
 |a::r,hn,z,m=>by
  rw[bW,ku]at hn;rw[im];by_cases h:num a=num z
  .simp only[h,decide_true];cases m with
   |head=>rfl
   |tail _ m=>exact absurd (bI.mpr ⟨z,m,h.symm⟩) hn.1
  .simp only[h,decide_false];cases m with
   |head=>exact absurd Y h
   |tail _ m=>exact mf num r hn.2 z m
theorem j6(num:Z->Int)(zs:List Z)(hn:(zs.map num).Nodup):∀(l:List Int),(∀i∈l,i∈zs.map num)->(l.filterMap λ i=>zs.find? λ z=>decide (num z=i)).map num=l
 |[],_=>rfl
 |i::l,h=>by obtain z|m|rfl:=bI.mp (h i (by simp));rw[jI,mf num zs hn z m];simp only[bW,j6 num zs hn l (λ i hi=>h i (by simp[hi]))]
theorem HB(num:Z->Int)(zs:List Z)(hn:(zs.map num).Nodup):(pR num zs).map num=sortI (zs.map num):=
 j6 num zs hn _ λ i hi=>(sortI_perm _).mem_iff.mp hi
theorem xS(num:Z->Int)(zs:List Z)(hn:(zs.map num).Nodup)(z:Z):z∈pR num zs↔z∈zs:=by
 unfold pR;rw[oK];constructor
 .rintro⟨i,_,h⟩;exact wz h
 .intro h;exact cC (num z) ((sortI_perm _).mem_iff.mpr (bI.mpr ⟨z,h,Y⟩)) (mf num zs hn z h)
theorem mS{l:List Int}(hn:l.Nodup):(sortI l).Pairwise (·<·):=by have h1:=mQ l;have h2:(sortI l).Nodup:=(sortI_perm l).nodup_iff.mpr hn;exact(h1.and h2).imp λ⟨a,b⟩=>by omega
theorem pb(num:Z->Int)(zs:List Z)(hn:(zs.map num).Nodup):(pR num zs).Pairwise λ a b=>num a<num b:=by have:=mS hn;rw[<-HB num zs hn,pq]at this;exact this
theorem DM(num:Z->Int)(zs:List Z)(hn:(zs.map num).Nodup):(pR num zs).Perm zs:=by
 have h1:(pR num zs).Nodup:=(pb num zs hn).imp λ{a b} h e=>by rw[e]at h;exact I5 h
 have h2:zs.Nodup:=by have:=pq.mp hn;exact this.imp λ{a b} h e=>h (by rw[e])
 exact(List.perm_ext_iff_of_nodup h1 h2).mpr λ z=>xS num zs hn z
theorem MT(num:Z->Int)(zs o:List Z)(hn:(zs.map num).Nodup)(f:o.Pairwise λ a b=>num a<num b)(hm:∀z,z∈o↔z∈zs):pR num zs=o:=
 sB (λ a b=>num a<num b) (λ a h=>(I5 h)) (λ a b c h1 h2=>(OI h1 h2)) _ _ (pb num zs hn) f λ z=>(xS num zs hn z).trans (hm z).symm
noncomputable def py(D:Co)(q:List J):J->Sc:=λ j=>if j∈q then{D.sc j with aC:=(D.sc j).aC -1}else D.sc j
theorem CG:∀(q:List J)(D:Co),q.Nodup->(∀j∈q,(D.sc j).aC=1)->D.lX q={D with sc:=py D q,zero:=D.zero++q.map .s}
 |[],D,_,_=>by
  have:py D []=D.sc:=by funext j;simp[py]
  rw[this];simp[Co.lX]
 |a::q,D,hn,h=>by
  rw[ku]at hn;have h1:D.lX (a::q)=(D.yQ a).lX q:=rfl;rewrite[h1,CG q (D.yQ a) hn.2 (λ j E=>?_)]
  .have ha:=h a (by simp);have m:(D.yQ a).zero=D.zero++[.s a]:=by unfold Co.yQ;dsimp only;rw[ha];simp
   have hs:py (D.yQ a) q=py D (a::q):=by
    funext j;unfold py Co.yQ;by_cases e:j=a
    .obtain rfl:=e.symm;simp[hn.1,ah]
    .simp[e,ah]
   rw[hs,m];unfold Co.yQ;simp
  .have e:j≠a:=λ e=>hn.1 (e▸E)
   unfold Co.yQ;dsimp only;rw[ae e];exact h j (by simp[E])
noncomputable def qf(D:Co)(ks:List J):J->Th:=λ k=>if k∈ks then{D.th k with fr:=ai,ps:=[],ks:=[]}else D.th k
theorem uu:∀(ks:List J)(D:Co),ks.Nodup->(ks.flatMap λ k=>(D.th k).ps).Nodup->(∀k∈ks,∀j∈(D.th k).ps,(D.sc j).aC=1)->
 D.dX (ks.map .t)={D with th:=qf D ks,sc:=py D (ks.flatMap λ k=>(D.th k).ps),zero:=D.zero++(ks.flatMap λ k=>(D.th k).ps).map .s}
 |[],D,_,_,_=>by
  have h1:py D []=D.sc:=by funext j;simp[py]
  have h2:qf D []=D.th:=by funext j;simp[qf]
  simp[Co.dX,h1,h2]
 |a::ks,D,hn,hp,h=>by
  rw[ku]at hn;rw[dR,kC]at hp;have h1:D.dX ((a::ks).map .t)=(D.iq a).dX (ks.map .t):=rfl;have Q:D.iq a={D with th:=qf D [a],sc:=py D (D.th a).ps,zero:=D.zero++(D.th a).ps.map .s}:=by
   unfold Co.iq;refine(CG (D.th a).ps ({D with th:=ah D.th a {D.th a with fr:=ai,ps:=[],ks:=[]}}:Co) hp.1 (λ j E=>h a (by simp) j E)).trans ?_;have:qf D [a]=ah D.th a {D.th a with fr:=ai,ps:=[],ks:=[]}:=by
    funext k;unfold qf ah;by_cases e:k=a
    .obtain rfl:=e.symm;simp
    .simp[e]
   rw[this];rfl
  have w:∀k∈ks,((D.iq a).th k)=D.th k:=by
   intro k C;rw[Q];show qf D [a] k=_;have:k≠a:=λ e=>hn.1 (e▸C)
   simp[qf,this]
  have f:(ks.flatMap λ k=>((D.iq a).th k).ps)=ks.flatMap λ k=>(D.th k).ps:=by
   have:∀l:List J,(∀k∈l,(D.iq a).th k=D.th k)->(l.flatMap λ k=>((D.iq a).th k).ps)=l.flatMap λ k=>(D.th k).ps:=by
    intro l L
    induction l with
    |nil=>rfl
    |cons x r X=>rw[dR,dR,L x (by simp),X λ k C=>L k (by simp[C])]
   exact this ks w
  rewrite[h1,uu ks (D.iq a) hn.2 (by rw[f];exact hp.2.1) (λ k C j E=>?_),f]
  .have B:qf (D.iq a) ks=qf D (a::ks):=by
    funext k;rw[Q];unfold qf;by_cases b:k=a
    .obtain rfl:=b.symm;simp[hn.1]
    .by_cases C:k∈ks<;>simp[b,C]
   have I:py (D.iq a) (ks.flatMap λ k=>(D.th k).ps)=py D ((a::ks).flatMap λ k=>(D.th k).ps):=by
    funext j;rw[Q];unfold py;by_cases E:j∈(D.th a).ps
    .have:j∉ks.flatMap λ k=>(D.th k).ps:=λ h'=>hp.2.2 j E j h' Y
     simp only[this,if_false,dR,eE,E,true_or,if_true]
    .simp only[dR,eE,E,false_or,if_false]
   rw[B,I];rw[Q];simp
  .rw[w k C]at E;have c:j∈ks.flatMap λ k=>(D.th k).ps:=iU.mpr ⟨k,C,E⟩
   have:j∉(D.th a).ps:=λ h'=>hp.2.2 j h' j c Y
   rw[Q];show(py D _ j).aC=1;unfold py;rw[if_neg this];exact h k (by simp[C]) j E
noncomputable def ib(D:Co)(ks:List J):J->Th:=λ k=>if k∈ks then{D.th k with ds:=ai}else D.th k
noncomputable def b0(en:V->Option J)(D:Co)(ks:List J):List (J×J):=ks.filterMap λ k=>(en (D.th k).bl).map λ e=>(k,e)
theorem xz(en:V->Option J):∀(ks:List J)(D:Co),D.fz en (ks.map .t)={D with th:=ib D ks,ax:=D.ax++b0 en D ks}
 |[],D=>by
  have h2:ib D []=D.th:=by funext j;simp[ib]
  simp[Co.fz,b0,h2]
 |a::ks,D=>by
  have h1:D.fz en ((a::ks).map .t)=(D.Aj a (en (D.th a).bl)).fz en (ks.map .t):=rfl;have Q:D.Aj a (en (D.th a).bl)={D with th:=ib D [a],ax:=D.ax++b0 en D [a]}:=by
   have:ib D [a]=ah D.th a {D.th a with ds:=ai}:=by
    funext k;unfold ib ah;by_cases e:k=a
    .obtain rfl:=e.symm;simp
    .simp[e]
   rw[this];unfold Co.Aj Co.called Co.dsT b0;cases h:en (D.th a).bl<;>simp[h]
  have w:∀k,((D.Aj a (en (D.th a).bl)).th k).bl=(D.th k).bl:=by intro k;rw[Q];show(ib D [a] k).bl=_;unfold ib;split<;>rfl
  rw[h1,xz en ks];have f:b0 en (D.Aj a (en (D.th a).bl)) ks=b0 en D ks:=by unfold b0;congr 1;funext k;rw[w]
  have B:ib (D.Aj a (en (D.th a).bl)) ks=ib D (a::ks):=by
   funext k;rw[Q];unfold ib;by_cases b:k=a
   .obtain rfl:=b.symm;by_cases C:a∈ks<;>simp[C]
   .by_cases C:k∈ks<;>simp[b,C]
  rw[f,B,Q];have I:b0 en D (a::ks)=b0 en D [a]++b0 en D ks:=by unfold b0;rw[<-JW];rfl
  rw[I];simp
noncomputable def fo(D:Co)(q:List J)(k:J):J:=(q.filter λ j=>decide ((D.sc j).val=U k)).length
noncomputable def BZ(D:Co)(q:List J):J->Sc:=λ j=>if j∈q then{D.sc j with fr:=ai,val:=F}else D.sc j
noncomputable def Lv(D:Co)(q:List J):J->Th:=λ k=>{D.th k with aC:=(D.th k).aC -(fo D q k:Int)}
theorem yK(D:Co)(a:J)(q:List J)(k:J):fo D (a::q) k=(if(D.sc a).val=U k then 1 else 0)+fo D q k:=by
 unfold fo;rw[jf];by_cases h:(D.sc a).val=U k
 .simp[h,ko]
 .simp[h]
theorem Na(D:Co)(p q:List J)(k:J):fo D (p++q) k=fo D p k+fo D q k:=by unfold fo;rw[List.filter_append,cE]
theorem oz{D I:Co}(h:∀j∈q,(I.sc j).val=(D.sc j).val)(k:J):fo I q k=fo D q k:=by unfold fo;congr 1;apply G3;intro j E;rw[h j E]
theorem xo{p q:List J}(h:p.Perm q)(k:J):fo D p k=fo D q k:=(h.filter _).length_eq
theorem DB(q:List J):∀(D:Co),q.Nodup->(∀j∈q,∃t,(D.sc j).val=U t)->(∀k,0<fo D q k->(fo D q k:Int)<=(D.th k).aC)->
 ∃B:List J,D.dX (q.map .s)={D with sc:=BZ D q,th:=Lv D q,zero:=D.zero++B.map .t}/\B.Nodup/\∀k,k∈B↔0<fo D q k/\(D.th k).aC=(fo D q k:Int):=by
 induction q with
 |nil=>
  intro D _ _ _;have h1:BZ D []=D.sc:=by funext j;simp[BZ]
  have h2:Lv D []=D.th:=by funext j;simp[Lv,fo]
  refine gc [] ?_ fJ (λ k=>?_)
  .rw[h1,h2];simp[Co.dX]
  .simp[fo]
 |cons a q X=>
  intro D hn z hc;rw[ku]at hn;obtain o|I:=z a (by simp);have h1:D.dX ((a::q).map .s)=(D.fI a).dX (q.map .s):=rfl;have Q:D.fI a={D with sc:=ah D.sc a {D.sc a with fr:=ai,val:=F},th:=ah D.th o {D.th o with aC:=(D.th o).aC -1},zero:=if(D.th o).aC -1=0 then D.zero++[.t o]else D.zero}:=by unfold Co.fI;rw[I];rfl
  have es:∀j∈q,(D.fI a).sc j=D.sc j:=by
   intro j E;have:j≠a:=λ e=>hn.1 (e▸E)
   rw[Q];exact ae this
  have l:∀k,fo (D.fI a) q k=fo D q k:=λ k=>oz (λ j E=>by rw[es j E]) k
  have d:∀k,fo D (a::q) k=(if k=o then 1 else 0)+fo D q k:=by
   intro k;rw[yK,I];by_cases h:k=o
   .simp[h]
   .have:¬o=k:=λ e=>h e.symm
    simp[h,this]
  have n:∀k,((D.fI a).th k).aC=(D.th k).aC -(if k=o then 1 else 0):=by
   intro k;rw[Q];show(ah D.th o _ k).aC=_;by_cases h:k=o
   .obtain rfl:=h.symm;rw[aa];simp
   .rw[ae h];simp[h]
  have g:=hc o (by rw[d];simp;exact aaR);rw[d,if_pos Y]at g;obtain B|y|i|f:=X (D.fI a) hn.2 (λ j E=>by rw[es j E];exact z j (by simp[E])) (λ k C=>by
   rw[l]at C⊢;rw[n];by_cases h:k=o
   .obtain rfl:=h.symm;simp;exact Ys g
   .have:=hc k (by rw[d];exact Pq C);rw[d]at this;simp[h]at this⊢;exact U8 this)
  have v:∀j,j≠a->(D.fI a).sc j=D.sc j:=λ j h=>by rw[Q];exact ae h
  have w:(D.fI a).sc a={D.sc a with fr:=ai,val:=F}:=by rw[Q];exact aa ..
  have b:BZ (D.fI a) q=BZ D (a::q):=by
   funext j;unfold BZ;by_cases e:j=a
   .obtain rfl:=e.symm;simp only[hn.1,if_false,dK,true_or,if_true,w]
   .simp only[v j e,dK,e,false_or]
  have p:Lv (D.fI a) q=Lv D (a::q):=by
   funext k;unfold Lv;rw[l,d,n];have:∀c,({(D.fI a).th k with aC:=c}:Th)={D.th k with aC:=c}:=by
    intro c;rw[Q];show({(ah D.th o _ k)with aC:=c}:Th)=_;by_cases h:k=o
    .obtain rfl:=h.symm;rw[aa]
    .rw[ae h]
   rw[this];have e:(D.th k).aC -(if k=o then 1 else 0) -(fo D q k:Int)=(D.th k).aC -(((if k=o then 1 else 0)+fo D q k:J):Int):=by
    by_cases h:k=o
    .rw[if_pos h,if_pos h];exact aaI
    .rw[if_neg h,if_neg h];exact YS
   rw[e]
  rw[h1,y,b,p];by_cases m:(D.th o).aC -1=0
  .have Fk:fo D q o=0:=(YA m g);have r:o∉B:=by intro h;have:=(f o).mp h;rw[l]at this;exact WU this Fk
   refine gc (o::B) ?_ (ku.mpr ⟨r,i⟩) (λ k=>?_)
   .rw[Q];simp[m]
   .rw[dK,f,l,d,n];by_cases h:k=o
    .obtain rfl:=h.symm;simp[Fk];exact WM m
    .simp[h]
  .refine gc B ?_ i (λ k=>?_)
   .rw[Q];simp[m]
   .rw[f,l,d,n];by_cases h:k=o
    .obtain rfl:=h.symm;simp;exact Wj m
    .simp[h]
noncomputable def cA(pl:List (Option J))(tg:J->List J)(A:List J)(k:J):J:=pl.count (U k)+(A.flatMap tg).count k
noncomputable def bp(pl:List (Option J))(tg:J->List J)(A:List J):List J:=A.filter λ k=>decide (cA pl tg A k=0)
noncomputable def cw(A w:List J):List J:=A.filter λ k=>decide (k∉w)
noncomputable def dq(e:J->Option J)(w:List J):List (J×J):=w.filterMap λ k=>(e k).map λ c=>(k,c)
noncomputable def bV(pl:List (Option J))(tg:J->List J)(e:J->Option J):J->List J->List (J×J)×List J
 |0,A=>([],A)
 |m+1,A=>if bp pl tg A=[]then([],A)else
  (dq e (bp pl tg A)++(bV pl tg e m (cw A (bp pl tg A))).1,(bV pl tg e m (cw A (bp pl tg A))).2)
structure Inv(K:Kx)(pl:List (Option J))(tg:J->List J)(A:List J)(D:Co)(q:List J):Prop where
 vK:A.Pairwise (·<·)
 lt:∀k∈A,k<D.nt
 fr:∀k,k<D.nt->(D.th k).fr=!(decide (k∈A))
 ds:∀k∈A,(D.th k).ds=aj
 bl:∀k∈A,∃c,c<4/\(D.th k).bl=.str (K.nm c)
 ok:∀k∈A,(D.th k).ok
 num:∀a b,a<b->b<D.nt->(D.th a).num<(D.th b).num
 gD:∀a b,a<b->b<D.ns->(D.sc a).num<(D.sc b).num
 ps:∀k∈A,∀j∈(D.th k).ps,j<D.ns/\3<=j/\(D.sc j).aC=1/\(D.sc j).fr=aj
 sK:∀k∈A,∀t∈tg k,t∈A
 link:∀k∈A,(D.th k).ps.map (λ j=>(D.sc j).val)=(tg k).map U
 nd:(A.flatMap λ k=>(D.th k).ps).Nodup
 qn:q.Nodup
 qs:∀j∈q,j<D.ns/\3<=j/\(D.sc j).aC=0/\(D.sc j).fr=aj/\(∃t∈A,(D.sc j).val=U t)/\j∉A.flatMap λ k=>(D.th k).ps
 aC:∀k∈A,(D.th k).aC=((cA pl tg A k+fo D q k:J):Int)
 size:(A.flatMap λ k=>(D.th k).ps).length+q.length<=50
 cl:D.ax.length+A.length<=60
def ZT(A:List J)(D:Co):be:=∃z:List J,D.zero=z.map .t/\z.Nodup/\∀k,k∈z↔k∈A/\(D.th k).aC=0
theorem fh{α β:Type}(f:α->List β){l Q:List α}(h:l.Sublist Q):(l.flatMap f).Sublist (Q.flatMap f):=by
 induction h with
 |slnil=>exact .slnil
 |cons a _ X=>rw[dR];exact X.trans (List.sublist_append_right _ _)
 |cons_cons a _ X=>rw[dR,dR];exact(BJ _).append X
theorem Az{α β:Type}[DecidableEq α](f:α->List β){l:List α}:(l.flatMap f).Nodup->∀{a b:α},a∈l->b∈l->a≠b->∀{x:β},x∈f a->x∉f b:=by
 induction l with
 |nil=>intro _ a b ha;cases ha
 |cons c l X=>
  intro h a b ha hb d x g;rw[dR,kC]at h;intro t;cases ha with
  |head=>
   cases hb with
   |head=>exact d Y
   |tail _ hb=>exact h.2.2 x g x (iU.mpr ⟨b,hb,t⟩) Y
  |tail _ ha=>
   cases hb with
   |head=>exact h.2.2 x t x (iU.mpr ⟨a,ha,g⟩) Y
   |tail _ hb=>exact X h.2.1 ha hb d g t
theorem Ap(tg:J->List J)(p:J->bG)(k:J)(A:List J):(A.flatMap tg).count k=((A.filter p).flatMap tg).count k+((A.filter λ a=>!p a).flatMap tg).count k:=by
 induction A with
 |nil=>rfl
 |cons a r X=>
  rw[dR,nG,jf,jf];cases h:p a with
  |true=>simp only[if_true,j7,d0,if_false,dR,nG];exact PE X
  |false=>simp only[d0,if_false,rP,if_true,dR,nG];exact Pc X
theorem J8{β:Type}(f:J->List β)(p:J->bG)(A:List J):(A.flatMap f).length=((A.filter p).flatMap f).length+((A.filter λ a=>!p a).flatMap f).length:=by
 induction A with
 |nil=>rfl
 |cons a r X=>
  rw[dR,cE,jf,jf];cases h:p a with
  |true=>simp only[if_true,j7,d0,if_false,dR,cE];exact PE X
  |false=>simp only[d0,if_false,rP,if_true,dR,cE];exact Pc X
theorem qy(pl:List (Option J))(tg:J->List J)(A:List J):cw A (bp pl tg A)=A.filter λ k=>!(decide (cA pl tg A k=0)):=by unfold cw;apply G3;intro k C;unfold bp;simp[lC,C]
theorem bQ{α β:Type}{f g:α->List β}:∀{l:List α},(∀a∈l,f a=g a)->l.flatMap f=l.flatMap g
 |[],_=>rfl
 |a::l,h=>by rw[dR,dR,h a (by simp),bQ λ b hb=>h b (by simp[hb])]
theorem Iq{D:Co}:∀{w:List J},(∀k∈w,(D.th k).ps.map (λ j=>(D.sc j).val)=(tg k).map U)->∀k,fo D (w.flatMap λ k=>(D.th k).ps) k=(w.flatMap tg).count k
 |[],_,k=>rfl
 |a::w,h,k=>by
  rw[dR,dR,Na,nG,Iq λ b hb=>h b (by simp[hb])];congr 1;have h1:=h a (by simp);have h2:fo D (D.th a).ps k=((D.th a).ps.map λ j=>(D.sc j).val).count (U k):=by
   unfold fo;generalize(D.th a).ps=l
   induction l with
   |nil=>rfl
   |cons x r X=>
    rw[jf,bW,oR];by_cases g:(D.sc x).val=U k
    .simp only[g,decide_true,if_true,eF,X,beq_self_eq_true]
    .simp only[g,decide_false,d0,if_false,X];rw[if_neg (by simpa using g)];rfl
  rw[h2,h1];generalize tg a=l
  induction l with
  |nil=>rfl
  |cons x r X=>rw[bW,oR,oR,X];by_cases g:x=k<;>simp[g]
section
variable{K:Kx}{pl:List (Option J)}{tg:J->List J}{A:List J}{D:Co}{en:V->Option J}
theorem Inv.target(h:Inv K pl tg A D [])(C:k∈A)(ht:t∈tg k):t∉bp pl tg A:=by intro c;have:=(lC.mp c).2;simp only[decide_eq_true_eq]at this;unfold cA at this;have h2:0<(A.flatMap tg).count t:=wI.mpr (iU.mpr ⟨k,C,ht⟩);exact Zi h2 this
theorem Inv.tgv(h:Inv K pl tg A D q)(C:k∈A)(E:j∈(D.th k).ps):∃t∈tg k,(D.sc j).val=U t:=by have:=h.link k C;have h2:(D.sc j).val∈(D.th k).ps.map (λ j=>(D.sc j).val):=bI.mpr ⟨j,E,Y⟩;rw[this]at h2;obtain t|ht|e:=bI.mp h2;exact cC t ht e.symm
theorem Inv.E7(h:Inv K pl tg A D [])(k:J):k∈bp pl tg A↔k∈A/\(D.th k).aC=0:=by
 unfold bp;rw[lC];constructor
 .rintro⟨h1,h2⟩;refine⟨h1,?_⟩;rw[h.aC k h1];simp only[decide_eq_true_eq]at h2;rw[h2];rfl
 .rintro⟨h1,h2⟩;refine⟨h1,?_⟩;rw[h.aC k h1]at h2;simp only[decide_eq_true_eq];exact WS h2
theorem fb{α:Type}{l:List α}(h:l.Nodup)(hi:i<l.length):l[i]∉l.take i:=by
 intro hm;have I:l=l.take i++l[i]::l.drop (i+1):=by rw[<-wV hi,sF]
 rw[I,kC]at h;exact h.2.2 _ hm _ z6 Y
theorem Inv.yv(h:Inv K pl tg A D q):D.yv:=by
 intro a b ha hb e;rcases JK a b with d|d|d
 .have:=h.num a b d hb;exact OX this e
 .exact d
 .have:=h.num b a d ha;exact Ps this e
theorem pG(en:V->Option J)(D:Co)(l:List J):(b0 en D l).length<=l.length:=wQ _ _
theorem ZS(h:Inv K pl tg A D [])(m:ZT A D)(f:bp pl tg A≠[]):
 D.TurnOk K en ((bp pl tg A).map .t)/\
 D.aQ en ((bp pl tg A).map .t)={D with th:=qf {D with th:=ib D (bp pl tg A)} (bp pl tg A),sc:=py D ((bp pl tg A).flatMap λ k=>(D.th k).ps),zero:=((bp pl tg A).flatMap λ k=>(D.th k).ps).map .s,ax:=D.ax++b0 en D (bp pl tg A)}:=by
 obtain z|B|z2|H:=m;generalize v:bp pl tg A=w at f⊢;have I:∀k,k∈w↔k∈A/\(D.th k).aC=0:=λ k=>v▸h.E7 k
 have y:w.Sublist A:=by rw[<-v];exact uN
 have q:∀k∈w,k∈A:=λ k C=>((I k).mp C).1
 have i':w.Pairwise (·<·):=h.vK.sublist y;have f':w.Nodup:=i'.imp λ{a b} h e=>(il h e)
 have g':(w.flatMap λ k=>(D.th k).ps).Nodup:=h.nd.sublist (fh _ y);have n:w.length<=A.length:=y.length_le;have r:=h.cl;have fin:∀l,D.mN.fz en (l.map .t)={D.mN with th:=ib D l,ax:=D.ax++b0 en D l}:=λ l=>xz en l D.mN
 have a':∀l k,(ib D l k).ps=(D.th k).ps:=by intro l k;unfold ib;split<;>rfl
 have j':∀l k,(ib D l k).aC=(D.th k).aC:=by intro l k;unfold ib;split<;>rfl
 have k':∀l k,(ib D l k).fr=(D.th k).fr:=by intro l k;unfold ib;split<;>rfl
 have b':∀l,l.Sublist w->({D.mN with th:=ib D w,ax:=D.ax++b0 en D w}:Co).dX (l.map .t)={D with th:=qf {D with th:=ib D w} l,sc:=py D (l.flatMap λ k=>(D.th k).ps),zero:=(l.flatMap λ k=>(D.th k).ps).map .s,ax:=D.ax++b0 en D w}:=by
  intro l L;have P:(l.flatMap λ k=>(({D.mN with th:=ib D w,ax:=D.ax++b0 en D w}:Co).th k).ps)=l.flatMap λ k=>(D.th k).ps:=bQ λ k _=>a' w k
  have:=uu l ({D.mN with th:=ib D w,ax:=D.ax++b0 en D w}:Co) (f'.sublist L) (by rw[P];exact g'.sublist (fh _ L)) (λ k C j E=>by rw[show(({D.mN with th:=ib D w,ax:=D.ax++b0 en D w}:Co).th k).ps=(D.th k).ps from a' w k]at E;exact(h.ps k (q k (L.subset C)) j E).2.2.1)
  rw[P]at this;exact this
 have h':D.zero.map D.znum=z.map λ k=>(D.th k).num:=by rw[B,hH];rfl
 have o:(D.zero.map D.znum).Nodup:=by rw[h'];refine pq.mpr (xg (λ{a b} ha hb d e=>d ?_) z2);exact h.yv a b (h.lt a ((H a).mp ha).1) (h.lt b ((H b).mp hb).1) e
 have l':z.length<=A.length:=iZ z A z2 λ k C=>((H k).mp C).1
 refine⟨⟨?_,o,?_,?_,?_,?_⟩,?_⟩
 .intro x g;rw[B]at g;obtain k|C|rfl:=bI.mp g;obtain X|S:=(H k).mp C;refine cY (h.lt k X) S ?_;show(D.th k).fr=aj;rw[h.fr k (h.lt k X)];simp[X]
 .rw[B,bS];exact Ye r l'
 .refine(MT _ _ _ o ?_ ?_).symm
  .rw[pq];exact xg (λ{a b} ha hb d=>h.num a b d (h.lt b (q b hb))) i'
  .intro x;rw[B];simp only[bI];constructor
   .rintro⟨k,C,rfl⟩;exact cC k ((H k).mpr ((I k).mp C)) Y
   .rintro⟨k,C,rfl⟩;exact cC k ((I k).mpr ((H k).mp C)) Y
 .intro i hi;rw[bS]at hi;rw[<-qZ,fin,gM];have C:=jP hi;have Q:=q _ C;have c':=fb f' hi;have d':ib D (w.take i) w[i]=D.th w[i]:=by unfold ib;rw[if_neg c']
  refine⟨h.lt _ Q,?_,?_,?_,?_,?_⟩
  .show(ib D (w.take i) w[i]).aC=0;rw[d'];exact((I _).mp C).2
  .show(ib D (w.take i) w[i]).ds=aj;rw[d'];exact h.ds _ Q
  .show∃c,c<4/\(ib D (w.take i) w[i]).bl=_;rw[d'];exact h.bl _ Q
  .show(D.ax++b0 en D (w.take i)).length<=900;have:=pG en D (w.take i);rw[cE];rw[nx]at this;exact XV r n this
  .intro a b ha hb e;have e':(ib D (w.take i) a).num=(ib D (w.take i) b).num:=e;have:∀x,(ib D (w.take i) x).num=(D.th x).num:=by intro x;unfold ib;split<;>rfl
   rw[this,this]at e';exact h.yv a b ha hb e'
 .intro i hi;rw[bS]at hi;rw[fin,<-qZ,b' _ (rG _ _),gM];have C:=jP hi;have Q:=q _ C;have c':=fb f' hi;have p:qf {D with th:=ib D w} (w.take i) w[i]={D.th w[i]with ds:=ai}:=by unfold qf;rw[if_neg c'];show ib D w w[i]=_;unfold ib;rw[if_pos C]
  refine⟨h.lt _ Q,?_,?_,?_,?_,?_⟩
  .show(qf {D with th:=ib D w} (w.take i) w[i]).aC=0;rw[p];exact((I _).mp C).2
  .show(qf {D with th:=ib D w} (w.take i) w[i]).fr=aj;rw[p];show(D.th w[i]).fr=aj;rw[h.fr _ (h.lt _ Q)];simp[Q]
  .show(qf {D with th:=ib D w} (w.take i) w[i]).ok;rw[p];exact h.ok _ Q
  .show∀j∈(qf {D with th:=ib D w} (w.take i) w[i]).ps,j<D.ns;rw[p];exact λ j E=>(h.ps _ Q j E).1
  .show(((w.take i).flatMap λ k=>(D.th k).ps).map Z.s).length+(qf {D with th:=ib D w} (w.take i) w[i]).ps.length<=1000;rw[p,bS];have h1:=(fh (λ k=>(D.th k).ps) ((rG (i+1) w).trans y)).length_le;rw[jH hi,v7,cE]at h1;have:=h.size;simp at h1 this⊢;exact VT h1 this
 .unfold Co.aQ;rw[fin,b' w (BJ _)]
theorem bF{A w:List J}:k∈cw A w↔k∈A/\k∉w:=by unfold cw;rw[lC];simp
theorem xL(p:J->bG)(A:List J):A.length=(A.filter p).length+(A.filter λ a=>!p a).length:=by
 induction A with
 |nil=>rfl
 |cons a r X=>
  rw[jf,jf];cases h:p a with
  |true=>simp only[if_true,j7,d0,if_false,eF];exact Uf X
  |false=>simp only[d0,if_false,rP,if_true,eF];exact TJ X
noncomputable def unS:Z->J
 |.s j=>j
 |.t k=>k
theorem Cv(l:List J):(l.map Z.s).map unS=l:=by rw[hH];exact(ef (g:=id) λ _ _=>rfl).trans (List.map_id _)
theorem kW{pl:List (Option J)}{tg:J->List J}{A:List J}:(cw A (bp pl tg A)).length+(bp pl tg A).length=A.length:=by rw[qy];unfold bp;have:=xL (λ k=>decide (cA pl tg A k=0)) A;exact V3 this
structure Fr(A:List J)(D D':Co):Prop where
 last:D'.last=D.last
 nt:D'.nt=D.nt
 ns:D'.ns=D.ns
 b9:D'.b9=D.b9
 av:D'.av=D.av
 bA:D'.bA=D.bA
 cO:D'.cO=D.cO
 dH:D'.dH=D.dH
 num:∀k,(D'.th k).num=(D.th k).num/\(D'.th k).hs=(D.th k).hs/\(D'.th k).bl=(D.th k).bl
 gD:∀j,(D'.sc j).num=(D.sc j).num
 ps:∀k∈A,(D'.th k).ps=(D.th k).ps/\(D'.th k).ks=(D.th k).ks
 pl:∀j,j<3->D'.sc j=D.sc j
 BI:∀k,(D'.th k).ps=(D.th k).ps\/(D'.th k).ps=[]
theorem Fr.refl(A:List J)(D:Co):Fr A D D:=⟨Y,Y,Y,Y,Y,Y,Y,Y,λ _=>⟨Y,Y,Y⟩,λ _=>rfl,λ _ _=>⟨Y,Y⟩,λ _ _=>rfl,λ _=>.inl Y⟩
theorem Fr.trans{A a:List J}{D I d:Co}(h:Fr A D I)(h':Fr a I d)(q:∀k∈a,k∈A):Fr a D d:=
 ⟨h'.last.trans h.last,h'.nt.trans h.nt,h'.ns.trans h.ns,h'.b9.trans h.b9,h'.av.trans h.av,h'.bA.trans h.bA,h'.cO.trans h.cO,h'.dH.trans h.dH,
  λ k=>⟨(h'.num k).1.trans (h.num k).1,(h'.num k).2.1.trans (h.num k).2.1,(h'.num k).2.2.trans (h.num k).2.2⟩,λ j=>(h'.gD j).trans (h.gD j),
  λ k C=>⟨(h'.ps k C).1.trans (h.ps k (q k C)).1,(h'.ps k C).2.trans (h.ps k (q k C)).2⟩,λ j E=>(h'.pl j E).trans (h.pl j E),λ k=>by
   rcases h'.BI k with e|e
   .rw[e];exact h.BI k
   .exact .inr e⟩
theorem Dv(h:Inv K pl tg A D [])(w:List J)(v:bp pl tg A=w)(I:Co)
 (n:I={D with th:=qf {D with th:=ib D w} w,sc:=py D (w.flatMap λ k=>(D.th k).ps),zero:=(w.flatMap λ k=>(D.th k).ps).map .s,ax:=D.ax++b0 en D w}):
 Inv K pl tg (cw A w) I (w.flatMap λ k=>(D.th k).ps)/\(∀k∈cw A w,0<(I.th k).aC)/\Fr (cw A w) D I:=by
 have g:∀k,k∈w↔k∈A/\(D.th k).aC=0:=λ k=>v▸h.E7 k
 have y:w.Sublist A:=by rw[<-v];exact uN
 have L:(cw A w).Sublist A:=uN;have q:∀k∈w,k∈A:=λ k C=>((g k).mp C).1
 have c':(w.flatMap λ k=>(D.th k).ps).Nodup:=h.nd.sublist (fh _ y);have p:∀k,k∉w->I.th k=D.th k:=by intro k C;rw[n];show qf _ w k=_;unfold qf;rw[if_neg C];show ib D w k=_;unfold ib;rw[if_neg C]
 have l:∀k,k∈w->I.th k={D.th k with ds:=ai,fr:=ai,ps:=[],ks:=[]}:=by intro k C;rw[n];show qf _ w k=_;unfold qf;rw[if_pos C];show({ib D w k with fr:=ai,ps:=[],ks:=[]}:Th)=_;unfold ib;rw[if_pos C]
 have i:∀j,j∉(w.flatMap λ k=>(D.th k).ps)->I.sc j=D.sc j:=by intro j E;rw[n];show py D _ j=_;unfold py;rw[if_neg E]
 have f:∀j,(I.sc j).val=(D.sc j).val/\(I.sc j).num=(D.sc j).num/\(I.sc j).fr=(D.sc j).fr:=by intro j;rw[n];show(py D _ j).val=_/\(py D _ j).num=_/\(py D _ j).fr=_;unfold py;split<;>exact cY Y Y Y
 have o:I.nt=D.nt:=by rw[n]
 have H:I.ns=D.ns:=by rw[n]
 have a':∀k∈cw A w,(I.th k).ps=(D.th k).ps:=λ k C=>by rw[p k (bF.mp C).2]
 have x:((cw A w).flatMap λ k=>(I.th k).ps)=(cw A w).flatMap λ k=>(D.th k).ps:=bQ a'
 have m:∀k∈cw A w,∀j∈(D.th k).ps,j∉w.flatMap λ k=>(D.th k).ps:=by intro k C j E hm;obtain Q|b':=bF.mp C;obtain a|ha|B:=iU.mp hm;exact Az (λ k=>(D.th k).ps) h.nd Q (q a ha) (λ e=>b' (e▸ha)) E B
 have e':∀k∈A,∀t∈tg k,t∈cw A w:=λ k C t ht=>bF.mpr ⟨h.sK k C t ht,v▸h.target C ht⟩
 have d':∀k∈cw A w,cA pl tg A k=cA pl tg (cw A w) k+fo I (w.flatMap λ k=>(D.th k).ps) k:=by intro k C;rw[oz (D:=D) (λ j _=>(f j).1),Iq λ a ha=>h.link a (q a ha)];unfold cA;have:=Ap tg (λ k=>decide (cA pl tg A k=0)) k A;rw[<-v,qy];unfold bp;exact Y4 this
 refine cY ⟨h.vK.sublist L,?_,?_,?_,?_,?_,?_,?_,?_,?_,?_,?_,c',?_,?_,?_,?_⟩ ?_ ?_
 .intro k C;rw[o];exact h.lt k (bF.mp C).1
 .intro k C;rw[o]at C;by_cases c:k∈w
  .rw[l k c];have:k∉cw A w:=λ h'=>(bF.mp h').2 c
   simp[this]
  .rw[p k c,h.fr k C];congr 1;have:k∈cw A w↔k∈A:=by rw[bF];exact⟨λ h=>h.1,λ h=>⟨h,c⟩⟩
   simp[this]
 .intro k C;rw[p k (bF.mp C).2];exact h.ds k (bF.mp C).1
 .intro k C;rw[p k (bF.mp C).2];exact h.bl k (bF.mp C).1
 .intro k C;rw[p k (bF.mp C).2];exact h.ok k (bF.mp C).1
 .intro a b d hb;rw[o]at hb;have hn:∀k,(I.th k).num=(D.th k).num:=by
   intro k;by_cases c:k∈w
   .rw[l k c]
   .rw[p k c]
  rw[hn,hn];exact h.num a b d hb
 .intro a b d hb;rw[H]at hb;rw[(f a).2.1,(f b).2.1];exact h.gD a b d hb
 .intro k C j E;rw[a' k C]at E;rw[i j (m k C j E),H];exact h.ps k (bF.mp C).1 j E
 .intro k C t ht;exact e' k (bF.mp C).1 t ht
 .intro k C;rw[a' k C,<-h.link k (bF.mp C).1];apply ef;intro j _;exact(f j).1
 .rw[x];exact h.nd.sublist (fh _ L)
 .intro j E;obtain a|ha|B:=iU.mp E;obtain P|r|X|S:=h.ps a (q a ha) j B;obtain t|ht|z:=h.tgv (q a ha) B;refine Vu (by rw[H];exact P) r ?_ (by rw[(f j).2.2];exact S) ⟨t,e' a (q a ha) t ht,by rw[(f j).1];exact z⟩ ?_
  .rw[n];show(py D _ j).aC=0;unfold py;rw[if_pos E];show(D.sc j).aC -1=0;rw[X];rfl
  .rw[x];intro hm;obtain b|hb|f':=iU.mp hm;exact m b hb j f' E
 .intro k C;rw[p k (bF.mp C).2,h.aC k (bF.mp C).1,d' k C];simp[fo]
 .rw[x];have:=J8 (λ k=>(D.th k).ps) (λ k=>decide (cA pl tg A k=0)) A;have hs:=h.size;simp only[li,wn]at hs;rw[<-v,qy];unfold bp;exact V6 this hs
 .have:I.ax=D.ax++b0 en D w:=by rw[n]
  rw[this,cE];have h1:=pG en D w;have h2:=kW (pl:=pl) (tg:=tg) (A:=A);rw[v]at h2;have:=h.cl;exact V5 h2 this h1
 .intro k C;obtain Q|b':=bF.mp C;rw[p k b'];have h1:=h.aC k Q;have h2:(D.th k).aC≠0:=λ e=>b' ((g k).mpr ⟨Q,e⟩)
  exact PB h1 h2
 .refine⟨by rw[n],o,H,by rw[n],by rw[n],by rw[n],by rw[n],by rw[n],?_,λ j=>(f j).2.1,?_,?_,λ k=>by
   by_cases c:k∈w
   .right;rw[l k c]
   .left;rw[p k c]⟩
  .intro k;by_cases c:k∈w
   .rw[l k c];exact cY Y Y Y
   .rw[p k c];exact cY Y Y Y
  .intro k C;rw[p k (bF.mp C).2];exact⟨Y,Y⟩
  .intro j E;apply i;intro hm;obtain a|ha|B:=iU.mp hm;have:=(h.ps a (q a ha) j B).2.1;exact KP this E
theorem sstep{q:List J}(h:Inv K pl tg A D q)(m:D.zero=q.map .s)(e':∀k∈A,0<(D.th k).aC):
 ∃o,D.TurnOk K en o/\Inv K pl tg A (D.aQ en o) []/\ZT A (D.aQ en o)/\(D.aQ en o).ax=D.ax/\Fr A D (D.aQ en o):=by
 have r':D.zero.map D.znum=q.map λ j=>(D.sc j).num:=by rw[m,hH];rfl
 have d':(D.zero.map D.znum).Nodup:=by
  rw[r'];refine pq.mpr (xg (λ{a b} ha hb d e=>d ?_) h.qn);have h1:=(h.qs a ha).1;have h2:=(h.qs b hb).1;rcases JK a b with d|d|d
  .have:=h.gD a b d h2;exact OX this e
  .exact d
  .have:=h.gD b a d h1;exact Ps this e
 have k':=DM D.znum D.zero d';obtain⟨q',s'⟩:∃q':List J,pR D.znum D.zero=q'.map .s:=by refine⟨(pR D.znum D.zero).map unS,?_⟩;rw[hH];symm;apply(ef (g:=id) _).trans (List.map_id _);intro z w';have:=k'.mem_iff.mp w';rw[m]at this;obtain j|_|rfl:=bI.mp this;rfl
 have n':q'.Perm q:=by
  have h1:(q'.map Z.s).Perm (q.map Z.s):=by rw[<-s',<-m];exact k'
  have:=h1.map unS
  rwa [Cv,Cv]at this
 have o':∀j,j∈q'↔j∈q:=λ j=>n'.mem_iff
 have p':q'.Nodup:=n'.nodup_iff.mpr h.qn;have fin:∀l:List J,D.mN.fz en (l.map .s)=D.mN:=by
  intro l
  induction l with
  |nil=>rfl
  |cons a r X=>exact X
 have a':∀k,0<fo D q k->k∈A:=by intro k C;unfold fo at C;obtain j|E:=List.exists_mem_of_length_pos C;obtain j1|j2:=lC.mp E;obtain _|_|_|_|⟨t,ht,S⟩|_:=h.qs j j1;simp only[decide_eq_true_eq]at j2;rw[S]at j2;cases j2;exact ht
 have x':∀k,0<fo D q k->(fo D q k:Int)<=(D.th k).aC:=by intro k C;rw[h.aC k (a' k C)];exact afh
 have c':∀l:List J,l.Sublist q'->∀k,fo D l k<=fo D q k:=by intro l L k;rw[<-xo n'];exact(L.filter _).length_le
 have i':=λ(l:List J)(L:l.Sublist q')=>DB l D.mN (p'.sublist L) (λ j E=>by
  obtain _|_|_|_|⟨t,_,S⟩|_:=h.qs j ((o' j).mp (L.subset E));exact⟨t,S⟩) (λ k C=>by
  have h1:=c' l L k;have h2:=x' k (cv C h1);show(fo D l k:Int)<=(D.th k).aC;have C:0<fo D l k:=C;exact Ul h1 h2)
 have l':=h.size;have v:=h.cl;refine cC (q'.map .s) ⟨?_,d',?_,s'.symm,?_,?_⟩ ?_
 .intro x B;rw[m]at B;obtain j|E|rfl:=bI.mp B;obtain P|y|p3|p4|_:=h.qs j E;exact cY P p3 p4
 .rw[m,bS];exact aak l'
 .intro i hi;rw[bS]at hi;rw[<-qZ,fin,gM];obtain P|y|p3|p4|_:=h.qs q'[i] ((o' _).mp (jP hi));exact⟨P,p3⟩
 .intro i hi;rw[bS]at hi;obtain z1|Q|w|f:=i' (q'.take i) (rG _ _);rw[fin,<-qZ,Q,gM];obtain P|y|p3|p4|_:=h.qs q'[i] ((o' _).mp (jP hi));have j':=fb p' hi;have hs:BZ D.mN (q'.take i) q'[i]=D.sc q'[i]:=by unfold BZ;rw[if_neg j'];rfl
  refine⟨P,?_,?_,?_⟩
  .show(BZ D.mN (q'.take i) q'[i]).aC=0;rw[hs];exact p3
  .show(BZ D.mN (q'.take i) q'[i]).fr=aj;rw[hs];exact p4
  .show([]++z1.map Z.t).length<=1000;have:=iZ z1 A w λ k C=>a' k (by have:=((f k).mp C).1;exact cv this (c' _ (rG _ _) k))
   simp;exact V2 v this
 .obtain z1|Q|w|f:=i' q' (BJ _);have n:D.aQ en (q'.map .s)={D with sc:=BZ D q',th:=Lv D q',zero:=z1.map .t}:=by unfold Co.aQ;rw[fin,Q];rfl
  have t':∀k,fo D q' k=fo D q k:=λ k=>xo n' k
  generalize D.aQ en (q'.map .s)=I at n;have f':∀j,j∉q->I.sc j=D.sc j:=by intro j E;rw[n];show BZ D q' j=_;unfold BZ;rw[if_neg λ h'=>E ((o' j).mp h')]
  have m':∀j,(I.sc j).num=(D.sc j).num:=by intro j;rw[n];show(BZ D q' j).num=_;unfold BZ;split<;>rfl
  have p:∀k,I.th k={D.th k with aC:=(D.th k).aC -(fo D q k:Int)}:=by intro k;rw[n];show Lv D q' k=_;unfold Lv;rw[t']
  have b':∀k,(I.th k).ps=(D.th k).ps:=λ k=>by rw[p]
  have g':(A.flatMap λ k=>(I.th k).ps)=A.flatMap λ k=>(D.th k).ps:=bQ λ k _=>b' k
  have v':∀k∈A,∀j∈(D.th k).ps,j∉q:=λ k C j E hq=>(h.qs j hq).2.2.2.2.2 (iU.mpr ⟨k,C,E⟩)
  have c:I.nt=D.nt:=by rw[n]
  have H:I.ns=D.ns:=by rw[n]
  refine xp ⟨h.vK,by rw[c];exact h.lt,?_,?_,?_,?_,?_,?_,?_,h.sK,?_,by rw[g'];exact h.nd,fJ,(by intro j E;cases E),?_,?_,?_⟩ ?_ (by rw[n]) ?_
  .intro k C;rw[c]at C;rw[p];exact h.fr k C
  .intro k C;rw[p];exact h.ds k C
  .intro k C;rw[p];exact h.bl k C
  .intro k C;rw[p];exact h.ok k C
  .intro a b d hb;rw[c]at hb;rw[p,p];exact h.num a b d hb
  .intro a b d hb;rw[H]at hb;rw[m',m'];exact h.gD a b d hb
  .intro k C j E;rw[b']at E;rw[f' j (v' k C j E),H];exact h.ps k C j E
  .intro k C;rw[b',<-h.link k C];apply ef;intro j E;rw[f' j (v' k C j E)]
  .intro k C;rw[p];show(D.th k).aC -(fo D q k:Int)=_;rw[h.aC k C];have:fo I [] k=0:=rfl;rw[this];exact adb
  .rw[g'];simp only[li];exact aar l'
  .have:I.ax=D.ax:=by rw[n]
   rw[this];exact h.cl
  .refine⟨z1,by rw[n],w,λ k=>?_⟩;rw[f,p];have:fo D.mN q' k=fo D q k:=t' k;rw[this];show _/\(D.th k).aC=_↔k∈A/\(D.th k).aC -(fo D q k:Int)=0;constructor
   .rintro⟨a,b⟩;exact⟨a' k a,(XI b)⟩
   .rintro⟨a,b⟩;have:=e' k a;exact⟨(ZL this b),(Yx b)⟩
  .refine⟨by rw[n],c,H,by rw[n],by rw[n],by rw[n],by rw[n],by rw[n],λ k=>by rw[p];exact cY Y Y Y,m',λ k _=>by rw[p];exact⟨Y,Y⟩,?_,λ k=>by rw[p];exact .inl Y⟩;intro j E;apply f';intro hq;have:=(h.qs j hq).2.1;exact KP this E
theorem BB(h:∀k∈w,en (D.th k).bl=e k):b0 en D w=dq e w:=by
 unfold b0 dq
 induction w with
 |nil=>rfl
 |cons a r X=>rw[jI,jI,h a (by simp),X λ k C=>h k (by simp[C])]
theorem y7:∀(nNn:J)(A:List J)(D:Co),A.length<=nNn->Inv K pl tg A D []->ZT A D->(∀k∈A,en (D.th k).bl=e k)->
 ∃m I,gC K en m D I/\m<=2*nNn/\Inv K pl tg (bV pl tg e nNn A).2 I []/\I.zero=[]/\I.ax=D.ax++(bV pl tg e nNn A).1/\Fr (bV pl tg e nNn A).2 D I/\(∀k∈(bV pl tg e nNn A).2,k∈A)/\bp pl tg (bV pl tg e nNn A).2=[]:=by
 intro nNn
 induction nNn with
 |zero=>
  intro A D q h i _;have:A=[]:=FF.mp ((VY q));subst this;obtain z|B|z2|x:=i;have:z=[]:=by
   cases z with
   |nil=>rfl
   |cons a r=>have:=(x a).mp (by simp);cases this.1
  subst this;exact KL 0 D (.done B) XN h B (kh _).symm (Fr.refl _ _) (λ k C=>C) Y
 |succ nNn X=>
  intro A D q h i P;by_cases c:bp pl tg A=[]
  .have hg:bV pl tg e (nNn+1) A=([],A):=if_pos c;rw[hg];obtain z|B|z2|x:=i;have:z=[]:=by
    cases z with
    |nil=>rfl
    |cons a r=>have:=(h.E7 a).mpr ((x a).mp (by simp));rw[c]at this;cases this
   subst this;exact KL 0 D (.done B) Vj h B (by simp) (Fr.refl _ _) (λ k C=>C) c
  .have hg:bV pl tg e (nNn+1) A=(dq e (bp pl tg A)++(bV pl tg e nNn (cw A (bp pl tg A))).1,(bV pl tg e nNn (cw A (bp pl tg A))).2):=if_neg c;rw[hg];obtain ok|a':=ZS (en:=en) h i c;obtain y|i2|i3:=Dv (en:=en) h _ Y _ a';have n:(D.aQ en ((bp pl tg A).map .t)).zero=((bp pl tg A).flatMap λ k=>(D.th k).ps).map .s:=by rw[a']
   have mv:(D.aQ en ((bp pl tg A).map .t)).ax=D.ax++dq e (bp pl tg A):=by rw[a'];show D.ax++b0 en D _=_;rw[BB (e:=e) λ k C=>P k ((h.E7 k).mp C).1]
   have w:(cw A (bp pl tg A)).length<=nNn:=by have h1:=kW (pl:=pl) (tg:=tg) (A:=A);have h2:0<(bp pl tg A).length:=BV.mpr c;exact Pg h2 h1 q
   have g:D.zero≠[]:=by
    intro l;obtain z|B|z2|x:=i;rw[l]at B;have g':z=[]:=vI.mp B.symm;cases e':bp pl tg A with
    |nil=>exact c e'
    |cons a r=>have:=(x a).mpr ((h.E7 a).mp (by rw[e'];simp));rw[g']at this;cases this
   generalize j:D.aQ en ((bp pl tg A).map .t)=L at*;have c':∀k∈cw A (bp pl tg A),en (L.th k).bl=e k:=λ k C=>by rw[(i3.num k).2.2];exact P k (bF.mp C).1
   by_cases hq:((bp pl tg A).flatMap λ k=>(D.th k).ps)=[]
   .rw[hq]at y n;have b':ZT (cw A (bp pl tg A)) L:=by refine⟨[],n,fJ,λ k=>⟨λ h=>(by cases h),λ⟨a,b⟩=>?_⟩⟩;have:=i2 k a;exact DS this b
    obtain m|I|v|p|E|Q|H|d|S|s8:=X _ L w y b' c';refine KL (m+1) I (.aQ g ok (j▸v)) (Yt p) E Q ?_ (i3.trans d S) (λ k C=>(bF.mp (S k C)).1) s8;rw[H,mv,lv]
   .obtain o|f|t2|t3|t4|t5:=sstep (en:=en) y n i2;have f':L.zero≠[]:=by rw[n];intro h;exact hq (vI.mp h)
    have d':∀k∈cw A (bp pl tg A),en ((L.aQ en o).th k).bl=e k:=λ k C=>by rw[(t5.num k).2.2];exact c' k C
    obtain m|I|v|p|E|Q|H|d|S|s8:=X _ (L.aQ en o) w t2 t3 d';refine KL (m+1+1) I (.aQ g ok (j▸.aQ f' f v)) (VN p) E Q ?_ ((i3.trans t5 λ k C=>C).trans d S) (λ k C=>(bF.mp (S k C)).1) s8;rw[H,t4,mv,lv]
theorem Ko{q:List J}(nNn:J)(r:A.length<=nNn)(h:Inv K pl tg A D q)(hq:q≠[])(i:D.zero=q.map .s)(a:∀k∈A,0<(D.th k).aC)(P:∀k∈A,en (D.th k).bl=e k):
 ∃m I,gC K en m D I/\m<=2*nNn+1/\Inv K pl tg (bV pl tg e nNn A).2 I []/\I.zero=[]/\I.ax=D.ax++(bV pl tg e nNn A).1/\Fr (bV pl tg e nNn A).2 D I/\(∀k∈(bV pl tg e nNn A).2,k∈A)/\bp pl tg (bV pl tg e nNn A).2=[]:=by
 obtain o|f|j|t|l|w:=sstep (en:=en) h i a;have g:∀k∈A,en ((D.aQ en o).th k).bl=e k:=λ k C=>by rw[(w.num k).2.2];exact P k C
 obtain m|I|v|p|c|Q|H|d|S|n:=y7 nNn A (D.aQ en o) r j t g;have b:D.zero≠[]:=by rw[i];intro h;exact hq (vI.mp h)
 refine KL (m+1) I (.aQ b f v) (Yn p) c Q ?_ (w.trans d S) S n;rw[H,l]
end
section
open Tr
section
variable{H:Hp}{n d:J}
theorem jk:ba (d+1) #[618] [] H n (Is ↥n (ah H n (U ⇑[.str s!"A",.str s!"B",.str s!"C",.str s!"D"])) (n+1)):=
 aE X6 (aP (sN _ aL ag (sQ (.ret ↥n) ag Y ⟨Y,Y,Y⟩)))
theorem mX(v:V):yO 0 ⇑[v]=U v:=rfl
theorem y4(v w:V):fm 0 w ⇑[v]=U ⇑[w]:=rfl
theorem Tr.UC{Q:V->Hp->J->be}{t:Tr Fl}{cf:V->List V->M V}{cs:List (af×J)}{x y:Int}(u:Lc)(hn:u s!"n"=U (.int x))(L:u s!"limit"=U (.int y))(S:0<y/\y<1000)(e:t=du cf cs [.ret (U (.bin .mod (.loc "n") (.loc "limit")))] u)(q:Q (.int (x%y)) H n):aG (t.aE H n) (EQ Q):=by rw[e,(Told.cons hn (.cons L .nil)).lay];refine nS (t':=(((CD (binI .mod x y) (lay [("n",.int x),("limit",.int y)] u)).bind λ i u=>.ret (.int i) u).bind λ v u=>.ret (.ret v) u).bind (nK cf cs [])) ?_ ag;rw[show binI .mod x y=U (x%y)from if_pos S];exact sQ (.ret (.int (x%y))) ag Y q
theorem FA{dM j:J}{sc:List Int}{i:J}{lim:Int}(h1:H dM=U ⇑(sc.map .int))(h2:H j=U ⇑[.int i])(w:sc.length<=1000)(a:0<lim/\lim<1000):
 ba (d+1) #[625] [↥dM,↥j,.int lim] H n (Is (.int ((sc[i]?.getD 0)%lim)) (ah H j (U ⇑[.int (i+1)])) n):=by
 have L:(sc.map V.int).length<=1000:=by rw[bS];exact w
 refine aE X8 (aP (fB h2 (mX _) ag (oq h1 L ag ?_)));rw[bS];by_cases hi:i<sc.length
 .have s:(sc.map V.int)[i]?=U (.int sc[i]):=by simp[hi]
  have f:sc[i]?.getD 0=sc[i]:=by simp[hi]
  refine sO (m:=ew .lt (.int i) (.int sc.length)) (v:=ai) (λ u=>by rw[Jp,decide_eq_true (j9.mpr hi)]) ag ?_;refine fB h2 (mX _) ag (fB (v:=.int sc[i]) h1 (ga _ _ _ s L) ag (fB h2 (mX _) ag (Ce h2 (y4 _ (.int (i+1))) ag ?_)));rw[f];exact UC (cf:=aq G d) (cs:=[]) (x:=sc[i]) (ah (ah (ah (ah (ah (λ _=>F) s!"script" (U ↥dM)) s!"spot" (U ↥j)) s!"limit" (U (.int lim))) s!"n" (U (.int 0))) s!"n" (U (.int sc[i]))) ag ag a ag ⟨Y,Y,Y⟩
 .have f:sc[i]?.getD 0=0:=by rw[Bx (Nat.le_of_not_lt hi)];rfl
  refine sO (m:=ew .lt (.int i) (.int sc.length)) (v:=aj) (λ u=>by rw[Jp,decide_eq_false λ h=>hi (j9.mp h)]) ag ?_;refine fB h2 (mX _) ag (Ce h2 (y4 _ (.int (i+1))) ag ?_);rw[f];exact UC (cf:=aq G d) (cs:=[]) (x:=0) (ah (ah (ah (ah (λ _=>F) s!"script" (U ↥dM)) s!"spot" (U ↥j)) s!"limit" (U (.int lim))) s!"n" (U (.int 0))) ag ag a ag ⟨Y,Y,Y⟩
noncomputable def c8(pf:J->List J):J->J->List J
 |0,one=>[one]
 |f+1,one=>(pf one).foldl (λ line p=>line++(c8 pf f p).filter λ x=>decide (x∉line)) [one]
theorem vE{f one:J}:c8 pf (f+1) one=(pf one).foldl (λ line p=>line++(c8 pf f p).filter λ x=>decide (x∉line)) [one]:=rfl
theorem jZ(pf:J->List J)(hp:∀i,i<4->∀p∈pf i,p<i):∀f one,one<4->(c8 pf f one).Nodup/\∀x∈c8 pf f one,x<4
 |0,one,h=>⟨F0 _ _,λ x g=>by rw[gT.mp g];exact h⟩
 |f+1,one,h=>by
  rw[vE];have:∀(l:List J)(acc:List J),(∀p∈l,p<one)->acc.Nodup->(∀x∈acc,x<4)->(l.foldl (λ line p=>line++(c8 pf f p).filter λ x=>decide (x∉line)) acc).Nodup/\∀x∈l.foldl (λ line p=>line++(c8 pf f p).filter λ x=>decide (x∉line)) acc,x<4:=by
   intro l
   induction l with
   |nil=>intro acc _ h1 h2;exact⟨h1,h2⟩
   |cons a r X=>
    intro acc L h1 h2;rw[qD];have ha:=jZ pf hp f a (by have:=L a (by simp);exact fE h this);refine X _ (λ p hp=>L p (by simp[hp])) ?_ ?_
    .rw[kC];refine cY h1 (ha.1.sublist uN) ?_;intro x g y S e;have:=(lC.mp S).2;simp at this;exact this (e▸g)
    .intro x g;rcases eE.mp g with h|h
     .exact h2 x h
     .exact ha.2 x (lC.mp h).1
  exact this (pf one) [one] (hp one h) (by simp) (by simp[h])
theorem t6(pf:J->List J)(hp:∀i,i<4->∀p∈pf i,p<i)(f one:J)(h:one<4):(c8 pf f one).length<=4:=by
 obtain h1|h2:=jZ pf hp f one h;have:=iZ _ (fp 4) h1 λ x g=>kF.mpr (h2 x g)
 simpa using this
structure DK(H:Hp)(m par:J)(eP:List J)(pf:J->List J):Prop where
 T6:H par=U (.list (eP.map .ref))
 pm:par<m
 len:eP.length=4
 at':∀i,i<4->∃l,eP[i]?=U l/\l<m/\H l=U (.list (aY (pf i)))
 lt:∀i,i<4->∀p∈pf i,p<i
 sz:∀i,i<4->(pf i).length<=2
theorem DK.bg{H':Hp}{m par:J}{eP:List J}{pf:J->List J}(h:DK H m par eP pf)(k:bK m H H'):DK H' m par eP pf:=
 ⟨k.at h.pm h.T6,h.pm,h.len,λ i hi=>by obtain l|a|b|c:=h.at' i hi;exact gc l a b (k.at b c),h.lt,h.sz⟩
theorem ik(x:J)(l:List J):cI (.int x) (aY l)=U (decide (x∈l)):=by
 have:aY l=(l.map λ(k:J)=>(k:Int)).map V.int:=by unfold aY;rw[hH];rfl
 rw[this,pH];congr 1;have:(x:Int)∈l.map (λ(k:J)=>(k:Int))↔x∈l:=by
  rw[bI];constructor
  .rintro⟨a,ha,e⟩;have:a=x:=(UG e);exact this▸ha
  .intro h;exact cC x h Y
 by_cases h:x∈l
 .rw[decide_eq_true h,decide_eq_true (this.mpr h)]
 .rw[decide_eq_false h,decide_eq_false λ h'=>h (this.mp h')]
theorem bE(l:List J):(aY l).length=l.length:=by simp[aY]
theorem kK(l r:List J):aY (l++r)=aY l++aY r:=by simp[aY]
inductive Wc(H0:Hp)(n0 par:J)(pf:J->List J)(f one:J)(j:J)(u:Lc)(H:Hp)(n:J):Prop
 |mk (line:List J) (l1:u s!"parents"=U (.ref par)) (hn:n0+2<=n) (hK:bK n0 H0 H) (h1:H n0=U (.cell (U (.ref (n0+1))))) (hl:line=((pf one).take j).foldl (λ line p=>line++(c8 pf f p).filter λ x=>decide (x∉line)) [one]) (h2:H (n0+1)=U (.list (aY line))) (hlen:line.length<=4*j+1):Wc H0 n0 par pf f one j u H n
noncomputable def EO(line:List J):V->Option V
 |.int i=>if decide (i.toNat∈line)then F else U (.int i)
 |_=>F
theorem Ch(line:List J):∀xs:List J,(aY xs).filterMap (EO line)=aY (xs.filter λ x=>decide (x∉line))
 |[]=>rfl
 |x::r=>by
  have X:=Ch line r;simp only[aY,bW,jI,jf]at X⊢;by_cases h:x∈line
  .simpa[EO,h]using X
  .simpa[EO,h]using X
theorem qN{m par:J}{eP:List J}{pf:J->List J}:∀(f:J)(H:Hp)(n one:J),DK H m par eP pf->m<=n->one<f->one<4->
 ba (d+f) #[630] [↥par,.int one] H n (ji 0 H n (aY (c8 pf f one)))
 |0,_,_,_,_,_,h,_=>absurd h (nq _)
 |f+1,H,n,one,p,hm,P,D=>by
  obtain l|c|k|a3:=p.at' one D;have f':=p.pm;have I:(eP.map V.ref)[one]?=U ↥l:=by rw[pr,c];rfl
  have A:(eP.map V.ref).length<=1000:=by rw[bS,p.len];exact of_decide_eq_true Y
  have c':bK n H (ah (ah (ah H n (U (.cell F))) (n+1) (U ⇑[.int one])) n (U (.cell (U ↥(n+1))))):=(((bK.refl _ _).ah (aS _)).ah (b7 _)).ah (aS _);refine Mz _ _ (aP (sN [.int one] (qA _ _) ag (sP (cs:=[("line",n)]) (x:=s!"line") (l:=n) (v:=↥(n+1)) ((ae kE).trans (aa ..)) ag ag ?_)));refine fB ((c' _ (sW f' hm)).trans p.T6) (ga _ _ _ I A) ag ?_;refine Ll (cf:=aq G (d+f)) (cs:=[("line",n)]) (x:=s!"parent") (a:=wb SR 1) (l:=l) (xs:=aY (pf one)) (Wc H n par pf f one) ⟨[one],ag,aS _,c',aa ..,Y,(ae (gP kE)).trans (aa ..),aS _⟩ (λ j u H' n' Q=>by cases Q with|mk _ _ _ hK _ _ _ _=>exact(hK l (sW k hm)).trans a3) ag (λ j E u H' n' Q=>?_) λ u H' n' Q=>?_
  .refine Bt λ C r=>?_
   obtain line|l1|hn|hK|h1|L|h2|w:=Q;have B:j<(pf one).length:=by rw[bE]at E;exact E
   have a':(aY (pf one))[j]=.int ((pf one)[j]:J):=gM _;have d':=p.lt one D _ (jP B);have o:=p.sz one D;rw[a',show u=ah u s!"parents" (U ↥par) by rw[<-l1,cu]];refine sL (cs:=[("line",n)]) (x:=s!"line") h1 ag ag ?_;refine OV (qN f H' n' (pf one)[j] (p.bg (hK.weak hm)) (UB hn hm) (I6 P d') (fE D d')) ag λ b H2 i g1 g2 g3 s y=>?_
   have e':=t6 pf p.lt f (pf one)[j] (fE D d');have X:H2 n=U (.cell (U ↥(n+1))):=(s _ (Y8 hn)).trans h1;have t:H2 (n+1)=U ⇑(aY line):=(s _ (OP hn)).trans h2;have f1:n+1≠i:=(aaZ hn y);have f2:¬n=i:=(Zs hn y);have b':((c8 pf f (pf one)[j]).filter λ x=>decide (x∉line)).length<=4:=bx (Jo _ _) e';have S:(aY line).length+(aY ((c8 pf f (pf one)[j]).filter λ x=>decide (x∉line))).length<=1000:=by rw[bE,bE];exact XK B o w b'
   refine Tp (cf:=aq G (d+f)) (cs:=[("line",n)]) (elt:=.loc "other") (x:=s!"other") (ifs:=[.cmp .eW (.loc "other") (.cW "line")]) g3 (EO line) (by rw[bE];exact TF e') (Ch ..) (λ v z u C q=>?_) ag ?_
   .obtain x|g|rfl:=bI.mp z;refine sL (cs:=[("line",n)]) (x:=s!"line") X ag ag (sNj t (ik x _) ag ?_);by_cases h:x∈line
    .rw[show EO line (.int x)=F from if_pos (decide_eq_true h)]at q;rw[decide_eq_true h];exact Lo q
    .rw[show EO line (.int x)=U (.int x)from if_neg (λ e=>h (of_decide_eq_true e))]at q;rw[decide_eq_false h];exact Lo q
   .have g':ah H2 i (U ⇑(aY ((c8 pf f (pf one)[j]).filter λ x=>decide (x∉line)))) (n+1)=U ⇑(aY line):=(ae f1).trans t;refine sM (m:=ix .add ↥(n+1) ↥i) (v:=↥(n+1)) (λ u=>by rw[NF _ _ _ _ _ f1,g',aa];simp only[eT,zK,S,if_true];rfl) ag ?_;refine sP (cs:=[("line",n)]) (x:=s!"line") (l:=n) (v:=↥(n+1)) ((ae kE).trans ((ae f2).trans X)) ag ag ?_;refine O1 r ⟨line++(c8 pf f (pf one)[j]).filter (λ x=>decide (x∉line)),ag,Xm hn y,(((hK.trans s (G7 hn)).ah (G7 (bx hn y))).ah (b7 _)).ah (aS _),aa ..,?_,?_,?_⟩
    .rw[jH B,wa,<-L];rfl
    .rw[cx,aa,kK];show@Ne J _ _;exact Hv
    .rw[cE];exact aay w b'
  .obtain line|l1|hn|hK|h1|L|h2|w:=Q;rw[bE,km]at L;refine sL (cs:=[("line",n)]) (x:=s!"line") h1 ag ag ?_;exact sQ (.ret ↥(n+1)) ag Y ⟨n+1,Y,sV,OP hn,by rw[h2,L];rfl,hK,G7 hn⟩
end
end
section
open Tr
section
variable{H:Hp}{n d:J}
noncomputable def d9(pf:J->List J)(es:List J)(one:J):Option J:=(c8 pf 4 one).find? λ x=>decide (x∈es)
theorem ot(p:J->bG):∀(j:J)(l:List J),(∀x∈l.take j,p x=aj)->(l.drop j).find? p=l.find? p
 |0,_,_=>rfl
 |j+1,[],_=>rfl
 |j+1,a::r,h=>by rw[Gb,im,h a (by simp)];exact ot p j r λ x g=>h x (by simp[g])
inductive VU(ends:J)(es:List J)(L:List J)(H1:Hp)(n1:J)(j:J)(u:Lc):Hp->J->Prop
 |mk (l1:u s!"ends"=U (.ref ends)) (h3:∀x∈L.take j,decide (x∈es)=aj):VU ends es L H1 n1 j u H1 n1
theorem M4{m par ends one:J}{eP:List J}{pf:J->List J}{es:List J}(p:DK H m par eP pf)(hm:m<=n)(D:one<4)(P:H ends=U ⇑(aY es))(f:ends<m):
 ba (d+5) #[637] [↥par,↥ends,.int one] H n λ v H' n'=>v=fM (d9 pf es one)/\bK n H H'/\n<=n':=by
 refine aE T5 (aP (OV (qN (d:=d) 4 H n one p hm D D) ag λ l H1 e g1 g2 g3 s y=>?_));have z:H1 ends=U ⇑(aY es):=(s _ (sW f hm)).trans P;have c:∀(x:J) u,ew .isin (.int x) ↥ends ⟨u,H1,e⟩=U (decide (x∈es),⟨u,H1,e⟩):=λ x u=>by rw[qq,wu,z];show(cI _ _).bind _=_;rw[ik];rfl
 refine Ll (cf:=aq G (d+4)) (cs:=[]) (x:=s!"other") (a:=wb aah 0) (l:=l) (xs:=aY (c8 pf 4 one)) (VU ends es (c8 pf 4 one) H1 e) ⟨ag,λ x h=>absurd h (eI)⟩ (λ j u H' n' Q=>by cases Q with|mk _ _=>exact g3) ag (λ j E u H' n' Q=>?_) λ u H' n' Q=>?_
 .obtain l1|I:=Q;rw[bE]at E;have b:(aY (c8 pf 4 one))[j]'(by rw[bE];exact E)=.int ((c8 pf 4 one)[j]:J):=gM _
  rw[b,show u=ah u s!"ends" (U ↥ends) by rw[<-l1,cu]];by_cases g:(c8 pf 4 one)[j]∈es
  .refine sO (m:=ew .isin (.int ((c8 pf 4 one)[j]:J)) ↥ends) (v:=ai) (λ u=>by rw[c,decide_eq_true g]) ag ?_;refine sGr (v:=.int ((c8 pf 4 one)[j]:J)) ag ?_;refine sQ (.ret (.int ((c8 pf 4 one)[j]:J))) ag Y ⟨?_,s,y⟩;have:=ot (λ x=>decide (x∈es)) j _ I;rw[wV E,im]at this;simp only[g,decide_true]at this;unfold d9;rw[<-this];rfl
  .refine sO (m:=ew .isin (.int ((c8 pf 4 one)[j]:J)) ↥ends) (v:=aj) (λ u=>by rw[c,decide_eq_false g]) ag ?_;refine Te ag ⟨ag,λ x t=>?_⟩;rw[jH E]at t;rcases eE.mp t with h|h
   .exact I x h
   .simp at h;subst h;simpa using g
 .obtain l1|I:=Q;refine sQ (.ret .none) ag Y ⟨?_,s,y⟩;have:=ot (λ x=>decide (x∈es)) (c8 pf 4 one).length (c8 pf 4 one) (by rw[bE]at I;exact I);rw[Fy]at this;unfold d9;rw[<-this];rfl
noncomputable def da(A:List J)(c:J->J):List (aJ×V):=A.map λ(k:J)=>(aJ.int k,V.int (c k))
theorem hO(A:List J)(c:J->J):∀e∈da A c,e.1.isInt=ai:=by intro e P;obtain k|_|rfl:=bI.mp P;rfl
theorem Eo(A:List J)(c:J->J):(da A c).length=A.length:=by simp[da]
theorem sA{A:List J}(hn:A.Nodup)(c:J->J):((da A c).map (·.1)).Nodup:=by unfold da;rw[hH];refine pq.mpr (hn.imp λ{a b} h e=>h ?_);have:(a:Int)=(b:Int):=aJ.int.inj e;exact UG this
theorem mU{A:List J}(hn:A.Nodup){k:J}(C:k∈A)(c:J->J):atK (da A c) (.int k)=U (.int (c k)):=
 oG (sA hn c) (bI.mpr ⟨k,C,Y⟩)
theorem Ea{A:List J}{k:J}(C:k∈A)(hn:A.Nodup)(c:J->J):fO (.int k) (.int ((c k:Int)+1)) (da A c)=da A (ah c k (c k+1)):=by
 unfold fO;rw[find_key,mU hn C];simp only[Option.isSome_some,if_true];unfold da;rw[hH];apply ef;intro x _;simp only[Function.comp,aJ.int.injEq,ah];by_cases h:x=k
 .obtain rfl:=h.symm;simp
 .have:¬(x:Int)=(k:Int):=(RY h);simp[h,this]
theorem tw(A:List J)(c:J->J):intKeys (da A c)=U (A.map λ(k:J)=>(k:Int)):=by
 induction A with
 |nil=>rfl
 |cons a r X=>exact congrArg (Am ((a:Int)::·)) X
theorem sk:∀(l acc:List (aJ×V)),((acc++l).map (·.1)).Nodup->bv acc l=acc++l
 |[],acc,_=>(kh acc).symm
 |(k,v)::r,acc,h=>by
  have h1:atK acc k=F:=by
   cases ha:atK acc k with
   |none=>rfl
   |some w=>have:=jy ha;rw[gq,kC]at h;exact absurd Y (h.2.2 k (bI.mpr ⟨_,this,Y⟩) k (by simp))
  show bv (fO k v acc) r=_;rw[gQ h1,sk r (acc++[(k,v)]) (by simpa using h)];simp
theorem EZ{A:List J}(hn:A.Nodup)(c:J->J):bv [] (da A c)=da A c:=by rw[sk _ _ (by simpa using sA hn c)];rfl
theorem HO:∀(l:List Int),l.Pairwise (·<·)->sortI l=l:=by
 intro l h;have hn:l.Nodup:=h.imp λ{a b} h e=>(Yj h e)
 exact sB (·<·) (λ a h=>(I5 h)) (λ a b c h1 h2=>(OI h1 h2)) _ _ (mS hn) h λ x=>(sortI_perm l).mem_iff
theorem Gx{α:Type}(f:α->PyData)(h:∀a,(f a).canLay0=ai):∀l:List α,JZ (l.map f)=ai
 |[]=>rfl
 |a::r=>by rw[bW,JZ,h,Gx f h r];rfl
theorem Hc{α:Type}(f:α->PyData)(m:J)(h:∀a,(f a).depth<=m):∀l:List α,AO (l.map f)<=m
 |[]=>cG _
 |a::r=>by rw[bW,AO];exact Nat.max_le.mpr ⟨h a,Hc f m h r⟩
theorem mA{α:Type}(f:α->PyData)(h:∀a b,lZ (f a) (f b)=ai):∀l r:List α,GD (l.map f) (r.map f)=ai
 |[],[]=>rfl
 |[],_::_=>rfl
 |_::_,[]=>rfl
 |a::l,b::r=>by rw[bW,bW,GD,h,mA f h l r];rfl
theorem sameAll_map{α:Type}[DecidableEq α](f:α->PyData)(h:∀a b,jw (f a) (f b)=decide (a=b)):∀l r:List α,zR (l.map f) (r.map f)=decide (l=r)
 |[],[]=>rfl
 |[],_::_=>rfl
 |_::_,[]=>rfl
 |a::l,b::r=>by rw[bW,bW,zR,h,sameAll_map f h l r];by_cases h1:a=b<;>by_cases h2:l=r<;>simp[h1,h2]
theorem C7{α:Type}[DecidableEq α](f:α->PyData)(h1:∀a,(f a).canLay0=ai)(h2:∀a,(f a).depth<=10)(I:∀a b,lZ (f a) (f b)=ai)(D:∀a b,jw (f a) (f b)=decide (a=b))
 {xs ys:List α}(h:dat H 3 ↥l=U ⇑(xs.map f))(h':dat H 3 ↥Q=U ⇑(ys.map f))(u:Lc):zi ↥l ↥Q ⟨u,H,n⟩=U (decide (xs=ys),⟨u,H,n⟩):=by
  have v:∀xs:List α,jr ⇑(xs.map f)=ai:=by intro xs;have:=Hc f 10 h2 xs;unfold jr;rw[pu];refine⟨by rw[wZ];exact Gx f h1 xs,?_⟩;rw[decide_eq_true_eq,rZ];exact bx (Bg this) aL
  show(dat H 3 ↥l).bind _=_;rw[h];show(dat H 3 ↥Q).bind _=_;rw[h'];show(if _ then _ else _)=_;rw[if_pos (by rw[v,v];exact mA f I xs ys)];exact congrArg (λ b=>U (b,(⟨u,H,n⟩:St))) (sameAll_map f D xs ys)
theorem mM(h:H l=U ⇑xs)(e:s6 (dat H k) xs=U ys):dat H (k+1) ↥l=U ⇑ys:=by show(H l).bind _=_;rw[h];show(s6 (dat H k) xs).map _=_;rw[e];rfl
theorem yB(h:H l=U ⇑(aY xs))(h':H Q=U ⇑(aY ys))(u:Lc):zi ↥l ↥Q ⟨u,H,n⟩=U (decide (xs=ys),⟨u,H,n⟩):=by
 have h1:∀xs:List J,s6 (dat H 2) (aY xs)=U (xs.map λ(k:J)=>AE k):=by
  intro xs
  induction xs with
  |nil=>rfl
  |cons a r X=>show(s6 (dat H 2) (aY r)).bind (λ xs=>U (AE a::xs))=_;rw[X];rfl
 refine C7 (λ(k:J)=>AE k) (λ _=>rfl) (λ _=>cG _) (λ _ _=>rfl) (λ a b=>?_) ?_ ?_ u
 .simp only[jw];by_cases h:a=b
  .obtain rfl:=h.symm;simp
  .have:¬(a:Int)=(b:Int):=(RY h);simp[h,this]
 .exact mM h (h1 xs)
 .exact mM h' (h1 ys)
theorem Du{ls e:List J}(h:H l=U ⇑(ls.map .ref))(h':H L=U ⇑(e.map .ref))(t:ij H ls xs)(t':ij H e ys)(u:Lc):zi ↥l ↥L ⟨u,H,n⟩=U (decide (xs=ys),⟨u,H,n⟩):=by
 have h1:∀(ls:List J)(xs:List (J×J)),ij H ls xs->s6 (dat H 2) (ls.map .ref)=U (xs.map λ(p:J×J)=>B4 [.int p.1,.int p.2]):=by
  intro ls
  induction ls with
  |nil=>intro xs t;cases xs with
   |nil=>rfl
   |cons=>cases t
  |cons a r X=>intro xs t;cases xs with
   |nil=>cases t
   |cons x xs=>show((H a).bind _).bind _=_;rw[t.1];show(s6 (dat H 2) (r.map V.ref)).bind _=_;rw[X xs t.2];rfl
 refine C7 (λ(p:J×J)=>B4 [.int p.1,.int p.2]) (λ _=>rfl) (λ _=>by show _<=10;simp[rZ,AO]) (λ _ _=>rfl) (λ a b=>?_) ?_ ?_ u
 .obtain c|k:=a;obtain b1|b2:=b;simp only[jw,zR];have Q:((c:Int)=(b1:Int))↔c=b1:=XR;have w:((k:Int)=(b2:Int))↔k=b2:=XR;by_cases h1:c=b1<;>by_cases h2:k=b2<;>simp[h1,h2,Q,w]
 .exact mM h (h1 _ _ t)
 .exact mM h' (h1 _ _ t')
end
end
section
open Tr
noncomputable def eR(a b c d e f:J):O:=.dict [(.str "alive",↥a),(.str "places",↥b),(.str "parts",↥c),(.str "class",↥d),(.str "parents",↥e),(.str "ends",↥f)]
theorem kq(a b c d e f:J):atS s!"alive" (eR a b c d e f)=U ↥a:=ag
theorem i9(a b c d e f:J):atS s!"places" (eR a b c d e f)=U ↥b:=ag
theorem gL(a b c d e f:J):atS s!"parts" (eR a b c d e f)=U ↥c:=ag
theorem q9(a b c d e f:J):atS s!"class" (eR a b c d e f)=U ↥d:=ag
theorem BE(a b c d e f:J):atS s!"parents" (eR a b c d e f)=U ↥e:=ag
theorem LN(a b c d e f:J):atS s!"ends" (eR a b c d e f)=U ↥f:=ag
theorem F7(a b c d e f x:J):ia s!"alive" ↥x (eR a b c d e f)=U (eR x b c d e f):=ag
section
variable{X:Fx}{D:Co}{P:Pt}{S H H':Hp}{n n' d:J}{K:Kx}
theorem Wd.bO(w:Wd X D P S H n):H (X.L .bO)=U (eR P.dZ (X.L .aV) (X.L .bh) (X.L .bu) X.par X.ends):=by have:=(w.w.dy .bO _ Y).2;rw[w.fix .bO Y,w.fix .aV Y,w.fix .bh Y,w.fix .bu Y]at this;exact this
theorem Wd.J4(w:Wd X D P S H n)(h:S l=U ⇑(aY A)):
 Wd X {D with av:=A} {P with dZ:=l} S (ah H (X.L .bO) (U (eR l (X.L .aV) (X.L .bh) (X.L .bu) X.par X.ends))) n:=by
 have h1:=w.w.put (t:=.bO) (eR l (X.L .aV) (X.L .bh) (X.L .bu) X.par X.ends) Y;have e:cont X {D with av:=A} {P with dZ:=l}=ah (cont X D P) .bO (U (eR l (X.L .aV) (X.L .bh) (X.L .bu) X.par X.ends)):=by
  funext I;cases I with
  |bO=>rw[aa];show U (eR l (P.L .aV) (P.L .bh) (P.L .bu) X.par X.ends)=_;rw[w.fix .aV Y,w.fix .bh Y,w.fix .bu Y]
  |_=>simp[cont,ah,numsOf]
 rw[<-e,w.fix .bO Y]at h1;exact⟨h1,w.aC,w.eP,w.ir,w.iu,w.ref,w.ax,h,w.cO,w.fix,⟨w.ck.kt,w.ck.nd,w.ck.sub,w.ck.ok⟩⟩
theorem Wd.KZ(w:Wd X D P S H n)(h:∀l,l<n->(S l=F/\∀t,(∃o,cont X D P t=U o)->P.L t≠l)\/H' l=H l)(hn:n<=n'):Wd X D P S H' n':=by
 refine⟨⟨λ l o L=>?_,λ t o ht=>?_,w.w.sd,w.w.inj⟩,w.aC,w.eP,w.ir,w.iu,w.ref,w.ax,w.dZ,w.cO,w.fix,w.ck⟩
 .have:=w.w.N l o L;rcases h l this.1 with⟨h1,_⟩|h1
  .rw[h1]at L;cases L
  .exact⟨(EJ this hn),h1.trans this.2⟩
 .have:=w.w.dy t o ht;rcases h _ this.1 with⟨_,h1⟩|h1
  .exact absurd Y (h1 t ⟨o,ht⟩)
  .exact⟨(EJ this hn),h1.trans this.2⟩
theorem nM.get{S:Hp}{ls:List J}{cs:List (List J)}{i:J}{xs:List J}(a:nM S ls cs)(h:cs[i]?=U xs):∃l,ls[i]?=U l/\S l=U ⇑(aY xs):=dO.get (p:=λ l c=>S l=U ⇑(aY c)) a h
theorem nM.len{S:Hp}{ls:List J}{cs:List (List J)}(a:nM S ls cs):ls.length=cs.length:=dO.length a
structure jY(D:Co)(tg:J->List J)(cl:J->J)(A:List J):Prop where
 vK:A.Pairwise (·<·)
 pl:∀k,U k∈D.bA->k∈A
 pl3:D.bA.length<=10
 sK:∀k∈A,∀t∈tg k,t∈A
 cO:∀k∈A,D.cO[k]?=U (tg k)
 dH:∀k∈A,D.dH[k]?=U (cl k)/\cl k<4
 len:A.length<=50/\D.cO.length<=100/\D.dH.length<=100
theorem DF(c:J->J)(k:J):(λ x=>c x+if k=x then 1 else 0)=ah c k (c k+1):=by
 funext x;unfold ah;by_cases h:x=k
 .obtain rfl:=h.symm;simp
 .have:¬k=x:=λ e=>h e.symm
  simp[h,this]
structure iP(X:Fx)(S:Hp)(eP:List J)(pf:J->List J)(es:List J):Prop where
 par:∀(H:Hp)(n:J),(∀l o,S l=U o->l<n/\H l=U o)->DK H n X.par eP pf
 ends:S X.ends=U (.list (aY es))
theorem iP.ge(h:iP X S eP pf es)(g:Ge S y):iP X y eP pf es:=
 ⟨λ H n h'=>h.par H n λ l o L=>h' l o (g _ _ L),g _ _ h.ends⟩
structure Jf(X:Fx)(D:Co)(P:Pt)(S:Hp)(tg:J->List J)(cl:J->J)(e:J->Option J)(nNn:J)(A0:List J)(n0:J)(m:J)(u:Lc)(H:Hp)(n:J)(A:List J)(cs:List (J×J))(cls:List J)(P1:Pt)(S1:Hp):Prop where
 l1:u s!"book"=U (.ref (X.L .bO))
 l2:u s!"calls"=U (.ref (n0+2))
 nn:n0+3<=n
 am:A.length<=m
 bo:jY D tg cl A
 aE:bV D.bA tg e nNn A0=(cs++(bV D.bA tg e m A).1,(bV D.bA tg e m A).2)
 w:Wd X {D with av:=A} P1 S1 H n
 pl:P1.L=P.L
 ge:Ge S S1
 s0:S1 n0=F/\S1 (n0+1)=F/\S1 (n0+2)=F
 h0:∃o,H n0=U (.cell o)
 h1:∃o,H (n0+1)=U (.cell o)
 h2:H (n0+2)=U (.list (cls.map .ref))
 t:ij S1 cls cs
 cs:cs.length+A.length<=100
 sub:∀k∈A,k∈A0
theorem Tr.sJ{R:Fl->Lc->Hp->J->be}{t:Tr Fl}{l:J}{o:O}{x:af}{v:V}(h:H l=U o)(ha:atS x o=U v)(e:nQ t (fD ↥l (.str x)))(k:aG ((t.kT v).aE H n) R):aG (t.aE H n) R:=
 sM (λ _=>jj _ h ha) e k
theorem Tr.sDc{R:Fl->Lc->Hp->J->be}{t:Tr Fl}{cf:V->List V->M V}{cs:List (af×J)}{k v:T}{x:af}{l:J}{xs:List V}{es:List (aJ×V)}(h:H l=U ⇑xs)(f:V->aJ×V)(L:xs.length<=1000)(S:bv [] (xs.map f)=es)
 (P:∀w∈xs,∀u:Lc,CN G cf cs k v x w ⟨u,H,n⟩=U (U (f w),⟨ah u x (U w),H,n⟩))
 (e:nQ t (aI (dG ↥l) λ i=>uH G cf cs k v x i))(q:aG ((t.kT ↥n).aE (ah H n (U (.dict es))) (n+1)) R):aG (t.aE H n) R:=
 sM (λ u=>by show(((H l).bind (O0 l)).bind _).bind _=_;rw[h,<-S];exact Al (i:=.list l xs) f L (λ u=>zY _ _ _ _ _ h) P) e q
noncomputable def vj(H:Hp)(n0 n:J)(A:List J)(c:J->J):Hp:=ah (ah H n0 (U (.cell (U ↥n)))) n (U (.dict (da A c)))
theorem CM{H:Hp}{n0 n:J}{c S:J->J}:ah (vj H n0 n A c) n (U (.dict (da A S)))=vj H n0 n A S:=dk ..
theorem Cf{H:Hp}{n0 n:J}{c:J->J}:vj H n0 n A c n=U (.dict (da A c)):=aa ..
theorem aaD{H:Hp}{n0 n:J}{c:J->J}(h:¬n0=n):vj H n0 n A c n0=U (.cell (U ↥n)):=(ae h).trans (aa ..)
theorem yT{H:Hp}{n0 n l:J}{c:J->J}(h:¬l=n)(h0:¬l=n0)(e:H l=U o):vj H n0 n A c l=U o:=(ae h).trans ((ae h0).trans e)
noncomputable def bcL(X:Fx)(n0:J):List (af×V):=[("book",↥(X.L .bO)),("calls",↥(n0+2))]
theorem yd{A:List J}(hn:A.Nodup)(L:A.length<=1000)(c:J->J){x:J}(g:x∈A):fm (x:Int) (.int ((c x:Int)+1)) (.dict (da A c))=U (.dict (da A (λ y=>c y+if x=y then 1 else 0))):=by simp only[jv,qK,dx (hO A c),Eo,L,true_and,if_true,Ea g hn,DF]
theorem K8{A:List J}(hn:A.Nodup)(c:J->J){x:J}(g:x∈A):yO (x:Int) (.dict (da A c))=U (.int (c x)):=by simp only[um,ty,si,dx (hO _ _),if_true,mU hn g]
theorem M1{tg:J->List J}{cl:J->J}{e:J->Option J}{nNn n0 m:J}{A0 A:List J}{u:Lc}{cs:List (J×J)}{cls:List J}{P1:Pt}{S1:Hp}
 (I:Jf X D P S tg cl e nNn A0 n0 m u H n A cs cls P1 S1)(q:∀t,(∃o,cont X D P t=U o)->P.L t<n0){R:Fl->Lc->Hp->J->be}
 (k:∀f,f s!"book"=U ↥(X.L .bO)->f s!"calls"=U ↥(n0+2)->aG ((du (aq G (d+6)) [("wave",n0+1),("counts",n0)] ((wb pT 1).drop 3) f).aE (vj H n0 n A (cA D.bA tg A)) (n+1)) R):
 aG ((du (aq G (d+6)) [("wave",n0+1),("counts",n0)] (wb pT 1) u).aE H n) R:=by
 have w:=I.w;have nn:=I.nn;have hn:A.Nodup:=I.bo.vK.imp λ{a b} h e=>(il h e)
 have d':=w.bO;obtain o0|h0:=I.h0;have c':=(w.w.N _ _ w.dZ).2;have hX:∀t,t.fixed=ai->(∃o,cont X D P t=U o)->X.L t<n0:=by intro t ht hc;have:=q t hc;rw[<-I.pl,w.fix t ht]at this;exact this
 have x1:=hX .bO Y ⟨_,Y⟩;have x2:=hX .aV Y ⟨_,Y⟩;have x3:=hX .bh Y ⟨_,Y⟩;have Q:¬X.L .bO=n:=(Kh nn x1);have s:¬X.L .bO=n0:=(bX x1);have L:¬n0=n:=(PD nn);have y2:¬X.L .aV=n0:=(bX x2);have i':¬X.L .aV=n:=(Kh nn x2);have y3:¬X.L .bh=n0:=(bX x3);have j':¬X.L .bh=n:=(Kh nn x3);have m':¬n=n0:=(FC L);have f':H (X.L .aV)=U ⇑(D.bA.map fM):=by rw[<-w.fix .aV Y];exact(w.w.dy .aV _ Y).2
 have k':H (X.L .bh)=U ⇑(P1.bA.map .ref):=by rw[<-w.fix .bh Y];exact(w.w.dy .bh _ Y).2
 have a1:¬P1.dZ=n0:=by intro h;have:=w.dZ;rw[h,I.s0.1]at this;cases this
 have a2:¬P1.dZ=n:=by have:=(w.w.N _ _ w.dZ).1;exact bX this
 have a':=I.bo.len;have g':A.length<=1000:=OW a';have C0:∀{c:J->J},vj H n0 n A c n0=U (.cell (U ↥n)):=aaD L;have cB:∀{c:J->J},vj H n0 n A c (X.L .bO)=_:=yT Q s d';have cP:∀{c:J->J},vj H n0 n A c (X.L .aV)=_:=yT i' y2 f';have cT:∀{c:J->J},vj H n0 n A c (X.L .bh)=_:=yT j' y3 k';have l':∀{c:J->J},vj H n0 n A c P1.dZ=_:=yT a2 a1 c';rw[show u=lay (bcL X n0) u from(Told.cons I.l1 (.cons I.l2 .nil)).lay];refine sJ d' (kq ..) ag ?_;refine sDc (cf:=aq G (d+6)) (cs:=[("wave",n0+1),("counts",n0)]) (k:=.loc "k") (v:=.lit (.int 0)) (x:=s!"k") (es:=da A λ _=>0) c' (λ v=>match v with|.int i=>(aJ.int i,.int 0)|_=>(aJ.int 0,.none)) (by rw[bE];exact g') ?_ ?_ ag ?_
 .rw[<-EZ hn];congr 1;simp only[aY,da,hH];rfl
 .intro v z u;obtain i|_|rfl:=bI.mp z;kernel_rfl
 refine sP (cs:=[("wave",n0+1),("counts",n0)]) (x:=s!"counts") (l:=n0) (v:=↥n) ((ae L).trans h0) ag ag ?_;rw[fY _ _ _ (gP L)];show aG (Tr.aE _ (vj H n0 n A λ _=>0) (n+1)) R;refine sJ cB (i9 ..) ag (sFh (cf:=aq G (d+6)) (cs:=[("wave",n0+1),("counts",n0)]) (x:=s!"k") (a:=wb (wb pT 1) 1) (l:=X.L .aV) (xs:=D.bA.map fM) (λ j=>vj H n0 n A λ x=>(D.bA.take j).count (U x)) (bcL X n0) Y (λ _=>cP) ag ag (λ j E f tl C hR=>?_) λ f tl=>?_)
 .have B:j<D.bA.length:=by rw[bS]at E;exact E
  have e':∀x,(D.bA.take (j+1)).count (U x)=(D.bA.take j).count (U x)+if D.bA[j]=U x then 1 else 0:=by intro x;rw[jH B,nG,KN];by_cases h:D.bA[j]=U x<;>simp[h]
  rw[gM];refine Ws tl.lay ?_;cases z:D.bA[j]with
  |none=>exact L6 (congrArg (vj H n0 n A) (funext λ x=>by rw[e',z];rfl)) (sGk hR ag)
  |some x=>
   have g:x∈A:=I.bo.pl x (z▸jP B);exact sL (cs:=[("wave",n0+1),("counts",n0)]) (x:=s!"counts") C0 ag ag (fB (i:=x) Cf (K8 hn _ g) ag (Ce (i:=x) (v:=.int (((D.bA.take j).count (U x):J)+1)) Cf (yd hn g' _ g) ag
    (L6 (CM.trans (congrArg (vj H n0 n A) (funext λ y=>by rw[e',z];simp))) (sGk hR ag))))
 .rw[bS,km,tl.lay];refine sJ cB (kq ..) ag (sFh (cf:=aq G (d+6)) (cs:=[("wave",n0+1),("counts",n0)]) (x:=s!"k") (a:=wb (wb pT 1) 2) (l:=P1.dZ) (xs:=aY A) (λ j=>vj H n0 n A λ x=>D.bA.count (U x)+((A.take j).flatMap tg).count x) (bcL X n0) Y (λ _=>l') ag ag (λ j E f tl C hR=>?_) λ f tl=>?_)
  .rw[bE]at E;have b':(aY A)[j]'(by rw[bE];exact E)=.int ((A[j]:J):Int):=gM ..
   have p:=jP E;have h':=I.bo.cO _ p;obtain lk|q1|r:=w.cO.get h';have q3:(P1.bA.map V.ref)[A[j]]?=U ↥lk:=by rw[pr,q1];rfl
   have q4:(P1.bA.map V.ref).length<=1000:=by rw[bS,w.cO.len];have:({D with av:=A}:Co).cO.length<=100:=a'.2.1;exact Kl this
   have q5:=w.w.N _ _ r;have b1:¬lk=n0:=by intro h;rw[h,I.s0.1]at r;cases r
   have b2:¬lk=n:=(aeL q5);rw[b'];refine Ws tl.lay (sJ cB (gL ..) ag (fB (i:=(A[j]:J)) cT (ga _ _ _ q3 q4) ag (sFh (cf:=aq G (d+6)) (cs:=[("wave",n0+1),("counts",n0)]) (x:=s!"other") (a:=wb (wb (wb pT 1) 2) 0) (l:=lk) (xs:=aY (tg A[j])) (λ i=>vj H n0 n A λ x=>D.bA.count (U x)+((A.take j).flatMap tg).count x+((tg A[j]).take i).count x) (bcL X n0) Y (λ _=>yT b2 b1 q5.2) ag ag (λ i hi f tl C hR=>?_) λ f tl=>?_)))
   .rw[bE]at hi;have b':(aY (tg A[j]))[i]'(by rw[bE];exact hi)=.int (((tg A[j])[i]:J):Int):=gM ..
    have g:(tg A[j])[i]∈A:=I.bo.sK _ p _ (jP hi);rw[b'];refine Ws tl.lay (sL (cs:=[("wave",n0+1),("counts",n0)]) (x:=s!"counts") C0 ag ag (fB (i:=((tg A[j])[i]:J)) Cf (K8 hn _ g) ag (Ce (i:=((tg A[j])[i]:J)) Cf (yd hn g' _ g) ag
     (L6 (CM.trans (congrArg (vj H n0 n A) (funext λ y=>?_))) (sGk hR ag)))))
    rw[jH hi,nG,KN,lB];congr 1;by_cases h:(tg A[j])[i]=y<;>simp[h]
   .refine L6 (congrArg (vj H n0 n A) (funext λ y=>?_)) (Lo (hR f tl));rw[bE,km,jH E,v7,nG];simp[lB]
  .rw[bE,km];exact nS (k f tl.hd tl.tl.hd) ag
end
end
section
open Tr
section
variable{X:Fx}{D:Co}{P:Pt}{S H H':Hp}{n n' d:J}{K:Kx}
theorem Wd.AK(w:Wd X D P S H n)(L:l<n)(hS:S l=F)(c:∀t,(∃o,cont X D P t=U o)->P.L t≠l)(h:H l=U o):Wd X D P (ah S l (U o)) H n:=by
 have g:Ge S (ah S l (U o)):=by
  intro x o' B;rw[cx]
  .exact B
  .rintro rfl;rw[hS]at B;cases B
 refine⟨⟨λ x r B=>?_,λ t r ht=>w.w.dy t r ht,λ x r t f B ht=>?_,w.w.inj⟩,g _ _ w.aC,g _ _ w.eP,λ k C=>g _ _ (w.ir k C),λ k C=>g _ _ (w.iu k C),λ j E k C=>⟨g _ _ (w.ref j E k C).1,(w.ref j E k C).2⟩,w.ax.ge g,g _ _ w.dZ,w.cO.ge g,w.fix,w.ck.ge g⟩
 .by_cases e:x=l
  .obtain rfl:=e.symm;rw[aa]at B;cases B;exact⟨L,h⟩
  .rw[ae e]at B;exact w.w.N x r B
 .by_cases e:x=l
  .obtain rfl:=e.symm;exact(c t ⟨_,ht⟩).symm
  .rw[ae e]at B;exact w.w.sd x r t f B ht
theorem eV{S:Hp}(h:S x=F)(e:x≠l):ah S l (U o) x=F:=by rw[ae e];exact h
def IJ(X:Fx)(D:Co)(P:Pt)(S:Hp)(tg:J->List J)(n0:J)(r:List (J×J)×List J)(v:V)(H:Hp)(n:J):be:=
 ∃(l a b:J)(cls:List J)(B:Pt)(y:Hp),v=.ref l/\H l=U (.tup [↥a,↥b])/\y a=U ⇑(cls.map .ref)/\ij y cls r.1/\y b=U (.dict (da r.2 (cA D.bA tg r.2)))/\
  Wd X {D with av:=r.2} B y H n/\fw P B/\Ge S y/\n0<=n
noncomputable def yt(p:J->bG):V->Option V
 |.int i=>if p i.toNat then U (V.int i)else F
 |_=>F
theorem rV(p:J->bG):∀l:List J,(aY l).filterMap (yt p)=aY (l.filter p)
 |[]=>rfl
 |x::r=>by have X:=rV p r;simp only[aY,bW,jI,jf,yt]at X⊢;cases h:p x<;>simp[h,X]
theorem jY.less{cl:J->J}(bo:jY D tg cl A):jY D tg cl (cw A (bp D.bA tg A)):=by
 have y:(cw A (bp D.bA tg A)).Sublist A:=uN;have q:∀k∈cw A (bp D.bA tg A),k∈A:=λ k C=>(bF.mp C).1
 have h:∀k,0<cA D.bA tg A k->k∉bp D.bA tg A:=by intro k h0 C;have:=(lC.mp C).2;simp only[decide_eq_true_eq]at this;exact YX h0 this
 refine⟨bo.vK.sublist y,λ k C=>?_,bo.pl3,λ k C t ht=>?_,λ k C=>bo.cO k (q k C),λ k C=>bo.dH k (q k C),?_⟩
 .refine bF.mpr ⟨bo.pl k C,h k ?_⟩;unfold cA;have:0<D.bA.count (U k):=wI.mpr C;exact aai this
 .refine bF.mpr ⟨bo.sK k (q k C) t ht,h t ?_⟩;unfold cA;have:0<(A.flatMap tg).count t:=wI.mpr (iU.mpr ⟨k,q k C,ht⟩);exact Pq this
 .have:=y.length_le;have:=bo.len;omega
theorem rq(t:Tag)(h:∃o,cont X {D with av:=A} i t=U o):∃o,cont X D P t=U o:=by
 obtain o|f:=h;cases t with
 |aD k=>exact(Bi (k<D.nt)).elim (λ h=>⟨_,if_pos h⟩) λ h=>Fq f (if_neg h)
 |items k=>exact(Bi (k<D.nt)).elim (λ h=>⟨_,if_pos h⟩) λ h=>Fq f (if_neg h)
 |aU k=>exact(Bi (k<D.ns)).elim (λ h=>⟨_,if_pos h⟩) λ h=>Fq f (if_neg h)
 |_=>exact⟨_,Y⟩
theorem Tr.QE{R:Fl->Lc->Hp->J->be}{t:Tr Fl}{l:J}{o o':O}{x:af}{v:V}(h:H l=U o)(ha:ia x v o=U o')(e:IsU t (jc ↥l (.str x) v))(k:aG (t.pV.aE (ah H l (U o')) n) R):aG (t.aE H n) R:=
 Td (λ _=>jj _ h ha) e k
inductive Y3(X:Fx)(D:Co)(P1:Pt)(S2:Hp)(e:J->Option J)(cs:List (J×J))(w0:List J)(n n0:J)(j:J)(u:Lc)(H:Hp)(n':J):Prop
 |mk (cls':List J) (S':Hp) (l1:u s!"book"=U (.ref (X.L .bO))) (l2:u s!"calls"=U (.ref (n0+2))) (hn:n+3<=n') (w:Wd X D P1 S' H n') (hg:Ge S2 S') (v1:S' n0=F) (v2:S' (n0+1)=F) (v3:S' (n0+2)=F)
  (v4:∃o,H n0=U (.cell o)) (v5:H (n0+1)=U (.cell (U (.ref (n+1))))) (v6:H (n0+2)=U (.list (cls'.map .ref))) (t:ij S' cls' (cs++dq e (w0.take j))):Y3 X D P1 S2 e cs w0 n n0 j u H n'
def SP(X:Fx)(D:Co)(P:Pt)(S:Hp)(tg:J->List J)(cl:J->J)(e:J->Option J)(nNn:J)(c:List J)(n0 m:J)(u:Lc)(H:Hp)(n:J):be:=∃A cs cls i z,Jf X D P S tg cl e nNn c n0 m u H n A cs cls i z
theorem L5{tg:J->List J}{cl:J->J}{e:J->Option J}{nNn n0 m ct:J}{A0 A:List J}{u:Lc}{cs:List (J×J)}{cls:List J}{P1:Pt}{S1:Hp}{eP:List J}{pf:J->List J}{es:List J}
 (bo:jY D tg cl A)(l1:u s!"book"=U ↥(X.L .bO))(l2:u s!"calls"=U ↥(n0+2))(nn:n0+3<=ct)(b':ct<n)(am:A.length<=m)
 (d':bV D.bA tg e nNn A0=(cs++(bV D.bA tg e m A).1,(bV D.bA tg e m A).2))
 (w:Wd X {D with av:=A} P1 S1 H n)(pl:P1.L=P.L)(ge:Ge S S1)
 (s0:S1 n0=F/\S1 (n0+1)=F/\S1 (n0+2)=F/\S1 ct=F)
 (h0:H n0=U (.cell (U ↥ct)))(h1:∃o,H (n0+1)=U (.cell o))(h2:H (n0+2)=U ⇑(cls.map .ref))(I:H ct=U (.dict (da A (cA D.bA tg A))))
 (t:ij S1 cls cs)(r':cs.length+A.length<=100)(hA0:∀k∈A,k∈A0)
 (hL:∀t,(∃o,cont X D P t=U o)->P.L t<n0)(hE:∀k∈A,e k=d9 pf es (cl k))(bf:iP X S1 eP pf es)
 {g:Fl×St->Option (Fl×St)}{R:Fl->Lc->Hp->J->be}
 (k:∀u v H n,IJ X D P S tg n0 (bV D.bA tg e nNn A0) v H n->aG (g (.ret v,⟨u,H,n⟩)) R):
 aG (ay G (aq G (d+6)) [("wave",n0+1),("counts",n0)] (match pT with|[_,.jD _ b]=>b.drop 3|_=>[]) ⟨u,H,n⟩)
  (Go g R (xr (SP X D P S tg cl e nNn A0 n0) m)):=by
 have hn:A.Nodup:=bo.vK.imp λ{a b} h e=>(il h e)
 have e':=bo.len;obtain i|h1:=h1;have a0:¬n0=n:=(UT nn b');have a1:¬n0=n+1:=(aaa nn b');have a2:¬n0+1=n:=(Xe nn b');have a3:¬n0+1=n+1:=(Wu a0);have a4:¬ct=n:=(bX b');have a5:¬ct=n+1:=(fS b');have a6:¬ct=n0+1:=(Uh nn);have a7:¬n0=n0+1:=xF;have a8:¬n=n0+1:=(Wr a2);have a9:¬n+1=n0+1:=(OK a3);have B':(A.map λ(k:J)=>(k:Int)).length<64:=by rw[bS];exact UE e'
 have hsI:sortI (A.map λ(k:J)=>(k:Int))=A.map λ(k:J)=>(k:Int):=by apply HO;rw[pq];exact bo.vK.imp λ{a b} h=>(Wl h)
 have hso:t8 (.dict (da A (cA D.bA tg A)))=U ⇑(aY A):=by simp only[CL,tw,eT,B',if_true,hsI,hH];rfl
 have m0:(aY A).length<=1000:=by rw[bE];exact OW e'
 have k':∀t,(∃o,cont X {D with av:=A} P1 t=U o)->P1.L t<n0:=λ t h=>by rw[pl];exact hL t (rq t h)
 rw[yM l1 l2,<-iM];refine Bt λ RR hR=>?_
 refine sL (cs:=[(cZ "wave",n0+1),(cZ "counts",n0)]) (x:=cZ "counts") h0 ag ag ?_;refine aaS (cf:=aq G (d+6)) I hso ag ?_;refine Tp (cf:=aq G (d+6)) (cs:=[("wave",n0+1),("counts",n0)]) (elt:=.loc "k") (x:=s!"k") (ifs:=[.cmp .eq (.sub (.cW "counts") (.loc "k")) (.lit (.int 0))]) (aa ..) (yt λ k=>decide (cA D.bA tg A k=0)) m0 (rV _ _) (λ v z u RR q=>?_) ag ?_
 .obtain x|B|rfl:=bI.mp z;have f':yO (x:Int) (.dict (da A (cA D.bA tg A)))=U (.int (cA D.bA tg A x)):=(if_pos (dx (hO _ _) _)).trans (mU hn B _);refine sL (cs:=[("wave",n0+1),("counts",n0)]) (x:=s!"counts") ((ae a0).trans h0) ag ag (fB ((ae a4).trans I) f' ag ?_);by_cases h:cA D.bA tg A x=0
  .rw[show yt (λ k=>decide (cA D.bA tg A k=0)) (.int x)=U (.int x)from if_pos (decide_eq_true h)]at q;exact sEq (a:=(cA D.bA tg A x:J)) (b:=0) (decide_eq_true (by rw[h];rfl)) ag (Lo q)
  .rw[show yt (λ k=>decide (cA D.bA tg A k=0)) (.int x)=F from if_neg (λ e=>h (of_decide_eq_true e))]at q;exact sEq (a:=(cA D.bA tg A x:J)) (b:=0) (decide_eq_false (UJ h)) ag (Lo q)
 have C':A.filter (λ k=>decide (cA D.bA tg A k=0))=bp D.bA tg A:=rfl;rw[C'];have D':ah (ah H n (U (O.list (aY A)))) (n+1) (U (O.list (aY (bp D.bA tg A)))) (n0+1)=U (.cell i):=(ae a3).trans ((ae a2).trans h1);refine sP (cs:=[("wave",n0+1),("counts",n0)]) (x:=s!"wave") (l:=n0+1) (v:=↥(n+1)) D' ag ag ?_;refine sL (cs:=[("wave",n0+1),("counts",n0)]) (x:=s!"wave") (l:=n0+1) (v:=↥(n+1)) (aa ..) ag ag ?_;refine sN [] (cG _) ag ?_;obtain⟨H4,v'⟩:∃H4,H4=(ah (ah (ah (ah H n (U (.list (aY A)))) (n+1) (U (.list (aY (bp D.bA tg A))))) (n0+1) (U (.cell (U (.ref (n+1)))))) (n+1+1) (U (.list []))):=⟨_,Y⟩;rw[<-v'];have q1:H4 (n+1)=U ⇑(aY (bp D.bA tg A)):=by rw[v',ae JN,ae ((ZJ a9)),aa]
 have q2:H4 (n+1+1)=U ⇑(aY []):=by rw[v',aa];rfl
 have q3:H4 (n0+1)=U (.cell (U ↥(n+1))):=by rw[v',ae ((XX a1)),aa]
 have q4:∀l:J,l<n->l≠n0+1->H4 l=H l:=by intro l h1 h2;rw[v',ae ((C4 h1)),ae h2,ae ((fS h1)),ae ((bX h1))]
 clear v';have q5:H4 n0=U (.cell (U ↥ct)):=by rw[q4 _ ((aaH nn b')) (xF)];exact h0
 have q6:H4 (n0+2)=U ⇑(cls.map .ref):=by rw[q4 _ ((Yy nn b')) (Ym)];exact h2
 have q7:H4 ct=U (.dict (da A (cA D.bA tg A))):=by rw[q4 _ ((pi b')) ((JD a6))];exact I
 have w4:Wd X {D with av:=A} P1 S1 H4 (n+1+1+1):=by
  refine w.KZ (λ l L=>?_) (ZD);by_cases h:l=n0+1
  .refine .inl ⟨by rw[h];exact s0.2.1,λ t ht e=>?_⟩;have:=k' t ht;exact Xa this e h
  .exact .inr (q4 l L h)
 refine sO (m:=ew .eq ↥(n+1) ↥(n+1+1)) (v:=decide (bp D.bA tg A=[])) (λ u=>by rw[Je];exact yB q1 q2 u) ag ?_;by_cases c:bp D.bA tg A=[]
 .have hg:bV D.bA tg e m A=([],A):=by
   cases m with
   |zero=>rfl
   |succ m=>exact if_pos c
  rw[decide_eq_true c];refine sL (cs:=[(cZ "wave",n0+1),(cZ "counts",n0)]) (x:=cZ "counts") q5 ag ag ?_;refine Tx [↥(n0+2),↥ct] WO ag (ZK (fl:=.ret ↥(n+1+1+1)) ag (hR _ _ _ _ (k _ _ _ _ ?_)));rw[d',hg];have w5:=(w4.AK (l:=n0+2) ((Vz nn b')) s0.2.2.1 (λ t ht e=>by have:=k' t ht;exact X3 this e) q6).AK (l:=ct) ((VI b')) (eV s0.2.2.2 ((Zy nn))) (λ t ht e=>by have:=k' t ht;exact V0 nn this e) q7;refine⟨n+1+1+1,n0+2,ct,cls,P1,_,Y,aa ..,?_,?_,aa ..,w5.bg ((bK.refl _ _).ah (aS _)) (b7 _),⟨λ k=>by rw[pl],λ k=>by rw[pl]⟩,?_,(ZB nn b')⟩
  .rw[ae ((P9 nn)),aa]
  .simp only[kh];refine t.ge λ l o L=>?_
   rw[cx,cx]
   .exact L
   .rintro rfl;rw[s0.2.2.1]at L;cases L
   .rintro rfl;rw[s0.2.2.2]at L;cases L
  .refine ge.trans λ l o L=>?_
   rw[cx,cx]
   .exact L
   .rintro rfl;rw[s0.2.2.1]at L;cases L
   .rintro rfl;rw[s0.2.2.2]at L;cases L
 .rw[decide_eq_false c];refine sL (cs:=[(cZ "wave",n0+1),(cZ "counts",n0)]) (x:=cZ "wave") q3 ag ag ?_;obtain⟨w0,x'⟩:∃w0,w0=bp D.bA tg A:=⟨_,Y⟩;have h':∀k∈w0,k∈A:=λ k C=>(lC.mp (x'▸C)).1
  rw[<-x']at q1 c;have w5:=w4.AK (l:=n+1) (T3) (by
   cases h:S1 (n+1)with
   |none=>rfl
   |some o=>have:=(w.w.N _ _ h).1;exact abp this) (λ t ht e=>by have:=k' t ht;exact ZF nn b' this e) q1
  have a':(ah S1 (n+1) (U (O.list (aY w0)))) (n+1)=U ⇑(aY w0):=aa ..;have s':Ge S1 (ah S1 (n+1) (U (O.list (aY w0)))):=w.w.ge _ sV;have u1:=eV (l:=n+1) (o:=O.list (aY w0)) s0.1 ((JD a1));have u2:=eV (l:=n+1) (o:=O.list (aY w0)) s0.2.1 ((OK a9));have u3:=eV (l:=n+1) (o:=O.list (aY w0)) s0.2.2.1 ((Wy a8));generalize ah S1 (n+1) (U (O.list (aY w0)))=S2 at w5 a' s' u1 u2 u3;refine Ll (cf:=aq G (d+6)) (cs:=[("wave",n0+1),("counts",n0)]) (x:=s!"k") (a:=wb (wb pT 1) 5) (l:=n+1) (xs:=aY w0) (Y3 X {D with av:=A} P1 S2 e cs w0 n n0) ⟨cls,S2,ag,ag,aS _,w5,Ge.refl _,u1,u2,u3,⟨_,q5⟩,q3,q6,by simpa[dq]using t.ge s'⟩ (λ j u H n' Q=>by cases Q with|mk _ _ _ _ _ s l' _ _ _ _ _ _ _=>exact(s.w.N _ _ (l' _ _ a')).2) ag (λ j E u H5 n5 Q=>?_) λ u H5 n5 Q=>?_
  .refine Bt λ RR hR=>?_
   obtain o'|y|l1|l2|c'|s|l'|v1|v2|v3|⟨o5,v4⟩|v5|v6|t':=Q;rw[bE]at E;have g':(aY w0)[j]'(by rw[bE];exact E)=.int ((w0[j]:J):Int):=gM ..
   have p:=h' _ (jP E);obtain c1|c2:=bo.dH _ p;have j':=s.bO;have r:H5 (X.L .bu)=U ⇑(aY D.dH):=by rw[<-s.fix .bu Y];exact(s.w.dy .bu _ Y).2
   have X':(aY D.dH)[w0[j]]?=U (.int (cl w0[j])):=by rw[aY,pr,c1];rfl
   have hcl3:(aY D.dH).length<=1000:=by rw[bE];exact Vl e'
   have E':=(bf.ge s').ge l';rw[yM l1 l2,g'];refine sJ j' (BE ..) ag (sJ j' (LN ..) ag (sJ j' (q9 ..) ag (fB r (ga _ _ _ X' hcl3) ag ?_)));refine sC (M4 (d:=d+1) (E'.par H5 n5 s.w.N) (aS _) c2 (s.w.N _ _ E'.ends).2 (s.w.N _ _ E'.ends).1) ag ?_;rintro v H6 n6 ⟨rfl,z',p'⟩;have w6:=s.bg z' p';have f:e w0[j]=d9 pf es (cl w0[j]):=hE _ p;have A':dq e (w0.take (j+1))=dq e (w0.take j)++dq e [w0[j]]:=by rw[jH E];unfold dq;rw[JW]
   have v4':=(z' _ ((XO nn b' c'))).trans v4;have v5':=(z' _ ((Wq nn b' c'))).trans v5;have I':=(z' _ ((Xg nn b' c'))).trans v6;cases z:d9 pf es (cl w0[j])with
   |none=>
    refine O1 hR ⟨o',y,ag,ag,(YZ c' p'),w6,l',v1,v2,v3,⟨o5,v4'⟩,v5',I',?_⟩;have:dq e [w0[j]]=[]:=by simp[dq,f,z]
    rw[A',this,kh];exact t'
   |some x=>
    have g1:¬n0+2=n6:=(Z2 nn b' c' p');have L':(o'.map V.ref).length<=1000:=by
     rw[bS,t'.len,cE];have:(dq e (w0.take j)).length<=(w0.take j).length:=wQ _ _;have h2:w0.length<=A.length:=by rw[x'];exact Jo _ _
     rw[nx]at this;exact UR r' h2 this
    have w7:=w6.new (l:=n6) (n':=n6+1) (.tup [.int ((w0[j]:J):Int),.int x]) (aS _) (cQ _);have hS7:(ah y n6 (U (O.tup [.int ((w0[j]:J):Int),.int x]))) n6=U (O.tup [.int ((w0[j]:J):Int),.int x]):=aa ..;have hg7:Ge y (ah y n6 (U (O.tup [.int ((w0[j]:J):Int),.int x]))):=w6.w.ge _ (aS _);have y1:=eV (l:=n6) (o:=O.tup [.int ((w0[j]:J):Int),.int x]) v1 ((OD nn b' c' p'));have y2:=eV (l:=n6) (o:=O.tup [.int ((w0[j]:J):Int),.int x]) v2 ((PW nn b' c' p'));have y3:=eV (l:=n6) (o:=O.tup [.int ((w0[j]:J):Int),.int x]) v3 ((ZG g1));refine ei I' (cS ..) ag (Tx [.int ((w0[j]:J):Int),.int x] WO ag (nw (v:=↥n6) ((ae g1).trans I') L' ag ?_));refine O1 hR ⟨o'++[n6],_,ag,ag,(Vt c' p'),w7.KZ (λ l L=>?_) (aS _),l'.trans hg7,y1,y2,y3,⟨o5,?_⟩,?_,?_,?_⟩
    .by_cases h:l=n0+2
     .exact .inl ⟨h▸y3,λ t ht e=>by have:=k' t ht;exact Xx this e h⟩
     .exact .inr (ae h)
    .exact(ae xA).trans ((ae (OD nn b' c' p')).trans v4')
    .exact(ae FK).trans ((ae (PW nn b' c' p')).trans v5')
    .rw[aa,gq];rfl
    .have:dq e [w0[j]]=[(w0[j],x)]:=by simp[dq,f,z]
     rw[A',this,<-lv];exact(t'.ge hg7).snoc hS7
  .obtain o'|y|l1|l2|c'|s|l'|v1|v2|v3|v4|v5|v6|t':=Q;rw[bE,km]at t';have j':=s.bO;have i':=(s.w.N _ _ s.dZ).2;have hq:=(s.w.N _ _ (l' _ _ a')).2;have z1:¬X.L .bO=n5:=by rw[<-s.fix .bO Y];exact bX (s.lt (t:=.bO) ⟨_,Y⟩)
   rw[yM l1 l2];refine sJ j' (kq ..) ag ?_;refine Tp (cf:=aq G (d+6)) (cs:=[("wave",n0+1),("counts",n0)]) (elt:=.loc "k") (x:=s!"k") (ifs:=[.cmp .eW (.loc "k") (.cW "wave")]) i' (yt λ k=>decide (k∉w0)) m0 (rV _ _) (λ v z u RR q=>?_) ag ?_
   .obtain x|B|rfl:=bI.mp z;refine sL (cs:=[("wave",n0+1),("counts",n0)]) (x:=s!"wave") v5 ag ag (sNj hq (ik x _) ag ?_);by_cases h:x∈w0
    .rw[show yt (λ k=>decide (k∉w0)) (.int x)=F from if_neg (λ e=>(of_decide_eq_true e:x∉w0) h)]at q;rw[decide_eq_true h];exact Lo q
    .rw[show yt (λ k=>decide (k∉w0)) (.int x)=U (.int x)from if_pos (decide_eq_true h)]at q;rw[decide_eq_false h];exact Lo q
   have P':A.filter (λ k=>decide (k∉w0))=cw A w0:=rfl;rw[P'];refine QE (v:=↥n5) ((ae z1).trans j') (F7 (x:=n5) ..) ag (O1 hR ?_);have w6:=(s.new (l:=n5) (n':=n5+1) ⇑(aY (cw A w0)) (aS _) (cQ _)).J4 (l:=n5) (A:=cw A w0) (aa ..);have q':(cw A w0).length+w0.length=A.length:=by rw[x'];exact kW
   have y':0<w0.length:=BV.mpr c;obtain⟨m,rfl⟩:∃m',m=m'+1:=⟨m -1,(Vh y' q' am)⟩;have Q':X.L .bO<n0:=by rw[<-s.fix .bO Y];exact k' .bO ⟨_,Y⟩
   refine⟨m,cQ _,acL (cw A w0) (cs++dq e w0) o' _ _ ⟨ag,ag,(Wt nn b' c'),(Pg y' q' am),x'▸bo.less,?_,w6,pl,?_,?_,?_,?_,?_,?_,?_,λ k C=>hA0 k (bF.mp C).1⟩⟩
   .rw[d'];have:bV D.bA tg e (m+1) A=(dq e w0++(bV D.bA tg e m (cw A w0)).1,(bV D.bA tg e m (cw A w0)).2):=by subst x';exact if_neg c
    rw[this,lv]
   .exact(ge.trans (s'.trans l')).trans (s.w.ge _ (aS _))
   .exact cY (eV v1 ((OZ nn b' c'))) (eV v2 ((OO nn b' c'))) (eV v3 ((Qg nn b' c')))
   .obtain o|v4:=v4;exact⟨o,by rw[ae (CZ Q'),ae (OZ nn b' c')];exact v4⟩
   .exact⟨_,by rw[ae (TZ Q'),ae (OO nn b' c')];exact v5⟩
   .rw[ae (TY Q'),ae (Qg nn b' c')];exact v6
   .exact t'.ge (s.w.ge _ (aS _))
   .rw[cE];have:(dq e w0).length<=w0.length:=wQ _ _;exact aaG q' r' this
end
end
section
open Tr
section
variable{X:Fx}{D:Co}{P:Pt}{S H H':Hp}{n n' d:J}{K:Kx}
theorem qv{α:Type}(x:Option α):x.bind U=x:=by cases x<;>rfl
theorem E1{cl:J->J}{cls:List J}
 (I:Jf X D P S tg cl e nNn c n0 m u H n A cs cls i z)(p:∀t,(∃o,cont X D P t=U o)->P.L t<n0)(j:∀k∈c,e k=d9 pf es (cl k))(s:iP X S eP pf es)
 {R:Fl->Lc->Hp->J->be}
  (k:∀u v H n,IJ X D P S tg n0 (bV D.bA tg e nNn c) v H n->aG (g (.ret v,⟨u,H,n⟩)) R):
  aG (ay G (aq G (d+6)) [("wave",n0+1),("counts",n0)] (match pT with|[_,.jD _ b]=>b|_=>[]) ⟨u,H,n⟩)
   (Go g R (xr (SP X D P S tg cl e nNn c n0) m)):=by
  rw[<-iM];refine M1 (d:=d) I p λ f l1 l2=>?_
  rw[iM];have nn:=I.nn;obtain o0|h0:=I.h0;obtain r|h1:=I.h1;have a:∀t,(∃o,cont X {D with av:=A} i t=U o)->i.L t<n0:=by intro t ht;rw[I.pl];exact p t (rq t ht)
  have w:z n=F:=by
   cases h:z n with
   |none=>rfl
   |some o=>have:=(I.w.w.N _ _ h).1;exact TW this
  have q:Wd X {D with av:=A} i z (ah (ah H n0 (U (.cell (U ↥n)))) n (U (.dict (da A (cA D.bA tg A))))) (n+1):=by
   refine I.w.KZ (λ l L=>?_) (b7 _);by_cases h:l=n0
   .refine .inl ⟨by rw[h];exact I.s0.1,λ t ht e=>?_⟩;have:=a t ht;exact Yf this e h
   .exact .inr (by rw[ae (bX L),ae h])
  refine L5 (es:=es) (pf:=pf) (eP:=eP) I.bo l1 l2 nn (cQ _) I.am I.aE q I.pl I.ge ⟨I.s0.1,I.s0.2.1,I.s0.2.2,w⟩ ?_ ⟨r,?_⟩ ?_ (aa ..) I.t I.cs I.sub p (λ k C=>j k (I.sub k C)) (s.ge I.ge) k
  .rw[ae (PD nn),aa]
  .rw[ae (WY nn),ae Hv];exact h1
  .rw[ae (P9 nn),ae Xv];exact I.h2
theorem QY{cl:J->J}
 (w:Wd X D P S H n)(bo:jY D tg cl D.av)(r:D.av.length<=nNn)(f:nNn<1000)(j:∀k∈D.av,e k=d9 pf es (cl k))(s:iP X S eP pf es):
 ba (d+7) #[642] [↥(X.L .bO)] H n (IJ X D P S tg n (bV D.bA tg e nNn D.av)):=by
 refine Oc _ (aP (sN [] (cG _) ag (sWh (cf:=aq G (d+6)) (cs:=[("wave",n+1),("counts",n)]) (c:=.lit (.bool ai)) (a:=wb pT 1) (SP X D P S tg cl e nNn D.av n) nNn (oM f aL) ⟨D.av,[],[],P,S,?_⟩ ag ?_)))
 .have q:Wd X D P S (ah (ah (ah H n (U (.cell F))) (n+1) (U (.cell F))) (n+2) (U ⇑[])) (n+3):=by refine w.bg (bK.ah (bK.ah (bK.ah (bK.refl _ _) ?_) ?_) ?_) ?_<;>omega
  have hS:∀l,n<=l->S l=F:=by
   intro l L;cases h:S l with
   |none=>rfl
   |some o=>have:=(w.w.N _ _ h).1;exact N2 this L
  refine⟨ag,ag,aS _,r,bo,Y,q,Y,Ge.refl _,⟨hS _ (aS _),hS _ sV,hS _ Cr⟩,⟨F,?_⟩,⟨F,?_⟩,aa ..,trivial,?_,λ k C=>C⟩
  .rw[ae xA,ae xF,aa]
  .rw[ae FK,aa]
  .have:=bo.len.1;simp;exact Ve this
 .rintro m u H' n' ⟨A,cs,cls,i,z,I⟩;exact sO (m:=c7 G (aq G (d+6)) [("wave",n+1),("counts",n)] (.lit (.bool ai)) (ap G (aq G (d+6)) [("wave",n+1),("counts",n)] (.lit (.bool ai)))) (v:=ai) (λ _=>rfl) ag
   (sBe (cf:=aq G (d+6)) (cs:=[("wave",n+1),("counts",n)]) (b:=wb pT 1) (u:=u) Y (E1 (d:=d) I (λ t ht=>w.lt ht) j s λ u v H n h=>sQ (.ret v) ag Y h))
end
end
noncomputable def dr:J->af
 |0=>"A"
 |1=>"B"
 |2=>"C"
 |_=>"D"
theorem LB:∀i,i<4->∀j,j<4->dr i=dr j->i=j:=by decide+kernel
theorem wm{l:List J}(L:∀x∈l,x<4){x:J}(g:x<4):dr x∈l.map dr↔x∈l:=by
 rw[bI];constructor
 .rintro⟨y,S,e⟩;have:=LB y (L y S) x g e;exact this▸S
 .intro h;exact cC x h Y
noncomputable def TC(s:J×List J×J):af×List af×J:=(dr s.1,s.2.1.map dr,s.2.2)
theorem El{pf:af->List af}{pn:J->List J}(h:∀i,i<4->pf (dr i)=(pn i).map dr)(hp:∀i,i<4->∀p∈pn i,p<4)(k:J):
 ∀(line:List J)(N:List (J×List J×J)),(∀x∈line,x<4)->(∀s∈N,s.1<4/\∀x∈s.2.1,x<4)->
  m7 pf k (line.map dr) (N.map TC)=(g0 pn k line N).map λ l=>l.map dr:=by
 induction k with
 |zero=>intro line N _ _;cases N<;>rfl
 |succ k X=>
 intro line N L hs;cases N with
 |nil=>rfl
 |cons s N=>
  obtain p|row|i:=s;have h1:=hs (p,row,i) (by simp);have h2:∀s∈N,s.1<4/\∀x∈s.2.1,x<4:=λ s h=>hs s (by simp[h])
  have e:((p,row,i)::N).map TC=(dr p,row.map dr,i)::N.map TC:=rfl;rw[e];unfold m7;rw[fL,fL];rw[pr];cases t:row[i]?with
  |none=>exact X line N L h2
  |some x=>
   have g:x<4:=h1.2 x (rA t);simp only[pC];have Q:(dr p::(N.map TC).map (·.1))=(p::N.map (·.1)).map dr:=by rw[bW,hH,hH];rfl
   have w:(dr x∈dr p::(N.map TC).map (·.1))↔x∈p::N.map (·.1):=by
    rw[Q];refine wm ?_ g;intro y S;rcases dK.mp S with rfl|S
    .exact h1.1
    .obtain s|hs|rfl:=bI.mp S;exact(h2 s hs).1
   by_cases b:x∈p::N.map (·.1)
   .rw[if_pos b,if_pos (w.mpr b)];rfl
   .rw[if_neg b,if_neg λ c=>b (w.mp c)];by_cases P:x∈line
    .rw[if_pos P,if_pos ((wm L g).mpr P)];exact X line ((p,row,i+1)::N) L (by intro s hs;rcases dK.mp hs with rfl|hs;exact h1;exact h2 s hs)
    .rw[if_neg P,if_neg λ c=>P ((wm L g).mp c)];have:=X (line++[x]) ((x,pn x,0)::(p,row,i+1)::N) (by intro y S;rcases eE.mp S with S|S;exact L y S;simp at S;exact S▸g)
      (by intro s hs;rcases dK.mp hs with rfl|hs;exact⟨g,hp x g⟩;rcases dK.mp hs with rfl|hs;exact h1;exact h2 s hs)
     rw[<-this,gq,bW,bW,h x g];rfl
noncomputable def AU(a b c:List J):J->List J
 |1=>a
 |2=>b
 |3=>c
 |_=>[]
noncomputable def nZ(l:List J):List (List J):=[]::l.map (λ x=>[x])++l.flatMap λ x=>l.map λ y=>[x,y]
theorem AN{l r:List J}(h:∀x∈r,x∈l)(L:r.length<=2):r∈nZ l:=by
 unfold nZ;cases r with
 |nil=>simp
 |cons x r=>
 cases r with
 |nil=>simp;exact h x (by simp)
 |cons y r=>
 cases r with
 |nil=>simp;exact⟨h x (by simp),h y (by simp)⟩
 |cons z r=>simp at L
theorem E6:∀a∈nZ [0],∀b∈nZ [0,1],∀c∈nZ [0,1,2],∀i∈[0,1,2,3],g0 (AU a b c) 40 [i] [(i,AU a b c i,0)]=U (c8 (AU a b c) 4 i):=by decide+kernel
theorem B1{α:Type}[DecidableEq α]{pf:α->List α}(k j:J):∀(line:List α)(N:List (α×List α×J))(r:List α),g0 pf k line N=U r->g0 pf (k+j) line N=U r:=by
 induction k with
 |zero=>
  intro line N r h;cases N with
  |nil=>rw[<-h];cases 0+j<;>rfl
  |cons s N=>cases h
 |succ k X=>
 intro line N r h;cases N with
 |nil=>rw[<-h];cases k+1+j<;>rfl
 |cons s N=>
  obtain p|row|i:=s;rw[show k+1+j=k+j+1 from afm];rw[fL]at h⊢;cases t:row[i]?with
  |none=>rw[t]at h;exact X _ _ _ h
  |some x=>
   rw[t]at h;simp only at h⊢;by_cases b:x∈p::N.map (·.1)
   .rw[if_pos b]at h;cases h
   .rw[if_neg b]at h⊢;by_cases P:x∈line
    .rw[if_pos P]at h⊢;exact X _ _ _ h
    .rw[if_neg P]at h⊢;exact X _ _ _ h
theorem Oq(h0:pn 0=[])(hp:∀i,i<4->∀p∈pn i,p<i)(L:∀i,i<4->(pn i).length<=2){c:J}(hc:c<4):g0 pn 40 [c] [(c,pn c,0)]=U (c8 pn 4 c):=by
 have e:∀i,i<4->pn i=AU (pn 1) (pn 2) (pn 3) i:=by intro i hi;exact ltD hi h0 Y Y Y
 have m:∀i,i<4->∀r:List J,(∀x,x<i->x∈r)->pn i∈nZ r:=λ i hi r t=>AN (λ x g=>t x (hp i hi x g)) (L i hi)
 have h1:=E6 (pn 1) (m 1 aL _ aL) (pn 2) (m 2 aL _ aL) (pn 3) (m 3 aL _ aL) c (by exact ltD hc aL aL aL aL)
 have o:∀(k:J)(line:List J)(N:List (J×List J×J)),(∀s∈N,∀x∈s.2.1,x<4)->g0 pn k line N=g0 (AU (pn 1) (pn 2) (pn 3)) k line N:=by
  intro k
  induction k with
  |zero=>intro line N _;cases N<;>rfl
  |succ k X=>
   intro line N hs;cases N with
   |nil=>rfl
   |cons s N=>
    obtain p|row|i:=s;have h2:∀s∈N,∀x∈s.2.1,x<4:=λ s h=>hs s (by simp[h])
    have h1:=hs (p,row,i) (by simp);rw[fL,fL];cases t:row[i]?with
    |none=>exact X _ _ h2
    |some x=>
     have g:x<4:=h1 x (rA t);have I:∀s∈(p,row,i+1)::N,∀x∈s.2.1,x<4:=by intro s hs;rcases dK.mp hs with rfl|hs;exact h1;exact h2 s hs
     simp only;by_cases b:x∈p::N.map (·.1)
     .rw[if_pos b,if_pos b]
     .rw[if_neg b,if_neg b];by_cases P:x∈line
      .rw[if_pos P,if_pos P];exact X _ _ I
      .rw[if_neg P,if_neg P,<-e x g];refine X _ _ ?_;intro s hs;rcases dK.mp hs with rfl|hs
       .intro y S;have:=hp x g y S;exact fE g this
       .exact I s hs
 have A:∀(f c:J),c<4->c8 pn f c=c8 (AU (pn 1) (pn 2) (pn 3)) f c:=by
  intro f
  induction f with
  |zero=>intro c _;rfl
  |succ f X=>
   intro c hc;rw[vE,vE];rw[<-e c hc];have:∀(l acc:List J),(∀p∈l,p<4)->l.foldl (λ line p=>line++(c8 pn f p).filter λ x=>decide (x∉line)) acc=l.foldl (λ line p=>line++(c8 (AU (pn 1) (pn 2) (pn 3)) f p).filter λ x=>decide (x∉line)) acc:=by
    intro l
    induction l with
    |nil=>intro acc _;rfl
    |cons a r d=>intro acc h;rewrite[qD,qD,X a (h a (by simp)),d _ λ p hp=>h p (by simp[hp])];rfl
   exact this _ _ λ p j=>by have:=hp c hc p j;exact fE hc this
 rw[o _ _ _ (by intro s hs;simp at hs;subst hs;intro x g;have:=hp c hc x g;exact fE hc this),e c hc,h1,A 4 c hc]
noncomputable def pD{α:Type}(f:J->α)(d:α)(p:af):α:=if p=dr 0 then f 0 else if p=dr 1 then f 1 else if p=dr 2 then f 2 else if p=dr 3 then f 3 else d
theorem mq:∀i,i<4->∀j,j<4->i≠j->dr i≠dr j:=by decide+kernel
theorem sg:∀i,i<4->s!"UNIVERSAL"≠dr i:=by decide+kernel
theorem jb{α:Type}(f:J->α)(d:α)(hi:i<4):pD f d (dr i)=f i:=by
 have n:=λ a b h=>mq a h b
 unfold pD;refine ltD hi ?_ ?_ ?_ ?_
 .rw[if_pos Y]
 .rw[if_neg (mq 1 aL 0 aL aL),if_pos Y]
 .rw[if_neg (mq 2 aL 0 aL aL),if_neg (mq 2 aL 1 aL aL),if_pos Y]
 .rw[if_neg (mq 3 aL 0 aL aL),if_neg (mq 3 aL 1 aL aL),if_neg (mq 3 aL 2 aL aL),if_pos Y]
theorem nJ{α:Type}(f:J->α)(d:α):pD f d s!"UNIVERSAL"=d:=by unfold pD;rw[if_neg (sg 0 aL),if_neg (sg 1 aL),if_neg (sg 2 aL),if_neg (sg 3 aL)]
noncomputable def vk(pn:J->List J):af->List af:=pD (λ i=>(pn i).map dr) []
noncomputable def qh:List af:=[dr 0,dr 1,dr 2,dr 3,s!"UNIVERSAL"]
noncomputable def rt(pn:J->List J)(c:J):List af:=(c8 pn 4 c).map dr
noncomputable def Ov(pn:J->List J):List aJ:=[0,1,2,3].map λ c=>aJ.tup s!"DESTROY" (rt pn c++[s!"UNIVERSAL"])
theorem zv(hi:i<4):dr i∈qh:=by
 match i,hi with
 |0,_=>simp[qh]
 |1,_=>simp[qh]
 |2,_=>simp[qh]
 |3,_=>simp[qh]
theorem adQ{c:J}(hc:c<4):c∈[0,1,2,3]:=by
 match c,hc with
 |0,_=>decide
 |1,_=>decide
 |2,_=>decide
 |3,_=>decide
structure D1(pn:J->List J):Prop where
 lt:∀i,i<4->∀p∈pn i,p<i
 sz:∀i,i<4->(pn i).length<=2
theorem D1.zero(h:D1 pn):pn 0=[]:=by
 cases hp:pn 0 with
 |nil=>rfl
 |cons a r=>have:=h.lt 0 aL a (by rw[hp];simp);exact WR this
theorem R2(h:D1 pn){c:J}(hc:c<4):uX (vk pn) qh (Ov pn) (dr c) (rt pn c):=by
 have L:=jZ pn h.lt 4 c hc;have a:∀i,i<4->∀p∈pn i,p<4:=λ i hi p hp=>by have:=h.lt i hi p hp;exact fE hi this
 refine⟨?_,?_,?_,?_,?_⟩
 .have h1:=El (pf:=vk pn) (pn:=pn) (λ i hi=>jb _ _ hi) a 200 [c] [(c,pn c,0)] (by simp[hc]) (by simp[hc];exact a c hc);rw[show(200:J)=40+160 from rfl,B1 _ _ _ _ _ (Oq h.zero h.lt h.sz hc)]at h1;have e:vk pn (dr c)=(pn c).map dr:=jb _ _ hc;rw[e];exact h1
 .intro hm;obtain i|hi|e:=bI.mp hm;exact sg i (L.2 i hi) e.symm
 .rw[rt,bS];have:=t6 pn h.lt 4 c hc;exact Zp this
 .intro p hp;obtain i|hi|rfl:=bI.mp hp;exact zv (L.2 i hi)
 .exact bI.mpr ⟨c,adQ hc,Y⟩
noncomputable def td(cd:J->Option J):af->Option J:=pD cd F
theorem qW(cd:J->Option J):∀l:List J,(∀x∈l,x<4)->ch (td cd) (l.map dr++[s!"UNIVERSAL"])=(l.find? λ i=>(cd i).isSome).bind λ i=>(cd i).map λ a=>(a,dr i)
 |[],_=>by rw[oo,List.nil_append];rw[k7];rw[show td cd s!"UNIVERSAL"=F from nJ _ _];rfl
 |x::r,h=>by
  have X:=qW cd r λ y S=>h y (by simp[S])
  rw[bW,Bl,im];rw[k7];rw[show td cd (dr x)=cd x from jb _ _ (h x (by simp))];cases hc:cd x with
  |some a=>simp[hc]
  |none=>simpa using X
theorem I1{l:List J}{p q:J->bG}(h:∀x∈l,p x=q x):l.find? p=l.find? q:=by
 induction l with
 |nil=>rfl
 |cons a r X=>rw[im,im,h a (by simp),X λ x g=>h x (by simp[g])]
theorem vm{pn:J->List J}(h:D1 pn){cd:J->Option J}{es:List J}(P:∀i,i<4->((cd i).isSome=ai↔i∈es)){c:J}(hc:c<4):
 ch (td cd) (rt pn c++[s!"UNIVERSAL"])=(d9 pn es c).bind λ i=>(cd i).map λ a=>(a,dr i):=by
 have L:=(jZ pn h.lt 4 c hc).2;rw[rt,qW cd _ L];unfold d9;rw[I1 λ x g=>?_];by_cases t:x∈es
 .rw[decide_eq_true t,(P x (L x g)).mpr t]
 .rw[decide_eq_false t];cases hs:(cd x).isSome with
  |false=>rfl
  |true=>exact absurd ((P x (L x g)).mp hs) t
theorem IE(h:D1 pn){c i:J}(hc:c<4)(e:d9 pn es c=U i):i<4/\i∈es:=by unfold d9 at e;have h1:=wz e;have h2:=AY e;exact⟨(jZ pn h.lt 4 c hc).2 i h1,by simpa using h2⟩
section
open Tr
noncomputable def Co.ia(D:Co)(j:J)(v:Option J):Co:={D with sc:=ah D.sc j {D.sc j with val:=v}}
noncomputable def Co.jS(D:Co):Option J->Co
 |none=>D
 |some k=>D.goT k
section
variable{X:Fx}{D:Co}{P:Pt}{S H:Hp}{n d:J}
theorem MH(w:Wd X D P S H n)(E:j<D.ns)(m:D.zero.length<=1000):
 ba (d+3) #[449] [↥X.aC,↥(P.L (.aU j)),.none] H n λ v H' n'=>v=.none/\Wd X ((D.ia j F).jS (D.sc j).val) P S H' n'/\n<=n':=by
 refine aE Sh (aP ?_);have hs:=w.aU E;have hc:=w.jh;have hp:=w.RK;have f:¬X.aC=P.L (.aU j):=w.qt w.aC (w.DI E);have Q:=w.Dg E (t:={D.sc j with val:=F}) (wk:=P.iu j) (rl:=P.rl j) (w.iu j E) (λ k C=>by cases C);rw[cu,cu]at Q;cases z:(D.sc j).val with
 |none=>rw[Sc.Qt z]at hs;refine cH hc (oU ..) ag (ei hp (i0 ..) ag (cH hs (gZ ..) ag ?_));refine Tl (x:=(D.sc j).num) (d:=.none) hp (kX _) ag ?_;refine cH hs (rk ..) ag (cH hs (uW ..) ag (ei hc (kR ..) ag ?_));refine sD (zL (d:=d) (c:=X.aC)) ag ?_;refine my (v:=V.none) hs (n9 ..) ag (ei ((ae f).trans hc) (fN ..) ag ?_);refine sD (oZ (d:=d) (c:=X.aC) (s:=P.L (.aU j))) ag ?_;exact sQ .next ag Y ⟨Y,Q.bg ((bK.refl _ _).ah (aS _)) (b7 _),b7 _⟩
 |some k=>
  obtain i|C:=w.ref j E k z;rw[Sc.SH z]at hs;refine cH hc (oU ..) ag (ei hp (i0 ..) ag (cH hs (gZ ..) ag ?_));refine Tl (x:=(D.sc j).num) (d:=.none) hp (kX _) ag ?_;refine cH hs (rk ..) ag (cH hs (vC ..) ag (ei hc (kR ..) ag ?_));refine sD (zL (d:=d) (c:=X.aC)) ag ?_;refine my (v:=V.none) hs (n9 ..) ag (ei ((ae f).trans hc) (fN ..) ag ?_);refine sC (n8 (d:=d) Q (s:=P.L (.aU j)) (k:=k) (r:=P.rl j) C i m) ag λ v H2 e q=>?_
  exact sQ .next ag Y ⟨Y,q.2.1,q.2.2▸b7 _⟩
theorem Ni(w:Wd X D P S H n)(E:j<D.ns)(C:k<D.nt)(i:S r=U (eQ ↥(P.L (.aD k)) aj))(m:D.zero.length<=1000):
 ba (d+3) #[449] [↥X.aC,↥(P.L (.aU j)),↥r] H n λ v H' n'=>v=.none/\∃B,Wd X (((D.mV k).ia j (U k)).jS (D.sc j).val) B S H' n'/\fw P B/\n<=n':=by
 refine aE Sh (aP ?_);have hs:=w.aU E;have hc:=w.jh;have hp:=w.RK;have f:¬X.aC=P.L (.aU j):=w.qt w.aC (w.DI E);have A:¬X.aC=P.L (.aD k):=w.qt w.aC (w.zj C);have I:¬P.L (.aU j)=P.L (.aD k):=w.ne (w.DI E) (w.zj C) (by simp);have h:=w.ff C (t:={D.th k with aC:=(D.th k).aC+1}) Y Y Y Y;have Q:=h.Dg E (t:={D.sc j with val:=U k}) (wk:=P.iu j) (rl:=r) (w.iu j E) (λ g a=>by cases a;exact⟨i,C⟩);rw[cu]at Q;have tk:=G4 (d:=d) (n:=n) (rl:=r) (t:=P.L (.aD k)) w.jh (w.w.N _ _ i).2 (w.aD C) (w.qt i (w.zj C));cases z:(D.sc j).val with
 |none=>rw[Sc.Qt z]at hs;refine cH hc (oU ..) ag (ei hp (i0 ..) ag (cH hs (gZ ..) ag ?_));refine Tl (x:=(D.sc j).num) (d:=.none) hp (kX _) ag ?_;refine cH hs (rk ..) ag (cH hs (uW ..) ag (ei hc (kR ..) ag ?_));refine sD tk ag ?_;refine my (v:=V.ref r) ((ae I).trans hs) (n9 ..) ag (ei ((ae f).trans ((ae A).trans hc)) (fN ..) ag ?_);refine sD (oZ (d:=d) (c:=X.aC) (s:=P.L (.aU j))) ag ?_;exact sQ .next ag Y ⟨Y,_,Q.bg ((bK.refl _ _).ah (aS _)) (b7 _),⟨λ _=>rfl,λ _=>rfl⟩,b7 _⟩
 |some o=>
  obtain l|b:=w.ref j E o z;rw[Sc.SH z]at hs;refine cH hc (oU ..) ag (ei hp (i0 ..) ag (cH hs (gZ ..) ag ?_));refine Tl (x:=(D.sc j).num) (d:=.none) hp (kX _) ag ?_;refine cH hs (rk ..) ag (cH hs (vC ..) ag (ei hc (kR ..) ag ?_));refine sD tk ag ?_;refine my (v:=V.ref r) ((ae I).trans hs) (n9 ..) ag (ei ((ae f).trans ((ae A).trans hc)) (fN ..) ag ?_);refine sC (n8 (d:=d) Q (s:=P.L (.aU j)) (k:=o) (r:=P.rl j) b l m) ag λ v H2 e q=>?_
  exact sQ .next ag Y ⟨Y,_,q.2.1,⟨λ _=>rfl,λ _=>rfl⟩,q.2.2▸b7 _⟩
end
end
section
variable{S:Hp}{L:Tag->J}{C:Tag->Option O}{H H':Hp}{n n':J}
theorem W.VW(w:W S L C H n)(t:Tag)(o:O)(h0:S l=F)(h1:∀I,(∃o,C I=U o)->L I≠l)(h2:l<n')(hn:n<=n'):W S (ah L t l) (ah C t (U o)) (ah H l (U o)) n':=by
 refine⟨λ x r g=>?_,λ I r p=>?_,λ x r I B g p=>?_,λ I v r B p z e=>?_⟩
 .have:=w.N x r g;have b:x≠l:=by rintro rfl;rw[h0]at g;cases g
  rw[ae b];exact⟨cv this.1 hn,this.2⟩
 .by_cases e:I=t
  .obtain rfl:=e.symm;rw[aa]at p⊢;rw[aa];exact⟨h2,p⟩
  .rw[ae e]at p⊢;have:=w.dy I r p;rw[ae (h1 I ⟨_,p⟩)];exact⟨cv this.1 hn,this.2⟩
 .by_cases e:I=t
  .obtain rfl:=e.symm;rw[aa];rintro rfl;rw[h0]at g;cases g
  .rw[ae e]at p⊢;exact w.sd x r I B g p
 .by_cases a:I=t
  .by_cases i:v=t
   .rw[a,i]
   .rw[ae i]at z e;rw[a,aa]at e;exact absurd e.symm (h1 v ⟨_,z⟩)
  .by_cases i:v=t
   .rw[ae a]at p e;rw[i,aa]at e;exact absurd e (h1 I ⟨_,p⟩)
   .rw[ae a]at p e;rw[ae i]at z e;exact w.inj _ _ _ _ p z e
end
section
variable{X:Fx}{D:Co}{P:Pt}{S H H':Hp}{n n' d:J}
theorem Wd.Rx(w:Wd X D P S H n)(h:n<=l):S l=F:=by
 cases e:S l with
 |none=>rfl
 |some o=>have:=(w.w.N _ _ e).1;exact N2 this h
theorem Wd.Wh(w:Wd X D P S H n){t:Sc}(h0:S l=F)(h1:∀I,(∃o,cont X D P I=U o)->P.L I≠l)(h2:l<n')(hn:n<=n')
 (m:D.zero=[])(hp:∀k,k<D.nt->∀j∈(D.th k).ps,j<D.ns)(b:3<=D.ns)(h:S wk=U ⇑[])(z:∀k,t.val=U k->S rl=U (eQ ↥(P.L (.aD k)) aj)/\k<D.nt):
 Wd X {D with last:=D.last+1,ns:=D.ns+1,sc:=ah D.sc D.ns t} {P with L:=ah P.L (.aU D.ns) l,iu:=ah P.iu D.ns wk,rl:=ah P.rl D.ns rl} S
  (ah (ah H (P.L .heap) (U (aX X.lim (D.last+1) (P.L .zero)))) l (U (t.obj wk rl))) n':=by
 have c:=w.w.put (t:=.heap) (aX X.lim (D.last+1) (P.L .zero)) Y;have a:=c.VW (n':=n') (l:=l) (.aU D.ns) (t.obj wk rl) h0 (λ I p=>by
  refine h1 I ?_;by_cases e:I=.heap
  .subst e;exact⟨_,Y⟩
  .rw[ae e]at p;exact p) h2 hn
 have A:∀I,I≠Tag.aU D.ns->ah P.L (.aU D.ns) l I=P.L I:=λ I p=>ae p
 have e:cont X {D with last:=D.last+1,ns:=D.ns+1,sc:=ah D.sc D.ns t} {P with L:=ah P.L (.aU D.ns) l,iu:=ah P.iu D.ns wk,rl:=ah P.rl D.ns rl}=ah (ah (cont X D P) .heap (U (aX X.lim (D.last+1) (P.L .zero)))) (.aU D.ns) (U (t.obj wk rl)):=by
  funext I;cases I with
  |aU j=>
   by_cases e:j=D.ns
   .subst e;simp[cont,ah]
   .have i:(j<D.ns+1)↔(j<D.ns):=(Ku e);simp[cont,ah,e,i]
  |heap=>simp[cont,ah]
  |zero=>simp[cont,ah,m]
  |items k=>
   rw[ae (by simp),ae (by simp)];by_cases C:k<D.nt
   .have:∀j∈(D.th k).ps,ah P.L (.aU D.ns) l (.aU j)=P.L (.aU j):=λ j E=>A _ (by have:=hp k C j E;simp;exact bX this)
    have f:((D.th k).ps.map λ j=>V.ref (ah P.L (.aU D.ns) l (.aU j)))=(D.th k).ps.map λ j=>V.ref (P.L (.aU j)):=ef λ j E=>by rw[this j E]
    simp only[cont,C,if_true,Th.items,f]
   .simp only[cont,C,if_false]
  |aD k=>kernel_rfl
  |bw=>kernel_rfl
  |bO=>kernel_rfl
  |cache=>kernel_rfl
  |_=>kernel_rfl
 rw[<-e]at a;refine⟨a,?_,w.eP,w.ir,λ j E=>?_,λ j E k C=>?_,w.ax,w.dZ,w.cO,λ I p=>?_,⟨w.ck.kt,w.ck.nd,w.ck.sub,w.ck.ok⟩⟩
 .show S X.aC=U (bq (ah P.L (.aU D.ns) l .heap) X.Fs X.eP);rw[A _ (by simp)];exact w.aC
 .show S (ah P.iu D.ns wk j)=_;by_cases e:j=D.ns
  .subst e;rw[aa];exact h
  .rw[ae e];exact w.iu j (by have:j<D.ns+1:=E;exact fX this e)
 .show S (ah P.rl D.ns rl j)=U (eQ ↥(ah P.L (.aU D.ns) l (.aD k)) aj)/\_;rw[A _ (by simp)];by_cases e:j=D.ns
  .subst e;rw[aa];have C:(ah D.sc D.ns t D.ns).val=U k:=C;rw[aa]at C;exact z k C
  .rw[ae e];have C:(ah D.sc D.ns t j).val=U k:=C;rw[ae e]at C;exact w.ref j (by have:j<D.ns+1:=E;exact fX this e) k C
 .show ah P.L (.aU D.ns) l I=_;rw[A]
  .exact w.fix I p
  .rintro rfl;exact KP b (of_decide_eq_true p)
theorem Wd.Nv(w:Wd X D P S H n)(C:k<D.nt)(ps:List J)(ks:List af):
 Wd X {D with th:=ah D.th k {D.th k with ps:=ps,ks:=ks}} P S (ah H (P.L (.items k)) (U (({D.th k with ps:=ps,ks:=ks}:Th).items P.L))) n:=by
 obtain o|f:=w.tit C;have h:=w.w.put (({D.th k with ps:=ps,ks:=ks}:Th).items P.L) f;have e:cont X {D with th:=ah D.th k {D.th k with ps:=ps,ks:=ks}} P=ah (cont X D P) (.items k) (U (({D.th k with ps:=ps,ks:=ks}:Th).items P.L)):=by
  funext I;cases I with
  |aD g=>
   rw[ae (by simp)];by_cases e:g=k
   .obtain rfl:=e.symm;simp only[cont,aa];rfl
   .simp only[cont,ae e]
  |items g=>
   by_cases e:g=k
   .obtain rfl:=e.symm;simp only[cont,aa,C,if_true]
   .rw[ae (by simpa using e)];simp only[cont,ae e]
  |cb=>
   rw[ae (by simp)];simp only[cont,numsOf];congr 2;apply ef;intro x _;by_cases e:x=k
   .obtain rfl:=e.symm;rw[aa]
   .rw[ae e]
  |_=>kernel_rfl
 rw[<-e]at h;exact⟨h,w.aC,w.eP,w.ir,w.iu,w.ref,w.ax,w.dZ,w.cO,w.fix,⟨w.ck.kt,w.ck.nd,w.ck.sub,w.ck.ok⟩⟩
theorem nM.set{S:Hp}{l:J}{xs:List J}(h:S l=U ⇑(aY xs)){ls:List J}{cs:List (List J)}{i:J}(a:nM S ls cs):nM S (ls.set i l) (cs.set i xs):=dO.set (p:=λ l c=>S l=U ⇑(aY c)) h a
theorem nM.snoc{S:Hp}(h:S l=U ⇑(aY xs))(a:nM S ls cs):nM S (ls++[l]) (cs++[xs]):=dO.snoc (p:=λ l c=>S l=U ⇑(aY c)) h a
theorem Wd.O5(w:Wd X D P S H n)(h:S l=U ⇑(aY xs)):
 Wd X {D with cO:=D.cO.set k xs} {P with bA:=P.bA.set k l} S (ah H (P.L .bh) (U ⇑((P.bA.set k l).map .ref))) n:=by
 have h1:=w.w.put (t:=.bh) ⇑((P.bA.set k l).map .ref) Y;have e:cont X {D with cO:=D.cO.set k xs} {P with bA:=P.bA.set k l}=ah (cont X D P) .bh (U ⇑((P.bA.set k l).map .ref)):=by
  funext I;cases I with
  |bh=>rw[aa];rfl
  |_=>kernel_rfl
 rw[<-e]at h1;exact⟨h1,w.aC,w.eP,w.ir,w.iu,w.ref,w.ax,w.dZ,w.cO.set h,w.fix,⟨w.ck.kt,w.ck.nd,w.ck.sub,w.ck.ok⟩⟩
theorem Wd.W5(w:Wd X D P S H n)(dH:List J):Wd X {D with dH:=dH} P S (ah H (P.L .bu) (U ⇑(aY dH))) n:=by
 have h1:=w.w.put (t:=.bu) ⇑(aY dH) Y;have e:cont X {D with dH:=dH} P=ah (cont X D P) .bu (U ⇑(aY dH)):=by
  funext I;cases I with
  |bu=>rw[aa];rfl
  |_=>kernel_rfl
 rw[<-e]at h1;exact⟨h1,w.aC,w.eP,w.ir,w.iu,w.ref,w.ax,w.dZ,w.cO,w.fix,⟨w.ck.kt,w.ck.nd,w.ck.sub,w.ck.ok⟩⟩
theorem Wd.X5(w:Wd X D P S H n)(bA:List (Option J)):Wd X {D with bA:=bA} P S (ah H (P.L .aV) (U ⇑(bA.map fM))) n:=by
 have h1:=w.w.put (t:=.aV) ⇑(bA.map fM) Y;have e:cont X {D with bA:=bA} P=ah (cont X D P) .aV (U ⇑(bA.map fM)):=by
  funext I;cases I with
  |aV=>rw[aa];rfl
  |_=>kernel_rfl
 rw[<-e]at h1;exact⟨h1,w.aC,w.eP,w.ir,w.iu,w.ref,w.ax,w.dZ,w.cO,w.fix,⟨w.ck.kt,w.ck.nd,w.ck.sub,w.ck.ok⟩⟩
theorem Wd.L7(w:Wd X D P S H n)(i:Int):Wd X {D with b9:=i} P S (ah H (P.L .b9) (U ⇑[.int i])) n:=by
 have h1:=w.w.put (t:=.b9) ⇑[.int i] Y;have e:cont X {D with b9:=i} P=ah (cont X D P) .b9 (U ⇑[.int i]):=by
  funext I;cases I with
  |b9=>rw[aa];rfl
  |_=>kernel_rfl
 rw[<-e]at h1;exact⟨h1,w.aC,w.eP,w.ir,w.iu,w.ref,w.ax,w.dZ,w.cO,w.fix,⟨w.ck.kt,w.ck.nd,w.ck.sub,w.ck.ok⟩⟩
end
section
open Tr
noncomputable def Co.iX(D:Co)(k:J):Co:={D.mV k with last:=D.last+1,ns:=D.ns+1,sc:=ah D.sc D.ns ⟨D.last+1,1,aj,U k⟩}
section
variable{X:Fx}{D:Co}{P:Pt}{S H H':Hp}{n n' d:J}
theorem LA(w:Wd X D P S H n)(C:k<D.nt)(i:S r=U (eQ ↥(P.L (.aD k)) aj))(m:D.zero=[])(hp:∀k,k<D.nt->∀j∈(D.th k).ps,j<D.ns)(b:3<=D.ns):
 ba (d+4) #[456] [↥X.aC,↥r] H n λ v H' n'=>v=.ref n/\n'=n+2/\∃B y,Wd X (D.iX k) B y H' n'/\B.L=ah P.L (.aU D.ns) n/\Ge S y:=by
 have ht:=w.aD C;refine(Ol w.jh w.heap (w.w.N _ _ i).2 ht (w.qt i (w.zj C)) (w.ne ⟨_,Y⟩ (w.zj C) (by simp))).weak ?_;rintro _ _ _ ⟨rfl,rfl,rfl⟩;have h:=w.ff C (t:={D.th k with aC:=(D.th k).aC+1}) Y Y Y Y;have q:=h.new (l:=n+1) (n':=n+2) ⇑[] (b7 _) (cQ _);have hg:=h.w.ge (l:=n+1) ⇑[] (b7 _);have x:∀g,g<D.nt->∀j∈(ah D.th k {D.th k with aC:=(D.th k).aC+1} g).ps,j<D.ns:=by
  intro g a j E;by_cases e:g=k
  .obtain rfl:=e.symm;rw[aa]at E;exact hp _ a j E
  .rw[ae e]at E;exact hp _ a j E
 have L:=q.Wh (l:=n) (wk:=n+1) (rl:=r) (n':=n+2) (t:=⟨D.last+1,1,aj,U k⟩) (by
  rw[ae kE];exact w.Rx (aS _)) (λ I p=>bP (h.lt p)) (Uo) (aS _) m x b (aa ..) (λ g a=>by
  cases a;exact⟨hg _ _ i,C⟩)
 have c:P.L .heap<n:=w.lt ⟨_,Y⟩;have f:P.L .heap≠n+1:=(fS c);rw[fY _ _ _ f.symm]at L;have o:n+1≠n:=Hv;rw[fY _ _ _ o]at L;exact cY Y Y (pX _ _ L Y hg)
theorem GA(w:Wd X D P S H n)(k:J):ba (d+2) #[162] [↥(P.L (.aD k))] H n λ v H' n'=>v=.ref n/\n'=n+1/\Wd X D P (ah S n (U (eQ ↥(P.L (.aD k)) aj))) H' n':=by refine Jm.weak ?_;rintro _ _ _ ⟨rfl,rfl,rfl⟩;exact cY Y Y (w.new _ (aS _) (cQ _))
theorem UP:∀c,c<4->r0 (dr c)=ai/\dr c≠s!"":=by decide+kernel
theorem CB(w:Wd X D P S H n){k c r:J}(C:k<D.nt)(hc:c<4)(i:S r=U (eQ ↥(P.L (.aD k)) aj)):
 ba (d+2) #[371] [↥r,.str (dr c)] H n λ v H' n'=>v=.ref r/\n'=n/\Wd X {D with th:=ah D.th k {D.th k with bl:=.str (dr c)}} P S H' n':=by
 obtain h1|h2:=UP c hc;refine(Nr h1 h2 (w.w.N _ _ i).2 (w.aD C)).weak ?_;rintro _ _ _ ⟨rfl,rfl,rfl⟩;exact cY Y Y (w.ff C (t:={D.th k with bl:=.str (dr c)}) Y Y Y Y)
theorem RA(w:Wd X D P S H n){j:J}(E:j<D.ns)(m:D.zero.length<=1000):
 ba (d+2) #[463] [↥X.aC,↥(P.L (.aU j))] H n λ v H' n'=>v=.none/\n'=n/\Wd X (D.yQ j) P S H' n':=by
 refine aE aad (aP (ei w.jh (nT ..) ag (sC (xY (d:=d) w E m) ag λ v H2 e q=>?_)));obtain rfl|rfl|I:=q;exact sQ .next ag Y ⟨Y,Y,I⟩
noncomputable def Th.new(hs:bG)(num:Int):Th:=⟨hs,num,0,.none,aj,aj,[],[]⟩
noncomputable def Co.i6(D:Co)(hs:bG)(c p:J):Co:={D with last:=D.last+1,nt:=D.nt+1,th:=ah D.th D.nt (Th.new hs (D.last+1)),av:=D.av++[D.nt],bA:=D.bA.set p (U D.nt),cO:=D.cO++[[]],dH:=D.dH++[c]}
end
end
noncomputable def _root_.Mu.Internal.TS.ux:TS->List TS|.ite _ a _=>a|_=>[]
noncomputable def _root_.Mu.Internal.TS.C3:TS->List TS|.ite _ _ b=>b|_=>[]
noncomputable def _root_.Mu.Internal.TS.G9:TS->List TS|.eL _ _ a=>a|.jD _ a=>a|_=>[]
noncomputable def sS:List TS->J->TS
 |[],_=>.bad
 |s::_,0=>s
 |_::r,i+1=>sS r i
noncomputable def CU:List TS:=(sS m8 9).G9
noncomputable def uf:TS:=sS CU 5
noncomputable def zS:List TS:=uf.ux
noncomputable def om:TS:=sS uf.C3 0
noncomputable def Q6:List TS:=om.ux
noncomputable def u5:TS:=sS om.C3 0
noncomputable def JL:List TS:=u5.ux
noncomputable def wx:TS:=sS u5.C3 0
noncomputable def QW:List TS:=wx.ux
noncomputable def FE:TS:=sS wx.C3 0
noncomputable def RE:List TS:=FE.ux
section
variable{S:Hp}{L:Tag->J}{C:Tag->Option O}{H H':Hp}{n n':J}
theorem W.eqC(w:W S L C H n)(h:∀I,c I=C I):W S L c H n:=(funext h:c=C)▸w
theorem W.putAt(w:W S L C H n)(o:O)(h:C t=U o0)(g:L t=x):W S L (ah C t (U o)) (ah H x (U o)) n:=g▸w.put o h
theorem W.fm(w:W S L C H n)(t:Tag)(o:O)(g:L t=x)(h:(C t).isSome=ai:=by kernel_rfl):W S L (ah C t (U o)) (ah H x (U o)) n:=
 have⟨_,e⟩:=qL.mp h
 w.putAt o e g
end
structure Lw(X:Fx)(K:Kx)(S:Hp)(cc dM d6:J)(sc:List Int):Prop where
 cc:S cc=U (.cell (U (.ref X.aC)))
 dM:S dM=U (.list (sc.map .int))
 len:sc.length<=60
 d6:S d6=U (.list [.ref (X.L (.aU 0)),.ref (X.L (.aU 1)),.ref (X.L (.aU 2))])
theorem Lw.ge{X:Fx}{K:Kx}{S y:Hp}{cc dM d6:J}{sc:List Int}(h:Lw X K S cc dM d6 sc)(g:Ge S y):Lw X K y cc dM d6 sc:=⟨g _ _ h.cc,g _ _ h.dM,h.len,g _ _ h.d6⟩
structure Ln(X:Fx)(u:Lc)(dM d6:J):Prop where
 xe:u s!"script"=U (.ref dM)
 b9:u s!"spot"=U (.ref (X.L .b9))
 heap:u s!"heap"=U (.ref (X.L .heap))
 bw:u s!"things"=U (.ref (X.L .bw))
 bO:u s!"book"=U (.ref (X.L .bO))
 places:u s!"places"=U (.ref d6)
noncomputable def NQ(X:Fx)(dM d6:J):List (af×V):=[("script",↥dM),("spot",↥(X.L .b9)),("heap",↥(X.L .heap)),("things",↥(X.L .bw)),("book",↥(X.L .bO)),("places",↥d6)]
theorem Ln.kj(h:Ln X u dM d6):Tr.Told (NQ X dM d6) u:=.cons h.xe (.cons h.b9 (.cons h.heap (.cons h.bw (.cons h.bO (.cons h.places .nil)))))
theorem Ln.of(h:Tr.Told (NQ X dM d6) u):Ln X u dM d6:=by
 injection h with h1 h;injection h with h2 h;injection h with I h;injection h with D h;injection h with p h;injection h with q h
 exact⟨h1,h2,I,D,p,q⟩
def sI(u A:Lc):be:=∀x:af,x≠s!"thing"->x≠s!"part"->x≠s!"key"->A x=u x
theorem sI.kj{L:List (af×V)}{u A:Lc}(b:sI u A)(t:Tr.Told L u)(h:(L.all λ q=>decide (q.1≠s!"thing"/\q.1≠s!"part"/\q.1≠s!"key"))=ai:=by kernel_rfl):Tr.Told L A:=
 t.imp (p:=λ x=>decide (x≠s!"thing"/\x≠s!"part"/\x≠s!"key")) (λ x g=>b x (of_decide_eq_true g).1 (of_decide_eq_true g).2.1 (of_decide_eq_true g).2.2) h
theorem sI.refl(u:Lc):sI u u:=λ _ _ _ _=>rfl
theorem sI.set{u A:Lc}(h:sI u A){y:af}(v:Option V)(S:y=s!"thing"\/y=s!"part"\/y=s!"key"):sI u (ah A y v):=by
 intro x h1 h2 I;rw[cx]
 .exact h x h1 h2 I
 .rintro rfl;rcases S with h|h|h
  .exact h1 h
  .exact h2 h
  .exact I h
section
variable{X:Fx}{D:Co}{P:Pt}{S H H':Hp}{n n' d:J}
theorem A2(hs:bG):numsOf {D with last:=i,nt:=D.nt+1,th:=ah D.th D.nt (Th.new hs i)}=numsOf D++[(aJ.int i,V.int D.nt)]:=by simp only[numsOf,Hz,gq,bW,oo,aa];congr 1;apply ef;intro k C;have:k≠D.nt:=bP (kF.mp C);rw[ae this]
theorem Ie(h:∀k,k<D.nt->(D.th k).num<=D.last):fO (.int (D.last+1)) (.int D.nt) (numsOf D)=numsOf D++[(aJ.int (D.last+1),V.int D.nt)]:=by
 refine gQ ?_;cases ha:atK (numsOf D) (.int (D.last+1))with
 |none=>rfl
 |some v=>obtain k|C|e:=bI.mp (jy ha);have Q:aJ.int (D.th k).num=aJ.int (D.last+1):=congrArg j0 e;have:=h k (kF.mp C);have:=aJ.int.inj Q;omega
theorem GO{α:Type}[Decidable p][Decidable q]{a b:α}(h:p↔q):(if p then a else b)=if q then a else b:=by
 by_cases c:q
 .rw[if_pos c,if_pos (h.mpr c)]
 .rw[if_neg c,if_neg λ e=>c (h.mp e)]
theorem Bb{L:Tag->J}{m n k:J}:(fp (m+1)).map (λ j=>V.ref (ah (ah L (.aD m) n) (.items m) k (.aD j)))=(fp m).map (λ j=>↥(L (.aD j)))++[↥n]:=by rw[Hz,gq];exact congr (congrArg _ (ef λ j E=>congrArg V.ref (cx L n λ h=>bP (kF.mp E) (Tag.aD.inj h)))) (congrArg (λ x=>[V.ref x]) (aa L (.aD m) n))
theorem Wd.i6(w:Wd X D P S H n)(hs:bG){c p:J}(m:D.zero=[]):
 ∃a y,Wd X (D.i6 hs c p) a y
  (ah (ah (ah (ah (ah (ah (ah (ah (ah (ah (ah (ah (ah H (X.L .heap) (U (aX X.lim (D.last+1) (P.L .zero)))) n (U ((Th.new hs (D.last+1)).obj (n+1) (n+2)))) (n+1) (U ⇑[])) (n+2) (U (if hs then .dict []else⇑[])))
   (X.L .cb) (U (.dict (numsOf D++[(aJ.int (D.last+1),V.int D.nt)])))) (n+3) (U ⇑[V.int D.nt])) (n+4) (U ⇑(aY (D.av++[D.nt])))) (X.L .bO) (U (eR (n+4) (X.L .aV) (X.L .bh) (X.L .bu) X.par X.ends)))
   (X.L .aV) (U ⇑((D.bA.set p (U D.nt)).map fM))) (n+5) (U ⇑[])) (X.L .bh) (U ⇑(P.bA.map .ref++[↥(n+5)]))) (X.L .bu) (U ⇑(aY D.dH++[.int c]))) (X.L .bw) (U ⇑(((fp D.nt).map λ k=>↥(P.L (.aD k)))++[↥n]))) (n+6)/\
  a.L (.aD D.nt)=n/\(∀j,a.L (.aU j)=P.L (.aU j))/\(∀k,k<D.nt->a.L (.aD k)=P.L (.aD k))/\Ge S y:=by
 have A:∀I,I≠Tag.aD D.nt->I≠Tag.items D.nt->ah (ah P.L (.aD D.nt) n) (.items D.nt) (n+2) I=P.L I:=λ I h1 h2=>by rw[ae h2,ae h1]
 have hX:∀I,I.fixed=ai->I≠Tag.aD D.nt->I≠Tag.items D.nt->ah (ah P.L (.aD D.nt) n) (.items D.nt) (n+2) I=X.L I:=λ I h0 h1 h2=>by rw[A I h1 h2];exact w.fix I h0
 have t:=((((((((((((w.w.fm .heap (aX X.lim (D.last+1) (P.L .zero)) (w.fix .heap Y)).move (n':=n+1) (.aD D.nt) ((Th.new hs (D.last+1)).obj (n+1) (n+2)) (aS _) (cQ _)).new (l:=n+1) (n':=n+2) ⇑[] (aS _) (cQ _)).move (n':=n+3) (.items D.nt) (if hs then .dict []else⇑[]) (aS _) (cQ _)).fm .cb (.dict (numsOf D++[(aJ.int (D.last+1),V.int D.nt)])) (w.fix .cb Y)).new (l:=n+3) (n':=n+4) ⇑[V.int D.nt] (aS _) (cQ _)).new (l:=n+4) (n':=n+5) ⇑(aY (D.av++[D.nt])) (aS _) (cQ _)).fm .bO (eR (n+4) (X.L .aV) (X.L .bh) (X.L .bu) X.par X.ends) (w.fix .bO Y)).fm .aV ⇑((D.bA.set p (U D.nt)).map fM) (w.fix .aV Y)).new (l:=n+5) (n':=n+6) ⇑[] (aS _) (cQ _)).fm .bh ⇑(P.bA.map .ref++[↥(n+5)]) (w.fix .bh Y)).fm .bu ⇑(aY D.dH++[.int c]) (w.fix .bu Y)).fm .bw ⇑(((fp D.nt).map λ k=>↥(P.L (.aD k)))++[↥n]) (w.fix .bw Y);have g:Ge S (ah (ah (ah (ah S (n+1) (U ⇑[])) (n+3) (U ⇑[V.int D.nt])) (n+4) (U ⇑(aY (D.av++[D.nt])))) (n+5) (U ⇑[])):=by intro x o B;have:=(w.w.N x o B).1;rw[ae (VP this),ae (aac this),ae (Yh this),ae (fS this)];exact B
 have s:(ah (ah (ah (ah S (n+1) (U ⇑[])) (n+3) (U ⇑[V.int D.nt])) (n+4) (U ⇑(aY (D.av++[D.nt])))) (n+5) (U ⇑[])) (n+1)=U ⇑[]:=by rw[ae WW,ae Pn,ae ZA,aa]
 have Q:(ah (ah (ah (ah S (n+1) (U ⇑[])) (n+3) (U ⇑[V.int D.nt])) (n+4) (U ⇑(aY (D.av++[D.nt])))) (n+5) (U ⇑[])) (n+4)=U ⇑(aY (D.av++[D.nt])):=by rw[ae Xq,aa]
 have q:(ah (ah (ah (ah S (n+1) (U ⇑[])) (n+3) (U ⇑[V.int D.nt])) (n+4) (U ⇑(aY (D.av++[D.nt])))) (n+5) (U ⇑[])) (n+5)=U ⇑(aY []):=aa ..;generalize(ah (ah (ah (ah S (n+1) (U ⇑[])) (n+3) (U ⇑[V.int D.nt])) (n+4) (U ⇑(aY (D.av++[D.nt])))) (n+5) (U ⇑[]))=S5 at t g s Q q;refine Yp ({P with L:=ah (ah P.L (.aD D.nt) n) (.items D.nt) (n+2),ir:=ah P.ir D.nt (n+1),dZ:=n+4,bA:=P.bA++[n+5]}) _ ⟨?_,?_,g _ _ w.eP,λ k C=>?_,λ j E=>g _ _ (w.iu j E),λ j E k C=>?_,w.ax.ge g,?_,?_,λ I r=>?_,⟨w.ck.kt,w.ck.nd,w.ck.sub,λ b v z=>(w.ck.ok b v z).ge g⟩⟩ ?_ ?_ ?_ g
 .refine t.eqC λ I=>?_
  cases I with
  |aD k=>
   show(if k<D.nt+1 then U ((ah D.th D.nt (Th.new hs (D.last+1)) k).obj (ah P.ir D.nt (n+1) k) (ah (ah P.L (.aD D.nt) n) (.items D.nt) (n+2) (.items k)))else F)=ah (cont X D P) (.aD D.nt) (U ((Th.new hs (D.last+1)).obj (n+1) (n+2))) (.aD k);by_cases e:k=D.nt
   .subst e;rw[if_pos (cQ _),aa,aa,aa,aa]
   .rw[ae e,ae e,ae (λ h=>e (Tag.items.inj h)),ae (λ h=>e (Tag.aD.inj h))];exact GO (Ku e)
  |items k=>
   show(if k<D.nt+1 then U ((ah D.th D.nt (Th.new hs (D.last+1)) k).items (ah (ah P.L (.aD D.nt) n) (.items D.nt) (n+2)))else F)=ah (cont X D P) (.items D.nt) (U (if hs then .dict []else⇑[])) (.items k);by_cases e:k=D.nt
   .subst e;rw[if_pos (cQ _),aa,aa];rfl
   .rw[ae e,ae (λ h=>e (Tag.items.inj h))];exact GO (Ku e)
  |zero=>exact(λ f g=>by rw[m];rfl:∀f g:Z->V,U (O.list (D.zero.map f))=U (O.list (D.zero.map g))) _ _
  |bw=>exact congrArg (λ l=>U (O.list l)) (Bb (k:=n+2))
  |cb=>exact congrArg (λ l=>U (O.dict l)) (A2 (D:=D) hs (i:=D.last+1))
  |bO=>show U (eR (n+4) (P.L .aV) (P.L .bh) (P.L .bu) X.par X.ends)=_;rw[w.fix .aV Y,w.fix .bh Y,w.fix .bu Y];kernel_rfl
  |bh=>exact congrArg (λ l=>U (O.list l)) gq
  |bu=>exact congrArg (λ l=>U (O.list l)) gq
  |_=>kernel_rfl
 .show _=U (bq (ah (ah P.L (.aD D.nt) n) (.items D.nt) (n+2) .heap) X.Fs X.eP);rw[A _ (by simp) (by simp)];exact g _ _ w.aC
 .show _=U (O.list []);show S5 (ah P.ir D.nt (n+1) k)=_;by_cases e:k=D.nt
  .subst e;rw[aa];exact s
  .rw[ae e];exact g _ _ (w.ir k (by have:k<D.nt+1:=C;exact fX this e))
 .have C:(D.sc j).val=U k:=C;obtain h1|h2:=w.ref j E k C;show _=U (eQ ↥(ah (ah P.L (.aD D.nt) n) (.items D.nt) (n+2) (.aD k)) aj)/\k<D.nt+1;rw[A _ (by simp;exact bX h2) (by simp)];exact⟨g _ _ h1,(gk h2)⟩
 .exact Q
 .exact(w.cO.ge g).snoc (xs:=[]) q
 .show ah (ah P.L (.aD D.nt) n) (.items D.nt) (n+2) I=X.L I;refine hX I r ?_ ?_<;>rintro rfl<;>cases r
 .show ah (ah P.L (.aD D.nt) n) (.items D.nt) (n+2) (.aD D.nt)=n;rw[ae (by simp),aa]
 .intro j;exact A (.aU j) (by simp) (by simp)
 .intro k C;exact A (.aD k) (by simp;exact bX C) (by simp)
end
section
open Tr
noncomputable def cq(K:Kx)(cc:J):List (af×J):=[("run",K.cr),("owners",K.co),("numbers",K.cn),("calls",K.cc),("counter",cc)]
noncomputable def Xl:O:=⇑[.str s!"A",.str s!"B",.str s!"C",.str s!"D"]
theorem rr{c:J}(hc:c<4):yO (c:Int) ⇑[.str s!"A",.str s!"B",.str s!"C",.str s!"D"]=U (.str (dr c)):=by
 match c,hc with
 |0,_=>rfl
 |1,_=>rfl
 |2,_=>rfl
 |3,_=>rfl
noncomputable def o9:List TS:=[.asg (.loc "thing") (.ite (.cmp .eq (.bin .mod (.loc "way") (.lit (.int 2))) (.lit (.int 0))) (.aK (.loc "heap") "new_array" []) (.aK (.loc "heap") "new_hash" [])),
 .fW (.cW "numbers") (.attr (.loc "thing") "number") (.call (.lit (.con (.builtin "len"))) [(.loc "things")]),
 .fW (.loc "book") (.lit (.str "alive")) (.bin .add (.sub (.loc "book") (.lit (.str "alive"))) ⇑[(.call (.lit (.con (.builtin "len"))) [(.loc "things")])]),
 .fW (.sub (.loc "book") (.lit (.str "places"))) (.loc "place") (.call (.lit (.con (.builtin "len"))) [(.loc "things")]),
 .expr (.aK (.sub (.loc "book") (.lit (.str "parts"))) "append" [⇑[]]),
 .expr (.aK (.sub (.loc "book") (.lit (.str "class"))) "append" [(.loc "more")]),
 .expr (.aK (.loc "things") "append" [(.loc "thing")]),
 .expr (.aK (.cW "counter") "store" [(.sub (.loc "places") (.loc "place")),(.call (.lit #[371]) [(.call (.lit #[162]) [(.loc "thing")]),(.sub (.call (.lit #[618]) []) (.loc "more"))])])]
theorem KQ:zS=o9:=rfl
section
variable{X:Fx}{D:Co}{P:Pt}{S H H':Hp}{n n' d:J}{K:Kx}
theorem xR{p:J}(hp:p<3):yO (p:Int) ⇑[↥(X.L (.aU 0)),↥(X.L (.aU 1)),↥(X.L (.aU 2))]=U ↥(X.L (.aU p)):=by exact To hp Y Y Y
noncomputable def Tag.std:Tag->bG
 |.heap|.b9|.ax|.cb|.bw|.bO|.aV|.bh|.bu|.cache=>ai
 |_=>aj
def Std(t:Tag):be:=t.std=ai
theorem Tag.Tt{t:Tag}(h:t.std=ai):t.fixed=ai:=by cases t<;>first|rfl|cases h
theorem Tag.ZP{t:Tag}(h:t.std=ai):∃o,cont X D P t=U o:=by cases t<;>first|exact⟨_,rfl⟩|cases h
theorem W.at{L:Tag->J}{C:Tag->Option O}(w:W S L C H n)(t:Tag){x:J}{o:O}(g:L t=x)(h:C t=U o):H x=U o:=g▸(w.dy t o h).2
theorem Ml(hs:bG)(c:way%2=if hs then 1 else 0)(C:u=lay (("way",.int way)::("heap",↥l)::L) u)(h:H l=U (aX lim last z))
 {R:Fl->Lc->Hp->J->be}
 (k:aG ((du (aq G (d+3)) cs (o9.drop 1) (ah (lay (("way",.int way)::("heap",↥l)::L) u) s!"thing" (U ↥n))).aE (ah (ah (ah (ah H l (U (aX lim (last+1) z))) n (U ((Th.new hs (last+1)).obj (n+1) (n+2)))) (n+1) (U ⇑[])) (n+2) (U (if hs then .dict []else⇑[]))) (n+3)) (EG g R)):
 aG ((ay G (aq G (d+3)) cs o9 ⟨u,H,n⟩).bind g) R:=by
 cases hs with
 |false=>exact ql C (sEq (a:=way%2) (b:=0) (decide_eq_true c) ag (ei h (np ..) ag (sD (y6 (d:=d) h) ag (nS k ag))))
 |true=>exact ql C (sEq (a:=way%2) (b:=0) (decide_eq_false (by rw[c];decide)) ag (ei h (xZ ..) ag (sD (HT (d:=d) h) ag (nS k ag))))
theorem L4(w:Wd X D P S H n)(f:pS X K S){cc dM d6:J}{sc:List Int}(E:Lw X K S cc dM d6 sc){u:Lc}(z:Ln X u dM d6){way p c:J}(hs:bG)(a:(way:Int)%2=if hs then 1 else 0)
 (l1:u s!"way"=U (.int way))(l2:u s!"place"=U (.int p))(i:u s!"more"=U (.int c))(hp:p<3)(hc:c<4)(m:D.zero=[])(t:D.bA.length=3)(o:D.nt<=50)(q:D.av.length<=50)(d':D.dH.length<=50)(b':D.cO.length<=50)
 (e:∀k,k<D.nt->(D.th k).num<=D.last)
 {g:Fl×St->Option (Fl×St)}{R:Fl->Lc->Hp->J->be}
 (k:∀B y H' n',Wd X (D.i6 hs c p) B y H' n'->B.L (.aD D.nt)=n->(∀j,B.L (.aU j)=P.L (.aU j))->(∀k,k<D.nt->B.L (.aD k)=P.L (.aD k))->Ge S y->
  aG ((ay G (aq G (d+12)) (cq K cc) (o9.drop 7) ⟨ah u s!"thing" (U ↥n),H',n'⟩).bind g) R):
 aG ((ay G (aq G (d+12)) (cq K cc) o9 ⟨u,H,n⟩).bind g) R:=by
 have h:fm (Th.new hs (D.last+1)).num (.int D.nt) (.dict (numsOf D))=U (.dict (numsOf D++[(aJ.int (D.last+1),V.int D.nt)])):=by
  have L:(numsOf D).length<=1000:=by simp[numsOf];exact lm o
  show(if _ then U (O.dict (fO (.int (D.last+1)) (.int D.nt) (numsOf D)))else F)=_;rw[if_pos ⟨dx (xm D) _,L⟩,Ie e]
 have j':(aY D.av).length+[V.int D.nt].length<=1000:=by rw[bE];simp;exact Im q
 have i':fm (p:Int) (.int D.nt) ⇑(D.bA.map fM)=U ⇑((D.bA.set p (U D.nt)).map fM):=by
  have h1:(D.bA.map fM).length<=1000:=by simp;exact Jk t
  have h2:p<(D.bA.map fM).length:=by simp;exact FJ hp t
  simp only[jv,qK,h1,if_true,kU _ _ h2,eT,rL];rfl
 have k':(P.bA.map V.ref).length<=1000:=by rw[bS,w.cO.len];exact lm b'
 have l':(aY D.dH).length<=1000:=by rw[bE];exact lm d'
 have c':((fp D.nt).map λ k=>V.ref (P.L (.aD k))).length=D.nt:=by rw[bS,zw]
 have g':D.nt<=1000:=lm o;have m':((fp D.nt).map λ k=>V.ref (P.L (.aD k))).length<=1000:=by rw[c'];exact lm o
 have C:=(Told.cons l1 (.cons z.heap (.cons l2 (.cons i z.kj)))).lay;obtain B|y|s|h1|h2|I|g1:=w.i6 hs (c:=c) (p:=p) m;have Q:=k B y _ _ s h1 h2 I g1;have o':cont X D P .bO=U (eR P.dZ (X.L .aV) (X.L .bh) (X.L .bu) X.par X.ends):=by show U (eR P.dZ (P.L .aV) (P.L .bh) (P.L .bu) X.par X.ends)=_;rw[w.fix .aV Y,w.fix .bh Y,w.fix .bu Y]
 have a4:=(((w.w.fm .heap (aX X.lim (D.last+1) (P.L .zero)) (w.fix .heap Y)).move (n':=n+1) (.aD D.nt) ((Th.new hs (D.last+1)).obj (n+1) (n+2)) (aS _) (cQ _)).bg (H':=ah _ (n+1) (U ⇑[])) (n':=n+2) ((bK.refl _ _).ah (aS _)) (b7 _)).move (n':=n+3) (.items D.nt) (if hs then .dict []else⇑[]) (aS _) (cQ _);have A:ah (ah (ah (ah H (X.L .heap) (U (aX X.lim (D.last+1) (P.L .zero)))) n (U ((Th.new hs (D.last+1)).obj (n+1) (n+2)))) (n+1) (U ⇑[])) (n+2) (U (if hs then .dict []else⇑[])) n=U ((Th.new hs (D.last+1)).obj (n+1) (n+2)):=(ae xA).trans ((ae kE).trans (aa ..));refine Ml (d:=d+9) hs a C ((w.w.at .heap (w.fix .heap Y) Y)) ?_;generalize ah (ah (ah (ah H (X.L .heap) (U (aX X.lim (D.last+1) (P.L .zero)))) n (U ((Th.new hs (D.last+1)).obj (n+1) (n+2)))) (n+1) (U ⇑[])) (n+2) (U (if hs then .dict []else⇑[]))=r at a4 A Q⊢;have a5:=a4.fm .cb (.dict (numsOf D++[(aJ.int (D.last+1),V.int D.nt)])) (w.fix .cb Y);have a6:=a5.bg (H':=ah _ (n+3) (U ⇑[V.int D.nt])) (n':=n+4) ((bK.refl _ _).ah (aS _)) (b7 _);have p':=(a6.bg (H':=ah _ (n+4) (U ⇑(aY (D.av++[D.nt])))) (n':=n+5) ((bK.refl _ _).ah (aS _)) (b7 _));have a8:=p'.fm .bO (eR (n+4) (X.L .aV) (X.L .bh) (X.L .bu) X.par X.ends) (w.fix .bO Y);have a9:=a8.fm .aV ⇑((D.bA.set p (U D.nt)).map fM) (w.fix .aV Y);have e':=a9.bg (H':=ah _ (n+5) (U ⇑[])) (n':=n+6) ((bK.refl _ _).ah (aS _)) (b7 _);have a':=e'.fm .bh ⇑(P.bA.map .ref++[↥(n+5)]) (w.fix .bh Y);have f':=a'.fm .bu ⇑(aY D.dH++[.int c]) (w.fix .bu Y);have h':rM ⇑(aY D.av) ⇑[V.int D.nt]=U ⇑(aY (D.av++[D.nt])):=by rw[zK,if_pos j',kK];rfl
 refine sLn (a4.at .bw (w.fix .bw Y) Y) c' g' ag (sL (cs:=cq K cc) (x:=s!"numbers") (a4.N _ _ f.cn).2 ag ag (cH A (gZ ..) ag (Ce (a4.at .cb (w.fix .cb Y) Y) h ag
  (sJ (a5.at .bO (w.fix .bO Y) o') (kq ..) ag (sLn (a5.at .bw (w.fix .bw Y) Y) c' g' ag (sN [.int D.nt] (qA _ _) ag (sAd (a6.N _ _ w.dZ).2 (aa ..) h' ag ?_)))))))
 refine QE (v:=↥(n+4)) (p'.at .bO (w.fix .bO Y) o') (F7 ..) ag (sLn (a8.at .bw (w.fix .bw Y) Y) c' g' ag (sJ (a8.at .bO (w.fix .bO Y) Y) (i9 ..) ag (Ce (a8.at .aV (w.fix .aV Y) Y) i' ag
  (sJ (a9.at .bO (w.fix .bO Y) Y) (gL ..) ag (ei (a9.at .bh (w.fix .bh Y) Y) (cS ..) ag (sN [] (cG _) ag (nw (v:=↥(n+5)) (e'.at .bh (w.fix .bh Y) Y) k' ag
  (sJ (a'.at .bO (w.fix .bO Y) Y) (q9 ..) ag (ei (a'.at .bu (w.fix .bu Y) Y) (cS ..) ag (nw (v:=.int c) (a'.at .bu (w.fix .bu Y) Y) l' ag
  (ei (f'.at .bw (w.fix .bw Y) Y) (cS ..) ag (nw (v:=↥n) (f'.at .bw (w.fix .bw Y) Y) m' ag ?_))))))))))))
 exact LL (b:=o9.drop 7) (congrArg (λ l:Lc=>ah l s!"thing" (U (V.ref n))) C) Q
noncomputable def Co.iD(D:Co)(k c:J):Co:={D with th:=ah D.th k {D.th k with bl:=.str (dr c)}}
noncomputable def Co.yY(D:Co)(p k:J):Co:=((D.mV k).ia p (U k)).jS (D.sc p).val
noncomputable def Co.fu(D:Co)(hs:bG)(c p:J):Co:=((D.i6 hs c p).iD D.nt c).yY p D.nt
theorem L3(w:Wd X D P S H n)(f:pS X K S){sc:List Int}(lw:Lw X K S cc dM d6 sc)(ln:Ln X u dM d6){way p c:J}(hs:bG)(a:(way:Int)%2=if hs then 1 else 0)
 (l1:u s!"way"=U (.int way))(l2:u s!"place"=U (.int p))(l3:u s!"more"=U (.int c))(hp:p<3)(hc:c<4)(m:D.zero=[])(e':D.bA.length=3)(o:D.nt<=50)(c':D.av.length<=50)(g':D.dH.length<=50)(f':D.cO.length<=50)(b:3<=D.ns)
 (b':∀k,k<D.nt->(D.th k).num<=D.last)
 {R:Fl->Lc->Hp->J->be}
  (k:∀A B y H' n',Wd X (D.fu hs c p) B y H' n'->Ge S y->sI u A->n<=n'->aG (g (.next,⟨A,H',n'⟩)) R):
  aG ((ay G (aq G (d+12)) (cq K cc) zS ⟨u,H,n⟩).bind g) R:=by
  rw[KQ];refine L4 w f lw ln hs a l1 l2 l3 hp hc m e' o c' g' f' b' ?_;intro P1 S1 H1 E q Q i L g1;have d':n<=E:=by have:=q.lt (t:=.aD D.nt) ⟨_,if_pos (cQ _)⟩;exact XJ this Q
  have f1:=f.ge g1;have h':=lw.ge g1;have q1:=(q.w.N _ _ h'.cc).2;have z:=(q.w.N _ _ h'.d6).2;have C:=congrArg (λ l:Lc=>ah l s!"thing" (U (V.ref n))) (Told.cons l2 (.cons l3 ln.kj)).lay;have h:=GA (d:=d+10) q D.nt;rw[Q]at h;refine ql C (sL (cs:=cq K cc) (x:=s!"counter") q1 ag ag (ei q.jh (yH ..) ag (fB z (xR hp) ag (sC h ag ?_))));rintro v H2 e ⟨rfl,rfl,I⟩;have s:(ah S1 E (U (eQ ↥(P1.L (.aD D.nt)) aj))) E=U (eQ ↥(P1.L (.aD D.nt)) aj):=aa ..;rw[<-Q]at I;have g2:Ge S1 (ah S1 E (U (eQ ↥(P1.L (.aD D.nt)) aj))):=q.w.ge _ (aS _);generalize ah S1 E (U (eQ ↥(P1.L (.aD D.nt)) aj))=S2 at I s g2;have w3:=I.bg (H':=ah H2 (E+1) (U Xl)) (n':=E+1+1) ((bK.refl _ _).ah (aS _)) (b7 _);refine sD (jk (d:=d+11)) ag (fB (aa ..) (rr hc) ag (sC (CB (d:=d+10) w3 (k:=D.nt) (c:=c) (cQ _) hc s) ag ?_));rintro v H4 n4 ⟨rfl,rfl,w4⟩;have i':P1.L (.aU p)=X.L (.aU p):=w4.fix (.aU p) (decide_eq_true hp);have jg:=Ni (d:=d+9) w4 (j:=p) (k:=D.nt) (r:=E) (by show p<D.ns;exact IK b hp) (cQ _) s (by show D.zero.length<=1000;rw[m];exact cG _);rw[i']at jg;refine sC jg ag ?_;rintro v H5 n5 ⟨rfl,P5,w5,j',a'⟩;exact Qd C (k _ P5 S2 _ _ w5 (g1.trans g2) ((sI.refl u).set _ (.inl Y)) ((IG a' d')))
end
end
section
open Tr
noncomputable def Sq:List TS:=[.asg (.loc "part") (.aK (.cW "counter") "fresh" [(.call (.lit #[162]) [(.sub (.loc "things") (.loc "other"))])]),
 .ite (.call (.lit (.con (.builtin "isinstance"))) [(.sub (.loc "things") (.loc "k")),(.lit #[85])]) [.expr (.aK (.attr (.sub (.loc "things") (.loc "k")) "items") "append" [(.loc "part")])] [.fW (.attr (.sub (.loc "things") (.loc "k")) "table") (.call (.lit (.con (.type "str"))) [(.loc "turn")]) (.loc "part")],
 .fW (.sub (.loc "book") (.lit (.str "parts"))) (.loc "k") (.bin .add (.sub (.sub (.loc "book") (.lit (.str "parts"))) (.loc "k")) ⇑[(.loc "other")])]
noncomputable def ie(t:J):af:=cZ (toString (t:Int))
noncomputable def Co.KO(D:Co)(k j:J)(x:af):Co:={D with th:=ah D.th k {D.th k with ps:=(D.th k).ps++[j],ks:=if(D.th k).hs then(D.th k).ks++[x]else(D.th k).ks}}
noncomputable def Co.CQ(D:Co)(k:J)(xs:List J):Co:={D with cO:=D.cO.set k xs}
noncomputable def Co.gj(D:Co)(k o:J)(tg:List J)(x:af):Co:=((D.iX o).KO k D.ns x).CQ k (tg++[o])
section
variable{X:Fx}{D:Co}{P:Pt}{S H H':Hp}{n n' d:J}{K:Kx}
theorem iT{L:Tag->J}{m k:J}(C:k<m)(hm:m<=1000):yO (k:Int) ⇑((fp m).map λ k=>V.ref (L (.aD k)))=U ↥(L (.aD k)):=by refine ga _ _ _ ?_ (by simpa using hm);simp[C]
theorem Wd.bw(w:Wd X D P S H n):H (X.L .bw)=U ⇑((fp D.nt).map λ k=>↥(P.L (.aD k))):=by rw[<-w.fix .bw Y];exact(w.w.dy .bw _ Y).2
theorem Wd.bh(w:Wd X D P S H n):H (X.L .bh)=U ⇑(P.bA.map .ref):=by rw[<-w.fix .bh Y];exact(w.w.dy .bh _ Y).2
theorem Wd.bu(w:Wd X D P S H n):H (X.L .bu)=U ⇑(aY D.dH):=by rw[<-w.fix .bu Y];exact(w.w.dy .bu _ Y).2
theorem Wd.aV(w:Wd X D P S H n):H (X.L .aV)=U ⇑(D.bA.map fM):=by rw[<-w.fix .aV Y];exact(w.w.dy .aV _ Y).2
theorem Wd.acl(w:Wd X D P S H n)(C:k<D.nt)(x:af)(l:(D.th k).hs=aj):Wd X (D.KO k j x) P S (ah H (P.L (.items k)) (U ⇑(((D.th k).ps.map λ j=>V.ref (P.L (.aU j)))++[↥(P.L (.aU j))]))) n:=by
 have:=w.Nv C ((D.th k).ps++[j]) (D.th k).ks;have hi:({D.th k with ps:=(D.th k).ps++[j],ks:=(D.th k).ks}:Th).items P.L=.list (((D.th k).ps.map λ j=>V.ref (P.L (.aU j)))++[↥(P.L (.aU j))]):=by simp[Th.items,l]
 rw[hi]at this;have e:(if(D.th k).hs then(D.th k).ks++[x]else(D.th k).ks)=(D.th k).ks:=by rw[l];rfl
 unfold Co.KO;rw[e];exact this
theorem Hy{α β:Type}(l:List α)(r:List β)(a:α)(b:β)(h:l.length=r.length):(l++[a]).zip (r++[b])=l.zip r++[(a,b)]:=
 Nf (C:=λ l r=>(l++[a]).zip (r++[b])=l.zip r++[(a,b)]) Y (λ x _ y _ X=>congrArg ((x,y)::·) X) h
theorem Wd.aby(w:Wd X D P S H n)(C:k<D.nt)(x:af)(l:(D.th k).hs=ai)(L:(D.th k).ks.length=(D.th k).ps.length):Wd X (D.KO k j x) P S (ah H (P.L (.items k)) (U (.dict (((D.th k).ks.map aJ.str).zip ((D.th k).ps.map λ j=>V.ref (P.L (.aU j)))++[(.str x,↥(P.L (.aU j)))])))) n:=by
 have:=w.Nv C ((D.th k).ps++[j]) ((D.th k).ks++[x]);have hi:({D.th k with ps:=(D.th k).ps++[j],ks:=(D.th k).ks++[x]}:Th).items P.L=.dict (((D.th k).ks.map aJ.str).zip ((D.th k).ps.map λ j=>V.ref (P.L (.aU j)))++[(.str x,↥(P.L (.aU j)))]):=by simp only[Th.items,l,if_true,gq,bW,oo];rw[Hy _ _ _ _ (by simpa using L)]
 rw[hi]at this;have e:(if(D.th k).hs then(D.th k).ks++[x]else(D.th k).ks)=(D.th k).ks++[x]:=by rw[l];rfl
 unfold Co.KO;rw[e];exact this
theorem MX{ks:List af}{vs:List V}{x:af}{v:V}(g:x∉ks)(L:ks.length<=1000):ia x v (.dict ((ks.map aJ.str).zip vs))=U (.dict ((ks.map aJ.str).zip vs++[(.str x,v)])):=by
 have h1:∀e∈(ks.map aJ.str).zip vs,e.1.isStr=ai:=by intro e P;have:=(xa P).1;obtain s|_|hs:=bI.mp this;rw[<-hs];rfl
 have h2:((ks.map aJ.str).zip vs).length<=1000:=by rw[wo];simp;exact O3 L
 have m:atK ((ks.map aJ.str).zip vs) (.str x)=F:=by
  cases ha:atK ((ks.map aJ.str).zip vs) (.str x)with
  |none=>rfl
  |some I=>have:=(xa (jy ha)).1;obtain s|hs|e:=bI.mp this;cases e;exact absurd hs g
 simp only[ia,putD,gG h1,h2,and_self,if_true,gQ m]
theorem Op(w:Wd X D P S H n)(f:pS X K S){cc dM d6:J}{sc:List Int}(lw:Lw X K S cc dM d6 sc){u:Lc}(ln:Ln X u dM d6){k o aQ:J}{tg:List J}
 (l1:u s!"k"=U (.int k))(l2:u s!"other"=U (.int o))(l3:u s!"turn"=U (.int aQ))(ht:aQ<1000)(C:k<D.nt)(p:o<D.nt)(m:D.zero=[])(d':D.nt<=50)(i':D.cO.length<=50)(b':3<=D.ns)
 (hp:∀k,k<D.nt->∀j∈(D.th k).ps,j<D.ns)(g':(D.th k).ps.length<=50)(e':(D.th k).ok)(B:(D.th k).hs=ai->ie aQ∉(D.th k).ks)(f':D.cO[k]?=U tg)(c':tg.length<=50)
 {g:Fl×St->Option (Fl×St)}{R:Fl->Lc->Hp->J->be}
 (kk:∀A a y H' n',Wd X (D.gj k o tg (ie aQ)) a y H' n'->Ge S y->sI u A->n<=n'->aG (g (.next,⟨A,H',n'⟩)) R):
 aG ((ay G (aq G (d+12)) (cq K cc) Q6 ⟨u,H,n⟩).bind g) R:=by
 have q1:=(w.w.N _ _ lw.cc).2;have z:=Told.cons l1 (.cons l2 (.cons l3 ln.kj));have l':=congrArg (λ l:Lc=>ah l s!"part" (U (V.ref (n+1)))) z.lay;have j':rM ⇑(aY tg) ⇑[.int o]=U ⇑(aY (tg++[o])):=by
  have:(aY tg).length+[V.int o].length<=1000:=by rw[bE];simp;exact Im c'
  rw[zK,if_pos this,kK];rfl
 have o':sI u (ah u s!"part" (U ↥(n+1))):=(sI.refl u).set _ (.inr (.inl Y));have last:∀(I:Co)(a:Pt)(y:Hp)(H':Hp),Wd X I a y H' (n+1+2)->I.cO=D.cO->I.CQ k (tg++[o])=D.gj k o tg (ie aQ)->Ge S y->
  aG ((du (aq G (d+12)) (cq K cc) (Sq.drop 2) (ah (lay (("k",.int k)::("other",.int o)::("turn",.int aQ)::NQ X dM d6) u) s!"part" (U (V.ref (n+1))))).aE H' (n+1+2)) (EG g R):=by
  intro I a y H' s hb hD hg;obtain lk|p1|p2:=s.cO.get (i:=k) (xs:=tg) (by rw[hb];exact f');have p3:(a.bA.map V.ref)[k]?=U ↥lk:=by rw[pr,p1];rfl
  have p4:(a.bA.map V.ref).length<=1000:=by rw[bS,s.cO.len,hb];exact lm i'
  have p5:=(s.w.N _ _ p2);have h':fm (k:Int) ↥(n+1+2+1) ⇑(a.bA.map .ref)=U ⇑((a.bA.set k (n+1+2+1)).map .ref):=by rw[jv,if_pos p4,kU _ _ (r9.mp p3).1,eT,rL]
  have Q:=(s.bg (H':=ah H' (n+1+2) (U ⇑[V.int o])) (n':=n+1+2+1) ((bK.refl _ _).ah (aS _)) (b7 _)).new (l:=n+1+2+1) (n':=n+1+2+2) ⇑(aY (tg++[o])) (aS _) (cQ _);have E:=Q.O5 (k:=k) (xs:=tg++[o]) (l:=n+1+2+1) (aa ..);rw[s.fix .bh Y]at E;have w3:Wd X (I.CQ k (tg++[o])) _ _ _ _:=E;rw[hD]at w3;exact sJ s.bO (gL ..) ag (fB s.bh (ga _ _ _ p3 p4) ag (sN [.int o] Zq ag (sAd ((ae (bP p5.1)).trans p5.2) (aa ..) j' ag
   (sJ Q.bO (gL ..) ag (Ce Q.bh h' ag (Qd l' (kk _ _ _ _ _ w3 (hg.trans (s.w.ge _ (b7 _))) o' (I9 Qh))))))))
 refine ql z.lay (sL (cs:=cq K cc) (x:=s!"counter") q1 ag ag (ei w.jh (qP ..) ag (fB w.bw (iT p (bx d' aL)) ag (sC (GA (d:=d+10) w o) ag ?_))));rintro v H2 n2 ⟨rfl,rfl,E⟩;have a':(ah S n (U (eQ ↥(P.L (.aD o)) aj))) n=U (eQ ↥(P.L (.aD o)) aj):=aa ..;have g2:Ge S (ah S n (U (eQ ↥(P.L (.aD o)) aj))):=w.w.ge _ (aS _);generalize ah S n (U (eQ ↥(P.L (.aD o)) aj))=S2 at E a' g2;refine sC (LA (d:=d+8) E p a' m hp b') ag ?_;rintro v H3 n3 ⟨rfl,rfl,P3,S3,w3,q,g3⟩;have m':k<(D.iX o).nt:=C;have h:((D.iX o).th k).ps=(D.th k).ps/\((D.iX o).th k).ks=(D.th k).ks/\((D.iX o).th k).hs=(D.th k).hs:=by
  show((ah D.th o {D.th o with aC:=(D.th o).aC+1}) k).ps=_/\((ah D.th o {D.th o with aC:=(D.th o).aC+1}) k).ks=_/\((ah D.th o {D.th o with aC:=(D.th o).aC+1}) k).hs=_;by_cases e:k=o
  .obtain rfl:=e.symm;rw[aa];exact cY Y Y Y
  .rw[ae e];exact cY Y Y Y
 have m1:=w3.aD m';have m2:=w3.items m';have m3:P3.L (.aU D.ns)=n+1:=by rw[q];exact aa ..
 have m4:=iT (L:=P3.L) C (bx d' (by decide:50<=1000));have m5:H3 (X.L .bw)=U ⇑((fp D.nt).map λ k=>↥(P3.L (.aD k))):=w3.bw;cases t:(D.th k).hs with
 |false=>
  have k':=h.2.2.trans t;have w4:=w3.acl (j:=D.ns) m' (ie aQ) k';rw[m3]at w4;unfold Th.obj Th.rest at m1;unfold Th.items at m2;rw[k']at m1 m2;exact fB m5 m4 ag (pU (cf:=aq G (d+12)) (c:=85) (b:=ai) m1 ag ag (fB m5 m4 ag (cH m1 (kM ..) ag (ei m2 (cS ..) ag
   (nw (v:=↥(n+1)) m2 (by rw[bS,h.1];exact lm g') ag (nS (last _ _ _ _ w4 Y Y (g2.trans g3)) ag))))))
 |true=>
  have k':=h.2.2.trans t;obtain r|o2:=e' t;have w4:=w3.aby (j:=D.ns) m' (ie aQ) k' (by rw[h.2.1,h.1];exact r);rw[m3]at w4;unfold Th.obj Th.rest at m1;unfold Th.items at m2;rw[k']at m1 m2;exact fB m5 m4 ag (pU (cf:=aq G (d+12)) (c:=85) (b:=aj) m1 ag ag (fB m5 m4 ag (cH m1 (mW ..) ag (abC (cf:=aq G (d+12)) (i:=aQ) (V8 ht) ag
   (QE (v:=↥(n+1)) m2 (MX (by rw[h.2.1];exact B t) (by rw[h.2.1,r];exact lm g')) ag (nS (last _ _ _ _ w4 Y Y (g2.trans g3)) ag))))))
end
end
section
open Tr
noncomputable def Qu:List TS:=[.ite (.call (.lit (.con (.builtin "isinstance"))) [(.sub (.loc "things") (.loc "k")),(.lit #[85])]) [.asg (.loc "part") (.aK (.attr (.sub (.loc "things") (.loc "k")) "items") "pop" [(.lit (.int 0))])] [.asg (.loc "key") (.sub (.call (.lit (.con (.type "list"))) [(.attr (.sub (.loc "things") (.loc "k")) "table")]) (.lit (.int 0))),
 .asg (.loc "part") (.aK (.attr (.sub (.loc "things") (.loc "k")) "table") "pop" [(.loc "key")])],
 .expr (.aK (.cW "counter") "drop" [(.loc "part")]),
 .fW (.sub (.loc "book") (.lit (.str "parts"))) (.loc "k") (.slice (.sub (.sub (.loc "book") (.lit (.str "parts"))) (.loc "k")) (U (.lit (.int 1))) F)]
noncomputable def Co.Eg(D:Co)(k:J):Co:={D with th:=ah D.th k {D.th k with ps:=(D.th k).ps.tail,ks:=if(D.th k).hs then(D.th k).ks.tail else(D.th k).ks}}
noncomputable def Co.gU(D:Co)(k j:J)(tg:List J):Co:=((D.Eg k).yQ j).CQ k tg
section
variable{X:Fx}{D:Co}{P:Pt}{S H H':Hp}{n n' d:J}{K:Kx}
theorem Wd.abQ(w:Wd X D P S H n)(C:k<D.nt)(l:(D.th k).hs=aj):Wd X (D.Eg k) P S (ah H (P.L (.items k)) (U ⇑((D.th k).ps.tail.map λ j=>V.ref (P.L (.aU j))))) n:=by
 have:=w.Nv C (D.th k).ps.tail (D.th k).ks;have hi:({D.th k with ps:=(D.th k).ps.tail,ks:=(D.th k).ks}:Th).items P.L=.list ((D.th k).ps.tail.map λ j=>V.ref (P.L (.aU j))):=by simp[Th.items,l]
 rw[hi]at this;have e:(if(D.th k).hs then(D.th k).ks.tail else(D.th k).ks)=(D.th k).ks:=by rw[l];rfl
 unfold Co.Eg;rw[e];exact this
theorem Wd.aeA(w:Wd X D P S H n)(C:k<D.nt)(l:(D.th k).hs=ai):Wd X (D.Eg k) P S (ah H (P.L (.items k)) (U (.dict (((D.th k).ks.tail.map aJ.str).zip ((D.th k).ps.tail.map λ j=>V.ref (P.L (.aU j))))))) n:=by
 have:=w.Nv C (D.th k).ps.tail (D.th k).ks.tail;have hi:({D.th k with ps:=(D.th k).ps.tail,ks:=(D.th k).ks.tail}:Th).items P.L=.dict (((D.th k).ks.tail.map aJ.str).zip ((D.th k).ps.tail.map λ j=>V.ref (P.L (.aU j)))):=by simp[Th.items,l]
 rw[hi]at this;have e:(if(D.th k).hs then(D.th k).ks.tail else(D.th k).ks)=(D.th k).ks.tail:=by rw[l];rfl
 unfold Co.Eg;rw[e];exact this
theorem ry(ks:List af)(vs:List V):∀e∈(ks.map aJ.str).zip vs,e.1.isStr=ai:=by intro e P;have:=(xa P).1;obtain s|_|hs:=bI.mp this;rw[<-hs];rfl
theorem E5{ks:List af}{vs:List V}(L:ks.length=vs.length)(h:ks.length<=1000):pL (.dict ((ks.map aJ.str).zip vs))=U ⇑(ks.map V.str):=by
 have h2:((ks.map aJ.str).zip vs).length<=1000:=by rw[wo];simp;exact O3 h
 have h1:((ks.map aJ.str).zip vs).all (λ e=>e.1.isStr)=ai:=dE.mpr (ry ks vs);simp only[M5,h1,h2,and_self,if_true];congr 2;clear h h2 h1
 induction ks generalizing vs with
 |nil=>rfl
 |cons k ks X=>cases vs with
  |nil=>cases L
  |cons v vs=>rw[bW,wL,jI];show V.str k::_=_;rw[X (vs:=vs) (by simpa using L),bW]
theorem Nb{x:af}{ks:List af}{v:V}{vs:List V}(g:x∉ks)(h:ks.length<1000):zU x (.dict (((x::ks).map aJ.str).zip (v::vs)))=U (v,.dict ((ks.map aJ.str).zip vs)):=by
 have h2:(((x::ks).map aJ.str).zip (v::vs)).length<=1000:=by rw[wo];simp;exact X2 h
 have h1:=gG (ry (x::ks) (v::vs)) x;simp only[zU,h1,h2,and_self,if_true];have I:atK (((x::ks).map aJ.str).zip (v::vs)) (.str x)=U v:=by simp[atK]
 rw[I];have i:xH (.str x) (((x::ks).map aJ.str).zip (v::vs))=(ks.map aJ.str).zip vs:=by unfold xH;rw[bW,wL,jf];simp only[ne_eq,not_true,decide_false,d0,if_false];rw[List.filter_eq_self];intro e P;have:=(xa P).1;obtain s|hs|Q:=bI.mp this;simp only[decide_eq_true_eq];intro p;rw[p]at Q;cases Q;exact g hs
 rw[i];rfl
theorem En(l:J)(h:∀e∈es,e.1.isStr=ai):dz l s!"pop" (.dict es)=U (.kA l):=by have:es.all (λ e=>e.1.isStr)=ai:=dE.mpr h;exact if_pos ⟨Y,.inl this⟩
theorem Mm(w:Wd X D P S H n)(f:pS X K S){cc dM d6:J}{sc:List Int}(lw:Lw X K S cc dM d6 sc){u:Lc}(ln:Ln X u dM d6){k j t0:J}{tg ps:List J}
 (l1:u s!"k"=U (.int k))(C:k<D.nt)(E:j<D.ns)(z:D.zero=[])(a:D.nt<=50)(g':D.cO.length<=50)
 (f':(D.th k).ps=j::ps)(c':(D.th k).ps.length<=50)(a':(D.th k).ok)(b':D.cO[k]?=U (t0::tg))(h:tg.length<=50)
 {g:Fl×St->Option (Fl×St)}{R:Fl->Lc->Hp->J->be}
 (kk:∀A B y H' n',Wd X (D.gU k j tg) B y H' n'->Ge S y->sI u A->n<=n'->aG (g (.next,⟨A,H',n'⟩)) R):
 aG ((ay G (aq G (d+12)) (cq K cc) JL ⟨u,H,n⟩).bind g) R:=by
 have m:ps.length<50:=by rw[f']at c';simp at c';exact XB c'
 have p:=Told.cons l1 ln.kj;have hB:sI u (lay (("k",.int k)::NQ X dM d6) u):=by rw[<-p.lay];exact sI.refl u
 have last:∀(y H':Hp)(n':J)(A:Lc),Wd X (D.Eg k) P y H' n'->Ge S y->sI u A->n<=n'->Told [("part",↥(P.L (.aU j))),("k",.int k),("book",↥(X.L .bO))] A->
  aG ((du (aq G (d+12)) (cq K cc) (Qu.drop 1) A).aE H' n') (EG g R):=by
  intro y H' n' A o hg j' hn tl;refine sHl tl.lay (sL (cs:=cq K cc) (x:=s!"counter") (o.w.N _ _ (hg _ _ lw.cc)).2 ag ag (ei o.jh (L8 ..) ag (sC (RA (d:=d+10) o (j:=j) E (by show D.zero.length<=1000;rw[z];exact cG _)) ag ?_)));rintro v H2 n2 ⟨rfl,rfl,I⟩;obtain lk|e|p2:=I.cO.get (i:=k) (xs:=t0::tg) b';have p3:(P.bA.map V.ref)[k]?=U ↥lk:=by rw[pr,e];rfl
  have p4:(P.bA.map V.ref).length<=1000:=by rw[bS,I.cO.len];show D.cO.length<=1000;exact lm g'
  have d':fm (k:Int) ↥n2 ⇑(P.bA.map .ref)=U ⇑((P.bA.set k n2).map .ref):=by rw[jv,if_pos p4,kU _ _ (r9.mp p3).1,eT,rL]
  have i':MP (U (.int 1)) F ⇑(aY (t0::tg))=U ⇑(aY tg):=by
   have h1:(aY (t0::tg)).length<=1000:=by rw[bE];simp;exact Im h
   rw[yV,if_pos h1,xM,if_pos aL,uE];show U (O.list (((aY (t0::tg)).take _).drop 1))=_;rw[km];rfl
  have q:=I.new (l:=n2) (n':=n2+1) ⇑(aY tg) (aS _) (cQ _);have w3:=q.O5 (k:=k) (xs:=tg) (l:=n2) (aa ..);rw[I.fix .bh Y]at w3;exact sJ I.bO (gL ..) ag (fB I.bh (ga _ _ _ p3 p4) ag (sSl (I.w.N _ _ p2).2 i' ag (sJ q.bO (gL ..) ag (Ce q.bh d' ag
   (Qd tl.lay (kk A _ _ _ _ w3 (hg.trans (I.w.ge _ (aS _))) j' (mF hn)))))))
 have m1:=w.aD C;have m2:=w.items C;have m4:=iT (L:=P.L) C (bx a (by decide:50<=1000));cases t:(D.th k).hs with
 |false=>
  have w4:=w.abQ C t;unfold Th.obj Th.rest at m1;unfold Th.items at m2;rw[t]at m1 m2;rw[f']at m2 w4;have k':zV ⇑((j::ps).map λ j=>V.ref (P.L (.aU j)))=U (↥(P.L (.aU j)),⇑(ps.map λ j=>V.ref (P.L (.aU j)))):=by
   have:(ps.map λ j=>V.ref (P.L (.aU j))).length<=1000:=by rw[bS];exact Z8 m
   rw[bW,SQ,if_pos this]
  exact ql p.lay (fB w.bw m4 ag (pU (cf:=aq G (d+12)) (c:=85) (b:=ai) m1 ag ag (fB w.bw m4 ag (cH m1 (kM ..) ag (ei m2 (wX ..) ag
   (aba (cf:=aq G (d+12)) m2 k' ag (nS (last _ _ _ _ w4 (Ge.refl _) (hB.set (U ↥(P.L (.aU j))) (.inr (.inl Y))) (aS _) ag) ag)))))))
 |true=>
  obtain r|o2:=a' t;have w6:=w.bg (H':=ah H n (U ⇑((D.th k).ks.map V.str))) (n':=n+1) ((bK.refl _ _).ah (aS _)) (b7 _);have w7:=w6.aeA C t;have m5:=w6.aD C;have m6:=w6.items C;unfold Th.obj Th.rest at m1 m5;unfold Th.items at m2 m6;rw[t]at m1 m2 m5 m6;rw[f']at m2 m6 w7 r;cases e':(D.th k).ks with
  |nil=>rw[e']at r;cases r
  |cons x ks=>
   rw[e']at m2 m5 m6 w6 w7 r o2;rw[ku]at o2;have h':ks.length=ps.length:=by simpa using r
   have Q:pL (.dict (((x::ks).map aJ.str).zip ((j::ps).map λ j=>V.ref (P.L (.aU j)))))=U ⇑((x::ks).map V.str):=E5 (by simpa using h') (by simp;exact O8 m h');have s:yO 0 ⇑((x::ks).map V.str)=U (.str x):=ga _ 0 _ Y (by simp;exact O8 m h');exact ql p.lay (fB w.bw m4 ag (pU (cf:=aq G (d+12)) (c:=85) (b:=aj) m1 ag ag (fB w.bw m4 ag (cH m1 (mW ..) ag (sLs (cf:=aq G (d+12)) m2 Q ag (fB (aa ..) s ag
    (fB w6.bw m4 ag (cH m5 (mW ..) ag (ei m6 (En _ (ry _ _)) ag (XQ (cf:=aq G (d+12)) m6 (Nb o2.1 (abb m h')) ag
    (nS (last _ _ _ _ w7 (Ge.refl _) ((hB.set (U (.str x)) (.inr (.inr Y))).set (U ↥(P.L (.aU j))) (.inr (.inl Y))) (b7 _) ag) ag)))))))))))
end
end
section
open Tr
noncomputable def Co.gV(D:Co)(k c:J):Co:={D.iD k c with dH:=D.dH.set k c}
noncomputable def Co.ip(D:Co)(p:J):Co:={(D.ia p F).jS (D.sc p).val with bA:=D.bA.set p F}
theorem kQ(D:Co)(o:Option J):(D.jS o).nt=D.nt/\(D.jS o).ns=D.ns/\(D.jS o).bA=D.bA/\(D.jS o).cO=D.cO/\(D.jS o).dH=D.dH/\(D.jS o).av=D.av/\(D.jS o).last=D.last/\(D.jS o).ax=D.ax/\(D.jS o).sc=D.sc/\(D.jS o).b9=D.b9:=by cases o<;>exact Wb Y Y Y Y Y Y Y Y Y Y
section
variable{X:Fx}{D:Co}{P:Pt}{S H H':Hp}{n n' d:J}{K:Kx}
theorem Mo(w:Wd X D P S H n)(f:pS X K S){cc dM d6:J}{sc:List Int}(E:Lw X K S cc dM d6 sc){u:Lc}(z:Ln X u dM d6){k c:J}
 (l1:u s!"k"=U (.int k))(i:u s!"more"=U (.int c))(C:k<D.nt)(hc:c<4)(o:D.nt<=50)(l:D.dH.length=D.nt)
 {g:Fl×St->Option (Fl×St)}{R:Fl->Lc->Hp->J->be}
 (b:∀A B y H' n',Wd X (D.gV k c) B y H' n'->Ge S y->sI u A->n<=n'->aG (g (.next,⟨A,H',n'⟩)) R):
 aG ((ay G (aq G (d+12)) (cq K cc) QW ⟨u,H,n⟩).bind g) R:=by
 have m:=iT (L:=P.L) C (bx o (by decide:50<=1000));have p:=(Told.cons l1 (.cons i z.kj)).lay;refine ql p (fB w.bw m ag (sC (GA (d:=d+10) w k) ag ?_));rintro v H2 e ⟨rfl,rfl,I⟩;have t:(ah S n (U (eQ ↥(P.L (.aD k)) aj))) n=U (eQ ↥(P.L (.aD k)) aj):=aa ..;have g2:Ge S (ah S n (U (eQ ↥(P.L (.aD k)) aj))):=w.w.ge _ (aS _);generalize ah S n (U (eQ ↥(P.L (.aD k)) aj))=q at I t g2;have a:=I.bg (H':=ah H2 (n+1) (U Xl)) (n':=n+1+1) ((bK.refl _ _).ah (aS _)) (b7 _);refine sD (jk (d:=d+11)) ag (fB (aa ..) (rr hc) ag (sC (CB (d:=d+10) a (k:=k) (c:=c) C hc t) ag ?_));rintro v r x ⟨rfl,rfl,j⟩;have h:fm (k:Int) (.int c) ⇑(aY D.dH)=U ⇑(aY (D.dH.set k c)):=by
  have h1:(aY D.dH).length<=1000:=by rw[bE,l];exact lm o
  rw[jv,if_pos h1,kU _ _ (by rw[bE,l];exact C),eT];simp only[aY,rL]
 have s:=j.W5 (D.dH.set k c);rw[j.fix .bu Y]at s;exact sJ j.bO (q9 ..) ag (Ce j.bu h ag (Qd p (b _ _ _ _ _ s g2 (sI.refl u) Of)))
theorem Nw(w:Wd X D P S H n)(f:pS X K S){cc dM d6:J}{sc:List Int}(E:Lw X K S cc dM d6 sc){u:Lc}(k:Ln X u dM d6){p:J}
 (l2:u s!"place"=U (.int p))(hp:p<3)(m:D.zero=[])(t:D.bA.length=3)(b:3<=D.ns)
 {g:Fl×St->Option (Fl×St)}{R:Fl->Lc->Hp->J->be}
 (o:∀A B y H' n',Wd X (D.ip p) B y H' n'->Ge S y->sI u A->n<=n'->aG (g (.next,⟨A,H',n'⟩)) R):
 aG ((ay G (aq G (d+12)) (cq K cc) RE ⟨u,H,n⟩).bind g) R:=by
 have h:=(w.w.N _ _ E.cc).2;have r:=(w.w.N _ _ E.d6).2;have z:=(Told.cons l2 k.kj).lay;have c:P.L (.aU p)=X.L (.aU p):=w.fix (.aU p) (decide_eq_true hp);have jg:=MH (d:=d+9) w (j:=p) ((IK b hp)) (by rw[m];exact cG _);rw[c]at jg;refine ql z (sL (cs:=cq K cc) (x:=s!"counter") h ag ag (ei w.jh (yH ..) ag (fB r (xR hp) ag (sC jg ag ?_))));rintro v H2 e ⟨rfl,I,C⟩;have l:=I.aV;rw[(kQ (D.ia p F) (D.sc p).val).2.2.1]at l;have a:fm (p:Int) .none ⇑(D.bA.map fM)=U ⇑((D.bA.set p F).map fM):=by
  have h1:(D.bA.map fM).length<=1000:=by rw[bS];exact Jk t
  rw[jv,if_pos h1,kU _ _ (by rw[bS];exact FJ hp t),eT,rL];rfl
 have s:=I.X5 (D.bA.set p F);rw[I.fix .aV Y]at s;exact sJ I.bO (i9 ..) ag (Ce l a ag (Qd z (o _ _ _ _ _ s (Ge.refl _) (sI.refl u) C)))
end
end
noncomputable def bC(D:Co)(k:J):List J:=(D.cO[k]?).getD []
noncomputable def fZ(D:Co)(k:J):J:=(D.dH[k]?).getD 0
theorem x5{β:Type}(f:J->List β)(k:J)(v:List β):∀{A:List J},k∉A->A.flatMap (ah f k v)=A.flatMap f
 |[],_=>rfl
 |a::A,h=>by
  have h1:a≠k:=λ e=>h (by simp[e])
  have h2:k∉A:=λ e=>h (by simp[e])
  rw[dR,dR,x5 f k v h2,ae h1]
theorem je{β:Type}(f:J->List β)(k:J)(v l:List β)(z:v.Perm (f k++l)):∀{A:List J},A.Nodup->k∈A->(A.flatMap (ah f k v)).Perm (A.flatMap f++l)
 |a::A,hn,C=>by
  rw[ku]at hn;rw[dR,dR];by_cases e:a=k
  .obtain rfl:=e.symm;rw[aa,x5 f k v hn.1];refine(z.append_right _).trans ?_;rw[lv,lv];exact(As).append_left _
  .have h2:k∈A:=by
    rcases dK.mp C with h|h
    .exact absurd h.symm e
    .exact h
   rw[ae e,lv];exact(je f k v l z hn.2 h2).append_left _
theorem rx{l:List (Option J)}(I:l.length=3){p:J}(hp:p<3){o v:Option J}(f:l[p]?=U o)(y:J):(l.set p v).count (U y)+(if o=U y then 1 else 0)=l.count (U y)+(if v=U y then 1 else 0):=by
 cases l with
 |nil=>cases I
 |cons a l=>
 cases l with
 |nil=>cases I
 |cons b l=>
 cases l with
 |nil=>cases I
 |cons c l=>
 cases l with
 |cons d l=>cases I
 |nil=>
 revert f;refine To hp (λ f=>?_) (λ f=>?_) (λ f=>?_)
 .simp at f;subst f;simp[oR];exact X1
 .simp at f;subst f;simp[oR];exact Zd
 .simp at f;subst f;simp[oR];exact Z5
structure Base(K:Kx)(D:Co)(A:List J)(aQ:J):Prop where
 kH:D.bA.length=3
 pl:∀j,j<3->(D.sc j).aC=1/\(D.sc j).fr=aj/\D.bA[j]?=U (D.sc j).val
 Ed:3<=D.ns
 cO:D.cO.length=D.nt
 dH:D.dH.length=D.nt
 xj:D.nt<=7
 Fv:∀k,U k∈D.bA->k∈A
 GX:∀k∈A,fZ D k<4
 bl:∀k∈A,(D.th k).bl=.str (K.nm (fZ D k))
 BI:∀k,k<D.nt->∀j∈(D.th k).ps,j<D.ns
 num:∀k,k<D.nt->(D.th k).num<=D.last
 gD:∀j,j<D.ns->(D.sc j).num<=D.last
 keys:∀k∈A,(D.th k).hs=ai->∀x∈(D.th k).ks,∃t,t<aQ/\x=ie t
 size:(A.flatMap λ k=>(D.th k).ps).length<=aQ
 ax:D.ax.length+A.length<=D.nt
 tg:∀k∈A,(bC D k).length<=aQ
structure Ti(K:Kx)(D:Co)(aQ:J):Prop where
 inv:Inv K D.bA (bC D) D.av D []
 aO:Base K D D.av aQ
 zero:D.zero=[]
 live:∀k∈D.av,0<(D.th k).aC
structure Lr(K:Kx)(D:Co)(aQ:J)(q:List J):Prop where
 inv:Inv K D.bA (bC D) D.av D q
 aO:Base K D D.av aQ
 N:(q=[]/\ZT D.av D)\/(q≠[]/\D.zero=q.map .s/\∀k∈D.av,0<(D.th k).aC)
section
variable{K:Kx}{D:Co}{A:List J}{aQ:J}
theorem Base.bO(b:Base K D A aQ){pl:List (Option J)}{q:List J}(i:Inv K pl (bC D) A D q):jY D (bC D) (fZ D) A:=by
 have h7:=b.ax;have hn:=b.xj;refine⟨i.vK,b.Fv,by rw[b.kH];decide,i.sK,λ k C=>?_,λ k C=>⟨?_,b.GX k C⟩,(PC h7 hn),by rw[b.cO];exact Qa hn,by rw[b.dH];exact Qa hn⟩
 .have:k<D.cO.length:=by rw[b.cO];exact i.lt k C
  unfold bC;rw[wN this];rfl
 .have:k<D.dH.length:=by rw[b.dH];exact i.lt k C
  unfold fZ;rw[wN this];rfl
theorem Base.more(b:Base K D A aQ):Base K D A (aQ+1):=
 ⟨b.kH,b.pl,b.Ed,b.cO,b.dH,b.xj,b.Fv,b.GX,b.bl,b.BI,b.num,b.gD,λ k C l x g=>let⟨t,h1,h2⟩:=b.keys k C l x g;⟨t,(gk h1),h2⟩,z4 b.size,b.ax,λ k C=>z4 (b.tg k C)⟩
theorem Inv.congr{g:Co}(h:Inv K pl tg A D q)(L:∀k∈A,a k=tg k)(h1:g.th=D.th)(h2:g.sc=D.sc)(I:g.nt=D.nt)(i:g.ns=D.ns)(p:g.ax=D.ax):Inv K pl a A g q:=by
 have P:A.flatMap a=A.flatMap tg:=bQ L;have hc:∀k,cA pl a A k=cA pl tg A k:=λ k=>by unfold cA;rw[P]
 have ht:∀k,fo g q k=fo D q k:=λ k=>oz (λ j _=>by rw[h2]) k
 exact⟨h.vK,by rw[I];exact h.lt,by rw[h1,I];exact h.fr,by rw[h1];exact h.ds,by rw[h1];exact h.bl,by rw[h1];exact h.ok,by rw[h1,I];exact h.num,by rw[h2,i];exact h.gD,by rw[h1,h2,i];exact h.ps,
  λ k C t ht=>h.sK k C t (L k C▸ht),λ k C=>by rw[h1,h2,L k C];exact h.link k C,by rw[h1];exact h.nd,h.qn,by rw[h1,h2,i];exact h.qs,λ k C=>by rw[h1,hc,ht];exact h.aC k C,by rw[h1];exact h.size,by rw[p];exact h.cl⟩
theorem wP{A:List J}:bV pl tg e (nNn+1) A=if bp pl tg A=[]then([],A)else
 (dq e (bp pl tg A)++(bV pl tg e nNn (cw A (bp pl tg A))).1,(bV pl tg e nNn (cw A (bp pl tg A))).2):=rfl
theorem EP(nNn:J)(A:List J):(bV pl tg e nNn A).2.Sublist A:=by
 induction nNn generalizing A with
 |zero=>exact .refl _
 |succ nNn X=>
  rw[wP];by_cases h:bp pl tg A=[]
  .rw[if_pos h];exact .refl _
  .rw[if_neg h];exact(X _).trans uN
theorem EL(nNn:J)(A:List J):(bV pl tg e nNn A).1.length+(bV pl tg e nNn A).2.length<=A.length:=by
 induction nNn generalizing A with
 |zero=>exact hQ (jm _)
 |succ nNn X=>
  rw[wP];by_cases h:bp pl tg A=[]
  .rw[if_pos h];exact hQ (jm _)
  .rw[if_neg h];have h1:=X (cw A (bp pl tg A));have h2:=kW (pl:=pl) (tg:=tg) (A:=A);have I:(dq e (bp pl tg A)).length<=(bp pl tg A).length:=wQ _ _;rw[cE];exact XF h2 h1 I
theorem BF(C:U k∈pl)(nNn:J)(A:List J)(h:k∈A):k∈(bV pl tg e nNn A).2:=by
 induction nNn generalizing A with
 |zero=>exact h
 |succ nNn X=>
  rw[wP];by_cases q:bp pl tg A=[]
  .rw[if_pos q];exact h
  .rw[if_neg q];refine X _ (bF.mpr ⟨h,λ c=>?_⟩);have h1:=of_decide_eq_true (lC.mp c).2;unfold cA at h1;exact Yr (wI.mpr C) h1
theorem Lr.next{q:List J}{en:V->Option J}{e:J->Option J}(m:Lr K D aQ q)(P:∀k∈D.av,en (D.th k).bl=e k):
 ∃f I,gC K en f D I/\f<1000/\I.ax=D.ax++(bV D.bA (bC D) e D.av.length D.av).1/\I.bA=D.bA/\I.cO=D.cO/\I.dH=D.dH/\I.av=D.av/\I.nt=D.nt/\I.b9=D.b9/\
  Ti K {I with av:=(bV D.bA (bC D) e D.av.length D.av).2} aQ:=by
 have h7:=m.aO.ax;have hn:=m.aO.xj;have key:∃f I,gC K en f D I/\f<=2*D.av.length+1/\Inv K D.bA (bC D) (bV D.bA (bC D) e D.av.length D.av).2 I []/\I.zero=[]/\I.ax=D.ax++(bV D.bA (bC D) e D.av.length D.av).1/\Fr (bV D.bA (bC D) e D.av.length D.av).2 D I/\(∀k∈(bV D.bA (bC D) e D.av.length D.av).2,k∈D.av)/\bp D.bA (bC D) (bV D.bA (bC D) e D.av.length D.av).2=[]:=by
  rcases m.N with⟨rfl,i⟩|⟨hq,i,hp⟩
  .obtain f|I|v|p|c:=y7 (en:=en) (e:=e) D.av.length D.av D (aS _) m.inv i P;exact pX f I v (Ut p) c
  .obtain f|I|v|p|c:=Ko (en:=en) (e:=e) D.av.length (aS _) m.inv hq i hp P;exact pX f I v (Wx p) c
 obtain f|I|v|p|c|Q|H|d|S|n:=key;have y:=EP (pl:=D.bA) (tg:=bC D) (e:=e) D.av.length D.av;have h:=λ k(C:U k∈D.bA)=>BF (tg:=bC D) (e:=e) C D.av.length D.av (m.aO.Fv k C)
 have w:=EL (pl:=D.bA) (tg:=bC D) (e:=e) D.av.length D.av;generalize bV D.bA (bC D) e D.av.length D.av=G at*;have L:∀k,bC {I with av:=G.2} k=bC D k:=λ k=>by unfold bC;show(I.cO[k]?).getD []=_;rw[d.cO]
 have r:∀k,fZ {I with av:=G.2} k=fZ D k:=λ k=>by unfold fZ;show(I.dH[k]?).getD 0=_;rw[d.dH]
 have b:=m.aO;refine XA f I v (Wa h7 hn p) H d.bA d.cO d.dH d.av d.nt d.b9 ⟨?_,⟨?_,?_,?_,?_,?_,?_,?_,?_,?_,?_,?_,?_,?_,?_,?_,?_⟩,Q,?_⟩
 .have:({I with av:=G.2}:Co).bA=D.bA:=d.bA;rw[this];exact c.congr (λ k _=>L k) Y Y Y Y Y
 .show I.bA.length=3;rw[d.bA];exact b.kH
 .intro j E;show(I.sc j).aC=1/\(I.sc j).fr=aj/\I.bA[j]?=U (I.sc j).val;rw[d.pl j E,d.bA];exact b.pl j E
 .show 3<=I.ns;rw[d.ns];exact b.Ed
 .show I.cO.length=I.nt;rw[d.cO,d.nt];exact b.cO
 .show I.dH.length=I.nt;rw[d.dH,d.nt];exact b.dH
 .show I.nt<=7;rw[d.nt];exact b.xj
 .intro k C;have C:U k∈I.bA:=C;rw[d.bA]at C;exact h k C
 .intro k C;rw[r];exact b.GX k (S k C)
 .intro k C;show(I.th k).bl=_;rw[r,(d.num k).2.2];exact b.bl k (S k C)
 .intro k C j E;have C:k<I.nt:=C;have E:j∈(I.th k).ps:=E;show j<I.ns;rw[d.nt]at C;rw[d.ns];rcases d.BI k with e|e
  .rw[e]at E;exact b.BI k C j E
  .rw[e]at E;cases E
 .intro k C;have C:k<I.nt:=C;show(I.th k).num<=I.last;rw[d.nt]at C;rw[(d.num k).1,d.last];exact b.num k C
 .intro j E;have E:j<I.ns:=E;show(I.sc j).num<=I.last;rw[d.ns]at E;rw[d.gD j,d.last];exact b.gD j E
 .intro k C l x B;have l:(I.th k).hs=ai:=l;have B:x∈(I.th k).ks:=B;rw[(d.num k).2.1]at l;rw[(d.ps k C).2]at B;exact b.keys k (S k C) l x B
 .show(G.2.flatMap λ k=>(I.th k).ps).length<=aQ;rw[bQ (g:=λ k=>(D.th k).ps) λ k C=>(d.ps k C).1];exact bx (fh _ y).length_le b.size
 .show I.ax.length+G.2.length<=I.nt;rw[H,d.nt,cE];exact ZR w h7
 .intro k C;rw[L];exact b.tg k (S k C)
 .intro k C;show 0<(I.th k).aC;have h1:=c.aC k C;have h2:(I.th k).aC≠0:=λ a=>by have:=(c.E7 k).mpr ⟨C,a⟩;rw[n]at this;cases this
  exact PB h1 h2
end
section
variable{K:Kx}{D:Co}{aQ:J}
noncomputable def iH(o:Option J)(k:J):Int:=if o=U k then 1 else 0
noncomputable def xq(D:Co):Option J->List Z
 |none=>[]
 |some t=>if(D.th t).aC -1=0 then[.t t]else[]
theorem Dm(D:Co)(o:Option J)(k:J):(D.jS o).th k={D.th k with aC:=(D.th k).aC -iH o k}:=by
 cases o with
 |none=>simp[Co.jS,iH]
 |some t=>
  show(ah D.th t {D.th t with aC:=(D.th t).aC -1}) k=_;by_cases e:k=t
  .obtain rfl:=e.symm;rw[aa];simp[iH]
  .have:¬t=k:=λ h=>e h.symm
   rw[ae e];simp[iH,this]
theorem uA(D:Co)(o:Option J)(m:D.zero=[]):(D.jS o).zero=xq D o:=by
 cases o with
 |none=>exact m
 |some t=>show(if _ then D.zero++[Z.t t]else D.zero)=_;rw[m];rfl
theorem Ti.old(t:Ti K D aQ){p:J}(hp:p<3){k:J}(h:(D.sc p).val=U k):k∈D.av:=by have h1:=(t.aO.pl p hp).2.2;rw[h]at h1;exact t.aO.Fv k (rA h1)
theorem Dh{D:Co}{A:List J}{o:Option J}{aC:J->Int}(h1:∀k,o=U k->k∈A)(h2:∀k∈A,0<(D.th k).aC)(I:∀k∈A,aC k=(D.th k).aC -iH o k):
 ∃z:List J,xq D o=z.map .t/\z.Nodup/\∀k,k∈z↔k∈A/\aC k=0:=by
 cases o with
 |none=>refine gc [] Y fJ (λ k=>⟨λ h=>(by cases h),λ⟨ha,h⟩=>?_⟩);have:=h2 k ha;rw[I k ha]at h;simp[iH]at h;exact DS this h
 |some t=>
  have ht:=h1 t Y;by_cases e:(D.th t).aC -1=0
  .refine gc [t] (by simp[xq,e]) (by simp) (λ k=>⟨λ h=>?_,λ⟨ha,h⟩=>?_⟩)
   .simp at h;subst h;refine⟨ht,?_⟩;rw[I _ ht];simp[iH,e]
   .rw[I k ha]at h;by_cases b:k=t
    .obtain rfl:=b.symm;simp
    .have:¬t=k:=λ h=>b h.symm
     have:=h2 k ha;simp[iH,‹¬t=k›]at h;exact DS this h
  .refine gc [] (by simp[xq,e]) fJ (λ k=>⟨λ h=>(by cases h),λ⟨ha,h⟩=>?_⟩);rw[I k ha]at h;have i:=h2 k ha;by_cases b:k=t
   .obtain rfl:=b.symm;simp[iH]at h;exact abh h e
   .have:¬t=k:=λ h=>b h.symm
    simp[iH,this]at h;exact DS i h
noncomputable def IS(D:Co)(hs:bG)(c:J):Th:=⟨hs,D.last+1,1,.str (dr c),aj,aj,[],[]⟩
theorem Il(t:Ti K D aQ){c p:J}(hp:p<3)(k:J):(D.fu hs c p).th k=if k=D.nt then IS D hs c else{D.th k with aC:=(D.th k).aC -iH (D.sc p).val k}:=by
 unfold Co.fu Co.yY;rw[Dm];show({(ah (ah (ah D.th D.nt (Th.new hs (D.last+1))) D.nt _) D.nt _) k with aC:=_}:Th)=_;by_cases e:k=D.nt
 .subst e;rw[if_pos Y];have f:iH (D.sc p).val D.nt=0:=by
   unfold iH;split
   .rename_i h;have:=t.inv.lt _ (t.old hp h);exact aab this
   .rfl
  have j:iH (((D.i6 hs c p).iD D.nt c).sc p).val D.nt=0:=f;rw[j];simp only[Co.ia,putD,Co.mV,Co.iD,Co.i6,aa,Th.new,IS];rfl
 .rw[if_neg e];simp only[Co.ia,putD,Co.mV,Co.iD,Co.i6,ae e]
theorem Jx(D:Co)(hs:bG)(c p:J):(D.fu hs c p).sc=ah D.sc p {D.sc p with val:=U D.nt}:=by unfold Co.fu Co.yY;rw[(kQ _ _).2.2.2.2.2.2.2.2.1];rfl
theorem rg(D:Co)(hs:bG)(c p:J):(D.fu hs c p).nt=D.nt+1/\(D.fu hs c p).ns=D.ns/\(D.fu hs c p).bA=D.bA.set p (U D.nt)/\(D.fu hs c p).cO=D.cO++[[]]/\(D.fu hs c p).dH=D.dH++[c]/\(D.fu hs c p).av=D.av++[D.nt]/\(D.fu hs c p).last=D.last+1/\(D.fu hs c p).ax=D.ax/\(D.fu hs c p).b9=D.b9:=by unfold Co.fu Co.yY;obtain Q|w|f|B|I|A|X|v|e|a:=kQ (((((D.i6 hs c p).iD D.nt c).mV D.nt).ia p (U D.nt))) (((D.i6 hs c p).iD D.nt c).sc p).val;exact adB Q w f B I A X v a
theorem AV(t:Ti K D aQ){c p:J}(hp:p<3):(D.fu hs c p).zero=xq D (D.sc p).val:=by
 unfold Co.fu Co.yY;have m:((((D.i6 hs c p).iD D.nt c).mV D.nt).ia p (U D.nt)).zero=[]:=t.zero;rw[uA _ _ m];show xq _ (D.sc p).val=_;cases f:(D.sc p).val with
 |none=>rfl
 |some k=>
  have:=t.inv.lt _ (t.old hp f);have b:k≠D.nt:=(bX this);unfold xq;have:(((((D.i6 hs c p).iD D.nt c).mV D.nt).ia p (U D.nt)).th k).aC=(D.th k).aC:=by simp only[Co.ia,putD,Co.mV,Co.iD,Co.i6,ae b]
  simp only[this]
theorem DA(t:Ti K D aQ)(a':∀c,c<4->K.nm c=dr c){hs:bG}{c p:J}(hp:p<3)(hc:c<4)(h7:D.nt<7)(ht:aQ<40):Lr K (D.fu hs c p) (aQ+1) []:=by
 obtain Q|w|f|X|m|e6|e7|e8|_:=rg D hs c p;have n:=λ k=>Il t (hs:=hs) (c:=c) hp k
 have d':=Jx D hs c p;have ez:=AV t (hs:=hs) (c:=c) hp;generalize D.fu hs c p=L at*;have i:=t.inv;have b:=t.aO;have q:∀k∈D.av,k<D.nt:=i.lt;have e':∀k,k<D.nt->L.th k={D.th k with aC:=(D.th k).aC -iH (D.sc p).val k}:=λ k C=>by rw[n,if_neg ((bX C))]
 have f':L.th D.nt=IS D hs c:=by rw[n,if_pos Y]
 have sK:∀k,k<D.nt->bC L k=bC D k:=λ k C=>by unfold bC;rw[X,GL (by rw[b.cO];exact C)]
 have i':bC L D.nt=[]:=by unfold bC;rw[X,HM (by rw[b.cO];exact aS _),b.cO];simp
 have m':∀k,k<D.nt->fZ L k=fZ D k:=λ k C=>by unfold fZ;rw[m,GL (by rw[b.dH];exact C)]
 have n':fZ L D.nt=c:=by unfold fZ;rw[m,HM (by rw[b.dH];exact aS _),b.dH];simp
 have c':∀j,3<=j->L.sc j=D.sc j:=λ j E=>by rw[d',cx];exact Pp E hp
 have mem:∀k,k∈L.av↔k∈D.av\/k=D.nt:=λ k=>by rw[e6,eE];simp
 have k':(L.av.flatMap λ k=>(L.th k).ps)=D.av.flatMap λ k=>(D.th k).ps:=by rw[e6,v7,dR,FY,f'];rw[bQ (g:=λ k=>(D.th k).ps) λ k C=>by rw[e' k (q k C)]];simp[IS]
 have o':L.av.flatMap (bC L)=D.av.flatMap (bC D):=by rw[e6,v7,dR,FY,i'];rw[bQ (g:=bC D) λ k C=>sK k (q k C)];simp
 have h':=rx b.kH hp (b.pl p hp).2.2 (v:=U D.nt);have p':(L.bA).count (U D.nt)=1:=by
  rw[f];have h1:=h' D.nt;have h2:D.bA.count (U D.nt)=0:=by
   refine K1.mpr λ h=>?_
   have:=q _ (b.Fv _ h);exact Gm this
  have I:¬(D.sc p).val=U D.nt:=λ h=>by have:=q _ (t.old hp h);exact Gm this
  simp[h2,I]at h1;exact h1
 have j':∀k,k≠D.nt->((L.bA.count (U k):J):Int)=(D.bA.count (U k):Int) -iH (D.sc p).val k:=by
  intro k C;rw[f];have h1:=h' k;have I:¬D.nt=k:=λ h=>C h.symm
  unfold iH;by_cases e:(D.sc p).val=U k
  .simp[e,I]at h1⊢;exact Ww h1
  .simp[e,I]at h1⊢;exact ads h1
 have l':∀k,k<L.nt->(L.th k).fr=!(decide (k∈L.av)):=by
  intro k C;by_cases e:k=D.nt
  .subst e;rw[f'];simp[IS,mem]
  .rw[e' k ((Pr C Q e))];have:=i.fr k ((Pr C Q e));simp[mem,e]at this⊢;exact this
 refine⟨⟨?_,?_,l',?_,?_,?_,?_,?_,?_,?_,?_,?_,fJ,(by intro j E;cases E),?_,?_,?_⟩,⟨?_,?_,?_,?_,?_,?_,?_,?_,?_,?_,?_,?_,?_,?_,?_,?_⟩,.inl ⟨Y,?_⟩⟩
 .rw[e6,List.pairwise_append];exact cY i.vK (by simp) (λ a ha b hb=>by simp at hb;subst hb;exact q a ha)
 .intro k C;rw[Q];rcases(mem k).mp C with h|h
  .have:=q k h;exact gk this
  .exact OL h
 .intro k C;rcases(mem k).mp C with h|h
  .rw[e' k (q k h)];exact i.ds k h
  .rw[h,f'];rfl
 .intro k C;rcases(mem k).mp C with h|h
  .rw[e' k (q k h)];exact i.bl k h
  .rw[h,f'];exact cC c hc (by rw[a' c hc];rfl)
 .intro k C;rcases(mem k).mp C with h|h
  .rw[e' k (q k h)];exact i.ok k h
  .rw[h,f'];intro _;exact⟨Y,fJ⟩
 .intro a H d hb;rw[Q]at hb;rw[e' a ((I6 hb d))];by_cases e:H=D.nt
  .rw[e,f'];have:=b.num a ((YB d e));show(D.th a).num<D.last+1;exact OA this
  .rw[e' H ((fX hb e))];exact i.num a H d ((fX hb e))
 .intro a H d hb;rw[w]at hb;have:∀j,(L.sc j).num=(D.sc j).num:=λ j=>by
   rw[d'];by_cases e:j=p
   .obtain rfl:=e.symm;rw[aa]
   .rw[ae e]
  rw[this,this];exact i.gD a H d hb
 .intro k C j E;rcases(mem k).mp C with h|h
  .rw[e' k (q k h)]at E;obtain P|r|p3|p4:=i.ps k h j E;rw[c' j r,w];exact xp P r p3 p4
  .rw[h,f']at E;cases E
 .intro k C y S;rcases(mem k).mp C with h|h
  .rw[sK k (q k h)]at S;exact(mem y).mpr (.inl (i.sK k h y S))
  .rw[h,i']at S;cases S
 .intro k C;rcases(mem k).mp C with h|h
  .rw[e' k (q k h),sK k (q k h),<-i.link k h];apply ef;intro j E;rw[c' j (i.ps k h j E).2.1]
  .rw[h,f',i'];rfl
 .rw[k'];exact i.nd
 .intro k C;have g':fo L [] k=0:=rfl;unfold cA;rw[o',g'];rcases(mem k).mp C with h|h
  .have h1:=i.aC k h;have h2:fo D [] k=0:=rfl;rw[e' k (q k h)];have I:=j' k (by have:=q k h;exact bX this);unfold cA at h1;rw[h2]at h1;simp only[wn]at h1⊢;show(D.th k).aC -iH (D.sc p).val k=_;rw[h1];exact Yw I
  .rw[h,f',p'];have:(D.av.flatMap (bC D)).count D.nt=0:=by
    refine K1.mpr λ hm=>?_
    obtain a|ha|S:=iU.mp hm;have:=q _ (i.sK a ha _ S);exact Gm this
   rw[this];rfl
 .rw[k'];have:=b.size;simp only[li];exact aaf ht this
 .rw[e8,e6,cE];have:=b.ax;simp;exact ZY this h7
 .rw[f,qM];exact b.kH
 .intro j E;rw[d',f];obtain P|r|p3:=b.pl j E;by_cases e:j=p
  .obtain rfl:=e.symm;rw[aa];refine cY P r ?_;rw[wj (by rw[b.kH];exact E)]
  .rw[ae e];refine cY P r ?_;rw[wi (λ h=>e h.symm)];exact p3
 .rw[w];exact b.Ed
 .rw[X,Q,cE,b.cO];rfl
 .rw[m,Q,cE,b.dH];rfl
 .rw[Q];exact Xb h7
 .intro k C;rw[f]at C;rcases Hx C with h|h
  .exact(mem k).mpr (.inl (b.Fv k h))
  .cases h;exact(mem _).mpr (.inr Y)
 .intro k C;rcases(mem k).mp C with h|h
  .rw[m' k (q k h)];exact b.GX k h
  .rw[h,n'];exact hc
 .intro k C;rcases(mem k).mp C with h|h
  .rw[m' k (q k h),e' k (q k h)];exact b.bl k h
  .rw[h,n',f',a' c hc];rfl
 .intro k C j E;rw[Q]at C;rw[w];by_cases e:k=D.nt
  .rw[e,f']at E;cases E
  .rw[e' k ((fX C e))]at E;exact b.BI k ((fX C e)) j E
 .intro k C;rw[Q]at C;rw[e7];by_cases e:k=D.nt
  .rw[e,f'];exact qE _
  .rw[e' k ((fX C e))];have:=b.num k ((fX C e));show(D.th k).num<=_;exact yi this
 .intro j E;rw[w]at E;rw[e7];have:=b.gD j E;have h2:(L.sc j).num=(D.sc j).num:=by
   rw[d'];by_cases e:j=p
   .obtain rfl:=e.symm;rw[aa]
   .rw[ae e]
  rw[h2];exact yi this
 .intro k C l x B;rcases(mem k).mp C with h|h
  .rw[e' k (q k h)]at l B;obtain s|h1|h2:=b.keys k h l x B;exact cC s (gk h1) h2
  .rw[h,f']at B;cases B
 .rw[k'];have:=b.size;exact mF this
 .rw[e8,e6,Q,cE];have:=b.ax;simp;exact Y9 this
 .intro k C;rcases(mem k).mp C with h|h
  .rw[sK k (q k h)];have:=b.tg k h;exact mF this
  .rw[h,i'];simp
 .obtain z|z1|z2|z3:=Dh (D:=D) (A:=D.av) (o:=(D.sc p).val) (aC:=λ k=>(L.th k).aC) (λ k h=>t.old hp h) t.live (λ k C=>by rw[e' k (q k C)]);refine⟨z,by rw[ez];exact z1,z2,λ k=>?_⟩;rw[z3];constructor
  .rintro⟨a,b⟩;exact⟨(mem k).mpr (.inl a),b⟩
  .rintro⟨a,b⟩;rcases(mem k).mp a with h|h
   .exact⟨h,b⟩
   .rw[h,f']at b;cases b
theorem G0(D:Co)(k o:J)(tg:List J)(x:af)(y:J):(D.gj k o tg x).th y=
 {D.th y with aC:=(D.th y).aC+(if y=o then 1 else 0),ps:=if y=k then(D.th y).ps++[D.ns]else(D.th y).ps,ks:=if y=k/\(D.th y).hs=ai then(D.th y).ks++[x]else(D.th y).ks}:=by
 have h1:(D.iX o).th y={D.th y with aC:=(D.th y).aC+(if y=o then 1 else 0)}:=by
  show(ah D.th o {D.th o with aC:=(D.th o).aC+1}) y=_;by_cases e:y=o
  .obtain rfl:=e.symm;rw[aa];simp
  .rw[ae e];simp[e]
 show(ah (D.iX o).th k {(D.iX o).th k with ps:=((D.iX o).th k).ps++[D.ns],ks:=if((D.iX o).th k).hs then((D.iX o).th k).ks++[x]else((D.iX o).th k).ks}) y=_;by_cases e:y=k
 .obtain rfl:=e.symm;rw[aa,h1];simp
 .rw[ae e,h1];simp[e]
theorem CP{D:Co}{v:List J}(C:k<D.cO.length):((D.cO.set k v)[y]?).getD []=ah (bC D) k v y:=by
 by_cases e:y=k
 .obtain rfl:=e.symm;rw[aa,wj C];rfl
 .rw[ae e,wi (λ h=>e h.symm)];rfl
theorem CE:∀a,a<10->∀b,b<10->ie a=ie b->a=b:=by decide+kernel
theorem Dp(t:Ti K D aQ)(ht:aQ<10)(C:k∈D.av)(f:o∈D.av):Lr K (D.gj k o (bC D k) (ie aQ)) (aQ+1) []:=by
 have i:=t.inv;have b:=t.aO;have q:∀k∈D.av,k<D.nt:=i.lt;have hn:D.av.Nodup:=i.vK.imp λ{a b} h e=>(il h e)
 have n:=G0 D k o (bC D k) (ie aQ);have H:∀y,bC (D.gj k o (bC D k) (ie aQ)) y=ah (bC D) k (bC D k++[o]) y:=λ y=>CP (D:=D) (by rw[b.cO];exact q k C)
 have a':(D.gj k o (bC D k) (ie aQ)).sc=ah D.sc D.ns ⟨D.last+1,1,aj,U o⟩:=rfl;obtain⟨Q,w,L,I,x,e7,e8,ez⟩:(D.gj k o (bC D k) (ie aQ)).nt=D.nt/\(D.gj k o (bC D k) (ie aQ)).ns=D.ns+1/\(D.gj k o (bC D k) (ie aQ)).bA=D.bA/\(D.gj k o (bC D k) (ie aQ)).dH=D.dH/\(D.gj k o (bC D k) (ie aQ)).av=D.av/\(D.gj k o (bC D k) (ie aQ)).last=D.last+1/\(D.gj k o (bC D k) (ie aQ)).ax=D.ax/\(D.gj k o (bC D k) (ie aQ)).zero=D.zero:=⟨Y,Y,Y,Y,Y,Y,Y,Y⟩;have g':(D.gj k o (bC D k) (ie aQ)).cO.length=D.cO.length:=qM ..;generalize D.gj k o (bC D k) (ie aQ)=D2 at*;have e':∀y,fZ D2 y=fZ D y:=λ y=>by unfold fZ;rw[I]
 have d:∀j,j<D.ns->D2.sc j=D.sc j:=λ j E=>by rw[a',cx];exact bX E
 have b':D2.sc D.ns=⟨D.last+1,1,aj,U o⟩:=by rw[a'];exact aa ..
 have k':(λ y=>(D2.th y).ps)=ah (λ y=>(D.th y).ps) k ((D.th k).ps++[D.ns]):=by
  funext y;rw[n];by_cases e:y=k
  .obtain rfl:=e.symm;rw[aa];simp
  .rw[ae e];simp[e]
 have h':(D.av.flatMap λ y=>(D2.th y).ps).Perm ((D.av.flatMap λ y=>(D.th y).ps)++[D.ns]):=by rw[k'];exact je _ _ _ _ (.refl _) hn C
 have i':(D.av.flatMap (bC D2)).Perm (D.av.flatMap (bC D)++[o]):=by rw[show bC D2=ah (bC D) k (bC D k++[o])from funext H];exact je _ _ _ _ (.refl _) hn C
 have j':∀y∈D.av,∀j∈(D2.th y).ps,j∈(D.th y).ps\/(y=k/\j=D.ns):=by
  intro y S j E;rw[n]at E;by_cases e:y=k
  .simp only[e,if_true]at E;rcases eE.mp E with h|h
   .exact .inl (e▸h)
   .simp at h;exact .inr ⟨e,h⟩
  .simp only[e,if_false]at E;exact .inl E
 have c':(D.av.flatMap λ y=>(D2.th y).ps).length=(D.av.flatMap λ y=>(D.th y).ps).length+1:=by rw[h'.length_eq,cE];rfl
 have g:=b.size;refine⟨?_,?_,.inl ⟨Y,[],by rw[ez];exact t.zero,fJ,λ y=>⟨λ h=>(by cases h),λ⟨ha,h⟩=>?_⟩⟩⟩
 .rw[L,x];refine⟨i.vK,λ y S=>by rw[Q];exact q y S,λ y S=>?_,λ y S=>?_,λ y S=>?_,λ y S=>?_,λ a c P hc=>?_,λ a c P hc=>?_,λ y S j E=>?_,λ y S z m=>?_,λ y S=>?_,?_,fJ,(by intro j E;cases E),λ y S=>?_,?_,?_⟩
  .rw[Q]at S;rw[n];exact i.fr y S
  .rw[n];exact i.ds y S
  .rw[n];exact i.bl y S
  .intro l;rw[n]at l;have l:(D.th y).hs=ai:=l;obtain r|B:=i.ok y S l;rw[n];by_cases e:y=k
   .simp only[e,true_and,if_true];rw[e]at r B l;simp only[l,if_true,cE,eF,li,r];refine' ⟨by first|rfl|trivial,kC.mpr ⟨B,by simp,λ a ha c hc=>?_⟩⟩;simp at hc;subst hc;intro ea;obtain s|v|s2:=b.keys k C l a ha;rw[s2]at ea;have:=CE s ((PM ht v)) aQ ht ea;exact il v this
   .simp only[e,false_and,if_false];exact⟨r,B⟩
  .rw[Q]at hc;rw[n,n];exact i.num a c P hc
  .rw[w]at hc;by_cases ec:c=D.ns
   .subst ec;rw[b',d a ((pi P))];have:=b.gD a ((pi P));show(D.sc a).num<D.last+1;exact OA this
   .rw[d a ((I6 hc P)),d c ((fX hc ec))];exact i.gD a c P ((fX hc ec))
  .rcases j' y S j E with h|⟨_,rfl⟩
   .obtain A|p|X|p4:=i.ps y S j h;rw[d j A,w];exact xp (gk A) p X p4
   .rw[b',w];exact xp xQ b.Ed Y Y
  .rw[H]at m;by_cases e:y=k
   .obtain rfl:=e.symm;rw[aa]at m;rcases eE.mp m with h|h
    .exact i.sK k S z h
    .simp at h;rw[h];exact f
   .rw[ae e]at m;exact i.sK y S z m
  .rw[H,n];by_cases e:y=k
   .obtain rfl:=e.symm;simp only[aa,if_true,gq,bW,oo,b',<-i.link k S];congr 1;apply ef;intro j E;rw[d j (i.ps k S j E).1]
   .simp only[e,if_false,ae e,<-i.link y S];apply ef;intro j E;rw[d j (i.ps y S j E).1]
  .refine h'.nodup_iff.mpr (kC.mpr ⟨i.nd,by simp,λ a ha c hc=>?_⟩);simp at hc;subst hc;obtain y|S|E:=iU.mp ha;have:=(i.ps y S a E).1;exact bX this
  .have h1:=i.aC y S;have d':fo D2 [] y=0:=rfl;have f':fo D [] y=0:=rfl;rw[n,d'];rw[f']at h1;unfold cA at h1⊢;rw[i'.count_eq,nG];simp only[wn]at h1⊢;show(D.th y).aC+_=_;rw[h1];by_cases e:y=o
   .obtain rfl:=e.symm;simp;exact Y0
   .have:¬o=y:=λ h=>e h.symm
    simp[e,this]
  .rw[c'];simp only[li];exact T8 ht g
  .rw[e8];exact i.cl
 .rw[x];refine⟨by rw[L];exact b.kH,λ j E=>?_,by rw[w];have:=b.Ed;exact Vv this,by rw[g',Q];exact b.cO,by rw[I,Q];exact b.dH,by rw[Q];exact b.xj,by rw[L];exact b.Fv,λ y S=>by rw[e'];exact b.GX y S,λ y S=>by rw[e',n];exact b.bl y S,λ y S j E=>?_,λ y S=>?_,λ j E=>?_,λ y S l z m=>?_,by rw[c'];exact UO g,by rw[e8,Q];exact b.ax,λ y S=>?_⟩
  .rw[d j (by have:=b.Ed;exact IK this E),L];exact b.pl j E
  .rw[Q]at S;rw[w];rw[n]at E;by_cases e:y=k
   .simp only[e,if_true]at E;rcases eE.mp E with h|h
    .have:=b.BI k (q k C) j h;exact gk this
    .simp at h;exact OL h
   .simp only[e,if_false]at E;have:=b.BI y S j E;exact gk this
  .rw[Q]at S;rw[n,e7];have:=b.num y S;show(D.th y).num<=_;exact yi this
  .rw[w]at E;rw[e7];by_cases ec:j=D.ns
   .subst ec;rw[b'];exact qE _
   .rw[d j ((fX E ec))];have:=b.gD j ((fX E ec));exact yi this
  .rw[n]at l m;have l:(D.th y).hs=ai:=l;by_cases e:y=k
   .simp only[e,true_and]at m;rw[e]at l;simp only[l,if_true]at m;rcases eE.mp m with h|h
    .obtain s|v|s2:=b.keys k C l z h;exact cC s (gk v) s2
    .simp at h;exact cC aQ xQ h
   .simp only[e,false_and,if_false]at m;obtain s|v|s2:=b.keys y S l z m;exact cC s (gk v) s2
  .rw[H];by_cases e:y=k
   .obtain rfl:=e.symm;rw[aa,cE];have:=b.tg k S;simp;exact J1 this
   .rw[ae e];have:=b.tg y S;exact mF this
 .rw[x]at ha;have:=t.live y ha;rw[n]at h;have h:(D.th y).aC+(if y=o then 1 else 0)=0:=h;split at h<;>omega
theorem Ti.mid(t:Ti K D aQ):Lr K D (aQ+1) []:=
 ⟨t.inv,t.aO.more,.inl ⟨Y,[],t.zero,fJ,λ k=>⟨λ h=>(by cases h),λ⟨ha,h⟩=>by have:=t.live k ha;exact DS this h⟩⟩⟩
theorem Jr(D:Co)(k j:J)(tg:List J)(y:J):(D.gU k j tg).th y=
 {D.th y with ps:=if y=k then(D.th y).ps.tail else(D.th y).ps,ks:=if y=k/\(D.th y).hs=ai then(D.th y).ks.tail else(D.th y).ks}:=by
 show(ah D.th k {D.th k with ps:=(D.th k).ps.tail,ks:=if(D.th k).hs then(D.th k).ks.tail else(D.th k).ks}) y=_;by_cases e:y=k
 .obtain rfl:=e.symm;rw[aa];simp
 .rw[ae e];simp[e]
theorem Eh(t:Ti K D aQ)(ht:aQ<40)(C:k∈D.av)(e':(D.th k).ps=j::ps)(L:bC D k=t0::tg):Lr K (D.gU k j tg) (aQ+1) [j]:=by
 have i:=t.inv;have b:=t.aO;have q:∀k∈D.av,k<D.nt:=i.lt;have hn:D.av.Nodup:=i.vK.imp λ{a b} h e=>(il h e)
 have n:=Jr D k j tg;obtain s'|n'|o'|t':=i.ps k C j (by rw[e'];simp);have g':(D.sc j).val=U t0/\ps.map (λ j=>(D.sc j).val)=tg.map U:=by have:=i.link k C;rw[e',L]at this;simp only[bW,qx]at this;exact this
 have v':t0∈D.av:=i.sK k C t0 (by rw[L];simp);have H:∀y,bC (D.gU k j tg) y=ah (bC D) k tg y:=λ y=>CP (D:=D) (by rw[b.cO];exact q k C)
 have E:(D.gU k j tg).sc=ah D.sc j {D.sc j with aC:=(D.sc j).aC -1}:=rfl;obtain⟨Q,w,f,I,A,e7,e8⟩:(D.gU k j tg).nt=D.nt/\(D.gU k j tg).ns=D.ns/\(D.gU k j tg).bA=D.bA/\(D.gU k j tg).dH=D.dH/\(D.gU k j tg).av=D.av/\(D.gU k j tg).last=D.last/\(D.gU k j tg).ax=D.ax:=⟨Y,Y,Y,Y,Y,Y,Y⟩;have ez:(D.gU k j tg).zero=[.s j]:=by show(if(D.sc j).aC -1=0 then D.zero++[Z.s j]else D.zero)=_;rw[o',t.zero];rfl
 have h':(D.gU k j tg).cO.length=D.cO.length:=qM ..;generalize D.gU k j tg=D3 at*;have d':∀y,fZ D3 y=fZ D y:=λ y=>by unfold fZ;rw[I]
 have d:∀x,x≠j->D3.sc x=D.sc x:=λ x g=>by rw[E,ae g]
 have p':D3.sc j={D.sc j with aC:=(D.sc j).aC -1}:=by rw[E];exact aa ..
 have X:∀x,(D3.sc x).val=(D.sc x).val/\(D3.sc x).num=(D.sc x).num/\(D3.sc x).fr=(D.sc x).fr:=λ x=>by
  by_cases e:x=j
  .obtain rfl:=e.symm;rw[p'];exact cY Y Y Y
  .rw[d x e];exact cY Y Y Y
 have m':(λ y=>(D.th y).ps)=ah (λ y=>(D3.th y).ps) k ((D3.th k).ps++[])->True:=λ _=>trivial
 have j':∀y,(D3.th y).ps=ah (λ y=>(D.th y).ps) k ps y:=λ y=>by
  rw[n];by_cases e:y=k
  .obtain rfl:=e.symm;rw[aa];simp[e']
  .rw[ae e];simp[e]
 have i':(D.av.flatMap λ y=>(D.th y).ps).Perm ((D.av.flatMap λ y=>(D3.th y).ps)++[j]):=by
  have h1:(λ y=>(D.th y).ps)=ah (λ y=>(D3.th y).ps) k (j::ps):=by
   funext y;by_cases e:y=k
   .obtain rfl:=e.symm;rw[aa];exact e'
   .rw[ae e,j',ae e]
  rw[h1];refine je (λ y=>(D3.th y).ps) k (j::ps) [j] ?_ hn C;show(j::ps).Perm ((D3.th k).ps++[j]);rw[j',aa];exact(As (l₁:=[j]) (l₂:=ps))
 have k':(D.av.flatMap (bC D)).Perm (D.av.flatMap (bC D3)++[t0]):=by
  have h1:bC D=ah (bC D3) k (t0::tg):=by
   funext y;by_cases e:y=k
   .obtain rfl:=e.symm;rw[aa];exact L
   .rw[ae e,H,ae e]
  conv=>lhs;rw[h1]
  refine je (bC D3) k (t0::tg) [t0] ?_ hn C;rw[H,aa];exact(As (l₁:=[t0]) (l₂:=tg))
 have l':∀y∈D.av,∀x∈(D3.th y).ps,x∈(D.th y).ps:=by
  intro y S x g;rw[j']at g;by_cases e:y=k
  .obtain rfl:=e.symm;rw[aa]at g;rw[e'];simp[g]
  .rw[ae e]at g;exact g
 have b':=i'.nodup_iff.mp i.nd;rw[kC]at b';have q':j∉D.av.flatMap λ y=>(D3.th y).ps:=λ h=>b'.2.2 j h j (by simp) Y
 have r':∀y∈D.av,∀x∈(D3.th y).ps,x≠j:=λ y S x g e=>q' (iU.mpr ⟨y,S,e▸g⟩)
 have a':(D.av.flatMap λ y=>(D.th y).ps).length=(D.av.flatMap λ y=>(D3.th y).ps).length+1:=by rw[i'.length_eq,cE];rfl
 have o:=b.size;refine⟨?_,?_,.inr ⟨by simp,ez,λ y S=>?_⟩⟩
 .rw[f,A];refine⟨i.vK,λ y S=>by rw[Q];exact q y S,λ y S=>?_,λ y S=>?_,λ y S=>?_,λ y S=>?_,λ a c P hc=>?_,λ a c P hc=>?_,λ y S x g=>?_,λ y S z m=>?_,λ y S=>?_,b'.1,by simp,λ x g=>?_,λ y S=>?_,?_,?_⟩
  .rw[Q]at S;rw[n];exact i.fr y S
  .rw[n];exact i.ds y S
  .rw[n];exact i.bl y S
  .intro l;rw[n]at l;have l:(D.th y).hs=ai:=l;obtain r|B:=i.ok y S l;rw[n];by_cases e:y=k
   .simp only[e,true_and,if_true];rw[e]at r B l;simp only[l,if_true];exact⟨by simp[r],B.sublist (List.tail_sublist _)⟩
   .simp only[e,false_and,if_false];exact⟨r,B⟩
  .rw[Q]at hc;rw[n,n];exact i.num a c P hc
  .rw[w]at hc;rw[(X a).2.1,(X c).2.1];exact i.gD a c P hc
  .rw[d x (r' y S x g),w];exact i.ps y S x (l' y S x g)
  .rw[H]at m;by_cases e:y=k
   .obtain rfl:=e.symm;rw[aa]at m;exact i.sK k S z (by rw[L];simp[m])
   .rw[ae e]at m;exact i.sK y S z m
  .rw[H,j'];by_cases e:y=k
   .obtain rfl:=e.symm;simp only[aa,<-g'.2];apply ef;intro x _;exact(X x).1
   .simp only[ae e,<-i.link y S];apply ef;intro x _;exact(X x).1
  .simp at g;subst g;rw[p',w];exact Vu s' n' (by show(D.sc x).aC -1=0;rw[o'];rfl) t' ⟨t0,v',g'.1⟩ q'
  .have h1:=i.aC y S;have f':fo D [] y=0:=rfl;have c':fo D3 [j] y=if t0=y then 1 else 0:=by rw[yK,(X j).1,g'.1];have:fo D3 [] y=0:=rfl;rw[this];by_cases e:t0=y<;>simp[e]
   rw[n,c'];rw[f']at h1;unfold cA at h1⊢;rw[k'.count_eq,nG]at h1;simp only[wn]at h1;show(D.th y).aC=_;rw[h1];by_cases e:t0=y
   .obtain rfl:=e.symm;simp;exact U6
   .simp[e]
  .simp only[eF,li];exact Vn ht a' o
  .rw[e8];exact i.cl
 .rw[A];refine⟨by rw[f];exact b.kH,λ x g=>?_,by rw[w];exact b.Ed,by rw[h',Q];exact b.cO,by rw[I,Q];exact b.dH,by rw[Q];exact b.xj,by rw[f];exact b.Fv,λ y S=>by rw[d'];exact b.GX y S,λ y S=>by rw[d',n];exact b.bl y S,λ y S x g=>?_,λ y S=>?_,λ x g=>?_,λ y S l z m=>?_,(aaO a' o),by rw[e8,Q];exact b.ax,λ y S=>?_⟩
  .rw[d x ((Zj n' g)),f];exact b.pl x g
  .rw[Q]at S;rw[w];rw[n]at g;by_cases e:y=k
   .simp only[e,if_true]at g;exact b.BI k (q k C) x (KA g)
   .simp only[e,if_false]at g;exact b.BI y S x g
  .rw[Q]at S;rw[n,e7];exact b.num y S
  .rw[w]at g;rw[(X x).2.1,e7];exact b.gD x g
  .rw[n]at l m;have l:(D.th y).hs=ai:=l;have w':z∈(D.th y).ks:=by
    by_cases e:y=k
    .simp only[e,true_and]at m;rw[e]at l⊢;simp only[l,if_true]at m;exact KA m
    .simp only[e,false_and,if_false]at m;exact m
   obtain s|v|p:=b.keys y S l z w';exact cC s (gk v) p
  .rw[H];by_cases e:y=k
   .obtain rfl:=e.symm;rw[aa];have:=b.tg k S;rw[L]at this;simp at this;exact PS this
   .rw[ae e];have:=b.tg y S;exact mF this
 .rw[A]at S;rw[n];exact t.live y S
theorem D8(t:Ti K D aQ)(r:∀c,c<4->K.nm c=dr c){k c:J}(C:k∈D.av)(hc:c<4):Lr K (D.gV k c) (aQ+1) []:=by
 have i:=t.inv;have b:=t.aO;have q:∀k∈D.av,k<D.nt:=i.lt;have n:∀y,(D.gV k c).th y={D.th y with bl:=if y=k then .str (dr c)else(D.th y).bl}:=λ y=>by
  show(ah D.th k {D.th k with bl:=.str (dr c)}) y=_;by_cases e:y=k
  .obtain rfl:=e.symm;rw[aa];simp
  .rw[ae e];simp[e]
 have p:∀y,fZ (D.gV k c) y=if y=k then c else fZ D y:=λ y=>by
  show((D.dH.set k c)[y]?).getD 0=_;by_cases e:y=k
  .obtain rfl:=e.symm;rw[wj (by rw[b.dH];exact q k C)];simp
  .rw[wi (λ h=>e h.symm)];simp[e];rfl
 obtain⟨Q,w,f,B,I,A,X,v,ez⟩:(D.gV k c).nt=D.nt/\(D.gV k c).ns=D.ns/\(D.gV k c).bA=D.bA/\(D.gV k c).cO=D.cO/\(D.gV k c).sc=D.sc/\(D.gV k c).av=D.av/\(D.gV k c).last=D.last/\(D.gV k c).ax=D.ax/\(D.gV k c).zero=D.zero:=⟨Y,Y,Y,Y,Y,Y,Y,Y,Y⟩;have a':(D.gV k c).dH.length=D.dH.length:=qM ..;generalize D.gV k c=D4 at*;have H:∀y,bC D4 y=bC D y:=λ y=>by unfold bC;rw[B]
 have b':D.av.flatMap (bC D4)=D.av.flatMap (bC D):=bQ λ y _=>H y
 have L:(D.av.flatMap λ y=>(D4.th y).ps)=D.av.flatMap λ y=>(D.th y).ps:=bQ λ y _=>by rw[n]
 refine⟨?_,?_,.inl ⟨Y,[],by rw[ez];exact t.zero,fJ,λ y=>⟨λ h=>(by cases h),λ⟨ha,h⟩=>?_⟩⟩⟩
 .rw[f,A];refine⟨i.vK,λ y S=>by rw[Q];exact q y S,λ y S=>by rw[Q]at S;rw[n];exact i.fr y S,λ y S=>by rw[n];exact i.ds y S,λ y S=>?_,λ y S=>by rw[n];exact i.ok y S,λ a d P hd=>by rw[Q]at hd;rw[n,n];exact i.num a d P hd,λ a d P hd=>by rw[w]at hd;rw[I];exact i.gD a d P hd,λ y S x g=>by rw[n]at g;rw[I,w];exact i.ps y S x g,λ y S z m=>by rw[H]at m;exact i.sK y S z m,λ y S=>by rw[n,H,I];exact i.link y S,by rw[L];exact i.nd,fJ,(by intro j E;cases E),λ y S=>?_,by rw[L];exact i.size,by rw[v];exact i.cl⟩
  .rw[n];by_cases e:y=k
   .exact cC c hc (by simp[e,r c hc])
   .simp only[e,if_false];exact i.bl y S
  .have:=i.aC y S;have o:fo D4 [] y=fo D [] y:=rfl;rw[n,o];unfold cA at this⊢;rw[b'];exact this
 .rw[A];have s:=b.more;refine⟨by rw[f];exact b.kH,by rw[I,f];exact b.pl,by rw[w];exact b.Ed,by rw[B,Q];exact b.cO,by rw[a',Q];exact b.dH,by rw[Q];exact b.xj,by rw[f];exact b.Fv,λ y S=>?_,λ y S=>?_,λ y S x g=>by rw[Q]at S;rw[n]at g;rw[w];exact b.BI y S x g,λ y S=>by rw[Q]at S;rw[n,X];exact b.num y S,λ x g=>by rw[w]at g;rw[I,X];exact b.gD x g,λ y S l z m=>by rw[n]at l m;exact s.keys y S l z m,by rw[L];exact s.size,by rw[v,Q];exact b.ax,λ y S=>by rw[H];exact s.tg y S⟩
  .rw[p];split
   .exact hc
   .exact b.GX y S
  .rw[p,n];by_cases e:y=k
   .simp[e,r c hc]
   .simp only[e,if_false];exact b.bl y S
 .rw[A]at ha;have:=t.live y ha;rw[n]at h;have h:(D.th y).aC=0:=h;exact DS this h
theorem Dy(t:Ti K D aQ){p:J}(hp:p<3):Lr K (D.ip p) (aQ+1) []:=by
 have i:=t.inv;have b:=t.aO;have q:∀k∈D.av,k<D.nt:=i.lt;have n:∀y,(D.ip p).th y={D.th y with aC:=(D.th y).aC -iH (D.sc p).val y}:=λ y=>Dm (D.ia p F) (D.sc p).val y
 obtain f1|f2|f3|f4|f5|f6|f7|f8|f9|i':=kQ (D.ia p F) (D.sc p).val;obtain⟨Q,w,f,B,I,e6,e7,e8⟩:(D.ip p).nt=D.nt/\(D.ip p).ns=D.ns/\(D.ip p).bA=D.bA.set p F/\(D.ip p).cO=D.cO/\(D.ip p).dH=D.dH/\(D.ip p).av=D.av/\(D.ip p).last=D.last/\(D.ip p).ax=D.ax:=⟨f1,f2,Y,f4,f5,f6,f7,f8⟩;have a':(D.ip p).sc=ah D.sc p {D.sc p with val:=F}:=f9;have ez:(D.ip p).zero=xq D (D.sc p).val:=by show((D.ia p F).jS (D.sc p).val).zero=_;rw[uA (D.ia p F) _ t.zero];cases(D.sc p).val<;>rfl
 generalize D.ip p=D5 at*;have H:∀y,bC D5 y=bC D y:=λ y=>by unfold bC;rw[B]
 have d':∀y,fZ D5 y=fZ D y:=λ y=>by unfold fZ;rw[I]
 have h':D.av.flatMap (bC D5)=D.av.flatMap (bC D):=bQ λ y _=>H y
 have g':(D.av.flatMap λ y=>(D5.th y).ps)=D.av.flatMap λ y=>(D.th y).ps:=bQ λ y _=>by rw[n]
 have s:∀x,3<=x->D5.sc x=D.sc x:=λ x g=>by rw[a',cx];exact Pp g hp
 have b':∀x,(D5.sc x).num=(D.sc x).num:=λ x=>by
  rw[a'];by_cases e:x=p
  .obtain rfl:=e.symm;rw[aa]
  .rw[ae e]
 have f':=rx b.kH hp (b.pl p hp).2.2 (v:=F);have bm:=b.more;refine⟨?_,?_,.inl ⟨Y,?_⟩⟩
 .rw[f,e6];refine⟨i.vK,λ y S=>by rw[Q];exact q y S,λ y S=>by rw[Q]at S;rw[n];exact i.fr y S,λ y S=>by rw[n];exact i.ds y S,λ y S=>by rw[n];exact i.bl y S,λ y S=>by rw[n];exact i.ok y S,λ a d L hd=>by rw[Q]at hd;rw[n,n];exact i.num a d L hd,λ a d L hd=>by rw[w]at hd;rw[b',b'];exact i.gD a d L hd,λ y S x g=>?_,λ y S z m=>by rw[H]at m;exact i.sK y S z m,λ y S=>?_,by rw[g'];exact i.nd,fJ,(by intro j E;cases E),λ y S=>?_,by rw[g'];exact i.size,by rw[e8];exact i.cl⟩
  .rw[n]at g;have h1:=i.ps y S x g;rw[s x h1.2.1,w];exact h1
  .rw[n,H,<-i.link y S];apply ef;intro x g;rw[s x (i.ps y S x g).2.1]
  .have h1:=i.aC y S;have c':fo D5 [] y=0:=rfl;have e':fo D [] y=0:=rfl;rw[n,c'];rw[e']at h1;unfold cA at h1⊢;rw[h'];have h2:=f' y;show(D.th y).aC -iH (D.sc p).val y=_;rw[h1];unfold iH;by_cases e:(D.sc p).val=U y
   .simp[e]at h2⊢;exact VK h2
   .simp[e]at h2⊢;exact abM h2
 .rw[e6];refine⟨by rw[f,qM];exact b.kH,λ j E=>?_,by rw[w];exact b.Ed,by rw[B,Q];exact b.cO,by rw[I,Q];exact b.dH,by rw[Q];exact b.xj,λ k C=>?_,λ y S=>by rw[d'];exact b.GX y S,λ y S=>by rw[d',n];exact b.bl y S,λ y S x g=>by rw[Q]at S;rw[n]at g;rw[w];exact b.BI y S x g,λ y S=>by rw[Q]at S;rw[n,e7];exact b.num y S,λ x g=>by rw[w]at g;rw[b',e7];exact b.gD x g,λ y S l z m=>by rw[n]at l m;exact bm.keys y S l z m,by rw[g'];exact bm.size,by rw[e8,Q];exact b.ax,λ y S=>by rw[H];exact bm.tg y S⟩
  .rw[a',f];obtain P|r|X:=b.pl j E;by_cases e:j=p
   .obtain rfl:=e.symm;rw[aa];refine cY P r ?_;rw[wj (by rw[b.kH];exact E)]
   .rw[ae e];refine cY P r ?_;rw[wi (λ h=>e h.symm)];exact X
  .rw[f]at C;rcases Hx C with h|h
   .exact b.Fv k h
   .cases h
 .obtain z|c|z2|z3:=Dh (D:=D) (A:=D.av) (o:=(D.sc p).val) (aC:=λ k=>(D5.th k).aC) (λ k h=>t.old hp h) t.live (λ k C=>by rw[n]);exact⟨z,by rw[ez];exact c,z2,λ k=>by rw[z3,e6]⟩
end
section
open Tr
def GW(K:Kx)(X:Fx)(D:Co)(aQ:J)(S:Hp)(u:Lc)(g:Fl×St->Option (Fl×St))(R:Fl->Lc->Hp->J->be):be:=
 ∀A I q B y H' n',Lr K I (aQ+1) q->Wd X I B y H' n'->Ge S y->sI u A->I.ax=D.ax->I.b9=D.b9->aG (g (.next,⟨A,H',n'⟩)) R
structure Dn(u:Lc)(D:Co)(aQ way p m:J):Prop where
 way:u s!"way"=U (.int way)
 place:u s!"place"=U (.int p)
 more:u s!"more"=U (.int m)
 k:∃o,D.bA[p]?=U o/\u s!"k"=U (fM o)
 other:∃o,D.bA[m%3]?=U o/\u s!"other"=U (fM o)
 aQ:u s!"turn"=U (.int aQ)
 hp:p<3
 hm:m<4
section
variable{X:Fx}{D:Co}{P:Pt}{S H H':Hp}{n n' d aQ:J}{K:Kx}{cc dM d6:J}{sc:List Int}{u:Lc}{way p m:J}{g:Fl×St->Option (Fl×St)}{R:Fl->Lc->Hp->J->Prop}
theorem Ti.mem(t:Ti K D aQ){p k:J}(h:D.bA[p]?=U (U k)):k∈D.av:=t.aO.Fv k (rA h)
theorem QI(t:Ti K D aQ)(w:Wd X D P S H n)(f:pS X K S)(E:Lw X K S cc dM d6 sc)(z:Ln X u dM d6)(dn:Dn u D aQ way p m)(po:GW K X D aQ S u g R):
 aG ((ay G (aq G (d+12)) (cq K cc) [FE] ⟨u,H,n⟩).bind g) R:=by
 have L:=r8 (lay0 u) dn.way;by_cases h:(7:Int)<(way:Int)
 .exact ql L (Gc (decide_eq_true h) ag (Fu L (Nw (d:=d) w f E z dn.place dn.hp t.zero t.aO.kH t.aO.Ed λ A B y H' n' s hg L hn=>po A _ [] B y H' n' (Dy t dn.hp) s hg L (kQ _ _).2.2.2.2.2.2.2.1 (kQ _ _).2.2.2.2.2.2.2.2.2)))
 .exact ql L (Gc (decide_eq_false h) ag (sG L (po u _ [] P S H n t.mid w (Ge.refl _) (sI.refl _) Y Y)))
theorem R5(t:Ti K D aQ)(r:∀c,c<4->K.nm c=dr c)(w:Wd X D P S H n)(f:pS X K S)(E:Lw X K S cc dM d6 sc)(z:Ln X u dM d6)(dn:Dn u D aQ way p m)(po:GW K X D aQ S u g R):
 aG ((ay G (aq G (d+12)) (cq K cc) [wx] ⟨u,H,n⟩).bind g) R:=by
 obtain o|C|lk:=dn.k;have L:=r8 (r8 (lay0 u) lk) dn.way;have a:=QI (d:=d) t w f E z dn po;by_cases h:(way:Int)=7
 .cases o with
  |none=>exact ql L (sEq (decide_eq_true h) ag (Fu L a))
  |some k=>have Q:=t.mem C;exact ql L (sEq (decide_eq_true h) ag (Fu L (Mo (d:=d) w f E z lk dn.more (t.inv.lt k Q) dn.hm (bx t.aO.xj aL) t.aO.dH λ A B y H' n' s hg L hn=>po A _ [] B y H' n' (D8 t r Q dn.hm) s hg L Y Y)))
 .exact ql L (sEq (decide_eq_false h) ag (Fu L a))
theorem KS(t:Ti K D aQ)(C:k∈D.av):D.cO[k]?=U (bC D k):=by
 have:k<D.cO.length:=by rw[t.aO.cO];exact t.inv.lt k C
 unfold bC;rw[wN this];rfl
theorem Sm(t:Ti K D aQ)(ht:aQ<10)(l:∀c,c<4->K.nm c=dr c)(w:Wd X D P S H n)(f:pS X K S)(E:Lw X K S cc dM d6 sc)(I:Ln X u dM d6)(dn:Dn u D aQ way p m)(po:GW K X D aQ S u g R):
 aG ((ay G (aq G (d+12)) (cq K cc) [u5] ⟨u,H,n⟩).bind g) R:=by
 obtain o|C|lk:=dn.k;have L:=r8 (r8 (r8 (lay0 u) I.bO) lk) dn.way;have d4:=λ H n(w:Wd X D P S H n)=>R5 (d:=d) t l w f E I dn po
 by_cases h:(way:Int)=6
 .cases o with
  |none=>exact ql L (sEq (decide_eq_true h) ag (Fu L (d4 _ _ w)))
  |some k=>
   have Q:=t.mem C;have e':=t.inv.lt k Q;have a:=KS t Q;obtain lp|e|r:=w.cO.get a;have i:(P.bA.map V.ref)[k]?=U ↥lp:=by simp[e]
   have p4:(P.bA.map V.ref).length<=1000:=by rw[bS,w.cO.len,t.aO.cO];have:=t.aO.xj;exact PA this
   have p5:=(w.w.N _ _ r);have q:=w.bg (H':=ah H n (U ⇑[])) (n':=n+1) ((bK.refl _ _).ah (aS _)) (b7 _);have q1:ah H n (U ⇑[]) lp=U ⇑(aY (bC D k)):=by rw[ae (bP p5.1)];exact p5.2
   have z:ah H n (U ⇑[]) n=U ⇑(aY []):=aa ..;have c':=t.inv.link k Q;have b':∀b,decide (bC D k=[])=b->aG ((du (aq G (d+12)) (cq K cc) (if(!b)then JL else[wx]) (lay [(s!"way",V.int way),("k",.int k),("book",↥(X.L .bO))] u)|>.bind eK).aE (ah H n (U ⇑[])) (n+1)) (EG g R)->
    aG ((ay G (aq G (d+12)) (cq K cc) [u5] ⟨u,H,n⟩).bind g) R:=λ b hb kk=>
    ql L (sEq (decide_eq_true h) ag (sJ w.bO (gL ..) ag (fB w.bh (ga _ _ _ i p4) ag (sN [] (cG _) ag
     (sO (m:=ew .ne ↥lp ↥n) (v:=!b) (λ u=>by rw[Cy,yB q1 z,hb];rfl) ag (by cases b<;>exact nS kk ag))))))
   cases x:(D.th k).ps with
   |nil=>rw[x]at c';exact b' ai (decide_eq_true (vI.mp c'.symm)) (Fu L (d4 _ _ q))
   |cons j ps=>
    cases d':bC D k with
    |nil=>rw[x,d']at c';cases c'
    |cons t0 tg=>
     have a':(D.th k).ps.length<=50:=by have h2:=congrArg List.length c';simp only[bS]at h2;have:=t.aO.tg k Q;exact OM ht h2 this
     refine b' aj (by rw[d'];rfl) (Fu L (Mm (d:=d) q f E I lk e' (t.inv.ps k Q j (by rw[x];simp)).1 t.zero (bx t.aO.xj aL) (by rw[t.aO.cO];exact bx t.aO.xj aL) x a' (t.inv.ok k Q) (by rw[a,d']) (by have:=t.aO.tg k Q;rw[d']at this;simp at this;exact YJ this ht) λ A B y H' n' s hg L hn=>?_));exact po A _ [j] B y H' n' (Eh t ((Pm ht)) Q x d') s hg L Y Y
 .exact ql L (sEq (decide_eq_false h) ag (Fu L (d4 _ _ w)))
theorem aeT(way:J):inO (.int way) (.tup [.int 4,.int 5])=U (decide (way=4\/way=5)):=by have:=pH (way:Int) [4,5];simp only[bW,oo,dK,eI,or_false]at this;show cI _ _=_;rw[this];congr 1;have:((way:Int)=4\/(way:Int)=5)↔(way=4\/way=5):=YG;simp only[this]
theorem S8(t:Ti K D aQ)(ht:aQ<10)(r:∀c,c<4->K.nm c=dr c)(w:Wd X D P S H n)(f:pS X K S)(E:Lw X K S cc dM d6 sc)(z:Ln X u dM d6)(dn:Dn u D aQ way p m)(po:GW K X D aQ S u g R):
 aG ((ay G (aq G (d+12)) (cq K cc) [om] ⟨u,H,n⟩).bind g) R:=by
 obtain o|C|lk:=dn.k;obtain o'|j|c':=dn.other;have L:=r8 (r8 (r8 (lay0 u) c') lk) dn.way;have q:=w.bg (H':=ah H n (U (.tup [.int 4,.int 5]))) (n':=n+1) ((bK.refl _ _).ah (aS _)) (b7 _);have d3:=Sm (d:=d) t ht r q f E z dn po;have a':∀{b t'},decide (way=4\/way=5)=b->(Tr.mw ((du (aq G (d+12)) (cq K cc) [om] (lay [(s!"way",V.int way),("k",fM o),("other",fM o')] u)).kT ↥n) b)=t'->aG (t'.aE (ah H n (U (.tup [.int 4,.int 5]))) (n+1)) (EG g R)->
  aG ((ay G (aq G (d+12)) (cq K cc) [om] ⟨u,H,n⟩).bind g) R:=λ{b t'} hb e kk=>
  ql L (Tx [.int 4,.int 5] aL ag (ada (aa ..) ((aeT way).trans (congrArg U hb)) ag (e▸kk)))
 by_cases h:way=4\/way=5
 .cases o with
  |none=>exact a' (decide_eq_true h) Y (Fu L d3)
  |some k=>
   cases o' with
   |none=>exact a' (decide_eq_true h) Y (Fu L d3)
   |some x=>
    have Q:=t.mem C;have b':=t.mem j;have I:(D.th k).ps.length<=50:=by have h2:=congrArg List.length (t.inv.link k Q);simp only[bS]at h2;have:=t.aO.tg k Q;exact OM ht h2 this
    refine a' (decide_eq_true h) Y (Fu L (Op (d:=d) q f E z lk c' dn.aQ (WZ ht) (t.inv.lt k Q) (t.inv.lt x b') t.zero (bx t.aO.xj aL) (by rw[t.aO.cO];exact bx t.aO.xj aL) t.aO.Ed t.aO.BI I (t.inv.ok k Q) (λ l B=>?_) (KS t Q) (by have:=t.aO.tg k Q;exact Um ht this) λ A a y H' n' i hg L hn=>?_))
    .obtain s|v|s2:=t.aO.keys k Q l _ B;have:=CE aQ ht s ((PM ht v)) s2;exact Zb v this
    .exact po A _ [] a y H' n' (Dp t ht Q b') i hg L Y Y
 .exact a' (decide_eq_false h) Y (Fu L d3)
theorem Sp(t:Ti K D aQ)(ht:aQ<10)(r:∀c,c<4->K.nm c=dr c)(w:Wd X D P S H n)(f:pS X K S)(E:Lw X K S cc dM d6 sc)(z:Ln X u dM d6)(dn:Dn u D aQ way p m)(po:GW K X D aQ S u g R):
 aG ((c6 G (aq G (d+12)) (cq K cc) uf ⟨u,H,n⟩).bind g) R:=by
 have j:=S8 (d:=d) t ht r w f E z dn po;have L:=r8 (r8 (lay0 u) z.bw) dn.way;have b:=t.aO;have l:=b.xj;have a:D.av.length<=50:=by have:=b.ax;exact PC this l
 by_cases h:(way:Int)<4
 .have v:∀{c},decide ((D.nt:Int)<7)=c->aG ((du (aq G (d+12)) (cq K cc) (if c then zS else[om]) (lay [(s!"way",V.int way),("things",↥(X.L .bw))] u)).aE H n) (EG g R)->aG ((c6 G (aq G (d+12)) (cq K cc) uf ⟨u,H,n⟩).bind g) R:=λ{c} hc o=>VX L (sLt (decide_eq_true h) ag (oq w.bw (by simp;exact PA l) ag (by rw[bS,zw];exact sLt hc ag (by cases c<;>exact nS o ag))))
  by_cases h7:(D.nt:Int)<7
  .have a':(way:Int)%2=if decide ((way:Int)%2=1)then 1 else 0:=by
    by_cases e:(way:Int)%2=1
    .simp[e]
    .have:(way:Int)%2=0:=(UH e);simp[this]
   refine v (decide_eq_true h7) (LL L (L3 (d:=d) w f E z _ a' dn.way dn.place dn.more dn.hp dn.hm t.zero b.kH (G5 l) a (by rw[b.dH];exact G5 l) (by rw[b.cO];exact G5 l) b.Ed b.num λ A B y H' n' s hg L hn=>?_));obtain Q|i|q|k|I|x|e7|C|e9:=rg D (decide ((way:Int)%2=1)) m p;exact po A _ [] B y H' n' (DA t r dn.hp dn.hm ((WQ h7)) ((Pm ht))) s hg L C e9
  .exact v (decide_eq_false h7) (LL L j)
 .exact VX L (sLt (decide_eq_false h) ag (LL L j))
end
end
section
open Tr
noncomputable def pK:List TS:=[.expr (.aK (.cW "counter") "settle" [(.lit (.int 0))]),
 .rW (.loc "due") (.loc "counts") (.call (.lit #[642]) [(.loc "book")]),
 .ite (.any [(.cmp .ne (.slice (.cW "calls") (U (.bin .sub (.call (.lit (.con (.builtin "len"))) [(.cW "calls")]) (.call (.lit (.con (.builtin "len"))) [(.loc "due")]))) F) (.loc "due")),(.cmp .ne (.call (.lit (.con (.builtin "len"))) [(.cW "calls")]) (.bin .add (.loc "told") (.call (.lit (.con (.builtin "len"))) [(.loc "due")])))]) [.ret (U (.lit (.bool aj)))] [],
 .asg (.loc "told") (.call (.lit (.con (.builtin "len"))) [(.cW "calls")]),
 .eL (.loc "spare") (.call (.lit (.con (.type "range"))) [(.call (.lit (.con (.builtin "len"))) [(.loc "things")])]) [.ite (.cmp .ne (.attr (.sub (.loc "things") (.loc "spare")) "is_freed") (.cmp .eW (.loc "spare") (.sub (.loc "book") (.lit (.str "alive"))))) [.ret (U (.lit (.bool aj)))] [],
 .ite (.all [(.cmp .isin (.loc "spare") (.loc "counts")),(.cmp .ne (.attr (.sub (.loc "things") (.loc "spare")) "count") (.sub (.loc "counts") (.loc "spare")))]) [.ret (U (.lit (.bool aj)))] []],
 .ite (.all [(.cmp .gt (.sub (.loc "spot") (.lit (.int 0))) (.call (.lit (.con (.builtin "len"))) [(.loc "script")])),(.cmp .gt (.loc "turn") (.lit (.int 2)))]) [.brk] []]
theorem ij.drop{ls:List J}{cs:List (J×J)}(i:J)(a:ij S ls cs):ij S (ls.drop i) (cs.drop i):=dO.drop i a
theorem Ez(A:List J)(c:J->J)(k:J):((da A c).any λ e=>decide (e.1=aJ.int k))=decide (k∈A):=by
 induction A with
 |nil=>rfl
 |cons a r X=>
  simp only[da,bW,jW]at X⊢;rw[X];by_cases e:a=k
  .obtain rfl:=e.symm;simp
  .have h1:¬(a:Int)=(k:Int):=(RY e);have h2:¬k=a:=λ h=>e h.symm
   simp[h1,h2]
section
variable{X:Fx}{D:Co}{P:Pt}{S H H':Hp}{n n' d aQ:J}{K:Kx}{cc dM d6:J}{sc:List Int}{u:Lc}{way p m:J}{g:Fl×St->Option (Fl×St)}{R:Fl->Lc->Hp->J->Prop}
theorem Ln.set{u:Lc}(h:Ln X u dM d6){y:af}(v:Option V)(e:((NQ X dM d6).all λ p=>decide (p.1≠y))=ai:=by kernel_rfl):Ln X (ah u y v) dM d6:=.of (h.kj.set e)
theorem QX{q:List J}{eP:List J}{pn:J->List J}{es:List J}(mi:Lr K D aQ q)(w:Wd X D P S H n)(f:pS X K S)(lw:Lw X K S cc dM d6 sc)(ln:Ln X u dM d6)(bf:iP X S eP pn es)(f':∀c,c<4->K.dI c=d9 pn es c)
 {en:V->Option J}(a':∀c,c<4->en (.str (K.nm c))=K.dI c)
 (k:∀(I:Co)(B:Pt)(o H':Hp)(n' a b:J)(cls:List J)(e':List (J×J)),Ti K I aQ->Wd X I B o H' n'->Ge S o->I.ax=D.ax++e'->I.b9=D.b9->o a=U ⇑(cls.map .ref)->ij o cls e'->o b=U (.dict (da I.av (cA I.bA (bC I) I.av)))->
  aG ((ay G (aq G (d+12)) (cq K cc) (pK.drop 2) ⟨ah (ah u s!"due" (U ↥a)) s!"counts" (U ↥b),H',n'⟩).bind g) R):
 aG ((ay G (aq G (d+12)) (cq K cc) pK ⟨u,H,n⟩).bind g) R:=by
 have A:=ln.kj;refine ql A.lay (sL (cs:=cq K cc) (x:=s!"counter") (w.w.N _ _ lw.cc).2 ag ag (ei w.jh (D9 ..) ag ?_));have b:=mi.aO;obtain mm|I|s1|s2|s3|s4|s5|j|s7|s8|s9|ti:=mi.next (en:=en) (e:=λ k=>K.dI (fZ D k)) (λ k C=>by rw[b.bl k C];exact a' _ (b.GX k C));refine sC (Jq (d:=d+2) s1 s2 w f a') ag ?_;rintro v H1 E ⟨rfl,t,z,Q,g',h',c'⟩;have L:∀k,bC I k=bC D k:=λ k=>by unfold bC;rw[s5]
 have bo:jY I (bC D) (fZ D) I.av:=by have h:=b.bO mi.inv;rw[s7];exact⟨h.vK,by rw[s4];exact h.pl,by rw[s4];exact h.pl3,h.sK,by rw[s5];exact h.cO,by rw[j];exact h.dH,by rw[s5,j];exact h.len⟩
 have b':=b.ax;have d':=b.xj;have i':=QY (d:=d+5) (nNn:=D.av.length) (e:=λ k=>K.dI (fZ D k)) Q bo (by rw[s7];exact aS _) ((Zn b' d')) (λ k C=>f' _ (b.GX k (s7▸C))) (bf.ge h');rw[s7,s4]at i';refine sA2 (cf:=aq G (d+12)) (cs:=cq K cc) (x:=s!"due") (y:=s!"counts") (ee:=.call (.lit #[642]) [.loc "book"]) i' ag ag ?_
 rintro v H2 i ⟨l,a,bb,cls,P2,r,rfl,g1,g2,g3,s,g5,g6,g7,g8⟩;rw[s4]at s;refine⟨l,_,_,Y,g1,LL (b:=pK.drop 2) (congrArg (λ u:Lc=>ah (ah u s!"due" (U (V.ref a))) s!"counts" (U (V.ref bb))) A.lay) (k _ P2 r H2 i a bb cls _ ti g5 (h'.trans g7) s3 s9 g2 g3 ?_)⟩;show r bb=U (.dict (da _ (cA I.bA (bC I) _)));rw[s4,show bC I=bC D from funext L];exact s
end
end
section
open Tr
theorem K4{d k:J}(h:k<=1000):ts d (U (.int (k:Int)))=U k:=by rw[xM,if_pos ⟨rs k,(VC h)⟩,ID]
theorem H9{xs:List V}{k:J}(h1:xs.length<=1000)(h2:k<=1000):MP (U (.int (k:Int))) F ⇑xs=U ⇑(xs.drop k):=by
 rewrite[yV,if_pos h1,K4 h2,uE];try rfl
 show U (O.list ((xs.take xs.length).drop k))=_;rw[km]
theorem ne_str{a b:String}(h:a≠b):cZ a≠cZ b:=λ e=>h ((eo a b).mp e)
section
variable{X:Fx}{D:Co}{P:Pt}{S H H':Hp}{n n' d aQ:J}{K:Kx}{cc dM d6:J}{sc:List Int}{u:Lc}{way p m:J}{g:Fl×St->Option (Fl×St)}{R:Fl->Lc->Hp->J->Prop}
theorem Wd.mv(w:Wd X D P S H n):H (X.L .ax)=U ⇑(P.cl.map .ref):=by rw[<-w.fix .ax Y];exact(w.w.dy .ax _ Y).2
theorem Wd.Px(w:Wd X D P S H n):H (X.L .b9)=U ⇑[.int D.b9]:=by rw[<-w.fix .b9 Y];exact(w.w.dy .b9 _ Y).2
def acr(K:Kx)(X:Fx)(c0:List (J×J))(j:Int)(aQ:J)(S:Hp)(dM d6:J)(g:Fl×St->Option (Fl×St))(R:Fl->Lc->Hp->J->be):be:=
 ∀A I B y H' n',Ti K I aQ->Wd X I B y H' n'->Ge S y->Ln X A dM d6->A s!"told"=U (.int I.ax.length)->I.b9=j->∀fl:Fl,fl=.next\/fl=.brk->aG (g (fl,⟨A,H',n'⟩)) R
noncomputable def Vw(X:Fx)(dM d6 b:J)(tl tn:Int):List (af×V):=("told",.int tl)::("turn",.int tn)::("counts",↥b)::NQ X dM d6
theorem SA(ti:Ti K D aQ)(w:Wd X D P S H n)(f:pS X K S)(lw:Lw X K S cc dM d6 sc)(ln:Ln X u dM d6){c0 d':List (J×J)}{a b:J}{cls:List J}{tn:Int}
 (hc:D.ax=c0++d')(ha:S a=U ⇑(cls.map .ref))(ht:ij S cls d')(hb:S b=U (.dict (da D.av (cA D.bA (bC D) D.av))))
 (l1:u s!"due"=U ↥a)(l2:u s!"counts"=U ↥b)(l3:u s!"told"=U (.int c0.length))(l4:u s!"turn"=U (.int tn))
 (po:acr K X c0 D.b9 aQ S dM d6 g R):
 aG ((ay G (aq G (d+12)) (cq K cc) (pK.drop 2) ⟨u,H,n⟩).bind g) R:=by
 have bb:=ti.aO;have c':=bb.xj;have r:=bb.ax;have f':P.cl.length=c0.length+d'.length:=by rw[w.ax.len,hc,cE]
 have g':cls.length=d'.length:=ht.len;have Q:=(w.w.N _ _ f.cc).2;have z:=(w.w.N _ _ ha).2;have q3:=(w.w.N _ _ hb).2;have b':D.ax.length<=7:=(Y7 r c');rw[hc,cE]at b';have m1:(P.cl.map V.ref).length<=1000:=by rw[bS,f'];exact VQ b'
 have m2:(cls.map V.ref).length<=1000:=by rw[bS,g'];exact Vf b'
 have y:((P.cl.map V.ref).length:Int)=(c0.length:Int)+((cls.map V.ref).length:Int):=by rw[bS,bS,f',g',IN]
 have B:MP (U (.int (((P.cl.map V.ref).length:Int) -((cls.map V.ref).length:Int)))) F ⇑(P.cl.map V.ref)=U ⇑((P.cl.drop c0.length).map V.ref):=by rw[y,Ae,H9 m1 (aag b'),List.map_drop]
 have q:=w.bg (H':=ah H n (U ⇑((P.cl.drop c0.length).map V.ref))) (n':=n+1) ((bK.refl _ _).ah (aS _)) (b7 _);have gH:Ge S (ah H n (U ⇑((P.cl.drop c0.length).map V.ref))):=λ l o h=>(q.w.N l o h).2
 have hT:ij S (P.cl.drop c0.length) d':=by have:=w.ax.drop c0.length;rw[hc,List.drop_left]at this;exact this
 have q5:=(q.w.N _ _ f.cc).2;have q6:=(q.w.N _ _ ha).2;have e6:∀u,zi ↥n ↥a ⟨u,ah H n (U ⇑((P.cl.drop c0.length).map V.ref)),n+1⟩=U (decide (d'=d'),⟨u,ah H n (U ⇑((P.cl.drop c0.length).map V.ref)),n+1⟩):=
  Du (aa ..) q6 (hT.ge gH) (ht.ge gH)
 have c:D.nt<1000:=rz c' aL;have e':((fp D.nt).map λ k=>V.ref (P.L (.aD k))).length=D.nt:=by rw[bS,zw]
 have I:=q.bg (H':=ah _ (n+1) (U (.range (D.nt:Int).toNat))) (n':=n+2) ((bK.refl _ _).ah (aS _)) (b7 _);refine ql (Told.cons l1 (.cons l3 (.cons l4 (.cons l2 ln.kj)))).lay (sL (cs:=cq K cc) (x:=s!"calls") Q ag ag (sL (cs:=cq K cc) (x:=s!"calls") Q ag ag (oq w.mv m1 ag (oq z m2 ag (sSl w.mv B ag
  (sO (m:=ew .ne ↥n ↥a) (v:=aj) (λ u=>by rewrite[Cy,e6,decide_eq_true Y];rfl) ag (sL (cs:=cq K cc) (x:=s!"calls") q5 ag ag (oq q.mv m1 ag (oq q6 m2 ag
  (Tg (decide_eq_true y) ag (sL (cs:=cq K cc) (x:=s!"calls") q5 ag ag (oq q.mv m1 ag (oq q.bw (by rw[e'];exact kf c) ag ?_)))))))))))))
 rw[e'];refine Tk (cf:=aq G (d+12)) (i:=D.nt) ⟨rs _,j9.mpr c⟩ ag ?_;have t:ah (ah H n (U ⇑((P.cl.drop c0.length).map V.ref))) (n+1) (U (.range (D.nt:Int).toNat)) (n+1)=U (.range D.nt):=aa ..;generalize ah (ah H n (U ⇑((P.cl.drop c0.length).map V.ref))) (n+1) (U (.range (D.nt:Int).toNat))=H2 at I t⊢;refine sFp (cf:=aq G (d+12)) (cs:=cq K cc) (x:=s!"spare") (a:=wb pK 4) (λ _=>Told (Vw X dM d6 b (P.cl.map V.ref).length tn)) t c ag ag (λ j E A tl C hR=>?_) λ A tl=>?_
 .have t1:=I.aD E;have t2:=iT (L:=P.L) E (bx c' (by decide:7<=1000));have t3:H2 b=_:=(I.w.N _ _ hb).2;refine Ws tl.lay (fB I.bw t2 ag (cH t1 (Jh ..) ag (sJ I.bO (kq ..) ag (sNj (I.w.N _ _ I.dZ).2 (ik j _) ag
   (acY (a:=(D.th j).fr) (b:=!decide (j∈D.av)) (v:=ai) (decide_eq_true (ti.inv.fr j E)) ag (adX t3 (dx (hO _ _) _) (Ez _ _ j) ag ?_))))))
  by_cases s:j∈D.av
  .have hn:D.av.Nodup:=ti.inv.vK.imp λ{a b} h e=>(il h e)
   have a':yO (j:Int) (.dict (da D.av (cA D.bA (bC D) D.av)))=U (.int (cA D.bA (bC D) D.av j)):=by simp only[um,ty,si,dx (hO _ _),if_true,mU hn s]
   rw[decide_eq_true s];exact fB I.bw t2 ag (cH t1 (hY ..) ag (fB t3 a' ag (Tg (decide_eq_true (ti.inv.aC j s)) ag (sGk hR ag))))
  .rw[decide_eq_false s];exact sGk hR ag
 .have pp:=λ(fl:Fl)(h:fl=.next\/fl=.brk)=>po A D P S _ _ ti I (Ge.refl _) (.of tl.tl.tl.tl) (by rw[tl.hd,bS,w.ax.len]) Y fl h
  have p3:(sc.map V.int).length<=1000:=by rw[bS];exact KJ lw.len
  rw[tl.lay];refine fB I.Px (mX _) ag (oq (I.w.N _ _ lw.dM).2 p3 ag ?_);by_cases c1:((sc.map V.int).length:Int)<D.b9
  .by_cases c2:(2:Int)<tn
   .exact Gc (decide_eq_true c1) ag (Gc (decide_eq_true c2) ag (Qd tl.lay (pp .brk (.inr Y))))
   .exact Gc (decide_eq_true c1) ag (Gc (decide_eq_false c2) ag (Qd tl.lay (pp .next (.inl Y))))
  .exact Gc (decide_eq_false c1) ag (Qd tl.lay (pp .next (.inl Y)))
end
end
section
open Tr
section
variable{X:Fx}{D:Co}{P:Pt}{S H H':Hp}{n n' d aQ:J}{K:Kx}{cc dM d6:J}{sc:List Int}{u:Lc}{way p m:J}{g:Fl×St->Option (Fl×St)}{R:Fl->Lc->Hp->J->Prop}
theorem AS(w:Wd X D P S H n)(E:Lw X K S cc dM d6 sc){i lim:J}(hi:D.b9=i)(L:0<lim/\lim<1000):
 ba (d+1) #[625] [↥dM,↥(X.L .b9),.int lim] H n λ v H' n'=>∃r:J,r<lim/\v=.int r/\n'=n/\Wd X {D with b9:=((i+1:J):Int)} P S H' n':=by
 have h2:H (X.L .b9)=U ⇑[.int (i:Int)]:=by rw[w.Px,hi]
 refine(FA (lim:=(lim:Int)) (w.w.N _ _ E.dM).2 h2 (by have:=E.len;exact KJ this) ((O6 L))).weak ?_;rintro _ _ _ ⟨rfl,rfl,rfl⟩;have h0:0<=(sc[i]?.getD 0)%(lim:Int):=F8 _ ((P6 L));have h1:(sc[i]?.getD 0)%(lim:Int)<lim:=I3 _ ((Pe L));refine JI (((sc[i]?.getD 0)%(lim:Int)).toNat) (Pw h0 h1) (by rw[wB h0]) Y ?_;have:=w.L7 (i+1:Int);rw[w.fix .b9 Y]at this;exact this
theorem Ti.b9(t:Ti K D aQ)(i:Int):Ti K {D with b9:=i} aQ:=
 ⟨t.inv.congr (λ _ _=>rfl) Y Y Y Y Y,⟨t.aO.kH,t.aO.pl,t.aO.Ed,t.aO.cO,t.aO.dH,t.aO.xj,t.aO.Fv,t.aO.GX,t.aO.bl,t.aO.BI,t.aO.num,t.aO.gD,t.aO.keys,t.aO.size,t.aO.ax,t.aO.tg⟩,t.zero,t.live⟩
theorem JF(I:D.bA.length=3){p:J}(hp:p<3):∃o,D.bA[p]?=U o/\yO (p:Int) ⇑(D.bA.map fM)=U (fM o):=by have:p<D.bA.length:=(FJ hp I);refine cC (D.bA[p]) (wN this) (ga _ _ _ (by simp[this]) (by simp;exact Jk I))
theorem HJ{eP:List J}{pn:J->List J}{es:List J}{i:J}(t:Ti K D aQ)(ht:aQ<10)(a':∀c,c<4->K.nm c=dr c)(w:Wd X D P S H n)(f:pS X K S)(lw:Lw X K S cc dM d6 sc)(ln:Ln X u dM d6)(bf:iP X S eP pn es)(f':∀c,c<4->K.dI c=d9 pn es c)
 {en:V->Option J}(b':∀c,c<4->en (.str (K.nm c))=K.dI c)(lt:u s!"told"=U (.int D.ax.length))(lu:u s!"turn"=U (.int aQ))(hi:D.b9=i)
 (po:∀A I B o H' n',Ti K I (aQ+1)->Wd X I B o H' n'->Ge S o->Ln X A dM d6->A s!"told"=U (.int I.ax.length)->I.b9=((i+3:J):Int)->∀fl:Fl,fl=.next\/fl=.brk->aG (g (fl,⟨A,H',n'⟩)) R):
 aG ((ay G (aq G (d+12)) (cq K cc) CU ⟨u,H,n⟩).bind g) R:=by
 have z:=Told.cons lu (.cons lt ln.kj);have last:∀e P1 x H1 E Cq way p m,Ti K e aQ->Wd X e P1 x H1 E->Ge S x->Told (("turn",.int aQ)::("told",.int e.ax.length)::NQ X dM d6) Cq->Dn Cq e aQ way p m->e.b9=((i+3:J):Int)->
  aG ((ay G (aq G (d+12)) (cq K cc) (uf::pK) ⟨Cq,H1,E⟩).bind g) R:=by
  intro e P1 x H1 E Cq way p m t1 Q g1 j dn hs;have i':=Ln.of j.tl.tl;rw[nv,Ei];refine Sp (d:=d) (g:=λ y=>(Mu.Internal.Q.K (aq G (d+12)) (cq K cc) pK y).bind g) t1 ht a' Q (f.ge g1) (lw.ge g1) i' dn ?_;intro Vd D2 q P2 C H2 k m2 L g2 bt hc o';have l2:=bt.kj j;rw[<-hc]at l2;have k':=Ln.of l2.tl.tl;refine QX (d:=d) m2 L ((f.ge g1).ge g2) ((lw.ge g1).ge g2) k' ((bf.ge g1).ge g2) f' b' ?_;intro D3 P3 S3 H3 n3 a b cls d' t3 w3 g3 g' l' ha hT hb;have gg:=(g1.trans g2).trans g3;refine SA (d:=d) (c0:=D2.ax) t3 w3 (f.ge gg) (lw.ge gg) ((k'.set _).set _) g' ha hT hb ((ae (ne_str aL)).trans (aa ..)) (aa ..) (l2.tl.set.set).hd (l2.set.set).hd (tn:=aQ) ?_;intro p' D4 P4 S4 H4 n4 t4 w4 s q' r' s' fl c';exact po p' D4 P4 S4 H4 n4 t4 w4 (gg.trans s) q' r' (by rw[s',l',o',hs]) fl c'
 refine ql z.lay (sC (AS (d:=d+11) (lim:=10) w lw hi aL) ag ?_);rintro v H1 E ⟨way,h,rfl,rfl,Q⟩;refine sC (AS (d:=d+11) (lim:=3) Q lw Y aL) ag ?_;rintro v H2 k ⟨p,hp,rfl,rfl,L⟩;refine sC (AS (d:=d+11) (lim:=4) L lw Y aL) ag ?_;rintro v H3 n3 ⟨m,hm,rfl,rfl,w3⟩;obtain r|h1|h':=JF t.aO.kH hp;obtain l|h2|m':=JF t.aO.kH (Nat.mod_lt m (by decide:0<3));have j':((m%3:J):Int)=(m:Int)%3:=Yo.symm;rw[j']at m';have e':H3 (X.L .aV)=U ⇑(D.bA.map fM):=w3.aV;refine sJ w3.bO (i9 ..) ag (fB e' h' ag (sJ w3.bO (i9 ..) ag (fB e' m' ag
  (LL (b:=uf::pK) (u:=ah (ah (ah (ah (ah (lay (("turn",.int aQ)::("told",.int D.ax.length)::NQ X dM d6) u) s!"way" (U (.int way))) s!"place" (U (.int p))) s!"more" (U (.int m))) s!"k" (U (fM r))) s!"other" (U (fM l))) Y
   (last _ P S H3 _ _ way p m (t.b9 _) w3 (Ge.refl _) ag ⟨ag,ag,ag,⟨r,h1,ag⟩,⟨l,h2,ag⟩,ag,hp,hm⟩ Y)))))
end
end
section
open Tr
noncomputable def I8:List TS:=[.eL (.loc "turn") (.call (.lit (.con (.type "range"))) [(.lit (.int 10))]) CU,.ret (U (.lit (.bool ai)))]
noncomputable def aeq(K:Kx):V->Option J
 |.str s=>pD K.dI F s
 |_=>F
section
variable{X:Fx}{D:Co}{P:Pt}{S H H':Hp}{n n' d aQ:J}{K:Kx}{cc dM d6:J}{sc:List Int}{u:Lc}
theorem F3{eP:List J}{pn:J->List J}{es:List J}{i:J}(t:Ti K D 0)(r:∀c,c<4->K.nm c=dr c)(w:Wd X D P S H n)(f:pS X K S)(l:Lw X K S cc dM d6 sc)(k:Ln X u dM d6)(bf:iP X S eP pn es)(b':∀c,c<4->K.dI c=d9 pn es c)
 (lt:u s!"told"=U (.int D.ax.length))(hi:D.b9=i):
 aG (ay G (aq G (d+12)) (cq K cc) I8 ⟨u,H,n⟩) (λ fl _ _ _=>fl=.ret (.bool ai)):=by
 have C:∀c,c<4->aeq K (.str (K.nm c))=K.dI c:=λ c hc=>by show pD K.dI F (K.nm c)=_;rw[r c hc];exact jb _ _ hc
 have tr:=λ L p z H1 e Cq tn i1 g R b ht q f1 e' f' h' j' k' m' po=>HJ (X:=X) (cc:=cc) (dM:=dM) (d6:=d6) (sc:=sc) (d:=d) (g:=g) (R:=R) (D:=L) (P:=p) (S:=z) (H:=H1) (n:=e) (u:=Cq) (aQ:=tn) (i:=i1) (eP:=eP) (pn:=pn) (es:=es) b ht r q f1 e' f' h' b' C j' k' m' po
 have h:=w.bg (H':=ah H n (U (.range (10:Int).toNat))) (n':=n+1) ((bK.refl _ _).ah (aS _)) (b7 _);rw[(Told.cons lt k.kj).lay,<-iM];refine Tk (cf:=aq G (d+12)) (i:=10) aL ag (sFr (cf:=aq G (d+12)) (cs:=cq K cc) (x:=s!"turn") (a:=CU) (λ j A H' n'=>∃I B y i',Ti K I j/\Wd X I B y H' n'/\Ge S y/\Told (("told",.int I.ax.length)::NQ X dM d6) A/\I.b9=((i':J):Int)) (aa ..) aL
  (WX D P S i t h (Ge.refl _) ag hi) ag ?_ λ _ _ _ _=>ZK (fl:=.ret (.bool ai)) ag Y)
 rintro j E A H' n' ⟨I,B,y,i',t',s,g',Q,c'⟩;have l2:=Q.set (x:=s!"turn") (v:=U (.int j));rw[iM,<-qv (ay ..)];refine tr I B y H' n' _ j i' _ _ t' E s (f.ge g') (l.ge g') (.of l2.tl) (bf.ge g') l2.hd (aa ..) c' ?_;intro p' D3 P3 S3 H3 m t3 o g3 o' lt3 d' fl a';rcases a' with rfl|rfl
 .exact aG.goN (WX D3 P3 S3 _ t3 o (g'.trans g3) (.cons lt3 o'.kj) d')
 .exact aG.goB (ZK (fl:=.ret (.bool ai)) ag Y)
end
end
section
namespace Tr
variable{α β:Type}{t:Tr Fl}{H H':Hp}{n n':J}{R:Fl->Lc->Hp->J->Prop}
end Tr
open Tr
section
variable{H:Hp}{n d:J}
theorem Hr{es:List (aJ×V)}{v:V}(C:∀e∈es,e.1.isStr=ai)(h:atK es (.str x)=F)(L:es.length<=1000):ia x v (.dict es)=U (.dict (es++[(.str x,v)])):=by simp only[ia,putD,gG C,L,and_self,if_true,gQ h]
theorem Eu{v:V}(C:∀e∈es,e.1.isStr=ai):∀e∈es++[(aJ.str x,v)],e.1.isStr=ai:=by
 intro e P;rcases eE.mp P with h|h
 .exact C e h
 .simp at h;rw[h];rfl
theorem sSs{t:Tr Fl}{R:Fl->Lc->Hp->J->be}{gl:J}{es:List (aJ×V)}{x:af}{v:V}(h:H gl=U (.dict es))(C:∀e∈es,e.1.isStr=ai)(ha:atK es (.str x)=F)(L:es.length<=1000)(e:t.Ng=U (jc ↥gl (.str x) v))(k:aG (t.pV.aE (ah H gl (U (.dict (es++[(.str x,v)])))) n) R):aG (t.aE H n) R:=
 Td (λ u=>by simp only[Kc,h,bH,Hr C ha L]) e k
theorem yS{N gl hp z:J}{gen last:Int}{lim:V}{es:List (aJ×V)}{x:af}(h1:H N=U (dD hp gl gen))(h2:H gl=U (.dict es))(I:H hp=U (aX lim last z))
 (C:∀e∈es,e.1.isStr=ai)(ha:atK es (.str x)=F)(L:es.length<=1000)(s:N<n)(i:gl<n)(t:hp<n)(Q:gl≠hp)(w:N≠hp)(f:N≠gl):
 ba (d+4) #[555] [↥N,.str x] H n (Is ↥n (ah (ah (ah (ah H hp (U (aX lim (last+1) z))) n (U (TO (last+1) 0 .none (n+1) aj aj (.jL x .none .none)))) (n+1) (U ⇑[])) gl (U (.dict (es++[(.str x,↥n)])))) (n+2)):=by
 have c:N≠n:=(bX s);have k:N≠n+1:=(fS s);have a:gl≠n:=(bX i);have h:gl≠n+1:=(fS i);have g1:ah (ah (ah H hp (U (aX lim (last+1) z))) n (U (TO (last+1) 0 .none (n+1) aj aj (.jL x .none .none)))) (n+1) (U ⇑[]) N=_:=(ae k).trans ((ae c).trans ((ae w).trans h1));have g2:ah (ah (ah H hp (U (aX lim (last+1) z))) n (U (TO (last+1) 0 .none (n+1) aj aj (.jL x .none .none)))) (n+1) (U ⇑[]) gl=_:=(ae h).trans ((ae a).trans ((ae Q).trans h2));exact aE Ru (aP (cH h1 (dB ..) ag (Dz (b:=aj) h2 C (by rw[ha];rfl) ag (cH h1 (yl ..) ag (ei I (yF ..) ag (sD (Kn (d:=d) (x:=x) I) ag (cH g1 (dB ..) ag (sSs g2 C ha L ag (cH ((ae f).trans g1) (dB ..) ag (sGs (aa ..) (Eu C) (kN ha) ag (sQ (.ret ↥n) ag Y ⟨Y,Y,Y⟩)))))))))))
theorem GJ{N gl hp g:J}{gen:Int}{es:List (aJ×V)}{x:af}(h1:H N=U (dD hp gl gen))(h2:H gl=U (.dict es))(C:∀e∈es,e.1.isStr=ai)(ha:atK es (.str x)=U ↥g):
 ba (d+1) #[555] [↥N,.str x] H n (Is ↥g H n):=
 aE Ru (aP (cH h1 (dB ..) ag (Dz (b:=ai) h2 C (by rw[ha];rfl) ag (cH h1 (dB ..) ag (sGs h2 C ha ag (sQ (.ret ↥g) ag Y ⟨Y,Y,Y⟩))))))
theorem B2{N gl hp z cn pl c:J}{dl:J}{gen last:Int}{lim:V}{es:List (aJ×V)}{x:af}{num aC:Int}{bl:V}{wk:J}{ds fr:bG}{r:Rest}(h1:H N=U (dD hp gl gen))(h2:H gl=U (.dict es))(I:H hp=U (aX lim last z))
 (D:H cn=U (bq hp dl pl))(p:H c=U (TO num aC bl wk ds fr r))
 (C:∀e∈es,e.1.isStr=ai)(ha:atK es (.str x)=F)(L:es.length<=1000)(s:N<n)(i:gl<n)(t:hp<n)(b:cn<n)(E:c<n)(Q:gl≠hp)(w:N≠hp)(f:N≠gl)(B:cn≠hp)(m:cn≠gl)(A:c≠hp)(X:c≠gl)(v:c≠N):
 ba (d+5) #[611] [↥N,↥cn,.str x,↥c] H n (Is .none (ah (ah (ah (ah (ah (ah H hp (U (aX lim (last+1) z))) (n+1) (U ⇑[])) gl (U (.dict (es++[(.str x,↥n)])))) n (U (TO (last+1) 0 .none (n+1) aj aj (.jL x .none ↥c)))) c (U (TO num (aC+1) bl wk ds fr r))) N (U (dD hp gl (gen+1)))) (n+2)):=by
 have P:N≠n:=(bX s);have k:N≠n+1:=(fS s);have a:cn≠n:=(bX b);have h:cn≠n+1:=(fS b);have a5:c≠n:=(bX E);have a6:c≠n+1:=(fS E);have a7:n≠gl:=(CZ i);have gN:ah (ah (ah (ah H hp (U (aX lim (last+1) z))) n (U (TO (last+1) 0 .none (n+1) aj aj (.jL x .none .none)))) (n+1) (U ⇑[])) gl (U (.dict (es++[(.str x,↥n)]))) n=_:=(ae a7).trans ((ae kE).trans (aa ..));refine aE aas (aP (ei h1 (ml ..) ag (sD (yS (d:=d) (x:=x) h1 h2 I C ha L s i t Q w f) ag (cH gN (Kz ..) ag (my gN (Nd (y:=↥c) ..) ag ?_)))));rw[MF];have g:∀l o,l≠n->l≠gl->l≠n+1->l≠hp->H l=o->ah (ah (ah (ah H hp (U (aX lim (last+1) z))) (n+1) (U ⇑[])) gl (U (.dict (es++[(.str x,↥n)])))) n (U (TO (last+1) 0 .none (n+1) aj aj (.jL x .none ↥c))) l=o:=λ l o b1 b2 S b4 b5=>(ae b1).trans ((ae b2).trans ((ae S).trans ((ae b4).trans b5)))
 have sw:=λ(H0:Hp)(q:H0 cn=U (bq hp dl pl))(j:H0 c=U (TO num aC bl wk ds fr r))=>(show ba (d+4) #[604] [↥cn,↥c,.none] H0 (n+2) (Is .none (ah H0 c (U (TO num (aC+1) bl wk ds fr r))) (n+2))from
  aE T9 (aP (ei q (Cj ..) ag (sD (JY (d:=d+2) (c:=cn) j) ag (sQ .next ag Y ⟨Y,Y,Y⟩)))))
 have jg:=(cx (ah (ah (ah (ah H hp (U (aX lim (last+1) z))) (n+1) (U ⇑[])) gl (U (.dict (es++[(.str x,↥n)])))) n (U (TO (last+1) 0 .none (n+1) aj aj (.jL x .none ↥c)))) (U (TO num (aC+1) bl wk ds fr r)) v.symm).trans (g N _ P f k w h1);exact sD (sw _ (g cn _ a m h B D) (g c _ a5 X a6 A p)) ag (cH jg (we ..) ag (my jg (NV ..) ag (sQ .next ag Y ⟨Y,Y,Y⟩)))
theorem DW{N gl hp z:J}{gen last:Int}{lim:V}{es:List (aJ×V)}{x:af}(h1:H N=U (dD hp gl gen))(h2:H gl=U (.dict es))(I:H hp=U (aX lim last z))
 (C:∀e∈es,e.1.isStr=ai)(ha:atK es (.str x)=F)(L:es.length<=1000)(s:N<n)(i:gl<n)(t:hp<n)(Q:gl≠hp)(w:N≠hp)(f:N≠gl):
 ba (d+5) #[569] [↥N,.str x] H n λ v H' n'=>v=.ref (n+2)/\n'=n+5/\H' hp=U (aX lim (last+1+1) z)/\H' gl=U (.dict (es++[(.str x,↥n)]))/\H' n=U (TO (last+1) 0 .none (n+1) aj aj (.jL x ↥(n+2) .none))/\
  H' (n+2)=U (TO (last+1+1) 1 .none (n+3) aj aj (.arr (n+4)))/\H' (n+4)=U ⇑[]/\(∀l,l<n->l≠hp->l≠gl->H' l=H l):=by
 have b1:n≠n+2:=xA;have S:n≠n+4:=VE;have c:n+2≠n+4:=WI;have lo:∀l,l<n->∀j,l≠n+j:=λ l h j=>bP (cv h (gn n j))
 refine aE Ry (aP (ei h1 (ml ..) ag (sD (yS (d:=d) (x:=x) h1 h2 I C ha L s i t Q w f) ag ?_)));obtain⟨b,o⟩:∃b,b=ah (ah (ah (ah H hp (U (aX lim (last+1) z))) n (U (TO (last+1) 0 .none (n+1) aj aj (.jL x .none .none)))) (n+1) (U (.list []))) gl (U (.dict (es++[(.str x,.ref n)]))):=⟨_,Y⟩;refine L6 o.symm ?_;have q:∀l,l<n->l≠hp->l≠gl->b l=H l:=λ l h1 h2 I=>by rw[o,ae I,ae (lo l h1 1),ae (bP h1),ae h2]
 have A:b n=U (TO (last+1) 0 .none (n+1) aj aj (.jL x .none .none)):=by rw[o,ae (CZ i),ae kE,aa]
 have B:b hp=U (aX lim (last+1) z):=by rw[o,ae Q.symm,ae (lo hp t 1),ae (bP t),aa]
 have k:b gl=U (.dict (es++[(.str x,↥n)])):=by rw[o,aa]
 clear o;refine cH A (HY ..) ag (cH ((q N s w f).trans h1) (yl ..) ag (ei B (np ..) ag (sD (y6 (d:=d+1) B) ag ?_)));obtain⟨p,r⟩:∃p,p=ah (ah (ah (ah b hp (U (aX lim (last+1+1) z))) (n+2) (U (TO (last+1+1) 0 .none (n+3) aj aj (.arr (n+4))))) (n+3) (U (.list []))) (n+4) (U (.list [])):=⟨_,Y⟩;refine L6 r.symm ?_;have g:∀l,l≠hp->l≠n+2->l≠n+3->l≠n+4->p l=b l:=λ l h1 h2 I D=>by rw[r,ae D,ae I,ae h2,ae h1]
 have E:p hp=U (aX lim (last+1+1) z):=by rw[r,ae (lo hp t 4),ae (lo hp t 3),ae (lo hp t 2),aa]
 have m2:p (n+2)=U (TO (last+1+1) 0 .none (n+3) aj aj (.arr (n+4))):=by rw[r,ae c,ae kE,aa]
 have m:p (n+4)=U ⇑[]:=by rw[r,aa]
 clear r;have X:=(cx (a:=n) p (U (TO (last+1) 0 .none (n+1) aj aj (.jL x ↥(n+2) .none))) b1.symm).trans m2;refine my ((g n (CZ t) b1 Y2 S).trans A) (NM (y:=↥(n+2)) ..) ag (cH (aa ..) (mZ ..) ag (cH X (hY ..) ag (my X (l7 (x:=0+1) ..) ag (cH ((ae b1).trans (aa ..)) (mZ ..) ag
  (sQ (.ret ↥(n+2)) ag Y ⟨Y,Y,?_,?_,(ae b1).trans (aa ..),aa ..,(ae c.symm).trans ((ae S.symm).trans m),λ l L h1 h2=>?_⟩)))))
 .exact(ae (lo hp t 2)).trans ((ae (lo hp t 0)).trans E)
 .exact(ae (lo gl i 2)).trans ((ae (lo gl i 0)).trans ((g gl Q (lo gl i 2) (lo gl i 3) (lo gl i 4)).trans k))
 .exact(ae (lo l L 2)).trans ((ae (lo l L 0)).trans ((g l h1 (lo l L 2) (lo l L 3) (lo l L 4)).trans (q l L h1 h2)))
theorem Em{N gl hp g z:J}{gen:Int}{es:List (aJ×V)}{x:af}{num aC:Int}{bl:V}{wk:J}{ds fr:bG}{nm:af}{c:V}(h1:H N=U (dD hp gl gen))(h2:H gl=U (.dict es))(C:∀e∈es,e.1.isStr=ai)(ha:atK es (.str x)=U ↥g)
 (I:H g=U (TO num aC bl wk ds fr (.jL nm ↥z c))):
 ba (d+2) #[569] [↥N,.str x] H n (Is ↥z H n):=
 aE Ry (aP (ei h1 (ml ..) ag (sD (GJ (d:=d) h1 h2 C ha) ag (cH I (mZ ..) ag (cH I (mZ ..) ag (sQ (.ret ↥z) ag Y ⟨Y,Y,Y⟩))))))
end
end
noncomputable def dn(j:J):af:=dr j++s!"::DESTROY"
noncomputable def tc(j:J):af:=dr j++s!"::ISA"
theorem zC:∀i,i<4->∀j,j<4->dn i=dn j->i=j:=by decide+kernel
theorem vh:∀i,i<4->∀j,j<4->tc i=tc j->i=j:=by decide+kernel
theorem oQ:∀i,i<4->∀j,j<4->dn i≠tc j:=by decide+kernel
theorem nH:∀i,i<4->dr i++s!"::"++s!"DESTROY"=dn i:=by decide+kernel
theorem Ss:∀i,i<4->s!"UNIVERSAL"++s!"::ISA"≠dn i/\s!"UNIVERSAL"++s!"::ISA"≠tc i:=by decide+kernel
theorem U4:∀i,i<4->s!"UNIVERSAL"++s!"::"++s!"DESTROY"≠dn i/\s!"UNIVERSAL"++s!"::"++s!"DESTROY"≠tc i:=by decide+kernel
theorem A4:∀i,i<4->(dr i).length+pw s!"::DESTROY"<=1000/\(dr i).length+pw s!"::ISA"<=1000/\(dr i).length<=100:=by decide+kernel
theorem lR(h:∀e∈es,e.1≠k):atK es k=F:=by
 cases ha:atK es k with
 |none=>rfl
 |some v=>exact absurd Y (h _ (jy ha))
theorem nh{v:V}(h:k≠g):atK (es++[(g,v)]) k=atK es k:=by
 unfold atK;rw[Gj];cases P:es.find? (λ e=>decide (e.1=k))with
 |some e=>rfl
 |none=>
  have:¬g=k:=λ e=>h e.symm
  simp[this]
theorem Ge.up(g:Ge S y)(hm:m<=m'):Up m S m' y:=λ _ _ L e=>⟨cv L hm,g _ _ e⟩
theorem fA.ge(g:Ge S y)(hm:m<=m')(h:fA S m vs b):fA y m' vs b:=h.up (g.up hm)
theorem sY.ext(h:sY S m es B ps)(g:Ge S y)(hm:m<=m')(P:atK es' (.str (B++s!"::ISA"))=atK es (.str (B++s!"::ISA"))):sY y m' es' B ps:=h.up (g.up hm) P
theorem pe.ext{c:Option J}(h:pe S m es B c)(g:Ge S y)(hm:m<=m')(P:atK es' (.str (B++s!"::"++s!"DESTROY"))=atK es (.str (B++s!"::"++s!"DESTROY"))):pe y m' es' B c:=h.up (g.up hm) P
noncomputable def wC(cr co cn cc:J):Pl:=⟨s!"_law_destroy",[s!"thing"],x8,SY,[("run",cr),("owners",co),("numbers",cn),("calls",cc)]⟩
noncomputable def V9(sc:List Int):List (J×O):=[(1,.cell (U ↥15)),(2,.cell (U ↥11)),(3,.cell (U ↥13)),(4,.cell (U ↥12)),(5,.cell (U ↥19)),(6,⇑(sc.map .int)),(10,⇑[]),(11,⇑[]),(13,.dict []),(14,.iS (wC 5 4 3 2)),(15,bq 9 14 16),(16,.dict []),(19,NN 9 15 17 ↥8 20 ↥31),(31,gf (-1) 32),(32,.dict []),(37,⇑[↥33,↥34,↥35,↥36])]
noncomputable def wf(sc:List Int)(l:J):Option O:=(V9 sc).lookup l
def AllP(P:J->O->be):List (J×O)->be
 |[]=>True
 |(a,b)::r=>P a b/\AllP P r
theorem Ha{L:List (J×O)}(h:AllP P L)(e:L.lookup l=U o):P l o:=by
 induction L with
 |nil=>exact Fq e
 |cons p r X=>
  rw[fG]at e;by_cases q:l=p.1
  .subst q;rw[beq_self_eq_true]at e;cases e;exact h.1
  .rw[beq_false_of_ne q]at e;exact X h.2 e
theorem N0{sc:List Int}{H:J->Option O}{l:J}{o:O}(h:AllP (λ l o=>H l=U o) (V9 sc))(e:wf sc l=U o):H l=U o:=Ha (P:=λ l o=>H l=U o) h e
structure Sd where
 i:J
 last:Int
 gen:Int
 es:List (aJ×V)
 ow:List (aJ×V)
 pn:J->List J
 ends:List J
 cd:J->Option J
structure Su(sc:List Int)(d:Sd)(S H:Hp)(n kc kp:J)(cur:Bool):Prop where
 cN:39<=n
 Ox:kc<=4
 kp4:kp+cur.toNat<=4
 Nx:sc.length<=60
 low:∀l o,wf sc l=U o->H l=U o
 h7:H 7=U (.list [.int d.i])
 h9:H 9=U (aX (.ref 8) d.last 10)
 N7:H 12=U (.dict d.ow)
 zN:H 17=U (dD 9 18 d.gen)
 zh:H 18=U (.dict d.es)
 hp:∀j,j<4->H (33+j)=U (.list (aY (d.pn j)))
 Kd:H 38=U (.list (aY d.ends))
 N:∀l o,S l=U o->39<=l/\l<n/\H l=U o
 keys:∀e∈d.es,(∃j,j<kc/\e.1=.str (dn j))\/(∃j,j<kp+cur.toNat/\e.1=.str (tc j))
 PF:d.es.length<=kc+kp+cur.toNat
 par:∀j,j<kp->sY S n d.es (dr j) ((d.pn j).map dr)
 nP:∀j,j<kc->pe S n d.es (dr j) (d.cd j)
 MU:∀j a,d.cd j=U a->j<kc/\∃num aC bl wk ds fr s cp,S a=U (TO num aC bl wk ds fr (.nP s cp))/\atK d.ow (.int num)=U (.int j)
 iff:∀j,(d.cd j).isSome=ai↔j∈d.ends
 Gd:∀e∈d.ow,∃num,e.1=.int num/\num<=d.last
 Qc:d.ow.length<=kc
 PY:d.ends.length<=kc
 JJ:∀j,∀p∈d.pn j,p<j
 Lm:∀j,(d.pn j).length<=2
 pz:∀j,kp+cur.toNat<=j->d.pn j=[]
theorem Su.strs{sc:List Int}{d:Sd}{S H:Hp}{n k a:J}{c:bG}(s:Su sc d S H n k a c):∀e∈d.es,e.1.isStr=ai:=by intro e P;rcases s.keys e P with⟨j,_,h⟩|⟨j,_,h⟩<;>rw[h]<;>rfl
theorem Su.ints{sc:List Int}{d:Sd}(s:Su sc d S H n k a c):∀e∈d.ow,e.1.isInt=ai:=by intro e P;obtain num|h|_:=s.Gd e P;rw[h];rfl
structure Lq(u:Lc):Prop where
 xe:u s!"script"=U (.ref 6)
 b9:u s!"spot"=U (.ref 7)
 heap:u s!"heap"=U (.ref 9)
 parents:u s!"parents"=U (.ref 37)
 ends:u s!"ends"=U (.ref 38)
 kj:u s!"told"=U (.int 0)
noncomputable def QN:List (af×V):=[("script",↥6),("spot",↥7),("heap",↥9),("parents",↥37),("ends",↥38),("told",.int 0)]
theorem Lq.got(h:Lq u):Tr.Told QN u:=.cons h.xe (.cons h.b9 (.cons h.heap (.cons h.parents (.cons h.ends (.cons h.kj .nil)))))
theorem Lq.of(h:Tr.Told QN u):Lq u:=by
 injection h with h1 h;injection h with h2 h;injection h with I h;injection h with D h;injection h with p h;injection h with q h
 exact⟨h1,h2,I,D,p,q⟩
noncomputable def cK:List (af×J):=[("run",5),("owners",4),("numbers",3),("calls",2),("counter",1)]
section
variable{sc:List Int}{dd:Sd}{S H:Hp}{n kc kp d:J}{cur:Bool}
theorem u6(s:Su sc dd S H n kc kp cur){lim:J}(L:0<lim/\lim<1000):
 ba (d+1) #[625] [↥6,↥7,.int lim] H n λ v H' n'=>∃r:J,r<lim/\v=.int r/\n'=n/\Su sc {dd with i:=dd.i+1} S H' n kc kp cur/\(∀l:J,l≠7->H' l=H l):=by
 refine(FA (sc:=sc) (i:=dd.i) (lim:=(lim:Int)) (s.low 6 _ Y) s.h7 (by have:=s.Nx;exact KJ this) ((O6 L))).weak ?_;rintro _ _ _ ⟨rfl,rfl,rfl⟩;have h0:0<=(sc[dd.i]?.getD 0)%(lim:Int):=F8 _ ((P6 L));have h1:(sc[dd.i]?.getD 0)%(lim:Int)<lim:=I3 _ ((Pe L));have e:∀l:J,l≠7->ah H 7 (U ⇑[.int (dd.i+1)]) l=H l:=λ l L=>ae L
 refine YH (((sc[dd.i]?.getD 0)%(lim:Int)).toNat) (Pw h0 h1) (by rw[wB h0]) Y ?_ e;refine⟨s.cN,s.Ox,s.kp4,s.Nx,λ l o h=>?_,?_,?_,?_,?_,?_,λ j E=>?_,?_,λ l o h=>?_,s.keys,s.PF,s.par,s.nP,s.MU,s.iff,s.Gd,s.Qc,s.PY,s.JJ,s.Lm,s.pz⟩
 .rw[e];exact s.low l o h;rintro rfl;cases h
 .rw[aa];rfl
 .rw[e _ aL];exact s.h9
 .rw[e _ aL];exact s.N7
 .rw[e _ aL];exact s.zN
 .rw[e _ aL];exact s.zh
 .rw[e _ TE];exact s.hp j E
 .rw[e _ aL];exact s.Kd
 .have:=s.N l o h;rw[e _ ((aeR this))];exact this
end
section
open Tr
noncomputable def Gw:List TS:=(sS m8 5).G9
noncomputable def codeB:List TS:=(sS Gw 0).ux
noncomputable def OU:List TS:=[.asg (.loc "code") (.aK (.loc "heap") "new_code" [(.lit .none),⇑[]]),
 .expr (.call (.lit #[611]) [(.attr (.cW "run") "stash"),(.cW "counter"),(.bin .add (.sub (.call (.lit #[618]) []) (.loc "k")) (.lit (.str "::DESTROY"))),(.loc "code")]),
 .fW (.cW "owners") (.attr (.loc "code") "number") (.loc "k"),
 .expr (.aK (.loc "ends") "append" [(.loc "k")])]
section
variable{sc:List Int}{dd:Sd}{S H:Hp}{n kc kp d:J}{cur:Bool}{g:Fl×St->Option (Fl×St)}{R:Fl->Lc->Hp->J->Prop}{u:Lc}
noncomputable def Sd.code(dd:Sd)(k n:J):Sd:={dd with last:=dd.last+2,gen:=dd.gen+1,es:=dd.es++[(.str (dn k),↥(n+4))],ow:=dd.ow++[(.int (dd.last+1),.int k)],ends:=dd.ends++[k],cd:=ah dd.cd k (U (n+1))}
theorem IH(s:Su sc dd S H n k k aj)(C:k<4)(lq:Lq u)(lk:u s!"k"=U (.int k))
 (po:∀y H' n' X,Su sc X y H' n' (k+1) k aj->aG (g (.next,⟨ah u s!"code" (U ↥(n+1)),H',n'⟩)) R):
 aG ((ay G (aq G (d+12)) cK OU ⟨u,H,n⟩).bind g) R:=by
 have cN:=s.cN;have c1:=s.low 1 _ Y;have c5:=s.low 5 _ Y;have c4:=s.low 4 _ Y;have k':=s.low 19 _ Y;have i':=s.low 15 _ Y;have A:=(Told.cons lq.heap (.cons lk (.cons lq.ends .nil))).lay;have r':ah H n (U ⇑[]) 9=U (aX ↥8 dd.last 10):=by rw[ae (Pb cN)];exact s.h9
 refine ql A (ei s.h9 (xN ..) ag (sN [] (cG _) ag (sD (JQ (d:=d+9) (s:=.none) (c:=↥n) r') ag ?_)));have e0:∀l:J,l<39->l≠9->ah (ah (ah (ah H n (U ⇑[])) 9 (U (aX ↥8 (dd.last+1) 10))) (n+1) (U (TO (dd.last+1) 0 .none (n+1+1) aj aj (.nP .none ↥n)))) (n+1+1) (U ⇑[]) l=H l:=by intro l L h9;rw[ae (aav cN L),ae (Oz cN L),ae h9,ae (I7 cN L)]
 have e9:ah (ah (ah (ah H n (U ⇑[])) 9 (U (aX ↥8 (dd.last+1) 10))) (n+1) (U (TO (dd.last+1) 0 .none (n+1+1) aj aj (.nP .none ↥n)))) (n+1+1) (U ⇑[]) 9=U (aX ↥8 (dd.last+1) 10):=by rw[ae (W9 cN),ae (La cN),aa]
 have eC:ah (ah (ah (ah H n (U ⇑[])) 9 (U (aX ↥8 (dd.last+1) 10))) (n+1) (U (TO (dd.last+1) 0 .none (n+1+1) aj aj (.nP .none ↥n)))) (n+1+1) (U ⇑[]) (n+1)=U (TO (dd.last+1) 0 .none (n+1+1) aj aj (.nP .none ↥n)):=by rw[ae JN,aa]
 have eS:∀l o,S l=U o->ah (ah (ah (ah H n (U ⇑[])) 9 (U (aX ↥8 (dd.last+1) 10))) (n+1) (U (TO (dd.last+1) 0 .none (n+1+1) aj aj (.nP .none ↥n)))) (n+1+1) (U ⇑[]) l=U o:=by intro l o L;obtain a|b|c:=s.N l o L;rw[ae (C4 b),ae (fS b),ae (C1 a),ae (bX b)];exact c
 generalize ah (ah (ah (ah H n (U ⇑[])) 9 (U (aX ↥8 (dd.last+1) 10))) (n+1) (U (TO (dd.last+1) 0 .none (n+1+1) aj aj (.nP .none ↥n)))) (n+1+1) (U ⇑[])=H1 at e0 e9 eC eS;refine sL (cs:=cK) (x:=s!"run") ((e0 5 aL aL).trans c5) ag ag (cH ((e0 19 aL aL).trans k') (jz ..) ag (sL (cs:=cK) (x:=s!"counter") ((e0 1 aL aL).trans c1) ag ag
  (sD (jk (d:=d+11)) ag (fB (aa ..) (rr C) ag (IA (A4 k C).1 ag ?_)))))
 have w:∀l:J,l<n+1+2->ah H1 (n+1+2) (U ⇑[.str s!"A",.str s!"B",.str s!"C",.str s!"D"]) l=H1 l:=λ l L=>ae (bP L)
 have g':atK dd.es (.str (dn k))=F:=by
  refine lR λ e P h=>?_
  rcases s.keys e P with⟨j,E,h2⟩|⟨j,E,h2⟩
  .rw[h2]at h;have:=zC j ((fE C E)) k C (aJ.str.inj h);exact il E this
  .rw[h2]at h;simp at E;exact oQ k C j ((fE C E)) (aJ.str.inj h).symm
 have es:=s.PF;have zN:=s.zN;have zh:=s.zh;generalize hC:ah H1 (n+1+2) (U ⇑[.str s!"A",.str s!"B",.str s!"C",.str s!"D"])=H2 at w;have lo:∀l,l<39->l<n+4:=λ l h=>cv h (bx cN (gn n 4))
 have d':∀l,l<39->n+1≠l:=λ l h=>ju (cv h (z4 cN))
 refine sD (B2 (d:=d+7) (N:=17) (gl:=18) (hp:=9) (z:=10) (cn:=15) (pl:=16) (dl:=14) (c:=n+1) (gen:=dd.gen) (last:=dd.last+1) (lim:=↥8) (es:=dd.es) (x:=dn k) (n:=n+1+2+1) (num:=dd.last+1) (aC:=0) (bl:=.none) (wk:=n+1+1) (ds:=aj) (fr:=aj) (r:=.nP .none ↥n) ?_ ?_ ?_ ?_ ?_ s.strs g' (by simp at es;exact Xy C es) (lo 17 aL) (lo 18 aL) (lo 9 aL) (lo 15 aL) (kb (by decide:1<4) n) aL aL aL aL aL (d' 9 aL) (d' 18 aL) (d' 17 aL)) ag ?_
 .rw[w _ ((YK cN)),e0 _ aL aL];exact zN
 .rw[w _ ((U2 cN)),e0 _ aL aL];exact zh
 .rw[w _ ((WN cN))];exact e9
 .rw[w _ ((TU cN)),e0 _ aL aL];exact i'
 .rw[w _ Gv];exact eC
 have B':=s.N7;have Kd:=s.Kd;have b':fm (dd.last+1) (.int k) (.dict dd.ow)=U (.dict (dd.ow++[(.int (dd.last+1),.int k)])):=by
  have h1:atK dd.ow (.int (dd.last+1))=F:=by
   refine lR λ e P h=>?_
   obtain num|h2|I:=s.Gd e P;rw[h2]at h;have:=aJ.int.inj h;exact ON this I
  have h2:dd.ow.length<=1000:=by have:=s.Qc;exact Pz C this
  simp only[jv,qK,dx s.ints,h2,and_self,if_true,gQ h1]
 have o':(aY dd.ends).length<=1000:=by rw[bE];have:=s.PY;exact Pz C this
 have s':∀l o,S l=U o->H2 l=U o:=λ l o L=>by rw[w _ (by have:=s.N l o L;exact abw this)];exact eS l o L
 have t':∀l:J,l<39->l≠9->H2 l=H l:=λ l h1 h2=>by rw[w _ ((aaB cN h1))];exact e0 l h1 h2
 obtain⟨HS,e'⟩:∃HS,HS=(ah (ah (ah (ah (ah (ah H2 9 (U (aX (.ref 8) (dd.last+1+1) 10))) (n+5) (U (.list []))) 18 (U (.dict (dd.es++[(.str (dn k),.ref (n+4))])))) (n+4) (U (TO (dd.last+1+1) 0 .none (n+5) aj aj (.jL (dn k) .none (.ref (n+1)))))) (n+1) (U (TO (dd.last+1) (0+1) .none (n+2) aj aj (.nP .none (.ref n))))) 17 (U (dD 9 18 (dd.gen+1)))):=⟨_,Y⟩;refine L6 e'.symm ?_;have v0:∀l:J,l≠17->l≠n+1->l≠n+4->l≠18->l≠n+5->l≠9->HS l=H2 l:=by intro l I D p h6 h7 h8;rw[e',ae I,ae D,ae p,ae h6,ae h7,ae h8]
 have vl:∀l:J,l<39->l≠17->l≠18->l≠9->HS l=H l:=by intro l h0 I D p;rw[v0 l I ((Oz cN h0)) ((Yz cN h0)) D ((aax cN h0)) p];exact t' l h0 p
 have v':HS 17=U (dD 9 18 (dd.gen+1)):=by rw[e',aa]
 have w':HS 18=U (.dict (dd.es++[(.str (dn k),↥(n+4))])):=by rw[e',ae aL,ae (V4 cN),ae (YN cN),aa]
 have w9:HS 9=U (aX ↥8 (dd.last+2) 10):=by rw[e',ae aL,ae (La cN),ae (Xh cN),ae aL,ae (WF cN),aa,lY];rfl
 have q:HS (n+1)=U (TO (dd.last+1) 1 .none (n+2) aj aj (.nP .none ↥n)):=by rw[e',ae (UD cN),aa];rfl
 have w4:HS (n+4)=U (TO (dd.last+2) 0 .none (n+5) aj aj (.jL (dn k) .none ↥(n+1))):=by rw[e',ae (ZZ cN),ae Vb,aa,lY];rfl
 clear e';refine sL (cs:=cK) (x:=s!"owners") ((vl 4 aL aL aL aL).trans c4) ag ag (cH q (gZ ..) ag (Ce ((vl 12 aL aL aL aL).trans s.N7) b' ag
  (ei ((ae aL).trans ((vl 38 aL aL aL aL).trans s.Kd)) (cS ..) ag (nw (v:=.int k) ((ae aL).trans ((vl 38 aL aL aL aL).trans s.Kd)) o' ag (sG (congrArg (λ l:Lc=>ah l s!"code" (U (V.ref (n+1)))) A) ?_)))))
 obtain⟨HF,c'⟩:∃HF,HF=ah (ah HS 12 (U (.dict (dd.ow++[(.int (dd.last+1),.int k)])))) 38 (U (.list (aY dd.ends++[.int k]))):=⟨_,Y⟩;rw[<-c'];have f:∀l:J,l≠38->l≠12->HF l=HS l:=λ l h1 h2=>by rw[c',ae h1,ae h2]
 have u0:=λ(l:J) h1 h2 I D p h6 h7 h8=>(f l h1 h2).trans (v0 l I D p h6 h7 h8)
 have ul:=λ(l:J) h0 h1 h2 I D p=>(f l h1 h2).trans (vl l h0 I D p)
 have x':HF 38=U ⇑(aY (dd.ends++[k])):=by rw[c',aa,kK];rfl
 have y':HF 12=U (.dict (dd.ow++[(.int (dd.last+1),.int k)])):=by rw[c',ae aL,aa]
 have z':=(f 17 aL aL).trans v';have A':=(f 18 aL aL).trans w';have u9:=(f 9 aL aL).trans w9;have u1:=(f (n+1) (XS cN) (ZM cN)).trans q;have u4:=(f (n+4) (Z4 cN) (aaC cN)).trans w4;clear c';obtain⟨S2,t⟩:∃S2,S2=ah (ah S (n+1) (U (TO (dd.last+1) 1 .none (n+2) aj aj (.nP .none (.ref n))))) (n+4) (U (TO (dd.last+2) 0 .none (n+5) aj aj (.jL (dn k) .none (.ref (n+1))))):=⟨_,Y⟩;have gS:Ge S S2:=by intro l o L;have:=s.N l o L;rw[t,ae (Xj this),ae (Z1 this)];exact L
 have p':S2 (n+4)=U (TO (dd.last+2) 0 .none (n+5) aj aj (.jL (dn k) .none ↥(n+1))):=by rw[t,aa]
 have h':S2 (n+1)=U (TO (dd.last+1) 1 .none (n+2) aj aj (.nP .none ↥n)):=by rw[t,ae Pn,aa]
 have K3:∀l o,S2 l=U o->S l=U o\/l=n+1\/l=n+4:=by
  intro l o L;by_cases a:l=n+4
  .exact .inr (.inr a)
  .by_cases b:l=n+1
   .exact .inr (.inl b)
   .rw[t,ae a,ae b]at L;exact .inl L
 clear t;have f':∀j,j<k->aJ.str (tc j)≠.str (dn k):=λ j E h=>oQ k C j ((fE C E)) (aJ.str.inj h).symm
 have l':∀j,j<k->aJ.str (dn j)≠.str (dn k):=λ j E h=>by have:=zC j ((fE C E)) k C (aJ.str.inj h);exact il E this
 refine po S2 _ _ (dd.code k n) ⟨(Zw cN),(PR C),s.kp4,s.Nx,λ l o h=>?_,?_,u9,y',z',A',λ j E=>?_,x',λ l o h=>?_,λ e P=>?_,?_,λ j E=>?_,λ j E=>?_,λ j a h=>?_,λ j=>?_,λ e P=>?_,?_,?_,s.JJ,s.Lm,s.pz⟩
 .have q':l<39:=by
   rcases wF l 39 with h1|h1
   .exact h1
   .exfalso;have:wf sc l=F:=by obtain⟨k,rfl⟩:∃k,l=k+39:=⟨l -39,(PJ h1)⟩;kernel_rfl
    rw[this]at h;cases h
  rw[ul l q' (by rintro rfl;cases h) (by rintro rfl;cases h) (by rintro rfl;cases h) (by rintro rfl;cases h) (by rintro rfl;cases h)];exact s.low l o h
 .rw[ul 7 aL aL aL aL aL aL];exact s.h7
 .rw[ul _ ((HK E)) ((aan E)) (VF) (Xn) (Hm) (yz)];exact s.hp j E
 .rcases K3 l o h with h1|h1|h1
  .have:=s.N l o h1;refine cY this.1 (adf this) ?_;rw[u0 l ((aeS this)) ((abj this)) ((adv this)) ((Z1 this)) ((Xj this)) ((aat this)) ((aeX this)) ((NX this))];exact s' l o h1
  .subst h1;rw[h']at h;cases h;exact cY (Hd cN) UK u1
  .subst h1;rw[p']at h;cases h;exact cY (aaq cN) PT u4
 .rcases eE.mp P with h|h
  .rcases s.keys e h with⟨j,h1,h2⟩|h1
   .exact .inl ⟨j,(gk h1),h2⟩
   .exact .inr h1
  .simp at h;rw[h];exact .inl ⟨k,xQ,Y⟩
 .show(dd.es++_).length<=_;rw[cE];simp at es⊢;exact UV es
 .exact(s.par j E).ext gS Pu (nh (f' j E))
 .by_cases e:j=k
  .obtain rfl:=e.symm;refine .inr ⟨n+4,dd.last+2,0,.none,n+5,aj,aj,dn k,.none,?_,PT,?_⟩
   .rw[nH k C];exact kN g'
   .rw[p'];show _=U (TO _ _ _ _ _ _ (.jL _ _ (Iu (ah dd.cd k (U (n+1)) k))));rw[aa];rfl
  .have B:j<k:=(fX E e);have:=(s.nP j B).ext (es':=dd.es++[(.str (dn k),↥(n+4))]) gS (m':=n+6) (Pu) (by rw[nH j ((fE C B))];exact nh (l' j B));show pe S2 (n+6) _ _ (ah dd.cd k (U (n+1)) j);rw[ae e];exact this
 .have h:ah dd.cd k (U (n+1)) j=U a:=h;by_cases e:j=k
  .obtain rfl:=e.symm;rw[aa]at h;cases h;refine⟨xQ,MI _ _ _ _ _ _ _ _ h' ?_⟩;refine kN (lR λ e P h=>?_);obtain num|h2|I:=s.Gd e P;rw[h2]at h;have:=aJ.int.inj h;exact ON this I
  .rw[ae e]at h;obtain p0|num|aC|bl|wk|ds|fr|m|cp|i|Q:=s.MU j a h;refine⟨(gk p0),MI num aC bl wk ds fr m cp (gS _ _ i) ?_⟩;show atK (dd.ow++_) _=_;have a':aJ.int num≠.int (dd.last+1):=by intro hn;obtain j'|h2|I:=s.Gd _ (jy Q);have:=aJ.int.inj hn;have h2:aJ.int num=aJ.int j':=h2;have:=aJ.int.inj h2;omega
   rw[nh a'];exact Q
 .show(ah dd.cd k (U (n+1)) j).isSome=ai↔j∈dd.ends++[k];by_cases e:j=k
  .obtain rfl:=e.symm;rw[aa];simp
  .rw[ae e,s.iff j];simp[e]
 .rcases eE.mp P with h|h
  .obtain num|h1|h2:=s.Gd e h;exact cC num h1 (by show num<=dd.last+2;exact Zc h2)
  .simp at h;rw[h];exact cC (dd.last+1) Y (by show dd.last+1<=dd.last+2;exact Wk)
 .show(dd.ow++_).length<=_;rw[cE];have:=s.Qc;simp;exact J1 this
 .show(dd.ends++_).length<=_;rw[cE];have:=s.PY;simp;exact J1 this
end
end
noncomputable def abA:TS:=sS Gw 1
noncomputable def N6:List TS:=abA.G9
structure xw(dd:Sd)(S H:Hp)(n k g ar it:J)(vs:List V):Prop where
 key:atK dd.es (.str (tc k))=U (.ref g)
 lo:39<=g/\39<=ar/\39<=it/\g<n/\ar<n/\it<n
 ne:g≠ar/\g≠it/\ar≠it
 sn:S g=F/\S ar=F/\S it=F
 hg:∃num aC bl wk ds fr nm c,H g=U (TO num aC bl wk ds fr (.jL nm (.ref ar) c))
 Lk:∃num aC bl wk ds fr,H ar=U (TO num aC bl wk ds fr (.arr it))
 hit:H it=U (.list vs)
 Tf:fA S n vs ((dd.pn k).map dr)
def Mg(dd:Sd)(S H:Hp)(n k:J):bG->be
 |false=>dd.pn k=[]
 |true=>∃g z it vs,xw dd S H n k g z it vs
section
variable{sc:List Int}{dd:Sd}{S H:Hp}{n kc kp d:J}{cur:Bool}{g:Fl×St->Option (Fl×St)}{R:Fl->Lc->Hp->J->Prop}{u:Lc}
theorem QJ{k:J}(C:k<4):yO (k:Int) ⇑[↥33,↥34,↥35,↥36]=U ↥(33+k):=by
 match k,C with
 |0,_=>rfl
 |1,_=>rfl
 |2,_=>rfl
 |3,_=>rfl
theorem Nz(C:k<4):wf sc (33+k)=F:=by
 match k,C with
 |0,_=>rfl
 |1,_=>rfl
 |2,_=>rfl
 |3,_=>rfl
theorem vz(h:wf sc l=U o):l<39:=by
 rcases wF l 39 with h1|h1
 .exact h1
 .exfalso;have:wf sc l=F:=by obtain⟨k,rfl⟩:∃k,l=k+39:=⟨l -39,(PJ h1)⟩;kernel_rfl
  rw[this]at h;cases h
theorem Su.step{X:Sd}(s:Su sc dd S H n (k+1) k cur)(hn:n<=n')(C:k<4)
 (L:∀l,l<39->l≠9->l≠18->l≠33+k->H' l=H l)(h9:H' 9=U (aX ↥8 X.last 10))(zh:H' 18=U (.dict X.es))(hp:H' (33+k)=U ⇑(aY (X.pn k)))(a':∀j,j≠k->X.pn j=dd.pn j)
 (Q:X.i=dd.i)(w:X.gen=dd.gen)(f:X.ow=dd.ow)(B:X.ends=dd.ends)(I:X.cd=dd.cd)(f':dd.last<=X.last)
 (jg:∀l o,y l=U o->39<=l/\l<n'/\H' l=U o)(t:Ge S y)(q:X.es=dd.es/\i=cur\/∃v,cur=aj/\i=ai/\X.es=dd.es++[(.str (tc k),v)])(c:∀p∈X.pn k,p<k)(x:(X.pn k).length<=2)(m:i=ai\/X.pn k=[]):
 Su sc X y H' n' (k+1) k i:=by
 have hd:∀j,j<4->aJ.str (dn j)≠.str (tc k):=λ j E h=>oQ j E k C (aJ.str.inj h)
 have hi:∀j,j<k->aJ.str (tc j)≠.str (tc k):=λ j E h=>by have:=vh j ((fE C E)) k C (aJ.str.inj h);exact il E this
 have cN:=s.cN;have z:∀j,j<4->atK X.es (.str (dn j))=atK dd.es (.str (dn j)):=λ j E=>by
  rcases q with⟨h,_⟩|⟨v,_,_,h⟩
  .rw[h]
  .rw[h];exact nh (hd j E)
 have D:∀j,j<k->atK X.es (.str (tc j))=atK dd.es (.str (tc j)):=λ j E=>by
  rcases q with⟨h,_⟩|⟨v,_,_,h⟩
  .rw[h]
  .rw[h];exact nh (hi j E)
 have d':∀l o,wf sc l=U o->H' l=U o:=λ l o h=>by
  have c':=vz h;rewrite[L l c' (by rintro rfl;cases h) (by rintro rfl;cases h) ?_]
  .exact s.low l o h
  .rintro rfl;rw[Nz C]at h;cases h
 have e':cur.toNat<=i.toNat:=by
  rcases q with⟨_,h⟩|⟨v,h,h',_⟩
  .rw[h];exact aS _
  .rw[h,h'];decide
 refine⟨(PI cN hn),s.Ox,?_,s.Nx,d',?_,h9,?_,?_,zh,λ j E=>?_,?_,jg,λ e P=>?_,?_,λ j E=>?_,λ j E=>?_,λ j a h=>?_,by rw[B,I];exact s.iff,λ e P=>?_,by rw[f];exact s.Qc,by rw[B];exact s.PY,λ j=>?_,λ j=>?_,λ j E=>?_⟩
 .cases i<;>simp<;>omega
 .rw[L 7 aL aL aL Zl,Q];exact s.h7
 .rw[L 12 aL aL aL UZ,f];exact s.N7
 .rw[L 17 aL aL aL IQ,w];exact s.zN
 .by_cases e:j=k
  .obtain rfl:=e.symm;exact hp
  .rw[L (33+j) ((HK E)) (yz) (Hm) ((TL e)),a' j e];exact s.hp j E
 .rw[L 38 aL aL aL ((Yk C)),B];exact s.Kd
 .have old:e∈dd.es->(∃j,j<k+1/\e.1=aJ.str (dn j))\/∃j,j<k+i.toNat/\e.1=aJ.str (tc j):=λ h=>by
   rcases s.keys e h with h1|⟨j,h1,h2⟩
   .exact .inl h1
   .exact .inr ⟨j,(Vi h1 e'),h2⟩
  rcases q with⟨h,_⟩|⟨v,_,hc,h⟩
  .rw[h]at P;exact old P
  .rw[h]at P;rcases eE.mp P with h1|h1
   .exact old h1
   .simp at h1;rw[h1,hc];exact .inr ⟨k,by simp,Y⟩
 .have h0:=s.PF;rcases q with⟨h,h'⟩|⟨v,hc,b',h⟩
  .rw[h,h'];exact h0
  .rw[h,b',cE];rw[hc]at h0;simp at h0⊢;exact XC h0
 .rw[a' j ((bX E))];exact(s.par j E).ext t hn (D j E)
 .rw[I];exact(s.nP j E).ext t hn (by rw[nH j (by have:=s.Ox;exact PZ this E)];exact z j (by have:=s.Ox;exact PZ this E))
 .rw[I]at h;obtain p0|num|aC|bl|wk|ds|fr|b|cp|A|r:=s.MU j a h;exact⟨p0,MI num aC bl wk ds fr b cp (t _ _ A) (by rw[f];exact r)⟩
 .rw[f]at P;obtain num|h1|h2:=s.Gd e P;exact cC num h1 (aaM h2 f')
 .by_cases e:j=k
  .obtain rfl:=e.symm;exact c
  .rw[a' j e];exact s.JJ j
 .by_cases e:j=k
  .obtain rfl:=e.symm;exact x
  .rw[a' j e];exact s.Lm j
 .by_cases e:j=k
  .obtain rfl:=e.symm;rcases m with h|h
   .rw[h]at E;simp at E;exact ack E
   .exact h
  .rw[a' j e];refine s.pz j ?_;rcases wF k j with h|h
   .cases cur<;>simp<;>omega
   .exact YF E h e
end
section
open Tr
theorem fA.snoc{num aC:Int}(L:l<m)(hs:S l=U (TO num aC bl wk ds fr (.nR (.str s)))):∀{b:List af},fA S m vs b->fA S m (vs++[↥l]) (b++[s]):=by
 induction vs with
 |nil=>
  intro b h;cases b with
  |nil=>exact⟨⟨l,num,aC,bl,wk,ds,fr,Y,L,hs⟩,trivial⟩
  |cons=>exact rN h
 |cons v vs X=>
  intro b h;cases b with
  |nil=>exact rN h
  |cons s b=>exact⟨h.1,X h.2⟩
section
variable{sc:List Int}{dd:Sd}{S H:Hp}{n kc kp d:J}{cur:Bool}{g:Fl×St->Option (Fl×St)}{R:Fl->Lc->Hp->J->Prop}{u:Lc}
structure Vc(dd:Sd)(S H:Hp)(n k:J)(cur:Bool)(v:V)(H':Hp)(n':J):Prop where
 ex:∃es' last' g ar it vs,v=.ref ar/\n<=n'/\H' 9=U (aX (.ref 8) last' 10)/\dd.last<=last'/\H' 18=U (.dict es')/\(es'=dd.es/\ai=cur\/∃v,cur=aj/\ai=ai/\es'=dd.es++[(.str (tc k),v)])/\xw {dd with es:=es'} S H' n' k g ar it vs/\(∀l,l<n->l≠9->l≠18->H' l=H l)
theorem RM(C:k<4)(cN:39<=n)(zN:H 17=U (dD 9 18 dd.gen))(zh:H 18=U (.dict dd.es))(h9:H 9=U (aX ↥8 dd.last 10))(hs:∀e∈dd.es,e.1.isStr=ai)(L:dd.es.length<=1000)(jg:∀l o,S l=U o->l<n)(ha:cur=aj->atK dd.es (.str (tc k))=F)(hi:Mg dd S H n k cur):
 ba (d+5) #[569] [↥17,.str (tc k)] H n (Vc dd S H n k cur):=by
 cases cur with
 |true=>obtain g|z|it|vs|a:=hi;obtain num|aC|bl|wk|ds|fr|nm|c|hg:=a.hg;refine(Em (d:=d+3) zN zh hs a.key hg).weak ?_;rintro _ _ _ ⟨rfl,rfl,rfl⟩;exact⟨dd.es,dd.last,g,z,it,vs,Y,aS _,h9,qE _,zh,.inl ⟨Y,Y⟩,⟨a.key,a.lo,a.ne,a.sn,a.hg,a.Lk,a.hit,a.Tf⟩,λ _ _ _ _=>rfl⟩
 |false=>
  refine(DW (d:=d) zN zh h9 hs (ha Y) L ((Cw cN)) ((Cg cN)) ((FU cN)) aL aL aL).weak ?_;rintro _ H' n' ⟨rfl,rfl,X,t,q,A,D,b⟩;have ns:∀l,n<=l->S l=F:=λ l L=>by
   cases h:S l with
   |none=>rfl
   |some o=>have:=jg l o h;exact N2 this L
  have hp:dd.pn k=[]:=hi;refine⟨dd.es++[(.str (tc k),↥n)],dd.last+1+1,n,n+2,n+4,[],Y,acz,X,acM,t,.inr ⟨_,Y,Y,Y⟩,⟨kN (ha Y),(acy cN),aeo,⟨ns _ aeF,ns _ ace,ns _ aeh⟩,⟨_,_,_,_,_,_,_,_,q⟩,⟨_,_,_,_,_,_,A⟩,D,?_⟩,b⟩;show fA S (n+5) [] ((dd.pn k).map dr);rw[hp];trivial
noncomputable def Uc:List TS:=[.expr (.aK (.sub (.loc "parents") (.loc "k")) "append" [(.loc "parent")]),
 .expr (.aK (.attr (.aK (.attr (.cW "run") "stash") "array_of" [(.bin .add (.sub (.call (.lit #[618]) []) (.loc "k")) (.lit (.str "::ISA")))]) "items") "append" [(.aK (.cW "counter") "fresh" [(.sub (.call (.lit #[618]) []) (.loc "parent"))])])]
theorem My{k r:J}(s:Su sc dd S H n (k+1) k cur)(C:k<4)(i:r<k)(m:(dd.pn k).length<2)(hi:Mg dd S H n k cur)(lq:Lq u)(lk:u s!"k"=U (.int k))(lp:u s!"parent"=U (.int r))
 (po:∀y H' n' X,Su sc X y H' n' (k+1) k ai->Mg X y H' n' k ai->(X.pn k).length=(dd.pn k).length+1->aG (g (.next,⟨u,H',n'⟩)) R):
 aG ((ay G (aq G (d+12)) cK Uc ⟨u,H,n⟩).bind g) R:=by
 have cN:=s.cN;have b:=s.low 1 _ Y;have c5:=s.low 5 _ Y;have i':=s.low 19 _ Y;have g':=s.low 15 _ Y;have m':=s.low 37 _ Y;have j':=s.hp k C;have d':(aY (dd.pn k)).length<=1000:=by rw[bE];exact TK m
 have A:=(Told.cons lq.parents (.cons lk (.cons lp .nil))).lay;refine ql A (fB m' (QJ C) ag (ei j' (cS ..) ag (nw (v:=.int r) j' d' ag ?_)));rw[show aY (dd.pn k)++[V.int r]=aY (dd.pn k++[r])from by rw[kK];rfl];have Q:∀l:J,l≠33+k->ah H (33+k) (U ⇑(aY (dd.pn k++[r]))) l=H l:=λ l L=>ae L
 have k':ah H (33+k) (U ⇑(aY (dd.pn k++[r]))) (33+k)=U ⇑(aY (dd.pn k++[r])):=aa _ _ _;generalize ah H (33+k) (U ⇑(aY (dd.pn k++[r])))=H1 at Q k';refine sL (cs:=cK) (x:=s!"run") ((Q 5 Z7).trans c5) ag ag (cH ((Q 19 WG).trans i') (jz ..) ag (ei ((Q 17 IQ).trans s.zN) (yD ..) ag
  (sD (jk (d:=d+11)) ag (fB (aa ..) (rr C) ag (IA (A4 k C).2.1 ag ?_)))))
 have w:∀l:J,l<n->ah H1 n (U ⇑[.str s!"A",.str s!"B",.str s!"C",.str s!"D"]) l=H1 l:=λ l L=>ae (bP L)
 generalize ah H1 n (U ⇑[.str s!"A",.str s!"B",.str s!"C",.str s!"D"])=H2 at w;have u2:∀l:J,l<n->l≠33+k->H2 l=H l:=λ l h1 h2=>(w l h1).trans (Q l h2)
 have jg:∀l o,S l=U o->l<n+1:=λ l o h=>by have:=s.N l o h;exact aem this
 have o':cur=aj->atK dd.es (.str (tc k))=F:=by
  intro hc;refine lR λ e P h=>?_
  rcases s.keys e P with⟨j,E,h2⟩|⟨j,E,h2⟩
  .rw[h2]at h;exact oQ j ((OG C E)) k C (aJ.str.inj h)
  .rw[h2]at h;rw[hc]at E;simp at E;have:=vh j ((fE C E)) k C (aJ.str.inj h);exact il E this
 have p':Mg dd S H2 (n+1) k cur:=by
  cases cur with
  |false=>exact hi
  |true=>
   obtain g|ar|it|vs|a:=hi;obtain l1|l2|l3|l4|l5|l6:=a.lo;refine⟨g,ar,it,vs,a.key,(Xd l1 l2 l3 l4 l5 l6),a.ne,a.sn,?_,?_,?_,a.Tf.ge (λ _ _ h=>h) (sV)⟩
   .rw[u2 g ((pi l4)) ((Ke l1 C))];exact a.hg
   .rw[u2 ar ((pi l5)) ((Ke l2 C))];exact a.Lk
   .rw[u2 it ((pi l6)) ((Ke l3 C))];exact a.hit
 have l':dd.es.length<=1000:=by have:=s.PF;have:=s.Ox;have:=s.kp4;omega
 refine sC (RM (d:=d+7) C ((Hd cN)) ((u2 17 ((Cw cN)) (IQ)).trans s.zN) ((u2 18 ((Cg cN)) (Yv)).trans s.zh) ((u2 9 ((FU cN)) (UN)).trans s.h9) s.strs l' jg o' p') ag ?_;rintro v H3 n3 ⟨es',a',g,ar,it,vs,rfl,b',k9,q',r',s',a,kl⟩;obtain num|aC|bl|wk|ds|fr|Lk:=a.Lk;have hit:=a.hit;obtain l1|l2|l3|l4|l5|l6:=a.lo;obtain q|f|q3:=a.ne;have u3:∀l:J,l<n->l≠9->l≠18->l≠33+k->H3 l=H l:=λ l h1 h2 I D=>(kl l ((gk h1)) h2 I).trans (u2 l h1 D)
 refine cH Lk (kM ..) ag (ei hit (cS ..) ag (sL (cs:=cK) (x:=s!"counter") ((u3 1 ((Zm cN)) (ZV) (XG) (YL)).trans b) ag ag (ei ((u3 15 ((OR cN)) (OB) (O7) (OY)).trans g') (qP ..) ag
  (sD (jk (d:=d+11)) ag (fB (aa ..) (rr (show r<4 from(abi C i))) ag ?_)))))
 have B:∀l:J,l<n3->ah H3 n3 (U ⇑[.str s!"A",.str s!"B",.str s!"C",.str s!"D"]) l=H3 l:=λ l L=>ae (bP L)
 generalize ah H3 n3 (U ⇑[.str s!"A",.str s!"B",.str s!"C",.str s!"D"])=H4 at B;refine sD (Cz (d:=d+8) (c:=15) (v:=.str (dr r)) (hp:=9) (z:=10) (lim:=↥8) (last:=a') (dl:=14) (pl:=16) (.inr ⟨_,Y⟩) ?_ ?_) ag ?_
 .rw[B 15 ((XD l3 l6)),u3 15 ((OR cN)) (OB) (O7) (OY)];exact g'
 .rw[B 9 ((T0 l3 l6))];exact k9
 have m1:it≠n3+1:=(fS l6);have m2:it≠n3+1+1:=(C4 l6);have m3:it≠9:=(C1 l3);have h':vs.length<=1000:=by have:=a.Tf.len;simp only[bS]at this;show vs.length<=1000;have h2:vs.length=(dd.pn k).length:=this;exact Yg m h2
 refine nw (v:=↥(n3+1)) ((ae m2).trans ((ae m1).trans ((ae m3).trans ((B it (pi l6)).trans hit)))) h' ag (sG A ?_);obtain⟨HF,c'⟩:∃HF,HF=ah (ah (ah (ah H4 9 (U (aX (.ref 8) (a'+1) 10))) (n3+1) (U (TO (a'+1) 1 .none (n3+1+1) aj aj (.nR (.str (dr r)))))) (n3+1+1) (U (.list []))) it (U (.list (vs++[.ref (n3+1)]))):=⟨_,Y⟩;rw[<-c'];have v0:∀l:J,l<n3->l≠it->l≠9->HF l=H3 l:=λ l h1 h2 I=>by rw[c',ae h2,ae (C4 h1),ae (fS h1),ae I,B l h1]
 have t':HF it=U ⇑(vs++[↥(n3+1)]):=by rw[c',aa]
 have v9:HF 9=U (aX ↥8 (a'+1) 10):=by rw[c',ae (Vr m3),ae (WJ l3 l6),ae (Us l3 l6),aa]
 have vn:HF (n3+1)=U (TO (a'+1) 1 .none (n3+1+1) aj aj (.nR (.str (dr r)))):=by rw[c',ae (PO m1),ae JN,aa]
 clear c';obtain⟨S2,t⟩:∃S2,S2=ah S (n3+1) (U (TO (a'+1) 1 .none (n3+1+1) aj aj (.nR (.str (dr r))))):=⟨_,Y⟩;have gS:Ge S S2:=by intro l o L;have:=s.N l o L;rw[t,ae (aet this b')];exact L
 have f':S2 (n3+1)=U (TO (a'+1) 1 .none (n3+1+1) aj aj (.nR (.str (dr r)))):=by rw[t,aa]
 have K3:∀l:J,l≠n3+1->S2 l=S l:=λ l L=>by rw[t,ae L]
 clear t;obtain t1|t2|t3:=a.sn;have e':ah dd.pn k (dd.pn k++[r]) k=dd.pn k++[r]:=aa _ _ _;refine po S2 HF _ {dd with last:=a'+1,es:=es',pn:=ah dd.pn k (dd.pn k++[r])} (s.step ((VL b')) C (λ l h1 h2 I D=>?_) v9 ?_ ?_ (λ j E=>ae E) Y Y Y Y Y (by show dd.last<=a'+1;exact yi q') (λ l o h=>?_) gS s' (λ p hp=>?_) ?_ (.inl Y)) ?_ ?_
 .rw[v0 l ((U9 l3 l6 h1)) ((I7 l3 h1)) h2];exact u3 l ((uz cN h1)) h2 I D
 .rw[v0 18 ((Wz l3 l6)) ((aaU l3)) aL];exact r'
 .show HF (33+k)=U ⇑(aY (ah dd.pn k (dd.pn k++[r]) k));rw[e',v0 (33+k) ((Ug l3 l6 C)) ((YW l3 C)) (yz),kl (33+k) ((W6 cN C)) (yz) (Hm),w (33+k) ((OQ cN C))];exact k'
 .by_cases e:l=n3+1
  .subst e;rw[f']at h;cases h;exact cY (WL l3 l6) Gv vn
  .rw[K3 l e]at h;have h0:=s.N l o h;have h1:l≠it:=by rintro rfl;rw[t3]at h;cases h
   refine cY h0.1 (aef h0 b') ?_;rw[v0 l ((abt h0 b')) h1 ((NX h0)),u3 l h0.2.1 ((NX h0)) ((aat h0)) ((abD h0 C))];exact h0.2.2
 .have hp:p∈ah dd.pn k (dd.pn k++[r]) k:=hp;rw[e']at hp;rcases eE.mp hp with h|h
  .exact s.JJ k p h
  .simp at h;exact Wn i h
 .show(ah dd.pn k (dd.pn k++[r]) k).length<=2;rw[e',cE];show _+1<=2;exact U3 m
 .refine⟨g,ar,it,vs++[↥(n3+1)],a.key,(UW l1 l2 l3 l4 l5 l6),⟨q,f,q3⟩,⟨(K3 g ((fS l4))).trans t1,(K3 ar ((fS l5))).trans t2,(K3 it ((JD m1))).trans t3⟩,?_,⟨num,aC,bl,wk,ds,fr,?_⟩,t',?_⟩
  .rw[v0 g l4 f ((C1 l1))];exact a.hg
  .rw[v0 ar l5 q3 ((C1 l2))];exact Lk
  .show fA S2 (n3+1+2) _ ((ah dd.pn k (dd.pn k++[r]) k).map dr);rw[e',gq];exact fA.snoc Gv f' (a.Tf.ge gS Qh)
 .show(ah dd.pn k (dd.pn k++[r]) k).length=_;rw[e',cE];rfl
end
end
section
variable{sc:List Int}{dd:Sd}{S H:Hp}{n kc kp d:J}{cur:Bool}{g:Fl×St->Option (Fl×St)}{R:Fl->Lc->Hp->J->Prop}{u:Lc}
theorem Su.up(s:Su sc dd S H n kc kp cur)(hn:n<=n')(h:∀l,l<n->H' l=H l):Su sc dd S H' n' kc kp cur:=by
 have cN:=s.cN;refine⟨(PI cN hn),s.Ox,s.kp4,s.Nx,λ l o L=>?_,?_,?_,?_,?_,?_,λ j E=>?_,?_,λ l o L=>?_,s.keys,s.PF,λ j E=>(s.par j E).ext (λ _ _ h=>h) hn Y,λ j E=>(s.nP j E).ext (λ _ _ h=>h) hn Y,s.MU,s.iff,s.Gd,s.Qc,s.PY,s.JJ,s.Lm,s.pz⟩
 .have:=vz L;rw[h l ((uz cN this))];exact s.low l o L
 .rw[h _ ((Pk cN))];exact s.h7
 .rw[h _ ((FU cN))];exact s.h9
 .rw[h _ ((UQ cN))];exact s.N7
 .rw[h _ ((Cw cN))];exact s.zN
 .rw[h _ ((Cg cN))];exact s.zh
 .rw[h _ ((OQ cN E))];exact s.hp j E
 .rw[h _ ((W8 cN))];exact s.Kd
 .have:=s.N l o L;rw[h l this.2.1];exact cY this.1 (acC this hn) this.2.2
theorem xw.up{X:Sd}{n' k g z it:J}(a:xw dd S H n k g z it vs)(hn:n<=n')(h:∀l,39<=l->l<n->H' l=H l)(Q:X.es=dd.es)(w:X.pn k=dd.pn k):xw X S H' n' k g z it vs:=by
 obtain l1|l2|i|b|c|B:=a.lo;refine⟨by rw[Q];exact a.key,(Uw hn l1 l2 i b c B),a.ne,a.sn,?_,?_,?_,by rw[w];exact a.Tf.ge (λ _ _ h=>h) hn⟩
 .rw[h g l1 b];exact a.hg
 .rw[h z l2 c];exact a.Lk
 .rw[h it i B];exact a.hit
theorem Mg.up{X:Sd}(a:Mg dd S H n k cur)(hn:n<=n')(h:∀l,39<=l->l<n->H' l=H l)(Q:X.es=dd.es)(w:X.pn k=dd.pn k):Mg X S H' n' k cur:=by
 cases cur with
 |false=>exact w.trans a
 |true=>obtain g|z|it|vs|a:=a;exact⟨g,z,it,vs,a.up hn h Q w⟩
theorem Su.Si(s:Su sc dd S H n k k aj)(C:k<4):Su sc dd S H n (k+1) k aj:=by
 refine⟨s.cN,(PR C),s.kp4,s.Nx,s.low,s.h7,s.h9,s.N7,s.zN,s.zh,s.hp,s.Kd,s.N,λ e P=>?_,by have:=s.PF;exact YM this,s.par,λ j E=>?_,λ j a h=>?_,s.iff,s.Gd,by have:=s.Qc;exact mF this,by have:=s.PY;exact mF this,s.JJ,s.Lm,s.pz⟩
 .rcases s.keys e P with⟨j,h1,h2⟩|h1
  .exact .inl ⟨j,(gk h1),h2⟩
  .exact .inr h1
 .by_cases e:j=k
  .obtain rfl:=e.symm;refine .inl ⟨?_,?_⟩
   .rw[nH k C];refine lR λ e P h=>?_
    rcases s.keys e P with⟨i,hi,h2⟩|⟨i,hi,h2⟩
    .rw[h2]at h;have:=zC i ((fE C hi)) k C (aJ.str.inj h);exact il hi this
    .rw[h2]at h;simp at hi;exact oQ k C i ((fE C hi)) (aJ.str.inj h).symm
   .cases hc:dd.cd k with
    |none=>rfl
    |some a=>have:=(s.MU k a hc).1;exact TW this
  .exact s.nP j ((fX E e))
 .have:=s.MU j a h;exact⟨(aec this),this.2⟩
theorem Su.seal(s:Su sc dd S H n (k+1) k cur)(C:k<4)(hi:Mg dd S H n k cur):∃y,Su sc dd y H n (k+1) (k+1) aj:=by
 have x:=s.Lm k;cases cur with
 |false=>
  have hp:dd.pn k=[]:=hi;refine⟨S,s.cN,s.Ox,by simp;exact PK C,s.Nx,s.low,s.h7,s.h9,s.N7,s.zN,s.zh,s.hp,s.Kd,s.N,λ e P=>?_,by have:=s.PF;simp at this⊢;exact Yu this,λ j E=>?_,s.nP,s.MU,s.iff,s.Gd,s.Qc,s.PY,s.JJ,s.Lm,λ j E=>?_⟩
  .rcases s.keys e P with h1|⟨j,h1,h2⟩
   .exact .inl h1
   .exact .inr ⟨j,by simp at h1⊢;exact gk h1,h2⟩
  .by_cases e:j=k
   .obtain rfl:=e.symm;refine⟨by rw[hp];decide,.inl ⟨?_,by rw[hp];rfl⟩⟩;refine lR λ e P h=>?_
    rcases s.keys e P with⟨i,hi,h2⟩|⟨i,hi,h2⟩
    .rw[h2]at h;exact oQ i ((OG C hi)) k C (aJ.str.inj h)
    .rw[h2]at h;simp at hi;have:=vh i ((fE C hi)) k C (aJ.str.inj h);exact il hi this
   .exact s.par j ((fX E e))
  .simp at E;exact s.pz j (by simp;exact P7 E)
 |true=>
  obtain g|z|it|vs|a:=hi;obtain l1|l2|v|l4|l5|B:=a.lo;obtain m|X|D:=a.ne;obtain p|t2|t3:=a.sn;obtain num|aC|bl|wk|ds|fr|nm|c|hg:=a.hg;obtain a'|b'|c'|d'|e'|f'|Lk:=a.Lk;have hit:=a.hit;obtain⟨q,t⟩:∃q,q=ah (ah (ah S g (H g)) z (H z)) it (H it):=⟨_,Y⟩;have L:q g=H g:=by rw[t,ae X,ae m,aa]
  have v2:q z=H z:=by rw[t,ae D,aa]
  have v3:q it=H it:=by rw[t,aa]
  have v0:∀l,l≠g->l≠z->l≠it->q l=S l:=λ l h1 h2 I=>by rw[t,ae I,ae h2,ae h1]
  clear t;have gS:Ge S q:=by intro l o h;rw[v0 l (by rintro rfl;rw[p]at h;cases h) (by rintro rfl;rw[t2]at h;cases h) (by rintro rfl;rw[t3]at h;cases h)];exact h
  refine⟨q,s.cN,s.Ox,by simp;exact PK C,s.Nx,s.low,s.h7,s.h9,s.N7,s.zN,s.zh,s.hp,s.Kd,λ l o h=>?_,λ e P=>?_,by have:=s.PF;simp at this⊢;exact aao this,λ j E=>?_,λ j E=>(s.nP j E).ext gS (aS _) Y,λ j a h=>?_,s.iff,s.Gd,s.Qc,s.PY,s.JJ,s.Lm,λ j E=>?_⟩
  .by_cases Q:l=g
   .obtain rfl:=Q.symm;rw[L]at h;exact cY l1 l4 h
   .by_cases w:l=z
    .obtain rfl:=w.symm;rw[v2]at h;exact cY l2 l5 h
    .by_cases f:l=it
     .obtain rfl:=f.symm;rw[v3]at h;exact cY v B h
     .rw[v0 l Q w f]at h;exact s.N l o h
  .rcases s.keys e P with h1|⟨j,h1,h2⟩
   .exact .inl h1
   .exact .inr ⟨j,by simp at h1⊢;exact YU h1,h2⟩
  .by_cases e:j=k
   .obtain rfl:=e.symm;refine⟨by rw[bS];exact Ui x,.inr ⟨g,num,aC,bl,wk,ds,fr,nm,↥z,c,a.key,l4,L.trans hg,.inr ⟨z,a',b',c',d',e',f',it,vs,Y,l5,v2.trans Lk,B,v3.trans hit,a.Tf.ge gS (aS _)⟩⟩⟩
   .exact(s.par j ((fX E e))).ext gS (aS _) Y
  .obtain p0|num|aC|bl|wk|ds|fr|b|cp|A|r:=s.MU j a h;exact⟨p0,MI num aC bl wk ds fr b cp (gS _ _ A) r⟩
  .simp at E;exact s.pz j (by simp;exact FZ E)
end
section
open Tr
noncomputable def rK:List TS:=[.ite (.cmp .eq (.call (.lit #[625]) [(.loc "script"),(.loc "spot"),(.lit (.int 2))]) (.lit (.int 1))) codeB [],
 .eL (.loc "_") (.call (.lit (.con (.type "range"))) [(.ite (.cmp .gt (.loc "k") (.lit (.int 0))) (.call (.lit #[625]) [(.loc "script"),(.loc "spot"),(.lit (.int 3))]) (.lit (.int 0)))]) N6]
section
variable{sc:List Int}{dd:Sd}{S H:Hp}{n kc kp d:J}{cur:Bool}{g:Fl×St->Option (Fl×St)}{R:Fl->Lc->Hp->J->Prop}{u:Lc}
def RB(sc:List Int)(k j:J)(u:Lc)(H:Hp)(n:J):be:=
 ∃S dd,Su sc dd S H n (k+1) k (decide (0<j))/\Mg dd S H n k (decide (0<j))/\(dd.pn k).length=j/\Told (("k",.int k)::QN) u
theorem D7{k m j:J}(C:k<4)(hm:m<=2)(I:m=0\/0<k)(E:j<m)(Q:RB sc k j u H n)(po:∀u H n,RB sc k (j+1) u H n->R .next u H n):
 aG ((du (aq G (d+12)) cK N6 (ah u s!"_" (U (.int j)))).aE H n) R:=by
 obtain z|a|s|y|B|l1:=Q;have l2:=l1.set (x:=s!"_") (v:=U (.int j));generalize ah u s!"_" (U (.int j))=Vd at l2⊢;refine acg (sHl l2.lay (sC (u6 (d:=d+11) s (lim:=k) ((aae C E I))) ag ?_));rintro v H2 e ⟨r,i,rfl,rfl,p,t⟩;refine LL (b:=Uc) (congrArg (λ l:Lc=>ah l s!"parent" (U (V.int r))) l2.lay) (My (d:=d) p C i (by show(a.pn k).length<2;exact Zg E hm B) (y.up (aS _) (λ l h1 _=>t l ((Xi h1))) Y Y) (.of l2.tl.set) l2.set.hd (aa ..) λ w h o f c q A=>?_);refine aG.mk (po _ _ _ (pY w f ?_ ?_ ?_ l2.set))
 .rw[decide_eq_true (B6 j)];exact c
 .rw[decide_eq_true (B6 j)];exact q
 .rw[A];show(a.pn k).length+1=j+1;exact Ux B
theorem ED{k:J}(s:Su sc dd S H n k k aj)(C:k<4)(lq:Lq u)(lk:u s!"k"=U (.int k))
 (po:∀o H' n' X A,Su sc X o H' n' (k+1) (k+1) aj->Lq A->aG (g (.next,⟨A,H',n'⟩)) R):
 aG ((ay G (aq G (d+12)) cK rK ⟨u,H,n⟩).bind g) R:=by
 have p:=Told.cons lk lq.got;have last:∀dd S H n u,Su sc dd S H n (k+1) k aj->Told (("k",.int k)::QN) u->aG ((du (aq G (d+12)) cK (rK.drop 1) u).aE H n) (EG g R):=by
  intro dd S H n u s tl;have mk:∀(m:J) dd S H,Su sc dd S H n (k+1) k aj->m<=2->(m=0\/0<k)->aG ((du (aq G (d+12)) cK [.eL (.loc "_") (.lit ↥n) N6] (lay (("k",.int k)::QN) u)).aE (ah H n (U (.range (m:Int).toNat))) (n+1)) (EG g R):=by
   intro m dd S H s hm I;have z:dd.pn k=[]:=s.pz k (aS _);refine sFr (cf:=aq G (d+12)) (cs:=cK) (x:=s!"_") (a:=N6) (RB sc k) (aa ..) (rz hm aL) (pY S dd (s.up (n':=n+1) (sV) (λ l h=>ae (bP h))) z (by rw[z];rfl) ag) ag
    (λ j E u H n Q=>D7 (d:=d) C hm I E Q λ _ _ _ Q=>Q) λ u H n Q=>?_
   obtain c|d1|w|i1|B|l1:=Q;obtain q|P:=w.seal C i1;exact sG Y (po q _ _ d1 _ P (.of l1.tl))
  by_cases I:k=0
  .exact sHl tl.lay (Gc (x:=(k:Int)) (y:=0) (b:=aj) (by rw[I];rfl) ag (Tk (cf:=aq G (d+12)) (i:=(0:J)) aL ag (nS (mk 0 dd S H s (cG _) (.inl Y)) ag)))
  .refine sHl tl.lay (Gc (decide_eq_true (j9.mpr (vY I))) ag (sC (u6 (d:=d+11) s (lim:=3) (Ze)) ag ?_));rintro v H2 e ⟨r,t,rfl,rfl,P,D⟩;exact Tk (cf:=aq G (d+12)) (i:=r) (WP (OS t)) ag (nS (mk r _ S H2 P (OS t) (.inr ((aam I)))) ag)
 refine ql p.lay (sC (u6 (d:=d+11) s (lim:=2) (Vp)) ag ?_);rintro v H2 e ⟨r,t,rfl,rfl,P,D⟩;by_cases h1:r=1
 .exact sEq (a:=r) (b:=1) (decide_eq_true (by rw[h1];rfl)) ag (sBc (b:=OU) (f:=nK (aq G (d+12)) cK (rK.drop 1)) p.lay (IH (d:=d) P C lq lk λ o H' n' X L=>last X o H' n' _ L p.set))
 .exact sEq (a:=r) (b:=1) (decide_eq_false (Xo h1)) ag (nS (last _ S H2 e (lay (("k",.int k)::QN) u) (P.Si C) ag) ag)
end
end
section
open Tr
noncomputable def Lh:TS:=.eL (.loc "k") (.call (.lit (.con (.type "range"))) [(.lit (.int 4))]) rK
section
variable{sc:List Int}{dd:Sd}{S H:Hp}{n kc kp d:J}{cur:Bool}{R:Fl->Lc->Hp->J->Prop}{u:Lc}{B:List TS}
theorem Ex(s:Su sc dd S H n 0 0 aj)(c:Lq u)
 (po:∀y H' n' X A,Su sc X y H' n' 4 4 aj->Lq A->aG (ay G (aq G (d+12)) cK B ⟨A,H',n'⟩) R):
 aG (ay G (aq G (d+12)) cK (Lh::B) ⟨u,H,n⟩) R:=by
 rw[c.got.lay,<-iM];refine Tk (cf:=aq G (d+12)) (i:=4) aL ag (sFr (cf:=aq G (d+12)) (cs:=cK) (x:=s!"k") (a:=rK) (λ j A H' n'=>∃y X,Su sc X y H' n' j j aj/\Told QN A) (aa ..) aL
  (qz S dd (s.up (n':=n+1) sV λ l h=>ae (bP h)) ag) ag ?_ ?_)
 .rintro j E Cq H1 e ⟨z,r,v,l1⟩;rw[iM,<-qv (ay ..)];exact ED (d:=d) v E (.of l1.set) (aa ..) λ y H' n' X A L f=>aG.goN (qz y X L f.got)
 .rintro Cq H1 e ⟨z,r,v,l1⟩;exact sBe (b:=B) Y (po z H1 e r Cq v (.of l1))
end
end
section
open Tr
noncomputable def zQ:List TS:=[.asg (.loc "places") (.fR (.aK (.cW "counter") "fresh" [(.lit .none)]) "_" (.call (.lit (.con (.type "range"))) [(.lit (.int 3))]) []),
 .asg (.loc "things") ⇑[],
 .asg (.loc "book") (.dict [(.lit (.str "alive")),(.lit (.str "places")),(.lit (.str "parts")),(.lit (.str "class")),(.lit (.str "parents")),(.lit (.str "ends"))] [⇑[],⇑[(.lit .none),(.lit .none),(.lit .none)],⇑[],⇑[],(.loc "parents"),(.loc "ends")])]
section
variable{sc:List Int}{dd:Sd}{S H:Hp}{n kc kp d:J}{cur:Bool}{R:Fl->Lc->Hp->J->Prop}{u:Lc}{B:List TS}
noncomputable def frO(last:Int)(n:J):O:=TO (last+1) 1 .none (n+1) aj aj (.nR .none)
noncomputable def qw(H:Hp)(last:Int)(n:J):Hp:=ah (ah (ah H 9 (U (aX ↥8 (last+1) 10))) n (U (frO last n))) (n+1) (U ⇑[])
theorem hM(hn:39<=n)(L:l<n)(h9:l≠9):qw H last n l=H l:=by unfold qw;rw[ae (fS L),ae (bX L),ae h9]
theorem SX(hn:39<=n):qw H last n 9=U (aX ↥8 (last+1) 10):=by unfold qw;rw[ae (La hn),ae (Pb hn),aa]
theorem RX:qw H last n n=U (frO last n):=by unfold qw;rw[ae xF,aa]
theorem Ky:qw H last n (n+1)=U ⇑[]:=by unfold qw;rw[aa]
theorem eqs{v:V}(h:ba d f args H n (Is v H' n')):∀u,aq G d f args ⟨u,H,n⟩=U (v,⟨u,H',n'⟩):=by obtain _|_|_|e|rfl|rfl|rfl:=h;exact e
noncomputable def Tb(H:Hp)(last:Int)(n:J):Hp:=ah (qw (qw (qw H last n) (last+1) (n+2)) (last+1+1) (n+4)) (n+6) (U ⇑[↥n,↥(n+2),↥(n+4)])
theorem rE(b:H 1=U (.cell (U ↥15)))(h:H 15=U (bq 9 14 16))(h9:H 9=U (aX ↥8 last 10))(v:V)(u:Lc):
 pI G (aq G (d+12)) cK (.aK (.cW "counter") "fresh" [(.lit .none)]) s!"_" [] v ⟨u,H,n⟩=U (U ↥n,⟨ah u s!"_" (U v),qw H last n,n+2⟩):=by
 have Q:fK cK s!"counter" ⟨ah u s!"_" (U v),H,n⟩=U (↥15,⟨ah u s!"_" (U v),H,n⟩):=by rewrite[Cs,show ro s!"counter" cK=U 1 by kernel_rfl,eT];exact jj _ b Y
 have w:qX G ↥15 s!"fresh" ⟨ah u s!"_" (U v),H,n⟩=U (.fn #[456] [↥15],⟨ah u s!"_" (U v),H,n⟩):=jj _ h (qP ..)
 show((fK cK s!"counter" ⟨ah u s!"_" (U v),H,n⟩).bind _).bind _=_;rw[Q];show((qX G ↥15 s!"fresh" ⟨ah u s!"_" (U v),H,n⟩).bind _).bind _=_;rw[w];show(aq G (d+12) #[456] [↥15,.none] ⟨ah u s!"_" (U v),H,n⟩).bind _=_
 rw[eqs (Cz (d:=d+8) (hp:=9) (z:=10) (dl:=14) (pl:=16) (lim:=↥8) (.inl Y) h h9)];rfl
theorem Jt(b:H 1=U (.cell (U ↥15)))(h:H 15=U (bq 9 14 16))(h9:H 9=U (aX ↥8 last 10))(hn:39<=n):
 nE G (aq G (d+12)) cK (.aK (.cW "counter") "fresh" [(.lit .none)]) s!"_" [] (.range 3) ⟨u,H,n⟩=U (↥(n+6),⟨u,Tb H last n,n+7⟩):=by
 have e:∀l:J,l<39->l≠9->qw H last n l=H l:=λ l h1 h2=>hM hn ((uz hn h1)) h2
 have f:∀l:J,l<39->l≠9->qw (qw H last n) (last+1) (n+2) l=H l:=λ l h1 h2=>(hM ((Py hn)) ((Vo hn h1)) h2).trans (e l h1 h2)
 have c:=rE (d:=d) (n:=n) b h h9;have k:=rE (d:=d) (n:=n+2) ((e 1 aL aL).trans b) ((e 15 aL aL).trans h) (SX hn);have a:=rE (d:=d) (n:=n+4) ((f 1 aL aL).trans b) ((f 15 aL aL).trans h) (SX (Py hn));show(((fy (.range 3) (pI G (aq G (d+12)) cK (.aK (.cW "counter") "fresh" [(.lit .none)]) s!"_" []) [.int 0,.int 1,.int 2] ⟨λ _=>F,H,n⟩).map _).bind _)=_;rw[qo];show(((pI G (aq G (d+12)) cK _ _ [] (.int 0) ⟨λ _=>F,H,n⟩).bind _).map _).bind _=_;rw[c];show((((fy _ _ [.int 1,.int 2] ⟨_,qw H last n,n+2⟩).bind _).map _).bind _)=_;rw[qo];show(((((pI G (aq G (d+12)) cK _ _ [] (.int 1) ⟨_,qw H last n,n+2⟩).bind _).bind _).map _).bind _)=_;rw[k];show(((((fy _ _ [.int 2] ⟨_,qw (qw H last n) (last+1) (n+2),n+4⟩).bind _).bind _).map _).bind _)=_;rw[qo];show((((((pI G (aq G (d+12)) cK _ _ [] (.int 2) ⟨_,qw (qw H last n) (last+1) (n+2),n+4⟩).bind _).bind _).bind _).map _).bind _)=_;rw[a];rfl
end
end
section
open Tr
section
variable{sc:List Int}{dd:Sd}{S H:Hp}{n kc kp d:J}{cur:Bool}{R:Fl->Lc->Hp->J->Prop}{u:Lc}{B:List TS}
noncomputable def lA(u:Lc)(n:J):Lc:=ah (ah (ah u s!"places" (U ↥(n+7))) s!"things" (U ↥(n+8))) s!"book" (U ↥(n+13))
noncomputable def OH(n:J):O:=eR (n+9) (n+10) (n+11) (n+12) 37 38
noncomputable def eX(H:Hp)(last:Int)(n:J):Hp:=ah (ah (ah (ah (ah (ah (Tb (ah H n (U (.range 3))) last (n+1)) (n+8) (U ⇑[])) (n+9) (U ⇑[])) (n+10) (U ⇑[.none,.none,.none])) (n+11) (U ⇑[])) (n+12) (U ⇑[])) (n+13) (U (OH n))
theorem Mk(a b c e f g:J)(H:Hp)(n:J):qI [.str (cZ "alive"),.str (cZ "places"),.str (cZ "parts"),.str (cZ "class"),.str (cZ "parents"),.str (cZ "ends")] [↥a,↥b,↥c,↥e,↥f,↥g] ⟨u,H,n⟩=U (↥n,⟨u,ah H n (U (eR a b c e f g)),n+1⟩):=by rfl
theorem D6(s:Su sc dd S H n 4 4 aj)(c:Lq u)(po:aG (ay G (aq G (d+12)) cK B ⟨lA u n,eX H dd.last n,n+14⟩) R):
 aG (ay G (aq G (d+12)) cK (zQ++B) ⟨u,H,n⟩) R:=by
 have cN:=s.cN;have e:∀l:J,l<39->ah H n (U (.range (3:Int).toNat)) l=H l:=λ l h=>ae (I7 cN h)
 have cr:=λ u=>Jt (d:=d) (H:=ah H n (U (.range (3:Int).toNat))) (n:=n+1) (u:=u) (last:=dd.last) ((e 1 aL).trans (s.low 1 _ Y)) ((e 15 aL).trans (s.low 15 _ Y)) ((e 9 aL).trans s.h9) ((Hd cN))
 have A:=(Told.cons c.parents (.cons c.ends .nil)).lay;rw[<-qv (ay ..)];refine ql A (Tk (cf:=aq G (d+12)) (i:=3) aL ag (sM (m:=aI (dG ↥n) λ i=>nE G (aq G (d+12)) cK (.aK (.cW "counter") "fresh" [(.lit .none)]) s!"_" [] i) (v:=↥(n+7)) (λ u=>?_) ag (sN [] (cG _) ag (sN [] (cG _) ag
  (sN [.none,.none,.none] aL ag (sN [] (cG _) ag (sN [] (cG _) ag (sM (λ _=>Mk ..) ag (LL (b:=B) (congrArg (lA · n) A) (by rw[qv];exact po))))))))))
 show(((ah H n _ n).bind (O0 n)).bind _).bind _=_;rw[aa];exact cr u
end
end
section
variable{sc:List Int}{dd:Sd}{S H:Hp}{n kc kp d:J}{cur:Bool}{R:Fl->Lc->Hp->J->Prop}{u:Lc}{B:List TS}
noncomputable def L0(n:J):Tag->J
 |.heap=>9|.zero=>10|.b9=>7|.ax=>11|.cb=>13|.bw=>n+8|.bO=>n+13|.aV=>n+10|.bh=>n+11|.bu=>n+12|.cache=>31|.dQ=>32
 |.aU j=>n+1+2*j
 |.aD _=>0|.items _=>0
noncomputable def X0(dd:Sd)(n:J):Fx:=⟨↥8,15,16,14,37,38,L0 n,td dd.cd,Ov dd.pn⟩
noncomputable def D0(dd:Sd):Co:={last:=dd.last+3,zero:=[],nt:=0,th:=λ _=>⟨aj,0,0,.none,aj,aj,[],[]⟩,ns:=3,sc:=λ j=>⟨dd.last+1+j,1,aj,F⟩,ax:=[],b9:=dd.i,av:=[],bA:=[F,F,F],cO:=[],dH:=[]}
noncomputable def P0(n:J):Pt:={L:=L0 n,ir:=λ _=>0,iu:=λ j=>n+2+2*j,rl:=λ _=>0,cl:=[],dZ:=n+9,bA:=[],cg:=-1,ct:=[]}
noncomputable def K0(dd:Sd):Kx:={cr:=5,co:=4,cn:=3,cc:=2,aE:=19,hp:=9,b:=20,sth:=17,own:=12,ow:=dd.ow,gl:=18,es:=dd.es,gen:=dd.gen,pf:=vk dd.pn,dJ:=qh,nm:=dr,out:=rt dd.pn,dI:=d9 dd.pn dd.ends}
noncomputable def rS:List J:=[1,2,3,4,5,6,12,14,15,16,17,18,19,33,34,35,36,37,38]
noncomputable def Ls(n:J):List J:=[n+2,n+4,n+6,n+7,n+9]
noncomputable def S0(S H:Hp)(n:J):Hp:=λ l=>if l∈rS\/l∈Ls n then H l else if l<n then S l else F
theorem JT(h:l∈rS):S0 S H n l=H l:=by unfold S0;rw[if_pos (.inl h)]
theorem Ld(h:l∈Ls n):S0 S H n l=H l:=by unfold S0;rw[if_pos (.inr h)]
theorem nB(hn:39<=n)(L:l<n)(h9:l≠9):eX H last n l=H l:=by unfold eX Tb;rw[ae (abV L),ae (acD L),ae (adK L),ae (aeV L),ae (acw L),ae (adz L),ae (adY L),hM ((Q5 hn)) ((acP L)) h9,hM ((VJ hn)) ((aeM L)) h9,hM ((aca hn)) ((adG L)) h9,ae (acI L)]
theorem Wp(hn:39<=n):eX H last n 9=U (aX ↥8 (last+3) 10):=by unfold eX Tb;rw[ae Uu,ae Z3,ae Xk,ae WA,ae (UY hn),ae (ZN hn),ae (UL hn),SX ((IF hn))];rw[show last+1+1+1=last+3 from abL]
theorem zH(hn:39<=n):eX H last n (n+8)=U ⇑[]/\eX H last n (n+9)=U ⇑[]/\eX H last n (n+10)=U ⇑[.none,.none,.none]/\eX H last n (n+11)=U ⇑[]/\eX H last n (n+12)=U ⇑[]/\eX H last n (n+13)=U (OH n)/\eX H last n (n+7)=U ⇑[↥(n+1),↥(n+3),↥(n+5)]:=by
 unfold eX Tb;have a:∀i j:J,i≠j->n+i≠n+j:=λ i j h=>(XY h)
 refine acu ?_ ?_ ?_ ?_ ?_ ?_ ?_
 .rw[ae (a _ _ aL),ae (a _ _ aL),ae (a _ _ aL),ae (a _ _ aL),ae (a _ _ aL),aa]
 .rw[ae (a _ _ aL),ae (a _ _ aL),ae (a _ _ aL),ae (a _ _ aL),aa]
 .rw[ae (a _ _ aL),ae (a _ _ aL),ae (a _ _ aL),aa]
 .rw[ae (a _ _ aL),ae (a _ _ aL),aa]
 .rw[ae (a _ _ aL),aa]
 .rw[aa]
 .rw[ae (a _ _ aL),ae (a _ _ aL),ae (a _ _ aL),ae (a _ _ aL),ae (a _ _ aL),ae (a _ _ aL),show n+1+6=n+7 from rfl,aa]
theorem Hi(hn:39<=n)(L:l<n+7):eX H last n l=qw (qw (qw (ah H n (U (.range 3))) last (n+1)) (last+1) (n+1+2)) (last+1+1) (n+1+4) l:=by unfold eX Tb;rw[ae (adu L),ae (acV L),ae (aff L),ae (acX L),ae (adj L),ae (adl L),ae (adT L)]
theorem HU(hn:39<=n)(E:j<3):eX H last n (n+1+2*j)=U (TO (last+1+j) 1 .none (n+2+2*j) aj aj (.nR .none))/\eX H last n (n+2+2*j)=U ⇑[]:=by
 rw[Hi hn ((acH E)),Hi hn ((adg E))];refine To E ?_ ?_ ?_
 .constructor
  .rw[hM ((Q5 hn)) (by show n+1<_;exact abH) (by show n+1≠9;exact ZC hn),hM ((VJ hn)) (by show n+1<_;exact adE) (by show n+1≠9;exact ZC hn)];rw[show n+1+2*0=n+1 from rfl,RX,show last+1+((0:J):Int)=last+1 from abY];rfl
  .rw[hM ((IF hn)) (by show n+2<_;exact Un) (by show n+2≠9;exact Pa hn),hM ((WH hn)) (by show n+2<_;exact WB) (by show n+2≠9;exact Pa hn)];exact Ky
 .constructor
  .rw[hM ((IF hn)) (by show n+3<_;exact TP) (by show n+3≠9;exact Zf hn)];exact RX
  .rw[hM ((Q5 hn)) (by show n+4<_;exact abX) (by show n+4≠9;exact aeW hn)];exact Ky
 .constructor
  .rw[show last+1+((2:J):Int)=last+1+1+1 from afd];exact RX
  .exact Ky
def live:Tag->be
 |.aD _|.items _=>False
 |.aU j=>j<3
 |_=>True
noncomputable def qg:Tag->bG
 |.heap|.zero|.b9|.ax|.cb|.cache|.dQ=>ai
 |_=>aj
noncomputable def pQ:Tag->J
 |.heap=>9|.zero=>10|.b9=>7|.ax=>11|.cb=>13|.bw=>8|.bO=>13|.aV=>10|.bh=>11|.bu=>12|.cache=>31|.dQ=>32
 |.aU j=>1+2*j
 |.aD _=>0|.items _=>0
noncomputable def Ub:bG->J->Tag
 |true,l=>if l=9 then .heap else if l=10 then .zero else if l=7 then .b9 else if l=11 then .ax else if l=13 then .cb else if l=31 then .cache else .dQ
 |false,l=>if l=8 then .bw else if l=13 then .bO else if l=10 then .aV else if l=11 then .bh else if l=12 then .bu else if l=1 then .aU 0 else if l=3 then .aU 1 else .aU 2
theorem Dd(t:Tag)(h:live t):Ub (qg t) (pQ t)=t:=by
 cases t with
 |aU j=>exact To (C:=λ j=>Ub (qg (.aU j)) (pQ (.aU j))=.aU j) h Y Y Y
 |_=>first|rfl|exact rN h
theorem w8:∀t,live t->L0 n t=(if qg t then 0 else n)+pQ t/\pQ t<39
 |.heap,_=>⟨Y,aL⟩|.zero,_=>⟨Y,aL⟩|.b9,_=>⟨Y,aL⟩|.ax,_=>⟨Y,aL⟩|.cb,_=>⟨Y,aL⟩|.bw,_=>⟨Y,aL⟩|.bO,_=>⟨Y,aL⟩|.aV,_=>⟨Y,aL⟩|.bh,_=>⟨Y,aL⟩|.bu,_=>⟨Y,aL⟩|.cache,_=>⟨Y,aL⟩|.dQ,_=>⟨Y,aL⟩
 |.aU j,h=>⟨lB ..,by have:j<3:=h;show 1+2*j<39;exact VM this⟩
theorem Rd(hn:39<=n)(ht:live t)(p:live I)(e:L0 n t=L0 n I):t=I:=by
 obtain a|m:=w8 (n:=n) t ht;obtain b|i:=w8 (n:=n) I p;rw[a,b]at e;have h:qg t=qg I/\pQ t=pQ I:=by
  cases h1:qg t<;>cases h2:qg I<;>simp only[h1,h2,d0,↓reduceIte]at e
  .exact⟨Y,(YC e)⟩
  .exact aez hn e i
  .exact afg e hn m
  .exact⟨Y,(XH e)⟩
 rw[<-Dd t ht,<-Dd I p,h.1,h.2]
theorem k0(h:cont (X0 dd n) (D0 dd) (P0 n) t=U o):live t:=by
 cases t with
 |aD k=>exact absurd h (by simp[cont,D0])
 |items k=>exact absurd h (by simp[cont,D0])
 |aU j=>
  show j<3;by_cases e:j<3
  .exact e
  .exact absurd h (by simp[cont,D0,e])
 |_=>trivial
theorem Nm(hn:39<=n)(ht:live t):L0 n t∉rS/\L0 n t∉Ls n/\(L0 n t<n->L0 n t<39):=by
 obtain a|m:=w8 (n:=n) t ht;cases L:qg t with
 |true=>
  rw[L]at a;have e:L0 n t=pQ t:=by rw[a];show 0+_=_;exact ZH
  refine cY ?_ ?_ (λ _=>(aaV m e))
  .rw[e];have h:∀t,live t->qg t=ai->pQ t∉rS:=λ t ht L=>by cases t<;>first|(show _∉rS;decide)|cases L
   exact h t ht L
  .rw[e];intro h;simp only[Ls,dK,eI,or_false]at h;exact Vg h m hn
 |false=>
  rw[L]at a;have e:L0 n t=n+pQ t:=a;refine cY ?_ ?_ (λ _=>by omega)
  .rw[e];intro h;have:∀x∈rS,x<39:=by decide
   have:=this _ h;exact Vm hn this
  .rw[e];intro h;have h1:pQ t∈[2,4,6,7,9]:=by simp only[Ls,dK,eI,or_false,Nat.add_left_cancel_iff]at h⊢;exact h
   have h:∀t,live t->qg t=aj->pQ t∉[2,4,6,7,9]:=λ t ht L=>by
    cases t with
    |aU j=>have:j<3:=ht;show 1+2*j∉_;exact To this aL aL aL
    |aD k=>exact ht.elim
    |items k=>exact ht.elim
    |_=>first|(show _∉[2,4,6,7,9];decide)|cases L
   exact h t ht L h1
theorem aes(s:Su sc dd S H n 4 4 aj):W (S0 S (eX H dd.last n) n) (P0 n).L (cont (X0 dd n) (D0 dd) (P0 n)) (eX H dd.last n) (n+14):=by
 have cN:=s.cN;have g:∀x∈rS,x<39:=by decide
 obtain q|r|f|a|m|c|w:=zH (H:=H) (last:=dd.last) cN;have low:∀l o,wf sc l=U o->l≠9->eX H dd.last n l=U o:=λ l o h h9=>by have:=vz h;rw[nB cN ((uz cN this)) h9];exact s.low l o h
 refine⟨λ l o h=>?_,λ t o h=>?_,λ l o t o' h h' e=>?_,λ t I o o' h h' e=>Rd cN (k0 h) (k0 h') e⟩
 .unfold S0 at h;split at h
  .rename_i hc;refine⟨?_,h⟩;rcases hc with hc|hc
   .have:=g l hc;exact Wm cN this
   .simp only[Ls,dK,eI,or_false]at hc;exact W3 hc
  .split at h
   .have:=s.N l o h;exact⟨(acA this),by rw[nB cN this.2.1 ((NX this))];exact this.2.2⟩
   .cases h
 .have z:=k0 h;obtain b|i:=w8 (n:=n) t z;refine⟨?_,?_⟩
  .show L0 n t<n+14;rw[b];have:qg t=ai\/pQ t<14:=by
    cases t with
    |aU j=>have:j<3:=z;right;show 1+2*j<14;exact YT this
    |aD k=>exact z.elim
    |items k=>exact z.elim
    |_=>first|(left;rfl)|(right;decide)
   rcases this with h|h
   .rw[h];show 0+_<_;exact Zo cN i
   .cases qg t
    .show n+_<_;exact Yb h
    .show 0+_<_;exact aaQ h
  .rw[<-h];show eX H dd.last n (L0 n t)=_;cases t with
   |heap=>exact Wp cN
   |zero=>exact low 10 _ Y aL
   |b9=>rw[show L0 n .b9=7 from rfl,nB cN ((Pk cN)) aL];exact s.h7
   |ax=>exact low 11 _ Y aL
   |cb=>exact low 13 _ Y aL
   |bw=>exact q
   |bO=>exact c
   |aV=>exact f
   |bh=>exact a
   |bu=>exact m
   |cache=>exact low 31 _ Y aL
   |dQ=>exact low 32 _ Y aL
   |aD k=>exact z.elim
   |items k=>exact z.elim
   |aU j=>have E:j<3:=z;rw[show cont (X0 dd n) (D0 dd) (P0 n) (.aU j)=U (TO (dd.last+1+j) 1 .none (n+2+2*j) aj aj (.nR .none))from if_pos E];exact(HU cN E).1
 .obtain f1|f2|v:=Nm cN (k0 h');have e:l=L0 n t:=e;subst e;unfold S0 at h;rw[if_neg (by rintro(h|h);exact f1 h;exact f2 h)]at h;split at h
  .rename_i p;have:=s.N _ o h;have:=v p;omega
  .cases h
theorem hr(s:Su sc dd S H n 4 4 aj)(L:l∈rS)(h:wf sc l=U o)(h9:l≠9):S0 S (eX H dd.last n) n l=U o:=by have cN:=s.cN;have:=vz h;rw[JT L,nB cN ((uz cN this)) h9];exact s.low l o h
theorem xD(s:Su sc dd S H n 4 4 aj)(L:l∈rS)(a:l<39)(h9:l≠9)(h:H l=U o):S0 S (eX H dd.last n) n l=U o:=by have cN:=s.cN;rw[JT L,nB cN ((uz cN a)) h9];exact h
theorem FN(s:Su sc dd S H n 4 4 aj):Ge S (S0 S (eX H dd.last n) n):=by
 have cN:=s.cN;intro l o h;have:=s.N l o h;have g:∀x∈rS,x<39:=by decide
 unfold S0;rw[if_neg ?_,if_pos this.2.1]
 .exact h
 .rintro(h|h)
  .have:=g l h;omega
  .simp only[Ls,dK,eI,or_false]at h;exact aeN h this
theorem Su.XU(s:Su sc dd S H n 4 4 aj):D1 dd.pn:=⟨λ i _=>s.JJ i,λ i _=>s.Lm i⟩
theorem Yd(s:Su sc dd S H n 4 4 aj):Wd (X0 dd n) (D0 dd) (P0 n) (S0 S (eX H dd.last n) n) (eX H dd.last n) (n+14):=by
 have cN:=s.cN;obtain q|r|f|a|m|t|w:=zH (H:=H) (last:=dd.last) cN;refine⟨aes s,hr s (l:=15) aL Y aL,hr s (l:=16) aL Y aL,λ k C=>absurd C (nq k),λ j E=>?_,λ j E k C=>(by cases C),trivial,?_,trivial,λ _ _=>rfl,⟨λ e P=>(by cases P),fJ,λ e P=>(by cases P),λ _ _ P=>(by cases P)⟩⟩
 .have E:j<3:=E;show S0 S _ n (n+2+2*j)=_;rw[Ld,(HU cN E).2];simp only[Ls,dK,eI,or_false];exact Xr E
 .show S0 S _ n (n+9)=_;rw[Ld,r];rfl;simp[Ls]
theorem KR(s:Su sc dd S H n 4 4 aj):jF (S0 S (eX H dd.last n) n) n 17 18 dd.es dd.gen (vk dd.pn) (td dd.cd) qh:=by
 have cN:=s.cN;have Wf:∀x:af,(∀i,i<4->x≠dn i/\x≠tc i)->atK dd.es (.str x)=F:=λ x g=>by
  refine lR λ e P h=>?_
  rcases s.keys e P with⟨i,hi,h2⟩|⟨i,hi,h2⟩
  .rw[h2]at h;exact(g i ((OF hi))).1 (aJ.str.inj h).symm
  .rw[h2]at h;exact(g i (by simp at hi;exact OF hi)).2 (aJ.str.inj h).symm
 refine⟨⟨⟨9,xD s aL aL aL s.zN⟩,xD s aL aL aL s.zh,s.strs,(Cw cN),(Cg cN)⟩,λ p hp=>?_⟩;have ok:=s.XU;have cls:∀j,j<4->(dr j).length<=100/\sY (S0 S (eX H dd.last n) n) n dd.es (dr j) (vk dd.pn (dr j))/\(∀x∈vk dd.pn (dr j),x∈qh)/\pe (S0 S (eX H dd.last n) n) n dd.es (dr j) (td dd.cd (dr j)):=by intro j E;have Q:vk dd.pn (dr j)=(dd.pn j).map dr:=jb _ _ E;have w:td dd.cd (dr j)=dd.cd j:=jb _ _ E;rw[Q,w];refine xp ((A4 j E).2.2) ((s.par j E).ext (FN s) (aS _) Y) (λ x g=>?_) ((s.nP j E).ext (FN s) (aS _) Y);obtain i|hi|rfl:=bI.mp g;exact zv (by have:=s.JJ j i hi;exact fE E this)
 simp only[qh,dK,eI,or_false]at hp;rcases hp with rfl|rfl|rfl|rfl|rfl
 .exact cls 0 aL
 .exact cls 1 aL
 .exact cls 2 aL
 .exact cls 3 aL
 .have Q:vk dd.pn s!"UNIVERSAL"=[]:=nJ _ _;have w:td dd.cd s!"UNIVERSAL"=F:=nJ _ _;rw[Q,w];refine xp (by decide+kernel) ⟨aL,.inl ⟨Wf _ Ss,Y⟩⟩ (λ x g=>(by cases g)) (.inl ⟨Wf _ U4,Y⟩)
theorem R7(s:Su sc dd S H n 4 4 aj):pS (X0 dd n) (K0 dd) (S0 S (eX H dd.last n) n):=by
 have cN:=s.cN;have ok:=s.XU;refine⟨hr s (l:=14) aL Y aL,hr s (l:=5) aL Y aL,hr s (l:=19) aL Y aL,hr s (l:=4) aL Y aL,xD s (l:=12) aL aL aL s.N7,s.ints,hr s (l:=3) aL Y aL,hr s (l:=2) aL Y aL,λ H' n' g=>(KR s).into g,by show _∈qh;simp[qh],nJ (λ i=>(dd.pn i).map dr) [],by show(Ov dd.pn).length<=100;unfold Ov;rw[bS];decide,λ c hc=>zv hc,λ c hc=>R2 ok hc,λ c hc=>?_⟩;have P:∀i,i<4->((dd.cd i).isSome=ai↔i∈dd.ends):=λ i _=>s.iff i
 have es:=vm ok P hc;cases h:d9 dd.pn dd.ends c with
 |none=>rw[h]at es;exact .inl ⟨es,h⟩
 |some i=>
  obtain hi|hm:=IE ok hc h;have h2:=(s.iff i).mpr hm;cases e:dd.cd i with
  |none=>rw[e]at h2;cases h2
  |some a=>
   obtain _|num|aC|bl|wk|ds|fr|b|k|A|r:=s.MU i a e;rw[h]at es;have es:ch (td dd.cd) (rt dd.pn c++[s!"UNIVERSAL"])=(dd.cd i).map λ a=>(a,dr i):=es
   rw[e]at es;exact .inr ⟨a,dr i,num,aC,bl,wk,ds,fr,b,k,i,es,FN s _ _ A,r,h⟩
theorem LP(s:Su sc dd S H n 4 4 aj):iP (X0 dd n) (S0 S (eX H dd.last n) n) [33,34,35,36] dd.pn dd.ends:=by
 refine⟨λ H' n' g=>?_,xD s (l:=38) aL aL aL s.Kd⟩;have h:=g _ _ (hr s (l:=37) aL Y aL);refine⟨h.2,h.1,Y,λ i hi=>?_,λ i hi=>s.JJ i,λ i hi=>s.Lm i⟩;have hm:33+i∈rS:=by exact ltD hi aL aL aL aL
 have:=g _ _ (xD s hm ((HK hi)) (yz) (s.hp i hi));refine cC (33+i) ?_ this;exact ltD hi Y Y Y Y
theorem ZU(s:Su sc dd S H n 4 4 aj):Lw (X0 dd n) (K0 dd) (S0 S (eX H dd.last n) n) 1 6 (n+7) sc:=by have cN:=s.cN;obtain q|r|f|a|m|t|w:=zH (H:=H) (last:=dd.last) cN;refine⟨hr s aL Y aL,hr s aL Y aL,s.Nx,?_⟩;rw[Ld (by simp[Ls]),w];rfl
theorem ZE(c:Lq u):Ln (X0 dd n) (lA u n) 6 (n+7):=by
 have e:∀x:af,x≠s!"places"->x≠s!"things"->x≠s!"book"->lA u n x=u x:=λ x h1 h2 I=>by unfold lA;rw[ae I,ae h2,ae h1]
 refine⟨(e _ (ne_str aL) (ne_str aL) (ne_str aL)).trans c.xe,(e _ (ne_str aL) (ne_str aL) (ne_str aL)).trans c.b9,(e _ (ne_str aL) (ne_str aL) (ne_str aL)).trans c.heap,?_,?_,?_⟩
 .unfold lA;rw[ae (ne_str aL),aa];rfl
 .unfold lA;rw[aa];rfl
 .unfold lA;rw[ae (ne_str aL),ae (ne_str aL),aa]
theorem Wv:Ti (K0 dd) (D0 dd) 0:=by
 have na:∀{P:J->be},∀k∈(D0 dd).av,P k:=λ k C=>by cases C
 have nt:∀{P:J->be},∀k,k<(D0 dd).nt->P k:=λ k C=>absurd C (nq k)
 refine⟨⟨List.Pairwise.nil,na,nt,na,na,na,λ a b _ h=>absurd h (nq b),λ a b h _=>?_,na,na,na,fJ,fJ,λ j E=>(by cases E),na,by show 0+0<=50;decide,by show 0+0<=60;decide⟩,⟨Y,λ j E=>⟨Y,Y,?_⟩,by show 3<=3;decide,Y,Y,by show 0<=7;decide,λ k C=>?_,na,na,nt,nt,λ j E=>?_,na,by show 0<=0;decide,by show 0+0<=0;decide,na⟩,Y,na⟩
 .show dd.last+1+(a:Int)<dd.last+1+(b:Int);exact UF h
 .match j,E with
  |0,_=>rfl
  |1,_=>rfl
  |2,_=>rfl
 .simp[D0]at C
 .have E:j<3:=E;show dd.last+1+(j:Int)<=dd.last+3;exact XT E
theorem JS(s:Su sc dd S H n 0 0 aj)(c:Lq u):aG (ay G (aq G (d+12)) cK (Lh::(zQ++I8)) ⟨u,H,n⟩) (λ fl _ _ _=>fl=.ret (.bool ai)):=by
 refine Ex s c λ y H' n' X A L f=>?_
 refine D6 L f ?_;have e:lA A n' s!"told"=U (.int 0):=by unfold lA;rw[ae (ne_str aL),ae (ne_str aL),ae (ne_str aL)];exact f.kj
 exact F3 (K:=K0 X) (cc:=1) (i:=X.i) Wv (λ _ _=>rfl) (Yd L) (R7 L) (ZU L) (ZE f) (LP L) (λ _ _=>rfl) e Y
end
section
open Tr
section
variable{d:J}
noncomputable def lcA(ls:ao):Lc:=ah (λ _=>F) s!"script" (U (.con ↥ls))
noncomputable def HA:Hp:=ah (ah (ah (ah (ah (λ _=>F) 1 (U (.cell F))) 2 (U (.cell F))) 3 (U (.cell F))) 4 (U (.cell F))) 5 (U (.cell F))
noncomputable def stZ(x:Option (Fl×St)):St:=match x with
 |some p=>p.2
 |none=>⟨λ _=>F,λ _=>F,0⟩
noncomputable def EW(d:J)(sc:List Int)(ls:ao):St:=stZ (ay G (aq G (d+12)) cK (A6.drop 1) ⟨ah (lcA ls) s!"script" (U ↥6),ah HA 6 (U ⇑((sc.take 56).map V.int)),7⟩)
theorem NO{sc:List Int}:ay G (aq G (d+12)) cK (A6.drop 1) ⟨ah (lcA ls) s!"script" (U ↥6),ah HA 6 (U ⇑((sc.take 56).map V.int)),7⟩=U (.next,⟨(EW d sc ls).loc,(EW d sc ls).H,14⟩):=ag
noncomputable def lcC(d:J)(sc:List Int)(ls:ao):Lc:=ah (EW d sc ls).loc s!"_law_destroy" (U ↥14)
noncomputable def HC(d:J)(sc:List Int)(ls:ao):Hp:=ah (EW d sc ls).H 14 (U (.iS (wC 5 4 3 2)))
noncomputable def Ks:List TS:=[.asg (.cW "counter") (.call (.lit #[487]) [(.loc "heap"),(.loc "_law_destroy")]),
 .asg (.cW "run") (.call (.lit #[508]) [(.loc "heap"),(.cW "counter"),(.call (.lit #[593]) [(.loc "heap")]),(.loc "limits")]),
 .bz (.cW "run") "methods" (.call (.lit #[353]) []),
 .asg (.loc "parents") ⇑[⇑[],⇑[],⇑[],⇑[]],
 .asg (.loc "ends") ⇑[]]
theorem post_eq:m8=Ks++(Lh::(zQ++I8)):=rfl
theorem Hk{cf:V->List V->M V}{b:List TS}:∀(a:List TS)(N:St),ay G cf cs (a++b) N=(ay G cf cs a N).bind (K cf cs b)
 |[],_=>rfl
 |s::a,⟨u,H,n⟩=>by
  rw[Bl,nv,nv,Option.bind_assoc];congr 1;funext ⟨fl,N⟩;cases fl with
  |next=>exact Hk a N
  |_=>rfl
theorem IZ{H:Hp}{L:List (J×O)}(e:L.map (λ p=>H p.1)=L.map λ p=>U p.2):AllP (λ l o=>H l=U o) L:=by
 induction L with
 |nil=>trivial
 |cons p L X=>exact⟨(lS e).1,X (lS e).2⟩
noncomputable def Ij(d:J)(sc:List Int)(ls:ao):St:=stZ (ay G (aq G (d+12)) cK Ks ⟨lcC d sc ls,HC d sc ls,15⟩)
theorem JE{sc:List Int}{ls:ao}(i:sc.length<=63):aG (ay G (aq G (d+12)) cK m8 ⟨lcC d sc ls,HC d sc ls,15⟩) λ fl _ _ _=>fl=.ret (.bool ai):=by
 rw[post_eq,Hk,show ay G (aq G (d+12)) cK Ks ⟨lcC d sc ls,HC d sc ls,15⟩=U (.next,⟨(Ij d sc ls).loc,(Ij d sc ls).H,39⟩) by kernel_rfl,eT,Qr];refine JS (sc:=sc.take 56) (d:=d) (dd:=⟨0,0,0,[],[],λ _=>[],[],λ _=>F⟩) (S:=λ _=>F) ⟨aS _,aL,aL,?_,λ l o h=>N0 (IZ ag) h,ag,ag,ag,ag,ag,λ j E=>?_,ag,λ l o h=>(by cases h),λ e P=>(by cases P),aL,λ j E=>absurd E (nq j),λ j E=>absurd E (nq j),λ j a h=>(by cases h),λ j=>⟨λ h=>(by cases h),λ h=>(by cases h)⟩,λ e P=>(by cases P),aL,aL,λ j p hp=>(by cases hp),λ j=>cG 2,λ _ _=>rfl⟩ (.of ag)
 .rw[nx];exact T7
 .match j,E with
  |0,_=>kernel_rfl
  |1,_=>kernel_rfl
  |2,_=>kernel_rfl
  |3,_=>kernel_rfl
end
end
end Q
section
open PySem.W PyProof.Rows PySem.Spec PySem.Calls
noncomputable abbrev i8:el:=R8
noncomputable def x4(a:fx->rc->Option (fx×rc))(ok:rc->bG):J->fx->rc->Option fx
 |0,_,_=>F
 |n+1,s,t=>match through t with
  |true=>U s
  |false=>match ok t with
   |false=>F
   |true=>match a s t with
    |some (L,t')=>x4 a ok n L t'
    |none=>F
theorem Cm{i:String->Option Builtin}{p:el}{w:cj}{a:J}{b:Option al}:∀{n:J}{s L:fx}{t:rc},x4 (stepT (denote i) p w) (stepOk a b) n s t=U L->topRun i p w a b n s.abs t=U L.abs
 |0,_,_,_,h=>by cases h
 |n+1,s,L,t,h=>by
  unfold x4 at h;unfold topRun;cases P:through t with
  |true=>rw[P]at h;cases h;rfl
  |false=>
   rw[P]at h;cases C:stepOk a b t with
   |false=>rw[C]at h;cases h
   |true=>
    rw[C]at h;cases hs:stepT (denote i) p w s t with
    |none=>rw[hs]at h;cases h
    |some r=>obtain z|c:=r;rw[hs]at h;rw[stepT_spec hs];exact Cm h
theorem Oi{p:el}{nNn:J}{h0:Heap}{f:Drawn}{o g:J}{b:Option al}{w:cj}{a:aN->be}
 (op:(fencedOpening iO p w nNn).map (λ s=>(s.heap,s.gens,s.drawn,s.toks))=U (h0,#[],f,o))
 (size:(h0.isNs fv&&(#[]:Array GenState).size==0,h0.objs.size,h0.nsMap fv "__annotations__")=(ai,g,b))
 (aE:∀os,∃S,topRun iO p w g b nNn ⟨h0,#[],f,o,os⟩ (topStub p)=U S/\(staticsOk (oJ p.main.body) h0 S.heap&&AL p S.heap&&gensDone S&&laidKept h0 S.heap)=ai/\a S):
 ∃S,oH iO p w nNn=U S/\a S:=by
 obtain⟨h,i,d,k,os⟩|e|e':=mG.mp op;obtain⟨rfl,rfl,rfl,rfl⟩:h=h0/\i=#[]/\d=f/\k=o:=by simpa using e'
 obtain⟨B,z,H⟩:_/\_/\_:=by simpa only[Prod.mk.injEq]using size
 obtain S|r|l|c:=aE os;refine⟨S,?_,c⟩;unfold oH;rw[e];show topFrom iO p w nNn _=_;unfold topFrom;dsimp only;rw[B,z,H,r];show(match staticsOk (oJ p.main.body) h S.heap&&AL p S.heap&&gensDone S&&laidKept h S.heap with|true=>_|false=>_)=_;rw[l]
noncomputable def x6(p:el)(w:cj)(nNn:J):Heap:=match oH iO p w nNn with|some S=>S.heap|none=>⟨#[],{}⟩
theorem Mx{p q:el}{l:List af}{a:aN->bG}{nNn:J}(h:∀w,∃S,oH iO p w nNn=U S/\openSeen q l (oJ p.main.body) a ai S=vH q l):
 LeftO p q l a (λ s=>s.heap) (λ w=>x6 p w nNn) nNn:=λ w=>by
 obtain S|e|c:=h w;show _=U (vH q l,x6 p w nNn);unfold x6;rw[e];exact congrArg (λ x=>U (x,S.heap)) c
noncomputable def toT:List b8->J->BT->BT
 |[],_,t=>t
 |o::r,i,t=>toT r (i+1) (t.ins i o)
noncomputable def K3(w:cj)(os:iL):fx:=⟨toT (iA w.params).objs.toList 0 .nil,(iA w.params).objs.size,(iA w.params).life,#[],BH,boot_toks,os⟩
noncomputable def ri(n:J)(w:cj)(os:iL):Option fx:=x4 (Fast.tw10156331382660048174 (Fast.tw11892475500146522536 Fast.tw14364793385576792824) i8 w) (Fast.tw6613529449190102663 11 (U ↥6)) n (K3 w os) (topStub i8)
noncomputable def Fk:el:={i8 with main:={i8.main with body:=[i8.main.body[53]!]}}
noncomputable def oF:List af:=i8.boundNames.dropLast
noncomputable def hTF(w:cj)(os:iL):fx:=match ri 6000 w os with|some S=>S|none=>K3 w os
noncomputable def QQ(w:cj)(S:fx):bG:=staticsOk (oJ i8.main.body) (iA w.params) S.abs.heap&&AL i8 S.abs.heap&&gensDone S.abs&&laidKept (iA w.params) S.abs.heap
theorem L9(w:cj)(os:iL):(ri 6000 w os).bind (λ S=>match QQ w S with|true=>U (Fast.tw4187177175401517315 Fk oF (oJ i8.main.body) (λ _=>ai) ai S.abs)|false=>F)=U (vH Fk oF):=ag
theorem MG(w:cj)(os:iL):(K3 w os).abs=⟨iA w.params,#[],BH,boot_toks,os⟩:=ag
theorem Uq(w:cj):((iA w.params).isNs fv&&(#[]:Array GenState).size==0,(iA w.params).objs.size,(iA w.params).nsMap fv "__annotations__")=(ai,11,U ↥6):=ag
theorem YO(w:cj):(fencedOpening iO i8 w 6000).map (λ s=>(s.heap,s.gens,s.drawn,s.toks))=U (iA w.params,#[],BH,boot_toks):=boot_open ag (by decide+kernel) (λ s=>by kernel_rfl) w
theorem yL(w:cj):∃S,oH iO i8 w 6000=U S/\∃os T,ri 6000 w os=U T/\S=T.abs/\openSeen Fk oF (oJ i8.main.body) (λ _=>ai) ai S=vH Fk oF:=
 Oi (YO w) (Uq w) λ os=>by
  obtain S|H|m:=pM.mp (L9 w os);have hc:QQ w S=ai:=by
   cases hc:QQ w S with
   |true=>rfl
   |false=>rw[hc]at m;cases m
  rw[hc]at m;have a:x4 (stepT (denote iO) i8 w) (stepOk 11 (U ↥6)) 6000 (K3 w os) (topStub i8)=U S:=by rw[Fast.te10156331382660048174,Fast.te11892475500146522536,Fast.te14364793385576792824,Fast.te6613529449190102663];exact H
  have r:=Cm a;rw[MG]at r;exact⟨S.abs,r,hc,os,S,H,Y,by rw[Fast.te4187177175401517315];exact dT m⟩
theorem U5:LeftO i8 Fk oF (λ _=>ai) (λ s=>s.heap) (λ w=>x6 i8 w 6000) 6000:=Mx λ w=>by obtain S|e|os|T|_|_|c:=yL w;exact⟨S,e,c⟩
end
section
open PySem.W PyProof.Rows PySem.Spec PySem.Calls
noncomputable def Sk:List ao:=dU.flatMap (λ c=>[c,c -1])++(2::(kS.flatMap λ f=>[f,f -1])++[152,520,647,646])
noncomputable def KF(T:fx):W.Frag:=Sk.filterMap λ a=>match Nat.blt a T.n with
 |true=>(T.tree.get a).bind λ o=>(AT o).map λ o=>(a,o)
 |false=>F
theorem iV{T:fx}{a:ao}{o:b8}:∀{l:List ao},ro a (l.filterMap λ a=>match Nat.blt a T.n with
 |true=>(T.tree.get a).bind λ o=>(AT o).map λ o=>(a,o)
 |false=>F)=U o->T.abs.heap.get? a=U o
 |[],h=>by cases h
 |b::r,h=>by
  rw[jI]at h;cases e:Nat.blt b T.n with
  |false=>rw[e]at h;exact iV h
  |true=>
   rw[e]at h;dsimp only at h;cases Q:T.tree.get b with
   |none=>rw[Q]at h;exact iV h
   |some j=>
    rw[Q]at h;cases w:AT j with
    |none=>simp only[eT,w,Option.map_none]at h;exact iV h
    |some B=>
     simp only[eT,w,pC,fG]at h;cases f:a==b with
     |false=>rw[f]at h;exact iV h
     |true=>rw[f]at h;cases h;rw[beq_iff_eq]at f;subst f;exact(abs_get (Ao e) Q).trans w
theorem PQ(T:fx):(KF T).In T.abs.heap:=λ _ _ h=>iV h
noncomputable abbrev Yl:=bG×Option (Option al)×Option (Option al)×Option (Option al)×Option (Option al)×List (Option (Option al))×List (Option (Option al)×Option al)×Option (Option al)×Option CFound×Option (Option al)×Option bG×Option al
noncomputable def Hu(K:W.Frag)(c:ao)(S:Fp):Yl:=
 (makesIn K c&&(hasDictIn K c&&(plainOver K c&&(keepIn K ↥c&&(readsIn K c (.type "type")&&(isNotIn K "NoneType" c&&isNotIn K "str" c))))),
  l0 K ↥c "__init__",l0 K ↥c "__setattr__",l0 K ↥c "__getattribute__",l0 K ↥c "__getattr__",S.fields.map (l0 K ↥c),
  S.meths.map (λ p=>(l0 K ↥c p.1,typeIn K ↥p.2)),specialIn K ↥c "__getattribute__",findCls K ↥c (.type "type") "__init__",l0 K ↥c "__class__",mroIn K c (.type "object"),typeIn K ↥S.init)
noncomputable def LZ(S:Fp):Yl:=
 (ai,U (U ↥S.init),U (U (.builtin "object.__setattr__")),U (U (.builtin "object.__getattribute__")),U F,S.fields.map (λ _=>U F),
  S.meths.map (λ p=>(U (U ↥p.2),U (.type "function"))),U (U (.builtin "type.__getattribute__")),U (.val ↥S.init),U (U (.builtin "object.__class__")),U ai,U (.type "function"))
noncomputable def pv(c:ao):Fp:=(G.cls c).getD ⟨0,[],[],[]⟩
theorem aex(w:cj)(os:iL):(ri 6000 w os).map (λ S=>dU.map λ c=>Hu (KF S) c (pv c))=U (dU.map λ c=>LZ (pv c)):=ag
noncomputable def tokOf:al->Tok
 |.int _ t=>t
 |.str _ t=>t
 |_=>0
noncomputable def vB(v:V)(I:al):bG:=match v with
 |.con c=>I==c
 |.none=>I==.none
 |.bool b=>I==.bool b
 |.int i=>I==.int i (tokOf I)
 |.str s=>I==.str s (tokOf I)
 |.ref _=>aj
noncomputable def VB(l:List V)(r:List al):bG:=l.length==r.length&&(l.zip r).all λ p=>vB p.1 p.2
noncomputable def dfn:Data->Option hA
 |.func fd=>U fd
 |_=>F
noncomputable def dsq:Data->Option (Array al)
 |.seq vs _=>U vs
 |_=>F
noncomputable def stm:FuncBody->Option (List cJ)
 |.stmts b=>U b
 |_=>F
noncomputable def rfo:al->Option ao
 |.ref a=>U a
 |_=>F
noncomputable def dfB(K:W.Frag)(ds:List V)(v:al):bG:=(ds.isEmpty&&v==.none)||((rfo v).bind λ T=>(K.lookup T).bind λ o=>(dsq o.data).bind λ vs=>match VB ds vs.toList with|true=>U ()|false=>F).isSome
noncomputable abbrev FnT:=bG×List (af×ao)×List TS×List (af×bM)×ScopeKind×ao×ao×List mh×Option mh×List mh×Option mh×List af
noncomputable def fnV(K:W.Frag)(a:ao)(fn:Fn):Option FnT:=(K.lookup a).bind λ o=>(dfn o.data).bind λ fd=>(stm fd.body).bind λ b=>U (dfB K fn.jM fd.defaults&&(codeIn K fd.code fd.qualname&&(keepIn K ↥a&&(!fd.scope.isCoroutine&&!fd.scope.isGenerator))),fd.closure,gy G.glob (λ x=>fd.scope.names.lookup x) b,fd.scope.names,fd.scope.kind,fd.globals,fd.builtins,fd.params.posonlyargs,fd.params.vararg,fd.params.kwonlyargs,fd.params.kwarg,fd.params.args.map PySem.Arg.arg)
noncomputable def fnG(fn:Fn):FnT:=(ai,[],fn.body,fn.names,.function,fv,gY,[],F,[],F,fn.params)
noncomputable def fnOf(a:ao):Fn:=(G.fn a).getD ⟨[],[],[],[]⟩
theorem adF(w:cj)(os:iL):(ri 6000 w os).map (λ S=>kS.map λ a=>fnV (KF S) a (fnOf a))=U (kS.map λ a=>U (fnG (fnOf a))):=ag
noncomputable def Mq(K:W.Frag)(D C:ao):bG:=cond ((pv D).sup.contains C) (isIn K ↥D C) (kin_not K D C)
theorem aeI(w:cj)(os:iL):(ri 6000 w os).map (λ S=>dU.all λ D=>dU.all λ C=>Mq (KF S) D C)=U ai:=ag
end
section
open PySem.W PyProof.Rows PySem.Spec PySem.Calls
theorem J0{v:V}{I:al}(h:vB v I=ai)(n:J)(y:Lay):VR n y v I:=by
 cases v with
 |int i=>exact⟨_,eq_of_beq h⟩
 |str s=>exact⟨_,eq_of_beq h⟩
 |ref l=>cases h
 |_=>exact eq_of_beq h
theorem QU{n:J}{y:Lay}{l:List V}:∀{r:List al},l.length=r.length->(l.zip r).all (λ p=>vB p.1 p.2)=ai->dh n y l r:=by
 induction l with
 |nil=>intro r e h;cases r with
  |nil=>trivial
  |cons=>cases e
 |cons v l X=>intro r e h;cases r with
  |nil=>cases e
  |cons I r=>exact⟨J0 (dL.mp h).1 n y,X (vU e) (dL.mp h).2⟩
theorem bL{a b:bG}(h:(a&&b)=ai):a=ai:=(dL.mp h).1
theorem bR{a b:bG}(h:(a&&b)=ai):b=ai:=(dL.mp h).2
theorem bN{a:bG}(h:(!a)=ai):a=aj:=by cases a with
 |true=>cases h
 |false=>rfl
theorem HW{d:Data}{fd:hA}(h:dfn d=U fd):d=.func fd:=by cases d with
 |func f=>cases h;rfl
 |_=>exact aw h
theorem HG{d:Data}{vs:Array al}(h:dsq d=U vs):∃n,d=.seq vs n:=by cases d with
 |seq f n=>cases h;exact⟨n,Y⟩
 |_=>exact aw h
theorem IL{d:FuncBody}{b:List cJ}(h:stm d=U b):d=.stmts b:=by cases d with
 |stmts f=>cases h;rfl
 |_=>exact aw h
theorem IM{v:al}{a:ao}(h:rfo v=U a):v=.ref a:=by cases v with
 |ref f=>cases h;rfl
 |_=>exact aw h
theorem kY{α:Type}{a:ao}{b:α}{L:List (ao×α)}(h:L.lookup a=U b):(a,b)∈L:=by
 induction L with
 |nil=>cases h
 |cons p L X=>
  rw[fG]at h;revert h;cases q:a==p.1 with
  |true=>intro h;cases h;cases eq_of_beq q;exact z6
  |false=>exact λ h=>Jb _ (X h)
theorem lookup_mem{α:Type}{a:ao}{b:α}{L:List (ao×α)}(h:L.lookup a=U b):a∈L.map (·.1):=bI.mpr ⟨_,kY h,Y⟩
theorem rT.of{K:W.Frag}{c:ao}{S:Fp}(e:Hu K c S=LZ S):rT K c S:=
 have f:=congrArg j0 e
 ⟨bL f,congrArg (λ p=>p.2.1) e,bL (bR f),bL (bR (bR f)),congrArg (λ p=>p.2.2.1) e,congrArg (λ p=>p.2.2.2.1) e,congrArg (λ p=>p.2.2.2.2.1) e,wG.mp (congrArg (λ p=>p.2.2.2.2.2.1) e),
  λ p hp=>Prod.mk.inj (wG.mp (congrArg (λ p=>p.2.2.2.2.2.2.1) e) p hp),bL (bR (bR (bR f))),congrArg (λ p=>p.2.2.2.2.2.2.2.1) e,bL (bR (bR (bR (bR f)))),congrArg (λ p=>p.2.2.2.2.2.2.2.2.1) e,congrArg (λ p=>p.2.2.2.2.2.2.2.2.2.1) e,ag,ag,congrArg (λ p=>p.2.2.2.2.2.2.2.2.2.2.1) e,bL (bR (bR (bR (bR (bR f))))),bR (bR (bR (bR (bR (bR f)))))⟩
theorem SI{K:W.Frag}{ds:List V}{v:al}(h:dfB K ds v=ai):(ds=[]/\v=.none)\/∃T o items n,v=.ref T/\K.lookup T=U o/\o.data=.seq items n/\∀n y,dh n y ds items.toList:=by
 rcases Bool.or_eq_true_iff.mp h with h|h
 .exact .inl ⟨IT.mp (bL h),eq_of_beq (bR h)⟩
 .obtain _|h:=qL.mp h;obtain T|h1|h:=fq h;obtain o|h2|h:=fq h;obtain vs|I|h:=fq h;obtain n|I:=HG I;refine .inr ⟨T,o,vs,n,IM h1,h2,I,λ n y=>?_⟩;cases q:VB ds vs.toList with
  |true=>exact QU (eq_of_beq (bL q)) (bR q)
  |false=>rw[q]at h;cases h
theorem M7.of{K:W.Frag}{a:ao}{fn:Fn}(h:fnV K a fn=U (fnG fn))(h1:fn.params.Nodup)(h2:fn.names.all (λ q=>!(q.2==.free))=ai):M7 K a fn:=by
 obtain⟨S,E,d,C⟩|m|h:=fq h;obtain fd|X|h:=fq h;obtain b|D|h:=fq h;have e:=dT h;obtain rfl:d=_:=HW X;have f:=congrArg j0 e;exact⟨⟨S,E,fd,C,m,bL (bR f),congrArg (λ p=>p.2.1) e,⟨⟨b,IL D,congrArg (λ p=>p.2.2.1) e⟩,congrArg (λ p=>p.2.2.2.1) e,congrArg (λ p=>p.2.2.2.2.1) e,bN (bL (bR (bR (bR f)))),bN (bR (bR (bR (bR f)))),congrArg (λ p=>p.2.2.2.2.2.1) e,congrArg (λ p=>p.2.2.2.2.2.2.1) e,
  ⟨congrArg (λ p=>p.2.2.2.2.2.2.2.1) e,congrArg (λ p=>p.2.2.2.2.2.2.2.2.1) e,congrArg (λ p=>p.2.2.2.2.2.2.2.2.2.1) e,congrArg (λ p=>p.2.2.2.2.2.2.2.2.2.2.1) e,congrArg (λ p=>p.2.2.2.2.2.2.2.2.2.2.2) e,h1⟩⟩,SI (bL f)⟩,
  λ p hp hq=>absurd (dE.mp h2 p hp) (by rw[hq];decide),bL (bR (bR f))⟩
theorem tab_of{K:W.Frag}(hc:(dU.map λ c=>Hu K c (pv c))=dU.map λ c=>LZ (pv c))(P:(kS.map λ a=>fnV K a (fnOf a))=kS.map λ a=>U (fnG (fnOf a)))
 (f:(dU.all λ D=>dU.all λ C=>Mq K D C)=ai):Tab K:=by
 have b:∀c S,G.cls c=U S->pv c=S:=λ c S h=>by unfold pv;rw[h];rfl
 have x:∀c S,G.cls c=U S->Hu K c S=LZ S:=λ c S h=>b c S h▸wG.mp hc c (lookup_mem h)
 refine⟨λ c S h=>.of (x c S h),λ D S C cc h1 h2=>?_,λ a fn h=>.of ?_ ?_ ?_,λ c S h=>congrArg (λ p=>p.2.2.2.2.2.2.2.2.2.2.2) (x c S h)⟩
 .have e:=dE.mp (dE.mp f D (lookup_mem h1)) C (lookup_mem h2);unfold Mq at e;rw[b _ _ h1]at e;revert e;cases S.sup.contains C with
  |true=>exact λ e=>e
  |false=>exact λ e=>e
 .exact(show fnOf a=fn by unfold fnOf;rw[h];rfl)▸wG.mp P a (lookup_mem h)
 .exact of_decide_eq_true (dE.mp (show C6.all (λ p=>decide p.2.params.Nodup)=ai by kernel_rfl) (a,fn) (kY h))
 .exact dE.mp (show C6.all (λ p=>p.2.names.all λ q=>!(q.2==.free))=ai by kernel_rfl) (a,fn) (kY h)
end
section
open PySem.W PyProof.Rows PySem.Spec PySem.Calls
theorem Ua{R:vN}{cl:af->Option ao}{h:Heap}{x:WData}{v:al}{as:List ao}(h1:AR R x .int=ai)(r:ReadsW R cl h v x as):∃i t,x=.int i/\v=.int i t:=by
 cases r with
 |int i t=>exact⟨i,t,Y,Y⟩
 |_=>exact absurd (lT (show aj=_ by kernel_rfl) h1) j5
theorem Xp{R:vN}{cl:af->Option ao}{h:Heap}{x:WData}{v:al}{as:List ao}(h1:AR R x (.list .int)=ai)(r:ReadsW R cl h v x as):∃ls vs xs q,x=.list xs/\v=.ref ls/\h.IsList ls vs/\ReadsAllW R cl h vs.toList xs q/\zo R xs .int=ai:=by
 cases r with
 |list f hc a g=>exact⟨_,_,_,_,Y,Y,⟨_,f,hc,_,a⟩,g,(Bool.or_false _).symm.trans (lT ag h1)⟩
 |_=>exact absurd (lT (show aj=_ by kernel_rfl) h1) j5
theorem JA{R:vN}{cl:af->Option ao}{h:Heap}{xs:List WData}:∀{vs:List al}{as:List ao},zo R xs .int=ai->ReadsAllW R cl h vs xs as->∃sc:List Int,xs=sc.map .int/\∀n y,dh n y (sc.map .int) vs:=by
 induction xs with
 |nil=>intro vs as _ r;cases r;exact⟨[],Y,λ n y=>trivial⟩
 |cons x xs X=>
  intro vs as h r;have h2:=dL.mp (show(AR R x .int&&zo R xs .int)=ai from lT ag h);cases r with
  |cons H m=>obtain sc|rfl|z:=X h2.2 m;obtain i|t|rfl|rfl:=Ua h2.1 H;exact⟨i::sc,Y,λ n y=>⟨⟨t,Y⟩,z n y⟩⟩
theorem DH{R:vN}{cl:af->Option ao}{h:Heap}{args:List WData}{v:List al}{as:List ao}(h1:WShape.hasAll R args [.list .int]=ai)(r:ReadsAllW R cl h v args as):
 ∃(sc:List Int)(ls:ao)(vs:Array al),args=[⇑(sc.map .int)]/\v=[↥ls]/\h.IsList ls vs/\∀n y,dh n y (sc.map .int) vs.toList:=by
 obtain d|j|rfl|hd|i:=hasAllW_cons h1;obtain rfl:=hasAllW_nil i;cases r with
 |cons H m=>cases m;obtain ls|vs|xs|q|rfl|rfl|L|g|hi:=Xp hd H;obtain sc|rfl|z:=JA hi g;exact⟨sc,ls,vs,Y,Y,L,z⟩
theorem RH{sc:List Int}{x:WTm}(h:(WTm.and (.not (.lt (.lit (.int 63)) (.len (.arg 0)))) x).holds [] {args:=[⇑(sc.map .int)]}=ai):sc.length<=63:=by
 have e:WTm.value [] (.not (.lt (.lit (.int 63)) (.len (.arg 0)))) {args:=[⇑(sc.map .int)]}=U (.bool (!decide ((63:Int)<((sc.map WData.int).length:Int)))):=rfl;rw[bS]at e;by_cases q:(63:Int)<(sc.length:Int)
 .rw[decide_eq_true q]at e;unfold WTm.holds at h;unfold WTm.value at h;rw[e]at h;cases h
 .exact vV.mp (Int.not_lt.mp q)
theorem NE{scope:c9}{env:dA}{f:J->ao}{a b c e:J}(hn:scope.names=[(s!"thing",NameKind.local),(s!"code",NameKind.local),(s!"calls",fF),(s!"numbers",fF),(s!"owners",fF),(s!"run",fF),(s!"destroy_code",FG)])
 (h1:env.cells.lookup s!"run"=U (f a))(h2:env.cells.lookup s!"owners"=U (f b))(I:env.cells.lookup s!"numbers"=U (f c))(D:env.cells.lookup s!"calls"=U (f e)):
 mn scope env=pure [(s!"run",f a),(s!"owners",f b),(s!"numbers",f c),(s!"calls",f e)]:=by
 unfold mn cellOf;rw[hn];simp[h1,h2,I,D]
end
section
open PySem.W PyProof.Rows PySem.Spec PySem.Calls Q
noncomputable def fg:DefRec:=match recsOf Fk with
 |d::_=>d
 |[]=>⟨s!"",default,[],default,default⟩
noncomputable def aci:cJ->oS×List cJ×c9
 |.FunctionDef _ p b _ _ _ s _ _ _=>(p,b,s)
 |_=>(default,[],default)
noncomputable def dS:=aci fg.body[8]!
noncomputable def gB(h:Heap):bG:=h.isNs fv&&h.isNs gY&&Pf.all λ p=>match h.nsMap fv p.1 with
 |some I=>vB p.2 I
 |none=>match h.nsMap gY p.1 with
  |some I=>vB p.2 I
  |none=>aj
noncomputable def pB(K:W.Frag):bG:=K.all λ p=>match p.2.data with
 |.fields vs=>!(vs.size==0)
 |_=>ai
theorem aeE(w:cj)(os:iL):(ri 6000 w os).map (λ S=>gB S.abs.heap&&pB (KF S))=U ai:=ag
theorem M0:recsOf Fk=[fg]:=ag
theorem LU:defOf Fk s!"law"=U (fg,[]):=ag
theorem LM:i8.theDef s!"law"=U (fg.params,fg.body,fg.scope):=ag
theorem Gh:fg.body=.Assign [.Name s!"script" ⟨444,4,444,10⟩] (.Subscript (.Name s!"script" ⟨444,13,444,19⟩) (.Slice F (U (.Constant (.int 56) 0 ⟨444,21,444,23⟩)) F ⟨444,20,444,23⟩) ⟨444,13,444,24⟩) ⟨444,4,444,24⟩::
 ((fg.body.drop 1).take 7++.FunctionDef s!"_law_destroy" dS.1 dS.2.1 [] F [] dS.2.2 F s!"_law_destroy" ⟨453,4,456,70⟩::fg.body.drop 9):=ag
theorem LH:gy G.glob (λ x=>fg.scope.names.lookup x) ((fg.body.drop 1).take 7)=A6.drop 1:=ag
theorem HQ:gy G.glob (λ x=>fg.scope.names.lookup x) (fg.body.drop 9)=m8:=ag
abbrev YP0(w:cj)(h:Heap):be:=∀b o,(x6 i8 w 6000).get? b=U o->h.get? b=U o
theorem MY{p:el}{w:cj}{nNn:J}{S:aN}(e:oH iO p w nNn=U S):x6 p w nNn=S.heap:=by unfold x6;rw[e]
theorem vT{α β:Type}{o:Option α}{a:α}{f:α->β}{b:β}(h:o=U a)(c:o.map f=U b):f a=b:=by subst h;exact dT c
theorem facts(w:cj):∃T:fx,(x6 i8 w 6000)=T.abs.heap/\Tab (KF T)/\gB T.abs.heap=ai/\pB (KF T)=ai:=by obtain S|e|os|T|h|hS|_:=yL w;have c0:(gB T.abs.heap&&pB (KF T))=ai:=vT (f:=λ S=>gB S.abs.heap&&pB (KF S)) (o:=ri 6000 w os) h (aeE w os);have c:=dL.mp c0;exact⟨T,(MY e).trans (congrArg Shared.heap hS),tab_of (vT (f:=λ S=>dU.map λ c=>Hu (KF S) c (pv c)) (o:=ri 6000 w os) h (aex w os)) (vT (f:=λ S=>kS.map λ a=>fnV (KF S) a (fnOf a)) (o:=ri 6000 w os) h (adF w os)) (vT (f:=λ S=>dU.all λ D=>dU.all λ C=>Mq (KF S) D C) (o:=ri 6000 w os) h (aeI w os)),c.1,c.2⟩
theorem N9{h h':Heap}(hg:gB h=ai)(k:∀b o,h.get? b=U o->h'.get? b=U o){m a:af->Option al}(h1:h'.Ns fv m)(h2:h'.Ns gY a)(x:af)(v:V)(e:G.glob x=U v):
 ∃I,(∀n y,VR n y v I)/\(m x=U I\/(m x=F/\a x=U I)):=by
 obtain hg|g3:=dL.mp hg;obtain g1|g2:=dL.mp hg;have Q:=((Heap.Ns.of_isNs g1).keeps k).eq_nsMap.trans h1.eq_nsMap.symm;have w:=((Heap.Ns.of_isNs g2).keeps k).eq_nsMap.trans h2.eq_nsMap.symm;have z:=dE.mp g3 _ (jn e);rw[Q,w]at z;dsimp only at z;cases q:m x with
 |some I=>rw[q]at z;exact⟨I,J0 z,.inl Y⟩
 |none=>
  rw[q]at z;cases X:a x with
  |some I=>rw[X]at z;exact⟨I,J0 z,.inr ⟨Y,Y⟩⟩
  |none=>rw[X]at z;cases z
theorem Zr{T:fx}{h:Heap}{P:ao}(hp:pB (KF T)=ai)(k:∀b o,T.abs.heap.get? b=U o->h.get? b=U o)(p:h.get? P=U (W.tabObj #[])):(KF T).lookup P=F:=by
 cases q:(KF T).lookup P with
 |none=>rfl
 |some o=>have e:=k _ _ (PQ T _ _ q);have z:=dE.mp hp _ (kY q);rw[p]at e;cases e;cases z
theorem FR{h:Heap}{m:af->Option al}{P:ao}(g:h.Ns fv m)(p:h.get? P=U (W.tabObj #[]))(b:∃s w,m "__builtins__"=U ↥s/\s≠gY/\h.get? s=U w/\w.cls=.type "module"/\w.dict=U gY/\w.data=.plain):h.BuiltinsAt m P:=by
 obtain s|w|b1|b2|S|a|d|c:=b;refine⟨s,w,b1,b2,λ q=>?_,λ q=>?_,S,a,d,c⟩
 .obtain o|es|ep|e|hd|_:=g;rw[q,e]at S;cases S;rw[hd]at c;cases c
 .rw[q,p]at S;cases S;cases a
theorem Sv(q:af)(t pm:al)(S:ao)(A:al)(cl:List (af×ao)):zd G.glob (wC 5 4 3 2) (W.fnX s!"_law_destroy" q dS.1 dS.2.1 dS.2.2 cl .none .none t pm F ↥S A):=by refine⟨⟨⟨dS.2.1,Y,ag⟩,ag,ag,ag,ag,Y,Y,⟨ag,ag,ag,ag,ag,aL⟩⟩,aL,λ x h=>?_,Y⟩;have z:(wC 5 4 3 2).names.all (λ p=>!(p.2==.free)||((wC 5 4 3 2).cl.lookup p.1).isSome)=ai:=ag;exact dE.mp z _ (jn h)
end
section
open PySem.W PyProof.Rows PySem.Spec PySem.Calls Q
theorem good0(env:dA):Good (callerA.deeper env) (0+12):=⟨Y,Ao ag,Ao ag⟩
theorem W4(pm cd t d k:al):tx G.glob {docDef fg.name fg.params fg.body fg.scope pm cd t with defaults:=d,kwdefaults:=k} [s!"script"] fg.scope.names (gy G.glob (λ x=>fg.scope.names.lookup x) fg.body):=
 ⟨⟨fg.body,Y,Y⟩,Y,ag,ag,ag,Y,Y,⟨ag,ag,ag,ag,ag,aL⟩⟩
theorem HP:dS.2.2.names=[(s!"thing",NameKind.local),(s!"code",NameKind.local),(s!"calls",fF),(s!"numbers",fF),(s!"owners",fF),(s!"run",fF),(s!"destroy_code",FG)]:=ag
theorem N1(env:dA)(y:Lay)(h:∀p∈(wC 5 4 3 2).cl,env.cells.lookup p.1=U (y.ad p.2)):mn dS.2.2 env=pure ((wC 5 4 3 2).cl.map λ p=>(p.1,y.ad p.2)):=by have m:∀p∈[(s!"run",5),(s!"owners",4),(s!"numbers",3),(s!"calls",2)],env.cells.lookup p.1=U (y.ad p.2):=h;have z:=NE (f:=y.ad) (a:=5) (b:=4) (c:=3) (e:=2) HP (m _ (.head _)) (m _ (.tail _ (.head _))) (m _ (.tail _ (.tail _ (.head _)))) (m _ (.tail _ (.tail _ (.tail _ (.head _)))));exact z
theorem aaw:WalkO Fk oF (λ _ _=>True) YP0 Hl.row.toRowW fg [] (λ f vs=>PySem.call f vs):=by
 intro w l' D x mb Gr g a o pm cd t dV kV C hd h' d' i' e' args g' as b' m' j' _ _;obtain T|hE|k'|hG|hp:=facts w;have k:∀b o,T.abs.heap.get? b=U o->D.heap.get? b=U o:=λ b o e=>g b o (by rw[hE];exact e)
 obtain h1|h2:=pre_splitW (r:=Hl.row.toRowW) b';obtain sc|ls|vs|rfl|rfl|L|S:=DH h1 j';have m:sc.length<=63:=RH h2;have TT:=Gr.T;obtain i|o'|fd'|c|P|Q|X|E|q4|q5|q6:=TT.tab fg (by rw[M0];exact .head _);obtain rfl:a=i:=Value.ref.inj (dT (i'.symm.trans Q));rw[X]at C;cases C;rw[E]at hd;cases hd;have f':dV=.none:=by
  rcases d'.pos with⟨_,h⟩|⟨h,_⟩
  .exact h
  .exact absurd ag h
 subst f';obtain fl|u|H|n|er|I:=JE (d:=0) (ls:=ls) m;rw[I]at er;have v:=CodeHd.of q5 q6;have b':=NO (d:=0) (sc:=sc) (ls:=ls);show aZ (bB i8 w) callerA (PySem.call ↥a [↥ls]) _ _ _;refine Bm (Og k' (y₀:=⟨λ _=>0,λ _=>0⟩) aL good0 (first:=.Pass default) (fd':=docDef fg.name fg.params fg.body fg.scope pm cd t) (c:=c) (P:=P) (names:=fg.scope.names) (pre:=(fg.body.drop 1).take 7) (post:=fg.body.drop 9) (nm:=s!"_law_destroy") (params:=dS.1) (body:=dS.2.1) (scope:=dS.2.2) (iS:=wC 5 4 3 2) (cs:=cK) (xs:=sc.map .int)
  (st₂:=⟨λ _=>F,HA,6⟩) (st₃:=⟨lcA ls,HA,6⟩) (wd:=⟨(EW 0 sc ls).loc,(EW 0 sc ls).H,14⟩) (OE:=⟨u,H,n⟩) e' TT.g TT.b TT.nolimit (λ b o e=>k _ _ (PQ T _ _ e)) (N9 hG k TT.g TT.b) (Zr hp k q6.2) (FR TT.g q6.2 TT.bmain) v q6.2 X E (W4 pm cd t .none kV) h' q4 Y Y
  ag (congrArg FuncBody.stmts Gh) L S (by rw[bS];exact bx m aL) ag ag ⟨⟨ag,ag⟩,λ p hp=>?_⟩ Y (λ l o e=>?_) ?_ ?_ ag ag (λ env=>by kernel_rfl) (λ env y h=>?_) (λ q t pm j A cl=>Sv q t pm j A cl) ?_ λ s old os gens=>?_)
 .have z:(wC 5 4 3 2).cl.all (λ p=>cK.lookup p.1==U p.2&&fg.scope.names.lookup p.1==U .cell)=ai:=ag;obtain B|z2:=dL.mp (dE.mp z p hp);exact⟨eq_of_beq B,eq_of_beq z2⟩
 .by_cases h:l<6
  .have z:(fp 6).all (λ l=>match HA l with|some o=>!o.cL|none=>ai)=ai:=ag;have z:=dE.mp z l (kF.mpr h);rw[show HA l=U o from e]at z;dsimp only at z;revert z;cases o.cL<;>decide
  .have:HA l=F:=by unfold HA;have h:=zp.mp h;rw[ae (ju h),ae (by omega),ae (by omega),ae (by omega),ae (by omega)]
   rw[show HA l=U o from e]at this;cases this
 .rw[LH,<-qZ];exact b'
 .kernel_rfl
 .exact N1 env y h
 .rw[HQ];unfold lcC HC at er;dsimp only;exact er
 .refine⟨.inl ⟨.bool ai,.bool ai,[],Y,λ cls=>by kernel_rfl,.bool ai,ag,λ _=>⟨fJ,λ a ha=>nomatch ha⟩⟩,old,os,.of_eq gens⟩
end
end Mu.Internal
open PySem.W PyProof.Rows Mu.Internal
set_option maxRecDepth 100000
theorem Mu.Internal.aaX:PySem.Challenge.rw_nz0197_01.wellSaid=true:=by kernel_rfl
set_option maxHeartbeats 8000000 in
theorem PySem.Challenge.cw_nz0197_01_holds : PySem.Challenge.rw_nz0197_01.Holds := by
 refine holds_law aaX λ said=>?_
 refine PySem.W.holds_open U5 (YP:=YP0) (XP:=λ _ _=>True) (λ w s e b o h=>by rw[<-e]at h;exact h) (λ w h h' y k b o e=>k _ _ (y _ _ e)) (λ _ _=>trivial) (λ _ _ _ _ _=>trivial) LU LM (by kernel_rfl) (λ s _=>recFacts_of rfl) rfl said (by decide+kernel) ⟨rfl,rfl,rfl,rfl,rfl,by decide+kernel⟩ ⟨[.list [.int 3,.int 1]],by decide+kernel,by decide+kernel⟩ aaw
