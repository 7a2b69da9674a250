import PyProof.Rows.All
import Open.FastLooks
import KE.KDictList
import KE.KSortTup
import Wide.FinOn
import OpenK.AllK
import Wide.All
import Lean
import PySem.Challenge.RW_sm0083_01
set_option maxRecDepth 100000
set_option linter.all false
set_option Elab.async false
set_option tactic.hygienic false
set_option genSizeOf false
set_option genInjectivity false
set_option genCtorIdx false
set_option compiler.extract_closed false
set_option hygiene false
open PySem renaming Addr->aa,Value->ab,Shared->aj,wpAny_bind->ak,Expr->av,wpAny->aw,wpAny_pure->aC,Heap->aE,wpAny_mono->aQ,sizeLine->aY,Around->bh,World->bk,eval->bE,sizeLine_eq->bH,Comprehension->bS,NameKind->cv,DictEntry->cC,wpAny_holding->cM,Scope->dj,Program->dk,wpAny_standAt->dI,CmpOp->dU,cLine->ed,holding->eW,assign->fT,compEnvC->fW,nsFind->gj,sysModules->gk,standAt->gQ,treeTable->gT,OsState->gU,compareOp->jd,codeAny->kq,foldedSetIterable->kB,call_meets->lH,evalEach->lJ,wpAny_load->mF,Operator->nQ,tupleKind->nR,keeperOf->nS,wpAny_call_entry->p7,typeIs_str->p8,wpAny_newObj_type->qa,assignEach->qd,noteFrame->qe,cellsFrom->qg,importedModules->qn,builtinsNs->sE,sliceBounds->sJ,wpAny_rule->sO,comprehension->sP,firstIterPos->sQ,wpAny_newList->sR,swappedStores->sS,wpAny_ite_true->sV,wpAny_callSpecial?_slot->xm,theTreesLotGoes->xq,codeAny_of_tree->xt,wpAny_truthy_bool->Cx,wpAny_execs_nil->CA,wpAny_typeNameOfWhole_keyiter->CE,wpAny_typeNameOf_keyiter->CF,codeAny_builtin->CJ,wpAny_notOrdered_dict->LN
open List renaming not_mem_nil->am,length_map->ay,mem_singleton->aF,mem_map->aL,mem_cons->aV,map_cons->bi,map_append->bq,getElem?_map->bt,getElem?_eq_some_iff->bP,casesOn->bQ,length_append->bR,mem_of_getElem?->cj,map_map->cw,replicate->cV,getElem?_eq_getElem->dh,append_nil->dB,mem_append->dH,length_cons->dW,getD_eq_getElem?_getD->dX,nodup_cons->ee,take_length->ez,nodup_append->eL,lookup_cons->eO,range->fF,append_assoc->fU,nodup_nil->je,all_eq_true->jI,pairwise_map->jL,mem_flatten->kr,flatten_append->ku,length->kC,take_append_drop->kE,all_cons->lF,flatten_cons->lG,toList_toArray->lI,length_take->lO,Nodup->lP,mem_append_left->mM,getElem?_append_left->nT,mem_iff_getElem?->nV,cons_append->nY,mapM_cons->nZ,getElem?_eq_none->oa,getElem?_append_right->oe,zip_cons_cons->og,map_congr_left->p4,length_drop->p9,size_toArray->qb,length_singleton->qf,filter_cons_of_neg->qi,mem_append_right->qj,mem_range->sI,length_range->sL,getElem?_drop->sU,getElem_cons_drop->sW,filterMap_map->xn,drop_drop->xu,length_nil->xF,getElem?_eq_none_iff->Cg,take_nil->Ci,take_of_length_le->Co,filterMap_cons->Cp,forIn_cons->Cy,getElem?_replicate->Cz,eraseDups_cons->CD,isEmpty_iff->CG,filter_eq_nil_iff->CH,forall_mem_cons->CM,filter_cons_of_pos->CP,nil_append->CS,take_zero->CT,filterMap_append->CU,getElem?_cons_zero->LK,cons_lt_cons_iff->LO,drop_eq_nil_of_le->LQ,pairwise_cons->LX,drop_eq_nil_iff->LZ,mem_of_mem_take->L6,map_eq_cons_iff->L8,sublist_append_left->L9
open Nat renaming le_of_ble_eq_true->aq,le_refl->bI,lt_of_lt_of_le->bX,ne_of_lt->ce,beq->cf,le_trans->ck,ne_of_gt->cA,zero_le->du,lt_of_le_of_lt->dA,ne_of_beq_eq_false->eA,testBit->eC,le_of_not_lt->fV,blt->gm,lt_irrefl->iE,le_add_right->iG,le_of_eq->iH,le_succ->jc,lt_succ_self->jh,shiftLeft->jj,ble->jM,le_of_lt->kD,eq_of_beq_eq_true->mJ,lt_add_right->mL,add_comm->pT,succ_le_succ->pX,zero_add->sA,add_le_add_left->sC,lt_trans->sN,lt_succ_of_lt->sX,add_sub_cancel'->xk,succ_le_of_lt->xr,le_succ_of_le->xx,one_shiftLeft->xy,lt_of_sub_ne_zero->xD,ble_eq_true_of_le->xI,add_sub_cancel_left->Ce,min_eq_left->Cr,min_eq_right->Ct,min_le_right->Cu,le_add_left->CL,lt_add_of_pos_right->CN,testBit_two_pow->CO,sub_le_of_le_add->L4
open Eq renaming symm->aD
open Classical renaming byContradiction->aI
open Option.some renaming inj->aO,injEq->pU
open Option renaming casesOn->bf,map_eq_some_iff->bW,bind_some->nU,bind_eq_some_iff->p3,join_eq_some_iff->xo,isNone_iff_eq_none->xw
open Bool renaming casesOn->bC,and_eq_true->bV,noConfusion->eh,and_eq_true_iff->gP,and_true->jJ,false_eq_true->jK,false_ne_true->pZ,not_eq_true'->qc,eq_iff_iff->sH,and_assoc->CW,or_eq_true_iff->L7
open PySem.Heap renaming get?_push_of_some->cp,lt_size->fG,get?_push_size->fJ,SameBut->gN,ExtBut->mE,get?_update_other->pY,get?_update_self->sG
open PyProof.Rows renaming seqObj->cq,get?_update_seq->CQ
open PySem.Str renaming ofString->cz,length->CI
open False renaming elim->dn
open PySem.NameKind renaming free->fg,cell->mG,casesOn->Cj,noConfusion->Ck
open PySem.W renaming findIn->fH,boot_heap->iL,kas_sort->jN,topFrame->oh,copiedNames->pV,BT->qk,boot_drawn->qm
open PySem.Obj renaming mapSeq->fK,putName->pW
open PySem.PyData renaming depth->gR,canLay0->iJ,depthAll->ji,canLayAll0->mN,tuple->n8,list->n9,eqv->sD,keyHash->sF
open PySem.Value renaming none->iI,ref->jg,str->kA
open Prod renaming ext->iK
open PySem.TablesWhole renaming wSs->iM,holds->oj,gather->qo,Alg->xJ,wModule->CX,noTwice->Mb
open Int renaming ofNat->jf,natCast_nonneg->mI,toNat_natCast->sT,emod_nonneg->sY,ofNat_lt->xl,emod_lt_of_pos->xH,toNat_of_nonneg->CK
open Ne renaming symm->jH
open Array renaming toList_inj->kx,getElem?_toList->kz,mk->ql,length_toList->Cm,toList_reverse->Cq,getElem?_eq_none_iff->LY
open PySem.Expr renaming casesOn->lK
open ForInStep renaming yield->lN
open List.cons renaming injEq->mH,inj->Cf
open PySem.Heap.SameBut renaming update->nX
open PySem.Txt renaming split->qh
open PySem.Value.ref renaming inj->sM
open PySem.Challenge renaming rw_sm0083_01->sZ
open PySem.F renaming plainAttrs_str->xp,slot_tuple_getitem->Cn,plainAttrs_list->LU,slot_list_pop->LV,slot_dict_get->LW
open PySem.Builtin.Slice renaming slicePlaces->Cv,sliceAdjust->LR
open PySem.Builtin.Tuple renaming tupleExact->Cw
open List.Perm renaming refl->CV
open PySem.W.Fast renaming tw8326940854005059898->CY,te14364793385576792824->Ma
open PySem.DictEntry renaming refKey->LM
open PySem.Builtin.Str renaming strSliceIndices->LP
open PySem.Builtin.Range renaming rangeSize->LS
open PySem.Expr.Attribute renaming elim->L3
open PySem.Around renaming under_plainId->L5
open PySem.TablesWhole.Alg renaming all->Mc
open PySem.Builtin.List renaming listFitsIndex->Xi
open PySem.Builtin.Dict_items renaming ownsTuple->Xj
local macro_rules (kind:=Lean.Parser.Tactic.tacticErw___)|s=>`(tactic|with_reducible_and_instances refine al $(⟨s[2][1][0][1]⟩) ?_)
local macro_rules (kind:=Lean.Parser.Tactic.acRfl)|s=>`(tactic|with_reducible rfl)
namespace Internal
open PySem
theorem aU{α:Type}{x:α}{C:Prop}(h:none=some x):C:=nomatch h
@[elab_as_elim] theorem al{α:Sort u}{a b:α}{m:α->Prop}(h:a=b)(x:m b):m a:=h▸x
noncomputable def ol:List Nat->Nat
 | []=>0
 | c::r=>ol r*1114113+c+1
noncomputable def nm(x:Str):Nat:=ol x.cps.toList
noncomputable def good(x:Str):Bool:=x.cps.toList.all (· <1114113)
theorem CZ{i k:Nat}(h:k<i):i - k=i - (k+1)+1:=(Nat.succ_pred_eq_of_pos (Nat.sub_pos_of_lt h)).symm
theorem C0{r l m:Nat}(h:r<=l):r+(m+(l - r) - m)=l:=(congrArg (r+·) (Ce _ _)).trans (xk h)
theorem dm{a c:Nat}(h:c<1114113):(a*1114113+c) / 1114113=a:=by (rewrite[pT];(erw[Nat.add_mul_div_right _ _ (aq rfl)];erw[Nat.div_eq_of_lt h]);rw[sA])
theorem C1:∀{a b:List Nat},a.all (· <1114113)=true->b.all (· <1114113)=true->ol a=ol b->a=b
 | [],[],J1,J2,J3=>rfl
 | [],c::r,J1,J2,e=>(Nat.succ_ne_zero _ e.symm).elim
 | c::r,[],J1,J2,e=>(Nat.succ_ne_zero _ e).elim
 | c::r,d::q,ha,hb,e=>by
  simp only[lF,bV,decide_eq_true_eq] at ha hb;have h1:ol r=ol q:=(dm ha.1).symm.trans ((congrArg (· / _) (Nat.succ.inj e)).trans (dm hb.1))
  have h2:c=d:=Nat.add_left_cancel (h1▸Nat.succ.inj e)
  ((erw[h2];erw[C1 ha.2 hb.2 h1]);ac_rfl)
theorem xK{x y:Str}(hx:good x=true)(hy:good y=true)(e:nm x=nm y):x=y:=by
 obtain ⟨⟨x⟩⟩:=x;obtain ⟨⟨y⟩⟩:=y;have:=C1 hx hy e;simp only at this;(erw[this];ac_rfl)
mutual
inductive AE where
 | none | tru | fls
 | int (i:Int)
 | str (s:List Nat)
 | loc (i:Nat)
 | cl (i:Nat)
 | glob (g:Nat)
 | attr (e:AE) (f:Nat)
 | call (f:AE) (es:AL)
 | meth (e:AE) (f:Nat) (es:AL)
 | bin (op:nQ) (a b:AE)
 | not (a:AE)
 | neg (a:AE)
 | cmp (a:AE) (cs:AC)
 | and (es:AL)
 | or (es:AL)
 | ite (t a b:AE)
 | list (es:AL)
 | tup (es:AL)
 | dict0
 | dict1 (k v:AE)
 | sub (a i:AE)
 | slice (a lo hi st:AE)
 | comp (elt:AE) (g:AG) (n:Nat)
inductive AL where
 | nil
 | cons (e:AE) (es:AL)
inductive AC where
 | one (op:dU) (e:AE)
 | cons (op:dU) (e:AE) (cs:AC)
inductive AG where
 | nil
 | cons (t:AT) (it:AE) (ifs:AL) (g:AG)
inductive AT where
 | loc (i:Nat)
 | cl (i:Nat)
 | attr (e:AE) (f:Nat)
 | sub (a i:AE)
 | tup (ts:dC)
inductive dC where
 | nil
 | cons (t:AT) (ts:dC)
end
mutual
inductive AS where
 | expr (e:AE)
 | ret (e:AE)
 | asg (t:AT) (e:AE)
 | cond (t:AE) (b o:au)
 | whl (t:AE) (b:au)
 | for_ (t:AT) (it:AE) (b:au)
 | try_ (b:au)
 | other
inductive au where
 | nil
 | cons (s:AS) (ss:au)
end
noncomputable def AE.ctorIdx(x:AE):Nat:=x.casesOn 0 1 2 (λ_=>3) (λ_=>4) (λ_=>5) (λ_=>6) (λ_=>7) (λ_ _=>8) (λ_ _=>9) (λ_ _ _=>10) (λ_ _ _=>11) (λ_=>12) (λ_=>13) (λ_ _=>14) (λ_=>15) (λ_=>16) (λ_ _ _=>17) (λ_=>18) (λ_=>19) 20 (λ_ _=>21) (λ_ _=>22) (λ_ _ _ _=>23) (λ_ _ _=>24)
noncomputable def AL.ctorIdx(x:AL):Nat:=x.casesOn 0 (λ_ _=>1)
noncomputable def AG.ctorIdx(x:AG):Nat:=x.casesOn 0 (λ_ _ _ _=>1)
noncomputable def AT.ctorIdx(x:AT):Nat:=x.casesOn (λ_=>0) (λ_=>1) (λ_ _=>2) (λ_ _=>3) (λ_=>4)
noncomputable def AS.ctorIdx(x:AS):Nat:=x.casesOn (λ_=>0) (λ_=>1) (λ_ _=>2) (λ_ _ _=>3) (λ_ _=>4) (λ_ _ _=>5) (λ_=>6) 7
noncomputable def au.ctorIdx(x:au):Nat:=x.casesOn 0 (λ_ _=>1)
theorem AE.locI{i j:Nat}(e:AE.loc i= .loc j):i=j:=by injection e
theorem AE.clI{i j:Nat}(e:AE.cl i= .cl j):i=j:=by injection e
theorem AE.globI{i j:Nat}(e:AE.glob i= .glob j):i=j:=by injection e
theorem AT.locI{i j:Nat}(e:AT.loc i= .loc j):i=j:=by injection e
theorem AT.clI{i j:Nat}(e:AT.cl i= .cl j):i=j:=by injection e
structure Ctx where
 fn:List (Str × cv)
 cm:Option (List (Str × cv)):= .none
noncomputable def bM(x:Str):List (Str × cv)->Nat->Option (Nat × cv)
 | [],J1=> .none
 | (y,k)::r,i=>if y=x then some (i,k) else bM x r (i+1)
theorem qp{x y:Str}{k:cv}{r:List (Str × cv)}{i:Nat}:bM x ((y,k)::r) i=if y=x then some (i,k) else bM x r (i+1):=rfl
noncomputable def Ctx.name(c:Ctx)(x:Str):Option AE:=
 match c.cm with
 | .none=>match bM x c.fn 0 with
  | some (i,.local)=>some (.loc i)
  | some (i,.cell)=>some (.loc i)
  | some (_,.globalImplicit)=>if good x then some (.glob (nm x)) else .none
  | _=> .none
 | some l=>match bM x l 0 with
  | some (i,.local)=>some (.cl i)
  | some (_,.free)=>(match bM x c.fn 0 with
   | some (i,.cell)=>some (.loc i)
   | _=> .none)
  | some (_,.globalImplicit)=>if good x then some (.glob (nm x)) else .none
  | _=> .none
noncomputable def fX(fn:List (Str × cv))(s:dj):Bool:=s.kind== .function && s.names.all λ(x,k)=>match k with
 | .local=>s.names.lookup x==some .local
 | .free=>s.names.lookup x==some .free && (bM x fn 0).any λp=>p.2== .cell
 | .globalImplicit=>s.names.lookup x==some .globalImplicit
 | _=>false
noncomputable def Md(a:AE):Option {i:Nat // a= .loc i}:=match a with
 | .loc i=>some ⟨i,rfl⟩
 | _=> .none
noncomputable def Me(a:AE):Option {i:Nat // a= .cl i}:=match a with
 | .cl i=>some ⟨i,rfl⟩
 | _=> .none
noncomputable def Ctx.target(c:Ctx)(x:Str):Option AT:=match c.cm with
 | .none=>(c.name x).bind λa=>(Md a).map λi=> .loc i.1
 | some _=>(c.name x).bind λa=>(Me a).map λi=> .cl i.1
noncomputable def dC.len:dC->Nat
 | .nil=>0
 | .cons _ r=>r.len+1
noncomputable def opt{α:Type}(o:Option α):Option {x:α // o=some x}:=match o with
 | some x=>some ⟨x,rfl⟩
 | none=>none
noncomputable def dec(p:Prop)[h:Decidable p]:Option (PLift p):=match h with
 | .isTrue h=>some ⟨h⟩
 | .isFalse _=>none
noncomputable abbrev Sure(p:Prop):=Option (PLift p)
theorem Sure.get{p:Prop}{o:Sure p}(h:o.isSome=true):p:=match o,h with
 | some x,J1=>x.1
def xM(c:Ctx)(x:AT)(e:av):Prop:=match e with
 | .Name n _=>c.target n=some x
 | _=>True
noncomputable def kG(c:Ctx):List av->dC->Prop
 | [],as=>as= .nil
 | t::r,as=>match as with
  | .cons x y=>xM c x t/\kG c r y
  | .nil=>False
def TO(c:Ctx)(x:AT)(e:av):Prop:=match e with
 | .Tuple ts _ _=>match x with
  | .tup as=>kG c ts as
  | _=>False
 | _=>True
noncomputable def mO:av->Bool
 | .ListComp .. =>false
 | .SetComp .. =>false
 | .DictComp .. =>false
 | _=>true
end Internal
namespace Internal
open PySem PySem.Calls PyProof.Rows PySem.W
inductive AV where
 | none
 | bool (b:Bool)
 | int (i:Int)
 | str (s:List Nat)
 | tup (xs:List AV)
 | ref (l:Nat)
 | con (v:ab)
 | bm (f:aa) (l:Nat)
 | rng (n:Nat)
inductive AO where
 | lst (xs:List AV)
 | dct (kvs:List (AV × AV))
 | ins (c:aa) (fs:List (Nat × AV))
noncomputable def AV.ctorIdx(x:AV):Nat:=x.casesOn 0 (λ_=>1) (λ_=>2) (λ_=>3) (λ_=>4) (λ_=>5) (λ_=>6) (λ_ _=>7) (λ_=>8)
noncomputable def AO.ctorIdx(x:AO):Nat:=x.casesOn (λ_=>0) (λ_=>1) (λ_ _=>2)
structure AH where
 next:Nat
 m:Nat->Option AO
noncomputable def AH.set(σ:AH)(l:Nat)(o:AO):AH:=⟨σ.next,λx=>if x=l then some o else σ.m x⟩
noncomputable def AH.new(σ:AH)(o:AO):AH:=⟨σ.next+1,λx=>if x=σ.next then some o else σ.m x⟩
noncomputable def st(s:List Nat):Str:=⟨s.toArray⟩
mutual
inductive VR(h:aE)(μ:List (List aa)):AV->ab->Prop
 | none:VR h μ .none .none
 | bool b:VR h μ (.bool b) (.bool b)
 | int (i t):VR h μ (.int i) (.int i t)
 | str (s t):s.length<=aY->VR h μ (.str s) (.str (st s) t)
 | tup {xs a vs n}:xs.length<=aY->h.get? a=some {cls:= .type "tuple",data:= .seq vs n}->aB h μ xs vs.toList->VR h μ (.tup xs) (.ref a)
 | ref {l a r}:μ[l]? =some (a::r)->VR h μ (.ref l) (.ref a)
 | con v:VR h μ (.con v) v
 | bm {f l x r a o}:μ[l]? =some (x::r)->h.get? a=some o->o.cls= .type "method"->o.data= .fields #[.ref f,.ref x]->VR h μ (.bm f l) (.ref a)
 | rng {n:Nat} {a t u v}:(n:Int)<2 ^ 62->h.get? a=some {cls:= .type "range",data:= .fields #[.int 0 t,.int (n:Nat) u,.int 1 v]}->VR h μ (.rng n) (.ref a)
inductive aB(h:aE)(μ:List (List aa)):List AV->List ab->Prop
 | nil:aB h μ [] []
 | cons {x xs v vs}:VR h μ x v->aB h μ xs vs->aB h μ (x::xs) (v::vs)
end
def C2(h:aE)(μ:List (List aa))(v:ab):AV->Prop
 | .none=>v= .none
 | .bool b=>v= .bool b
 | .int i=>∃t,v= .int i t
 | .str s=>∃t,v= .str (st s) t/\s.length<=aY
 | .ref l=>∃a r,v= .ref a/\μ[l]? =some (a::r)
 | .con w=>w=v
 | .tup xs=>∃a vs n,v= .ref a/\h.get? a=some {cls:= .type "tuple",data:= .seq vs n}/\xs.length<=aY/\aB h μ xs vs.toList
 | .bm f l=>∃x r a o,v= .ref a/\h.get? a=some o/\o.cls= .type "method"/\o.data= .fields #[.ref f,.ref x]/\μ[l]? =some (x::r)
 | .rng n=>∃a t u w,v= .ref a/\(n:Int)<2 ^ 62/\h.get? a=some {cls:= .type "range",data:= .fields #[.int 0 t,.int (n:Nat) u,.int 1 w]}
theorem VR.inv{h:aE}{μ:List (List aa)}{a:AV}{v:ab}(H:VR h μ a v):C2 h μ v a:=
 VR.casesOn (motive_1:=λa v _=>C2 h μ v a) H rfl (λb=>rfl) (λi t=>⟨t,rfl⟩) (λs t h=>⟨t,rfl,h⟩) (λh e r=>⟨_,_,_,rfl,e,h,r⟩) (λe=>⟨_,_,rfl,e⟩) (λv=>rfl) (λa b c d=>⟨_,_,_,_,rfl,b,c,d,a⟩) (λa b=>⟨_,_,_,_,rfl,a,b⟩)
theorem jk{h:aE}{μ:List (List aa)}{v:ab}(H:VR h μ .none v):v= .none:=H.inv
theorem qq{h:aE}{μ:List (List aa)}{v:ab}{b:Bool}(H:VR h μ (.bool b) v):v= .bool b:=H.inv
theorem cX{h:aE}{μ:List (List aa)}{v:ab}{i:Int}(H:VR h μ (.int i) v):∃t,v= .int i t:=H.inv
theorem eE{h:aE}{μ:List (List aa)}{v:ab}{s:List Nat}(H:VR h μ (.str s) v):∃t,v= .str (st s) t/\s.length<=aY:=H.inv
theorem kH{h:aE}{μ:List (List aa)}{v:ab}{l:Nat}(H:VR h μ (.ref l) v):∃a r,v= .ref a/\μ[l]? =some (a::r):=H.inv
theorem lQ{h:aE}{μ:List (List aa)}{v w:ab}(H:VR h μ (.con w) v):w=v:=H.inv
theorem s0{h:aE}{μ:List (List aa)}{v:ab}{xs:List AV}(H:VR h μ (.tup xs) v):∃a vs n,v= .ref a/\h.get? a=some {cls:= .type "tuple",data:= .seq vs n}/\xs.length<=aY/\aB h μ xs vs.toList:=H.inv
theorem C3{h:aE}{μ:List (List aa)}{v:ab}{f:aa}{l:Nat}(H:VR h μ (.bm f l) v):∃x r a o,v= .ref a/\h.get? a=some o/\o.cls= .type "method"/\o.data= .fields #[.ref f,.ref x]/\μ[l]? =some (x::r):=H.inv
theorem C4{h:aE}{μ:List (List aa)}{v:ab}{n:Nat}(H:VR h μ (.rng n) v):∃a t u w,v= .ref a/\(n:Int)<2 ^ 62/\h.get? a=some {cls:= .type "range",data:= .fields #[.int 0 t,.int (n:Nat) u,.int 1 w]}:=H.inv
theorem jl{h:aE}{μ:List (List aa)}{v:List ab}(H:aB h μ [] v):v=[]:=by cases H;rfl
theorem on{h:aE}{μ:List (List aa)}{x:AV}{xs:List AV}{v:List ab}(H:aB h μ (x::xs) v):∃a r,v=a::r/\VR h μ x a/\aB h μ xs r:=by
 cases H with
 | cons a r=>exact ⟨_,_,rfl,a,r⟩
theorem C5{h:aE}{μ:List (List aa)}{x:AV}{xs:List AV}{v:ab}{vs:List ab}(H:aB h μ (x::xs) (v::vs)):VR h μ x v/\aB h μ xs vs:=by
 obtain ⟨a,r,e,h1,h2⟩:=on H;obtain ⟨e1,e2⟩:=Cf e;subst e1 e2;exact ⟨h1,h2⟩
def frozen(o:Obj):Prop:=(o.cls= .type "tuple"/\∃vs n,o.data= .seq vs n)\/(o.cls= .type "method"/\∃vs,o.data= .fields vs)\/(o.cls= .type "range"/\∃vs,o.data= .fields vs)
theorem frozen.cls{o:Obj}(h:frozen o):o.cls= .type "tuple"\/o.cls= .type "method"\/o.cls= .type "range":=h.imp (·.1) (Or.imp (·.1) (·.1))
theorem qr{o:Obj}{es:Array cC}{n:Nat}(h:o.data= .dict es n):¬frozen o:=by
 rintro (⟨J,vs,k,e⟩ | ⟨J,vs,e⟩ | ⟨J,vs,e⟩)<;>rw[h] at e<;>cases e
theorem C6{o:Obj}{v:Option ab}(h:o.data= .cell v):¬frozen o:=by
 rintro (⟨J,vs,k,e⟩ | ⟨J,vs,e⟩ | ⟨J,vs,e⟩)<;>rw[h] at e<;>cases e
section
variable{h h':aE}{μ μ':List (List aa)}(hk:∀b o,h.get? b=some o->frozen o->h'.get? b=some o)(hm:∀(l:Nat) x,μ[l]? =some x->μ'[l]? =some x)
include hk hm
theorem VR.mono{a:AV}{v:ab}(H:VR h μ a v):VR h' μ' a v:=
 VR.rec (motive_1:=λa v J=>VR h' μ' a v) (motive_2:=λa v J=>aB h' μ' a v) .none .bool .int .str (λb ho J r=> .tup b (hk _ _ ho (.inl ⟨rfl,_,_,rfl⟩)) r) (λe=> .ref (hm _ _ e)) .con
  (λe ho hc hd=> .bm (hm _ _ e) (hk _ _ ho (.inr (.inl ⟨hc,_,hd⟩))) hc hd) (λhb ho=> .rng hb (hk _ _ ho (.inr (.inr ⟨rfl,_,rfl⟩)))) .nil (λJ J=> .cons) H
theorem aB.mono{a:List AV}{v:List ab}(H:aB h μ a v):aB h' μ' a v:=
 aB.rec (motive_1:=λa v J=>VR h' μ' a v) (motive_2:=λa v J=>aB h' μ' a v) .none .bool .int .str (λb ho J r=> .tup b (hk _ _ ho (.inl ⟨rfl,_,_,rfl⟩)) r) (λe=> .ref (hm _ _ e)) .con
  (λe ho hc hd=> .bm (hm _ _ e) (hk _ _ ho (.inr (.inl ⟨hc,_,hd⟩))) hc hd) (λhb ho=> .rng hb (hk _ _ ho (.inr (.inr ⟨rfl,_,rfl⟩)))) .nil (λJ J=> .cons) H
end
section
variable{h:aE}{μ:List (List aa)}
theorem aB.ind{C:List AV->List ab->Prop}(n:C [] [])(c:∀{x v xs vs},VR h μ x v->aB h μ xs vs->C xs vs->C (x::xs) (v::vs)){xs:List AV}{vs:List ab}(H:aB h μ xs vs):C xs vs:=
 aB.rec (motive_1:=λJ J J=>True) (motive_2:=λa v J=>C a v) trivial (λJ=>trivial) (λJ J=>trivial) (λJ J J=>trivial) (λJ J J J=>trivial) (λJ=>trivial) (λJ=>trivial) (λJ J J J=>trivial) (λJ J=>trivial) n (λa r J i=>c a r i) H
theorem aB.length{xs:List AV}{vs:List ab}(H:aB h μ xs vs):xs.length=vs.length:=H.ind (C:=λxs vs=>xs.length=vs.length) rfl λJ J i=>congrArg (· +1) i
theorem aB.append{xs ys:List AV}{vs ws:List ab}(H:aB h μ xs vs)(r:aB h μ ys ws):aB h μ (xs++ys) (vs++ws):=H.ind (C:=λxs vs=>aB h μ (xs++ys) (vs++ws)) r λa J i=> .cons a i
theorem aB.get{xs:List AV}{vs:List ab}(H:aB h μ xs vs):∀{i:Nat}{x},xs[i]? =some x->∃v,vs[i]? =some v/\VR h μ x v:=
 H.ind (C:=λxs vs=>∀{i:Nat}{x},xs[i]? =some x->∃v,vs[i]? =some v/\VR h μ x v) (λe=>nomatch e) λa J ih i _=>match i with
  | 0=>λe=>⟨_,rfl,aO e▸a⟩
  | _+1=>λe=>ih e
theorem aB.get_none{xs:List AV}{vs:List ab}(r:aB h μ xs vs){i:Nat}(e:xs[i]? = .none):vs[i]? = .none:=by
 rw[Cg] at e ⊢;erw[aD r.length];exact e
theorem aB.set{xs:List AV}{vs:List ab}(H:aB h μ xs vs):∀(i:Nat){x v},VR h μ x v->aB h μ (xs.set i x) (vs.set i v):=
 H.ind (C:=λxs vs=>∀(i:Nat){x v},VR h μ x v->aB h μ (xs.set i x) (vs.set i v)) (λJ _ _ J=> .nil) λa r ih i _ _ q=>match i with
  | 0=> .cons q r
  | i+1=> .cons a (ih i q)
theorem aB.take{xs:List AV}{vs:List ab}(H:aB h μ xs vs):∀(i:Nat),aB h μ (xs.take i) (vs.take i):=
 H.ind (C:=λxs vs=>∀(i:Nat),aB h μ (xs.take i) (vs.take i)) (λi=>by (erw[Ci];erw[Ci]);exact .nil) λa J ih i=>match i with
  | 0=> .nil
  | i+1=> .cons a (ih i)
theorem aB.drop{xs:List AV}{vs:List ab}(H:aB h μ xs vs):∀(i:Nat),aB h μ (xs.drop i) (vs.drop i):=
 H.ind (C:=λxs vs=>∀(i:Nat),aB h μ (xs.drop i) (vs.drop i)) (λi=>by (erw[List.drop_nil];erw[List.drop_nil]);exact .nil) λa r ih i=>match i with
  | 0=> .cons a r
  | i+1=>ih i
theorem aB.reverse{xs:List AV}{vs:List ab}(H:aB h μ xs vs):aB h μ xs.reverse vs.reverse:=
 H.ind (C:=λxs vs=>aB h μ xs.reverse vs.reverse) .nil λa J i=>by refine al List.reverse_cons (al List.reverse_cons ?_);exact i.append (.cons a .nil)
end
set_option genCtorIdx true in
inductive KD where
 | i
 | s
 | ti
 | ts
noncomputable def isInt:AV->Bool
 | .int _=>true
 | _=>false
noncomputable def isStr:AV->Bool
 | .str _=>true
 | _=>false
noncomputable def kindOf:AV->Option KD
 | .int _=>some .i
 | .str _=>some .s
 | .tup []=> .none
 | .tup (x::xs)=>if (x::xs).all isInt then some .ti else if (x::xs).all isStr then some .ts else .none
 | _=> .none
noncomputable def lk(f:Nat):List (Nat × AV)->Option AV
 | []=> .none
 | (g,v)::r=>if g=f then some v else lk f r
theorem lR{f g:Nat}{x:AV}{r:List (Nat × AV)}:lk f ((g,x)::r)=if g=f then some x else lk f r:=rfl
noncomputable def up(f:Nat)(v:AV):List (Nat × AV)->List (Nat × AV)
 | []=>[(f,v)]
 | (g,x)::r=>if g=f then (g,v)::r else (g,x)::up f v r
theorem C7{f g:Nat}{v x:AV}{r:List (Nat × AV)}:up f v ((g,x)::r)=if g=f then (g,v)::r else (g,x)::up f v r:=rfl
theorem C8(f:Nat)(v:AV)(g:Nat):∀l,lk g (up f v l)=if g=f then some v else lk g l
 | []=>by
  by_cases h:g=f
  ·subst h;rfl
  ·exact (if_neg (jH h):(if f=g then some v else lk g [])=lk g []).trans (if_neg h).symm
 | (k,x)::r=>by
  erw[C7];by_cases hk:k=f
  ·subst hk;refine al (if_pos rfl) ?_;by_cases h:g=k
   ·subst h;simp[lR]
   ·simp[lR,h,jH h]
  ·refine al (if_neg hk) ?_;erw[lR];erw[lR];refine al (C8 f v g r) ?_;by_cases h:k=g
   ·subst h;simp[hk]
   ·simp[h]
section
variable{prog:dk}{w:bk}{K:Type}[DecidableEq K]
inductive DV(knd:KeyKind prog w K)(em:K->AV)(h:aE)(μ:List (List aa))(a:aa)(kvs:List (AV × AV)):Prop
 | mk (xs:List (K × ab)) (hD:h.DictOf knd a xs) (hk:kvs.map (·.1)=xs.map (λx=>em x.1)) (hv:aB h μ (kvs.map (·.2)) (xs.map (·.2))) (hr:∀x∈xs,∀v,knd.is x.1 v=true->VR h μ (em x.1) v)
theorem DV.ofc{knd:KeyKind prog w K}{em:K->AV}{h:aE}{μ:List (List aa)}{a:aa}{kvs:List (AV × AV)}{xs:List (K × ab)}(hD:h.DictOf knd a xs)(q:kvs.map (·.1)=xs.map (λx=>em x.1)/\aB h μ (kvs.map (·.2)) (xs.map (·.2))/\∀x∈xs,∀v,knd.is x.1 v=true->VR h μ (em x.1) v):DV knd em h μ a kvs:=⟨xs,hD,q.1,q.2.1,q.2.2⟩
inductive DH(knd:KeyKind prog w K)(em:K->AV)(h:aE)(μ:List (List aa))(a:aa)(kvs:List (AV × AV)):Prop
 | mk (xs:List (List K × aa × ab)) (hD:h.DictOfH (nR knd) a xs) (hk:kvs.map (·.1)=xs.map (λx=> .tup (x.1.map em))) (hv:aB h μ (kvs.map (·.2)) (xs.map (·.2.2))) (hr:∀x∈xs,VR h μ (.tup (x.1.map em)) (.ref x.2.1))
theorem DH.ofc{knd:KeyKind prog w K}{em:K->AV}{h:aE}{μ:List (List aa)}{a:aa}{kvs:List (AV × AV)}{xs:List (List K × aa × ab)}(hD:h.DictOfH (nR knd) a xs)(q:kvs.map (·.1)=xs.map (λx=> .tup (x.1.map em))/\aB h μ (kvs.map (·.2)) (xs.map (·.2.2))/\∀x∈xs,VR h μ (.tup (x.1.map em)) (.ref x.2.1)):DH knd em h μ a kvs:=⟨xs,hD,q.1,q.2.1,q.2.2⟩
end
noncomputable def cN(x:Str):AV:= .str x.cps.toList
def DK(prog:dk)(w:bk):KD->aE->List (List aa)->aa->List (AV × AV)->Prop
 | .i=>DV (intKind prog w) .int
 | .s=>DV (strKind prog w) cN
 | .ti=>DH (intKind prog w) .int
 | .ts=>DH (strKind prog w) cN
inductive Mf(h:aE)(μ:List (List aa))(xs:List AV)(ft:List aa):Prop
 | mk (hl:xs.length<=aY) (a:aa) (vs:Array ab) (n:Nat) (e:ft=[a]) (ho:h.get? a=some {cls:= .type "list",data:= .seq vs n}) (hv:aB h μ xs vs.toList)
inductive Mg(prog:dk)(w:bk)(h:aE)(μ:List (List aa))(kvs:List (AV × AV))(ft:List aa):Prop
 | mk (hl:kvs.length<=aY) (a:aa) (kd:KD) (e:ft=[a]) (hD:DK prog w kd h μ a kvs)
def gn(h:aE)(μ:List (List aa))(fs:List (Nat × AV))(es:Array cC)(x:Str):Prop:=match lk (nm x) fs with
 | some v=>∃val,gj es x=some val/\VR h μ v val
 | .none=>gj es x= .none
inductive Mh(h:aE)(μ:List (List aa))(c:aa)(fs:List (Nat × AV))(ft:List aa):Prop
 | mk (hl:fs.length<=900) (a d:aa) (o od:Obj) (es:Array cC) (n:Nat) (e:ft=[a,d]) (ho:h.get? a=some o) (hc:o.cls= .ref c) (hd:o.dict=some d) (hp:o.data= .plain) (hod:h.get? d=some od) (hx:od.ExactDict) (hde:od.data= .dict es n) (hk:StrKeys es) (hsz:es.size<=fs.length)
   (hv:∀x:Str,good x=true->gn h μ fs es x)
def OR(prog:dk)(w:bk)(h:aE)(μ:List (List aa)):AO->List aa->Prop
 | .lst xs,ft=>Mf h μ xs ft
 | .dct kvs,ft=>Mg prog w h μ kvs ft
 | .ins c fs,ft=>Mh h μ c fs ft
structure SR(prog:dk)(w:bk)(h₀:aE)(σ:AH)(μ:List (List aa))(h:aE):Prop where
 next:σ.next=μ.length
 objs:∀l o,σ.m l=some o->∃ft,μ[l]? =some ft/\OR prog w h μ o ft
 apart:μ.flatten.Nodup
 above:∀b∈μ.flatten,h₀.get? b=none/\∃o,h.get? b=some o/\¬frozen o
structure PW where
 prog:dk
 w:bk
 h₀:aE
structure aN where
 GV:Nat->Option AV
 PF:aa->Nat->Bool
 MT:aa->Nat->Option aa
def PW.Base(P:PW)(h:aE):Prop:=∀b o,P.h₀.get? b=some o->h.get? b=some o
noncomputable abbrev PW.M(P:PW):Model:=model P.prog P.w
def lS(A:bh)(d:Nat):Prop:=A.handled= .none/\A.depth+2*d+2<recursionLimit/\A.units+8*d+200<ed
structure aG(P:PW)(μ:List (List aa))(σ':AH)(μ':List (List aa))(s s':aj):Prop where
 same:∃h' t,s'={s with heap:=h',toks:=t}
 keep:∀b o,s.heap.get? b=some o->(b∉μ.flatten\/frozen o)->s'.heap.get? b=some o
 ext:∀(l:Nat) x,μ[l]? =some x->μ'[l]? =some x
 fresh:∀b∈μ'.flatten,b∈μ.flatten\/s.heap.get? b=none
 rel:SR P.prog P.w P.h₀ σ' μ' s'.heap
def Mi(Q:ab->aj->Prop)(E:ab->aj->Prop)(r:Result)(s':aj):Prop:=match r with
 | .ok (.ret v)=>Q v s'
 | .ok _=>False
 | .error e=>E e s'
inductive Back(P:PW)(μ:List (List aa))(s:aj)(Q:AV->AH->Prop)(val:ab)(s':aj):Prop
 | mk (v:AV) (σ':AH) (μ':List (List aa)) (q:Q v σ') (p:aG P μ σ' μ' s s') (h:VR s'.heap μ' v val)
def TC(P:PW)(d:Nat)(f:AV)(args:List AV)(σ:AH)(Q:AV->AH->Prop):Prop:=
 ∀(A:bh)(s:aj)(μ:List (List aa))(fv:ab)(vs:List ab)(E:ab->aj->Prop),lS A d->P.Base s.heap->SR P.prog P.w P.h₀ σ μ s.heap->VR s.heap μ f fv->aB s.heap μ args vs->
  (∀Q:Keeper->aj->Prop,(∀k,Q k s)->aw P.M A (nS fv) Q E s)/\
  kq P.M A (.call fv ⟨vs,[]⟩) (Mi (Back P μ s Q) E) s
def T(P:PW)(d:Nat)(f:AV)(args:List AV)(σ:AH)(Q:AV->AH->Prop):Prop:=
 ∀(A:bh)(s:aj)(μ:List (List aa))(fv:ab)(vs:List ab)(E:ab->aj->Prop),lS A d->P.Base s.heap->SR P.prog P.w P.h₀ σ μ s.heap->VR s.heap μ f fv->aB s.heap μ args vs->
  (∀Q:Keeper->aj->Prop,(∀k,Q k s)->aw P.M A (nS fv) Q E s)/\
  aw P.M A (call fv vs) (Back P μ s Q) E s
section
variable{P:PW}{d d':Nat}{f:AV}{args:List AV}{σ:AH}{Q Q':AV->AH->Prop}
theorem TC.toT(h:TC P d f args σ Q):T P d f args σ Q:=λA s μ fv vs E room B R hf hv=>by
 obtain ⟨h1,h2⟩:=h A s μ fv vs E room B R hf hv;refine ⟨h1,wpAny_call (codeAny_mono h2 λr s' z=>?_)⟩;cases r with
 | error e=>exact z
 | ok f=>induction f using Flow.casesOn<;>exact z
theorem Back.mono{μ:List (List aa)}{s s':aj}{r:ab}(h:Back P μ s Q r s')(q:∀v σ,Q v σ->Q' v σ):Back P μ s Q' r s':=by
 obtain ⟨v,σ',μ',a,b,c⟩:=h;exact ⟨v,σ',μ',q _ _ a,b,c⟩
theorem T.mono(h:T P d f args σ Q)(q:∀v σ,Q v σ->Q' v σ):T P d f args σ Q':=λA s μ fv vs E room B R hf hv=>by
 obtain ⟨h1,h2⟩:=h A s μ fv vs E room B R hf hv;exact ⟨h1,aQ h2 (λr s' z=>z.mono q) λJ J e=>e⟩
theorem lS.le{A:bh}(h:lS A d')(hd:d<=d'):lS A d:=by
 obtain ⟨a,b,c⟩:=h;exact ⟨a,by lia,dA (Nat.add_le_add_right (sC (Nat.mul_le_mul_left 8 hd) _) _) c⟩
theorem T.le(h:T P d f args σ Q)(hd:d<=d'):T P d' f args σ Q:=λA s μ fv vs E room=>h A s μ fv vs E (room.le hd)
end
def jO(v:AV)(k:Bool->Prop):Prop:=match v with
 | .bool b=>k b
 | .none=>k false
 | _=>False
noncomputable def at_{α:Type}(xs:List α)(j:Int):Option α:=
 if 0<=j then xs[j.toNat]? else if 0<=j+xs.length then xs[(j+xs.length).toNat]? else .none
def fY(kvs:List (AV × AV))(x:AV):Prop:=∃kd,kindOf x=some kd/\∀p∈kvs,kindOf p.1=some kd
open Classical in
noncomputable def cy(kvs:List (AV × AV))(k:AV):Option AV:=match kvs with
 | []=> .none
 | p::r=>if p.1=k then some p.2 else cy r k
open Classical in
theorem jm{p:AV × AV}{r:List (AV × AV)}{k:AV}:cy (p::r) k=if p.1=k then some p.2 else cy r k:=rfl
open Classical in
noncomputable def dset(kvs:List (AV × AV))(k v:AV):List (AV × AV):=match kvs with
 | []=>[(k,v)]
 | p::r=>if p.1=k then (p.1,v)::r else p::dset r k v
open Classical in
theorem qs{p:AV × AV}{r:List (AV × AV)}{k v:AV}:dset (p::r) k v=if p.1=k then (p.1,v)::r else p::dset r k v:=rfl
theorem C9{α:Type}{f:List AV->Option α}{p:α}{o:Option AO}(h:(match o with | some (.lst xs)=>f xs | _=> .none)=some p):∃xs,o=some (.lst xs)/\f xs=some p:=by
 induction o using bf with
 | none=>exact aU h
 | some o=>induction o using AO.casesOn with
  | lst xs=>exact ⟨xs,rfl,h⟩
  | _=>exact aU h
noncomputable def fz(σ:AH):Nat->AV->Option PyData
 | 0,J1=> .none
 | J1+1,.none=>some .none
 | J1+1,.bool b=>some (.bool b)
 | J1+1,.int i=>some (.int i)
 | J1+1,.str s=>some (.str (st s))
 | n+1,.tup xs=>(xs.mapM (fz σ n)).map .tuple
 | n+1,.ref l=>match σ.m l with
  | some (.lst xs)=>(xs.mapM (fz σ n)).map .list
  | _=> .none
 | J1+1,J2=> .none
def jP(σ:AH)(x y:AV)(b:Bool):Prop:=
 (∃l m xs ys,x= .ref l/\y= .ref m/\σ.m l=some (.lst xs)/\σ.m m=some (.lst ys)/\xs.length≠ys.length/\b=false)\/∃n p q,fz σ n x=some p/\fz σ n y=some q/\p.canLay0=true/\q.canLay0=true/\p.depth<=64/\q.depth<=64/\b=sD p q
noncomputable def s3(x:AV):Bool:=match x with
 | .none=>true
 | .con v=>v== .none
 | _=>false
def Da(x y:AV)(b:Bool):Prop:=y= .none/\b=s3 x
def s4(σ:AH)(x y:AV)(b:Bool):Prop:=match y with
 | .str t=>∃c,x= .str [c]/\b=t.contains c
 | .tup ys=>∃(s:List Nat)(ts:List (List Nat)),x= .str s/\ys=ts.map AV.str/\b=ts.contains s
 | .ref l=>(∃kvs,σ.m l=some (.dct kvs)/\fY kvs x/\b=(cy kvs x).isSome)\/(∃(s:List Nat)(ts:List (List Nat)),x= .str s/\σ.m l=some (.lst (ts.map AV.str))/\b=ts.contains s)
 | _=>False
noncomputable def oo:List Nat->List Nat->Bool
 | [],J1=>true
 | J1::J2,[]=>false
 | a::r,b::q=>if a<b then true else if b<a then false else oo r q
def dY(op:dU)(x y:AV)(σ:AH)(k:Bool->Prop):Prop:=match op with
 | .Eq=>∃b,jP σ x y b/\k b
 | .NotEq=>∃b,jP σ x y b/\k (!b)
 | .Is=>∃b,Da x y b/\k b
 | .IsNot=>∃b,Da x y b/\k (!b)
 | .In=>∃b,s4 σ x y b/\k b
 | .NotIn=>∃b,s4 σ x y b/\k (!b)
 | .Lt=>∃i j,x= .int i/\y= .int j/\k (decide (i<j))
 | .Gt=>∃i j,x= .int i/\y= .int j/\k (decide (j<i))
 | .GtE=>∃i j,x= .int i/\y= .int j/\k (decide (j<=i))
 | .LtE=>(∃i j,x= .int i/\y= .int j/\k (decide (i<=j)))\/∃s t,x= .str s/\y= .str t/\k (oo s t)
abbrev gV(y:AV)(k:Int->Prop):Prop:=match y with
 | .int b=>k b
 | _=>False
def Db(x y:AV)(σ:AH)(Q:AV->AH->Prop):Prop:=match x with
 | .int a=>gV y λb=>Q (.int (a+b)) σ
 | .str a=>match y with
  | .str b=>a.length+b.length<=aY/\Q (.str (a++b)) σ
  | _=>False
 | .tup a=>match y with
  | .tup b=>a.length+b.length<=aY/\Q (.tup (a++b)) σ
  | _=>False
 | .ref a=>match y with
  | .ref b=>∃xs ys,σ.m a=some (.lst xs)/\σ.m b=some (.lst ys)/\xs.length+ys.length<=aY/\Q (.ref σ.next) (σ.new (.lst (xs++ys)))
  | _=>False
 | _=>False
def Mj(x y:AV)(σ:AH)(Q:AV->AH->Prop):Prop:=match x with
 | .int a=>gV y λb=>IntMulOk a b/\Q (.int (a*b)) σ
 | .ref a=>gV y λn=>∃xs,σ.m a=some (.lst xs)/\0<=n/\n<1000/\xs.length*n.toNat<=1000/\Q (.ref σ.next) (σ.new (.lst (cV n.toNat xs).flatten))
 | _=>False
def kI(op:nQ)(x y:AV)(σ:AH)(Q:AV->AH->Prop):Prop:=match op with
 | .Add=>Db x y σ Q
 | .Mult=>Mj x y σ Q
 | .Sub=>gV x λa=>gV y λb=>Q (.int (a - b)) σ
 | .Mod=>gV x λa=>gV y λb=>0<b/\Q (.int (a % b)) σ
 | .FloorDiv=>gV x λa=>gV y λb=>0<b/\b<2 ^ 15/\Q (.int (a / b)) σ
 | .Pow=>gV x λa=>gV y λn=>0<=n/\(Builtin.Int.intBits a:Int)*n<=2 ^ 27/\Q (.int (a ^ n.toNat)) σ
 | _=>False
def oq(P:PW)(c:aa)(is:List Int):Prop:=
 is.length<=aY/\∃vs n,P.h₀.get? c=some {cls:= .type "list",data:= .seq vs n}/\∀h μ,aB h μ (is.map .int) vs.toList
def Item(P:PW)(x i:AV)(σ:AH)(k:AV->Prop):Prop:=match x with
 | .con o=>∃c is j v,o= .ref c/\oq P c is/\i= .int j/\at_ (is.map AV.int) j=some v/\k v
 | .tup xs=>∃j v,i= .int j/\at_ xs j=some v/\k v
 | .str s=>∃j c,i= .int j/\at_ s j=some c/\k (.str [c])
 | .ref l=>(∃xs j v,σ.m l=some (.lst xs)/\i= .int j/\at_ xs j=some v/\k v)\/(∃kvs v,σ.m l=some (.dct kvs)/\fY kvs i/\cy kvs i=some v/\k v)
 | _=>False
noncomputable def mP:AV->Option (Option Nat)
 | .none=>some .none
 | .int (.ofNat a)=>some (some a)
 | _=> .none
noncomputable def gX{α:Type}(xs:List α)(a b:Option Nat):List α:=(xs.take (b.getD xs.length)).drop (a.getD 0)
noncomputable def cut{α:Type}(xs:List α)(lo hi:AV):AV->Option (List α)
 | .none=>(mP lo).bind λa=>(mP hi).map λb=>gX xs a b
 | .int (.negSucc 0)=>(mP lo).bind λa=>(mP hi).bind λb=>cond (a.isSome || b.isSome) .none (some xs.reverse)
 | _=> .none
def ot(x lo hi st:AV)(σ:AH)(Q:AV->AH->Prop):Prop:=match x with
 | .tup xs=>lo= .none/\hi= .none/\st= .int (-1)/\Q (.tup xs.reverse) σ
 | .str s=>st= .none/\∃t,cut s lo hi st=some t/\Q (.str t) σ
 | .ref l=>∃xs ys,σ.m l=some (.lst xs)/\cut xs lo hi st=some ys/\Q (.ref σ.next) (σ.new (.lst ys))
 | _=>False
noncomputable def mQ:AV->Bool
 | .con v=>handedIn v
 | _=>true
def qt(S:aN)(o:AV)(f:Nat)(σ:AH)(k:AV->Prop):Prop:=
 ∃l c fs,o= .ref l/\σ.m l=some (.ins c fs)/\
  ((∃v,lk f fs=some v/\S.PF c f=true/\mQ v=true/\k v)\/∃m,lk f fs= .none/\S.MT c f=some m/\k (.bm m l))
def xN(S:aN)(o:AV)(f:Nat)(v:AV)(σ:AH)(k:AH->Prop):Prop:=
 ∃l c fs,o= .ref l/\σ.m l=some (.ins c fs)/\S.PF c f=true/\fs.length<900/\k (σ.set l (.ins c (up f v fs)))
noncomputable def xO(f:Nat):Option String:=
 if f=nm (cz "split") then some "str.split" else if f=nm (cz "join") then some "str.join" else if f=nm (cz "startswith") then some "str.startswith" else if f=nm (cz "find") then some "str.find" else if f=nm (cz "replace") then some "str.replace" else .none
noncomputable def xP(f:Nat):Option String:=
 if f=nm (cz "append") then some "list.append" else if f=nm (cz "pop") then some "list.pop" else if f=nm (cz "extend") then some "list.extend" else .none
noncomputable def xQ(f:Nat):Option String:=
 if f=nm (cz "get") then some "dict.get" else .none
def jn(S:aN)(o:AV)(f:Nat)(σ:AH)(fv:AV):Prop:=match o with
 | .str _=>∃i,xO f=some i/\fv= .con (.builtin i)
 | .ref l=>(∃c fs m,σ.m l=some (.ins c fs)/\lk f fs= .none/\S.MT c f=some m/\fv= .con (.ref m))\/
   (∃xs i,σ.m l=some (.lst xs)/\xP f=some i/\fv= .con (.builtin i))\/(∃kvs i,σ.m l=some (.dct kvs)/\xQ f=some i/\fv= .con (.builtin i))
 | _=>False
def s7(x i v:AV)(σ:AH)(k:AH->Prop):Prop:=match x with
 | .ref l=>(∃(xs:List AV)(j:Int),σ.m l=some (.lst xs)/\i= .int j/\0<=j/\j<xs.length/\k (σ.set l (.lst (xs.set j.toNat v))))\/
   (∃kvs,σ.m l=some (.dct kvs)/\fY kvs i/\kvs.length<aY/\k (σ.set l (.dct (dset kvs i v))))
 | _=>False
noncomputable def bz(v:AV)(σ:AH):Option (List AV):=match v with
 | .tup xs=>some xs
 | .str s=>some (s.map λc=> .str [c])
 | .rng n=>some ((fF n).map λ(i:Nat)=> .int (i:Int))
 | .ref l=>match σ.m l with
  | some (.lst xs)=>some xs
  | _=> .none
 | _=> .none
abbrev qu(o:Option AV)(k:AV->Prop):Prop:=match o with
 | some v=>k v
 | .none=>False
theorem xR{k:AV->Prop}:∀{o:Option AV},qu o k->∃v,o=some v/\k v
 | some v,h=>⟨v,rfl,h⟩
theorem kJ{k:AV->Prop}{o:Option AV}{v:AV}(e:o=some v)(h:k v):qu o k:=e▸h
noncomputable abbrev ac:=List (Option AV)
noncomputable def gY(v:AV)(N:Nat)(B:AV->ac->AH->(ac->AH->Prop)->Prop):Nat->ac->AH->(ac->AH->Prop)->Prop
 | 0,κ,σ,Q=>∃ys,bz v σ=some ys/\ys.length=N/\Q κ σ
 | k+1,κ,σ,Q=>∃ys y,bz v σ=some ys/\ys.length=N/\ys[N - (k+1)]? =some y/\B y κ σ λκ' σ'=>gY v N B k κ' σ' Q
theorem Ml{v:AV}{N i:Nat}{B:AV->ac->AH->(ac->AH->Prop)->Prop}{κ:ac}{σ:AH}{Q:ac->AH->Prop}(h:gY v N B (N - i) κ σ Q)(hi:i<=N):
  ∃ys,bz v σ=some ys/\ys.length=N/\(∀x,ys[i]? =some x->B x κ σ λκ' σ'=>gY v N B (N - (i+1)) κ' σ' Q)/\(ys[i]? = .none->Q κ σ):=by
 cases e:N - i with
 | zero=>
  rw[e] at h;(refine aI λkK=>?_;obtain ⟨ys,h1,h2,q⟩:=h;refine kK ?_;clear kK);exact ⟨ys,h1,h2,λx hx=>absurd e (Nat.sub_ne_zero_of_lt (h2▸(bP.mp hx).1)),λJ=>q⟩
 | succ k=>
  rw[e] at h;(refine aI λkK=>?_;obtain ⟨ys,y,h1,h2,hy,q⟩:=h;refine kK ?_;clear kK);rw[<-e,Nat.sub_sub_self hi] at hy;exact ⟨ys,h1,h2,λx hx=>by rw[hy] at hx;obtain rfl:=aO hx;rewrite[show N - (i+1)=k from congrArg Nat.pred e];exact q,λhx=>by rw[hy] at hx;cases hx⟩
def Dc(P:PW)(elt:AE)(g:AG)(n:Nat)(ρ:ac)(σ:AH)(Q:AV->AH->Prop):Prop:=
 ∃(r i j l m:Nat)(kvs kws:List (AV × AV)),g= .cons (.cl r) (.loc i) (.cons (.cmp (.cl r) (.one .NotIn (.loc j))) .nil) .nil/\r<n/\(∃o,P.h₀.get? gk=some o)/\
  ρ[i]? =some (some (.ref l))/\ρ[j]? =some (some (.ref m))/\l≠m/\σ.m l=some (.dct kvs)/\σ.m m=some (.dct kws)/\
  (∀p∈kvs,kindOf p.1=some .ts/\p.1∈kws.map (·.1))/\(∀p∈kws,kindOf p.1=some .ts)/\Q (.ref σ.next) (σ.new (.lst []))
inductive Fl where
 | next
 | ret (v:AV)
noncomputable def turns(v:AV)(N:Nat)(B:AV->ac->AH->(Fl->ac->AH->Prop)->Prop):Nat->ac->AH->(Fl->ac->AH->Prop)->Prop
 | 0,ρ,σ,Q=>∃ys,bz v σ=some ys/\ys.length=N/\Q .next ρ σ
 | k+1,ρ,σ,Q=>∃ys y,bz v σ=some ys/\ys.length=N/\ys[N - (k+1)]? =some y/\B y ρ σ λfl ρ' σ'=>match fl with
  | .next=>turns v N B k ρ' σ' Q
  | .ret y=>Q (.ret y) ρ' σ'
section
variable(P:PW)(S:aN)(d:Nat)
mutual
@[reducible] noncomputable def wE:AE->ac->ac->AH->(AV->AH->Prop)->Prop
 | .none,J1,J2,σ,Q=>Q .none σ
 | .tru,J1,J2,σ,Q=>Q (.bool true) σ
 | .fls,J1,J2,σ,Q=>Q (.bool false) σ
 | .int i,J1,J2,σ,Q=>Q (.int i) σ
 | .str s,J1,J2,σ,Q=>Q (.str s) σ
 | .loc i,ρ,J1,σ,Q=>qu (ρ[i]?).join λv=>Q v σ
 | .cl i,J1,κ,σ,Q=>qu (κ[i]?).join λv=>Q v σ
 | .glob g,J1,J2,σ,Q=>qu (S.GV g) λv=>Q v σ
 | .attr e f,ρ,κ,σ,Q=>wE e ρ κ σ λo ae=>qt S o f ae λv=>Q v ae
 | .call f es,ρ,κ,σ,Q=>wE f ρ κ σ λfv ae=>wL es ρ κ ae λvs ao=>T P d fv vs ao Q
 | .meth e f es,ρ,κ,σ,Q=>wE e ρ κ σ λo ae=>∃fv,jn S o f ae fv/\wL es ρ κ ae λvs ao=>T P d fv (o::vs) ao Q
 | .bin op a b,ρ,κ,σ,Q=>wE a ρ κ σ λx ae=>wE b ρ κ ae λy ao=>kI op x y ao Q
 | .not a,ρ,κ,σ,Q=>wE a ρ κ σ λv ae=>jO v λb=>Q (.bool !b) ae
 | .neg a,ρ,κ,σ,Q=>wE a ρ κ σ λv ae=>gV v λi=>Q (.int (-i)) ae
 | .cmp a cs,ρ,κ,σ,Q=>wE a ρ κ σ λx ae=>wC cs x ρ κ ae λb ao=>Q (.bool b) ao
 | .and es,ρ,κ,σ,Q=>wB true es ρ κ σ Q
 | .or es,ρ,κ,σ,Q=>wB false es ρ κ σ Q
 | .ite t a b,ρ,κ,σ,Q=>wT t (wE t ρ κ σ) ρ κ σ λc ae=>match c with
  | true=>wE a ρ κ ae Q
  | false=>wE b ρ κ ae Q
 | .list es,ρ,κ,σ,Q=>wL es ρ κ σ λvs ae=>Q (.ref ae.next) (ae.new (.lst vs))
 | .tup es,ρ,κ,σ,Q=>wL es ρ κ σ λvs ae=>Q (.tup vs) ae
 | .dict0,J1,J2,σ,Q=>Q (.ref σ.next) (σ.new (.dct []))
 | .dict1 k v,ρ,κ,σ,Q=>wE k ρ κ σ λx ae=>kindOf x=some .s/\wE v ρ κ ae λy ao=>Q (.ref ao.next) (ao.new (.dct [(x,y)]))
 | .sub a i,ρ,κ,σ,Q=>wE a ρ κ σ λx ae=>wE i ρ κ ae λy ao=>Item P x y ao λv=>Q v ao
 | .slice a lo hi st,ρ,κ,σ,Q=>wE a ρ κ σ λx ae=>wE lo ρ κ ae λl ao=>wE hi ρ κ ao λh aA=>wE st ρ κ aA λs aW=>ot x l h s aW Q
 | .comp elt g n,ρ,κ,σ,Q=>Dc P elt g n ρ σ Q\/xU g (λκ' σ' acc k=>wE elt ρ κ' σ' λv ae=>∃xs,ae.m acc=some (.lst xs)/\xs.length<aY/\k κ' (ae.set acc (.lst (xs++[v])))) n ρ κ σ Q
@[reducible] noncomputable def wL:AL->ac->ac->AH->(List AV->AH->Prop)->Prop
 | .nil,J1,J2,σ,Q=>Q [] σ
 | .cons e es,ρ,κ,σ,Q=>wE e ρ κ σ λv ae=>wL es ρ κ ae λvs ao=>Q (v::vs) ao
@[reducible] noncomputable def wC:AC->AV->ac->ac->AH->(Bool->AH->Prop)->Prop
 | .one op e,x,ρ,κ,σ,Q=>wE e ρ κ σ λy ae=>dY op x y ae λb=>Q b ae
 | .cons op e cs,x,ρ,κ,σ,Q=>wE e ρ κ σ λy ae=>dY op x y ae λb=>match b with
  | true=>wC cs y ρ κ ae Q
  | false=>Q false ae
@[reducible] noncomputable def wB(cJ:Bool):AL->ac->ac->AH->(AV->AH->Prop)->Prop
 | .nil,J1,J2,J3,J4=>False
 | .cons e es,ρ,κ,σ,Q=>wE e ρ κ σ λv ae=>match es with
  | .nil=>Q v ae
  | .cons .. =>jO v λt=>match cJ,t with
   | true,true=>wB cJ es ρ κ ae Q
   | false,false=>wB cJ es ρ κ ae Q
   | J1,J2=>Q v ae
@[reducible] noncomputable def wT:AE->((AV->AH->Prop)->Prop)->ac->ac->AH->(Bool->AH->Prop)->Prop
 | .not a,J1,ρ,κ,σ,Q=>wT a (wE a ρ κ σ) ρ κ σ λb ae=>Q (!b) ae
 | .cmp a cs,J1,ρ,κ,σ,Q=>wE a ρ κ σ λx ae=>wC cs x ρ κ ae Q
 | .and es,J1,ρ,κ,σ,Q=>ou true es ρ κ σ Q
 | .or es,J1,ρ,κ,σ,Q=>ou false es ρ κ σ Q
 | .ite t a b,J1,ρ,κ,σ,Q=>wT t (wE t ρ κ σ) ρ κ σ λc ae=>match c with
  | true=>wT a (wE a ρ κ ae) ρ κ ae Q
  | false=>wT b (wE b ρ κ ae) ρ κ ae Q
 | J1,whole,J2,J3,J4,Q=>whole λv ae=>jO v λb=>Q b ae
@[reducible] noncomputable def ou(cJ:Bool):AL->ac->ac->AH->(Bool->AH->Prop)->Prop
 | .nil,J1,J2,σ,Q=>Q cJ σ
 | .cons e es,ρ,κ,σ,Q=>wT e (wE e ρ κ σ) ρ κ σ λt ae=>match cJ,t with
  | true,true=>ou cJ es ρ κ ae Q
  | false,false=>ou cJ es ρ κ ae Q
  | J1,J2=>Q t ae
@[reducible] noncomputable def iO:AL->ac->ac->AH->(Bool->AH->Prop)->Prop
 | .nil,J1,J2,σ,Q=>Q true σ
 | .cons e es,ρ,κ,σ,Q=>wT e (wE e ρ κ σ) ρ κ σ λt ae=>match t with
  | true=>iO es ρ κ ae Q
  | false=>Q false ae
@[reducible] noncomputable def xU:AG->(ac->AH->Nat->(ac->AH->Prop)->Prop)->Nat->ac->ac->AH->(AV->AH->Prop)->Prop
 | .nil,J1,J2,J3,J4,J5,J6=>False
 | .cons t it ifs g,B,n,ρ,κ,σ,Q=>wE it ρ κ σ λv ae=>∃xs,bz v ae=some xs/\
   gY v xs.length (λx cS ao k=>wA t x ρ cS ao λb9 bo aA=>b9=ρ/\iO ifs ρ bo aA λb aW=>match b with
    | true=>wG g B ρ ae.next bo aW k
    | false=>k bo aW) xs.length (cV n .none) (ae.new (.lst [])) λJ σ'=>Q (.ref ae.next) σ'
@[reducible] noncomputable def wG:AG->(ac->AH->Nat->(ac->AH->Prop)->Prop)->ac->Nat->ac->AH->(ac->AH->Prop)->Prop
 | .nil,B,J1,acc,κ,σ,Q=>B κ σ acc Q
 | .cons t it ifs g,B,ρ,acc,κ,σ,Q=>wE it ρ κ σ λv ae=>∃xs,bz v ae=some xs/\
   gY v xs.length (λx cS ao k=>wA t x ρ cS ao λb9 bo aA=>b9=ρ/\iO ifs ρ bo aA λb aW=>match b with
    | true=>wG g B ρ acc bo aW k
    | false=>k bo aW) xs.length κ ae Q
@[reducible] noncomputable def wA:AT->AV->ac->ac->AH->(ac->ac->AH->Prop)->Prop
 | .loc i,v,ρ,κ,σ,Q=>Q (ρ.set i (some v)) κ σ
 | .cl i,v,ρ,κ,σ,Q=>Q ρ (κ.set i (some v)) σ
 | .attr e f,v,ρ,κ,σ,Q=>wE e ρ κ σ λo ae=>xN S o f v ae λao=>Q ρ κ ao
 | .sub a i,v,ρ,κ,σ,Q=>wE a ρ κ σ λx ae=>wE i ρ κ ae λy ao=>s7 x y v ao λaA=>Q ρ κ aA
 | .tup ts,v,ρ,κ,σ,Q=>∃xs,v= .tup xs/\xs.length=ts.len/\mR ts xs ρ κ σ Q
@[reducible] noncomputable def mR:dC->List AV->ac->ac->AH->(ac->ac->AH->Prop)->Prop
 | .nil,xs,ρ,κ,σ,Q=>xs=[]/\Q ρ κ σ
 | .cons t ts,xs,ρ,κ,σ,Q=>∃x r,xs=x::r/\wA t x ρ κ σ λbe cS ae=>mR ts r be cS ae Q
end
mutual
@[reducible] noncomputable def wS:AS->ac->AH->(Fl->ac->AH->Prop)->Prop
 | .expr e,ρ,σ,Q=>wE P S d e ρ [] σ λJ ae=>Q .next ρ ae
 | .ret e,ρ,σ,Q=>wE P S d e ρ [] σ λv ae=>Q (.ret v) ρ ae
 | .asg t e,ρ,σ,Q=>wE P S d e ρ [] σ λv ae=>wA P S d t v ρ [] ae λbe cS ao=>cS=[]/\Q .next be ao
 | .cond t b o,ρ,σ,Q=>wT P S d t (wE P S d t ρ [] σ) ρ [] σ λc ae=>match c with
  | true=>aM b ρ ae Q
  | false=>aM o ρ ae Q
 | .whl t b,ρ,σ,Q=>∀X:ac->AH->Prop,(∀be ae,(wT P S d t (wE P S d t be [] ae) be [] ae λc ao=>match c with
   | true=>aM b be ao λfl nN aA=>match fl with
    | .next=>X nN aA
    | .ret v=>Q (.ret v) nN aA
   | false=>Q .next be ao)->X be ae)->X ρ σ
 | .for_ t it b,ρ,σ,Q=>wE P S d it ρ [] σ λv ae=>∃xs,bz v ae=some xs/\
   turns v xs.length (λx be ao k=>wA P S d t x be [] ao λb9 bo aA=>bo=[]/\aM b b9 aA k) xs.length ρ ae Q
 | .try_ b,ρ,σ,Q=>aM b ρ σ Q
 | .other,J1,J2,J3=>False
@[reducible] noncomputable def aM:au->ac->AH->(Fl->ac->AH->Prop)->Prop
 | .nil,ρ,σ,Q=>Q .next ρ σ
 | .cons s r,ρ,σ,Q=>wS s ρ σ λfl be ae=>match fl with
  | .next=>aM r be ae Q
  | .ret v=>Q (.ret v) be ae
end
end
theorem IsTupleKey.mono{prog:dk}{w:bk}{K:Type}[DecidableEq K]{knd:KeyKind prog w K}{h h':aE}{ks:List K}{a:aa}(hk:∀b o,h.get? b=some o->frozen o->h'.get? b=some o)(H:IsTupleKey knd h ks a):IsTupleKey knd h' ks a:=by
 obtain ⟨o,items,n,ho,hc,hd,r⟩:=H;exact ⟨o,items,n,hk _ _ ho (.inl ⟨hc,_,_,hd⟩),hc,hd,r⟩
section
variable{prog:dk}{w:bk}{h h':aE}{μ μ':List (List aa)}
theorem DV.mono{K:Type}[DecidableEq K]{knd:KeyKind prog w K}{em:K->AV}{a:aa}{kvs:List (AV × AV)}(hk:∀b o,h.get? b=some o->frozen o->h'.get? b=some o)(hm:∀(l:Nat) x,μ[l]? =some x->μ'[l]? =some x)
  (ha:∀o,h.get? a=some o->h'.get? a=some o) (H:DV knd em h μ a kvs):DV knd em h' μ' a kvs:=by
 obtain ⟨xs,⟨o,es,ep,ho,r⟩,e,hv,hx⟩:=H;exact ⟨xs,⟨o,es,ep,ha _ ho,r⟩,e,hv.mono hk hm,λx m v q=>(hx x m v q).mono hk hm⟩
theorem DH.mono{K:Type}[DecidableEq K]{knd:KeyKind prog w K}{em:K->AV}{a:aa}{kvs:List (AV × AV)}(hk:∀b o,h.get? b=some o->frozen o->h'.get? b=some o)(hm:∀(l:Nat) x,μ[l]? =some x->μ'[l]? =some x)
  (ha:∀o,h.get? a=some o->h'.get? a=some o) (H:DH knd em h μ a kvs):DH knd em h' μ' a kvs:=by
 obtain ⟨xs,⟨o,es,ep,ho,hc,hd,he,hi,hn⟩,e,hv,hx⟩:=H;exact ⟨xs,⟨o,es,ep,ha _ ho,hc,hd,he,λx m=>IsTupleKey.mono hk (hi x m),hn⟩,e,hv.mono hk hm,λx m=>(hx x m).mono hk hm⟩
theorem DK.mono{kd:KD}{a:aa}{kvs:List (AV × AV)}(hk:∀b o,h.get? b=some o->frozen o->h'.get? b=some o)(hm:∀(l:Nat) x,μ[l]? =some x->μ'[l]? =some x)
  (ha:∀o,h.get? a=some o->h'.get? a=some o) (H:DK prog w kd h μ a kvs):DK prog w kd h' μ' a kvs:=by
 induction kd using KD.casesOn
 ·exact DV.mono hk hm ha H
 ·exact DV.mono hk hm ha H
 ·exact DH.mono hk hm ha H
 ·exact DH.mono hk hm ha H
theorem DK.obj{kd:KD}{a:aa}{kvs:List (AV × AV)}(H:DK prog w kd h μ a kvs):∃o,h.get? a=some o/\o.ExactDict:=by
 induction kd using KD.casesOn
 ·obtain ⟨xs,⟨o,es,ep,ho,hc,J⟩,J⟩:=H;exact ⟨o,ho,hc⟩
 ·obtain ⟨xs,⟨o,es,ep,ho,hc,J⟩,J⟩:=H;exact ⟨o,ho,hc⟩
 ·obtain ⟨xs,⟨o,es,ep,ho,hc,J⟩,J⟩:=H;exact ⟨o,ho,hc⟩
 ·obtain ⟨xs,⟨o,es,ep,ho,hc,J⟩,J⟩:=H;exact ⟨o,ho,hc⟩
theorem gn.map{fs:List (Nat × AV)}{es:Array cC}{x:Str}(q:gn h μ fs es x)(f:∀v val,VR h μ v val->VR h' μ' v val):gn h' μ' fs es x:=by
 unfold gn at q ⊢
 induction e:lk (nm x) fs using bf with
 | some v=>
  rw[e] at q;obtain ⟨val,q1,q2⟩:=q;exact ⟨val,q1,f _ _ q2⟩
 | none=>rw[e] at q;exact q
theorem gn.of_some{fs:List (Nat × AV)}{es:Array cC}{x:Str}{v:AV}(q:gn h μ fs es x)(e:lk (nm x) fs=some v):∃val,gj es x=some val/\VR h μ v val:=by
 unfold gn at q;rw[e] at q;exact q
theorem gn.of_none{fs:List (Nat × AV)}{es:Array cC}{x:Str}(q:gn h μ fs es x)(e:lk (nm x) fs=none):gj es x=none:=by
 unfold gn at q;rw[e] at q;exact q
theorem OR.mono(hk:∀b o,h.get? b=some o->frozen o->h'.get? b=some o)(hm:∀(l:Nat) x,μ[l]? =some x->μ'[l]? =some x){o:AO}{ft:List aa}
  (hf:∀b∈ft,∀ob,h.get? b=some ob->h'.get? b=some ob) (H:OR prog w h μ o ft):OR prog w h' μ' o ft:=by
 induction o using AO.casesOn with
 | lst xs=>
  obtain ⟨hl,a,vs,n,rfl,ho,hv⟩:=H;exact ⟨hl,a,vs,n,rfl,hf a (.head _) _ ho,hv.mono hk hm⟩
 | dct kvs=>
  obtain ⟨hl,a,kd,rfl,H⟩:=H;exact ⟨hl,a,kd,rfl,H.mono hk hm λo ho=>hf a (.head _) o ho⟩
 | ins c fs=>
  obtain ⟨hl,a,d,ob,od,es,n,rfl,ho,hc,hd,hp,hod,hox,hde,hsk,hsz,hv⟩:=H;refine ⟨hl,a,d,ob,od,es,n,rfl,hf a (.head _) _ ho,hc,hd,hp,hf d (.tail _ (.head _)) _ hod,hox,hde,hsk,hsz,λx hg=>(hv x hg).map λJ J q=>q.mono hk hm⟩
theorem Mm{o:Obj}(e:o.cls= .type "list")(z:frozen o):False:=by
 rcases z.cls with z | z | z<;>rw[e] at z<;>exact absurd z (by decide)
theorem xV{o:Obj}(e:o.cls= .type "dict")(z:frozen o):False:=by
 rcases z.cls with z | z | z<;>rw[e] at z<;>exact absurd z (by decide)
theorem Mo{o:Obj}{c:aa}(e:o.cls= .ref c)(z:frozen o):False:=by
 rcases z.cls with z | z | z<;>rw[e] at z<;>exact Value.noConfusion z
theorem OR.notFrozen{o:AO}{ft:List aa}(H:OR prog w h μ o ft):∀b∈ft,∀ob,h.get? b=some ob->¬frozen ob:=by
 intro b hb ob hob hz
 induction o using AO.casesOn with
 | lst xs=>
  obtain ⟨J,a,vs,n,rfl,ho,hv⟩:=H;obtain rfl:=aF.mp hb;obtain rfl:=aO (ho.symm.trans hob);exact Mm rfl hz
 | dct kvs=>
  obtain ⟨J,a,kd,rfl,H⟩:=H;obtain rfl:=aF.mp hb;obtain ⟨o,ho,hx⟩:=H.obj;obtain rfl:=aO (ho.symm.trans hob);exact xV hx.1 hz
 | ins c fs=>
  obtain ⟨J,a,d,ob',od,es,n,rfl,ho,hc,hd,hp,hod,hox,J⟩:=H;rcases aV.mp hb with rfl | hb
  ·obtain rfl:=aO (ho.symm.trans hob);exact Mo hc hz
  ·obtain rfl:=aF.mp hb;obtain rfl:=aO (hod.symm.trans hob);exact xV hox.1 hz
end
theorem fL{μ:List (List aa)}{l:Nat}{ft:List aa}(e:μ[l]? =some ft){b:aa}(hb:b∈ft):b∈μ.flatten:=
 kr.mpr ⟨ft,cj e,hb⟩
theorem mS:∀{μ:List (List aa)},μ.flatten.Nodup->∀{l k:Nat}{f g:List aa},μ[l]? =some f->μ[k]? =some g->l≠k->∀b∈f,b∉g
 | [],J1,l,J2,J3,J4,e,J5,J6=>by simp at e
 | x::r,hn,l,k,f,g,e1,e2,bA=>by
  rw[lG,eL] at hn;obtain ⟨J,hr,hd⟩:=hn;cases l with
  | zero=>
   cases k with
   | zero=>exact absurd rfl bA
   | succ k=>
    intro b hb hg;simp only[LK,pU] at e1;subst e1;exact hd b hb b (fL (by simpa using e2) hg) rfl
  | succ l=>
   cases k with
   | zero=>
    intro b hb hg;simp only[LK,pU] at e2;subst e2;exact hd b hg b (fL (by simpa using e1) hb) rfl
   | succ k=>exact mS hr (by simpa using e1) (by simpa using e2) (by lia)
theorem OR.live{prog:dk}{w:bk}{h:aE}{μ:List (List aa)}{o:AO}{ft:List aa}(H:OR prog w h μ o ft):∀b∈ft,∃ob,h.get? b=some ob/\¬frozen ob:=by
 intro b hb;have key:∃ob,h.get? b=some ob:=by
  induction o using AO.casesOn with
  | lst xs=>
   obtain ⟨J,a,vs,n,rfl,ho,hv⟩:=H;rw[aF] at hb;subst hb;exact ⟨_,ho⟩
  | dct kvs=>
   obtain ⟨J,a,kd,rfl,H⟩:=H;rw[aF] at hb;subst hb;obtain ⟨o,ho,J⟩:=H.obj;exact ⟨o,ho⟩
  | ins c fs=>
   obtain ⟨J,a,d,ob',od,es,n,rfl,ho,hc,hd,hp,hod,hox,J⟩:=H;simp only[aV,am,or_false] at hb;rcases hb with rfl | rfl
   ·exact ⟨_,ho⟩
   ·exact ⟨_,hod⟩
 obtain ⟨ob,hob⟩:=key;exact ⟨ob,hob,H.notFrozen b hb ob hob⟩
section
variable{prog:dk}{w:bk}{h₀:aE}{σ:AH}{h h':aE}{μ:List (List aa)}
theorem SR.aside(R:SR prog w h₀ σ μ h)(hk:∀b o,h.get? b=some o->(b∈μ.flatten\/frozen o)->h'.get? b=some o):SR prog w h₀ σ μ h':=by
 refine ⟨R.next,λl o e=>?_,R.apart,λb hb=>?_⟩
 ·obtain ⟨ft,e1,e2⟩:=R.objs l o e;exact ⟨ft,e1,e2.mono (λb o e z=>hk b o e (.inr z)) (λJ J e=>e) λb hb ob e=>hk b ob e (.inl (fL e1 hb))⟩
 ·obtain ⟨h1,o,h2,h3⟩:=R.above b hb;exact ⟨h1,o,hk b o h2 (.inl hb),h3⟩
theorem SR.grow(R:SR prog w h₀ σ μ h)(hk:∀b o,h.get? b=some o->h'.get? b=some o):SR prog w h₀ σ μ h':=R.aside λb o e J=>hk b o e
theorem SR.turn(R:SR prog w h₀ σ μ h){l:Nat}{ft:List aa}{o o':AO}(e:σ.m l=some o)(el:μ[l]? =some ft)(hk:∀b ob,h.get? b=some ob->b∉ft->h'.get? b=some ob)
  (H:OR prog w h' μ o' ft):SR prog w h₀ (σ.set l o') μ h':=by
 have hfz:∀b ob,h.get? b=some ob->frozen ob->h'.get? b=some ob:=by
  intro b ob hb hz;refine hk b ob hb λhm=>?_;obtain ⟨ft',e1,e2⟩:=R.objs l o e;rw[el] at e1;(have hH:=aO e1;clear e1;subst hH);exact e2.notFrozen b hm ob hb hz
 refine ⟨R.next,λk x hx=>?_,R.apart,λb hb=>?_⟩
 ·by_cases q:k=l
  ·subst q;simp only[AH.set,if_true,pU] at hx;subst hx;exact ⟨ft,el,H⟩
  ·simp only[AH.set,q,if_false] at hx;obtain ⟨ft',e1,e2⟩:=R.objs k x hx;exact ⟨ft',e1,e2.mono hfz (λJ J e=>e) λb hb ob he=>hk b ob he (mS R.apart e1 el q b hb)⟩
 ·obtain ⟨h1,ob,h2,h3⟩:=R.above b hb;by_cases q:b∈ft
  ·exact ⟨h1,H.live b q⟩
  ·exact ⟨h1,ob,hk b ob h2 q,h3⟩
theorem jo{μ:List (List aa)}{ft:List aa}{l:Nat}{x:List aa}(e:μ[l]? =some x):(μ++[ft])[l]? =some x:=by
 erw[nT ((bP.mp e).1)];exact e
theorem iP{μ:List (List aa)}{ft:List aa}:(μ++[ft])[μ.length]? =some ft:=by simp
theorem mem_push{μ:List (List aa)}{ft:List aa}{b:aa}:b∈(μ++[ft]).flatten↔b∈μ.flatten\/b∈ft:=by
 ((erw[ku];erw[lG];erw[List.flatten_nil]);rw[dB,dH])
theorem SR.fresh(R:SR prog w h₀ σ μ h){ft:List aa}{o:AO}(hk:∀b ob,h.get? b=some ob->h'.get? b=some ob)(h0:∀b o,h₀.get? b=some o->h.get? b=some o)
  (hf:∀b∈ft,h.get? b=none) (hn:ft.Nodup) (H:OR prog w h' (μ++[ft]) o ft):SR prog w h₀ (σ.new o) (μ++[ft]) h':=by
 refine ⟨by simp[AH.new,R.next],λk x hx=>?_,?_,λb hb=>?_⟩
 ·by_cases q:k=σ.next
  ·subst q;simp only[AH.new,if_true,pU] at hx;subst hx;exact ⟨ft,by erw[R.next];exact iP,H⟩
  ·simp only[AH.new,q,if_false] at hx;obtain ⟨ft',e1,e2⟩:=R.objs k x hx;exact ⟨ft',jo e1,e2.mono (λb o e J=>hk b o e) (λJ J e=>jo e) λb J ob e=>hk b ob e⟩
 ·((erw[ku];erw[lG];erw[List.flatten_nil]);rewrite[dB,eL])
  refine ⟨R.apart,hn,λa ha b hb=>λe=>?_⟩;obtain ⟨J,o,h2,J⟩:=R.above a ha;rw[e,hf b hb] at h2;exact aU h2
 ·rcases mem_push.mp hb with hb | hb
  ·obtain ⟨h1,o,h2,h3⟩:=R.above b hb;exact ⟨h1,o,hk b o h2,h3⟩
  ·refine ⟨?_,H.live b hb⟩
   induction q:h₀.get? b using bf with
   | none=>rfl
   | some o=>have:=h0 b o q;rw[hf b hb] at this;exact aU this
end
section
variable{P:PW}{μ ax bF:List (List aa)}{σ az bu:AH}{s ah aR:aj}
theorem aG.refl(R:SR P.prog P.w P.h₀ σ μ s.heap):aG P μ σ μ s s:=
 ⟨⟨s.heap,s.toks,rfl⟩,λJ J e J=>e,λJ J e=>e,λJ h=> .inl h,R⟩
theorem aG.tok(R:SR P.prog P.w P.h₀ σ μ s.heap)(t:Nat):aG P μ σ μ s {s with toks:=t}:=
 ⟨⟨s.heap,t,rfl⟩,λJ J e J=>e,λJ J e=>e,λJ h=> .inl h,R⟩
theorem aG.trans(a:aG P μ az ax s ah)(b:aG P ax bu bF ah aR):aG P μ bu bF s aR:=by
 have hm:∀x o,s.heap.get? x=some o->x∉μ.flatten->x∉ax.flatten:=by
  intro x o e z h;rcases a.fresh x h with q | q
  ·exact z q
  ·rw[e] at q;cases q
 refine ⟨?_,λx o e z=>?_,λl x e=>b.ext l x (a.ext l x e),λx hx=>?_,b.rel⟩
 ·obtain ⟨h1,t1,e1⟩:=a.same;obtain ⟨h2,t2,e2⟩:=b.same;subst e1;exact ⟨h2,t2,e2⟩
 ·refine b.keep x o (a.keep x o e z) ?_;rcases z with z | z
  ·exact .inl (hm x o e z)
  ·exact .inr z
 ·rcases b.fresh x hx with q | q
  ·exact a.fresh x q
  ·by_cases hx:x∈μ.flatten
   ·exact .inl hx
   ·induction e:s.heap.get? x using bf with
    | none=>exact .inr rfl
    | some o=>
     have:=a.keep x o e (.inl hx);rw[q] at this;exact aU this
theorem aG.base(p:aG P μ az ax s ah)(R:SR P.prog P.w P.h₀ σ μ s.heap)(B:P.Base s.heap):P.Base ah.heap:=by
 refine λb o e=>p.keep b o (B b o e) (.inl λhm=>?_);have:=(R.above b hm).1;rw[e] at this;cases this
theorem aG.frz(p:aG P μ az ax s ah):∀b o,s.heap.get? b=some o->frozen o->ah.heap.get? b=some o:=λb o e z=>p.keep b o e (.inr z)
theorem aG.vr(p:aG P μ az ax s ah){a:AV}{v:ab}(H:VR s.heap μ a v):VR ah.heap ax a v:=H.mono p.frz p.ext
theorem aG.vrs(p:aG P μ az ax s ah){a:List AV}{v:List ab}(H:aB s.heap μ a v):aB ah.heap ax a v:=H.mono p.frz p.ext
theorem aG.push(R:SR P.prog P.w P.h₀ σ μ s.heap){h':aE}{t:Nat}(hk:∀b o,s.heap.get? b=some o->h'.get? b=some o):aG P μ σ μ s {s with heap:=h',toks:=t}:=
 ⟨⟨h',t,rfl⟩,λb o e J=>hk b o e,λJ J e=>e,λJ h=> .inl h,R.grow hk⟩
theorem aG.new(R:SR P.prog P.w P.h₀ σ μ s.heap)(B:P.Base s.heap){h':aE}{t:Nat}{ft:List aa}{o:AO}(hk:∀b o,s.heap.get? b=some o->h'.get? b=some o)
  (hf:∀b∈ft,s.heap.get? b=none) (hn:ft.Nodup) (H:OR P.prog P.w h' (μ++[ft]) o ft):aG P μ (σ.new o) (μ++[ft]) s {s with heap:=h',toks:=t}:=
 ⟨⟨h',t,rfl⟩,λb o e J=>hk b o e,λJ J e=>jo e,λb hb=>(mem_push.mp hb).imp id (hf b),R.fresh hk B hf hn H⟩
theorem aG.turn(R:SR P.prog P.w P.h₀ σ μ s.heap){h':aE}{t:Nat}{l:Nat}{ft:List aa}{o o':AO}(e:σ.m l=some o)(el:μ[l]? =some ft)
  (hk:∀b ob,s.heap.get? b=some ob->b∉ft->h'.get? b=some ob) (H:OR P.prog P.w h' μ o' ft):aG P μ (σ.set l o') μ s {s with heap:=h',toks:=t}:=by
 have hft:∀b ob,s.heap.get? b=some ob->(b∉μ.flatten\/frozen ob)->b∉ft:=by
  intro b ob hb z hm;rcases z with z | z
  ·exact z (fL el hm)
  ·obtain ⟨ft',e1,e2⟩:=R.objs l o e;rw[el] at e1;(have hH:=aO e1;clear e1;subst hH);exact e2.notFrozen b hm ob hb z
 exact ⟨⟨h',t,rfl⟩,λb ob hb z=>hk b ob hb (hft b ob hb z),λJ J e=>e,λJ h=> .inl h,R.turn e el hk H⟩
theorem dJ(h:aE):h.get? h.objs.size=none:=by
 induction q:h.get? h.objs.size using bf with
 | none=>rfl
 | some o=>exact absurd (fG q) (iE _)
end
theorem xX{α:Type}{M:Model}{A:bh}{E:ab->aj->Prop}{s:aj}{m:Sem α}{Q:α->aj->Prop}(h:∀K:α->aj->Prop,(∀r s',Q r s'->K r s')->aw M A m K E s):aw M A m Q E s:=h Q λJ J x=>x
end Internal
namespace Internal
open PySem PySem.Calls PyProof.Rows PySem.W Builtin.ObjectAttr
structure xY(K:Frag)(C:aa):Prop where
 ga:fH K (.ref C) "__getattribute__"=some (some (.builtin "object.__getattribute__"))
 gx:fH K (.ref C) "__getattr__"=some .none
 sa:fH K (.ref C) "__setattr__"=some (some (.builtin "object.__setattr__"))
 po:plainOver K C=true
 hd:(clsIn K C).any (·.hasDict)=true
structure cg(P:PW)(S:aN):Prop where
 sys:∃o,P.h₀.get? gk=some o
 pf:∀c f,S.PF c f=true->∃K:Frag,K.In P.h₀/\xY K c/\∀x,good x=true->nm x=f->fH K (.ref c) x=some .none/\pV.contains x=false
 mt:∀c f m,S.MT c f=some m->∃K:Frag,K.In P.h₀/\xY K c/\∀x,good x=true->nm x=f->fH K (.ref c) x=some (some (.ref m))/\typeIn K (.ref m)=some (.type "function")/\specialIn K (.ref m) "__get__"=some (some (.builtin "function.__get__"))/\takesIn K (.ref m)=some false/\pV.contains x=false
 gv:∀g v,S.GV g=some v->∃val,(∀h μ,P.Base h->VR h μ v val)/\∀x,good x=true->nm x=g->∀h,P.Base h->(∃m,h.Ns mainNs m/\m x=some val)\/(∃m m',h.Ns mainNs m/\m x= .none/\h.Ns sE m'/\m' x=some val)
theorem ow{P:PW}{K:Frag}{h:aE}(X:K.In P.h₀)(B:P.Base h):K.In h:=X.keeps B
section
variable{P:PW}{S:aN}{A:bh}{E:ab->aj->Prop}{s:aj}{σ:AH}{μ:List (List aa)}{l:Nat}{c:aa}{fs:List (Nat × AV)}{v:AV}{x:Str}
theorem Dd{es:Array cC}{n:Nat}{od:Obj}(hd:od.data= .dict es n)(hk:StrKeys es)(x:Str):lookIn x od=some (gj es x):=by
 unfold lookIn gj findBy;erw[hd];dsimp only;refine al (aD (Array.find?_toList)) ?_
 induction q:es.toList.find? (λe=>e.key.isStr x) using bf with
 | some e=>rfl
 | none=>
  have:es.toList.any (·.refKey)=false:=by
   rewrite[List.any_eq_false];intro e he;obtain ⟨n,t,h⟩:=hk e (Array.mem_toList_iff.mp he);simp[LM,h]
  simp[this]
inductive Mp(h:aE)(μ:List (List aa))(c:aa)(fs:List (Nat × AV))(ft:List aa):Prop
 | mk (a d:aa) (o od:Obj) (e:ft=[a,d]) (I:InstAt h a o c (some od)) (ho:h.get? a=some o) (hod:h.get? d=some od) (hd:o.dict=some d)
   (hv:∀x,good x=true->(∀v,lk (nm x) fs=some v->∃val,lookIn x od=some (some val)/\VR h μ v val)/\(lk (nm x) fs= .none->lookIn x od=some .none))
theorem s8{h:aE}{ft:List aa}(H:OR P.prog P.w h μ (.ins c fs) ft):Mp h μ c fs ft:=by
 obtain ⟨hl,a,d,o,od,es,n,rfl,ho,hc,hd,hp,hod,hox,hde,hsk,hsz,hv⟩:=H;refine ⟨a,d,o,od,rfl,⟨ho,hc,by unfold notCls;(erw[hp];ac_rfl),hd.symm▸hod⟩,ho,hod,hd,λx hg=>⟨λv e=>?_,λe=>?_⟩⟩
 ·obtain ⟨val,q1,q2⟩:=(hv x hg).of_some e;exact ⟨val,q1▸Dd hde hsk x,q2⟩
 ·exact (hv x hg).of_none e▸Dd hde hsk x
theorem VR.handed'{h:aE}{v:AV}{val:ab}(H:VR h μ v val)(hc:mQ v=true):handedIn val=true:=by
 cases H<;>first | rfl | exact hc
theorem Mq(O:cg P S)(B:P.Base s.heap)(R:SR P.prog P.w P.h₀ σ μ s.heap){a:aa}{r:List aa}(e:σ.m l=some (.ins c fs))(el:μ[l]? =some (a::r))(hg:good x=true)(hv:lk (nm x) fs=some v)(hp:S.PF c (nm x)=true)(hpl:mQ v=true){b:Bool}:
  aw P.M A (getAttr (.ref a) x b) (λval s'=>aG P μ σ μ s s'/\VR s'.heap μ v val) E s:=by
 (refine aI λkK=>?_;obtain ⟨K,X,C,hx⟩:=O.pf c _ hp;refine kK ?_;clear kK);obtain ⟨h1,h2⟩:=hx x hg rfl;(refine aI λkK=>?_;obtain ⟨ft,e1,e2⟩:=R.objs l _ e;refine kK ?_;clear kK);rw[el] at e1;obtain rfl:=aO e1;(refine aI λkK=>?_;obtain ⟨a',d,o,od,ef,I,ho,hod,hd,hl⟩:=s8 e2;refine kK ?_;clear kK);injection ef with ea er;subst ea;(refine aI λkK=>?_;obtain ⟨val,q1,q2⟩:=(hl x hg).1 v hv;refine kK ?_;clear kK);have XK:=ow X B;(refine aI λkK=>?_;obtain ⟨cd,hcd,hhd⟩:=any_some C.hd;refine kK ?_;clear kK);obtain hf:findObj K c (some od) x=some (.value val):=by
  unfold findObj;(erw[hcd];rewrite[nU];erw[h1];rewrite[nU]);refine (?_:(some (none:Option ab)).bind _=_);rewrite[nU];refine (?_:(some false).bind _=_);rewrite[nU];refine (?_:(ownOf cd (some od) x).bind _=_);unfold PySem.W.ownOf;refine al hhd (al (if_pos rfl) ?_);dsimp only;erw[q1];rfl
 exact get_value XK I C.ga hf (q2.handed' hpl) ⟨aG.tok R _,q2⟩
theorem Mr(O:cg P S)(B:P.Base s.heap)(R:SR P.prog P.w P.h₀ σ μ s.heap){a m:aa}{r:List aa}(e:σ.m l=some (.ins c fs))(el:μ[l]? =some (a::r))(hg:good x=true)(hv:lk (nm x) fs= .none)(hp:S.MT c (nm x)=some m){pl:Sem Bool}{Q:ab × List ab->aj->Prop}
  (h:Q (.ref m,[.ref a]) s):aw P.M A (getMethod (.ref a) x pl) Q E s:=by
 obtain ⟨K,X,C,hx⟩:=O.mt c _ m hp;obtain ⟨h1,h2,h3,h4,h5⟩:=hx x hg rfl;obtain ⟨ft,e1,e2⟩:=R.objs l _ e;rw[el] at e1;(have hH:=aO e1;clear e1;subst hH);obtain ⟨a',d,o,od,ef,I,ho,hod,hd,hl⟩:=s8 e2;injection ef with ea er;subst ea;exact method_fn (ow X B) I C.ga C.gx h1 h2 (by unfold shadowIn;dsimp only;erw[(hl x hg).2 hv];rfl) h
theorem Ms(O:cg P S)(B:P.Base s.heap)(R:SR P.prog P.w P.h₀ σ μ s.heap){a m:aa}{r:List aa}(e:σ.m l=some (.ins c fs))(el:μ[l]? =some (a::r))(hg:good x=true)(hv:lk (nm x) fs= .none)(hp:S.MT c (nm x)=some m){b:Bool}:
  aw P.M A (getAttr (.ref a) x b) (λval s'=>aG P μ σ μ s s'/\VR s'.heap μ (.bm m l) val) E s:=by
 (refine aI λkK=>?_;obtain ⟨K,X,C,hx⟩:=O.mt c _ m hp;refine kK ?_;clear kK);obtain ⟨h1,h2,h3,h4,h5⟩:=hx x hg rfl;obtain ⟨ft,e1,e2⟩:=R.objs l _ e;rw[el] at e1;(have hH:=aO e1;clear e1;subst hH);(refine aI λkK=>?_;obtain ⟨a',d,o,od,ef,I,ho,hod,hd,hl⟩:=s8 e2;refine kK ?_;clear kK);injection ef with ea er;subst ea;obtain XK:=ow X B;obtain ⟨cd,hcd,hhd⟩:=any_some C.hd;obtain hf:findObj K c (some od) x=some (.bind (.builtin "function.__get__") (.ref m)):=by
  unfold findObj;(erw[hcd];rewrite[nU];erw[h1];rewrite[nU]);refine (?_:(specialIn K (.ref m) "__get__").bind _=_);(erw[h3];rewrite[nU]);refine (?_:(takesIn K (.ref m)).bind _=_);(erw[h4];rewrite[nU]);refine (?_:(ownOf cd (some od) x).bind _=_);unfold PySem.W.ownOf;refine al hhd (al (if_pos rfl) ?_);dsimp only;erw[(hl x hg).2 hv];refine (?_:(if (pV.contains x && _)=true then _ else _)=_)
  erw[h5];rfl
 refine get_bind XK I C.ga hf C.gx (wpAny_call (fn_get (s:={s with toks:=s.toks+1}) XK h2 ?_));refine handed_on rfl ?_;obtain k:∀b o,s.heap.get? b=some o->(s.heap.push (methodObj (.ref m) (.ref a))).get? b=some o:=λb o e=>cp _ e;exact ⟨aG.push R k,.bm el (fJ _ rfl) rfl rfl⟩
theorem De(f:Nat)(v:AV):∀l,(up f v l).length<=l.length+1/\(lk f l≠.none->(up f v l).length=l.length)/\(lk f l= .none->(up f v l).length=l.length+1)
 | []=>⟨bI _,λh=>absurd rfl h,λJ=>rfl⟩
 | (g,y)::r=>by
  obtain ih:=De f v r;erw[C7];erw[lR];by_cases h:g=f
  ·simp[h]
  ·simp only[h,if_false,dW];refine ⟨by lia,λq=>by have:=ih.2.1 q;lia,λq=>by have:=ih.2.2 q;lia⟩
theorem Df{od:Obj}{es:Array cC}{n:Nat}(hd:od.data= .dict es n)(hk:StrKeys es)(hx:od.ExactDict)(x:Str)(hh:Int)(t:Tok)(v:ab):
  (pW x hh (.str x t) v od).ExactDict/\∃es' n',(pW x hh (.str x t) v od).data= .dict es' n'/\StrKeys es'/\(gj es x≠.none->es'.size=es.size)/\es'.size<=es.size+1/\
   ∀y,gj es' y=if y=x then some v else gj es y:=by
 obtain ⟨c,d,dt,sl⟩:=od;subst hd;refine al Obj.putName_eq ?_;unfold Obj.putNameByArray;obtain key:=findBy_of_findIdx? (λn v=>Value.isStr v n) es x
 induction hi:es.findIdx? (·.key.isStr x) using bf with
 | some i=>
  simp only[hi];refine ⟨⟨hx.1,hx.2.1,hx.2.2⟩,_,n,rfl,hk.modify _ _,λJ=>Array.size_modify,by erw[Array.size_modify];(with_reducible apply iG),λy=>?_⟩
  exact findBy_modify (λn v=>v.isStr n) Value.isStr_inj es x y v i hi
 | none=>
  simp only[hi];refine ⟨⟨hx.1,hx.2.1,hx.2.2⟩,_,n+1,rfl,hk.push _ _ _ _,λq=>?_,by rewrite[Array.size_push];(with_reducible apply bI),λy=>?_⟩
  ·rw[hi] at key;exact absurd key q
  ·exact findBy_push (λn v=>v.isStr n) es x y _ _ v (λy=>by
    refine (?_:(x==y)=decide (y=x));by_cases h:y=x
    ·subst h;simp
    ·have:¬x=y:=λe=>h e.symm;simp[h,this]) hi
theorem Dg:∀{μ:List (List aa)},μ.flatten.Nodup->∀{l:Nat}{f:List aa},μ[l]? =some f->f.Nodup
 | [],J1,l,J2,e=>by simp at e
 | x::r,hn,l,f,e=>by
  rw[lG,eL] at hn;cases l with
  | zero=>simp only[LK,pU] at e;subst e;exact hn.1
  | succ l=>exact Dg hn.2.1 (by simpa using e)
theorem Mt(O:cg P S)(B:P.Base s.heap)(R:SR P.prog P.w P.h₀ σ μ s.heap){a:aa}{r:List aa}{val:ab}(e:σ.m l=some (.ins c fs))(el:μ[l]? =some (a::r))(hg:good x=true)(hp:S.PF c (nm x)=true)(bl:fs.length<900)(hv:VR s.heap μ v val){tk:Tok}:
  kq P.M A (.call (.builtin "object.__setattr__") ⟨[.ref a,.str x tk,val],[]⟩) (λr s'=>match r with | .ok (.ret _)=>aG P μ (σ.set l (.ins c (up (nm x) v fs))) μ s s' | .ok _=>False | .error e=>E e s') s:=by
 obtain ⟨K,X,C,hx⟩:=O.pf c _ hp;obtain ⟨h1,h2⟩:=hx x hg rfl;obtain ⟨ft,e1,e2⟩:=R.objs l _ e;rw[el] at e1;obtain rfl:=aO e1;(refine aI λkK=>?_;obtain ⟨hl,a',d,o,od,es,n,ef,ho,hc,hd,hpl,hod,hox,hde,hsk,hsz,hvv⟩:=e2;refine kK ?_;clear kK);injection ef with ea er;subst ea er;have XK:=ow X B;obtain bA:a≠d:=by
  intro q;obtain h3:=Dg R.apart el;simp[q] at h3
 have I:PySem.W.InstAt s.heap a o c (some od):=⟨ho,hc,by unfold notCls;(erw[hpl];ac_rfl),by refine al hd ?_;exact hod⟩
 (refine aI λkK=>?_;obtain ⟨cd,hcd,hhd⟩:=any_some C.hd;refine kK ?_;clear kK);refine osa_open (r:= .none) XK I C.po (by unfold takerIn;refine al h1 ?_;rfl) λb=>?_
 obtain ⟨oc,odi,oda,osl⟩:=o;dsimp only at hc hd hpl;subst hc hd hpl;refine ak (aC (ak (ak (wpAny_loadPart ho (ak ((looks_clsIn XK hcd).here ?_))))));refine al hhd ?_;refine aC (a:=some d) (ak (aC (ak ?_)));unfold nsSet;refine ak (ak (wpAny_askSetting (aC (ak (wpAny_mkText (ak (wpAny_loadPart hod ?_)))))));refine al hde ?_;dsimp only;have hany:es.any (·.refKey)=false:=by
  rewrite[Array.any_eq_false'];intro e he;obtain ⟨n,t,h⟩:=hsk e he;simp[LM,h]
 (rewrite[aRefKeyMayBeTheName_at];erw[hany];rewrite[Bool.and_false]);refine wpAny_updatePart hod ?_;(refine aI λkK=>?_;obtain ⟨f1,es',n',f2,f3,f4,f5,f6⟩:=Df hde hsk hox x (sF P.w.params x) s.toks val;refine kK ?_;clear kK);obtain D':=sG (pW x (sF P.w.params x) (.str x s.toks) val) hod (Obj.isFreed_of_dict f2);obtain hu:=De (nm x) v fs;have hz:es'.size<=(up (nm x) v fs).length:=by
  induction hlk:lk (nm x) fs using bf with
  | some u=>
   obtain ⟨val',q1,J⟩:=(hvv x hg).of_some hlk;(erw[f4 (by erw[q1];exact Option.some_ne_none _)];erw[hu.2.1 (by erw[hlk];exact Option.some_ne_none _)])
   exact hsz
  | none=>
   erw[hu.2.2 hlk];exact ck f5 (pX hsz)
 refine ak (wpAny_lookBehind D' (by refine al f2 ?_;exact pastItsLine_dict (by refine al bH ?_;lia)) ?_)
 refine aC ?_;refine aG.turn R e el (λb ob hb hm=>?_) ⟨by lia,a,d,_,_,es',n',rfl,(pY _ _ (jH bA)).trans ho,rfl,rfl,rfl,D',f1,f2,f3,hz,λy hy=>?_⟩
 ·exact (pY _ _ (λ(q:d=b)=>hm (by refine al (aD q) ?_;exact .tail _ (.head _)))).trans hb
 ·have hfz:∀b o,s.heap.get? b=some o->frozen o->(s.heap.update d (pW x (sF P.w.params x) (.str x s.toks) val)).get? b=some o:=by
   intro b ob hb hz;refine (pY _ _ λq=>?_).trans hb;subst q;obtain rfl:=aO (hod.symm.trans hb);exact xV hox.1 hz
  unfold gn;rewrite[C8,f6];by_cases q:y=x
  ·subst q;(erw[if_pos rfl];erw[if_pos rfl]);exact ⟨val,rfl,hv.mono hfz λJ J e=>e⟩
  ·(rewrite[if_neg λh=>q (xK hy hg h)];erw[if_neg q]);exact (hvv y hy).map λJ J z=>z.mono hfz λJ J e=>e
theorem Mu(O:cg P S)(B:P.Base s.heap)(R:SR P.prog P.w P.h₀ σ μ s.heap){a:aa}{r:List aa}{val:ab}(e:σ.m l=some (.ins c fs))(el:μ[l]? =some (a::r))(hg:good x=true)(hp:S.PF c (nm x)=true)(bl:fs.length<900)(hv:VR s.heap μ v val):
  aw P.M A (setAttr (.ref a) x val) (λJ s'=>aG P μ (σ.set l (.ins c (up (nm x) v fs))) μ s s') E s:=by
 obtain ⟨K,X,C,hx⟩:=O.pf c _ hp;obtain ⟨ft,e1,e2⟩:=R.objs l _ e;rw[el] at e1;obtain rfl:=aO e1;(refine aI λkK=>?_;obtain ⟨a',d,o,od,ef,I,ho,hod,hd,hl⟩:=s8 e2;refine kK ?_;clear kK);injection ef with ea er;subst ea;refine set_plain (ow X B) I C.sa (codeAny_mono (Mt (E:=E) (s:={s with toks:=s.toks+1}) O B R e el hg hp bl hv) λr s' z=>?_);rcases r with e | (v | J | J | J)
 ·exact z
 ·exact z
 ·exact z
 ·exact z
 ·exact (aG.tok R _).trans z
end
end Internal
namespace Internal
open PySem PySem.Calls PyProof.Rows PySem.W
noncomputable def FA(env:Env):List aa:=env.locals::env.cells.map (·.2)
def kL(env:Env)(h:aE)(x:Str)(val:ab):Prop:=
 (env.kindOf x=some .local/\∃m,h.Ns env.locals m/\m x=some val)\/(env.kindOf x=some .cell/\∃a,env.cells.lookup x=some a/\h.IsCell a (some val))
structure CR(c:Ctx)(env:Env)(ρ κ:ac)(h:aE)(μ:List (List aa)):Prop where
 kind:env.scope.kind= .function
 globals:env.globals=mainNs
 builtins:env.builtins=sE
 own:∀b∈FA env,b∉μ.flatten/\∃o,h.get? b=some o/\¬frozen o
 ns:∃m,h.Ns env.locals m
 cells:∀x,env.kindOf x=some .cell->∃a v,env.cells.lookup x=some a/\h.IsCell a v
 apart:∀x y a,env.cells.lookup x=some a->env.cells.lookup y=some a->x=y
 lc:∀x a,env.cells.lookup x=some a->a≠env.locals
 kl:∀x i,c.name x=some (.loc i)\/c.name x=some (.cl i)->env.kindOf x=some .local\/env.kindOf x=some .cell
 loc:∀x i,c.name x=some (.loc i)->∀v,ρ[i]? =some (some v)->∃val,kL env h x val/\VR h μ v val
 cl:∀x i,c.name x=some (.cl i)->∀v,κ[i]? =some (some v)->∃val,kL env h x val/\VR h μ v val
 gl:∀x g,c.name x=some (.glob g)->env.kindOf x=some .globalImplicit/\good x=true/\g=nm x
 cloc:∀x i,c.name x=some (.cl i)->env.kindOf x=some .local
 fnk:c.cm= .none->∀x i,bM x c.fn 0=some (i,.cell)->env.kindOf x=some .cell
theorem kM{env:Env}{x:Str}{a:aa}(e:env.cells.lookup x=some a):a∈FA env:=
 .tail _ (aL.mpr ⟨(x,a),mem_of_lookup e,rfl⟩)
theorem kL.keeps{env:Env}{h h':aE}{x:Str}{val:ab}(hk:∀b∈FA env,∀o,h.get? b=some o->h'.get? b=some o)(H:kL env h x val):kL env h' x val:=by
 rcases H with ⟨k,m,⟨o,es,ep,ho,r⟩,hm⟩ | ⟨k,a,e,o,ho,hd⟩
 ·exact .inl ⟨k,m,⟨o,es,ep,hk _ (.head _) _ ho,r⟩,hm⟩
 ·exact .inr ⟨k,a,e,o,hk _ (kM e) _ ho,hd⟩
section
variable{c:Ctx}{env:Env}{ρ κ:ac}{h h':aE}{μ μ':List (List aa)}
theorem CR.keeps(C:CR c env ρ κ h μ)(hk:∀b∈FA env,∀o,h.get? b=some o->h'.get? b=some o)(hz:∀b o,h.get? b=some o->frozen o->h'.get? b=some o)
  (hm:∀(l:Nat) x,μ[l]? =some x->μ'[l]? =some x) (hf:∀b∈FA env,b∉μ'.flatten):CR c env ρ κ h' μ' where
 kind:=C.kind
 globals:=C.globals
 builtins:=C.builtins
 own b hb:=by
  obtain ⟨J,o,ho,hn⟩:=C.own b hb;exact ⟨hf b hb,o,hk b hb o ho,hn⟩
 ns:=by
  obtain ⟨m,o,es,ep,ho,r⟩:=C.ns;exact ⟨m,o,es,ep,hk _ (.head _) _ ho,r⟩
 cells x e:=by
  obtain ⟨a,v,e1,o,ho,hd⟩:=C.cells x e;exact ⟨a,v,e1,o,hk _ (kM e1) _ ho,hd⟩
 apart:=C.apart
 lc:=C.lc
 kl:=C.kl
 loc x i e v r:=by
  obtain ⟨val,a,b⟩:=C.loc x i e v r;exact ⟨val,a.keeps hk,b.mono hz hm⟩
 cl x i e v r:=by
  obtain ⟨val,a,b⟩:=C.cl x i e v r;exact ⟨val,a.keeps hk,b.mono hz hm⟩
 gl:=C.gl
 cloc:=C.cloc
 fnk:=C.fnk
end
section
variable{P:PW}{S:aN}{A:bh}{E:ab->aj->Prop}{s ah:aj}{σ az:AH}{μ ax:List (List aa)}{c:Ctx}{env:Env}{ρ κ:ac}{x:Str}{i:Nat}{v:AV}
theorem CR.post(C:CR c env ρ κ s.heap μ)(p:aG P μ az ax s ah):CR c env ρ κ ah.heap ax:=by
 refine C.keeps (λb hb o e=>p.keep b o e (.inl (C.own b hb).1)) p.frz p.ext λb hb hm=>?_;obtain ⟨h1,o,ho,J⟩:=C.own b hb;rcases p.fresh b hm with q | q
 ·exact h1 q
 ·rw[ho] at q;cases q
theorem Dh{val:ab}{Q:ab->aj->Prop}(hk:env.scope.kind= .function)(H:kL env s.heap x val)(h:Q val s):aw P.M A (loadName env x) Q E s:=by
 rcases H with ⟨k,m,hn,hm⟩ | ⟨k,a,e,hc⟩
 ·exact wpAny_loadName_local hk k hn hm h
 ·exact wpAny_loadName_cell hk k e hc h
theorem xZ{x:Str}(h:¬x=("__debug__":Str)):(x==("__debug__":Str))=false:=beq_eq_false_iff_ne.mpr h
theorem Mv(C:CR c env ρ κ s.heap μ)(R:SR P.prog P.w P.h₀ σ μ s.heap)(e:c.name x=some (.loc i))(hv:ρ[i]? =some (some v))(hd:¬x=("__debug__":Str)){pos:Pos}:
  aw P.M A (bE (.Name x pos) env) (λval s'=>aG P μ σ μ s s'/\VR s'.heap μ v val) E s:=by
 obtain ⟨val,a,b⟩:=C.loc x i e v hv;exact wpAny_Name (Dh C.kind a ⟨aG.refl R,b⟩) (xZ hd)
theorem Mw(C:CR c env ρ κ s.heap μ)(R:SR P.prog P.w P.h₀ σ μ s.heap)(e:c.name x=some (.cl i))(hv:κ[i]? =some (some v))(hd:¬x=("__debug__":Str)){pos:Pos}:
  aw P.M A (bE (.Name x pos) env) (λval s'=>aG P μ σ μ s s'/\VR s'.heap μ v val) E s:=by
 obtain ⟨val,a,b⟩:=C.cl x i e v hv;exact wpAny_Name (Dh C.kind a ⟨aG.refl R,b⟩) (xZ hd)
theorem Mx(O:cg P S)(B:P.Base s.heap)(C:CR c env ρ κ s.heap μ)(R:SR P.prog P.w P.h₀ σ μ s.heap){g:Nat}(e:c.name x=some (.glob g))(hv:S.GV g=some v)(hd:¬x=("__debug__":Str)){pos:Pos}:
  aw P.M A (bE (.Name x pos) env) (λval s'=>aG P μ σ μ s s'/\VR s'.heap μ v val) E s:=by
 obtain ⟨hk,hg,rfl⟩:=C.gl x g e;obtain ⟨val,h1,h2⟩:=O.gv _ v hv;refine wpAny_Name ?_ (xZ hd);have fin:aG P μ σ μ s s/\VR s.heap μ v val:=⟨aG.refl R,h1 _ _ B⟩;unfold loadName;have hb:env.blockKind= .function:=by unfold Env.blockKind;erw[C.kind];rfl
 rewrite (config:={}) [if_neg (by erw[C.kind];exact pZ)]
 rewrite (config:={}) [hb,hk];refine (?_:aw _ _ (loadGlobal env x) _ _ s);unfold loadGlobal;(erw[C.globals];erw[C.builtins]);rcases h2 x hg rfl s.heap B with ⟨m,hn,hm⟩ | ⟨m,m',hn,hm,hn',hm'⟩
 ·refine ak (wpAny_nsGet hn ?_);erw[hm];exact aC fin
 ·refine ak (wpAny_nsGet hn ?_);erw[hm];refine ak (wpAny_nsGet hn' ?_);erw[hm'];exact aC fin
structure bg(P:PW)(F:List aa)(μ:List (List aa))(σ':AH)(μ':List (List aa))(s s':aj):Prop where
 same:∃h' t,s'={s with heap:=h',toks:=t}
 keep:∀b o,s.heap.get? b=some o->(b∉μ.flatten/\b∉F\/frozen o)->s'.heap.get? b=some o
 ext:∀(l:Nat) x,μ[l]? =some x->μ'[l]? =some x
 fresh:∀b∈μ'.flatten,b∈μ.flatten\/s.heap.get? b=none
 live:∀b∈F,(∃o,s.heap.get? b=some o/\¬frozen o)->∃o,s'.heap.get? b=some o/\¬frozen o
 rel:SR P.prog P.w P.h₀ σ' μ' s'.heap
theorem qw{μ μ':List (List aa)}(h:∀(l:Nat) x,μ[l]? =some x->μ'[l]? =some x){b:aa}(hb:b∈μ.flatten):b∈μ'.flatten:=by
 obtain ⟨ft,h1,h2⟩:=kr.mp hb;obtain ⟨l,hl⟩:=nV.mp h1;exact fL (h l ft hl) h2
variable{F G:List aa}
theorem aG.toF(p:aG P μ az ax s ah):bg P F μ az ax s ah:=by
 refine ⟨p.same,λb o e z=>p.keep b o e (z.imp (·.1) id),p.ext,p.fresh,λb J z_5=>?_,p.rel⟩
 obtain ⟨o,ho,hn⟩:=z_5;by_cases hb:b∈μ.flatten
 ·exact (p.rel.above b (qw p.ext hb)).2
 ·exact ⟨o,p.keep b o ho (.inl hb),hn⟩
theorem bg.toPost(p:bg P [] μ az ax s ah):aG P μ az ax s ah:=
 ⟨p.same,λb o e z=>p.keep b o e (z.imp (λh=>⟨h,am⟩) id),p.ext,p.fresh,p.rel⟩
theorem bg.liveAny(p:bg P F μ az ax s ah):∀b,(∃o,s.heap.get? b=some o/\¬frozen o)->∃o,ah.heap.get? b=some o/\¬frozen o:=by
 intro b h;by_cases hF:b∈F
 ·exact p.live b hF h
 ·by_cases hb:b∈μ.flatten
  ·exact (p.rel.above b (qw p.ext hb)).2
  ·obtain ⟨o,ho,hn⟩:=h;exact ⟨o,p.keep b o ho (.inl ⟨hb,hF⟩),hn⟩
theorem bg.weak(p:bg P F μ az ax s ah)(h:∀b∈F,b∈G):bg P G μ az ax s ah:=
 ⟨p.same,λb o e z=>p.keep b o e (z.imp (λq=>⟨q.1,λm=>q.2 (h b m)⟩) id),p.ext,p.fresh,λb J q=>p.liveAny b q,p.rel⟩
theorem bg.drop(a:bg P F μ az ax s ah){bu:AH}{bF:List (List aa)}{aR:aj}(b:bg P G ax bu bF ah aR)(h:∀x∈G,x∈F\/s.heap.get? x=none):bg P F μ bu bF s aR:=by
 have gone:∀x o,s.heap.get? x=some o->s.heap.get? x≠none:=λx o e c=>by rw[e] at c;cases c
 refine ⟨?_,λx o e z=>?_,λl x e=>b.ext l x (a.ext l x e),λx hx=>?_,λx J q=>b.liveAny x (a.liveAny x q),b.rel⟩
 ·obtain ⟨h1,t1,e1⟩:=a.same;obtain ⟨h2,t2,e2⟩:=b.same;subst e1;exact ⟨h2,t2,e2⟩
 ·refine b.keep x o (a.keep x o e z) ?_;rcases z with z | z
  ·refine .inl ⟨λhm=>?_,λhm=>?_⟩
   ·rcases a.fresh x hm with q | q
    ·exact z.1 q
    ·exact gone x o e q
   ·rcases h x hm with q | q
    ·exact z.2 q
    ·exact gone x o e q
  ·exact .inr z
 ·rcases b.fresh x hx with q | q
  ·exact a.fresh x q
  ·induction e:s.heap.get? x using bf with
   | none=>exact .inr rfl
   | some o=>
    by_cases hz:frozen o
    ·have:=a.keep x o e (.inr hz);rw[q] at this;exact aU this
    ·obtain ⟨o',ho',J⟩:=a.liveAny x ⟨o,e,hz⟩;rw[q] at ho';exact aU ho'
theorem bg.trans{bu:AH}{bF:List (List aa)}{aR:aj}(a:bg P F μ az ax s ah)(b:bg P F ax bu bF ah aR):bg P F μ bu bF s aR:=a.drop b λJ h=> .inl h
theorem bg.ends(a:bg P F μ az ax s ah){I:aa}(hI:s.heap.get? I=none)(hm:I∉ax.flatten)(hz:∀o,ah.heap.get? I=some o->¬frozen o){h':aE}{t:Nat}(hx:mE I ah.heap h'):bg P F μ az ax s {ah with heap:=h',toks:=t}:=by
 have ne:∀x o,s.heap.get? x=some o->x≠I:=λx o e c=>by rw[c,hI] at e;exact aU e
 refine ⟨?_,λx o e z=>hx x o (ne x o e) (a.keep x o e z),a.ext,a.fresh,λx J q=>?_,a.rel.aside λb o e z=>hx b o (λc=>?_) e⟩
 ·obtain ⟨h1,t1,e1⟩:=a.same;subst e1;exact ⟨h',t,rfl⟩
 ·obtain ⟨o,ho,J⟩:=id q;obtain ⟨o',ho',hn'⟩:=a.liveAny x q;exact ⟨o',hx x o' (ne x o ho) ho',hn'⟩
 ·subst c;rcases z with z | z
  ·exact hm z
  ·exact hz o e z
theorem bg.frz(p:bg P F μ az ax s ah):∀b o,s.heap.get? b=some o->frozen o->ah.heap.get? b=some o:=λb o e z=>p.keep b o e (.inr z)
theorem bg.vr(p:bg P F μ az ax s ah){a:AV}{v:ab}(H:VR s.heap μ a v):VR ah.heap ax a v:=H.mono p.frz p.ext
theorem bg.vrs(p:bg P F μ az ax s ah){a:List AV}{v:List ab}(H:aB s.heap μ a v):aB ah.heap ax a v:=H.mono p.frz p.ext
theorem bg.base(p:bg P F μ az ax s ah)(R:SR P.prog P.w P.h₀ σ μ s.heap)(B:P.Base s.heap)(hF:∀b∈F,P.h₀.get? b=none):P.Base ah.heap:=by
 refine λb o e=>p.keep b o (B b o e) (.inl ⟨λhm=>?_,λhm=>?_⟩)
 ·have:=(R.above b hm).1;rw[e] at this;cases this
 ·have:=hF b hm;rw[e] at this;cases this
theorem CR.postF(C:CR c env ρ κ s.heap μ)(p:bg P F μ az ax s ah)(hF:∀b∈F,b∉FA env):CR c env ρ κ ah.heap ax:=by
 refine C.keeps (λb hb o e=>p.keep b o e (.inl ⟨(C.own b hb).1,λh=>hF b h hb⟩)) p.frz p.ext λb hb hm=>?_;obtain ⟨h1,o,ho,J⟩:=C.own b hb;rcases p.fresh b hm with q | q
 ·exact h1 q
 ·rw[ho] at q;cases q
def x7(P:PW)(env:Env):Prop:=∀b∈FA env,P.h₀.get? b=none
theorem s9:∀{l:List (Str × cv)}{x y:Str}{n i:Nat}{k k':cv},bM x l n=some (i,k)->bM y l n=some (i,k')->x=y
 | [],J1,J2,J3,J4,J5,J6,e,J7=>by exact aU e
 | (z,q)::r,x,y,n,i,k,k',e1,e2=>by
  rewrite[qp] at e1 e2;by_cases h1:z=x
  ·rw[if_pos h1] at e1;by_cases h2:z=y
   ·((erw[aD h1];erw[aD h2]);ac_rfl)
   ·rw[if_neg h2] at e2;exfalso;cases e1;have:∀(l:List (Str × cv))(n:Nat)(j:Nat)(k:cv),bM y l n=some (j,k)->n<=j:=by
     intro l
     induction l with
     | nil=>intro n j k e;exact aU e
     | cons p l ih=>
      obtain ⟨a,b⟩:=p;intro n j k e;rewrite[qp] at e
      split at e
      ·cases e;exact bI _
      ·exact ck (jc n) (ih _ _ _ e)
    exact iE _ (this _ _ _ _ e2)
  ·rw[if_neg h1] at e1;by_cases h2:z=y
   ·rw[if_pos h2] at e2;exfalso;cases e2;have:∀(l:List (Str × cv))(n:Nat)(j:Nat)(k:cv),bM x l n=some (j,k)->n<=j:=by
     intro l
     induction l with
     | nil=>intro n j k e;exact aU e
     | cons p l ih=>
      obtain ⟨a,b⟩:=p;intro n j k e;rewrite[qp] at e
      split at e
      ·cases e;exact bI _
      ·exact ck (jc n) (ih _ _ _ e)
    exact iE _ (this _ _ _ _ e1)
   ·rw[if_neg h2] at e2;exact s9 e1 e2
theorem nm_kinds{l:List (Str × cv)}{x:Str}{a:AE}(e:Ctx.name ⟨l,.none⟩ x=some a):(∃j,bM x l 0=some (j,.local)/\AE.loc j=a)\/(∃j,bM x l 0=some (j,.cell)/\AE.loc j=a)\/∃j,bM x l 0=some (j,.globalImplicit)/\good x=true/\AE.glob (nm x)=a:=by
 unfold Ctx.name at e;dsimp only at e
 induction q:bM x l 0 using bf with
 | none=>rw[q] at e;exact nomatch e
 | some p=>
  obtain ⟨j,k⟩:=p;rw[q] at e
  induction k using Cj with
  | «local» =>exact .inl ⟨j,rfl,aO e⟩
  | cell=>exact .inr (.inl ⟨j,rfl,aO e⟩)
  | globalImplicit=>
   induction h:good x using bC with
   | true=>rw[h] at e;exact .inr (.inr ⟨j,rfl,rfl,aO e⟩)
   | false=>rw[h] at e;exact nomatch e
  | _=>exact nomatch e
theorem nm_kindsC{fn l:List (Str × cv)}{x:Str}{a:AE}(e:Ctx.name ⟨fn,some l⟩ x=some a):(∃i,bM x l 0=some (i,.local)/\AE.cl i=a)\/(∃i j,bM x l 0=some (i,.free)/\bM x fn 0=some (j,.cell)/\AE.loc j=a)\/
  ∃i,bM x l 0=some (i,.globalImplicit)/\good x=true/\AE.glob (nm x)=a:=by
 unfold Ctx.name at e;dsimp only at e
 induction q:bM x l 0 using bf with
 | none=>rw[q] at e;exact nomatch e
 | some p=>
  obtain ⟨i,k⟩:=p;rw[q] at e
  induction k using Cj with
  | «local» =>exact .inl ⟨i,rfl,aO e⟩
  | free=>
   dsimp only at e
   induction q':bM x fn 0 using bf with
   | none=>rw[q'] at e;exact nomatch e
   | some p=>
    obtain ⟨j,k⟩:=p;rw[q'] at e
    induction k using Cj with
    | cell=>exact .inr (.inl ⟨i,j,rfl,rfl,aO e⟩)
    | _=>exact nomatch e
  | globalImplicit=>
   induction h:good x using bC with
   | true=>rw[h] at e;exact .inr (.inr ⟨i,rfl,rfl,aO e⟩)
   | false=>rw[h] at e;exact nomatch e
  | _=>exact nomatch e
theorem x8{x y:Str}{i:Nat}(e1:c.name x=some (.loc i))(e2:c.name y=some (.loc i)):x=y:=by
 obtain ⟨fn,cm⟩:=c;have f:∀{z},Ctx.name ⟨fn,cm⟩ z=some (.loc i)->∃k,bM z fn 0=some (i,k):=λe=>by
  induction cm using bf with
  | none=>rcases nm_kinds e with ⟨j,q,e⟩ | ⟨j,q,e⟩ | ⟨j,q,h,e⟩;exact ⟨_,AE.locI e▸q⟩;exact ⟨_,AE.locI e▸q⟩;exact nomatch e
  | some l=>rcases nm_kindsC e with ⟨j,q,e⟩ | ⟨j,k,q,q',e⟩ | ⟨j,q,h,e⟩;exact nomatch e;exact ⟨_,AE.locI e▸q'⟩;exact nomatch e
 obtain ⟨k1,q1⟩:=f e1;obtain ⟨k2,q2⟩:=f e2;exact s9 q1 q2
theorem My{x y:Str}{i:Nat}(e1:c.name x=some (.cl i))(e2:c.name y=some (.cl i)):x=y:=by
 obtain ⟨fn,cm⟩:=c
 induction cm using bf with
 | none=>rcases nm_kinds e1 with ⟨j,q,e⟩ | ⟨j,q,e⟩ | ⟨j,q,h,e⟩<;>exact nomatch e
 | some l=>
  have f:∀{z},Ctx.name ⟨fn,some l⟩ z=some (.cl i)->∃k,bM z l 0=some (i,k):=λe=>by
   rcases nm_kindsC e with ⟨j,q,e⟩ | ⟨j,k,q,q',e⟩ | ⟨j,q,h,e⟩;exact ⟨_,AE.clI e▸q⟩;exact nomatch e;exact nomatch e
  obtain ⟨k1,q1⟩:=f e1;obtain ⟨k2,q2⟩:=f e2;exact s9 q1 q2
end
section
variable{P:PW}{S:aN}{A:bh}{E:ab->aj->Prop}{s ah:aj}{σ az:AH}{μ ax:List (List aa)}{c:Ctx}{env:Env}{ρ κ:ac}{x:Str}{i:Nat}{v:AV}{a:AT}
structure qx(env:Env)(x:Str)(val:ab)(h h':aE)(b:aa):Prop where
 mem:b∈FA env
 loc:env.kindOf x=some .local->b=env.locals
 same:gN b h h'
 cold:∃o,h'.get? b=some o/\¬frozen o
 is:kL env h' x val
 other:∀y u,y≠x->kL env h y u->kL env h' y u
 ns:∃m,h'.Ns env.locals m
 cells:∀y,env.kindOf y=some .cell->∃a v,env.cells.lookup y=some a/\h'.IsCell a v
theorem Mz(x:Str)(hh:Int)(k v:ab)(o:Obj):(pW x hh k v o).cls=o.cls:=by
 erw[Obj.putName_eq];unfold Obj.putNameByArray;obtain ⟨c,d,dt,sl⟩:=o;cases dt<;>try rfl
 dsimp only
 split<;>rfl
theorem MA{M:Model}{a:aa}{m}{name:Str}{v:ab}{o:Obj}{Q:Unit->aj->Prop}(hn:s.heap.Ns a m)(ho:s.heap.get? a=some o)
  (h:∀h',h'.Ns a (λx=>if x=name then some v else m x)->gN a s.heap h'->(∃o',h'.get? a=some o'/\o'.cls=o.cls)->Q () {s with heap:=h',toks:=s.toks+1}):
  aw M A (nsSet a name v) Q E s:=by
 (refine aI λkK=>?_;obtain ⟨W7,es,ep,ho',hd,hk,hm⟩:=hn;refine kK ?_;clear kK);rw[ho] at ho';obtain rfl:=aO ho';obtain hany:es.any (·.refKey)=false:=by
  rewrite[Array.any_eq_false'];intro e he;obtain ⟨n,t,h⟩:=hk e he;simp[LM,h]
 unfold nsSet;refine ak (ak (wpAny_askSetting (aC (ak (wpAny_mkText (ak (wpAny_loadPart ho ?_)))))));erw[hd];dsimp only;(rewrite[aRefKeyMayBeTheName_at];erw[hany];rewrite[Bool.and_false]);refine wpAny_updatePart ho ?_;obtain key:∀hh t,∃es' n',(pW name hh (.str name t) v o).data= .dict es' n'/\StrKeys es'/\∀y,gj es' y=if y=name then some v else gj es y:=by
  intro hh t;obtain ⟨c,d,dt,sl⟩:=o;dsimp only at hd;subst hd;(refine aI λkK=>?_;obtain ⟨J,es',n',h1,h2,J,J,h3⟩:=Df (od:=⟨.type "dict",none,.dict es ep,#[]⟩) rfl hk ⟨rfl,rfl,rfl⟩ name hh t v;refine kK ?_;clear kK);refine ⟨es',n',?_,h2,h3⟩;rw[Obj.putName_eq] at h1 ⊢;unfold Obj.putNameByArray at h1 ⊢;dsimp only at h1 ⊢
  split at h1<;>rename_i q<;>simp only[q] at h1 ⊢ <;>exact h1
 (refine aI λkK=>?_;obtain ⟨es',n',h1,h2,h3⟩:=key (sF M.w.params name) s.toks;refine kK ?_;clear kK);obtain D:=sG (pW name (sF M.w.params name) (.str name s.toks) v) ho (Obj.isFreed_of_dict h1);exact h _ ⟨_,es',n',D,h1,h2,λy=>by rw[h3,hm]⟩ (nX ..) ⟨_,D,Mz ..⟩
theorem MB{M:Model}{a:aa}{W8 v:Option ab}{o:Obj}{Q:Unit->aj->Prop}(ho:s.heap.get? a=some o)(hd:o.data= .cell W8)
  (h:∀h',h'.IsCell a v->gN a s.heap h'->(∃o',h'.get? a=some o'/\o'.cls=o.cls)->Q () {s with heap:=h'}):aw M A (cellSet a v) Q E s:=by
 unfold cellSet;refine ak (mF ho ?_);erw[hd];obtain D:(s.heap.update a λo=>{o with data:= .cell v}).get? a=some {o with data:= .cell v}:=sG (λo=>{o with data:= .cell v}) ho rfl;exact wpAny_update ho (h _ ⟨_,D,rfl⟩ (nX ..) ⟨_,D,rfl⟩)
theorem x9{val:ab}{Q:Unit->aj->Prop}(C:CR c env ρ κ s.heap μ)(hk:env.kindOf x=some .local\/env.kindOf x=some .cell)
  (h:∀h' t b,qx env x val s.heap h' b->Q () {s with heap:=h',toks:=t}):aw P.M A (storeName env x val) Q E s:=by
 rcases hk with k | k
 ·obtain ⟨m,hn⟩:=C.ns;(refine aI λkK=>?_;obtain ⟨o,es,ep,ho,r⟩:=id hn;refine kK ?_;clear kK);obtain hp:(env.scope.kind== .class || (env.scope.kind== .module && env.locals !=env.globals))=false:=by erw[C.kind];rfl
  rewrite[storeName_local k hp];refine MA hn ho λh' hn' hs ⟨o',ho',hc'⟩=>h h' _ env.locals ⟨.head _,λJ=>rfl,hs,⟨o',ho',λz=>?_⟩,.inl ⟨k,_,hn',by simp⟩,λy u hy H=>?_,⟨_,hn'⟩,λy ky=>?_⟩
  ·obtain ⟨xi,J,J,jF,B9,J⟩:=hn';rw[ho'] at jF;obtain rfl:=aO jF;exact qr B9 z
  ·rcases H with ⟨ky,m',hm',e⟩ | ⟨ky,a,ea,hc⟩
   ·refine .inl ⟨ky,_,hn',?_⟩;(refine aI λkK=>?_;obtain ⟨W7,Xm,Xn,q1,q2,q3,q4⟩:=hm';refine kK ?_;clear kK);(refine aI λkK=>?_;obtain ⟨xi,Xo,Xp,r1,r2,r3,r4⟩:=hn;refine kK ?_;clear kK);rw[q1] at r1;obtain rfl:=aO r1;rw[q2] at r2;cases r2;have:m y=m' y:=by rw[<-r4,<-q4]
    simp only[hy,if_false,this];exact e
   ·exact .inr ⟨ky,a,ea,hc.sameBut hs (C.lc y a ea)⟩
  ·obtain ⟨a,u,e1,e2⟩:=C.cells y ky;exact ⟨a,u,e1,e2.sameBut hs (C.lc y a e1)⟩
 ·obtain ⟨a,u,ea,hc⟩:=C.cells x k;obtain ⟨Xq,W9,Xa⟩:=hc;unfold storeName;rewrite (config:={}) [k];refine (?_:aw _ _ (if (env.scope.kind==ScopeKind.class && (some mG==some mG))=true then _ else _) _ _ s)
  rewrite (config:={}) [if_neg (by erw[C.kind];exact pZ)]
  refine ak (wpAny_cellOf ea (MB W9 Xa λh' hc' hs z_4=>?_));obtain ⟨o,ho,hco⟩:=z_4;obtain ⟨m,hn⟩:=C.ns;have hns:h'.Ns env.locals m:=hn.sameBut hs (jH (C.lc x a ea));obtain hz:¬frozen o:=by
   obtain ⟨xi,jF,B9⟩:=hc';rw[ho] at jF;obtain rfl:=aO jF;exact C6 B9
  refine h h' s.toks a ⟨kM ea,λq=>(by rw[k] at q;exact Ck (aO q)),hs,⟨o,ho,hz⟩,.inr ⟨k,a,ea,hc'⟩,λy u' hy H=>?_,⟨m,hns⟩,λy ky=>?_⟩
  ·rcases H with ⟨ky,m',hm',e⟩ | ⟨ky,a',ea',Xb⟩
   ·exact .inl ⟨ky,m',hm'.sameBut hs (jH (C.lc x a ea)),e⟩
   ·have:a'≠a:=λq=>hy (C.apart y x a (q▸ea') ea);exact .inr ⟨ky,a',ea',Xb.sameBut hs this⟩
  ·obtain ⟨a',u',e1,e2⟩:=C.cells y ky;by_cases q:a'=a
   ·subst q;exact ⟨a',_,e1,hc'⟩
   ·exact ⟨a',u',e1,e2.sameBut hs q⟩
theorem get_set{ρ:ac}{i j:Nat}{v w:AV}(h:(ρ.set i (some v))[j]? =some (some w)):(j=i/\w=v)\/(j≠i/\ρ[j]? =some (some w)):=by
 rw[List.getElem?_set] at h
 split at h
 ·rename_i q
  split at h
  ·cases h;exact .inl ⟨q.symm,rfl⟩
  ·exact aU h
 ·rename_i q;exact .inr ⟨λe=>q e.symm,h⟩
theorem qx.cr{val:ab}{h':aE}{b:aa}(C:CR c env ρ κ s.heap μ)(D:qx env x val s.heap h' b)(hv:VR s.heap μ v val)
  {ρ' κ':ac} (hl:∀y j,c.name y=some (.loc j)->∀w,ρ'[j]? =some (some w)->(y=x/\w=v)\/(y≠x/\ρ[j]? =some (some w)))
  (hc:∀y j,c.name y=some (.cl j)->∀w,κ'[j]? =some (some w)->(y=x/\w=v)\/(y≠x/\κ[j]? =some (some w))):CR c env ρ' κ' h' μ:=by
 have hz:∀b o,s.heap.get? b=some o->frozen o->h'.get? b=some o:=by
  intro a o ha z;by_cases q:a=b
  ·subst q;obtain ⟨J,xi,jF,hn⟩:=C.own a D.mem;rw[ha] at jF;obtain rfl:=aO jF;exact absurd z hn
  ·exact (D.same.2 a q).trans ha
 exact {
  kind:=C.kind
  globals:=C.globals
  builtins:=C.builtins
  own:=λa ha=>by
   (refine aI λkK=>?_;obtain ⟨h1,o,ho,hn⟩:=C.own a ha;refine kK ?_;clear kK);refine ⟨h1,?_⟩;by_cases q:a=b
   ·subst q;exact D.cold
   ·exact ⟨o,(D.same.2 a q).trans ho,hn⟩
  ns:=D.ns
  cells:=D.cells
  apart:=C.apart
  lc:=C.lc
  kl:=C.kl
  loc:=λy j e w hw=>by
   rcases hl y j e w hw with ⟨rfl,rfl⟩ | ⟨hy,hw⟩
   ·exact ⟨val,D.is,hv.mono hz λJ J e=>e⟩
   ·obtain ⟨u,u1,u2⟩:=C.loc y j e w hw;exact ⟨u,D.other y u hy u1,u2.mono hz λJ J e=>e⟩
  cl:=λy j e w hw=>by
   rcases hc y j e w hw with ⟨rfl,rfl⟩ | ⟨hy,hw⟩
   ·exact ⟨val,D.is,hv.mono hz λJ J e=>e⟩
   ·obtain ⟨u,u1,u2⟩:=C.cl y j e w hw;exact ⟨u,D.other y u hy u1,u2.mono hz λJ J e=>e⟩
  gl:=C.gl
  cloc:=C.cloc
  fnk:=C.fnk}
theorem qx.post{val:ab}{h':aE}{b:aa}{t:Nat}(C:CR c env ρ κ s.heap μ)(R:SR P.prog P.w P.h₀ σ μ s.heap)(D:qx env x val s.heap h' b):bg P [b] μ σ μ s {s with heap:=h',toks:=t}:=by
 obtain hz:∀a o,s.heap.get? a=some o->(a∉[b]\/frozen o)->h'.get? a=some o:=by
  intro a o ha z;by_cases q:a=b
  ·subst q;rcases z with z | z
   ·exact absurd (.head _) z
   ·(refine aI λkK=>?_;obtain ⟨J,xi,jF,hn⟩:=C.own a D.mem;refine kK ?_;clear kK);rw[ha] at jF;obtain rfl:=aO jF;exact absurd z hn
  ·exact (D.same.2 a q).trans ha
 refine ⟨⟨h',t,rfl⟩,λa o ha z=>hz a o ha (z.imp (·.2) id),λJ J e=>e,λJ h=> .inl h,λa ha J=>(by rw[aF] at ha;erw[ha];exact D.cold),R.aside (λa o ha z=>hz a o ha (z.imp (λq=>λhm=>(C.own a (by rw[aF] at hm;erw[hm];exact D.mem)).1 q) id))⟩
theorem target_is(e:c.target x=some a):(c.cm=none/\∃i,a= .loc i/\c.name x=some (.loc i))\/(c.cm.isSome=true/\∃i,a= .cl i/\c.name x=some (.cl i)):=by
 unfold Ctx.target at e
 induction hc:c.cm using bf with
 | none=>
  rw[hc] at e;obtain ⟨b,h1,h2⟩:=p3.mp e;obtain ⟨⟨j,rfl⟩,J,h3⟩:=bW.mp h2;exact .inl ⟨rfl,j,h3.symm,h1⟩
 | some l=>
  rw[hc] at e;obtain ⟨b,h1,h2⟩:=p3.mp e;obtain ⟨⟨j,rfl⟩,J,h3⟩:=bW.mp h2;exact .inr ⟨rfl,j,h3.symm,h1⟩
theorem tb(e:c.target x=some (.loc i)):c.name x=some (.loc i):=by
 rcases target_is e with ⟨J,j,e,h⟩ | ⟨J,j,e,h⟩
 ·exact AT.locI e▸h
 ·exact nomatch e
theorem MD(e:c.target x=some (.cl i)):c.name x=some (.cl i):=by
 rcases target_is e with ⟨J,j,e,h⟩ | ⟨J,j,e,h⟩
 ·exact nomatch e
 ·exact AT.clI e▸h
theorem target_kinds(e:c.target x=some a):(c.cm=none/\∃i,a= .loc i)\/(c.cm.isSome=true/\∃i,a= .cl i):=
 (target_is e).imp (λh=>⟨h.1,let ⟨i,e,J⟩:=h.2;⟨i,e⟩⟩) λh=>⟨h.1,let ⟨i,e,J⟩:=h.2;⟨i,e⟩⟩
theorem MF{val:ab}(C:CR c env ρ κ s.heap μ)(R:SR P.prog P.w P.h₀ σ μ s.heap)(e:c.target x=some (.loc i))(hv:VR s.heap μ v val){pos:Pos}:
  aw P.M A (fT (.Name x pos) env val) (λJ s'=>bg P (FA env) μ σ μ s s'/\CR c env (ρ.set i (some v)) κ s'.heap μ) E s:=by
 have en:=tb e;refine wpAny_assign_Name (x9 C (C.kl x i (.inl en)) λh' t b D=>⟨(D.post C R).weak (λb' hb=>by rw[aF] at hb;erw[hb];exact D.mem),D.cr C hv (λy j ey w hw=>?_) λy j ey w hw=> .inr ⟨λq=>?_,hw⟩⟩)
 ·rcases get_set hw with ⟨rfl,rfl⟩ | ⟨hj,hw⟩
  ·exact .inl ⟨x8 ey en,rfl⟩
  ·exact .inr ⟨λq=>hj (by subst q;rw[en] at ey;cases ey;rfl),hw⟩
 ·subst q;rw[en] at ey;exact AE.noConfusion (aO ey)
theorem MH{val:ab}(C:CR c env ρ κ s.heap μ)(R:SR P.prog P.w P.h₀ σ μ s.heap)(e:c.target x=some (.cl i))(hv:VR s.heap μ v val){pos:Pos}:
  aw P.M A (fT (.Name x pos) env val) (λJ s'=>bg P [env.locals] μ σ μ s s'/\CR c env ρ (κ.set i (some v)) s'.heap μ) E s:=by
 have en:=MD e;refine wpAny_assign_Name (x9 C (C.kl x i (.inr en)) λh' t b D=>⟨(D.post C R).weak (λb' hb=>by rw[aF] at hb;(erw[hb];erw[D.loc (C.cloc x i en)]);exact .head _),D.cr C hv (λy j ey w hw=> .inr ⟨λq=>?_,hw⟩) λy j ey w hw=>?_⟩)
 ·subst q;rw[en] at ey;exact AE.noConfusion (aO ey)
 ·rcases get_set hw with ⟨rfl,rfl⟩ | ⟨hj,hw⟩
  ·exact .inl ⟨My ey en,rfl⟩
  ·exact .inr ⟨λq=>hj (by subst q;rw[en] at ey;cases ey;rfl),hw⟩
end
noncomputable abbrev Res:=Back
section
variable{P:PW}{S:aN}{A:bh}{E:ab->aj->Prop}{s:aj}{σ:AH}{μ:List (List aa)}{Q:AV->AH->Prop}
theorem go(R:SR P.prog P.w P.h₀ σ μ s.heap){v:AV}{val:ab}(t:Nat)(q:Q v σ)(hv:VR s.heap μ v val):Res P μ s Q val {s with toks:=t}:=
 ⟨v,σ,μ,q,aG.tok R t,hv⟩
theorem lT(R:SR P.prog P.w P.h₀ σ μ s.heap){v:AV}{val:ab}(q:Q v σ)(hv:VR s.heap μ v val):Res P μ s Q val s:=
 ⟨v,σ,μ,q,aG.refl R,hv⟩
theorem tc{h:aE}(vs:Array ab):(h.push {cls:= .type "list",data:= .seq vs}).get? h.objs.size=some {cls:= .type "list",data:= .seq vs}:=fJ _ rfl
theorem Di{h:aE}(vs:Array ab):(h.push {cls:= .type "tuple",data:= .seq vs}).get? h.objs.size=some {cls:= .type "tuple",data:= .seq vs}:=fJ _ rfl
theorem qy(B:P.Base s.heap)(R:SR P.prog P.w P.h₀ σ μ s.heap){xs:List AV}{vs:Array ab}(t:Nat)(hv:aB s.heap μ xs vs.toList)(hl:xs.length<=aY)(q:Q (.ref σ.next) (σ.new (.lst xs))):
  Res P μ s Q (.ref s.heap.objs.size) {s with heap:=s.heap.push {cls:= .type "list",data:= .seq vs},toks:=t}:=by
 obtain hk:∀b o,s.heap.get? b=some o->(s.heap.push {cls:= .type "list",data:= .seq vs}).get? b=some o:=λb o e=>cp _ e;refine ⟨_,_,μ++[[s.heap.objs.size]],q,aG.new R B hk (λb hb=>?_) (by simp) ⟨hl,_,vs,_,rfl,tc vs,?_⟩,.ref (by refine al R.next ?_;exact iP)⟩
 ·rw[aF] at hb;subst hb;exact dJ _
 ·exact hv.mono (λb o e J=>hk b o e) λJ J e=>jo e
theorem ya(R:SR P.prog P.w P.h₀ σ μ s.heap){xs:List AV}{vs:Array ab}(t:Nat)(hv:aB s.heap μ xs vs.toList)(hl:xs.length<=aY)(q:Q (.tup xs) σ):
  Res P μ s Q (.ref s.heap.objs.size) {s with heap:=s.heap.push {cls:= .type "tuple",data:= .seq vs},toks:=t}:=by
 have hk:∀b o,s.heap.get? b=some o->(s.heap.push {cls:= .type "tuple",data:= .seq vs}).get? b=some o:=λb o e=>cp _ e;exact ⟨_,_,μ,q,aG.push R hk,.tup hl (Di vs) (hv.mono (λb o e J=>hk b o e) λJ J e=>e)⟩
theorem aB.size{h:aE}{xs:List AV}{vs:Array ab}(H:aB h μ xs vs.toList):vs.size=xs.length:=by ((erw[aD Cm];erw[H.length]);ac_rfl)
inductive MI(h:aE)(μ:List (List aa))(xs:List AV)(val:ab):Prop
 | mk (a:aa) (vs:Array ab) (n:Nat) (e:val= .ref a) (hl:xs.length<=aY) (ho:h.get? a=some {cls:= .type "tuple",data:= .seq vs n}) (hv:aB h μ xs vs.toList)
inductive MJ(h:aE)(μ:List (List aa))(l:Nat)(xs:List AV)(val:ab):Prop
 | mk (a:aa) (vs:Array ab) (n:Nat) (e:val= .ref a) (el:μ[l]? =some [a]) (hl:xs.length<=aY) (ho:h.get? a=some {cls:= .type "list",data:= .seq vs n}) (hv:aB h μ xs vs.toList)
theorem gZ{h:aE}{xs:List AV}{val:ab}(H:VR h μ (.tup xs) val):MI h μ xs val:=by
 obtain ⟨a,vs,n,rfl,ho,hl,hv⟩:=s0 H;exact ⟨_,_,_,rfl,hl,ho,hv⟩
theorem dl{h:aE}(R:SR P.prog P.w P.h₀ σ μ h){l:Nat}{xs:List AV}{val:ab}(e:σ.m l=some (.lst xs))(H:VR h μ (.ref l) val):MJ h μ l xs val:=by
 obtain ⟨a0,r,rfl,el⟩:=kH H;obtain ⟨ft,e1,hl,a,vs,n,rfl,ho,hv⟩:=R.objs l _ e;rw[el] at e1;(have hH:=Cf (aO e1);clear e1;obtain ⟨hH1,hH2⟩:=hH;subst hH1;first | subst hH2 | clear hH2)
 exact ⟨_,vs,n,rfl,el,hl,ho,hv⟩
theorem MM(a b:List Nat):st (a++b)=st a++st b:=by
 refine (?_:(⟨(a++b).toArray⟩:Str)=⟨a.toArray++b.toArray⟩);simp
theorem qz(a:List Nat):(st a).length=a.length:=by
 refine (?_:a.toArray.size=_);simp
theorem MN{vs:Array ab}(h:vs.isEmpty=true):vs.toList=[]:=by
 rw[Array.isEmpty_iff] at h;subst h;rfl
theorem iQ{y:AV}{b:ab}{k:Int->Prop}{h:aE}(H:gV y k)(hy:VR h μ y b):∃i t,b= .int i t/\k i:=by
 induction y using AV.casesOn with
 | int i=>obtain ⟨_,rfl⟩:=cX hy;exact ⟨i,_,rfl,H⟩
 | _=>exact H.elim
theorem empty_len{h:aE}{xs:List AV}{vs:Array ab}(H:aB h μ xs vs.toList)(e:vs.isEmpty=true):xs=[]:=by
 have:=H.length;rw[MN e] at this;exact List.length_eq_zero_iff.mp this
theorem aB.app{h:aE}{xs ys:List AV}{vs ws:Array ab}(hv:aB h μ xs vs.toList)(hw:aB h μ ys ws.toList):aB h μ (xs++ys) (vs++ws).toList:=by
 erw[Array.toList_append];exact hv.append hw
theorem p_add(B:P.Base s.heap)(R:SR P.prog P.w P.h₀ σ μ s.heap){x y:AV}{a b:ab}(hx:VR s.heap μ x a)(hy:VR s.heap μ y b)(h:Db x y σ Q):
  aw P.M A (binaryOp .Add a b) (Res P μ s Q) E s:=by
 induction x using AV.casesOn with
 | int i=>
  obtain ⟨j,t,rfl,h⟩:=iQ h hy;obtain ⟨_,rfl⟩:=cX hx;exact PyProof.Rows.add_int (go R _ h (.int _ _))
 | str xs=>induction y using AV.casesOn with
  | str ys=>
   obtain ⟨_,rfl,_⟩:=eE hx;obtain ⟨_,rfl,_⟩:=eE hy;refine PyProof.Rows.add_str (λt' tk=>?_) (by rewrite[qz,qz];exact h.1)
   rewrite[<-MM];exact go R _ h.2 (.str _ _ (bR▸h.1))
  | _=>exact h.elim
 | tup xs=>induction y using AV.casesOn with
  | tup ys=>
   obtain ⟨a,vs,n,rfl,J,ho,hv⟩:=gZ hx;obtain ⟨b,ws,k,rfl,J,hp,hw⟩:=gZ hy;have hc:=λ{S:PySem.Spec} g h=>concat_meets (prog:=P.prog) (w:=P.w) (A:=A) (E:=E) (s:=s) (a:= .ref a) (b:= .ref b) (Q:=Res P μ s Q) (S:=S) ⟨_,ho,rfl⟩ ⟨_,hp,rfl⟩ noFill_tuple_add seq_tuple_add PySem.F.slot_tuple_add PySem.F.entry_tuple_add (PySem.F.args_tuple_add_2 _ _) g h;by_cases h0:vs.isEmpty=true
   ·refine hc (tuple_addW0 a b vs ws n k .none .none #[] #[] h0) ⟨ho,hp,?_⟩;cases empty_len hv h0;exact go R _ h.2 hy
   ·by_cases h1:ws.isEmpty=true
    ·refine hc (tuple_addW1 a b vs ws n k .none .none #[] #[] h0 h1) ⟨ho,hp,?_⟩;cases empty_len hw h1;exact go R _ (dB xs▸h.2) hx
    ·refine hc (tuple_addW2 a b vs ws n k .none .none #[] #[] h0 h1 (hv.size▸hw.size▸h.1)) ⟨ho,hp,?_⟩;exact ya R _ (hv.app hw) (bR▸h.1) h.2
  | _=>exact h.elim
 | ref l=>induction y using AV.casesOn with
  | ref m=>
   obtain ⟨xs,ys,e1,e2,hl,q⟩:=h;obtain ⟨a,vs,n,rfl,J,J,ho,hv⟩:=dl R e1 hx;obtain ⟨b,ws,k,rfl,J,J,hp,hw⟩:=dl R e2 hy;refine concat_meets ⟨_,ho,rfl⟩ ⟨_,hp,rfl⟩ noFill_list_add seq_list_add PySem.F.slot_list_add PySem.F.entry_list_add (PySem.F.args_list_add_2 _ _) (list_addW a b vs ws n k .none .none #[] #[] (hv.size▸hw.size▸hl)) ⟨ho,hp,?_⟩;exact qy B R _ (hv.app hw) (bR▸hl) q
  | _=>exact h.elim
 | _=>exact h.elim
theorem foldl_rep(vs:Array ab):∀(m:Nat)(acc:Array ab),(List.foldl (λx1 x2=>x1++x2) acc (cV m vs)).toList=acc.toList++(cV m vs.toList).flatten
 | 0,acc=>(dB _).symm
 | m+1,acc=>(foldl_rep vs m (acc++vs)).trans (by (erw[Array.toList_append];rewrite[fU]);rfl)
theorem aB.rep{h:aE}{xs:List AV}{vs:List ab}(hv:aB h μ xs vs):∀m:Nat,aB h μ (cV m xs).flatten (cV m vs).flatten
 | 0=> .nil
 | m+1=>hv.append (hv.rep m)
theorem Dj(xs:List AV):∀m:Nat,(cV m xs).flatten.length=xs.length*m
 | 0=>rfl
 | m+1=>(bR (as:=xs)).trans (by (erw[Dj xs m];rewrite[Nat.mul_succ]);exact pT _ _)
theorem Dk:∀m:Nat,(cV m ([]:List AV)).flatten=[]
 | 0=>rfl
 | m+1=>Dk m
theorem MO(B:P.Base s.heap)(R:SR P.prog P.w P.h₀ σ μ s.heap){l:Nat}{n:Int}{u:Tok}{xs:List AV}{a:ab}(hx:VR s.heap μ (.ref l) a)(e:σ.m l=some (.lst xs))(h0:0<=n)(h1:n<1000)(hl:xs.length*n.toNat<=1000)
  (q:Q (.ref σ.next) (σ.new (.lst (cV n.toNat xs).flatten))):aw P.M A (binaryOp .Mult a (.int n u)) (Res P μ s Q) E s:=by
 obtain ⟨a,vs,k,rfl,J,J,ho,hv⟩:=dl R e hx;have hz:vs.size*n.toNat<=1000:=hv.size▸hl;refine wpAny_binaryOp_repeat_ref (T:="list") (U:="int") (by decide) ⟨_,ho,rfl⟩ (λs'=>typeIs_int s' n u) noFill_list_mul F.fills_int_mul F.slot_int_rmul repeat_list F.slot_int_index.lookup
  (lH F.slot_int_rmul (typeIs_int s n u) F.entry_int_rmul (F.args_int_rmul_2 _ _) (int___rmul___int_list n u a vs k)
   ⟨ho,rfl,⟨_,ho,rfl⟩,lH F.slot_list_mul ⟨_,ho,rfl⟩ F.entry_list_mul (F.args_list_mul_2 _ _)
    (AutoListH.list___mul___list_int_3 a vs k n u (by simp[Xi];lia) (by lia) (by simp[Builtin.List.listTooLong,aY];(with_reducible exact ck ‹_› (by decide)))) ⟨ho,?_⟩⟩)
 refine qy B R _ ?_ ((Dj xs _).symm▸ck hl (by decide)) q
 rewrite[foldl_rep];by_cases h0:vs.isEmpty=true
 ·cases empty_len hv h0;(erw[if_pos h0];rewrite[Dk]);exact .nil
 ·erw[if_neg h0];exact hv.rep _
theorem MP(B:P.Base s.heap)(R:SR P.prog P.w P.h₀ σ μ s.heap){op:nQ}{x y:AV}{a b:ab}(hx:VR s.heap μ x a)(hy:VR s.heap μ y b)(h:kI op x y σ Q):
  aw P.M A (binaryOp op a b) (Res P μ s Q) E s:=by
 induction op using Operator.casesOn with
 | Add=>exact p_add B R hx hy h
 | Mult=>
  induction x using AV.casesOn with
  | int i=>
   obtain ⟨j,t,rfl,h⟩:=iQ h hy;obtain ⟨_,rfl⟩:=cX hx;exact PyProof.Rows.mul_int (go R _ h.2 (.int _ _)) h.1
  | ref l=>
   obtain ⟨n,u,rfl,xs,e,h0,h1,hl,q⟩:=iQ h hy;exact MO B R hx e h0 h1 hl q
  | _=>exact h.elim
 | Sub=>
  obtain ⟨i,t,rfl,h⟩:=iQ h hx;obtain ⟨j,u,rfl,h⟩:=iQ h hy;exact PyProof.Rows.sub_int (go R _ h (.int _ _))
 | Mod=>
  obtain ⟨i,t,rfl,h⟩:=iQ h hx;obtain ⟨j,u,rfl,h0,q⟩:=iQ h hy;refine PyProof.Rows.mod_int' (Int.ne_of_gt h0) ?_;erw[Int.fmod_eq_emod_of_nonneg _ (Int.le_of_lt h0)];exact go R _ q (.int _ _)
 | FloorDiv=>
  obtain ⟨i,t,rfl,h⟩:=iQ h hx;obtain ⟨j,u,rfl,h0,h1,q⟩:=iQ h hy;refine PyProof.Rows.floordiv_int (Int.ne_of_gt h0) ?_ (.inl (PyProof.noPylong_small (xl.mp (by erw[Int.natAbs_of_nonneg (Int.le_of_lt h0)];exact Int.lt_trans h1 (by decide)))))
  erw[Int.fdiv_eq_ediv_of_nonneg _ (Int.le_of_lt h0)];exact go R _ q (.int _ _)
 | Pow=>
  obtain ⟨i,t,rfl,h⟩:=iQ h hx;obtain ⟨j,u,rfl,h0,h1,q⟩:=iQ h hy;exact PyProof.Rows.pow_int h0 h1 (go R _ q (.int _ _))
 | _=>exact h.elim
end
section
variable{K β:Type}[DecidableEq K]{em:K->AV}{val:β->ab}{h:aE}{μ:List (List aa)}
theorem yb(hem:∀a b,em a=em b->a=b)(k:K):∀(xs:List (K × β))(kvs:List (AV × AV)),kvs.map (·.1)=xs.map (λx=>em x.1)->aB h μ (kvs.map (·.2)) (xs.map (λx=>val x.2))->
  (∀b,(xs.find? λx=>decide (x.1=k)).map (·.2)=some b->∃x,cy kvs (em k)=some x/\VR h μ x (val b))/\((xs.find? λx=>decide (x.1=k)).map (·.2)=none->cy kvs (em k)=none)
 | [],[],_,_=>⟨λb e=>(by exact aU e),λJ=>rfl⟩
 | [],p::r,e,_=>(by cases e)
 | x::q,[],e,_=>(by cases e)
 | x::q,p::r,e,hv=>by
  simp only[bi,mH] at e
  ·obtain ⟨h1,h2⟩:=C5 hv;obtain ih:=yb hem k q r e.2 h2;erw[jm];by_cases hk:x.1=k
   ·simp only[List.find?_cons,hk,decide_true,Option.map_some];erw[if_pos (by ((erw[e.1];erw[hk]);ac_rfl))]
    exact ⟨λb eb=>(by obtain rfl:=aO eb;exact ⟨_,rfl,h1⟩),λeb=>(by cases eb)⟩
   ·simp only[List.find?_cons,hk,decide_false];refine al (if_neg (λc=>hk (hem _ _ (e.1▸c)))) ?_;exact ih
theorem yc(hem:∀a b,em a=em b->a=b){k:K}{f:β->β}{x:AV}{v:ab}(hf:∀b,val (f b)=v)(hx:VR h μ x v):∀(xs:List (K × β))(kvs:List (AV × AV)),(xs.map (·.1)).Nodup->
  kvs.map (·.1)=xs.map (λx=>em x.1)->aB h μ (kvs.map (·.2)) (xs.map (λx=>val x.2))->
  (k∈xs.map (·.1)->(dset kvs (em k) x).map (·.1)=(xs.map λp=>if p.1=k then (p.1,f p.2) else p).map (λx=>em x.1)/\aB h μ ((dset kvs (em k) x).map (·.2)) ((xs.map λp=>if p.1=k then (p.1,f p.2) else p).map (λx=>val x.2)))/\
  (∀b,val b=v->k∉xs.map (·.1)->(dset kvs (em k) x).map (·.1)=(xs++[(k,b)]).map (λx=>em x.1)/\aB h μ ((dset kvs (em k) x).map (·.2)) ((xs++[(k,b)]).map (λx=>val x.2)))
 | [],[],_,_,_=>⟨λe=>(by exact absurd e am),λb e J=>⟨rfl,.cons (show VR h μ x (val b) from e▸hx) .nil⟩⟩
 | [],p::r,_,e,_=>(by cases e)
 | y::q,[],_,e,_=>(by cases e)
 | y::q,p::r,hn,e,hv=>by
  simp only[bi,mH] at e;rw[bi,ee] at hn
  ·obtain ⟨h1,h2⟩:=C5 hv;obtain ih:=yc hem (k:=k) hf hx q r hn.2 e.2 h2;erw[qs];by_cases hk:y.1=k
   ·erw[if_pos (by ((erw[e.1];erw[hk]);ac_rfl))]
    refine ⟨λJ=>?_,λb J hm=>absurd (aL.mpr ⟨y,.head _,hk⟩) hm⟩;have hid:(q.map λp=>if p.1=k then (p.1,f p.2) else p)=q:=by
     rewrite[p4 (g:=id)]
     ·exact List.map_id _
     ·intro p hp;rewrite[if_neg]
      ·rfl
      ·intro c;exact hn.1 (aL.mpr ⟨p,hp,by ((erw[c];erw[hk]);ac_rfl)⟩)
    (erw[bi];erw[bi];erw[if_pos hk];erw[hid]);refine ⟨?_,?_⟩
    ·refine al bi (al e.2 ?_);simp only[bi,e.1]
    ·refine al bi (al bi ?_);exact .cons (by rewrite[hf];exact hx) h2
   ·rewrite[if_neg (λc=>hk (hem _ _ (e.1▸c)))];refine ⟨λhm=>?_,λb eb hm=>?_⟩
    ·have:=ih.1 (by
      rw[bi] at hm;rcases aV.mp hm with c | c
      ·exact absurd c.symm hk
      ·exact c)
     refine al (bi (l:=q)) (al (if_neg hk) ?_);refine ⟨?_,?_⟩
     ·((erw[bi];erw[bi];erw[this.1];erw[e.1]);ac_rfl)
     ·refine al bi (al bi ?_);exact .cons h1 this.2
    ·have:=ih.2 b eb (λc=>hm (by refine al bi ?_;exact .tail _ c))
     refine ⟨?_,?_⟩
     ·((erw[nY];erw[bi];erw[bi];erw[this.1];erw[e.1]);ac_rfl)
     ·refine al nY (al bi (al bi ?_));exact .cons h1 this.2
end
theorem yd(kvs:List (AV × AV))(k v:AV):(dset kvs k v).length<=kvs.length+1:=by
 induction kvs with
 | nil=>exact bI _
 | cons p r ih=>erw[qs];split<;>simp<;>(with_reducible assumption)
theorem dset_keys(kvs:List (AV × AV))(k v:AV):∀p∈dset kvs k v,p.1=k\/∃q∈kvs,p.1=q.1:=by
 induction kvs with
 | nil=>intro p hp;exact .inl (congrArg (·.1) (aF.mp hp))
 | cons q r ih=>
  intro p hp;rewrite[qs] at hp
  split at hp
  ·rcases aV.mp hp with rfl | hp
   ·exact .inr ⟨q,.head _,rfl⟩
   ·exact .inr ⟨p,.tail _ hp,rfl⟩
  ·rcases aV.mp hp with rfl | hp
   ·exact .inr ⟨p,.head _,rfl⟩
   ·rcases ih p hp with c | ⟨z,hz,c⟩
    ·exact .inl c
    ·exact .inr ⟨z,.tail _ hz,c⟩
theorem MQ:∀a b:Int,AV.int a=AV.int b->a=b:=λJ J e=>by injection e
theorem MR:∀a b:Str,cN a=cN b->a=b:=λa b e=>by
 obtain ⟨⟨a⟩⟩:=a;obtain ⟨⟨b⟩⟩:=b;injection e with e;simp only at e;(erw[e];ac_rfl)
theorem Dl{K:Type}{em:K->AV}(hem:∀a b,em a=em b->a=b):∀{l m:List K},l.map em=m.map em->l=m
 | [],[],_=>rfl
 | [],_::_,e=>by cases e
 | _::_,[],e=>by cases e
 | a::l,b::m,e=>by
  simp only[bi,mH] at e
  ((erw[hem _ _ e.1];erw[Dl hem e.2]);ac_rfl)
theorem Dm{K:Type}{em:K->AV}(hem:∀a b,em a=em b->a=b):∀l m:List K,AV.tup (l.map em)=AV.tup (m.map em)->l=m:=λl m e=>by injection e with e;exact Dl hem e
section
variable{P:PW}{S:aN}{A:bh}{E:ab->aj->Prop}{s:aj}{σ:AH}{μ:List (List aa)}{K:Type}[DecidableEq K]
def ox(knd:KeyKind P.prog P.w K)(em:K->AV):Prop:=(∀a b,em a=em b->a=b)/\∀(h:aE)(μ:List (List aa))(k:K)(v:ab),VR h μ (em k) v->knd.is k v=true
theorem Dn:ox (intKind P.prog P.w) .int:=⟨MQ,λh μ k v H=>by
 cases H with
 | int _ t=>refine (?_:Value.isInt k (.int k t)=true);simp[Value.isInt]⟩
theorem ye:ox (strKind P.prog P.w) cN:=⟨MR,λh μ k v H=>by
 unfold cN at H;cases H with
 | str _ t _=>refine (?_:Value.isStrOf k (.str (st k.cps.toList) t)=true);simp[Value.isStrOf,st]⟩
theorem Dp{knd:KeyKind P.prog P.w K}{em:K->AV}(I:ox knd em){h:aE}:∀{ks:List K}{vs:List ab},aB h μ (ks.map em) vs->ItemsAre knd ks vs
 | [],_,.nil=> .nil
 | _::_,_,.cons a r=> .cons (I.2 _ _ _ _ a) (Dp I r)
theorem MU{knd:KeyKind P.prog P.w K}{em:K->AV}(I:ox knd em){h:aE}{ks:List K}{v:ab}(H:VR h μ (.tup (ks.map em)) v):∃a,v= .ref a/\IsTupleKey knd h ks a:=by
 (refine aI λkK=>?_;obtain ⟨a,vs,n,rfl,J,ho,hv⟩:=gZ H;refine kK ?_;clear kK);exact ⟨a,rfl,_,vs,n,ho,rfl,rfl,Dp I hv⟩
structure lU(P:PW)(h:aE)(μ:List (List aa))(a:aa)(kvs:List (AV × AV))(x:AV)(key:ab)(M:aE->List (AV × AV)->Prop):Prop where
 item:∀{A:bh}{E:ab->aj->Prop}{s:aj}{Q:ab->aj->Prop}{v:AV},s.heap=h->A.units+2<ed->cy kvs x=some v->(∀u t,VR h μ v u->Q u {s with toks:=t})->aw P.M A (getItem (.ref a) key) Q E s
 isin:∀{A:bh}{E:ab->aj->Prop}{s:aj}{Q:ab->aj->Prop},s.heap=h->A.units+2<ed->(a==gk)=false->(∀t,Q (.bool (cy kvs x).isSome) {s with toks:=t})->aw P.M A (jd .In key (.ref a)) Q E s
 get:∀{A:bh}{E:ab->aj->Prop}{s:aj}{Q:Option ab->aj->Prop},s.heap=h->A.units+2<ed->(∀v u t,cy kvs x=some v->VR h μ v u->Q (some u) {s with toks:=t})->(∀t,cy kvs x=none->Q none {s with toks:=t})->aw P.M A (dictGet a key) Q E s
 put:∀{A:bh}{E:ab->aj->Prop}{s:aj}{Q:Unit->aj->Prop}{y:AV}{v:ab},s.heap=h->A.units+1<ed->VR h μ y v->kvs.length<=aY->
  (∀h' t,gN a h h'->M h' (dset kvs x y)->Q () {s with heap:=h',toks:=t})->aw P.M A (dictSet a key v) Q E s
 typ:∃o,h.get? a=some o/\o.ExactDict
theorem MV{prog:dk}{w:bk}{A:bh}{E:ab->aj->Prop}{s:aj}{a:aa}{key v:ab}{Q:Unit->aj->Prop}(hT:s.TypeIs (.ref a) "dict")(h:aw (model prog w) A.in1 (dictSet a key v) Q E s):aw (model prog w) A (setItem (.ref a) key v) Q E s:=by
 unfold setItem
 try with_reducible refine cM ?_
 refine ak (wpAny_sequenceKey hT (by decide) ?_)
 refine ak (xm (name:=cz "__setitem__") hT slot_dict_setitem
  (p7 slot_dict_setitem hT entry_dict_setitem ?_ (args_dict_setitem _ _ _)))
 refine (?_:aw _ _ (Builtin.Dict.notOrdered "__setitem__" ⟨[.ref a,key,v],[]⟩>>=_) _ _ s);refine ak (LN hT ?_);refine (?_:aw _ _ (dictSet a key v>>=_) _ _ s);exact ak (aQ h (λJ s' h'=>aC ⟨.none,rfl,aC h'⟩) λJ J e=>e)
theorem lU.set{P:PW}{h:aE}{μ:List (List aa)}{a:aa}{kvs:List (AV × AV)}{x:AV}{key:ab}{M:aE->List (AV × AV)->Prop}(D:lU P h μ a kvs x key M){A:bh}{E:ab->aj->Prop}{s:aj}{Q:Unit->aj->Prop}{y:AV}{v:ab}
  (hs:s.heap=h) (hu:A.units+2<ed) (hv:VR h μ y v) (hl:kvs.length<=aY) (q:∀h' t,gN a h h'->M h' (dset kvs x y)->Q () {s with heap:=h',toks:=t}):aw P.M A (setItem (.ref a) key v) Q E s:=by
 (refine aI λkK=>?_;obtain ⟨o,ho,hx⟩:=D.typ;refine kK ?_;clear kK);exact MV ⟨o,hs▸ho,hx.1⟩ (D.put hs hu hv hl q)
theorem yf{h h':aE}{a:aa}{o:Obj}(ho:h.get? a=some o)(hx:o.ExactDict)(hs:gN a h h'):∀b ob,h.get? b=some ob->frozen ob->h'.get? b=some ob:=by
 intro b ob hb hz;refine (hs.2 b λe=>?_).trans hb;subst e;rw[ho] at hb;obtain rfl:=aO hb;rcases hz.cls with z | z | z<;>rw[hx.1] at z<;>simp at z
theorem Dq{knd:KeyKind P.prog P.w K}{em:K->AV}(I:ox knd em){h:aE}{a:aa}{kvs:List (AV × AV)}{k:K}{key:ab}(H:DV knd em h μ a kvs)(hk:VR h μ (em k) key)(hall:∀(h:aE) v,knd.is k v=true->VR h μ (em k) v):
  lU P h μ a kvs (em k) key λh' l=>DV knd em h' μ a l:=by
 (refine aI λkK=>?_;obtain ⟨xs,hm,e,hv,hx⟩:=H;refine kK ?_;clear kK);have hkey:=I.2 _ _ _ _ hk;obtain ⟨g1,g2⟩:=yb (val:=id) I.1 k xs kvs e hv;have hob:∃o,h.get? a=some o/\o.ExactDict:=by obtain ⟨o,es,ep,ho,hc,J⟩:=hm;exact ⟨o,ho,hc⟩
 (refine aI λkK=>?_;obtain ⟨o,ho,hoe⟩:=hob;refine kK ?_;clear kK);refine ⟨λ{A E s Q v} hs hu hd q=>?_,λ{A E s Q} hs hu hsys q=>?_,λ{A E s Q} hs hu q1 q2=>?_,λ{A E s Q y v} hs hu hy hl q=>?_,o,ho,hoe⟩
 ·subst hs
  induction hf:valueAt xs k using bf with
  | none=>rw[g2 hf] at hd;exact aU hd
  | some u=>
   (refine aI λkK=>?_;obtain ⟨x,r1,r2⟩:=g1 u hf;refine kK ?_;clear kK);rw[hd] at r1;obtain rfl:=aO r1;exact wpAny_getItem_of hkey hm.mapOf hf (q _ _ r2)
 ·subst hs;refine wpAny_in_of hkey hsys hm.mapOf ?_
  induction hf:valueAt xs k using bf with
  | none=>have:=q (s.toks+1);rw[g2 hf] at this;exact this
  | some u=>
   obtain ⟨x,r1,r2⟩:=g1 u hf;have:=q (s.toks+1);rw[r1] at this;exact this
 ·subst hs;refine wpAny_dictGet_of hkey hm.mapOf ?_
  induction hf:valueAt xs k using bf with
  | none=>exact q2 _ (g2 hf)
  | some u=>
   obtain ⟨x,r1,r2⟩:=g1 u hf;exact q1 _ _ _ r1 r2
 ·subst hs;refine wpAny_dictSet_pairs hkey hm (λh' hm' hs'=>q h' _ hs' ?_) (by ((erw[aD (ay (f:=λx:K × ab=>em x.1))];erw[aD e]);rewrite[ay]);exact hl)
  have hz:=yf ho hoe hs';(refine aI λkK=>?_;obtain ⟨J,J,J,J,J,J,J,J,hn⟩:=id hm;refine kK ?_;clear kK);obtain ⟨d1,d2⟩:=yc (val:=id) (f:=λJ=>v) I.1 (k:=k) (λJ=>rfl) hy xs kvs hn e hv;refine .ofc hm' ?_;unfold stored;by_cases hin:k∈xs.map (·.1)
  ·have:(xs.any λkv=>decide (kv.1=k))=true:=by
    rewrite[List.any_eq_true];(refine aI λkK=>?_;obtain ⟨p,hp,hpk⟩:=aL.mp hin;refine kK ?_;clear kK);exact ⟨p,hp,by simp[hpk]⟩
   refine al (if_pos this) ?_;obtain ⟨c1,c2⟩:=d1 hin;refine ⟨c1,c2.mono hz λJ J e=>e,λz hz' u hu'=>?_⟩;obtain ⟨p,hp,rfl⟩:=aL.mp hz'
   split at hu'<;>split<;>first | exact (hx p hp u hu').mono hz λJ J e=>e | (exfalso;contradiction)
  ·have:¬(xs.any λkv=>decide (kv.1=k))=true:=by
    rewrite[List.any_eq_true]
    rintro ⟨p,hp,hpk⟩
    exact hin (aL.mpr ⟨p,hp,by simpa using hpk⟩)
   refine al (if_neg this) ?_;obtain ⟨c1,c2⟩:=d2 v rfl hin;refine ⟨c1,c2.mono hz λJ J e=>e,λz hz' u hu'=>?_⟩;rcases dH.mp hz' with hz' | hz'
   ·exact (hx z hz' u hu').mono hz λJ J e=>e
   ·rw[aF] at hz';subst hz';exact hall _ _ hu'
theorem Dr{knd:KeyKind P.prog P.w K}{em:K->AV}(I:ox knd em){h:aE}{a:aa}{kvs:List (AV × AV)}{k:List K}{key:ab}(H:DH knd em h μ a kvs)(hk:VR h μ (.tup (k.map em)) key):
  lU P h μ a kvs (.tup (k.map em)) key λh' l=>DH knd em h' μ a l:=by
 (refine aI λkK=>?_;obtain ⟨xs,hm,e,hv,hx⟩:=H;refine kK ?_;clear kK);obtain ⟨b,rfl,hkey⟩:=MU I hk;obtain ⟨g1,g2⟩:=yb (em:=λl:List K=>AV.tup (l.map em)) (val:=λp:aa × ab=>p.2) (Dm I.1) k xs kvs e hv;obtain hob:∃o,h.get? a=some o/\o.ExactDict:=by obtain ⟨o,es,ep,ho,hc,J⟩:=hm;exact ⟨o,ho,hc⟩
 (refine aI λkK=>?_;obtain ⟨o,ho,hoe⟩:=hob;refine kK ?_;clear kK);refine ⟨λ{A E s Q v} hs hu hd q=>?_,λ{A E s Q} hs hu hsys q=>?_,λ{A E s Q} hs hu q1 q2=>?_,λ{A E s Q y v} hs hu hy hl q=>?_,o,ho,hoe⟩
 ·subst hs
  induction hf:atKey xs k using bf with
  | none=>rw[g2 hf] at hd;exact aU hd
  | some u=>
   obtain ⟨x,r1,r2⟩:=g1 u hf;rw[hd] at r1;obtain rfl:=aO r1;exact wpAny_getItem_heap (knd:=nR knd) (tupleKind_room_in1 (by lia)) hkey hm hf (q _ _ r2)
 ·subst hs;refine wpAny_in_heap (knd:=nR knd) (tupleKind_room_in1 (by lia)) hkey hsys hm ?_
  induction hf:atKey xs k using bf with
  | none=>have:=q (s.toks+(nR knd).draws k);rw[g2 hf] at this;exact this
  | some u=>
   obtain ⟨x,r1,r2⟩:=g1 u hf;have:=q (s.toks+(nR knd).draws k);rw[r1] at this;exact this
 ·subst hs;refine wpAny_dictGet_heap (knd:=nR knd) (show A.units<ed by lia) hkey hm ?_
  induction hf:atKey xs k using bf with
  | none=>exact q2 _ (g2 hf)
  | some u=>
   obtain ⟨x,r1,r2⟩:=g1 u hf;exact q1 _ _ _ r1 r2
 ·subst hs;refine wpAny_dictSet_heap (knd:=nR knd) (show A.units<ed by lia) hkey hm (λh' hm' hs'=>q h' _ hs' ?_) (by ((erw[aD (ay (f:=λx:List K × aa × ab=>AV.tup (x.1.map em)))];erw[aD e]);rewrite[ay]);exact hl)
  have hz:=yf ho hoe hs';(refine aI λkK=>?_;obtain ⟨J,J,J,J,J,J,J,J,hn⟩:=id hm;refine kK ?_;clear kK);obtain ⟨d1,d2⟩:=yc (em:=λl:List K=>AV.tup (l.map em)) (val:=λp:aa × ab=>p.2) (f:=λp=>(p.1,v)) (Dm I.1) (k:=k) (λJ=>rfl) hy xs kvs hn e hv;refine .ofc hm' ?_;unfold storedH;obtain hput:∀p:List K × aa × ab,putAt k v p=if p.1=k then (p.1,(p.2.1,v)) else p:=λp=>rfl
  by_cases hin:k∈xs.map (·.1)
  ·have:(atKey xs k).isSome=true:=by
    unfold atKey;(erw[Option.isSome_map];rewrite[List.find?_isSome]);(refine aI λkK=>?_;obtain ⟨p,hp,hpk⟩:=aL.mp hin;refine kK ?_;clear kK);exact ⟨p,hp,by simp[hpk]⟩
   refine al (if_pos this) ?_;obtain ⟨c1,c2⟩:=d1 hin;refine ⟨c1,c2.mono hz λJ J e=>e,λz hz'=>?_⟩;obtain ⟨p,hp,rfl⟩:=aL.mp hz';rewrite[hput]
   split<;>exact (hx p hp).mono hz λJ J e=>e
  ·have:¬(atKey xs k).isSome=true:=by
    unfold atKey;(erw[Option.isSome_map];rewrite[List.find?_isSome])
    rintro ⟨p,hp,hpk⟩
    exact hin (aL.mpr ⟨p,hp,by simpa using hpk⟩)
   refine al (if_neg this) ?_;obtain ⟨c1,c2⟩:=d2 (b,v) rfl hin;refine ⟨c1,c2.mono hz λJ J e=>e,λz hz'=>?_⟩;rcases dH.mp hz' with hz' | hz'
   ·exact (hx z hz').mono hz λJ J e=>e
   ·rw[aF] at hz';subst hz';exact hk.mono hz λJ J e=>e
end
set_option tactic.hygienic true in
theorem Ds:∀{xs:List AV},xs.all isInt=true->∃ks:List Int,xs=ks.map .int
 | [],_=>⟨[],rfl⟩
 | x::r,h=>by
  simp only[lF,bV] at h;obtain ⟨ks,e⟩:=Ds h.2
  induction x using AV.casesOn with
  | int i=>exact ⟨i::ks,by refine al e ?_;rfl⟩
  | _=>exact eh h.1
theorem Dt:∀{xs:List AV},xs.all isStr=true->∃ks:List Str,xs=ks.map cN
 | [],_=>⟨[],rfl⟩
 | x::r,h=>by
  simp only[lF,bV] at h;obtain ⟨ks,e⟩:=Dt h.2
  induction x using AV.casesOn with
  | str i=>exact ⟨st i::ks,by refine al e ?_;rfl⟩
  | _=>exact eh h.1
theorem kind_inv{x:AV}{k:KD}(h:kindOf x=some k):(∃i,x= .int i/\k= .i)\/(∃s,x=cN s/\k= .s)\/(∃l:List Int,x= .tup (l.map .int)/\k= .ti)\/∃l:List Str,x= .tup (l.map cN)/\k= .ts:=by
 induction x using AV.casesOn with
 | int i=>exact .inl ⟨i,rfl,(aO h).symm⟩
 | str s=>exact .inr (.inl ⟨st s,rfl,(aO h).symm⟩)
 | tup xs=>
  induction xs using bQ with
  | nil=>exact aU h
  | cons y r=>
   have h:(if (y::r).all isInt=true then some KD.ti else if (y::r).all isStr=true then some .ts else none)=some k:=h
   split at h
   ·obtain ⟨l,e⟩:=Ds ‹_›;exact .inr (.inr (.inl ⟨l,by refine al e ?_;rfl,(aO h).symm⟩))
   ·split at h
    ·obtain ⟨l,e⟩:=Dt ‹_›;exact .inr (.inr (.inr ⟨l,by refine al e ?_;rfl,(aO h).symm⟩))
    ·exact aU h
 | _=>exact aU h
theorem MW{x:AV}(h:kindOf x=some .i):∃k,x= .int k:=by
 rcases kind_inv h with ⟨k,e,J⟩ | ⟨k,e,c⟩ | ⟨k,e,c⟩ | ⟨k,e,c⟩
 ·exact ⟨k,e⟩
 all_goals exact KD.noConfusion c
theorem Du{x:AV}(h:kindOf x=some .s):∃k,x=cN k:=by
 rcases kind_inv h with ⟨k,e,c⟩ | ⟨k,e,J⟩ | ⟨k,e,c⟩ | ⟨k,e,c⟩
 ·exact KD.noConfusion c
 ·exact ⟨k,e⟩
 all_goals exact KD.noConfusion c
theorem MX{x:AV}(h:kindOf x=some .ti):∃k:List Int,x= .tup (k.map .int):=by
 rcases kind_inv h with ⟨k,e,c⟩ | ⟨k,e,c⟩ | ⟨k,e,c⟩ | ⟨k,e,c⟩
 ·exact KD.noConfusion c
 ·exact KD.noConfusion c
 ·exact ⟨k,e⟩
 ·exact KD.noConfusion c
theorem MY{x:AV}(h:kindOf x=some .ts):∃k:List Str,x= .tup (k.map cN):=by
 rcases kind_inv h with ⟨k,e,c⟩ | ⟨k,e,c⟩ | ⟨k,e,c⟩ | ⟨k,e,c⟩
 ·exact KD.noConfusion c
 ·exact KD.noConfusion c
 ·exact KD.noConfusion c
 ·exact ⟨k,e⟩
section
variable{prog:dk}{w:bk}{h:aE}{μ:List (List aa)}{a:aa}{kvs:List (AV × AV)}
theorem DK.kinds{kd:KD}(H:DK prog w kd h μ a kvs):∀p∈kvs,∀kd',kindOf p.1=some kd'->kd'=kd:=by
 intro p hp kd' e;obtain hm:p.1∈kvs.map (·.1):=aL.mpr ⟨p,hp,rfl⟩
 induction kd using KD.casesOn
 ·obtain ⟨xs,J,e1,J⟩:=H;rw[e1] at hm;obtain ⟨x,J,hx⟩:=aL.mp hm;rw[<-hx] at e;obtain rfl:=aO e;rfl
 ·obtain ⟨xs,J,e1,J⟩:=H;rw[e1] at hm;obtain ⟨x,J,hx⟩:=aL.mp hm;rw[<-hx] at e;obtain rfl:=aO e;rfl
 ·obtain ⟨xs,J,e1,J⟩:=H;rw[e1] at hm;obtain ⟨⟨l,z⟩,J,hx⟩:=aL.mp hm;rw[<-hx] at e
  induction l using bQ with
  | nil=>exact aU e
  | cons y r=>
   have this:((y::r).map AV.int).all isInt=true:=jI.mpr λx hx=>by obtain ⟨z,J,rfl⟩:=aL.mp hx;rfl
   exact (aO ((if_pos this:(if ((y::r).map AV.int).all isInt=true then some KD.ti else if ((y::r).map AV.int).all isStr=true then some .ts else none)=some .ti).symm.trans e)).symm
 ·obtain ⟨xs,J,e1,J⟩:=H;rw[e1] at hm;obtain ⟨⟨l,z⟩,J,hx⟩:=aL.mp hm;rw[<-hx] at e
  induction l using bQ with
  | nil=>exact aU e
  | cons y r=>
   have h2:((y::r).map cN).all isStr=true:=jI.mpr λx hx=>by obtain ⟨z,J,rfl⟩:=aL.mp hx;rfl
   exact (aO (((if_neg pZ).trans (if_pos h2):(if ((y::r).map cN).all isInt=true then some KD.ti else if ((y::r).map cN).all isStr=true then some .ts else none)=some .ts).symm.trans e)).symm
theorem DK.empty{kd:KD}(H:DK prog w kd h μ a [])(kd':KD):DK prog w kd' h μ a []:=by
 obtain key:∃o ep,h.get? a=some o/\o.ExactDict/\o.data= .dict #[] ep:=by
  induction kd using KD.casesOn
  ·obtain ⟨xs,⟨o,es,ep,ho,hc,hd,J,hp,J⟩,e1,J⟩:=H;have:xs=[]:=by simpa using e1.symm
   subst this
   induction hes:es.toList using bQ with
   | nil=>exact ⟨o,ep,ho,hc,by ((erw[hd];erw[show es=#[] from kx.mp hes]);ac_rfl)⟩
   | cons y r=>rw[hes] at hp;exact nomatch hp
  ·obtain ⟨xs,⟨o,es,ep,ho,hc,hd,J,hp,J⟩,e1,J⟩:=H;have:xs=[]:=by simpa using e1.symm
   subst this
   induction hes:es.toList using bQ with
   | nil=>exact ⟨o,ep,ho,hc,by ((erw[hd];erw[show es=#[] from kx.mp hes]);ac_rfl)⟩
   | cons y r=>rw[hes] at hp;exact nomatch hp
  ·obtain ⟨xs,⟨o,es,ep,ho,hc,hd,hp,J⟩,e1,J⟩:=H;have:xs=[]:=by simpa using e1.symm
   subst this;exact ⟨o,ep,ho,hc,by (erw[hd];rw[show es=#[] from kx.mp hp])⟩
  ·obtain ⟨xs,⟨o,es,ep,ho,hc,hd,hp,J⟩,e1,J⟩:=H;have:xs=[]:=by simpa using e1.symm
   subst this;exact ⟨o,ep,ho,hc,by (erw[hd];rw[show es=#[] from kx.mp hp])⟩
 (refine aI λkK=>?_;obtain ⟨o,ep,ho,hc,hd⟩:=key;refine kK ?_;clear kK)
 induction kd' using KD.casesOn
 ·exact ⟨[],⟨o,#[],ep,ho,hc,hd,λe he=>by simp at he,.nil,je⟩,rfl,.nil,λx hx=>by simp at hx⟩
 ·exact ⟨[],⟨o,#[],ep,ho,hc,hd,λe he=>by simp at he,.nil,je⟩,rfl,.nil,λx hx=>by simp at hx⟩
 ·exact ⟨[],⟨o,#[],ep,ho,hc,hd,rfl,λx hx=>by simp at hx,je⟩,rfl,.nil,λx hx=>by simp at hx⟩
 ·exact ⟨[],⟨o,#[],ep,ho,hc,hd,rfl,λx hx=>by simp at hx,je⟩,rfl,.nil,λx hx=>by simp at hx⟩
theorem DK.at{kd kd':KD}(H:DK prog w kd h μ a kvs)(hk:∀p∈kvs,kindOf p.1=some kd'):DK prog w kd' h μ a kvs:=by
 induction kvs using bQ with
 | nil=>exact H.empty kd'
 | cons p r=>
  have:=H.kinds p (.head _) kd' (hk p (.head _));subst this;exact H
end
section
variable{P:PW}{h:aE}{μ:List (List aa)}{a:aa}{kvs:List (AV × AV)}{x:AV}{key:ab}
theorem lU.weak{M N:aE->List (AV × AV)->Prop}(D:lU P h μ a kvs x key M)(hmn:∀h l,M h l->N h l):lU P h μ a kvs x key N:=
 ⟨D.item,D.isin,D.get,λa b c d q=>D.put a b c d λh' t u v=>q h' t u (hmn _ _ v),D.typ⟩
theorem oy{kd:KD}(H:DK P.prog P.w kd h μ a kvs)(hs:fY kvs x)(hk:VR h μ x key):lU P h μ a kvs x key λh' l=>∃kd,DK P.prog P.w kd h' μ a l:=by
 (refine aI λkK=>?_;obtain ⟨kd',e1,e2⟩:=hs;refine kK ?_;clear kK);obtain H':=H.at e2
 induction kd' using KD.casesOn
 ·obtain ⟨k,rfl⟩:=MW e1;exact (Dq (em:= .int) Dn H' hk λh v hv=>by
   obtain ⟨t,rfl⟩:=Value.isInt_shape hv;exact .int _ _).weak λh l H=>⟨.i,H⟩
 ·obtain ⟨k,rfl⟩:=Du e1;have hl:k.cps.toList.length<=aY:=by
   unfold cN at hk;cases hk with
   | str _ _ hl=>exact hl
  exact (Dq (em:=cN) ye H' hk λh v hv=>by
   obtain ⟨t,rfl⟩:=Value.isStrOf_shape hv;have:=VR.str (h:=h) (μ:=μ) k.cps.toList t hl;exact this).weak λh l H=>⟨.s,H⟩
 ·obtain ⟨k,rfl⟩:=MX e1;exact (Dr Dn H' hk).weak λh l H=>⟨.ti,H⟩
 ·obtain ⟨k,rfl⟩:=MY e1;exact (Dr ye H' hk).weak λh l H=>⟨.ts,H⟩
end
theorem yg{α:Type}{xs:List α}{j:Int}{v:α}(h:at_ xs j=some v):∃k,seqIndex? j xs.length=some k/\xs[k]? =some v/\-(xs.length:Int)<=j/\j<xs.length/\(0<=j->k=j.toNat)/\(j<0->k=(j+xs.length).toNat):=by
 unfold at_ at h
 split at h
 ·rename_i h0;have bD:=(bP.mp h).1;refine ⟨j.toNat,?_,h,by lia,by lia,λJ=>rfl,λc=>by lia⟩
  unfold seqIndex?;have:¬j<0:=by lia
  have h2:j<xs.length:=by lia
  simp[this,h0,h2]
 ·rename_i h0
  split at h
  ·rename_i h1;obtain bD:=(bP.mp h).1;refine ⟨(j+xs.length).toNat,?_,h,by lia,by lia,λc=>by lia,λJ=>rfl⟩
   unfold seqIndex?;obtain h2:j<0:=by lia
   obtain h3:j+xs.length<xs.length:=by lia
   simp[h2,h1,h3]
  ·exact nomatch h
section
variable{P:PW}{S:aN}{A:bh}{E:ab->aj->Prop}{s:aj}{σ:AH}{μ:List (List aa)}{Q:AV->AH->Prop}
theorem jp{h:aE}(R:SR P.prog P.w P.h₀ σ μ h){l:Nat}{kvs:List (AV × AV)}{val:ab}(e:σ.m l=some (.dct kvs))(H:VR h μ (.ref l) val):∃a kd,val= .ref a/\μ[l]? =some [a]/\kvs.length<=aY/\DK P.prog P.w kd h μ a kvs/\P.h₀.get? a=none:=by
 ·obtain ⟨a,r,rfl,el⟩:=kH H;(refine aI λkK=>?_;obtain ⟨ft,e1,hl,a,kd,rfl,hd⟩:=R.objs l _ e;refine kK ?_;clear kK);rw[el] at e1;(have hH:=Cf (aO e1);clear e1;obtain ⟨hH1,hH2⟩:=hH;subst hH1;first | subst hH2 | clear hH2)
  exact ⟨_,kd,rfl,el,hl,hd,(R.above _ (fL el (.head _))).1⟩
theorem kN:(aY:Int)<2 ^ 62:=by decide
theorem fZ{h:aE}{a:aa}{vs:Array ab}{n:Nat}(ho:h.get? a=some {cls:= .type "list",data:= .seq vs n}):h.IsList a vs:=⟨_,ho,rfl,n,rfl⟩
theorem qB{h:aE}{a:aa}{vs:Array ab}{n:Nat}(ho:h.get? a=some {cls:= .type "tuple",data:= .seq vs n}):IsTup h a vs:=⟨_,ho,rfl,n,rfl⟩
theorem item_list(R:SR P.prog P.w P.h₀ σ μ s.heap){xs:List AV}{v:AV}{j:Int}{a:aa}{vs:Array ab}{n:Nat}{ix:ab}(hu:A.units+2<ed)(ho:s.heap.get? a=some {cls:= .type "list",data:= .seq vs n})(hl:xs.length<=aY)(hv:aB s.heap μ xs vs.toList)(hi:VR s.heap μ (.int j) ix)(hat:at_ xs j=some v)(q:Q v σ):
  (∃T id,s.TypeIs (.ref a) T/\typeLookup (.type T) "__getitem__"=pure (some (.builtin id)))/\aw P.M A (getItem (.ref a) ix) (Res P μ s Q) E s:=by
 obtain ⟨k,h1,h2,h3,h4,h5,h6⟩:=yg hat;obtain ⟨val,g1,g2⟩:=hv.get h2;obtain ⟨_,rfl⟩:=cX hi;have hs:=kN;refine ⟨⟨_,_,(fZ ho).typeIs,PySem.slot_list_getitem.lookup⟩,?_⟩;obtain g3:vs[k]? =some val:=by erw[aD kz];exact g1
 by_cases h0:0<=j
 ·exact wpAny_getItem_list (fZ ho) h0 (by lia) (by erw[aD (h5 h0)];exact g3) (lT R q g2)
 ·exact wpAny_getItem_list_neg (fZ ho) (by lia) (by refine al hv.size ?_;exact h3) (by lia) (by refine al hv.size (al (aD (h6 (by lia))) ?_);exact g3) (lT R q g2)
theorem MZ(R:SR P.prog P.w P.h₀ σ μ s.heap){x i:AV}{o ix:ab}(hu:A.units+2<ed)(hx:VR s.heap μ x o)(hi:VR s.heap μ i ix)(B:P.Base s.heap)(h:Item P x i σ λv=>Q v σ):
  (∃T id,s.TypeIs o T/\typeLookup (.type T) "__getitem__"=pure (some (.builtin id)))/\aw P.M A (getItem o ix) (Res P μ s Q) E s:=by
 induction x using AV.casesOn with
 | con c0=>
  obtain ⟨c,is,j,v,rfl,⟨hl,vs,n,ho,hv⟩,rfl,hat,q⟩:=h;(have hH:=lQ hx;clear hx;subst hH);exact item_list R hu (B _ _ ho) (by rewrite[ay];exact hl) (hv _ _) hi hat q
 | tup xs=>
  obtain ⟨j,v,rfl,hat,q⟩:=h;obtain ⟨a,vs,n,rfl,hl,ho,hv⟩:=gZ hx;(refine aI λkK=>?_;obtain ⟨k,h1,h2,h3,h4,J⟩:=yg hat;refine kK ?_;clear kK);obtain ⟨val,g1,g2⟩:=hv.get h2;obtain ⟨_,rfl⟩:=cX hi;have hs:=kN;refine ⟨⟨_,_,(qB ho).typeIs,Cn.lookup⟩,?_⟩;exact PyProof.Rows.getItem_tuple (qB ho) (by lia) (by lia) (by refine al hv.size ?_;exact h1) (by refine al (aD kz) ?_;exact g1) (lT R q g2)
 | str xs=>
  obtain ⟨j,c,rfl,hat,q⟩:=h;obtain ⟨k,h1,h2,h3,h4,J⟩:=yg hat;obtain ⟨t,rfl,hl⟩:=eE hx;obtain ⟨u,rfl⟩:=cX hi;have hs:=kN;refine ⟨⟨_,_,p8 _ _ _,PySem.F.slot_str_getitem.lookup⟩,?_⟩;refine PyProof.Rows.getItem_str (c:=c) ?_ ?_ (go R _ q (VR.str [c] _ (by erw[bH];simp)))
  ·simp only[Bool.or_eq_false_iff,decide_eq_false_iff_not];lia
  ·(rewrite[qz];erw[h1])
   simpa [st] using h2
 | ref l=>
  rcases h with ⟨xs,j,v,e,rfl,hat,q⟩ | ⟨kvs,v,e,hk,hd,q⟩
  ·(refine aI λkK=>?_;obtain ⟨a,vs,n,rfl,J,hl,ho,hv⟩:=dl R e hx;refine kK ?_;clear kK);exact item_list R hu ho hl hv hi hat q
  ·obtain ⟨a,kd,rfl,J,hl,hD,J⟩:=jp R e hx;obtain ⟨od,ho,hoe⟩:=hD.obj;refine ⟨⟨"dict",_,⟨od,ho,hoe.1⟩,PySem.slot_dict_getitem.lookup⟩,?_⟩;exact (oy hD hk hi).item rfl hu hd λu t hu=>go R _ q hu
 | _=>exact dn h
theorem M1{x c:ab}{Q:ab->aj->Prop}(h:aw P.M A (jd .In x c) Q E s):aw P.M A (PySem.contains c x) (λb s'=>Q (.bool b) s') E s:=by
 intro Γ p Xc;have:=h Γ p Xc
 change Sem.wp P.M Γ ((PySem.contains c x).bind λb=>pure (Value.bool b)) _ _ p s at this
 rw[Sem.wp_bind] at this;exact this
theorem M2{x c:ab}{Q:ab->aj->Prop}(h:aw P.M A (jd .In x c) (λv s'=>∀b,v= .bool b->Q (.bool (!b)) s') E s):aw P.M A (jd .NotIn x c) Q E s:=by
 refine (?_:aw _ _ (do return .bool (!(<-PySem.contains c x))) Q E s)
 exact ak (aQ (M1 h) (λb s' q=>aC (q b rfl)) λJ J e=>e)
theorem M3{h:aE}:∀{ts:List (List Nat)}{vs:List ab},aB h μ (ts.map AV.str) vs->∀v∈vs,∃z u,v= .str z u:=by
 intro ts
 induction ts with
 | nil=>intro vs H v hv;obtain rfl:=jl H;exact absurd hv am
 | cons t r ih=>
  intro vs H v hv;obtain ⟨a,q,rfl,h1,h2⟩:=on H;rcases aV.mp hv with e | hv
  ·obtain ⟨u,e2,J⟩:=eE h1;exact ⟨_,u,e.trans e2⟩
  ·exact ih h2 v hv
noncomputable def Dv(x:Str):ab->Bool
 | .str z _=>z==x
 | _=>false
theorem M4{h:aE}{x:List Nat}:∀{ts:List (List Nat)}{vs:List ab},aB h μ (ts.map AV.str) vs->vs.any (Dv (st x))=ts.contains x:=by
 intro ts
 induction ts with
 | nil=>intro vs H;obtain rfl:=jl H;rfl
 | cons t r ih=>
  intro vs H;obtain ⟨a,q,rfl,h1,h2⟩:=on H;obtain ⟨u,rfl,J⟩:=eE h1;refine al List.any_cons (al (ih h2) (al List.contains_cons ?_));congr 1;by_cases hx:t=x
  ·subst hx;exact beq_self_eq_true _ |>.trans (beq_self_eq_true _).symm
  ·obtain h1:(x==t)=false:=beq_eq_false_iff_ne.mpr λe=>hx e.symm;refine al h1 ?_;refine beq_eq_false_iff_ne.mpr λe=>hx ?_;exact congrArg (λs:Str=>s.cps.toList) e
theorem Dw{h:aE}{ts:List (List Nat)}{vs:List ab}(H:aB h μ (ts.map AV.str) vs)(x:List Nat)(t:Tok):∃e:ab->Bool,(∀y,y∈vs->MeetsSeq.EqGives y (.str (st x) t) (e y))/\vs.any e=ts.contains x:=
 ⟨Dv (st x),λy hy=>by obtain ⟨z,u,rfl⟩:=M3 H y hy;exact eqGives_str _ _ _ _,M4 H⟩
theorem Dx(O:cg P S)(R:SR P.prog P.w P.h₀ σ μ s.heap){x y:AV}{a c:ab}{b:Bool}(hu:A.units+2<ed)(hx:VR s.heap μ x a)(hy:VR s.heap μ y c)(h:s4 σ x y b){Q:ab->aj->Prop}(q:∀t,Q (.bool b) {s with toks:=t}):
  aw P.M A (jd .In a c) Q E s:=by
 induction y using AV.casesOn with
 | str ts=>
  obtain ⟨d,rfl,rfl⟩:=h;obtain ⟨t1,rfl,J⟩:=eE hx;obtain ⟨t2,rfl,J⟩:=eE hy;refine PyProof.Rows.in_str ?_;have:=StrLaws.found_one (st ts) d;obtain e1:(st [d])=⟨#[d]⟩:=rfl;refine al e1 (al this ?_);obtain e2:decide (d∈(st ts).cps.toList)=ts.contains d:=by
   rewrite[sH,decide_eq_true_iff];simp[st]
  erw[e2];exact q s.toks
 | tup ys=>
  obtain ⟨l,ts,rfl,rfl,rfl⟩:=h;obtain ⟨ad,vs,n,rfl,hl,ho,hv⟩:=gZ hy;obtain ⟨t,rfl,J⟩:=eE hx;obtain ⟨e,e1,e2⟩:=Dw hv l t;refine SeqRoads2.in_tuple e (λy hy=>e1 y (by simpa using hy)) ho ?_
  refine al (aD Array.any_toList) (al e2 ?_);exact q s.toks
 | ref l0=>
  rcases h with ⟨kvs,e,hk,rfl⟩ | ⟨l,ts,rfl,e,rfl⟩
  ·obtain ⟨ad,kd,rfl,J,hl,hD,hn⟩:=jp R e hy;exact (oy hD hk hx).isin rfl hu (by
    rewrite[beq_eq_false_iff_ne];intro c;obtain ⟨o,ho⟩:=O.sys;rw[<-c,hn] at ho;exact nomatch ho) q
  ·obtain ⟨ad,vs,n,rfl,J,hl,ho,hv⟩:=dl R e hy;obtain ⟨t,rfl,J⟩:=eE hx;obtain ⟨e,e1,e2⟩:=Dw hv l t;refine SeqRoads2.in_list e (λy hy=>e1 y (by simpa using hy)) ho ?_
   refine al (aD Array.any_toList) (al e2 ?_);exact q s.toks
 | _=>exact dn h
end
section
variable{P:PW}{S:aN}{A:bh}{E:ab->aj->Prop}{s:aj}{σ:AH}{μ:List (List aa)}
theorem M5{α β:Type}{f:α->Option β}{x:α}{r:List α}{ps:List β}(h:(x::r).mapM f=some ps):∃p q,f x=some p/\r.mapM f=some q/\ps=p::q:=by
 rw[nZ] at h
 induction hf:f x using bf with
 | none=>rw[hf] at h;exact aU h
 | some p=>
  rw[hf] at h
  induction hr:r.mapM f using bf with
  | none=>rw[hr] at h;exact aU h
  | some q=>rw[hr] at h;cases h;exact ⟨p,q,rfl,rfl,rfl⟩
theorem td{h:aE}(R:SR P.prog P.w P.h₀ σ μ h):∀(n:Nat)(x:AV)(p:PyData)(v:ab),fz σ n x=some p->VR h μ x v->∃as,Reads h v p as:=by
 intro n
 induction n with
 | zero=>intro x p v e;exact aU e
 | succ n ih=>
  have all:∀(xs:List AV)(ps:List PyData)(vs:List ab),xs.mapM (fz σ n)=some ps->aB h μ xs vs->∃as,ReadsAll h vs ps as:=by
   intro xs
   induction xs with
   | nil=>intro ps vs e H;(have hH:=jl H;clear H;subst hH);cases e;exact ⟨_,.nil⟩
   | cons x r ihr=>
    intro ps vs e H;obtain ⟨p,q,e1,e2,rfl⟩:=M5 e;cases H with
    | cons a b=>
     obtain ⟨as,r1⟩:=ih _ _ _ e1 a;obtain ⟨bs,r2⟩:=ihr _ _ e2 b;exact ⟨_,.cons r1 r2⟩
  intro x p v e H
  induction x using AV.casesOn with
  | none=>cases e;(have hH:=jk H;clear H;subst hH);exact ⟨_,.none⟩
  | bool b=>cases e;(have hH:=qq H;clear H;subst hH);exact ⟨_,.bool _⟩
  | int i=>cases e;obtain ⟨_,rfl⟩:=cX H;exact ⟨_,.int _ _⟩
  | str s=>cases e;obtain ⟨_,rfl,_⟩:=eE H;exact ⟨_,.str _ _⟩
  | tup xs=>
   obtain ⟨ps,e1,rfl⟩:=bW.mp (e:(xs.mapM (fz σ n)).map n8=some p);obtain ⟨a,vs,k,rfl,J,ho,hv⟩:=gZ H;obtain ⟨as,r⟩:=all _ _ _ e1 hv;exact ⟨_,.tuple ho rfl rfl r⟩
  | ref l=>
   obtain ⟨xs,hx,e⟩:=C9 (f:=λxs=>(xs.mapM (fz σ n)).map n9) (p:=p) e;obtain ⟨ps,e1,rfl⟩:=bW.mp e;obtain ⟨a,vs,k,rfl,J,J,ho,hv⟩:=dl R hx H;obtain ⟨as,r⟩:=all _ _ _ e1 hv;exact ⟨_,.list ho rfl rfl r⟩
  | con v=>exact aU e
  | bm f l=>exact aU e
  | rng n=>exact aU e
theorem Dy:∀(x y:List Nat),oo x y=!decide (y<x)
 | [],y=>(congrArg (!·) (decide_eq_false (List.not_lt_nil y))).symm
 | a::r,[]=>(congrArg (!·) (decide_eq_true (List.nil_lt_cons a r))).symm
 | a::r,b::q=>by
  refine (?_:(if a<b then true else if b<a then false else oo r q)=_)
  by_cases h1:a<b
  ·have:¬(b::q<a::r):=by
    intro c;rcases LO.mp c with c | ⟨c,J⟩
    ·lia
    ·lia
   simp[h1,this]
  ·by_cases h2:b<a
   ·have:(b::q<a::r):=LO.mpr (.inl h2);simp[h1,h2,this]
   ·obtain hab:a=b:=by lia
    subst hab;simp only[h1,if_false,Dy r q];congr 1;rewrite[sH,decide_eq_true_iff,decide_eq_true_iff,LO];exact ⟨λc=> .inr ⟨rfl,c⟩,λc=>c.elim (λc=>absurd c h1) (·.2)⟩
theorem Dz{h:aE}{x:AV}{v:ab}(H:VR h μ x v):(v== .none)=s3 x:=by
 cases H<;>rfl
theorem DA(O:cg P S)(R:SR P.prog P.w P.h₀ σ μ s.heap){op:dU}{x y:AV}{a c:ab}{k:Bool->Prop}(hu:A.units+100<ed)(hx:VR s.heap μ x a)(hy:VR s.heap μ y c)(h:dY op x y σ k)
  {Q:ab->aj->Prop} (q:∀b t,k b->Q (.bool b) {s with toks:=t}):aw P.M A (jd op a c) Q E s:=by
 induction op using CmpOp.casesOn with
 | Eq=>
  obtain ⟨b,⟨l,m,xs,ys,rfl,rfl,e1,e2,bA,rfl⟩ | ⟨n,p,r,e1,e2,l1,l2,d1,d2,rfl⟩,hk⟩:=h
  ·obtain ⟨a1,us,n,rfl,J,J,ho,hr⟩:=dl R e1 hx;obtain ⟨a2,ws,n2,rfl,J,J,ho2,hr2⟩:=dl R e2 hy;exact PySem.P.eq_list_lengths ho ho2 (by (erw[hr.size];erw[hr2.size]);simpa using bA) (by lia) (q _ s.toks hk)
  obtain ⟨as,r1⟩:=td R _ _ _ _ e1 hx;obtain ⟨bs,r2⟩:=td R _ _ _ _ e2 hy;exact SeqAt.compareEq_reads r1 r2 l1 l2 (dA (sC (ck (Nat.min_le_left _ _) (ck d1 (aq rfl))) _) hu) (q _ s.toks hk)
 | NotEq=>
  obtain ⟨b,⟨l,m,xs,ys,rfl,rfl,e1,e2,bA,rfl⟩ | ⟨n,p,r,e1,e2,l1,l2,d1,d2,rfl⟩,hk⟩:=h
  ·obtain ⟨a1,us,n,rfl,J,J,ho,hr⟩:=dl R e1 hx;obtain ⟨a2,ws,n2,rfl,J,J,ho2,hr2⟩:=dl R e2 hy;exact (SeqAt.RcNeAt.lists_lengths (fZ ho) (fZ ho2) (by (erw[hr.size];erw[hr2.size]);simpa using bA) (by lia)) _ _ _ _ (q _ s.toks hk)
  obtain ⟨as,r1⟩:=td R _ _ _ _ e1 hx;obtain ⟨bs,r2⟩:=td R _ _ _ _ e2 hy;exact SeqAt.compareNe_reads r1 r2 l1 l2 (dA (sC (ck (Nat.min_le_left _ _) (ck d1 (aq rfl))) _) hu) (q _ s.toks hk)
 | Is=>
  obtain ⟨b,⟨rfl,rfl⟩,hk⟩:=h;(have hH:=jk hy;clear hy;subst hH);refine PySem.is_none ?_;erw[Dz hx];exact q _ s.toks hk
 | IsNot=>
  obtain ⟨b,⟨rfl,rfl⟩,hk⟩:=h;(have hH:=jk hy;clear hy;subst hH);refine PySem.isNot_none ?_;erw[Dz hx];exact q _ s.toks hk
 | In=>
  obtain ⟨b,hi,hk⟩:=h;exact Dx O R (by lia) hx hy hi λt=>q _ t hk
 | NotIn=>
  obtain ⟨b,hi,hk⟩:=h;exact M2 (Dx O R (by lia) hx hy hi λt b' e=>by cases e;exact q _ t hk)
 | Lt=>
  obtain ⟨i,j,rfl,rfl,hk⟩:=h;obtain ⟨_,rfl⟩:=cX hx;obtain ⟨_,rfl⟩:=cX hy;exact PyProof.Rows.lt_int (q _ s.toks hk)
 | Gt=>
  obtain ⟨i,j,rfl,rfl,hk⟩:=h;obtain ⟨_,rfl⟩:=cX hx;obtain ⟨_,rfl⟩:=cX hy;exact PyProof.Rows.gt_int (q _ s.toks hk)
 | GtE=>
  obtain ⟨i,j,rfl,rfl,hk⟩:=h;obtain ⟨_,rfl⟩:=cX hx;obtain ⟨_,rfl⟩:=cX hy;exact PyProof.Rows.ge_int (q _ s.toks hk)
 | LtE=>
  rcases h with ⟨i,j,rfl,rfl,hk⟩ | ⟨i,j,rfl,rfl,hk⟩
  ·obtain ⟨_,rfl⟩:=cX hx;obtain ⟨_,rfl⟩:=cX hy;exact PyProof.Rows.le_int (q _ s.toks hk)
  ·obtain ⟨_,rfl,_⟩:=eE hx;obtain ⟨_,rfl,_⟩:=eE hy;refine PySem.P.le_str ?_;have:=Dy i j;have e:(!decide ((st j).cps.toList<(st i).cps.toList))=oo i j:=by
    erw[this];congr 1
   erw[e];exact q _ s.toks hk
theorem M7{l:aa}{items:Array ab}{ne:Nat}{k:Int}{t:Tok}{v:ab}{Q:Unit->aj->Prop}(ho:s.heap.get? l=some {cls:= .type "list",data:= .seq items ne})
  (h0:0<=k) (hfit:k<2 ^ 63) (hn:k<items.size)
  (hQ:∀h' n',h'.get? l=some {cls:= .type "list",data:= .seq (items.setIfInBounds k.toNat v) n'}->gN l s.heap h'->Q () {s with heap:=h'}):
  aw P.M A (setItem (.ref l) (.int k t) v) Q E s:=by
 obtain hl:s.heap.IsList l items:=fZ ho;unfold setItem
 try with_reducible refine cM ?_
 first | refine ak (aC ?_) | skip
 refine ak (wpAny_sequenceKey hl.typeIs (by decide) ?_)
 refine ak (xm (name:=cz "__setitem__") hl.typeIs PySem.slot_list_setitem
  (p7 PySem.slot_list_setitem hl.typeIs PySem.entry_list_setitem ?_ (PySem.args_list_setitem _ _ _)))
 refine (?_:aw _ _ (Builtin.List.listSubscript? (.int k t)>>=_) _ _ s);refine ak (wpAny_listSubscript_int (fitsIndex_of h0 hfit) ?_);clear hfit;obtain ⟨j,rfl⟩:=Int.eq_ofNat_of_zero_le h0;obtain hj:j<items.size:=by lia
 obtain hx':items[j]? =some items[j]:=Array.getElem?_eq_getElem hj;refine (?_:aw _ _ ((seqItemAt l j>>=λr=>pure (r.map (j,·)))>>=_) _ _ s)
 refine ak (ak (wpAny_seqItemAt ho rfl (aC ?_)));erw[hx'];refine (?_:aw _ _ (setSeqItemAt l j v>>=_) _ _ s);obtain hfin:∃n',(s.heap.update l (fK (·.setIfInBounds j v))).get? l=some {cls:= .type "list",data:= .seq (items.setIfInBounds j v) n'}:=
  ⟨_,sG _ ho rfl⟩
 obtain ⟨n',hfin⟩:=hfin;refine ak (wpAny_setSeqItemAt ho rfl ?_)
 first
  | exact ak (aC (aC ⟨.none,rfl,aC (hQ _ _ hfin (nX ..))⟩))
  | exact aC ⟨.none,rfl,aC (hQ _ _ hfin (nX ..))⟩
theorem yh{h h':aE}{a:aa}(hs:gN a h h'):∀b ob,h.get? b=some ob->b∉[a]->h'.get? b=some ob:=λb ob hb hm=>(hs.2 b λe=>hm (by erw[e];exact .head _)).trans hb
theorem M8{h h':aE}{a:aa}{vs:Array ab}{n:Nat}(ho:h.get? a=some {cls:= .type "list",data:= .seq vs n})(hs:gN a h h'):∀b ob,h.get? b=some ob->frozen ob->h'.get? b=some ob:=by
 intro b ob hb hz;refine (hs.2 b λe=>?_).trans hb;subst e;rw[ho] at hb;(have hH:=aO hb;clear hb;subst hH);rcases hz.cls with z | z | z<;>simp at z
inductive M9(P:PW)(μ:List (List aa))(s:aj)(k:AH->Prop)(s':aj):Prop
 | mk (σ':AH) (q:k σ') (p:aG P μ σ' μ s s')
theorem te(R:SR P.prog P.w P.h₀ σ μ s.heap){l:Nat}{a:aa}{xs ys:List AV}{vs ws:Array ab}{n n':Nat}{h':aE}{t:Nat}(e:σ.m l=some (.lst xs))(el:μ[l]? =some [a])
  (ho:s.heap.get? a=some {cls:= .type "list",data:= .seq vs n}) (ho':h'.get? a=some {cls:= .type "list",data:= .seq ws n'}) (hs:gN a s.heap h') (hl:ys.length<=aY) (hv:aB s.heap μ ys ws.toList):
  aG P μ (σ.set l (.lst ys)) μ s {s with heap:=h',toks:=t}:=
 aG.turn R e el (yh hs) ⟨hl,a,ws,n',rfl,ho',hv.mono (M8 ho hs) λJ J e=>e⟩
theorem Na(R:SR P.prog P.w P.h₀ σ μ s.heap){x i v:AV}{o ix val:ab}{k:AH->Prop}(hu:A.units+2<ed)(hx:VR s.heap μ x o)(hi:VR s.heap μ i ix)(hv:VR s.heap μ v val)(h:s7 x i v σ k):
  aw P.M A (setItem o ix val) (λJ s'=>M9 P μ s k s') E s:=by
 induction x using AV.casesOn with
 | ref l=>
  rcases h with ⟨xs,j,e,rfl,h0,h1,q⟩ | ⟨kvs,e,hk,hl,q⟩
  ·obtain ⟨a,vs,n,rfl,el,hl,ho,hvs⟩:=dl R e hx;obtain ⟨_,rfl⟩:=cX hi;obtain hsz:=kN;obtain hz:=hvs.size;refine M7 ho h0 (by lia) (by erw[hz];exact h1) λh' n' ho' hs=>⟨_,q,te R e el ho ho' hs (by erw[List.length_set];exact hl) ?_⟩
   erw[Array.toList_setIfInBounds];exact hvs.set _ hv
  ·obtain ⟨a,kd,rfl,el,hl',hD,J⟩:=jp R e hx;refine (oy hD hk hi).set rfl hu hv hl' λh' t hs ⟨kd',hD'⟩=>⟨_,q,aG.turn R e el (yh hs) ⟨?_,a,kd',rfl,hD'⟩⟩;have:=yd kvs i v;lia
 | _=>exact dn h
end
theorem Nb{α:Type}(xs:Array α):(fF xs.size).filterMap (xs[·]?)=xs.toList:=by
 have:=pick_run xs 0 xs.size;simp only[sA] at this;rw[show (fF xs.size).map (λx=>x)=fF xs.size from List.map_id' _] at this
 refine al this (al List.drop_zero ?_);exact Co (by simp)
theorem tf{α β:Type}{f g:α->Option β}:∀{l:List α},(∀x∈l,f x=g x)->l.filterMap f=l.filterMap g
 | [],J1=>rfl
 | x::r,h=>by
  ((erw[Cp];erw[Cp];erw[h x (.head _)];erw[tf λy hy=>h y (.tail _ hy)]);ac_rfl)
theorem DB{α:Type}(xs:Array α):(fF xs.size).filterMap (λk=>xs[xs.size - 1 - k]?)=xs.toList.reverse:=by
 obtain h:=Nb xs.reverse;rw[Cq,Array.size_reverse] at h;erw[aD h];apply tf;intro k hk;obtain hk':k<xs.size:=sI.mp hk;(erw[Array.getElem?_reverse hk'];ac_rfl)
theorem Nc(items:Array ab):slicePick items none none (some (-1))=items.reverse:=by
 obtain h:(sliceRange (sJ none none (some (-1)) items.size).1 (sJ none none (some (-1)) items.size).2.1 (sJ none none (some (-1)) items.size).2.2)=LP none none (-1) items.size:=rfl;unfold slicePick;(erw[h];rewrite[picked_rev];erw[xn]);have:=DB items;(erw[show ((λx=>items[x]?)∘λk=>items.size - 1 - k)=λk=>items[items.size - 1 - k]? from rfl];erw[this])
 rewrite[<-kx];simp
theorem Nd{α:Type}(l:List α)(a b:Nat):(l.drop (min a l.length)).take (min b l.length - min a l.length)=(l.take b).drop a:=by
 erw[List.drop_take];rcases Nat.le_total a l.length with h | h
 ·(erw[Cr h];rewrite[List.take_eq_take_iff];erw[p9]);rcases Nat.le_total b l.length with h | h
  ·(erw[Cr h];ac_rfl)
  ·(erw[Ct h];rewrite[Nat.min_self];erw[Ct (Nat.sub_le_sub_right h a)];ac_rfl)
 ·((erw[Ct h];erw[LQ h];erw[List.drop_length];erw[Ci];erw[Ci]);ac_rfl)
theorem DC(n i:Nat):clipAt n (.ofNat i)=min i n:=by
 refine (?_:(max 0 (min (if (i:Int)<0 then (i:Int)+n else i) n)).toNat=_)
 (erw[if_neg (Int.not_lt.mpr (mI i))];erw[Int.max_eq_right (Int.le_min.mpr ⟨mI i,mI n⟩)]);rcases Nat.le_total i n with h | h
 ·(erw[Int.min_eq_left (Int.ofNat_le.mpr h)];erw[Cr h]);rfl
 ·(erw[Int.min_eq_right (Int.ofNat_le.mpr h)];erw[Ct h]);rfl
theorem part_of{h:aE}{μ:List (List aa)}{v:ab}{x:AV}{a:Option Nat}(e:mP x=some a)(H:VR h μ x v):∃p:Option (Int × Tok),v=partValue p/\p.map (·.1)=a.map jf:=by
 induction x using AV.casesOn with
 | none=>obtain rfl:=aO e;obtain rfl:=jk H;exact ⟨none,rfl,rfl⟩
 | int i=>
  cases i with
  | ofNat i=>obtain rfl:=aO e;obtain ⟨t,rfl⟩:=cX H;exact ⟨some (.ofNat i,_),rfl,rfl⟩
  | negSucc i=>exact nomatch e
 | _=>exact nomatch e
theorem tg:∀p:Option (Int × Tok),IsPart (partValue p) (p.map (·.1))
 | none=> .none
 | some _=> .int ..
noncomputable abbrev kP(a:Option Nat)(n:Nat):Nat:=(a.map jf).elim 0 (clipAt n)
noncomputable abbrev qC(b:Option Nat)(n:Nat):Nat:=(b.map jf).elim n (clipAt n)
theorem DD(n:Nat):∀a,kP a n=min (a.getD 0) n
 | none=>(Nat.zero_min n).symm
 | some i=>DC n i
theorem DE(n:Nat):∀b,qC b n=min (b.getD n) n
 | none=>(Nat.min_self n).symm
 | some i=>DC n i
theorem yi{α:Type}(l:List α)(a b:Option Nat):(l.drop (kP a l.length)).take (qC b l.length - kP a l.length)=gX l a b:=by
 rewrite[DD,DE];exact Nd l _ _
theorem Nf(a b:Option Nat)(n:Nat):LP (a.map jf) (b.map jf) 1 n=(fF (qC b n - kP a n)).map (kP a n+·):=by
 have h:LP (a.map jf) (b.map jf) 1 n=sliceRange (sJ (a.map jf) (b.map jf) none n).1 (sJ (a.map jf) (b.map jf) none n).2.1 (sJ (a.map jf) (b.map jf) none n).2.2:=rfl;(erw[h];rewrite[sliceBounds_plain]);exact sliceRange_one _ _
theorem DF{α:Type}{l m:List α}{lo hi:AV}(h:cut l lo hi .none=some m):∃a b,mP lo=some a/\mP hi=some b/\m=gX l a b:=by
 obtain ⟨a,ha,h⟩:=p3.mp h;obtain ⟨b,hb,h⟩:=bW.mp h;exact ⟨a,b,ha,hb,h.symm⟩
theorem DG{α:Type}(l:List α)(a b:Option Nat):(gX l a b).length<=l.length:=((List.drop_sublist _ _).trans (List.take_sublist _ _)).length_le
theorem Ng{α:Type}(l:List α)(a b:Option Nat)(h:qC b l.length - kP a l.length=l.length):gX l a b=l:=by
 (rewrite[<-yi];erw[h]);have h1:=(DE l.length b).symm▸Cu (b.getD l.length) l.length;have h2:=(DD l.length a).symm▸Cu (a.getD 0) l.length;erw[show kP a l.length=0 by omega]
 exact ez
section
variable{P:PW}{S:aN}{A:bh}{E:ab->aj->Prop}{s ah aR:aj}{σ az:AH}{μ ax:List (List aa)}{Q:AV->AH->Prop}
theorem Res.trans{val:ab}(p:aG P μ az ax s ah)(r:Res P ax ah Q val aR):Res P μ s Q val aR:=by
 obtain ⟨v,σ',μ',q,p',h⟩:=r;exact ⟨v,σ',μ',q,p.trans p',h⟩
theorem aB.cutN{h:aE}{xs:List AV}{vs:List ab}(H:aB h μ xs vs)(a b:Option Nat):aB h μ (gX xs a b) (gX vs a b):=by
 unfold Internal.gX;erw[aD H.length];exact (H.take _).drop _
noncomputable abbrev qD(s:aj)(vl vu vs:ab):aj:={s with heap:=s.heap.push {cls:= .type "slice",data:= .fields #[vl,vu,vs]}}
theorem Nh(R:SR P.prog P.w P.h₀ σ μ s.heap)(vl vu vs:ab):aG P μ σ μ s (qD s vl vu vs):=
 aG.push R (λJ J e=>cp _ e)
theorem Ni{t sl:aa}{items:Array ab}{u:Tok}{Q:ab->aj->Prop}(ht:IsTup s.heap t items)(hs:s.heap.IsSliceOf sl .none .none (.int (-1) u))(hsz:items.size<=aY)
  (h:Q (.ref s.heap.objs.size) {s with heap:=s.heap.push {cls:= .type "tuple",data:= .seq items.reverse}}):aw P.M A (getItem (.ref t) (.ref sl)) Q E s:=by
 (refine aI λkK=>?_;obtain ⟨os,hos,hcs,hds⟩:=id hs;refine kK ?_;clear kK);obtain hTs:s.TypeIs (.ref sl) "slice":=⟨os,hos,hcs⟩;obtain hdrop:sizeOk (.seq items.reverse):=by
  refine (?_:items.reverse.size<=aY);erw[Array.size_reverse];exact hsz
 unfold getItem
 try with_reducible refine cM ?_
 first | refine ak (aC ?_) | skip
 refine ak (wpAny_sequenceKey ht.typeIs (by decide) ?_)
 refine ak (xm (name:=cz "__getitem__") ht.typeIs Cn
  (p7 Cn ht.typeIs PySem.F.entry_tuple_getitem ?_ (PySem.F.args_tuple_getitem_2 _ _)))
 refine (?_:aw _ _ (Builtin.Tuple.tupleItemsOf (.ref t)>>=_) _ _ s);refine ak (tupleItemsOf_ ht ?_);refine ak (wpAny_typeOf hTs ?_);refine al (if_pos (by decide)) ?_
 refine ak ?_;unfold Builtin.Slice.sliceApplied Builtin.Slice.sliceFields;refine ak (ak (wpAny_field hos hds (x:= .none) rfl (ak (wpAny_field hos hds (x:= .none) rfl (ak (wpAny_field hos hds (x:= .int (-1) u) rfl (aC ?_)))))));refine ak (slicePart_int ?_);refine (?_:aw _ _ (if ((-1:Int)==0)=true then _ else _) _ _ s)
 refine al (if_neg (by decide)) ?_
 refine ak (slicePart_none (ak (slicePart_none (ak (aC ?_)))));obtain e1:LR none none (-1) (items.size:Int)=((items.size:Int) - 1,-1):=by
  unfold LR;simp
 refine (?_:aw _ _ (match LR none none (-1) (items.size:Int) with | (lo,hi)=>pure (lo,(-1:Int),Cv lo hi (-1))) _ _ s)
 refine al e1 ?_;obtain e2:Cv ((items.size:Int) - 1) (-1) (-1)=items.size:=by
  unfold Cv;have h1:¬((-1:Int)>0):=by decide
  have h2:(- (-1:Int))=1:=by decide
  simp only[h1,if_false,h2,Int.ediv_one]
  split<;>lia
 refine aC ?_;refine (?_:aw _ _ (if ((items.size:Int) - 1==0 && (-1:Int)==1 && _)=true then _ else _) _ _ s)
 erw[if_neg (by simp)]
 obtain e3:((fF (Cv ((items.size:Int) - 1) (-1) (-1))).filterMap λ(k:Nat)=>items[((items.size:Int) - 1+(k:Int)*(-1)).toNat]?).toArray=items.reverse:=by
  refine al e2 ?_;have:=DB items;(rewrite[<-kx];(erw[lI];erw[Cq];erw[aD this]));apply tf;intro k hk;have hk':k<items.size:=sI.mp hk;congr 1;exact (congrArg Int.toNat (show (items.size:Int) - 1+(k:Int)*-1=(items.size:Int) - ((1+k:Nat):Int) by (rewrite[Int.mul_neg_one];erw[aD Int.sub_eq_add_neg];rewrite[Int.sub_sub]);rfl)).trans ((Int.toNat_sub _ _).trans (Nat.sub_sub _ 1 k).symm)
 refine al e3 ?_
 first
  | exact ak (m:=Cw _) (qa (aC ⟨_,rfl,aC h⟩) hdrop)
  | exact ak (m:=Cw _) (qa (ak (aC (aC ⟨_,rfl,aC h⟩))) hdrop)
  | exact ak (ak (m:=Cw _) (qa (aC (aC ⟨_,rfl,aC h⟩)) hdrop))
  | exact ak (ak (m:=Cw _) (qa (aC ⟨_,rfl,aC h⟩) hdrop))
set_option tactic.hygienic true in
theorem Nj(B:P.Base s.heap)(R:SR P.prog P.w P.h₀ σ μ s.heap){x lo hi st:AV}{o vl vu vs:ab}(hx:VR s.heap μ x o)(hl:VR s.heap μ lo vl)(hh:VR s.heap μ hi vu)(hst:VR s.heap μ st vs)(h:ot x lo hi st σ Q):
  (∃T id,(qD s vl vu vs).TypeIs o T/\typeLookup (.type T) "__getitem__"=pure (some (.builtin id)))/\aw P.M A (getItem o (.ref s.heap.objs.size)) (Res P μ s Q) E (qD s vl vu vs):=by
 have p:=Nh R vl vu vs;have B':P.Base (qD s vl vu vs).heap:=p.base R B;have R':=p.rel;have hsl:(qD s vl vu vs).heap.IsSliceOf s.heap.objs.size vl vu vs:=Heap.IsSliceOf.new ..
 induction x using AV.casesOn with
 | str xs=>
  obtain ⟨rfl,t,hc,q⟩:=h;(have hH:=jk hst;clear hst;subst hH);obtain ⟨a,b,ha,hb,rfl⟩:=DF hc;obtain ⟨pl,rfl,el⟩:=part_of ha hl;obtain ⟨pu,rfl,eu⟩:=part_of hb hh;obtain ⟨_,rfl,_⟩:=eE hx;rename_i tk bl;refine ⟨⟨_,_,p8 _ _ _,PySem.F.slot_str_getitem.lookup⟩,wpAny_getItem_str_slice (l:=pl) (u:=pu) (st:=none) ⟨_,fJ _ rfl,rfl,rfl⟩ rfl ?_⟩;have hpick:slicePicked (Internal.st xs) pl pu none=(fF (qC b xs.length - kP a xs.length)).map (kP a xs.length+·):=by
   unfold slicePicked
   ((erw[el];erw[eu]);rewrite[qz])
   exact Nf _ _ _
  have hres:(slicePicked (Internal.st xs) pl pu none).filterMap ((Internal.st xs).cps[·]?)=gX xs a b:=by
   (erw[hpick];rewrite[pick_run]);exact yi xs a b
  have bD:(gX xs a b).length<=aY:=ck (DG _ _ _) bl;unfold sliceMade
  split
  ·rename_i hcond;have hall:(slicePicked (Internal.st xs) pl pu none).length=xs.length:=qz xs▸eq_of_beq (gP.mp hcond).2;rw[hpick,ay,sL] at hall;rw[Ng xs a b hall] at q bD;exact Res.trans p (lT R' q (.str _ _ bD))
  ·erw[hres];exact ⟨by refine (?_:(gX xs a b).toArray.size<=aY);erw[qb];exact bD,Res.trans p (go R' _ q (.str _ _ bD))⟩
 | tup xs=>
  obtain ⟨rfl,rfl,rfl,q⟩:=h;(have hH:=jk hl;clear hl;subst hH);(have hH:=jk hh;clear hh;subst hH);obtain ⟨_,rfl⟩:=cX hst;obtain ⟨a,ws,n,rfl,bl,ho,hv⟩:=gZ (p.vr hx);refine ⟨⟨_,_,(qB ho).typeIs,Cn.lookup⟩,Ni (qB ho) hsl (hv.size▸bl) (Res.trans p (ya R' _ ?_ (ck (iH List.length_reverse) bl) q))⟩;erw[Cq];exact hv.reverse
 | ref l=>
  obtain ⟨xs,ys,el,hc,q⟩:=h;obtain ⟨a,ws,n,rfl,J,bl,ho,hv⟩:=dl R' el (p.vr hx);refine ⟨⟨_,_,(fZ ho).typeIs,PySem.slot_list_getitem.lookup⟩,?_⟩;have hz:ws.size<=aY:=hv.size▸bl
  induction st using AV.casesOn with
  | none=>
   obtain ⟨b,c,hb,hc',rfl⟩:=DF hc;obtain ⟨pl,rfl,el⟩:=part_of hb hl;obtain ⟨pu,rfl,eu⟩:=part_of hc' hh;(have hH:=jk hst;clear hst;subst hH);refine wpAny_getItem_list_slice (fZ ho) hsl (el▸tg pl) (eu▸tg pu) .none (by simp) (Res.trans p (qy B' R' _ ?_ (ck (DG _ _ _) bl) q)) hz
   (rewrite[slicePick_plain];(erw[lI];erw[aD Cm]));exact (yi ws.toList b c).symm▸hv.cutN b c
  | int c=>match c,hst with
   | .negSucc 0,hst=>
    obtain ⟨b,hb,hc⟩:=p3.mp hc;obtain ⟨c,hc',hc⟩:=p3.mp hc;obtain ⟨pl,rfl,el⟩:=part_of hb hl;obtain ⟨pu,rfl,eu⟩:=part_of hc' hh;obtain ⟨_,rfl⟩:=cX hst
    induction b using bf with
    | some=>exact aU hc
    | none=>induction c using bf with
     | some=>exact aU hc
     | none=>
      obtain rfl:=aO hc;refine wpAny_getItem_list_slice (fZ ho) hsl (el▸tg pl) (eu▸tg pu) (.int ..) (by simp) (Res.trans p (qy B' R' _ ?_ (ck (iH List.length_reverse) bl) q)) hz
      refine (?_:aB _ _ _ (slicePick ws none none (some (-1))).toList);(rewrite[Nc];erw[Cq]);exact hv.reverse
   | .ofNat J1,J2=>exact aU hc
   | .negSucc (J1+1),J2=>exact aU hc
  | _=>exact aU hc
 | _=>exact h.elim
end
def dZ(h:aE)(I:aa)(v:AV)(val:ab)(i:Nat):Prop:=match v with
 | .ref _=>∃a,val= .ref a/\a≠I/\h.IsListIter I a i
 | .tup _=>∃a,val= .ref a/\a≠I/\h.IsTupleIter I a i
 | .str _=>∃x t,val= .str x t/\(h.IsStrIter I "str_ascii_iterator" x t i\/h.IsStrIter I "str_iterator" x t i)
 | .rng m=>IsRangeIter h I (i:Int) ((m:Int) - i) 1
 | _=>False
theorem dZ.keeps{h h':aE}{I:aa}{v:AV}{val:ab}{i:Nat}(H:dZ h I v val i)(hk:∀o,h.get? I=some o->h'.get? I=some o):dZ h' I v val i:=by
 induction v using AV.casesOn with
 | ref l=>obtain ⟨a,e,bA,o,ho,r⟩:=H;exact ⟨a,e,bA,o,hk o ho,r⟩
 | tup l=>obtain ⟨a,e,bA,o,ho,r⟩:=H;exact ⟨a,e,bA,o,hk o ho,r⟩
 | str l=>
  obtain ⟨x,t,e,⟨o,ho,r⟩ | ⟨o,ho,r⟩⟩:=H
  ·exact ⟨x,t,e,.inl ⟨o,hk o ho,r⟩⟩
  ·exact ⟨x,t,e,.inr ⟨o,hk o ho,r⟩⟩
 | rng l=>exact hk _ H
 | _=>exact dn H
theorem dZ.cold{h:aE}{I:aa}{v:AV}{val:ab}{i:Nat}(H:dZ h I v val i):∃o,h.get? I=some o/\¬frozen o:=by
 have k:∀(o:Obj)(T:String),o.cls= .type T->T≠"tuple"->T≠"method"->T≠"range"->¬frozen o:=by
  intro o T e h1 h2 h3 hz;rcases hz.cls with z | z | z<;>rw[e] at z<;>injection z with z<;>contradiction
 induction v using AV.casesOn with
 | ref l=>obtain ⟨a,e,bA,o,ho,hc,J⟩:=H;exact ⟨o,ho,k o _ hc (by decide) (by decide) (by decide)⟩
 | tup l=>obtain ⟨a,e,bA,o,ho,hc,J⟩:=H;exact ⟨o,ho,k o _ hc (by decide) (by decide) (by decide)⟩
 | str l=>
  obtain ⟨x,t,e,⟨o,ho,hc,J⟩ | ⟨o,ho,hc,J⟩⟩:=H
  ·exact ⟨o,ho,k o _ hc (by decide) (by decide) (by decide)⟩
  ·exact ⟨o,ho,k o _ hc (by decide) (by decide) (by decide)⟩
 | rng l=>exact ⟨_,H,k _ _ rfl (by decide) (by decide) (by decide)⟩
 | _=>exact dn H
theorem DI{σ:AH}{l:Nat}{xs:List AV}(h:bz (.ref l) σ=some xs):σ.m l=some (.lst xs):=by
 revert h
 unfold bz;dsimp only;generalize σ.m l=o;intro h
 induction o using bf with
 | none=>exact aU h
 | some o=>induction o using AO.casesOn with
  | lst ys=>exact congrArg (λx=>some (AO.lst x)) (aO h)
  | _=>exact aU h
section
variable{P:PW}{S:aN}{A:bh}{E:ab->aj->Prop}{s:aj}{σ:AH}{μ:List (List aa)}
theorem th(R:SR P.prog P.w P.h₀ σ μ s.heap){v:AV}{val:ab}{xs:List AV}(hv:VR s.heap μ v val)(hi:bz v σ=some xs):
  aw P.M A (pyIter val) (λit s'=>∃I,it= .ref I/\s.heap.get? I=none/\aG P μ σ μ s s'/\dZ s'.heap I v val 0) E s:=by
 have pp:∀(o:Obj),aG P μ σ μ s {s with heap:=s.heap.push o}:=λo=>aG.push R (λJ J e=>cp _ e);have bA:∀{a o},s.heap.get? a=some o->a≠s.heap.objs.size:=λ{a o} e c=>iE _ (c▸fG e)
 induction v using AV.casesOn with
 | tup l=>
  (refine aI λkK=>?_;obtain ⟨a,vs,n,rfl,J,ho,J⟩:=gZ hv;refine kK ?_;clear kK);exact wpAny_pyIter_tuple ⟨_,ho,rfl,n,rfl⟩ ⟨_,rfl,dJ _,pp _,a,rfl,bA ho,_,fJ _ rfl,rfl,rfl⟩
 | str xs=>
  obtain ⟨t,rfl,J⟩:=eE hv;cases ha:(st xs).cps.all (· <128)
  ·exact wpAny_pyIter_wide ha ⟨_,rfl,dJ _,pp _,_,_,rfl,.inr ⟨_,fJ _ rfl,rfl,rfl⟩⟩
  ·exact wpAny_pyIter_ascii ha ⟨_,rfl,dJ _,pp _,_,_,rfl,.inl ⟨_,fJ _ rfl,rfl,rfl⟩⟩
 | rng n=>
  obtain ⟨a,t,u,w,rfl,hb,ho⟩:=C4 hv;have hsz:LS 0 (n:Int) 1=(n:Int):=by
   unfold LS;(erw[if_pos (by decide)];rewrite[Int.ediv_one])
   split<;>lia
  obtain hsm:Builtin.Range.small 0 (n:Int) 1=true:=by
   unfold Builtin.Range.small;refine al hsz ?_;unfold Builtin.Range.rangeFitsLong;simp;lia
  refine wpAny_pyIter_range ho hsm ⟨_,rfl,dJ _,pp _,?_⟩;unfold dZ;refine (?_:(s.heap.push {cls:= .type "range_iterator",data:= .fields #[rawInt 0,rawInt (LS 0 n 1),rawInt 1]}).get? s.heap.objs.size=_);refine al hsz (al (fJ _ rfl) ?_);simp
 | ref l=>
  (refine aI λkK=>?_;obtain ⟨a,vs,n,rfl,J,J,ho,J⟩:=dl R (DI hi) hv;refine kK ?_;clear kK);exact wpAny_pyIter_list ⟨_,ho,rfl,n,rfl⟩ ⟨_,rfl,dJ _,pp _,a,rfl,bA ho,_,fJ _ rfl,rfl,rfl⟩
 | _=>exact aU hi
theorem Nk(R:SR P.prog P.w P.h₀ σ μ s.heap){I:aa}{v:AV}{val:ab}{i j:Nat}{h':aE}{t:Nat}(hm:I∉μ.flatten)(H:dZ s.heap I v val i)(hs:gN I s.heap h')(H':dZ h' I v val j):
  bg P [I] μ σ μ s {s with heap:=h',toks:=t}:=by
 (refine aI λkK=>?_;obtain ⟨o,ho,hz⟩:=H.cold;refine kK ?_;clear kK);have ne:∀b ob,s.heap.get? b=some ob->frozen ob->b≠I:=by
  intro b ob hb z c;subst c;rw[ho] at hb;obtain rfl:=aO hb;exact hz z
 refine ⟨⟨h',t,rfl⟩,λb ob hb z=>(hs.2 b λc=>?_).trans hb,λJ J e=>e,λJ h=> .inl h,λb hb J=>?_,R.aside λb ob hb z=>(hs.2 b λc=>?_).trans hb⟩
 ·rcases z with z | z
  ·exact z.2 (by refine al c ?_;exact .head _)
  ·exact ne b ob hb z c
 ·rw[aF] at hb;subst hb;exact H'.cold
 ·rcases z with z | z
  ·exact hm (c▸z)
  ·exact ne b ob hb z c
theorem yj(R:SR P.prog P.w P.h₀ σ μ s.heap)(hh:A.handled=none){I:aa}{v:AV}{val:ab}{xs:List AV}{i:Nat}(hm:I∉μ.flatten)(H:dZ s.heap I v val i)(hv:VR s.heap μ v val)(hi:bz v σ=some xs)(hle:i<=xs.length):
  aw P.M A (pyNext (.ref I)) (λr s'=>match xs[i]? with
   | some x=>∃u,r=some u/\bg P [I] μ σ μ s s'/\VR s'.heap μ x u/\dZ s'.heap I v val (i+1)
   | none=>r=none/\∃h',s'={s with heap:=h'}/\mE I s.heap h') E s:=by
 obtain fin:∀{x:AV}{u:ab}{h':aE}{t:Nat},xs[i]? =some x->VR s.heap μ x u->gN I s.heap h'->dZ h' I v val (i+1)->(match xs[i]? with
   | some x=>∃u',some u=some u'/\bg P [I] μ σ μ s {s with heap:=h',toks:=t}/\VR h' μ x u'/\dZ h' I v val (i+1)
   | none=>some u=none/\∃h'',({s with heap:=h',toks:=t}:aj)={s with heap:=h''}/\mE I s.heap h''):=by
  intro x u h' t e hx hs H';refine al e ?_;have p:=Nk R (t:=t) hm H hs H';exact ⟨u,rfl,p,p.vr hx,H'⟩
 obtain fin0:∀{h':aE},xs[i]? =none->mE I s.heap h'->(match xs[i]? with
   | some x=>∃u',(none:Option ab)=some u'/\bg P [I] μ σ μ s {s with heap:=h'}/\VR h' μ x u'/\dZ h' I v val (i+1)
   | none=>(none:Option ab)=none/\∃h'',({s with heap:=h'}:aj)={s with heap:=h''}/\mE I s.heap h''):=by
  intro h' e hs;refine al e ?_;exact ⟨rfl,h',rfl,hs⟩
 induction v using AV.casesOn with
 | tup l=>
  obtain rfl:=aO hi;(refine aI λkK=>?_;obtain ⟨a,vs,n,rfl,J,ho,hvs⟩:=gZ hv;refine kK ?_;clear kK);obtain ⟨a',ea,bA,hit⟩:=id H;(have hH:=sM ea;clear ea;subst hH);obtain ht:s.heap.IsTuple a vs:=⟨_,ho,rfl,n,rfl⟩
  induction e:l[i]? using bf with
  | some x=>
   obtain ⟨u,g1,g2⟩:=hvs.get e;refine al (aD e) ?_;exact wpAny_pyNext_tuple_item hit ht (by erw[aD kz];exact g1) λh' hit' hs=>fin (t:=s.toks) e g2 hs ⟨a,rfl,bA,hit'⟩
  | none=>
   refine al (aD e) ?_;exact wpAny_pyNext_tuple_end hh hit ht (by erw[aD kz];exact hvs.get_none e) λh' hs=>fin0 e hs
 | str ys=>
  obtain rfl:=aO hi;obtain ⟨t,rfl,hl⟩:=eE hv;obtain ⟨x',t',ev,hit⟩:=id H;cases ev;have hget:(ys.map λc=>AV.str [c])[i]? =(ys[i]?).map λc=>AV.str [c]:=bt;have hcp:(st ys).cps[i]? =ys[i]?:=by simp[st]
  induction e:ys[i]? using bf with
  | some c=>
   obtain e':(ys.map λc=>AV.str [c])[i]? =some (.str [c]):=by refine al hget (al e ?_);rfl
   rcases hit with hit | hit
   ·exact wpAny_pyNext_ascii_item hit (by erw[hcp];exact e) λh' hit' hs=>fin e' (.str [c] _ (by erw[bH];simp)) hs ⟨_,_,rfl,.inl hit'⟩
   ·exact wpAny_pyNext_wide_item hit (by erw[hcp];exact e) λh' hit' hs=>fin e' (.str [c] _ (by erw[bH];simp)) hs ⟨_,_,rfl,.inr hit'⟩
  | none=>
   have e':(ys.map λc=>AV.str [c])[i]? =none:=by refine al hget (al e ?_);rfl
   rcases hit with hit | hit
   ·exact wpAny_pyNext_ascii_end hh hit (by erw[hcp];exact e) λh' hs=>fin0 e' hs
   ·exact wpAny_pyNext_wide_end hh hit (by erw[hcp];exact e) λh' hs=>fin0 e' hs
 | rng n=>
  obtain rfl:=aO hi;have hit:IsRangeIter s.heap I (i:Int) ((n:Int) - i) 1:=H;rw[ay,sL] at hle;by_cases bD:i<n
  ·have e:((fF n).map λ(i:Nat)=>AV.int (i:Int))[i]? =some (.int i):=by simp[bD]
   refine wpAny_pyNext_range_item hit (by lia) λh' hit' hs=>fin e (.int _ _) hs ?_
   refine (?_:IsRangeIter h' I ((i+1:Nat):Int) ((n:Int) - ((i+1:Nat):Int)) 1);obtain e1:((i+1:Nat):Int)=(i:Int)+1:=by lia
   obtain e2:(n:Int) - ((i:Int)+1)=(n:Int) - i - 1:=by lia
   refine al e1 (al e2 ?_);exact hit'
  ·have e:((fF n).map λ(i:Nat)=>AV.int (i:Int))[i]? =none:=by simp;(with_reducible exact fV ‹_›)
   exact wpAny_pyNext_range_end hh hit (by lia) λh' hs=>fin0 e hs
 | ref l=>
  have el:=DI hi;obtain ⟨a,vs,n,rfl,J,J,ho,hvs⟩:=dl R el hv;(refine aI λkK=>?_;obtain ⟨a',ea,bA,hit⟩:=id H;refine kK ?_;clear kK);(have hH:=sM ea;clear ea;subst hH);have ht:s.heap.IsList a vs:=⟨_,ho,rfl,n,rfl⟩
  induction e:xs[i]? using bf with
  | some x=>
   (refine aI λkK=>?_;obtain ⟨u,g1,g2⟩:=hvs.get e;refine kK ?_;clear kK);refine al (aD e) ?_;exact wpAny_pyNext_list_item hit ht (by erw[aD kz];exact g1) λh' hit' hs=>fin (t:=s.toks) e g2 hs ⟨a,rfl,bA,hit'⟩
  | none=>
   refine al (aD e) ?_;exact wpAny_pyNext_list_end hh hit ht (by erw[aD kz];exact hvs.get_none e) λh' hs=>fin0 e hs
 | _=>exact aU hi
end
structure bT(P:PW)(d:Nat)(c:Ctx)(A:bh)(env:Env)(ρ κ:ac)(σ:AH)(μ:List (List aa))(s:aj):Prop where
 room:lS A d
 base:P.Base s.heap
 rel:SR P.prog P.w P.h₀ σ μ s.heap
 cr:CR c env ρ κ s.heap μ
 above:x7 P env
inductive Nl(P:PW)(μ:List (List aa))(s:aj)(Q:List AV->AH->Prop)(vals:List ab)(s':aj):Prop
 | mk (vs:List AV) (σ':AH) (μ':List (List aa)) (q:Q vs σ') (p:aG P μ σ' μ' s s') (h:aB s'.heap μ' vs vals)
inductive jq(P:PW)(μ:List (List aa))(s:aj)(Q:Bool->AH->Prop)(b:Bool)(s':aj):Prop
 | mk (σ':AH) (μ':List (List aa)) (q:Q b σ') (p:aG P μ σ' μ' s s')
inductive oz(P:PW)(μ:List (List aa))(s:aj)(Q:Bool->AH->Prop)(v:ab)(s':aj):Prop
 | mk (b:Bool) (e:v= .bool b) (r:jq P μ s Q b s')
section
variable{P:PW}{S:aN}{d:Nat}{c:Ctx}{A:bh}{env:Env}{E:ab->aj->Prop}{s ah aR:aj}{σ az:AH}{μ ax:List (List aa)}{ρ κ:ac}
theorem bT.post(H:bT P d c A env ρ κ σ μ s)(p:aG P μ az ax s ah):bT P d c A env ρ κ az ax ah:=
 ⟨H.room,p.base H.rel H.base,p.rel,H.cr.post p,H.above⟩
theorem bT.u(H:bT P d c A env ρ κ σ μ s):A.units+100<ed:=by have:=H.room.2.2;lia
theorem bT.u2(H:bT P d c A env ρ κ σ μ s):A.units+2<ed:=sN (by lia) H.u
theorem bT.hh(H:bT P d c A env ρ κ σ μ s):A.handled=none:=H.room.1
theorem jq.trans{Q:Bool->AH->Prop}{b:Bool}(p:aG P μ az ax s ah)(r:jq P ax ah Q b aR):jq P μ s Q b aR:=by
 obtain ⟨σ',μ',q,p'⟩:=r;exact ⟨σ',μ',q,p.trans p'⟩
theorem oz.trans{Q:Bool->AH->Prop}{v:ab}(p:aG P μ az ax s ah)(r:oz P ax ah Q v aR):oz P μ s Q v aR:=by
 obtain ⟨b,e,r⟩:=r;exact ⟨b,e,r.trans p⟩
def SE(P:PW)(S:aN)(d:Nat)(c:Ctx)(a:AE)(e:av):Prop:=
 ∀(env:Env)(A:bh)(s:aj)(σ:AH)(μ:List (List aa))(ρ κ:ac)(Q:AV->AH->Prop)(E:ab->aj->Prop),bT P d c A env ρ κ σ μ s->wE P S d a ρ κ σ Q->aw P.M A (bE e env) (Res P μ s Q) E s
def ST(P:PW)(S:aN)(d:Nat)(c:Ctx)(a:AE)(e:av):Prop:=
 ∀(env:Env)(A:bh)(s:aj)(σ:AH)(μ:List (List aa))(ρ κ:ac)(Q:Bool->AH->Prop)(E:ab->aj->Prop),bT P d c A env ρ κ σ μ s->wT P S d a (wE P S d a ρ κ σ) ρ κ σ Q->aw P.M A (isTrue e env (bE e env)) (jq P μ s Q) E s
def SL(P:PW)(S:aN)(d:Nat)(c:Ctx)(a:AL)(es:List av):Prop:=
 ∀(env:Env)(A:bh)(s:aj)(σ:AH)(μ:List (List aa))(ρ κ:ac)(Q:List AV->AH->Prop)(E:ab->aj->Prop),bT P d c A env ρ κ σ μ s->wL P S d a ρ κ σ Q->aw P.M A (spliced (es.map λe=>(false,bE e env))) (λvals s'=>vals.length=es.length/\Nl P μ s Q vals s') E s
def SC(P:PW)(S:aN)(d:Nat)(c:Ctx)(a:AC)(ops:List dU)(es:List av):Prop:=
 ∀(env:Env)(A:bh)(s:aj)(σ:AH)(μ:List (List aa))(ρ κ:ac)(Q:Bool->AH->Prop)(E:ab->aj->Prop)(pos:Pos)(x:AV)(left:ab),bT P d c A env ρ κ σ μ s->VR s.heap μ x left->wC P S d a x ρ κ σ Q->
  aw P.M A (compareChain pos left ops (lJ es env)) (oz P μ s Q) E s/\aw P.M A (testChain pos left ops (lJ es env)) (jq P μ s Q) E s
def SB(P:PW)(S:aN)(d:Nat)(c:Ctx)(cJ:Bool)(op:BoolOp)(a:AL)(es:List av):Prop:=
 ∀(env:Env)(A:bh)(s:aj)(σ:AH)(μ:List (List aa))(ρ κ:ac)(Q:AV->AH->Prop)(E:ab->aj->Prop)(pos:Pos),bT P d c A env ρ κ σ μ s->wB P S d cJ a ρ κ σ Q->aw P.M A (boolOp pos op (lJ es env)) (Res P μ s Q) E s
def oA(P:PW)(S:aN)(d:Nat)(c:Ctx)(cJ:Bool)(op:BoolOp)(a:AL)(es:List av):Prop:=
 ∀(env:Env)(A:bh)(s:aj)(σ:AH)(μ:List (List aa))(ρ κ:ac)(Q:Bool->AH->Prop)(E:ab->aj->Prop),bT P d c A env ρ κ σ μ s->ou P S d cJ a ρ κ σ Q->aw P.M A (allTrue op es env) (jq P μ s Q) E s
theorem cB{m:Sem ab}{Q:AV->AH->Prop}{K:ab->aj->Prop}(h:aw P.M A m (Res P μ s Q) E s)
  (k:∀v val az ax ah,Q v az->aG P μ az ax s ah->VR ah.heap ax v val->K val ah):aw P.M A m K E s:=
 aQ h (λval ah z9=>by obtain ⟨v,az,ax,q,p,hv⟩:=z9;exact k v val az ax ah q p hv) λJ J e=>e
theorem yk{v:AV}{val:ab}{k:Bool->Prop}{Q:Bool->aj->Prop}(hv:VR s.heap μ v val)(h:jO v k)(q:∀b,k b->Q b s):aw P.M A (truthy val) Q E s:=by
 induction v using AV.casesOn with
 | bool b=>(have hH:=qq hv;clear hv;subst hH);exact Cx (q _ h)
 | none=>(have hH:=jk hv;clear hv;subst hH);exact λJ J J=>q _ h
 | _=>exact dn h
section rules
theorem Nn{k pos}:SE P S d c .none (.Constant .none k pos):=λenv A s σ μ ρ κ Q E H h=>wpAny_Constant_none (lT H.rel (show Q .none σ from h) .none)
theorem DJ(b:Bool){k pos}:SE P S d c (if b then .tru else .fls) (.Constant (.bool b) k pos):=λenv A s σ μ ρ κ Q E H h=>by
 induction b using bC
 ·exact wpAny_Constant_bool (lT H.rel (show Q (.bool false) σ from h) (.bool _))
 ·exact wpAny_Constant_bool (lT H.rel (show Q (.bool true) σ from h) (.bool _))
theorem No{i k pos}:SE P S d c (.int i) (.Constant (.int i) k pos):=λenv A s σ μ ρ κ Q E H h=>wpAny_Constant_int (go H.rel _ (show Q (.int i) σ from h) (.int _ _))
theorem Np{x:Str}{k pos}(hl:x.cps.toList.length<=1000):SE P S d c (.str x.cps.toList) (.Constant (.str x) k pos):=λenv A s σ μ ρ κ Q E H h=>by
 obtain e:st x.cps.toList=x:=by simp[st]
 refine wpAny_Constant_str (go H.rel _ (show Q (.str x.cps.toList) σ from h) ?_)
 have:=VR.str (h:=s.heap) (μ:=μ) x.cps.toList s.toks (ck hl (by decide))
 rwa [e] at this
theorem yl{m:Sem ab}{v:AV}{Q:AV->AH->Prop}(q:Q v σ)(h:aw P.M A m (λval s'=>aG P μ σ μ s s'/\VR s'.heap μ v val) E s):aw P.M A m (Res P μ s Q) E s:=
 aQ h (λval s' z9=>by obtain ⟨p,hv⟩:=z9;exact ⟨_,σ,μ,q,p,hv⟩) λJ J e=>e
theorem Nq{x:Str}{pos:Pos}{i:Nat}(hd:¬x=("__debug__":Str))(e:c.name x=some (.loc i)):SE P S d c (.loc i) (.Name x pos):=λenv A s σ μ ρ κ Q E H z9=>by obtain ⟨v,e1,q⟩:=xR z9;exact yl q (Mv H.cr H.rel e (xo.mp e1) hd)
theorem Nr{x:Str}{pos:Pos}{i:Nat}(hd:¬x=("__debug__":Str))(e:c.name x=some (.cl i)):SE P S d c (.cl i) (.Name x pos):=λenv A s σ μ ρ κ Q E H z9=>by obtain ⟨v,e1,q⟩:=xR z9;exact yl q (Mw H.cr H.rel e (xo.mp e1) hd)
theorem Nt(O:cg P S){x:Str}{pos:Pos}{g:Nat}(hd:¬x=("__debug__":Str))(e:c.name x=some (.glob g)):SE P S d c (.glob g) (.Name x pos):=λenv A s σ μ ρ κ Q E H z9=>by obtain ⟨v,e1,q⟩:=xR z9;exact yl q (Mx O H.base H.cr H.rel e e1 hd)
theorem Nu{l r:av}{op:nQ}{pos:Pos}{a b:AE}(ha:SE P S d c a l)(hb:SE P S d c b r):SE P S d c (.bin op a b) (.BinOp l op r pos):=λenv A s σ μ ρ κ Q E H h=>by
 refine wpAny_BinOp (cB (ha _ _ _ _ _ _ _ _ _ H h) λx xv az ax ah q p hx=>?_);refine cB (hb _ _ _ _ _ _ _ _ _ (H.post p) q) λy yv bu bF aR fB bb hy=>?_;have co:=(H.post p).post bb;exact aQ (MP co.base co.rel (bb.vr hx) hy fB) (λJ J r=>r.trans (p.trans bb)) λJ J e=>e
theorem Nv{x:av}{pos:Pos}{a:AE}(ha:SE P S d c a x):SE P S d c (.not a) (.UnaryOp .Not x pos):=λenv A s σ μ ρ κ Q E H h=>by
 refine wpAny_UnaryOp (cB (ha _ _ _ _ _ _ _ _ _ H h) λv val az ax ah q p hv=>?_);obtain bc:=H.post p;refine (?_:aw _ _ (eW [val] (truthy val>>=λb=>pure (Value.bool (!b)))) _ _ _);exact cM (ak (yk hv q λb hb=>aC ⟨_,az,ax,hb,p,VR.bool _⟩))
theorem Nw{x:av}{pos:Pos}{a:AE}(ha:SE P S d c a x):SE P S d c (.neg a) (.UnaryOp .USub x pos):=λenv A s σ μ ρ κ Q E H h=>by
 refine wpAny_UnaryOp (cB (ha _ _ _ _ _ _ _ _ _ H h) λv val az ax ah q p hv=>?_);obtain ⟨i,t,rfl,q⟩:=iQ q hv;exact PyProof.Rows.neg_int ⟨_,az,ax,q,p.trans (aG.tok p.rel _),.int _ _⟩
theorem Nx{t b o:av}{pos:Pos}{x y z:AE}(ht:ST P S d c x t)(hb:SE P S d c y b)(ho:SE P S d c z o):SE P S d c (.ite x y z) (.IfExp t b o pos):=λenv A s σ μ ρ κ Q E H h=>by
 refine wpAny_IfExp (aQ (ht _ _ _ _ _ _ _ _ _ H h) (λb ah z_1=>?_) λJ J e=>e);obtain ⟨az,ax,q,p⟩:=z_1
 induction b using bC
 ·exact aQ (ho _ _ _ _ _ _ _ _ _ (H.post p) q) (λJ J r=>r.trans p) λJ J e=>e
 ·exact aQ (hb _ _ _ _ _ _ _ _ _ (H.post p) q) (λJ J r=>r.trans p) λJ J e=>e
noncomputable def fh:av->Bool
 | .Starred .. =>false
 | _=>true
theorem qE{pos:Pos}:∀{es:List av},es.all fh=true->backTo pos (starEach es env)=es.map λe=>(false,bE e env)
 | [],J1=>rfl
 | e::r,h=>by
  simp only[lF,bV] at h;obtain ih:=qE (pos:=pos) h.2;have:starEach (e::r) env=(false,bE e env)::starEach r env:=by
   induction e using lK with
   | Starred a p=>cases h.1
   | _=>rfl
  refine al this (al bi (al (aD ih) ?_));rfl
theorem Ny:SL P S d c .nil []:=λenv A s σ μ ρ κ Q E H h=>aC ⟨rfl,[],σ,μ,h,aG.refl H.rel,.nil⟩
theorem Nz{e:av}{es:List av}{a:AE}{as:AL}(ha:SE P S d c a e)(hs:SL P S d c as es):SL P S d c (.cons a as) (e::es):=λenv A s σ μ ρ κ Q E H h=>by
 refine al bi ?_;refine Calls.spliced_cons (cB (ha _ _ _ _ _ _ _ _ _ H h) λv val az ax ah q p hv=>?_);refine aQ (hs _ _ _ _ _ _ _ _ _ (H.post p) q) (λvals aR z_2=>?_) λJ J e=>e;obtain ⟨hl,vs,bu,bF,fB,bb,nP⟩:=z_2;exact ⟨by ((erw[dW];erw[dW];erw[hl]);ac_rfl),v::vs,bu,bF,fB,p.trans bb,.cons (bb.vr hv) nP⟩
theorem tj{n:Nat}(h:n<=1000):n<=aY:=ck h (by decide)
theorem NA{es:List av}{pos:Pos}{as:AL}(hs:SL P S d c as es)(hp:es.all fh=true)(hl:es.length<=1000):SE P S d c (.list as) (.List es pos):=λenv A s σ μ ρ κ Q E H h=>by
 refine PySem.wpAny_List ?_;refine al (qE hp) ?_;refine aQ (hs _ _ _ _ _ _ _ _ _ H h) (λvals ah ⟨e,vs,az,ax,q,p,hv⟩=>⟨by erw[e];exact tj hl,?_⟩) λJ J e=>e
 obtain bc:=H.post p;exact Res.trans p (qy (t:=ah.toks) bc.base bc.rel (by erw[lI];exact hv) (by (erw[hv.length];erw[e]);exact tj hl) q)
theorem NC{es:List av}{k:Nat}{pos:Pos}{as:AL}(hs:SL P S d c as es)(hp:es.all fh=true)(hl:es.length<=1000):SE P S d c (.tup as) (.Tuple es k pos):=λenv A s σ μ ρ κ Q E H h=>by
 refine PySem.wpAny_Tuple ?_;refine al (qE hp) ?_;refine aQ (hs _ _ _ _ _ _ _ _ _ H h) (λvals ah ⟨e,vs,az,ax,q,p,hv⟩=>⟨by erw[e];exact tj hl,?_⟩) λJ J e=>e
 exact Res.trans p (ya (t:=ah.toks) p.rel (by erw[lI];exact hv) (by (erw[hv.length];erw[e]);exact tj hl) q)
theorem ND{pos:Pos}:SE P S d c .dict0 (.Dict [] [] pos):=λenv A s σ μ ρ κ Q E H h=>by
 refine PySem.wpAny_Dict_empty ⟨_,_,μ++[[s.heap.objs.size]],show Q (.ref σ.next) (σ.new (.dct [])) from h,aG.new H.rel H.base (λb o e=>cp _ e) (λb hb=>?_) (by simp) ⟨du _,_,.i,rfl,[],Heap.DictOf.new _,rfl,.nil,λx hx=>by simp at hx⟩,.ref (by refine al H.rel.next ?_;exact iP)⟩
 rw[aF] at hb;refine al hb ?_;exact dJ _
theorem DL{o:av}{attr:Str}{whole:Sem ab}(h:∀id p pos,o= .Call (.Name id p) [] [] pos->id≠("super":Str)):attributeBase o attr env whole=whole:=by
 induction o using lK with
 | Call f as ks p=>
  induction f using lK with
  | Name id q=>
   induction as using bQ with
   | nil=>induction ks using bQ with
    | nil=>
     have:(id !=("super":Str))=true:=bne_iff_ne.mpr (h id q p rfl);unfold attributeBase;dsimp only;refine al this ?_;rfl
    | cons x y=>rfl
   | cons x y=>rfl
  | _=>rfl
 | _=>rfl
set_option tactic.hygienic true in
theorem NE(O:cg P S)(B:P.Base s.heap)(R:SR P.prog P.w P.h₀ σ μ s.heap){o:AV}{ov:ab}{n:Str}{b:Bool}{Q:AV->AH->Prop}(hg:good n=true)(ho:VR s.heap μ o ov)(h:qt S o (nm n) σ λv=>Q v σ):
  aw P.M A (getAttr ov n b) (Res P μ s Q) E s:=by
 (refine aI λkK=>?_;obtain ⟨l,cl,fs,rfl,e,h⟩:=h;refine kK ?_;clear kK);obtain ⟨_,_,rfl,_⟩:=kH ho;rename_i a r el;rcases h with ⟨v,e1,e2,e3,q⟩ | ⟨m,e1,e2,q⟩
 ·exact aQ (Mq O B R e el hg e1 e2 e3) (λval s' z9=>by obtain ⟨p,hv⟩:=z9;exact ⟨_,σ,μ,q,p,hv⟩) λJ J e=>e
 ·exact aQ (Ms O B R e el hg e1 e2) (λval s' z9=>by obtain ⟨p,hv⟩:=z9;exact ⟨_,σ,μ,q,p,hv⟩) λJ J e=>e
theorem NF(O:cg P S){v:av}{n:Str}{pos:Pos}{a:AE}(ha:SE P S d c a v)(hg:good n=true)(hb:∀id p pos,v= .Call (.Name id p) [] [] pos->id≠("super":Str)):SE P S d c (.attr a (nm n)) (.Attribute v n pos):=λenv A s σ μ ρ κ Q E H h=>by
 obtain e:bE (.Attribute v n pos) env=(do
   let o <-attributeBase v n env (bE v env)
   gQ pos.atName
   let r <-eW [o] (getAttr o n true)
   letTemporaryGo v o r
   pure r):=rfl
 refine al e (al (DL hb) ?_);refine ak (cB (ha _ _ _ _ _ _ _ _ _ H h) λo ov az ax ah q p ho=>ak (dI (ak (cM ?_))));obtain bc:=H.post p;exact aQ (NE O bc.base bc.rel hg ho q) (λr aR nP=>ak (wpAny_letTemporaryGo (aC (nP.trans p)))) λJ J e=>e
theorem NG{x i:av}{pos:Pos}{a b:AE}(ha:SE P S d c a x)(hb:SE P S d c b i)(hi:∀l h st p,i≠.Slice l h st p):SE P S d c (.sub a b) (.Subscript x i pos):=λenv A s σ μ ρ κ Q E H h=>by
 refine PyProof.Rows.Subscript_ (cB (ha _ _ _ _ _ _ _ _ _ H h) λx xv az ax ah q p hx=>?_);refine cB (hb _ _ _ _ _ _ _ _ _ (H.post p) q) λy yv bu bF aR fB bb hy=>?_;have co:=(H.post p).post bb;obtain ⟨⟨T,id,hT,hl⟩,hw⟩:=MZ (E:=E) co.rel co.u2 (bb.vr hx) hy co.base fB;refine tail_any (ops:=[xv,yv]) hT hl (aQ hw (λJ J r=>r.trans (p.trans bb)) λJ J e=>e) ?_
 induction i using lK<;>first | rfl | exact absurd rfl (hi _ _ _ _)
def SO(P:PW)(S:aN)(d:Nat)(c:Ctx)(a:AE)(e:Option av):Prop:=
 ∀(env:Env)(A:bh)(s:aj)(σ:AH)(μ:List (List aa))(ρ κ:ac)(Q:AV->AH->Prop)(E:ab->aj->Prop),bT P d c A env ρ κ σ μ s->wE P S d a ρ κ σ Q->aw P.M A (evalPart e env) (Res P μ s Q) E s
theorem NH:SO P S d c .none none:=λenv A s σ μ ρ κ Q E H h=>aC (lT H.rel (show Q .none σ from h) .none)
theorem NI{a:AE}{e:av}(h:SE P S d c a e):SO P S d c a (some e):=h
theorem NJ{x:av}{l h st:Option av}{p pos:Pos}{a lo hi stp:AE}(ha:SE P S d c a x)(hl:SO P S d c lo l)(hh:SO P S d c hi h)(hs:SO P S d c stp st):SE P S d c (.slice a lo hi stp) (.Subscript x (.Slice l h st p) pos):=λenv A s σ μ ρ κ Q E H hw=>by
 refine PyProof.Rows.Subscript_ (cB (ha _ _ _ _ _ _ _ _ _ H hw) λx xv az ax ah q LB hx=>wpAny_Slice ?_);obtain bc:=H.post LB;refine cB (hl _ _ _ _ _ _ _ _ _ bc q) λvl vlv bu bF aR fB bb hvl=>?_;obtain co:=bc.post bb;refine cB (hh _ _ _ _ _ _ _ _ _ co fB) λvu vuv lD mD dc lE cb hvu=>?_;obtain ja:=co.post cb;refine cB (hs _ _ _ _ _ _ _ _ _ ja lE) λvs vsv LC LD eJ Xd eK hvs=>?_;obtain gI:=ja.post eK;obtain ⟨⟨T,id,hT,hl⟩,hw⟩:=Nj (E:=E) gI.base gI.rel (eK.vr (cb.vr (bb.vr hx))) (eK.vr (cb.vr hvl)) (eK.vr hvu) hvs Xd;have fin:=aQ hw (λJ J r=>Res.trans (((LB.trans bb).trans cb).trans eK) r) λJ J e=>e
 induction st using bf
 ·exact tail_any (ops:=[.ref eJ.heap.objs.size,xv]) hT hl fin rfl
 ·exact tail_any (ops:=[xv,.ref eJ.heap.objs.size]) hT hl fin rfl
theorem NK(O:cg P S){op:dU}{e:av}{a:AE}(ha:SE P S d c a e):SC P S d c (.one op a) [op] [e]:=λenv A s σ μ ρ κ Q E pos x left H hx h=>by
 have key:∀{K:ab->aj->Prop},(∀b s',jq P μ s Q b s'->K (.bool b) s')->aw P.M A (bE e env) (λb ah=>aw P.M A (jd op left b) K E ah) E s:=λhK=>
  cB (ha _ _ _ _ _ _ _ _ _ H h) λy yv az ax ah q p hy=>
   DA O p.rel H.u (p.vr hx) hy q λb t hb=>hK _ _ ⟨az,ax,hb,p.trans (aG.tok p.rel t)⟩
 refine ⟨?_,?_⟩
 ·refine (?_:aw _ _ (do let rv <-eW [left] (bE e env);gQ pos;operate [left,rv] (jd op left rv)) _ _ _)
  exact ak (cM (aQ (key λb s' r=>(⟨b,rfl,r⟩:oz P μ s Q (.bool b) s')) (λJ J h=>ak (dI (wpAny_operating h))) λJ J e=>e))
 ·refine (?_:aw _ _ (do let rv <-eW [left] (bE e env);gQ pos;let c <-operate [left,rv] (jd op left rv);eW [c] (truthy c)) _ _ _)
  refine ak (cM (aQ (key (K:=λv s'=>aw P.M A (truthy v) (jq P μ s Q) E s') λb s' r=>Cx r) (λJ J h=>ak (dI (ak (wpAny_operating ?_)))) λJ J e=>e));exact aQ h (λJ J h=>cM h) λJ J e=>e
theorem NL(O:cg P S){op:dU}{e:av}{ops:List dU}{es:List av}{a:AE}{cs:AC}(ha:SE P S d c a e)(hs:SC P S d c cs ops es)(bA:ops≠[]):SC P S d c (.cons op a cs) (op::ops) (e::es):=λenv A s σ μ ρ κ Q E pos x left H hx h=>by
 obtain ⟨o,os,rfl⟩:∃o os,ops=o::os:=by induction ops using bQ with | nil=>exact absurd rfl bA | cons o os=>exact ⟨o,os,rfl⟩
 have step:∀{K:ab->ab->aj->Prop},(∀y yv az ax ah b,VR ah.heap ax y yv->aG P μ az ax s ah->bT P d c A env ρ κ az ax ah->(match b with | true=>wC P S d cs y ρ κ az Q | false=>Q false az)->K yv (.bool b) ah)->
   aw P.M A (bE e env) (λyv ah=>aw P.M A (jd op left yv) (K yv) E ah) E s:=λhK=>
  cB (ha _ _ _ _ _ _ _ _ _ H h) λy yv az ax ah q p hy=>
   DA O p.rel H.u (p.vr hx) hy q λb t hb=>hK y yv az ax _ b ((aG.tok p.rel t).vr hy) (p.trans (aG.tok p.rel t)) ((H.post p).post (aG.tok p.rel t)) hb
 refine ⟨?_,?_⟩
 ·refine (?_:aw _ _ (do
   let rv <-eW [left] (bE e env)
   gQ pos
   let c <-eW [left,rv] (jd op left rv)
   release [left,rv] [c]
   if <-eW [c,rv] (truthy c) then compareChain pos rv (o::os) (lJ es env) else pure c) _ _ _)
  refine ak (cM (aQ (step (K:=λyv v s'=>aw P.M A (do if <-eW [v,yv] (truthy v) then compareChain pos yv (o::os) (lJ es env) else pure v) (oz P μ s Q) E s') λy yv az ax ah b hy p bc hb=>?_)
   (λyv ah fC=>ak (dI (ak (cM (aQ fC (λv aR nP=>ak (wpAny_release nP)) λJ J e=>e))))) λJ J e=>e))
  refine ak (cM (Cx ?_))
  induction b using bC
  ·exact aC ⟨false,rfl,az,ax,hb,p⟩
  ·exact aQ (hs env A ah az ax ρ κ Q E pos y yv bc hy hb).1 (λJ J r=>r.trans p) λJ J e=>e
 ·refine (?_:aw _ _ (do
   let rv <-eW [left] (bE e env)
   gQ pos
   let c <-eW [left,rv] (jd op left rv)
   release [left,rv] [c]
   if <-eW [c,rv] (truthy c) then testChain pos rv (o::os) (lJ es env) else pure false) _ _ _)
  refine ak (cM (aQ (step (K:=λyv v s'=>aw P.M A (do if <-eW [v,yv] (truthy v) then testChain pos yv (o::os) (lJ es env) else pure false) (jq P μ s Q) E s') λy yv az ax ah b hy p bc hb=>?_)
   (λyv ah fC=>ak (dI (ak (cM (aQ fC (λv aR nP=>ak (wpAny_release nP)) λJ J e=>e))))) λJ J e=>e))
  refine ak (cM (Cx ?_))
  induction b using bC
  ·exact aC ⟨az,ax,hb,p⟩
  ·exact aQ (hs env A ah az ax ρ κ Q E pos y yv bc hy hb).2 (λJ J r=>r.trans p) λJ J e=>e
theorem NM{l:av}{ops:List dU}{es:List av}{pos:Pos}{a:AE}{cs:AC}(ha:SE P S d c a l)(hs:SC P S d c cs ops es)(hm:lastMarks ops es=false):SE P S d c (.cmp a cs) (.Compare l ops es pos):=λenv A s σ μ ρ κ Q E H h=>by
 refine (?_:aw _ _ (do compareChain pos (<-bE l env) ops (markedEach ops es (lJ es env))) _ _ _)
 refine al (markedEach_of_false _ _ _ hm) ?_;refine ak (cB (ha _ _ _ _ _ _ _ _ _ H h) λx xv az ax ah q p hx=>?_);exact aQ (hs env A ah az ax ρ κ _ E pos x xv (H.post p) hx q).1 (λv aR z9=>by obtain ⟨b,e,bu,bF,fB,bb⟩:=z9;exact ⟨_,bu,bF,fB,p.trans bb,e▸VR.bool b⟩) λJ J e=>e
theorem NN{l:av}{ops:List dU}{es:List av}{pos:Pos}{a:AE}{cs:AC}(ha:SE P S d c a l)(hs:SC P S d c cs ops es)(hm:lastMarks ops es=false):ST P S d c (.cmp a cs) (.Compare l ops es pos):=λenv A s σ μ ρ κ Q E H h=>by
 refine (?_:aw _ _ (do testChain pos (<-bE l env) ops (markedEach ops es (lJ es env))) _ _ _)
 refine al (markedEach_of_false _ _ _ hm) ?_;refine ak (cB (ha _ _ _ _ _ _ _ _ _ H h) λx xv az ax ah q p hx=>?_);exact aQ (hs env A ah az ax ρ κ _ E pos x xv (H.post p) hx q).2 (λv aR r=>r.trans p) λJ J e=>e
theorem NO{cJ:Bool}{op:BoolOp}{e:av}{a:AE}(ha:SE P S d c a e):SB P S d c cJ op (.cons a .nil) [e]:=λenv A s σ μ ρ κ Q E pos H h=>by
 exact aQ (ha _ _ _ _ _ _ _ _ _ H h) (λJ J r=>r) λJ J e=>e
noncomputable def mT:BoolOp->Bool
 | .And=>true
 | .Or=>false
theorem NP{op:BoolOp}{e e':av}{es:List av}{a a':AE}{as:AL}(ha:SE P S d c a e)(hs:SB P S d c (mT op) op (.cons a' as) (e'::es)):SB P S d c (mT op) op (.cons a (.cons a' as)) (e::e'::es):=λenv A s σ μ ρ κ Q E pos H h=>by
 refine (?_:aw _ _ (do
  let v <-bE e env
  gQ pos
  let t <-eW [v] (truthy v)
  match op,t with
  | .And,false | .Or,true=>pure v
  | J1,J2=>boolOp pos op (lJ (e'::es) env)) _ _ _)
 refine ak (cB (ha _ _ _ _ _ _ _ _ _ H h) λv val az ax ah q p hv=>ak (dI (ak (cM (yk hv q λb hb=>?_)))))
 induction op using BoolOp.casesOn<;>induction b using bC
 ·exact aC ⟨v,az,ax,hb,p,hv⟩
 ·exact aQ (hs env A ah az ax ρ κ Q E pos (H.post p) hb) (λJ J r=>r.trans p) λJ J e=>e
 ·exact aQ (hs env A ah az ax ρ κ Q E pos (H.post p) hb) (λJ J r=>r.trans p) λJ J e=>e
 ·exact aC ⟨v,az,ax,hb,p,hv⟩
theorem NQ{es:List av}{pos:Pos}{as:AL}(h:SB P S d c true .And as es):SE P S d c (.and as) (.BoolOp .And es pos):=λenv A s σ μ ρ κ Q E H hw=>h env A s σ μ ρ κ Q E pos H hw
theorem NR{es:List av}{pos:Pos}{as:AL}(h:SB P S d c false .Or as es):SE P S d c (.or as) (.BoolOp .Or es pos):=λenv A s σ μ ρ κ Q E H hw=>h env A s σ μ ρ κ Q E pos H hw
theorem NS{op:BoolOp}:oA P S d c (mT op) op .nil []:=λenv A s σ μ ρ κ Q E H h=>by
 induction op using BoolOp.casesOn
 ·exact aC ⟨σ,μ,h,aG.refl H.rel⟩
 ·exact aC ⟨σ,μ,h,aG.refl H.rel⟩
theorem NU{op:BoolOp}{e:av}{es:List av}{a:AE}{as:AL}(ha:ST P S d c a e)(hs:oA P S d c (mT op) op as es):oA P S d c (mT op) op (.cons a as) (e::es):=λenv A s σ μ ρ κ Q E H h=>by
 refine (?_:aw _ _ (do match op,<-isTrue e env (bE e env) with | .And,false=>pure false | .Or,true=>pure true | _,_=>allTrue op es env) _ _ _)
 refine ak (aQ (ha _ _ _ _ _ _ _ _ _ H h) (λb ah z_3=>?_) λJ J e=>e);obtain ⟨az,ax,q,p⟩:=z_3
 induction op using BoolOp.casesOn<;>induction b using bC
 ·exact aC ⟨az,ax,q,p⟩
 ·exact aQ (hs env A ah az ax ρ κ Q E (H.post p) q) (λJ J r=>r.trans p) λJ J e=>e
 ·exact aQ (hs env A ah az ax ρ κ Q E (H.post p) q) (λJ J r=>r.trans p) λJ J e=>e
 ·exact aC ⟨az,ax,q,p⟩
theorem NV{es:List av}{pos:Pos}{as:AL}(h:oA P S d c true .And as es):ST P S d c (.and as) (.BoolOp .And es pos):=λenv A s σ μ ρ κ Q E H hw=>by
 exact wpAny_isTrue_BoolOp (h env A s σ μ ρ κ Q E H hw)
theorem NW{es:List av}{pos:Pos}{as:AL}(h:oA P S d c false .Or as es):ST P S d c (.or as) (.BoolOp .Or es pos):=λenv A s σ μ ρ κ Q E H hw=>by
 exact wpAny_isTrue_BoolOp (h env A s σ μ ρ κ Q E H hw)
theorem NX{x:av}{pos:Pos}{a:AE}(h:ST P S d c a x):ST P S d c (.not a) (.UnaryOp .Not x pos):=λenv A s σ μ ρ κ Q E H hw=>by
 refine (?_:aw _ _ (do return !(<-isTrue x env (bE x env))) _ _ _)
 exact ak (aQ (h _ _ _ _ _ _ _ _ _ H hw) (λb ah z9=>by obtain ⟨σ',μ',q,p⟩:=z9;exact aC ⟨σ',μ',q,p⟩) λJ J e=>e)
theorem NY{t b o:av}{pos:Pos}{x y z:AE}(ht:ST P S d c x t)(hb:ST P S d c y b)(ho:ST P S d c z o):ST P S d c (.ite x y z) (.IfExp t b o pos):=λenv A s σ μ ρ κ Q E H h=>by
 refine (?_:aw _ _ (do if <-isTrue t env (bE t env) then isTrue b env (bE b env) else isTrue o env (bE o env)) _ _ _)
 refine ak (aQ (ht _ _ _ _ _ _ _ _ _ H h) (λb ah z_4=>?_) λJ J e=>e);obtain ⟨az,ax,q,p⟩:=z_4
 induction b using bC
 ·exact aQ (ho _ _ _ _ _ _ _ _ _ (H.post p) q) (λJ J r=>r.trans p) λJ J e=>e
 ·exact aQ (hb _ _ _ _ _ _ _ _ _ (H.post p) q) (λJ J r=>r.trans p) λJ J e=>e
theorem NZ{e:av}{a:AE}(h:SE P S d c a e)(he:∀env whole,isTrue e env whole=(do let v <-whole;gQ e.pos;eW [v] (truthy v)))
  (hw:∀whole ρ κ σ Q,wT P S d a whole ρ κ σ Q=whole λv ae=>jO v λb=>Q b ae):ST P S d c a e:=λenv A s σ μ ρ κ Q E H hq=>by
 rw[hw] at hq;rewrite[he];exact ak (cB (h _ _ _ _ _ _ _ _ _ H hq) λv val az ax ah q p hv=>ak (dI (cM (yk hv q λb hb=>⟨az,ax,hb,p⟩))))
end rules
end
section
variable{P:PW}{S:aN}{d:Nat}{c:Ctx}{A:bh}{env:Env}{E:ab->aj->Prop}{s ah aR:aj}{σ az:AH}{μ ax:List (List aa)}{ρ κ:ac}
theorem N0{f:ab}{args:List (Bool × Sem ab)}{Q:Args->aj->Prop}(hp:args.all (λx=>!x.1)=true)(h:aw P.M A (spliced args) (λvs s'=>Q ⟨vs,[]⟩ s') E s):aw P.M A (evalArgs f true args []) Q E s:=by
 induction args using bQ with
 | nil=>
  unfold evalArgs;refine (?_:aw _ _ (spliced []>>=_) Q E s);refine ak (aQ h (λvs s' h'=>?_) λJ J x=>x);refine cM ?_;exact ak (aC (ak (aC (aC h'))))
 | cons x r=>
  obtain ⟨b,x⟩:=x;simp only[lF,bV,qc] at hp;obtain ⟨rfl,J⟩:=hp;exact Calls.evalArgs_plain h
theorem DM{pos:Pos}{f:ab}{first:List ab}{args:List (Bool × Sem ab)}{Q:ab->aj->Prop}(hp:args.all (λx=>!x.1)=true)
  (h:aw P.M A (spliced args) (λvs ah=>(∀K:Keeper->aj->Prop,(∀k,K k ah)->aw P.M A (nS f) K E ah)/\aw P.M A (call f (first++vs)) Q E ah) E s):
  aw P.M A (callWith pos f first args []) Q E s:=by
 unfold callWith;refine ak (cM (N0 hp (aQ h (λvs ah fC=>ak (dI ?_)) λJ J x=>x)));have tail:∀{t:Sem ab},aw P.M A t Q E ah->aw P.M A (t>>=λr=>eW [r] point>>=λJ=>pure r) Q E ah:=
  λht=>ak (aQ ht (λr aR hr=>ak (cM (wpAny_point (aC hr)))) λJ J x=>x)
 have hs:args.any (·.1)=false:=by
  rewrite[List.any_eq_false];intro x hx;have:=jI.mp hp x hx
  simpa using this
 have hs':(args.any (·.1) || ([]:List (Option Str × Sem ab)).any (·.1.isNone))=false:=by erw[hs];rfl
 rewrite (config:={}) [hs'];dsimp only;refine ak (m:=nS f) (fC.1 _ λk=>?_)
 induction k using Keeper.casesOn
 ·dsimp only
  split
  ·exact tail fC.2
  ·exact tail (by unfold callMarked;exact wpAny_keep fC.2)
 ·dsimp only
  split
  ·exact tail fC.2
  ·exact tail (by unfold callMarked;exact wpAny_keep fC.2)
 ·exact tail fC.2
 ·exact tail (wpAny_operating fC.2)
theorem DN{f:AV}{vs:List AV}{Q:AV->AH->Prop}(hT:T P d f vs σ Q)(room:lS A d)(B:P.Base s.heap)(R:SR P.prog P.w P.h₀ σ μ s.heap){fv:ab}{vals:List ab}(hf:VR s.heap μ f fv)(hv:aB s.heap μ vs vals):
  (∀K:Keeper->aj->Prop,(∀k,K k s)->aw P.M A (nS fv) K E s)/\aw P.M A (call fv vals) (Res P μ s Q) E s:=hT A s μ fv vals E room B R hf hv
theorem all_plain{es:List av}:(es.map λe=>(false,bE e env)).all (λx=>!x.1)=true:=by
 erw[List.all_map];simp
theorem N4{f:av}{es:List av}{pos:Pos}{a:AE}{as:AL}(ha:SE P S d c a f)(hs:SL P S d c as es)(hp:es.all fh=true)
  (hna:∀v n p,f≠.Attribute v n p):SE P S d c (.call a as) (.Call f es [] pos):=λenv A s σ μ ρ κ Q E H h=>by
 have e:bE (.Call f es [] pos) env=(do callWith pos (<-bE f env) [] (backTo pos (starEach es env)) []):=by
  induction f using lK<;>first | rfl | exact absurd rfl (hna _ _ _)
 (erw[e];erw[qE hp]);refine ak (cB (ha _ _ _ _ _ _ _ _ _ H h) λfv fval az ax ah q p hf=>?_);have bc:=H.post p;refine DM all_plain (aQ (hs _ _ _ _ _ _ _ _ _ bc q) (λvals aR z_2=>?_) λJ J e=>e);obtain ⟨J,vs,bu,bF,fB,bb,hv⟩:=z_2;have co:=bc.post bb;obtain ⟨k1,k2⟩:=DN (E:=E) fB co.room co.base co.rel (bb.vr hf) hv;exact ⟨k1,aQ k2 (λJ J r=>r.trans (p.trans bb)) λJ J e=>e⟩
theorem N5:good (cz "split")=true/\good (cz "join")=true/\good (cz "startswith")=true/\good (cz "find")=true/\good (cz "replace")=true/\good (cz "append")=true/\good (cz "pop")=true/\good (cz "extend")=true/\good (cz "get")=true:=by decide+kernel
theorem ite_some{α:Type}{c:Prop}[Decidable c]{a i:α}{r:Option α}(h:(if c then some a else r)=some i):(c/\a=i)\/r=some i:=by
 by_cases k:c
 ·rw[if_pos k] at h;exact .inl ⟨k,aO h⟩
 ·rw[if_neg k] at h;exact .inr h
theorem kQ{v:ab}{T:String}{n m:Str}{id:String}{pl:Sem Bool}{Q:ab × List ab->aj->Prop}(e:nm n=nm m)(hg:good n=true)(hm:good m=true)(hT:s.TypeIs v T)(pa:PlainAttrs T)
  (slot:Slot T m id) (hty:typeOf (.builtin id)=pure (.type "method_descriptor")) (hd:∀a,v= .ref a->∃o,s.heap.get? a=some o/\o.dict=none) (h:Q (.builtin id,[v]) s):aw P.M A (getMethod v n pl) Q E s:=by
 obtain rfl:=xK hg hm e;exact getMethod_builtin hT pa slot hty hd h
theorem N6(O:cg P S)(B:P.Base s.heap)(R:SR P.prog P.w P.h₀ σ μ s.heap){o fv:AV}{ov:ab}{n:Str}{pl:Sem Bool}{Q:ab × List ab->aj->Prop}(hg:good n=true)(ho:VR s.heap μ o ov)(h:jn S o (nm n) σ fv)
  (q:∀f,VR s.heap μ fv f->Q (f,[ov]) s):aw P.M A (getMethod ov n pl) Q E s:=by
 obtain ⟨g1,g2,g3,g4,g5,g6,g7,g8,g9⟩:=N5
 induction o using AV.casesOn with
 | str x=>
  obtain ⟨i,hi,rfl⟩:=h;obtain ⟨t,rfl,J⟩:=eE ho;have hT:s.TypeIs (.str (st x) t) "str":=p8 _ _ _;have hd:∀b,kA (st x) t= .ref b->∃o,s.heap.get? b=some o/\o.dict=none:=λb e=>Value.noConfusion e;rcases ite_some hi with ⟨e,rfl⟩ | hi
  ·exact kQ e hg g1 hT xp PySem.F.slot_str_split PySem.F.type_str_split hd (q _ (.con _))
  rcases ite_some hi with ⟨e,rfl⟩ | hi
  ·exact kQ e hg g2 hT xp PySem.F.slot_str_join PySem.F.type_str_join hd (q _ (.con _))
  rcases ite_some hi with ⟨e,rfl⟩ | hi
  ·exact kQ e hg g3 hT xp PySem.F.slot_str_startswith PySem.F.type_str_startswith hd (q _ (.con _))
  rcases ite_some hi with ⟨e,rfl⟩ | hi
  ·exact kQ e hg g4 hT xp PySem.F.slot_str_find PySem.F.type_str_find hd (q _ (.con _))
  rcases ite_some hi with ⟨e,rfl⟩ | hi
  ·exact kQ e hg g5 hT xp PySem.F.slot_str_replace PySem.F.type_str_replace hd (q _ (.con _))
  exact aU hi
 | ref l=>
  rcases h with ⟨cl,fs,m,e,e1,e2,rfl⟩ | ⟨xs,i,e,hi,rfl⟩ | ⟨kvs,i,e,hi,rfl⟩
  ·obtain ⟨a,r,rfl,el⟩:=kH ho;exact Mr O B R e el hg e1 e2 (q _ (.con _))
  ·obtain ⟨a,vs,k,rfl,J,J,hob,J⟩:=dl R e ho;have hT:s.TypeIs (.ref a) "list":=(fZ hob).typeIs;have hd:∀b,jg a= .ref b->∃o,s.heap.get? b=some o/\o.dict=none:=λb e=>sM e▸⟨_,hob,rfl⟩;rcases ite_some hi with ⟨e,rfl⟩ | hi
   ·exact kQ e hg g6 hT LU PySem.F.slot_list_append PySem.F.type_list_append hd (q _ (.con _))
   rcases ite_some hi with ⟨e,rfl⟩ | hi
   ·exact kQ e hg g7 hT LU LV PySem.F.type_list_pop hd (q _ (.con _))
   rcases ite_some hi with ⟨e,rfl⟩ | hi
   ·exact kQ e hg g8 hT LU PySem.F.slot_list_extend PySem.F.type_list_extend hd (q _ (.con _))
   exact aU hi
  ·obtain ⟨a,kd,rfl,J,J,hD,J⟩:=jp R e ho;obtain ⟨od,hod,hx⟩:=hD.obj;have hT:s.TypeIs (.ref a) "dict":=⟨od,hod,hx.1⟩;have hd:∀b,jg a= .ref b->∃o,s.heap.get? b=some o/\o.dict=none:=λb e=>sM e▸⟨_,hod,hx.2.1⟩;rcases ite_some hi with ⟨e,rfl⟩ | hi
   ·exact kQ e hg g9 hT PySem.F.plainAttrs_dict LW PySem.F.type_dict_get hd (q _ (.con _))
   exact aU hi
 | _=>exact dn h
theorem N7(O:cg P S){v:av}{n:Str}{apos pos:Pos}{es:List av}{a:AE}{as:AL}(ha:SE P S d c a v)(hs:SL P S d c as es)(hp:es.all fh=true)(hg:good n=true)(hl:es.length<30)(hpos:(apos.endLine==pos.line)=true)
  (hb:∀id p pos,v= .Call (.Name id p) [] [] pos->id≠("super":Str)):SE P S d c (.meth a (nm n) as) (.Call (.Attribute v n apos) es [] pos):=λenv A s σ μ ρ κ Q E H h=>by
 have e:bE (.Call (.Attribute v n apos) es [] pos) env=(do
  let ov <-attributeBase v n env (bE v env)
  gQ apos.atName
  methodCall v n apos pos env ov (es.length+0) (backTo pos (starEach es env)) []):=rfl
 (erw[e];erw[DL hb];erw[qE hp]);refine ak (cB (ha _ _ _ _ _ _ _ _ _ H h) λo ov az ax ah q p ho=>ak (dI ?_));have bc:=H.post p;obtain ⟨fv,hM,hw⟩:=q;have hform:methodCallForm (es.length+0) (es.map λe=>(false,bE e env)) []=true:=by
  unfold methodCallForm;erw[all_plain];simp only[List.all_nil,List.isEmpty_nil,if_true,jJ,Bool.true_and,decide_eq_true_eq];lia
 unfold methodCall;erw[hform];refine ak (cM ?_);unfold calleeOf;erw[if_pos rfl];refine N6 O bc.base bc.rel hg ho hM λf hf=>?_;have hcp:methodCallPos true v env apos pos=pure pos:=by
  unfold methodCallPos;(erw[if_pos (by simpa using hpos)];ac_rfl)
 dsimp only;erw[hcp];refine ak (aC ?_);refine DM all_plain (aQ (hs _ _ _ _ _ _ _ _ _ bc hw) (λvals aR z_3=>?_) λJ J e=>e);obtain ⟨J,vs,bu,bF,fB,bb,hv⟩:=z_3;have co:=bc.post bb;obtain ⟨k1,k2⟩:=DN (E:=E) fB co.room co.base co.rel (bb.vr hf) (.cons (bb.vr ho) hv);exact ⟨k1,aQ k2 (λJ J r=>r.trans (p.trans bb)) λJ J e=>e⟩
end
section
variable{P:PW}{S:aN}{d:Nat}{c:Ctx}{A:bh}{env:Env}{E:ab->aj->Prop}{s ah aR:aj}{σ az bu:AH}{μ ax bF:List (List aa)}{ρ κ:ac}
theorem aG.newAt(p:aG P μ bu bF s aR)(B:P.Base s.heap){D:aa}{h':aE}{t:Nat}{o:AO}(h0:s.heap.get? D=none)(hD:D∉bF.flatten)(hz:∀ob,aR.heap.get? D=some ob->¬frozen ob)
  (hx:mE D aR.heap h') (H:OR P.prog P.w h' (bF++[[D]]) o [D]):aG P μ (bu.new o) (bF++[[D]]) s {aR with heap:=h',toks:=t}:=by
 have ne:∀b ob,s.heap.get? b=some ob->b≠D:=λb ob e c=>by rw[c,h0] at e;exact aU e
 have fz:∀b ob,aR.heap.get? b=some ob->frozen ob->h'.get? b=some ob:=λb ob e z=>hx b ob (λc=>hz ob (c▸e) z) e;refine ⟨?_,λb ob e z=>hx b ob (ne b ob e) (p.keep b ob e z),λl x e=>jo (p.ext l x e),λb hb=>?_,⟨by simp[AH.new,p.rel.next],λk x hk=>?_,?_,λb hb=>?_⟩⟩
 ·obtain ⟨h1,t1,e1⟩:=p.same;subst e1;exact ⟨h',t,rfl⟩
 ·rcases mem_push.mp hb with hb | hb
  ·exact p.fresh b hb
  ·rw[aF] at hb;exact .inr (hb▸h0)
 ·by_cases q:k=bu.next
  ·subst q;simp only[AH.new,if_true,pU] at hk;subst hk;exact ⟨[D],by erw[p.rel.next];exact iP,H⟩
  ·simp only[AH.new,q,if_false] at hk;obtain ⟨ft,e1,e2⟩:=p.rel.objs k x hk;exact ⟨ft,jo e1,e2.mono fz (λJ J e=>jo e) λb hb ob e=>hx b ob (λc=>hD (c▸fL e1 hb)) e⟩
 ·((erw[ku];erw[lG];erw[List.flatten_nil]);rewrite[dB,eL])
  refine ⟨p.rel.apart,by simp,λa ha b hb e=>?_⟩
  rw[aF] at hb;exact hD (hb▸e▸ha)
 ·rcases mem_push.mp hb with hb | hb
  ·obtain ⟨h1,ob,h2,h3⟩:=p.rel.above b hb;exact ⟨h1,ob,hx b ob (λc=>hD (c▸hb)) h2,h3⟩
  ·refine ⟨?_,H.live b hb⟩;rw[aF] at hb
   induction q:P.h₀.get? b using bf with
   | none=>rfl
   | some ob=>have:=B b ob q;rw[hb,h0] at this;exact aU this
theorem N8{k v:av}{pos:Pos}{a b:AE}(ha:SE P S d c a k)(hb:SE P S d c b v):SE P S d c (.dict1 a b) (.Dict [some k] [v] pos):=λenv A s σ μ ρ κ Q E H h=>by
 have p0:aG P μ σ μ s {s with heap:=s.heap.push {cls:= .type "dict",data:= .dict #[]}}:=aG.push (t:=s.toks) H.rel λb o e=>cp _ e;have H0:=H.post p0;have fresh:∀{σ' μ' s'},aG P μ σ' μ' {s with heap:=s.heap.push {cls:= .type "dict",data:= .dict #[]}} s'->(∃o,s'.heap.get? s.heap.objs.size=some o/\o={cls:= .type "dict",data:= .dict #[]})/\s.heap.objs.size∉μ'.flatten:=by
  intro σ' μ' s' p;have g:(s.heap.push {cls:= .type "dict",data:= .dict #[]}).get? s.heap.objs.size=some {cls:= .type "dict",data:= .dict #[]}:=fJ _ rfl;have nm:s.heap.objs.size∉μ.flatten:=by
   intro hm;obtain ⟨J,o,ho,J⟩:=H.rel.above _ hm;rw[dJ] at ho;exact aU ho
  refine ⟨⟨_,p.keep _ _ g (.inl nm),rfl⟩,λhm=>?_⟩;rcases p.fresh _ hm with q | q
  ·exact nm q
  ·rw[g] at q;cases q
 refine wpAny_Dict_pairs (knd:=strKind P.prog P.w) (pairs:=[(bE k env,do let x <-bE v env;gQ pos;pure x)]) rfl (by simp) (by simp) ?_
 refine evalPairs_cons (cB (ha _ _ _ _ _ _ _ _ _ H0 h) λx xv az ax ah q p hx=>?_);obtain ⟨hk,q⟩:=q;refine ak (cB (hb _ _ _ _ _ _ _ _ _ (H0.post p) q) λy yv bu bF aR fB bb hy=>ak (dI (aC (evalPairs_nil ?_))));obtain ⟨kk,rfl⟩:=Du hk;have hx':=bb.vr hx;have hkey:=(ye (P:=P)).2 _ _ _ _ hx';have pp:=p.trans bb;obtain ⟨⟨o,ho,eo⟩,hD⟩:=fresh pp;subst eo;refine ⟨[(kk,yv)],⟨hkey,rfl,trivial⟩,⟨_,#[],0,ho,⟨rfl,rfl,rfl⟩,rfl,λe he=>by simp at he,.nil,je⟩,λh' hm hs=>?_⟩
 have hz:=yf ho ⟨rfl,rfl,rfl⟩ hs;have hl:kk.cps.toList.length<=aY:=by
  unfold cN at hx;cases hx with
  | str _ _ hl=>exact hl
 refine ⟨_,_,bF++[[s.heap.objs.size]],fB,aG.newAt (p0.trans pp) H.base (dJ _) hD (λob e z=>?_) hs.extBut ⟨by erw[bH];simp,_,.s,rfl,[(kk,yv)],hm,rfl,?_,λz hz' u hu=>?_⟩,.ref (by erw[bb.rel.next];exact iP)⟩
 ·rw[ho] at e;(have hH:=aO e;clear e;subst hH);rcases z.cls with z | z | z<;>simp at z
 ·exact .cons (hy.mono hz λJ J e=>jo e) .nil
 ·rw[aF] at hz';subst hz';obtain ⟨t,rfl⟩:=Value.isStrOf_shape hu;exact VR.str (h:=h') (μ:=bF++[[s.heap.objs.size]]) kk.cps.toList t hl
end
noncomputable def FC(c:Ctx)(env:Env):List aa:=if c.cm.isSome then [env.locals] else FA env
theorem N9{c:Ctx}{env:Env}:∀b∈FC c env,b∈FA env:=by
 intro b hb;unfold FC at hb
 split at hb
 ·rw[aF] at hb;erw[hb];exact .head _
 ·exact hb
inductive qF(P:PW)(c:Ctx)(env:Env)(μ:List (List aa))(s:aj)(Q:ac->ac->AH->Prop)(s':aj):Prop
 | mk (ρ' κ':ac) (σ':AH) (μ':List (List aa)) (q:Q ρ' κ' σ') (p:bg P (FC c env) μ σ' μ' s s') (h:CR c env ρ' κ' s'.heap μ')
def SA(P:PW)(S:aN)(d:Nat)(c:Ctx)(a:AT)(t:av):Prop:=
 ∀(env:Env)(A:bh)(s:aj)(σ:AH)(μ:List (List aa))(ρ κ:ac)(v:AV)(val:ab)(Q:ac->ac->AH->Prop)(E:ab->aj->Prop),bT P d c A env ρ κ σ μ s->VR s.heap μ v val->wA P S d a v ρ κ σ Q->
  aw P.M A (fT t env val) (λJ s'=>qF P c env μ s Q s') E s
def qG(P:PW)(S:aN)(d:Nat)(c:Ctx)(a:dC)(ts:List av):Prop:=
 ∀(env:Env)(A:bh)(s:aj)(σ:AH)(μ:List (List aa))(ρ κ:ac)(xs:List AV)(vals:List ab)(Q:ac->ac->AH->Prop)(E:ab->aj->Prop),bT P d c A env ρ κ σ μ s->aB s.heap μ xs vals->mR P S d a xs ρ κ σ Q->
  aw P.M A (assignInOrder (ts.map λt=>fT t env) vals) (λJ s'=>qF P c env μ s Q s') E s
section
variable{P:PW}{S:aN}{d:Nat}{c:Ctx}{A:bh}{env:Env}{E:ab->aj->Prop}{s ah aR:aj}{σ az bu:AH}{μ ax bF:List (List aa)}{ρ κ eV iB:ac}
theorem qF.trans{Q:ac->ac->AH->Prop}(p:bg P (FC c env) μ az ax s ah)(r:qF P c env ax ah Q aR):qF P c env μ s Q aR:=by
 obtain ⟨ρ',κ',σ',μ',q,p',C⟩:=r;exact ⟨ρ',κ',σ',μ',q,p.trans p',C⟩
theorem Oa(H:bT P d c A env ρ κ σ μ s)(p:bg P (FC c env) μ az ax s ah)(C:CR c env eV iB ah.heap ax):bT P d c A env eV iB az ax ah:=
 ⟨H.room,p.base H.rel H.base λb hb=>H.above b (N9 b hb),p.rel,C,H.above⟩
theorem DP{x:Str}{pos:Pos}{a:AT}(e:c.target x=some a):SA P S d c a (.Name x pos):=λenv A s σ μ ρ κ v val Q E H hv h=>by
 rcases target_kinds e with ⟨hc,i,rfl⟩ | ⟨hc,i,rfl⟩
 ·have hF:FC c env=FA env:=by unfold FC;erw[hc];rfl
  exact aQ (MF H.cr H.rel e hv) (λJ s' z9=>by obtain ⟨p,C⟩:=z9;exact ⟨_,_,σ,μ,h,by erw[hF];exact p,C⟩) λJ J e=>e
 ·have hF:FC c env=[env.locals]:=by unfold FC;(erw[if_pos hc];ac_rfl)
  exact aQ (MH H.cr H.rel e hv) (λJ s' z9=>by obtain ⟨p,C⟩:=z9;exact ⟨_,_,σ,μ,h,by erw[hF];exact p,C⟩) λJ J e=>e
set_option tactic.hygienic true in
theorem Ob(O:cg P S){o:av}{n:Str}{pos:Pos}{a:AE}(ha:SE P S d c a o)(hg:good n=true):SA P S d c (.attr a (nm n)) (.Attribute o n pos):=λenv A s σ μ ρ κ v val Q E H hv h=>by
 rewrite[arm_assign_Attribute];refine ak (cM (cB (ha _ _ _ _ _ _ _ _ _ H h) λx xv az ax ah q p hx=>ak (dI (ak (cM ?_)))));have bc:=H.post p;obtain ⟨l,cl,fs,rfl,e,hp,bl,q⟩:=q;obtain ⟨_,_,rfl,_⟩:=kH hx;rename_i b r el;exact aQ (Mu O bc.base bc.rel e el hg hp bl (p.vr hv)) (λJ aR bb=>wpAny_release ⟨ρ,κ,_,ax,q,(p.trans bb).toF,bc.cr.post bb⟩) λJ J e=>e
theorem Oc{o i:av}{pos:Pos}{a b:AE}(ha:SE P S d c a o)(hb:SE P S d c b i):SA P S d c (.sub a b) (.Subscript o i pos):=λenv A s σ μ ρ κ v val Q E H hv h=>by
 rewrite[arm_assign_Subscript];refine ak (cM (cB (ha _ _ _ _ _ _ _ _ _ H h) λx xv az ax ah q p hx=>ak (cM ?_)));refine cB (hb _ _ _ _ _ _ _ _ _ (H.post p) q) λy yv bu bF aR fB bb hy=>ak (dI (ak (cM ?_)));have co:=(H.post p).post bb;exact aQ (Na co.rel co.u2 (bb.vr hx) hy (bb.vr (p.vr hv)) fB) (λJ dc z9=>by obtain ⟨lD,lE,cb⟩:=z9;exact wpAny_release ⟨ρ,κ,lD,bF,lE,((p.trans bb).trans cb).toF,co.cr.post cb⟩) λJ J e=>e
theorem Od:qG P S d c .nil []:=λenv A s σ μ ρ κ xs vals Q E H hv h=>by
 obtain ⟨rfl,h⟩:=h;exact aC ⟨ρ,κ,σ,μ,h,(aG.refl H.rel).toF,H.cr⟩
set_option tactic.hygienic true in
theorem Oe{t:av}{ts:List av}{a:AT}{as:dC}(ha:SA P S d c a t)(hs:qG P S d c as ts):qG P S d c (.cons a as) (t::ts):=λenv A s σ μ ρ κ xs vals Q E H hv h=>by
 obtain ⟨x,r,rfl,h⟩:=h;obtain ⟨_,_,rfl,_,_⟩:=on hv;rename_i v vs h1 h2;refine (?_:aw _ _ (do eW vs (fT t env v);assignInOrder (ts.map λt=>fT t env) vs) _ _ _)
 refine ak (cM (aQ (ha _ _ _ _ _ _ _ _ _ _ _ H h1 h) (λJ ah z_6=>?_) λJ J e=>e));obtain ⟨eV,iB,az,ax,q,p,C⟩:=z_6;exact aQ (hs _ _ _ _ _ _ _ _ _ _ _ (Oa H p C) (p.vrs h2) q) (λJ aR r=>r.trans p) λJ J e=>e
theorem qH:∀{ts:List av},ts.all fh=true->qd ts env=ts.map λt=>(false,fT t env)
 | [],J1=>rfl
 | e::r,h=>by
  simp only[lF,bV] at h;have ih:=qH h.2;have:qd (e::r) env=(false,fT e env)::qd r env:=by
   induction e using lK with
   | Starred a p=>exact eh h.1
   | _=>rfl
  ((erw[this];erw[bi];erw[aD ih]);ac_rfl)
theorem Og{ts:List av}{k:Nat}{pos:Pos}{as:dC}(hs:qG P S d c as ts)(hp:ts.all fh=true)(bl:as.len=ts.length):SA P S d c (.tup as) (.Tuple ts k pos):=λenv A s σ μ ρ κ v val Q E H hv h=>by
 obtain ⟨xs,rfl,hl,h⟩:=h;obtain ⟨t,vs,n,rfl,J,ho,hvs⟩:=gZ hv;refine wpAny_assign_Tuple H.hh (items:=vs) ⟨_,ho,rfl,n,rfl⟩ ?_ ?_ λh' hx=>?_
 ·(erw[qH hp];rewrite[ay];(erw[hvs.size];erw[hl];erw[bl]);ac_rfl)
 ·(erw[qH hp];rewrite[List.findIdx?_eq_none_iff]);intro x hx;obtain ⟨e,J,rfl⟩:=aL.mp hx;rfl
 ·have p:aG P μ σ μ s {s with heap:=h'}:=aG.push (t:=s.toks) H.rel λb o e=>hx b o (λc=>iE _ (c▸fG e)) e;have bc:=H.post p;(erw[qH hp];erw[cw]);exact aQ (hs _ _ _ _ _ _ _ _ _ _ _ bc (p.vrs hvs) h) (λJ aR r=>r.trans p.toF) λJ J e=>e
end
section
variable{P:PW}{S:aN}{d:Nat}{c:Ctx}{A:bh}{env:Env}{E:ab->aj->Prop}{s ah aR:aj}{σ az bu:AH}{μ ax bF:List (List aa)}{ρ κ eV iB:ac}
theorem DQ{I:aa}{v:AV}{val:ab}{i:Nat}{Q:ab->aj->Prop}(H:dZ s.heap I v val i)(q:Q (.ref I) s):aw P.M A (pyIter (.ref I)) Q E s:=by
 induction v using AV.casesOn with
 | ref l=>obtain ⟨a,J,J,h⟩:=H;exact wpAny_pyIter_listiter h q
 | tup l=>obtain ⟨a,J,J,h⟩:=H;exact wpAny_pyIter_tupleiter h q
 | str l=>
  obtain ⟨x,t,J,h | h⟩:=H
  ·exact wpAny_pyIter_striter_ascii h q
  ·exact wpAny_pyIter_striter_wide h q
 | rng l=>exact wpAny_pyIter_rangeiter H q
 | _=>exact dn H
theorem DR{I:aa}{v:AV}{val:ab}{i:Nat}{t:av}{u:ab}{Q:Unit->aj->Prop}(H:dZ s.heap I v val i)(q:Q () s):aw P.M A (letOwnedTupleGo t (.ref I) u) Q E s:=by
 have key:∀{o:Obj}{T:String}{vs:Array ab},s.heap.get? I=some o->o.cls= .type T->o.data= .fields vs->(["enumerate","zip","dict_itemiterator","dict_reverseitemiterator","odict_iterator","itertools.zip_longest","itertools.pairwise"].contains T)=false->aw P.M A (letOwnedTupleGo t (.ref I) u) Q E s:=by
  intro o T vs ho hc hd hn;have main:∀a,aw P.M A (load I>>=λo=>match o.cls,o.data with
    | .type n,.fields vs=>if (["enumerate","zip","dict_itemiterator","dict_reverseitemiterator","odict_iterator","itertools.zip_longest","itertools.pairwise"].contains n && vs[0]? ==some (rawInt a))=true then (do rule "for.unpacks-the-owned-tuple";updateField I 0 .none) else pure ()
    | J1,J2=>pure ()) Q E s:=λa=>by
   refine ak (mF ho ?_);refine al hc (al hd ?_);dsimp only;(erw[hn];rewrite[Bool.false_and]);exact aC q
  induction t using lK with
  | Tuple _ _ _=>
   induction u using Value.casesOn with
   | ref a=>exact main a
   | _=>exact aC q
  | List _ _=>
   induction u using Value.casesOn with
   | ref a=>exact main a
   | _=>exact aC q
  | _=>exact aC q
 induction v using AV.casesOn with
 | ref l=>obtain ⟨a,J,J,o,ho,hc,hd⟩:=H;exact key ho hc hd (by decide)
 | tup l=>obtain ⟨a,J,J,o,ho,hc,hd⟩:=H;exact key ho hc hd (by decide)
 | str l=>
  obtain ⟨x,t,J,⟨o,ho,hc,hd⟩ | ⟨o,ho,hc,hd⟩⟩:=H
  ·exact key ho hc hd (by decide)
  ·exact key ho hc hd (by decide)
 | rng l=>exact key H rfl rfl (by decide)
 | _=>exact dn H
theorem Oh{D:aa}{items:Array ab}{n:Nat}{x:ab}{Q:ab->aj->Prop}(ho:s.heap.get? D=some {cls:= .type "list",data:= .seq items n})(hsz:items.size<=aY)
  (q:∀h' n',h'.get? D=some {cls:= .type "list",data:= .seq (items.push x) n'}->gN D s.heap h'->Q .none {s with heap:=h'}):aw P.M A (call (.builtin "list.append") [.ref D,x]) Q E s:=by
 refine lH PySem.F.slot_list_append ⟨_,ho,rfl⟩ PySem.F.entry_list_append (PySem.F.args_list_append_2 _ _) (AutoListH.list_append_list_val_0 D items n x hsz) ⟨ho,?_⟩;obtain hfin:∃n',(s.heap.update D (fK λy=>y.push x)).get? D=some {cls:= .type "list",data:= .seq (items.push x) n'}:=⟨_,sG _ ho rfl⟩;obtain ⟨n',hfin⟩:=hfin;exact q _ n' hfin (nX ..)
inductive DS(P:PW)(c:Ctx)(env:Env)(ρ:ac)(μ:List (List aa))(s:aj)(k:ac->AH->Prop)(s':aj):Prop
 | mk (κ':ac) (σ':AH) (μ':List (List aa)) (q:k κ' σ') (p:bg P [env.locals] μ σ' μ' s s') (h:CR c env ρ κ' s'.heap μ')
def SI(P:PW)(S:aN)(d:Nat)(c:Ctx)(a:AL)(es:List av):Prop:=
 ∀(env:Env)(A:bh)(s:aj)(σ:AH)(μ:List (List aa))(ρ κ:ac)(Q:Bool->AH->Prop)(E:ab->aj->Prop),bT P d c A env ρ κ σ μ s->iO P S d a ρ κ σ Q->
  aw P.M A (forIn es true λe r=>if r=true then do let ok <-isTrue e env (bE e env);pure (lN ok) else pure (lN r)) (jq P μ s Q) E s
theorem DT:∀(es:List av){Q:Bool->aj->Prop},Q false s->aw P.M A (forIn es false λe r=>if r=true then do let ok <-isTrue e env (bE e env);pure (lN ok) else pure (lN r)) Q E s
 | [],J1,q=>aC q
 | e::r,J1,q=>by
  rewrite[Cy];exact ak (by simp only[jK,if_false];exact aC (DT r q))
theorem Oi:SI P S d c .nil []:=λenv A s σ μ ρ κ Q E H h=>aC ⟨σ,μ,h,aG.refl H.rel⟩
theorem Oj{e:av}{es:List av}{a:AE}{as:AL}(ha:ST P S d c a e)(hs:SI P S d c as es):SI P S d c (.cons a as) (e::es):=λenv A s σ μ ρ κ Q E H h=>by
 rewrite[Cy];refine ak ?_;simp only[if_true];refine ak (aQ (ha _ _ _ _ _ _ _ _ _ H h) (λb ah ⟨az,ax,q,p⟩=>aC ?_) λJ J e=>e)
 induction b using bC
 ·exact DT es ⟨az,ax,q,p⟩
 ·exact aQ (hs _ _ _ _ _ _ _ _ _ (H.post p) q) (λJ J r=>r.trans p) λJ J e=>e
noncomputable def gp(e elt:av)(gens:List bS)(k:Nat)(acc:ab)(env:Env):Sem Unit:=
 match gens[k+1]? with
 | some g'=>do
  let x <-bE g'.iter env
  gQ g'.iter.pos
  let x <-if g'.is_async !=0 then foldedIterable g'.iter x else kB g'.iter env x
  let _ <-runOwn (.compStart e (k+1) (<-eW [x] (if g'.is_async !=0 then asyncIter x else pyIter x)) acc env) env
 | none=>do let _ <-call (.builtin "list.append") [acc,<-bE elt env]
theorem DU{elt:av}{gens:List bS}{scope:dj}{pos:Pos}{k:Nat}{it acc:ab}{g:bS}(hk:gens[k]? =some g)(ha:g.is_async=0):
  compTurn (.ListComp elt gens scope pos) k it acc env=(gQ g.iter.pos>>=λJ=>pyNext it>>=λr=>match r with
   | none=>pure (.done .next)
   | some v=>letOwnedTupleGo g.target it v>>=λJ=>fT g.target env v>>=λJ=>
    (forIn g.ifs true λe r=>if r=true then do let ok <-isTrue e env (bE e env);pure (lN ok) else pure (lN r))>>=λok=>
     if ok=true then gp (.ListComp elt gens scope pos) elt gens k acc env>>=λJ=>again (.compLoop (.ListComp elt gens scope pos) k it acc env)
     else again (.compLoop (.ListComp elt gens scope pos) k it acc env)):=by
 unfold compTurn gp;dsimp only;refine al hk ?_;dsimp only;refine al ha ?_;simp only[bne_self_eq_false,jK,if_false];congr 1;funext _;congr 1;funext r
 induction r using bf with
 | none=>rfl
 | some v=>
  dsimp only;congr 1;funext _;congr 1;funext _;congr 1;funext ok
  induction ok using bC
  ·rfl
  ·simp only[if_true];cases gens[k+1]? with
   | none=>rfl
   | some g'=>
    dsimp only;by_cases h:(g'.is_async !=0)=true
    ·simp only[h,if_true,bind_assoc,pure_bind]
    ·simp only[h,if_false,bind_assoc,pure_bind,jK]
theorem ym{F:List aa}{I:aa}{v:AV}{val:ab}{i:Nat}(p:bg P F μ az ax s ah)(hI:I∉μ.flatten)(hF:I∉F)(H:dZ s.heap I v val i):I∉ax.flatten/\dZ ah.heap I v val i:=by
 (refine aI λkK=>?_;obtain ⟨o,ho,J⟩:=H.cold;refine kK ?_;clear kK);refine ⟨λhm=>?_,H.keeps λo' ho'=>p.keep I o' ho' (.inl ⟨hI,hF⟩)⟩;rcases p.fresh I hm with q | q
 ·exact hI q
 ·rw[ho] at q;cases q
structure Loop(P:PW)(d:Nat)(c:Ctx)(A:bh)(env:Env)(F:List aa)(sb:aj)(μb:List (List aa))(I:aa)(v:AV)(val:ab)(N:Nat)(i:Nat)(ρ κ:ac)(σ:AH)(μ:List (List aa))(s:aj):Prop where
 pre:bT P d c A env ρ κ σ μ s
 post:bg P F μb σ μ sb s
 it:dZ s.heap I v val i
 out:I∉μ.flatten
 vr:VR s.heap μ v val
 le:i<=N
theorem Loop.step{F:List aa}{sb:aj}{μb:List (List aa)}{I:aa}{v:AV}{val:ab}{N:Nat}{i:Nat}(L:Loop P d c A env F sb μb I v val N i ρ κ σ μ s)(p:bg P F μ az ax s ah)(C:CR c env eV iB ah.heap ax)(hF:I∉F)(hA:∀b∈F,b∈FA env):
  Loop P d c A env F sb μb I v val N i eV iB az ax ah:=by
 obtain ⟨h1,h2⟩:=ym p L.out hF L.it;exact ⟨⟨L.pre.room,p.base L.pre.rel L.pre.base λb hb=>L.pre.above b (hA b hb),p.rel,C,L.pre.above⟩,L.post.trans p,h2,h1,p.vr L.vr,L.le⟩
theorem Loop.next{F:List aa}{sb:aj}{μb:List (List aa)}{I:aa}{v:AV}{val:ab}{xs:List AV}{N:Nat}{i:Nat}(L:Loop P d c A env F sb μb I v val N i ρ κ σ μ s)(hi:bz v σ=some xs)(hN:xs.length=N)(h0:sb.heap.get? I=none)(hB:P.Base sb.heap)(hA:I∉FA env)
  {K:Option ab->aj->Prop} (h1:∀x u ah,xs[i]? =some x->Loop P d c A env F sb μb I v val N (i+1) ρ κ σ μ ah->VR ah.heap μ x u->(∀{a:AV}{w},VR s.heap μ a w->VR ah.heap μ a w)->K (some u) ah)
  (h2:∀ah,xs[i]? =none->bg P F μb σ μ sb ah->CR c env ρ κ ah.heap μ->K none ah):aw P.M A (pyNext (.ref I)) K E s:=by
 refine aQ (yj L.pre.rel L.pre.hh L.out L.it L.vr hi (hN▸L.le)) (λr ah h=>?_) λJ J e=>e
 induction hx:xs[i]? using bf with
 | some x=>
  rw[hx] at h;obtain ⟨u,rfl,p,hu,hit⟩:=h;have hI0:P.h₀.get? I=none:=by
   induction q:P.h₀.get? I using bf with
   | none=>rfl
   | some o=>have:=hB I o q;rw[h0] at this;exact aU this
  have bD:=(bP.mp hx).1;refine h1 x u ah hx ⟨⟨L.pre.room,p.base L.pre.rel L.pre.base λb hb=>?_,p.rel,L.pre.cr.postF p λb hb h=>?_,L.pre.above⟩,L.post.drop p λx hx=>?_,hit,L.out,p.vr L.vr,hN▸bD⟩ hu λh=>p.vr h
  ·rw[aF] at hb;refine al hb ?_;exact hI0
  ·rw[aF] at hb;exact hA (hb▸h)
  ·rw[aF] at hx;exact .inr (hx▸h0)
 | none=>
  rw[hx] at h;obtain ⟨rfl,h',rfl,hext⟩:=h;obtain ⟨o,ho,hz⟩:=L.it.cold;have hz':∀ob,s.heap.get? I=some ob->¬frozen ob:=λob e=>by rw[ho] at e;obtain rfl:=aO e;exact hz
  refine h2 _ hx (L.post.ends (t:=s.toks) h0 L.out hz' hext) (L.pre.cr.keeps (λb hb ob e=>hext b ob (λq=>hA (q▸hb)) e) (λb ob e z=>hext b ob (λq=>hz' ob (q▸e) z) e) (λJ J e=>e) λb hb=>(L.pre.cr.own b hb).1)
def jQ(P:PW)(d:Nat)(c:Ctx)(ρ:ac)(bO:Nat)(inner:ac->AH->(ac->AH->Prop)->Prop)(m:Env->ab->Sem Unit):Prop:=
 ∀(env:Env)(A:bh)(s:aj)(σ:AH)(μ:List (List aa))(κ:ac)(k:ac->AH->Prop)(E:ab->aj->Prop)(acc:ab),bT P d c A env ρ κ σ μ s->VR s.heap μ (.ref bO) acc->inner κ σ k->
  aw P.M A (m env acc) (λJ s'=>DS P c env ρ μ s k s') E s
theorem DW(hc:c.cm.isSome=true):FC c env=[env.locals]:=by unfold FC;(erw[if_pos hc];ac_rfl)
theorem DX(hc:c.cm.isSome=true){elt:av}{gens:List bS}{scope:dj}{pos:Pos}{k:Nat}{g:bS}(hk:gens[k]? =some g)(ha:g.is_async=0){t:AT}{ifs:AL}{inner:ac->AH->(ac->AH->Prop)->Prop}{bO:Nat}
  (st:SA P S d c t g.target) (si:SI P S d c ifs g.ifs) (sin:jQ P d c ρ bO inner λenv acc=>gp (.ListComp elt gens scope pos) elt gens k acc env) {Q:ac->AH->Prop} {R:Result->aj->Prop} {sb:aj} {μb:List (List aa)} {I:aa} {v:AV} {val acc:ab} {N:Nat}
  (h0:sb.heap.get? I=none) (hB:P.Base sb.heap) (hA:I∉FA env) (hR:∀s' κ' σ' μ',Q κ' σ'->bg P [env.locals] μb σ' μ' sb s'->CR c env ρ κ' s'.heap μ'->VR s'.heap μ' (.ref bO) acc->R (.ok .next) s')
  {i:Nat} (L:Loop P d c A env [env.locals] sb μb I v val N i ρ κ σ μ s) (hacc:VR s.heap μ (.ref bO) acc)
  (hw:gY v N (λx cS ao k=>wA P S d t x ρ cS ao λb9 bo aA=>b9=ρ/\iO P S d ifs ρ bo aA λb aW=>match b with | true=>inner bo aW k | false=>k bo aW) (N - i) κ σ Q):
  kq P.M A (.compLoop (.ListComp elt gens scope pos) k (.ref I) acc env) R s:=by
 have hsub:∀b∈[env.locals],b∈FA env:=λb hb=>aF.mp hb▸List.Mem.head _;have hIl:I∉[env.locals]:=λh=>hA (hsub _ h);generalize eB:(λx cS ao k=>wA P S d t x ρ cS ao λb9 bo aA=>b9=ρ/\iO P S d ifs ρ bo aA λb aW=>match b with | true=>inner bo aW k | false=>k bo aW)=B at hw
 refine codeAny_loop rfl (λn s=>∀z:Prop,(∀i κ σ μ,n=N - i->Loop P d c A env [env.locals] sb μb I v val N i ρ κ σ μ s->VR s.heap μ (.ref bO) acc->gY v N B n κ σ Q->z)->z) (λn s hI=>hI _ λi κ σ μ en L hacc hw=>?_) (N - i) λz q=>q i κ σ μ rfl L hacc hw;subst en;refine (?_:aw _ _ ((compTurn (.ListComp elt gens scope pos) k (.ref I) acc env).onRaise (λx=>do qe x env;xq x)) _ _ s)
 refine wpAny_noted (xX λK hK=>?_);obtain ⟨xs,hi,hN,hs,he⟩:=Ml hw L.le;clear hw hI;refine al (DU hk ha) ?_;refine ak (dI (ak (L.next hi hN h0 hB hA (λx u ah hx jG hu hvr=>?_) λah hx p C=>aC (hK _ _ (hR _ _ _ _ (he hx) p C ?_)))))
 ·have hw:=hs x hx;rw[<-eB] at hw;have bD:=(bP.mp hx).1;have dec:N - (i+1)<N - i:=Nat.sub_lt_sub_left (hN▸bD) (jh i);refine ak (DR jG.it (ak (aQ (st _ _ _ _ _ _ _ _ _ _ _ jG.pre hu hw) (λJ aR z=>?_) λJ J e=>e)));obtain ⟨LF,xj,bu,bF,⟨e,hq⟩,p,C⟩:=z;subst e;rw[DW hc] at p;have kh:=jG.step p C hIl hsub;refine ak (aQ (si _ _ _ _ _ _ _ _ _ kh.pre hq) (λok dc z=>?_) λJ J e=>e);obtain ⟨lD,mD,LG,cb⟩:=z;have kj:=kh.step cb.toF (kh.pre.cr.post cb) hIl hsub;have Ca:=cb.vr (p.vr (hvr hacc))
  induction ok using bC with
  | false=>exact aC (hK _ _ ⟨rfl,_,dec,λz q=>q (i+1) xj lD mD rfl kj Ca (eB▸LG)⟩)
  | true=>
   erw[if_pos rfl];refine ak (aQ (sin _ _ _ _ _ _ _ _ _ kj.pre Ca LG) (λJ eJ z=>?_) λJ J e=>e);obtain ⟨Xe,LC,LD,Xf,eK,Xg⟩:=z;exact aC (hK _ _ ⟨rfl,_,dec,λz q=>q (i+1) Xe LC LD rfl (kj.step eK Xg hIl hsub) (eK.vr Ca) (eB▸Xf)⟩)
 ·obtain ⟨a,r,rfl,e⟩:=kH hacc;exact .ref e
theorem Ol{elt:av}{gens:List bS}{e:av}{k:Nat}(hk:gens[k+1]? =none){a:AE}{bO:Nat}(ha:SE P S d c a elt):
  jQ P d c ρ bO (λκ σ Q=>wE P S d a ρ κ σ λv ae=>∃xs,ae.m bO=some (.lst xs)/\xs.length<aY/\Q κ (ae.set bO (.lst (xs++[v])))) λenv acc=>gp e elt gens k acc env:=λenv A s σ μ κ Q E acc H hacc h=>by
 unfold gp;refine al hk ?_;refine (?_:aw _ _ (bE elt env>>=λx=>call (.builtin "list.append") [acc,x]>>=λJ=>pure ()) _ _ _);refine ak (cB (ha _ _ _ _ _ _ _ _ _ H h) λv val az ax ah z_0 p hv=>?_);(refine aI λkK=>?_;obtain ⟨xs,e1,hl,q⟩:=z_0;refine kK ?_;clear kK);(refine aI λkK=>?_;obtain ⟨D,vs,n,rfl,el,hl',ho,hvs⟩:=dl p.rel e1 (p.vr hacc);refine kK ?_;clear kK);refine ak (Oh ho (by erw[hvs.size];exact hl') λh' n' ho' hs=>aC ?_)
 obtain bb:aG P ax (az.set bO (.lst (xs++[v]))) ax ah {ah with heap:=h'}:=te (t:=ah.toks) p.rel e1 el ho ho' hs (by refine al bR (al qf ?_);(with_reducible exact xr ‹_›)) (by refine al Array.toList_push ?_;exact hvs.append (.cons hv .nil))
 exact ⟨κ,_,ax,q,(p.trans bb).toF,(H.cr.post p).post bb⟩
theorem yn{elt:av}{gens:List bS}{scope:dj}{pos:Pos}{k:Nat}{g:bS}{it acc:ab}{R:Result->aj->Prop}(hk:gens[k]? =some g)(ha:g.is_async=0)
  (h0:kq P.M A (.compLoop (.ListComp elt gens scope pos) k it acc env) R s)
  (h:aw P.M A (pyIter it) (λit' s'=>kq P.M A (.compLoop (.ListComp elt gens scope pos) k it' acc env) R s') (notedBy P.M A env λx s'=>R (.error x) s') s):
  kq P.M A (.compStart (.ListComp elt gens scope pos) k it acc env) R s:=by
 refine xt ?_;refine (?_:aw _ _ ((compStart (.ListComp elt gens scope pos) k it acc env).onRaise (λx=>do qe x env;gQ theWindowsPlace)) _ _ s)
 refine wpAny_notedAt ?_;unfold compStart;obtain hcl:clausesOf (.ListComp elt gens scope pos)=gens:=rfl;refine al hcl (al hk ?_);erw[if_neg (show ¬(((some g).elim false λx=>x.is_async !=0)=true) by simp[ha])]
 refine ak (wpAny_askSetting (wpAny_ite ?_))
 split
 ·first
   | exact ak (aC (aC (And.intro rfl h0)))
   | exact aC (And.intro rfl h0)
 ·first
   | exact ak (sO (ak (dI (ak (aQ h (λit' s' h'=>aC (And.intro rfl h')) λJ J x=>x)))))
   | exact ak (sO (ak (ak (dI (ak (aQ h (λit' s' h'=>aC (And.intro rfl h')) λJ J x=>x))))))
end
section
variable{P:PW}{S:aN}{d:Nat}{c:Ctx}{A:bh}{env:Env}{E:ab->aj->Prop}{s ah aR:aj}{σ az bu:AH}{μ ax bF:List (List aa)}{ρ κ eV iB:ac}
theorem jR(R:SR P.prog P.w P.h₀ σ μ s.heap){b:aa}(h:s.heap.get? b=none):b∉μ.flatten:=by
 intro hm;obtain ⟨J,o,ho,J⟩:=R.above b hm;rw[h] at ho;exact aU ho
theorem mU(C:CR c env ρ κ s.heap μ){b:aa}(h:s.heap.get? b=none):b∉FA env:=by
 intro hm;obtain ⟨J,o,ho,J⟩:=C.own b hm;rw[h] at ho;exact aU ho
theorem Om(hc:c.cm.isSome=true){elt:av}{gens:List bS}{scope:dj}{pos:Pos}{k:Nat}{g:bS}(hk:gens[k+1]? =some g)(hg:g.is_async=0){a:AE}{t:AT}{ifs:AL}{inner:ac->AH->(ac->AH->Prop)->Prop}{bO:Nat}
  (ha:SE P S d c a g.iter) (hset:∀env x,kB g.iter env x=pure x) (st:SA P S d c t g.target) (si:SI P S d c ifs g.ifs) (sin:jQ P d c ρ bO inner λenv acc=>gp (.ListComp elt gens scope pos) elt gens (k+1) acc env):
  jQ P d c ρ bO (λκ σ Q=>wE P S d a ρ κ σ λv ae=>∃xs,bz v ae=some xs/\
   gY v xs.length (λx cS ao k=>wA P S d t x ρ cS ao λb9 bo aA=>b9=ρ/\iO P S d ifs ρ bo aA λb aW=>match b with | true=>inner bo aW k | false=>k bo aW) xs.length κ ae Q) λenv acc=>gp (.ListComp elt gens scope pos) elt gens k acc env:=λenv A s σ μ κ Q E acc H hacc h=>by
 unfold gp;refine al hk ?_;have hb:(g.is_async !=0)=false:=by refine al hg ?_;rfl
 simp only[hb,jK,if_false];refine ak (cB (ha _ _ _ _ _ _ _ _ _ H h) λv val az ax ah ⟨xs,hi,hw⟩ p hv=>ak (dI (ak (wpAny_of_eq (hset _ _) (ak (cM ?_))))));have bc:=H.post p;refine aQ (th bc.rel hv hi) (λit aR z_1=>?_) λJ J e=>e;(refine aI λkK=>?_;obtain ⟨I,e,h0,bb,hit⟩:=z_1;refine kK ?_;clear kK);subst e;obtain co:=bc.post bb;have hIf:=mU bc.cr h0;obtain hIm:=jR bc.rel h0;refine ak (wpAny_runOwn ?_);have loop:=λ(R:Result->aj->Prop)(hR:∀s' κ' σ' μ',Q κ' σ'->bg P [env.locals] ax σ' μ' ah s'->CR c env ρ κ' s'.heap μ'->VR s'.heap μ' (.ref bO) acc->R (.ok .next) s')=>
  DX (d:=d) (A:=A) (pos:=pos) (scope:=scope) (elt:=elt) hc hk hg st si sin h0 bc.base hIf hR (i:=0) ⟨co,bb.toF,hit,hIm,bb.vr hv,du _⟩ (bb.vr (p.vr hacc)) hw
 obtain key:=loop (λr s'=>match r with | .ok f=>aw P.M A (pure PUnit.unit) (λJ s'=>DS P c env ρ μ s Q s') E s' | .error e=>cameBackBy P.M A env E e s') λs' κ' σ' μ' hq pf C J=>aC ⟨κ',σ',μ',hq,p.toF.trans pf,C⟩
 exact yn hk hg key (DQ hit key)
theorem lV{x:Str}{k:cv}:∀{l:List (Str × cv)}{n i:Nat},bM x l n=some (i,k)->(x,k)∈l
 | [],J1,J2,e=>by exact aU e
 | (y,q)::r,n,i,e=>by
  rewrite[qp] at e
  split at e
  ·rename_i h;cases e;refine al (aD h) ?_;exact .head _
  ·exact .tail _ (lV e)
theorem mV{fn:List (Str × cv)}{scope:dj}(h:fX fn scope=true){x:Str}{k:cv}(hm:(x,k)∈scope.names):(k= .local\/k= .free\/k= .globalImplicit)/\scope.names.lookup x=some k:=by
 unfold fX at h;rw[bV] at h;have:=jI.mp h.2 (x,k) hm
 induction k using Cj with
 | «local» =>exact ⟨.inl rfl,eq_of_beq (this:(scope.names.lookup x==some .local)=true)⟩
 | free=>exact ⟨.inr (.inl rfl),eq_of_beq ((bV _ _).mp (this:(scope.names.lookup x==some .free && (bM x fn 0).any λp=>p.2== .cell)=true)).1⟩
 | globalImplicit=>exact ⟨.inr (.inr rfl),eq_of_beq (this:(scope.names.lookup x==some .globalImplicit)=true)⟩
 | _=>exact eh this
theorem yo{fn:List (Str × cv)}{scope:dj}(h:fX fn scope=true){x:Str}(hm:(x,fg)∈scope.names):∃i,bM x fn 0=some (i,.cell):=by
 unfold fX at h;rw[bV] at h;have:=jI.mp h.2 (x,.free) hm;simp only[bV] at this
 induction q:bM x fn 0 using bf with
 | none=>rw[q] at this;simp at this
 | some p=>
  obtain ⟨i,k⟩:=p;rw[q] at this;have e:k= .cell:=by simpa using this.2
  exact ⟨i,by (erw[e];ac_rfl)⟩
theorem qI{fn:List (Str × cv)}{scope:dj}(h:fX fn scope=true):scope.kind= .function:=by
 unfold fX at h;rw[bV] at h
 simpa using h.1
noncomputable def cellsFor(env:Env):List (Str × cv)->List (Str × aa)->List (Str × aa)
 | [],cs=>cs
 | (x,k)::r,cs=>cellsFor env r (if k== .free then (match env.cells.lookup x with | some a=>(x,a)::cs | none=>cs) else cs)
theorem DY{env:Env}{x:Str}{k:cv}{r:List (Str × cv)}{cs:List (Str × aa)}:cellsFor env ((x,k)::r) cs=cellsFor env r (if k== .free then (match env.cells.lookup x with | some a=>(x,a)::cs | none=>cs) else cs):=rfl
theorem DZ{scope:dj}(h:∀x,(x,fg)∈scope.names->∃a,env.cells.lookup x=some a):closureFor scope env=pure (cellsFor env scope.names []):=by
 unfold closureFor;obtain key:∀(l:List (Str × cv))(cs:List (Str × aa)),(∀x,(x,fg)∈l->∃a,env.cells.lookup x=some a)->
   (forIn l cs (λ(p:Str × cv)(r:List (Str × aa))=>if (p.2==fg)=true then do let a <-cellOf env p.1;pure (lN ((p.1,a)::r)) else pure (lN r)):Sem (List (Str × aa)))=pure (cellsFor env l cs):=by
  intro l
  induction l with
  | nil=>intro cs J;rfl
  | cons p r ih=>
   intro cs hl;obtain ⟨x,k⟩:=p;rewrite[Cy];erw[DY];by_cases hk:k= .free
   ·subst hk;obtain ⟨a,ea⟩:=hl x (.head _);simp only[beq_self_eq_true,if_true,ea];have:cellOf env x=pure a:=by unfold cellOf;(erw[ea];ac_rfl)
    refine al this ?_;simp only[pure_bind];exact ih _ λy hy=>hl y (.tail _ hy)
   ·have:(k==fg)=false:=by simpa using hk
    simp only[this,jK,if_false,pure_bind];exact ih _ λy hy=>hl y (.tail _ hy)
 have:=key scope.names [] h;erw[aD this];simp only[bind_pure]
theorem lW:∀(l:List (Str × cv))(cs:List (Str × aa)),(∀x a,cs.lookup x=some a->env.cells.lookup x=some a)->(∀x a,(cellsFor env l cs).lookup x=some a->env.cells.lookup x=some a)/\
  (∀p∈cellsFor env l cs,p∈cs\/env.cells.lookup p.1=some p.2)/\(∀x a,cs.lookup x=some a->(cellsFor env l cs).lookup x=some a)/\∀x,(x,fg)∈l->(∃a,env.cells.lookup x=some a)->(cellsFor env l cs).lookup x=env.cells.lookup x
 | [],cs,h=>⟨h,λp hp=> .inl hp,λJ J e=>e,λx hx=>by simp at hx⟩
 | (y,k)::r,cs,h=>by
  erw[DY];by_cases hk:k= .free
  ·subst hk;simp only[beq_self_eq_true,if_true]
   induction ey:env.cells.lookup y using bf with
   | none=>
    (refine aI λkK=>?_;obtain ⟨a,b,c',d⟩:=lW r cs h;refine kK ?_;clear kK);refine ⟨a,b,c',λx hx z_2=>?_⟩;obtain ⟨z,hz⟩:=z_2;rcases aV.mp hx with e | hx
    ·cases e;rw[ey] at hz;exact nomatch hz
    ·exact d x hx ⟨z,hz⟩
   | some z=>
    have h':∀x a,((y,z)::cs).lookup x=some a->env.cells.lookup x=some a:=by
     intro x a e;rw[eO] at e
     split at e
     ·rename_i q;obtain rfl:=aO e;refine al (eq_of_beq q) ?_;exact ey
     ·exact h x a e
    (refine aI λkK=>?_;obtain ⟨a,b,c',d⟩:=lW r ((y,z)::cs) h';refine kK ?_;clear kK);refine ⟨a,λp hp=>?_,λx w e=>?_,λx hx hz=>?_⟩
    ·rcases b p hp with q | q
     ·rcases aV.mp q with q | q
      ·right;refine al q ?_;exact ey
      ·exact .inl q
     ·exact .inr q
    ·by_cases q:x=y
     ·subst q;have e1:=h x w e;rw[ey] at e1;obtain rfl:=aO e1;exact c' x z (by (erw[eO];rw[beq_self_eq_true]))
     ·exact c' x w (by refine al eO (al (beq_eq_false_iff_ne.mpr q) ?_);exact e)
    ·rcases aV.mp hx with e | hx
     ·obtain e1:x=y:=by cases e;rfl
      refine al e1 (al ey ?_);exact c' y z (by (erw[eO];rw[beq_self_eq_true]))
     ·exact d x hx hz
  ·have hk':(k==fg)=false:=by simpa using hk
   simp only[hk',jK,if_false];(refine aI λkK=>?_;obtain ⟨a,b,c',d⟩:=lW r cs h;refine kK ?_;clear kK);refine ⟨a,b,c',λx hx hz=>?_⟩;rcases aV.mp hx with e | hx
   ·cases e;exact absurd rfl hk
   ·exact d x hx hz
theorem D1{env:Env}:∀{names:List (Str × cv)}{x:Str}{k:cv},names.lookup x=some k->
  (names.map λ(n,k)=>if (k==fg && env.scope.kind== .function && env.kindOf n==some .cell) then (n,mG) else (n,k)).lookup x=some (if (k==fg && env.scope.kind== .function && env.kindOf x==some .cell) then mG else k)
 | [],J1,J2,h=>by simp at h
 | (n,q)::r,x,k,h=>by
  obtain ih:=@D1 env r x k;refine (?_:List.lookup x ((if (q==fg && env.scope.kind== .function && env.kindOf n==some .cell)=true then (n,mG) else (n,q))::_)=_)
  induction hx:x==n using bC with
  | true=>
   simp only[eO,hx,pU] at h;obtain e:x=n:=eq_of_beq hx;subst e;subst h
   split<;>simp[eO]
  | false=>
   simp only[eO,hx] at h;by_cases hc:(q==fg && env.scope.kind== .function && env.kindOf n==some .cell)=true
   ·erw[if_pos hc];simp only[eO,hx];exact ih h
   ·erw[if_neg hc];simp only[eO,hx];exact ih h
theorem D2{env:Env}:∀{names:List (Str × cv)}{x:Str},names.lookup x=none->
  (names.map λ(n,k)=>if (k==fg && env.scope.kind== .function && env.kindOf n==some .cell) then (n,mG) else (n,k)).lookup x=none
 | [],J1,h=>rfl
 | (n,q)::r,x,h=>by
  have ih:=@D2 env r x;refine (?_:List.lookup x ((if (q==fg && env.scope.kind== .function && env.kindOf n==some .cell)=true then (n,mG) else (n,q))::_)=_)
  induction hx:x==n using bC with
  | true=>simp only[eO,hx] at h;exact nomatch h
  | false=>
   simp only[eO,hx] at h;by_cases hc:(q==fg && env.scope.kind== .function && env.kindOf n==some .cell)=true
   ·erw[if_pos hc];simp only[eO,hx];exact ih h
   ·erw[if_neg hc];simp only[eO,hx];exact ih h
theorem qJ{α:Type}:∀{l:List (Str × α)}{x:Str}{k:α},l.lookup x=some k->(x,k)∈l
 | [],J1,J2,e=>by exact aU e
 | (y,q)::r,x,k,e=>by
  rw[eO] at e
  split at e
  ·rename_i h;obtain rfl:=aO e;refine al (eq_of_beq h) ?_;exact .head _
  ·exact .tail _ (qJ e)
theorem D3(C:CR c env ρ κ s.heap μ)(hcm:c.cm=none){scope:dj}(ok:fX c.fn scope=true){D:aa}(hD:D∉μ.flatten)(hA:D∉FA env)(hn:∃m,s.heap.Ns D m)(n:Nat):
  CR {c with cm:=some scope.names} (fW scope (cellsFor env scope.names []) D env) ρ (cV n none) s.heap μ:=by
 (refine aI λkK=>?_;obtain ⟨h1,h2,_,h4⟩:=lW (env:=env) scope.names [] (λx a e=>by exact aU e);refine kK ?_;clear kK)
 have hcell:∀x,(x,fg)∈scope.names->env.kindOf x=some .cell:=λx hx=>by
  obtain ⟨i,e⟩:=yo ok hx;exact C.fnk hcm x i e
 obtain kind:∀x k,scope.names.lookup x=some k->(fW scope (cellsFor env scope.names []) D env).kindOf x=some (if (k==fg && env.scope.kind== .function && env.kindOf x==some .cell) then mG else k):=λx k e=>D1 e
 have kfree:∀x,(x,fg)∈scope.names->(fW scope (cellsFor env scope.names []) D env).kindOf x=some .cell:=λx hx=>by
  refine al (kind x .free (mV ok hx).2) (al (hcell x hx) (al C.kind ?_));rfl
 have kother:∀x k,(x,k)∈scope.names->k≠.free->(fW scope (cellsFor env scope.names []) D env).kindOf x=some k:=λx k hx hk=>by
  erw[kind x k (mV ok hx).2];have:(k==fg)=false:=by simpa using hk
  simp[this]
 have fa:∀b∈FA (fW scope (cellsFor env scope.names []) D env),b=D\/b∈FA env:=by
  intro b hb;rcases aV.mp hb with hb | hb
  ·exact .inl hb
  ·obtain ⟨p,hp,rfl⟩:=aL.mp hb;rcases h2 p hp with q | q
   ·exact absurd q am
   ·exact .inr (kM q)
 have nmc:∀{x:Str}{a:AE},Ctx.name {c with cm:=some scope.names} x=some a->(∃i,bM x scope.names 0=some (i,.local)/\a= .cl i)\/(∃i j,bM x scope.names 0=some (i,.free)/\bM x c.fn 0=some (j,.cell)/\a= .loc j)\/(∃i,bM x scope.names 0=some (i,.globalImplicit)/\good x=true/\a= .glob (nm x)):=by
  intro x a e;rcases nm_kindsC e with ⟨i,q,e⟩ | ⟨i,j,q,q',e⟩ | ⟨i,q,h,e⟩
  ·exact .inl ⟨i,q,e.symm⟩
  ·exact .inr (.inl ⟨i,j,q,q',e.symm⟩)
  ·exact .inr (.inr ⟨i,q,h,e.symm⟩)
 obtain outer:∀{x:Str}{j:Nat},bM x c.fn 0=some (j,.cell)->c.name x=some (.loc j):=by
  intro x j e;unfold Ctx.name;refine al hcm ?_;dsimp only;(erw[e];ac_rfl)
 exact {
  kind:=show scope.kind= .function from qI ok
  globals:=C.globals
  builtins:=C.builtins
  own:=λb hb=>by
   rcases fa b hb with rfl | hb
   ·(refine aI λkK=>?_;obtain ⟨m,o,es,ep,ho,hd,J⟩:=hn;refine kK ?_;clear kK);exact ⟨hD,o,ho,qr hd⟩
   ·exact C.own b hb
  ns:=hn
  cells:=λx hk=>by
   have:(x,fg)∈scope.names:=by
    induction q:scope.names.lookup x using bf with
    | none=>
     have:(fW scope (cellsFor env scope.names []) D env).kindOf x=none:=D2 q;rw[this] at hk;exact aU hk
    | some k=>
     obtain hm:=qJ q;rcases (mV ok hm).1 with rfl | rfl | rfl
     ·rw[kother x _ hm (by decide)] at hk;exact Ck (aO hk)
     ·exact hm
     ·rw[kother x _ hm (by decide)] at hk;exact nomatch hk
   (refine aI λkK=>?_;obtain ⟨a,v,e1,e2⟩:=C.cells x (hcell x this);refine kK ?_;clear kK);exact ⟨a,v,by refine (?_:(cellsFor env scope.names []).lookup x=_);refine al (h4 x this ⟨a,e1⟩) ?_;exact e1,e2⟩
  apart:=λx y a e1 e2=>C.apart x y a (h1 x a e1) (h1 y a e2)
  lc:=λx a e=>λq=>hA (by have:=kM (h1 x a e);rw[q] at this;exact this)
  kl:=λx i e=>by
   rcases e with e | e
   ·rcases nmc e with ⟨J,J,q⟩ | ⟨i',j,q,J,J⟩ | ⟨J,J,J,q⟩
    ·exact (AE.noConfusion q)
    ·exact .inr (kfree x (lV q))
    ·exact (AE.noConfusion q)
   ·rcases nmc e with ⟨i',q,J⟩ | ⟨J,J,J,J,q⟩ | ⟨J,J,J,q⟩
    ·exact .inl (kother x _ (lV q) (by decide))
    ·exact (AE.noConfusion q)
    ·exact (AE.noConfusion q)
  loc:=λx i e v hv=>by
   rcases nmc e with ⟨J,J,q⟩ | ⟨i',j,q,q',e'⟩ | ⟨J,J,J,q⟩
   ·exact (AE.noConfusion q)
   ·cases e';obtain ⟨val,hi,hr⟩:=C.loc x i (outer q') v hv;refine ⟨val,.inr ⟨kfree x (lV q),?_⟩,hr⟩;rcases hi with ⟨k,J⟩ | ⟨J,a,ea,hc⟩
    ·rw[hcell x (lV q)] at k;exact nomatch k
    ·exact ⟨a,by refine (?_:(cellsFor env scope.names []).lookup x=_);refine al (h4 x (lV q) ⟨a,ea⟩) ?_;exact ea,hc⟩
   ·exact (AE.noConfusion q)
  cl:=λx i e v hv=>by
   rw[Cz] at hv
   split at hv<;>exact nomatch hv
  gl:=λx g e=>by
   rcases nmc e with ⟨J,J,q⟩ | ⟨J,J,J,J,q⟩ | ⟨i',q,hg,e'⟩
   ·exact (AE.noConfusion q)
   ·exact (AE.noConfusion q)
   ·cases e';exact ⟨kother x _ (lV q) (by decide),hg,rfl⟩
  cloc:=λx i e=>by
   rcases nmc e with ⟨i',q,J⟩ | ⟨J,J,J,J,q⟩ | ⟨J,J,J,q⟩
   ·exact kother x _ (lV q) (by decide)
   ·exact (AE.noConfusion q)
   ·exact (AE.noConfusion q)
  fnk:=λh=>by cases h}
abbrev mW(P:PW)(S:aN)(d:Nat)(a:AE)(ρ:ac):ac->AH->Nat->(ac->AH->Prop)->Prop:=
 λκ' σ' acc k=>wE P S d a ρ κ' σ' λv ae=>∃xs,ae.m acc=some (.lst xs)/\xs.length<aY/\k κ' (ae.set acc (.lst (xs++[v])))
theorem Oo(hcm:c.cm=none){elt:av}{g:bS}{gs:List bS}{scope:dj}{pos:Pos}(hg:g.is_async=0){a ai:AE}{t:AT}{ifs:AL}{ag:AG}{n:Nat}(ok:fX c.fn scope=true)
  (hi:SE P S d c ai g.iter) (hset:∀env x,kB g.iter env x=pure x)
  (st:SA P S d {c with cm:=some scope.names} t g.target) (si:SI P S d {c with cm:=some scope.names} ifs g.ifs)
  (sin:∀ρ bO,jQ P d {c with cm:=some scope.names} ρ bO (λκ σ k=>wG P S d ag (mW P S d a ρ) ρ bO κ σ k) λenv acc=>gp (.ListComp elt (g::gs) scope pos) elt (g::gs) 0 acc env)
  {Q:AV->AH->Prop} (H:bT P d c A env ρ κ σ μ s) (hw:xU P S d (.cons t ai ifs ag) (mW P S d a ρ) n ρ κ σ Q) {use:Option (ab->Sem Unit)} {K:ab->aj->Prop}
  (hK:∀(D C:aa)(ah:aj)(v:AV)(σ':AH)(μ':List (List aa)),s.heap.get? C=none->C∉μ'.flatten->(∃m,ah.heap.Ns C m)->Q v σ'->aG P μ σ' μ' s ah->VR ah.heap μ' v (.ref D)->compPost P.M A E use K (.ref D) C (.ok .next) ah):
  aw P.M A (sP (.ListComp elt (g::gs) scope pos) scope env (sQ (g::gs) pos) (newList []) false (bE g.iter env) use) K E s:=by
 obtain hcl:closureFor scope env=pure (cellsFor env scope.names []):=DZ λx hx=>by
  obtain ⟨i,e⟩:=yo ok hx;obtain ⟨b,v,e1,J⟩:=H.cr.cells x (H.cr.fnk hcm x i e);exact ⟨b,e1⟩
 refine wpAny_comprehension_free (use:=use) rfl (hset env) hcl (qI ok) (λx hx hl=>by
  obtain ⟨x,k⟩:=x;dsimp only at hl;subst hl;exact (mV ok hx).2) ?_
 refine cB (hi _ _ _ _ _ _ _ _ _ H hw) λv val az ax ah z_3 p hv=>?_;(refine aI λkK=>?_;obtain ⟨xs,hit,hw⟩:=z_3;refine kK ?_;clear kK);have bc:=H.post p;refine aQ (th bc.rel hv hit) (λit aR z_4=>?_) λJ J e=>e;(refine aI λkK=>?_;obtain ⟨I,e,h0,bb,hI⟩:=z_4;refine kK ?_;clear kK);subst e;have co:=bc.post bb;refine sR ?_;have cb:aG P ax (az.new (.lst [])) (ax++[[aR.heap.objs.size]]) aR {aR with heap:=aR.heap.push {cls:= .type "list",data:= .seq ([]:List ab).toArray}}:=by
  refine aG.new (t:=aR.toks) co.rel co.base (λb o e=>cp _ e) (λb hb=>?_) (by simp) ⟨du _,_,_,_,rfl,tc _,.nil⟩
  rw[aF] at hb;erw[hb];exact dJ _
 generalize hD:aR.heap.objs.size=D at cb ⊢;generalize hs3:({aR with heap:=aR.heap.push {cls:= .type "list",data:= .seq ([]:List ab).toArray}}:aj)=dc at cb ⊢;obtain ja:=co.post cb;obtain hD2:aR.heap.get? D=none:=by erw[aD hD];exact dJ _
 refine wpAny_newFunctionEnv (λx hx hk=>?_) (λx hx=>by simp at hx) (λh' hn hs=>?_) (qI ok)
 ·obtain ⟨x,k⟩:=x;dsimp only at hk;subst hk;rcases (mV ok hx).1 with e | e | e<;>exact (Ck e)
 ·obtain hk4:∀b o,dc.heap.get? b=some o->h'.get? b=some o:=λb o e=>(hs.2 b (λq=>iE _ (q▸fG e))).trans (cp _ e);have eK:aG P (ax++[[D]]) (az.new (.lst [])) (ax++[[D]]) dc {dc with heap:=h',toks:=dc.toks+([]:List (Str × ab)).length}:=aG.push ja.rel hk4;obtain hC3:dc.heap.get? dc.heap.objs.size=none:=dJ _;generalize hC:dc.heap.objs.size=C at hn hs hC3 ⊢;generalize hs4:({dc with heap:=h',toks:=dc.toks+([]:List (Str × ab)).length}:aj)=eJ at eK ⊢;obtain hn4:eJ.heap.Ns C (λx=>([]:List (Str × ab)).reverse.lookup x):=by refine al (aD hs4) ?_;exact hn
  obtain gI:=ja.post eK;obtain pp:=(bb.trans cb).trans eK;have back:∀{s' s'':aj}{σ' cU:AH}{μ' so:List (List aa)}{b:aa},SR P.prog P.w P.h₀ σ' μ' s'.heap->aG P μ' cU so s' s''->s''.heap.get? b=none->s'.heap.get? b=none:=by
   intro s' s'' σ' cU μ' so b R q e
   induction hq:s'.heap.get? b using bf with
   | none=>rfl
   | some o=>
    by_cases hb:b∈μ'.flatten
    ·obtain ⟨J,o',ho',J⟩:=q.rel.above b (qw q.ext hb);rw[e] at ho';exact aU ho'
    ·have:=q.keep b o hq (.inl hb);rw[e] at this;exact aU this
  have hC1:ah.heap.get? C=none:=back bc.rel (bb.trans cb) hC3;have hC0:s.heap.get? C=none:=back H.rel p hC1;obtain hCm:C∉(ax++[[D]]).flatten:=jR ja.rel hC3;obtain hCf:C∉FA env:=mU ja.cr hC3;obtain CC:=D3 gI.cr hcm ok hCm hCf ⟨_,hn4⟩ n;obtain habove:x7 P (fW scope (cellsFor env scope.names []) C env):=by
   intro b hb;obtain ⟨J,h2,J,J⟩:=lW (env:=env) scope.names [] (λx a e=>by exact aU e)
   rcases aV.mp hb with hb | hb
   ·erw[hb];refine (?_:P.h₀.get? C=none)
    induction q:P.h₀.get? C using bf with
    | none=>rfl
    | some o=>have:=H.base C o q;rw[hC0] at this;exact aU this
   ·obtain ⟨q,hq,rfl⟩:=aL.mp hb;rcases h2 q hq with z | z
    ·exact absurd z am
    ·exact H.above _ (kM z)
  obtain H5:bT P d {c with cm:=some scope.names} A (fW scope (cellsFor env scope.names []) C env) ρ (cV n none) (az.new (.lst [])) (ax++[[D]]) eJ:=⟨gI.room,gI.base,gI.rel,CC,habove⟩;obtain hItm:I∉(ax++[[D]]).flatten/\dZ eJ.heap I v val 0:=ym (F:=[]) (cb.trans eK).toF (jR bc.rel h0) am hI;have hIC:I∉FA (fW scope (cellsFor env scope.names []) C env):=by
   intro hb;(refine aI λkK=>?_;obtain ⟨_,h2,_,_⟩:=lW (env:=env) scope.names [] (λx a e=>by exact aU e);refine kK ?_;clear kK)
   rcases aV.mp hb with hb | hb
   ·obtain ⟨o,ho,J⟩:=(ym (F:=[]) cb.toF (jR bc.rel h0) am hI).2.cold;rw[hb] at ho;have:dc.heap.get? C=some o:=ho;rw[hC3] at this;exact aU this
   ·obtain ⟨q,hq,hqe⟩:=aL.mp hb;rcases h2 q hq with z | z
    ·exact absurd z am
    ·exact mU bc.cr h0 (hqe▸kM z)
  obtain hacc:VR eJ.heap (ax++[[D]]) (.ref az.next) (.ref D):= .ref (by refine al bc.rel.next ?_;exact iP)
  obtain loop:=DX (d:=d) (A:=A) (env:=fW scope (cellsFor env scope.names []) C env) (pos:=pos) (scope:=scope) (elt:=elt) (gens:=g::gs) (k:=0) (g:=g) (c:={c with cm:=some scope.names}) rfl rfl hg st si (sin ρ az.next) h0 bc.base hIC
   (R:=compPost P.M A E use K (.ref D) C) (Q:=λκ' σ'=>Q (.ref az.next) σ') (λs' κ' σ' μ' hq pf CR' hv'=>by
    have p5:bg P [] ax σ' μ' ah s':=bg.drop (F:=[]) (aG.refl bc.rel).toF pf λx hx=> .inr (by
     rw[aF] at hx;erw[hx];exact hC1)
    obtain hCo:=CR'.own C (.head _);exact hK D C s' (.ref az.next) σ' μ' hC0 hCo.1 CR'.ns hq (p.trans p5.toPost) hv')
   (i:=0) ⟨H5,pp.toF,hItm.2,hItm.1,(bb.trans (cb.trans eK)).vr hv,du _⟩ hacc hw
  exact yn (g:=g) rfl hg loop (DQ hItm.2 loop)
theorem aG.endC{C:aa}{v:AV}(p:aG P μ az ax s ah)(h0:s.heap.get? C=none)(hm:C∉ax.flatten)(hn:∃m,ah.heap.Ns C m){h':aE}{t:Nat}(hs:mE C ah.heap h'):aG P μ az ax s {ah with heap:=h',toks:=t}/\(∀b o,ah.heap.get? b=some o->frozen o->h'.get? b=some o):=by
 have hz:∀o,ah.heap.get? C=some o->¬frozen o:=by
  intro o ho;obtain ⟨m,o',es,ep,ho',hd,J⟩:=hn;rw[ho] at ho';obtain rfl:=aO ho';exact qr hd
 exact ⟨(bg.ends (F:=[]) p.toF h0 hm hz hs).toPost,λb o e z=>hs b o (λq=>hz o (q▸e) z) e⟩
end
inductive FR(h:aE)(μ:List (List aa)):Fl->Flow->Prop
 | next:FR h μ .next .next
 | ret {v val}:VR h μ v val->FR h μ (.ret v) (.ret val)
inductive gq(P:PW)(c:Ctx)(env:Env)(μ:List (List aa))(s:aj)(Q:Fl->ac->AH->Prop)(f:Flow)(s':aj):Prop
 | mk (fl:Fl) (ρ':ac) (σ':AH) (μ':List (List aa)) (q:Q fl ρ' σ') (p:bg P (FA env) μ σ' μ' s s') (h:CR c env ρ' [] s'.heap μ') (r:FR s'.heap μ' fl f)
def SS(P:PW)(S:aN)(d:Nat)(c:Ctx)(a:AS)(st:Stmt):Prop:=
 ∀(env:Env)(A:bh)(s:aj)(σ:AH)(μ:List (List aa))(ρ:ac)(Q:Fl->ac->AH->Prop)(E:ab->aj->Prop),bT P d c A env ρ [] σ μ s->wS P S d a ρ σ Q->aw P.M A (exec st env) (gq P c env μ s Q) E s
def jS(P:PW)(S:aN)(d:Nat)(c:Ctx)(a:au)(ss:List Stmt):Prop:=
 ∀(env:Env)(A:bh)(s:aj)(σ:AH)(μ:List (List aa))(ρ:ac)(Q:Fl->ac->AH->Prop)(E:ab->aj->Prop),bT P d c A env ρ [] σ μ s->aM P S d a ρ σ Q->aw P.M A (execs ss env) (gq P c env μ s Q) E s
section
variable{P:PW}{S:aN}{d:Nat}{c:Ctx}{A:bh}{env:Env}{E:ab->aj->Prop}{s ah aR:aj}{σ az bu:AH}{μ ax bF:List (List aa)}{ρ κ eV iB:ac}
theorem gq.trans{Q:Fl->ac->AH->Prop}{f:Flow}(p:bg P (FA env) μ az ax s ah)(r:gq P c env ax ah Q f aR):gq P c env μ s Q f aR:=by
 obtain ⟨fl,ρ',σ',μ',q,p',C,h⟩:=r;exact ⟨fl,ρ',σ',μ',q,p.trans p',C,h⟩
theorem D4(H:bT P d c A env ρ [] σ μ s)(p:bg P (FA env) μ az ax s ah)(C:CR c env eV [] ah.heap ax):bT P d c A env eV [] az ax ah:=
 ⟨H.room,p.base H.rel H.base H.above,p.rel,C,H.above⟩
theorem Op{e:av}{pos:Pos}{a:AE}(ha:SE P S d c a e):SS P S d c (.ret a) (.Return (some e) pos):=λenv A s σ μ ρ Q E H h=>by
 exact wpAny_Return_some (cB (ha _ _ _ _ _ _ _ _ _ H h) λv val az ax ah q p hv=>⟨.ret v,ρ,az,ax,q,p.toF,H.cr.post p,.ret hv⟩)
theorem Oq{pos:Pos}:SS P S d c (.ret .none) (.Return none pos):=λenv A s σ μ ρ Q E H h=>by
 exact wpAny_Return_none ⟨.ret .none,ρ,σ,μ,(show Q (.ret .none) ρ σ from h),(aG.refl H.rel).toF,H.cr,.ret .none⟩
theorem D5{e:av}{t:Option av}{n:Nat}(h:mO e=true):swapsWith e t n env=pure false:=by
 induction e using lK<;>first | rfl | exact (eh h)
theorem Os(C:CR c env ρ κ s.heap μ):interactive env=false:=by
 unfold interactive;refine al C.kind ?_;rfl
theorem Ot{e:av}{pos:Pos}{a:AE}(ha:SE P S d c a e)(hn:mO e=true):SS P S d c (.expr a) (.Expr e pos):=λenv A s σ μ ρ Q E H h=>by
 obtain e1:exec (.Expr e pos) env=(do
  gQ pos
  if interactive env then printExpr (bE e env)
  else if <-swapsWith e none pos.line env then do evalThenUse e env λJ=>point;pure .next
  else do dropValue e pos (<-bE e env)):=rfl
 refine al e1 (al (Os H.cr) (al (D5 hn) ?_));simp only[jK,if_false,pure_bind];refine ak (dI (ak (cB (ha _ _ _ _ _ _ _ _ _ H h) λv val az ax ah q p hv=>?_)));exact wpAny_dropValue ⟨.next,ρ,az,ax,q,p.toF,H.cr.post p,.next⟩
theorem Ou{t:av}{b o:List Stmt}{pos:Pos}{x:AE}{y z:au}(ht:ST P S d c x t)(hb:jS P S d c y b)(ho:jS P S d c z o):SS P S d c (.cond x y z) (.If t b o pos):=λenv A s σ μ ρ Q E H h=>by
 refine wpAny_If (aQ (ht _ _ _ _ _ _ _ _ _ H h) (λb ah z_3=>?_) λJ J e=>e);obtain ⟨az,ax,q,p⟩:=z_3;have bc:=H.post p
 induction b using bC
 ·exact aQ (ho _ _ _ _ _ _ _ _ bc q) (λJ J r=>r.trans p.toF) λJ J e=>e
 ·exact aQ (hb _ _ _ _ _ _ _ _ bc q) (λJ J r=>r.trans p.toF) λJ J e=>e
theorem Ov:jS P S d c .nil []:=λenv A s σ μ ρ Q E H h=>CA ⟨.next,ρ,σ,μ,h,(aG.refl H.rel).toF,H.cr,.next⟩
theorem Ow{st:Stmt}{ss:List Stmt}{a:AS}{as:au}(ha:SS P S d c a st)(hs:jS P S d c as ss):jS P S d c (.cons a as) (st::ss):=λenv A s σ μ ρ Q E H h=>by
 refine wpAny_execs_cons (aQ (ha _ _ _ _ _ _ _ _ H h) (λf ah z_4=>?_) λJ J e=>e);obtain ⟨fl,eV,az,ax,q,p,C,hf⟩:=z_4;cases hf with
 | next=>exact aQ (hs _ _ _ _ _ _ _ _ (D4 H p C) q) (λJ J r=>r.trans p) λJ J e=>e
 | ret hv=>exact ⟨_,eV,az,ax,q,p,C,.ret hv⟩
theorem Ox{b:List Stmt}{h₀:ExceptHandler}{hs:List ExceptHandler}{pos:Pos}{a:au}(ha:jS P S d c a b):SS P S d c (.try_ a) (.Try b (h₀::hs) [] [] pos):=λenv A s σ μ ρ Q E H h=>by
 refine wpAny_Try_except (aQ (ha _ _ _ _ _ _ _ (λe ah=>aw P.M A (qe e env) (λJ aR=>aw P.M A (setFlight e none) (λJ dc=>aw P.M A (handleBy e env (h₀::hs)) (gq P c env μ s Q) E dc) E aR) E ah) H h) (λf ah r=>?_) λJ J e=>e)
 induction f using Flow.casesOn with
 | next=>exact CA r
 | _=>exact r
theorem Oy{t:av}{b:List Stmt}{pos:Pos}{x:AE}{y:au}(ht:ST P S d c x t)(hb:jS P S d c y b):SS P S d c (.whl x y) (.While t b [] pos):=λenv A s σ μ ρ Q E H h=>by
 refine wpAny_While ?_;generalize hR:(λ(r:Result)(s':aj)=>match r with | .ok f=>gq P c env μ s Q f s' | .error e=>cameBackBy P.M A env E e s')=R
 have hfin:∀f s',gq P c env μ s Q f s'->R (.ok f) s':=λf s' r=>by erw[aD hR];exact r
 refine h (λeV az=>∀ax ah,bg P (FA env) μ az ax s ah->bT P d c A env eV [] az ax ah->kq P.M A (.whileLoop t b [] env) R ah) (λeV az hw ax ah p bc=>?_) μ s (aG.refl H.rel).toF H;refine xt ?_;refine (?_:aw _ A ((whileTurn t b [] env).onRaise (λx=>do qe x env;xq x)) _ _ ah)
 refine wpAny_noted ?_;simp only[whileTurn];refine ak (aQ (ht _ _ _ _ _ _ _ _ _ bc hw) (λv aR z_5=>?_) λJ J e=>e);obtain ⟨bu,bF,q,bb⟩:=z_5;have co:=bc.post bb
 induction v using bC
 ·simp only[jK,if_false];refine ak (CA (aC ?_));exact hfin _ _ ⟨.next,eV,bu,bF,q,p.trans bb.toF,co.cr,.next⟩
 ·simp only[if_true];refine ak (aQ (hb _ _ _ _ _ _ _ _ co q) (λf dc z_6=>?_) λJ J e=>e);obtain ⟨fl,Cb,lD,mD,lE,cb,C,hf⟩:=z_6;obtain pp:=(p.trans bb.toF).trans cb;cases hf with
  | next=>exact aC ⟨rfl,lE mD dc pp (D4 co cb C)⟩
  | ret hv=>exact aC (hfin _ _ ⟨_,Cb,lD,mD,lE,pp,C,.ret hv⟩)
theorem Oz(hcm:c.cm=none){t:av}{b:List Stmt}{x:AT}{y:au}(ht:SA P S d c x t)(hb:jS P S d c y b){R:Result->aj->Prop}{Q:Fl->ac->AH->Prop}{sb:aj}{μb:List (List aa)}{I:aa}{v:AV}{val:ab}{N:Nat}
  (h0:sb.heap.get? I=none) (hB:P.Base sb.heap) (hA:I∉FA env) (hR:∀f s',gq P c env μb sb Q f s'->R (.ok f) s'):
  ∀(r:Nat)(i:Nat)(ρ:ac)(σ:AH)(μ:List (List aa))(s:aj),N - i=r->Loop P d c A env (FA env) sb μb I v val N i ρ [] σ μ s->
   turns v N (λw be ao k=>wA P S d x w be [] ao λb9 bo aA=>bo=[]/\aM P S d y b9 aA k) r ρ σ Q->kq P.M A (.forLoop t (.ref I) b [] env) R s:=by
 obtain hF:FC c env=FA env:=by unfold FC;refine al hcm ?_;rfl
 intro r
 induction r with
 | zero=>
  intro i ρ σ μ s hd L hw;(refine aI λkK=>?_;obtain ⟨xs,hi,hN,hq0⟩:=hw;refine kK ?_;clear kK);refine xt ?_;refine (?_:aw _ _ ((forTurn t (.ref I) b [] env).onRaise (λx=>do qe x env;xq x)) _ _ s)
  refine wpAny_noted (xX λZ hZ=>?_);unfold forTurn;refine ak (dI (ak (wpAny_onRaise (aQ (L.next (K:=λr ah=>r=none/\gq P c env μb sb Q .next ah) hi hN h0 hB hA (λx u ah hx J J J=>?_) λah hx p C=>⟨rfl,.next,ρ,σ,μ,hq0,p,C,.next⟩) (λr ah fC=>?_) λJ J h'=>dI h'))))
  ·exact absurd hd (Nat.sub_ne_zero_of_lt (hN▸(bP.mp hx).1))
  ·obtain ⟨rfl,fC⟩:=fC;exact aC (hZ _ _ ⟨rfl,codeAny_block (CA (hR _ _ fC))⟩)
 | succ r ih=>
  intro i ρ σ μ s hd L hw;obtain ⟨xs,x,hi,hN,hx0,hw⟩:=hw;rw[<-hd,Nat.sub_sub_self L.le] at hx0;refine xt ?_;refine (?_:aw _ _ ((forTurn t (.ref I) b [] env).onRaise (λx=>do qe x env;xq x)) _ _ s)
  refine wpAny_noted (xX λZ hZ=>?_);unfold forTurn;refine ak (dI (ak (wpAny_onRaise (aQ (L.next (K:=λr ah=>∃u,r=some u/\Loop P d c A env (FA env) sb μb I v val N (i+1) ρ [] σ μ ah/\VR ah.heap μ x u) hi hN h0 hB hA (λx' u ah hx jG hu J=>?_) λah hx p C=>?_) (λr' ah fC=>?_) λJ J h'=>dI h'))))
  ·rw[hx0] at hx;obtain rfl:=aO hx;exact ⟨u,rfl,jG,hu⟩
  ·rw[hx0] at hx;exact nomatch hx
  ·(refine aI λkK=>?_;obtain ⟨u,rfl,jG,hu⟩:=fC;refine kK ?_;clear kK);refine ak (DR jG.it (ak (aQ (ht _ _ _ _ _ _ _ _ _ _ _ jG.pre hu hw) (λJ aR z_0=>?_) λJ J e=>e)));(refine aI λkK=>?_;obtain ⟨LF,xj,bu,bF,⟨e,hq⟩,p,C⟩:=z_0;refine kK ?_;clear kK);subst e;rw[hF] at p;have kh:=jG.step p C hA λJ h=>h;refine ak (aQ (hb _ _ _ _ _ _ _ _ kh.pre hq) (λf dc z_1=>?_) λJ J e=>e);obtain ⟨fl,Cb,lD,mD,lE,cb,LH,hf⟩:=z_1;obtain kj:=kh.step cb LH hA λJ h=>h;have hd':N - (i+1)=r:=congrArg Nat.pred hd;cases hf with
   | next=>exact aC (hZ _ _ ⟨rfl,ih (i+1) _ _ _ _ hd' kj lE⟩)
   | ret hv=>exact aC (hZ _ _ (hR _ _ ⟨_,Cb,lD,mD,lE,kj.post,LH,.ret hv⟩))
theorem OA(hcm:c.cm=none){t i:av}{b:List Stmt}{pos:Pos}{x:AT}{a:AE}{y:au}(ht:SA P S d c x t)(hi:SE P S d c a i)(hset:∀env x,kB i env x=pure x)(hb:jS P S d c y b):SS P S d c (.for_ x a y) (.For t i b [] pos):=λenv A s σ μ ρ Q E H h=>by
 refine wpAny_For (cB (hi _ _ _ _ _ _ _ _ _ H h) λv val az ax ah z_2 p hv=>?_) (hset env);(refine aI λkK=>?_;obtain ⟨xs,hit,hw⟩:=z_2;refine kK ?_;clear kK);have bc:=H.post p;refine aQ (th bc.rel hv hit) (λit aR z_3=>?_) λJ J e=>e;(refine aI λkK=>?_;obtain ⟨I,e,h0,bb,hI⟩:=z_3;refine kK ?_;clear kK);subst e;have co:=bc.post bb;exact Oz hcm ht hb h0 bc.base (mU bc.cr h0) (λf s' r=>r.trans p.toF) xs.length 0 ρ az ax aR (Nat.sub_zero _) ⟨co,bb.toF,hI,jR bc.rel h0,bb.vr hv,du _⟩ hw
end
noncomputable def OB(t e:av):Sure ((∀env,sS [t] e env=pure none)\/∃ts k p vs k' p',t= .Tuple ts k p/\e= .Tuple vs k' p'/\vs.all (constantsAlone 8)=false):=match t with
 | .Name .. =>some ⟨.inl λJ=>rfl⟩
 | .Attribute .. =>some ⟨.inl λJ=>rfl⟩
 | .Subscript .. =>some ⟨.inl λJ=>rfl⟩
 | .Tuple ts k p=>match e with
  | .Tuple vs k' p'=>(dec _).map λh=>⟨.inr ⟨ts,k,p,vs,k',p',rfl,rfl,h.1⟩⟩
  | .Call .. =>some ⟨.inl λJ=>rfl⟩
  | .Subscript .. =>some ⟨.inl λJ=>rfl⟩
  | .Attribute .. =>some ⟨.inl λJ=>rfl⟩
  | .Name .. =>some ⟨.inl λJ=>rfl⟩
  | .IfExp .. =>some ⟨.inl λJ=>rfl⟩
  | .BinOp .. =>some ⟨.inl λJ=>rfl⟩
  | .ListComp .. =>some ⟨.inl λJ=>rfl⟩
  | _=>none
 | _=>none
noncomputable def kR(t e:av):Bool:=(OB t e).isSome
section
variable{P:PW}{S:aN}{d:Nat}{c:Ctx}{A:bh}{env:Env}{E:ab->aj->Prop}{s ah aR:aj}{σ az bu:AH}{μ ax bF:List (List aa)}{ρ κ eV iB:ac}
theorem D6(hcm:c.cm=none):FC c env=FA env:=by unfold FC;refine al hcm ?_;rfl
theorem OC(hcm:c.cm=none){t:av}{x:AT}(ht:SA P S d c x t){v:AV}{val:ab}{Q:Fl->ac->AH->Prop}(H:bT P d c A env ρ [] σ μ s)(hv:VR s.heap μ v val)
  (hw:wA P S d x v ρ [] σ λbe cS ao=>cS=[]/\Q .next be ao):aw P.M A (fT t env val) (λJ s'=>gq P c env μ s Q .next s') E s:=
 aQ (ht _ _ _ _ _ _ _ _ _ _ _ H hv hw) (λJ s' z1=>by
  obtain ⟨ρ',κ',σ',μ',⟨e,q⟩,p,C⟩:=z1;subst e;exact ⟨.next,ρ',σ',μ',q,D6 hcm▸p,C,.next⟩) λJ J e=>e
noncomputable def ij(env:Env)(line:Nat):av->Option Str
 | .Name id pos=>if env.kindOf id==some .local && pos.line==line then some id else none
 | _=>none
theorem OD{ts vs:List av}{k k':_}{p p':Pos}:sS [.Tuple ts k p] (.Tuple vs k' p') env=(do
   if !(ts.length==2 || ts.length==3) || vs.length !=ts.length || env.blockKind != .function then return none
   if vs.any fun | .Starred .. =>true | _=>false then return none
   if (ts.filterMap (ij env ((ts.head?.map (·.pos.line)).getD 0))).length !=ts.length || (ts.filterMap (ij env ((ts.head?.map (·.pos.line)).getD 0))).eraseDups.length !=(ts.filterMap (ij env ((ts.head?.map (·.pos.line)).getD 0))).length then return none
   if vs.all (foldedForSure 8) then return none
   if vs.all (constantsAlone 8) then unsupported "assign.tuple-of-constant-expressions:order-of-the-stores"
   return some (ts.filterMap (ij env ((ts.head?.map (·.pos.line)).getD 0)))):=rfl
theorem swapped_cases{t e:av}(C:CR c env ρ κ s.heap μ)(h:kR t e=true):sS [t] e env=pure none\/∃ts k p names,t= .Tuple ts k p/\sS [t] e env=pure (some names)/\(ts.length=2\/ts.length=3)/\
  names.length=ts.length/\names.eraseDups.length=names.length/\∃line,names=ts.filterMap (ij env line):=by
 rcases Sure.get h with h | ⟨ts,k,p,vs,k',p',rfl,rfl,hc⟩
 ·exact .inl (h env)
 erw[OD];erw[hc];by_cases h1:(!(ts.length==2 || ts.length==3) || vs.length !=ts.length || env.blockKind != .function)=true
 ·exact .inl (if_pos h1)
 erw[if_neg h1];by_cases h2:(vs.any fun | .Starred .. =>true | _=>false)=true
 ·exact .inl (if_pos h2)
 erw[if_neg h2];generalize (ts.head?.map (·.pos.line)).getD 0=line
 by_cases h3:((ts.filterMap (ij env line)).length !=ts.length || (ts.filterMap (ij env line)).eraseDups.length !=(ts.filterMap (ij env line)).length)=true
 ·exact .inl (if_pos h3)
 erw[if_neg h3];by_cases h4:vs.all (foldedForSure 8)=true
 ·exact .inl (if_pos h4)
 erw[if_neg h4];simp only[Bool.or_eq_true,bne_iff_ne,ne_eq,not_or,Decidable.not_not,qc,Bool.not_eq_false,beq_iff_eq] at h1 h3;exact .inr ⟨ts,k,p,_,rfl,rfl,h1.1.1,h3.1,h3.2,line,rfl⟩
theorem OE(C:CR c env ρ κ s.heap μ)(R:SR P.prog P.w P.h₀ σ μ s.heap){x:Str}{i:Nat}(e:c.target x=some (.loc i)){v:AV}{val:ab}(hv:VR s.heap μ v val):
  aw P.M A (bindName env x val) (λJ s'=>bg P (FA env) μ σ μ s s'/\CR c env (ρ.set i (some v)) κ s'.heap μ) E s:=by
 obtain en:=tb e;refine wpAny_bindName (x9 C (C.kl x i (.inl en)) λh' t b D=>⟨(D.post C R).weak (λb' hb=>by rw[aF] at hb;refine al hb ?_;exact D.mem),D.cr C hv (λy j ey w hw=>?_) λy j ey w hw=> .inr ⟨λq=>?_,hw⟩⟩)
 ·rcases get_set hw with ⟨rfl,rfl⟩ | ⟨hj,hw⟩
  ·exact .inl ⟨x8 ey en,rfl⟩
  ·exact .inr ⟨λq=>hj (by subst q;rw[en] at ey;cases ey;rfl),hw⟩
 ·subst q;rw[en] at ey;exact AE.noConfusion (aO ey)
theorem OG{line:Nat}{t:av}{n:Str}(h:ij env line t=some n):∃pos,t= .Name n pos:=by
 induction t using lK with
 | Name x p=>
  have h:(if _ then some x else none)=some n:=h
  split at h
  ·obtain rfl:=aO h;exact ⟨_,rfl⟩
  ·exact aU h
 | _=>exact aU h
theorem D7{α β:Type}{f:α->Option β}:∀{l:List α},(l.filterMap f).length=l.length->∀x∈l,∃y,f x=some y
 | [],J1,x,hx=>by simp at hx
 | a::r,h,x,hx=>by
  rw[Cp] at h
  induction ha:f a using bf with
  | none=>
   rw[ha] at h;dsimp only at h;have:=List.length_filterMap_le f r;rw[dW] at h;lia
  | some b=>
   rw[ha] at h;dsimp only at h;rcases aV.mp hx with rfl | hx
   ·exact ⟨b,ha⟩
   ·exact D7 (by simpa using h) x hx
theorem OH{t:av}{r:List av}{as:dC}(h:kG c (t::r) as):∃x y,xM c x t/\kG c r y/\as= .cons x y:=by
 cases as with
 | nil=>exact dn h
 | cons x y=>exact ⟨x,y,h.1,h.2,rfl⟩
theorem OI{as:dC}(h:kG c [] as):as= .nil:=h
abbrev oB:=Str × Nat × AV × ab
noncomputable def kS(ρ:ac)(q:oB):ac:=ρ.set q.2.1 (some q.2.2.1)
theorem D8{a:oB}:∀(l:List oB)(ρ:ac),(∀q∈l,q.2.1≠a.2.1)->kS (l.foldl kS ρ) a=l.foldl kS (kS ρ a)
 | [],J1,J2=>rfl
 | q::l,ρ,h=>(D8 l _ λx hx=>h x (.tail _ hx)).trans (congrArg (List.foldl kS · l) (List.set_comm _ _ (h q (.head _))))
theorem D9:∀(l:List oB)(ρ:ac),l.Pairwise (λx y=>y.2.1≠x.2.1)->l.reverse.foldl kS ρ=l.foldl kS ρ
 | [],J1,J2=>rfl
 | q::l,ρ,h=>by
  (erw[List.reverse_cons];erw[List.foldl_append];erw[D9 l ρ (LX.mp h).2]);exact D8 l ρ (LX.mp h).1
theorem Ea:∀(l:List oB){s:aj}{ρ:ac},CR c env ρ κ s.heap μ->SR P.prog P.w P.h₀ σ μ s.heap->(∀q∈l,c.target q.1=some (.loc q.2.1)/\VR s.heap μ q.2.2.1 q.2.2.2)->
  aw P.M A (assignInOrder (l.map λq=>bindName env q.1) (l.map (·.2.2.2))) (λJ s'=>bg P (FA env) μ σ μ s s'/\CR c env (l.foldl kS ρ) κ s'.heap μ) E s
 | [],s,ρ,C,R,h=>aC ⟨(aG.refl R).toF,C⟩
 | q::l,s,ρ,C,R,h=>ak (cM (aQ (OE C R (h q (.head _)).1 (h q (.head _)).2) (λJ s1 z=>aQ (Ea l z.2 z.1.rel λx hx=>⟨(h x (.tail _ hx)).1,z.1.vr (h x (.tail _ hx)).2⟩) (λJ s2 y=>⟨z.1.trans y.1,y.2⟩) λJ J e=>e) λJ J e=>e))
theorem Eb{line:Nat}(hcm:c.cm=none){h:aE}:∀{ts:List av}{as:dC}{xs:List AV}{vs:List ab}{ρ:ac}{Q:ac->ac->AH->Prop},kG c ts as->(∀t∈ts,∃n,ij env line t=some n)->aB h μ xs vs->mR P S d as xs ρ [] σ Q->
  ∃l:List oB,ts.filterMap (ij env line)=l.map (·.1)/\vs=l.map (·.2.2.2)/\(∀q∈l,c.target q.1=some (.loc q.2.1)/\VR h μ q.2.2.1 q.2.2.2)/\Q (l.foldl kS ρ) [] σ
 | [],as,xs,vs,ρ,Q,hx,hn,hv,hw=>by
  obtain rfl:=OI hx;obtain ⟨rfl,q⟩:=hw;obtain rfl:=jl hv;exact ⟨[],rfl,rfl,(λq hq=>nomatch hq),q⟩
 | t::r,as,xs,vs,ρ,Q,hx,hn,hv,hw=>by
  obtain ⟨x,y,h1,h2,rfl⟩:=OH hx;obtain ⟨n,en⟩:=hn t (.head _);obtain ⟨pos,rfl⟩:=OG en;have h1:c.target n=some x:=h1;obtain ⟨x',r',rfl,hw⟩:=hw;obtain ⟨v,vs,rfl,k1,k2⟩:=on hv;rcases target_kinds h1 with ⟨J,i,rfl⟩ | ⟨h,J⟩
  ·obtain ⟨l,e1,rfl,e3,q⟩:=Eb hcm h2 (λt ht=>hn t (.tail _ ht)) k2 hw;exact ⟨(n,i,x',v)::l,by (erw[List.filterMap_cons_some en];erw[e1]);rfl,rfl,λq hq=>(aV.mp hq).elim (λe=>e▸⟨h1,k1⟩) (e3 q),q⟩
  ·rw[hcm] at h;exact nomatch h
theorem OJ:∀{l:List Str},l.eraseDups.length=l.length->l.length=2\/l.length=3->l.Nodup
 | [a,b],h,J=>by
  refine ee.mpr ⟨λhm=>?_,ee.mpr ⟨am,je⟩⟩;obtain rfl:=aF.mp hm;simp[CD] at h
 | [a,b,e],h,J=>by
  simp only[ee,aV,am,or_false,not_or,je,and_true,not_false_eq_true];refine ⟨⟨λq=>?_,λq=>?_⟩,λq=>?_⟩<;>subst q
  ·by_cases q:e==a<;>simp[CD,q] at h
  ·by_cases q:b==a<;>simp[CD,q] at h
  ·by_cases q:b==a<;>simp[CD,q] at h
theorem OK(hcm:c.cm=none){ts:List av}{names:List Str}{line:Nat}{as:dC}(hl:ts.length=2\/ts.length=3)(hn:names.length=ts.length)(hd:names.eraseDups.length=names.length)(hnames:names=ts.filterMap (ij env line))(hx:kG c ts as)
  {v:AV} {val:ab} {Q:Fl->ac->AH->Prop} (H:bT P d c A env ρ [] σ μ s) (hv:VR s.heap μ v val) (hw:wA P S d (.tup as) v ρ [] σ λbe cS ao=>cS=[]/\Q .next be ao):
  aw P.M A (assignStores env val (some names) []) (gq P c env μ s Q) E s:=by
 (refine aI λkK=>?_;obtain ⟨xs,rfl,bl,hw⟩:=hw;refine kK ?_;clear kK);obtain ⟨a,vs,n,rfl,ho,J,hvs⟩:=s0 hv;obtain ⟨l,e1,e2,h,J,q⟩:=Eb hcm hx (D7 (hnames▸hn)) hvs hw;have e1:=hnames.trans e1;have nd:l.Pairwise λx y=>y.2.1≠x.2.1:=by
  have:=OJ hd (hn▸hl);rw[e1] at this;exact (jL.mp this).imp_of_mem λhx hy ne e=>ne (x8 (tb (h _ hx).1) (e▸tb (h _ hy).1))
 have hsz:names.length=vs.size:=by (erw[e1];rewrite[ay];(erw[aD Cm];erw[e2]);rw[ay])
 refine (?_:aw _ _ (do
  rule "assign.swapped-stores"
  let items <-unpackItems (.ref a) names.length none
  assignInOrder (names.reverse.map λn=>bindName env n) items.reverse
  pure Flow.next) _ _ _)
 refine al hsz (ak (sO (ak (wpAny_unpackItems_tuple H.hh ⟨_,ho,rfl,n,rfl⟩ λh' hext=>?_))));have p0:aG P μ σ μ s {s with heap:=h'}:=aG.push (t:=s.toks) H.rel λb o e=>hext b o (λq=>iE _ (q▸fG e)) e;have H0:=H.post p0;(erw[e1];erw[e2];erw[aD List.map_reverse];erw[aD List.map_reverse];erw[cw]);exact ak (aQ (Ea l.reverse H0.cr H0.rel λq hq=>⟨(h q (List.mem_reverse.mp hq)).1,p0.vr (h q (List.mem_reverse.mp hq)).2⟩) (λJ s2 y=>aC ⟨.next,_,σ,μ,q,p0.toF.trans y.1,D9 l ρ nd▸y.2,.next⟩) λJ J e=>e)
end
def RD(h:aE)(d:aa)(es:Array cC)(ep:Nat):Prop:=∃o,h.get? d=some o/\o.ExactDict/\o.data= .dict es ep
section
variable{prog:dk}{w:bk}{A:bh}{E:ab->aj->Prop}{s:aj}{d it:aa}{es:Array cC}{ep i:Nat}
theorem RD.typeIs(x:RD s.heap d es ep):s.TypeIs (.ref d) "dict":=let ⟨o,ho,hx,_⟩:=x;⟨o,ho,hx.1⟩
theorem Ec{Q:ab->aj->Prop}(hd:(d==gk)=false)(hm:RD s.heap d es ep)
  (hQ:Q (.ref s.heap.objs.size) {s with heap:=s.heap.push {cls:= .type "dict_keyiterator",data:= .fields #[.ref d,.int 0 0,.int es.size 0,.int ep 0]}}):
  aw (model prog w) A (pyIter (.ref d)) Q E s:=by
 have hT:=hm.typeIs;obtain ⟨o,ho,hc,hdat⟩:=hm;refine wpAny_pyIter_slot hT F.slot_dict_iter (p7 F.slot_dict_iter hT F.entry_dict_iter ?_ (F.args_dict_iter_1 _));unfold Builtin.«dict.__iter__»;refine ak ?_;unfold Builtin.Dict.dictSlotNone;refine ak (LN hT ?_);refine (?_:aw _ _ (pure (jg d)) _ _ s);refine aC ?_;refine (?_:aw _ _ (Builtin.Dict.showsAll d>>=_) _ _ s);unfold Builtin.Dict.showsAll;erw[if_neg (by erw[hd];exact pZ)]
 refine ak (aC (ak (wpAny_dictEntries ho hdat (ak (wpAny_dictEpoch ho hdat ?_)))));exact ak (qa (aC ⟨_,rfl,"dict_keyiterator",_,⟨_,fJ _ rfl,rfl⟩,F.slot_dict_keyiterator_next.lookup,hQ⟩))
theorem Ed{Q:Option ab->aj->Prop}{x:cC}(hit:s.heap.IsKeyIter it d i es.size ep)(hm:RD s.heap d es ep)(hx:es[i]? =some x)
  (hQ:∀h',h'.IsKeyIter it d (i+1) es.size ep->gN it s.heap h'->Q (some x.key) {s with heap:=h'}):aw (model prog w) A (pyNext (.ref it)) Q E s:=by
 obtain ⟨o,ho,hc,hd⟩:=id hit;obtain ⟨od,hod,hcd,hdd⟩:=id hm;unfold pyNext;refine ak (wpAny_attempt (xm (name:=cz "__next__") hit.typeIs F.slot_dict_keyiterator_next
  (p7 F.slot_dict_keyiterator_next hit.typeIs F.entry_dict_keyiterator_next ?_ (F.args_dict_keyiterator_next_1 _))))
 refine ak (aC (ak (ak ?_)))
 first | refine ak (CE hit.typeIs (aC ?_)) | refine ak (CF hit.typeIs (aC ?_))
 refine ak (wpAny_fieldsOf ho hd ?_);rewrite (config:={}) [if_neg (show ¬(Xj "dict_keyiterator"=true) by decide)]
 refine (?_:aw _ _ (if (jg d==iI)=true then _ else _) _ _ s)
 rewrite[if_neg (show ¬((jg d==iI)=true) from pZ)]
 refine ak (aC (ak (wpAny_dictEntries hod hdd ?_)));erw[if_neg (by simp)]
 refine ak (aC (ak (wpAny_dictEpoch hod hdd ?_)));erw[if_neg (by simp)]
 refine aC ?_;dsimp only;(erw[if_neg (show ¬((i:Int)<0) from Int.not_lt.mpr (mI i))];rewrite[sT];erw[hx])
 refine ak ?_
 first | refine ak (CE hit.typeIs (aC ?_)) | refine ak (CF hit.typeIs (aC ?_))
 refine ak (wpAny_isOneOf_keyiter hit.typeIs ?_);refine (?_:aw _ _ (setField (.ref it) 1 (rawInt ((i:Int)+1))>>=_) _ _ s);refine ak (wpAny_setField ho hd (by simp) ?_)
 have hit':(s.heap.update it (Obj.mapFields (·.setIfInBounds 1 (rawInt ((i:Int)+1))))).IsKeyIter it d (i+1) es.size ep:=
  ⟨_,sG _ ho (Obj.isFreed_of_fields (Obj.data_mapFields hd _)),(Obj.cls_mapFields ..).trans hc,by rewrite[Obj.data_mapFields hd];simp[rawInt]⟩
 refine ak (cM (ak (wpAny_isOneOf_keyiter (s:={s with heap:=s.heap.update it (Obj.mapFields (·.setIfInBounds 1 (rawInt ((i:Int)+1))))}) hit'.typeIs ?_)))
 refine (?_:aw _ _ (pure x.key) _ _ _);exact aC (aC ⟨_,rfl,aC (hQ _ hit' (nX ..))⟩)
theorem Ee{Q:Option ab->aj->Prop}(hh:A.handled=none)(hit:s.heap.IsKeyIter it d i es.size ep)(hm:RD s.heap d es ep)(hx:es[i]? =none)
  (hQ:∀h',mE it s.heap h'->Q none {s with heap:=h'}):aw (model prog w) A (pyNext (.ref it)) Q E s:=by
 obtain ⟨o,ho,hc,hd⟩:=id hit;obtain ⟨od,hod,hcd,hdd⟩:=id hm;unfold pyNext;refine ak (wpAny_attempt (xm (name:=cz "__next__") hit.typeIs F.slot_dict_keyiterator_next
  (p7 F.slot_dict_keyiterator_next hit.typeIs F.entry_dict_keyiterator_next ?_ (F.args_dict_keyiterator_next_1 _))))
 refine ak (aC (ak (ak ?_)))
 first | refine ak (CE hit.typeIs (aC ?_)) | refine ak (CF hit.typeIs (aC ?_))
 refine ak (wpAny_fieldsOf ho hd ?_);rewrite (config:={}) [if_neg (show ¬(Xj "dict_keyiterator"=true) by decide)]
 refine (?_:aw _ _ (if (jg d==iI)=true then _ else _) _ _ s)
 rewrite[if_neg (show ¬((jg d==iI)=true) from pZ)]
 refine ak (aC (ak (wpAny_dictEntries hod hdd ?_)));erw[if_neg (by simp)]
 refine ak (aC (ak (wpAny_dictEpoch hod hdd ?_)));erw[if_neg (by simp)]
 refine aC ?_;dsimp only;(erw[if_neg (show ¬((i:Int)<0) from Int.not_lt.mpr (mI i))];rewrite[sT];erw[hx])
 refine ak ?_
 first | refine ak (CE hit.typeIs (aC ?_)) | refine ak (CF hit.typeIs (aC ?_))
 refine (?_:aw _ _ (setField (.ref it) 0 .none>>=_) _ _ s);refine ak (wpAny_setField ho hd (by simp) ?_)
 refine (?_:aw _ _ (newExc (.type "StopIteration") []>>=_) _ _ _);refine ak ?_;unfold newExc newTuple;refine ak (qa ?_ (by size_fits))
 refine ak (m:=firstArgMember _ _) (wpAny_of_eq (a:=iI) (by first | rfl | (simp only[firstArgMember];rfl)) ?_)
 refine qa ?_ (by size_fits)
 refine wpAny_raiseNew_none hh ?_;refine ak (wpAny_isInstance (T:="StopIteration") (b:=true) ⟨_,fJ _ rfl,rfl⟩ isSubtype_stop ?_);exact aC (hQ _ (((nX ..).extBut.push _).push _))
theorem RD.at{h h':aE}(x:RD h d es ep)(hk:∀o,h.get? d=some o->h'.get? d=some o):RD h' d es ep:=let ⟨o,ho,r⟩:=x;⟨o,hk _ ho,r⟩
theorem RD.lt{h:aE}(x:RD h d es ep):d<h.objs.size:=let ⟨_,ho,_⟩:=x;fG ho
end
section
variable{P:PW}
theorem oD{h:aE}(hsys:∃o,P.h₀.get? gk=some o){a:aa}(h0:P.h₀.get? a=none):(a==gk)=false:=by
 obtain ⟨o,ho⟩:=hsys;rewrite[beq_eq_false_iff_ne];intro e;rw[e,ho] at h0;cases h0
theorem qK{σ:AH}{a o:AO}{l:Nat}(h:l<σ.next)(e:σ.m l=some o):(σ.new a).m l=some o:=by
 refine (?_:(if l=σ.next then some a else σ.m l)=some o)
 ((erw[if_neg (by (with_reducible exact ce ‹_›))];erw[e]);ac_rfl)
theorem SR.lt{prog:dk}{w:bk}{h₀ h:aE}{σ:AH}{μ:List (List aa)}(R:SR prog w h₀ σ μ h){l:Nat}{o:AO}(e:σ.m l=some o):l<σ.next:=by
 obtain ⟨ft,q,J⟩:=R.objs l o e;erw[R.next];exact (bP.mp q).1
end
theorem Ef{k:AV}:∀{kvs:List (AV × AV)},k∈kvs.map (·.1)->(cy kvs k).isSome=true
 | p::r,h=>by
  erw[jm]
  split
  ·rfl
  ·rename_i c;refine Ef (kvs:=r) ?_;rcases aV.mp h with e | e
   ·exact absurd e.symm c
   ·exact e
theorem Eg{h h':aE}{μ μ':List (List aa)}:∀{ks:List Str}{vs:List ab},aB h μ (ks.map cN) vs->aB h' μ' (ks.map cN) vs
 | [],J1,h=>by (have hH:=jl h;clear h;subst hH);exact .nil
 | k::ks,J1,h=>by
  cases h with
  | cons a r=>
   refine .cons ?_ (Eg r);unfold cN at a ⊢;obtain ⟨_,rfl,_⟩:=eE a;exact .str _ _ ‹_›
theorem yp{h:aE}{μ μ':List (List aa)}{ks:List Str}{v:ab}(H:VR h μ (.tup (ks.map cN)) v):VR h μ' (.tup (ks.map cN)) v:=by
 generalize e:AV.tup (ks.map cN)=z at H;cases H<;>(first | exact (AV.noConfusion e) | cases e)
 exact .tup ‹_› ‹_› (Eg ‹_›)
 all_goals exact .con _
theorem OL{P:PW}{h:aE}{μ:List (List aa)}{a:aa}{kvs:List (AV × AV)}(H:DK P.prog P.w .ts h μ a kvs):∃es ep,RD h a es ep/\∀μ',aB h μ' (kvs.map (·.1)) (es.toList.map (·.key)):=by
 (refine aI λkK=>?_;obtain ⟨xs,⟨o,es,ep,ho,hx,hd,he,hi,hn⟩,e,hv,hk⟩:=H;refine kK ?_;clear kK);refine ⟨es,ep,⟨o,ho,hx,hd⟩,λμ'=>?_⟩;refine al e (al he (al cw ?_));clear e hv he hi hn
 induction xs with
 | nil=>exact .nil
 | cons x r ih=>exact .cons (yp (hk x (.head _))) (ih λy hy=>hk y (.tail _ hy))
noncomputable def bare(kws:List (AV × AV))(vs:List ab):List (AV × AV):=(kws.map (·.1)).zip (vs.map .con)
theorem qL{kws:List (AV × AV)}{vs:List ab}(h:kws.length=vs.length):(bare kws vs).map (·.1)=kws.map (·.1):=by
 unfold bare;(erw[List.map_fst_zip (by simp[h])];ac_rfl)
theorem Eh{kws:List (AV × AV)}{vs:List ab}(h:kws.length=vs.length):(bare kws vs).map (·.2)=vs.map .con:=by
 unfold bare;(erw[List.map_snd_zip (by simp[h])];ac_rfl)
theorem Ei{h:aE}{μ:List (List aa)}:∀(vs:List ab),aB h μ (vs.map .con) vs
 | []=> .nil
 | v::vs=> .cons (.con v) (Ei vs)
theorem Ej{h:aE}{μ:List (List aa)}:∀{vs ws:List ab},aB h μ (vs.map .con) ws->vs=ws
 | [],J1,h=>by (have hH:=jl h;clear h;subst hH);rfl
 | v::vs,J1,h=>by
  cases h with
  | cons a r=>(have hH:=lQ a;clear a;subst hH);(erw[Ej r];ac_rfl)
section
variable{prog:dk}{w:bk}{h h':aE}{μ μ':List (List aa)}{a:aa}{kws:List (AV × AV)}
theorem OM(H:DK prog w .ts h μ a kws):∃vs,kws.length=vs.length/\aB h μ (kws.map (·.2)) vs/\DK prog w .ts h μ' a (bare kws vs):=by
 (refine aI λkK=>?_;obtain ⟨xs,h1,h2,h3,h4⟩:=H;refine kK ?_;clear kK);obtain hl:kws.length=(xs.map (·.2.2)).length:=by have:=congrArg kC h2;simpa using this
 refine ⟨xs.map (·.2.2),hl,h3,xs,h1,by ((erw[qL hl];erw[h2]);ac_rfl),by erw[Eh hl];exact Ei _,λx hx=>yp (h4 x hx)⟩
theorem ON{vs:List ab}(hl:kws.length=vs.length)(hv:aB h' μ' (kws.map (·.2)) vs)(H:DK prog w .ts h' μ a (bare kws vs)):DK prog w .ts h' μ' a kws:=by
 obtain ⟨xs,h1,h2,h3,h4⟩:=H;rw[qL hl] at h2;rw[Eh hl] at h3;refine ⟨xs,h1,h2,by erw[aD (Ej h3)];exact hv,λx hx=>yp (h4 x hx)⟩
end
section
variable{P:PW}{S:aN}{d:Nat}{c:Ctx}{A:bh}{env:Env}{E:ab->aj->Prop}{s ah aR:aj}{σ az bu:AH}{μ ax bF:List (List aa)}{ρ κ eV iB:ac}
theorem OO{μ ν:List (List aa)}{l:Nat}{x:List aa}(e:μ[l]? =some x):(μ++ν)[l]? =some x:=by
 erw[nT ((bP.mp e).1)];exact e
structure lX(P:PW)(d:Nat)(c:Ctx)(A:bh)(env:Env)(sb:aj)(I D:aa)(es:Array cC)(ep:Nat)(xs:List AV)(i:Nat)(ρ κ:ac)(σ:AH)(μ:List (List aa))(s:aj):Prop where
 pre:bT P d c A env ρ κ σ μ s
 post:bg P [env.locals,I] μ σ μ sb s
 it:s.heap.IsKeyIter I D i es.size ep
 rd:RD s.heap D es ep
 outI:I∉μ.flatten
 outD:D∉μ.flatten
 faI:I∉FA env
 faD:D∉FA env
 ne:D≠I
 ks:aB s.heap μ xs (es.toList.map (·.key))
theorem lX.step{sb:aj}{I D:aa}{es:Array cC}{ep:Nat}{xs:List AV}{i:Nat}(L:lX P d c A env sb I D es ep xs i ρ κ σ μ s)(p:bg P [env.locals] μ σ μ s ah)(C:CR c env ρ iB ah.heap μ):
  lX P d c A env sb I D es ep xs i ρ iB σ μ ah:=by
 have hI:I∉[env.locals]:=λh=>L.faI (by rw[aF] at h;erw[h];exact .head _)
 obtain hD:D∉[env.locals]:=λh=>L.faD (by rw[aF] at h;erw[h];exact .head _)
 exact ⟨⟨L.pre.room,p.base L.pre.rel L.pre.base λb hb=>L.pre.above b (by rw[aF] at hb;erw[hb];exact .head _),p.rel,C,L.pre.above⟩,L.post.trans (p.weak λb hb=>by rw[aF] at hb;erw[hb];exact .head _),
  L.it.at λo e=>p.keep I o e (.inl ⟨L.outI,hI⟩),L.rd.at λo e=>p.keep D o e (.inl ⟨L.outD,hD⟩),L.outI,L.outD,L.faI,L.faD,L.ne,p.vrs L.ks⟩
theorem OP(R:SR P.prog P.w P.h₀ σ μ s.heap){I:aa}{h':aE}{t:Nat}(hm:I∉μ.flatten)(hz:∀o,s.heap.get? I=some o->¬frozen o)(hl:∃o,h'.get? I=some o/\¬frozen o)(hs:gN I s.heap h'):
  bg P [I] μ σ μ s {s with heap:=h',toks:=t}:=by
 obtain ne:∀b ob,s.heap.get? b=some ob->frozen ob->b≠I:=λb ob hb z c=>hz ob (c▸hb) z;refine ⟨⟨h',t,rfl⟩,λb ob hb z=>(hs.2 b λc=>?_).trans hb,λJ J e=>e,λJ h=> .inl h,λb hb J=>?_,R.aside λb ob hb z=>(hs.2 b λc=>?_).trans hb⟩
 ·rcases z with z | z
  ·exact z.2 (by erw[c];exact .head _)
  ·exact ne b ob hb z c
 ·rw[aF] at hb;refine al hb ?_;exact hl
 ·rcases z with z | z
  ·exact hm (c▸z)
  ·exact ne b ob hb z c
theorem qM{h:aE}{I D:aa}{i n ep:Nat}(x:h.IsKeyIter I D i n ep):∃o,h.get? I=some o/\¬frozen o:=by
 obtain ⟨o,ho,hc,hd⟩:=x;refine ⟨o,ho,λz=>?_⟩;rcases z.cls with e | e | e<;>rw[hc] at e<;>exact absurd e (by decide)
theorem OQ(hc:c.cm.isSome=true){elt:av}{gens:List bS}{scope:dj}{pos:Pos}{k:Nat}{g:bS}(hk:gens[k]? =some g)(ha:g.is_async=0){t:AT}{ifs:AL}
  (st:SA P S d c t g.target) (si:SI P S d c ifs g.ifs) {R:Result->aj->Prop} {sb:aj} {I D:aa} {es:Array cC} {ep:Nat} {xs:List AV} {acc:ab} {N:Nat}
  (hI0:P.h₀.get? I=none)
  (hw:∀x∈xs,∀κ:ac,κ.length=N->wA P S d t x ρ κ σ λb9 bo aA=>(b9=ρ/\aA=σ/\bo.length=N)/\iO P S d ifs ρ bo σ λb aW=>b=false/\aW=σ)
  (hR:∀ah κ s',lX P d c A env sb I D es ep xs es.size ρ κ σ μ ah->(∃h',s'={ah with heap:=h'}/\mE I ah.heap h')->R (.ok .next) s')
  {i:Nat} (L:lX P d c A env sb I D es ep xs i ρ κ σ μ s) (fE:κ.length=N) (hle:i<=es.size):
  kq P.M A (.compLoop (.ListComp elt gens scope pos) k (.ref I) acc env) R s:=by
 refine codeAny_loop rfl (λn s=>∃i κ,n=es.size - i/\i<=es.size/\κ.length=N/\lX P d c A env sb I D es ep xs i ρ κ σ μ s) (λn s hI=>?_) (es.size - i) ⟨i,κ,rfl,hle,fE,L⟩;(refine aI λkK=>?_;obtain ⟨i,κ,rfl,hle,fE,L⟩:=hI;refine kK ?_;clear kK);refine (?_:aw _ _ ((compTurn (.ListComp elt gens scope pos) k (.ref I) acc env).onRaise (λx=>do qe x env;xq x)) _ _ s)
 refine wpAny_noted ?_;refine al (DU hk ha) ?_;refine ak (dI (ak ?_))
 induction hx:es[i]? using bf with
 | some x=>
  refine Ed L.it L.rd hx λh' hit' hs=>?_;have p:bg P [I] μ σ μ s {s with heap:=h',toks:=s.toks}:=OP L.pre.rel L.outI (λo ho z=>by obtain ⟨o',ho',hz⟩:=qM L.it;rw[ho] at ho';obtain rfl:=aO ho';exact hz z) (qM hit') hs
  obtain hIf:∀b∈[I],b∉FA env:=λb hb=>by rw[aF] at hb;refine al hb ?_;exact L.faI
  have jG:bT P d c A env ρ κ σ μ {s with heap:=h',toks:=s.toks}:=⟨L.pre.room,p.base L.pre.rel L.pre.base λb hb=>by rw[aF] at hb;refine al hb ?_;exact hI0,p.rel,L.pre.cr.postF p hIf,L.pre.above⟩
  have kh:lX P d c A env sb I D es ep xs (i+1) ρ κ σ μ {s with heap:=h',toks:=s.toks}:=
   ⟨jG,L.post.trans (p.weak λb hb=>by rw[aF] at hb;refine al hb ?_;exact .tail _ (.head _)),hit',L.rd.at λo e=>(hs.2 D L.ne).trans e,L.outI,L.outD,L.faI,L.faD,L.ne,p.vrs L.ks⟩
  have bD:i<es.size:=(Array.getElem?_eq_some_iff.mp hx).1;have bl:xs.length=es.size:=by erw[L.ks.length];simp
  obtain ⟨u,hu,hv⟩:=kh.ks.get (i:=i) (x:=xs[i]'(by lia)) (dh (by lia))
  rw[bt,kz,hx] at hu;obtain rfl:=aO hu;refine ak (letGo_keyiter hit' (ak (aQ (st _ _ _ _ _ _ _ _ _ _ _ kh.pre hv (hw _ (List.getElem_mem _) κ fE)) (λJ aR z_5=>?_) λJ J e=>e)));(refine aI λkK=>?_;obtain ⟨LF,xj,bu,bF,⟨⟨e1,e2,e3⟩,hq⟩,bb,C⟩:=z_5;refine kK ?_;clear kK);subst e1 e2;obtain hmu:∀{bF:List (List aa)}{sx:aj},SR P.prog P.w P.h₀ bu bF sx.heap->(∀(l:Nat) x,μ[l]? =some x->bF[l]? =some x)->bF=μ:=λ{bF sx} R he=>by
   obtain h1:=R.next;obtain h2:=L.pre.rel.next;apply List.ext_getElem?;intro l;by_cases hl:l<μ.length
   ·erw[dh hl];exact he l _ (dh hl)
   ·((erw[oa (by lia)];erw[oa (by (with_reducible exact fV ‹_›))]);ac_rfl)
  obtain rfl:=hmu bb.rel bb.ext;rw[DW hc] at bb;have kj:=kh.step bb C;refine ak (aQ (si _ _ _ _ _ _ _ _ _ kj.pre hq) (λok dc z_6=>?_) λJ J e=>e);(refine aI λkK=>?_;obtain ⟨lD,mD,⟨e4,e5⟩,cb⟩:=z_6;refine kK ?_;clear kK);subst e4 e5;obtain rfl:=hmu cb.rel cb.ext;exact aC ⟨rfl,_,Nat.sub_succ_lt_self _ _ bD,i+1,xj,rfl,bD,e3,kj.step cb.toF (kj.pre.cr.post cb)⟩
 | none=>
  have:i=es.size:=by have:=LY.mp hx;lia
  subst this;refine Ee L.pre.hh L.it L.rd hx λh' he=>?_;exact aC (hR s κ _ L ⟨h',rfl,he⟩)
theorem OS{F:List aa}{m:Nat}{ft:List aa}{o:AO}{Xh:AH}(R:SR P.prog P.w P.h₀ σ μ s.heap)(em:μ[m]? =some ft)(p:bg P F [ft] Xh [ft] s ah)(eo:σ.m m=some o)(hO:OR P.prog P.w ah.heap μ o ft)(hF:∀b∈F,b∉μ.flatten):bg P F μ σ μ s ah:=by
 obtain hsub:∀b∈[ft].flatten,b∈μ.flatten:=λb hb=>fL em (by simpa using hb)
 refine ⟨p.same,λb o e z=>p.keep b o e (z.imp (λq=>⟨λh=>q.1 (hsub b h),q.2⟩) id),λJ J e=>e,λJ h=> .inl h,p.live,R.next,λl o' e=>?_,R.apart,λb hb=>⟨(R.above b hb).1,p.liveAny b (R.above b hb).2⟩⟩;by_cases hl:l=m
 ·subst hl;rw[eo] at e;obtain rfl:=aO e;exact ⟨ft,em,hO⟩
 ·obtain ⟨ft',e1,e2⟩:=R.objs l o' e;refine ⟨ft',e1,e2.mono p.frz (λJ J e=>e) λb hb ob eb=>p.keep b ob eb (.inl ⟨λh=>?_,λh=>hF b h (fL e1 hb)⟩)⟩;exact mS R.apart e1 em hl b hb (by simpa using h)
theorem OT(hcm:c.cm=none){elt:av}{g:bS}{gs:List bS}{scope:dj}{pos:Pos}(hg:g.is_async=0){a ai:AE}{t:AT}{ifs:AL}{ag:AG}{n:Nat}(ok:fX c.fn scope=true)
  (hi:SE P S d c ai g.iter) (hset:∀env x,kB g.iter env x=pure x)
  (st:SA P S d {c with cm:=some scope.names} t g.target) (si:SI P S d {c with cm:=some scope.names} ifs g.ifs)
  {Q:AV->AH->Prop} (H:bT P d c A env ρ κ σ μ s) (hw:Dc P a (.cons t ai ifs ag) n ρ σ Q) {use:Option (ab->Sem Unit)} {K:ab->aj->Prop}
  (hK:∀(D C:aa)(ah:aj)(v:AV)(σ':AH)(μ':List (List aa)),s.heap.get? C=none->C∉μ'.flatten->(∃m,ah.heap.Ns C m)->Q v σ'->aG P μ σ' μ' s ah->VR ah.heap μ' v (.ref D)->compPost P.M A E use K (.ref D) C (.ok .next) ah):
  aw P.M A (sP (.ListComp elt (g::gs) scope pos) scope env (sQ (g::gs) pos) (newList []) false (bE g.iter env) use) K E s:=by
 obtain hcl:closureFor scope env=pure (cellsFor env scope.names []):=DZ λx hx=>by
  obtain ⟨i,e⟩:=yo ok hx;obtain ⟨b,v,e1,J⟩:=H.cr.cells x (H.cr.fnk hcm x i e);exact ⟨b,e1⟩
 refine wpAny_comprehension_free (use:=use) rfl (hset env) hcl (qI ok) (λx hx hl=>by
  obtain ⟨x,k⟩:=x;dsimp only at hl;subst hl;exact (mV ok hx).2) ?_
 (refine aI λkK=>?_;obtain ⟨r,i,j,l,m,kvs,kws,eg,hn0,hsys,ei,ej,hlm,el,em,hkv,hkw,hQ⟩:=hw;refine kK ?_;clear kK);cases eg;refine cB (hi env A s σ μ ρ κ (λv ae=>v= .ref l/\ae=σ) E H (kJ (xo.mpr ei) ⟨rfl,rfl⟩)) λv val az ax ah z_0 p hv=>?_;obtain ⟨ev,es1⟩:=z_0;subst ev es1;have bc:=H.post p;(refine aI λkK=>?_;obtain ⟨B,kd,rfl,eD,J,hDK,hD0⟩:=jp bc.rel el hv;refine kK ?_;clear kK);(refine aI λkK=>?_;obtain ⟨es,ep,hrd,hks⟩:=OL (hDK.at λq hq=>(hkv q hq).1);refine kK ?_;clear kK);refine Ec (oD (h:=ah.heap) hsys hD0) hrd ?_;obtain h0:ah.heap.get? ah.heap.objs.size=none:=dJ _;have bb:aG P ax az ax ah {ah with heap:=ah.heap.push {cls:= .type "dict_keyiterator",data:= .fields #[.ref B,.int 0 0,.int es.size 0,.int ep 0]},toks:=ah.toks}:=aG.push bc.rel λb o e=>cp _ e;obtain hit2:(ah.heap.push {cls:= .type "dict_keyiterator",data:= .fields #[.ref B,.int 0 0,.int es.size 0,.int ep 0]}).IsKeyIter ah.heap.objs.size B 0 es.size ep:=⟨_,fJ _ rfl,rfl,rfl⟩;obtain hrd2:RD (ah.heap.push {cls:= .type "dict_keyiterator",data:= .fields #[.ref B,.int 0 0,.int es.size 0,.int ep 0]}) B es ep:=hrd.at λo e=>cp _ e;generalize hs2:({ah with heap:=ah.heap.push {cls:= .type "dict_keyiterator",data:= .fields #[.ref B,.int 0 0,.int es.size 0,.int ep 0]},toks:=ah.toks}:aj)=aR at bb ⊢;have hit2:aR.heap.IsKeyIter ah.heap.objs.size B 0 es.size ep:=by erw[aD hs2];exact hit2
 obtain hrd2:RD aR.heap B es ep:=by refine al (aD hs2) ?_;exact hrd2
 obtain hID:B≠ah.heap.objs.size:=λe=>by obtain ⟨o,ho,J⟩:=hrd;rw[e,h0] at ho;exact aU ho
 generalize hIe:ah.heap.objs.size=I at*;obtain co:=bc.post bb;refine sR ?_;have cb:aG P ax (az.new (.lst [])) (ax++[[aR.heap.objs.size]]) aR {aR with heap:=aR.heap.push {cls:= .type "list",data:= .seq ([]:List ab).toArray}}:=by
  refine aG.new (t:=aR.toks) co.rel co.base (λb o e=>cp _ e) (λb hb=>?_) (by simp) ⟨du _,_,_,_,rfl,tc _,.nil⟩
  rw[aF] at hb;refine al hb ?_;exact dJ _
 generalize hD:aR.heap.objs.size=D at cb ⊢;generalize hs3:({aR with heap:=aR.heap.push {cls:= .type "list",data:= .seq ([]:List ab).toArray}}:aj)=dc at cb ⊢;obtain ja:=co.post cb;obtain hD2:aR.heap.get? D=none:=by erw[aD hD];exact dJ _
 refine wpAny_newFunctionEnv (λx hx hk=>?_) (λx hx=>by simp at hx) (λh' hn hs=>?_) (qI ok)
 ·obtain ⟨x,k⟩:=x;dsimp only at hk;subst hk;rcases (mV ok hx).1 with e | e | e<;>exact (Ck e)
 ·have hk4:∀b o,dc.heap.get? b=some o->h'.get? b=some o:=λb o e=>(hs.2 b (λq=>iE _ (q▸fG e))).trans (cp _ e);obtain eK:aG P (ax++[[D]]) (az.new (.lst [])) (ax++[[D]]) dc {dc with heap:=h',toks:=dc.toks+([]:List (Str × ab)).length}:=aG.push ja.rel hk4;obtain hC3:dc.heap.get? dc.heap.objs.size=none:=dJ _;generalize hC:dc.heap.objs.size=C at hn hs hC3 ⊢;generalize hs4:({dc with heap:=h',toks:=dc.toks+([]:List (Str × ab)).length}:aj)=eJ at eK ⊢;obtain hn4:eJ.heap.Ns C (λx=>([]:List (Str × ab)).reverse.lookup x):=by refine al (aD hs4) ?_;exact hn
  obtain gI:=ja.post eK;obtain pp:=(bb.trans cb).trans eK;have back:∀{s' s'':aj}{σ' cU:AH}{μ' so:List (List aa)}{b:aa},SR P.prog P.w P.h₀ σ' μ' s'.heap->aG P μ' cU so s' s''->s''.heap.get? b=none->s'.heap.get? b=none:=by
   intro s' s'' σ' cU μ' so b R q e
   induction hq:s'.heap.get? b using bf with
   | none=>rfl
   | some o=>
    by_cases hb:b∈μ'.flatten
    ·obtain ⟨J,o',ho',J⟩:=q.rel.above b (qw q.ext hb);rw[e] at ho';exact aU ho'
    ·have:=q.keep b o hq (.inl hb);rw[e] at this;exact aU this
  obtain hC1:ah.heap.get? C=none:=back bc.rel (bb.trans cb) hC3;obtain hC0:s.heap.get? C=none:=back H.rel p hC1;obtain hCm:C∉(ax++[[D]]).flatten:=jR ja.rel hC3;obtain hCf:C∉FA env:=mU ja.cr hC3;have CC:=D3 gI.cr hcm ok hCm hCf ⟨_,hn4⟩ n;have habove:x7 P (fW scope (cellsFor env scope.names []) C env):=by
   intro b hb;obtain ⟨J,h2,J,J⟩:=lW (env:=env) scope.names [] (λx a e=>by exact aU e)
   rcases aV.mp hb with hb | hb
   ·erw[hb];refine (?_:P.h₀.get? C=none)
    induction q:P.h₀.get? C using bf with
    | none=>rfl
    | some o=>have:=H.base C o q;rw[hC0] at this;exact nomatch this
   ·obtain ⟨q,hq,rfl⟩:=aL.mp hb;rcases h2 q hq with z | z
    ·exact absurd z am
    ·exact H.above _ (kM z)
  have H5:bT P d {c with cm:=some scope.names} A (fW scope (cellsFor env scope.names []) C env) ρ (cV n none) (az.new (.lst [])) (ax++[[D]]) eJ:=⟨gI.room,gI.base,gI.rel,CC,habove⟩;(refine aI λkK=>?_;obtain ⟨ft,eft,hkl,M,kdm,eM,hDM⟩:=H5.rel.objs m _ (show (az.new (.lst [])).m m=some (.dct kws) from qK (bc.rel.lt em) em);refine kK ?_;clear kK)
  subst eM;obtain ⟨vs,hvl,hvs,hbare⟩:=OM (μ':=[[M]]) (hDM.at hkw);have hItm:I∉(ax++[[D]]).flatten:=λhm=>by
   rcases (cb.trans eK).fresh I hm with q | q
   ·exact jR bc.rel h0 q
   ·obtain ⟨o,ho,J⟩:=qM hit2;rw[ho] at q;exact nomatch q
  obtain hit4:eJ.heap.IsKeyIter I B 0 es.size ep:=hit2.at λo e=>(cb.trans eK).keep I o e (.inl (jR bc.rel h0));have hIC:I∉FA (fW scope (cellsFor env scope.names []) C env):=by
   intro hb;obtain ⟨J,h2,J,J⟩:=lW (env:=env) scope.names [] (λx a e=>by exact aU e)
   rcases aV.mp hb with hb | hb
   ·obtain ⟨o,ho,J⟩:=qM (hit2.at λo e=>cb.keep I o e (.inl (jR bc.rel h0)));rw[hb] at ho;have:dc.heap.get? C=some o:=ho;rw[hC3] at this;exact aU this
   ·obtain ⟨q,hq,hqe⟩:=aL.mp hb;rcases h2 q hq with z | z
    ·exact absurd z am
    ·exact mU bc.cr h0 (hqe▸kM z)
  obtain eDb:(ax++[[D]])[l]? =some [B]:=OO eD;obtain hBm:B∈(ax++[[D]]).flatten:=fL eDb (.head _);obtain hBC:B∉FA (fW scope (cellsFor env scope.names []) C env):=λhb=>(CC.own B hb).1 hBm;obtain hBM:B∉([[M]]:List (List aa)).flatten:=λh=>mS H5.rel.apart eDb eft hlm B (.head _) (by simpa using h)
  obtain hIM:I∉([[M]]:List (List aa)).flatten:=λh=>hItm (fL eft (by simpa using h))
  obtain Rs:SR P.prog P.w P.h₀ ⟨1,λx=>if x=0 then some (.dct (bare kws vs)) else none⟩ [[M]] eJ.heap:=by
   refine ⟨rfl,λl' o e=>?_,by simp,λb hb=>H5.rel.above b (fL eft (by simpa using hb))⟩
   dsimp only at e
   split at e
   ·rename_i hl;subst hl;obtain rfl:=aO e;exact ⟨[M],rfl,by unfold bare;erw[List.length_zip];simp only[ay];lia,M,.ts,rfl,hbare⟩
   ·exact nomatch e
  have Cs:CR {c with cm:=some scope.names} (fW scope (cellsFor env scope.names []) C env) (cV j none++[some (.ref 0)]) (cV n none) eJ.heap [[M]]:=
   {CC with
    own:=λb hb=>⟨λh=>(CC.own b hb).1 (fL eft (by simpa using h)),(CC.own b hb).2⟩
    loc:=λx i' e v hv=>by
     by_cases hij:i'=j
     ·subst hij;rw[oe (by simp)] at hv
      simp at hv;subst hv;obtain ⟨val,h1,h2⟩:=CC.loc x i' e _ ej;refine ⟨val,h1,?_⟩;cases h2 with
      | ref e2=>rw[eft] at e2;(have hH:=Cf (aO e2);clear e2;obtain ⟨hH1,hH2⟩:=hH;subst hH1;first | subst hH2 | clear hH2);exact .ref rfl
     ·rcases Nat.lt_or_ge i' j with q | q
      ·rw[nT (by simpa using q),Cz,if_pos q] at hv;exact nomatch hv
      ·rw[oa (by simp;lia)] at hv;exact nomatch hv
    cl:=λx i e v hv=>by
     rw[Cz] at hv
     split at hv<;>(first | cases hv | exact aU hv)}
  obtain ksx:∀x∈kvs.map (·.1),kindOf x=some .ts/\x∈kws.map (·.1):=λx hx=>by
   obtain ⟨q,hq,rfl⟩:=aL.mp hx;exact hkv q hq
  have loop:=λ(s5:aj) L=>OQ (P:=P) (S:=S) (d:=d) (A:=A) (s:=s5) (c:={c with cm:=some scope.names}) (env:=fW scope (cellsFor env scope.names []) C env) (ρ:=cV j none++[some (.ref 0)]) (κ:=cV n none) (σ:=⟨1,λx=>if x=0 then some (.dct (bare kws vs)) else none⟩) (μ:=[[M]])
   (elt:=elt) (gens:=g::gs) (scope:=scope) (pos:=pos) (k:=0) (g:=g) rfl rfl hg st si (R:=compPost P.M A E use K (.ref D) C) (sb:=eJ) (I:=I) (D:=B) (es:=es) (ep:=ep) (xs:=kvs.map (·.1)) (acc:= .ref D) (N:=n)
   (by
    induction q:P.h₀.get? I using bf with
    | none=>rfl
    | some o=>have:=bc.base I o q;rw[h0] at this;exact aU this)
   (λx hx κ fE=>by
    refine ⟨⟨rfl,rfl,by erw[List.length_set];exact fE⟩,?_⟩
    refine kJ (v:=x) (xo.mpr (by (erw[List.getElem?_set_self (by lia)];ac_rfl))) ?_
    refine kJ (v:= .ref 0) (xo.mpr (by erw[oe (by simp)];simp)) ⟨true,.inl ⟨bare kws vs,rfl,⟨.ts,(ksx x hx).1,λq hq=>?_⟩,?_⟩,rfl,rfl⟩
    ·have:q.1∈kws.map (·.1):=by erw[aD (qL hvl)];exact aL.mpr ⟨q,hq,rfl⟩
     obtain ⟨z,hz,e⟩:=aL.mp this;erw[aD e];exact hkw z hz
    ·exact (Ef (by refine al (qL hvl) ?_;exact (ksx x hx).2)).symm)
   (λsl κ' s' L z1=>by
    obtain ⟨h5,e5,hx5⟩:=z1;obtain hF:∀b∈[C,I],b∉(ax++[[D]]).flatten:=λb hb=>by
     rcases aV.mp hb with e | hb
     ·erw[e];exact hCm
     ·rw[aF] at hb;erw[hb];exact hItm
    (refine aI λkK=>?_;obtain ⟨ft6,e6,hk6,M6,kd6,e7,hD6⟩:=L.pre.rel.objs 0 _ (show (if 0=0 then some (AO.dct (bare kws vs)) else none)=_ from if_pos rfl);refine kK ?_;clear kK)
    obtain rfl:=aO e6;cases e7;obtain hO:OR P.prog P.w sl.heap (ax++[[D]]) (.dct kws) [M]:=⟨hkl,M,.ts,rfl,ON hvl (hvs.mono L.post.frz λJ J e=>e) (hD6.at λq hq=>by
     have:q.1∈kws.map (·.1):=by erw[aD (qL hvl)];exact aL.mpr ⟨q,hq,rfl⟩
     obtain ⟨z,hz,e⟩:=aL.mp this;erw[aD e];exact hkw z hz)⟩
    obtain pf:=OS H5.rel eft L.post (show (az.new (.lst [])).m m=some (.dct kws) from qK (bc.rel.lt em) em) hO hF
    obtain p5:bg P [] ax (az.new (.lst [])) (ax++[[D]]) ah sl:=bg.drop (F:=[]) pp.toF pf λx hx=> .inr (by
     rcases aV.mp hx with e | hx
     ·erw[e];exact hC1
     ·rw[aF] at hx;erw[hx];exact h0)
    obtain hcold:∀o,sl.heap.get? I=some o->¬frozen o:=λo ho z=>by
     obtain ⟨o',ho',hz⟩:=qM L.it;rw[ho] at ho';obtain rfl:=aO ho';exact hz z
    obtain p6:=p5.ends (t:=sl.toks) h0 hItm hcold hx5;subst e5;obtain hCI:C≠I:=λe=>hIC (e▸List.mem_cons_self ..);refine hK D C _ (.ref az.next) _ _ hC0 hCm ?_ hQ (p.trans p6.toPost) (.ref (by refine al bc.rel.next ?_;exact iP))
    (refine aI λkK=>?_;obtain ⟨mm,o,es',ep',ho,r⟩:=L.pre.cr.ns;refine kK ?_;clear kK);exact ⟨mm,o,es',ep',hx5 C o hCI ho,r⟩)
   (i:=0) L (by simp) (du _)
  obtain hks4:aB eJ.heap [[M]] (kvs.map (·.1)) (es.toList.map (·.key)):=(hks [[M]]).mono (λb o e z=>pp.keep b o e (.inr z)) λJ J e=>e
  obtain L0:lX P d {c with cm:=some scope.names} A (fW scope (cellsFor env scope.names []) C env) eJ I B es ep (kvs.map (·.1)) 0 (cV j none++[some (.ref 0)]) (cV n none) ⟨1,λx=>if x=0 then some (.dct (bare kws vs)) else none⟩ [[M]] eJ:=
   ⟨⟨gI.room,gI.base,Rs,Cs,habove⟩,(aG.refl Rs).toF,hit4,hrd2.at λo e=>(by erw[aD hs4];exact hk4 B o (by erw[aD hs3];exact cp _ e)),hIM,hBM,hIC,hBC,hID,hks4⟩
  exact yn (g:=g) rfl hg (loop eJ L0) (wpAny_pyIter_keyiter hit4 (loop eJ L0))
theorem Ek(hcm:c.cm=none){elt:av}{g:bS}{gs:List bS}{scope:dj}{pos:Pos}(hg:g.is_async=0){a ai:AE}{t:AT}{ifs:AL}{ag:AG}{n:Nat}(ok:fX c.fn scope=true)
  (hi:SE P S d c ai g.iter) (hset:∀env x,kB g.iter env x=pure x)
  (st:SA P S d {c with cm:=some scope.names} t g.target) (si:SI P S d {c with cm:=some scope.names} ifs g.ifs)
  (sin:∀ρ bO,jQ P d {c with cm:=some scope.names} ρ bO (λκ σ k=>wG P S d ag (mW P S d a ρ) ρ bO κ σ k) λenv acc=>gp (.ListComp elt (g::gs) scope pos) elt (g::gs) 0 acc env)
  {Q:AV->AH->Prop} (H:bT P d c A env ρ κ σ μ s) (hw:wE P S d (.comp a (.cons t ai ifs ag) n) ρ κ σ Q) {use:Option (ab->Sem Unit)} {K:ab->aj->Prop}
  (hK:∀(D C:aa)(ah:aj)(v:AV)(σ':AH)(μ':List (List aa)),s.heap.get? C=none->C∉μ'.flatten->(∃m,ah.heap.Ns C m)->Q v σ'->aG P μ σ' μ' s ah->VR ah.heap μ' v (.ref D)->compPost P.M A E use K (.ref D) C (.ok .next) ah):
  aw P.M A (sP (.ListComp elt (g::gs) scope pos) scope env (sQ (g::gs) pos) (newList []) false (bE g.iter env) use) K E s:=by
 rcases (show _\/_ from hw) with hw | hw
 ·exact OT hcm hg ok hi hset st si H hw hK
 ·exact Oo hcm hg ok hi hset st si sin H hw hK
theorem El(hcm:c.cm=none){elt:av}{g:bS}{gs:List bS}{scope:dj}{pos:Pos}(hg:g.is_async=0){a ai:AE}{t:AT}{ifs:AL}{ag:AG}{n:Nat}(ok:fX c.fn scope=true)
  (hi:SE P S d c ai g.iter) (hset:∀env x,kB g.iter env x=pure x)
  (st:SA P S d {c with cm:=some scope.names} t g.target) (si:SI P S d {c with cm:=some scope.names} ifs g.ifs)
  (sin:∀ρ bO,jQ P d {c with cm:=some scope.names} ρ bO (λκ σ k=>wG P S d ag (mW P S d a ρ) ρ bO κ σ k) λenv acc=>gp (.ListComp elt (g::gs) scope pos) elt (g::gs) 0 acc env):
  SE P S d c (.comp a (.cons t ai ifs ag) n) (.ListComp elt (g::gs) scope pos):=λenv A s σ μ ρ κ Q E H hw=>by
 have e:bE (.ListComp elt (g::gs) scope pos) env=sP (.ListComp elt (g::gs) scope pos) scope env (sQ (g::gs) pos) (newList []) false (bE g.iter env) none:=by
  rewrite[eval_ListComp];have:firstAsync (g::gs)=false:=by
   (refine aI λkK=>?_;obtain ⟨J,J,J,as⟩:=g;refine kK ?_;clear kK);dsimp only at hg;subst hg;rfl
  obtain e2:firstIter (g::gs) env=bE g.iter env:=by
   obtain ⟨J,J,J,as⟩:=g;rfl
  ((erw[this];erw[e2]);ac_rfl)
 refine al e ?_;refine Ek hcm hg ok hi hset st si sin H hw (use:=none) λD C ah v σ' μ' h0 hm hn q p hv=>?_;obtain ⟨m,hm'⟩:=id hn;refine ⟨m,hm',λh' hs=>?_⟩;obtain ⟨p',hz⟩:=p.endC (v:=v) (t:=ah.toks) h0 hm hn hs.extBut;exact ⟨v,σ',μ',q,p',hv.mono hz λJ J e=>e⟩
end
section
variable{P:PW}{S:aN}{d:Nat}{c:Ctx}{A:bh}{env:Env}{E:ab->aj->Prop}{s ah aR:aj}{σ az bu:AH}{μ ax bF:List (List aa)}{ρ κ eV iB:ac}
theorem Em{t:av}(hp:fh t=true):(qd [t] env).map (·.2)=[fT t env]:=by
 erw[qH (by simp[hp])]
 rfl
theorem En(hcm:c.cm=none){t e:av}{x:AT}(hx:TO c x t)(ht:SA P S d c x t)(hp:fh t=true)(hok:kR t e=true){v:AV}{val:ab}{Q:Fl->ac->AH->Prop}(H:bT P d c A env ρ [] σ μ s)(hv:VR s.heap μ v val)
  (hw:wA P S d x v ρ [] σ λbe cS ao=>cS=[]/\Q .next be ao):
  aw P.M A (sS [t] e env>>=λsw=>assignStores env val sw ((qd [t] env).map (·.2))) (gq P c env μ s Q) E s:=by
 erw[Em hp];rcases swapped_cases H.cr hok with e1 | ⟨ts,k,p,names,rfl,e1,h2,h3,h4,line,h5⟩
 ·erw[e1];refine ak (aC ?_);refine (?_:aw _ _ (assignAll val [fT t env]>>=λJ=>pure Flow.next) _ _ _);exact ak (aQ (OC hcm ht H hv hw) (λJ J r=>aC r) λJ J e=>e)
 ·erw[e1];refine ak (aC ?_);obtain ⟨as,rfl,hx1⟩:∃as,x= .tup as/\kG c ts as:=by
   induction x using AT.casesOn with
   | tup as=>exact ⟨as,rfl,hx⟩
   | _=>exact dn hx
  have h5':names=ts.filterMap (ij env line):=h5;exact OK hcm h2 h3 h4 h5' hx1 H hv hw
theorem Eo{t e:av}{pos:Pos}:exec (.Assign [t] e pos) env=(do
  gQ pos
  if <-swapsWith e (some t) pos.line env then do
   evalThenUse e env λv=>assignAll v ((qd [t] env).map (·.2))
   pure .next
  else do
   let v <-bE e env
   let sw <-sS [t] e env
   assignStores env v sw ((qd [t] env).map (·.2))):=rfl
theorem OU(hcm:c.cm=none){t e:av}{pos:Pos}{x:AT}{a:AE}(hx:TO c x t)(ht:SA P S d c x t)(hp:fh t=true)(ha:SE P S d c a e)(hn:mO e=true)(hok:kR t e=true):SS P S d c (.asg x a) (.Assign [t] e pos):=λenv A s σ μ ρ Q E H h=>by
 (erw[Eo];erw[D5 hn]);simp only[jK,if_false,pure_bind];refine ak (dI (ak (cB (ha _ _ _ _ _ _ _ _ _ H h) λv val az ax ah q p hv=>?_)));exact aQ (En hcm hx ht hp hok (H.post p) hv q) (λJ J r=>r.trans p.toF) λJ J e=>e
theorem OV{elt:av}{gens:List bS}{scope:dj}{cpos:Pos}{t:av}{line:Nat}:∃b,swapsWith (.ListComp elt gens scope cpos) (some t) line env=pure b:=by
 unfold swapsWith
 induction t using lK<;>exact ⟨_,rfl⟩
theorem OW(hcm:c.cm=none){t:av}{pos:Pos}{x:AT}(hx:TO c x t)(ht:SA P S d c x t)(hp:fh t=true){elt:av}{g:bS}{gs:List bS}{scope:dj}{cpos:Pos}(hok:kR t (.ListComp elt (g::gs) scope cpos)=true)
  (hg:g.is_async=0) {a ai:AE} {tt:AT} {ifs:AL} {ag:AG} {n:Nat} (ok:fX c.fn scope=true)
  (hi:SE P S d c ai g.iter) (hset:∀env x,kB g.iter env x=pure x)
  (st:SA P S d {c with cm:=some scope.names} tt g.target) (si:SI P S d {c with cm:=some scope.names} ifs g.ifs)
  (sin:∀ρ bO,jQ P d {c with cm:=some scope.names} ρ bO (λκ σ k=>wG P S d ag (mW P S d a ρ) ρ bO κ σ k) λenv acc=>gp (.ListComp elt (g::gs) scope cpos) elt (g::gs) 0 acc env):
  SS P S d c (.asg x (.comp a (.cons tt ai ifs ag) n)) (.Assign [t] (.ListComp elt (g::gs) scope cpos) pos):=λenv A s σ μ ρ Q E H h=>by
 obtain ⟨b,hb⟩:=OV (env:=env) (elt:=elt) (gens:=g::gs) (scope:=scope) (cpos:=cpos) (t:=t) (line:=pos.line);(erw[Eo];erw[hb]);simp only[pure_bind];refine ak (dI ?_)
 induction b using bC
 ·simp only[jK,if_false];refine ak (cB (El hcm hg ok hi hset st si sin _ _ _ _ _ _ _ _ _ H h) λv val az ax ah q p hv=>?_);exact aQ (En hcm hx ht hp hok (H.post p) hv q) (λJ J r=>r.trans p.toF) λJ J e=>e
 ·simp only[if_true];erw[Em hp];have e1:evalThenUse (.ListComp elt (g::gs) scope cpos) env (λv=>assignAll v [fT t env])=(sP (.ListComp elt (g::gs) scope cpos) scope env (sQ (g::gs) cpos) (newList []) false (bE g.iter env) (some λv=>fT t env v)>>=λJ=>pure ()):=by
   have h1:firstAsync (g::gs)=false:=by
    obtain ⟨J,J,J,as⟩:=g;dsimp only at hg;subst hg;rfl
   have h2:firstIter (g::gs) env=bE g.iter env:=by
    obtain ⟨J,J,J,as⟩:=g;rfl
   refine (?_:(sP (.ListComp elt (g::gs) scope cpos) scope env (sQ (g::gs) cpos) (newList []) (firstAsync (g::gs)) (firstIter (g::gs) env) (some λv=>assignAll v [fT t env])>>=λJ=>pure ())=_);(erw[h1];erw[h2]);rfl
  erw[e1];refine ak (ak (Ek hcm hg ok hi hset st si sin H h (use:=some λv=>fT t env v)
   (K:=λJ s'=>aw P.M A (pure ()) (λJ s'=>aw P.M A (pure Flow.next) (gq P c env μ s Q) E s') E s') λD C ah v σ' μ' h0 hm hn q p hv=>?_))
  have bc:=H.post p;have hCf:=mU H.cr h0;refine (?_:aw P.M A (fT t env (.ref D)) _ E ah);refine aQ (ht _ _ _ _ _ _ _ _ _ _ _ bc hv q) (λJ aR z_5=>?_) λJ J e=>e;obtain ⟨ρ',κ',bu,bF,⟨ek,hq⟩,bb,LI⟩:=z_5;subst ek;rw[D6 hcm] at bb;obtain ⟨m,oC,es,ep,hoC,hdC,hr⟩:=id hn;have hoC2:aR.heap.get? C=some oC:=bb.keep C oC hoC (.inl ⟨hm,hCf⟩);have hn2:aR.heap.Ns C m:=⟨oC,es,ep,hoC2,hdC,hr⟩;refine ⟨m,hn2,λh' hs=>aC (aC ?_)⟩;have hCm2:C∉bF.flatten:=by
   intro hb;rcases bb.fresh C hb with z | z
   ·exact hm z
   ·rw[hoC] at z;cases z
  have hz:∀o,aR.heap.get? C=some o->¬frozen o:=λo e=>by rw[hoC2] at e;(have hH:=aO e;clear e;subst hH);exact qr hdC
  have pp:=(p.toF (F:=FA env)).trans bb;exact ⟨.next,ρ',bu,bF,hq,bg.ends (t:=aR.toks) pp h0 hCm2 hz hs.extBut,LI.keeps (λb hb o e=>hs.extBut b o (λz=>hCf (z▸hb)) e) (λb o e z=>hs.extBut b o (λy=>hz o (y▸e) z) e) (λJ J e=>e) λb hb=>(LI.own b hb).1,.next⟩
end
theorem Ep{a b c:Bool}(h:(a && b && c)=true):a=true/\b=true/\c=true:=by
 obtain ⟨h,h3⟩:=gP.mp h;obtain ⟨h1,h2⟩:=gP.mp h;exact ⟨h1,h2,h3⟩
theorem d4{a b:Bool}(h:(a && b)=true):a=true/\b=true:=gP.mp h
theorem yq{α:Type}{l:List α}{k:Nat}{r:List α}(h:l.drop k=r):(∀g q,r=g::q->l[k]? =some g/\l.drop (k+1)=q)/\(r=[]->l[k]? =none):=by
 refine ⟨λg q e=>?_,λe=>?_⟩
 ·subst e;have h1:(l.drop k)[0]? =some g:=by erw[h];rfl
  rw[sU,Nat.add_zero] at h1;have h2:(l.drop k).drop 1=q:=by erw[h];rfl
  rw[xu] at h2;exact ⟨h1,h2⟩
 ·subst e;rewrite[Cg];exact LZ.mp h
def tm(e:av):Prop:=e.ctorIdx≠16\/∀id p pos,e= .Call (.Name id p) [] [] pos->id≠("super":Str)
theorem tm.get{e:av}(h:tm e):∀id p pos,e= .Call (.Name id p) [] [] pos->id≠("super":Str):=h.elim (λn id p pos q=>absurd (q▸rfl) n) id
structure yr(P:PW)(S:aN)(d:Nat)(c:Ctx)(a:AE)(e:av):Prop where
 se:SE P S d c a e
 st:ST P S d c a e
 pl:fh e=true
 su:tm e
 fs:∀env x,kB e env x=pure x
structure yt(P:PW)(S:aN)(d:Nat)(c:Ctx)(a:AL)(es:List av):Prop where
 sl:SL P S d c a es
 pl:es.all fh=true
 sb:∀op,SB P S d c (mT op) op a es
 ta:∀op,oA P S d c (mT op) op a es
 si:SI P S d c a es
 em:a= .nil↔es=[]
abbrev IE(c:Ctx)(a:AE)(e:av):Prop:=∀(P:PW)(S:aN)(O:cg P S)(d:Nat),yr P S d c a e
abbrev IL(c:Ctx)(a:AL)(e:List av):Prop:=∀(P:PW)(S:aN)(O:cg P S)(d:Nat),yt P S d c a e
abbrev IC(c:Ctx)(a:AC)(ops:List dU)(es:List av):Prop:=lastMarks ops es=false/\ops≠[]/\∀(P:PW)(S:aN)(O:cg P S)(d:Nat),SC P S d c a ops es
abbrev IG(c:Ctx)(g:AG)(gs:List bS):Prop:=∀(P:PW)(S:aN)(O:cg P S)(d:Nat)(hc:c.cm.isSome=true){elt:av}{a:AE}(he:SE P S d c a elt)
  (gens:List bS) (scope:dj) (pos:Pos) (k:Nat) (ρ:ac) (bO:Nat),gens.drop (k+1)=gs->jQ P d c ρ bO (λκ σ k=>wG P S d g (mW P S d a ρ) ρ bO κ σ k) λenv acc=>gp (.ListComp elt gens scope pos) elt gens k acc env
abbrev IT(c:Ctx)(t:AT)(e:av):Prop:=(xM c t e/\TO c t e)/\fh e=true/\∀(P:PW)(S:aN)(O:cg P S)(d:Nat),SA P S d c t e
abbrev mX(c:Ctx)(t:dC)(es:List av):Prop:=kG c es t/\es.all fh=true/\t.len=es.length/\∀(P:PW)(S:aN)(O:cg P S)(d:Nat),qG P S d c t es
section
variable{c:Ctx}{a:AE}{t:AT}(e:av)
noncomputable def Er(k:∀o vs p,Sure (IE c a (.BoolOp o vs p))):Sure (IE c a e):=(dec (e.ctorIdx=0)).bind λh=>Expr.BoolOp.elim (motive_1:=λe=>Sure (IE c a e)) e h.1 k
noncomputable def OX(k:∀l o r p,Sure (IE c a (.BinOp l o r p))):Sure (IE c a e):=(dec (e.ctorIdx=2)).bind λh=>Expr.BinOp.elim (motive_1:=λe=>Sure (IE c a e)) e h.1 k
noncomputable def Es(k:∀o y p,Sure (IE c a (.UnaryOp o y p))):Sure (IE c a e):=(dec (e.ctorIdx=3)).bind λh=>Expr.UnaryOp.elim (motive_1:=λe=>Sure (IE c a e)) e h.1 k
noncomputable def OY(k:∀x y z p,Sure (IE c a (.IfExp x y z p))):Sure (IE c a e):=(dec (e.ctorIdx=5)).bind λh=>Expr.IfExp.elim (motive_1:=λe=>Sure (IE c a e)) e h.1 k
noncomputable def Et(k:∀ks vs p,Sure (IE c a (.Dict ks vs p))):Sure (IE c a e):=(dec (e.ctorIdx=6)).bind λh=>Expr.Dict.elim (motive_1:=λe=>Sure (IE c a e)) e h.1 k
noncomputable def OZ(k:∀y g s p,Sure (IE c a (.ListComp y g s p))):Sure (IE c a e):=(dec (e.ctorIdx=8)).bind λh=>Expr.ListComp.elim (motive_1:=λe=>Sure (IE c a e)) e h.1 k
noncomputable def O0(k:∀y o es p,Sure (IE c a (.Compare y o es p))):Sure (IE c a e):=(dec (e.ctorIdx=15)).bind λh=>Expr.Compare.elim (motive_1:=λe=>Sure (IE c a e)) e h.1 k
noncomputable def Eu(k:∀f as ks p,Sure (IE c a (.Call f as ks p))):Sure (IE c a e):=(dec (e.ctorIdx=16)).bind λh=>Expr.Call.elim (motive_1:=λe=>Sure (IE c a e)) e h.1 k
noncomputable def qN(k:∀k u p,Sure (IE c a (.Constant k u p))):Sure (IE c a e):=(dec (e.ctorIdx=19)).bind λh=>Expr.Constant.elim (motive_1:=λe=>Sure (IE c a e)) e h.1 k
noncomputable def O1(k:∀es p,Sure (IE c a (.List es p))):Sure (IE c a e):=(dec (e.ctorIdx=24)).bind λh=>Expr.List.elim (motive_1:=λe=>Sure (IE c a e)) e h.1 k
noncomputable def O2(k:∀v n p,Sure (IE c a (.Attribute v n p))):Sure (IE c a e):=(dec (e.ctorIdx=20)).bind λh=>L3 (motive_1:=λe=>Sure (IE c a e)) e h.1 k
noncomputable def Ev(k:∀y i p,Sure (IE c a (.Subscript y i p))):Sure (IE c a e):=(dec (e.ctorIdx=21)).bind λh=>Expr.Subscript.elim (motive_1:=λe=>Sure (IE c a e)) e h.1 k
noncomputable def O3(k:∀x p,Sure (IE c a (.Name x p))):Sure (IE c a e):=(dec (e.ctorIdx=23)).bind λh=>Expr.Name.elim (motive_1:=λe=>Sure (IE c a e)) e h.1 k
noncomputable def O4(k:∀es k p,Sure (IE c a (.Tuple es k p))):Sure (IE c a e):=(dec (e.ctorIdx=25)).bind λh=>Expr.Tuple.elim (motive_1:=λe=>Sure (IE c a e)) e h.1 k
noncomputable def O5(k:∀v n p,Sure (IT c t (.Attribute v n p))):Sure (IT c t e):=(dec (e.ctorIdx=20)).bind λh=>L3 (motive_1:=λe=>Sure (IT c t e)) e h.1 k
noncomputable def O6(k:∀a i p,Sure (IT c t (.Subscript a i p))):Sure (IT c t e):=(dec (e.ctorIdx=21)).bind λh=>Expr.Subscript.elim (motive_1:=λe=>Sure (IT c t e)) e h.1 k
noncomputable def Ew(k:∀x p,Sure (IT c t (.Name x p))):Sure (IT c t e):=(dec (e.ctorIdx=23)).bind λh=>Expr.Name.elim (motive_1:=λe=>Sure (IT c t e)) e h.1 k
noncomputable def O7(k:∀es k p,Sure (IT c t (.Tuple es k p))):Sure (IT c t e):=(dec (e.ctorIdx=25)).bind λh=>Expr.Tuple.elim (motive_1:=λe=>Sure (IT c t e)) e h.1 k
noncomputable def O8{x:av}{p:Pos}(k:∀l u t q,Sure (IE c a (.Subscript x (.Slice l u t q) p))):Sure (IE c a (.Subscript x e p)):=(dec (e.ctorIdx=26)).bind λh=>Expr.Slice.elim (motive_1:=λe=>Sure (IE c a (.Subscript x e p))) e h.1 k
noncomputable def O9{as:List av}{p:Pos}(k:∀v n q,Sure (IE c a (.Call (.Attribute v n q) as [] p))):Sure (IE c a (.Call e as [] p)):=(dec (e.ctorIdx=20)).bind λh=>L3 (motive_1:=λe=>Sure (IE c a (.Call e as [] p))) e h.1 k
end
section
variable{P:PW}{S:aN}{d:Nat}{c:Ctx}
theorem eX{a:AE}{e:av}(h:SE P S d c a e)(he:∀env whole,isTrue e env whole=(do let v <-whole;gQ e.pos;eW [v] (truthy v)))(hw:∀whole ρ κ σ Q,wT P S d a whole ρ κ σ Q=whole λv ae=>jO v λb=>Q b ae)(su:tm e)(pl:fh e=true)(fs:∀env x,kB e env x=pure x):yr P S d c a e:=
 ⟨h,NZ h he hw,pl,su,fs⟩
theorem Pa{a:AE}{e:av}{r:AL}{q:List av}(k:yr P S d c a e)(l:yt P S d c r q):yt P S d c (.cons a r) (e::q):=by
 refine ⟨Nz k.se l.sl,by (erw[lF];erw[k.pl];erw[l.pl]);rfl,λop=>?_,λop=>NU k.st (l.ta op),Oj k.st l.si,⟨(λe=>nomatch e),λe=>nomatch e⟩⟩
 cases r with
 | nil=>cases l.em.mp rfl;exact NO k.se
 | cons b r=>
  induction q using bQ with
  | nil=>exact nomatch l.em.mpr rfl
  | cons _ _=>exact NP k.se (l.sb op)
end
noncomputable def Pb:(a b:AE)->Sure (a=b)
 | .loc i,.loc j=>(dec (i=j)).map λh=>⟨congrArg _ h.1⟩
 | .cl i,.cl j=>(dec (i=j)).map λh=>⟨congrArg _ h.1⟩
 | .glob i,.glob j=>(dec (i=j)).map λh=>⟨congrArg _ h.1⟩
 | J1,J2=>none
noncomputable def eqT:(a b:AT)->Sure (a=b)
 | .loc i,.loc j=>(dec (i=j)).map λh=>⟨congrArg _ h.1⟩
 | .cl i,.cl j=>(dec (i=j)).map λh=>⟨congrArg _ h.1⟩
 | J1,J2=>none
noncomputable def Pc(c:Ctx)(x:Str)(a:AE):Sure (c.name x=some a):=(opt (c.name x)).bind λo=>(Pb o.1 a).map λe=>⟨o.2.trans (congrArg some e.1)⟩
noncomputable def Ex(c:Ctx)(x:Str)(a:AT):Sure (c.target x=some a):=(opt (c.target x)).bind λo=>(eqT o.1 a).map λe=>⟨o.2.trans (congrArg some e.1)⟩
abbrev qO(a:AE):Prop:=∀(P:PW)(S:aN)(d:Nat) whole ρ κ σ Q,wT P S d a whole ρ κ σ Q=whole λv ae=>jO v λb=>Q b ae
noncomputable def bv{p:Prop}(h:p):Sure p:=some ⟨h⟩
noncomputable def Sure.ap{p q:Prop}(f:Sure (p->q))(x:Sure p):Sure q:=f.bind λf=>x.map λx=>⟨f.1 x.1⟩
noncomputable def fi{α:Type}{C:List α->Prop}(l:List α)(k:Sure (C [])):Sure (C l):=bQ (motive:=λl=>Sure (C l)) l k λJ J=>none
noncomputable def fM{α:Type}{C:List α->Prop}(l:List α)(k:∀x r,Sure (C (x::r))):Sure (C l):=bQ (motive:=λl=>Sure (C l)) l none k
theorem Pd{c:Ctx}{a:AE}{x:Str}{p:Pos}(hw:qO a)(se:∀{P:PW}{S:aN}(O:cg P S){d:Nat}{x:Str}{pos:Pos},¬x=("__debug__":Str)->c.name x=some a->SE P S d c a (.Name x pos))(h:¬x=("__debug__":Str))(k:c.name x=some a):IE c a (.Name x p):=
 λP S O d=>eX (se O h k) (λJ J=>rfl) (hw P S d) (.inl (eA rfl)) rfl λJ J=>rfl
noncomputable def yu(c:Ctx)(a:AE)(e:av)(hw:qO a)(se:∀{P:PW}{S:aN}(O:cg P S){d:Nat}{x:Str}{pos:Pos},¬x=("__debug__":Str)->c.name x=some a->SE P S d c a (.Name x pos)):Sure (IE c a e):=
 O3 e λx J=>((bv (Pd hw se)).ap (dec (¬x=("__debug__":Str)))).ap (Pc c x a)
theorem Pe{e:av}(h:e.ctorIdx≠20):∀v n q,e≠.Attribute v n q:=λJ J J q=>h (q▸rfl)
noncomputable def noAttr(e:av):Sure (∀v n q,e≠.Attribute v n q):=(bv Pe).ap (dec (e.ctorIdx≠20))
theorem Pf{e:av}(h:e.ctorIdx≠26):∀l u t q,e≠.Slice l u t q:=λJ J J J q=>h (q▸rfl)
noncomputable def Pg(e:av):Sure (∀l u t q,e≠.Slice l u t q):=(bv Pf).ap (dec (e.ctorIdx≠26))
abbrev qP(g:av)(as:List av)(p:Pos):Prop:=∀id q pos,Expr.Call g as [] p= .Call (.Name id q) [] [] pos->id≠("super":Str)
theorem Ph{x:Str}{p0:Pos}{as:List av}{p:Pos}(h:x≠("super":Str)):qP (.Name x p0) as p:=λid q pos e=>by
 injection e with e1;injection e1 with e2;exact e2▸h
theorem Pi{g:av}{as:List av}{p:Pos}(h:¬g.ctorIdx=23):qP g as p:=λid q pos e=>by
 injection e with e1;exact absurd (e1▸rfl) h
noncomputable def Pj(g:av)(as:List av)(p:Pos):Sure (qP g as p):=match decEq g.ctorIdx 23 with
 | .isTrue h=>Expr.Name.elim (motive_1:=λg=>Sure (qP g as p)) g h λx J=>(bv Ph).ap (dec (x≠("super":Str)))
 | .isFalse h=>some ⟨Pi h⟩
abbrev IO(c:Ctx)(a:AE)(z:Option av):Prop:=∀(P:PW)(S:aN)(O:cg P S)(d:Nat),SO P S d c a z
theorem Pk{c:Ctx}{a:AE}{e:av}(k:IE c a e):IO c a (some e):=λP S O d=>NI (k P S O d).se
theorem Pl{c:Ctx}{a:AE}(h:a= .none):IO c a none:=h▸λJ J J J=>NH
noncomputable def Ey(a:AE):Sure (a= .none):=match a with
 | .none=>some ⟨rfl⟩
 | _=>none
noncomputable def yw(c:Ctx)(a:AE)(k:(e:av)->Sure (IE c a e))(z:Option av):Sure (IO c a z):=match z with
 | some e=>(bv Pk).ap (k e)
 | none=>(bv Pl).ap (Ey a)
structure oG(P:PW)(S:aN)(d:Nat)(c:Ctx)(elt:AE)(t:AT)(it:AE)(ifs:AL)(g:AG)(n:Nat)(a:av)(y:bS)(q:List bS)(s:dj):Prop where
 cm:c.cm=none
 as:y.is_async=0
 ok:fX c.fn s=true
 hi:SE P S d c it y.iter
 fs:∀env x,kB y.iter env x=pure x
 st:SA P S d {c with cm:=some s.names} t y.target
 si:SI P S d {c with cm:=some s.names} ifs y.ifs
 sn:∀pos ρ bO,jQ P d {c with cm:=some s.names} ρ bO (λκ σ k=>wG P S d g (mW P S d elt ρ) ρ bO κ σ k) λenv acc=>gp (.ListComp a (y::q) s pos) a (y::q) 0 acc env
 n:s.names.length=n
theorem Pm{c:Ctx}{elt:AE}{t:AT}{it:AE}{ifs:AL}{g:AG}{n:Nat}{a:av}{y:bS}{q:List bS}{s:dj}(h1:c.cm.isNone=true)(h2:y.is_async=0)(h3:fX c.fn s=true)(h4:s.names.length=n)(ki:IE c it y.iter)(kt:IT {c with cm:=some s.names} t y.target)(kf:IL {c with cm:=some s.names} ifs y.ifs)(kg:IG {c with cm:=some s.names} g q)(ke:IE {c with cm:=some s.names} elt a):
  ∀(P:PW)(S:aN)(O:cg P S)(d:Nat),oG P S d c elt t it ifs g n a y q s:=λP S O d=>
 ⟨xw.mp h1,h2,h3,(ki P S O d).se,(ki P S O d).fs,kt.2.2 P S O d,(kf P S O d).si,λpos ρ bO=>kg P S O d rfl (ke P S O d).se _ s pos 0 ρ bO rfl,h4⟩
noncomputable def Ez(c:Ctx)(elt:AE)(t:AT)(it:AE)(ifs:AL)(g:AG)(n:Nat)(a:av)(y:bS)(q:List bS)(s:dj)(ki:Sure (IE c it y.iter))(kt:Sure (IT {c with cm:=some s.names} t y.target))(kf:Sure (IL {c with cm:=some s.names} ifs y.ifs))(kg:Sure (IG {c with cm:=some s.names} g q))(ke:Sure (IE {c with cm:=some s.names} elt a)):
  Sure (∀(P:PW)(S:aN)(O:cg P S)(d:Nat),oG P S d c elt t it ifs g n a y q s):=
 (((((((((bv Pm).ap (dec (c.cm.isNone=true))).ap (dec (y.is_async=0))).ap (dec (fX c.fn s=true))).ap (dec (s.names.length=n))).ap ki).ap kt).ap kf).ap kg).ap ke
theorem Pn{P:PW}{S:aN}{d:Nat}{c:Ctx}{elt:AE}{t:AT}{it:AE}{ifs:AL}{g:AG}{n:Nat}{a:av}{y:bS}{q:List bS}{s:dj}{pos:Pos}(f:oG P S d c elt t it ifs g n a y q s):SE P S d c (.comp elt (.cons t it ifs g) n) (.ListComp a (y::q) s pos):=
 f.n▸El f.cm f.as f.ok f.hi f.fs f.st f.si λρ bO=>f.sn _ ρ bO
noncomputable abbrev ME(a:AE):Type:=∀(c:Ctx)(e:av),Sure (IE c a e)
noncomputable abbrev ML(a:AL):Type:=∀(c:Ctx)(es:List av),Sure (IL c a es)
noncomputable abbrev MC(a:AC):Type:=∀(c:Ctx)(ops:List dU)(es:List av),Sure (IC c a ops es)
noncomputable abbrev MG(g:AG):Type:=(∀(c:Ctx)(gs:List bS),Sure (IG c g gs)) × (∀(elt:AE)(n:Nat),ME elt->ME (.comp elt g n))
noncomputable abbrev MT(t:AT):Type:=∀(c:Ctx)(e:av),Sure (IT c t e)
noncomputable abbrev lY(t:dC):Type:=∀(c:Ctx)(es:List av),Sure (mX c t es)
theorem Po{c:Ctx}{k:Const}{u}{p:Pos}(h:k= .none):IE c .none (.Constant k u p):=by subst h;exact λP S O d=>eX Nn (λJ J=>rfl) (λJ J J J J=>rfl) (.inl (eA rfl)) rfl λJ J=>rfl
noncomputable def tq:ME .none:=λc e=>qN e λk u p=>(bv Po).ap (dec (k= .none))
theorem Pp{c:Ctx}{k:Const}{u}{p:Pos}(h:k= .bool true):IE c .tru (.Constant k u p):=by subst h;exact λP S O d=>eX (DJ true) (λJ J=>rfl) (λJ J J J J=>rfl) (.inl (eA rfl)) rfl λJ J=>rfl
noncomputable def tr:ME .tru:=λc e=>qN e λk u p=>(bv Pp).ap (dec (k= .bool true))
theorem Pq{c:Ctx}{k:Const}{u}{p:Pos}(h:k= .bool false):IE c .fls (.Constant k u p):=by subst h;exact λP S O d=>eX (DJ false) (λJ J=>rfl) (λJ J J J J=>rfl) (.inl (eA rfl)) rfl λJ J=>rfl
noncomputable def tw:ME .fls:=λc e=>qN e λk u p=>(bv Pq).ap (dec (k= .bool false))
theorem Pr{c:Ctx}{k:Const}{u}{p:Pos}{i:Int}(h:k= .int i):IE c (.int i) (.Constant k u p):=by subst h;exact λP S O d=>eX No (λJ J=>rfl) (λJ J J J J=>rfl) (.inl (eA rfl)) rfl λJ J=>rfl
noncomputable def ty(i:Int):ME (.int i):=λc e=>qN e λk u p=>(bv Pr).ap (dec (k= .int i))
theorem Ps{c:Ctx}{x:Str}{u}{p:Pos}{s:List Nat}(h:x.cps.toList=s)(l:x.cps.toList.length<=1000):IE c (.str s) (.Constant (.str x) u p):=by subst h;exact λP S O d=>eX (Np l) (λJ J=>rfl) (λJ J J J J=>rfl) (.inl (eA rfl)) rfl λJ J=>rfl
noncomputable def tz(s:List Nat):ME (.str s):=λc e=>qN e λk u p=>match k with
 | .str x=>((bv Ps).ap (dec (x.cps.toList=s))).ap (dec (x.cps.toList.length<=1000))
 | _=>none
theorem Pt{i:Nat}:qO (.loc i):=λJ J J J J J J J=>rfl
theorem Pv{i:Nat}:qO (.cl i):=λJ J J J J J J J=>rfl
theorem Pw{i:Nat}:qO (.glob i):=λJ J J J J J J J=>rfl
noncomputable def tA(i:Nat):ME (.loc i):=λc e=>yu c (.loc i) e Pt λJ=>Nq
noncomputable def tB(i:Nat):ME (.cl i):=λc e=>yu c (.cl i) e Pv λJ=>Nr
noncomputable def tC(i:Nat):ME (.glob i):=λc e=>yu c (.glob i) e Pw λO J J J=>Nt O
theorem Px{c:Ctx}{a:AE}{f:Nat}{v:av}{n:Str}{p:Pos}(h1:good n=true)(h2:nm n=f)(k:IE c a v):IE c (.attr a f) (.Attribute v n p):=by subst h2;exact λP S O d=>eX (NF O (k P S O d).se h1 (k P S O d).su.get) (λJ J=>rfl) (λJ J J J J=>rfl) (.inl (eA rfl)) rfl λJ J=>rfl
noncomputable def tD(a:AE)(f:Nat)(ia:ME a):ME (.attr a f):=λc e=>O2 e λv n p=>(((bv Px).ap (dec (good n=true))).ap (dec (nm n=f))).ap (ia c v)
theorem Py{c:Ctx}{f:AE}{es:AL}{g:av}{as:List av}{p:Pos}(h:∀v n q,g≠.Attribute v n q)(k:IE c f g)(l:IL c es as)(o:qP g as p):IE c (.call f es) (.Call g as [] p):=λP S O d=>eX (N4 (k P S O d).se (l P S O d).sl (l P S O d).pl h) (λJ J=>rfl) (λJ J J J J=>rfl) (.inr o) rfl λJ J=>rfl
noncomputable def tE(f:AE)(es:AL)(ia:ME f)(il:ML es):ME (.call f es):=λc e=>Eu e λg as ks p=>fi (C:=λks=>IE c (.call f es) (.Call g as ks p)) ks ((((bv Py).ap (noAttr g)).ap (ia c g)).ap (il c as) |>.ap (Pj g as p))
theorem Pz{c:Ctx}{a:AE}{f:Nat}{es:AL}{v:av}{n:Str}{as:List av}{q p:Pos}(h1:good n=true)(h2:nm n=f)(h3:as.length<30)(h4:(q.endLine==p.line)=true)(k:IE c a v)(l:IL c es as):IE c (.meth a f es) (.Call (.Attribute v n q) as [] p):=by subst h2;exact λP S O d=>eX (N7 O (k P S O d).se (l P S O d).sl (l P S O d).pl h1 h3 h4 (k P S O d).su.get) (λJ J=>rfl) (λJ J J J J=>rfl) (.inr λJ J J e=>nomatch e) rfl λJ J=>rfl
noncomputable def tH(a:AE)(f:Nat)(es:AL)(ia:ME a)(il:ML es):ME (.meth a f es):=λc e=>Eu e λg as ks p=>fi (C:=λks=>IE c (.meth a f es) (.Call g as ks p)) ks (O9 g λv n q=>((((((bv Pz).ap (dec (good n=true))).ap (dec (nm n=f))).ap (dec (as.length<30))).ap (dec ((q.endLine==p.line)=true))).ap (ia c v)).ap (il c as))
theorem PA{c:Ctx}{op o:nQ}{a b:AE}{x y:av}{p:Pos}(h:o=op)(k:IE c a x)(l:IE c b y):IE c (.bin op a b) (.BinOp x o y p):=by subst h;exact λP S O d=>eX (Nu (k P S O d).se (l P S O d).se) (λJ J=>rfl) (λJ J J J J=>rfl) (.inl (eA rfl)) rfl λJ J=>rfl
noncomputable def tI(op:nQ)(a b:AE)(ia:ME a)(ib:ME b):ME (.bin op a b):=λc e=>OX e λx o y p=>(((bv PA).ap (dec (o=op))).ap (ia c x)).ap (ib c y)
theorem v_not{c:Ctx}{a:AE}{o:UnaryOp}{x:av}{p:Pos}(h:o= .Not)(k:IE c a x):IE c (.not a) (.UnaryOp o x p):=by subst h;exact λP S O d=>⟨Nv (k P S O d).se,NX (k P S O d).st,rfl,(.inl (eA rfl)),λJ J=>rfl⟩
noncomputable def tJ(a:AE)(ia:ME a):ME (.not a):=λc e=>Es e λo x p=>((bv v_not).ap (dec (o= .Not))).ap (ia c x)
theorem PB{c:Ctx}{a:AE}{o:UnaryOp}{x:av}{p:Pos}(h:o= .USub)(k:IE c a x):IE c (.neg a) (.UnaryOp o x p):=by subst h;exact λP S O d=>eX (Nw (k P S O d).se) (λJ J=>rfl) (λJ J J J J=>rfl) (.inl (eA rfl)) rfl λJ J=>rfl
noncomputable def tL(a:AE)(ia:ME a):ME (.neg a):=λc e=>Es e λo x p=>((bv PB).ap (dec (o= .USub))).ap (ia c x)
theorem PC{c:Ctx}{a:AE}{cs:AC}{x:av}{ops:List dU}{es:List av}{p:Pos}(k:IE c a x)(l:IC c cs ops es):IE c (.cmp a cs) (.Compare x ops es p):=λP S O d=>⟨NM (k P S O d).se (l.2.2 P S O d) l.1,NN (k P S O d).se (l.2.2 P S O d) l.1,rfl,(.inl (eA rfl)),λJ J=>rfl⟩
noncomputable def tM(a:AE)(cs:AC)(ia:ME a)(ic:MC cs):ME (.cmp a cs):=λc e=>O0 e λx ops es p=>((bv PC).ap (ia c x)).ap (ic c ops es)
theorem v_and{c:Ctx}{es:AL}{o:BoolOp}{xs:List av}{p:Pos}(h:o= .And)(k:IL c es xs):IE c (.and es) (.BoolOp o xs p):=by subst h;exact λP S O d=>⟨NQ ((k P S O d).sb .And),NV ((k P S O d).ta .And),rfl,(.inl (eA rfl)),λJ J=>rfl⟩
noncomputable def tN(es:AL)(il:ML es):ME (.and es):=λc e=>Er e λo xs p=>((bv v_and).ap (dec (o= .And))).ap (il c xs)
theorem v_or{c:Ctx}{es:AL}{o:BoolOp}{xs:List av}{p:Pos}(h:o= .Or)(k:IL c es xs):IE c (.or es) (.BoolOp o xs p):=by subst h;exact λP S O d=>⟨NR ((k P S O d).sb .Or),NW ((k P S O d).ta .Or),rfl,(.inl (eA rfl)),λJ J=>rfl⟩
noncomputable def tP(es:AL)(il:ML es):ME (.or es):=λc e=>Er e λo xs p=>((bv v_or).ap (dec (o= .Or))).ap (il c xs)
theorem v_ite{c:Ctx}{t a b:AE}{x y z:av}{p:Pos}(k:IE c t x)(l:IE c a y)(m:IE c b z):IE c (.ite t a b) (.IfExp x y z p):=λP S O d=>⟨Nx (k P S O d).st (l P S O d).se (m P S O d).se,NY (k P S O d).st (l P S O d).st (m P S O d).st,rfl,(.inl (eA rfl)),λJ J=>rfl⟩
noncomputable def tQ(t a b:AE)(it:ME t)(ia:ME a)(ib:ME b):ME (.ite t a b):=λc e=>OY e λx y z p=>(((bv v_ite).ap (it c x)).ap (ia c y)).ap (ib c z)
theorem PD{c:Ctx}{es:AL}{xs:List av}{p:Pos}(h:xs.length<=1000)(k:IL c es xs):IE c (.list es) (.List xs p):=λP S O d=>eX (NA (k P S O d).sl (k P S O d).pl h) (λJ J=>rfl) (λJ J J J J=>rfl) (.inl (eA rfl)) rfl λJ J=>rfl
noncomputable def tR(es:AL)(il:ML es):ME (.list es):=λc e=>O1 e λxs p=>((bv PD).ap (dec (xs.length<=1000))).ap (il c xs)
theorem PE{c:Ctx}{es:AL}{xs:List av}{u}{p:Pos}(h:xs.length<=1000)(k:IL c es xs):IE c (.tup es) (.Tuple xs u p):=λP S O d=>eX (NC (k P S O d).sl (k P S O d).pl h) (λJ J=>rfl) (λJ J J J J=>rfl) (.inl (eA rfl)) rfl λJ J=>rfl
noncomputable def tT(es:AL)(il:ML es):ME (.tup es):=λc e=>O4 e λxs u p=>((bv PE).ap (dec (xs.length<=1000))).ap (il c xs)
theorem PG{c:Ctx}{p:Pos}:IE c .dict0 (.Dict [] [] p):=λP S O d=>eX ND (λJ J=>rfl) (λJ J J J J=>rfl) (.inl (eA rfl)) rfl λJ J=>rfl
noncomputable def tU:ME .dict0:=λc e=>Et e λks vs p=>fi (C:=λks=>IE c .dict0 (.Dict ks vs p)) ks (fi (C:=λvs=>IE c .dict0 (.Dict [] vs p)) vs (bv PG))
theorem PH{c:Ctx}{k v:AE}{x y:av}{p:Pos}(k1:IE c k x)(l:IE c v y):IE c (.dict1 k v) (.Dict [some x] [y] p):=λP S O d=>eX (N8 (k1 P S O d).se (l P S O d).se) (λJ J=>rfl) (λJ J J J J=>rfl) (.inl (eA rfl)) rfl λJ J=>rfl
noncomputable def tV(k v:AE)(ik:ME k)(iv:ME v):ME (.dict1 k v):=λc e=>Et e λks vs p=>fM (C:=λks=>IE c (.dict1 k v) (.Dict ks vs p)) ks λx r=>fi (C:=λr=>IE c (.dict1 k v) (.Dict (x::r) vs p)) r (fM (C:=λvs=>IE c (.dict1 k v) (.Dict [x] vs p)) vs λy q=>fi (C:=λq=>IE c (.dict1 k v) (.Dict [x] (y::q) p)) q (bf (motive:=λx=>Sure (IE c (.dict1 k v) (.Dict [x] [y] p))) x none λx=>((bv PH).ap (ik c x)).ap (iv c y)))
theorem v_sub{c:Ctx}{a i:AE}{x j:av}{p:Pos}(h:∀l u t q,j≠.Slice l u t q)(k:IE c a x)(l:IE c i j):IE c (.sub a i) (.Subscript x j p):=λP S O d=>eX (NG (k P S O d).se (l P S O d).se h) (λJ J=>rfl) (λJ J J J J=>rfl) (.inl (eA rfl)) rfl λJ J=>rfl
noncomputable def tW(a i:AE)(ia:ME a)(ii:ME i):ME (.sub a i):=λc e=>Ev e λx j p=>(((bv v_sub).ap (Pg j)).ap (ia c x)).ap (ii c j)
theorem PI{c:Ctx}{a lo hi st:AE}{x:av}{l u t:Option av}{q p:Pos}(k:IE c a x)(k1:IO c lo l)(k2:IO c hi u)(k3:IO c st t):IE c (.slice a lo hi st) (.Subscript x (.Slice l u t q) p):=λP S O d=>eX (NJ (k P S O d).se (k1 P S O d) (k2 P S O d) (k3 P S O d)) (λJ J=>rfl) (λJ J J J J=>rfl) (.inl (eA rfl)) rfl λJ J=>rfl
noncomputable def tX(a lo hi st:AE)(ia:ME a)(i1:ME lo)(i2:ME hi)(i3:ME st):ME (.slice a lo hi st):=λc e=>Ev e λx j p=>O8 j λl u t q=>((((bv PI).ap (ia c x)).ap (yw c lo (i1 c) l)).ap (yw c hi (i2 c) u)).ap (yw c st (i3 c) t)
noncomputable def tY(elt:AE)(g:AG)(n:Nat)(ie:ME elt)(ig:MG g):ME (.comp elt g n):=ig.2 elt n ie
theorem PJ{c:Ctx}:IL c .nil []:=λP S O d=>⟨Ny,rfl,λop env A s σ μ ρ κ Q E pos H hw=>hw.elim,λop=>NS,Oi,⟨λJ=>rfl,λJ=>rfl⟩⟩
noncomputable def tZ:ML .nil:=λc es=>fi (C:=IL c .nil) es (bv PJ)
theorem PK{c:Ctx}{a:AE}{r:AL}{e:av}{q:List av}(k:IE c a e)(l:IL c r q):IL c (.cons a r) (e::q):=λP S O d=>Pa (k P S O d) (l P S O d)
noncomputable def t6(a:AE)(r:AL)(ia:ME a)(ir:ML r):ML (.cons a r):=λc es=>fM (C:=IL c (.cons a r)) es λe q=>((bv PK).ap (ia c e)).ap (ir c q)
theorem PL{c:Ctx}{op o:dU}{a:AE}{e:av}(h:o=op)(m:behindInMarks o e=false)(k:IE c a e):IC c (.one op a) [o] [e]:=⟨m,(λe=>nomatch e),λP S O d=>h▸NK O (k P S O d).se⟩
noncomputable def t7(op:dU)(a:AE)(ia:ME a):MC (.one op a):=λc ops es=>fM (C:=λops=>IC c (.one op a) ops es) ops λo r=>fi (C:=λr=>IC c (.one op a) (o::r) es) r (fM (C:=λes=>IC c (.one op a) [o] es) es λe q=>fi (C:=λq=>IC c (.one op a) [o] (e::q)) q ((((bv PL).ap (dec (o=op))).ap (dec (behindInMarks o e=false))).ap (ia c e)))
theorem PM{c:Ctx}{op o o2:dU}{a:AE}{r:AC}{e e2:av}{ops:List dU}{es:List av}(h:o=op)(k:IE c a e)(l:IC c r (o2::ops) (e2::es)):IC c (.cons op a r) (o::o2::ops) (e::e2::es):=⟨l.1,(λe=>nomatch e),λP S O d=>h▸NL O (k P S O d).se (l.2.2 P S O d) l.2.1⟩
noncomputable def t8(op:dU)(a:AE)(r:AC)(ia:ME a)(ir:MC r):MC (.cons op a r):=λc ops es=>fM (C:=λops=>IC c (.cons op a r) ops es) ops λo r1=>fM (C:=λr1=>IC c (.cons op a r) (o::r1) es) r1 λo2 r2=>fM (C:=λes=>IC c (.cons op a r) (o::o2::r2) es) es λe q=>fM (C:=λq=>IC c (.cons op a r) (o::o2::r2) (e::q)) q λe2 q2=>(((bv PM).ap (dec (o=op))).ap (ia c e)).ap (ir c (o2::r2) (e2::q2))
theorem PN{c:Ctx}:IG c .nil []:=λP S O d hc elt a he gens scope pos k ρ bO hd=>Ol ((yq hd).2 rfl) he
noncomputable def t9:MG .nil:=(λc gs=>fi (C:=IG c .nil) gs (bv PN),λJ J J J J=>none)
theorem PO{c:Ctx}{t:AT}{it:AE}{ifs:AL}{g:AG}{y:bS}{q:List bS}(h:y.is_async=0)(ki:IE c it y.iter)(kt:IT c t y.target)(kf:IL c ifs y.ifs)(kg:IG c g q):IG c (.cons t it ifs g) (y::q):=λP S O d hc elt a he gens scope pos k ρ bO hd=>Om hc ((yq hd).1 _ _ rfl).1 h (ki P S O d).se (ki P S O d).fs (kt.2.2 P S O d) (kf P S O d).si (kg P S O d hc he gens scope pos (k+1) ρ bO ((yq hd).1 _ _ rfl).2)
theorem PP{c:Ctx}{elt:AE}{t:AT}{it:AE}{ifs:AL}{g:AG}{n:Nat}{a:av}{y:bS}{q:List bS}{s:dj}{p:Pos}(k:∀(P:PW)(S:aN)(O:cg P S)(d:Nat),oG P S d c elt t it ifs g n a y q s):IE c (.comp elt (.cons t it ifs g) n) (.ListComp a (y::q) s p):=λP S O d=>eX (Pn (k P S O d)) (λJ J=>rfl) (λJ J J J J=>rfl) (.inl (eA rfl)) rfl λJ J=>rfl
noncomputable def ua(t:AT)(it:AE)(ifs:AL)(g:AG)(mt:MT t)(mi:ME it)(mf:ML ifs)(mg:MG g):MG (.cons t it ifs g):=(λc gs=>fM (C:=IG c (.cons t it ifs g)) gs λy q=>(((((bv PO).ap (dec (y.is_async=0))).ap (mi c y.iter)).ap (mt c y.target)).ap (mf c y.ifs)).ap (mg.1 c q),
 λelt n me c e=>OZ e λa gs s p=>fM (C:=λgs=>IE c (.comp elt (.cons t it ifs g) n) (.ListComp a gs s p)) gs λy q=>(bv PP).ap (Ez c elt t it ifs g n a y q s (mi c y.iter) (mt _ y.target) (mf _ y.ifs) (mg.1 _ q) (me _ a)))
theorem PQ{c:Ctx}{x:Str}{i:Nat}{p:Pos}(h:c.target x=some (.loc i)):IT c (.loc i) (.Name x p):=⟨⟨h,trivial⟩,rfl,λP S O d=>DP h⟩
noncomputable def ub(i:Nat):MT (.loc i):=λc e=>Ew e λx p=>(bv PQ).ap (Ex c x (.loc i))
theorem PR{c:Ctx}{x:Str}{i:Nat}{p:Pos}(h:c.target x=some (.cl i)):IT c (.cl i) (.Name x p):=⟨⟨h,trivial⟩,rfl,λP S O d=>DP h⟩
noncomputable def uc(i:Nat):MT (.cl i):=λc e=>Ew e λx p=>(bv PR).ap (Ex c x (.cl i))
theorem PS{c:Ctx}{a:AE}{f:Nat}{v:av}{n:Str}{p:Pos}(h1:good n=true)(h2:nm n=f)(k:IE c a v):IT c (.attr a f) (.Attribute v n p):=⟨⟨trivial,trivial⟩,rfl,λP S O d=>h2▸Ob O (k P S O d).se h1⟩
noncomputable def ud(a:AE)(f:Nat)(ia:ME a):MT (.attr a f):=λc e=>O5 e λv n p=>(((bv PS).ap (dec (good n=true))).ap (dec (nm n=f))).ap (ia c v)
theorem PU{c:Ctx}{a i:AE}{x j:av}{p:Pos}(k:IE c a x)(l:IE c i j):IT c (.sub a i) (.Subscript x j p):=⟨⟨trivial,trivial⟩,rfl,λP S O d=>Oc (k P S O d).se (l P S O d).se⟩
noncomputable def ue(a i:AE)(ia:ME a)(ii:ME i):MT (.sub a i):=λc e=>O6 e λx j p=>((bv PU).ap (ia c x)).ap (ii c j)
theorem PV{c:Ctx}{ts:dC}{xs:List av}{u}{p:Pos}(k:mX c ts xs):IT c (.tup ts) (.Tuple xs u p):=⟨⟨trivial,k.1⟩,rfl,λP S O d=>Og (k.2.2.2 P S O d) k.2.1 k.2.2.1⟩
noncomputable def uf(ts:dC)(il:lY ts):MT (.tup ts):=λc e=>O7 e λxs u p=>(bv PV).ap (il c xs)
theorem PX{c:Ctx}:mX c .nil []:=⟨rfl,rfl,rfl,λP S O d=>Od⟩
noncomputable def ug:lY .nil:=λc es=>fi (C:=mX c .nil) es (bv PX)
theorem PY{c:Ctx}{t:AT}{r:dC}{e:av}{q:List av}(k:IT c t e)(l:mX c r q):mX c (.cons t r) (e::q):=⟨⟨k.1.1,l.1⟩,by (erw[lF];erw[k.2.1];erw[l.2.1]);rfl,congrArg (· +1) l.2.2.1,λP S O d=>Oe (k.2.2 P S O d) (l.2.2.2 P S O d)⟩
noncomputable def uh(t:AT)(r:dC)(it:MT t)(ir:lY r):lY (.cons t r):=λc es=>fM (C:=mX c (.cons t r)) es λe q=>((bv PY).ap (it c e)).ap (ir c q)
noncomputable def cE:∀a:AE,ME a:=AE.rec (motive_1:=ME) (motive_2:=ML) (motive_3:=MC) (motive_4:=MG) (motive_5:=MT) (motive_6:=lY) tq tr tw ty tz tA tB tC tD tE tH tI tJ tL tM tN tP tQ tR tT tU tV tW tX tY tZ t6 t7 t8 t9 ua ub uc ud ue uf ug uh
noncomputable def cL:∀a:AL,ML a:=AL.rec (motive_1:=ME) (motive_2:=ML) (motive_3:=MC) (motive_4:=MG) (motive_5:=MT) (motive_6:=lY) tq tr tw ty tz tA tB tC tD tE tH tI tJ tL tM tN tP tQ tR tT tU tV tW tX tY tZ t6 t7 t8 t9 ua ub uc ud ue uf ug uh
noncomputable def cG:∀a:AG,MG a:=AG.rec (motive_1:=ME) (motive_2:=ML) (motive_3:=MC) (motive_4:=MG) (motive_5:=MT) (motive_6:=lY) tq tr tw ty tz tA tB tC tD tE tH tI tJ tL tM tN tP tQ tR tT tU tV tW tX tY tZ t6 t7 t8 t9 ua ub uc ud ue uf ug uh
noncomputable def cT:∀a:AT,MT a:=AT.rec (motive_1:=ME) (motive_2:=ML) (motive_3:=MC) (motive_4:=MG) (motive_5:=MT) (motive_6:=lY) tq tr tw ty tz tA tB tC tD tE tH tI tJ tL tM tN tP tQ tR tT tU tV tW tX tY tZ t6 t7 t8 t9 ua ub uc ud ue uf ug uh
abbrev IS(c:Ctx)(a:AS)(s:Stmt):Prop:=∀(P:PW)(S:aN)(O:cg P S)(d:Nat)(hcm:c.cm=none),SS P S d c a s
abbrev jr(c:Ctx)(a:au)(s:List Stmt):Prop:=∀(P:PW)(S:aN)(O:cg P S)(d:Nat)(hcm:c.cm=none),jS P S d c a s
section
variable{c:Ctx}{a:AS}(s:Stmt)
noncomputable def P0(k:∀e p,Sure (IS c a (.Expr e p))):Sure (IS c a s):=(dec (s.ctorIdx=24)).bind λh=>Stmt.Expr.elim (motive_2:=λs=>Sure (IS c a s)) s h.1 k
noncomputable def P1(k:∀e p,Sure (IS c a (.Return e p))):Sure (IS c a s):=(dec (s.ctorIdx=3)).bind λh=>Stmt.Return.elim (motive_2:=λs=>Sure (IS c a s)) s h.1 k
noncomputable def P3(k:∀ts e p,Sure (IS c a (.Assign ts e p))):Sure (IS c a s):=(dec (s.ctorIdx=5)).bind λh=>Stmt.Assign.elim (motive_2:=λs=>Sure (IS c a s)) s h.1 k
noncomputable def P4(k:∀t b o p,Sure (IS c a (.If t b o p))):Sure (IS c a s):=(dec (s.ctorIdx=12)).bind λh=>Stmt.If.elim (motive_2:=λs=>Sure (IS c a s)) s h.1 k
noncomputable def P5(k:∀t b o p,Sure (IS c a (.While t b o p))):Sure (IS c a s):=(dec (s.ctorIdx=11)).bind λh=>Stmt.While.elim (motive_2:=λs=>Sure (IS c a s)) s h.1 k
noncomputable def P6(k:∀t i b o p,Sure (IS c a (.For t i b o p))):Sure (IS c a s):=(dec (s.ctorIdx=9)).bind λh=>Stmt.For.elim (motive_2:=λs=>Sure (IS c a s)) s h.1 k
noncomputable def P7(k:∀b hs o g p,Sure (IS c a (.Try b hs o g p))):Sure (IS c a s):=(dec (s.ctorIdx=17)).bind λh=>Stmt.Try.elim (motive_2:=λs=>Sure (IS c a s)) s h.1 k
end
theorem P8{P:PW}{S:aN}{d:Nat}{c:Ctx}{x:AT}{t:av}{elt:AE}{tt:AT}{it:AE}{ifs:AL}{g:AG}{n:Nat}{a:av}{y:bS}{q:List bS}{s:dj}{pos p:Pos}(f:oG P S d c elt tt it ifs g n a y q s)(hx:TO c x t)(hp:fh t=true)(ht:SA P S d c x t)(hok:kR t (.ListComp a (y::q) s pos)=true):
  SS P S d c (.asg x (.comp elt (.cons tt it ifs g) n)) (.Assign [t] (.ListComp a (y::q) s pos) p):=
 f.n▸OW f.cm hx ht hp hok f.as f.ok f.hi f.fs f.st f.si λρ bO=>f.sn _ ρ bO
theorem P9{c:Ctx}{x:AT}{a:AE}{t e:av}{p:Pos}(h:mO e=true)(h2:kR t e=true)(k:IT c x t)(l:IE c a e):IS c (.asg x a) (.Assign [t] e p):=λP S O d hcm=>OU hcm k.1.2 (k.2.2 P S O d) k.2.1 (l P S O d).se h h2
noncomputable def Qa(c:Ctx)(x:AT)(a:AE)(t e:av)(p:Pos):Sure (IS c (.asg x a) (.Assign [t] e p)):=((((bv P9).ap (dec (mO e=true))).ap (dec (kR t e=true))).ap (cT x c t)).ap (cE a c e)
theorem Qb{c:Ctx}{x:AT}{elt:AE}{tt:AT}{it:AE}{ifs:AL}{g:AG}{n:Nat}{t:av}{a:av}{y:bS}{q:List bS}{s:dj}{pos p:Pos}(h2:kR t (.ListComp a (y::q) s pos)=true)(k:IT c x t)(l:∀(P:PW)(S:aN)(O:cg P S)(d:Nat),oG P S d c elt tt it ifs g n a y q s):IS c (.asg x (.comp elt (.cons tt it ifs g) n)) (.Assign [t] (.ListComp a (y::q) s pos) p):=λP S O d hcm=>P8 (l P S O d) k.1.2 k.2.1 (k.2.2 P S O d) h2
noncomputable def Qc(c:Ctx)(x:AT)(elt:AE)(tt:AT)(it:AE)(ifs:AL)(g:AG)(n:Nat)(t e:av)(p:Pos):Sure (IS c (.asg x (.comp elt (.cons tt it ifs g) n)) (.Assign [t] e p)):=(dec (e.ctorIdx=8)).bind λh=>
 Expr.ListComp.elim (motive_1:=λe=>Sure (IS c (.asg x (.comp elt (.cons tt it ifs g) n)) (.Assign [t] e p))) e h.1 λa gs s pos=>fM (C:=λgs=>IS c (.asg x (.comp elt (.cons tt it ifs g) n)) (.Assign [t] (.ListComp a gs s pos) p)) gs λy q=>
  (((bv Qb).ap (dec (kR t (.ListComp a (y::q) s pos)=true))).ap (cT x c t)).ap (Ez c elt tt it ifs g n a y q s (cE it c y.iter) (cT tt _ y.target) (cL ifs _ y.ifs) ((cG g).1 _ q) (cE elt _ a))
noncomputable def Qd(c:Ctx)(x:AT)(a:AE)(t e:av)(p:Pos):Sure (IS c (.asg x a) (.Assign [t] e p)):=match a with
 | .comp elt (.cons tt it ifs g) n=>Qc c x elt tt it ifs g n t e p
 | a=>Qa c x a t e p
noncomputable abbrev MS(a:AS):Type:=∀(c:Ctx)(s:Stmt),Sure (IS c a s)
noncomputable abbrev jT(a:au):Type:=∀(c:Ctx)(ss:List Stmt),Sure (jr c a ss)
theorem Qe{c:Ctx}{a:AE}{e:av}{p:Pos}(h:mO e=true)(k:IE c a e):IS c (.expr a) (.Expr e p):=λP S O d J=>Ot (k P S O d).se h
noncomputable def Qf(a:AE):MS (.expr a):=λc s=>P0 s λe p=>((bv Qe).ap (dec (mO e=true))).ap (cE a c e)
theorem Qg{c:Ctx}{a:AE}{p:Pos}(h:a= .none):IS c (.ret a) (.Return none p):=by subst h;exact λJ J J J J=>Oq
theorem Qh{c:Ctx}{a:AE}{e:av}{p:Pos}(k:IE c a e):IS c (.ret a) (.Return (some e) p):=λP S O d J=>Op (k P S O d).se
noncomputable def Qi(a:AE):MS (.ret a):=λc s=>P1 s λe p=>bf (motive:=λe=>Sure (IS c (.ret a) (.Return e p))) e ((bv Qg).ap (Ey a)) λe=>(bv Qh).ap (cE a c e)
noncomputable def Qj(x:AT)(a:AE):MS (.asg x a):=λc s=>P3 s λts e p=>fM (C:=λts=>IS c (.asg x a) (.Assign ts e p)) ts λt r=>fi (C:=λr=>IS c (.asg x a) (.Assign (t::r) e p)) r (Qd c x a t e p)
theorem Qk{c:Ctx}{t:AE}{b o:au}{x:av}{y z:List Stmt}{p:Pos}(k:IE c t x)(l:jr c b y)(m:jr c o z):IS c (.cond t b o) (.If x y z p):=λP S O d h=>Ou (k P S O d).st (l P S O d h) (m P S O d h)
noncomputable def Ql(t:AE)(b o:au)(ib:jT b)(io:jT o):MS (.cond t b o):=λc s=>P4 s λx y z p=>(((bv Qk).ap (cE t c x)).ap (ib c y)).ap (io c z)
theorem Qm{c:Ctx}{t:AE}{b:au}{x:av}{y:List Stmt}{p:Pos}(k:IE c t x)(l:jr c b y):IS c (.whl t b) (.While x y [] p):=λP S O d h=>Oy (k P S O d).st (l P S O d h)
noncomputable def Qn(t:AE)(b:au)(ib:jT b):MS (.whl t b):=λc s=>P5 s λx y o p=>fi (C:=λo=>IS c (.whl t b) (.While x y o p)) o (((bv Qm).ap (cE t c x)).ap (ib c y))
theorem Qo{c:Ctx}{t:AT}{it:AE}{b:au}{x i:av}{y:List Stmt}{p:Pos}(k:IT c t x)(l:IE c it i)(m:jr c b y):IS c (.for_ t it b) (.For x i y [] p):=λP S O d h=>OA h (k.2.2 P S O d) (l P S O d).se (l P S O d).fs (m P S O d h)
noncomputable def Qp(t:AT)(it:AE)(b:au)(ib:jT b):MS (.for_ t it b):=λc s=>P6 s λx i y o p=>fi (C:=λo=>IS c (.for_ t it b) (.For x i y o p)) o ((((bv Qo).ap (cT t c x)).ap (cE it c i)).ap (ib c y))
theorem Qq{c:Ctx}{b:au}{y:List Stmt}{h0:ExceptHandler}{hs:List ExceptHandler}{p:Pos}(k:jr c b y):IS c (.try_ b) (.Try y (h0::hs) [] [] p):=λP S O d h=>Ox (k P S O d h)
noncomputable def Qr(b:au)(ib:jT b):MS (.try_ b):=λc s=>P7 s λy hs o g p=>fM (C:=λhs=>IS c (.try_ b) (.Try y hs o g p)) hs λh0 hs=>fi (C:=λo=>IS c (.try_ b) (.Try y (h0::hs) o g p)) o (fi (C:=λg=>IS c (.try_ b) (.Try y (h0::hs) [] g p)) g ((bv Qq).ap (ib c y)))
theorem Qs{c:Ctx}{s:Stmt}:IS c .other s:=λP S O d J env A s σ μ ρ Q E H hw=>hw.elim
noncomputable def Qt:MS .other:=λc s=>bv Qs
theorem Qu{c:Ctx}:jr c .nil []:=λJ J J J J=>Ov
noncomputable def Qv:jT .nil:=λc ss=>fi (C:=jr c .nil) ss (bv Qu)
theorem Qw{c:Ctx}{a:AS}{r:au}{s:Stmt}{q:List Stmt}(k:IS c a s)(l:jr c r q):jr c (.cons a r) (s::q):=λP S O d h=>Ow (k P S O d h) (l P S O d h)
noncomputable def Qx(a:AS)(r:au)(ia:MS a)(ir:jT r):jT (.cons a r):=λc ss=>fM (C:=jr c (.cons a r)) ss λs q=>((bv Qw).ap (ia c s)).ap (ir c q)
noncomputable def EA:∀a:au,jT a:=au.rec (motive_1:=MS) (motive_2:=jT) Qf Qi Qj Ql Qn Qp Qr Qt Qv Qx
structure yx(p:Arguments)(names:List Str):Prop where
 pos:p.posonlyargs=[]
 kw:p.kwonlyargs=[]
 va:p.vararg=none
 ka:p.kwarg=none
 nm:p.args.map (·.arg)=names
 nd:names.Nodup
theorem Qy{names:List Str}(nd:names.Nodup):∀{vals:List ab},vals.length=names.length->names.filterMap (λn=>((names.zip vals).lookup n).map (n,·))=names.zip vals:=by
 induction names with
 | nil=>intro vals h;rfl
 | cons x r ih=>
  intro vals h
  induction vals using bQ with
  | nil=>exact (Nat.noConfusion h)
  | cons v vs=>
   rw[ee] at nd;refine al og (al Cp ?_);simp only[eO,beq_self_eq_true,Option.map_some];congr 1;refine Eq.trans ?_ (ih nd.2 (by simpa using h))
   apply tf;intro y hy;have:(y==x)=false:=by
    rewrite[beq_eq_false_iff_ne];intro e;exact nd.1 (e▸hy)
   (erw[this];ac_rfl)
theorem EB{names:List Str}(nd:names.Nodup):∀{vals:List ab}{i:Nat}{n:Str},names[i]? =some n->i<vals.length->((names.zip vals).lookup n).isSome=true:=by
 induction names with
 | nil=>intro vals i n h;simp at h
 | cons x r ih=>
  intro vals i n h hi;rw[ee] at nd
  induction vals using bQ with
  | nil=>simp at hi
  | cons v vs=>
   refine al og (al eO ?_);cases i with
   | zero=>simp at h;subst h;simp
   | succ i=>
    induction q:n==x using bC with
    | true=>rfl
    | false=>exact ih nd.2 (by simpa using h) (by simpa using hi)
theorem Qz{names:List Str}(nd:names.Nodup):∀{vals:List ab}{i:Nat}{n:Str},names[i]? =some n->vals.length<=i->(names.zip vals).lookup n=none:=by
 induction names with
 | nil=>intro vals i n h;simp at h
 | cons x r ih=>
  intro vals i n h hi;rw[ee] at nd
  induction vals using bQ with
  | nil=>simp
  | cons v vs=>
   cases i with
   | zero=>simp at hi
   | succ i=>
    refine al og (al eO ?_);have hn:n∈r:=cj (by simpa using h)
    have:(n==x)=false:=by rewrite[beq_eq_false_iff_ne];intro e;exact nd.1 (e▸hn)
    refine al this ?_;exact ih nd.2 (by simpa using h) (by simpa using hi)
noncomputable def ext(m:Nat)(acc:List ab):List ab->List ab
 | []=>acc
 | d::r=>if m<acc.length then ext (m+1) acc r else ext (m+1) (acc++[d]) r
theorem EC{m:Nat}{acc:List ab}{d:ab}{r:List ab}:ext m acc (d::r)=if m<acc.length then ext (m+1) acc r else ext (m+1) (acc++[d]) r:=rfl
theorem yy:∀(l:List ab)(m:Nat)(acc:List ab),m<=acc.length->ext m acc l=acc++l.drop (acc.length - m)
 | [],m,acc,J1=>by
  refine (?_:acc=acc++([]:List ab).drop _);(erw[List.drop_nil];rw[dB])
 | d::r,m,acc,h=>by
  erw[EC]
  split
  ·rename_i h1;rewrite[yy r (m+1) acc h1];have:acc.length - m=(acc.length - (m+1))+1:=CZ h1
   ((erw[this];erw[List.drop_succ_cons]);ac_rfl)
  ·rename_i h1;have:m=acc.length:=Nat.le_antisymm h (fV h1);subst this;refine al (yy r _ _ (by simp)) ?_
   simp
theorem QA{names:List Str}:∀{acc:List ab}{n:Str}{d:ab},names[acc.length]? =some n->names.zip (acc++[d])=names.zip acc++[(n,d)]:=by
 induction names with
 | nil=>intro acc n d h;simp at h
 | cons x r ih=>
  intro acc n d h
  induction acc using bQ with
  | nil=>simp at h;subst h;simp
  | cons a q=>
   ((erw[nY];erw[og];erw[og];erw[ih (by simpa using h)];erw[nY]);ac_rfl)
theorem yz{M:Model}{A:bh}{E:ab->aj->Prop}{s:aj}{names:List Str}(nd:names.Nodup){Q:List (Str × ab)->aj->Prop}:∀(l:List ab)(m:Nat)(acc:List ab),m<=acc.length->m+l.length=names.length->acc.length<=names.length->
  Q (names.zip (ext m acc l)) s->aw M A (forIn ((names.drop m).zip l) (names.zip acc) λ(x:Str × ab)(slots:List (Str × ab))=>if (slots.lookup x.1).isNone=true then pure (lN (slots++[(x.1,x.2)])) else pure (lN slots)) Q E s
 | [],m,acc,J1,J2,J3,q=>by simp only[List.zip_nil_right,List.forIn_nil];exact aC q
 | d::r,m,acc,h,hl,ha,q=>by
  have hm:m<names.length:=by rw[dW] at hl;lia
  ((erw[List.drop_eq_getElem_cons hm];erw[og]);rewrite[Cy])
  rewrite[EC] at q;obtain hn:names[m]? =some names[m]:=dh hm;by_cases hma:m<acc.length
  ·rw[if_pos hma] at q;have:=EB nd hn hma;dsimp only;rewrite[if_neg (by rewrite[xw];intro e;rw[e] at this;exact nomatch this)]
   exact ak (aC (yz nd r (m+1) acc hma (by rw[dW] at hl;lia) ha q))
  ·rw[if_neg hma] at q;have e:m=acc.length:=by lia
   subst e;have:=Qz nd hn (bI acc.length);dsimp only;(rewrite[if_pos (by erw[this];rfl)];erw[aD (QA hn)])
   refine ak (aC (yz nd r (acc.length+1) (acc++[d]) (by simp) (by rw[dW] at hl;lia) (by refine al bR (al qf ?_);(with_reducible exact xr ‹_›)) q))
theorem yA{M:Model}{A:bh}{α:Type}{c:Prop}[Decidable c]{t f:Sem α}{Q:α->aj->Prop}{E:ab->aj->Prop}{s:aj}(h:¬c)(k:aw M A f Q E s):aw M A (if c then t else f) Q E s:=by erw[if_neg h];exact k
theorem QB{s:aj}{fd:FuncData}{names:List Str}{dv:List ab}(hp:yx fd.params names)(hd:(fd.defaults= .none/\dv=[])\/∃T o n,fd.defaults= .ref T/\s.heap.get? T=some o/\o.data= .seq dv.toArray n)
  {vals:List ab} (h1:vals.length<=names.length) (h2:names.length<=vals.length+dv.length) (h3:dv.length<=names.length):
  BindsTo s fd ⟨vals,[]⟩ (names.zip (vals++dv.drop (vals.length+dv.length - names.length))):=by
 have hseq:∀{M:Model}{A:bh}{E:ab->aj->Prop}{K:Option (Array ab)->aj->Prop},(∀x,(x.getD #[]).toList=dv->K x s)->aw M A (seqItems? fd.defaults) K E s:=by
  intro M A E K hK;rcases hd with ⟨e,rfl⟩ | ⟨T,o,n,e,ho,hs⟩
  ·erw[e];exact λJ J J=>hK none rfl
  ·erw[e];exact wpAny_seqItems ho hs (hK _ rfl)
 clear hd;have hdrop:dv.drop (dv.length - names.length)=dv:=by erw[Nat.sub_eq_zero_of_le h3];rfl
 have hmiss:((names.take (names.length - dv.length)).filter λn=>((names.zip vals).lookup n).isNone).isEmpty=true:=by
  rewrite[CG,CH];intro x hx c;obtain ⟨i,hi⟩:=nV.mp hx;rw[List.getElem?_take] at hi;by_cases bD:i<names.length - dv.length
  case neg=>rw[if_neg bD] at hi;exact nomatch hi
  rw[if_pos bD] at hi;have:=EB hp.nd hi (vals:=vals) (bX bD (L4 h2));rw[xw.mp c] at this;exact nomatch this
 have e1:ext (names.length - dv.length) vals dv=vals++dv.drop (vals.length+dv.length - names.length):=by
  ((erw[yy _ _ _ (L4 h2)];erw[Nat.sub_sub_right _ h3]);ac_rfl)
 generalize ep:fd.params=p at hp;obtain ⟨po,ar,va,ko,kd,ka,df⟩:=p;obtain ⟨e2,e3,e4,e5,en,nd⟩:=hp;dsimp only at e2 e3 e4 e5 en;subst e2 e3 e4 e5;intro M A E Q hq;unfold bindArgs;erw[ep];refine ak (aC (ak (hseq λx hx=>?_)));dsimp only;refine yA (λh=>Nat.not_lt.mpr (en▸h1) (of_decide_eq_true (gP.mp h).1)) ?_;(rewrite[show (List.map (λx:Arg=>x.arg) []++List.map (λx=>x.arg) ar)=names from en];(erw[hx];erw[hdrop]))
 refine yA (λh=>pZ (((qc _).mp h).symm.trans hmiss)) ?_;refine ak (aQ (yz (Q:=λr s'=>r=names.zip (vals++dv.drop (vals.length+dv.length - names.length))/\s'=s) nd dv (names.length - dv.length) vals (L4 h2) (Nat.sub_add_cancel h3) h1 ⟨by (erw[e1];ac_rfl),rfl⟩) (λr s' z_4=>?_) λJ J e=>e)
 obtain ⟨er,es⟩:=z_4;subst er es;refine ak (aC (yA (λh=>nomatch h) ?_));have e:=Qy nd (vals:=vals++dv.drop (vals.length+dv.length - names.length)) (by ((erw[bR];erw[p9];erw[Nat.sub_sub_right _ h2];erw[pT dv.length names.length]);rewrite[Nat.add_sub_add_right];erw[xk h1];ac_rfl))
 refine aC ?_;rewrite[show (names++List.map (λx:Arg=>x.arg) [])=names from dB names]
 exact e.symm▸hq
noncomputable def kT(ρ:ac):List Nat->List AV->ac
 | i::is,a::as=>kT (ρ.set i (some a)) is as
 | J1,J2=>ρ
theorem QC{ρ:ac}{i:Nat}{is:List Nat}{a:AV}{as:List AV}:kT ρ (i::is) (a::as)=kT (ρ.set i (some a)) is as:=rfl
inductive QD(P:PW)(m:aa)(n:Nat)(ix:List Nat)(dfl:List AV)(body:au):Prop
 | mk (o:Obj) (fd:FuncData) (stmts:List Stmt) (names:List Str) (dv:List ab) (ho:P.h₀.get? m=some o) (hd:o.data= .func fd) (hcl:fd.closure=[]) (hcd:P.h₀.CodeRec fd.code fd.qualname) (hb:fd.body= .stmts stmts) (hes:(EA body ⟨fd.scope.names,.none⟩ stmts).isSome=true)
  (hg:fd.globals=mainNs) (hbu:fd.builtins=sE) (hco:fd.scope.isCoroutine=false) (hge:fd.scope.isGenerator=false) (hki:fd.scope.kind= .function) (hpp:yx fd.params names)
  (hdf:(fd.defaults= .none/\dv=[])\/∃T o n,fd.defaults= .ref T/\P.h₀.get? T=some o/\o.data= .seq dv.toArray n) (hdv:∀h μ,aB h μ dfl dv) (hdl:dv.length<=names.length) (hn:fd.scope.names.length=n) (hnd:(fd.scope.names.map (·.1)).Nodup)
  (hil:ix.length=names.length) (hix:∀(k:Nat) x i,names[k]? =some x->ix[k]? =some i->bM x fd.scope.names 0=some (i,.local)\/bM x fd.scope.names 0=some (i,.cell))
structure yB(P:PW)(m:aa)(n:Nat)(ix:List Nat)(dfl:List AV)(body:au):Prop where
 ex:QD P m n ix dfl body
 nolimit:P.h₀.NoLimit
theorem jU{x:Str}{k:cv}:∀{l:List (Str × cv)}{n i:Nat},bM x l n=some (i,k)->l.lookup x=some k
 | [],J1,J2,e=>by exact aU e
 | (y,q)::r,n,i,e=>by
  rewrite[qp] at e;refine al eO ?_
  split at e
  ·rename_i h;cases e;(erw[h];rw[beq_self_eq_true])
  ·rename_i h;refine al (beq_eq_false_iff_ne.mpr (jH h)) ?_;exact jU e
theorem ED{kindOf:Str->Option cv}{x:Str}(hk:kindOf x=some .local):∀{names:List Str}{vals:List ab}{m:Str->Option ab},names.Nodup->(∀k:Nat,names[k]? =some x->∀v,vals[k]? =some v->bindL kindOf (names.zip vals) m x=some v)/\(x∉names->bindL kindOf (names.zip vals) m x=m x)
 | [],vals,m,J1=>⟨λk e=>by simp at e,λJ=>rfl⟩
 | y::r,[],m,J1=>⟨λk e v ev=>by simp at ev,λJ=>rfl⟩
 | y::r,v::vs,m,nd=>by
  rw[ee] at nd;refine al og ?_;unfold bindL;have ih:=λm=>ED hk (names:=r) (vals:=vs) (m:=m) nd.2;refine ⟨λk e w ew=>?_,λhx=>?_⟩
  ·cases k with
   | zero=>
    simp at e ew;subst e ew;(erw[(ih _).2 nd.1];erw[if_pos hk]);simp
   | succ k=>exact (ih _).1 k (by simpa using e) w (by simpa using ew)
  ·rewrite[(ih _).2 (λh=>hx (.tail _ h))]
   split
   ·refine (?_:(if x=y then some v else m x)=m x)
    rw[if_neg (λe=>hx (by erw[e];exact .head _))]
   ·rfl
theorem EE{kindOf:Str->Option cv}{x:Str}(hk:kindOf x=some .cell):∀{names:List Str}{vals:List ab}{m:Str->Option ab},names.Nodup->(∀k:Nat,names[k]? =some x->∀v,vals[k]? =some v->bindC kindOf (names.zip vals) m x=some v)/\(x∉names->bindC kindOf (names.zip vals) m x=m x)
 | [],vals,m,J1=>⟨λk e=>by simp at e,λJ=>rfl⟩
 | y::r,[],m,J1=>⟨λk e v ev=>by simp at ev,λJ=>rfl⟩
 | y::r,v::vs,m,nd=>by
  rw[ee] at nd;refine al og ?_;unfold bindC;have ih:=λm=>EE hk (names:=r) (vals:=vs) (m:=m) nd.2;refine ⟨λk e w ew=>?_,λhx=>?_⟩
  ·cases k with
   | zero=>
    simp at e ew;subst e ew;(erw[(ih _).2 nd.1];erw[if_neg (by erw[hk];simp)])
    simp
   | succ k=>exact (ih _).1 k (by simpa using e) w (by simpa using ew)
  ·rewrite[(ih _).2 (λh=>hx (.tail _ h))]
   split
   ·rfl
   ·refine (?_:(if x=y then some v else m x)=m x)
    rw[if_neg (λe=>hx (by erw[e];exact .head _))]
theorem cellsFrom_some{x:Str}:∀{names:List (Str × cv)}{n:Nat}{acc:List (Str × aa)},((x,mG)∈names\/(acc.lookup x).isSome=true)->((qg n names acc).lookup x).isSome=true
 | [],n,acc,h=>by
  rcases h with h | h
  ·simp at h
  ·exact h
 | (y,k)::r,n,acc,h=>by
  unfold qg
  split
  ·refine cellsFrom_some ?_;rcases h with h | h
   ·rcases aV.mp h with e | h
    ·cases e;right;simp
    ·exact .inl h
   ·right
    refine al eO ?_;cases x==y
    ·exact h
    ·rfl
  ·rename_i hk;refine cellsFrom_some ?_;rcases h with h | h
   ·rcases aV.mp h with e | h
    ·cases e;simp at hk
    ·exact .inl h
   ·exact .inr h
theorem EF:∀{l:List (Str × aa)},(l.map (·.1)).Nodup->∀{p:Str × aa},p∈l->l.lookup p.1=some p.2
 | [],J1,p,h=>by simp at h
 | z::r,nd,p,h=>by
  rw[bi,ee] at nd;obtain ⟨zk,zv⟩:=z;refine al eO ?_;rcases aV.mp h with e | h
  ·refine al e ?_;simp
  ·refine al (beq_eq_false_iff_ne.mpr (λe=>nd.1 (aL.mpr ⟨p,h,e⟩))) ?_;exact EF nd.2 h
theorem yC:∀{names:List (Str × cv)}{n:Nat}{acc:List (Str × aa)},(names.map (·.1)++acc.map (·.1)).Nodup->((qg n names acc).map (·.1)).Nodup
 | [],n,acc,h=>by simpa [qg] using h
 | (y,k)::r,n,acc,h=>by
  unfold qg;rw[bi,nY,ee] at h
  split
  ·refine yC ?_;(erw[bi];rewrite[eL]);obtain ⟨h1,h2⟩:=h;rw[eL] at h2;simp only[dH,not_or] at h1;refine ⟨h2.1,ee.mpr ⟨h1.2,h2.2.1⟩,λa ha b hb=>?_⟩;rcases aV.mp hb with rfl | hb
   ·exact λe=>h1.1 (e▸ha)
   ·exact h2.2.2 a ha b hb
  ·exact yC h.2
theorem setAll_get:∀{ix:List Nat}{args:List AV}{ρ:ac}{i:Nat}{v:AV},(kT ρ ix args)[i]? =some (some v)->ρ[i]? =some (some v)\/∃k:Nat,ix[k]? =some i/\args[k]? =some v
 | [],J1,J2,J3,J4,h=> .inl h
 | J1::J2,[],J3,J4,J5,h=> .inl h
 | j::is,a::as,ρ,i,v,h=>by
  rewrite[QC] at h;rcases setAll_get h with h | ⟨k,h1,h2⟩
  ·rcases get_set h with ⟨rfl,rfl⟩ | ⟨J,h⟩
   ·exact .inr ⟨0,rfl,rfl⟩
   ·exact .inl h
  ·exact .inr ⟨k+1,by simpa using h1,by simpa using h2⟩
section
variable{P:PW}{S:aN}{d:Nat}{A:bh}{E:ab->aj->Prop}{s ah:aj}{σ σ':AH}{μ:List (List aa)}
def Ends(Q:AV->AH->Prop)(fl:Fl)(σ:AH):Prop:=match fl with
 | .ret w=>Q w σ
 | .next=>Q .none σ
theorem EG(O:cg P S){m:aa}{n:Nat}{ix:List Nat}{dfl:List AV}{body:au}(F:yB P m n ix dfl body){args:List AV}{Q:AV->AH->Prop}(h1:args.length<=ix.length)(h2:ix.length<=args.length+dfl.length)
  (hw:aM P S d body (kT (cV n .none) ix (args++dfl.drop (args.length+dfl.length - ix.length))) σ λfl J cU=>Ends Q fl cU):TC P (d+1) (.con (.ref m)) args σ Q:=by
 intro A s μ fv vals E room B R hf hv;(refine aI λkK=>?_;obtain ⟨o,fd,stmts,names,dv,ho,hd,hcl,hcd,hb,hes,hg,hbu,hco,hge,hki,hpp,hdf,hdv,hdl,hn,hnd,hil,hix⟩:=F.ex;refine kK ?_;clear kK);(have hH:=lQ hf;clear hf;subst hH);have ho':=B _ _ ho;refine ⟨λK hK=>?_,?_⟩
 ·unfold nS;refine ak (mF ho' ?_);refine al hd ?_;exact aC (hK _)
 ·have hlv:=hv.length;have hld:=(hdv s.heap μ).length;obtain ⟨r1,r2,r3⟩:=room;refine codeAny_call_function (by lia) ho' hd hco hge hb (hcd.keeps B) ?_
  obtain hbind:=QB (s:=s) hpp (by
   rcases hdf with q | ⟨T,o,k,e1,e2,e3⟩
   ·exact .inl q
   ·exact .inr ⟨T,o,k,e1,B _ _ e2,e3⟩) (vals:=vals) (by lia) (by lia) hdl
  refine hbind _ _ _ _ ?_;refine al hcl ?_;obtain hargs:aB s.heap μ (args++dfl.drop (args.length+dfl.length - ix.length)) (vals++dv.drop (vals.length+dv.length - names.length)):=by
   refine al (show vals.length+dv.length - names.length=args.length+dfl.length - ix.length by ((erw[hlv];erw[hld];erw[hil]);ac_rfl)) ?_
   exact hv.append ((hdv s.heap μ).drop _)
  generalize hag:args++dfl.drop (args.length+dfl.length - ix.length)=ag at hargs hw;generalize hvg:vals++dv.drop (vals.length+dv.length - names.length)=vg at hargs ⊢;obtain hkinds:∀(k:Nat) x,names[k]? =some x->fd.scope.names.lookup x=some .local\/fd.scope.names.lookup x=some .cell:=by
   intro k x hx;have bD:=(bP.mp hx).1;rcases hix k x ix[k] hx (dh (by omega)) with q | q
   ·exact .inl (jU q)
   ·exact .inr (jU q)
  refine wpAny_newFunctionEnv_cells hki (λp hp=>?_) λenv he s' X=>?_
  ·obtain ⟨k,hk⟩:=nV.mp (List.of_mem_zip (show (p.1,p.2)∈names.zip vg from hp)).1
   rcases hkinds k _ hk with q | q
   ·exact .inl q
   ·exact .inr ⟨q,cellsFrom_some (.inl (qJ q))⟩
  subst he;obtain ⟨h',tk,rfl⟩:=X.toInCall.same;obtain hkp:=X.toInCall.keep;obtain p0:aG P μ σ μ s {s with heap:=h',toks:=tk}:=aG.push R hkp;refine ⟨(F.nolimit.keeps B).keeps hkp,codeAny_func ?_⟩;generalize henv:newEnv fd.scope s.heap.objs.size fd.globals (qg (s.heap.objs.size+1) fd.scope.names []) (fd.qualname++".<locals>.") (some m) fd.code none fd.builtins=env at X ⊢;obtain hsc:env.scope=fd.scope:=by refine al (aD henv) ?_;rfl
  have hkof:∀x,env.kindOf x=fd.scope.names.lookup x:=λx=>by unfold Env.kindOf;(erw[hsc];ac_rfl)
  obtain hL:env.locals=s.heap.objs.size:=by erw[aD henv];rfl
  have hcs:env.cells=qg (s.heap.objs.size+1) fd.scope.names []:=by erw[aD henv];rfl
  have hfresh:∀b∈FA env,s.heap.get? b=none:=by
   intro b hb;have:s.heap.objs.size<=b:=by
    rcases aV.mp hb with e | hb
    ·refine al e (al hL ?_);exact bI _
    ·obtain ⟨p,hp,rfl⟩:=aL.mp hb;exact kD (dA X.toInCall.fresh (X.above p.1 p.2 hp))
   induction q:s.heap.get? b using bf with
   | none=>rfl
   | some ob=>exact absurd (fG q) (Nat.not_lt.mpr this)
  have nml:∀{x:Str}{i:Nat},Ctx.name ⟨fd.scope.names,.none⟩ x=some (.loc i)->bM x fd.scope.names 0=some (i,.local)\/bM x fd.scope.names 0=some (i,.cell):=by
   intro x i e;rcases nm_kinds e with ⟨j,q,e⟩ | ⟨j,q,e⟩ | ⟨j,q,h,e⟩
   ·exact .inl (AE.locI e▸q)
   ·exact .inr (AE.locI e▸q)
   ·exact nomatch e
  obtain nmg:∀{x:Str}{g:Nat},Ctx.name ⟨fd.scope.names,.none⟩ x=some (.glob g)->(∃i,bM x fd.scope.names 0=some (i,.globalImplicit))/\good x=true/\g=nm x:=by
   intro x i e;rcases nm_kinds e with ⟨j,q,e⟩ | ⟨j,q,e⟩ | ⟨j,q,h,e⟩
   ·exact nomatch e
   ·exact nomatch e
   ·exact ⟨⟨j,q⟩,h,(AE.globI e).symm⟩
  have nmc:∀{x:Str}{i:Nat},Ctx.name ⟨fd.scope.names,.none⟩ x≠some (.cl i):=by
   intro x i e;rcases nm_kinds e with ⟨j,q,e⟩ | ⟨j,q,e⟩ | ⟨j,q,h,e⟩<;>exact nomatch e
  obtain cold:∀b∈FA env,∃ob,h'.get? b=some ob/\¬frozen ob:=by
   intro b hb;rcases aV.mp hb with e | hb
   ·(refine aI λkK=>?_;obtain ⟨ob,es,ep,hob,hdd,J⟩:=X.toInCall.ns;refine kK ?_;clear kK);exact ⟨ob,by refine al e ?_;exact hob,qr hdd⟩
   ·obtain ⟨p,hp,rfl⟩:=aL.mp hb;have:env.cells.lookup p.1=some p.2:=by
     rw[hcs] at hp ⊢;exact EF (yC (by simpa using hnd)) hp
    obtain ⟨ob,hob,hdd⟩:=X.cell _ _ this;exact ⟨ob,hob,C6 hdd⟩
  obtain C:CR ⟨fd.scope.names,.none⟩ env (kT (cV n .none) ix ag) [] h' μ:={
   kind:=by refine al hsc ?_;exact hki
   globals:=by erw[aD henv];exact hg
   builtins:=by erw[aD henv];exact hbu
   own:=λb hb=>⟨jR R (hfresh b hb),cold b hb⟩
   ns:=⟨_,X.toInCall.ns⟩
   cells:=λx hx=>by
    rw[hkof] at hx;have:=cellsFrom_some (n:=s.heap.objs.size+1) (acc:=[]) (.inl (qJ hx));rw[<-hcs] at this;obtain ⟨a,ha⟩:=Option.isSome_iff_exists.mp this;exact ⟨a,_,ha,X.cell x a ha⟩
   apart:=λx y a e1 e2=>name_of_addr X.apart (mem_of_lookup e1) (mem_of_lookup e2)
   lc:=λx a e q=>by
    have:=X.above x a (mem_of_lookup e);rw[q] at this;exact iE _ this
   kl:=λx i e=>by
    rcases e with e | e
    ·rcases nml e with q | q
     ·exact .inl (by rewrite[hkof];exact jU q)
     ·exact .inr (by rewrite[hkof];exact jU q)
    ·exact absurd e nmc
   loc:=λx i e w hw'=>by
    rcases setAll_get hw' with q | ⟨k,q1,q2⟩
    ·rw[Cz] at q
     split at q<;>exact nomatch q
    ·have hklt:=(bP.mp q1).1;obtain hkn:names[k]? =some names[k]:=dh (by omega)
     have hx:names[k]=x:=by
      rcases hix k _ i hkn q1 with z | z<;>rcases nml e with y | y<;>exact s9 z y
     rw[hx] at hkn;obtain ⟨u,hu,hr⟩:=hargs.get q2;refine ⟨u,?_,p0.vr hr⟩;rcases nml e with y | y
     ·obtain hkl:env.kindOf x=some .local:=by rewrite[hkof];exact jU y
      exact .inl ⟨hkl,_,X.toInCall.ns,(ED hkl hpp.nd).1 k hkn u hu⟩
     ·obtain hkl:env.kindOf x=some .cell:=by rewrite[hkof];exact jU y
      have:=cellsFrom_some (n:=s.heap.objs.size+1) (acc:=[]) (.inl (qJ (jU y)));rw[<-hcs] at this;obtain ⟨a,ha⟩:=Option.isSome_iff_exists.mp this;obtain hc:=X.cell x a ha;rw[(EE hkl hpp.nd).1 k hkn u hu] at hc;exact .inr ⟨hkl,a,ha,hc⟩
   cl:=λx i e=>absurd e nmc
   gl:=λx g e=>by
    obtain ⟨⟨i,q⟩,hgd,rfl⟩:=nmg e;exact ⟨by rewrite[hkof];exact jU q,hgd,rfl⟩
   cloc:=λx i e=>absurd e nmc
   fnk:=λJ x i e=>by rewrite[hkof];exact jU e}
  obtain H:bT P d ⟨fd.scope.names,.none⟩ (A.deeper env) env (kT (cV n .none) ix ag) [] σ μ {s with heap:=h',toks:=tk}:=
   ⟨⟨r1,by refine (?_:A.depth+1+2*d+2<_);lia,by refine (?_:A.units+3+8*d+200<_);lia⟩,p0.base R B,p0.rel,C,λb hb=>by
    induction q:P.h₀.get? b using bf with
    | none=>rfl
    | some ob=>have:=B b ob q;rw[hfresh b hb] at this;exact aU this⟩
  refine aQ (Sure.get hes P S O d rfl env (A.deeper env) _ σ μ _ _ _ H hw) (λf s'' z_6=>?_) λJ J e=>e;(refine aI λkK=>?_;obtain ⟨fl,ρ',cU,μ',q,p,J,hf⟩:=z_6;refine kK ?_;clear kK);have pp:aG P μ cU μ' s s'':=(p0.toF.drop p λx hx=> .inr (hfresh x hx)).toPost;cases hf with
  | next=>exact ⟨_,_,μ',q,pp,.none⟩
  | ret hv=>exact ⟨_,_,μ',q,pp,hv⟩
end
structure yD(P:PW)(C fI:aa):Prop where
 ex:∃K:Frag,K.In P.h₀/\makesIn K C=true/\fH K (.ref C) "__init__"=some (some (.ref fI))/\typeIn K (.ref fI)=some (.type "function")
 cls:∃o cd,P.h₀.get? C=some o/\o.data= .cls cd
theorem QE(C:aa)(vs:List ab):(Code.builtin "type.__call__" ⟨.ref C::vs,[]⟩).weight=1/\(Code.builtin "type.__call__" ⟨.ref C::vs,[]⟩).cUnits=1:=by
 constructor<;>kernel_rfl
section
variable{P:PW}{S:aN}{d:Nat}{A:bh}{E:ab->aj->Prop}{s ah:aj}{σ σ':AH}{μ:List (List aa)}
theorem make_T{C fI:aa}(F:yD P C fI){args:List AV}{Q:AV->AH->Prop}(hT:TC P d (.con (.ref fI)) (.ref σ.next::args) (σ.new (.ins C [])) λv σ'=>v= .none/\Q (.ref σ.next) σ'):TC P (d+1) (.con (.ref C)) args σ Q:=by
 intro A s μ fv vals E room B R hf hv;(have hH:=lQ hf;clear hf;subst hH);obtain ⟨K,X,hm,hi,hty⟩:=F.ex;obtain ⟨o,cd,ho,hd⟩:=F.cls;have XK:=ow X B;have ho':=B _ _ ho;refine ⟨λKp hK=>?_,?_⟩
 ·unfold nS;refine ak (mF ho' ?_);erw[hd];have hs:=(makes_of (M:=P.M) XK hm).call;exact ak (hs.here (aC (hK _)))
 ·obtain ⟨hh,g,dr,t,os⟩:=s;refine make_core (makes_of XK hm) (looks_findIn XK hi) (λself=>bind_fn XK self hty) (.inl rfl) ?_;have k:∀b o,hh.get? b=some o->((hh.push emptyDict).push (instObj C hh.objs.size)).get? b=some o:=λb o e=>cp _ (cp _ e);have g1:((hh.push emptyDict).push (instObj C hh.objs.size)).get? (hh.objs.size+1)=some (instObj C hh.objs.size):=by heap_get
  have g2:((hh.push emptyDict).push (instObj C hh.objs.size)).get? hh.objs.size=some emptyDict:=by heap_get
  have n1:hh.get? (hh.objs.size+1)=none:=by
   induction q:hh.get? (hh.objs.size+1) using bf with
   | none=>rfl
   | some o=>exact absurd (fG q) (by simp)
  have p0:aG P μ (σ.new (.ins C [])) (μ++[[hh.objs.size+1,hh.objs.size]]) ⟨hh,g,dr,t,os⟩ ⟨(hh.push emptyDict).push (instObj C hh.objs.size),g,dr,t,os⟩:=by
   refine aG.new (s:=⟨hh,g,dr,t,os⟩) (t:=t) R B k (λb hb=>?_) (by simp) ⟨by simp,_,_,_,_,#[],_,rfl,g1,rfl,rfl,rfl,g2,⟨rfl,rfl,rfl⟩,rfl,by intro e he;simp at he,by simp,λx hg=>rfl⟩
   simp only[aV,am,or_false] at hb;rcases hb with rfl | rfl
   ·exact n1
   ·exact dJ _
  obtain ⟨w1,w2⟩:=QE C vals;obtain ⟨r1,r2,r3⟩:=room;have room':lS (A.under (.builtin "type.__call__" ⟨.ref C::vals,[]⟩)) d:=by
   refine ⟨r1,?_,?_⟩
   ·refine (?_:A.depth+_+2*d+2<_);erw[w1];lia
   ·refine (?_:A.units+_+8*d+200<_);erw[w2];lia
  have el:(μ++[[hh.objs.size+1,hh.objs.size]])[σ.next]? =some [hh.objs.size+1,hh.objs.size]:=by erw[R.next];exact iP
  refine codeAny_mono (hT _ _ _ (.ref fI) (.ref (hh.objs.size+1)::vals) E room' (p0.base R B) p0.rel (.con _) (.cons (.ref el) (p0.vrs hv))).2 λr s' z=>?_;cases r with
  | error e=>exact z
  | ok f=>
   induction f using Flow.casesOn with
   | ret w=>
    obtain ⟨v,σ',μ',⟨rfl,q⟩,p,hr⟩:=z;refine ⟨?_,_,_,μ',q,p0.trans p,.ref (p.ext _ _ el)⟩;(have hH:=jk hr;clear hr;subst hH);rfl
   | _=>exact z
end
section
variable{P:PW}{d:Nat}{σ σ':AH}
set_option tactic.hygienic true in
theorem EH{m:aa}{l:Nat}{args:List AV}{Q:AV->AH->Prop}(hm:∃o,P.h₀.get? m=some o)(hT:TC P d (.con (.ref m)) (.ref l::args) σ Q):TC P d (.bm m l) args σ Q:=by
 intro A s μ fv vals E room B R hf hv;obtain ⟨om,hom⟩:=hm;obtain ⟨_,_,_,_,rfl,_,_,_,_⟩:=C3 hf;rename_i x r a o ho hc hd hl;refine ⟨λK hK=>?_,?_⟩
 ·unfold nS;refine ak (mF ho ?_);erw[hd];dsimp only;erw[hc];refine wpAny_ite_false (by rfl) ?_
  refine (?_:aw _ _ (load m>>=_) _ _ _);refine ak (mF (B _ _ hom) ?_);exact aC (hK _)
 ·refine xt ?_;refine (?_:aw _ A.in1 (callAny (.ref a) ⟨vals,[]⟩) _ _ _);unfold callAny;refine ak (mF ho ?_);erw[hd];dsimp only;erw[hc];refine sV (by rfl) ?_
  exact aC ⟨rfl,(hT A s μ (.ref m) (.ref x::vals) E room B R (.con _) (.cons (.ref hl) hv)).2⟩
end
section
variable{P:PW}{S:aN}{d:Nat}{A:bh}{E:ab->aj->Prop}{s ah:aj}{σ σ':AH}{μ:List (List aa)}
inductive BR(P:PW)(μ:List (List aa))(s:aj)(v:AV)(σ':AH)(r:ab)(s':aj):Prop
 | mk (μ':List (List aa)) (p:aG P μ σ' μ' s s') (h:VR s'.heap μ' v r)
def BT(P:PW)(f:ab)(args:List AV)(σ:AH)(v:AV)(σ':AH):Prop:=
 ∀(A:bh)(s:aj)(μ:List (List aa))(vs:List ab)(E:ab->aj->Prop),A.handled= .none->A.units+200<ed->P.Base s.heap->SR P.prog P.w P.h₀ σ μ s.heap->aB s.heap μ args vs->
  aw P.M A (call f vs) (BR P μ s v σ') E s
theorem BT.builtin{i:String}{args:List AV}{v:AV}{Q:AV->AH->Prop}(h:BT P (.builtin i) args σ v σ')(q:Q v σ'):T P d (.con (.builtin i)) args σ Q:=λA s μ fv vs E room B R hf hv=>by
 (have hH:=lQ hf;clear hf;subst hH);exact ⟨λK hK=>aC (hK _),aQ (h A s μ vs E room.1 (by have:=room.2.2;lia) B R hv) (λr s' z9=>by obtain ⟨μ',p,hr⟩:=z9;exact ⟨v,σ',μ',q,p,hr⟩) λJ J e=>e⟩
theorem BT.type{i:String}{args:List AV}{v:AV}{Q:AV->AH->Prop}(h:BT P (.type i) args σ v σ')(q:Q v σ'):T P d (.con (.type i)) args σ Q:=λA s μ fv vs E room B R hf hv=>by
 (have hH:=lQ hf;clear hf;subst hH);exact ⟨λK hK=>aC (hK _),aQ (h A s μ vs E room.1 (by have:=room.2.2;lia) B R hv) (λr s' z9=>by obtain ⟨μ',p,hr⟩:=z9;exact ⟨v,σ',μ',q,p,hr⟩) λJ J e=>e⟩
theorem gu(R:SR P.prog P.w P.h₀ σ μ s.heap){v:AV}{r:ab}(t:Nat)(hv:VR s.heap μ v r):BR P μ s v σ r {s with toks:=t}:=⟨μ,aG.tok R t,hv⟩
theorem yE(R:SR P.prog P.w P.h₀ σ μ s.heap){v:AV}{r:ab}(hv:VR s.heap μ v r):BR P μ s v σ r s:=⟨μ,aG.refl R,hv⟩
theorem ui(R:SR P.prog P.w P.h₀ σ μ s.heap){v:AV}{r:ab}{h':aE}(t:Nat)(hk:∀b o,s.heap.get? b=some o->h'.get? b=some o)(hv:VR h' μ v r):BR P μ s v σ r {s with heap:=h',toks:=t}:=⟨μ,aG.push R hk,hv⟩
theorem qQ(B:P.Base s.heap)(R:SR P.prog P.w P.h₀ σ μ s.heap){xs:List AV}{vs:Array ab}{h':aE}{a:aa}{n:Nat}(t:Nat)(hk:∀b o,s.heap.get? b=some o->h'.get? b=some o)(h0:s.heap.get? a=none)
  (ha:h'.get? a=some {cls:= .type "list",data:= .seq vs n}) (hv:aB s.heap μ xs vs.toList) (hl:xs.length<=aY):BR P μ s (.ref σ.next) (σ.new (.lst xs)) (.ref a) {s with heap:=h',toks:=t}:=
 ⟨μ++[[a]],aG.new R B hk (λb hb=>by rw[aF] at hb;erw[hb];exact h0) (by simp) ⟨hl,a,vs,n,rfl,ha,hv.mono (λb o e J=>hk b o e) λJ J e=>jo e⟩,.ref (by erw[R.next];exact iP)⟩
theorem eY{h:aE}{x:AV}{vs:List ab}(H:aB h μ [x] vs):∃v,vs=[v]/\VR h μ x v:=by
 cases H with | cons a r=>(have hH:=jl r;clear r;subst hH);exact ⟨_,rfl,a⟩
theorem iR{h:aE}{x y:AV}{vs:List ab}(H:aB h μ [x,y] vs):∃v u,vs=[v,u]/\VR h μ x v/\VR h μ y u:=by
 cases H with | cons a r=>obtain ⟨u,rfl,b⟩:=eY r;exact ⟨_,_,rfl,a,b⟩
theorem qR{h:aE}{x y z:AV}{vs:List ab}(H:aB h μ [x,y,z] vs):∃v u w,vs=[v,u,w]/\VR h μ x v/\VR h μ y u/\VR h μ z w:=by
 cases H with | cons a r=>obtain ⟨u,w,rfl,b,c⟩:=iR r;exact ⟨_,_,_,rfl,a,b,c⟩
set_option tactic.hygienic true in
theorem oH(x:List Nat):BT P (.builtin "len") [.str x] σ (.int x.length) σ:=λA s μ vs E hh hu B R hv=>by
 obtain ⟨v,rfl,h⟩:=eY hv;obtain ⟨_,rfl,_⟩:=eE h;rename_i t hl;have e:(st x).length=x.length:=by simp[st,CI]
 refine PySem.P.len_str (x:=st x) ?_ ?_
 ·erw[e];have:=kN;lia
 ·erw[e];exact gu R _ (.int _ _)
theorem lZ{l:Nat}{xs:List AV}(e:σ.m l=some (.lst xs)):BT P (.builtin "len") [.ref l] σ (.int xs.length) σ:=λA s μ vs E hh hu B R hv=>by
 obtain ⟨v,rfl,h⟩:=eY hv;obtain ⟨a,us,n,rfl,J,hl,ho,hr⟩:=dl R e h;have hz:=hr.size;refine call_len_list (fZ ho) (by erw[hz];have:=kN;lia) ?_
 erw[hz];exact gu R _ (.int _ _)
theorem EI{c:aa}{is:List Int}(e:oq P c is):BT P (.builtin "len") [.con (.ref c)] σ (.int is.length) σ:=λA s μ vs E hh hu B R hv=>by
 obtain ⟨v,rfl,h⟩:=eY hv;(have hH:=lQ h;clear h;subst hH);obtain ⟨hl,us,n,ho,hr⟩:=e;have hz:=(hr s.heap []).size;rw[ay] at hz;refine call_len_list (fZ (B _ _ ho)) (by erw[hz];have:=kN;lia) ?_
 erw[hz];exact gu R _ (.int _ _)
set_option tactic.hygienic true in
theorem QF(xs:List AV):BT P (.builtin "len") [.tup xs] σ (.int xs.length) σ:=λA s μ vs E hh hu B R hv=>by
 obtain ⟨v,rfl,h⟩:=eY hv;obtain ⟨_,_,_,rfl,_,_,_⟩:=s0 h;rename_i a us n ho hl hr;have hz:=hr.size;refine len_tuple (qB ho) (by erw[hz];have:=kN;lia) ?_
 erw[hz];exact gu R _ (.int _ _)
theorem QG(c:Nat):BT P (.builtin "ord") [.str [c]] σ (.int c) σ:=λA s μ vs E hh hu B R hv=>by
 obtain ⟨v,rfl,h⟩:=eY hv;obtain ⟨_,rfl,_⟩:=eE h;exact PySem.P.ord_of_char (gu R _ (.int _ _))
theorem EJ(n:Nat)(hn:(n:Int)<2 ^ 62):BT P (.type "range") [.int n] σ (.rng n) σ:=λA s μ vs E hh hu B R hv=>by
 obtain ⟨v,rfl,h⟩:=eY hv;obtain ⟨_,rfl⟩:=cX h;exact call_range_1 (ui R _ (λb o e=>cp _ e) (.rng hn (fJ _ rfl)))
theorem QH(i:Int):BT P (.type "int") [.int i] σ (.int i) σ:=λA s μ vs E hh hu B R hv=>by
 obtain ⟨v,rfl,h⟩:=eY hv;obtain ⟨_,rfl⟩:=cX h;exact call_int_int (yE R (.int _ _))
theorem yF(b:Bool):BT P (.type "int") [.bool b] σ (.int (if b then 1 else 0)) σ:=λA s μ vs E hh hu B R hv=>by
 obtain ⟨v,rfl,h⟩:=eY hv;(have hH:=qq h;clear h;subst hH);exact call_int_bool (gu R _ (.int _ _))
theorem QI(a b:Int):BT P (.builtin "min") [.int a,.int b] σ (.int (if b<a then b else a)) σ:=λA s μ vs E hh hu B R hv=>by
 obtain ⟨v,u,rfl,h1,h2⟩:=iR hv;obtain ⟨_,rfl⟩:=cX h1;obtain ⟨_,rfl⟩:=cX h2;refine min_two_ints hh λh' tk hk=>?_
 split<;>exact ui R _ hk (.int _ _)
theorem EK(a b:Int):BT P (.builtin "max") [.int a,.int b] σ (.int (if b>a then b else a)) σ:=λA s μ vs E hh hu B R hv=>by
 obtain ⟨v,u,rfl,h1,h2⟩:=iR hv;obtain ⟨_,rfl⟩:=cX h1;obtain ⟨_,rfl⟩:=cX h2;refine max_two_ints hh λh' tk hk=>?_
 split<;>exact ui R _ hk (.int _ _)
theorem yG{l:Nat}{xs:List AV}(e:σ.m l=some (.lst xs)):BT P (.type "list") [.ref l] σ (.ref σ.next) (σ.new (.lst xs)):=λA s μ vs E hh hu B R hv=>by
 obtain ⟨v,rfl,h⟩:=eY hv;obtain ⟨a,us,n,rfl,J,hl,ho,hr⟩:=dl R e h;refine call_list_seq a (.inl rfl) ho rfl rfl (λh' c' hk hD=>?_) (by erw[hr.size];exact hl)
 exact qQ B R s.toks hk (dJ _) hD hr hl
theorem kU{l:Nat}{xs:List AV}(e:σ.m l=some (.lst xs)):BT P (.type "tuple") [.ref l] σ (.tup xs) σ:=λA s μ vs E hh hu B R hv=>by
 obtain ⟨v,rfl,h⟩:=eY hv;obtain ⟨a,us,n,rfl,J,hl,ho,hr⟩:=dl R e h;refine call_tuple_list (fZ ho) (λh' hk=>?_) (by erw[hr.size];exact hl)
 have hk':∀b o,s.heap.get? b=some o->(h'.push {cls:= .type "tuple",data:= .seq us}).get? b=some o:=λb o e=>cp _ (hk b o e);exact ui R _ hk' (.tup hl (Di us) (hr.mono (λb o e J=>hk' b o e) λJ J e=>e))
theorem EL(n:Int)(hn:n.natAbs.log2<1920):BT P (.type "str") [.int n] σ (.str (cz (toString n)).cps.toList) σ:=λA s μ vs E hh hu B R hv=>by
 obtain ⟨v,rfl,h⟩:=eY hv;obtain ⟨_,rfl⟩:=cX h;refine PySem.P.str_of_int hn (gu R _ ?_);exact .str _ _ (by have:=PySem.int_text_fits hn;simpa [CI] using this)
end
section
variable{P:PW}{S:aN}{d:Nat}{A:bh}{E:ab->aj->Prop}{s ah:aj}{σ σ':AH}{μ:List (List aa)}
theorem yH(R:SR P.prog P.w P.h₀ σ μ s.heap){l:Nat}{a:aa}{xs ys:List AV}{vs ws:Array ab}{n:Nat}{v:AV}{r:ab}{f:Array ab->Array ab}(e:σ.m l=some (.lst xs))(el:μ[l]? =some [a])
  (ho:s.heap.get? a=some {cls:= .type "list",data:= .seq vs n}) (hf:f vs=ws) (hl:ys.length<=aY) (hv:aB s.heap μ ys ws.toList) (hr:VR s.heap μ v r):
  BR P μ s v (σ.set l (.lst ys)) r {s with heap:=s.heap.update a (fK f)}:=by
 have p:=te (t:=s.toks) R e el ho (hf▸IsL.update ho f) (nX ..) hl hv;exact ⟨μ,p,p.vr hr⟩
theorem dK{l:Nat}{xs:List AV}{x:AV}(e:σ.m l=some (.lst xs))(hl:xs.length<aY):BT P (.builtin "list.append") [.ref l,x] σ .none (σ.set l (.lst (xs++[x]))):=λA s μ vs E hh hu B R hv=>by
 obtain ⟨v,u,rfl,h1,h2⟩:=iR hv;obtain ⟨a,us,n,rfl,el,J,ho,hr⟩:=dl R e h1;refine wpAny_list_append_plain ⟨n,ho⟩ (λh' z_0 hs=>?_) (by erw[hr.size];(with_reducible assumption))
 obtain ⟨n',hp⟩:=z_0;have p:=te (ys:=xs++[x]) (t:=s.toks) R e el ho hp hs (by simp;(with_reducible exact xr ‹_›)) (by simpa using hr.append (.cons h2 .nil))
 exact ⟨μ,p,.none⟩
theorem qT{l:Nat}{xs:List AV}{x:AV}(e:σ.m l=some (.lst (xs++[x]))):BT P (.builtin "list.pop") [.ref l] σ x (σ.set l (.lst xs)):=λA s μ vs E hh hu B R hv=>by
 obtain ⟨v,rfl,h1⟩:=eY hv;obtain ⟨a,us,n,rfl,el,hl,ho,hr⟩:=dl R e h1;have hz:=hr.size;rw[bR,qf] at hz hl;obtain ⟨us,rfl⟩:∃l:List ab,us=l.toArray:=⟨us.toList,by simp⟩
 obtain ⟨y,hy,hxy⟩:=hr.get (i:=xs.length) (x:=x) (by simp)
 rw[lI] at hy hr;refine lH LV ⟨_,ho,rfl⟩ PySem.F.entry_list_pop (PySem.F.args_list_pop_1 _) (PySem.MeetsSeq.list_pop_last a _ n y (by erw[hz];simpa using hy) (by lia)) ⟨ho,?_⟩
 erw[hz];have hdl:us.eraseIdx xs.length=us.take xs.length:=by
  (rewrite[List.eraseIdx_eq_take_drop_succ];erw[LQ (by simp at hz;(with_reducible exact iH ‹_›))];rw[dB])
 refine yH R e el ho (ws:=(us.take xs.length).toArray) ?_ (by lia) (by simpa using hr.take xs.length) hxy
 unfold Array.eraseIdxIfInBounds;erw[dif_pos (by simp at hz ⊢;lia)]
 apply kx.mp;erw[Array.toList_eraseIdx];exact hdl
theorem EM{l:Nat}{xs ys:List AV}{x:AV}{i:Int}(e:σ.m l=some (.lst (xs++x::ys)))(hi:i=xs.length):BT P (.builtin "list.pop") [.ref l,.int i] σ x (σ.set l (.lst (xs++ys))):=λA s μ vs E hh hu B R hv=>by
 obtain ⟨v,u,rfl,h1,h2⟩:=iR hv;obtain ⟨_,rfl⟩:=cX h2;obtain ⟨a,us,n,rfl,el,hl,ho,hr⟩:=dl R e h1;have hz:=hr.size;rw[bR,dW] at hz hl;obtain ⟨us,rfl⟩:∃l:List ab,us=l.toArray:=⟨us.toList,by simp⟩
 obtain ⟨y,hy,hxy⟩:=hr.get (i:=xs.length) (x:=x) (by simp)
 rw[lI] at hy hr;have hb:=kN;refine lH LV ⟨_,ho,rfl⟩ PySem.F.entry_list_pop (PySem.F.args_list_pop_2 _ _) (PySem.MeetsSeq.list_pop_at a _ n i _ xs.length y ?_ ?_ (by simpa using hy) (by lia)) ⟨ho,?_⟩
 ·unfold Xi;rewrite[bV,decide_eq_true_iff,decide_eq_true_iff];lia
 ·(erw[hz];erw[hi]);unfold seqIndex?;dsimp only;(erw[if_neg (show ¬(xs.length:Int)<0 by lia)];erw[if_pos (by rewrite[bV,decide_eq_true_iff,decide_eq_true_iff];lia)])
  rfl
 ·have hdl:us.eraseIdx xs.length=us.take xs.length++us.drop (xs.length+1):=List.eraseIdx_eq_take_drop_succ ..;refine yH R e el ho (ws:=(us.eraseIdx xs.length).toArray) ?_ (by simp;lia) ?_ hxy
  ·unfold Array.eraseIdxIfInBounds;erw[dif_pos (by simp at hz ⊢;lia)]
   apply kx.mp;(erw[Array.toList_eraseIdx];ac_rfl)
  ·(erw[lI];erw[hdl]);have a1:=hr.take xs.length;have a2:=hr.drop (xs.length+1);rw[List.take_left] at a1;rw[show (xs++x::ys).drop (xs.length+1)=ys by (erw[aD xu];erw[List.drop_left]);rfl] at a2
   simpa using a1.append a2
theorem EN{l m:Nat}{xs ys:List AV}(e:σ.m l=some (.lst xs))(e2:σ.m m=some (.lst ys))(hl:xs.length+ys.length<=aY):BT P (.builtin "list.extend") [.ref l,.ref m] σ .none (σ.set l (.lst (xs++ys))):=λA s μ vs E hh hu B R hv=>by
 obtain ⟨v,u,rfl,h1,h2⟩:=iR hv;obtain ⟨a,us,n,rfl,el,J,ho,hr⟩:=dl R e h1;obtain ⟨b,ws,k,rfl,J,J,hob,hr2⟩:=dl R e2 h2;have z1:=hr.size;have z2:=hr2.size;refine lH PySem.F.slot_list_extend ⟨_,ho,rfl⟩ PySem.F.entry_list_extend (PySem.F.args_list_extend_2 _ _) (PySem.AutoSeq1.list_extend_list_list_0 a us n b ws k ?_ (by lia) (by lia)) ⟨ho,hob,yH R e el ho rfl (by simp;(with_reducible assumption)) (by simpa using hr.append hr2) .none⟩
 unfold Builtin.List.listTooLong;erw[decide_eq_false (by lia)]
 simp
theorem EO(hsys:∃o,P.h₀.get? gk=some o){l:Nat}{kvs:List (AV × AV)}{x y:AV}(e:σ.m l=some (.dct kvs))(hs:fY kvs x):BT P (.builtin "dict.get") [.ref l,x,y] σ ((cy kvs x).getD y) σ:=λA s μ vs E hh hu B R hv=>by
 obtain ⟨v,u,w,rfl,h1,h2,h3⟩:=qR hv;obtain ⟨a,kd,rfl,el,J,hD,h0⟩:=jp R e h1;obtain ⟨od,hod,hx⟩:=hD.obj;have D:=oy hD hs h2;refine call_meetsIn LW ⟨od,hod,hx.1⟩ PySem.F.entry_dict_get (PySem.F.args_dict_get_3 _ _ _) (S:=λA' R' s'=>s'=s/\A'=A/\R'=wants (BR P μ s ((cy kvs x).getD y) σ) E) (.of_wp λA' R' s' z_1=>?_) ⟨rfl,rfl,rfl⟩;obtain ⟨e1,e2,e3⟩:=z_1;subst e1 e2 e3;refine (?_:aw _ _ (dictGet a u>>=_) _ _ _);refine ak (D.get rfl (by refine (?_:A'.units+1+2<_);lia) (λv' u' t ev hr=>aC ⟨_,rfl,?_⟩) λt ev=>?_)
 ·erw[ev];exact gu R _ hr
 ·refine (?_:aw _ _ (Builtin.Dict.missed a u>>=_) _ _ _);erw[ev];exact ak (wpAny_missed_other (oD (h:=s'.heap) hsys h0) (aC ⟨_,rfl,gu R _ h3⟩))
theorem uj(hsys:∃o,P.h₀.get? gk=some o){l:Nat}{kvs:List (AV × AV)}{x:AV}(e:σ.m l=some (.dct kvs))(hs:fY kvs x):BT P (.builtin "dict.get") [.ref l,x] σ ((cy kvs x).getD .none) σ:=λA s μ vs E hh hu B R hv=>by
 obtain ⟨v,u,rfl,h1,h2⟩:=iR hv;obtain ⟨a,kd,rfl,el,J,hD,h0⟩:=jp R e h1;obtain ⟨od,hod,hx⟩:=hD.obj;have D:=oy hD hs h2;refine call_meetsIn LW ⟨od,hod,hx.1⟩ PySem.F.entry_dict_get (PySem.F.args_dict_get_2 _ _) (S:=λA' R' s'=>s'=s/\A'=A/\R'=wants (BR P μ s ((cy kvs x).getD .none) σ) E) (.of_wp λA' R' s' z_2=>?_) ⟨rfl,rfl,rfl⟩;obtain ⟨e1,e2,e3⟩:=z_2;subst e1 e2 e3;refine (?_:aw _ _ (dictGet a u>>=_) _ _ _);refine ak (D.get rfl (by refine (?_:A'.units+1+2<_);lia) (λv' u' t ev hr=>aC ⟨_,rfl,?_⟩) λt ev=>?_)
 ·erw[ev];exact gu R _ hr
 ·refine (?_:aw _ _ (Builtin.Dict.missed a u>>=_) _ _ _);erw[ev];exact ak (wpAny_missed_other (oD (h:=s'.heap) hsys h0) (aC ⟨_,rfl,gu R _ .none⟩))
end
theorem QJ:typeLookup (.type "list") "keys"=pure none:=by (rewrite[typeLookup_type];erw[builtinLookup_eq_fast]);kernel_rfl
theorem QK{prog:dk}{w:bk}{A:bh}{E:ab->aj->Prop}{s:aj}{a:aa}{xs:Array ab}{k:Nat}{Q:Option ab->aj->Prop}(hx:s.heap.get? a=some {cls:= .type "list",data:= .seq xs k})(hA:A.handled=none)
  (h:∀h' tk,(∀b o,s.heap.get? b=some o->h'.get? b=some o)->Q none {s with heap:=h',toks:=tk}):aw (model prog w) A (getAttr? (.ref a) "keys") Q E s:=by
 obtain ⟨hp,g,d,tk,os⟩:=s;have hT:∀tk',(⟨hp,g,d,tk',os⟩:aj).TypeIs (.ref a) "list":=λJ=>⟨_,hx,rfl⟩;have f1:=sub_AttributeError;have f3:=F.slot_list_getattribute.lookup;have f4:=F.slot_list_getattribute.bind (.ref a);have f5:=am_list_getattr_none;have hmiss:=QJ;unfold getAttr? getAttrBy? getAttrBy
 repeat (any_goals (first | assumption | exact hT _ | ((with_reducible refine (?_:aw _ _ (call (Value.builtin "list.__getattribute__") _ _) _ _ _));refine lH F.slot_list_getattribute (hT _) am_entry_list_getattribute (F.args_list_getattribute_2 _ _) (meets_getattribute_miss_list a xs k #[] "keys" _ hmiss (by decide+kernel) (by decide+kernel)) ⟨hx,hA,λh' tk' e hx'=>?_⟩) | wp_step))
 obtain ⟨t',u',he⟩:=hx'.there;refine (?_:aw _ _ (getattributeRaised _ _ _ _ _ _ _) _ _ _);unfold getattributeRaised
 repeat (any_goals (first | assumption | wp_step))
 exact h _ _ hx'.of.keeps
theorem QL(σ:AH)(a b:AO):(σ.new a).set σ.next b=σ.new b:=by
 unfold AH.new AH.set;congr 1;funext x;by_cases h:x=σ.next<;>simp[h]
noncomputable def gw(acc:List (AV × AV))(ps:List (AV × AV)):List (AV × AV):=ps.foldl (λa p=>dset a p.1 p.2) acc
noncomputable abbrev pairs(ps:List (AV × AV)):List AV:=ps.map λp=> .tup [p.1,p.2]
theorem EP:entryFor table "dict.update.loop"=some Builtin.«dict.update.loop»:=entryFor_of_tree (by kernel_rfl)
theorem uk:plainId "dict.update.loop"=true:=by decide+kernel
section
variable{P:PW}{S:aN}{d:Nat}{A:bh}{E:ab->aj->Prop}{s ah:aj}{σ σ':AH}{μ:List (List aa)}
theorem QM{l:Nat}{ps:List (AV × AV)}{kd:KD}{a D I:aa}{sb:aj}{μb:List (List aa)}{R:Result->aj->Prop}(hh:A.handled=none)(hu:A.units+10<ed)(hps:∀p∈ps,kindOf p.1=some kd)(e:σ.m l=some (.lst (pairs ps)))(bD:l<σ.next)(bl:ps.length<=aY)
  (h0:sb.heap.get? I=none):
  ∀(r:List (AV × AV))(i:Nat)(acc:List (AV × AV))(μ:List (List aa))(s:aj)(t:Tok),ps.drop i=r->(∀p∈acc,kindOf p.1=some kd)->acc.length<=i->i<=ps.length->bg P [] μb (σ.new (.dct acc)) μ sb s->I∉μ.flatten->VR s.heap μ (.ref l) (.ref a)->μ[σ.next]? =some [D]->
   dZ s.heap I (.ref l) (.ref a) i->(∀μ' s',bg P [] μb (σ.new (.dct (gw acc r))) μ' sb s'->μ'=μ->R (.ok (.ret .none)) s')->kq P.M A (.builtin "dict.update.loop" ⟨[.ref D,.ref I,.int i t,.none],[]⟩) R s:=by
 intro r
 induction r with
 | nil=>
  intro i acc μ s t hd hacc hle hil0 p hI hv hD it hR;refine CJ EP ?_;erw[L5 uk _];refine (?_:aw _ A.in1 (pyNext (.ref I)>>=_) _ _ s);have hi:bz (.ref l) (σ.new (.dct acc))=some (pairs ps):=by refine (?_:(match (σ.new (.dct acc)).m l with | some (.lst xs)=>some xs | _=>none)=_);(erw[qK bD e];ac_rfl)
  refine ak (aQ (yj (A:=A.in1) p.rel hh hI it hv hi (by rewrite[ay];exact hil0)) (λq s1 h1=>?_) λJ J x=>x)
  have hx:(pairs ps)[i]? =none:=by
   rewrite[Cg,ay];rw[LZ] at hd;exact hd
  rw[hx] at h1;obtain ⟨rfl,h',rfl,hb⟩:=h1;obtain ⟨oi,ho1,hz⟩:=it.cold;exact ak (aC (aC (hR _ _ (p.ends (t:=s.toks) h0 hI (λo ho=>by rw[ho1] at ho;(have hH:=aO ho;clear ho;subst hH);exact hz) hb) rfl)))
 | cons q r ih=>
  intro i acc μ s t hd hacc hle hil0 p hI hv hD it hR;refine CJ EP ?_;erw[L5 uk _];refine (?_:aw _ A.in1 (pyNext (.ref I)>>=_) _ _ s);have hi:bz (.ref l) (σ.new (.dct acc))=some (pairs ps):=by refine (?_:(match (σ.new (.dct acc)).m l with | some (.lst xs)=>some xs | _=>none)=_);(erw[qK bD e];ac_rfl)
  refine ak (aQ (yj (A:=A.in1) p.rel hh hI it hv hi (by rewrite[ay];exact hil0)) (λy s1 h1=>?_) λJ J x=>x)
  have hq:ps[i]? =some q:=by
   have:(ps.drop i)[0]? =some q:=by erw[hd];rfl
   rwa [sU,Nat.add_zero] at this
  have hx:(pairs ps)[i]? =some (.tup [q.1,q.2]):=by (erw[bt];erw[hq]);rfl
  rw[hx] at h1;obtain ⟨u,rfl,p1,hu1,it1⟩:=h1;have pp:=p.drop p1 λx hx=> .inr (by rw[aF] at hx;erw[hx];exact h0)
  obtain ⟨b,vs,n,rfl,J,hob,hvs⟩:=gZ hu1;obtain ⟨k,v,hkv,hk,hv2⟩:=iR hvs;dsimp only;refine ak (cM (ak (wpAny_tryCatch ?_)));unfold Builtin.Dict.pairItems;refine ak (wpAny_typeOf (T:="tuple") ⟨_,hob,rfl⟩ ?_);refine sV (by rfl) ?_
  refine ak ?_;refine (?_:aw _ _ (load b>>=_) _ _ _);refine ak (mF hob (aC (aC ?_)));refine (?_:aw _ _ (match ((some vs).getD #[]).toList with | [k,v]=>_ | l=>_) _ _ _)
  rewrite[show ((some vs).getD #[]).toList=[k,v] from hkv]
  dsimp only;have em:(σ.new (.dct acc)).m σ.next=some (.dct acc):=by refine (?_:(if σ.next=σ.next then _ else _)=_);(erw[if_pos rfl];ac_rfl)
  obtain ⟨D',kd',eD,J,J,hDK,h00⟩:=jp (P:=P) pp.rel em (.ref (p1.ext _ _ hD));(have hH:=sM eD;clear eD;subst hH);have ops:=oy hDK ⟨kd,hps q (cj hq),hacc⟩ hk;have hil:=(bP.mp hq).1;refine cM (ops.put rfl (by refine (?_:A.units+1+1<_);lia) hv2 (by lia) λh' t' hs hM=>?_)
  refine aC ⟨plainId_quiet uk _,?_⟩;obtain ⟨od,hod,hxd⟩:=hDK.obj;have p2:aG P μ (σ.new (.dct (dset acc q.1 q.2))) μ s1 {s1 with heap:=h',toks:=t'}:=by
   have:=aG.turn (P:=P) (t:=t') pp.rel em (p1.ext _ _ hD) (yh hs) (o':= .dct (dset acc q.1 q.2)) ⟨by have:=yd acc q.1 q.2;lia,D,_,rfl,hM.choose_spec⟩
   rwa [QL] at this
  have pn:=pp.trans p2.toF;have bA:D≠I:=λc=>hI (c▸fL hD (.head _));refine ih (i+1) _ μ _ _ ?_ ?_ ?_ ?_ pn hI (p2.vr (p1.vr hv)) hD (it1.keeps λo ho=>(hs.2 I (jH bA)).trans ho) hR
  ·have:(ps.drop i).drop 1=r:=by erw[hd];rfl
   rwa [xu] at this
  ·intro p hp;rcases dset_keys acc q.1 q.2 p hp with e1 | ⟨z,hz,e1⟩
   ·erw[e1];exact hps q (cj hq)
   ·erw[e1];exact hacc z hz
  ·have:=yd acc q.1 q.2;lia
  ·lia
theorem ul{l:Nat}{ps:List (AV × AV)}{kd:KD}(e:σ.m l=some (.lst (pairs ps)))(hps:∀p∈ps,kindOf p.1=some kd):BT P (.type "dict") [.ref l] σ (.ref σ.next) (σ.new (.dct (gw [] ps))):=λA s μ vs E hh hu B R hv=>by
 obtain ⟨v,rfl,h⟩:=eY hv;obtain ⟨a,us,n,rfl,el,hl,ho,hr⟩:=dl R e h;rw[ay] at hl;refine callType_codes (Q₁:=λobj ah=>obj= .ref s.heap.objs.size/\ah={s with heap:=s.heap.push {cls:= .type "dict",data:= .dict #[]}}) F.kt_called_dict (F.kt_typeCall_dict_1 _) F.entry_dict_init (kt_code_dict_new _ ⟨rfl,rfl⟩) ?_
 rintro obj ah ⟨rfl,rfl⟩
 have hg:(s.heap.push {cls:= .type "dict",data:= .dict #[]}).get? s.heap.objs.size=some {cls:= .type "dict",data:= .dict #[]}:=fJ _ rfl;have hnew:(s.heap.push {cls:= .type "dict",data:= .dict #[]}).DictOf (strKind P.prog P.w) s.heap.objs.size []:=Heap.DictOf.new s.heap;have p0:aG P μ (σ.new (.dct [])) (μ++[[s.heap.objs.size]]) s {s with heap:=s.heap.push {cls:= .type "dict",data:= .dict #[]}}:=by
  refine aG.new (t:=s.toks) R B (λJ J e=>cp _ e) (λb hb=>by rw[aF] at hb;erw[hb];exact dJ _) (by simp) ⟨by simp,_,.s,rfl,?_⟩
  exact ⟨[],hnew,rfl,.nil,λx hx=>by simp at hx⟩
 have bA:a≠s.heap.objs.size:=λc=>iE _ (c▸fG ho);have ho':=cp {cls:= .type "dict",data:= .dict #[]} ho;refine ⟨hnew.typeIs,F.args_dict_init_2 _ _,?_⟩;unfold Builtin.«dict.__init__»;refine ak ?_;unfold Builtin.Dict.selfAndRest;refine ak (LN hnew.typeIs ?_);refine (?_:aw _ _ (pure (s.heap.objs.size,[jg a])) _ _ _);refine aC ?_;refine (?_:aw _ _ (Builtin.Dict.updateFrom "dict.__init__" s.heap.objs.size (.ref a) [] .none) _ _ _);unfold Builtin.Dict.updateFrom;refine ak (wpAny_typeOf (T:="list") ⟨_,ho',rfl⟩ ?_);refine sV (by rfl) ?_
 refine ak (QK ho' hh λh1 t1 hk1=>?_);have p1:aG P (μ++[[s.heap.objs.size]]) (σ.new (.dct [])) (μ++[[s.heap.objs.size]]) {s with heap:=s.heap.push {cls:= .type "dict",data:= .dict #[]}} {s with heap:=h1,toks:=t1}:=aG.push p0.rel hk1;refine sV (by rfl) ?_
 refine ak (sO ?_);have hv1:VR h1 (μ++[[s.heap.objs.size]]) (.ref l) (.ref a):=p1.vr (p0.vr h);have bD:=R.lt e;have hi:bz (.ref l) (σ.new (.dct []))=some (pairs ps):=by refine (?_:(match (σ.new (.dct [])).m l with | some (.lst xs)=>some xs | _=>none)=_);(erw[qK bD e];ac_rfl)
 refine ak (aQ (th (s:={s with heap:=h1,toks:=t1}) p1.rel hv1 hi) (λit s2 z_3=>?_) λJ J x=>x);obtain ⟨I,e1,e2,e3,e4⟩:=z_3;subst e1;have p01:=(p0.trans p1).trans e3;have hI:I∉(μ++[[s.heap.objs.size]]).flatten:=λhm=>by
  obtain ⟨J,o,ho,J⟩:=p1.rel.above I hm;rw[e2] at ho;exact aU ho
 refine aC ⟨plainId_quiet uk _,?_⟩;have h0:s.heap.get? I=none:=by
  induction q:s.heap.get? I using bf with
  | none=>rfl
  | some o=>rw[show ({s with heap:=h1,toks:=t1}:aj).heap=h1 from rfl,hk1 _ _ (cp _ q)] at e2;cases e2
 refine QM (A:=A.in1) (sb:=s) (μb:=μ) (ps:=ps) (kd:=kd) (l:=l) (a:=a) hh (by refine (?_:A.units+1+10<_);lia) hps e bD hl h0 ps 0 [] _ s2 _ rfl (λp hp=>by simp at hp) (du _) (du _) p01.toF hI (e3.vr hv1) (by erw[R.next];exact iP) e4 λμ' s' pf em=>?_
 subst em;exact ⟨rfl,_,pf.toPost,.ref (by erw[R.next];exact iP)⟩
end
end Internal
namespace Internal
open PySem PySem.Calls PyProof.Rows PySem.W Builtin Builtin.Str StrLaws
theorem im(x:List Nat):(st x).length=x.length:=by simp[st,CI]
theorem kW(x:List Nat):(st x).cps.toList=x:=by simp[st]
section
variable{P:PW}{S:aN}{d:Nat}{A:bh}{E:ab->aj->Prop}{s ah:aj}{σ σ':AH}{μ:List (List aa)}
theorem QN{x y:List Nat}{i:Nat}(h:At (st x) (st y) (st x).length i):(x.drop i).take y.length=y/\i+y.length<=x.length:=by
 obtain ⟨h1,h2⟩:=h;rw[subAt_eq,kW,kW,im] at h2;rw[im,im] at h1;exact ⟨eq_of_beq h2,h1⟩
theorem yI{x y:List Nat}(h:∃c∈y,c∉x)(lo limit:Nat)(hl:1<=limit):occurrences (st x) (st y) lo (st x).length limit=[]:=by
 obtain ⟨c,hc,hn⟩:=h;rcases occ_head_from (st x) (st y) lo limit hl with ⟨h0,J⟩ | ⟨i,r,J,J,h1,J⟩
 ·exact h0
 ·have:=(QN h1).1;exact absurd (List.mem_of_mem_drop (L6 (this▸hc))) hn
theorem fj{h:aE}{x:List Nat}{v:ab}(H:VR h μ (.str x) v):∃t,v= .str (st x) t/\x.length<=aY:=by
 cases H with | str _ t hl=>exact ⟨t,rfl,hl⟩
theorem yJ{x y:List Nat}{i:Int}(h0:0<=i):BT P (.builtin "str.startswith") [.str x,.str y,.int i] σ (.bool (y.isPrefixOf (x.drop i.toNat) && decide (i.toNat<=x.length))) σ:=λA s μ vs E hh hu B R hv=>by
 obtain ⟨v,u,w,rfl,h1,h2,h3⟩:=qR hv;obtain ⟨t,rfl,J⟩:=fj h1;obtain ⟨t2,rfl,J⟩:=fj h2;obtain ⟨_,rfl⟩:=cX h3;refine SC.startswith3 ?_;obtain hf:fromIndex (st x).length i=i.toNat:=by unfold fromIndex;refine al (if_neg (by lia)) ?_;lia
 obtain e:Txt.startswith3 (st x) (st y) i=(y.isPrefixOf (x.drop i.toNat) && decide (i.toNat<=x.length)):=by
  unfold Txt.startswith3;(erw[hf];rewrite[subAt_eq,kW,kW,im,im,sH,bV,bV,decide_eq_true_iff,decide_eq_true_iff,beq_iff_eq,List.isPrefixOf_iff_prefix])
  constructor
  ·rintro ⟨a,b⟩
   exact ⟨b▸List.take_prefix _ _,by lia⟩
  ·rintro ⟨⟨z,b⟩,c⟩
   have:=congrArg kC b;rw[bR,p9] at this;exact ⟨ck (sC (this▸iG _ _) _) (iH (xk c)),by ((erw[aD b];erw[List.take_left]);ac_rfl)⟩
 refine al e ?_;exact yE R (.bool _)
theorem EQ{x:List Nat}{c:Nat}(hc:c∉x):BT P (.builtin "str.find") [.str x,.str [c]] σ (.int (-1)) σ:=λA s μ vs E hh hu B R hv=>by
 obtain ⟨v,u,rfl,h1,h2⟩:=iR hv;obtain ⟨t,rfl,J⟩:=fj h1;obtain ⟨t2,rfl,J⟩:=fj h2;refine SC.find ?_;obtain e:Txt.find (st x) (st [c])=-1:=by
  unfold Txt.find;(erw[yI ⟨c,.head _,hc⟩ _ _ (bI _)];ac_rfl)
 refine al e ?_;exact gu R _ (.int _ _)
theorem QO{a b:List Nat}{x:List Nat}{c:Nat}{i:Int}(h0:0<=i)(hd:x.drop i.toNat=a++c::b)(hc:c∉a):BT P (.builtin "str.find") [.str x,.str [c],.int i] σ (.int (i+a.length)) σ:=λA s μ vs E hh hu B R hv=>by
 obtain ⟨v,u,w,rfl,h1,h2,h3⟩:=qR hv;obtain ⟨t,rfl,J⟩:=fj h1;obtain ⟨t2,rfl,J⟩:=fj h2;obtain ⟨_,rfl⟩:=cX h3;refine SC.find3 ?_;have hf:fromIndex (st x).length i=i.toNat:=by unfold fromIndex;refine al (if_neg (by lia)) ?_;lia
 have hg:∀v,(st x).cps.getD v 0=x.getD v 0:=λv=>by simp[st,Array.getD,List.getD];split<;>simp_all
 have hx:∀k,x[i.toNat+k]? =(a++c::b)[k]?:=λk=>by ((erw[aD hd];erw[sU]);ac_rfl)
 obtain bl:i.toNat+a.length<x.length:=by
  have:=hx a.length;rw[oe (bI _),Nat.sub_self] at this;exact (bP.mp this).1
 have e:Txt.find3 (st x) ⟨#[c]⟩ i=i+a.length:=by
  rcases find3_spec (st x) c i with ⟨J,hn⟩ | ⟨k,e1,e2,e3,e4,e5⟩
  ·rw[hf,im] at hn;refine absurd ?_ (hn (i.toNat+a.length) (by (with_reducible apply iG)) bl)
   (rewrite[hg];erw[dX];rewrite[hx]);simp
  ·rw[hf] at e2 e5;rw[im] at e3;refine al e1 ?_;rw[hg,dX] at e4;rcases Nat.lt_trichotomy k (i.toNat+a.length) with q | q | q
   ·exfalso;obtain hk:=hx (k - i.toNat);obtain bD:k - i.toNat<a.length:=Nat.sub_lt_left_of_lt_add e2 q;rw[xk e2,nT bD] at hk;rw[hk] at e4;rw[dh bD] at e4;exact hc (e4▸List.getElem_mem bD)
   ·(erw[q];rewrite[Int.natCast_add];erw[CK h0];ac_rfl)
   ·refine absurd ?_ (e5 (i.toNat+a.length) (by (with_reducible apply iG)) q)
    (rewrite[hg];erw[dX];rewrite[hx]);simp
 (erw[show (st [c])=(⟨#[c]⟩:Str) from rfl];erw[e])
 exact gu R _ (.int _ _)
theorem QP{x z:List Nat}{c:Nat}(hc:c∉x):BT P (.builtin "str.replace") [.str x,.str [c],.str z] σ (.str x) σ:=λA s μ vs E hh hu B R hv=>by
 obtain ⟨v,u,w,rfl,h1,h2,h3⟩:=qR hv;obtain ⟨t,rfl,hl⟩:=fj h1;obtain ⟨t2,rfl,J⟩:=fj h2;obtain ⟨t3,rfl,J⟩:=fj h3;have hn:occurrences (st x) (st [c]) 0 (st x).length ((st x).length+1)=[]:=yI ⟨c,.head _,hc⟩ _ _ (by (with_reducible apply CL))
 refine call_gives F.slot_str_replace (p8 _ _ _) F.entry_str_replace (F.args_str_replace_3 _ _ _) (gives_str_replace (st x) (st [c]) (st z) t t2 t3 λh=>?_) ?_
 ·rw[hn] at h;simp at h
 ·refine al hn ?_;exact yE R (.str _ _ hl)
theorem ER{h:aE}(hk:∀l:List Nat,l.length<=aY->True):∀(l:List (Str × Tok)),(∀p∈l,p.1.length<=aY)->aB h μ (l.map λp=>cN p.1) (strValues l)
 | [],_=> .nil
 | (p,t)::r,H=> .cons (by
   have:=VR.str (h:=h) (μ:=μ) p.cps.toList t (by have:=H _ (.head _);simpa [CI] using this)
   exact this) (ER hk r λp hp=>H p (.tail _ hp))
theorem yK{x y:List Nat}(hy:y≠[])(hx:x.length+2<=aY):BT P (.builtin "str.split") [.str x,.str y] σ (.ref σ.next) (σ.new (.lst ((qh (st x) (st y)).map cN))):=λA s μ vs E hh hu B R hv=>by
 obtain ⟨v,u,rfl,h1,h2⟩:=iR hv;obtain ⟨t,rfl,hl⟩:=fj h1;obtain ⟨t2,rfl,J⟩:=fj h2;have hy':((st y).length==0)=false:=by rewrite[im];simpa using hy
 have hs:((st x).length+2<=aY):=by rewrite[im];exact hx
 have hn:(partsBetween (st x) (occurrences (st x) (st y) 0 (st x).length ((st x).length+1)) (st y).length).length<=aY:=by
  obtain e1:=StrLaws.occ_length_le (st x) (st y) 0 (st x).length ((st x).length+1);rewrite[length_partsBetween];lia
 have fin:∀(l:List (Str × Tok))(k:Nat),l.map (·.1)=qh (st x) (st y)->BR P μ s (.ref σ.next) (σ.new (.lst ((qh (st x) (st y)).map cN))) (.ref s.heap.objs.size) {s with heap:=s.heap.push {cls:= .type "list",data:= .seq (strValues l).toArray},toks:=k}:=by
  intro l k e;refine al (aD e) (al cw ?_);refine qQ B R k (λb o e=>cp _ e) (dJ _) (tc _) (ER (λJ J=>trivial) l λp hp=>?_) ?_
  ·have:p.1∈qh (st x) (st y):=by erw[aD e];exact List.mem_map_of_mem hp
   have:=part_short this;lia
  ·obtain h9:=split_le (st x) (st y);rw[<-e,ay] at h9;rewrite[ay];obtain h8:=split_weight (st x) (st y) (by rewrite[im];induction y using bQ<;>simp_all)
   rw[<-e,ay] at h8;(with_reducible exact ck ‹_› ‹_›)
 cases h1:(decide ((st x).length<(st y).length) || decide (strKind (st x)<strKind (st y)))
 ·cases hf:(occurrences (st x) (st y) 0 (st x).length ((st x).length+1)).isEmpty
  ·refine lH F.slot_str_split (p8 _ _ _) F.entry_str_split (F.args_str_split_2 _ _) (meets_str_split_sep (st x) (st y) t t2 h1 hy' hf (by lia) hn) ?_
   refine (?_:wants _ E _ {s with toks:=_,heap:=s.heap.push {cls:= .type "list",data:= .seq (strsFrom s.toks (partsBetween (st x) (occurrences (st x) (st y) 0 (st x).length ((st x).length+1)) (st y).length)).toArray}});rewrite[strsFrom_eq];exact fin (numbered s.toks _) _ ((numbered_texts _ _).trans ((if_neg (ne_true_of_eq_false h1)).trans (if_neg (ne_true_of_eq_false hf))).symm)
  ·exact lH F.slot_str_split (p8 _ _ _) F.entry_str_split (F.args_str_split_2 _ _) (meets_str_split_not_found (st x) (st y) t t2 h1 hy' hf)
    (fin [(st x,t)] _ ((if_neg (ne_true_of_eq_false h1)).trans (if_pos hf)).symm)
 ·exact lH F.slot_str_split (p8 _ _ _) F.entry_str_split (F.args_str_split_2 _ _) (meets_str_split_cannot_occur (st x) (st y) t t2 h1)
   (fin [(st x,t)] _ (if_pos h1).symm)
theorem ES{x y:List Nat}(h:∃c∈y,c∉x):(qh (st x) (st y)).map cN=[.str x]:=by
 unfold qh;refine al (yI h _ _ (by (with_reducible apply CL))) ?_
 split<;>simp[cN,kW]
theorem ET{h:aE}:∀{xs:List (List Nat)}{vs:List ab},aB h μ (xs.map .str) vs->∃l:List (Str × Tok),vs=strValues l/\l.map (·.1)=xs.map st
 | [],_,.nil=>⟨[],rfl,rfl⟩
 | x::xs,_,.cons a r=>by
  obtain ⟨t,rfl,J⟩:=fj a;obtain ⟨l,rfl,e⟩:=ET r;exact ⟨(st x,t)::l,rfl,by ((erw[bi];erw[bi];erw[e]);ac_rfl)⟩
noncomputable def kX(sep:List Nat):List (List Nat)->List Nat
 | []=>[]
 | [x]=>x
 | x::r=>x++sep++kX sep r
theorem EU(sep:List Nat):∀(xs:List (List Nat)),Txt.join (st sep) (xs.map st)=st (kX sep xs):=by
 have fold:∀(r:List (List Nat))(acc:Array Nat),(r.map st).foldl (λacc p=>acc++(st sep).cps++p.cps) acc=acc++(r.flatMap λx=>sep++x).toArray:=by
  intro r
  induction r with
  | nil=>intro acc;simp
  | cons x r ih=>intro acc;((erw[bi];erw[List.foldl_cons]);rewrite[ih]);simp[st]
 obtain key:∀(x:List Nat)(r:List (List Nat)),kX sep (x::r)=x++r.flatMap λy=>sep++y:=by
  intro x r
  induction r generalizing x with
  | nil=>simp[kX]
  | cons y r ih=>rewrite[kX,ih];simp;simp
 intro xs
 induction xs using bQ with
 | nil=>rfl
 | cons x r=>
  unfold Txt.join glued
  ((erw[bi];erw[List.drop_succ_cons];erw[List.drop_zero]);rewrite[fold,key])
  simp[st]
theorem qU{l:Nat}{sep:List Nat}{xs:List (List Nat)}(e:σ.m l=some (.lst (xs.map .str)))(hl:(xs.map kC).sum+xs.length*sep.length<=aY):BT P (.builtin "str.join") [.str sep,.ref l] σ (.str (kX sep xs)) σ:=λA s μ vs E hh hu B R hv=>by
 obtain ⟨v,u,rfl,h1,h2⟩:=iR hv;obtain ⟨t,rfl,J⟩:=fj h1;(refine aI λkK=>?_;obtain ⟨a,us,n,rfl,J,J,ho,hr⟩:=dl R e h2;refine kK ?_;clear kK);obtain ⟨ls,e1,e2⟩:=ET hr;obtain e3:us=(strValues ls).toArray:=by (erw[aD e1];ac_rfl)
 subst e3;have hs:(((xs.map st).map (·.length)).sum)=(xs.map kC).sum:=by refine al cw ?_;congr 1
 refine SC.join (fZ ho) e2 ?_ λt' k=>?_
 ·unfold JoinOk;(rewrite[joinTotal];erw[hs];rewrite[im,ay,qc]);exact decide_eq_false (by lia)
 ·rewrite[EU];refine gu R _ (.str _ _ ?_);have:=StrLaws.join_length_le (st sep) (xs.map st);rw[hs,im,ay,<-eq_of_beq (join_plain_closes (st sep) (xs.map st)),EU,im] at this;(with_reducible exact ck ‹_› ‹_›)
theorem yL{l:Nat}{kvs:List (AV × AV)}(hsys:∃o,P.h₀.get? gk=some o)(e:σ.m l=some (.dct kvs))(hk:∀p∈kvs,kindOf p.1=some .s):BT P (.type "dict") [.ref l] σ (.ref σ.next) (σ.new (.dct kvs)):=λA s μ vs E hh hu B R hv=>by
 obtain ⟨v,rfl,h⟩:=eY hv;(refine aI λkK=>?_;obtain ⟨a,kd,rfl,el,bl,hD,h0⟩:=jp R e h;refine kK ?_;clear kK);(refine aI λkK=>?_;obtain ⟨xs,hm,e1,e2,e3⟩:=hD.at hk;refine kK ?_;clear kK);obtain hl:xs.length<=aY:=by ((erw[aD (ay (f:=λx:Str × ab=>cN x.1))];erw[aD e1]);rewrite[ay]);exact bl
 refine kt_call_dict (oD (h:=s.heap) hsys h0) hm hl λh' hm' hs=>?_;have hkeep:∀b o,s.heap.get? b=some o->h'.get? b=some o:=λb o q=>by
  obtain bA:b≠s.heap.objs.size:=λc=>iE _ (c▸fG q);exact (hs.2 b bA).trans (cp _ q)
 refine ⟨μ++[[s.heap.objs.size]],aG.new (t:=s.toks) R B hkeep (λb hb=>by rw[aF] at hb;refine al hb ?_;exact dJ _) (by simp) ⟨bl,_,.s,rfl,xs,hm',e1,e2.mono (λb o q J=>hkeep b o q) λJ J e=>jo e,λx hx v hv=>(e3 x hx v hv).mono (λb o q J=>hkeep b o q) λJ J e=>jo e⟩,.ref (by refine al R.next ?_;exact iP)⟩
end
end Internal
namespace Internal
open PySem PySem.Calls PyProof.Rows PySem.W
noncomputable abbrev HP:=List AO
noncomputable def aH(H:HP):AH:=⟨H.length,λl=>H[l]?⟩
noncomputable def f7:HP->(HP->Prop)->Prop
 | [],k=>k []
 | o::r,k=>f7 r λr'=>k (o::r')
theorem jV:∀(H:HP)(k:HP->Prop),f7 H k=k H
 | [],J1=>rfl
 | o::r,k=>by unfold f7;rw[jV r]
theorem kY(H:HP)(o:AO):aH (H++[o])=(aH H).new o:=by
 unfold aH AH.new;(erw[bR];erw[qf]);congr 1;funext l;refine (?_:(H++[o])[l]? =if l=H.length then some o else H[l]?)
 by_cases h:l=H.length
 ·subst h;simp
 ·erw[if_neg h];rcases Nat.lt_or_gt_of_ne h with q | q
  ·(erw[nT q];ac_rfl)
  ·((erw[oa (by simp;(with_reducible exact xr ‹_›))];erw[oa (by (with_reducible exact kD ‹_›))]);ac_rfl)
theorem qV{H:HP}{l:Nat}{o x:AO}(h:H[l]? =some x):aH (H.set l o)=(aH H).set l o:=by
 have hl:=(bP.mp h).1;unfold aH AH.set;erw[List.length_set];congr 1;funext k;refine (?_:(H.set l o)[k]? =if k=l then some o else H[k]?)
 erw[List.getElem?_set];by_cases q:k=l
 ·subst q;simp[hl]
 ·((erw[if_neg (jH q)];erw[if_neg q]);ac_rfl)
theorem EV(H:HP)(l:Nat):(aH H).m l=H[l]?:=rfl
theorem QQ(H:HP):(aH H).next=H.length:=rfl
inductive G where
 | w (f:Nat->AV × HP)
def bZ{α:Type}(o:Option α)(k:α->Prop):Prop:=match o with
 | some x=>k x
 | none=>False
theorem cn{α:Type}{o:Option α}{k:α->Prop}(h:bZ o k):∃x,k x:=by
 induction o using bf
 ·exact h.elim
 ·exact ⟨_,h⟩
noncomputable abbrev um(X:(AV->AH->Prop)->Prop):=Option {p:AV × HP // ∀Q:AV->AH->Prop,Q p.1 (aH p.2)->X Q}
noncomputable abbrev un(X:(AV->Prop)->Prop):=Option {v:AV // ∀k:AV->Prop,k v->X k}
noncomputable abbrev uo(X:(Bool->Prop)->Prop):=Option {b:Bool // ∀k:Bool->Prop,k b->X k}
noncomputable abbrev uq(X:(AH->Prop)->Prop):=Option {H:HP // ∀k:AH->Prop,k (aH H)->X k}
def run{X:(AV->AH->Prop)->Prop}(o:um X)(K:AV->HP->Prop):Prop:=bZ o λp=>f7 p.1.2 λH=>K p.1.1 H
theorem EW{X:(AV->AH->Prop)->Prop}{o:um X}{K:AV->HP->Prop}(h:run o K){Q:AV->AH->Prop}(q:∀v H,K v H->Q v (aH H)):X Q:=by
 obtain ⟨p,h⟩:=cn h;exact p.2 _ (q _ _ (Eq.mp (jV _ _) h))
def yM{X:(AH->Prop)->Prop}(o:uq X)(K:HP->Prop):Prop:=bZ o λp=>f7 p.1 K
theorem EX{X:(AH->Prop)->Prop}{o:uq X}{K:HP->Prop}(h:yM o K){Q:AH->Prop}(q:∀H,K H->Q (aH H)):X Q:=by
 obtain ⟨p,h⟩:=cn h;exact p.2 _ (q _ (Eq.mp (jV _ _) h))
def yN{X:(AV->Prop)->Prop}(o:un X)(K:AV->Prop):Prop:=bZ o λp=>K p.1
theorem EY{X:(AV->Prop)->Prop}{o:un X}{K:AV->Prop}(h:yN o K){Q:AV->Prop}(q:∀v,K v->Q v):X Q:=by
 obtain ⟨p,h⟩:=cn h;exact p.2 _ (q _ h)
def yO{X:(Bool->Prop)->Prop}(o:uo X)(K:Bool->Prop):Prop:=bZ o λp=>K p.1
theorem EZ{X:(Bool->Prop)->Prop}{o:uo X}{K:Bool->Prop}(h:yO o K){Q:Bool->Prop}(q:∀v,K v->Q v):X Q:=by
 obtain ⟨p,h⟩:=cn h;exact p.2 _ (q _ h)
section
variable(H:HP)(l:Nat)
noncomputable def f8:Option {xs:List AV // (aH H).m l=some (.lst xs)}:=(opt H[l]?).bind λo=>match o with
 | ⟨.lst xs,e⟩=>some ⟨xs,e⟩
 | _=>none
noncomputable def mY:Option {xs:List (AV × AV) // (aH H).m l=some (.dct xs)}:=(opt H[l]?).bind λo=>match o with
 | ⟨.dct xs,e⟩=>some ⟨xs,e⟩
 | _=>none
noncomputable def yP:Option {p:aa × List (Nat × AV) // (aH H).m l=some (.ins p.1 p.2)}:=(opt H[l]?).bind λo=>match o with
 | ⟨.ins c fs,e⟩=>some ⟨(c,fs),e⟩
 | _=>none
end
noncomputable def yQ{X:(AV->AH->Prop)->Prop}(H:HP)(o:AO)(h:∀Q:AV->AH->Prop,Q (.ref (aH H).next) ((aH H).new o)->X Q):{p:AV × HP // ∀Q:AV->AH->Prop,Q p.1 (aH p.2)->X Q}:=⟨(.ref H.length,H++[o]),λQ q=>h Q (kY H o▸q)⟩
noncomputable def yR{X:(AH->Prop)->Prop}{H:HP}{l:Nat}{x:AO}(o:AO)(e:(aH H).m l=some x)(h:∀k:AH->Prop,k ((aH H).set l o)->X k):{p:HP // ∀k:AH->Prop,k (aH p)->X k}:=⟨H.set l o,λk q=>h k (qV e▸q)⟩
theorem AV.int.inj{a b:Int}(e:AV.int a= .int b):a=b:=by injection e
theorem AV.str.inj{a b:List Nat}(e:AV.str a= .str b):a=b:=by injection e
theorem AV.tup.inj{a b:List AV}(e:AV.tup a= .tup b):a=b:=by injection e
mutual
noncomputable def yS:(a b:AV)->Option {c:Bool // c=true↔a=b}
 | .int a,.int b=>some ⟨a==b,beq_iff_eq.trans ⟨congrArg _,AV.int.inj⟩⟩
 | .str a,.str b=>some ⟨a==b,beq_iff_eq.trans ⟨congrArg _,AV.str.inj⟩⟩
 | .tup a,.tup b=>(E0 a b).map λc=>⟨c.1,c.2.trans ⟨congrArg _,AV.tup.inj⟩⟩
 | J1,J2=>none
noncomputable def E0:(a b:List AV)->Option {c:Bool // c=true↔a=b}
 | [],[]=>some ⟨true,⟨λJ=>rfl,λJ=>rfl⟩⟩
 | x::xs,y::ys=>(yS x y).bind λc=>(E0 xs ys).map λd=>⟨c.1 && d.1,gP.trans ((and_congr c.2 d.2).trans List.cons_eq_cons.symm)⟩
 | [],J1::J2=>some ⟨false,⟨λh=>(nomatch h),λh=>(nomatch h)⟩⟩
 | J1::J2,[]=>some ⟨false,⟨λh=>(nomatch h),λh=>(nomatch h)⟩⟩
end
noncomputable def qW(k:AV):(kvs:List (AV × AV))->Option {o:Option AV // cy kvs k=o}
 | []=>some ⟨none,rfl⟩
 | p::r=>(yS p.1 k).bind λc=>match c with
  | ⟨true,h⟩=>some ⟨some p.2,if_pos (h.mp rfl)⟩
  | ⟨false,h⟩=>(qW k r).map λo=>⟨o.1,(if_neg λe=>nomatch h.mpr e).trans o.2⟩
noncomputable def yT(k v:AV):(kvs:List (AV × AV))->Option {l:List (AV × AV) // dset kvs k v=l}
 | []=>some ⟨[(k,v)],rfl⟩
 | p::r=>(yS p.1 k).bind λc=>match c with
  | ⟨true,h⟩=>some ⟨(p.1,v)::r,if_pos (h.mp rfl)⟩
  | ⟨false,h⟩=>(yT k v r).map λo=>⟨p::o.1,(if_neg λe=>nomatch h.mpr e).trans (congrArg (p::·) o.2)⟩
noncomputable def QR:(a b:KD)->Sure (a=b)
 | .i,.i=>some ⟨rfl⟩
 | .s,.s=>some ⟨rfl⟩
 | .ti,.ti=>some ⟨rfl⟩
 | .ts,.ts=>some ⟨rfl⟩
 | J1,J2=>none
noncomputable def E1(kd:KD)(x:AV):Sure (kindOf x=some kd):=(opt (kindOf x)).bind λk=>(QR k.1 kd).map λe=>⟨k.2.trans (congrArg some e.1)⟩
noncomputable def ur(kd:KD):(l:List (AV × AV))->Sure (∀p∈l,kindOf p.1=some kd)
 | []=>some ⟨λJ h=>nomatch h⟩
 | p::r=>(E1 kd p.1).bind λe=>(ur kd r).map λf=>⟨CM.mpr ⟨e.1,f.1⟩⟩
noncomputable def qX(kvs:List (AV × AV))(x:AV):Sure (fY kvs x):=(opt (kindOf x)).bind λk=>(ur k.1 kvs).map λe=>⟨k.1,k.2,e.1⟩
noncomputable def QS(op:nQ)(x y:AV)(H:HP):um (kI op x y (aH H)):=match op,x,y with
 | .Add,.int a,.int b=>some ⟨(.int (a+b),H),λJ q=>q⟩
 | .Add,.str a,.str b=>(dec (a.length+b.length<=aY)).map λc=>⟨(.str (a++b),H),λJ q=>⟨c.1,q⟩⟩
 | .Add,.tup a,.tup b=>(dec (a.length+b.length<=aY)).map λc=>⟨(.tup (a++b),H),λJ q=>⟨c.1,q⟩⟩
 | .Add,.ref a,.ref b=>(f8 H a).bind λxs=>(f8 H b).bind λys=>(dec (xs.1.length+ys.1.length<=aY)).map λc=>yQ H (.lst (xs.1++ys.1)) λJ q=>⟨_,_,xs.2,ys.2,c.1,q⟩
 | .Sub,.int a,.int b=>some ⟨(.int (a - b),H),λJ q=>q⟩
 | .Mult,.ref a,.int n=>(f8 H a).bind λxs=>(dec (0<=n/\n<1000/\xs.1.length*n.toNat<=1000)).map λc=>yQ H (.lst (cV n.toNat xs.1).flatten) λJ q=>⟨_,xs.2,c.1.1,c.1.2.1,c.1.2.2,q⟩
 | J1,J2,J3=>none
noncomputable abbrev yU(x y:AV)(H:HP):=Option {b:Bool // jP (aH H) x y b}
noncomputable def E2(x y:AV)(H:HP):yU x y H:=(opt (fz (aH H) 66 x)).bind λp=>(opt (fz (aH H) 66 y)).bind λq=>
 (dec (p.1.canLay0=true)).bind λc1=>(dec (q.1.canLay0=true)).bind λc2=>(dec (p.1.depth<=64)).bind λc3=>(dec (q.1.depth<=64)).map λc4=>⟨sD p.1 q.1,.inr ⟨66,p.1,q.1,p.2,q.2,c1.1,c2.1,c3.1,c4.1,rfl⟩⟩
noncomputable def QT(l m:Nat)(H:HP):yU (.ref l) (.ref m) H:=(f8 H l).bind λxs=>(f8 H m).bind λys=>(dec (xs.1.length≠ys.1.length)).map λc=>⟨false,.inl ⟨l,m,xs.1,ys.1,rfl,rfl,xs.2,ys.2,c.1,rfl⟩⟩
noncomputable def E3(x y:AV)(H:HP):yU x y H:=match x,y with
 | .ref l,.ref m=>match QT l m H with
  | some r=>some r
  | none=>E2 (.ref l) (.ref m) H
 | x,y=>E2 x y H
noncomputable def E4(x y:AV)(H:HP):Option {b:Bool // s4 (aH H) x y b}:=match y with
 | .str t=>match x with
  | .str [c]=>some ⟨t.contains c,_,rfl,rfl⟩
  | _=>none
 | .ref l=>(mY H l).bind λkvs=>(qX kvs.1 x).bind λs=>(qW x kvs.1).map λo=>⟨o.1.isSome,.inl ⟨_,kvs.2,s.1,congrArg Option.isSome o.2.symm⟩⟩
 | _=>none
noncomputable def QU(op:dU)(x y:AV)(H:HP):uo (dY op x y (aH H)):=match x,y with
 | .int i,.int j=>match op with
  | .Lt=>some ⟨decide (i<j),λJ q=>⟨_,_,rfl,rfl,q⟩⟩
  | .Gt=>some ⟨decide (j<i),λJ q=>⟨_,_,rfl,rfl,q⟩⟩
  | .GtE=>some ⟨decide (j<=i),λJ q=>⟨_,_,rfl,rfl,q⟩⟩
  | .LtE=>some ⟨decide (i<=j),λJ q=> .inl ⟨_,_,rfl,rfl,q⟩⟩
  | _=>none
 | .str s,.str t=>match op with
  | .LtE=>some ⟨oo s t,λJ q=> .inr ⟨_,_,rfl,rfl,q⟩⟩
  | _=>none
 | J1,J2=>none
noncomputable def E5(op:dU)(x y:AV)(H:HP):uo (dY op x y (aH H)):=match op with
 | .Eq=>(E3 x y H).map λb=>⟨b.1,λJ q=>⟨_,b.2,q⟩⟩
 | .NotEq=>(E3 x y H).map λb=>⟨!b.1,λJ q=>⟨_,b.2,q⟩⟩
 | .Is=>match y with
  | .none=>some ⟨s3 x,λJ q=>⟨_,⟨rfl,rfl⟩,q⟩⟩
  | _=>none
 | .IsNot=>match y with
  | .none=>some ⟨!s3 x,λJ q=>⟨_,⟨rfl,rfl⟩,q⟩⟩
  | _=>none
 | .In=>(E4 x y H).map λb=>⟨b.1,λJ q=>⟨_,b.2,q⟩⟩
 | .NotIn=>(E4 x y H).map λb=>⟨!b.1,λJ q=>⟨_,b.2,q⟩⟩
 | op=>QU op x y H
noncomputable def QV(P:PW)(x i:AV)(H:HP):un (Item P x i (aH H)):=match x with
 | .tup xs=>match i with
  | .int j=>(opt (at_ xs j)).map λv=>⟨v.1,λJ q=>⟨_,_,rfl,v.2,q⟩⟩
  | _=>none
 | .str s=>match i with
  | .int j=>(opt (at_ s j)).map λc=>⟨.str [c.1],λJ q=>⟨_,_,rfl,c.2,q⟩⟩
  | _=>none
 | .ref l=>match f8 H l with
  | some xs=>match i with
   | .int j=>(opt (at_ xs.1 j)).map λv=>⟨v.1,λJ q=> .inl ⟨_,_,_,xs.2,rfl,v.2,q⟩⟩
   | _=>none
  | none=>(mY H l).bind λkvs=>(qX kvs.1 i).bind λs=>(qW i kvs.1).bind λo=>(opt o.1).map λv=>⟨v.1,λJ q=> .inr ⟨_,_,kvs.2,s.1,o.2.trans v.2,q⟩⟩
 | _=>none
noncomputable def QW(x lo hi st:AV)(H:HP):um (ot x lo hi st (aH H)):=match x with
 | .tup xs=>match lo,hi,st with
  | .none,.none,.int c=>(dec (c=-1)).map λe=>⟨(.tup xs.reverse,H),λJ q=>⟨rfl,rfl,congrArg _ e.1,q⟩⟩
  | J1,J2,J3=>none
 | .str s=>match st with
  | .none=>(opt (cut s lo hi .none)).map λt=>⟨(.str t.1,H),λJ q=>⟨rfl,_,t.2,q⟩⟩
  | _=>none
 | .ref l=>(f8 H l).bind λxs=>(opt (cut xs.1 lo hi st)).map λys=>yQ H (.lst ys.1) λJ q=>⟨_,_,xs.2,ys.2,q⟩
 | _=>none
noncomputable def QX(x i v:AV)(H:HP):uq (s7 x i v (aH H)):=match x with
 | .ref l=>match f8 H l with
  | some xs=>match i with
   | .int j=>(dec (0<=j/\j<xs.1.length)).map λc=>yR (.lst (xs.1.set j.toNat v)) xs.2 λJ q=> .inl ⟨_,_,xs.2,rfl,c.1.1,c.1.2,q⟩
   | _=>none
  | none=>(mY H l).bind λkvs=>(qX kvs.1 i).bind λs=>(dec (kvs.1.length<aY)).bind λc=>(yT i v kvs.1).map λ(o:{l // dset kvs.1 i v=l})=>yR (.dct o.1) kvs.2 λk q=> .inr ⟨_,kvs.2,s.1,c.1,Eq.mp (congrArg (λx=>k ((aH H).set l (.dct x))) o.2.symm) q⟩
 | _=>none
section
variable(S:aN)
noncomputable def QY(o:AV)(f:Nat)(H:HP):un (qt S o f (aH H)):=match o with
 | .ref l=>(yP H l).bind λp=>match opt (lk f p.1.2) with
  | some v=>(dec (S.PF p.1.1 f=true)).bind λc=>(dec (mQ v.1=true)).map λd=>⟨v.1,λJ q=>⟨_,_,_,rfl,p.2,.inl ⟨_,v.2,c.1,d.1,q⟩⟩⟩
  | none=>match e:lk f p.1.2 with
   | none=>(opt (S.MT p.1.1 f)).map λm=>⟨.bm m.1 l,λJ q=>⟨_,_,_,rfl,p.2,.inr ⟨_,e,m.2,q⟩⟩⟩
   | some _=>none
 | _=>none
noncomputable def QZ(o:AV)(f:Nat)(v:AV)(H:HP):uq (xN S o f v (aH H)):=match o with
 | .ref l=>(yP H l).bind λp=>(dec (S.PF p.1.1 f=true)).bind λc=>(dec (p.1.2.length<900)).map λd=>yR (.ins p.1.1 (up f v p.1.2)) p.2 λJ q=>⟨_,_,_,rfl,p.2,c.1,d.1,q⟩
 | _=>none
end
noncomputable def ut(f:Nat):Option String:=
 if cf f 180261583656581708955583025 then some "str.split" else if cf f 153500953131847057844 then some "str.join" else if cf f 277685312735030165069394376457946078200793726374256378983 then some "str.startswith" else if cf f 139672056494884848037 then some "str.find" else if cf f 195063496574540697386824934674508219107 then some "str.replace" else none
noncomputable def qY(f:Nat):Option String:=
 if cf f 173367629601024452897865989751422 then some "list.append" else if cf f 140261123555666 then some "list.pop" else if cf f 173367629601024452902830989771406 then some "list.extend" else none
noncomputable def uu(f:Nat):Option String:=
 if cf f 145226103521603 then some "dict.get" else none
theorem yV:[nm (cz "split"),nm (cz "join"),nm (cz "startswith"),nm (cz "find"),nm (cz "replace"),nm (cz "append"),nm (cz "pop"),nm (cz "extend"),nm (cz "get")]=[180261583656581708955583025,153500953131847057844,277685312735030165069394376457946078200793726374256378983,139672056494884848037,195063496574540697386824934674508219107,173367629601024452897865989751422,140261123555666,173367629601024452902830989771406,145226103521603]:=by decide+kernel
theorem E6{f:Nat}:ut f=xO f:=by
 have h:=yV;simp only[mH,and_true] at h;unfold ut xO;simp only[h,Nat.beq_eq]
theorem E7{f:Nat}:qY f=xP f:=by
 have h:=yV;simp only[mH,and_true] at h;unfold qY xP;simp only[h,Nat.beq_eq]
theorem E8{f:Nat}:uu f=xQ f:=by
 have h:=yV;simp only[mH,and_true] at h;unfold uu xQ;simp only[h,Nat.beq_eq]
noncomputable abbrev KV:=AV->HP->List G->Prop
section
variable(S:aN)
noncomputable def Q0(o:AV)(f:Nat)(H:HP):Option {fv:AV // jn S o f (aH H) fv}:=match o with
 | .str _=>(opt (ut f)).map λi=>⟨.con (.builtin i.1),_,E6▸i.2,rfl⟩
 | .ref l=>match yP H l with
  | some p=>match e:lk f p.1.2 with
   | none=>(opt (S.MT p.1.1 f)).map λm=>⟨.con (.ref m.1),.inl ⟨_,_,_,p.2,e,m.2,rfl⟩⟩
   | some _=>none
  | none=>match f8 H l with
   | some xs=>(opt (qY f)).map λi=>⟨.con (.builtin i.1),.inr (.inl ⟨_,_,xs.2,E7▸i.2,rfl⟩)⟩
   | none=>(mY H l).bind λxs=>(opt (uu f)).map λi=>⟨.con (.builtin i.1),.inr (.inr ⟨_,_,xs.2,E8▸i.2,rfl⟩)⟩
 | _=>none
def qZ(v:AV)(k:Bool->Prop):Prop:=match v with
 | .bool b=>k b
 | .none=>k false
 | _=>False
theorem yW{v:AV}{k k':Bool->Prop}(h:qZ v k)(q:∀b,k b->k' b):jO v k':=by
 induction v using AV.casesOn with
 | bool b=>exact q _ h
 | none=>exact q _ h
 | _=>exact dn h
noncomputable def Q1(v:AV):Option {i:Int // v= .int i}:=match v with
 | .int i=>some ⟨i,rfl⟩
 | _=>none
variable{P:PW}{d:Nat}{S}
noncomputable abbrev Q2(P:PW)(S:aN)(d:Nat)(t:AT)(v:AV)(κ:ac):={κ':ac // ∀ρ σ (Q:ac->ac->AH->Prop),Q ρ κ' σ->wA P S d t v ρ κ σ Q}
noncomputable abbrev Q3(P:PW)(S:aN)(d:Nat)(t:AT)(v:AV)(ρ:ac):={ρ':ac // ∀κ σ (Q:ac->ac->AH->Prop),Q ρ' κ σ->wA P S d t v ρ κ σ Q}
noncomputable def E9:(ts:dC)->(xs:List AV)->(κ:ac)->Option {κ':ac // ∀ρ σ (Q:ac->ac->AH->Prop),Q ρ κ' σ->mR P S d ts xs ρ κ σ Q}
 | .nil,[],κ=>some ⟨κ,λJ J J q=>⟨rfl,q⟩⟩
 | .cons (.cl i) ts,x::xs,κ=>(E9 ts xs (κ.set i (some x))).map λr=>⟨r.1,λρ σ Q q=>⟨_,_,rfl,r.2 ρ σ Q q⟩⟩
 | J1,J2,J3=>none
noncomputable def yX(t:AT)(v:AV)(κ:ac):Option (Q2 P S d t v κ):=match t with
 | .cl i=>some ⟨κ.set i (some v),λJ J J q=>q⟩
 | .tup ts=>match v with
  | .tup xs=>(dec (xs.length=ts.len)).bind λc=>(E9 ts xs κ).map λr=>⟨r.1,λρ σ Q q=>⟨_,rfl,c.1,r.2 ρ σ Q q⟩⟩
  | _=>none
 | _=>none
noncomputable def Fa:(ts:dC)->(xs:List AV)->(ρ:ac)->Option {ρ':ac // ∀κ σ (Q:ac->ac->AH->Prop),Q ρ' κ σ->mR P S d ts xs ρ κ σ Q}
 | .nil,[],ρ=>some ⟨ρ,λJ J J q=>⟨rfl,q⟩⟩
 | .cons (.loc i) ts,x::xs,ρ=>(Fa ts xs (ρ.set i (some x))).map λr=>⟨r.1,λκ σ Q q=>⟨_,_,rfl,r.2 κ σ Q q⟩⟩
 | J1,J2,J3=>none
noncomputable def yY(t:AT)(v:AV)(ρ:ac):Option (Q3 P S d t v ρ):=match t with
 | .loc i=>some ⟨ρ.set i (some v),λJ J J q=>q⟩
 | .tup ts=>match v with
  | .tup xs=>(dec (xs.length=ts.len)).bind λc=>(Fa ts xs ρ).map λr=>⟨r.1,λκ σ Q q=>⟨_,rfl,c.1,r.2 κ σ Q q⟩⟩
  | _=>none
 | _=>none
noncomputable def uv:dC->List AV->ac->Option ac
 | .nil,[],ρ=>some ρ
 | .cons (.loc i) ts,x::xs,ρ=>uv ts xs (ρ.set i (some x))
 | J1,J2,J3=>none
noncomputable def oI(t:AT)(v:AV)(ρ:ac):Option ac:=match t,v with
 | .loc i,v=>some (ρ.set i (some v))
 | .tup ts,.tup xs=>if cf xs.length ts.len then uv ts xs ρ else none
 | J1,J2=>none
theorem mZ{t:AT}{v:AV}{κ κ' ρ:ac}{σ:AH}{Q:ac->ac->AH->Prop}(h:(yX (P:=P) (S:=S) (d:=d) t v κ).map (·.1)=some κ')(q:Q ρ κ' σ):wA P S d t v ρ κ σ Q:=by
 obtain ⟨r,J,e⟩:=bW.mp h;exact r.2 _ _ _ (e▸q)
theorem Fb{κ:ac}{σ:AH}{Q:ac->ac->AH->Prop}:∀{ts:dC}{xs:List AV}{ρ ρ':ac},uv ts xs ρ=some ρ'->Q ρ' κ σ->mR P S d ts xs ρ κ σ Q
 | .nil,[],J1,J2,h,q=>⟨rfl,aO h▸q⟩
 | .nil,J1::J2,J3,J4,h,J5=>nomatch h
 | .cons (.loc i) ts,x::xs,J1,J2,h,q=>⟨_,_,rfl,Fb (ts:=ts) h q⟩
 | .cons (.loc i) ts,[],J1,J2,h,J3=>nomatch h
 | .cons (.cl J1) J2,J3,J4,J5,h,J6=>nomatch h
 | .cons (.attr J1 J2) J3,J4,J5,J6,h,J7=>nomatch h
 | .cons (.sub J1 J2) J3,J4,J5,J6,h,J7=>nomatch h
 | .cons (.tup J1) J2,J3,J4,J5,h,J6=>nomatch h
theorem q5{t:AT}{v:AV}{κ ρ ρ':ac}{σ:AH}{Q:ac->ac->AH->Prop}(h:oI t v ρ=some ρ')(q:Q ρ' κ σ):wA P S d t v ρ κ σ Q:=by
 induction t using AT.casesOn with
 | loc i=>exact show Q _ κ σ from aO h▸q
 | tup ts=>
  induction v using AV.casesOn with
  | tup xs=>
   have h:(if cf xs.length ts.len=true then uv ts xs ρ else none)=some ρ':=h
   induction e:cf xs.length ts.len using bC with
   | true=>rw[e] at h;exact ⟨xs,rfl,mJ e,Fb h q⟩
   | false=>rw[e] at h;exact nomatch h
  | _=>exact nomatch h
 | _=>exact nomatch h
end
section
variable(P:PW)(S:aN)(d:Nat)(call:AV->List AV->HP->List G->KV->Prop)
noncomputable def uw(v:AV)(N:Nat)(B:AV->ac->HP->List G->(ac->HP->List G->Prop)->Prop):Nat->ac->HP->List G->(ac->HP->List G->Prop)->Prop
 | 0,κ,H,sc,K=>bZ (opt (bz v (aH H))) λys=>bZ (dec (ys.1.length=N)) λJ=>K κ H sc
 | k+1,κ,H,sc,K=>bZ (opt (bz v (aH H))) λys=>bZ (dec (ys.1.length=N)) λJ=>bZ (opt ys.1[N - (k+1)]?) λy=>B y.1 κ H sc λκ H sc=>uw v N B k κ H sc K
noncomputable def yZ(v:AV)(N:Nat)(B:AV->ac->HP->List G->(Fl->ac->HP->List G->Prop)->Prop):Nat->ac->HP->List G->(Fl->ac->HP->List G->Prop)->Prop
 | 0,ρ,H,sc,K=>bZ (opt (bz v (aH H))) λys=>bZ (dec (ys.1.length=N)) λJ=>K .next ρ H sc
 | k+1,ρ,H,sc,K=>bZ (opt (bz v (aH H))) λys=>bZ (dec (ys.1.length=N)) λJ=>bZ (opt ys.1[N - (k+1)]?) λy=>B y.1 ρ H sc λfl ρ H sc=>match fl with
  | .next=>yZ v N B k ρ H sc K
  | .ret y=>K (.ret y) ρ H sc
mutual
noncomputable def xE:AE->ac->ac->HP->List G->KV->Prop
 | .none,J1,J2,H,sc,K=>K .none H sc
 | .tru,J1,J2,H,sc,K=>K (.bool true) H sc
 | .fls,J1,J2,H,sc,K=>K (.bool false) H sc
 | .int i,J1,J2,H,sc,K=>K (.int i) H sc
 | .str s,J1,J2,H,sc,K=>K (.str s) H sc
 | .loc i,ρ,J1,H,sc,K=>bZ (opt (ρ[i]?.bind id)) λv=>K v.1 H sc
 | .cl i,J1,κ,H,sc,K=>bZ (opt (κ[i]?.bind id)) λv=>K v.1 H sc
 | .glob g,J1,J2,H,sc,K=>bZ (opt (S.GV g)) λv=>K v.1 H sc
 | .attr e f,ρ,κ,H,sc,K=>xE e ρ κ H sc λo H sc=>yN (QY S o f H) λv=>K v H sc
 | .call f es,ρ,κ,H,sc,K=>xE f ρ κ H sc λfv H sc=>xL es ρ κ H sc λvs H sc=>call fv vs H sc K
 | .meth e f es,ρ,κ,H,sc,K=>xE e ρ κ H sc λo H sc=>bZ (Q0 S o f H) λfv=>xL es ρ κ H sc λvs H sc=>call fv.1 (o::vs) H sc K
 | .bin op a b,ρ,κ,H,sc,K=>xE a ρ κ H sc λx H sc=>xE b ρ κ H sc λy H sc=>run (QS op x y H) λv H=>K v H sc
 | .not a,ρ,κ,H,sc,K=>xE a ρ κ H sc λv H sc=>qZ v λb=>K (.bool !b) H sc
 | .neg a,ρ,κ,H,sc,K=>xE a ρ κ H sc λv H sc=>bZ (Q1 v) λi=>K (.int (-i.1)) H sc
 | .cmp a cs,ρ,κ,H,sc,K=>xE a ρ κ H sc λx H sc=>xC cs x ρ κ H sc λb H sc=>K (.bool b) H sc
 | .and es,ρ,κ,H,sc,K=>xB true es ρ κ H sc K
 | .or es,ρ,κ,H,sc,K=>xB false es ρ κ H sc K
 | .ite t a b,ρ,κ,H,sc,K=>xT t (xE t ρ κ H sc) ρ κ H sc λc H sc=>match c with
  | true=>xE a ρ κ H sc K
  | false=>xE b ρ κ H sc K
 | .list es,ρ,κ,H,sc,K=>xL es ρ κ H sc λvs H sc=>f7 (H++[.lst vs]) λH'=>K (.ref H.length) H' sc
 | .tup es,ρ,κ,H,sc,K=>xL es ρ κ H sc λvs H sc=>K (.tup vs) H sc
 | .dict0,J1,J2,H,sc,K=>f7 (H++[.dct []]) λH'=>K (.ref H.length) H' sc
 | .dict1 k v,ρ,κ,H,sc,K=>xE k ρ κ H sc λx H sc=>bZ (E1 .s x) λJ=>xE v ρ κ H sc λy H sc=>f7 (H++[.dct [(x,y)]]) λH'=>K (.ref H.length) H' sc
 | .sub a i,ρ,κ,H,sc,K=>xE a ρ κ H sc λx H sc=>xE i ρ κ H sc λy H sc=>yN (QV P x y H) λv=>K v H sc
 | .slice a lo hi st,ρ,κ,H,sc,K=>xE a ρ κ H sc λx H sc=>xE lo ρ κ H sc λl H sc=>xE hi ρ κ H sc λh H sc=>xE st ρ κ H sc λs H sc=>run (QW x l h s H) λv H=>K v H sc
 | .comp elt g n,ρ,κ,H,sc,K=>Fc g (λκ H sc acc k=>xE elt ρ κ H sc λv H sc=>bZ (f8 H acc) λxs=>bZ (dec (xs.1.length<aY)) λJ=>f7 (H.set acc (.lst (xs.1++[v]))) λH=>k κ H sc) n ρ κ H sc K
noncomputable def xL:AL->ac->ac->HP->List G->(List AV->HP->List G->Prop)->Prop
 | .nil,J1,J2,H,sc,K=>K [] H sc
 | .cons e es,ρ,κ,H,sc,K=>xE e ρ κ H sc λv H sc=>xL es ρ κ H sc λvs H sc=>K (v::vs) H sc
noncomputable def xC:AC->AV->ac->ac->HP->List G->(Bool->HP->List G->Prop)->Prop
 | .one op e,x,ρ,κ,H,sc,K=>xE e ρ κ H sc λy H sc=>yO (E5 op x y H) λb=>K b H sc
 | .cons op e cs,x,ρ,κ,H,sc,K=>xE e ρ κ H sc λy H sc=>yO (E5 op x y H) λb=>match b with
  | true=>xC cs y ρ κ H sc K
  | false=>K false H sc
noncomputable def xB(cJ:Bool):AL->ac->ac->HP->List G->KV->Prop
 | .nil,J1,J2,J3,J4,J5=>False
 | .cons e es,ρ,κ,H,sc,K=>xE e ρ κ H sc λv H sc=>match es with
  | .nil=>K v H sc
  | .cons .. =>qZ v λt=>match cJ,t with
   | true,true=>xB cJ es ρ κ H sc K
   | false,false=>xB cJ es ρ κ H sc K
   | J1,J2=>K v H sc
noncomputable def xT:AE->(KV->Prop)->ac->ac->HP->List G->(Bool->HP->List G->Prop)->Prop
 | .not a,J1,ρ,κ,H,sc,K=>xT a (xE a ρ κ H sc) ρ κ H sc λb H sc=>K (!b) H sc
 | .cmp a cs,J1,ρ,κ,H,sc,K=>xE a ρ κ H sc λx H sc=>xC cs x ρ κ H sc K
 | .and es,J1,ρ,κ,H,sc,K=>q6 true es ρ κ H sc K
 | .or es,J1,ρ,κ,H,sc,K=>q6 false es ρ κ H sc K
 | .ite t a b,J1,ρ,κ,H,sc,K=>xT t (xE t ρ κ H sc) ρ κ H sc λc H sc=>match c with
  | true=>xT a (xE a ρ κ H sc) ρ κ H sc K
  | false=>xT b (xE b ρ κ H sc) ρ κ H sc K
 | J1,whole,J2,J3,J4,J5,K=>whole λv H sc=>qZ v λb=>K b H sc
noncomputable def q6(cJ:Bool):AL->ac->ac->HP->List G->(Bool->HP->List G->Prop)->Prop
 | .nil,J1,J2,H,sc,K=>K cJ H sc
 | .cons e es,ρ,κ,H,sc,K=>xT e (xE e ρ κ H sc) ρ κ H sc λt H sc=>match cJ,t with
  | true,true=>q6 cJ es ρ κ H sc K
  | false,false=>q6 cJ es ρ κ H sc K
  | J1,J2=>K t H sc
noncomputable def ux:AL->ac->ac->HP->List G->(Bool->HP->List G->Prop)->Prop
 | .nil,J1,J2,H,sc,K=>K true H sc
 | .cons e es,ρ,κ,H,sc,K=>xT e (xE e ρ κ H sc) ρ κ H sc λt H sc=>match t with
  | true=>ux es ρ κ H sc K
  | false=>K false H sc
noncomputable def Fc:AG->(ac->HP->List G->Nat->(ac->HP->List G->Prop)->Prop)->Nat->ac->ac->HP->List G->KV->Prop
 | .nil,J1,J2,J3,J4,J5,J6,J7=>False
 | .cons t it ifs g,B,n,ρ,κ,H,sc,K=>xE it ρ κ H sc λv H sc=>bZ (opt (bz v (aH H))) λxs=>
   (λn0=>f7 (H++[.lst []]) λH'=>uw v xs.1.length (λx κ H sc k=>bZ (yX (P:=P) (S:=S) (d:=d) t x κ) λκ=>ux ifs ρ κ.1 H sc λb H sc=>match b with
    | true=>xG g B ρ n0 κ.1 H sc k
    | false=>k κ.1 H sc) xs.1.length (cV n .none) H' sc λJ H sc=>K (.ref n0) H sc) H.length
noncomputable def xG:AG->(ac->HP->List G->Nat->(ac->HP->List G->Prop)->Prop)->ac->Nat->ac->HP->List G->(ac->HP->List G->Prop)->Prop
 | .nil,B,J1,acc,κ,H,sc,K=>B κ H sc acc K
 | .cons t it ifs g,B,ρ,acc,κ,H,sc,K=>xE it ρ κ H sc λv H sc=>bZ (opt (bz v (aH H))) λxs=>
   uw v xs.1.length (λx κ H sc k=>bZ (yX (P:=P) (S:=S) (d:=d) t x κ) λκ=>ux ifs ρ κ.1 H sc λb H sc=>match b with
    | true=>xG g B ρ acc κ.1 H sc k
    | false=>k κ.1 H sc) xs.1.length κ H sc K
end
def xA:AT->AV->ac->HP->List G->(ac->HP->List G->Prop)->Prop
 | .attr e f,v,ρ,H,sc,K=>xE P S d call e ρ [] H sc λo H sc=>yM (QZ S o f v H) λH=>K ρ H sc
 | .sub a i,v,ρ,H,sc,K=>xE P S d call a ρ [] H sc λx H sc=>xE P S d call i ρ [] H sc λy H sc=>yM (QX x y v H) λH=>K ρ H sc
 | t,v,ρ,H,sc,K=>bZ (yY (P:=P) (S:=S) (d:=d) t v ρ) λρ=>K ρ.1 H sc
noncomputable abbrev KS:=Fl->ac->HP->List G->Prop
noncomputable def xW(T:ac->HP->List G->(Bool->HP->List G->Prop)->Prop)(B:ac->HP->List G->KS->Prop):Nat->ac->HP->List G->KS->Prop
 | 0,J1,J2,J3,J4=>False
 | n+1,ρ,H,sc,K=>T ρ H sc λc H sc=>match c with
  | true=>B ρ H sc λfl ρ H sc=>match fl with
   | .next=>xW T B n ρ H sc K
   | .ret v=>K (.ret v) ρ H sc
  | false=>K .next ρ H sc
mutual
noncomputable def xS(W:Nat):AS->ac->HP->List G->KS->Prop
 | .expr e,ρ,H,sc,K=>xE P S d call e ρ [] H sc λJ H sc=>K .next ρ H sc
 | .ret e,ρ,H,sc,K=>xE P S d call e ρ [] H sc λv H sc=>K (.ret v) ρ H sc
 | .asg t e,ρ,H,sc,K=>xE P S d call e ρ [] H sc λv H sc=>xA P S d call t v ρ H sc λρ H sc=>K .next ρ H sc
 | .cond t b o,ρ,H,sc,K=>xT P S d call t (xE P S d call t ρ [] H sc) ρ [] H sc λc H sc=>match c with
  | true=>kZ W b ρ H sc K
  | false=>kZ W o ρ H sc K
 | .whl t b,ρ,H,sc,K=>xW (λρ H sc K=>xT P S d call t (xE P S d call t ρ [] H sc) ρ [] H sc K) (λρ H sc K=>kZ W b ρ H sc K) W ρ H sc K
 | .for_ t it b,ρ,H,sc,K=>xE P S d call it ρ [] H sc λv H sc=>bZ (opt (bz v (aH H))) λxs=>yZ v xs.1.length (λx ρ H sc k=>bZ (yY (P:=P) (S:=S) (d:=d) t x ρ) λρ=>kZ W b ρ.1 H sc k) xs.1.length ρ H sc K
 | .try_ b,ρ,H,sc,K=>kZ W b ρ H sc K
 | .other,J1,J2,J3,J4=>False
noncomputable def kZ(W:Nat):au->ac->HP->List G->KS->Prop
 | .nil,ρ,H,sc,K=>K .next ρ H sc
 | .cons s r,ρ,H,sc,K=>xS W s ρ H sc λfl ρ H sc=>match fl with
  | .next=>kZ W r ρ H sc K
  | .ret v=>K (.ret v) ρ H sc
end
end
section
variable{P:PW}{S:aN}{d:Nat}{call:AV->List AV->HP->List G->KV->Prop}
abbrev jW(K:KV)(Q:AV->AH->Prop):Prop:=∀v H sc,K v H sc->Q v (aH H)
def gy(P:PW)(d:Nat)(call:AV->List AV->HP->List G->KV->Prop):Prop:=∀f args H sc K Q,call f args H sc K->jW K Q->T P d f args (aH H) Q
abbrev Q4(K:List AV->HP->List G->Prop)(Q:List AV->AH->Prop):Prop:=∀v H sc,K v H sc->Q v (aH H)
abbrev m6(K:Bool->HP->List G->Prop)(Q:Bool->AH->Prop):Prop:=∀v H sc,K v H sc->Q v (aH H)
abbrev uy(K:ac->HP->List G->Prop)(Q:ac->AH->Prop):Prop:=∀v H sc,K v H sc->Q v (aH H)
abbrev Fe(B:ac->HP->List G->Nat->(ac->HP->List G->Prop)->Prop)(B':ac->AH->Nat->(ac->AH->Prop)->Prop):Prop:=∀κ H sc acc k k',B κ H sc acc k->uy k k'->B' κ (aH H) acc k'
theorem y1{H:HP}{o:AO}{sc:List G}{K:KV}{Q:AV->AH->Prop}(h:f7 (H++[o]) λH'=>K (.ref H.length) H' sc)(q:jW K Q):Q (.ref (aH H).next) ((aH H).new o):=
 kY _ _▸q _ _ _ (Eq.mp (jV _ _) h)
theorem y2{v:AV}{N:Nat}{B:AV->ac->HP->List G->(ac->HP->List G->Prop)->Prop}{B':AV->ac->AH->(ac->AH->Prop)->Prop}(hB:∀x κ H sc k k',B x κ H sc k->uy k k'->B' x κ (aH H) k'):
  ∀(r:Nat)(κ:ac)(H:HP)(sc:List G)(K:ac->HP->List G->Prop)(Q:ac->AH->Prop),uw v N B r κ H sc K->uy K Q->gY v N B' r κ (aH H) Q
 | 0,κ,H,sc,K,Q,h,q=>by
  obtain ⟨ys,h⟩:=cn h;obtain ⟨a,h⟩:=cn h;exact ⟨_,ys.2,a.1,q _ _ _ h⟩
 | r+1,κ,H,sc,K,Q,h,q=>by
  obtain ⟨ys,h⟩:=cn h;obtain ⟨a,h⟩:=cn h;obtain ⟨y,h⟩:=cn h;exact ⟨_,_,ys.2,a.1,y.2,hB _ _ _ _ _ _ h λκ' H' sc' h'=>y2 hB r κ' H' sc' K Q h' q⟩
abbrev XE(P:PW)(S:aN)(d:Nat)(call:AV->List AV->HP->List G->KV->Prop)(e:AE):Prop:=∀{ρ κ:ac}{H:HP}{sc:List G}{K:KV}{Q:AV->AH->Prop},xE P S d call e ρ κ H sc K->jW K Q->wE P S d e ρ κ (aH H) Q
abbrev XT(P:PW)(S:aN)(d:Nat)(call:AV->List AV->HP->List G->KV->Prop)(e:AE):Prop:=∀{whole:KV->Prop}{whole':(AV->AH->Prop)->Prop}{ρ κ:ac}{H:HP}{sc:List G}{K:Bool->HP->List G->Prop}{Q:Bool->AH->Prop}(hw:∀K Q,whole K->jW K Q->whole' Q),xT P S d call e whole ρ κ H sc K->m6 K Q->wT P S d e whole' ρ κ (aH H) Q
structure fN(P:PW)(S:aN)(d:Nat)(call:AV->List AV->HP->List G->KV->Prop)(x:AE):Prop where
 e:XE P S d call x
 t:XT P S d call x
structure oJ(P:PW)(S:aN)(d:Nat)(call:AV->List AV->HP->List G->KV->Prop)(es:AL):Prop where
 l:∀{ρ κ:ac}{H:HP}{sc:List G}{K:List AV->HP->List G->Prop}{Q:List AV->AH->Prop},xL P S d call es ρ κ H sc K->Q4 K Q->wL P S d es ρ κ (aH H) Q
 b:∀{cJ}{ρ κ:ac}{H:HP}{sc:List G}{K:KV}{Q:AV->AH->Prop},xB P S d call cJ es ρ κ H sc K->jW K Q->wB P S d cJ es ρ κ (aH H) Q
 t:∀{cJ}{ρ κ:ac}{H:HP}{sc:List G}{K:Bool->HP->List G->Prop}{Q:Bool->AH->Prop},q6 P S d call cJ es ρ κ H sc K->m6 K Q->ou P S d cJ es ρ κ (aH H) Q
 i:∀{ρ κ:ac}{H:HP}{sc:List G}{K:Bool->HP->List G->Prop}{Q:Bool->AH->Prop},ux P S d call es ρ κ H sc K->m6 K Q->iO P S d es ρ κ (aH H) Q
abbrev XC(P:PW)(S:aN)(d:Nat)(call:AV->List AV->HP->List G->KV->Prop)(cs:AC):Prop:=∀{x:AV}{ρ κ:ac}{H:HP}{sc:List G}{K:Bool->HP->List G->Prop}{Q:Bool->AH->Prop},xC P S d call cs x ρ κ H sc K->m6 K Q->wC P S d cs x ρ κ (aH H) Q
structure uz(P:PW)(S:aN)(d:Nat)(call:AV->List AV->HP->List G->KV->Prop)(x:AG):Prop where
 o:∀{B:ac->HP->List G->Nat->(ac->HP->List G->Prop)->Prop}{B':ac->AH->Nat->(ac->AH->Prop)->Prop}{n:Nat}{ρ κ:ac}{H:HP}{sc:List G}{K:KV}{Q:AV->AH->Prop}(hB:Fe B B'),Fc P S d call x B n ρ κ H sc K->jW K Q->xU P S d x B' n ρ κ (aH H) Q
 g:∀{B:ac->HP->List G->Nat->(ac->HP->List G->Prop)->Prop}{B':ac->AH->Nat->(ac->AH->Prop)->Prop}{ρ:ac}{acc:Nat}{κ:ac}{H:HP}{sc:List G}{K:ac->HP->List G->Prop}{Q:ac->AH->Prop}(hB:Fe B B'),xG P S d call x B ρ acc κ H sc K->uy K Q->wG P S d x B' ρ acc κ (aH H) Q
theorem eG{whole:KV->Prop}{whole':(AV->AH->Prop)->Prop}{ρ κ:ac}{H:HP}{sc:List G}{K:Bool->HP->List G->Prop}{Q:Bool->AH->Prop}(hw:∀K Q,whole K->jW K Q->whole' Q)(h:whole λv H sc=>qZ v λb=>K b H sc)(q:m6 K Q):whole' λv ae=>jO v λb=>Q b ae:=
 hw _ _ h λv H sc h=>yW h λb h=>q _ _ _ h
theorem fN.w{e:AE}(i:fN P S d call e){ρ κ:ac}{H:HP}{sc:List G}{K:Bool->HP->List G->Prop}{Q:Bool->AH->Prop}(h:xT P S d call e (xE P S d call e ρ κ H sc) ρ κ H sc K)(q:m6 K Q):wT P S d e (wE P S d e ρ κ (aH H)) ρ κ (aH H) Q:=
 i.t (λK Q h q=>i.e h q) h q
theorem Q5:oJ P S d call .nil:=⟨@λρ κ H sc K Q h q=>q _ _ _ h,@λi ρ κ H sc K Q h q=>dn h,@λi ρ κ H sc K Q h q=>q _ _ _ h,@λρ κ H sc K Q h q=>q _ _ _ h⟩
theorem Q6{e:AE}{es:AL}(ie:fN P S d call e)(is:oJ P S d call es):oJ P S d call (.cons e es):=by
 refine ⟨@λρ κ H sc K Q h q=>ie.e h λv H sc h=>is.l h λvs H sc h=>q _ _ _ h,@λcJ ρ κ H sc K Q h q=>?_,@λcJ ρ κ H sc K Q h q=>?_,@λρ κ H sc K Q h q=>ie.w h λt H sc h=>?_⟩
 ·cases es with
  | nil=>exact ie.e h q
  | cons e2 es=>
   refine ie.e h λv H sc h=>yW h λt h=>?_
   induction cJ using bC<;>induction t using bC<;>first | exact is.b h q | exact q _ _ _ h
 ·refine ie.w h λt H sc h=>?_
  induction cJ using bC<;>induction t using bC<;>first | exact is.t h q | exact q _ _ _ h
 ·induction t using bC
  ·exact q _ _ _ h
  ·exact is.i h q
theorem Q7{t:AT}{it:AE}{ifs:AL}{g:AG}(ii:fN P S d call it)(hf:oJ P S d call ifs)(ig:uz P S d call g):uz P S d call (.cons t it ifs g):=by
 refine ⟨@λB B' n ρ κ H sc K Q hB h q=>?_,@λB B' ρ acc κ H sc K Q hB h q=>?_⟩
 ·refine ii.e h λv H sc h=>?_;obtain ⟨xs,h⟩:=cn h;refine ⟨_,xs.2,kY _ _▸y2 (λx κ H sc k k' h hk=>?_) xs.1.length _ _ _ _ _ (Eq.mp (jV _ _) h) λκ H sc h=>q _ _ _ h⟩;obtain ⟨κ',h⟩:=cn h;refine κ'.2 _ _ _ ⟨rfl,hf.i h λb H sc h=>?_⟩
  induction b using bC
  ·exact hk _ _ _ h
  ·exact ig.g hB h hk
 ·refine ii.e h λv H sc h=>?_;obtain ⟨xs,h⟩:=cn h;refine ⟨_,xs.2,y2 (λx κ H sc k k' h hk=>?_) xs.1.length _ _ _ _ _ h q⟩;obtain ⟨κ',h⟩:=cn h;refine κ'.2 _ _ _ ⟨rfl,hf.i h λb H sc h=>?_⟩
  induction b using bC
  ·exact hk _ _ _ h
  ·exact ig.g hB h hk
theorem Q8{t a b:AE}(it:fN P S d call t)(ia:fN P S d call a)(ib:fN P S d call b):fN P S d call (.ite t a b):=by
 refine ⟨@λρ κ H sc K Q h q=>it.w h λc H sc h=>?_,@λw w' ρ κ H sc K Q hw h q=>it.w h λc H sc h=>?_⟩
 ·induction c using bC
  ·exact ib.e h q
  ·exact ia.e h q
 ·induction c using bC
  ·exact ib.w h q
  ·exact ia.w h q
theorem Q9{elt:AE}{g:AG}{n:Nat}(ie:fN P S d call elt)(ig:uz P S d call g):XE P S d call (.comp elt g n):=by
 intro ρ κ H sc K Q h q;refine .inr (ig.o (λκ H sc acc k k' h hk=>ie.e h λv H sc h=>?_) h q);obtain ⟨xs,h⟩:=cn h;obtain ⟨c,h⟩:=cn h;exact ⟨_,xs.2,c.1,qV xs.2▸hk _ _ _ (Eq.mp (jV _ _) h)⟩
theorem Ra(hc:gy P d call){e:AE}{f:Nat}{es:AL}(ie:fN P S d call e)(il:oJ P S d call es):XE P S d call (.meth e f es):=by
 intro ρ κ H sc K Q h q;refine ie.e h λo H sc h=>?_;obtain ⟨fv,h⟩:=cn h;exact ⟨_,fv.2,il.l h λvs H sc h=>hc _ _ _ _ _ _ h q⟩
theorem Rb{a:AE}(ia:fN P S d call a):XE P S d call (.neg a):=by
 intro ρ κ H sc K Q h q;refine ia.e h λx H sc h=>?_;obtain ⟨i,h⟩:=cn h;erw[i.2];exact q _ _ _ h
theorem Re{k v:AE}(ik:fN P S d call k)(iv:fN P S d call v):XE P S d call (.dict1 k v):=by
 intro ρ κ H sc K Q h q;refine ik.e h λx H sc h=>?_;obtain ⟨e,h⟩:=cn h;exact ⟨e.1,iv.e h λy H sc h=>y1 h q⟩
theorem Rf{i:Nat}:XE P S d call (.loc i):=by
 intro ρ κ H sc K Q h q;obtain ⟨v,h⟩:=cn h;exact kJ (o:=(_:Option (Option AV)).join) v.2 (q _ _ _ h)
theorem Rg{i:Nat}:XE P S d call (.cl i):=by
 intro ρ κ H sc K Q h q;obtain ⟨v,h⟩:=cn h;exact kJ (o:=(_:Option (Option AV)).join) v.2 (q _ _ _ h)
theorem Rh{i:Nat}:XE P S d call (.glob i):=by
 intro ρ κ H sc K Q h q;obtain ⟨v,h⟩:=cn h;exact kJ v.2 (q _ _ _ h)
theorem Ri{op:dU}{e:AE}{cs:AC}(ie:fN P S d call e)(ic:XC P S d call cs):XC P S d call (.cons op e cs):=by
 intro x ρ κ H sc K Q h q;refine ie.e h λy H sc h=>EZ h λb h=>?_
 induction b using bC
 ·exact q _ _ _ h
 ·exact ic h q
theorem y3(hc:gy P d call):∀e:AE,fN P S d call e:=
 AE.rec (motive_1:=fN P S d call) (motive_2:=oJ P S d call) (motive_3:=λcs=>XC P S d call cs) (motive_4:=uz P S d call) (motive_5:=λJ=>True) (motive_6:=λJ=>True)
  ⟨@λρ κ H sc K Q h q=>q _ _ _ h,@eG⟩ ⟨@λρ κ H sc K Q h q=>q _ _ _ h,@eG⟩ ⟨@λρ κ H sc K Q h q=>q _ _ _ h,@eG⟩
  (λi=>⟨@λρ κ H sc K Q h q=>q _ _ _ h,@eG⟩) (λs=>⟨@λρ κ H sc K Q h q=>q _ _ _ h,@eG⟩)
  (λi=>⟨Rf,@eG⟩) (λi=>⟨Rg,@eG⟩) (λi=>⟨Rh,@eG⟩)
  (λe f ie=>⟨@λρ κ H sc K Q h q=>ie.e h λo H sc h=>EY h λv h=>q _ _ _ h,@eG⟩)
  (λf es ie il=>⟨@λρ κ H sc K Q h q=>ie.e h λo H sc h=>il.l h λvs H sc h=>hc _ _ _ _ _ _ h q,@eG⟩)
  (λe f es ie il=>⟨Ra hc ie il,@eG⟩)
  (λop a b ia ib=>⟨@λρ κ H sc K Q h q=>ia.e h λx H sc h=>ib.e h λy H sc h=>EW h λv H h=>q _ _ _ h,@eG⟩)
  (λa ia=>⟨@λρ κ H sc K Q h q=>ia.e h λx H sc h=>yW h λb h=>q _ _ _ h,@λw w' ρ κ H sc K Q hw h q=>ia.w h λb H sc h=>q _ _ _ h⟩)
  (λa ia=>⟨Rb ia,@eG⟩)
  (λa cs ia ic=>⟨@λρ κ H sc K Q h q=>ia.e h λx H sc h=>ic h λb H sc h=>q _ _ _ h,@λw w' ρ κ H sc K Q hw h q=>ia.e h λx H sc h=>ic h q⟩)
  (λes il=>⟨@λρ κ H sc K Q h q=>il.b h q,@λw w' ρ κ H sc K Q hw h q=>il.t h q⟩) (λes il=>⟨@λρ κ H sc K Q h q=>il.b h q,@λw w' ρ κ H sc K Q hw h q=>il.t h q⟩)
  (λt a b it ia ib=>Q8 it ia ib)
  (λes il=>⟨@λρ κ H sc K Q h q=>il.l h λvs H sc h=>y1 h q,@eG⟩) (λes il=>⟨@λρ κ H sc K Q h q=>il.l h λvs H sc h=>q _ _ _ h,@eG⟩)
  ⟨@λρ κ H sc K Q h q=>y1 h q,@eG⟩ (λk v ik iv=>⟨Re ik iv,@eG⟩)
  (λa i ia ii=>⟨@λρ κ H sc K Q h q=>ia.e h λx H sc h=>ii.e h λy H sc h=>EY h λv h=>q _ _ _ h,@eG⟩)
  (λa lo hi st ia i1 i2 i3=>⟨@λρ κ H sc K Q h q=>ia.e h λx H sc h=>i1.e h λl H sc h=>i2.e h λu H sc h=>i3.e h λs H sc h=>EW h λv H h=>q _ _ _ h,@eG⟩)
  (λelt g n ie ig=>⟨Q9 ie ig,@eG⟩)
  Q5 (λe es ie is=>Q6 ie is)
  (λop e ie=>@λx ρ κ H sc K Q h q=>ie.e h λy H sc h=>EZ h λb h=>q _ _ _ h) (λop e cs ie ic=>Ri ie ic)
  ⟨@λB B' n ρ κ H sc K Q hB h q=>dn h,@λB B' ρ acc κ H sc K Q hB h q=>hB _ _ _ _ _ _ h q⟩ (λt it ifs g J ii hf ig=>Q7 ii hf ig)
  (λJ=>trivial) (λJ=>trivial) (λJ J J=>trivial) (λJ J J J=>trivial) (λJ J=>trivial) trivial (λJ J J J=>trivial)
theorem m7(hc:gy P d call)(e:AE):XE P S d call e:=(y3 hc e).e
theorem y4{t:AT}{v:AV}{ρ:ac}{H:HP}{sc:List G}{K:ac->HP->List G->Prop}{Q:ac->ac->AH->Prop}(h:bZ (yY (P:=P) (S:=S) (d:=d) t v ρ) λρ=>K ρ.1 H sc)(q:∀ρ H sc,K ρ H sc->Q ρ [] (aH H)):wA P S d t v ρ [] (aH H) Q:=by
 obtain ⟨r,h⟩:=cn h;exact r.2 _ _ _ (q _ _ _ h)
theorem Rj(hc:gy P d call){v:AV}{ρ:ac}{H:HP}{sc:List G}{K:ac->HP->List G->Prop}{Q:ac->ac->AH->Prop}(q:∀ρ H sc,K ρ H sc->Q ρ [] (aH H)):∀{t:AT}(h:xA P S d call t v ρ H sc K),wA P S d t v ρ [] (aH H) Q
 | .attr e f,h=>m7 hc _ h λo H sc h=>EX h λH h=>q _ _ _ h
 | .sub a i,h=>m7 hc _ h λx H sc h=>m7 hc _ h λy H sc h=>EX h λH h=>q _ _ _ h
 | .loc J1,h=>y4 (sc:=sc) h q
 | .cl J1,h=>y4 (sc:=sc) h q
 | .tup J1,h=>y4 (sc:=sc) h q
abbrev oK(K:KS)(Q:Fl->ac->AH->Prop):Prop:=∀fl ρ H sc,K fl ρ H sc->Q fl ρ (aH H)
theorem Ff{v:AV}{N:Nat}{B:AV->ac->HP->List G->KS->Prop}{B':AV->ac->AH->(Fl->ac->AH->Prop)->Prop}(hB:∀x ρ H sc k k',B x ρ H sc k->oK k k'->B' x ρ (aH H) k'):
  ∀(r:Nat)(ρ:ac)(H:HP)(sc:List G)(K:KS)(Q:Fl->ac->AH->Prop),yZ v N B r ρ H sc K->oK K Q->turns v N B' r ρ (aH H) Q
 | 0,ρ,H,sc,K,Q,h,q=>by
  obtain ⟨ys,h⟩:=cn h;obtain ⟨a,h⟩:=cn h;exact ⟨_,ys.2,a.1,q _ _ _ _ h⟩
 | r+1,ρ,H,sc,K,Q,h,q=>by
  obtain ⟨ys,h⟩:=cn h;obtain ⟨a,h⟩:=cn h;obtain ⟨y,h⟩:=cn h;refine ⟨_,_,ys.2,a.1,y.2,hB _ _ _ _ _ _ h λfl ρ' H' sc' h'=>?_⟩
  induction fl using Fl.casesOn with
  | next=>exact Ff hB r ρ' H' sc' K Q h' q
  | ret y=>exact q _ _ _ _ h'
theorem Fg{T:ac->HP->List G->(Bool->HP->List G->Prop)->Prop}{B:ac->HP->List G->KS->Prop}{T':ac->AH->(Bool->AH->Prop)->Prop}{B':ac->AH->(Fl->ac->AH->Prop)->Prop}
  (hT:∀ρ H sc K Q,T ρ H sc K->m6 K Q->T' ρ (aH H) Q) (hB:∀ρ H sc K Q,B ρ H sc K->oK K Q->B' ρ (aH H) Q) {K:KS} {Q:Fl->ac->AH->Prop} (q:oK K Q) {X:ac->AH->Prop}
  (hX:∀be ae,(T' be ae λc ao=>match c with
   | true=>B' be ao λfl nN aA=>match fl with
    | .next=>X nN aA
    | .ret v=>Q (.ret v) nN aA
   | false=>Q .next be ao)->X be ae):∀(n:Nat)(ρ:ac)(H:HP)(sc:List G),xW T B n ρ H sc K->X ρ (aH H)
 | 0,J1,J2,J3,h=>h.elim
 | n+1,ρ,H,sc,h=>hX _ _ (hT _ _ _ _ _ h λc H sc h=>by
   induction c using bC with
   | false=>exact q _ _ _ _ h
   | true=>
    refine hB _ _ _ _ _ h λfl nN H sc h=>?_
    induction fl using Fl.casesOn with
    | next=>exact Fg hT hB q hX n nN H sc h
    | ret v=>exact q _ _ _ _ h)
abbrev XS(P:PW)(S:aN)(d:Nat)(call:AV->List AV->HP->List G->KV->Prop)(W:Nat)(s:AS):Prop:=∀{ρ:ac}{H:HP}{sc:List G}{K:KS}{Q:Fl->ac->AH->Prop},xS P S d call W s ρ H sc K->oK K Q->wS P S d s ρ (aH H) Q
abbrev m8(P:PW)(S:aN)(d:Nat)(call:AV->List AV->HP->List G->KV->Prop)(W:Nat)(ss:au):Prop:=∀{ρ:ac}{H:HP}{sc:List G}{K:KS}{Q:Fl->ac->AH->Prop},kZ P S d call W ss ρ H sc K->oK K Q->aM P S d ss ρ (aH H) Q
theorem Rk(hc:gy P d call){W:Nat}{t:AE}{b o:au}(ib:m8 P S d call W b)(io:m8 P S d call W o):XS P S d call W (.cond t b o):=by
 intro ρ H sc K Q h q;refine (y3 hc t).w h λc H sc h=>?_
 induction c using bC
 ·exact io h q
 ·exact ib h q
theorem Rl(hc:gy P d call){W:Nat}{t:AT}{it:AE}{b:au}(ib:m8 P S d call W b):XS P S d call W (.for_ t it b):=by
 intro ρ H sc K Q h q;refine m7 hc it h λv H sc h=>?_;obtain ⟨xs,h⟩:=cn h;refine ⟨_,xs.2,Ff (λx ρ H sc k k' h hk=>?_) xs.1.length _ _ _ _ _ h q⟩;obtain ⟨ρ',h⟩:=cn h;exact ρ'.2 _ _ _ ⟨rfl,ib h hk⟩
theorem Rm{W:Nat}{s:AS}{r:au}(is:XS P S d call W s)(ir:m8 P S d call W r):m8 P S d call W (.cons s r):=by
 intro ρ H sc K Q h q;refine is h λfl ρ H sc h=>?_
 induction fl using Fl.casesOn with
 | next=>exact ir h q
 | ret v=>exact q _ _ _ _ h
theorem Rn(hc:gy P d call)(W:Nat):∀ss:au,m8 P S d call W ss:=
 au.rec (motive_1:=λs=>XS P S d call W s) (motive_2:=λss=>m8 P S d call W ss)
  (λe=>@λρ H sc K Q h q=>m7 hc e h λv H sc h=>q _ _ _ _ h) (λe=>@λρ H sc K Q h q=>m7 hc e h λv H sc h=>q _ _ _ _ h)
  (λt e=>@λρ H sc K Q h q=>m7 hc e h λv H sc h=>Rj hc (λρ H sc h=>⟨rfl,q _ _ _ _ h⟩) h)
  (λt b o ib io=>Rk hc ib io)
  (λt b ib=>@λρ H sc K Q h q X hX=>Fg (T:=λρ H sc K=>xT P S d call t (xE P S d call t ρ [] H sc) ρ [] H sc K) (B:=λρ H sc K=>kZ P S d call W b ρ H sc K) (T':=λρ σ Q=>wT P S d t (wE P S d t ρ [] σ) ρ [] σ Q) (B':=λρ σ Q=>aM P S d b ρ σ Q)
    (λρ H sc K Q h q=>(y3 hc t).w h q) (λρ H sc K Q h q=>ib h q) q hX W ρ H _ h)
  (λt it b ib=>Rl hc ib) (λb ib=>@λρ H sc K Q h q=>ib h q) (@λρ H sc K Q h q=>dn h)
  (@λρ H sc K Q h q=>q _ _ _ _ h) (λs r is ir=>Rm is ir)
end
abbrev Ro(P:PW):Prop:=∃o,P.h₀.get? gk=some o
noncomputable abbrev CB(P:PW)(mk:String->ab)(args:List AV)(H:HP)(i:String):={p:AV × HP // Ro P->BT P (mk i) args (aH H) p.1 (aH p.2)}
noncomputable def k8{α:Type}(a b:Option α):Option α:=match a with
 | some x=>some x
 | none=>b
noncomputable def dw(n:String){P:PW}{mk:String->ab}{args:List AV}{H:HP}{i:String}(r:Option (CB P mk args H n)):Option (CB P mk args H i):=match decEq i n with
 | .isTrue h=>r.map λp=>⟨p.1,h▸p.2⟩
 | .isFalse _=>none
noncomputable def Fh:(l:List AV)->Option {m:List (List Nat) // l=m.map .str}
 | []=>some ⟨[],rfl⟩
 | x::r=>match x with
  | .str s=>(Fh r).map λm=>⟨s::m.1,congrArg (.str s::·) m.2⟩
  | _=>none
noncomputable def Fi:(l:List AV)->Option {m:List (AV × AV) // l=pairs m}
 | []=>some ⟨[],rfl⟩
 | x::r=>match x with
  | .tup [a,b]=>(Fi r).map λm=>⟨(a,b)::m.1,congrArg (.tup [a,b]::·) m.2⟩
  | _=>none
noncomputable def Fj:(ps acc:List (AV × AV))->Option {l:List (AV × AV) // gw acc ps=l}
 | [],acc=>some ⟨acc,rfl⟩
 | p::r,acc=>(yT p.1 p.2 acc).bind λd=>(Fj r d.1).map λo=>⟨o.1,(congrArg (gw · r) d.2).trans o.2⟩
noncomputable def kdOf(l:List (AV × AV)):KD:=match l with
 | p::_=>(kindOf p.1).getD .s
 | []=> .s
theorem Rp{xs:List AV}{x:AV}(h:xs.getLast? =some x):xs=xs.dropLast++[x]:=by
 obtain ⟨bA,e⟩:=List.getLast?_eq_some_iff.mp h
 ((erw[e];erw[List.dropLast_concat]);ac_rfl)
theorem BT.cast{P:PW}{f:ab}{args:List AV}{σ az bu:AH}{v v':AV}(h:BT P f args σ v az)(e:bu=az)(e':v=v':=by rfl):BT P f args σ v' bu:=by subst e e';exact h
noncomputable def Rq(P:PW)(i:String)(args:List AV)(H:HP):Option (CB P Value.builtin args H i):=match args with
 | [.str x]=>k8 (dw "len" (some ⟨(.int x.length,H),λJ=>oH x⟩)) (match x with
  | [c]=>dw "ord" (some ⟨(.int c,H),λJ=>QG c⟩)
  | _=>none)
 | [.tup xs]=>dw "len" (some ⟨(.int xs.length,H),λJ=>QF xs⟩)
 | [.ref l]=>(f8 H l).bind λxs=>k8 (dw "len" (some ⟨(.int xs.1.length,H),λJ=>lZ xs.2⟩)) (dw "list.pop" ((opt xs.1.getLast?).map λx=>⟨(x.1,H.set l (.lst xs.1.dropLast)),λJ=>(qT (xs:=xs.1.dropLast) (Rp x.2▸xs.2)).cast (qV xs.2)⟩))
 | [.int a,.int b]=>k8 (dw "min" (some ⟨(.int (if b<a then b else a),H),λJ=>QI a b⟩)) (dw "max" (some ⟨(.int (if b>a then b else a),H),λJ=>EK a b⟩))
 | [.ref l,x]=>match f8 H l with
  | some xs=>k8 (dw "list.append" ((dec (xs.1.length<aY)).map λc=>⟨(.none,H.set l (.lst (xs.1++[x]))),λJ=>(dK xs.2 c.1).cast (qV xs.2)⟩))
   (match x with
    | .ref m=>dw "list.extend" ((f8 H m).bind λys=>(dec (xs.1.length+ys.1.length<=aY)).map λc=>⟨(.none,H.set l (.lst (xs.1++ys.1))),λJ=>(EN xs.2 ys.2 c.1).cast (qV xs.2)⟩)
    | _=>none)
  | none=>dw "dict.get" ((mY H l).bind λkvs=>(qX kvs.1 x).bind λs=>(qW x kvs.1).map λo=>⟨(o.1.getD .none,H),λhs=>(uj hs kvs.2 s.1).cast rfl (congrArg (Option.getD · .none) o.2)⟩)
 | [.ref l,x,y]=>dw "dict.get" ((mY H l).bind λkvs=>(qX kvs.1 x).bind λs=>(qW x kvs.1).map λo=>⟨(o.1.getD y,H),λhs=>(EO hs kvs.2 s.1).cast rfl (congrArg (Option.getD · y) o.2)⟩)
 | [.str s,.ref l]=>dw "str.join" ((f8 H l).bind λxs=>(Fh xs.1).bind λss=>(dec ((ss.1.map kC).sum+ss.1.length*s.length<=aY)).map λc=>⟨(.str (kX s ss.1),H),λJ=>qU (ss.2▸xs.2) c.1⟩)
 | [.str x,.str y]=>k8 (dw "str.split" ((dec (y≠[])).bind λc=>(dec (x.length+2<=aY)).map λd=>⟨(.ref H.length,H++[.lst ((qh (st x) (st y)).map cN)]),λJ=>(yK c.1 d.1).cast (kY _ _)⟩))
   (match y with
    | [c]=>dw "str.find" ((dec (c∉x)).map λd=>⟨(.int (-1),H),λJ=>EQ d.1⟩)
    | _=>none)
 | [.str x,.str y,.int j]=>dw "str.startswith" ((dec (0<=j)).map λc=>⟨(.bool (y.isPrefixOf (x.drop j.toNat) && decide (j.toNat<=x.length)),H),λJ=>yJ c.1⟩)
 | [.str x,.str [c],.str _]=>dw "str.replace" ((dec (c∉x)).map λd=>⟨(.str x,H),λJ=>QP d.1⟩)
 | _=>none
noncomputable def Rr(P:PW)(i:String)(args:List AV)(H:HP):Option (CB P Value.type args H i):=match args with
 | [.int n]=>k8 (dw "range" ((dec (0<=n)).bind λc=>(dec (n<2 ^ 62)).map λd=>⟨(.rng n.toNat,H),λJ=>CK c.1▸EJ n.toNat (by erw[CK c.1];exact d.1)⟩))
   (k8 (dw "int" (some ⟨(.int n,H),λJ=>QH n⟩)) (dw "str" ((dec (n.natAbs.log2<1920)).map λc=>⟨(.str (cz (toString n)).cps.toList,H),λJ=>EL n c.1⟩)))
 | [.bool b]=>dw "int" (some ⟨(.int (if b then 1 else 0),H),λJ=>yF b⟩)
 | [.ref l]=>match f8 H l with
  | some xs=>k8 (dw "list" (some ⟨(.ref H.length,H++[.lst xs.1]),λJ=>(yG xs.2).cast (kY _ _)⟩)) (k8 (dw "tuple" (some ⟨(.tup xs.1,H),λJ=>kU xs.2⟩))
   (dw "dict" ((Fi xs.1).bind λps=>(ur (kdOf ps.1) ps.1).bind λc=>(Fj ps.1 []).map λo=>⟨(.ref H.length,H++[.dct o.1]),λJ=>(ul (ps.2▸xs.2) c.1).cast (o.2▸kY _ _)⟩)))
  | none=>dw "dict" ((mY H l).bind λkvs=>(ur .s kvs.1).map λc=>⟨(.ref H.length,H++[.dct kvs.1]),λhs=>(yL hs kvs.2 c.1).cast (kY _ _)⟩)
 | _=>none
inductive Ent where
 | fn (n:Nat) (ix:List Nat) (dfl:List AV) (body:au)
 | cls (fI:aa)
 | orc (f:List AV->Option (Nat->AV × HP))
 | ask
noncomputable def Ent.ctorIdx(x:Ent):Nat:=x.casesOn (λ_ _ _ _=>0) (λ_=>1) (λ_=>2) 3
noncomputable def ip(σ:AH)(os:HP):AH:=os.foldl AH.new σ
theorem Fk:∀(os H:HP),aH (H++os)=ip (aH H) os
 | [],H=>by rewrite[dB];rfl
 | o::os,H=>by
  (erw[show H++o::os=(H++[o])++os by simp];rewrite[Fk os,kY]);rfl
def jX(P:PW)(m:aa):Ent->Prop
 | .fn n ix dfl body=>yB P m n ix dfl body
 | .cls fI=>yD P m fI
 | .orc _=>True
 | .ask=>True
def Rt(K:KV)(fl:Fl)(H:HP)(sc:List G):Prop:=match fl with
 | .ret v=>K v H sc
 | .next=>K .none H sc
section
variable(P:PW)(S:aN)(tab:aa->Option Ent)(W:Nat)
def uA(d:Nat)(call:AV->List AV->HP->List G->KV->Prop)(e:Ent)(args:List AV)(H:HP)(sc:List G)(K:KV):Prop:=match e with
 | .fn n ix dfl body=>bZ (dec (args.length<=ix.length)) λJ=>bZ (dec (ix.length<=args.length+dfl.length)) λJ=>
   kZ P S d call W body (kT (cV n .none) ix (args++dfl.drop (args.length+dfl.length - ix.length))) H sc λfl J H sc=>Rt K fl H sc
 | _=>False
noncomputable abbrev Hd:=AV->List AV->HP->List G->KV->Prop
def y5(n:Nat)(m:aa)(args:List AV)(g:Nat->AV × HP)(H:HP)(sc:List G)(K:KV):Prop:=
 (∀(σ:AH)(Q:AV->AH->Prop),Q (g σ.next).1 (ip σ (g σ.next).2)->T P (n+1) (.con (.ref m)) args σ Q)/\f7 (H++(g H.length).2) λH'=>K (g H.length).1 H' sc
def Ru(l:Nat)(K:KV)(v:AV)(H:HP)(sc:List G):Prop:=match v with
 | .none=>K (.ref l) H sc
 | _=>False
def Fm(n:Nat)(c0 c1:Hd)(m:aa)(e:Ent)(args:List AV)(H:HP)(sc:List G)(K:KV):Prop:=match e with
 | .cls fI=>match n with
  | 0=>False
  | k+1=>bZ (opt (tab fI)) λe=>(λl=>f7 (H++[.ins m []]) λH'=>uA P S W k c0 e.1 (.ref l::args) H' sc (Ru l K)) H.length
 | .orc f=>bZ (f args) λg=>y5 P n m args g H sc K
 | .ask=>match sc with
  | .w g::r=>y5 P n m args g H r K
  | []=>False
 | .fn a b c d=>uA P S W n c1 (.fn a b c d) args H sc K
noncomputable def y6(n:Nat)(c0 c1:Hd):Hd:=λf args H sc K=>match f with
 | .con f=>match f with
  | .builtin i=>bZ (Rq P i args H) λp=>f7 p.1.2 λH'=>K p.1.1 H' sc
  | .type i=>bZ (Rr P i args H) λp=>f7 p.1.2 λH'=>K p.1.1 H' sc
  | .ref m=>bZ (opt (tab m)) λe=>Fm P S tab W n c0 c1 m e.1 args H sc K
  | _=>False
 | .bm m l=>bZ (opt (tab m)) λe=>uA P S W n c1 e.1 (.ref l::args) H sc K
 | _=>False
noncomputable def dL:Nat->Hd
 | 0=>λJ J J J J=>False
 | 1=>y6 P S tab W 0 (λJ J J J J=>False) (λJ J J J J=>False)
 | n+2=>y6 P S tab W (n+1) (dL n) (dL (n+1))
variable{P S tab}
theorem y7(O:cg P S){d:Nat}{call:AV->List AV->HP->List G->KV->Prop}(hc:gy P d call){m:aa}{e:Ent}(he:jX P m e){args:List AV}{H:HP}{sc:List G}{K:KV}{Q:AV->AH->Prop}(h:uA P S W d call e args H sc K)(q:jW K Q):
  TC P (d+1) (.con (.ref m)) args (aH H) Q:=by
 induction e using Ent.casesOn with
 | fn n ix dfl body=>
  obtain ⟨c1,h⟩:=cn h;obtain ⟨c2,h⟩:=cn h;refine EG O he c1.1 c2.1 (Rn hc W _ h λfl ρ H sc h=>?_)
  induction fl using Fl.casesOn with
  | next=>exact q _ _ _ h
  | ret v=>exact q _ _ _ h
 | _=>exact dn h
theorem Fn{n:Nat}{m:aa}{args:List AV}{g:Nat->AV × HP}{H:HP}{sc:List G}{K:KV}{Q:AV->AH->Prop}(h:y5 P n m args g H sc K)(q:jW K Q):T P (n+1) (.con (.ref m)) args (aH H) Q:=
 h.1 _ _ (Fk _ _▸q _ _ _ (Eq.mp (jV _ _) h.2))
theorem Rv(O:cg P S)(ht:∀m e,tab m=some e->jX P m e){n:Nat}{c0 c1:Hd}(h0:∀k,n=k+1->gy P k c0)(h1:gy P n c1){m:aa}{args:List AV}{H:HP}{sc:List G}{K:KV}{Q:AV->AH->Prop}(q:jW K Q):∀{e:Ent},jX P m e->Fm P S tab W n c0 c1 m e args H sc K->T P (n+1) (.con (.ref m)) args (aH H) Q
 | .cls fI,hE,h=>by
  cases n with
  | zero=>exact dn h
  | succ k=>
   obtain ⟨e2,h⟩:=cn h;have:=y7 (W:=W) O (h0 _ rfl) (ht _ _ e2.2) (Q:=λv σ'=>v= .none/\Q (.ref (aH H).next) σ') (Eq.mp (jV _ _) h) λv H sc h=>by
    induction v using AV.casesOn with
    | none=>exact ⟨rfl,q _ _ _ h⟩
    | _=>exact dn h
   exact (make_T hE (kY _ _▸this)).toT
 | .orc f,J1,h=>by obtain ⟨g,h⟩:=cn h;exact Fn h q
 | .ask,J1,h=>by
  induction sc using bQ with
  | nil=>exact dn h
  | cons g r=>induction g using G.casesOn;exact Fn h q
 | .fn a b c d,hE,h=>(y7 W O h1 hE h q).toT
theorem Fo(O:cg P S)(ht:∀m e,tab m=some e->jX P m e){n:Nat}{c0 c1:Hd}(h0:∀k,n=k+1->gy P k c0)(h1:gy P n c1):gy P (n+1) (y6 P S tab W n c0 c1)
 | .con f,args,H,sc,K,Q,h,q=>by
  induction f using Value.casesOn with
  | builtin i=>obtain ⟨p,h⟩:=cn h;exact (p.2 O.sys).builtin (q _ _ _ (Eq.mp (jV _ _) h))
  | type i=>obtain ⟨p,h⟩:=cn h;exact (p.2 O.sys).type (q _ _ _ (Eq.mp (jV _ _) h))
  | ref m=>obtain ⟨e,h⟩:=cn h;exact Rv W O ht h0 h1 q (ht _ _ e.2) h
  | _=>exact dn h
 | .bm m l,args,H,sc,K,Q,h,q=>by
  obtain ⟨⟨e,he⟩,h⟩:=cn h;have hE:=ht _ _ he;have:=y7 (W:=W) O h1 hE h q
  induction e using Ent.casesOn with
  | fn n ix dfl body=>exact (EH (by obtain ⟨o,J,J,J,J,ho,J⟩:=hE.ex;exact ⟨o,ho⟩) this).toT
  | _=>exact dn h
 | .none,J1,J2,J3,J4,J5,h,J6=>dn h
 | .bool J1,J2,J3,J4,J5,J6,h,J7=>dn h
 | .int J1,J2,J3,J4,J5,J6,h,J7=>dn h
 | .str J1,J2,J3,J4,J5,J6,h,J7=>dn h
 | .tup J1,J2,J3,J4,J5,J6,h,J7=>dn h
 | .ref J1,J2,J3,J4,J5,J6,h,J7=>dn h
 | .rng J1,J2,J3,J4,J5,J6,h,J7=>dn h
theorem m9(O:cg P S)(ht:∀m e,tab m=some e->jX P m e):∀n,gy P n (dL P S tab W n)
 | 0=>λJ J J J J J h J=>h.elim
 | 1=>Fo W O ht (λJ e=>by lia) λJ J J J J J h J=>h.elim
 | n+2=>Fo W O ht (λk e=>by cases e;exact m9 O ht n) (m9 O ht (n+1))
theorem uB(O:cg P S)(ht:∀m e,tab m=some e->jX P m e){n:Nat}{f:AV}{args:List AV}{H:HP}{sc:List G}{Q:AV->AH->Prop}(h:dL P S tab W n f args H sc λv H J=>Q v (aH H)):T P n f args (aH H) Q:=
 m9 W O ht n _ _ _ _ _ _ h λv H sc h=>h
end
end Internal
namespace Internal
open PySem PySem.W
noncomputable def oL:Nat:=222148194167659126657171457460159920921212177313755169553
noncomputable def Fp:Nat:=247151375260539343518960992077591049258009398
noncomputable def y8:Nat:=247498191048682353886613681981166795348789252844029296476947272
noncomputable def oM:Nat:=168318607430991990745091177354730734360986193
noncomputable def Fq:Nat:=197398764014717245116803050832516
noncomputable def Fr:Nat:=232766193332669317922108342183951016159077983535703424485098289
noncomputable def y9:Nat:=147012471536832265703285495418568433292476988
noncomputable def Fs:Nat:=215192167594535545058615588611796901347656476
noncomputable def Ft:Nat:=300533581172864041729940025610628780322463909247627654131221616
noncomputable def Fu:Nat:=199115281209117503634777859162747
noncomputable def za:Nat:=226501559735183156656560602086403352239427896296625572539851102290868
noncomputable def oN:Nat:=234367714760286148068362321500205655285302051
noncomputable def Fv:Nat:=157151148538119413668839920
noncomputable def zb:Nat:=180233676808933430188079411102337
noncomputable def l6:Nat:=95419527676698231082
noncomputable def oO:Nat:=118633692139119930753548645
noncomputable def Fw:Nat:=199115281209110589193286229688952
noncomputable def zc:Nat:=247498191048682353886613681981166795348789234866476701544219485
noncomputable def zd:Nat:=221584025574237860181073918846336596795458355
noncomputable def Fx:Nat:=157151140240798808949916149
noncomputable def Fy:Nat:=229486456865003351529654840974781186757
noncomputable def ze:Nat:=160640531134497186734039720845363315236
noncomputable def Fz:Nat:=198888286533087631303926217434654442188
noncomputable def FB:Nat:=197398748607736068401584468394585
noncomputable def zf:Nat:=380785178378884752773417401672554725232049966143347292397772256117819
noncomputable def zg:Nat:=275740952123820643335676829073083681866425643935235607379936383206329
noncomputable def zh:Nat:=141054934366726521225
noncomputable def FD:Nat:=166395310969220482013135355
noncomputable def zi:Nat:=141054935607984325012
noncomputable def dD:Nat:=107848841962038995549815170
noncomputable def FE:Nat:=275740952123810064827294119579566955836426731347006761060718029636519
noncomputable def uC:Nat:=175657254889022192525413614943957844642445651739370
noncomputable def uD:Nat:=586674167753969556432648749588837739375065414662879742046126765672048359766063977719819994621
noncomputable def zj:Nat:=420580456317349749596038911028066083783592785652542828885196365897530213576
noncomputable def fk:Nat:=204539088173145884780706726839019667243270968
noncomputable def zl:Nat:=659255984108404755290749311296244091287064191650497908754174096545736683308555426708242954148513526
noncomputable def uE:Nat:=261112117794726681337815622448634738885187734668223
noncomputable def FF:Nat:=267106799604808638869205146723893446101670100720162898961
noncomputable def FG:Nat:=258738367104940915733028033678210717851572712637381
noncomputable def zm:Nat:=239748382892771561065179969365293271798428665512871
noncomputable def nc:Nat:=242122148496844803060219337639029836398417591534512
noncomputable def FH:Nat:=277728340664004075620543334263260016082252402066384
noncomputable def zn:Nat:=591731704152455590492839874677204279356819465237006647974990564015534843922568293596934375086
noncomputable def FI:Nat:=239748406329528694165866281937054475911324602401685
noncomputable def FJ:Nat:=344729658948744705910691505581084247264006405502711008313869446
noncomputable def uF:Nat:=344729658948744705910691490281994790017782363527376298381345917
noncomputable def FK:Nat:=503886540032350291433139970004979924265222908479931367383170131549443879592580747626073
noncomputable def uG:Nat:=373036609931588997123147234788997888020847449775102443454177424030706173250
noncomputable def FL:Nat:=217322779271560829588786116060102742840116022
noncomputable def FM:Nat:=277728327880314889582554482350664813179188200670143
noncomputable def FN:Nat:=249282021360494021360978046448819591164068693
noncomputable def br:Nat:=173367629601024452897865989751422
noncomputable def FO:Nat:=217322796483006644649553353730543265637663557
noncomputable def Rx:Nat:=157151136092116784777200139
noncomputable def bx:Nat:=130351319
noncomputable def jY:Nat:=306776090320069476093255471206376336820183493728971392081
noncomputable def oP:Nat:=141054952985434259871
noncomputable def FP:Nat:=171017407396571591167967754
noncomputable def uH:Nat:=212274969853751778774964887764813218545
noncomputable def FQ:Nat:=380785140075627220245419814507560117001628047895999109814884981343474
noncomputable def FS:Nat:=277728323619095360277314719098021620988795967243209
noncomputable def FT:Nat:=155610451111905074078876181
noncomputable def uI:Nat:=209414315044234442840336647062153
noncomputable def FU:Nat:=166395310969225446990873091
noncomputable def FV:Nat:=586674158674965468996205583756063424709934450402466423716970294733045152768118051496757626548
noncomputable def FW:Nat:=380351082935980698451045727459452875994648211086357264953135321071579759941
noncomputable def FX:Nat:=341783264694770416262459375011829792196344751516697644054021241
noncomputable def cO:Nat:=236498303488695270100421270547959202416165713
noncomputable def FY:Nat:=361089410816400923183546499024008514790507544488453242190702670447890
noncomputable def uJ:Nat:=161798307250241470909
noncomputable def oQ:Nat:=178720902825049539946676785
noncomputable def oS:Nat:=197398764014717245116803050832548
noncomputable def FZ:Nat:=215192167594535545058615588611796901347656508
noncomputable def F0:Nat:=549281658259051763583744970610766259066857065190666655962157926615670071201563518436912
noncomputable def iT:Nat:=161798287390270357928
noncomputable def zo:Nat:=142437827133541515677
noncomputable def uK:Nat:=125366155804991
noncomputable def F1:Nat:=219453413897190261064498051537492243764544341
noncomputable def F2:Nat:=361089410816400923183546499024008514790507544488453242180772684891401
noncomputable def zp:Nat:=353568876090721901751031176128033121328788503004465877929952428
noncomputable def F3:Nat:=177180186038362531145646627
noncomputable def q7:Nat:=247151371435759684058245857388881759086379885
noncomputable def zq:Nat:=373036669018924095099197586073862883797612701257207442381304154458367198558
noncomputable def F4:Nat:=199115281209117503634777859162779
noncomputable def zr:Nat:=200831764508199277273729703740047
noncomputable def uL:Nat:=173367629601024452902830989771406
noncomputable def nf:Nat:=180261587805263733127184929
noncomputable def F5:Nat:=139672056494884848037
noncomputable def F6:Nat:=205981311469342346455397047009945
noncomputable def q8:Nat:=152118074018757607864
noncomputable def zt:Nat:=196975902711116611201246078729639822063
noncomputable def d5:Nat:=178720893144816308462813740
noncomputable def k9:Nat:=155610453877700537684394529
noncomputable def q9:Nat:=199115258098675470729749702967940
noncomputable def F7:Nat:=197398748607741599986305449460353
noncomputable def zu:Nat:=208450191910803635927512670617172837093
noncomputable def iU:Nat:=145226103521603
noncomputable def F8:Nat:=171017426757045501636837938
noncomputable def l7:Nat:=180233676808933430188079411102369
noncomputable def F9:Nat:=304131494676466232051526468228974245056138205396488160331
noncomputable def Ga:Nat:=300533591751372424475654034553022913408638925352862651971273888
noncomputable def Gb:Nat:=341783246182477476530144106700067603275123365001402447562474668
noncomputable def uM:Nat:=215192167594538978103789265580893733129618278
noncomputable def Gc:Nat:=556329026534628841189498301812669108438898590386190858501167651528983525791191452475830896357
noncomputable def ra:Nat:=145226113548622
noncomputable def Ge:Nat:=219924505141578853454208323473329095392
noncomputable def uN:Nat:=380785140075637798753802524001076843031626941995872670356882839700733
noncomputable def Gf:Nat:=195063513739635606659153850205401711331
noncomputable def zw:Nat:=377502500362934304535054505814106234117981331266612356698575138784485
noncomputable def uO:Nat:=427894935886964894681423316376333477960417287385504246233616549364147225974
noncomputable def zx:Nat:=242122152758071981881865294292958587056258744452022
noncomputable def Gg:Nat:=293552993414968326262584204285644824979777486680546411585
noncomputable def oT:Nat:=219924512007638386923234945104127984382
noncomputable def uP:Nat:=195063513739635606666068301626998915816
noncomputable def Gh:Nat:=522044556356460413310011068009891095851585098838569705793093980573489398355717281744466
noncomputable def Gi:Nat:=217322777359151259993890476767019722011050831
noncomputable def l8:Nat:=153500953131847057844
noncomputable def Gj:Nat:=173367615734772508895868824453759
noncomputable def Gk:Nat:=334828375614087121074701826044114508446669382156359822121905441277192
noncomputable def iq:Nat:=139672056494884848042
noncomputable def zy:Nat:=157151160984131972529324562
noncomputable def Gl:Nat:=215192184805983076618088891998339890733253449
noncomputable def b7:Nat:=137778616860994
noncomputable def l9:Nat:=199115281209110589193286229688984
noncomputable def iu:Nat:=161798307250234786240
noncomputable def lg:Nat:=167936004246776381120315920
noncomputable def oU:Nat:=178720890379032016080601645
noncomputable def uQ:Nat:=168712752465584193977
noncomputable def ma:Nat:=221584025574237860181073918846336596795458387
noncomputable def Gm:Nat:=150191090172233
noncomputable def Gn:Nat:=249243364345807415147162003685651699357436876555196
noncomputable def Go:Nat:=195063522322213875221716561846326067961
noncomputable def rb:Nat:=173367615734762828675049807217274
noncomputable def Gp:Nat:=653621306943841803559769591535219090293859200341243074726584925975905118722591212865458836801455915
noncomputable def Gq:Nat:=653621352461605836942134828324535390580390508166759410161193919567828912916107409739731377783506738
noncomputable def Gr:Nat:=334828396238913014298547441842849768199107901314492853184931228615932
noncomputable def Gs:Nat:=137778621317447
noncomputable def zz:Nat:=277685312735045079330097322825425514728284712840091403329
noncomputable def zA:Nat:=242122180456063943382398104756142633719508876133350
noncomputable def di:Nat:=141054945537947599269
noncomputable def rc:Nat:=178720882081687827652805145
noncomputable def jZ:Nat:=306776090320033255623987712935659322997574570105654805546
noncomputable def zB:Nat:=249282004149041340266869189083143423726519157
noncomputable def re:Nat:=229486456865052653794744210380755698440
noncomputable def rf:Nat:=269751445097037878522963007297009949965323949417771041854
noncomputable def f9:Nat:=126607396897093
noncomputable def Gu:Nat:=234367714760286148117664565846202177764918109
noncomputable def zC:Nat:=153500948166857064886
noncomputable def ng:Nat:=125366153576776
noncomputable def d6:Nat:=177180186038347636179010087
noncomputable def Gv:Nat:=195063513739657176388548758937678512899
noncomputable def zD:Nat:=177180186038362531153445428
noncomputable def Gw:Nat:=249282011798583494104175075029650404380050292
noncomputable def Gx:Nat:=275354587843612370097307864670845417408737433748437
noncomputable def zE:Nat:=306776121178713390172467713687132912890108747362384479294
noncomputable def oV:Nat:=200831781455855753950049990541968
noncomputable def oW:Nat:=221836923293733529327053260040425636612
noncomputable def uR:Nat:=247151396296764818057391049954121841963369335
noncomputable def Gy:Nat:=145203625079640359345
noncomputable def zF:Nat:=149352277313886486953
noncomputable def uS:Nat:=157151134709216570467746314
noncomputable def rg:Nat:=199115258098661641826906501874302
noncomputable def Gz:Nat:=306776087946312394436123427571219067428973033422989820967
noncomputable def GA:Nat:=269751416612084997035626039053072342099360736407795729443
noncomputable def iV:Nat:=140261123555666
noncomputable def zG:Nat:=244495901317240333333933648199564252411830002058187
noncomputable def GB:Nat:=178517159614511045409419271733913
noncomputable def rh:Nat:=145226121347420
noncomputable def zH:Nat:=190532716806805502047262240604821
noncomputable def GC:Nat:=173367615734780806245022234444440
noncomputable def iW:Nat:=157151140240793843954352658
noncomputable def GD:Nat:=415604998773491676287076388909865557584571518539690135364638223168160584658060765
noncomputable def GE:Nat:=561386544775061880239449864836893504929826329325978336644471165993487352612286986955669833361
noncomputable def GF:Nat:=334828381506923232184008126321843924455730280857665088760525798245631
noncomputable def GG:Nat:=427894922756464971935004583759862993596790457481471703617218584088559551847
noncomputable def GH:Nat:=341783248827054130191788222176956270793291881223986667684758673
noncomputable def GI:Nat:=265859610651841942537442038303257329702819839083454
noncomputable def GJ:Nat:=309420740559721262577488521995146227005504900089476154419
noncomputable def Ry:Nat:=242122131451960948718691741154511816784587303289784
noncomputable def Rz:Nat:=195063496574540697386824934674508219107
noncomputable def uT:Nat:=215192167594542411113526957062423877467767660
noncomputable def GK:Nat:=161798307250230329794
noncomputable def GL:Nat:=261112117794726681337815622448630590231712248562656
noncomputable def gz:Nat:=148949857993051
noncomputable def cY:Nat:=160415421930913137103
noncomputable def GM:Nat:=196975902711116611209543426641795351302
noncomputable def uU:Nat:=137778634686808
noncomputable def dM:Nat:=199115258098679619417980113453715
noncomputable def uV:Nat:=373036665736322685658525112721838410991139604815391378939693052046255719820
noncomputable def RA:Nat:=309420726317298087142957249688734331074957559972226204731
noncomputable def GN:Nat:=497096091102578939988409014333438111740761988436967490814355779000809694937613819
noncomputable def zI:Nat:=141054961674177610175
noncomputable def j0:Nat:=178720882081703963882816051
noncomputable def ri:Nat:=156266733700481483195
noncomputable def rj:Nat:=173367615734780806248745971090071
noncomputable def oX:Nat:=199115258098661641826906506330757
noncomputable def uW:Nat:=180261583656581708955583025
noncomputable def GO:Nat:=269751437975753849950350581754582250783273234198299345974
noncomputable def GP:Nat:=180261596102580614109463091
noncomputable def GQ:Nat:=246869615786635238937748815527362161375344430547922
noncomputable def zJ:Nat:=277685312735030165069394376457946078200793726374256378983
noncomputable def RB:Nat:=156266728735500403136
noncomputable def zK:Nat:=178720897293471025205609012
noncomputable def zL:Nat:=142743624679772
noncomputable def nh:Nat:=157151147155230370578235917
noncomputable def GR:Nat:=141054943055452045737
noncomputable def cZ:Nat:=161798313456469213641
noncomputable def zM:Nat:=261112117794726681337815622448630590242883467412449
noncomputable def GS:Nat:=373036669018924095099197586073862883816736563507870255099159000429413074308
noncomputable def eQ:Nat:=139672054012395979191
noncomputable def iw:Nat:=140261123555670
noncomputable def iX:Nat:=157151147155247748069392943
noncomputable def zN:Nat:=653621306943841803559769591535219090293859200341243074726584925975906835241326318847551475845302079
noncomputable def GT:Nat:=167936015309919756886934065
noncomputable def j1:Nat:=131572392460627
noncomputable def GU:Nat:=176800650123566111512669287219850
noncomputable def fo:Nat:=157151159601255341930971682
noncomputable def GW:Nat:=334828381506859761278510113869952193132719212958117437700406035875065
noncomputable def GX:Nat:=424237724004522693227805379827218400672949486576758398796270312238164477312
noncomputable def GY:Nat:=157151158218361333887140400
noncomputable abbrev GZ:aa:=157
noncomputable abbrev uX:aa:=164
noncomputable abbrev G0:aa:=171
noncomputable abbrev G1:aa:=178
noncomputable abbrev zO:aa:=185
noncomputable abbrev uY:aa:=192
noncomputable abbrev G2:aa:=206
noncomputable abbrev G3:aa:=213
noncomputable abbrev zP:aa:=220
noncomputable abbrev uZ:aa:=227
noncomputable abbrev oY:aa:=234
noncomputable abbrev u3:aa:=262
noncomputable abbrev u4:aa:=269
noncomputable abbrev zQ:aa:=283
noncomputable abbrev u5:aa:=290
noncomputable abbrev u6:aa:=297
noncomputable abbrev u7:aa:=318
noncomputable abbrev oZ:aa:=326
noncomputable abbrev u8:aa:=333
noncomputable abbrev u9:aa:=375
noncomputable abbrev vb:aa:=382
noncomputable abbrev G4:aa:=401
noncomputable abbrev vc:aa:=408
noncomputable abbrev o0:aa:=415
noncomputable abbrev vd:aa:=420
noncomputable abbrev ve:aa:=427
noncomputable abbrev vf:aa:=432
noncomputable abbrev zR:aa:=446
noncomputable abbrev G5:aa:=453
noncomputable abbrev G6:aa:=460
noncomputable abbrev G7:aa:=467
noncomputable abbrev G8:aa:=474
noncomputable abbrev G9:aa:=488
noncomputable abbrev vh:aa:=493
noncomputable abbrev fO:aa:=500
noncomputable abbrev zS:aa:=514
noncomputable abbrev Ha:aa:=521
noncomputable abbrev Hb:aa:=528
noncomputable abbrev Hc:aa:=535
noncomputable abbrev mc:aa:=556
noncomputable abbrev He:aa:=563
noncomputable abbrev Hf:aa:=570
noncomputable abbrev o1:aa:=577
noncomputable abbrev vi:aa:=585
noncomputable abbrev vj:aa:=592
noncomputable abbrev vk:aa:=599
noncomputable abbrev Hg:aa:=1043
noncomputable abbrev zT:aa:=1053
noncomputable abbrev zU:aa:=1067
noncomputable abbrev zV:aa:=1116
noncomputable abbrev Hh:aa:=1123
noncomputable abbrev Hi:aa:=1130
noncomputable abbrev zW:aa:=1158
noncomputable abbrev Hj:aa:=1165
noncomputable abbrev Hk:aa:=1193
noncomputable abbrev zX:aa:=1201
noncomputable abbrev Hl:aa:=1215
noncomputable abbrev zY:aa:=1417
noncomputable abbrev vm:aa:=1424
noncomputable abbrev zZ:aa:=1432
noncomputable abbrev vn:aa:=1439
noncomputable abbrev o3:aa:=1461
noncomputable abbrev vo:aa:=1468
noncomputable abbrev vp:aa:=1475
noncomputable abbrev rk:aa:=1489
noncomputable abbrev vq:aa:=1503
noncomputable abbrev vv:aa:=1510
noncomputable abbrev z0:aa:=1531
noncomputable abbrev vw:aa:=1538
noncomputable abbrev vx:aa:=1545
noncomputable abbrev vy:aa:=1552
noncomputable abbrev z4:aa:=1663
noncomputable abbrev z5:aa:=1748
noncomputable abbrev z6:aa:=1833
noncomputable abbrev vz:aa:=1840
noncomputable abbrev z7:aa:=1868
noncomputable abbrev z8:aa:=1890
noncomputable abbrev vA:aa:=1897
noncomputable abbrev vB:aa:=1904
noncomputable abbrev vC:aa:=1911
noncomputable abbrev vD:aa:=1925
noncomputable abbrev vE:aa:=1953
noncomputable abbrev lh:aa:=1967
noncomputable abbrev Aa:aa:=2010
noncomputable abbrev Ab:aa:=2031
noncomputable abbrev vF:aa:=2038
noncomputable abbrev vG:aa:=2045
noncomputable abbrev vH:aa:=2052
noncomputable abbrev vI:aa:=2059
noncomputable abbrev rl:aa:=2066
noncomputable abbrev vJ:aa:=2094
noncomputable abbrev vK:aa:=2101
noncomputable abbrev vL:aa:=2108
noncomputable abbrev o4:aa:=2122
noncomputable abbrev j2:aa:=2129
noncomputable abbrev o5:aa:=2136
noncomputable abbrev rm:aa:=2143
noncomputable abbrev o6:aa:=2150
noncomputable abbrev Ac:aa:=2157
noncomputable abbrev o7:aa:=2164
noncomputable abbrev rn:aa:=2171
noncomputable abbrev vM:aa:=2178
noncomputable abbrev Ad:aa:=2450
noncomputable abbrev vN:aa:=2472
noncomputable abbrev Ae:aa:=2479
noncomputable abbrev Af:aa:=2493
noncomputable abbrev Hm:aa:=2500
noncomputable abbrev Hn:aa:=2507
noncomputable abbrev Ho:aa:=2521
noncomputable abbrev Hp:aa:=2535
noncomputable abbrev vO:aa:=2540
noncomputable abbrev md:aa:=2545
noncomputable abbrev Hq:aa:=2552
noncomputable abbrev Ag:aa:=2566
noncomputable abbrev Hr:aa:=2573
noncomputable abbrev Hs:aa:=2580
noncomputable abbrev Ht:aa:=2594
noncomputable abbrev Hu:aa:=2601
noncomputable abbrev vP:aa:=2615
noncomputable abbrev vQ:aa:=2622
noncomputable abbrev vR:aa:=2648
noncomputable abbrev vS:aa:=2655
noncomputable abbrev vT:aa:=2668
noncomputable abbrev vU:aa:=2675
noncomputable abbrev ro:aa:=2682
noncomputable abbrev vV:aa:=2694
noncomputable abbrev vW:aa:=2699
noncomputable abbrev vX:aa:=2706
noncomputable abbrev vY:aa:=2713
noncomputable abbrev vZ:aa:=2718
noncomputable abbrev o8:aa:=2723
noncomputable abbrev v4:aa:=2457
noncomputable abbrev dN:aa:=343
noncomputable abbrev v5:aa:=477
noncomputable abbrev v6:aa:=545
noncomputable abbrev rq:aa:=1098
noncomputable abbrev v7:aa:=1140
noncomputable abbrev v8:aa:=1182
noncomputable abbrev rr:aa:=1520
noncomputable abbrev nj:aa:=1666
noncomputable abbrev rt:aa:=1815
noncomputable abbrev o9:aa:=1850
noncomputable abbrev pb:aa:=1871
noncomputable abbrev mh:aa:=1991
noncomputable abbrev eR:aa:=2013
noncomputable abbrev j3:aa:=2202
noncomputable abbrev nk:aa:=2460
noncomputable abbrev v9:aa:=2524
noncomputable abbrev wb:aa:=2604
section
open Internal.AE renaming none->N,tru->V,fls->F,int->j,str->s,loc->l,cl->c,glob->g,attr->a,call->k,meth->m,bin->b,neg->e,cmp->p,ite->i,list->L,tup->t,dict0->D,dict1->d,sub->u,slice->w,comp->q,«not»->n,«and»->A,«or»->O
open Internal.AC renaming one->o,cons->C
open Internal.AT renaming loc->x,cl->y,attr->z,sub->v,tup->r
open Internal.AS renaming expr->E,ret->R,asg->S,cond->I,whl->W,for_->H,try_->Y,other->Z
open Internal.AG renaming cons->K
open Lean in
local macro_rules (kind:=«term[_]»)|s=>return s[1].getSepArgs.foldr (λa b=>Syntax.mkApp ⟨mkNode `Lean.Parser.Term.dotIdent #[mkAtom ".",mkIdent `cons]⟩ #[⟨a⟩,⟨b⟩]) (mkNode `Lean.Parser.Term.dotIdent #[mkAtom ".",mkIdent `nil])
noncomputable def RC:au:=[H (r [x 2,x 3]) (l 1) [I (p (l 0) (o .Lt (l 2))) [R F] [],I (p (l 0) (o .LtE (l 3))) [R V] []],R F]
noncomputable def RE:au:=[R (A [p (l 0) (o .In (g zf)),p (l 0) (o .NotEq (s []))])]
noncomputable def RF:au:=[S (x 1) (k (g ng) [l 0]),I (p (l 1) (o .Lt (j 32))) [R (p (l 0) (o .In (g zf)))] [],R (k (g uN) [l 1,g y8])]
noncomputable def RG:au:=[R (p (s [97]) (C .LtE (l 0) (o .LtE (s [122]))))]
noncomputable def RH:au:=[I (p (k (g ng) [l 0]) (o .Lt (g za))) [R (O [k (g Gh) [l 0],p (s [65]) (C .LtE (l 0) (o .LtE (s [90]))),p (l 0) (o .Eq (s [95])),p (l 0) (o .Eq (s [58]))])] [],R (k (g uN) [k (g ng) [l 0],g zg])]
noncomputable def RI:au:=[I (k (g uO) [l 0]) [R V] [],I (p (k (g ng) [l 0]) (o .Lt (g za))) [R (O [p (s [48]) (C .LtE (l 0) (o .LtE (s [57]))),p (l 0) (o .Eq (s [45])),p (l 0) (o .Eq (s [46]))])] [],R (k (g uN) [k (g ng) [l 0],g zc])]
noncomputable def RJ:au:=[H (x 1) (l 0) [I (n (k (g zw) [l 1])) [R F] []],R (p (l 0) (o .NotEq (s [])))]
noncomputable def RK:au:=[R (A [p (l 0) (o .NotEq (s [])),k (g uO) [u (l 0) (j 0)],k (g Gg) [l 0]])]
noncomputable def RL:au:=[R (A [p (s [58]) (o .NotIn (l 0)),k (g Gf) [l 0]])]
noncomputable def RM:au:=[S (x 1) (m (l 0) uW [s [58]]),I (p (k (g b7) [l 1]) (o .Gt (j 2))) [Z] [],H (x 2) (l 1) [I (n (k (g zx) [l 2])) [Z] []],I (p (k (g b7) [l 1]) (o .Eq (j 1))) [R (t [s [],l 0])] [],R (t [u (l 1) (j 0),u (l 1) (j 1)])]
noncomputable def Hv:au:=[R (m (s [10]) l8 [m (m (s [10]) l8 [m (l 0) uW [s [13,10]]]) uW [s [13]]])]
noncomputable def RN:au:=[I (p (l 0) (o .Eq (s [120,109,108,110,115]))) [R (s [])] [],I (p (l 0) (o .Eq (s [120,109,108,110,115,58]))) [Z] [],I (p (w (l 0) N (j 6) N) (o .Eq (s [120,109,108,110,115,58]))) [R (w (l 0) (j 6) N N)] [],R N]
noncomputable def Hw:au:=[I (p (l 0) (o .Eq (s [120,109,108,110,115]))) [Z] [],I (p (l 0) (o .Eq (s [120,109,108]))) [I (p (l 1) (o .NotEq (g uD))) [Z] [],R N] [],I (p (l 1) (o .In (t [g uD,g uC]))) [Z] [],I (p (l 0) (o .NotEq (s []))) [I (n (k (g zx) [l 0])) [Z] [],I (p (l 1) (o .Eq (s []))) [Z] []] []]
noncomputable def RO:au:=[S (z (l 0) dM) (L [d (s [120,109,108]) (g uD)]),S (z (l 0) eQ) (L [t []])]
noncomputable def Ah:au:=[S (x 2) (L []),S (x 3) (L []),H (r [x 4,x 5]) (l 1) [S (x 6) (k (g F0) [l 4]),I (p (l 6) (o .Is N)) [E (m (l 2) br [t [l 4,l 5]])] [E (k (g FW) [l 6,l 5]),E (m (l 3) br [t [l 6,l 5]])]],S (x 7) (u (a (l 0) dM) (e (j 1))),I (p (l 3) (o .NotEq (L []))) [S (x 7) (k (g iT) [l 7]),H (r [x 6,x 8]) (l 3) [S (v (l 7) (l 6)) (l 8)]] [],E (m (a (l 0) dM) br [l 7]),E (m (a (l 0) eQ) br [k (g iX) [l 3]]),R (k (g iX) [l 2])]
noncomputable def Hx:au:=[I (p (k (g b7) [a (l 0) dM]) (o .Eq (j 1))) [Z] [],E (m (a (l 0) dM) iV []),E (m (a (l 0) eQ) iV [])]
noncomputable def Hy:au:=[I (p (l 1) (o .Eq (s [120,109,108,110,115]))) [Z] [],S (x 2) (m (u (a (l 0) dM) (e (j 1))) iU [l 1]),I (p (l 2) (o .Is N)) [I (p (l 1) (o .NotEq (s []))) [Z] [],R (s [])] [],R (l 2)]
noncomputable def Ai:au:=[S (r [x 3,x 4]) (k (g GO) [l 1]),I (A [p (l 3) (o .Eq (s [])),l 2]) [R (t [s [],l 4])] [],R (t [m (l 0) GU [l 3],l 4])]
noncomputable def Hz:au:=[S (x 2) D,H (r [x 3,x 4]) (l 1) [S (x 5) (m (l 0) uT [l 3,V]),I (p (l 5) (o .In (l 2))) [Z] [],S (v (l 2) (l 5)) (l 3)]]
noncomputable def HD:au:=[R (t [s [101,108,101,109,101,110,116],l 0,s [],k (g iX) [k (g rj) [l 1]],k (g iX) [l 2]])]
noncomputable def HE:au:=[R (t [s [114,111,111,116],s [],s [],t [],k (g iX) [l 0]])]
noncomputable def RP:au:=[S (x 1) (L []),H (x 2) (l 0) [I (p (u (l 2) (g l6)) (o .NotEq (s [116,101,120,116]))) [E (m (l 1) br [l 2])] [I (A [p (l 1) (o .NotEq (L [])),p (u (u (l 1) (e (j 1))) (g l6)) (o .Eq (s [116,101,120,116]))]) [S (v (l 1) (e (j 1))) (k (g zM) [b .Add (u (u (l 1) (e (j 1))) (g dD)) (u (l 2) (g dD))])] [I (p (u (l 2) (g dD)) (o .NotEq (s []))) [E (m (l 1) br [l 2])] []]]],R (l 1)]
noncomputable def HF:au:=[S (x 2) (L []),H (x 3) (m (l 0) jY [l 1]) [E (m (l 2) br [t [t [m (l 0) j1 [l 3],m (l 0) lg [l 3]],m (l 0) di [l 3],m (l 0) fo [l 3]]])],H (x 3) (m (l 0) jZ [l 1]) [S (x 4) (m (l 0) lg [l 3]),S (x 5) (i (p (l 4) (o .Eq (s []))) (g y9) (b .Add (b .Add (g y9) (s [58])) (l 4))),E (m (l 2) br [t [t [g uC,l 4],l 5,m (l 0) fo [l 3]]])],R (l 2)]
noncomputable def Aj:au:=[S (x 3) (m (l 0) iq [l 1]),I (p (l 3) (o .Eq (s [114,111,111,116]))) [R (k (g GL) [l 2])] [],I (p (l 3) (o .Eq (s [101,108,101,109,101,110,116]))) [R (k (g F2) [t [m (l 0) di [l 1],m (l 0) j1 [l 1],m (l 0) lg [l 1]],k (g GM) [l 0,l 1],l 2])] [],I (p (l 3) (o .Eq (s [116,101,120,116]))) [R (k (g zM) [m (l 0) fo [l 1]])] [],I (p (l 3) (o .Eq (s [99,111,109,109,101,110,116]))) [R (k (g FY) [m (l 0) fo [l 1]])] [],R (k (g Gc) [m (l 0) di [l 1],m (l 0) fo [l 1]])]
noncomputable def HG:au:=[S (r [x 2,x 3]) (t [L [l 1],L []]),W (p (l 2) (o .NotEq (L []))) [S (x 4) (m (l 2) iV []),E (m (l 3) br [l 4]),E (m (l 2) uL [m (l 0) cO [l 4]])],S (x 5) D,H (x 4) (w (l 3) N N (e (j 1))) [S (v (l 5) (l 4)) (k (g Gu) [l 0,l 4,q (u (l 5) (c 1)) (K (y 1) (m (l 0) cO [l 4]) [] .nil) 3])],R (u (l 5) (l 1))]
noncomputable def HH:au:=[S (x 3) (u (l 2) (g l6)),I (p (l 3) (o .Eq (s [116,101,120,116]))) [R (m (l 0) FN [l 1,u (l 2) (g dD)])] [],I (p (l 3) (o .Eq (s [99,111,109,109,101,110,116]))) [R (m (l 0) FJ [l 1,u (l 2) (g dD)])] [],I (p (l 3) (o .Eq (s [105,110,115,116,114,117,99,116,105,111,110]))) [R (m (l 0) FK [l 1,u (l 2) (g oO),u (l 2) (g dD)])] [],S (r [x 4,x 5,x 6]) (u (l 2) (g oO)),S (x 7) (m (l 0) uF [l 1,l 4,l 5,l 6]),H (r [x 8,x 9,x 10]) (u (l 2) (g oL)) [I (p (u (l 8) (j 0)) (o .Eq (g uC))) [E (m (l 0) uG [l 7,u (l 8) (j 1),l 10])] [E (m (l 0) uV [l 7,l 9,u (l 8) (j 0),u (l 8) (j 1),l 10])]],R (l 7)]
noncomputable def HI:au:=[S (x 4) (i (p (u (l 2) (g l6)) (o .NotEq (s [114,111,111,116]))) (L [t [l 1,l 2]]) (q (t [l 1,c 1]) (K (y 1) (w (u (l 2) (g oM)) N N (e (j 1))) [] .nil) 3)),S (x 5) N,W (p (l 4) (o .NotEq (L []))) [S (r [x 6,x 7]) (m (l 4) iV []),S (x 8) (k (g FL) [l 0,l 6,l 7]),S (x 5) (i (p (l 5) (o .Is N)) (l 8) (l 5)),H (x 3) (w (u (l 7) (g oM)) N N (e (j 1))) [E (m (l 4) br [t [l 8,l 3]])]],R (l 5)]
noncomputable def RQ:au:=[S (z (l 0) d5) (L []),S (z (l 0) cO) (L []),S (z (l 0) j0) (L []),S (z (l 0) oW) (L []),S (z (l 0) rg) (L []),E (m (l 0) F7 [l 1]),E (m (l 0) Go [])]
noncomputable def RR:au:=[S (r [x 2,x 3]) (t [L [],L [t [l 1,N,j 0]]]),W (p (l 3) (o .NotEq (L []))) [S (x 4) (m (l 3) iV []),S (x 5) (k (g b7) [l 2]),E (m (l 2) br [l 4]),H (x 6) (k (g iW) [k (g b7) [u (u (l 4) (j 0)) (g oM)]]) [E (m (l 3) br [t [u (u (u (l 4) (j 0)) (g oM)) (l 6),l 5,l 6]])]],S (x 7) (k (g b7) [l 2]),H (r [x 8,x 9,x 6]) (w (l 2) N N (e (j 1))) [E (m (a (l 0) d5) br [l 8]),E (m (a (l 0) oW) br [i (p (l 9) (o .Is N)) N (b .Sub (b .Sub (l 7) (j 1)) (l 9))]),E (m (a (l 0) rg) br [l 6])]]
noncomputable def RT:au:=[H (x 1) (k (g iW) [k (g b7) [a (l 0) d5]]) [E (m (a (l 0) cO) br [b .Mult (L [N]) (k (g b7) [u (u (a (l 0) d5) (l 1)) (g oM)])]),E (m (a (l 0) j0) br [j 1])],H (x 1) (k (g iW) [b .Sub (k (g b7) [a (l 0) d5]) (j 1)]) [S (x 2) (u (a (l 0) oW) (l 1)),S (v (u (a (l 0) cO) (l 2)) (u (a (l 0) rg) (l 1))) (l 1),S (v (a (l 0) j0) (l 2)) (b .Add (u (a (l 0) j0) (l 2)) (u (a (l 0) j0) (l 1)))]]
noncomputable def RU:au:=[R (b .Sub (k (g b7) [a (l 0) d5]) (j 1))]
noncomputable def RV:au:=[S (x 2) (L []),W (p (u (a (l 0) oW) (l 1)) (o .IsNot N)) [E (m (l 2) br [u (a (l 0) rg) (l 1)]),S (x 1) (u (a (l 0) oW) (l 1))],R (k (g iX) [w (l 2) N N (e (j 1))])]
noncomputable def RY:au:=[R (A [p (u (l 0) (g l6)) (o .Eq (u (l 1) (g l6))),p (u (l 0) (g oO)) (o .Eq (u (l 1) (g oO)))])]
noncomputable def HJ:au:=[S (x 3) (k (g iT) [q (t [c 1,t [c 2,c 3]]) (K (r [y 1,y 2,y 3]) (u (l 0) (g oL)) [] .nil) 4]),S (x 4) (k (g iT) [q (t [c 1,t [c 2,c 3]]) (K (r [y 1,y 2,y 3]) (u (l 1) (g oL)) [] .nil) 4]),S (x 5) (L []),H (x 2) (k (g rj) [b .Add (k (g iu) [l 3]) (q (c 1) (K (y 1) (l 4) [p (c 1) (o .NotIn (l 3))] .nil) 3)]) [I (p (l 2) (o .NotIn (l 4))) [E (m (l 5) br [t [l 2,N,N]])] [I (p (m (l 3) iU [l 2]) (o .NotEq (u (l 4) (l 2)))) [E (m (l 5) br [t [l 2,u (u (l 4) (l 2)) (j 0),u (u (l 4) (l 2)) (j 1)]])] []]],R (l 5)]
noncomputable def HK:au:=[R (b .Add (k (g ra) [p (u (l 0) (g dD)) (o .NotEq (u (l 1) (g dD)))]) (k (g b7) [k (g zN) [l 0,l 1]]))]
noncomputable def RZ:au:=[S (z (l 0) f9) (l 1),S (z (l 0) d6) (l 2),S (z (l 0) oQ) D,H (x 3) (k (g iW) [k (g b7) [a (l 1) d5]]) [H (x 4) (k (g iW) [k (g b7) [a (l 2) d5]]) [I (k (g Gn) [u (a (l 1) d5) (l 3),u (a (l 2) d5) (l 4)]) [S (v (a (l 0) oQ) (t [l 3,l 4])) (b .Add (k (g Gw) [u (a (l 1) d5) (l 3),u (a (l 2) d5) (l 4)]) (u (u (m (l 0) nh [l 3,l 4]) (e (j 1))) (e (j 1))))] []]]]
noncomputable def R0:au:=[S (r [x 3,x 4]) (t [u (a (a (l 0) f9) cO) (l 1),u (a (a (l 0) d6) cO) (l 2)]),S (x 5) (L [L [j 0]]),H (x 6) (l 4) [E (m (u (l 5) (j 0)) br [b .Add (u (u (l 5) (j 0)) (e (j 1))) (u (a (a (l 0) d6) j0) (l 6))])],H (x 7) (k (g iW) [k (g b7) [l 3]]) [S (x 8) (u (a (a (l 0) f9) j0) (u (l 3) (l 7))),S (x 9) (L [b .Add (u (u (l 5) (l 7)) (j 0)) (l 8)]),H (x 10) (k (g iW) [k (g b7) [l 4]]) [S (x 11) (k (g Gs) [k (g ra) [b .Add (u (u (l 5) (l 7)) (b .Add (l 10) (j 1))) (l 8)],k (g ra) [b .Add (u (l 9) (l 10)) (u (a (a (l 0) d6) j0) (u (l 4) (l 10)))]]),S (x 12) (m (a (l 0) oQ) iU [t [u (l 3) (l 7),u (l 4) (l 10)]]),I (A [p (l 12) (o .IsNot N),p (b .Add (u (u (l 5) (l 7)) (l 10)) (l 12)) (o .Lt (l 11))]) [S (x 11) (b .Add (u (u (l 5) (l 7)) (l 10)) (l 12))] [],E (m (l 9) br [l 11])],E (m (l 5) br [l 9])],R (l 5)]
noncomputable def R1:au:=[S (r [x 3,x 4]) (t [u (a (a (l 0) f9) cO) (l 1),u (a (a (l 0) d6) cO) (l 2)]),S (r [x 5,x 6]) (t [m (l 0) nh [l 1,l 2],L []]),S (r [x 7,x 8]) (t [k (g b7) [l 3],k (g b7) [l 4]]),W (O [p (l 7) (o .Gt (j 0)),p (l 8) (o .Gt (j 0))]) [S (x 9) (i (A [p (l 7) (o .Gt (j 0)),p (l 8) (o .Gt (j 0))]) (m (a (l 0) oQ) iU [t [u (l 3) (b .Sub (l 7) (j 1)),u (l 4) (b .Sub (l 8) (j 1))]]) N),I (A [p (l 9) (o .IsNot N),p (u (u (l 5) (l 7)) (l 8)) (o .Eq (b .Add (u (u (l 5) (b .Sub (l 7) (j 1))) (b .Sub (l 8) (j 1))) (l 9)))]) [E (m (l 6) br [t [s [107,101,101,112],b .Sub (l 7) (j 1),b .Sub (l 8) (j 1)]]),S (r [x 7,x 8]) (t [b .Sub (l 7) (j 1),b .Sub (l 8) (j 1)])] [I (A [p (l 7) (o .Gt (j 0)),p (u (u (l 5) (l 7)) (l 8)) (o .Eq (b .Add (u (u (l 5) (b .Sub (l 7) (j 1))) (l 8)) (u (a (a (l 0) f9) j0) (u (l 3) (b .Sub (l 7) (j 1))))))]) [E (m (l 6) br [t [s [111,117,116],b .Sub (l 7) (j 1)]]),S (x 7) (b .Sub (l 7) (j 1))] [E (m (l 6) br [t [s [105,110],l 7,b .Sub (l 8) (j 1)]]),S (x 8) (b .Sub (l 8) (j 1))]]],R (w (l 6) N N (e (j 1)))]
noncomputable def R2:au:=[R (m (a (l 0) oQ) iU [t [l 1,l 2]])]
noncomputable def HL:au:=[S (x 3) (L []),I (p (u (l 0) (g dD)) (o .NotEq (u (l 1) (g dD)))) [E (m (l 3) br [t [s [118,97,108,117,101],l 2,u (l 1) (g dD)]])] [],H (r [x 4,x 5,x 6]) (k (g zN) [l 0,l 1]) [E (m (l 3) br [t [s [97,116,116,114,105,98,117,116,101],l 2,l 4,l 5,l 6]])],R (l 3)]
noncomputable def R4:au:=[S (r [x 4,x 5]) (t [u (a (a (l 0) f9) cO) (l 1),u (a (a (l 0) d6) cO) (l 2)]),S (x 6) (L []),H (x 7) (m (l 0) zK [l 1,l 2]) [I (p (u (l 7) (j 0)) (o .Eq (s [107,101,101,112]))) [E (m (l 6) br [t [s [112,97,105,114],b .Add (l 3) (t [u (l 7) (j 1)]),u (l 4) (u (l 7) (j 1)),u (l 5) (u (l 7) (j 2))]])] [I (p (u (l 7) (j 0)) (o .Eq (s [111,117,116]))) [E (m (l 6) br [t [s [100,101,108,101,116,101],b .Add (l 3) (t [u (l 7) (j 1)])]])] [E (m (l 6) br [t [s [105,110,115,101,114,116],b .Add (l 3) (t [u (l 7) (j 1)]),u (a (a (l 0) d6) d5) (u (l 5) (u (l 7) (j 2)))]])]]],R (l 6)]
noncomputable def R5:au:=[S (x 1) (m (a (l 0) f9) iw []),I (p (m (l 0) uJ [l 1,m (a (l 0) d6) iw []]) (o .Is N)) [R (L [t [s [114,101,112,108,97,99,101],t [],u (a (a (l 0) d6) d5) (m (a (l 0) d6) iw [])]])] [],S (r [x 2,x 3]) (t [L [],L [t [s [112,97,105,114],t [],l 1,m (a (l 0) d6) iw []]]]),W (p (l 3) (o .NotEq (L []))) [S (x 4) (m (l 3) iV []),I (p (u (l 4) (j 0)) (o .NotEq (s [112,97,105,114]))) [E (m (l 2) br [l 4])] [I (p (m (l 0) uJ [u (l 4) (j 2),u (l 4) (j 3)]) (o .Gt (j 0))) [E (m (l 2) uL [k (g Gx) [u (a (a (l 0) f9) d5) (u (l 4) (j 2)),u (a (a (l 0) d6) d5) (u (l 4) (j 3)),u (l 4) (j 1)]]),E (m (l 3) uL [k (g Gb) [l 0,u (l 4) (j 2),u (l 4) (j 3),u (l 4) (j 1)]])] []]],R (l 2)]
noncomputable def R6:au:=[R (k (g F1) [k (g zd) [k (g oN) [l 0],k (g oN) [l 1]]])]
noncomputable def HM:au:=[S (x 3) (m (l 0) zB []),S (x 4) (i (l 2) (k (g Fp) []) N),S (x 5) (l 3),H (x 6) (l 1) [S (x 7) (u (l 6) (j 0)),I (p (l 7) (o .Eq (s [115,116,97,114,116]))) [S (x 5) (k (g FM) [l 0,l 5,u (l 6) (j 1),u (l 6) (j 2),l 4])] [I (p (l 7) (o .Eq (s [101,110,100]))) [S (x 5) (k (g Gl) [l 0,l 5,u (l 6) (j 1),l 3]),I (p (l 4) (o .IsNot N)) [E (m (l 4) zy [])] []] [I (p (l 7) (o .Eq (s [116,101,120,116]))) [E (m (l 0) FN [l 5,u (l 6) (j 1)])] [I (p (l 7) (o .Eq (s [99,111,109,109,101,110,116]))) [E (m (l 0) FJ [l 5,u (l 6) (j 1)])] [I (p (l 7) (o .Eq (s [105,110,115,116,114,117,99,116,105,111,110]))) [E (m (l 0) FK [l 5,u (l 6) (j 1),u (l 6) (j 2)])] []]]]]],I (p (l 5) (o .NotEq (l 3))) [Z] [],R (l 3)]
noncomputable def HN:au:=[I (p (l 4) (o .Is N)) [S (x 5) (m (l 0) uF [l 1,l 2,s [],l 2]),H (r [x 6,x 7]) (l 3) [E (m (l 0) uV [l 5,l 6,s [],l 6,l 7])],R (l 5)] [],S (x 8) (m (l 4) F3 [l 3]),S (r [x 9,x 10]) (m (l 4) uT [l 2]),S (x 5) (m (l 0) uF [l 1,l 2,l 9,l 10]),H (r [x 6,x 7]) (l 3) [I (p (l 6) (o .Eq (s [120,109,108,110,115]))) [E (m (l 0) uG [l 5,s [],l 7])] [I (p (w (l 6) N (j 6) N) (o .Eq (s [120,109,108,110,115,58]))) [E (m (l 0) uG [l 5,w (l 6) (j 6) N N,l 7])] []]],E (m (l 4) FV [l 8]),H (r [x 6,x 7]) (l 8) [S (r [x 9,x 10]) (m (l 4) uT [l 6,V]),E (m (l 0) uV [l 5,l 6,l 9,l 10,l 7])],R (l 5)]
noncomputable def HO:au:=[I (O [p (l 1) (o .Eq (l 3)),p (m (l 0) di [l 1]) (o .NotEq (l 2))]) [Z] [],R (m (l 0) oV [l 1])]
noncomputable def R7:au:=[I (p (l 0) (o .Eq (s [38]))) [R (s [38,97,109,112,59])] [],I (p (l 0) (o .Eq (s [60]))) [R (s [38,108,116,59])] [],I (p (l 0) (o .Eq (s [34]))) [R (s [38,113,117,111,116,59])] [],I (p (l 0) (o .In (s [9,10,13]))) [R (b .Add (b .Add (s [38,35]) (k (g zL) [k (g ng) [l 0]])) (s [59]))] [],R (l 0)]
noncomputable def R8:au:=[R (m (s []) l8 [q (k (g GW) [c 1]) (K (y 1) (l 0) [] .nil) 3])]
noncomputable def R9:au:=[S (z (l 0) l9) (l 1),S (z (l 0) zI) (j 0),S (z (l 0) zC) (L [])]
noncomputable def Sa:au:=[S (z (l 0) cZ) (l 1),S (z (l 0) di) (l 2),S (z (l 0) bx) (j 0)]
noncomputable def Sb:au:=[R (p (a (l 0) bx) (o .Eq (k (g b7) [a (l 0) cZ])))]
noncomputable def Sc:au:=[S (x 2) (a (l 0) bx),W (A [p (a (l 0) bx) (o .Lt (k (g b7) [a (l 0) cZ])),p (u (a (l 0) cZ) (a (l 0) bx)) (o .NotIn (l 1))]) [S (z (l 0) bx) (b .Add (a (l 0) bx) (j 1))],R (w (a (l 0) cZ) (l 2) (a (l 0) bx) N)]
noncomputable def Sd:au:=[S (z (l 0) l7) (l 2),S (z (l 0) cY) (L [k (g Fz) [l 1,N]]),S (z (l 0) FP) (j 0)]
noncomputable def Se:au:=[W (A [p (a (l 0) cY) (o .NotEq (L [])),m (u (a (l 0) cY) (e (j 1))) oT []]) [I (p (a (m (a (l 0) cY) iV []) di) (o .IsNot N)) [E (m (a (l 0) l7) zy [])] []],R (i (p (a (l 0) cY) (o .NotEq (L []))) (u (a (l 0) cY) (e (j 1))) N)]
noncomputable def Sf:au:=[R (i (p (l 1) (o .Is N)) (k (g zb) [a (l 0) l9]) (l 1))]
noncomputable def Sg:au:=[S (r [x 3,x 4]) (t [k (g FD) [l 0,k (g F9) [l 1,l 2]],L []]),S (x 5) (m (l 3) iw []),W (p (l 5) (o .IsNot N)) [E (m (l 4) br [k (g FQ) [m (l 5) uU [s [38,60]]]]),I (n (m (l 5) oT [])) [I (p (u (a (l 5) cZ) (a (l 5) bx)) (o .Eq (s [60]))) [Z] [],E (m (l 4) br [k (g GN) [m (l 3) Ry [],l 1,l 3]])] [],S (x 5) (m (l 3) iw [])],R (m (s []) l8 [l 4])]
noncomputable def Sh:au:=[H (x 1) (g FE) [S (x 0) (m (l 0) Rz [l 1,s [32]])],R (l 0)]
noncomputable def Si:au:=[S (z (l 0) cZ) (l 1),S (z (l 0) bx) (l 2)]
noncomputable def HQ:au:=[R (p (a (l 0) bx) (o .GtE (k (g b7) [a (l 0) cZ])))]
noncomputable def HR:au:=[R (w (a (l 0) cZ) (a (l 0) bx) (b .Add (a (l 0) bx) (l 1)) N)]
noncomputable def HS:au:=[R (m (a (l 0) cZ) zJ [l 1,a (l 0) bx])]
noncomputable def HT:au:=[I (n (m (a (l 0) cZ) zJ [l 1,a (l 0) bx])) [R F] [],S (z (l 0) bx) (b .Add (a (l 0) bx) (k (g b7) [l 1])),R V]
noncomputable def HU:au:=[I (n (m (l 0) ri [l 1])) [E (m (l 0) nf [b .Add (s [116,104,101,114,101,32,115,104,111,117,108,100,32,98,101,32]) (l 1)])] []]
noncomputable def HV:au:=[S (x 2) (m (a (l 0) cZ) F5 [l 1,a (l 0) bx]),I (p (l 2) (o .Lt (j 0))) [E (m (l 0) nf [b .Add (s [116,104,101,114,101,32,105,115,32,110,111,32]) (l 1)])] [],S (x 3) (w (a (l 0) cZ) (a (l 0) bx) (l 2) N),S (z (l 0) bx) (b .Add (l 2) (k (g b7) [l 1])),R (l 3)]
noncomputable def HW:au:=[S (x 1) (a (l 0) bx),W (A [p (a (l 0) bx) (o .Lt (k (g b7) [a (l 0) cZ])),k (g Gi) [u (a (l 0) cZ) (a (l 0) bx)]]) [S (z (l 0) bx) (b .Add (a (l 0) bx) (j 1))],R (b .Sub (a (l 0) bx) (l 1))]
noncomputable def HY:au:=[S (x 1) (a (l 0) bx),I (O [m (l 0) oT [],n (k (g uO) [u (a (l 0) cZ) (l 1)])]) [E (m (l 0) nf [s [97,32,110,97,109,101,32,105,115,32,109,105,115,115,105,110,103]])] [],S (z (l 0) bx) (b .Add (l 1) (j 1)),W (A [p (a (l 0) bx) (o .Lt (k (g b7) [a (l 0) cZ])),k (g zw) [u (a (l 0) cZ) (a (l 0) bx)]]) [S (z (l 0) bx) (b .Add (a (l 0) bx) (j 1))],R (w (a (l 0) cZ) (l 1) (a (l 0) bx) N)]
noncomputable def HZ:au:=[S (x 1) (m (l 0) zF []),I (A [p (l 1) (o .NotEq (s [34])),p (l 1) (o .NotEq (s [39]))]) [E (m (l 0) nf [s [97,32,113,117,111,116,101,32,105,115,32,109,105,115,115,105,110,103]])] [],S (z (l 0) bx) (b .Add (a (l 0) bx) (j 1)),S (x 2) (a (l 0) bx),R (t [m (l 0) GT [l 1],l 2])]
noncomputable def Sj:au:=[H (x 2) (k (g iW) [k (g b7) [l 0]]) [I (n (k (g Ge) [u (l 0) (l 2)])) [Z] []]]
noncomputable def Ak:au:=[E (m (l 0) zr [s [60]]),S (x 2) (m (l 0) di []),S (x 3) (L []),S (x 4) D,W V [S (x 5) (p (m (l 0) oX []) (o .Gt (j 0))),I (m (l 0) ri [s [47,62]]) [R (t [l 2,k (g iX) [l 3],V])] [],I (m (l 0) ri [s [62]]) [R (t [l 2,k (g iX) [l 3],F])] [],I (n (l 5)) [E (m (l 0) nf [s [97,32,115,112,97,99,101,32,105,115,32,109,105,115,115,105,110,103]])] [],S (x 6) (a (l 0) bx),S (r [x 7,x 8]) (k (g GD) [l 0,l 1]),I (p (l 7) (o .In (l 4))) [Z] [],S (v (l 4) (l 7)) V,E (m (l 3) br [t [l 7,l 8]])]]
noncomputable def H7:au:=[E (m (l 0) oX []),E (m (l 0) zr [s [61]]),E (m (l 0) oX [])]
noncomputable def H8:au:=[S (x 2) (m (l 0) di []),E (k (g GH) [l 0]),S (r [x 3,x 4]) (m (l 0) GC []),S (x 5) (m (l 3) F5 [s [60]]),I (p (l 5) (o .GtE (j 0))) [Z] [],E (k (g FX) [l 3,l 4]),R (t [l 2,k (l 1) [l 3,l 4]])]
noncomputable def Sk:au:=[S (z (l 0) zz) (l 1),S (z (l 0) zA) (l 2)]
noncomputable def Sl:au:=[S (z (l 0) l9) (l 1),S (z (l 0) zD) (i (p (l 2) (o .Is N)) D (l 2)),S (z (l 0) zu) D,S (z (l 0) zE) D]
noncomputable def Sm:au:=[S (z (l 0) cY) (L [])]
noncomputable def H9:au:=[E (m (a (l 0) cY) br [l 1])]
noncomputable def Sn:au:=[S (z (l 0) oS) (l 1),S (z (l 0) di) (l 2),S (z (l 0) uS) (l 3),S (z (l 0) uQ) (l 4)]
noncomputable def So:au:=[S (z (l 0) q7) (l 2),S (z (l 0) rf) (l 3),S (z (l 0) k9) (k (g Fu) []),S (z (l 0) q9) (L [k (g Fv) [k (g Fq) [k (g Gz) [l 1]],N,j 0,j 0]]),S (z (l 0) l7) (k (g zb) [a (l 2) l9]),S (z (l 0) rc) (L [])]
noncomputable def Ia:au:=[E (m (l 0) GB []),R (m (l 0) GK [])]
noncomputable def Ib:au:=[S (x 1) (a (u (a (l 0) q9) (j 0)) oS),E (m (l 1) ri [s [65279]]),I (A [m (l 1) oU [s [60,63,120,109,108]],p (w (m (l 1) zF [j 6]) (j 5) N N) (o .In (t [s [32],s [9],s [10]]))]) [E (m (a (l 0) k9) rh [k (g GE) [l 1]])] [],E (m (l 0) uH [l 1]),I (m (l 1) oU [s [60,33,68,79,67,84,89,80,69]]) [S (x 2) (k (g GF) [l 1]),E (m (a (l 0) k9) rh [l 2]),I (p (a (l 0) rf) (o .IsNot N)) [E (m (l 0) rf [l 2])] [],E (m (l 0) uH [l 1])] [],R (k (g iu) [a (a (l 0) k9) cY])]
noncomputable def Ic:au:=[E (m (l 1) oX []),W (O [m (l 1) oU [s [60,33,45,45]],m (l 1) oU [s [60,63]]]) [E (m (l 0) Rx [l 1]),E (m (l 1) oX [])]]
noncomputable def Ie:au:=[S (x 1) (a (u (a (l 0) q9) (j 0)) oS),I (n (m (l 1) oU [s [60]])) [E (m (l 1) nf [s [97,110,32,101,108,101,109,101,110,116,32,105,115,32,109,105,115,115,105,110,103]])] [],E (m (l 0) GP [l 1]),W (p (a (l 0) rc) (o .NotEq (L []))) [E (m (l 0) RB [])],E (m (l 0) uH [l 1]),I (n (m (l 1) oT [])) [E (m (l 1) nf [s [115,111,109,101,116,104,105,110,103,32,115,116,97,110,100,115,32,98,101,104,105,110,100,32,116,104,101,32,111,117,116,101,114,109,111,115,116,32,101,108,101,109,101,110,116]])] [],R (a (a (l 0) k9) cY)]
noncomputable def Ig:au:=[S (r [x 2,x 3,x 4]) (k (g GJ) [l 1,a (l 0) fo]),E (m (a (l 0) k9) rh [t [s [115,116,97,114,116],l 2,l 3]]),I (l 4) [E (m (a (l 0) k9) rh [t [s [101,110,100],l 2]])] [E (m (a (l 0) rc) br [l 2])]]
noncomputable def Al:au:=[Y [R (k (g GS) [l 1,a (l 0) q7,a (l 0) l7])]]
noncomputable def Sq:au:=[S (z (l 0) iq) (l 1),S (z (l 0) di) (l 2),S (z (l 0) j1) (l 3),S (z (l 0) lg) (l 4),S (z (l 0) fo) (l 5),S (z (l 0) oV) (l 6),S (z (l 0) cO) (L []),S (z (l 0) jY) (L []),S (z (l 0) jZ) (L [])]
noncomputable def Ss:au:=[S (z (l 0) cY) (L [])]
noncomputable def Am:au:=[E (m (a (l 0) cY) br [k (g Fy) [l 1,l 2,l 3,l 4,l 5,l 6]]),R (b .Sub (k (g b7) [a (l 0) cY]) (j 1))]
noncomputable def An:au:=[I (n (p (j 0) (C .LtE (l 1) (o .Lt (k (g b7) [a (l 0) cY]))))) [Z] [],R (u (a (l 0) cY) (l 1))]
noncomputable def Ih:au:=[R (m (l 0) re [s [114,111,111,116],s [],s [],s [],s [],N])]
noncomputable def Ao:au:=[I (A [p (l 1) (o .IsNot N),p (a (m (l 0) gz [l 1]) iq) (o .NotIn (g ze))]) [Z] [],S (x 7) (m (l 0) re [l 2,l 3,l 4,l 5,l 6,l 1]),I (p (l 1) (o .IsNot N)) [E (m (a (u (a (l 0) cY) (l 1)) cO) br [l 7])] [],R (l 7)]
noncomputable def Ii:au:=[R (m (l 0) FI [l 1,s [101,108,101,109,101,110,116],l 2,l 3,l 4,s []])]
noncomputable def Ap:au:=[S (x 2) (m (l 0) gz [l 1]),I (p (a (l 2) iq) (o .NotEq (s [101,108,101,109,101,110,116]))) [Z] [],R (l 2)]
noncomputable def Aq:au:=[S (x 6) (m (l 0) zp [l 1]),H (x 7) (a (l 6) jY) [S (x 8) (u (a (l 0) cY) (l 7)),I (A [p (a (l 8) j1) (o .Eq (l 3)),p (a (l 8) lg) (o .Eq (l 4))]) [S (z (l 8) di) (l 2),S (z (l 8) fo) (l 5),R (l 7)] []],S (x 7) (m (l 0) re [s [97,116,116,114,105,98,117,116,101],l 2,l 3,l 4,l 5,l 1]),E (m (a (l 6) jY) br [l 7]),R (l 7)]
noncomputable def Ij:au:=[S (x 4) (m (l 0) zp [l 1]),H (x 5) (a (l 4) jZ) [I (p (a (u (a (l 0) cY) (l 5)) di) (o .Eq (l 2))) [S (z (u (a (l 0) cY) (l 5)) fo) (l 3),R (l 5)] []],S (x 5) (m (l 0) re [s [110,97,109,101,115,112,97,99,101],l 2,s [],l 2,l 3,l 1]),E (m (a (l 4) jZ) br [l 5]),R (l 5)]
noncomputable def St:au:=[R (a (m (l 0) gz [l 1]) iq)]
noncomputable def Su:au:=[R (a (m (l 0) gz [l 1]) di)]
noncomputable def Sv:au:=[R (a (m (l 0) gz [l 1]) j1)]
noncomputable def Sw:au:=[R (a (m (l 0) gz [l 1]) lg)]
noncomputable def Sx:au:=[R (a (m (l 0) gz [l 1]) fo)]
noncomputable def Sy:au:=[R (a (m (l 0) gz [l 1]) oV)]
noncomputable def Sz:au:=[R (k (g iu) [a (m (l 0) gz [l 1]) cO])]
noncomputable def SD:au:=[R (k (g iu) [a (m (l 0) gz [l 1]) jY])]
noncomputable def SF:au:=[R (k (g iu) [a (m (l 0) gz [l 1]) jZ])]
noncomputable def SG:au:=[S (z (l 0) nh) (k (g Ft) [l 1,l 2]),S (z (l 0) uK) N]
noncomputable def Ik:au:=[S (x 4) (k (g Fs) [i (p (l 2) (o .Is N)) (k (g Fw) []) (l 2),l 3]),S (x 5) (m (k (g FB) [l 1,a (l 4) nh,a (l 4) GR]) F4 []),S (x 6) (a (l 4) uK),I (p (l 6) (o .IsNot N)) [S (x 5) (k (g GX) [l 5,l 6])] [],S (x 7) (k (g FT) [l 0,l 5]),R (t [l 7,l 6,i (p (l 6) (o .Is N)) (L []) (k (g FU) [l 0,l 7,l 6])])]
noncomputable def Il:au:=[S (x 1) (k (g zi) []),S (r [x 2,x 3,x 4]) (k (g GI) [l 1,l 0]),R (t [l 1,l 2,l 3,l 4])]
noncomputable def SH:au:=[S (z (l 0) ma) (k (g zd) [l 1,l 2]),S (z (l 0) uR) D,S (z (l 0) uM) D,S (x 3) (m (l 2) iw []),I (p (m (a (l 0) ma) uJ [m (l 1) iw [],l 3]) (o .IsNot N)) [E (m (l 0) F6 [m (l 1) iw [],l 3])] []]
noncomputable def SJ:au:=[S (x 3) (L [t [l 1,l 2]]),W (p (l 3) (o .NotEq (L []))) [S (r [x 1,x 2]) (m (l 3) iV []),S (v (a (l 0) uR) (l 1)) (l 2),S (r [x 4,x 5]) (t [u (a (a (a (l 0) ma) f9) cO) (l 1),u (a (a (a (l 0) ma) d6) cO) (l 2)]),H (x 6) (m (a (l 0) ma) zK [l 1,l 2]) [I (p (u (l 6) (j 0)) (o .Eq (s [107,101,101,112]))) [E (m (l 3) br [t [u (l 4) (u (l 6) (j 1)),u (l 5) (u (l 6) (j 2))]])] [I (p (u (l 6) (j 0)) (o .Eq (s [105,110]))) [E (m (m (a (l 0) uM) RA [t [l 1,u (l 6) (j 1)],L []]) br [u (a (a (a (l 0) ma) d6) d5) (u (l 5) (u (l 6) (j 2)))])] []]]]]
noncomputable def SK:au:=[S (x 2) (m (a (l 0) uR) iU [l 1]),R (i (p (l 2) (o .Is N)) N (u (a (a (a (l 0) ma) d6) d5) (l 2)))]
noncomputable def SN:au:=[R (m (a (l 0) uM) iU [t [l 1,l 2],L []])]
noncomputable def SQ:au:=[I (O [p (u (l 1) (g dD)) (o .Eq (u (l 2) (g dD))),p (u (l 2) (g dD)) (o .Eq (u (l 0) (g dD)))]) [R (t [u (l 1) (g dD),L []])] [],I (p (u (l 1) (g dD)) (o .Eq (u (l 0) (g dD)))) [R (t [u (l 2) (g dD),L []])] [],R (t [u (l 1) (g dD),L [t [s [118,97,108,117,101],l 3,u (l 1) (g dD),u (l 2) (g dD)]]])]
noncomputable def Im:au:=[R (k (g iT) [q (t [c 1,t [c 2,c 3]]) (K (r [y 1,y 2,y 3]) (u (l 0) (g oL)) [] .nil) 4])]
noncomputable def Io:au:=[S (r [x 4,x 5,x 6]) (t [k (g uI) [l 0],k (g uI) [l 1],k (g uI) [l 2]]),S (r [x 7,x 8]) (t [L [],L []]),S (x 10) (k (g iT) [q (t [c 1,V]) (K (y 1) (b .Add (b .Add (k (g iu) [l 4]) (k (g iu) [l 5])) (k (g iu) [l 6])) [] .nil) 2]),H (x 9) (k (g rj) [l 10]) [S (r [x 11,x 12,x 13]) (t [m (l 4) iU [l 9],m (l 5) iU [l 9],m (l 6) iU [l 9]]),S (x 14) (i (p (l 12) (o .Eq (l 11))) (l 13) (l 12)),I (A [p (l 12) (o .NotEq (l 11)),p (l 13) (o .NotEq (l 11)),p (l 12) (o .NotEq (l 13))]) [E (m (l 8) br [t [s [97,116,116,114,105,98,117,116,101],l 3,l 9,l 12,l 13]])] [],I (p (l 14) (o .IsNot N)) [E (m (l 7) br [t [l 9,u (l 14) (j 0),u (l 14) (j 1)]])] []],R (t [k (g iX) [l 7],l 8])]
noncomputable def SU:au:=[I (O [p (l 1) (o .Eq (L [])),k (g FO) [l 0,l 1]]) [R (t [l 0,L []])] [],I (p (l 0) (o .Eq (L []))) [R (t [l 1,L []])] [],R (t [b .Add (l 0) (l 1),L [t [s [105,110,115,101,114,116,101,100],l 2,l 3]]])]
noncomputable def SV:au:=[S (z (l 0) oP) (l 1),S (z (l 0) f9) (l 2),S (z (l 0) d6) (l 3),S (z (l 0) cY) (L [])]
noncomputable def SW:au:=[H (x 1) (k (g iW) [k (g b7) [a (a (l 0) oP) d5]]) [E (m (a (l 0) cY) br [m (l 0) Gv [l 1]])],R (u (a (l 0) cY) (e (j 1)))]
noncomputable def SX:au:=[S (r [x 2,x 3]) (t [m (a (l 0) f9) q8 [l 1],m (a (l 0) d6) q8 [l 1]]),I (A [p (l 2) (o .Is N),p (l 3) (o .Is N)]) [R (t [L [],L []])] [],I (p (l 2) (o .Is N)) [R (m (l 0) Gk [l 1,a (l 0) d6,l 3,j 1])] [],I (p (l 3) (o .Is N)) [R (m (l 0) Gk [l 1,a (l 0) f9,l 2,j 2])] [],R (m (l 0) FS [l 1,l 2,l 3])]
noncomputable def SY:au:=[S (r [x 4,x 5]) (t [u (a (a (l 0) oP) d5) (l 1),m (a (l 0) oP) Gy [l 1]]),S (r [x 6,x 7]) (k (g Gr) [l 4,l 2,l 3,l 5]),S (r [x 8,x 9]) (k (g Gp) [l 4,l 2,l 3,l 5]),S (r [x 10,x 11]) (m (l 0) cO [l 1,l 5]),R (t [L [t [u (l 4) (g l6),u (l 4) (g oO),l 6,l 8,k (g iX) [k (g Gj) [l 10]]]],b .Add (b .Add (l 7) (l 9)) (l 11)])]
noncomputable def SZ:au:=[S (r [x 3,x 4]) (t [L [],L []]),S (x 5) (u (a (a (l 0) oP) cO) (l 1)),H (x 6) (k (g iW) [b .Add (k (g b7) [l 5]) (j 1)]) [S (r [x 7,x 8]) (k (g Gq) [m (a (l 0) f9) zH [l 1,l 6],m (a (l 0) d6) zH [l 1,l 6],l 2,l 6]),S (r [x 3,x 4]) (t [b .Add (l 3) (l 7),b .Add (l 4) (l 8)]),I (p (l 6) (o .Lt (k (g b7) [l 5]))) [S (r [x 7,x 8]) (u (a (l 0) cY) (u (l 5) (l 6))),S (r [x 3,x 4]) (t [b .Add (l 3) (l 7),b .Add (l 4) (l 8)])] []],R (t [l 3,l 4])]
noncomputable def S1:au:=[S (x 3) (k (g oN) [l 0]),S (x 4) (L [k (g zh) [l 3,k (g oN) [l 1]],k (g zh) [l 3,k (g oN) [l 2]]]),I (A [p (m (u (l 4) (j 0)) q8 [m (l 3) iw []]) (o .IsNot N),p (m (u (l 4) (j 1)) q8 [m (l 3) iw []]) (o .IsNot N)]) [S (r [x 5,x 6]) (m (k (g Fx) [l 3,u (l 4) (j 0),u (l 4) (j 1)]) uU []),R (t [u (l 5) (j 0),l 6])] [],I (O [k (g uP) [l 2,l 0],k (g uP) [l 1,l 2]]) [R (t [l 1,L []])] [],R (i (k (g uP) [l 1,l 0]) (t [l 2,L []]) (t [l 1,L [t [s [114,101,112,108,97,99,101,100],t []]]]))]
noncomputable def S2:au:=[R (i (p (s [58]) (o .In (l 0))) (u (m (l 0) uW [s [58]]) (j 0)) (s []))]
noncomputable def Ip:au:=[S (x 4) (q (t [m (l 0) di [c 1],m (l 0) fo [c 1]]) (K (y 1) (m (l 0) jZ [l 1]) [] .nil) 3),S (x 5) (k (g iT) [l 2]),H (r [x 6,x 7]) (l 4) [S (v (l 5) (l 6)) (l 7)],S (x 8) (L [t [k (g zG) [m (l 0) di [l 1]],m (l 0) j1 [l 1]]]),H (x 3) (m (l 0) jY [l 1]) [S (r [x 6,x 7]) (t [k (g zG) [m (l 0) di [l 3]],m (l 0) j1 [l 3]]),I (p (l 6) (o .NotEq (s []))) [E (m (l 8) br [t [l 6,l 7]])] [I (p (l 7) (o .NotEq (s []))) [Z] []]],S (x 9) (q (u (c 1) (j 0)) (K (y 1) (l 4) [] .nil) 2),H (r [x 6,x 7]) (l 8) [I (A [p (m (l 5) iU [l 6,s []]) (o .NotEq (l 7)),p (t [l 6,l 7]) (o .NotEq (t [s [120,109,108],s []]))]) [I (O [A [p (l 6) (o .NotEq (s [])),p (l 7) (o .Eq (s []))],p (l 6) (o .In (l 9))]) [Z] [],S (v (l 5) (l 6)) (l 7),E (m (l 4) br [t [l 6,l 7]])] [],E (m (l 9) br [l 6])],R (l 4)]
noncomputable def Iq:au:=[S (x 4) (b .Add (s [60]) (m (l 0) di [l 1])),H (r [x 5,x 6]) (l 2) [S (x 4) (b .Add (b .Add (b .Add (b .Add (l 4) (i (p (l 5) (o .Eq (s []))) (s [32,120,109,108,110,115]) (b .Add (s [32,120,109,108,110,115,58]) (l 5)))) (s [61,34])) (k (g zq) [l 6])) (s [34]))],H (x 7) (m (l 0) jY [l 1]) [S (x 4) (b .Add (b .Add (b .Add (b .Add (b .Add (l 4) (s [32])) (m (l 0) di [l 7])) (s [61,34])) (k (g zq) [m (l 0) fo [l 7]])) (s [34]))],R (b .Add (l 4) (i (l 3) (s [47,62]) (s [62])))]
noncomputable def Ir:au:=[S (x 3) (i (l 2) (L [g Fr]) (L [])),I (p (m (l 0) iq [l 1]) (o .Eq (s [114,111,111,116]))) [S (x 4) (q (t [c 1,d (s [120,109,108]) (g zj)]) (K (y 1) (w (m (l 0) cO [l 1]) N N (e (j 1))) [] .nil) 3)] [S (x 4) (L [t [l 1,d (s [120,109,108]) (g zj)]])],W (p (l 4) (o .NotEq (L []))) [S (r [x 5,x 6]) (m (l 4) iV []),I (p (l 6) (o .Is N)) [E (m (l 3) br [b .Add (b .Add (s [60,47]) (m (l 0) di [l 5])) (s [62])])] [I (p (m (l 0) iq [l 5]) (o .NotEq (s [101,108,101,109,101,110,116]))) [E (m (l 3) br [k (g GA) [l 0,l 5]])] [S (x 7) (k (g FZ) [l 0,l 5,l 6]),S (x 8) (m (l 0) cO [l 5]),E (m (l 3) br [k (g GQ) [l 0,l 5,l 7,p (l 8) (o .Eq (L []))]]),I (p (l 8) (o .NotEq (L []))) [S (x 9) (k (g Ga) [l 6,l 7]),E (m (l 4) br [t [l 5,N]]),S (x 4) (b .Add (l 4) (q (t [c 1,l 9]) (K (y 1) (w (l 8) N N (e (j 1))) [] .nil) 3))] []]]],R (m (s []) l8 [l 3])]
noncomputable def Iu:au:=[S (x 2) (i (p (l 1) (o .Lt (k (g b7) [l 0]))) (u (l 0) (l 1)) (j 0)),S (x 3) (k (g Gm) [l 2,b .Sub (e (j 1)) (l 2)]),S (x 4) (b .Mod (b .Mult (b .Add (b .Add (b .Add (b .Mod (l 3) (j 2147483629)) (b .Mult (b .Mult (j 7919) (l 1)) (l 1))) (b .Mult (j 31) (l 1))) (j 17)) (j 48271)) (j 2147483647)),R (L [b .Mult (l 3) (k (g ra) [p (l 3) (o .GtE (b .Pow (j 10) (j 18)))]),l 4])]
noncomputable def Iv:au:=[I (p (u (l 0) (j 0)) (o .Gt (j 0))) [S (x 2) (b .Mod (u (l 0) (j 0)) (l 1)),S (v (l 0) (j 0)) (b .FloorDiv (u (l 0) (j 0)) (l 1)),R (l 2)] [],S (v (l 0) (j 1)) (b .Mod (b .Add (b .Mult (u (l 0) (j 1)) (j 39373)) (j 7)) (j 2147483647)),R (b .Mod (b .FloorDiv (b .Mod (b .Mult (u (l 0) (j 1)) (u (l 0) (j 1))) (j 2147483629)) (j 32)) (l 1))]
noncomputable def Iw:au:=[S (x 2) (m (s []) l8 [q (b .Add (b .Add (b .Add (b .Add (s [32,120,109,108,110,115,58]) (c 1)) (s [61,34])) (c 2)) (s [34])) (K (r [y 1,y 2]) (l 0) [] .nil) 3]),R (b .Add (b .Add (b .Add (s [60,101]) (l 2)) (m (s []) l8 [q (b .Add (b .Add (b .Add (b .Add (b .Add (s [32]) (c 1)) (c 2)) (s [61,34])) (c 3)) (s [34])) (K (r [y 1,y 2,y 3]) (l 1) [] .nil) 4])) (s [47,62]))]
noncomputable def Ix:au:=[S (x 2) (k (g iT) [b .Add (q (t [b .Add (c 1) (s [58]),c 2]) (K (r [y 1,y 2]) (l 0) [] .nil) 3) (L [t [s [],s []]])]),S (x 3) (q (t [t [g FF,c 1],b .Add (s [120,109,108,110,115,58]) (c 1),c 2]) (K (r [y 1,y 2]) (l 0) [] .nil) 4),S (x 3) (b .Add (l 3) (q (t [t [u (l 2) (c 1),c 2],b .Add (c 1) (c 2),c 3]) (K (r [y 1,y 2,y 3]) (l 1) [] .nil) 5)),R (t [s [114,111,111,116],s [],s [],t [],t [t [s [101,108,101,109,101,110,116],t [s [101],s [],s [101]],s [],k (g iX) [k (g rj) [l 3]],t []]]])]
noncomputable def Iy:au:=[S (r [x 1,x 2,x 3,x 4]) (k (g GG) [l 0]),R (k (g zt) [l 1,l 2])]
noncomputable def Iz:au:=[S (x 2) (k (g zm) [k (g FH) [l 0,l 1]]),I (O [p (l 2) (o .NotEq (k (g uE) [l 0,l 1])),p (k (g rb) [l 2,l 2,l 2]) (o .NotEq (t [l 2,L []])),p (k (g zo) [l 2,l 2]) (o .NotEq (L []))]) [R F] [],S (x 3) (k (g zi) []),S (x 4) (m (l 3) zB []),E (k (g F8) [l 3,l 4,l 2]),R (A [p (k (g zt) [l 3,l 4]) (o .Eq (l 2)),p (k (g zm) [k (g GY) [l 3,l 4]]) (o .Eq (l 2))])]
noncomputable def IA:au:=[S (r [x 3,x 4,x 5]) (u (l 1) (l 2)),S (x 6) (b .Add (b .Add (w (l 1) N (l 2) N) (L [t [l 3,l 4,b .Add (l 5) (s [57])]])) (w (l 1) (b .Add (l 2) (j 1)) N N)),S (r [x 7,x 8]) (t [k (g uE) [l 0,l 1],k (g uE) [l 0,l 6]]),S (x 9) (t [u (k (g iT) [b .Add (q (t [b .Add (c 1) (s [58]),c 2]) (K (r [y 1,y 2]) (l 0) [] .nil) 3) (L [t [s [],s []]])]) (l 3),l 4]),I (p (k (g zo) [l 7,l 8]) (o .NotEq (L [t [s [97,116,116,114,105,98,117,116,101],t [j 0],l 9,b .Add (l 3) (l 4),b .Add (l 5) (s [57])]]))) [R F] [],R (p (L [k (g rb) [l 7,l 8,l 7],k (g rb) [l 7,l 7,l 8],k (g rb) [l 7,l 8,l 8]]) (o .Eq (b .Mult (L [t [l 8,L []]]) (j 3))))]
noncomputable def IB:au:=[S (x 1) (L [t [s [],s [112],s [49]],t [s [112,58],s [112],s [50]],t [s [112,58],s [97],s [51]]]),I (O [n (k (g zn) [L [t [s [112],s [120,109,108,110,115]]],l 1]),n (k (g zl) [L [t [s [112],s [120,109,108,110,115]]],l 1,j 1])]) [R F] [],S (x 2) (k (g FG) [l 0,j 0]),S (r [x 3,x 4]) (t [L [s [120,109,108,110,115],s [117],s [119]],L []]),H (x 5) (L [s [97],s [112],s [120,109,108,110,115,120]]) [I (p (k (g nc) [l 2,j 3]) (o .Gt (j 0))) [E (m (l 4) br [t [l 5,m (l 3) iV [k (g nc) [l 2,k (g b7) [l 3]]]]])] []],S (x 7) (q (t [c 1,c 2]) (K (y 1) (b .Add (L [s []]) (q (b .Add (c 1) (s [58])) (K (r [y 1,y 2]) (l 4) [] .nil) 3)) [] (K (y 2) (L [s [97],s [112],s [113]]) [] .nil)) 3),S (x 8) (L []),H (x 9) (k (g iW) [b .Add (j 1) (k (g nc) [l 2,j 4])]) [I (p (l 7) (o .NotEq (L []))) [S (r [x 5,x 6]) (m (l 7) iV [k (g nc) [l 2,k (g b7) [l 7]]]),E (m (l 8) br [t [l 5,l 6,k (g zL) [k (g nc) [l 2,j 8]]]])] []],R (A [k (g zn) [l 4,l 8],k (g zl) [l 4,l 8,k (g nc) [l 2,k (g b7) [l 8]]]])]
end
noncomputable def wc:NTree Ent:=(.node (.node (.node (.node (.node (.node (.node (.node .leaf GZ (.fn 4 [0,1] [] RC) .leaf) uX (.fn 2 [0] [] RE) .leaf) G0 (.fn 6 [0] [] RF) (.node .leaf G1 (.fn 1 [0] [] RG) .leaf)) zO (.fn 6 [0] [] RH) (.node (.node (.node .leaf uY (.fn 6 [0] [] RI) .leaf) G2 (.fn 3 [0] [] RJ) .leaf) G3 (.fn 3 [0] [] RK) (.node .leaf zP (.fn 2 [0] [] RL) .leaf))) uZ (.fn 6 [0] [] RM) (.node (.node (.node (.node .leaf oY (.fn 1 [0] [] Hv) .leaf) u3 (.fn 2 [0] [] RN) .leaf) u4 (.fn 6 [0,1] [] Hw) (.node .leaf zQ (.fn 2 [0] [] RO) .leaf)) u5 (.fn 13 [0,1] [] Ah) (.node (.node .leaf u6 (.fn 3 [0] [] Hx) .leaf) u7 (.fn 4 [0,1] [] Hy) (.node .leaf oZ (.fn 6 [0,1,2] [(.bool false)] Ai) .leaf)))) u8 (.fn 7 [0,1] [] Hz) (.node (.node (.node (.node (.node .leaf dN (.cls zQ) .leaf) u9 (.fn 5 [0,1,2] [] HD) .leaf) vb (.fn 2 [0] [] HE) (.node .leaf G4 (.fn 6 [0] [] RP) .leaf)) vc (.fn 8 [0,1] [] HF) (.node (.node (.node .leaf o0 (.fn 10 [0,1,2] [] Aj) .leaf) vd (.fn 7 [0,1] [] HG) .leaf) ve (.fn 16 [0,1,2] [] HH) (.node .leaf vf (.fn 12 [0,1,2] [] HI) .leaf))) zR (.fn 2 [0,1] [] RQ) (.node (.node (.node (.node .leaf G5 (.fn 13 [0,1] [] RR) .leaf) G6 (.fn 6 [0] [] RT) .leaf) G7 (.fn 2 [0] [] RU) (.node .leaf G8 (.fn 4 [0,1] [] RV) .leaf)) v5 (.cls zR) (.node (.node .leaf G9 (.fn 4 [0,1] [] RY) .leaf) vh (.fn 10 [0,1] [] HJ) (.node .leaf fO (.fn 6 [0,1] [] HK) .leaf))))) zS (.fn 9 [0,1,2] [] RZ) (.node (.node (.node (.node (.node (.node .leaf Ha (.fn 17 [0,1,2] [] R0) .leaf) Hb (.fn 11 [0,1,2] [] R1) .leaf) Hc (.fn 3 [0,1,2] [] R2) (.node .leaf v6 (.cls zS) .leaf)) mc (.fn 9 [0,1,2] [] HL) (.node (.node (.node .leaf He (.fn 8 [0,1,2,3] [] R4) .leaf) Hf (.fn 7 [0] [] R5) .leaf) o1 (.fn 5 [0,1] [] R6) (.node .leaf vi (.fn 12 [0,1,2] [(.bool true)] HM) .leaf))) vj (.fn 11 [0,1,2,3,4] [] HN) (.node (.node (.node (.node .leaf vk (.fn 5 [0,1,2,3] [] HO) .leaf) Hg (.fn 3 [0] [] R7) .leaf) zT (.fn 1 [0] [] R8) (.node .leaf zU (.fn 2 [0,1] [] R9) .leaf)) rq (.cls zU) (.node (.node .leaf zV (.fn 3 [0,1,2] [] Sa) .leaf) Hh (.fn 2 [0] [] Sb) (.node .leaf Hi (.fn 4 [0,1] [] Sc) .leaf)))) v7 (.cls zV) (.node (.node (.node (.node (.node .leaf zW (.fn 4 [0,1,2] [] Sd) .leaf) Hj (.fn 1 [0] [] Se) .leaf) v8 (.cls zW) (.node .leaf Hk (.fn 3 [0,1] [] Sf) .leaf)) zX (.fn 11 [0,1,2] [.none] Sg) (.node (.node .leaf Hl (.fn 3 [0] [] Sh) .leaf) zY (.fn 3 [0,1,2] [(.int 0)] Si) (.node .leaf vm (.fn 2 [0] [] HQ) .leaf))) zZ (.fn 2 [0,1] [(.int 1)] HR) (.node (.node (.node (.node .leaf vn (.fn 2 [0,1] [] HS) .leaf) o3 (.fn 3 [0,1] [] HT) .leaf) vo (.fn 2 [0,1] [] HU) (.node .leaf vp (.fn 5 [0,1] [] HV) .leaf)) rk (.fn 4 [0] [] HW) (.node (.node .leaf vq (.fn 5 [0] [] HY) .leaf) vv (.fn 3 [0] [] HZ) (.node .leaf rr (.cls zY) .leaf)))))) z0 (.fn 7 [0,1] [] Sj) (.node (.node (.node (.node (.node (.node (.node .leaf vw (.fn 12 [0,1] [] Ak) .leaf) vx (.fn 1 [0] [] H7) .leaf) vy (.fn 9 [0,1] [] H8) (.node .leaf z4 (.fn 3 [0,1,2] [(.int 20),(.int 100000)] Sk) .leaf)) nj (.cls z4) (.node (.node (.node .leaf z5 (.fn 3 [0,1,2] [.none] Sl) .leaf) rt (.cls z5) .leaf) z6 (.fn 1 [0] [] Sm) (.node .leaf vz (.fn 2 [0,1] [] H9) .leaf))) o9 (.cls z6) (.node (.node (.node (.node .leaf z7 (.fn 5 [0,1,2,3,4] [] Sn) .leaf) pb (.cls z7) .leaf) z8 (.fn 9 [0,1,2,3] [.none] So) (.node .leaf vA (.fn 1 [0] [] Ia) .leaf)) vB (.fn 6 [0] [] Ib) (.node (.node .leaf vC (.fn 2 [0,1] [] Ic) .leaf) vD (.fn 2 [0] [] Ie) (.node .leaf vE (.fn 6 [0,1] [] Ig) .leaf)))) lh (.fn 6 [0,1,2] [] Al) (.node (.node (.node (.node (.node .leaf mh (.cls z8) .leaf) Aa (.fn 7 [0,1,2,3,4,5,6] [] Sq) .leaf) eR (.cls Aa) (.node .leaf Ab (.fn 1 [0] [] Ss) .leaf)) vF (.fn 9 [0,1,2,3,4,5,6] [] Am) (.node (.node .leaf vG (.fn 4 [0,1] [] An) .leaf) vH (.fn 1 [0] [] Ih) (.node .leaf vI (.fn 10 [0,1,2,3,4,5,6] [] Ao) .leaf))) rl (.fn 5 [0,1,2,3,4] [] Ii) (.node (.node (.node (.node .leaf vJ (.fn 4 [0,1] [] Ap) .leaf) vK (.fn 9 [0,1,2,3,4,5] [] Aq) .leaf) vL (.fn 6 [0,1,2,3] [] Ij) (.node .leaf o4 (.fn 2 [0,1] [] St) .leaf)) j2 (.fn 2 [0,1] [] Su) (.node (.node .leaf o5 (.fn 2 [0,1] [] Sv) .leaf) rm (.fn 2 [0,1] [] Sw) (.node .leaf o6 (.fn 2 [0,1] [] Sx) .leaf))))) Ac (.fn 2 [0,1] [] Sy) (.node (.node (.node (.node (.node (.node .leaf o7 (.fn 3 [0,1] [] Sz) .leaf) rn (.fn 3 [0,1] [] SD) .leaf) vM (.fn 3 [0,1] [] SF) (.node .leaf j3 (.cls Ab) .leaf)) Ad (.fn 4 [0,1,2] [] SG) (.node (.node (.node .leaf nk (.cls Ad) .leaf) vN (.fn 14 [0,1,2,3] [.none,.none] Ik) .leaf) Ae (.fn 7 [0] [] Il) (.node .leaf Af (.fn 5 [0,1,2] [] SH) .leaf))) Hm (.fn 7 [0,1,2] [] SJ) (.node (.node (.node (.node .leaf Hn (.fn 3 [0,1] [] SK) .leaf) Ho (.fn 3 [0,1,2] [] SN) .leaf) v9 (.cls Af) (.node .leaf Hp (.fn 5 [0,1,2,3] [] SQ) .leaf)) vO (.fn 3 [0] [] Im) (.node (.node .leaf md (.fn 20 [0,1,2,3] [] Io) .leaf) Hq (.fn 5 [0,1,2,3] [] SU) (.node .leaf Ag (.fn 4 [0,1,2,3] [] SV) .leaf)))) Hr (.fn 4 [0] [] SW) (.node (.node (.node (.node (.node .leaf Hs (.fn 4 [0,1] [] SX) .leaf) Ht (.fn 18 [0,1,2,3] [] SY) .leaf) Hu (.fn 12 [0,1,2] [] SZ) (.node .leaf wb (.cls Ag) .leaf)) vP (.fn 11 [0,1,2] [] S1) (.node (.node .leaf vQ (.fn 1 [0] [] S2) .leaf) vR (.fn 13 [0,1,2] [] Ip) (.node .leaf vS (.fn 9 [0,1,2,3] [] Iq) .leaf))) vT (.fn 16 [0,1,2] [(.bool false)] Ir) (.node (.node (.node (.node .leaf vU (.fn 8 [0,1] [] Iu) .leaf) ro (.fn 3 [0,1] [] Iv) .leaf) vV (.fn 3 [0,1] [] Iw) (.node .leaf vW (.fn 7 [0,1] [] Ix) .leaf)) vX (.fn 7 [0] [] Iy) (.node (.node .leaf vY (.fn 14 [0,1] [] Iz) .leaf) vZ (.fn 14 [0,1,2] [] IA) (.node .leaf o8 (.fn 17 [0] [] IB) .leaf)))))))
noncomputable def tab(m:aa):Option Ent:=wc.find m
noncomputable def ru:NTree AV:=(.node (.node (.node (.node (.node (.node (.node .leaf ng (.con (.builtin "ord")) .leaf) b7 (.con (.builtin "len")) (.node .leaf Gs (.con (.builtin "min")) .leaf)) zL (.con (.type "str")) (.node (.node .leaf ra (.con (.type "int")) .leaf) Gm (.con (.builtin "max")) (.node .leaf l6 (.int 0) .leaf))) zh (.con (.ref v9)) (.node (.node (.node .leaf zi (.con (.ref j3)) .leaf) zo (.con (.ref o1)) (.node .leaf iT (.con (.type "dict")) .leaf)) iu (.con (.type "list")) (.node (.node .leaf dD (.int 2) .leaf) oO (.int 1) .leaf))) FT (.con (.ref vi)) (.node (.node (.node (.node .leaf iW (.con (.type "range")) .leaf) Fx (.con (.ref wb)) (.node .leaf iX (.con (.type "tuple")) .leaf)) Fv (.con (.ref pb)) (.node (.node .leaf GY (.con (.ref vT)) .leaf) FD (.con (.ref v8)) (.node .leaf FU (.con (.ref 2422)) .leaf))) F8 (.con (.ref vf)) (.node (.node (.node .leaf rb (.con (.ref vP)) .leaf) Gj (.con (.ref G4)) (.node .leaf rj (.con (.builtin "sorted")) .leaf)) zb (.con (.ref rq)) (.node (.node .leaf FB (.con (.ref mh)) .leaf) Fq (.con (.ref rr)) .leaf)))) Fw (.con (.ref nj)) (.node (.node (.node (.node (.node .leaf Fu (.con (.ref o9)) .leaf) uI (.con (.ref vO)) (.node .leaf ze (.tup [(.str [114,111,111,116]),(.str [101,108,101,109,101,110,116])]) .leaf)) Gf (.con (.ref G3)) (.node (.node .leaf uP (.con (.ref 389)) .leaf) zt (.con (.ref vd)) (.node .leaf GM (.con (.ref vc)) .leaf))) Fz (.con (.ref v7)) (.node (.node (.node .leaf Ge (.con (.ref G0)) .leaf) Fy (.con (.ref eR)) (.node .leaf y9 (.str [120,109,108,110,115]) .leaf)) oM (.int 4) (.node (.node .leaf Fs (.con (.ref nk)) .leaf) FZ (.con (.ref vR)) .leaf))) Gl (.con (.ref vk)) (.node (.node (.node (.node .leaf Gi (.con (.ref uX)) .leaf) FL (.con (.ref ve)) (.node .leaf FO (.con (.ref 394)) .leaf)) F1 (.con (.ref Hf)) (.node (.node .leaf zd (.con (.ref v6)) .leaf) oN (.con (.ref v5)) .leaf)) Gu (.con (.ref o0)) (.node (.node (.node .leaf Fp (.con (.ref dN)) .leaf) Gw (.con (.ref fO)) (.node .leaf uC (.str [104,116,116,112,58,47,47,119,119,119,46,119,51,46,111,114,103,47,50,48,48,48,47,120,109,108,110,115,47]) .leaf)) zm (.con (.ref vX)) (.node (.node .leaf nc (.con (.ref ro)) .leaf) zx (.con (.ref zP)) .leaf))))) zG (.con (.ref vQ)) (.node (.node (.node (.node (.node (.node .leaf GQ (.con (.ref vS)) .leaf) Gn (.con (.ref G9)) (.node .leaf FG (.con (.ref vU)) .leaf)) GL (.con (.ref vb)) (.node (.node .leaf zM (.con (.ref 354)) .leaf) uE (.con (.ref vW)) (.node .leaf GI (.con (.ref vN)) .leaf))) Gx (.con (.ref mc)) (.node (.node (.node .leaf FM (.con (.ref vj)) .leaf) FH (.con (.ref vV)) (.node .leaf oL (.int 3) .leaf)) FF (.str [104,116,116,112,58,47,47,119,119,119,46,119,51,46,111,114,103,47,50,48,48,48,47,120,109,108,110,115,47]) (.node (.node .leaf GA (.con (.ref 2643)) .leaf) GO (.con (.ref uZ)) .leaf))) Gg (.con (.ref G2)) (.node (.node (.node (.node .leaf F9 (.con (.ref Hk)) .leaf) Gz (.con (.ref oY)) (.node .leaf GJ (.con (.ref vw)) .leaf)) Fr (.str [60,63,120,109,108,32,118,101,114,115,105,111,110,61,34,49,46,48,34,32,101,110,99,111,100,105,110,103,61,34,85,84,70,45,56,34,63,62,10]) (.node (.node .leaf zc (.tup [(.tup [(.int 183),(.int 183)]),(.tup [(.int 768),(.int 879)]),(.tup [(.int 8255),(.int 8256)])]) .leaf) y8 (.tup [(.tup [(.int 32),(.int 55295)]),(.tup [(.int 57344),(.int 65533)]),(.tup [(.int 65536),(.int 1114111)])]) .leaf)) Ft (.con (.ref rt)) (.node (.node (.node .leaf Ga (.con (.ref 2662)) .leaf) Gb (.con (.ref He)) (.node .leaf GH (.con (.ref vx)) .leaf)) FX (.con (.ref z0)) (.node (.node .leaf za (.int 128) .leaf) FE (.str [9,13,10]) .leaf)))) zg (.tup [(.tup [(.int 192),(.int 214)]),(.tup [(.int 216),(.int 246)]),(.tup [(.int 248),(.int 767)]),(.tup [(.int 880),(.int 893)]),(.tup [(.int 895),(.int 8191)]),(.tup [(.int 8204),(.int 8205)]),(.tup [(.int 8304),(.int 8591)]),(.tup [(.int 11264),(.int 12271)]),(.tup [(.int 12289),(.int 55295)]),(.tup [(.int 63744),(.int 64975)]),(.tup [(.int 65008),(.int 65533)]),(.tup [(.int 65536),(.int 983039)])]) (.node (.node (.node (.node (.node .leaf GW (.con (.ref Hg)) .leaf) GF (.con (.ref 1648)) (.node .leaf Gr (.con (.ref Hp)) .leaf)) F2 (.con (.ref u9)) (.node (.node .leaf FY (.con (.ref 361)) .leaf) zw (.con (.ref uY)) (.node .leaf FQ (.con (.ref Hl)) .leaf))) uN (.con (.ref GZ)) (.node (.node (.node .leaf zf (.str [32,9,10,13]) .leaf) zq (.con (.ref zT)) (.node .leaf GS (.con (.ref zX)) .leaf)) FW (.con (.ref u4)) (.node (.node .leaf zj (.str [104,116,116,112,58,47,47,119,119,119,46,119,51,46,111,114,103,47,88,77,76,47,49,57,57,56,47,110,97,109,101,115,112,97,99,101]) .leaf) GX (.con (.ref 2429)) .leaf))) GG (.con (.ref Ae)) (.node (.node (.node (.node .leaf uO (.con (.ref zO)) .leaf) GD (.con (.ref vy)) (.node .leaf GN (.con (.ref 1208)) .leaf)) Gh (.con (.ref G1)) (.node (.node .leaf F0 (.con (.ref u3)) .leaf) Gc (.con (.ref 368)) .leaf)) GE (.con (.ref 1608)) (.node (.node (.node .leaf uD (.str [104,116,116,112,58,47,47,119,119,119,46,119,51,46,111,114,103,47,88,77,76,47,49,57,57,56,47,110,97,109,101,115,112,97,99,101]) .leaf) zn (.con (.ref vY)) (.node .leaf Gp (.con (.ref md)) .leaf)) zN (.con (.ref vh)) (.node (.node .leaf Gq (.con (.ref Hq)) .leaf) zl (.con (.ref vZ)) .leaf))))))
noncomputable def pd:NTree (List Nat):=(.node (.node (.node (.node (.node .leaf dN [dM,eQ] .leaf) v5 [cO,d5,oW,rg,j0] .leaf) v6 [oQ,f9,d6] (.node .leaf rq [l9,zC,zI] .leaf)) v7 [bx,di,cZ] (.node (.node .leaf v8 [FP,l7,cY] .leaf) rr [bx,cZ] (.node .leaf nj [zz,zA] .leaf))) rt [zu,l9,zD,zE] (.node (.node (.node (.node .leaf o9 [cY] .leaf) pb [oS,uQ,di,uS] .leaf) mh [q7,k9,q9,l7,rc,rf] (.node .leaf eR [jY,cO,iq,lg,di,jZ,oV,j1,fo] .leaf)) j3 [cY] (.node (.node .leaf nk [uK,nh] .leaf) v9 [uM,ma,uR] (.node .leaf wb [oP,f9,d6,cY] .leaf))))
noncomputable def nn:NTree (List (Nat × aa)):=(.node (.node (.node (.node (.node .leaf dN [(fk,zQ),(F3,u5),(zy,u6),(GU,u7),(uT,oZ),(FV,u8)] .leaf) v5 [(fk,zR),(F7,G5),(Go,G6),(iw,G7),(Gy,G8)] .leaf) v6 [(fk,zS),(nh,Ha),(zK,Hb),(uJ,Hc)] (.node .leaf rq [(fk,zU)] .leaf)) v7 [(fk,zV),(oT,Hh),(uU,Hi)] (.node (.node .leaf v8 [(fk,zW),(iw,Hj)] .leaf) rr [(fk,zY),(oT,vm),(zF,zZ),(oU,vn),(ri,o3),(zr,vo),(GT,vp),(oX,rk),(di,vq),(GC,vv)] (.node .leaf nj [(fk,z4)] .leaf))) rt [(fk,z5)] (.node (.node (.node (.node .leaf o9 [(fk,z6),(rh,vz)] .leaf) pb [(fk,z7)] .leaf) mh [(fk,z8),(F4,vA),(GB,vB),(uH,vC),(GK,vD),(GP,vE),(fo,lh)] (.node .leaf eR [(fk,Aa)] .leaf)) j3 [(fk,Ab),(re,vF),(gz,vG),(zB,vH),(FI,vI),(uF,rl),(zp,vJ),(uV,vK),(uG,vL),(iq,o4),(di,j2),(j1,o5),(lg,rm),(fo,o6),(oV,Ac),(cO,o7),(jY,rn),(jZ,vM)] (.node (.node .leaf nk [(fk,Ad),(GR,v4)] .leaf) v9 [(fk,Af),(F6,Hm),(q8,Hn),(zH,Ho)] (.node .leaf wb [(fk,Ag),(uU,Hr),(Gv,Hs),(FS,Ht),(cO,Hu)] .leaf))))
noncomputable def ph(f:Nat):List Nat->Bool
 | []=>false
 | g::r=>cond (cf f g) true (ph f r)
theorem S3{f g:Nat}{r:List Nat}:ph f (g::r)=cond (cf f g) true (ph f r):=rfl
noncomputable def pi(f:Nat):List (Nat × aa)->Option aa
 | []=>none
 | (g,a)::r=>cond (cf f g) (some a) (pi f r)
theorem S4{f g:Nat}{a:aa}{r:List (Nat × aa)}:pi f ((g,a)::r)=cond (cf f g) (some a) (pi f r):=rfl
noncomputable def S0:aN where
 GV g:=ru.find g
 PF c f:=match pd.find c with | some l=>ph f l | none=>false
 MT c f:=match nn.find c with | some l=>pi f l | none=>none
end Internal
namespace Internal
open PySem PySem.Calls PyProof.Rows PySem.W
mutual
noncomputable def ren(f:Nat->Nat):AV->AV
 | .ref l=> .ref (f l)
 | .bm m l=> .bm m (f l)
 | .tup xs=> .tup (dx f xs)
 | v=>v
noncomputable def dx(f:Nat->Nat):List AV->List AV
 | []=>[]
 | x::xs=>ren f x::dx f xs
end
noncomputable def gc(f:Nat->Nat):AO->AO
 | .lst xs=> .lst (dx f xs)
 | .dct kvs=> .dct (kvs.map λp=>(p.1,ren f p.2))
 | .ins c fs=> .ins c (fs.map λp=>(p.1,ren f p.2))
theorem pj(f:Nat->Nat):∀xs:List AV,dx f xs=xs.map (ren f)
 | []=>rfl
 | x::xs=>congrArg (ren f x::·) (pj f xs)
mutual
noncomputable def low(n:Nat):AV->Bool
 | .ref l=>gm l n
 | .bm _ l=>gm l n
 | .tup xs=>lows n xs
 | _=>true
noncomputable def lows(n:Nat):List AV->Bool
 | []=>true
 | x::xs=>low n x && lows n xs
end
noncomputable def Ar(n:Nat):AO->Bool
 | .lst xs=>lows n xs
 | .dct kvs=>kvs.all λp=>low n p.2
 | .ins _ fs=>fs.all λp=>low n p.2
section
variable{prog:dk}{w:bk}{h h':aE}{μ μ':List (List aa)}{f:Nat->Nat}
section
variable(hk:∀l x,μ[l]? =some x->μ'[f l]? =some x)
include hk
theorem VR.ren{a:AV}{v:ab}(H:VR h μ a v):VR h μ' (Internal.ren f a) v:=
 VR.rec (motive_1:=λa v J=>VR h μ' (Internal.ren f a) v) (motive_2:=λa v J=>aB h μ' (dx f a) v) .none .bool .int .str (λb ho J r=> .tup (by rewrite[pj,ay];exact b) ho r) (λe=> .ref (hk _ _ e)) .con
  (λe ho hc hd=> .bm (hk _ _ e) ho hc hd) (λhb ho=> .rng hb ho) .nil (λJ J x r=> .cons x r) H
theorem aB.ren{a:List AV}{v:List ab}(H:aB h μ a v):aB h μ' (dx f a) v:=
 H.ind (C:=λa v=>aB h μ' (dx f a) v) .nil λx J r=> .cons (x.ren hk) r
end
section
variable{n:Nat}(hk:∀l x,l<n->μ'[f l]? =some x->μ[l]? =some x)
include hk
theorem aB.unren0{xs:List AV}(ih:∀x∈xs,∀v,low n x=true->VR h μ' (Internal.ren f x) v->VR h μ x v):∀{v},lows n xs=true->aB h μ' (dx f xs) v->aB h μ xs v:=by
 induction xs with
 | nil=>intro v J H;obtain rfl:=jl H;exact .nil
 | cons x xs i=>
  intro v hl H;have hl:=gP.mp hl;obtain ⟨a,r,rfl,h1,h2⟩:=on H;exact .cons (ih x (.head _) a hl.1 h1) (i (λy hy=>ih y (.tail _ hy)) hl.2 h2)
theorem VR.unren(a:AV):∀v,low n a=true->VR h μ' (Internal.ren f a) v->VR h μ a v:=
 AV.rec (motive_1:=λa=>∀v,low n a=true->VR h μ' (Internal.ren f a) v->VR h μ a v) (motive_2:=λas=>∀x∈as,∀v,low n x=true->VR h μ' (Internal.ren f x) v->VR h μ x v)
  (λv J H=>jk H▸.none) (λb v J H=>qq H▸.bool b) (λi v J H=>by obtain ⟨t,rfl⟩:=cX H;exact .int i t) (λx v J H=>by obtain ⟨t,rfl,b⟩:=eE H;exact .str x t b)
  (λxs i v hl H=>by
   obtain ⟨a,vs,k,rfl,ho,hb,r⟩:=s0 H;exact .tup (by rw[pj,ay] at hb;exact hb) ho (aB.unren0 hk i hl r))
  (λl v hl H=>by obtain ⟨a,r,rfl,q⟩:=kH H;exact .ref (hk _ _ (aq hl) q)) (λw v J H=>lQ H▸.con w)
  (λm l v hl H=>by obtain ⟨x,r,a,o,rfl,ho,hc,hd,q⟩:=C3 H;exact .bm (hk _ _ (aq hl) q) ho hc hd)
  (λm v J H=>by obtain ⟨a,t,u,w,rfl,hb,ho⟩:=C4 H;exact .rng hb ho) (λx hx=>nomatch hx) (λx xs i j y hy=>by
   cases hy with
   | head=>exact i
   | tail J hy=>exact j y hy) a
theorem aB.unren{a:List AV}{v:List ab}:lows n a=true->aB h μ' (dx f a) v->aB h μ a v:=aB.unren0 hk λx J=>VR.unren hk x
end
def Plain{K:Type}(em:K->AV):Prop:=∀(k:K)(f:Nat->Nat)(n:Nat),Internal.ren f (em k)=em k/\low n (em k)=true
theorem wd:Plain AV.int:=λk f n=>⟨rfl,rfl⟩
theorem we:Plain cN:=λk f n=>⟨rfl,rfl⟩
theorem Au{K:Type}{em:K->AV}(hp:Plain em)(ks:List K)(f:Nat->Nat)(n:Nat):ren f (.tup (ks.map em))= .tup (ks.map em)/\low n (.tup (ks.map em))=true:=by
 have h:dx f (ks.map em)=ks.map em/\lows n (ks.map em)=true:=by
  induction ks with
  | nil=>exact ⟨rfl,rfl⟩
  | cons k ks ih=>exact ⟨(congr (congrArg List.cons (hp k f n).1) ih.1:ren f (em k)::dx f (ks.map em)=em k::ks.map em),(bV _ _).mpr ⟨(hp k f n).2,ih.2⟩⟩
 exact ⟨congrArg AV.tup h.1,h.2⟩
theorem Av(g:Nat):∀fs:List (Nat × AV),lk g (fs.map λp=>(p.1,ren f p.2))=(lk g fs).map (ren f)
 | []=>rfl
 | (k,v)::r=>by
  (erw[bi];erw[lR];erw[lR])
  split
  ·rfl
  ·exact Av g r
theorem IH{n g:Nat}{v:AV}:∀{fs:List (Nat × AV)},(fs.all λp=>low n p.2)=true->lk g fs=some v->low n v=true
 | [],J1,e=>by exact aU e
 | (k,u)::r,h,e=>by
  rw[lF,bV] at h;rw[lR] at e
  split at e
  ·obtain rfl:=aO e;exact h.1
  ·exact IH h.2 e
section
variable{K:Type}[DecidableEq K]{knd:KeyKind prog w K}{em:K->AV}{a:aa}{kvs:List (AV × AV)}
noncomputable abbrev pk(f:Nat->Nat)(kvs:List (AV × AV)):List (AV × AV):=kvs.map λp=>(p.1,Internal.ren f p.2)
theorem wf:(pk f kvs).map (·.1)=kvs.map (·.1):=by erw[cw];rfl
theorem wg:(pk f kvs).map (·.2)=dx f (kvs.map (·.2)):=by (rewrite[pj];(erw[cw];erw[cw]));rfl
theorem II{n:Nat}(hl:(kvs.all λp=>low n p.2)=true):lows n (kvs.map (·.2))=true:=by
 induction kvs with
 | nil=>rfl
 | cons p r ih=>
  rw[lF,bV] at hl;exact (bV _ _).mpr ⟨hl.1,ih hl.2⟩
theorem DV.ren(hp:Plain em)(hk:∀l x,μ[l]? =some x->μ'[f l]? =some x)(H:DV knd em h μ a kvs):DV knd em h μ' a (pk f kvs):=by
 (refine aI λkK=>?_;obtain ⟨xs,hm,e,hv,hx⟩:=H;refine kK ?_;clear kK);exact ⟨xs,hm,wf.trans e,wg▸aB.ren hk hv,λx hx' v hv'=>(hp x.1 f 0).1▸VR.ren hk (hx x hx' v hv')⟩
theorem DV.unren{n:Nat}(hp:Plain em)(hk:∀l x,l<n->μ'[f l]? =some x->μ[l]? =some x)(hl:(kvs.all λp=>low n p.2)=true)(H:DV knd em h μ' a (pk f kvs)):DV knd em h μ a kvs:=by
 obtain ⟨xs,hm,e,hv,hx⟩:=H;exact ⟨xs,hm,wf.symm.trans e,aB.unren hk (II hl) (wg▸hv),λx hx' v hv'=>VR.unren hk _ _ (hp x.1 f n).2 ((hp x.1 f n).1.symm▸hx x hx' v hv')⟩
theorem DH.ren(hp:Plain em)(hk:∀l x,μ[l]? =some x->μ'[f l]? =some x)(H:DH knd em h μ a kvs):DH knd em h μ' a (pk f kvs):=by
 (refine aI λkK=>?_;obtain ⟨xs,hm,e,hv,hx⟩:=H;refine kK ?_;clear kK);exact ⟨xs,hm,wf.trans e,wg▸aB.ren hk hv,λx hx'=>(Au hp x.1 f 0).1▸VR.ren hk (hx x hx')⟩
theorem DH.unren{n:Nat}(hp:Plain em)(hk:∀l x,l<n->μ'[f l]? =some x->μ[l]? =some x)(hl:(kvs.all λp=>low n p.2)=true)(H:DH knd em h μ' a (pk f kvs)):DH knd em h μ a kvs:=by
 obtain ⟨xs,hm,e,hv,hx⟩:=H;exact ⟨xs,hm,wf.symm.trans e,aB.unren hk (II hl) (wg▸hv),λx hx'=>VR.unren hk _ _ (Au hp x.1 f n).2 ((Au hp x.1 f n).1.symm▸hx x hx')⟩
end
theorem OR.ren(hk:∀l x,μ[l]? =some x->μ'[f l]? =some x){o:AO}{ft:List aa}(H:OR prog w h μ o ft):OR prog w h μ' (gc f o) ft:=by
 induction o using AO.casesOn with
 | lst xs=>
  obtain ⟨hl,a,vs,n,rfl,ho,hv⟩:=H;exact ⟨by rewrite[pj,ay];exact hl,a,vs,n,rfl,ho,aB.ren hk hv⟩
 | dct kvs=>
  obtain ⟨hl,a,kd,rfl,H⟩:=H;refine ⟨by rewrite[ay];exact hl,a,kd,rfl,?_⟩
  induction kd using KD.casesOn
  ·exact DV.ren wd hk H
  ·exact DV.ren we hk H
  ·exact DH.ren wd hk H
  ·exact DH.ren we hk H
 | ins c fs=>
  (refine aI λkK=>?_;obtain ⟨hl,a,d,ob,od,es,n,rfl,ho,hc,hd,hp,hod,hox,hde,hsk,hsz,hv⟩:=H;refine kK ?_;clear kK);refine ⟨by rewrite[ay];exact hl,a,d,ob,od,es,n,rfl,ho,hc,hd,hp,hod,hox,hde,hsk,by rewrite[ay];exact hsz,λx hg=>?_⟩
  have q:=hv x hg;unfold gn at q ⊢;rewrite[Av]
  induction e:lk (nm x) fs using bf with
  | none=>rw[e] at q;exact q
  | some v=>
   rw[e] at q;obtain ⟨val,q1,q2⟩:=q;exact ⟨val,q1,VR.ren hk q2⟩
theorem OR.unren{n:Nat}(hk:∀l x,l<n->μ'[f l]? =some x->μ[l]? =some x){o:AO}{ft:List aa}(hlow:Ar n o=true)(H:OR prog w h μ' (gc f o) ft):OR prog w h μ o ft:=by
 induction o using AO.casesOn with
 | lst xs=>
  obtain ⟨hl,a,vs,n,rfl,ho,hv⟩:=H;exact ⟨by rw[pj,ay] at hl;exact hl,a,vs,n,rfl,ho,aB.unren hk hlow hv⟩
 | dct kvs=>
  obtain ⟨hl,a,kd,rfl,H⟩:=H;refine ⟨by rw[ay] at hl;exact hl,a,kd,rfl,?_⟩
  induction kd using KD.casesOn
  ·exact DV.unren wd hk hlow H
  ·exact DV.unren we hk hlow H
  ·exact DH.unren wd hk hlow H
  ·exact DH.unren we hk hlow H
 | ins c fs=>
  obtain ⟨hl,a,d,ob,od,es,n,rfl,ho,hc,hd,hp,hod,hox,hde,hsk,hsz,hv⟩:=H;refine ⟨by rw[ay] at hl;exact hl,a,d,ob,od,es,n,rfl,ho,hc,hd,hp,hod,hox,hde,hsk,by rw[ay] at hsz;exact hsz,λx hg=>?_⟩
  have q:=hv x hg;unfold gn at q ⊢;rw[Av] at q
  induction e:lk (nm x) fs using bf with
  | none=>rw[e] at q;exact q
  | some v=>
   rw[e] at q;obtain ⟨val,q1,q2⟩:=q;exact ⟨val,q1,VR.unren hk _ _ (IH hlow e) q2⟩
end
section
variable{P:PW}{d:Nat}{fv:AV}{args:List AV}{σ:AH}{H:HP}{r:List Nat}
theorem wh{μ ν:List (List aa)}{l:Nat}{x:List aa}(e:μ[l]? =some x):(μ++ν)[l]? =some x:=by
 erw[nT ((bP.mp e).1)];exact e
noncomputable def fP(r:List Nat)(n:Nat)(i:Nat):Nat:=match r[i]? with
 | some l=>l
 | none=>n+(i - r.length)
noncomputable def pq(l:Nat):List Nat->Nat->Option Nat
 | [],J1=>none
 | x::r,i=>if x=l then some i else pq l r (i+1)
theorem IJ{l x i:Nat}{r:List Nat}:pq l (x::r) i=if x=l then some i else pq l r (i+1):=rfl
set_option tactic.hygienic true in
theorem IK{l:Nat}:∀{r:List Nat}{k i:Nat},pq l r k=some i->k<=i/\r[i - k]? =some l
 | [],J1,J2,e=>by exact aU e
 | x::r,k,i,e=>by
  rewrite[IJ] at e
  split at e
  ·rename_i q;obtain rfl:=aO e;exact ⟨bI _,by simp[q]⟩
  ·obtain ⟨a,b⟩:=IK e;refine ⟨by lia,?_⟩
   erw[CZ a]
   simpa using b
set_option tactic.hygienic true in
theorem IM{l:Nat}:∀{r:List Nat}{k:Nat},pq l r k=none->l∉r
 | [],J1,J2=>by simp
 | x::r,k,e=>by
  rewrite[IJ] at e
  split at e
  ·exact nomatch e
  ·rename_i q;have:=IM e;simp only[aV,not_or];exact ⟨λc=>q c.symm,this⟩
noncomputable def back(r:List Nat)(σ σ':AH):AH where
 next:=σ.next+(σ'.next - r.length)
 m l:=match pq l r 0 with
  | some i=>(σ'.m i).map (gc (fP r σ.next))
  | none=>if l<σ.next then σ.m l else (σ'.m (r.length+(l - σ.next))).map (gc (fP r σ.next))
set_option tactic.hygienic true in
theorem Aw(hn:r.Nodup)(bl:r.length=H.length)(hlow:∀(i:Nat) o,H[i]? =some o->Ar r.length o=true)(hla:lows r.length args=true)(hlf:low r.length fv=true)
  (hH:∀(i:Nat) o l,H[i]? =some o->r[i]? =some l->σ.m l=some (gc (fP r σ.next) o)) {Q:AV->AH->Prop} (hT:T P d fv args (aH H) Q):
  T P d (ren (fP r σ.next) fv) (dx (fP r σ.next) args) σ λv bu=>∃v' σ',Q v' σ'/\v=ren (fP r σ.next) v'/\bu=back r σ σ':=by
 intro A s μ f vs E room B R hf hv;have hrl:∀(i:Nat)(l:Nat),r[i]? =some l->∃ft,μ[l]? =some ft:=λi l e=>by
  have hi:=(bP.mp e).1;obtain ⟨o,ho⟩:∃o,H[i]? =some o:=⟨H[i],dh (bl▸hi)⟩;obtain ⟨ft,e1,J⟩:=R.objs l _ (hH i o l ho e);exact ⟨ft,e1⟩
 have pQ:∀(i:Nat),(r.map λl=>(μ[l]?).getD [])[i]? =(r[i]?).bind λl=>μ[l]?:=λi=>by
  erw[bt]
  induction e:r[i]? using bf with
  | none=>rfl
  | some l=>obtain ⟨ft,e1⟩:=hrl i l e;simp[e1]
 generalize hc:(r.map λl=>(μ[l]?).getD [])=km at pQ;have hcl:km.length=r.length:=by (erw[aD hc];rw[ay])
 have hsub:∀b∈km.flatten,b∈μ.flatten:=λb hb=>by
  obtain ⟨ft,h1,h2⟩:=kr.mp hb;obtain ⟨i,hi⟩:=nV.mp h1;rw[pQ] at hi
  induction e:r[i]? using bf with
  | none=>rw[e] at hi;exact aU hi
  | some l=>rw[e] at hi;exact fL hi h2
 have hdown:∀l x,l<r.length->μ[fP r σ.next l]? =some x->km[l]? =some x:=λl x hl e=>by
  obtain e2:r[l]? =some r[l]:=dh hl;unfold fP at e;rw[e2] at e;(rewrite[pQ];erw[e2]);exact e
 obtain nd:km.flatten.Nodup:=by
  erw[aD hc];have:∀(q:List Nat),q.Nodup->(∀l∈q,∃ft,μ[l]? =some ft)->((q.map λl=>(μ[l]?).getD []).flatten).Nodup:=by
   intro q
   induction q with
   | nil=>intros;simp
   | cons l q ih=>
    intro hq hm;rw[ee] at hq;obtain ⟨ft,e⟩:=hm l (.head _)
    ((erw[bi];erw[lG]);rewrite[eL];erw[e])
    refine ⟨?_,ih hq.2 λl hl=>hm l (.tail _ hl),λa ha b hb c=>?_⟩
    ·have:=R.apart;obtain ⟨p1,p2,e3⟩:=List.append_of_mem (cj e);rw[e3,ku,lG,eL,eL] at this;exact this.2.1.1
    ·subst c;obtain ⟨ft2,h1,h2⟩:=kr.mp hb;obtain ⟨l2,h3,h4⟩:=aL.mp h1;obtain ⟨ft3,e3⟩:=hm l2 (.tail _ h3);rw[e3] at h4;subst h4;exact mS R.apart e e3 (λc=>hq.1 (c▸h3)) a ha h2
  exact this r hn λl hl=>by obtain ⟨i,hi⟩:=nV.mp hl;exact hrl i l hi
 obtain Rc:SR P.prog P.w P.h₀ (aH H) km s.heap:=by
  refine ⟨by (rewrite[QQ];(erw[hcl];erw[bl]);ac_rfl),λl o e=>?_,nd,λb hb=>R.above b (hsub b hb)⟩
  rw[EV] at e;have hl:=(bP.mp e).1;obtain e2:r[l]? =some r[l]:=dh (bl▸hl);obtain ⟨ft,e3,e4⟩:=R.objs _ _ (hH l o _ e e2);exact ⟨ft,by (rewrite[pQ];erw[e2]);exact e3,e4.unren hdown (hlow l o e)⟩
 obtain ⟨h1,h2⟩:=hT A s km f vs E room B Rc (VR.unren hdown _ _ hlf hf) (aB.unren hdown hla hv);refine ⟨h1,aQ h2 (λv' s' z_1=>?_) λJ J e=>e⟩;obtain ⟨v,σ',μ',q,p,hr⟩:=z_1;have pl:μ'.length=σ'.next:=p.rel.next.symm;obtain hge:r.length<=μ'.length:=by
  rcases Nat.lt_or_ge μ'.length r.length with c | c
  ·obtain hx:km[μ'.length]? =some km[μ'.length]:=dh (bX c (iH hcl.symm));have:=p.ext _ _ hx;rw[oa (bI _)] at this;exact aU this
  ·exact c
 have hup:∀l x,μ'[l]? =some x->(μ++μ'.drop r.length)[fP r σ.next l]? =some x:=λl x e=>by
  unfold fP
  induction e2:r[l]? using bf with
  | some l'=>
   obtain ⟨ft,e3⟩:=hrl l l' e2;have:km[l]? =some ft:=by (rewrite[pQ];erw[e2]);exact e3
   have:=p.ext _ _ this;rw[e] at this;obtain rfl:=aO this;exact wh e3
  | none=>
   rw[Cg] at e2;dsimp only;refine al R.next (al (oe (by (with_reducible apply iG))) (al sU ?_))
   refine al (C0 e2) ?_;exact e
 have hfresh:∀b∈(μ'.drop r.length).flatten,s.heap.get? b=none/\b∈μ'.flatten:=λb hb=>by
  obtain ⟨ft,g1,g2⟩:=kr.mp hb;obtain ⟨i,hi⟩:=nV.mp g1;rw[sU] at hi;obtain hm:=fL hi g2;refine ⟨?_,hm⟩;rcases p.fresh b hm with c | c
  ·exfalso;obtain ⟨ft2,g3,g4⟩:=kr.mp c;obtain ⟨j,hj⟩:=nV.mp g3;obtain hjl:=(bP.mp hj).1;exact mS p.rel.apart hi (p.ext _ _ hj) (by lia) b g2 g4
  ·exact c
 obtain live:∀b∈μ.flatten,∃o,s'.heap.get? b=some o/\¬frozen o:=λb hb=>by
  by_cases hbc:b∈km.flatten
  ·exact (p.rel.above b (qw p.ext hbc)).2
  ·obtain ⟨J,o,g1,g2⟩:=R.above b hb;exact ⟨o,p.keep b o g1 (.inl hbc),g2⟩
 refine ⟨ren (fP r σ.next) v,back r σ σ',μ++μ'.drop r.length,⟨v,σ',q,rfl,rfl⟩,⟨p.same,λb o e z=>p.keep b o e (z.imp (λc d=>c (hsub b d)) id),λl x e=>wh e,λb hb=>?_,⟨?_,λl o e=>?_,?_,λb hb=>?_⟩⟩,VR.ren hup hr⟩
 ·rw[ku,dH] at hb;exact hb.imp id λc=>(hfresh b c).1
 ·refine (?_:σ.next+(σ'.next - r.length)=_)
  ((erw[bR];erw[p9];erw[R.next];erw[pl]);ac_rfl)
 ·unfold back at e;dsimp only at e
  split at e
  ·rename_i i ei;obtain ⟨J,e2⟩:=IK ei;rw[Nat.sub_zero] at e2;obtain ⟨o',e3,rfl⟩:=bW.mp e;obtain ⟨ft,g1,g2⟩:=p.rel.objs i o' e3;have:=hup _ _ g1;unfold fP at this;rw[e2] at this;exact ⟨ft,this,g2.ren hup⟩
  ·rename_i ei
   split at e
   ·rename_i hl;obtain ⟨ft,g1,g2⟩:=R.objs l o e;refine ⟨ft,wh g1,?_⟩;refine g2.mono (λb o e z=>p.keep b o e (.inr z)) (λJ J e=>wh e) λb hb ob eb=>p.keep b ob eb (.inl λc=>?_);obtain ⟨ft2,g3,g4⟩:=kr.mp c;obtain ⟨j,hj⟩:=nV.mp g3;rw[pQ] at hj
    induction e5:r[j]? using bf with
    | none=>rw[e5] at hj;exact aU hj
    | some l2=>
     rw[e5] at hj;exact mS R.apart g1 hj (λc=>IM ei (c▸cj e5)) b hb g4
   ·rename_i hl;obtain ⟨o',e3,rfl⟩:=bW.mp e;(refine aI λkK=>?_;obtain ⟨ft,g1,g2⟩:=p.rel.objs _ o' e3;refine kK ?_;clear kK);have:=hup _ _ g1;unfold fP at this;rw[show r[r.length+(l - σ.next)]? =none from oa (iG _ _)] at this
    dsimp only at this;rw[C0 (fV hl)] at this;exact ⟨ft,this,g2.ren hup⟩
 ·(erw[ku];rewrite[eL]);refine ⟨R.apart,?_,λa ha b hb c=>?_⟩
  ·have:=p.rel.apart;rw[<-kE r.length μ',ku,eL] at this;exact this.2.1
  ·subst c;obtain ⟨J,o,g,J⟩:=R.above a ha;rw[(hfresh a hb).1] at g;exact nomatch g
 ·rw[ku,dH] at hb;rcases hb with hb | hb
  ·exact ⟨(R.above b hb).1,live b hb⟩
  ·exact p.rel.above b (hfresh b hb).2
mutual
theorem Ax:∀a:AV,ren id a=a
 | .tup xs=>congrArg AV.tup (Ay xs)
 | .ref l=>rfl
 | .bm m l=>rfl
 | .none=>rfl
 | .bool _=>rfl
 | .int _=>rfl
 | .str _=>rfl
 | .con _=>rfl
 | .rng _=>rfl
theorem Ay:∀xs:List AV,dx id xs=xs
 | []=>rfl
 | x::xs=>(congr (congrArg List.cons (Ax x)) (Ay xs):ren id x::dx id xs=x::xs)
end
theorem S5(o:AO):gc id o=o:=by
 obtain h:∀{α:Type}(l:List (α × AV)),l.map (λp=>(p.1,ren id p.2))=l:=λl=>by
  induction l with
  | nil=>rfl
  | cons p r ih=>((erw[bi];erw[ih]);rw[Ax])
 induction o using AO.casesOn with
 | lst xs=>exact congrArg AO.lst (Ay xs)
 | dct kvs=>exact congrArg AO.dct (h kvs)
 | ins c fs=>exact congrArg (AO.ins c) (h fs)
noncomputable def IP(k:Nat)(σ:AH):AH:=⟨k,λl=>if l<k then σ.m l else none⟩
set_option tactic.hygienic true in
theorem S6{k:Nat}(hk:σ.next<=k){Q:AV->AH->Prop}(h:T P d fv args σ λv σ'=>k<=σ'.next/\low k v=true/\(∀l o,l<k->σ'.m l=some o->Ar k o=true)/\Q v (IP k σ')):T P d fv args σ Q:=by
 intro A s μ f vs E room B R hf hv;obtain ⟨h1,h2⟩:=h A s μ f vs E room B R hf hv;refine ⟨h1,aQ h2 (λv' s' z_2=>?_) λJ J e=>e⟩;obtain ⟨v,σ',μ',⟨q1,q2,q3,q4⟩,p,hr⟩:=z_2;obtain pl:μ'.length=σ'.next:=p.rel.next.symm;have hd:∀l x,l<k->μ'[id l]? =some x->(μ'.take k)[l]? =some x:=λl x hl e=>by refine al (List.getElem?_take) (al (if_pos hl) ?_);exact e
 have hm:∀b∈(μ'.take k).flatten,b∈μ'.flatten:=λb hb=>by
  obtain ⟨ft,g1,g2⟩:=kr.mp hb;exact kr.mpr ⟨ft,L6 g1,g2⟩
 refine ⟨v,IP k σ',μ'.take k,q4,⟨p.same,p.keep,λl x e=>?_,λb hb=>p.fresh b (hm b hb),⟨?_,λl o e=>?_,?_,λb hb=>p.rel.above b (hm b hb)⟩⟩,VR.unren hd _ _ q2 (by rewrite[Ax];exact hr)⟩
 ·have:=(bP.mp e).1;exact hd l x (by have:=R.next;lia) (p.ext _ _ e)
 ·refine (?_:k=_);refine al lO ?_;lia
 ·have e':(if l<k then σ'.m l else none)=some o:=e
  split at e'
  ·rename_i hl;obtain ⟨ft,g1,g2⟩:=p.rel.objs l o e';exact ⟨ft,hd l ft hl g1,OR.unren hd (q3 l o hl e') (by rewrite[S5];exact g2)⟩
  ·exact nomatch e'
 ·have:=p.rel.apart;rw[<-kE k μ',ku,eL] at this;exact this.1
end
section
variable{prog:dk}{w:bk}{A:bh}{E:ab->aj->Prop}{s:aj}{d it:aa}{es:Array cC}{ep i:Nat}
theorem S7(hh:A.handled=none)(I d:aa)(bA:d≠I)(es:Array cC)(ep:Nat):
  Walks prog w A I [I,d] [I] es.size (λi v=>∃e,es[i]? =some e/\v=e.key) (λi h=>h.IsKeyIter I d i es.size ep/\RD h d es ep) where
 sub:=λb hb=>by simp at hb;simp[hb]
 frame:=λJ J J st hk=>⟨st.1.at λo e=>hk I (by simp) o e,st.2.at λo e=>hk d (by simp) o e⟩
 item:=λi s Q E hi st hQ=>by
  have hx:es[i]? =some es[i]:=Array.getElem?_eq_getElem hi;refine Ed st.1 st.2 hx λh' hit' hs'=>?_;exact hQ _ h' s.toks ⟨_,hx,rfl⟩ ⟨hit',st.2.at λo e=>hs'.extBut d o bA e⟩ λb o hb e=>hs'.extBut b o (λh=>hb (by simp[h])) e
 done:=λs Q E st hQ=>Ee hh st.1 st.2 (by simp) λh' he'=>hQ h' s.toks λb o hb e=>he' b o (λh=>hb (by simp[h])) e
 self:=λJ J J J st hQ=>wpAny_pyIter_keyiter st.1 hQ
theorem IQ(lo:(d==gk)=false):KdlSrc prog w "dict" d d es.size (λi v=>∃e,es[i]? =some e/\v=e.key) (λh=>RD h d es ep) where
 type:=λJ hm=>hm.typeIs
 there:=λJ hm=>⟨hm.lt,hm.lt⟩
 keep:=λJ J hm hk=>hm.at λo e=>hk d (.inl rfl) o e
 notList:=by decide
 notTuple:=by decide
 hint:=λJ J J J hm hq=>kdl_hint_dict hm.typeIs hq
 iter:=λJ J hh hm=>⟨_,_,(λJ J hq=>Ec lo hm hq),S7 hh _ d (ce hm.lt) es ep,⟨⟨_,fJ _ rfl,rfl,rfl⟩,hm.at λo e=>cp _ e⟩⟩
end
section
variable{P:PW}{σ:AH}
theorem IR{h:aE}{μ:List (List aa)}{a:aa}{kvs:List (AV × AV)}(H:DK P.prog P.w .ts h μ a kvs):∃es ep,RD h a es ep/\es.size=kvs.length/\aB h μ (kvs.map (·.1)) (es.toList.map (·.key)):=by
 obtain ⟨xs,⟨o,es,ep,ho,hx,hd,he,hi,hn⟩,e,hv,hk⟩:=H;refine ⟨es,ep,⟨o,ho,hx,hd⟩,?_,?_⟩
 ·((erw[aD Cm];erw[he]);rewrite[ay];(erw[aD (ay (f:=λx:List Str × aa × ab=>AV.tup (x.1.map cN)))];erw[aD e]);rw[ay])
 ·(erw[e];erw[he];erw[cw]);clear e hv he hi hn
  induction xs with
  | nil=>exact .nil
  | cons x r ih=>exact .cons (hk x (.head _)) (ih λy hy=>hk y (.tail _ hy))
theorem wi{l:Nat}{kvs:List (AV × AV)}(hsys:∃o,P.h₀.get? gk=some o)(e:σ.m l=some (.dct kvs))(hk:∀p∈kvs,kindOf p.1=some .ts):BT P (.type "list") [.ref l] σ (.ref σ.next) (σ.new (.lst (kvs.map (·.1)))):=λA s μ vs E hh hu B R hv=>by
 obtain ⟨v,rfl,h⟩:=eY hv;obtain ⟨a,kd,rfl,el,bl,hD,h0⟩:=jp R e h;obtain ⟨es,ep,hr,hz,hks⟩:=IR (hD.at hk);refine kdl_call (IQ (oD (h:=s.heap) hsys h0)) hh hr (by lia) λh' tk acc' c' hkp hD' hacc=>?_
 have hae:acc'.toList=es.toList.map (·.key):=by
  apply List.ext_getElem?;intro j;(erw[bt];erw[kz];erw[kz])
  induction q:acc'[j]? using bf with
  | some v=>
   obtain ⟨e',e1,e2⟩:=hacc.2 j v q;(erw[e1];erw[e2]);rfl
  | none=>
   have:es[j]? =none:=by
    have h1:=hacc.1;simp only[LY] at q ⊢;lia
   erw[this];rfl
 exact qQ B R tk hkp (dJ _) hD' (by erw[hae];exact hks) (by rewrite[ay];exact bl)
end
structure Gd(P:PW):Prop where
 O:cg P S0
 ht:∀m e,tab m=some e->jX P m e
structure af(σ:AH)(b:Nat)(o:AO):Prop where
 lt:b<σ.next
 eq:σ.m b=some o
theorem af.ne{σ:AH}{a b:Nat}{o p:AO}(x:af σ a o)(y:af σ b p)(h:o≠p):a≠b:=λe=>h (by have:=x.eq;rw[e,y.eq] at this;exact (aO this).symm)
structure Ch(F:List Nat)(σ σ':AH):Prop where
 le:σ.next<=σ'.next
 eq:∀b,b<σ.next->b∉F->σ'.m b=σ.m b
theorem ni{a b:Nat}(h:a≠b):a∉[b]:=λm=>h (aF.mp m)
theorem rx{x y z:Nat}(h:x≠y)(g:x≠z):x∉[y,z]:=λm=>(aV.mp m).elim h (ni g)
theorem wj{x y n:Nat}(h:x≠y)(g:x<n):x∉[y,n+1+1,n+1+2]:=λm=>(aV.mp m).elim h (rx (ce (mL 2 g)) (ce (mL 3 g)))
theorem IU{n m:Nat}(h:n≠0)(g:n<=m)(k:gm m 32768=true):0<(n:Int)/\(n:Int)<2 ^ 15:=⟨xl.mpr (Nat.pos_of_ne_zero h),xl.mpr (dA g (aq k))⟩
theorem af.ch{F:List Nat}{σ σ':AH}{b:Nat}{o:AO}(h:af σ b o)(c:Ch F σ σ')(n:b∉F):af σ' b o:=⟨bX h.lt c.le,by erw[c.eq b h.lt n];exact h.eq⟩
theorem Ch.refl{F:List Nat}(σ:AH):Ch F σ σ:=⟨bI _,λJ J J=>rfl⟩
theorem Ch.trans{F:List Nat}{σ az bu:AH}(a:Ch F σ az)(b:Ch F az bu):Ch F σ bu:=⟨ck a.le b.le,λx h n=>by ((erw[b.eq x (bX h a.le) n];erw[a.eq x h n]);ac_rfl)⟩
theorem Ch.weak{F G:List Nat}{σ σ':AH}(a:Ch F σ σ')(h:∀x∈F,x∈G):Ch G σ σ':=⟨a.le,λx hx n=>a.eq x hx λc=>n (h x c)⟩
theorem Ch.drop{F G:List Nat}{σ az bu:AH}(a:Ch F σ az)(b:Ch G az bu)(h:∀x∈G,x∈F\/σ.next<=x):Ch F σ bu:=
 ⟨ck a.le b.le,λx hx n=>by ((erw[b.eq x (bX hx a.le) λc=>(h x c).elim n λq=>by lia];erw[a.eq x hx n]);ac_rfl)⟩
theorem Ch.new{F:List Nat}(σ:AH)(o:AO):Ch F σ (σ.new o):=⟨jc _,λb h J=>by refine (?_:(if b=σ.next then _ else _)=_);(erw[if_neg (by (with_reducible exact ce ‹_›))];ac_rfl)⟩
theorem Ch.set{F:List Nat}(σ:AH){l:Nat}(o:AO)(h:l∈F):Ch F σ (σ.set l o):=⟨bI _,λb J n=>by refine (?_:(if b=l then _ else _)=_);rw[if_neg (by rintro rfl;exact n h)]⟩
theorem af.new(σ:AH)(o:AO):af (σ.new o) σ.next o:=⟨jh _,by refine (?_:(if σ.next=σ.next then _ else _)=_);(erw[if_pos rfl];ac_rfl)⟩
theorem af.set{σ:AH}{l:Nat}{o p:AO}(h:af σ l o):af (σ.set l p) l p:=⟨h.lt,by refine (?_:(if l=l then _ else _)=_);(erw[if_pos rfl];ac_rfl)⟩
section
variable{P:PW}{σ:AH}{Q:AV->AH->Prop}
theorem Gd.fn{m:aa}{n:Nat}{ix:List Nat}{dfl:List AV}{body:au}(G:Gd P)(e:tab m=some (.fn n ix dfl body)){d:Nat}{args:List AV}(h1:args.length<=ix.length)(h2:ix.length<=args.length+dfl.length)
  (hw:aM P S0 d body (kT (cV n .none) ix (args++dfl.drop (args.length+dfl.length - ix.length))) σ λfl J cU=>Ends Q fl cU):TC P (d+1) (.con (.ref m)) args σ Q:=EG G.O (G.ht m _ e) h1 h2 hw
theorem bN{S:aN}{l f:Nat}{c:aa}{fs:List (Nat × AV)}{v:AV}{k:AV->Prop}(h:σ.m l=some (.ins c fs))(e:lk f fs=some v)(p:S.PF c f=true)(pl:mQ v=true)(q:k v):qt S (.ref l) f σ k:=⟨l,c,fs,rfl,h,.inl ⟨v,e,p,pl,q⟩⟩
theorem fq{S:aN}{l f:Nat}{c m:aa}{fs:List (Nat × AV)}(h:σ.m l=some (.ins c fs))(e:lk f fs=none)(p:S.MT c f=some m):jn S (.ref l) f σ (.con (.ref m)):= .inl ⟨c,fs,m,h,e,p,rfl⟩
theorem eH{S:aN}{l f:Nat}{xs:List AV}{i:String}(h:σ.m l=some (.lst xs))(e:qY f=some i):jn S (.ref l) f σ (.con (.builtin i)):= .inr (.inl ⟨xs,i,h,by erw[aD E7];exact e,rfl⟩)
theorem pt{S:aN}{l f:Nat}{kvs:List (AV × AV)}{i:String}(h:σ.m l=some (.dct kvs))(e:uu f=some i):jn S (.ref l) f σ (.con (.builtin i)):= .inr (.inr ⟨kvs,i,h,by erw[aD E8];exact e,rfl⟩)
theorem j4{S:aN}{f:Nat}{x:List Nat}{i:String}(e:ut f=some i):jn S (.str x) f σ (.con (.builtin i)):=⟨i,by erw[aD E6];exact e,rfl⟩
theorem a9{S:aN}{d l f:Nat}{c m:aa}{fs:List (Nat × AV)}{vs:List AV}(h:σ.m l=some (.ins c fs))(e:lk f fs=none)(p:S.MT c f=some m)(q:T P d (.con (.ref m)) (.ref l::vs) σ Q):∃fv,jn S (.ref l) f σ fv/\T P d fv (.ref l::vs) σ Q:=⟨_,fq h e p,q⟩
theorem j5{S:aN}{d l f:Nat}{xs vs:List AV}{i:String}(h:σ.m l=some (.lst xs))(e:qY f=some i)(q:T P d (.con (.builtin i)) (.ref l::vs) σ Q):∃fv,jn S (.ref l) f σ fv/\T P d fv (.ref l::vs) σ Q:=⟨_,eH h e,q⟩
theorem S8{i j:Int}{k:Bool->Prop}(h:i<=j)(q:k true):dY .LtE (.int i) (.int j) σ k:= .inl ⟨i,j,rfl,rfl,by erw[decide_eq_true h];exact q⟩
theorem S9{i j:Int}{k:Bool->Prop}(h:i<j)(q:k true):dY .Lt (.int i) (.int j) σ k:=⟨i,j,rfl,rfl,by erw[decide_eq_true h];exact q⟩
theorem wk{α:Type}{xs:List α}{i:Nat}{x:α}(h:xs[i]? =some x):at_ xs (i:Int)=some x:=by unfold at_;refine al (if_pos (by lia)) ?_;exact h
theorem li{l:Nat}{i:Nat}{xs:List AV}{x:AV}{k:AV->Prop}(h:σ.m l=some (.lst xs))(e:xs[i]? =some x)(q:k x):Item P (.ref l) (.int i) σ k:= .inl ⟨xs,_,x,h,rfl,wk e,q⟩
theorem dp{i:Nat}{xs:List AV}{x:AV}{k:AV->Prop}(e:xs[i]? =some x)(q:k x):Item P (.tup xs) (.int i) σ k:=⟨_,x,rfl,wk e,q⟩
theorem Az{i j:Int}{k:Bool->Prop}(b:Bool)(h:b=decide (j<=i))(q:k b):dY .GtE (.int i) (.int j) σ k:=⟨i,j,rfl,rfl,by erw[aD h];exact q⟩
theorem ry{i j:Int}{k:Bool->Prop}(b:Bool)(h:b=decide (j<i))(q:k b):dY .Gt (.int i) (.int j) σ k:=⟨i,j,rfl,rfl,by erw[aD h];exact q⟩
theorem rz{i j:Int}{k:Bool->Prop}(b:Bool)(h:b=decide (i<j))(q:k b):dY .Lt (.int i) (.int j) σ k:=⟨i,j,rfl,rfl,by erw[aD h];exact q⟩
theorem lj{x:AV}{k:Bool->Prop}(q:k (s3 x)):dY .Is x .none σ k:=⟨_,⟨rfl,rfl⟩,q⟩
theorem rA{x:AV}{k:Bool->Prop}(q:k (!s3 x)):dY .IsNot x .none σ k:=⟨_,⟨rfl,rfl⟩,q⟩
theorem Ta{s:List Nat}{ts:List (List Nat)}{ys:List AV}{k:Bool->Prop}(e:ys=ts.map .str)(b:Bool)(h:ts.contains s=b)(q:k (!b)):dY .NotIn (.str s) (.tup ys) σ k:=⟨b,⟨s,ts,rfl,e,h.symm⟩,q⟩
theorem Tb{s:List Nat}{ts:List (List Nat)}{ys:List AV}{k:Bool->Prop}(e:ys=ts.map .str)(b:Bool)(h:ts.contains s=b)(q:k b):dY .In (.str s) (.tup ys) σ k:=⟨b,⟨s,ts,rfl,e,h.symm⟩,q⟩
def Tx(s:List Nat):Prop:=(∀c∈s,c<128)/\s.length<=100
theorem Tx.ok{s:List Nat}(h:Tx s):iJ (.str (st s))=true:=by
 simp only[iJ,PyData.strOk,st];(erw[aD Array.all_toList];rewrite[jI]);intro c hc;have:=h.1 c hc;simp;(with_reducible exact bX ‹_› (by decide))
noncomputable def ll(s:List Nat):Bool:=s.all (λc=>gm c 128) && jM s.length 100
theorem tx_of{s:List Nat}(h:ll s=true):Tx s:=by
 unfold ll at h;rw[bV,jI] at h;exact ⟨λc hc=>aq (h.1 c hc),aq h.2⟩
theorem dE{α β:Type}{f:α->β}{l:List α}{N:Nat}(h:l.length<N):(l.map f).length<N:=dA (iH (ay f)) h
theorem fw{α:Type}{l:List α}{k N:Nat}(h:l.length<N):(l.take k).length<N:=dA (List.length_take_le' k l) h
theorem pv{α:Type}{a b:List α}{N M:Nat}(h:a.length<N)(g:b.length<M):(a++b).length<N+M:=dA (iH bR) (Nat.add_lt_add h g)
theorem fy{n N:Nat}(h:n<N)(g:jM N 16777216=true):n<aY:=bX h (bH.symm▸aq g)
theorem wl{n N M:Nat}(h:n<N)(g:jM N M=true):n<M:=bX h (aq g)
theorem IV{a b:List Nat}(ha:a.length<=1000000)(hb:b.length<=1000000):a.length+b.length<=aY:=by erw[bH];lia
theorem IW{s t:List Nat}(a:Tx s)(b:Tx t):jP σ (.str s) (.str t) (decide (s=t)):=by
 refine .inr ⟨1,.str (st s),.str (st t),rfl,rfl,a.ok,b.ok,by simp[gR],by simp[gR],?_⟩
 simp only[sD];have:(st s=st t)↔s=t:=⟨λh=>by have:=congrArg (λx:Str=>x.cps.toList) h;simpa [st] using this,λh=>h▸rfl⟩
 by_cases h:s=t
 ·refine al (decide_eq_true h) (al h ?_);simp
 ·erw[decide_eq_false h];symm;rewrite[beq_eq_false_iff_ne];exact λe=>h (this.mp e)
theorem dd{s t:List Nat}{k:Bool->Prop}(a:Tx s)(b:Tx t)(c:Bool)(h:c=decide (s=t))(q:k c):dY .Eq (.str s) (.str t) σ k:=⟨_,IW a b,by erw[aD h];exact q⟩
theorem iy{s t:List Nat}{k:Bool->Prop}(a:Tx s)(b:Tx t)(c:Bool)(h:c=decide (s=t))(q:k (!c)):dY .NotEq (.str s) (.str t) σ k:=⟨_,IW a b,by erw[aD h];exact q⟩
noncomputable def AH.adds(σ:AH)(os:HP):AH:=⟨σ.next+os.length,λl=>if l<σ.next then σ.m l else os[l - σ.next]?⟩
theorem Ch.adds{F:List Nat}(σ:AH)(os:HP):Ch F σ (σ.adds os):=⟨iG _ _,λb h J=>by refine (?_:(if b<σ.next then _ else _)=_);(erw[if_pos h];ac_rfl)⟩
theorem af.adds(σ:AH){os:HP}{i:Nat}{o:AO}(e:os[i]? =some o):af (σ.adds os) (σ.next+i) o:=by
 refine ⟨?_,?_⟩
 ·refine (?_:σ.next+i<σ.next+os.length);have:=(bP.mp e).1;lia
 ·refine (?_:(if σ.next+i<σ.next then _ else os[σ.next+i - σ.next]?)=_)
  (erw[if_neg (by lia)];rewrite[Ce]);exact e
theorem Ch.own{σ ae:AH}{l:Nat}{o:AO}(c:Ch [] σ ae)(h:σ.next<=l):Ch [] σ (ae.set l o):=c.drop (Ch.set ae o (aF.mpr rfl)) λx hx=> .inr (by rw[aF] at hx;lia)
noncomputable def sh(n:Nat)(i:Nat):Nat:=n+i
theorem AA(n:Nat):fP [] n=sh n:=by funext i;simp[fP,sh]
theorem IX(σ:AH)(H:HP):back [] σ (aH H)=σ.adds (H.map (gc (sh σ.next))):=by
 obtain h1:∀l,(back [] σ (aH H)).m l=(σ.adds (H.map (gc (sh σ.next)))).m l:=by
  intro l;refine (?_:(if l<σ.next then σ.m l else ((aH H).m (0+(l - σ.next))).map (gc (fP [] σ.next)))=if l<σ.next then σ.m l else (H.map (gc (sh σ.next)))[l - σ.next]?)
  (rewrite[AA,sA];erw[bt];rw[EV])
 unfold AH.adds;refine (?_:AH.mk _ _=_);congr 1
 ·refine (?_:σ.next+(H.length - 0)=_);simp
 ·funext l;exact h1 l
theorem wm{P:PW}(G:Gd P){n:Nat}{f:AV}{args:List AV}{sc:List Internal.G}{R:AV->HP->Prop}(hf:low 0 f=true)(ha:lows 0 args=true)(h:dL P S0 tab 300 n f args [] sc λv H J=>R v H)(σ:AH):
  T P n (ren (sh σ.next) f) (dx (sh σ.next) args) σ λv σ'=>∃v' H,R v' H/\v=ren (sh σ.next) v'/\σ'=σ.adds (H.map (gc (sh σ.next))):=by
 obtain h1:T P n f args (aH []) λv σ'=>∃H,σ'=aH H/\R v H:=m9 300 G.O G.ht n _ _ _ _ _ _ h λv H sc h=>⟨H,rfl,h⟩;obtain h2:=Aw (σ:=σ) (r:=[]) je rfl (λi o e=>by simp at e) ha hf (λi o l e=>by simp at e) h1
 rw[AA] at h2;refine h2.mono λv bu ⟨v',σ',⟨H,e1,e2⟩,e3,e4⟩=>⟨v',H,e2,e3,?_⟩
 ((erw[e4];erw[e1]);rw[IX])
theorem Tc{P:PW}(G:Gd P){n:Nat}{f:AV}{args:List AV}{sc:List Internal.G}{w:AV}(hf:low 0 f=true)(ha:lows 0 args=true)(hw:low 0 w=true)(h:dL P S0 tab 300 n f args [] sc λv J J=>v=w)(hr:∀g,ren g f=f/\dx g args=args/\ren g w=w)(σ:AH){Q:AV->AH->Prop}
  (q:∀σ',Ch [] σ σ'->Q w σ'):T P n f args σ Q:=by
 obtain h1:=wm G (R:=λv J=>v=w) hf ha h σ;rw[(hr _).1,(hr _).2.1] at h1;refine h1.mono λv σ' z_5=>?_;obtain ⟨v',H,e1,e2,e3⟩:=z_5;subst e1 e3;refine al e2 (al ((hr _).2.2) ?_);exact q _ (Ch.adds σ _)
theorem bU{σ:AH}{l:Nat}{xs:List AV}(h:σ.m l=some (.lst xs)):bz (.ref l) σ=some xs:=by
 refine (?_:(match σ.m l with | some (.lst xs)=>some xs | _=>none)=_)
 (erw[h];ac_rfl)
theorem IY{v:AV}{xs:List AV}{B:AV->ac->AH->(Fl->ac->AH->Prop)->Prop}{Q:Fl->ac->AH->Prop}(I:Nat->ac->AH->Prop)
  (hit:∀k ρ σ,I k ρ σ->bz v σ=some xs)
  (step:∀k x ρ σ (K:Fl->ac->AH->Prop),xs[k]? =some x->I k ρ σ->(∀ρ' σ',I (k+1) ρ' σ'->K .next ρ' σ')->B x ρ σ K):
  ∀(n k:Nat){ρ:ac}{σ:AH},k+n=xs.length->I k ρ σ->(∀ρ σ,I xs.length ρ σ->Q .next ρ σ)->turns v xs.length B n ρ σ Q
 | 0,k,ρ,σ,hk,hI,q=>⟨xs,hit _ _ _ hI,rfl,q _ _ ((hk:k=xs.length)▸hI)⟩
 | n+1,k,ρ,σ,hk,hI,q=>
  have bD:k<xs.length:=hk▸CN (Nat.succ_pos n)
  ⟨xs,xs[k],hit _ _ _ hI,rfl,(congrArg (xs[·]?) (Nat.sub_eq_of_eq_add hk.symm)).trans (dh bD),step k _ ρ σ _ (dh bD) hI λρ' σ' h=>IY I hit step n (k+1) ((Nat.succ_add_eq_add_succ k n).trans hk) h q⟩
theorem wn{v:AV}{xs:List AV}{B:AV->ac->AH->(Fl->ac->AH->Prop)->Prop}{Q:Fl->ac->AH->Prop}(I:Nat->ac->AH->Prop){ρ:ac}{σ:AH}(h0:I 0 ρ σ)
  (hit:∀k ρ σ,I k ρ σ->bz v σ=some xs)
  (step:∀k x ρ σ (K:Fl->ac->AH->Prop),xs[k]? =some x->I k ρ σ->(∀ρ' σ',I (k+1) ρ' σ'->K .next ρ' σ')->B x ρ σ K) (q:∀ρ σ,I xs.length ρ σ->Q .next ρ σ):turns v xs.length B xs.length ρ σ Q:=
 IY I hit step xs.length 0 (sA _) h0 q
section
variable{P:PW}{S:aN}{d:Nat}{ρ κ:ac}{σ:AH}{K:Bool->AH->Prop}{x:AV}{op:dU}
end
section
variable{P:PW}{S:aN}{d:Nat}{ρ:ac}{σ σ':AH}{v:AV}{Q:Fl->ac->AH->Prop}{r:au}{e:AE}
theorem bj{i:Nat}(h:∀Q:AV->AH->Prop,Q v σ'->wE P S d e ρ [] σ Q)(q:aM P S d r (ρ.set i (some v)) σ' Q):aM P S d (.cons (.asg (.loc i) e) r) ρ σ Q:=h _ ⟨rfl,q⟩
theorem mj{i:Nat}{R:AV->AH->Prop}(h:∀Q:AV->AH->Prop,(∀v σ',R v σ'->Q v σ')->wE P S d e ρ [] σ Q)(q:∀v σ',R v σ'->aM P S d r (ρ.set i (some v)) σ' Q):aM P S d (.cons (.asg (.loc i) e) r) ρ σ Q:=h _ λv σ' hr=>⟨rfl,q v σ' hr⟩
theorem cI(h:∀Q:AV->AH->Prop,Q v σ'->wE P S d e ρ [] σ Q)(q:aM P S d r ρ σ' Q):aM P S d (.cons (.expr e) r) ρ σ Q:=h _ q
theorem IZ{R:AV->AH->Prop}(h:∀Q:AV->AH->Prop,(∀v σ',R v σ'->Q v σ')->wE P S d e ρ [] σ Q)(q:∀v σ',R v σ'->aM P S d r ρ σ' Q):aM P S d (.cons (.expr e) r) ρ σ Q:=h _ λv σ' hr=>q v σ' hr
theorem bJ(h:∀Q:AV->AH->Prop,Q v σ'->wE P S d e ρ [] σ Q)(q:Q (.ret v) ρ σ'):aM P S d (.cons (.ret e) r) ρ σ Q:=h _ q
theorem no{R:AV->AH->Prop}(h:∀Q:AV->AH->Prop,(∀v σ',R v σ'->Q v σ')->wE P S d e ρ [] σ Q)(q:∀v σ',R v σ'->Q (.ret v) ρ σ'):aM P S d (.cons (.ret e) r) ρ σ Q:=h _ λv σ' hr=>q v σ' hr
abbrev jt(P:PW)(S:aN)(d:Nat)(t:AE)(ρ:ac)(σ:AH)(b:Bool)(σ':AH):Prop:=∀K:Bool->AH->Prop,K b σ'->wT P S d t (wE P S d t ρ [] σ) ρ [] σ K
theorem bG{b:au}(h:jt P S d e ρ σ false σ')(q:aM P S d r ρ σ' Q):aM P S d (.cons (.cond e b .nil) r) ρ σ Q:=h _ q
theorem lm{b o:au}(h:jt P S d e ρ σ false σ')(q:aM P S d o ρ σ' λfl be ae=>match fl with | .next=>aM P S d r be ae Q | .ret v=>Q (.ret v) be ae):aM P S d (.cons (.cond e b o) r) ρ σ Q:=h _ q
theorem d7{b o:au}(h:jt P S d e ρ σ true σ')(q:aM P S d b ρ σ' λfl be ae=>match fl with | .next=>aM P S d r be ae Q | .ret v=>Q (.ret v) be ae):aM P S d (.cons (.cond e b o) r) ρ σ Q:=h _ q
theorem AB{i:Nat}{b:au}{xs:List AV}{f:AV}(I:Nat->ac->AH->Prop)(h:∀Q:AV->AH->Prop,Q f σ'->wE P S d e ρ [] σ Q)(h0:I 0 ρ σ')(hit:∀k ρ σ,I k ρ σ->bz f σ=some xs)
  (step:∀k x ρ σ (K:Fl->ac->AH->Prop),xs[k]? =some x->I k ρ σ->(∀ρ' σ',I (k+1) ρ' σ'->K .next ρ' σ')->aM P S d b (ρ.set i (some x)) σ K)
  (q:∀ρ σ,I xs.length ρ σ->aM P S d r ρ σ Q):aM P S d (.cons (.for_ (.loc i) e b) r) ρ σ Q:=
 h _ ⟨xs,hit _ _ _ h0,wn I h0 hit (λk x ρ σ K hk hI hK=>⟨rfl,step k x ρ σ K hk hI hK⟩) q⟩
end
mutual
noncomputable def sv(S:aN)(ρ κ:ac):AE->Option AV
 | .none=>some .none
 | .tru=>some (.bool true)
 | .fls=>some (.bool false)
 | .int i=>some (.int i)
 | .str s=>some (.str s)
 | .loc i=>(ρ[i]?).join
 | .cl i=>(κ[i]?).join
 | .glob g=>S.GV g
 | .tup es=>(rB S ρ κ es).map .tup
 | _=> .none
noncomputable def rB(S:aN)(ρ κ:ac):AL->Option (List AV)
 | .nil=>some []
 | .cons e es=>(sv S ρ κ e).bind λv=>(rB S ρ κ es).map (v::·)
end
section
variable{P:PW}{S:aN}{d:Nat}{ρ κ:ac}{σ:AH}{Q:AV->AH->Prop}
mutual
theorem eZ:∀{e:AE}{v:AV}{Q:AV->AH->Prop},sv S ρ κ e=some v->Q v σ->wE P S d e ρ κ σ Q
 | .none,v,Q,h,q=>by obtain rfl:=aO h;exact q
 | .tru,v,Q,h,q=>by obtain rfl:=aO h;exact q
 | .fls,v,Q,h,q=>by obtain rfl:=aO h;exact q
 | .int i,v,Q,h,q=>by obtain rfl:=aO h;exact q
 | .str s,v,Q,h,q=>by obtain rfl:=aO h;exact q
 | .loc i,v,Q,h,q=>kJ h q
 | .cl i,v,Q,h,q=>kJ h q
 | .glob g,v,Q,h,q=>kJ h q
 | .tup es,v,Q,h,q=>by
  obtain ⟨vs,h1,e⟩:=bW.mp h;exact wo h1 (by rw[<-e] at q;exact q)
theorem wo:∀{es:AL}{vs:List AV}{Q:List AV->AH->Prop},rB S ρ κ es=some vs->Q vs σ->wL P S d es ρ κ σ Q
 | .nil,vs,Q,h,q=>by obtain rfl:=aO h;exact q
 | .cons e es,vs,Q,h,q=>by
  obtain ⟨v,h1,h⟩:=p3.mp h;obtain ⟨ws,h2,e⟩:=bW.mp h;exact eZ h1 (wo h2 (by rw[<-e] at q;exact q))
end
theorem AD{f:AE}{es:AL}{fv:AV}{vs:List AV}(hf:sv S ρ κ f=some fv)(ha:rB S ρ κ es=some vs)(q:T P d fv vs σ Q):wE P S d (.call f es) ρ κ σ Q:=
 show wE P S d f ρ κ σ (λfv ae=>wL P S d es ρ κ ae λvs ao=>T P d fv vs ao Q) from eZ hf (wo ha q)
theorem AF{o:AE}{f l:Nat}{es:AL}{vs:List AV}{c m:aa}{fs:List (Nat × AV)}(ho:sv S ρ κ o=some (.ref l))(hm:σ.m l=some (.ins c fs))(e:lk f fs= .none)(p:S.MT c f=some m)(ha:rB S ρ κ es=some vs)(q:T P d (.con (.ref m)) (.ref l::vs) σ Q):wE P S d (.meth o f es) ρ κ σ Q:=
 show wE P S d o ρ κ σ (λo ae=>∃fv,jn S o f ae fv/\wL P S d es ρ κ ae λvs ao=>T P d fv (o::vs) ao Q) from eZ ho ⟨_,fq hm e p,wo ha q⟩
theorem I0{o:AE}{f l:Nat}{c:aa}{fs:List (Nat × AV)}{v:AV}(ho:sv S ρ κ o=some (.ref l))(hm:σ.m l=some (.ins c fs))(e:lk f fs=some v)(p:S.PF c f=true)(pl:mQ v=true)(q:Q v σ):wE P S d (.attr o f) ρ κ σ Q:=show wE P S d o ρ κ σ (λo ae=>qt S o f ae λv=>Q v ae) from eZ ho (bN hm e p pl q)
theorem Td{a i:AE}(h:wE P S d a ρ κ σ λx ae=>wE P S d i ρ κ ae λy ao=>Item P x y ao λv=>Q v ao):wE P S d (.sub a i) ρ κ σ Q:=h
theorem Te{a b:AE}{op:nQ}(h:wE P S d a ρ κ σ λx ae=>wE P S d b ρ κ ae λy ao=>kI op x y ao Q):wE P S d (.bin op a b) ρ κ σ Q:=h
theorem Tf{f:AE}{es:AL}{fv:AV}(hf:sv S ρ κ f=some fv)(h:wL P S d es ρ κ σ λvs ao=>T P d fv vs ao Q):wE P S d (.call f es) ρ κ σ Q:=
 show wE P S d f ρ κ σ (λfv ae=>wL P S d es ρ κ ae λvs ao=>T P d fv vs ao Q) from eZ hf h
theorem Tg{o:AE}{f:Nat}{es:AL}(h:wE P S d o ρ κ σ λo ae=>∃fv,jn S o f ae fv/\wL P S d es ρ κ ae λvs ao=>T P d fv (o::vs) ao Q):wE P S d (.meth o f es) ρ κ σ Q:=h
theorem Th{es:AL}(h:wL P S d es ρ κ σ λvs ae=>Q (.tup vs) ae):wE P S d (.tup es) ρ κ σ Q:=h
theorem wq{Q:List AV->AH->Prop}(h:Q [] σ):wL P S d .nil ρ κ σ Q:=h
theorem I1{es:AL}(h:wL P S d es ρ κ σ λvs ae=>Q (.ref ae.next) (ae.new (.lst vs))):wE P S d (.list es) ρ κ σ Q:=h
theorem AI{e:AE}{es:AL}{Q:List AV->AH->Prop}(h:wE P S d e ρ κ σ λv ae=>wL P S d es ρ κ ae λvs ao=>Q (v::vs) ao):wL P S d (.cons e es) ρ κ σ Q:=h
end
theorem AJ{v:AV}{xs:List AV}{B:AV->ac->AH->(ac->AH->Prop)->Prop}{Q:ac->AH->Prop}(I:Nat->ac->AH->Prop)
  (hit:∀k κ σ,I k κ σ->bz v σ=some xs)
  (step:∀k x κ σ (K:ac->AH->Prop),xs[k]? =some x->I k κ σ->(∀κ' σ',I (k+1) κ' σ'->K κ' σ')->B x κ σ K):
  ∀(n k:Nat){κ:ac}{σ:AH},k+n=xs.length->I k κ σ->(∀κ σ,I xs.length κ σ->Q κ σ)->gY v xs.length B n κ σ Q
 | 0,k,κ,σ,hk,hI,q=>⟨xs,hit _ _ _ hI,rfl,q _ _ ((hk:k=xs.length)▸hI)⟩
 | n+1,k,κ,σ,hk,hI,q=>
  have bD:k<xs.length:=hk▸CN (Nat.succ_pos n)
  ⟨xs,xs[k],hit _ _ _ hI,rfl,(congrArg (xs[·]?) (Nat.sub_eq_of_eq_add hk.symm)).trans (dh bD),step k _ κ σ _ (dh bD) hI λκ' σ' h=>AJ I hit step n (k+1) ((Nat.succ_add_eq_add_succ k n).trans hk) h q⟩
theorem px{P:PW}{S:aN}{d:Nat}{ρ κ:ac}{σ σ':AH}{Q:AV->AH->Prop}{elt it:AE}{t:AT}{n:Nat}{f:AV}{xs:List AV}(I:Nat->ac->AH->Prop)
  (h:∀Q:AV->AH->Prop,Q f σ'->wE P S d it ρ κ σ Q) (h0:bz f σ'=some xs) (hI0:I 0 (cV n .none) (σ'.new (.lst []))) (hit:∀k κ σ,I k κ σ->bz f σ=some xs)
  (step:∀k x κ σ (K:ac->AH->Prop),xs[k]? =some x->I k κ σ->(∀κ' σ',I (k+1) κ' σ'->K κ' σ')->wA P S d t x ρ κ σ λb9 bo aA=>b9=ρ/\wE P S d elt ρ bo aA λv ae=>∃ys,ae.m σ'.next=some (.lst ys)/\ys.length<aY/\K bo (ae.set σ'.next (.lst (ys++[v]))))
  (q:∀κ σ,I xs.length κ σ->Q (.ref σ'.next) σ):wE P S d (.comp elt (.cons t it .nil .nil) n) ρ κ σ Q:=by
 refine .inr (h _ ⟨xs,h0,?_⟩);exact AJ (Q:=λJ σ=>Q (.ref σ'.next) σ) (B:=λx cS ao k=>wA P S d t x ρ cS ao λb9 bo aA=>b9=ρ/\wE P S d elt ρ bo aA λv ae=>∃ys,ae.m σ'.next=some (.lst ys)/\ys.length<aY/\k bo (ae.set σ'.next (.lst (ys++[v])))) I hit step xs.length 0 (sA _) hI0 q
theorem I2{σ:AH}{n l:Nat}{xs:List AV}(h:σ.m l=some (.lst xs)):fz σ (n+1) (.ref l)=(xs.mapM (fz σ n)).map n9:=by
 refine (?_:(match σ.m l with | some (.lst xs)=>(xs.mapM (fz σ n)).map n9 | _=>none)=_)
 (erw[h];ac_rfl)
theorem ge{σ:AH}{K:Bool->Prop}{l:Nat}{xs:List AV}(h:af σ l (.lst xs))(b:Bool)(hb:b=!xs.isEmpty)(q:K b):dY .NotEq (.ref l) (.ref σ.next) (σ.new (.lst [])) K:=by
 refine ⟨!b,?_,by rewrite[Bool.not_not];exact q⟩
 have h2:=h.ch (Ch.new (F:=[]) σ (.lst [])) am;obtain h3:=af.new σ (.lst [])
 induction xs using bQ with
 | nil=>
  refine al hb ?_;exact .inr ⟨2,.list [],.list [],I2 h2.eq,I2 h3.eq,rfl,rfl,by simp[gR,ji],by simp[gR,ji],rfl⟩
 | cons x r=>refine al hb ?_;exact .inl ⟨l,σ.next,x::r,[],rfl,rfl,h2.eq,h3.eq,by simp,rfl⟩
section
variable{P:PW}{S:aN}{d:Nat}{ρ ρ':ac}{σ σ':AH}{v:AV}{Q:Fl->ac->AH->Prop}{r:au}{e:AE}
theorem gA{t:AT}(h:∀Q:AV->AH->Prop,Q v σ'->wE P S d e ρ [] σ Q)(ht:oI t v ρ=some ρ')(q:aM P S d r ρ' σ' Q):aM P S d (.cons (.asg t e) r) ρ σ Q:=h _ (q5 ht ⟨rfl,q⟩)
theorem wt{t:AT}{R:AV->AH->Prop}(h:∀Q:AV->AH->Prop,(∀v σ',R v σ'->Q v σ')->wE P S d e ρ [] σ Q)(q:∀v σ',R v σ'->∃ρ',oI t v ρ=some ρ'/\aM P S d r ρ' σ' Q):aM P S d (.cons (.asg t e) r) ρ σ Q:=
 h _ λv σ' hr=>by obtain ⟨J,ht,h⟩:=q v σ' hr;exact q5 ht ⟨rfl,h⟩
theorem I3{t:AT}{b:au}{xs:List AV}{f:AV}(I:Nat->ac->AH->Prop)(h:∀Q:AV->AH->Prop,Q f σ'->wE P S d e ρ [] σ Q)(h0:I 0 ρ σ')(hit:∀k ρ σ,I k ρ σ->bz f σ=some xs)
  (step:∀k x ρ σ (K:Fl->ac->AH->Prop),xs[k]? =some x->I k ρ σ->(∀ρ' σ',I (k+1) ρ' σ'->K .next ρ' σ')->∃ρ',oI t x ρ=some ρ'/\aM P S d b ρ' σ K)
  (q:∀ρ σ,I xs.length ρ σ->aM P S d r ρ σ Q):aM P S d (.cons (.for_ t e b) r) ρ σ Q:=
 h _ ⟨xs,hit _ _ _ h0,wn I h0 hit (λk x ρ σ K hk hI hK=>by obtain ⟨J,ht,h⟩:=step k x ρ σ K hk hI hK;exact q5 ht ⟨rfl,h⟩) q⟩
theorem Ti{a i:AE}{R:AV->AH->Prop}(h:∀Q:AV->AH->Prop,(∀v σ',R v σ'->Q v σ')->wE P S d e ρ [] σ Q)(q:∀v σ',R v σ'->∃l kvs y,sv S ρ [] a=some (.ref l)/\sv S ρ [] i=some y/\σ'.m l=some (.dct kvs)/\fY kvs y/\kvs.length<aY/\aM P S d r ρ (σ'.set l (.dct (dset kvs y v))) Q):
  aM P S d (.cons (.asg (.sub a i) e) r) ρ σ Q:=
 h _ λv σ' hr=>by obtain ⟨J,J,J,h1,h2,h3,h4,h5,h6⟩:=q v σ' hr;refine (?_:wE P S d a ρ [] σ' _);exact eZ h1 (eZ h2 (.inr ⟨_,h3,h4,h5,rfl,h6⟩))
theorem dQ{i:Nat}{C:(AV->AH->Prop)->Prop}(h:∀Q:AV->AH->Prop,C Q->wE P S d e ρ [] σ Q)(q:C λv σ'=>aM P S d r (ρ.set i (some v)) σ' Q):aM P S d (.cons (.asg (.loc i) e) r) ρ σ Q:=
 h _ ((funext λv=>funext λσ'=>propext ⟨λh=>⟨rfl,h⟩,And.right⟩:(λv σ'=>aM P S d r (ρ.set i (some v)) σ' Q)=λv σ'=>(([]:ac)=[]/\aM P S d r (ρ.set i (some v)) σ' Q))▸q)
theorem ln{C:(AV->AH->Prop)->Prop}(h:∀Q:AV->AH->Prop,C Q->wE P S d e ρ [] σ Q)(q:C λv σ'=>aM P S d r ρ σ' Q):aM P S d (.cons (.expr e) r) ρ σ Q:=h _ q
theorem AK{C:(AV->AH->Prop)->Prop}(h:∀Q:AV->AH->Prop,C Q->wE P S d e ρ [] σ Q)(q:C λv σ'=>Q (.ret v) ρ σ'):aM P S d (.cons (.ret e) r) ρ σ Q:=h _ q
abbrev AM(o:Option ac)(k:ac->Prop):Prop:=match o with
 | some ρ=>k ρ
 | none=>False
theorem I4{k:ac->Prop}:∀{o:Option ac},AM o k->∃ρ,o=some ρ/\k ρ
 | some ρ,h=>⟨ρ,rfl,h⟩
theorem AN{t:AT}{v:AV}(h:AM (oI t v ρ) λρ'=>aM P S d r ρ' σ' Q):wA P S d t v ρ [] σ' λbe cS ao=>cS=[]/\aM P S d r be ao Q:=by obtain ⟨J,ht,h⟩:=I4 h;exact q5 ht ⟨rfl,h⟩
theorem ml{t:AT}{C:(AV->AH->Prop)->Prop}(h:∀Q:AV->AH->Prop,C Q->wE P S d e ρ [] σ Q)(q:C λv σ'=>wA P S d t v ρ [] σ' λbe cS ao=>cS=[]/\aM P S d r be ao Q):aM P S d (.cons (.asg t e) r) ρ σ Q:=h _ q
theorem rC{a i:AE}{v y:AV}{l:Nat}{kvs:List (AV × AV)}(h1:sv S ρ [] a=some (.ref l))(h2:sv S ρ [] i=some y)(h3:σ'.m l=some (.dct kvs))(h4:fY kvs y)(h5:kvs.length<aY)(q:aM P S d r ρ (σ'.set l (.dct (dset kvs y v))) Q):
  wA P S d (.sub a i) v ρ [] σ' λbe cS ao=>cS=[]/\aM P S d r be ao Q:=show wE P S d a ρ [] σ' _ from eZ h1 (eZ h2 (.inr ⟨_,h3,h4,h5,rfl,q⟩))
theorem Tj{xs:List AV}{B:AV->ac->AH->(Fl->ac->AH->Prop)->Prop}(J:Nat->(ac->AH->Prop)->Prop)(h0:∀X:ac->AH->Prop,J 0 X->X ρ σ)
  (hit:∀k,J k λJ σ=>bz v σ=some xs) (step:∀k x (K:Fl->ac->AH->Prop),xs[k]? =some x->(∀ρ' σ',(∀X:ac->AH->Prop,J (k+1) X->X ρ' σ')->K .next ρ' σ')->J k λρ σ=>B x ρ σ K)
  (q:J xs.length λρ σ=>Q .next ρ σ):turns v xs.length B xs.length ρ σ Q:=
 wn (λk ρ σ=>∀X:ac->AH->Prop,J k X->X ρ σ) h0 (λk ρ σ h=>h _ (hit k)) (λk x ρ σ K hk hI hK=>hI _ (step k x K hk hK)) λρ σ h=>h _ q
theorem np{i:Nat}{b:au}{xs:List AV}{f:AV}(J:Nat->(ac->AH->Prop)->Prop)(h:∀Q:AV->AH->Prop,Q f σ'->wE P S d e ρ [] σ Q)(h0:∀X:ac->AH->Prop,J 0 X->X ρ σ')(hit:∀k,J k λJ σ=>bz f σ=some xs)
  (step:∀k x (K:Fl->ac->AH->Prop),xs[k]? =some x->(∀ρ' σ',(∀X:ac->AH->Prop,J (k+1) X->X ρ' σ')->K .next ρ' σ')->J k λρ σ=>aM P S d b (ρ.set i (some x)) σ K)
  (q:J xs.length λρ σ=>aM P S d r ρ σ Q):aM P S d (.cons (.for_ (.loc i) e b) r) ρ σ Q:=
 AB (λk ρ σ=>∀X:ac->AH->Prop,J k X->X ρ σ) h h0 (λk ρ σ h=>h _ (hit k)) (λk x ρ σ K hk hI hK=>hI _ (step k x K hk hK)) λρ σ h=>h _ q
theorem mo{t:AT}{b:au}{xs:List AV}{f:AV}(J:Nat->(ac->AH->Prop)->Prop)(h:∀Q:AV->AH->Prop,Q f σ'->wE P S d e ρ [] σ Q)(h0:∀X:ac->AH->Prop,J 0 X->X ρ σ')(hit:∀k,J k λJ σ=>bz f σ=some xs)
  (step:∀k x (K:Fl->ac->AH->Prop),xs[k]? =some x->(∀ρ' σ',(∀X:ac->AH->Prop,J (k+1) X->X ρ' σ')->K .next ρ' σ')->J k λρ σ=>AM (oI t x ρ) λρ'=>aM P S d b ρ' σ K)
  (q:J xs.length λρ σ=>aM P S d r ρ σ Q):aM P S d (.cons (.for_ t e b) r) ρ σ Q:=
 I3 (λk ρ σ=>∀X:ac->AH->Prop,J k X->X ρ σ) h h0 (λk ρ σ h=>h _ (hit k)) (λk x ρ σ K hk hI hK=>I4 (hI _ (step k x K hk hK))) λρ σ h=>h _ q
theorem Tk{i:Nat}{b:au}{xs:List AV}(J:Nat->(ac->AH->Prop)->Prop)(e0:bz v σ=some xs)(h0:∀X:ac->AH->Prop,J 0 X->X ρ σ)(hit:∀k,J k λJ σ=>bz v σ=some xs)
  (step:∀k x (K:Fl->ac->AH->Prop),xs[k]? =some x->(∀ρ' σ',(∀X:ac->AH->Prop,J (k+1) X->X ρ' σ')->K .next ρ' σ')->J k λρ σ=>aM P S d b (ρ.set i (some x)) σ K)
  (q:J xs.length λρ σ=>Q .next ρ σ):∃xs,bz v σ=some xs/\turns v xs.length (λx be ao k=>wA P S d (.loc i) x be [] ao λb9 bo aA=>bo=[]/\aM P S d b b9 aA k) xs.length ρ σ Q:=
 ⟨xs,e0,Tj J h0 hit (λk x K hk hK=>(funext λρ=>funext λσ=>propext ⟨λh=>⟨rfl,h⟩,And.right⟩:(λ(ρ:ac)(σ:AH)=>aM P S d b (ρ.set i (some x)) σ K)=λρ σ=>(([]:ac)=[]/\aM P S d b (ρ.set i (some x)) σ K))▸step k x K hk hK) q⟩
theorem Tl{i:Nat}{b:au}{C:(AV->AH->Prop)->Prop}(h:∀Q:AV->AH->Prop,C Q->wE P S d e ρ [] σ Q)(q:C λv σ'=>∃xs,bz v σ'=some xs/\turns v xs.length (λx be ao k=>wA P S d (.loc i) x be [] ao λb9 bo aA=>bo=[]/\aM P S d b b9 aA k) xs.length ρ σ' λfl be ae=>match fl with | .next=>aM P S d r be ae Q | .ret v=>Q (.ret v) be ae):
  aM P S d (.cons (.for_ (.loc i) e b) r) ρ σ Q:=h _ q
theorem I5{P:PW}{S:aN}{d:Nat}{ρ κ:ac}{σ σ':AH}{Q:AV->AH->Prop}{elt it:AE}{t:AT}{n:Nat}{f x:AV}(h:∀Q:AV->AH->Prop,Q f σ'->wE P S d it ρ κ σ Q)(h0:bz f σ'=some [x])(h1:bz f (σ'.new (.lst []))=some [x])
  (q:∀K:ac->AH->Prop,(∀κ' ao,bz f ao=some [x]->Q (.ref σ'.next) ao->K κ' ao)->wA P S d t x ρ (cV n .none) (σ'.new (.lst [])) λb9 bo aA=>b9=ρ/\wE P S d elt ρ bo aA λv ae=>∃ys,ae.m σ'.next=some (.lst ys)/\ys.length<aY/\K bo (ae.set σ'.next (.lst (ys++[v])))):
  wE P S d (.comp elt (.cons t it .nil .nil) n) ρ κ σ Q:=by
 refine .inr (h _ ⟨[x],h0,?_⟩);refine (?_:gY f 1 (λx cS ao k=>wA P S d t x ρ cS ao λb9 bo aA=>b9=ρ/\wE P S d elt ρ bo aA λv ae=>∃ys,ae.m σ'.next=some (.lst ys)/\ys.length<aY/\k bo (ae.set σ'.next (.lst (ys++[v])))) 1 (cV n .none) (σ'.new (.lst [])) λJ σ=>Q (.ref σ'.next) σ);exact ⟨_,_,h1,rfl,rfl,q (λκ' ao=>∃ys,bz f ao=some ys/\ys.length=1/\Q (.ref σ'.next) ao) λκ' ao h2 q2=>⟨_,h2,rfl,q2⟩⟩
theorem Tm{t:AT}{b:au}{f:AV}(h:∀Q:AV->AH->Prop,Q f σ'->wE P S d e ρ [] σ Q)(h0:bz f σ'=some [])(q:aM P S d r ρ σ' Q):aM P S d (.cons (.for_ t e b) r) ρ σ Q:=h _ ⟨_,h0,_,h0,rfl,q⟩
theorem I6{i:Nat}{b:au}{f x y:AV}(h:∀Q:AV->AH->Prop,Q f σ'->wE P S d e ρ [] σ Q)(h0:bz f σ'=some [x,y])
  (q:∀K:Fl->ac->AH->Prop,(∀be ae,bz f ae=some [x,y]->(∀L:Fl->ac->AH->Prop,(∀b9 ao,bz f ao=some [x,y]->aM P S d r b9 ao Q->L .next b9 ao)->aM P S d b (be.set i (some y)) ae L)->K .next be ae)->aM P S d b (ρ.set i (some x)) σ' K):
  aM P S d (.cons (.for_ (.loc i) e b) r) ρ σ Q:=
 h _ ⟨_,h0,_,_,h0,rfl,rfl,rfl,q _ λbe ae h1 q1=>⟨_,_,h1,rfl,rfl,rfl,q1 _ λb9 ao h2 q2=>⟨_,h2,rfl,q2⟩⟩⟩
theorem rE{t:AE}{b:au}(h:jt P S d t ρ σ true σ')(q:∀K:Fl->ac->AH->Prop,(∀be ae,aM P S d (.cons (.whl t b) r) be ae Q->K .next be ae)->aM P S d b ρ σ' K):aM P S d (.cons (.whl t b) r) ρ σ Q:=
 λX hX=>hX _ _ (h _ (q _ λbe ae h=>h X hX))
theorem I7{t:AE}{b:au}(h:jt P S d t ρ σ false σ')(q:aM P S d r ρ σ' Q):aM P S d (.cons (.whl t b) r) ρ σ Q:=λX hX=>hX _ _ (h _ q)
theorem Tn{t:AE}{b:au}{C:(AH->Prop)->Prop}(h:∀K:Bool->AH->Prop,(∀c,C (K c))->wT P S d t (wE P S d t ρ [] σ) ρ [] σ K)
  (q1:C λσ'=>aM P S d b ρ σ' λfl be ae=>match fl with | .next=>aM P S d r be ae Q | .ret v=>Q (.ret v) be ae) (q0:C λσ'=>aM P S d r ρ σ' Q):aM P S d (.cons (.cond t b .nil) r) ρ σ Q:=
 h _ λc=>by cases c;exact q0;exact q1
theorem Tp{t:AE}{b:au}{C:(AH->Prop)->Prop}(h:∀K:Bool->AH->Prop,C (K false)->wT P S d t (wE P S d t ρ [] σ) ρ [] σ K)(q:C λσ'=>aM P S d r ρ σ' Q):aM P S d (.cons (.cond t b .nil) r) ρ σ Q:=h _ q
theorem I8{v:AV}{xs:List AV}{B:AV->ac->AH->(ac->AH->Prop)->Prop}{Q:ac->AH->Prop}{κ:ac}{σ:AH}(J:Nat->(ac->AH->Prop)->Prop)(h0:∀X:ac->AH->Prop,J 0 X->X κ σ)(hit:∀k,J k λJ σ=>bz v σ=some xs)
  (step:∀k x (K:ac->AH->Prop),xs[k]? =some x->(∀κ' σ',(∀X:ac->AH->Prop,J (k+1) X->X κ' σ')->K κ' σ')->J k λκ σ=>B x κ σ K) (q:J xs.length λκ σ=>Q κ σ):gY v xs.length B xs.length κ σ Q:=
 AJ (λk ρ σ=>∀X:ac->AH->Prop,J k X->X ρ σ) (λk ρ σ h=>h _ (hit k)) (λk x ρ σ K hk hI hK=>hI _ (step k x K hk hK)) _ 0 (sA _) h0 λρ σ h=>h _ q
theorem Tq{κ:ac}(h:κ.length=2):∃a b,κ=[a,b]:=match κ,h with | [a,b],_=>⟨a,b,rfl⟩
theorem AP{κ:ac}{n:Nat}(h:κ.length=n+1):∃a r,κ=a::r/\r.length=n:=match κ,h with | a::r,h=>⟨a,r,rfl,Nat.succ.inj h⟩
theorem wu{κ:ac}(h:κ.length=3):∃a b c,κ=[a,b,c]:=by obtain ⟨a,r,rfl,h1⟩:=AP h;obtain ⟨b,c,rfl⟩:=Tq h1;exact ⟨a,b,c,rfl⟩
theorem AQ{κ:ac}(h:κ.length=4):∃a b c e,κ=[a,b,c,e]:=by obtain ⟨a,r,rfl,h1⟩:=AP h;obtain ⟨b,c,e,rfl⟩:=wu h1;exact ⟨a,b,c,e,rfl⟩
theorem Tr{κ:ac}(h:κ.length=5):∃a b c e f,κ=[a,b,c,e,f]:=by obtain ⟨a,r,rfl,h1⟩:=AP h;obtain ⟨b,c,e,f,rfl⟩:=AQ h1;exact ⟨a,b,c,e,f,rfl⟩
theorem I9{P:PW}{S:aN}{d:Nat}{ρ κ:ac}{σ σ':AH}{Q:AV->AH->Prop}{elt it:AE}{t:AT}{n:Nat}{f:AV}{xs:List AV}(J:Nat->(ac->AH->Prop)->Prop)
  (h:∀Q:AV->AH->Prop,Q f σ'->wE P S d it ρ κ σ Q) (hit0:bz f σ'=some xs) (h0:∀X:ac->AH->Prop,J 0 X->X (cV n .none) (σ'.new (.lst []))) (hit:∀k,J k λJ σ=>bz f σ=some xs)
  (step:∀k x (K:ac->AH->Prop),xs[k]? =some x->(∀κ' σ',(∀X:ac->AH->Prop,J (k+1) X->X κ' σ')->K κ' σ')->J k λκ σ=>wA P S d t x ρ κ σ λb9 bo aA=>b9=ρ/\wE P S d elt ρ bo aA λv ae=>∃ys,ae.m σ'.next=some (.lst ys)/\ys.length<aY/\K bo (ae.set σ'.next (.lst (ys++[v]))))
  (q:J xs.length λJ σ=>Q (.ref σ'.next) σ):wE P S d (.comp elt (.cons t it .nil .nil) n) ρ κ σ Q:=
 px (λk ρ σ=>∀X:ac->AH->Prop,J k X->X ρ σ) h hit0 h0 (λk ρ σ h=>h _ (hit k)) (λk x ρ σ K hk hI hK=>hI _ (step k x K hk hK)) λρ σ h=>h _ q
end
end
noncomputable abbrev iz:List Nat:=[114,111,111,116]
noncomputable abbrev fQ:List Nat:=[101,108,101,109,101,110,116]
noncomputable abbrev Ts:List Nat:=[97,116,116,114,105,98,117,116,101]
noncomputable abbrev Tt:List Nat:=[110,97,109,101,115,112,97,99,101]
noncomputable def Ja(kind name uri loc value:List Nat)(p:AV)(c:Nat):List (Nat × AV):=
 [(iq,.str kind),(di,.str name),(j1,.str uri),(lg,.str loc),(fo,.str value),(oV,p),(cO,.ref c),(jY,.ref (c+1)),(jZ,.ref (c+2))]
noncomputable def eS(kind name uri loc value:List Nat)(p:AV)(c:Nat):AO:= .ins eR (Ja kind name uri loc value p c)
noncomputable abbrev dF(L:Nat):AO:= .ins j3 [(cY,.ref L)]
def rF(p:AV):Prop:=p= .none\/∃i,p= .int i
theorem rF.low{p:AV}(h:rF p):low 0 p=true/\∀g,ren g p=p:=by
 rcases h with rfl | ⟨i,rfl⟩<;>exact ⟨rfl,λJ=>rfl⟩
section
variable{P:PW}{σ:AH}{Q:AV->AH->Prop}(G:Gd P)
include G
theorem Tu{kind name uri loc value:List Nat}{p:AV}(hp:rF p)(q:Q (.ref σ.next) (σ.adds [eS kind name uri loc value p (σ.next+1),.lst [],.lst [],.lst []])):
  T P 3 (.con (.ref eR)) [.str kind,.str name,.str uri,.str loc,.str value,p] σ Q:=by
 have h:=wm G (n:=3) (f:= .con (.ref eR)) (args:=[.str kind,.str name,.str uri,.str loc,.str value,p]) (sc:=[]) (R:=λv H=>v= .ref 0/\H=[eS kind name uri loc value p 1,.lst [],.lst [],.lst []]) rfl
  (by refine (?_:(low 0 p && true)=true);erw[hp.low.1];rfl) (by
   have e:(dL P S0 tab 300 3 (.con (.ref eR)) [.str kind,.str name,.str uri,.str loc,.str value,p] [] [] λv H J=>v= .ref 0/\H=[eS kind name uri loc value p 1,.lst [],.lst [],.lst []])=(AV.ref 0= .ref 0/\[eS kind name uri loc value p 1,.lst [],.lst [],.lst []]=[eS kind name uri loc value p 1,.lst [],.lst [],.lst []]):=by kernel_rfl
   erw[e];exact ⟨rfl,rfl⟩) σ
 have e1:dx (sh σ.next) [.str kind,.str name,.str uri,.str loc,.str value,p]=[.str kind,.str name,.str uri,.str loc,.str value,p]:=by
  refine (?_:[AV.str kind,.str name,.str uri,.str loc,.str value,ren (sh σ.next) p]=_);rw[hp.low.2]
 rw[e1] at h;refine h.mono λv σ' z_6=>?_;obtain ⟨v',H,⟨e2,e3⟩,e4,e5⟩:=z_6;subst e2 e3 e4 e5;have:List.map (gc (sh σ.next)) [eS kind name uri loc value p 1,.lst [],.lst [],.lst []]=[eS kind name uri loc value p (σ.next+1),.lst [],.lst [],.lst []]:=by
  refine (?_:[AO.ins eR (Ja kind name uri loc value (ren (sh σ.next) p) (σ.next+1)),.lst [],.lst [],.lst []]=_);rewrite[hp.low.2];rfl
 erw[this];exact q
theorem wv{t L r:Nat}{i:Nat}{rows:List AV}(ht:σ.m t=some (dF L))(hL:σ.m L=some (.lst rows))(hi:rows[i]? =some (.ref r))(q:Q (.ref r) σ):T P 2 (.con (.ref vG)) [.ref t,.int i] σ Q:=by
 refine (G.fn (rfl:tab vG=some (.fn _ _ _ An)) (aq rfl) (aq rfl) ?_).toT;have bD:i<rows.length:=(bP.mp hi).1;unfold An;refine (S8 (by lia) (bN ht rfl rfl rfl ((lZ hL).builtin (S9 (by lia) ?_))))
 exact (bN ht rfl rfl rfl (li hL hi q))
theorem dy{f m:Nat}(et:tab m=some (.fn 2 [0,1] [] (.cons (.ret (.attr (.meth (.loc 0) gz (.cons (.loc 1) .nil)) f)) .nil))){t L r:Nat}{i:Nat}{rows:List AV}{fs:List (Nat × AV)}{v:AV}(ht:σ.m t=some (dF L))(hL:σ.m L=some (.lst rows))(hi:rows[i]? =some (.ref r))
  (hr:σ.m r=some (.ins eR fs)) (e:lk f fs=some v) (hp:S0.PF eR f=true) (pl:mQ v=true) (q:Q v σ):T P 3 (.con (.ref m)) [.ref t,.int i] σ Q:=by
 refine (G.fn et (aq rfl) (aq rfl) ?_).toT;exact ⟨_,fq ht rfl rfl,wv G ht hL hi (bN hr e hp pl q)⟩
theorem lq{f m n:Nat}{ix:List Nat}(et:tab m=some (.fn 3 [0,1] [] (.cons (.ret (.call (.glob iu) (.cons (.attr (.meth (.loc 0) gz (.cons (.loc 1) .nil)) f) .nil))) .nil))){t L r l:Nat}{i:Nat}{rows xs:List AV}{fs:List (Nat × AV)}(ht:σ.m t=some (dF L))(hL:σ.m L=some (.lst rows))(hi:rows[i]? =some (.ref r))
  (hr:σ.m r=some (.ins eR fs)) (e:lk f fs=some (.ref l)) (hp:S0.PF eR f=true) (hl:σ.m l=some (.lst xs)) (q:Q (.ref σ.next) (σ.new (.lst xs))):T P 3 (.con (.ref m)) [.ref t,.int i] σ Q:=by
 refine (G.fn et (aq rfl) (aq rfl) ?_).toT;exact ⟨_,fq ht rfl rfl,wv G ht hL hi (bN hr e hp rfl ((yG hl).type q))⟩
structure nq(σ:AH)(L:Nat)(rows:List AV)(o:AO)(σ':AH):Prop where
 ch:Ch [L] σ σ'
 next:σ'.next=σ.next+4
 rows:af σ' L (.lst (rows++[.ref σ.next]))
 row:af σ' σ.next o
 l1:af σ' (σ.next+1) (.lst [])
 l2:af σ' (σ.next+2) (.lst [])
 l3:af σ' (σ.next+3) (.lst [])
theorem ww{t L:Nat}{rows:List AV}{kind name uri loc value:List Nat}{p:AV}(hp:rF p)(ht:af σ t (dF L))(hL:af σ L (.lst rows))(hb:rows.length<1000)
  (q:∀σ',nq σ L rows (eS kind name uri loc value p (σ.next+1)) σ'->Q (.int rows.length) σ'):T P 4 (.con (.ref vF)) [.ref t,.str kind,.str name,.str uri,.str loc,.str value,p] σ Q:=by
 refine (G.fn (rfl:tab vF=some (.fn _ _ _ Am)) (aq rfl) (aq rfl) ?_).toT;unfold Am;refine (bN ht.eq rfl rfl rfl ⟨_,eH hL.eq rfl,Tu G hp ?_⟩);have c1:Ch [L] σ (σ.adds [eS kind name uri loc value p (σ.next+1),.lst [],.lst [],.lst []]):=Ch.adds σ _;have hL1:=hL.ch (Ch.adds σ [eS kind name uri loc value p (σ.next+1),.lst [],.lst [],.lst []]:Ch [] _ _) am;have c2:=Ch.set (F:=[L]) (σ.adds [eS kind name uri loc value p (σ.next+1),.lst [],.lst [],.lst []]) (.lst (rows++[.ref σ.next])) (aF.mpr rfl);have bD:=hL.lt;have hn:∀i,σ.next+i∉[L]:=λi h=>by rw[aF] at h;lia
 refine (dK hL1.eq (by erw[bH];(with_reducible exact bX ‹_› (by decide)))).builtin ?_
 have ne:t≠L:=ht.ne hL (by intro h;exact (AO.noConfusion h))
 have ht2:=(ht.ch (Ch.adds σ _:Ch [] _ _) am).ch c2 (by rewrite[aF];exact ne)
 have hL2:=hL1.set (p:= .lst (rows++[.ref σ.next]));refine (bN ht2.eq rfl rfl rfl ((lZ hL2.eq).builtin ?_));refine (?_:Q (.int ((rows++[AV.ref σ.next]).length - 1)) _);erw[show (((rows++[AV.ref σ.next]).length:Int) - 1)=rows.length by simp]
 exact q _ ⟨c1.trans c2,rfl,hL2,(af.adds σ (i:=0) rfl).ch c2 (hn 0),(af.adds σ (i:=1) rfl).ch c2 (hn 1),(af.adds σ (i:=2) rfl).ch c2 (hn 2),(af.adds σ (i:=3) rfl).ch c2 (hn 3)⟩
theorem Jb{t L:Nat}{rows:List AV}(ht:af σ t (dF L))(hL:af σ L (.lst rows))(hb:rows.length<1000)
  (q:∀σ',nq σ L rows (eS iz [] [] [] [] .none (σ.next+1)) σ'->Q (.int rows.length) σ'):T P 5 (.con (.ref vH)) [.ref t] σ Q:=by
 refine (G.fn (rfl:tab vH=some (.fn _ _ _ Ih)) (aq rfl) (aq rfl) ?_).toT;exact ⟨_,fq ht.eq rfl rfl,ww G (.inl rfl) ht hL hb q⟩
omit G in
theorem Jc{α:Type}{xs ys:List α}{i:Nat}{x:α}(h:xs[i]? =some x):(xs++ys)[i]? =some x:=by
 erw[nT ((bP.mp h).1)];exact h
theorem Tv{t L:Nat}{rows cs:List AV}{kind name uri loc value kp:List Nat}{i r c0:Nat}{fs:List (Nat × AV)}(ht:af σ t (dF L))(hL:af σ L (.lst rows))(hb:rows.length<1000)(hi:rows[i]? =some (.ref r))(hr:af σ r (.ins eR fs))
  (ek:lk iq fs=some (.str kp)) (hk:[iz,fQ].contains kp=true) (ec:lk cO fs=some (.ref c0)) (hc:af σ c0 (.lst cs)) (hcl:cs.length<1000) (bA:c0≠L)
  (q:∀σ',nq σ L rows (eS kind name uri loc value (.int i) (σ.next+1)) σ'->Q (.int rows.length) (σ'.set c0 (.lst (cs++[.int rows.length])))):T P 5 (.con (.ref vI)) [.ref t,.int i,.str kind,.str name,.str uri,.str loc,.str value] σ Q:=by
 refine (G.fn (rfl:tab vI=some (.fn _ _ _ Ao)) (aq rfl) (aq rfl) ?_).toT;unfold Ao;refine (rA (⟨_,fq ht.eq rfl rfl,(wv G ht.eq hL.eq hi (bN hr.eq ek rfl rfl (Ta (ts:=[iz,fQ]) rfl true hk ?_))).le (by decide)⟩))
 refine ⟨_,fq ht.eq rfl rfl,ww G (.inr ⟨(i:Int),rfl⟩:rF (.int i)) ht hL hb λσ' N=>?_⟩;have net:t∉[L]:=by rewrite[aF];exact ht.ne hL (by intro h;exact (AO.noConfusion h))
 have ner:r∉[L]:=by rewrite[aF];exact hr.ne hL (by intro h;exact (AO.noConfusion h))
 have nec:c0∉[L]:=by rewrite[aF];exact bA
 refine ⟨rfl,(rA (bN (ht.ch N.ch net).eq rfl rfl rfl (li N.rows.eq (Jc hi) (bN (hr.ch N.ch ner).eq ec rfl rfl ⟨_,eH (hc.ch N.ch nec).eq rfl,(dK (hc.ch N.ch nec).eq (by erw[bH];(with_reducible exact bX ‹_› (by decide)))).builtin ?_⟩))))⟩
 exact (q σ' N)
theorem Tw{t L:Nat}{rows cs:List AV}{name uri loc kp:List Nat}{i r c0:Nat}{fs:List (Nat × AV)}(ht:af σ t (dF L))(hL:af σ L (.lst rows))(hb:rows.length<1000)(hi:rows[i]? =some (.ref r))(hr:af σ r (.ins eR fs))
  (ek:lk iq fs=some (.str kp)) (hk:[iz,fQ].contains kp=true) (ec:lk cO fs=some (.ref c0)) (hc:af σ c0 (.lst cs)) (hcl:cs.length<1000) (bA:c0≠L)
  (q:∀σ',nq σ L rows (eS fQ name uri loc [] (.int i) (σ.next+1)) σ'->Q (.int rows.length) (σ'.set c0 (.lst (cs++[.int rows.length])))):T P 6 (.con (.ref rl)) [.ref t,.int i,.str name,.str uri,.str loc] σ Q:=by
 refine (G.fn (rfl:tab rl=some (.fn _ _ _ Ii)) (aq rfl) (aq rfl) ?_).toT;exact ⟨_,fq ht.eq rfl rfl,Tv G ht hL hb hi hr ek hk ec hc hcl bA q⟩
omit G in
theorem Jd:Tx fQ:=tx_of rfl
theorem Je{t L r:Nat}{i:Nat}{rows:List AV}{fs:List (Nat × AV)}(ht:af σ t (dF L))(hL:af σ L (.lst rows))(hi:rows[i]? =some (.ref r))(hr:af σ r (.ins eR fs))(ek:lk iq fs=some (.str fQ))
  (q:Q (.ref r) σ):T P 3 (.con (.ref vJ)) [.ref t,.int i] σ Q:=by
 refine (G.fn (rfl:tab vJ=some (.fn _ _ _ Ap)) (aq rfl) (aq rfl) ?_).toT;unfold Ap;refine ⟨_,fq ht.eq rfl rfl,wv G ht.eq hL.eq hi ?_⟩;exact ⟨rfl,bN hr.eq ek rfl rfl ((iy Jd Jd true (by decide) q))⟩
end
inductive aZ where
 | at (name uri loc val:List Nat)
 | ns (pre uri:List Nat)
noncomputable def aZ.ctorIdx(x:aZ):Nat:=x.casesOn (λ_ _ _ _=>0) (λ_ _=>1)
def aZ.tx:aZ->Prop
 | .at n u l v=>Tx n/\Tx u/\Tx l/\Tx v
 | .ns p u=>Tx p/\Tx u/\p≠[]/\p.length<=50
noncomputable def py(c:Nat):aZ->AO
 | .at n u l v=>eS Ts n u l v (.int 1) c
 | .ns p u=>eS Tt p [] p u (.int 1) c
noncomputable def dz:List aZ->Nat->List Nat
 | [],J1=>[]
 | .at ..::r,k=>k::dz r (k+1)
 | .ns ..::r,k=>dz r (k+1)
noncomputable def cP:List aZ->Nat->List Nat
 | [],J1=>[]
 | .at ..::r,k=>cP r (k+1)
 | .ns ..::r,k=>k::cP r (k+1)
theorem AR{j:Nat}:∀{lv:List aZ}{k:Nat},j∈dz lv k->∃i n u l v,j=k+i/\lv[i]? =some (.at n u l v)
 | .at n u l v::r,k,h=>by
  rcases aV.mp h with e | h
  ·exact ⟨0,n,u,l,v,e,rfl⟩
  ·(refine aI λkK=>?_;obtain ⟨i,n,u,l,v,e,h⟩:=AR h;refine kK ?_;clear kK);exact ⟨i+1,n,u,l,v,by lia,h⟩
 | .ns ..::r,k,h=>by
  (refine aI λkK=>?_;obtain ⟨i,n,u,l,v,e,h⟩:=AR (lv:=r) h;refine kK ?_;clear kK);exact ⟨i+1,n,u,l,v,by lia,h⟩
theorem AU{j:Nat}:∀{lv:List aZ}{k:Nat},j∈cP lv k->∃i p u,j=k+i/\lv[i]? =some (.ns p u)
 | .ns p u::r,k,h=>by
  rcases aV.mp h with e | h
  ·exact ⟨0,p,u,e,rfl⟩
  ·(refine aI λkK=>?_;obtain ⟨i,p,u,e,h⟩:=AU h;refine kK ?_;clear kK);exact ⟨i+1,p,u,by lia,h⟩
 | .at ..::r,k,h=>by
  (refine aI λkK=>?_;obtain ⟨i,p,u,e,h⟩:=AU (lv:=r) h;refine kK ?_;clear kK);exact ⟨i+1,p,u,by lia,h⟩
theorem AW:∀(lv:List aZ)(n u l v:List Nat)(k:Nat),dz (lv++[.at n u l v]) k=dz lv k++[k+lv.length]
 | [],J1,J2,J3,J4,J5=>rfl
 | .at ..::r,n,u,l,v,k=>congrArg (k::·) ((AW r n u l v (k+1)).trans (congrArg (λx=>dz r (k+1)++[x]) (Nat.succ_add k r.length)))
 | .ns ..::r,n,u,l,v,k=>(AW r n u l v (k+1)).trans (congrArg (λx=>dz r (k+1)++[x]) (Nat.succ_add k r.length))
theorem AX:∀(lv:List aZ)(p u:List Nat)(k:Nat),dz (lv++[.ns p u]) k=dz lv k
 | [],J1,J2,J3=>rfl
 | .at ..::r,p,u,k=>congrArg (k::·) (AX r p u (k+1))
 | .ns ..::r,p,u,k=>AX r p u (k+1)
theorem AY:∀(lv:List aZ)(p u:List Nat)(k:Nat),cP (lv++[.ns p u]) k=cP lv k++[k+lv.length]
 | [],J1,J2,J3=>rfl
 | .at ..::r,p,u,k=>(AY r p u (k+1)).trans (congrArg (λx=>cP r (k+1)++[x]) (Nat.succ_add k r.length))
 | .ns ..::r,p,u,k=>congrArg (k::·) ((AY r p u (k+1)).trans (congrArg (λx=>cP r (k+1)++[x]) (Nat.succ_add k r.length)))
theorem AZ:∀(lv:List aZ)(n u l v:List Nat)(k:Nat),cP (lv++[.at n u l v]) k=cP lv k
 | [],J1,J2,J3,J4,J5=>rfl
 | .at ..::r,n,u,l,v,k=>AZ r n u l v (k+1)
 | .ns ..::r,n,u,l,v,k=>congrArg (k::·) (AZ r n u l v (k+1))
noncomputable def bK(l:List Nat):List AV:=l.map λi:Nat=> .int i
theorem lr:∀(lv:List aZ)(k:Nat),(dz lv k).length<=lv.length
 | [],J1=>bI _
 | .at ..::r,k=>pX (lr r (k+1))
 | .ns ..::r,k=>xx (lr r (k+1))
theorem iY:∀(lv:List aZ)(k:Nat),(cP lv k).length<=lv.length
 | [],J1=>bI _
 | .at ..::r,k=>xx (iY r (k+1))
 | .ns ..::r,k=>pX (iY r (k+1))
structure TS where
 t:Nat
 L:Nat
 r0:Nat
 c0:Nat
 r1:Nat
 c1:Nat
structure TA(σ:AH)(X:TS)(rs:List Nat)(lv:List aZ):Prop where
 t:af σ X.t (dF X.L)
 L:af σ X.L (.lst (.ref X.r0:: .ref X.r1::rs.map .ref))
 r0:af σ X.r0 (eS iz [] [] [] [] .none X.c0)
 c0:af σ X.c0 (.lst [.int 1])
 r1:af σ X.r1 (eS fQ [101] [] [101] [] (.int 0) X.c1)
 c1:af σ X.c1 (.lst [])
 a1:af σ (X.c1+1) (.lst (bK (dz lv 2)))
 n1:af σ (X.c1+2) (.lst (bK (cP lv 2)))
 len:rs.length=lv.length
 lf:∀(j:Nat)(lf:aZ),lv[j]? =some lf->∃r c,rs[j]? =some r/\af σ r (py c lf)
 tx:∀lf∈lv,lf.tx
 few:lv.length<100
 nd:X.L≠X.c0/\X.L≠X.c1/\X.L≠X.c1+1/\X.L≠X.c1+2/\X.c0≠X.c1+1/\X.c0≠X.c1+2
theorem A0(c:Nat)(lf:aZ):∃fs,py c lf= .ins eR fs:=by induction lf using aZ.casesOn<;>exact ⟨_,rfl⟩
def Off(σ:AH)(X:TS)(F:List Nat):Prop:=∀b∈F,(∃xs,af σ b (.lst xs))/\b≠X.L/\b≠X.c0/\b≠X.c1/\b≠X.c1+1/\b≠X.c1+2
theorem TA.ch{σ σ':AH}{X:TS}{rs:List Nat}{lv:List aZ}{F:List Nat}(H:TA σ X rs lv)(c:Ch F σ σ')(o:Off σ X F):TA σ' X rs lv:=by
 have nins:∀{b:Nat}{k:aa}{fs:List (Nat × AV)},af σ b (.ins k fs)->b∉F:=λ{b k fs} h hb=>by
  obtain ⟨⟨xs,h2⟩,J⟩:=o b hb;exact h.ne h2 (by intro e;exact (AO.noConfusion e)) rfl
 refine ⟨H.t.ch c (nins H.t),H.L.ch c λh=>(o _ h).2.1 rfl,H.r0.ch c (nins H.r0),H.c0.ch c λh=>(o _ h).2.2.1 rfl,H.r1.ch c (nins H.r1),H.c1.ch c λh=>(o _ h).2.2.2.1 rfl,
  H.a1.ch c λh=>(o _ h).2.2.2.2.1 rfl,H.n1.ch c λh=>(o _ h).2.2.2.2.2 rfl,H.len,λj lf e=>?_,H.tx,H.few,H.nd⟩
 (refine aI λkK=>?_;obtain ⟨r,k,e1,h⟩:=H.lf j lf e;refine kK ?_;clear kK);obtain ⟨fs,ef⟩:=A0 k lf;exact ⟨r,k,e1,h.ch c (nins (ef▸h))⟩
theorem TA.ch0{σ σ':AH}{X:TS}{rs:List Nat}{lv:List aZ}(H:TA σ X rs lv)(c:Ch [] σ σ'):TA σ' X rs lv:=H.ch c λb h=>by simp at h
theorem TA.row{σ:AH}{X:TS}{rs:List Nat}{lv:List aZ}(H:TA σ X rs lv){i:Nat}{lf:aZ}(e:lv[i]? =some lf):∃r c,(AV.ref X.r0:: .ref X.r1::rs.map .ref)[2+i]? =some (.ref r)/\af σ r (py c lf):=by
 (refine aI λkK=>?_;obtain ⟨r,c,e1,h⟩:=H.lf i lf e;refine kK ?_;clear kK);refine ⟨r,c,?_,h⟩;rewrite[pT];refine (?_:(rs.map AV.ref)[i]? =_);refine al bt (al e1 ?_);rfl
section
variable{P:PW}{σ:AH}{Q:AV->AH->Prop}(G:Gd P)
theorem TA.grow{σ σ':AH}{X:TS}{rs:List Nat}{lv:List aZ}(H:TA σ X rs lv){lf:aZ}(hx:lf.tx)(few:lv.length<99)(N:nq σ X.L (.ref X.r0:: .ref X.r1::rs.map .ref) (py (σ.next+1) lf) σ'){b:Nat}(eb:b=X.c1+1\/b=X.c1+2)
  {o:AO} (h1:af (σ'.set b o) (X.c1+1) (.lst (bK (dz (lv++[lf]) 2)))) (h2:af (σ'.set b o) (X.c1+2) (.lst (bK (cP (lv++[lf]) 2)))):TA (σ'.set b o) X (rs++[σ.next]) (lv++[lf])/\Ch [X.L,X.c1+1,X.c1+2] σ (σ'.set b o):=by
 obtain nd:=H.nd;have hb:b∈[X.L,X.c1+1,X.c1+2]:=by rcases eb with e | e<;>simp[e]
 have c2:Ch [b] σ' (σ'.set b o):=Ch.set _ _ (.head _);have hbl:b<σ.next:=by rcases eb with e | e<;>subst e<;>first | exact H.a1.lt | exact H.n1.lt
 have insb:∀{k:Nat}{ca:aa}{fs:List (Nat × AV)},af σ k (.ins ca fs)->k∉[X.L]/\k∉[b]:=λ{k ca fs} h=>by
  rewrite[aF,aF];refine ⟨h.ne H.L (by intro e;exact (AO.noConfusion e)),?_⟩
  rcases eb with e | e<;>subst e
  ·exact h.ne H.a1 (by intro e;exact (AO.noConfusion e))
  ·exact h.ne H.n1 (by intro e;exact (AO.noConfusion e))
 have mv:∀{k:Nat}{o':AO},af σ k o'->k∉[X.L]/\k∉[b]->af (σ'.set b o) k o':=λh n=>(h.ch N.ch n.1).ch c2 n.2;have lb:X.L∉[b]:=by rewrite[aF];rcases eb with e | e<;>subst e<;>lia
 refine ⟨⟨mv H.t (insb H.t),?_,mv H.r0 (insb H.r0),mv H.c0 ?_,mv H.r1 (insb H.r1),mv H.c1 ?_,h1,h2,by simp[H.len],λj l e=>?_,λl hl=>?_,by simp;(with_reducible exact Nat.succ_lt_succ ‹_›),H.nd⟩,(N.ch.weak λx h=>?_).trans (c2.weak λx h=>?_)⟩
 ·have:=N.rows.ch c2 lb
  simpa using this
 ·simp only[aF];refine ⟨λe=>nd.1 e.symm,?_⟩;rcases eb with e | e<;>subst e<;>lia
 ·simp only[aF];refine ⟨λe=>nd.2.1 e.symm,?_⟩;rcases eb with e | e<;>subst e<;>lia
 ·by_cases hj:j<lv.length
  ·rw[nT hj] at e;(refine aI λkK=>?_;obtain ⟨r,c,e1,h⟩:=H.lf j l e;refine kK ?_;clear kK);obtain ⟨fs,ef⟩:=A0 c l;exact ⟨r,c,Jc e1,mv h (insb (ef▸h))⟩
  ·rw[oe (by (with_reducible exact fV ‹_›))] at e
   obtain hj2:j=lv.length:=by
    have:=(bP.mp e).1;simp at this;lia
   subst hj2;simp at e;subst e;refine ⟨σ.next,σ.next+1,by refine al (oe (by refine al H.len ?_;exact bI _)) ?_;simp[H.len],N.row.ch c2 (by rewrite[aF];(with_reducible exact cA ‹_›))⟩
 ·rcases dH.mp hl with h | h
  ·exact H.tx l h
  ·rw[aF] at h;refine al h ?_;exact hx
 ·rw[aF] at h;erw[h];exact .head _
 ·rw[aF] at h;erw[h];exact hb
include G
theorem Jf{X:TS}{rs:List Nat}{lv:List aZ}(H:TA σ X rs lv)(few:lv.length<99){name uri loc value:List Nat}(hx:Tx name/\Tx uri/\Tx loc/\Tx value)(hn:∀n u l v,aZ.at n u l v∈lv->¬(u=uri/\l=loc))
  (q:∀σ' r,TA σ' X (rs++[r]) (lv++[.at name uri loc value])->Ch [X.L,X.c1+1,X.c1+2] σ σ'->Q (.int (lv.length+2:Nat)) σ'):T P 5 (.con (.ref vK)) [.ref X.t,.int 1,.str name,.str uri,.str loc,.str value] σ Q:=by
 refine (G.fn (rfl:tab vK=some (.fn _ _ _ Aq)) (aq rfl) (aq rfl) ?_).toT;unfold Aq;refine bj (λQ q=>⟨_,fq H.t.eq rfl rfl,(Je G (i:=1) H.t H.L rfl H.r1 rfl q).le (by decide)⟩) ?_
 refine AB (λk ρ σ'=>σ'=σ/\∃a b,ρ=[some (.ref X.t),some (.int 1),some (.str name),some (.str uri),some (.str loc),some (.str value),some (.ref X.r1),a,b]) (λQ q=>(bN H.r1.eq rfl rfl rfl q)) ⟨rfl,_,_,rfl⟩ (λk ρ σ' h=>by refine al h.1 ?_;exact bU H.a1.eq) (λk x ρ σ' K hk z_2 hK=>?_) λρ σ' z_1=>?_
 ·obtain ⟨e,a,b,iC⟩:=z_2;subst σ' iC;obtain ⟨j,hj,rfl⟩:=aL.mp (cj hk);(refine aI λkK=>?_;obtain ⟨i,n,u,l,v,rfl,hi⟩:=AR hj;refine kK ?_;clear kK);(refine aI λkK=>?_;obtain ⟨r,c,er,hr⟩:=H.row hi;refine kK ?_;clear kK);(refine aI λkK=>?_;obtain ⟨tn,tu,tl,tv⟩:=H.tx _ (cj hi);refine kK ?_;clear kK);obtain bA:=hn n u l v (cj hi);refine bj (λQ q=>(bN H.t.eq rfl rfl rfl (li H.L.eq er q))) (bG (λK q=>(bN hr.eq rfl rfl rfl ?_)) (hK _ _ ⟨rfl,_,_,rfl⟩));by_cases h:u=uri
  ·exact dd tu hx.2.1 true (by (erw[decide_eq_true h];ac_rfl)) (bN hr.eq rfl rfl rfl (dd tl hx.2.2.1 false (by rw[decide_eq_false λe=>bA ⟨h,e⟩]) q))
  ·exact dd tu hx.2.1 false (by (erw[decide_eq_false h];ac_rfl)) q
 ·obtain ⟨e,a,b,iC⟩:=z_1;subst σ' iC;refine mj (R:=λv σ'=>v= .int (rs.length+2:Nat)/\nq σ X.L (.ref X.r0:: .ref X.r1::rs.map .ref) (py (σ.next+1) (.at name uri loc value)) σ') (λQ q=>⟨_,fq H.t.eq rfl rfl,ww G (.inr ⟨_,rfl⟩) H.t H.L (by have:=H.few;have:=H.len;simp;lia) λσ' N=>q _ _ ⟨by ((erw[dW];erw[dW]);rw[ay]),N⟩⟩) λv σ' z_3=>?_
  obtain ⟨ev,N⟩:=z_3;subst ev;obtain n1:X.c1+1∉[X.L]:=by rewrite[aF];exact λe=>H.nd.2.2.1 e.symm
  obtain n2:X.c1+2∉[X.L]:=by rewrite[aF];exact λe=>H.nd.2.2.2.1 e.symm
  obtain nr:X.r1∉[X.L]:=by rewrite[aF];exact H.r1.ne H.L (by intro e;exact (AO.noConfusion e))
  obtain ha:=H.a1.ch N.ch n1;obtain ⟨hT,hC⟩:=H.grow (lf:= .at name uri loc value) (b:=X.c1+1) (o:= .lst (bK (dz (lv++[.at name uri loc value]) 2))) hx few N (.inl rfl) ha.set
   ((by rewrite[AZ];exact (H.n1.ch N.ch n2).ch (Ch.set (F:=[X.c1+1]) _ _ (.head _)) (by rewrite[aF];lia)))
  obtain e1:bK (dz (lv++[.at name uri loc value]) 2)=bK (dz lv 2)++[AV.int (rs.length+2:Nat)]:=by
   rewrite[AW];unfold bK;((erw[bq];erw[H.len]);rewrite[pT]);rfl
  rw[e1] at hT hC;refine cI (λQ q=>(bN (H.r1.ch N.ch nr).eq rfl rfl rfl ⟨_,eH ha.eq rfl,(dK ha.eq (by refine al bH ?_;have:=lr lv 2;have:=H.few;unfold bK;rewrite[ay];lia)).builtin q⟩)) (bJ (λQ q=>q) ?_)
  rw[H.len] at hT hC ⊢;exact q _ _ hT hC
theorem Jg{X:TS}{rs:List Nat}{lv:List aZ}(H:TA σ X rs lv)(few:lv.length<99){pre uri:List Nat}(hx:Tx pre/\Tx uri/\pre≠[]/\pre.length<=50)(hn:∀p u,aZ.ns p u∈lv->p≠pre)
  (q:∀σ' r,TA σ' X (rs++[r]) (lv++[.ns pre uri])->Ch [X.L,X.c1+1,X.c1+2] σ σ'->Q (.int (lv.length+2:Nat)) σ'):T P 5 (.con (.ref vL)) [.ref X.t,.int 1,.str pre,.str uri] σ Q:=by
 refine (G.fn (rfl:tab vL=some (.fn _ _ _ Ij)) (aq rfl) (aq rfl) ?_).toT;refine bj (λQ q=>a9 H.t.eq rfl rfl ((Je G (i:=1) H.t H.L rfl H.r1 rfl q).le (by decide))) ?_
 refine AB (λk ρ σ'=>σ'=σ/\∃a,ρ=[some (.ref X.t),some (.int 1),some (.str pre),some (.str uri),some (.ref X.r1),a]) (λQ q=>bN H.r1.eq rfl rfl rfl q) ⟨rfl,_,rfl⟩ (λk ρ σ' h=>by refine al h.1 ?_;exact bU H.n1.eq) (λk x ρ σ' K hk z_4 hK=>?_) λρ σ' z_3=>?_
 ·obtain ⟨e,a,iC⟩:=z_4;subst σ' iC;obtain ⟨j,hj,rfl⟩:=aL.mp (cj hk);obtain ⟨i,p,u,rfl,hi⟩:=AU hj;(refine aI λkK=>?_;obtain ⟨r,c,er,hr⟩:=H.row hi;refine kK ?_;clear kK);obtain tp:=(H.tx _ (cj hi)).1;obtain bA:=hn p u (cj hi);exact bG (λK q=>((bN H.t.eq rfl rfl rfl ((li H.L.eq er (bN hr.eq rfl rfl rfl ((dd tp hx.1 false (decide_eq_false bA).symm q)))))))) (hK _ _ ⟨rfl,_,rfl⟩)
 ·obtain ⟨e,a,iC⟩:=z_3;subst σ' iC;refine mj (R:=λv σ'=>v= .int (rs.length+2:Nat)/\nq σ X.L (.ref X.r0:: .ref X.r1::rs.map .ref) (py (σ.next+1) (.ns pre uri)) σ') (λQ q=>a9 H.t.eq rfl rfl (ww G (.inr ⟨_,rfl⟩) H.t H.L (by have:=H.few;have:=H.len;simp;lia) λσ' N=>q _ _ ⟨by ((erw[dW];erw[dW]);rw[ay]),N⟩)) λv σ' z_4=>?_
  obtain ⟨ev,N⟩:=z_4;subst ev;have n1:X.c1+1∉[X.L]:=by rewrite[aF];exact λe=>H.nd.2.2.1 e.symm
  have n2:X.c1+2∉[X.L]:=by rewrite[aF];exact λe=>H.nd.2.2.2.1 e.symm
  have nr:X.r1∉[X.L]:=by rewrite[aF];exact H.r1.ne H.L (by intro e;exact (AO.noConfusion e))
  have ha:=H.n1.ch N.ch n2;obtain ⟨hT,hC⟩:=H.grow (lf:= .ns pre uri) (b:=X.c1+2) (o:= .lst (bK (cP (lv++[.ns pre uri]) 2))) hx few N (.inr rfl)
   ((by rewrite[AX];exact (H.a1.ch N.ch n1).ch (Ch.set (F:=[X.c1+2]) _ _ (.head _)) (by rewrite[aF];lia))) ha.set
  obtain e1:bK (cP (lv++[.ns pre uri]) 2)=bK (cP lv 2)++[AV.int (rs.length+2:Nat)]:=by
   rewrite[AY];unfold bK;((erw[bq];erw[H.len]);rewrite[pT]);rfl
  rw[e1] at hT hC;refine cI (λQ q=>Tg<| bN (H.r1.ch N.ch nr).eq rfl rfl rfl ⟨_,eH ha.eq rfl,((dK ha.eq (by refine al bH ?_;have:=iY lv 2;have:=H.few;unfold bK;rewrite[ay];lia)).builtin q)⟩) (bJ (λQ q=>q) ?_)
  rw[H.len] at hT hC ⊢;exact q _ _ hT hC
end
end Internal
namespace Internal
open PySem PySem.W PyProof.Rows
noncomputable def ju{α:Type}(lt:Nat->Nat->Bool):KasT α->α
 | .ret a=>a
 | .ask i j k=>ju lt (k (lt i j))
noncomputable def rG{α:Type}(n:Nat)(lt:Nat->Nat->Bool):KasT α->Prop
 | .ret _=>True
 | .ask i j k=>i<n/\j<n/\rG n lt (k (lt i j))
section
variable{n:Nat}{lt:Nat->Nat->Bool}
structure j6(n:Nat)(lt:Nat->Nat->Bool):Prop where
 trans:∀i j k,i<n->j<n->k<n->lt i j=true->lt j k=true->lt i k=true
 total:∀i j,i<n->j<n->i≠j->lt i j=false->lt j i=true
 asym:∀i j,i<n->j<n->lt i j=true->lt j i=false
structure wx(n:Nat)(lt:Nat->Nat->Bool)(l:List Nat):Prop where
 perm:l.Perm (fF n)
 rise:l.Pairwise λa b=>lt a b=true
 lt:∀x∈l,x<n
def Kn(n:Nat)(lt:Nat->Nat->Bool)(R:Nat):Prop:=∀x,eC R x=true->x / 8<n/\x % 8<n/\lt (x / 8) (x % 8)=true
noncomputable abbrev kn(R a b:Nat):Bool:=eC R (Nat.add (Nat.mul 8 a) b)
noncomputable def jv(i B:Nat):Nat->Nat->Nat
 | 0,R=>R
 | a+1,R=>cond (cf a i || kn R a i) (jv i B a (Nat.lor R (jj B (Nat.mul 8 a)))) (jv i B a R)
noncomputable def lu(R j:Nat):Nat:=Nat.lor (Nat.land (Nat.shiftRight R (Nat.mul 8 j)) 255) (jj 1 j)
noncomputable def wy(R:Nat):Nat->Nat->List Nat->Bool
 | m,J1,[]=>cf m 0
 | m,p,a::r=>kn R p a && (eC m a && wy R (Nat.xor m (jj 1 a)) a r)
noncomputable def gB(n:Nat):KasT (Array Nat)->Nat->Bool
 | .ret p,R=>match p.toList with
  | []=>false
  | a::r=>eC (Nat.sub (jj 1 n) 1) a && wy R (Nat.xor (Nat.sub (jj 1 n) 1) (jj 1 a)) a r
 | .ask i j k,R=>gm i n && (gm j n && cond (cf i j) false (cond (kn R i j) (gB n (k true) R) (cond (kn R j i) (gB n (k false) R)
   (gB n (k true) (jv i (lu R j) n R) && gB n (k false) (jv j (lu R i) n R)))))
theorem Ba(a:Nat){b:Nat}(h:b<8):(8*a+b) / 8=a/\(8*a+b) % 8=b:=⟨by (rewrite[Nat.mul_add_div (by decide)];erw[Nat.div_eq_of_lt h]);rfl,(Nat.mul_add_mod ..).trans (Nat.mod_eq_of_lt h)⟩
theorem wz{R a b:Nat}(K:Kn n lt R)(h8:n<8)(hb:b<n)(h:kn R a b=true):a<n/\lt a b=true:=by
 have d:=Ba a (sN hb h8);have:=K (8*a+b) h;rw[d.1,d.2] at this;exact ⟨this.1,this.2.2⟩
theorem wD(L:j6 n lt)(h8:n<8){i j B:Nat}(hi:i<n)(hj:j<n)(hij:lt i j=true)(hB:∀y,eC B y=true->y<n/\(y=j\/lt j y=true)):∀(m:Nat)(R:Nat),m<=n->Kn n lt R->Kn n lt (jv i B m R)
 | 0,R,J1,K=>K
 | a+1,R,hm,K=>by
  refine (?_:Kn n lt (cond _ _ _))
  induction h:(cf a i || kn R a i) using bC with
  | false=>exact wD L h8 hi hj hij hB a R (Nat.le_of_succ_le hm) K
  | true=>
   have hai:lt a j=true:=by
    rcases L7.mp h with h | h
    ·erw[mJ h];exact hij
    ·exact L.trans a i j hm hi hj (wz K h8 hi h).2 hij
   refine wD L h8 hi hj hij hB a _ (Nat.le_of_succ_le hm) λx hx=>?_;rcases L7.mp ((Nat.testBit_or R _ x).symm.trans hx) with hx | hx
   ·exact K x hx
   ·have h2:=(Nat.testBit_shiftLeft B).symm.trans hx;obtain ⟨h3,h4⟩:=gP.mp h2;obtain ⟨y,rfl⟩:=Nat.exists_eq_add_of_le (show 8*a<=x from of_decide_eq_true h3)
    obtain ⟨h5,h6⟩:=hB y (Ce (8*a) y▸h4);have d:=Ba a (sN h5 h8);(erw[d.1];erw[d.2]);refine ⟨hm,h5,?_⟩;rcases h6 with e | e
    ·erw[e];exact hai
    ·exact L.trans a j _ hm hj h5 hai e
theorem Jh{R j:Nat}(h8:n<8)(hj:j<n)(K:Kn n lt R)(y:Nat)(h:eC (lu R j) y=true):y<n/\(y=j\/lt j y=true):=by
 rcases L7.mp ((Nat.testBit_or _ _ y).symm.trans h) with h | h
 ·obtain ⟨h1,h2⟩:=gP.mp ((Nat.testBit_and _ 255 y).symm.trans h);have h2:y<8:=of_decide_eq_true ((Nat.testBit_two_pow_sub_one 8 y).symm.trans h2);have h1:eC R (8*j+y)=true:=(Nat.testBit_shiftRight R).symm.trans h1;have d:=Ba j h2;have h3:=K _ h1;rw[d.1,d.2] at h3;exact ⟨h3.2.1,.inr h3.2.2⟩
 ·have h1:eC (1<<<j) y=true:=h;rw[xy,CO] at h1;have:=of_decide_eq_true h1;exact ⟨this▸hj,.inl this.symm⟩
theorem Ji{f:Nat->Bool}{a:Nat}:∀{l:List Nat},l.Nodup->a∈l->f a=true->(l.filter f).Perm (a::l.filter λx=>Bool.xor (f x) (decide (a=x)))
 | b::r,nd,hm,hf=>by
  have nd:=ee.mp nd;by_cases e:a=b
  ·subst e;(erw[CP hf];erw[qi (by simp[hf])])
   rw[List.filter_congr (q:=λx=>Bool.xor (f x) (decide (a=x))) λx hx=>by rw[decide_eq_false λe:a=x=>nd.1 (e▸hx),Bool.xor_false]]
  ·have ih:=Ji (l:=r) nd.2 ((aV.mp hm).resolve_left e) hf;by_cases hb:f b=true
   ·(erw[CP hb];erw[CP (by simp[hb,e])])
    exact (ih.cons b).trans (.swap ..)
   ·(erw[qi hb];erw[qi (by simp[hb,e])])
    exact ih
theorem Jj{m a:Nat}(ha:a<n)(h:eC m a=true):((fF n).filter (eC m)).Perm (a::(fF n).filter (eC (Nat.xor m (jj 1 a)))):=by
 have:=Ji (f:=eC m) List.nodup_range (sI.mpr ha) h
 rwa [List.filter_congr (p:=λx=>Bool.xor (eC m x) (decide (a=x))) (q:=eC (Nat.xor m (jj 1 a))) λx J=>by
  refine (?_:_=eC (m ^^^ 1<<<a) x);(rewrite[Nat.testBit_xor,xy];erw[CO];ac_rfl)] at this
theorem Jk(L:j6 n lt)(h8:n<8){R:Nat}(K:Kn n lt R):∀(l:List Nat)(m p:Nat),(∀x,eC m x=true->x<n)->p<n->wy R m p l=true->(∀x∈l,lt p x=true/\x<n)/\(l.Pairwise λa b=>lt a b=true)/\l.Perm ((fF n).filter (eC m))
 | [],m,p,hm,hp,h=>by
  have:m=0:=mJ h;subst this;refine ⟨(λx hx=>nomatch hx),.nil,?_⟩;(erw[CH.mpr λx J=>by simp];ac_rfl)
 | a::r,m,p,hm,hp,h=>by
  obtain ⟨h1,h⟩:=gP.mp h;obtain ⟨h2,h⟩:=gP.mp h;have ha:=hm a h2;obtain ⟨i1,i2,i3⟩:=Jk L h8 K r _ a (λx hx=>by
   have hx:eC (m ^^^ 1<<<a) x=true:=hx;rw[Nat.testBit_xor,xy,CO] at hx;by_cases e:a=x
   ·exact e▸ha
   ·rw[decide_eq_false e,Bool.xor_false] at hx;exact hm x hx) ha h
  have hpa:=(wz K h8 ha h1).2;refine ⟨λx hx=>?_,.cons (λx hx=>(i1 x hx).1) i2,(i3.cons a).trans (Jj ha h2).symm⟩;rcases aV.mp hx with e | hx
  ·erw[e];exact ⟨hpa,ha⟩
  ·exact ⟨L.trans p a x hp ha (i1 x hx).2 hpa (i1 x hx).1,(i1 x hx).2⟩
theorem rH(L:j6 n lt)(h8:n<8):∀(t:KasT (Array Nat))(R:Nat),Kn n lt R->gB n t R=true->wx n lt (ju lt t).toList/\rG n lt t
 | .ret p,R,K,h=>by
  refine ⟨?_,trivial⟩;have h:(match p.toList with
   | []=>false
   | a::r=>eC (Nat.sub (jj 1 n) 1) a && wy R (Nat.xor (Nat.sub (jj 1 n) 1) (jj 1 a)) a r)=true:=h
  refine (?_:wx n lt p.toList)
  induction e:p.toList using bQ with
  | nil=>rw[e] at h;exact (eh h)
  | cons a r=>
   rw[e] at h;obtain ⟨h1,h2⟩:=gP.mp h;have all:∀x,eC (Nat.sub (jj 1 n) 1) x=decide (x<n):=λx=>by
    refine (?_:eC (1<<<n - 1) x=_);rw[xy,Nat.testBit_two_pow_sub_one]
   have ha:a<n:=of_decide_eq_true ((all a).symm.trans h1);obtain ⟨i1,i2,i3⟩:=Jk L h8 K r _ a (λx hx=>by
    have hx:eC (Nat.sub (jj 1 n) 1 ^^^ 1<<<a) x=true:=hx;rw[Nat.testBit_xor,xy,CO,all] at hx;by_cases e:a=x
    ·exact e▸ha
    ·rw[decide_eq_false e,Bool.xor_false] at hx;exact of_decide_eq_true hx) ha h2
   refine ⟨?_,.cons (λx hx=>(i1 x hx).1) i2,λx hx=>?_⟩
   ·refine ((i3.cons a).trans (Jj ha h1).symm).trans ?_;(erw[List.filter_eq_self.mpr λx hx=>(all x).trans (decide_eq_true (sI.mp hx))];ac_rfl)
   ·rcases aV.mp hx with e | hx
    ·erw[e];exact ha
    ·exact (i1 x hx).2
 | .ask i j k,R,K,h=>by
  obtain ⟨hi,h⟩:=gP.mp h;obtain ⟨hj,h⟩:=gP.mp h;have hi:=aq hi;have hj:=aq hj
  suffices H:wx n lt (ju lt (k (lt i j))).toList/\rG n lt (k (lt i j)) from ⟨H.1,hi,hj,H.2⟩
  induction e0:cf i j using bC with
  | true=>rw[e0] at h;exact (eh h)
  | false=>
  rw[e0] at h
  induction e1:kn R i j using bC with
  | true=>rw[e1] at h;erw[(wz K h8 hj e1).2];exact rH L h8 _ R K h
  | false=>
  rw[e1] at h
  induction e2:kn R j i using bC with
  | true=>rw[e2] at h;rewrite[L.asym j i hj hi (wz K h8 hi e2).2];exact rH L h8 _ R K h
  | false=>
  rw[e2] at h;obtain ⟨h1,h2⟩:=gP.mp h
  induction e:lt i j using bC with
  | true=>exact rH L h8 _ _ (wD L h8 hi hj e (Jh h8 hj K) n R (bI _) K) h1
  | false=>exact rH L h8 _ _ (wD L h8 hj hi (L.total i j hi hj (eA e0) e) (Jh h8 hi K) n R (bI _) K) h2
noncomputable def nt(t:KasT (Array Nat))(b:Bool):KasT (Array Nat):=match t with
 | .ask _ _ k=>k b
 | t=>t
theorem Ty{n i j R:Nat}{t:KasT (Array Nat)}(e:t= .ask i j (nt t))(b1:gm i n=true)(b2:gm j n=true)(b3:cf i j=false)(b4:kn R i j=false)(b5:kn R j i=false)(x:gB n (nt t true) (jv i (lu R j) n R)=true)(y:gB n (nt t false) (jv j (lu R i) n R)=true):gB n t R=true:=by
 erw[e];refine (?_:(gm i n && (gm j n && cond (cf i j) false (cond (kn R i j) _ (cond (kn R j i) _ (gB n (nt t true) (jv i (lu R j) n R) && gB n (nt t false) (jv j (lu R i) n R))))))=true);(erw[b1];erw[b2];erw[b3];erw[b4];erw[b5];erw[x];erw[y]);rfl
theorem Tz:gB 7 (nt (jN 7) true) (jv 1 (lu 0 0) 7 0)=true:=by kernel_rfl
theorem TD:gB 7 (nt (jN 7) false) (jv 0 (lu 0 1) 7 0)=true:=by kernel_rfl
theorem TE:(List.range' 2 5).all (λn=>gB n (jN n) 0)=true:=by kernel_rfl
theorem TF(hn:2<=n)(h8:n<8):gB n (jN n) 0=true:=by
 by_cases h:n<7
 ·exact jI.mp TE n (List.mem_range'_1.mpr ⟨hn,h⟩)
 ·obtain rfl:n=7:=Nat.le_antisymm (Nat.le_of_lt_succ h8) (fV h);exact Ty (i:=1) (j:=0) (by kernel_rfl) rfl rfl rfl rfl rfl Tz TD
theorem Bb(L:j6 n lt)(hn:2<=n)(h8:n<8):wx n lt (ju lt (jN n)).toList/\rG n lt (jN n):=
 rH L h8 _ 0 (λx hx=>by rw[Nat.zero_testBit] at hx;exact (eh hx)) (TF hn h8)
theorem Jl{α:Type}{cmp:Nat->Nat->(Bool->aj->Prop)->aj->Prop}{s:aj}(hc:∀i j C,i<n->j<n->C (lt i j) s->cmp i j C s){G:α->aj->Prop}:∀t:KasT α,rG n lt t->G (ju lt t) s->t.kasWp cmp G s
 | .ret J1,J2,h=>h
 | .ask i j k,h,g=>hc i j _ h.1 h.2.1 (Jl hc (k (lt i j)) h.2.2 g)
end
end Internal
namespace Internal
open PySem PySem.Calls PySem.W PyProof.Rows
section
variable{prog:dk}{w:bk}{A:bh}{E:ab->aj->Prop}{s:aj}{a:aa}{vs:List ab}{ne:Nat}{κ:SortKind}{lt:Nat->Nat->Bool}
noncomputable def mq(lt:Nat->Nat->Bool)(vs:List ab):List ab:=(ju lt (jN vs.length)).toList.map λi=>vs.getD i iI
structure rI(prog:dk)(w:bk)(A:bh)(h:aE)(κ:SortKind)(lt:Nat->Nat->Bool)(vs:List ab):Prop where
 kind:∀(s':aj)(Q:SortKind->aj->Prop)(E:ab->aj->Prop),(∀b o,h.get? b=some o->frozen o->s'.heap.get? b=some o)->Q κ s'->aw (model prog w) A (keyKind' vs.toArray) Q E s'
 ask:∀(s':aj)(i j:Nat)(Q:Bool->aj->Prop)(E:ab->aj->Prop),(∀b o,h.get? b=some o->frozen o->s'.heap.get? b=some o)->i<vs.length->j<vs.length->Q (lt i j) s'->aw (model prog w) A (keyLt' κ (vs.getD i iI) (vs.getD j iI)) Q E s'
theorem TG{P:PySem.Fin->aj->Prop}(ho:s.heap.get? a=some (cq "list" vs.toArray ne))(h2:2<=vs.length)(h8:vs.length<8)(L:j6 vs.length lt)(K:rI prog w A s.heap κ lt vs)
  (h:∀h' c,(∀b o,b≠a->s.heap.get? b=some o->h'.get? b=some o)->h'.get? a=some (cq "list" (mq lt vs).toArray c)->P (.done (.ret .none)) {s with heap:=h'}):
  aw (model prog w) A (Builtin.«list.sort» ⟨[.ref a],[]⟩) P E s:=by
 have ha:a<s.heap.objs.size:=fG ho;obtain ⟨e1,ho1⟩:∃e1,(s.heap.update a (fK λJ=>(#[]:Array ab))).get? a=some (cq "list" #[] e1):=⟨_,CQ ho λJ=>#[]⟩;have oth:∀b o,b≠a->s.heap.get? b=some o->(((s.heap.update a (fK λJ=>(#[]:Array ab))).push (cq "tuple" vs.toArray 0)).push (cq "list" #[] 0)).get? b=some o:=λb o hb e=>
  cp _ (cp _ ((pY _ _ (jH hb)).trans e))
 have ho6:(((s.heap.update a (fK λJ=>(#[]:Array ab))).push (cq "tuple" vs.toArray 0)).push (cq "list" #[] 0)).get? a=some (cq "list" #[] e1):=cp _ (cp _ ho1);have fz:∀b o,s.heap.get? b=some o->frozen o->(((s.heap.update a (fK λJ=>(#[]:Array ab))).push (cq "tuple" vs.toArray 0)).push (cq "list" #[] 0)).get? b=some o:=λb o e z=>
  oth b o (λc=>by subst c;rw[ho] at e;(have hH:=aO e;clear e;subst hH);rcases z.cls with z | z | z<;>simp at z) e
 rewrite[list_sort_plain];refine ak (listItems_at ho rfl ?_);refine ak (listUpdate_at ho rfl ?_ (by (erw[qb];erw[bH]);lia) (du _))
 refine ak (seqEpoch_at ho1 rfl ?_);refine ak (wpAny_newTuple ?_ (by refine (?_:vs.length<=_);erw[bH];lia))
 refine ak (sR ?_ (du _));refine cM ?_;generalize hs6:({s with heap:=((s.heap.update a (fK λJ=>(#[]:Array ab))).push (cq "tuple" vs.toArray 0)).push (cq "list" #[] 0)}:aj)=s6;have h6:s6.heap=((s.heap.update a (fK λJ=>(#[]:Array ab))).push (cq "tuple" vs.toArray 0)).push (cq "list" #[] 0):=by (erw[aD hs6];ac_rfl)
 dsimp only;have hn2:¬vs.toArray.size<2:=by erw[qb];lia
 (erw[if_neg hn2];erw[if_neg hn2]);rw[<-h6] at ho6 fz oth;refine ak (K.kind s6 _ _ fz ?_);obtain ⟨r1,r3⟩:=Bb L h2 h8;refine ak (aQ (kat_run (Q:=λst' s'=>s'=s6/\arrOf st'=(ju lt (jN vs.length)).map (kas_item (vs.toArray.zip vs.toArray))/\failedOf st'=none) (G:=λp s'=>p=ju lt (jN vs.length)/\s'=s6)
  rfl h2 (sN h8 (by decide)) (λp' st' s' a1 a2 a3 a4=>⟨a4.2,by erw[aD a4.1];exact a2,a3⟩) (Jl (λi j C hi hj hC=>K.ask s6 i j C _ fz hi hj hC) _ r3 ⟨rfl,rfl⟩)) ?_ λJ J e=>e)
 rintro ⟨⟨⟩,st'⟩ s' ⟨es,har,hf⟩
 subst es;dsimp only;have hout:(arrOf st').map (·.2)=(mq lt vs).toArray:=kat_snds rfl har
 have hsz:(mq lt vs).toArray.size=vs.length:=by
  erw[qb];unfold mq;rewrite[ay];exact r1.perm.length_eq.trans sL
 erw[hout];refine ak (seqEpoch_at ho6 rfl ?_);refine ak (listUpdate_at ho6 rfl ?_ (du _) (ck (iH hsz) (by erw[bH];lia)))
 erw[hf];simp only[bne_self_eq_false,jK,if_false];refine aC ?_;have e6:s'={s with heap:=s'.heap}:=by (erw[aD hs6];ac_rfl)
 have:=h (s'.heap.update a (fK λJ=>(mq lt vs).toArray)) _ (λb o hb e=>(pY _ _ (jH hb)).trans (oth b o hb e)) (CQ ho6 λJ=>(mq lt vs).toArray);erw[e6];exact this
end
noncomputable def nu(a b:Str × Str):Bool:=if a.1=b.1 then decide (a.2.cps.toList<b.2.cps.toList) else decide (a.1.cps.toList<b.1.cps.toList)
theorem TH(l b:aa)(n n2:Nat)(x y:Str × Str)(t1 t2 t3 t4:Tok)(bA:x≠y):
  Meets (Builtin.«tuple.__lt__» ⟨[.ref l,.ref b],[]⟩)
   (λA R s=>s.heap.get? l=some {cls:= .type "tuple",data:= .seq #[.str x.1 t1,.str x.2 t2] n}/\s.heap.get? b=some {cls:= .type "tuple",data:= .seq #[.str y.1 t3,.str y.2 t4] n2}/\
    R (.ok (.ret (.bool (nu x y)))) s):=
 .of_wp λprog w A R s h=>by
  obtain ⟨hp,g,d,tk,os⟩:=s;obtain ⟨hl,hb,h⟩:=h;have f2:=AutoSeq1.sub_tuple_tuple;have key:∀{Q:ab->aj->Prop}{A:bh}(x y:Str)(t u:Tok),Q (.bool (decide (x.cps.toList<y.cps.toList))) ⟨hp,g,d,tk,os⟩->aw (model prog w) A (richCompare .Lt (.str x t) (.str y u)) Q (λe s'=>R (.error e) s') ⟨hp,g,d,tk,os⟩:=λx y t u h=>PySem.P.lt_str (by simpa using h)
  wp_walk using wpAny_loadPart' hl,wpAny_loadPart' hb,wpAny_forIn_list _ (λrest b s'=>b.1=none/\s'=⟨hp,g,d,tk,os⟩/\(rest=[((kA x.1 t1:ab),(kA y.1 t3:ab)),(.str x.2 t2,.str y.2 t4)]\/(x.1=y.1/\rest=[(.str x.2 t2,.str y.2 t4)]))) _
  case turn=>
   rintro ⟨p,q⟩ rest b s' ⟨hb',rfl,hz⟩
   rcases hz with hz | ⟨e1,hz⟩
   ·injection hz with h1 h2;injection h1 with h3 h4;subst h3 h4;refine ak (wpAny_eqBool_str ?_);by_cases e1:x.1=y.1
    ·erw[decide_eq_true e1];exact aC ⟨rfl,rfl,.inr ⟨e1,h2⟩⟩
    ·erw[decide_eq_false e1];have e3:nu x y=decide (x.1.cps.toList<y.1.cps.toList):=by unfold nu;(erw[if_neg e1];ac_rfl)
     rw[e3] at h;refine sV (by rfl) ?_
     dsimp only;refine ak (sO (ak (key _ _ _ _ ?_)))
     wp_walk
     exact ⟨_,rfl,h⟩
   ·injection hz with h1 h2;injection h1 with h3 h4;subst h3 h4;have h5:x.2≠y.2:=λc=>bA (iK e1 c);refine ak (wpAny_eqBool_str ?_);erw[decide_eq_false h5];have e3:nu x y=decide (x.2.cps.toList<y.2.cps.toList):=by unfold nu;(erw[if_pos e1];ac_rfl)
    rw[e3] at h;refine sV (by rfl) ?_
    dsimp only;refine ak (sO (ak (key _ _ _ _ ?_)))
    wp_walk
    exact ⟨_,rfl,h⟩
  case fin=>
   rintro ⟨b1,b2⟩ s' ⟨hb',rfl,hz⟩
   rcases hz with hz | ⟨J,hz⟩<;>cases hz
  case h=>
   exact ⟨rfl,rfl,.inl rfl⟩
end Internal
namespace Internal
open PySem PySem.Calls PySem.W PyProof.Rows PySem.SeqAt
noncomputable abbrev K2:=List Nat × List Nat
noncomputable abbrev aJ(k:K2):AV:= .tup [.str k.1,.str k.2]
noncomputable def ltN(a b:K2):Bool:=if a.1=b.1 then decide (a.2<b.2) else decide (a.1<b.1)
theorem pz{a b:List Nat}(h:st a=st b):a=b:=by have:=congrArg (λx:Str=>x.cps.toList) h;simpa [st] using this
theorem TI(a b:K2):nu (st a.1,st a.2) (st b.1,st b.2)=ltN a b:=by
 unfold nu ltN;by_cases h:a.1=b.1
 ·(erw[if_pos (by dsimp only;(erw[h];ac_rfl))];erw[if_pos h]);simp only[kW]
 ·(rewrite[if_neg (λc=>h (pz c))];erw[if_neg h]);simp only[kW]
section
variable{prog:dk}{w:bk}{A:bh}{E:ab->aj->Prop}{s:aj}{μ:List (List aa)}
theorem wF{h:aE}{k:K2}{v:ab}(H:VR h μ (aJ k) v):∃a n t u,v= .ref a/\h.get? a=some {cls:= .type "tuple",data:= .seq #[.str (st k.1) t,.str (st k.2) u] n}:=by
 obtain ⟨a,vs,n,rfl,J,ho,hr⟩:=gZ H;(refine aI λkK=>?_;obtain ⟨v1,v2,e,h1,h2⟩:=iR hr;refine kK ?_;clear kK);(refine aI λkK=>?_;obtain ⟨t,rfl,J⟩:=fj h1;refine kK ?_;clear kK);(refine aI λkK=>?_;obtain ⟨u,rfl,J⟩:=fj h2;refine kK ?_;clear kK);exact ⟨a,n,t,u,rfl,by ((erw[ho];erw[show vs=#[.str (st k.1) t,.str (st k.2) u] from by (rewrite[<-kx];erw[e];ac_rfl)]);ac_rfl)⟩
theorem jw{vs:Array ab}{n:Nat}:frozen {cls:= .type "tuple",data:= .seq vs n}:= .inl ⟨rfl,vs,n,rfl⟩
theorem eq_str(x y:List Nat)(t u:Tok):EqAt A s (.str (st x) t) (.str (st y) u) (decide (x=y)):=by
 have:=EqAt.str_str (A:=A) (s:=s) (st x) t (st y) u;obtain e:(st x==st y)=decide (x=y):=by
  rewrite[sH,beq_iff_eq,decide_eq_true_iff];exact ⟨pz,λh=>by (erw[h];ac_rfl)⟩
 rwa [e] at this
theorem TJ{a b:aa}{k m:K2}{n n':Nat}{t u t' u':Tok}(hu:A.units<ed)(ha:s.heap.get? a=some {cls:= .type "tuple",data:= .seq #[.str (st k.1) t,.str (st k.2) u] n})(hb:s.heap.get? b=some {cls:= .type "tuple",data:= .seq #[.str (st m.1) t',.str (st m.2) u'] n'}):
  EqAt A s (.ref a) (.ref b) (decide (k=m)):=by
 by_cases hab:a=b
 ·subst hab;rw[ha] at hb;injection hb with hb;injection hb with _ _ hb;injection hb with hb _;obtain e1:=congrArg Array.toList hb;simp only[mH,Value.str.injEq] at e1;have:k=m:=iK (pz e1.1.1) (pz e1.2.1.1);refine al (decide_eq_true this) ?_;exact EqAt.same _
 ·refine EqAt.of_refs hab ?_;have:=RcAt.tuples (A:=A) (s:=s) (e:=λj=>if j=0 then decide (k.1=m.1) else decide (k.2=m.2)) ⟨_,ha,rfl,n,rfl⟩ ⟨_,hb,rfl,n',rfl⟩ hu λj h1 h2=>by
   match j,h1,h2 with
   | 0,J1,J2=>exact eq_str _ _ _ _
   | 1,J1,J2=>exact eq_str _ _ _ _
   | j+2,h1,J1=>exact absurd h1 (by simp)
  obtain e:((fF (min (#[kA (st k.1) t,.str (st k.2) u]:Array ab).size (#[kA (st m.1) t',.str (st m.2) u']:Array ab).size)).all (λj=>if j=0 then decide (k.1=m.1) else decide (k.2=m.2)) && (#[kA (st k.1) t,.str (st k.2) u]:Array ab).size==(#[kA (st m.1) t',.str (st m.2) u']:Array ab).size)=decide (k=m):=by
   refine (?_:((decide (k.1=m.1) && (decide (k.2=m.2) && true)) && true)=_);rw[jJ,jJ,sH,bV,decide_eq_true_iff,decide_eq_true_iff,decide_eq_true_iff,Prod.ext_iff]
  rwa [e] at this
theorem TK{a b:aa}{k m:K2}{n n':Nat}{t u t' u':Tok}{Q:ab->aj->Prop}(hu:A.units<ed)(ha:s.heap.get? a=some {cls:= .type "tuple",data:= .seq #[.str (st k.1) t,.str (st k.2) u] n})(hb:s.heap.get? b=some {cls:= .type "tuple",data:= .seq #[.str (st m.1) t',.str (st m.2) u'] n'})
  (bA:k≠m) (q:Q (.bool (ltN k m)) s):aw (model prog w) A (jd .Lt (.ref a) (.ref b)) Q E s:=by
 refine richCompare_meets_room (op:= .Lt) (T:="tuple") ⟨_,ha,rfl⟩ ⟨_,hb,rfl⟩ F.slot_tuple_lt F.entry_tuple_lt (F.args_tuple_lt_2 _ _) (TH a b n n' (st k.1,st k.2) (st m.1,st m.2) t u t' u' (λc=>bA (iK (pz (congrArg Prod.fst c)) (pz (congrArg Prod.snd c))))) ⟨ha,hb,?_⟩ hu;rewrite[TI];exact ⟨(λx=>nomatch x),q⟩
theorem Jm{ks:List K2}{vs:List ab}(hu:A.units+10<ed)(bA:ks≠[])(H:aB s.heap μ (ks.map aJ) vs):rI prog w A s.heap (tuples' true) (λi j=>ltN (ks.getD i ([],[])) (ks.getD j ([],[]))) vs where
 kind:=λs' Q E hk q=>by
  obtain hf:∀(ks:List K2)(vs:List ab),aB s.heap μ (ks.map aJ) vs->∃fs,KatTups s'.heap vs fs/\fs.length=ks.length/\∀f∈fs,∃x t,f=kA x t:=by
   intro ks
   induction ks with
   | nil=>intro vs H;(have hH:=jl H;clear H;subst hH);exact ⟨[],.nil,rfl,λf hf=>by simp at hf⟩
   | cons k ks ih=>
    intro vs H;cases H with
    | cons a r=>
     obtain ⟨fs,h1,h2,h3⟩:=ih _ r;(refine aI λkK=>?_;obtain ⟨b,n,t,u,rfl,ho⟩:=wF a;refine kK ?_;clear kK);refine ⟨.str (st k.1) t::fs,KatTups.cons (hk _ _ ho jw) rfl rfl rfl h1,by simp[h2],λf hf=>?_⟩
     rcases aV.mp hf with rfl | hf
     ·exact ⟨_,_,rfl⟩
     ·exact h3 f hf
  (refine aI λkK=>?_;obtain ⟨fs,h1,h2,h3⟩:=hf ks vs H;refine kK ?_;clear kK);refine kat_kind (T:= .type "str") h1 (by erw[h2];induction ks using bQ<;>simp_all) (λv hv=>?_) (by rfl) q
  obtain ⟨x,t,rfl⟩:=h3 v hv;exact Looks.of_pure rfl
 ask:=λs' i j Q E hk hi hj q=>by
  have hl:=H.length;rw[ay] at hl;have e1:ks[i]? =some (ks.getD i ([],[])):=by refine al dX (al (dh (by lia)) ?_);rfl
  have e2:ks[j]? =some (ks.getD j ([],[])):=by refine al dX (al (dh (by lia)) ?_);rfl
  generalize ks.getD i ([],[])=k at e1 q;generalize ks.getD j ([],[])=m at e2 q;obtain ⟨v1,ev1,r1⟩:=H.get (i:=i) (x:=aJ k) (by refine al bt (al e1 ?_);rfl)
  obtain ⟨v2,ev2,r2⟩:=H.get (i:=j) (x:=aJ m) (by refine al bt (al e2 ?_);rfl)
  rewrite[show vs.getD i iI=v1 by refine al dX (al ev1 ?_);rfl,show vs.getD j iI=v2 by refine al dX (al ev2 ?_);rfl]
  obtain ⟨a,n,t,u,rfl,ha⟩:=wF r1;obtain ⟨b,n',t',u',rfl,hb⟩:=wF r2;refine kat_lt (hk _ _ ha jw) rfl (hk _ _ hb jw) rfl ?_;refine (?_:KatLex prog w A true _ Q [(kA (st k.1) t,kA (st m.1) t'),(.str (st k.2) u,.str (st m.2) u')] 0 s');refine kat_cons (eq_str (A:=A) (s:=s') k.1 m.1 t t' prog w _ _ ?_);by_cases h1:k.1=m.1
  ·erw[decide_eq_true h1];refine kat_yes (kat_cons (eq_str (A:=A) (s:=s') k.2 m.2 u u' prog w _ _ ?_));obtain e:ltN k m=decide (k.2<m.2):=by unfold ltN;(erw[if_pos h1];ac_rfl)
   rw[e] at q;by_cases h2:k.2=m.2
   ·erw[decide_eq_true h2];refine kat_yes (kat_nil ?_);rw[h2,decide_eq_false (List.lt_irrefl _)] at q;exact q
   ·erw[decide_eq_false h2];refine kat_no ?_;refine (?_:aw _ _ (oneLt' false _ _) _ _ _);refine kat_one _ _ (PySem.P.lt_str ?_);erw[show decide ((st k.2).cps.toList<(st m.2).cps.toList)=decide (k.2<m.2) by simp only[kW]]
    exact q
  ·erw[decide_eq_false h1];refine kat_no ?_;obtain e:ltN k m=decide (k.1<m.1):=by unfold ltN;(erw[if_neg h1];ac_rfl)
   rw[e] at q;refine (?_:aw _ _ (oneLt' true _ _) _ _ _);refine oneLt_str ?_;erw[show decide ((st k.1).cps.toList<(st m.1).cps.toList)=decide (k.1<m.1) by simp only[kW]]
   exact q
noncomputable abbrev R3:=K2 × List Nat × List Nat
noncomputable abbrev bw(r:R3):AV:= .tup [aJ r.1,.str r.2.1,.str r.2.2]
theorem Jn(k:K2):ltN k k=false:=by unfold ltN;erw[if_pos rfl];exact decide_eq_false (List.lt_irrefl _)
theorem Bc{h:aE}{r:R3}{v:ab}(H:VR h μ (bw r) v):∃a n b m t u t' u',v= .ref a/\h.get? a=some {cls:= .type "tuple",data:= .seq #[.ref b,.str (st r.2.1) t',.str (st r.2.2) u'] n}/\h.get? b=some {cls:= .type "tuple",data:= .seq #[.str (st r.1.1) t,.str (st r.1.2) u] m}:=by
 obtain ⟨a,vs,n,rfl,J,ho,hr⟩:=gZ H;(refine aI λkK=>?_;obtain ⟨v1,v2,v3,e,h1,h2,h3⟩:=qR hr;refine kK ?_;clear kK);(refine aI λkK=>?_;obtain ⟨b,m,t,u,rfl,hb⟩:=wF h1;refine kK ?_;clear kK);obtain ⟨t',rfl,J⟩:=fj h2;(refine aI λkK=>?_;obtain ⟨u',rfl,J⟩:=fj h3;refine kK ?_;clear kK);exact ⟨a,n,b,m,t,u,t',u',rfl,by ((erw[ho];erw[show vs=#[.ref b,.str (st r.2.1) t',.str (st r.2.2) u'] from by (rewrite[<-kx];erw[e];ac_rfl)]);ac_rfl),hb⟩
theorem TL{rs:List R3}{vs:List ab}(hu:A.units+10<ed)(bA:rs≠[])(hd:(rs.map (·.1)).Nodup)(H:aB s.heap μ (rs.map bw) vs):rI prog w A s.heap (tuples' false) (λi j=>ltN ((rs.map (·.1)).getD i ([],[])) ((rs.map (·.1)).getD j ([],[]))) vs where
 kind:=λs' Q E hk q=>by
  obtain hf:∀(rs:List R3)(vs:List ab),aB s.heap μ (rs.map bw) vs->∃fs,KatTups s'.heap vs fs/\fs.length=rs.length/\∀f∈fs,∃b o,f=jg b/\s'.heap.get? b=some o/\o.cls= .type "tuple":=by
   intro rs
   induction rs with
   | nil=>intro vs H;(have hH:=jl H;clear H;subst hH);exact ⟨[],.nil,rfl,λf hf=>by simp at hf⟩
   | cons k ks ih=>
    intro vs H;cases H with
    | cons a r=>
     obtain ⟨fs,h1,h2,h3⟩:=ih _ r;(refine aI λkK=>?_;obtain ⟨c,n,b,m,t,u,t',u',rfl,ho,hb⟩:=Bc a;refine kK ?_;clear kK);refine ⟨.ref b::fs,KatTups.cons (hk _ _ ho jw) rfl rfl rfl h1,by simp[h2],λf hf=>?_⟩
     rcases aV.mp hf with rfl | hf
     ·exact ⟨_,_,rfl,hk _ _ hb jw,rfl⟩
     ·exact h3 f hf
  obtain ⟨fs,h1,h2,h3⟩:=hf rs vs H;refine kat_kind (T:= .type "tuple") h1 (by erw[h2];induction rs using bQ<;>simp_all) (λv hv=>?_) (by rfl) q
  obtain ⟨b,o,rfl,hb,hc⟩:=h3 v hv;refine al (aD hc) ?_;exact (Looks.ld hb).andThen .now
 ask:=λs' i j Q E hk hi hj q=>by
  have hl:=H.length;rw[ay] at hl;have e1:rs[i]? =some rs[i]:=dh (by lia)
  have e2:rs[j]? =some rs[j]:=dh (by lia)
  have k1:(rs.map (·.1)).getD i ([],[])=rs[i].1:=by refine al dX (al bt (al e1 ?_));rfl
  have k2:(rs.map (·.1)).getD j ([],[])=rs[j].1:=by refine al dX (al bt (al e2 ?_));rfl
  rw[k1,k2] at q;have hij:rs[i].1=rs[j].1->i=j:=λc=>(List.getElem?_inj (by rewrite[ay];lia) hd).mp (by refine al bt (al bt (al e1 (al e2 ?_)));simp[c])
  generalize rs[i]=k at e1 q hij;generalize hm':rs[j]=m at e2 q hij;obtain ⟨v1,ev1,r1⟩:=H.get (i:=i) (x:=bw k) (by refine al bt (al e1 ?_);rfl)
  obtain ⟨v2,ev2,r2⟩:=H.get (i:=j) (x:=bw m) (by refine al bt (al e2 ?_);rfl)
  rewrite[show vs.getD i iI=v1 by refine al dX (al ev1 ?_);rfl,show vs.getD j iI=v2 by refine al dX (al ev2 ?_);rfl]
  obtain ⟨a,n,b,nb,t,u,t',u',rfl,ha,hb⟩:=Bc r1;(refine aI λkK=>?_;obtain ⟨a2,n2,b2,nb2,t2,u2,t2',u2',rfl,ha2,hb2⟩:=Bc r2;refine kK ?_;clear kK);refine kat_lt (hk _ _ ha jw) rfl (hk _ _ ha2 jw) rfl ?_;refine (?_:KatLex prog w A false _ Q [(jg b,jg b2),(.str (st k.2.1) t',.str (st m.2.1) t2'),(.str (st k.2.2) u',.str (st m.2.2) u2')] 0 s');refine kat_cons (TJ (by lia) (hk _ _ hb jw) (hk _ _ hb2 jw) prog w _ _ ?_)
  by_cases h1:k.1=m.1
  ·erw[decide_eq_true h1];obtain hij:=hij h1;subst hij;rw[e1] at e2;obtain rfl:=aO e2;refine kat_yes (kat_cons (eq_str (A:=A) (s:=s') k.2.1 k.2.1 _ _ prog w _ _ ?_));refine al (decide_eq_true rfl) ?_;refine kat_yes (kat_cons (eq_str (A:=A) (s:=s') k.2.2 k.2.2 _ _ prog w _ _ ?_));refine al (decide_eq_true rfl) ?_;refine kat_yes (kat_nil ?_);rw[Jn] at q;exact q
  ·erw[decide_eq_false h1];refine kat_no ?_;refine (?_:aw _ _ (oneLt' false _ _) _ _ _);exact kat_one _ _ (TK (by lia) (hk _ _ hb jw) (hk _ _ hb2 jw) h1 q)
theorem rJ(a b:K2):ltN a b=true↔a.1<b.1\/a.1=b.1/\a.2<b.2:=by
 unfold ltN;by_cases e:a.1=b.1
 ·(erw[if_pos e];rewrite[decide_eq_true_iff]);exact ⟨λh=> .inr ⟨e,h⟩,λh=>h.elim (λc=>absurd (e▸c) (List.lt_irrefl _)) And.right⟩
 ·(erw[if_neg e];rewrite[decide_eq_true_iff]);exact ⟨.inl,λh=>h.elim id λc=>absurd c.1 e⟩
theorem listTri(a b:List Nat):a<b\/a=b\/b<a:=by
 by_cases h1:a<b
 ·exact .inl h1
 ·by_cases h2:b<a
  ·exact .inr (.inr h2)
  ·exact .inr (.inl (List.le_antisymm (List.not_lt.mp h2) (List.not_lt.mp h1)))
theorem Bd{a b c:K2}(h1:ltN a b=true)(h2:ltN b c=true):ltN a c=true:=by
 rw[rJ] at*;rcases h1 with h1 | ⟨e1,h1⟩<;>rcases h2 with h2 | ⟨e2,h2⟩
 ·exact .inl (List.lt_trans h1 h2)
 ·exact .inl (e2▸h1)
 ·exact .inl (e1▸h2)
 ·exact .inr ⟨e1.trans e2,List.lt_trans h1 h2⟩
theorem ltN_tri(a b:K2):ltN a b=true\/a=b\/ltN b a=true:=by
 rcases listTri a.1 b.1 with h | h | h
 ·exact .inl ((rJ _ _).mpr (.inl h))
 ·rcases listTri a.2 b.2 with h' | h' | h'
  ·exact .inl ((rJ _ _).mpr (.inr ⟨h,h'⟩))
  ·exact .inr (.inl (iK h h'))
  ·exact .inr (.inr ((rJ _ _).mpr (.inr ⟨h.symm,h'⟩)))
 ·exact .inr (.inr ((rJ _ _).mpr (.inl h)))
theorem Be{a b:K2}(h:ltN a b=true):ltN b a=false:=by
 induction h2:ltN b a using bC with
 | false=>rfl
 | true=>have:=Bd h h2;rw[Jn] at this;exact (eh this)
theorem rK{ks:List K2}(hd:ks.Nodup):j6 ks.length λi j=>ltN (ks.getD i ([],[])) (ks.getD j ([],[])) where
 trans:=λi j k J J J h1 h2=>Bd h1 h2
 total:=λi j hi hj bA h=>by
  rcases ltN_tri (ks.getD i ([],[])) (ks.getD j ([],[])) with c | c | c
  ·rw[h] at c;exact nomatch c
  ·refine absurd ((List.getElem?_inj hi hd).mp ?_) bA;rw[dX,dX,dh hi,dh hj] at c;refine al (dh hi) (al (dh hj) ?_)
   simpa using c
  ·exact c
 asym:=λi j J J h=>Be h
end
section
variable{prog:dk}{w:bk}{A:bh}{E:ab->aj->Prop}{s:aj}{a:aa}{vs:List ab}{ne:Nat}{κ:SortKind}{lt:Nat->Nat->Bool}
theorem TM{P:PySem.Fin->aj->Prop}(ho:s.heap.get? a=some (cq "list" vs.toArray ne))(h2:vs.length<2)
  (h:∀h' c,(∀b o,b≠a->s.heap.get? b=some o->h'.get? b=some o)->h'.get? a=some (cq "list" vs.toArray c)->P (.done (.ret .none)) {s with heap:=h'}):
  aw (model prog w) A (Builtin.«list.sort» ⟨[.ref a],[]⟩) P E s:=by
 have ha:a<s.heap.objs.size:=fG ho;obtain ⟨e1,ho1⟩:∃e1,(s.heap.update a (fK λJ=>(#[]:Array ab))).get? a=some (cq "list" #[] e1):=⟨_,CQ ho λJ=>#[]⟩;have oth:∀b o,b≠a->s.heap.get? b=some o->(((s.heap.update a (fK λJ=>(#[]:Array ab))).push (cq "tuple" vs.toArray 0)).push (cq "list" #[] 0)).get? b=some o:=λb o hb e=>
  cp _ (cp _ ((pY _ _ (jH hb)).trans e))
 have ho6:(((s.heap.update a (fK λJ=>(#[]:Array ab))).push (cq "tuple" vs.toArray 0)).push (cq "list" #[] 0)).get? a=some (cq "list" #[] e1):=cp _ (cp _ ho1);rewrite[list_sort_plain];refine ak (listItems_at ho rfl ?_);refine ak (listUpdate_at ho rfl ?_ (by (erw[qb];erw[bH]);lia) (du _))
 refine ak (seqEpoch_at ho1 rfl ?_);refine ak (wpAny_newTuple ?_ (by refine (?_:vs.length<=_);erw[bH];lia))
 refine ak (sR ?_ (du _));refine cM ?_;generalize hs6:({s with heap:=((s.heap.update a (fK λJ=>(#[]:Array ab))).push (cq "tuple" vs.toArray 0)).push (cq "list" #[] 0)}:aj)=s6;have h6:s6.heap=((s.heap.update a (fK λJ=>(#[]:Array ab))).push (cq "tuple" vs.toArray 0)).push (cq "list" #[] 0):=by (erw[aD hs6];ac_rfl)
 dsimp only;have hn2:vs.toArray.size<2:=by erw[qb];(with_reducible assumption)
 (erw[if_pos hn2];erw[if_pos hn2]);rw[<-h6] at ho6 oth;refine ak (aC ?_);rewrite[StateT.run_pure];refine ak (aC ?_);dsimp only;have hout:(arrOf (SortSt.mk' general' (vs.toArray.zip vs.toArray) #[] 7 none)).map (·.2)=vs.toArray:=by
  refine (?_:(vs.toArray.zip vs.toArray).map (·.2)=vs.toArray)
  apply kx.mp;simp only[Array.toList_map,Array.toList_zip,lI];exact List.map_snd_zip (bI _)
 erw[hout];refine ak (seqEpoch_at ho6 rfl ?_);refine ak (listUpdate_at ho6 rfl ?_ (du _) (by (erw[qb];erw[bH]);lia))
 simp only[bne_self_eq_false,jK,if_false];refine aC ?_;have e6:s6={s with heap:=s6.heap}:=by (erw[aD hs6];ac_rfl)
 have:=h (s6.heap.update a (fK λJ=>vs.toArray)) _ (λb o hb e=>(pY _ _ (jH hb)).trans (oth b o hb e)) (CQ ho6 λJ=>vs.toArray);erw[e6];exact this
noncomputable def pA(lt:Nat->Nat->Bool)(vs:List ab):List ab:=if vs.length<2 then vs else mq lt vs
theorem Jo{Q:PySem.Fin->aj->Prop}(h64:vs.length<8)(L:2<=vs.length->j6 vs.length lt)(K:2<=vs.length->rI prog w A.in1 s.heap κ lt vs)
  (h:∀h' c,(∀b o,s.heap.get? b=some o->h'.get? b=some o)->h'.get? s.heap.objs.size=some (cq "list" (pA lt vs).toArray c)->Q (.done (.ret (.ref s.heap.objs.size))) {s with heap:=h'}):
  aw (model prog w) A (newList vs>>=λl=>eW [l] (call (.builtin "list.sort") [l] [])>>=λJ=>ret l) Q E s:=by
 refine ak (sR ?_ (by erw[bH];lia))
 have hoL:(s.heap.push (cq "list" vs.toArray 0)).get? s.heap.objs.size=some (cq "list" vs.toArray 0):=fJ _ rfl;have fin:∀h' c,(∀b o,b≠s.heap.objs.size->(s.heap.push (cq "list" vs.toArray 0)).get? b=some o->h'.get? b=some o)->h'.get? s.heap.objs.size=some (cq "list" (pA lt vs).toArray c)->Q (.done (.ret (.ref s.heap.objs.size))) {s with heap:=h'}:=λh' c hk ho=>
  h h' c (λb o e=>hk b o (ce (fG e)) (cp _ e)) ho
 refine ak (cM (p7 slot_list_sort (T:="list") ⟨_,hoL,rfl⟩ entry_list_sort ?_ (args_list_sort _)));by_cases h2:vs.length<2
 ·refine TM hoL h2 λh' c hk ho=>⟨_,rfl,aC (fin h' c hk ?_)⟩;unfold pA;erw[if_pos h2];exact ho
 ·refine TG (κ:=κ) hoL (by (with_reducible exact fV ‹_›)) h64 (L (by (with_reducible exact fV ‹_›))) ?_ λh' c hk ho=>⟨_,rfl,aC (fin h' c hk ?_)⟩
  ·have K':=K (by (with_reducible exact fV ‹_›))
   exact ⟨λs' Q E hk q=>K'.kind s' Q E (λb o e z=>hk b o (cp _ e) z) q,λs' i j Q E hk hi hj q=>K'.ask s' i j Q E (λb o e z=>hk b o (cp _ e) z) hi hj q⟩
  ·unfold pA;erw[if_neg h2];exact ho
end
noncomputable def nv(lt:Nat->Nat->Bool)(xs:List AV):List AV:=if xs.length<2 then xs else (ju lt (jN xs.length)).toList.map λi=>xs.getD i .none
theorem Jp{h:aE}{μ:List (List aa)}{lt:Nat->Nat->Bool}{xs:List AV}{vs:List ab}(H:aB h μ xs vs):aB h μ (nv lt xs) (pA lt vs):=by
 unfold nv pA mq;erw[H.length]
 split
 ·exact H
 ·generalize (ju lt (jN vs.length)).toList=p
  induction p with
  | nil=>exact .nil
  | cons i p ih=>
   refine .cons ?_ ih;refine (?_:VR h μ (xs.getD i .none) (vs.getD i .none))
   induction e:xs[i]? using bf with
   | some x=>
    obtain ⟨v,e2,r⟩:=H.get e;(erw[dX];erw[dX];erw[e];erw[e2]);exact r
   | none=>
    (erw[dX];erw[dX];erw[e];erw[H.get_none e]);exact .none
section
variable{P:PW}{σ:AH}{κ:SortKind}{lt:Nat->Nat->Bool}{xs:List AV}
theorem Jq(h64:xs.length<8)(L:2<=xs.length->j6 xs.length lt):(nv lt xs).length=xs.length:=by
 unfold nv
 split
 ·rfl
 ·rename_i h;exact ay .. |>.trans ((Bb (L (fV h)) (fV h) h64).1.perm.length_eq.trans sL)
theorem Jr{l:Nat}(e:σ.m l=some (.lst xs))(h64:xs.length<8)(L:2<=xs.length->j6 xs.length lt)(K:∀(A:bh)(s:aj)(μ:List (List aa))(vs:List ab),A.units+10<ed->2<=xs.length->aB s.heap μ xs vs->rI P.prog P.w A s.heap κ lt vs):
  BT P (.builtin "sorted") [.ref l] σ (.ref σ.next) (σ.new (.lst (nv lt xs))):=λA s μ vs E hh hu B R hv=>by
 obtain ⟨v,rfl,h⟩:=eY hv;obtain ⟨a,us,n,rfl,el,hl,ho,hr⟩:=dl R e h;obtain ⟨us,rfl⟩:∃l:List ab,us=l.toArray:=⟨us.toList,by simp⟩
 rw[lI] at hr;have hz:=hr.length;refine Calls.call_function_entry kind_sorted plain_sorted entry_sorted (args_sorted1 _) ?_;unfold Builtin.«sorted»;refine ak (m:=checkCount "sorted" 1 1 _) (aC ?_);refine ak (collect_list (fZ ho) ?_ (by erw[aD hz];exact hl))
 generalize hs1:({s with heap:=(s.heap.push (cq "list" #[] 0)).update s.heap.objs.size (fK (· ++us.toArray))}:aj)=s1
 have h1:s1.heap=(s.heap.push (cq "list" #[] 0)).update s.heap.objs.size (fK (· ++us.toArray)):=by (erw[aD hs1];ac_rfl)
 have keep:∀b o,s.heap.get? b=some o->s1.heap.get? b=some o:=λb o q=>by
  (erw[h1];erw[Heap.get?_update_ne _ _ _ _ (ce (fG q))]);exact cp _ q
 have hr1:aB s1.heap μ xs us:=hr.mono (λb o e J=>keep b o e) λJ J e=>e;refine Jo (κ:=κ) (lt:=lt) (by lia) (λc=>hz▸L (by lia)) (λc=>K _ _ μ _ (by refine (?_:A.units+1+1+10<_);lia) (by lia) hr1) λh' c hk ho'=>⟨_,rfl,?_⟩
 have e1:({s1 with heap:=h'}:aj)={s with heap:=h',toks:=s.toks}:=by (erw[aD hs1];ac_rfl)
 erw[e1];refine qQ B R s.toks (λb o q=>hk b o (keep b o q)) ?_ ho' (by simpa using Jp hr) (by erw[Jq h64 L];exact hl)
 induction q:s.heap.get? s1.heap.objs.size using bf with
 | none=>rfl
 | some o=>exact absurd (fG (keep _ _ q)) (iE _)
end
theorem TN{α:Type}{key:α->K2}{a b:List α}(hp:a.Perm b)(ha:a.Pairwise λx y=>ltN (key x) (key y)=true)(hb:b.Pairwise λx y=>ltN (key x) (key y)=true):a=b:=
 hp.eq_of_pairwise (λx y J J h1 h2=>by rw[Be h1] at h2;exact (eh h2)) ha hb
noncomputable abbrev pB{α:Type}(key:α->K2)(as:List α)(i j:Nat):Bool:=ltN ((as.map key).getD i ([],[])) ((as.map key).getD j ([],[]))
theorem range_getD{α:Type}(as:List α)(d:α):(fF as.length).map (λi=>as.getD i d)=as:=by
 apply List.ext_getElem
 ·simp
 ·intro i h1 h2;simp at h1;simp[h1]
theorem Bf{α:Type}{f:α->AV}{key:α->K2}{as ys:List α}(h8:as.length<8)(hd:(as.map key).Nodup)(hp:ys.Perm as)(hs:ys.Pairwise λx y=>ltN (key x) (key y)=true):nv (pB key as) (as.map f)=ys.map f:=by
 unfold nv;rewrite[ay];by_cases h:as.length<2
 ·erw[if_pos h]
  induction as using bQ with
  | nil=>(erw[List.perm_nil.mp hp];ac_rfl)
  | cons x r=>induction r using bQ with
   | nil=>(erw[List.perm_singleton.mp hp];ac_rfl)
   | cons y r=>exact absurd h (Nat.not_lt.mpr (CL 2 r.length))
 erw[if_neg h];have h:=fV h;have L:j6 as.length (pB key as):=(ay key (as:=as))▸rK hd;have S:=(Bb L h h8).1;generalize (ju (pB key as) (jN as.length)).toList=p at S
 induction as using bQ with
 | nil=>cases h
 | cons d r=>
 have e1:p.map (λi=>((d::r).map f).getD i .none)=(p.map λi=>(d::r).getD i d).map f:=by
  erw[cw];refine p4 λi hi=>?_;have hi:=S.lt i hi;refine (?_:((d::r).map f).getD i .none=f ((d::r).getD i d));(erw[dX];erw[dX];erw[bt];erw[dh hi]);rfl
 erw[e1];refine congrArg _ (TN (key:=key) ?_ ?_ hs)
 ·refine List.Perm.trans ?_ hp.symm;have:=S.perm.map λi=>(d::r).getD i d
  rwa [range_getD] at this
 ·refine jL.mpr (S.rise.imp_of_mem λ{a b} ha hb h=>?_);have l1:=S.lt a ha;have l2:=S.lt b hb;unfold pB at h;rw[dX,dX,bt,bt,dh l1,dh l2] at h;(erw[dX];erw[dX];erw[dh l1];erw[dh l2]);exact h
section
variable{P:PW}{σ:AH}
theorem Js{l:Nat}{rs ys:List R3}(e:σ.m l=some (.lst (rs.map bw)))(h64:rs.length<8)(hd:(rs.map (·.1)).Nodup)(hp:ys.Perm rs)(hs:ys.Pairwise λx y=>ltN x.1 y.1=true):
  BT P (.builtin "sorted") [.ref l] σ (.ref σ.next) (σ.new (.lst (ys.map bw))):=by
 erw[aD (Bf (h8:=h64) (f:=bw) (key:=λr:R3=>r.1) hd hp hs)];refine Jr (κ:=tuples' false) e (by rewrite[ay];exact h64) (λJ=>?_) λA s μ vs hu h2 H=>?_
 ·have:=rK hd;rwa [ay] at this ⊢
 ·exact TL hu (by rintro rfl;simp at h2) hd H
theorem Bg(ks:List K2):pB (λk=>k) ks=λi j=>ltN (ks.getD i ([],[])) (ks.getD j ([],[])):=by unfold pB;rw[List.map_id']
theorem TP{l:Nat}{ks ys:List K2}(e:σ.m l=some (.lst (ks.map aJ)))(h64:ks.length<8)(hd:ks.Nodup)(hp:ys.Perm ks)(hs:ys.Pairwise λx y=>ltN x y=true):
  BT P (.builtin "sorted") [.ref l] σ (.ref σ.next) (σ.new (.lst (ys.map aJ))):=by
 erw[aD (Bf (h8:=h64) (f:=aJ) (key:=λk:K2=>k) (by simpa using hd) hp hs)]
 refine Jr (κ:=tuples' true) e (by rewrite[ay];exact h64) (λJ=>?_) λA s μ vs hu h2 H=>?_
 ·have:=rK hd;rewrite[ay,Bg];exact this
 ·rewrite[Bg];exact Jm hu (by rintro rfl;simp at h2) H
theorem TQ{prog:dk}{w:bk}{A:bh}{E:ab->aj->Prop}{s:aj}{d:aa}{es:Array cC}{ep:Nat}{Q:List ab->aj->Prop}(hh:A.handled=none)(lo:(d==gk)=false)(hm:RD s.heap d es ep)(hn:es.size<=aY)
  (h:∀h' tk,(∀b o,s.heap.get? b=some o->h'.get? b=some o)->Q (es.toList.map (·.key)) {s with heap:=h',toks:=tk}):aw (model prog w) A (collect (.ref d)) Q E s:=by
 have hS:(s.heap.push (cq "list" #[] 0)).get? s.heap.objs.size=some (cq "list" #[] 0):=fJ _ rfl;have bA:s.heap.objs.size≠d:=cA hm.lt;have key:∀(R:Result->aj->Prop),(∀h' tk c,(∀b o,s.heap.get? b=some o->h'.get? b=some o)->h'.get? s.heap.objs.size=some (cq "list" (es.toList.map (·.key)).toArray c)->R (.ok (.ret (.ref s.heap.objs.size))) {s with heap:=h',toks:=tk})->
   kq (model prog w) A (.builtin "list.__iadd__" ⟨[.ref s.heap.objs.size,.ref d],[]⟩) R {s with heap:=s.heap.push (cq "list" #[] 0)}:=λR hR=>by
  refine CJ entry_list_iadd' ?_;erw[L5 PySem.F.plain_list_iadd _];refine kdl_extend (R:=R) (IQ lo) hh (s:={s with heap:=s.heap.push (cq "list" #[] 0)}) (hm.at λo e=>cp _ e) s.heap.objs.size bA bA (.ref s.heap.objs.size) 0 hS (λh' tk acc' c' hk hD hacc=>?_) hn;have hae:acc'.toList=es.toList.map (·.key):=by
   apply List.ext_getElem?;intro j;(erw[bt];erw[kz];erw[kz])
   induction q:acc'[j]? using bf with
   | some v=>
    obtain ⟨e',e1,e2⟩:=hacc.2 j v q;(erw[e1];erw[e2]);rfl
   | none=>
    have:es[j]? =none:=by
     have h1:=hacc.1;simp only[LY] at q ⊢;lia
    erw[this];rfl
  exact hR h' tk c' (λb o e=>hk b o (ce (fG e)) (cp _ e)) (by erw[aD hae];simpa using hD)
 unfold collect;refine ak (wpAny_runValue (CJ entry_proto_collect' ?_));refine (?_:aw _ _ (do again (.builtin "list.__iadd__" ⟨[<-newList [],.ref d],[]⟩)) _ _ s)
 refine ak (sR (aC ⟨Code.quiet_builtin _ (by decide+kernel),key _ λh' tk c hk hD=>?_⟩))
 refine (?_:aw (model prog w) A (do
   let o <-load s.heap.objs.size
   match o.data with
   | .seq xs _=>pure xs.toList
   | _=>unsupported "internal:collect") Q E {s with heap:=h',toks:=tk})
 refine ak (mF hD ?_);refine (?_:aw _ _ (pure (es.toList.map (·.key)).toArray.toList) _ _ _)
 erw[lI];exact aC (h h' tk hk)
theorem TR{l:Nat}{kvs:List (AV × AV)}{ks ys:List K2}(hsys:∃o,P.h₀.get? gk=some o)(e:σ.m l=some (.dct kvs))(hk:∀p∈kvs,kindOf p.1=some .ts)(hks:kvs.map (·.1)=ks.map aJ)(h64:ks.length<8)(hd:ks.Nodup)(hp:ys.Perm ks)(hs:ys.Pairwise λx y=>ltN x y=true):
  BT P (.builtin "sorted") [.ref l] σ (.ref σ.next) (σ.new (.lst (ys.map aJ))):=λA s μ vs E hh hu B R hv=>by
 (erw[aD (Bf (h8:=h64) (f:=aJ) (key:=λk:K2=>k) (by simpa using hd) hp hs)];rewrite[Bg])
 obtain ⟨v,rfl,h⟩:=eY hv;obtain ⟨a,kd,rfl,el,bl,hD,h0⟩:=jp R e h;obtain ⟨es,ep,hm,hz,hr⟩:=IR (hD.at hk);rw[hks] at hr;have hzl:=hr.length;rw[ay] at hzl;refine Calls.call_function_entry kind_sorted plain_sorted entry_sorted (args_sorted1 _) ?_;unfold Builtin.«sorted»;refine ak (m:=checkCount "sorted" 1 1 _) (aC ?_);refine ak (TQ hh (oD (h:=s.heap) hsys h0) hm (by lia) λh1 t1 keep=>?_)
 have hr1:aB h1 μ (ks.map aJ) (es.toList.map (·.key)):=hr.mono (λb o e J=>keep b o e) λJ J e=>e
 refine Jo (s:={s with heap:=h1,toks:=t1}) (κ:=tuples' true) (lt:=λi j=>ltN (ks.getD i ([],[])) (ks.getD j ([],[]))) (by lia) (λc=>by erw[aD hzl];exact rK hd) (λc=>Jm (by refine (?_:A.units+1+1+10<_);lia) (by rintro rfl;rw[<-hzl] at c;simp at c) hr1) λh' c hkp ho'=>⟨_,rfl,?_⟩
 refine qQ B R t1 (λb o q=>hkp b o (keep b o q)) ?_ ho' (by simpa using Jp hr) ?_
 ·induction q:s.heap.get? h1.objs.size using bf with
  | none=>rfl
  | some o=>exact absurd (fG (keep _ _ q)) (iE _)
 ·(erw[Jq (by rewrite[ay];exact h64) (λJ=>by rewrite[ay];exact rK hd)];rewrite[ay])
  have:=congrArg kC hks;rw[ay,ay] at this;lia
end
end Internal
namespace Internal
open PySem PySem.Calls PyProof.Rows PySem.W
noncomputable abbrev rL:List Nat:=[120,109,108,110,115]
noncomputable abbrev iZ:List Nat:=[104,116,116,112,58,47,47,119,119,119,46,119,51,46,111,114,103,47,50,48,48,48,47,120,109,108,110,115,47]
noncomputable def nsRow(p u:List Nat):R3:=((iZ,p),rL++[58]++p,u)
noncomputable def eI:List aZ->List R3
 | []=>[]
 | .at n u l v::r=>((u,l),n,v)::eI r
 | .ns ..::r=>eI r
noncomputable def gh:List aZ->List R3
 | []=>[]
 | .at ..::r=>gh r
 | .ns p u::r=>nsRow p u::gh r
theorem rM:∀{lv:List aZ}{s k j:Nat},(dz lv s)[k]? =some j->∃i n u l v,j=s+i/\lv[i]? =some (.at n u l v)/\(eI lv)[k]? =some ((u,l),n,v)
 | .at n u l v::r,s,0,j,h=>by obtain rfl:=aO h;exact ⟨0,n,u,l,v,rfl,rfl,rfl⟩
 | .at n u l v::r,s,k+1,j,h=>by
  obtain ⟨i,n,u,l,v,e,h1,h2⟩:=rM (lv:=r) (s:=s+1) (k:=k) h;exact ⟨i+1,n,u,l,v,by lia,h1,h2⟩
 | .ns ..::r,s,k,j,h=>by
  obtain ⟨i,n,u,l,v,e,h1,h2⟩:=rM (lv:=r) (s:=s+1) (k:=k) h;exact ⟨i+1,n,u,l,v,by lia,h1,h2⟩
theorem Bh:∀{lv:List aZ}{s k j:Nat},(cP lv s)[k]? =some j->∃i p u,j=s+i/\lv[i]? =some (.ns p u)/\(gh lv)[k]? =some (nsRow p u)
 | .ns p u::r,s,0,j,h=>by obtain rfl:=aO h;exact ⟨0,p,u,rfl,rfl,rfl⟩
 | .ns p u::r,s,k+1,j,h=>by
  obtain ⟨i,p,u,e,h1,h2⟩:=Bh (lv:=r) (s:=s+1) (k:=k) h;exact ⟨i+1,p,u,by lia,h1,h2⟩
 | .at ..::r,s,k,j,h=>by
  obtain ⟨i,p,u,e,h1,h2⟩:=Bh (lv:=r) (s:=s+1) (k:=k) h;exact ⟨i+1,p,u,by lia,h1,h2⟩
theorem lw:∀(lv:List aZ)(s:Nat),(dz lv s).length=(eI lv).length
 | [],J1=>rfl
 | .at ..::r,s=>congrArg (· +1) (lw r (s+1))
 | .ns ..::r,s=>lw r (s+1)
theorem rN:∀(lv:List aZ)(s:Nat),(cP lv s).length=(gh lv).length
 | [],J1=>rfl
 | .at ..::r,s=>rN r (s+1)
 | .ns ..::r,s=>congrArg (· +1) (rN r (s+1))
noncomputable def rowsOf(lv:List aZ):List R3:=eI lv++gh lv
theorem d8{α:Type}{xs:List α}{k:Nat}{x:α}(h:xs[k]? =some x):xs.take (k+1)=xs.take k++[x]:=by refine al List.take_add_one (al h ?_);rfl
section
variable{P:PW}{σ:AH}{Q:AV->AH->Prop}(G:Gd P)
include G
theorem TT{X:TS}{rs:List Nat}{lv:List aZ}(H:TA σ X rs lv)(q:∀σ' l,Ch [] σ σ'->af σ' l (.lst ((rowsOf lv).map bw))->Q (.ref l) σ'):T P 4 (.con (.ref vc)) [.ref X.t,.int 1] σ Q:=by
 have few:=H.few;have l1:=lw lv 2;have l2:=lr lv 2;have l3:=rN lv 2;have l4:=iY lv 2;refine (G.fn (rfl:tab vc=some (.fn _ _ _ HF)) (aq rfl) (aq rfl) ?_).toT;have c0:Ch [] σ (σ.new (.lst [])):=Ch.new σ _;have h0:=af.new σ (.lst []);refine bj (λQ q=>q) ?_;generalize σ.new (.lst [])=fc at c0 h0 ⊢;have H0:=H.ch0 c0;refine np (xs:=bK (dz lv 2)) (λk X'=>∀σ' a b,Ch [σ.next] (fc.new (.lst (bK (dz lv 2)))) σ'->af σ' σ.next (.lst (((eI lv).take k).map bw))->X' [some (.ref X.t),some (.int 1),some (.ref σ.next),a,b,none,none,none] σ')
  (λQ q=>a9 H0.t.eq rfl rfl (lq G (rfl:tab rn=_) (i:=1) (n:=0) (ix:=[]) H0.t.eq H0.L.eq rfl H0.r1.eq rfl rfl H0.a1.eq q)) (λX' q=>q _ _ _ (Ch.refl _) (h0.ch (Ch.new (F:=[]) _ _) am))
  (λk σ' a b c J=>bU ((af.new _ _).ch c (ni (cA h0.lt))).eq) (λk x K hk hK σ' a b c h2=>?_) λao a b c h2=>?_
 ·unfold bK at hk;rw[bt] at hk;obtain ⟨j,hj,rfl⟩:=bW.mp hk;(refine aI λkK=>?_;obtain ⟨i,n,u,l,v,rfl,hi,hr3⟩:=rM hj;refine kK ?_;clear kK);have H':=H.ch0 ((c0.trans (Ch.new _ _)).drop c λx hx=> .inr (iH (aF.mp hx).symm));(refine aI λkK=>?_;obtain ⟨r,cc,er,hr⟩:=H'.row hi;refine kK ?_;clear kK);refine cI (λQ q=>⟨_,eH h2.eq rfl,a9 H'.t.eq rfl rfl (dy G (rfl:tab o5=_) H'.t.eq H'.L.eq er hr.eq rfl rfl rfl (a9 H'.t.eq rfl rfl (dy G (rfl:tab rm=_) H'.t.eq H'.L.eq er hr.eq rfl rfl rfl
   (a9 H'.t.eq rfl rfl (dy G (rfl:tab j2=_) H'.t.eq H'.L.eq er hr.eq rfl rfl rfl (a9 H'.t.eq rfl rfl (dy G (rfl:tab o6=_) H'.t.eq H'.L.eq er hr.eq rfl rfl rfl ((dK h2.eq ?_).builtin q))))))))⟩) (hK _ _ λX' q=>q _ _ _ (c.trans (Ch.set _ _ (.head _))) ?_)
  ·exact fy (dE (fw (dA (lw lv 2▸lr lv 2) few))) rfl
  ·refine al (d8 hr3) (al bq ?_);exact h2.set
 have e:(eI lv).take (bK (dz lv 2)).length=eI lv:=Co (by unfold bK;rewrite[ay,lw];exact bI _)
 rw[e] at h2;have c1:=(c0.trans (Ch.new _ _)).drop c λx hx=> .inr (iH (aF.mp hx).symm);clear c H0 h0 c0;have H1:=H.ch0 c1;refine np (xs:=bK (cP lv 2)) (λk X'=>∀σ' a b d,Ch [σ.next] (ao.new (.lst (bK (cP lv 2)))) σ'->af σ' σ.next (.lst ((eI lv++(gh lv).take k).map bw))->X' [some (.ref X.t),some (.int 1),some (.ref σ.next),a,b,d,none,none] σ')
  (λQ q=>a9 H1.t.eq rfl rfl (lq G (rfl:tab vM=_) (i:=1) (n:=0) (ix:=[]) H1.t.eq H1.L.eq rfl H1.r1.eq rfl rfl H1.n1.eq q)) (λX' q=>q _ _ _ _ (Ch.refl _) ((dB (eI lv)).symm▸h2.ch (Ch.new (F:=[]) _ _) am))
  (λk σ' a b d c J=>bU ((af.new _ _).ch c (ni (cA h2.lt))).eq) (λk x K hk hK σ' a b d c h2=>?_) λσ' a b d c' h2=>bJ (λQ q=>q) (q _ _ ((c1.trans (Ch.new _ _)).drop c' λx hx=> .inr (iH (aF.mp hx).symm)) ?_)
 ·unfold bK at hk;rw[bt] at hk;obtain ⟨j,hj,rfl⟩:=bW.mp hk;obtain ⟨i,p,u,rfl,hi,hr3⟩:=Bh hj;have H':=H.ch0 ((c1.trans (Ch.new _ _)).drop c λx hx=> .inr (iH (aF.mp hx).symm));(refine aI λkK=>?_;obtain ⟨r,cc,er,hr⟩:=H'.row hi;refine kK ?_;clear kK);(refine aI λkK=>?_;obtain ⟨tp,tu,pne,pl⟩:=H'.tx _ (cj hi);refine kK ?_;clear kK);refine bj (λQ q=>a9 H'.t.eq rfl rfl (dy G (rfl:tab rm=_) H'.t.eq H'.L.eq er hr.eq rfl rfl rfl q)) ?_;refine bj (λQ q=>dd tp (tx_of rfl) false (decide_eq_false pne).symm ⟨IV (by decide) (by decide),IV (by decide) (by (with_reducible exact ck ‹_› (by decide))),q⟩) ?_
  refine cI (λQ q=>⟨_,eH h2.eq rfl,a9 H'.t.eq rfl rfl (dy G (rfl:tab o6=_) H'.t.eq H'.L.eq er hr.eq rfl rfl rfl ((dK h2.eq ?_).builtin q))⟩) (hK _ _ λX' q=>q _ _ _ _ (c.trans (Ch.set _ _ (.head _))) ?_)
  ·exact fy (dE (pv (dA (lw lv 2▸lr lv 2) few) (fw (dA (rN lv 2▸iY lv 2) few)))) rfl
  ·have e:List.map bw (eI lv++List.take (k+1) (gh lv))=List.map bw (eI lv++List.take k (gh lv))++[bw (nsRow p u)]:=by (erw[d8 hr3];rewrite[<-fU];erw[bq]);rfl
   erw[e];exact h2.set
 ·have e:(gh lv).take (bK (cP lv 2)).length=gh lv:=Co (by unfold bK;rewrite[ay,rN];exact bI _)
  rw[e] at h2;exact h2
end
noncomputable abbrev de:List Nat:=[101]
noncomputable abbrev bL(S:List R3):AV:= .tup [.str fQ,.tup [.str de,.str [],.str de],.str [],.tup (S.map bw),.tup []]
noncomputable abbrev a8(S:List R3):AV:= .tup [.str iz,.str [],.str [],.tup [],.tup [bL S]]
structure nw(S:List R3)(rows:List R3):Prop where
 perm:S.Perm rows
 lt:S.Pairwise λx y=>ltN x.1 y.1=true
 nd:(rows.map (·.1)).Nodup
 few:rows.length<8
section
variable{P:PW}{σ:AH}{Q:AV->AH->Prop}(G:Gd P)
include G
theorem TU{l:Nat}{xs:List AV}(hl:af σ l (.lst xs))(q:Q (.tup [.str iz,.str [],.str [],.tup [],.tup xs]) σ):T P 2 (.con (.ref vb)) [.ref l] σ Q:=by
 refine (G.fn (rfl:tab vb=some (.fn _ _ _ HE)) (aq rfl) (aq rfl) ?_).toT;exact bJ (λQ q=>(kU hl.eq).type q) q
theorem TV{la lc:Nat}{rows S:List R3}(ha:af σ la (.lst (rows.map bw)))(hc:af σ lc (.lst []))(hs:nw S rows){lab:AV}(q:∀σ',Ch [] σ σ'->Q (.tup [.str fQ,lab,.str [],.tup (S.map bw),.tup []]) σ'):T P 2 (.con (.ref u9)) [lab,.ref la,.ref lc] σ Q:=by
 refine (G.fn (rfl:tab u9=some (.fn _ _ _ HD)) (aq rfl) (aq rfl) ?_).toT;obtain hc':=hc.ch (Ch.new (F:=[]) σ (.lst (S.map bw))) am;have hn:=af.new σ (.lst (S.map bw));exact bJ (λQ q=>(Js ha.eq hs.few hs.nd hs.perm hs.lt).builtin<| (kU hn.eq).type<| (kU hc'.eq).type q) (q _ (Ch.new σ _))
theorem TW{X:TS}{rs:List Nat}{lv:List aZ}{S:List R3}{l:Nat}(H:TA σ X rs lv)(hs:nw S (rowsOf lv))(hl:af σ l (.lst []))(q:∀σ',Ch [] σ σ'->Q (bL S) σ'):T P 5 (.con (.ref o0)) [.ref X.t,.int 1,.ref l] σ Q:=by
 refine (G.fn (rfl:tab o0=some (.fn _ _ _ Aj)) (aq rfl) (aq rfl) ?_).toT;refine bj (λQ q=>a9 H.t.eq rfl rfl ((dy G (rfl:tab o4=_) (i:=1) H.t.eq H.L.eq rfl H.r1.eq rfl rfl rfl q).le (by decide))) ?_
 refine bG (λK q=>((dd (tx_of rfl) (tx_of rfl) false rfl q))) ?_;refine d7 (λK q=>((dd (tx_of rfl) (tx_of rfl) true rfl q))) ?_;refine AK (C:=λQ=>∀σ',Ch [] σ σ'->Q (bL S) σ') (λQ q=>?_) λσ'=>q _;refine ((((a9 H.t.eq rfl rfl ((dy G (rfl:tab j2=_) (i:=1) H.t.eq H.L.eq rfl H.r1.eq rfl rfl rfl ?_).le (by decide))))))
 refine (a9 H.t.eq rfl rfl ((dy G (rfl:tab o5=_) (i:=1) H.t.eq H.L.eq rfl H.r1.eq rfl rfl rfl ?_).le (by decide)))
 refine (a9 H.t.eq rfl rfl ((dy G (rfl:tab rm=_) (i:=1) H.t.eq H.L.eq rfl H.r1.eq rfl rfl rfl ?_).le (by decide)))
 refine (((TT G H λσ' la c ha=>?_)));exact (((TV G ha (hl.ch c am) hs λbu c2=>q _ (c.trans c2)).le (by decide)))
theorem TX{X:TS}{rs:List Nat}{lv:List aZ}{l:Nat}{xs:List AV}(H:TA σ X rs lv)(hl:af σ l (.lst xs))(q:Q (.tup [.str iz,.str [],.str [],.tup [],.tup xs]) σ):T P 5 (.con (.ref o0)) [.ref X.t,.int 0,.ref l] σ Q:=by
 refine (G.fn (rfl:tab o0=some (.fn _ _ _ Aj)) (aq rfl) (aq rfl) ?_).toT;refine bj (λQ q=>a9 H.t.eq rfl rfl ((dy G (rfl:tab o4=_) (i:=0) H.t.eq H.L.eq rfl H.r0.eq rfl rfl rfl q).le (by decide))) ?_
 refine d7 (λK q=>((dd (tx_of rfl) (tx_of rfl) true rfl q))) ?_;exact bJ (λQ q=>((TU G hl q).le (by decide))) q
theorem Jt{X:TS}{rs:List Nat}{lv:List aZ}(H:TA σ X rs lv){ae:AH}(c:Ch [] σ ae){i a b r l:Nat}{cs os:List AV}{fs:List (Nat × AV)}(ha:af ae a (.lst [.int i]))(hb:af ae b (.lst os))(hab:a≠b)(ga:σ.next<=a)(gb:σ.next<=b)(hos:os.length<10)(hcs:cs.length<10)
  (er:(AV.ref X.r0:: .ref X.r1::rs.map .ref)[i]? =some (.ref r)) (hr:∀ae,Ch [] σ ae->af ae r (.ins eR fs)) (el:lk cO fs=some (.ref l)) (hl:∀ae,Ch [] σ ae->af ae l (.lst cs)) {x5 x6:Option AV} {x4:Option AV} {K:Fl->ac->AH->Prop}
  (q:∀σ',Ch [] σ σ'->af σ' a (.lst cs)->af σ' b (.lst (os++[.int i]))->K .next [some (.ref X.t),some (.int 0),some (.ref a),some (.ref b),some (.int i),x5,x6] σ'):
  aM P S0 5 (.cons (.asg (.loc 4) (.meth (.loc 2) iV .nil)) (.cons (.expr (.meth (.loc 3) br (.cons (.loc 4) .nil))) (.cons (.expr (.meth (.loc 2) uL (.cons (.meth (.loc 0) cO (.cons (.loc 4) .nil)) .nil))) .nil))) [some (.ref X.t),some (.int 0),some (.ref a),some (.ref b),x4,x5,x6] ae K:=by
 refine bj (λQ q=>j5 ha.eq rfl ((qT (xs:=[]) ha.eq).builtin q)) ?_;obtain c1:Ch [] σ (ae.set a (.lst [])):=c.own ga;obtain ha1:=ha.set (p:= .lst []);have hb1:=hb.ch (Ch.set (F:=[a]) ae (.lst []) (.head _)) (by rewrite[aF];exact λe=>hab e.symm)
 generalize (ae.set a (.lst []))=ao at c1 ha1 hb1 ⊢;refine cI (λQ q=>j5 hb1.eq rfl ((dK hb1.eq (by erw[bH];(with_reducible exact bX ‹_› (by decide)))).builtin q)) ?_
 have c2:Ch [] σ (ao.set b (.lst (os++[.int i]))):=c1.own gb;obtain hb2:=hb1.set (p:= .lst (os++[.int i]));have ha2:=ha1.ch (Ch.set (F:=[b]) ao (.lst (os++[.int i])) (.head _)) (by rewrite[aF];exact hab)
 generalize (ao.set b (.lst (os++[.int i])))=aA at c2 ha2 hb2 ⊢;obtain H3:=H.ch0 c2;obtain ha3:=ha2.ch (Ch.new (F:=[]) aA (.lst cs)) am;obtain hn:=af.new aA (.lst cs);refine cI (λQ q=>(⟨_,eH ha2.eq rfl,(a9 H3.t.eq rfl rfl ((lq G (rfl:tab o7=_) (n:=0) (ix:=[]) H3.t.eq H3.L.eq er (hr _ c2).eq el rfl (hl _ c2).eq (((EN ha3.eq hn.eq (by erw[bH];simp;lia)).builtin q))).le (by decide)))⟩)) ?_
 obtain hb3:=hb2.ch (Ch.new (F:=[]) aA (.lst cs)) am;exact q _ ((c2.trans (Ch.new _ _)).own ga) ha3.set (hb3.ch (Ch.set (F:=[a]) _ _ (.head _)) (by rewrite[aF];exact λe=>hab e.symm))
omit G in
theorem Ju{cs:List AV}{σ':AH}(c:Ch [σ.next+1] ((σ.new (.lst cs)).new (.lst [])) σ'):Ch [] σ σ':=((Ch.new σ _).trans (Ch.new _ _)).drop c λx hx=> .inr (aF.mp hx▸jc _)
theorem Jv{X:TS}{rs:List Nat}{lv:List aZ}(H:TA σ X rs lv){i r l D:Nat}{cs ws:List AV}{kvs:List (AV × AV)}{fs:List (Nat × AV)}(hd:af σ D (.dct kvs))(hcs:cs.length<10)
  (er:(AV.ref X.r0:: .ref X.r1::rs.map .ref)[i]? =some (.ref r)) (hr:af σ r (.ins eR fs)) (el:lk cO fs=some (.ref l)) (hl:af σ l (.lst cs))
  (hk:∀(k:Nat)(x:AV),cs[k]? =some x->∃w,ws[k]? =some w/\fY kvs x/\cy kvs x=some w) (hw:ws.length=cs.length) {x0 x2 x3 x6:Option AV}
  (q:∀σ' l,Ch [] σ σ'->af σ' l (.lst ws)->Q (.ref l) σ'):
  wE P S0 5 (.comp (.sub (.loc 5) (.cl 1)) (.cons (.cl 1) (.meth (.loc 0) cO (.cons (.loc 4) .nil)) .nil .nil) 3) [some (.ref X.t),x0,x2,x3,some (.int i),some (.ref D),x6] [] σ Q:=by
 refine I9 (f:= .ref σ.next) (σ':=σ.new (.lst cs)) (xs:=cs) (λk X'=>∀σ' a b c,Ch [σ.next+1] ((σ.new (.lst cs)).new (.lst [])) σ'->af σ' (σ.next+1) (.lst (ws.take k))->X' [a,b,c] σ')
  (λQ q=>a9 H.t.eq rfl rfl ((lq G (rfl:tab o7=_) (n:=0) (ix:=[]) H.t.eq H.L.eq er hr.eq el rfl hl.eq q).le (by decide))) (bU (af.new σ _).eq) (λX' q=>q _ _ _ _ (Ch.refl _) (af.new _ _))
  (λk σ' a b e c J=>bU (((af.new σ _).ch (Ch.new (F:=[]) (σ.new (.lst cs)) (.lst [])) am).ch c (ni (ce (jh _)))).eq)
  (λk x K hx hK σ' a b e c h2=>?_) λσ' a b e c h2=>q _ _ (Ju c) (by rw[<-hw,ez] at h2;exact h2)
 (refine aI λkK=>?_;obtain ⟨w,ew,hs,hg⟩:=hk k x hx;refine kK ?_;clear kK);refine ⟨rfl,.inr ⟨kvs,w,(hd.ch (Ju c) am).eq,hs,hg,_,h2.eq,?_,hK _ _ λX' q=>q _ _ _ _ (c.trans (Ch.set _ _ (.head _))) ?_⟩⟩
 ·exact fy (fw (hw.symm▸hcs)) rfl
 ·erw[d8 ew];exact h2.set
omit G in
theorem Jw(a b:AV):dset [(.int 1,a)] (.int 0) b=[(.int 1,a),(.int 0,b)]:=if_neg nofun
theorem Jx{X:TS}{rs:List Nat}{lv:List aZ}{S:List R3}(H:TA σ X rs lv)(hs:nw S (rowsOf lv))(q:∀σ',Ch [] σ σ'->Q (a8 S) σ'):T P 6 (.con (.ref vd)) [.ref X.t,.int 0] σ Q:=by
 refine (G.fn (rfl:tab vd=some (.fn _ _ _ HG)) (aq rfl) (aq rfl) ?_).toT;refine gA (v:= .tup [.ref σ.next,.ref (σ.next+1)]) (σ':=(σ.new (.lst [.int 0])).new (.lst [])) (λQ q=>q) rfl ?_;have c1:Ch [] σ ((σ.new (.lst [.int 0])).new (.lst [])):=(Ch.new σ _).trans (Ch.new _ _);have ha:=(af.new σ (.lst [.int 0])).ch (Ch.new (F:=[]) (σ.new (.lst [.int 0])) (.lst [])) am;have hb:af ((σ.new (.lst [.int 0])).new (.lst [])) (σ.next+1) (.lst []):=af.new (σ.new (.lst [.int 0])) (.lst []);generalize (σ.new (.lst [.int 0])).new (.lst [])=ae at c1 ha hb ⊢;have hab:σ.next≠σ.next+1:=ce (jh _);refine rE (λK q=>ge ha true rfl q) λK hK=>Jt G H (c1.trans (Ch.new _ _)) (ha.ch (Ch.new (F:=[]) _ _) am) (hb.ch (Ch.new (F:=[]) _ _) am) hab (bI _) (jc _) (by decide) (cs:=[.int 1]) (by decide) (i:=0) rfl (λJ c=>H.r0.ch c am) rfl (λJ c=>H.c0.ch c am) λao c2 ha hb=>hK _ _ ?_
 refine rE (λK q=>ge ha true rfl q) λK hK=>Jt G H (c2.trans (Ch.new _ _)) (ha.ch (Ch.new (F:=[]) _ _) am) (hb.ch (Ch.new (F:=[]) _ _) am) hab (bI _) (jc _) (by decide) (cs:=[]) (by decide) (i:=1) rfl (λJ c=>H.r1.ch c am) rfl (λJ c=>H.c1.ch c am) λaA c3 ha hb=>hK _ _ ?_
 refine I7 (λK q=>ge ha false rfl q) ?_;have c4:Ch [] σ (aA.new (.lst [])):=c3.trans (Ch.new _ _);have h4:=hb.ch (Ch.new (F:=[]) aA (.lst [])) am;generalize aA.new (.lst [])=aW at c4 h4 ⊢;refine bj (v:= .ref aW.next) (σ':=aW.new (.dct [])) (λQ q=>q) ?_;have c5:Ch [] σ (aW.new (.dct [])):=c4.trans (Ch.new _ _);have h5:=h4.ch (Ch.new (F:=[]) aW (.dct [])) am;have hd:=af.new aW (.dct []);have gd:σ.next<=aW.next:=c4.le;generalize aW.new (.dct [])=ct at c5 h5 hd ⊢;generalize aW.next=D at hd gd ⊢;have c6:Ch [] σ (ct.new (.lst [.int 1,.int 0])):=c5.trans (Ch.new _ _);have hf:=af.new ct (.lst [.int 1,.int 0]);have n:ct.next∉[D]:=ni (cA hd.lt);have hd:=hd.ch (Ch.new (F:=[]) ct (.lst [.int 1,.int 0])) am;clear c1 c2 c3 c4 c5 ha hb h4;refine I6 (f:= .ref ct.next) (x:= .int 1) (y:= .int 0) (σ':=ct.new (.lst [.int 1,.int 0])) (λQ q=>⟨_,_,h5.eq,rfl,q⟩) (bU hf.eq) λK hK=>?_;clear h5;generalize ct.new (.lst [.int 1,.int 0])=dT at c6 hf hd ⊢;generalize ct.next=F at hf n hK ⊢;have H':=H.ch0 c6;refine ml (C:=λQ=>∀σ',Ch [] dT σ'->Q (bL S) σ') (λQ q=>Jv G H' (ws:=[]) hd (by decide) (i:=1) rfl H'.r1 rfl H'.c1 (λk x h=>nomatch h) rfl λσ' l5 c h5=>TW G (H'.ch0 c) hs h5 λcU c'=>q _ (c.trans c')) λgi c7=>?_
 have hd7:=hd.ch c7 am;have hf8:=(hf.ch c7 am).ch (Ch.set (F:=[D]) gi (.dct [(.int 1,bL S)]) (.head _)) n;have c8:=(c6.trans c7).own (o:= .dct [(.int 1,bL S)]) gd;have hd8:=hd7.set (p:= .dct [(.int 1,bL S)]);refine rC rfl rfl hd7.eq ⟨.i,rfl,λp hp=>nomatch hp⟩ (by decide) (hK _ _ (bU hf8.eq) λL hL=>?_)
 have e:gi.set D (.dct (dset [] (.int 1) (bL S)))=gi.set D (.dct [(.int 1,bL S)]):=rfl;erw[e];generalize gi.set D (.dct [(.int 1,bL S)])=gJ at hf8 c8 hd8 ⊢;clear H' hK hd hf c6 c7 hd7;have H':=H.ch0 c8;have hk:∀p∈[(AV.int 1,bL S)],kindOf p.1=some .i:=λp hp=>aF.mp hp▸rfl;refine ml (C:=λQ=>∀σ',Ch [] gJ σ'->Q (a8 S) σ') (λQ q=>Jv G H' (ws:=[bL S]) hd8 (by decide) (i:=0) rfl H'.r0 rfl H'.c0 (λk x h=>?_) rfl λσ' l5 c h5=>TX G (H'.ch0 c) h5 (q _ c)) λpR c9=>?_
 ·cases k with
  | zero=>obtain rfl:=aO h;exact ⟨_,rfl,⟨.i,rfl,hk⟩,if_pos rfl⟩
  | succ k=>exact nomatch h
 have hd9:=hd8.ch c9 am;refine rC rfl rfl hd9.eq ⟨.i,rfl,hk⟩ (by erw[bH];exact xD nofun) (hL _ _ (bU ((hf8.ch c9 am).ch (Ch.set (F:=[D]) _ _ (.head _)) n).eq) ?_)
 refine bJ (λQ q=> .inr ⟨_,a8 S,hd9.set.eq,⟨.i,rfl,?_⟩,?_,q⟩) (q _ ((c8.trans c9).own gd))
 ·rewrite[Jw];intro p hp;rcases aV.mp hp with e | hp
  ·erw[e];rfl
  ·erw[aF.mp hp];rfl
 ·rewrite[Jw];exact (if_neg nofun).trans (if_pos rfl)
end
structure T0(σ:AH)(t L r0 c0:Nat):Prop where
 ht:af σ t (dF L)
 hL:af σ L (.lst [.ref r0])
 hr:af σ r0 (eS iz [] [] [] [] .none c0)
 hc:af σ c0 (.lst [])
 nd:L≠c0
noncomputable def leafOf(r:R3):aZ:=if r.1.1=iZ then .ns r.1.2 r.2.2 else .at r.2.1 r.1.1 r.1.2 r.2.2
def Bi(r:R3):Prop:=Tx r.1.1/\Tx r.1.2/\Tx r.2.1/\Tx r.2.2/\(r.1.1=iZ->r.1.2≠[]/\r.1.2.length<=50)
section
variable{P:PW}{σ:AH}{Q:AV->AH->Prop}(G:Gd P)
include G
theorem Jy{t L r0 c0:Nat}(H:T0 σ t L r0 c0)(q:∀σ',TA σ' ⟨t,L,r0,c0,σ.next,σ.next+1⟩ [] []->Ch [L,c0] σ σ'->Q (.int 1) σ'):T P 6 (.con (.ref rl)) [.ref t,.int 0,.str de,.str [],.str de] σ Q:=by
 refine Tw G (i:=0) (cs:=[]) H.ht H.hL (xD (by simp)) rfl H.hr rfl rfl rfl H.hc (by decide) H.nd.symm λσ' N=>?_
 obtain net:t∉[L]:=ni (H.ht.ne H.hL nofun);obtain ner:r0∉[L]:=ni (H.hr.ne H.hL nofun);obtain nec:c0∉[L]:=ni H.nd.symm;obtain c2:Ch [c0] σ' (σ'.set c0 (.lst [.int 1])):=Ch.set _ _ (.head _);obtain hc:=(H.hc.ch N.ch nec).set (p:= .lst [.int 1]);obtain l1:=H.hL.lt;have l2:=H.hc.lt;obtain hn:∀i,σ.next+i∉[c0]:=λi h=>by rw[aF] at h;lia
 refine q _ ⟨(H.ht.ch N.ch net).ch c2 ?_,N.rows.ch c2 ?_,(H.hr.ch N.ch ner).ch c2 ?_,hc,N.row.ch c2 (hn 0),N.l1.ch c2 (hn 1),N.l2.ch c2 (hn 2),N.l3.ch c2 (hn 3),rfl,λj lf e=>by simp at e,λJ h=>by simp at h,by decide,?_⟩ ?_
 ·exact ni (H.ht.ne H.hc nofun)
 ·exact ni H.nd
 ·exact ni (H.hr.ne H.hc nofun)
 ·exact ⟨H.nd,by dsimp only;lia,by dsimp only;lia,by dsimp only;lia,by dsimp only;lia,by dsimp only;lia⟩
 ·exact (N.ch.weak λx h=>by rw[aF] at h;erw[h];exact .head _).trans (c2.weak λx h=>by rw[aF] at h;erw[h];exact .tail _ (.head _))
theorem TY{t L r0 c0:Nat}(H:T0 σ t L r0 c0){S:List R3}(hok:∀r∈S,Bi r)(hnd:(S.map (·.1)).Nodup)(few:S.length<90)
  (q:∀σ' rs,TA σ' ⟨t,L,r0,c0,σ.next,σ.next+1⟩ rs (S.map leafOf)->Ch [L,c0] σ σ'->Q (.int 1) σ'):T P 7 (.con (.ref ve)) [.ref t,.int 0,bL S] σ Q:=by
 refine (G.fn (rfl:tab ve=some (.fn _ _ _ HH)) (aq rfl) (aq rfl) ?_).toT;refine bj (λQ q=>(((dp (i:=0) rfl q)))) ?_;refine bG (λK q=>((dd (tx_of rfl) (tx_of rfl) false rfl q))) ?_;refine bG (λK q=>((dd (tx_of rfl) (tx_of rfl) false rfl q))) ?_;refine bG (λK q=>((dd (tx_of rfl) (tx_of rfl) false rfl q))) ?_;refine gA (λQ q=>(((dp (i:=1) rfl q)))) rfl ?_;refine dQ (C:=λQ=>∀σ',TA σ' ⟨t,L,r0,c0,σ.next,σ.next+1⟩ [] []->Ch [L,c0] σ σ'->Q (.int 1) σ') (λQ q=>a9 H.ht.eq rfl rfl (Jy G H q)) λae H1 c1=>?_;refine mo (f:= .tup (S.map bw)) (xs:=S.map bw) (λk X=>∀σ' rs a b c,Ch [L,c0] σ σ'->TA σ' ⟨t,L,r0,c0,σ.next,σ.next+1⟩ rs ((S.take k).map leafOf)->X [some (.ref t),some (.int 0),some (bL S),some (.str fQ),some (.str de),some (.str []),some (.str de),some (.int 1),a,b,c,none,none,none,none,none] σ')
  (λQ q=>dp (i:=3) rfl q) (λX q=>q _ _ _ _ _ c1 H1) (λJ J J J J J J J=>rfl) (λk x K hk hK σ' rs a1 a2 a3 c H'=>?_) λσ' rs a b e c H'=>bJ (λQ q=>q) (q _ _ (by rw[ay,ez] at H';exact H') c)
 ·rw[bt] at hk;obtain ⟨r,er,rfl⟩:=bW.mp hk;have hr:=hok r (cj er);have bl:((S.take k).map leafOf).length<99:=dE (fw (wl few rfl));have apart:∀r'∈S.take k,r'.1≠r.1:=λr' h' e=>by
   obtain ⟨bD,er'⟩:=bP.mp er;obtain e2:S=S.take k++r::S.drop (k+1):=by (erw[aD er'];rw[sW,kE])
   rw[e2,bq,eL] at hnd;exact hnd.2.2 r'.1 (aL.mpr ⟨r',h',rfl⟩) r.1 (.head _) e
  have more:∀{ao:AH}{rs':List Nat},TA ao ⟨t,L,r0,c0,σ.next,σ.next+1⟩ rs' ((S.take k).map leafOf++[leafOf r])->TA ao ⟨t,L,r0,c0,σ.next,σ.next+1⟩ rs' ((S.take (k+1)).map leafOf):=λh=>by
   refine al (d8 er) (al bq ?_);exact h
  have chg:∀{ao:AH},Ch [L,σ.next+1+1,σ.next+1+2] σ' ao->Ch [L,c0] σ ao:=λh=>c.drop h λx hx=>by
   rcases aV.mp hx with e | hx
   ·exact .inl (by erw[e];exact .head _)
   ·right
    rcases aV.mp hx with e | hx
    ·lia
    ·rw[aF] at hx;lia
  by_cases h:r.1.1=iZ
  ·have el:leafOf r= .ns r.1.2 r.2.2:=by unfold leafOf;(erw[if_pos h];ac_rfl)
   refine d7 (λK q=>(((dp (i:=0) rfl ((dd hr.1 (tx_of rfl) true (decide_eq_true h).symm q)))))) ?_;refine ln (C:=λQ=>∀v ao rs',TA ao ⟨t,L,r0,c0,σ.next,σ.next+1⟩ rs' ((S.take k).map leafOf++[leafOf r])->Ch [L,σ.next+1+1,σ.next+1+2] σ' ao->Q v ao) (λQ q=>(⟨_,fq H'.t.eq rfl rfl,dp (i:=1) rfl<| (Jg G H' bl ⟨hr.2.1,hr.2.2.2.1,hr.2.2.2.2 h⟩ (λp u hm=>?_) λao r2 h2 c2=>q _ _ _ (el▸h2) c2).le (by decide)⟩)) λv ao rs' h2 c2=>hK _ _ λX q=>q _ _ _ _ _ (chg c2) (more h2)
   obtain ⟨r',hr',e⟩:=aL.mp hm;intro ep;unfold leafOf at e
   split at e
   ·rename_i h';cases e;exact apart r' hr' (iK (h'.trans h.symm) ep)
   ·exact (aZ.noConfusion e)
  ·have el:leafOf r= .at r.2.1 r.1.1 r.1.2 r.2.2:=by unfold leafOf;(erw[if_neg h];ac_rfl)
   refine lm (λK q=>(((dp (i:=0) rfl ((dd hr.1 (tx_of rfl) false (decide_eq_false h).symm q)))))) ?_;refine ln (C:=λQ=>∀v ao rs',TA ao ⟨t,L,r0,c0,σ.next,σ.next+1⟩ rs' ((S.take k).map leafOf++[leafOf r])->Ch [L,σ.next+1+1,σ.next+1+2] σ' ao->Q v ao) (λQ q=>(⟨_,fq H'.t.eq rfl rfl,dp (i:=0) rfl<| dp (i:=1) rfl<| (Jf G H' bl ⟨hr.2.2.1,hr.1,hr.2.1,hr.2.2.2.1⟩ (λn u l v hm=>?_) λao r2 h2 c2=>q _ _ _ (el▸h2) c2).le (by decide)⟩)) λv ao rs' h2 c2=>hK _ _ λX q=>q _ _ _ _ _ (chg c2) (more h2)
   obtain ⟨r',hr',e⟩:=aL.mp hm
   rintro ⟨e1,e2⟩
   unfold leafOf at e
   split at e
   ·exact (aZ.noConfusion e)
   ·cases e;exact apart r' hr' (iK e1 e2)
omit G in
theorem T0.ch{t L r0 c0:Nat}{σ σ':AH}(H:T0 σ t L r0 c0)(c:Ch [] σ σ'):T0 σ' t L r0 c0:=⟨H.ht.ch c am,H.hL.ch c am,H.hr.ch c am,H.hc.ch c am,H.nd⟩
theorem TZ{t L r0 c0:Nat}(H:T0 σ t L r0 c0){S:List R3}(hok:∀r∈S,Bi r)(hnd:(S.map (·.1)).Nodup)(few:S.length<90)
  (q:∀σ' rs r1 c1,TA σ' ⟨t,L,r0,c0,r1,c1⟩ rs (S.map leafOf)->Ch [L,c0] σ σ'->Q (.int 1) σ'):T P 8 (.con (.ref vf)) [.ref t,.int 0,a8 S] σ Q:=by
 refine (G.fn (rfl:tab vf=some (.fn _ _ _ HI)) (aq rfl) (aq rfl) ?_).toT;refine bj (v:= .ref σ.next) (σ':=(σ.new (.lst [])).set σ.next (.lst [.tup [.int 0,bL S]])) (λQ q=>dp (i:=0) rfl (iy (tx_of rfl) (tx_of rfl) true rfl
  (I5 (σ':=σ) (f:= .tup [bL S]) (x:=bL S) (λQ q=>dp (i:=4) rfl ⟨rfl,rfl,rfl,q⟩) rfl rfl λK hK=>⟨rfl,_,(af.new σ _).eq,by erw[bH];exact Nat.zero_lt_succ _,hK _ _ rfl q⟩))) ?_
 have c1:Ch [] σ ((σ.new (.lst [])).set σ.next (.lst [.tup [.int 0,bL S]])):=(Ch.new σ _).own (bI _);have h1:=(af.new σ (.lst [])).set (p:= .lst [.tup [.int 0,bL S]]);generalize (σ.new (.lst [])).set σ.next (.lst [.tup [.int 0,bL S]])=ae at c1 h1 ⊢;refine bj (λQ q=>q) ?_;refine rE (λK q=>ge h1 true rfl q) λK hK=>?_;have h2:=h1.ch (Ch.new (F:=[]) ae (.lst [])) am;have c2:Ch [] σ (ae.new (.lst [])):=c1.trans (Ch.new _ _);generalize ae.new (.lst [])=ao at h2 c2 ⊢;refine gA (λQ q=>j5 h2.eq rfl ((qT (xs:=[]) h2.eq).builtin q)) rfl ?_;have c3:Ch [] σ (ao.set σ.next (.lst [])):=c2.own (bI _);have h3:=h2.set (p:= .lst []);generalize ao.set σ.next (.lst [])=aA at h3 c3 ⊢;refine dQ (C:=λQ=>∀σ' rs,TA σ' ⟨t,L,r0,c0,aA.next,aA.next+1⟩ rs (S.map leafOf)->Ch [L,c0] aA σ'->Q (.int 1) σ') (λQ=>TY G (H.ch c3) hok hnd few) λaW rs hT c4=>?_;refine bj (λQ q=>lj q) ?_;have nl:σ.next∉[L,c0]:=λh=>by
  rcases aV.mp h with h | h
  ·exact cA H.hL.lt h
  ·exact cA H.hc.lt (aF.mp h)
 refine Tm (λQ q=>dp (i:=4) rfl ⟨rfl,rfl,rfl,q⟩) rfl (hK _ _ (I7 (λK q=>ge (h3.ch c4 nl) false rfl q) (bJ (λQ q=>q) (q _ rs _ _ (hT.ch0 (Ch.new _ _)) (((c3.weak λJ h=>nomatch h).trans c4).trans (Ch.new _ _))))))
end
noncomputable def NT:List (List Nat × List Nat × List Nat):=
 [([97],[],[97]),([112],[],[112]),([113],[],[113]),([97,58,97],[97],[97]),([97,58,112],[97],[112]),([97,58,113],[97],[113]),([112,58,97],[112],[97]),([112,58,112],[112],[112]),([112,58,113],[112],[113]),
  ([120,109,108,110,115,120,58,97],[120,109,108,110,115,120],[97]),([120,109,108,110,115,120,58,112],[120,109,108,110,115,120],[112]),([120,109,108,110,115,120,58,113],[120,109,108,110,115,120],[113])]
noncomputable def PT:List (List Nat):=[[97],[112],[120,109,108,110,115,120]]
noncomputable def UT:List (List Nat):=[[120,109,108,110,115],[117],[119]]
noncomputable def VT:List (List Nat):=[[48],[49],[50],[51],[52],[53],[54],[55]]
theorem Bj{P:PW}(G:Gd P){n:Nat}{f:AV}{args:List AV}{w:AV}(hf:low 0 f=true)(ha:lows 0 args=true)(hw:low 0 w=true)(hr:∀g,ren g f=f/\dx g args=args/\ren g w=w)(h:(dL P S0 tab 300 n f args [] [] λv J J=>v=w)=(w=w)){σ:AH}{Q:AV->AH->Prop}
  (q:∀σ',Ch [] σ σ'->Q w σ'):T P n f args σ Q:=Tc G hf ha hw (h▸rfl) hr σ q
section
variable{P:PW}(G:Gd P)
include G
theorem T1:∀x∈NT,∀(σ:AH)(Q:AV->AH->Prop),(∀σ',Ch [] σ σ'->Q (.str x.2.1) σ')->T P 2 (.con (.ref vQ)) [.str x.1] σ Q:=by
 intro x hx σ Q q;unfold NT at hx;simp only[aV,am,or_false] at hx;rcases hx with rfl | rfl | rfl | rfl | rfl | rfl | rfl | rfl | rfl | rfl | rfl | rfl
 all_goals exact Bj G rfl rfl rfl (λJ=>⟨rfl,rfl,rfl⟩) (by kernel_rfl) q
theorem T2(σ:AH)(Q:AV->AH->Prop)(q:∀σ',Ch [] σ σ'->Q (.str []) σ'):T P 2 (.con (.ref vQ)) [.str de] σ Q:=Bj G rfl rfl rfl (λJ=>⟨rfl,rfl,rfl⟩) (by kernel_rfl) q
theorem Jz:∀v∈VT++UT,∀(σ:AH)(Q:AV->AH->Prop),(∀σ',Ch [] σ σ'->Q (.str v) σ')->T P 3 (.con (.ref zT)) [.str v] σ Q:=by
 intro x hx σ Q q;unfold VT UT at hx;simp only[aV,am,or_false,nY,CS] at hx;rcases hx with rfl | rfl | rfl | rfl | rfl | rfl | rfl | rfl | rfl | rfl | rfl
 all_goals exact Bj G rfl rfl rfl (λJ=>⟨rfl,rfl,rfl⟩) (by kernel_rfl) q
end
noncomputable abbrev P2:=List Nat × List Nat
noncomputable abbrev aX(p:P2):AV:= .tup [.str p.1,.str p.2]
noncomputable abbrev kvAV(p:P2):AV × AV:=(.str p.1,.str p.2)
noncomputable def nsP:List aZ->List P2
 | []=>[]
 | .at ..::r=>nsP r
 | .ns p u::r=>(p,u)::nsP r
theorem Bk:∀{lv:List aZ}{s k j:Nat},(cP lv s)[k]? =some j->∃i p u,j=s+i/\lv[i]? =some (.ns p u)/\(nsP lv)[k]? =some (p,u)
 | .ns p u::r,s,0,j,h=>by obtain rfl:=aO h;exact ⟨0,p,u,rfl,rfl,rfl⟩
 | .ns p u::r,s,k+1,j,h=>by
  obtain ⟨i,p,u,e,h1,h2⟩:=Bk (lv:=r) (s:=s+1) (k:=k) h;exact ⟨i+1,p,u,by lia,h1,h2⟩
 | .at ..::r,s,k,j,h=>by
  obtain ⟨i,p,u,e,h1,h2⟩:=Bk (lv:=r) (s:=s+1) (k:=k) h;exact ⟨i+1,p,u,by lia,h1,h2⟩
theorem j7:∀(lv:List aZ)(s:Nat),(cP lv s).length=(nsP lv).length
 | [],J1=>rfl
 | .at ..::r,s=>j7 r (s+1)
 | .ns ..::r,s=>congrArg (· +1) (j7 r (s+1))
theorem lx{p u:List Nat}:∀{lv:List aZ},(p,u)∈nsP lv↔aZ.ns p u∈lv
 | []=>⟨λh=>absurd h am,λh=>absurd h am⟩
 | .at ..::r=>(lx (lv:=r)).trans (aV.trans (or_iff_right λe=>by injection e)).symm
 | .ns a b::r=>(aV.trans (or_congr ⟨λe=>by injection e with e1 e2;((erw[e1];erw[e2]);ac_rfl),λe=>by injection e with e1 e2;((erw[e1];erw[e2]);ac_rfl)⟩ (lx (lv:=r)))).trans aV.symm
structure pC(lv:List aZ):Prop where
 at_:∀n u l v,aZ.at n u l v∈lv->v∈VT/\∃p,(n,p,l)∈NT/\((p=[]/\u=[])\/(p≠[]/\aZ.ns p u∈lv))
 ns:∀p u,aZ.ns p u∈lv->p∈PT/\u∈UT
 nd:((nsP lv).map (·.1)).Nodup
theorem rO{k v:AV}:∀{kvs:List (AV × AV)},(∀p∈kvs,p.1≠k)->dset kvs k v=kvs++[(k,v)]
 | [],J1=>rfl
 | p::r,h=>by
  erw[qs];(erw[if_neg (h p (.head _))];erw[rO λq hq=>h q (.tail _ hq)]);rfl
theorem rP{k:AV}:∀{kvs:List (AV × AV)},(∀p∈kvs,p.1≠k)->cy kvs k=none
 | [],J1=>rfl
 | p::r,h=>by
  erw[jm]
  ((erw[if_neg (h p (.head _))];erw[rP λq hq=>h q (.tail _ hq)]);ac_rfl)
theorem Bl{p u:List Nat}:∀{l:List P2},(l.map (·.1)).Nodup->(p,u)∈l->cy (l.map kvAV) (.str p)=some (.str u)
 | q::r,h,hm=>by
  rw[bi,ee] at h;erw[bi];erw[jm];by_cases e:q.1=p
  ·erw[if_pos (congrArg AV.str e)];rcases aV.mp hm with h2 | h2
   ·(erw[aD h2];ac_rfl)
   ·exact absurd (aL.mpr ⟨(p,u),h2,e.symm⟩) h.1
  ·rewrite[if_neg (by intro c;(have hH:=AV.str.inj c;clear c;subst hH);exact e rfl)]
   rcases aV.mp hm with h2 | h2
   ·rw[<-h2] at e;exact absurd rfl e
   ·exact Bl h.2 h2
theorem dR:∀p∈PT,Tx p/\p≠[]/\p.length<=50/\p≠[120,109,108]:=by
 intro p hp;unfold PT at hp;simp only[aV,am,or_false] at hp;rcases hp with rfl | rfl | rfl<;>exact ⟨tx_of rfl,by simp,by decide,by decide⟩
theorem jx:∀p∈UT,Tx p:=by
 intro p hp;unfold UT at hp;simp only[aV,am,or_false] at hp;rcases hp with rfl | rfl | rfl<;>exact tx_of rfl
theorem ly:∀x∈NT,Tx x.1/\Tx x.2.1/\Tx x.2.2:=by
 intro p hp;unfold NT at hp;simp only[aV,am,or_false] at hp;rcases hp with rfl | rfl | rfl | rfl | rfl | rfl | rfl | rfl | rfl | rfl | rfl | rfl<;>exact ⟨tx_of rfl,tx_of rfl,tx_of rfl⟩
noncomputable abbrev pD:List Nat:=[120,109,108]
noncomputable abbrev rQ:List Nat:=[104,116,116,112,58,47,47,119,119,119,46,119,51,46,111,114,103,47,88,77,76,47,49,57,57,56,47,110,97,109,101,115,112,97,99,101]
noncomputable abbrev xmlKV:List (AV × AV):=[(.str pD,.str rQ)]
theorem Bm{l:List P2}:∀p∈xmlKV++l.map kvAV,kindOf p.1=some .s:=λp hp=>by
 rcases dH.mp hp with h | h
 ·rw[aF] at h;erw[h];rfl
 ·obtain ⟨q,J,rfl⟩:=aL.mp h;rfl
theorem wH{l:List P2}(x:List Nat):fY (xmlKV++l.map kvAV) (.str x):=⟨.s,rfl,Bm⟩
theorem JA{α β:Type}(f:α->β){l:List α}{k:Nat}{x:α}(h:(l.map f).Nodup)(e:l[k]? =some x):∀y∈l.take k,f y≠f x:=λy hy e2=>by
 obtain ⟨bD,er'⟩:=bP.mp e;have e3:l=l.take k++x::l.drop (k+1):=by (erw[aD er'];rw[sW,kE])
 rw[e3,bq,eL] at h;exact h.2.2 _ (aL.mpr ⟨y,hy,rfl⟩) _ (.head _) e2
theorem JB{l:List P2}{k:Nat}{w:P2}(n:(l.map (·.1)).Nodup)(ew:l[k]? =some w)(hw:w.1≠pD):dset (xmlKV++(l.take k).map kvAV) (.str w.1) (.str w.2)=xmlKV++(l.take (k+1)).map kvAV:=by
 ((erw[d8 ew];erw[bq]);rewrite[<-fU])
 refine rO λp hp e=>?_;rcases dH.mp hp with h | h
 ·rw[aF.mp h] at e;exact hw (AV.str.inj e).symm
 ·obtain ⟨z,hz,rfl⟩:=aL.mp h;exact JA _ n ew z hz (AV.str.inj e)
section
variable{P:PW}{σ:AH}{Q:AV->AH->Prop}(G:Gd P)
include G
theorem T3{X:TS}{rs:List Nat}{lv:List aZ}(H:TA σ X rs lv){ρ:ac}(h0:ρ[0]? =some (some (.ref X.t)))(h1:ρ[1]? =some (some (.int 1)))(q:∀σ' l,Ch [] σ σ'->σ.next<=l->af σ' l (.lst ((nsP lv).map aX))->Q (.ref l) σ'):
  wE P S0 3 (.comp (.tup (.cons (.meth (.loc 0) di (.cons (.cl 1) .nil)) (.cons (.meth (.loc 0) fo (.cons (.cl 1) .nil)) .nil))) (.cons (.cl 1) (.meth (.loc 0) jZ (.cons (.loc 1) .nil)) .nil .nil) 3) ρ [] σ Q:=by
 have e0:∀κ,sv S0 ρ κ (.loc 0)=some (.ref X.t):=λκ=>by refine (?_:(ρ[0]?).join=_);erw[h0];rfl
 obtain e1:∀κ,sv S0 ρ κ (.loc 1)=some (.int 1):=λκ=>by refine (?_:(ρ[1]?).join=_);erw[h1];rfl
 obtain c1:Ch [] σ ((σ.new (.lst (bK (cP lv 2)))).new (.lst [])):=(Ch.new σ _).trans (Ch.new _ _);obtain hit:=(af.new σ (.lst (bK (cP lv 2)))).ch (Ch.new (F:=[]) (σ.new (.lst (bK (cP lv 2)))) (.lst [])) am;obtain hac:af ((σ.new (.lst (bK (cP lv 2)))).new (.lst [])) (σ.next+1) (.lst []):=af.new (σ.new (.lst (bK (cP lv 2)))) (.lst []);refine px (f:= .ref σ.next) (σ':=σ.new (.lst (bK (cP lv 2)))) (xs:=bK (cP lv 2)) (λk κ σ'=>Ch [] σ σ'/\af σ' σ.next (.lst (bK (cP lv 2)))/\af σ' (σ.next+1) (.lst (((nsP lv).take k).map aX))/\∃a b c:Option AV,κ=[a,b,c])
  (λQ q=>AF (e0 _) H.t.eq rfl rfl (by refine (?_:((sv S0 ρ [] (.loc 1)).bind _)=_);rewrite[e1];rfl) (lq G (rfl:tab vM=_) (i:=1) (n:=0) (ix:=[]) H.t.eq H.L.eq rfl H.r1.eq rfl rfl H.n1.eq q)) (bU (af.new σ _).eq) ⟨c1,hit,hac,_,_,_,rfl⟩ (λk κ σ' h=>bU h.2.1.eq)
  (λk x κ σ' K hx z2 hK=>?_) λκ σ' z1=>?_
 ·(refine aI λkK=>?_;obtain ⟨c,h1,h2,a,b,e,sq⟩:=z2;refine kK ?_;clear kK);subst sq;unfold bK at hx;rw[bt] at hx;obtain ⟨j,hj,rfl⟩:=bW.mp hx;(refine aI λkK=>?_;obtain ⟨i,p,u,rfl,hi,hp⟩:=Bk hj;refine kK ?_;clear kK);have H':=H.ch0 c;(refine aI λkK=>?_;obtain ⟨r,cc,er,hr⟩:=H'.row hi;refine kK ?_;clear kK);refine ⟨rfl,((AF (e0 _) H'.t.eq rfl rfl rfl (dy G (rfl:tab j2=_) H'.t.eq H'.L.eq er hr.eq rfl rfl rfl ?_)))⟩;refine (AF (e0 _) H'.t.eq rfl rfl rfl (dy G (rfl:tab o6=_) H'.t.eq H'.L.eq er hr.eq rfl rfl rfl (⟨_,h2.eq,?_,hK _ _ ⟨c.own (jc _),h1.ch (Ch.set (F:=[σ.next+1]) _ _ (.head _)) (by simp),?_,_,_,_,rfl⟩⟩)))
  ·exact fy (dE (fw (dA (j7 lv 2▸iY lv 2) H.few))) rfl
  ·(erw[d8 hp];erw[bq]);exact h2.set
 ·obtain ⟨c,h1,h2,J⟩:=z1;obtain e:(nsP lv).take (bK (cP lv 2)).length=nsP lv:=by
   rw[Co];unfold bK;rewrite[ay,j7];exact bI _
  rw[e] at h2;exact q _ _ c (jc _) h2
omit G in
theorem T4{lv:List aZ}(ok:pC lv){p u:List Nat}(h:(p=[]/\u=[])\/aZ.ns p u∈lv):(cy (xmlKV++(nsP lv).map kvAV) (.str p)).getD (.str [])= .str u:=by
 have hx:AV.str pD≠.str p:=by
  intro e;(have hH:=AV.str.inj e;clear e;subst hH);rcases h with ⟨h,J⟩ | h
  ·cases h
  ·exact (dR _ (ok.ns _ _ h).1).2.2.2 rfl
 refine (?_:(cy ((AV.str pD,AV.str rQ)::(nsP lv).map kvAV) (.str p)).getD _=_);erw[jm];erw[if_neg hx];rcases h with ⟨rfl,rfl⟩ | h
 ·rewrite[rP];· rfl
  intro q hq e;obtain ⟨z,hz,rfl⟩:=aL.mp hq;have hz1:z.1=[]:=by induction e':z.1 using bQ with
   | nil=>rfl
   | cons a r=>rw[show (kvAV z).1= .str z.1 from rfl,e'] at e;exact nomatch e
  exact (dR _ (ok.ns _ _ (lx.mp (show (z.1,z.2)∈nsP lv from hz))).1).2.1 hz1
 ·erw[Bl ok.nd (lx.mpr h)];rfl
def T5(lv:List aZ)(w:P2):Prop:=Tx w.1/\Tx w.2/\((w.1=[]/\w.2=[])\/aZ.ns w.1 w.2∈lv)
theorem T6{X:TS}{rs:List Nat}{lv:List aZ}(H:TA σ X rs lv)(ok:pC lv){d:Nat}(hd:af σ d (.dct xmlKV))(q:∀σ' l,Ch [] σ σ'->af σ' l (.lst ((nsP lv).map aX))->Q (.ref l) σ'):T P 4 (.con (.ref vR)) [.ref X.t,.int 1,.ref d] σ Q:=by
 have few:=H.few;have l1:=j7 lv 2;have l2:=iY lv 2;have l4:=lr lv 2;refine (G.fn (rfl:tab vR=some (.fn _ _ _ Ip)) (aq rfl) (aq rfl) ?_).toT;refine dQ (C:=λQ=>∀σ' l,Ch [] σ σ'->σ.next<=l->af σ' l (.lst ((nsP lv).map aX))->Q (.ref l) σ') (λQ=>T3 G H rfl rfl) λae F c1 gF hF=>?_;refine bj (λQ q=>(yL G.O.sys (hd.ch c1 am).eq (λp hp=>Bm (l:=[]) p hp)).type q) ?_;have c2:Ch [] σ (ae.new (.dct xmlKV)):=c1.trans (Ch.new _ _);have hK:=af.new ae (.dct xmlKV);have hF2:=hF.ch (Ch.new (F:=[]) ae (.dct xmlKV)) am;have gK:σ.next<=ae.next:=c1.le;have nF:F∉[ae.next]:=λh=>ce hF.lt (aF.mp h);generalize ae.new (.dct xmlKV)=ao at c2 hK hF2 ⊢;generalize ae.next=D at hK gK nF ⊢;refine mo (λk X'=>∀σ' a b,Ch [D] ao σ'->af σ' D (.dct (xmlKV++((nsP lv).take k).map kvAV))->X' [some (.ref X.t),some (.int 1),some (.ref d),none,some (.ref F),some (.ref D),a,b,none,none,none,none,none] σ')
  (λQ q=>q) (λX' q=>q _ _ _ (Ch.refl _) hK) (λk σ' a b c J=>bU (hF2.ch c nF).eq) (λk x K hk hK σ' a b c hD=>?_) λτ a b cD hD=>?_
 ·rw[bt] at hk;obtain ⟨w,ew,rfl⟩:=bW.mp hk;refine ml (C:=λQ=>Q (.str w.2) σ') (λQ q=>q) (rC rfl rfl hD.eq (wH _) (fy (N:=2+100) (pv (aq rfl) (dE (fw (dA (j7 lv 2▸iY lv 2) few)))) rfl) (hK _ _ λX' q=>q _ _ _ (c.trans (Ch.set _ _ (.head _))) ?_));erw[aD (JB ok.nd ew (dR _ (ok.ns w.1 w.2 (lx.mp (cj ew))).1).2.2.2)];exact hD.set
 rw[ay,ez] at hD;have hF:=hF2.ch cD nF;have c:=c2.drop cD λx hx=> .inr (aF.mp hx▸gK);clear hK hF2 c2 cD;have sy:=H.ch0 c;refine dQ (C:=λQ=>∀σ',Ch [] τ σ'->Q (.ref σ'.next) (σ'.new (.lst [aX ([],[])]))) (λQ q=>a9 sy.t.eq rfl rfl (dy G (rfl:tab j2=_) (i:=1) sy.t.eq sy.L.eq rfl sy.r1.eq rfl rfl rfl ((T2 G τ _ λσ' c'=>?_).le (by decide)))) λaA c3=>?_
 ·obtain H':=sy.ch0 c';exact a9 H'.t.eq rfl rfl (dy G (rfl:tab o5=_) (i:=1) H'.t.eq H'.L.eq rfl H'.r1.eq rfl rfl rfl (q _ c'))
 have gW:τ.next<=aA.next:=c3.le;have hW:=af.new aA (.lst [aX ([],[])]);have c3:Ch [] τ (aA.new (.lst [aX ([],[])])):=c3.trans (Ch.new _ _);generalize aA.new (.lst [aX ([],[])])=Cc at c3 hW ⊢;generalize aA.next=W at gW hW ⊢;have H3:=H.ch0 (c.trans c3);have nF:F∉[W]:=λh=>ce (bX hF.lt gW) (aF.mp h);have nD:D∉[W]:=λh=>ce (bX hD.lt gW) (aF.mp h);have nA:Cc.next∉[W]:=λh=>cA hW.lt (aF.mp h);have gW:σ.next<=W:=ck c.le gW;have hF:=hF.ch c3 am;have hD:=hD.ch c3 am;have c:=c.trans c3;clear c3;refine np (λk X'=>∀σ' (ws:List P2) a b e,Ch [W] (Cc.new (.lst (bK (dz lv 2)))) σ'->af σ' W (.lst (ws.map aX))->(∀w∈ws,T5 lv w)->ws.length<=k+1->
   X' [some (.ref X.t),some (.int 1),some (.ref d),e,some (.ref F),some (.ref D),a,b,some (.ref W),none,none,none,none] σ')
  (λQ q=>a9 H3.t.eq rfl rfl (lq G (rfl:tab rn=_) (i:=1) (n:=0) (ix:=[]) H3.t.eq H3.L.eq rfl H3.r1.eq rfl rfl H3.a1.eq q))
  (λX' q=>q _ [([],[])] _ _ _ (Ch.refl _) (hW.ch (Ch.new (F:=[]) _ _) am) (λw hw=>by rw[aF] at hw;erw[hw];exact ⟨tx_of rfl,tx_of rfl,.inl ⟨rfl,rfl⟩⟩) (bI _))
  (λk σ' ws a b e c J J J=>bU ((af.new _ _).ch c nA).eq) (λk x K hk hK σ' ws a b e cW hW hws bl=>?_) λci ws a b e cW hW hws bl=>?_
 ·unfold bK at hk;rw[bt] at hk;obtain ⟨j,hj,rfl⟩:=bW.mp hk;obtain hkl:=(bP.mp hj).1;(refine aI λkK=>?_;obtain ⟨i,n,u,l,v,rfl,hi,J⟩:=rM hj;refine kK ?_;clear kK);have H':=H.ch0 ((c.trans (Ch.new _ _)).drop cW λx hx=> .inr (aF.mp hx▸gW));(refine aI λkK=>?_;obtain ⟨r,cc,er,hr⟩:=H'.row hi;refine kK ?_;clear kK);(refine aI λkK=>?_;obtain ⟨hv,p,hnt,hpu⟩:=ok.at_ n u l v (cj hi);refine kK ?_;clear kK);have tu:=(H.tx _ (cj hi)).2.1;have tp:=(ly _ hnt).2.1;refine ml (C:=λQ=>∀cU,Ch [] σ' cU->Q (aX (p,u)) cU) (λQ q=>a9 H'.t.eq rfl rfl (dy G (rfl:tab j2=_) H'.t.eq H'.L.eq er hr.eq rfl rfl rfl ((T1 G _ hnt σ' _ λcU c'=>?_).le (by decide)))) λcU c6=>AN ?_
  ·obtain H'':=H'.ch0 c';obtain ⟨fs,ef⟩:=A0 cc (.at n u l v);exact a9 H''.t.eq rfl rfl (dy G (rfl:tab o5=_) H''.t.eq H''.L.eq er (hr.ch c' am).eq rfl rfl rfl (q _ c'))
  ·have c7:=cW.trans (c6.weak λx hx=>nomatch hx);obtain hW':=hW.ch c6 am;by_cases hp:p=[]
   ·have hu:u=[]:=by rcases hpu with ⟨J,h⟩ | ⟨h,J⟩;exact h;exact absurd hp h
    refine lm (λK q=>iy tp (tx_of rfl) true (decide_eq_true hp).symm q) ?_;refine bG (λK q=>iy tu (tx_of rfl) true (decide_eq_true hu).symm q) ?_;exact hK _ _ λX' q=>q _ _ _ _ _ c7 hW' hws (xx bl)
   ·have hns:aZ.ns p u∈lv:=by rcases hpu with ⟨h,J⟩ | ⟨J,h⟩;exact absurd h hp;exact h
    refine d7 (λK q=>iy tp (tx_of rfl) false (decide_eq_false hp).symm q) ?_;refine cI (λQ q=>j5 hW'.eq rfl ((dK hW'.eq ?_).builtin q)) ?_
    ·(erw[bH];rewrite[ay]);lia
    refine hK _ _ λX' q=>q _ (ws++[(p,u)]) _ _ _ (c7.trans (Ch.set _ _ (.head _))) (by erw[bq];exact hW'.set) (λw hw=>?_) (by erw[bR];exact pX bl)
    rcases dH.mp hw with h | h
    ·exact hws w h
    ·rw[aF] at h;erw[h];exact ⟨tp,tu,.inr hns⟩
 obtain hws9:ws.length<110:=by unfold bK at bl;rw[ay] at bl;lia
 have c':=(Ch.new Cc (.lst (bK (dz lv 2))):Ch [W] _ _).trans cW;have hF:=hF.ch c' nF;have hD:=hD.ch c' nD;have c:=c.drop c' λx hx=> .inr (aF.mp hx▸gW);clear c' cW bl;refine dQ (C:=λQ=>∀σ' (hs:List (List Nat)),Ch [] ci σ'->af σ' ci.next (.lst (hs.map AV.str))->hs.length<110->Q (.ref ci.next) σ') (λQ q=>?_) λaW hs c6 hH hhl=>?_
 ·refine I9 (f:= .ref F) (σ':=ci) (xs:=(nsP lv).map aX) (λk X'=>∀σ' a b,Ch [] ci σ'->af σ' ci.next (.lst ((((nsP lv).map (·.1)).take k).map AV.str))->X' [a,b] σ') (λQ q=>q) (bU hF.eq) (λX' q=>q _ _ _ (Ch.new _ _) (af.new _ _)) (λk σ' a b c J=>bU (hF.ch c am).eq)
   (λk x K hk hK σ' a b c h=>?_) λσ' a b c h=>q _ _ c h (fw (dE (wl (dA (j7 lv 2▸iY lv 2) few) rfl)))
  rw[bt] at hk;obtain ⟨w,ew,rfl⟩:=bW.mp hk;refine ⟨rfl,dp (i:=0) rfl ⟨_,h.eq,?_,hK _ _ λX' q=>q _ _ _ (c.own (bI _)) ?_⟩⟩
  ·exact fy (dE (fw (dE (dA (j7 lv 2▸iY lv 2) few)))) rfl
  ·(rewrite[d8 (show ((nsP lv).map (·.1))[k]? =some w.1 by (erw[bt];erw[ew]);rfl)];erw[bq]);exact h.set
 have nD:D∉[ci.next]:=λh=>ce hD.lt (aF.mp h);have nW:W∉[ci.next]:=λh=>ce hW.lt (aF.mp h);have nF:F∉[ci.next]:=λh=>ce hF.lt (aF.mp h);have gH:σ.next<=ci.next:=c.le;have hF:=hF.ch c6 am;have hD:=hD.ch c6 am;have hW:=hW.ch c6 am;have c:=c.trans c6;generalize ci.next=Hd at*;clear c6;refine mo (λk X'=>∀σ' (hs:List (List Nat)) a b,Ch [Hd] aW σ'->af σ' Hd (.lst (hs.map AV.str))->hs.length<110+k->
   X' [some (.ref X.t),some (.int 1),some (.ref d),e,some (.ref F),some (.ref D),a,b,some (.ref W),some (.ref Hd),none,none,none] σ')
  (λQ q=>q) (λX' q=>q _ hs _ _ (Ch.refl _) hH hhl) (λk σ' hs a b c J J=>bU (hW.ch c nW).eq)
  (λk x K hk hK σ' hs a b cH hH hhl=>?_) λσ' hs a b cH J J=>bJ (λQ q=>q) (q _ _ (c.drop cH λx hx=> .inr (aF.mp hx▸gH)) (hF.ch cH nF))
 have hkl:=(bP.mp hk).1;rw[ay] at hkl;rw[bt] at hk;obtain ⟨w,ew,rfl⟩:=bW.mp hk;obtain ⟨t1,t2,hw⟩:=hws w (cj ew);refine bG (λK q=>⟨_,pt (hD.ch cH nD).eq rfl,(EO G.O.sys (hD.ch cH nD).eq (wH _)).builtin ?_⟩) (cI (λQ q=>j5 hH.eq rfl ((dK hH.eq (by (erw[bH];rewrite[ay]);lia)).builtin q)) ?_)
 ·erw[T4 ok hw];exact iy t2 t2 true (decide_eq_true rfl).symm q
 ·exact hK _ _ λX' q=>q _ (hs++[w.1]) _ _ (cH.trans (Ch.set _ _ (.head _))) (by erw[bq];exact hH.set) (by erw[bR];exact Nat.succ_lt_succ hhl)
end
noncomputable def d9(w:List Nat)(p:P2):List Nat:=w++p.1++[61,34]++p.2++[34]
noncomputable def wr(w:List Nat)(ps:List P2):List Nat:=(ps.map (d9 w)).flatten
theorem JC{w:List Nat}{ps:List P2}{k:Nat}{p:P2}(h:ps[k]? =some p):wr w (ps.take (k+1))=wr w (ps.take k)++d9 w p:=by
 unfold wr;(erw[d8 h];erw[bq];erw[ku]);simp
theorem nx{w:List Nat}(hw:w.length<=10):∀{ps:List P2},(∀p∈ps,p.1.length<=100/\p.2.length<=100)->(wr w ps).length<=220*ps.length
 | [],J1=>du _
 | p::r,h=>by
  have h1:=nx hw (ps:=r) λq hq=>h q (.tail _ hq);have h2:=h p (.head _);unfold wr at*;simp only[bi,lG,bR,d9,dW,xF] at*;lia
theorem JD{w:List Nat}(hw:w.length<=10){ps:List P2}(h:∀p∈ps,p.1.length<=100/\p.2.length<=100)(few:ps.length<=100)(k:Nat):(wr w (ps.take k)).length<=22000:=by
 have h1:=nx hw (ps:=ps.take k) λp hp=>h p (L6 hp);have h2:(ps.take k).length<=100:=by erw[lO];lia
 lia
noncomputable abbrev dq:List Nat:=[32,120,109,108,110,115,58]
noncomputable def atP(lv:List aZ):List P2:=(eI lv).map (·.2)
noncomputable def i5(lv:List aZ):List Nat:=[60,101]++wr dq (nsP lv)++wr [32] (atP lv)++[47,62]
theorem Bn:∀v∈VT++UT,v.length<=100:=λv h=>by
 rcases dH.mp h with h | h
 ·unfold VT at h;simp only[aV,am,or_false] at h;rcases h with rfl | rfl | rfl | rfl | rfl | rfl | rfl | rfl<;>exact aq rfl
 ·exact (jx v h).2
theorem da{a b:List Nat}{m n:Nat}(ha:a.length<=m)(hb:b.length<=n)(h:jM (m+n) 1000000=true):a.length+b.length<=aY:=by
 have:=aq h;erw[bH];lia
theorem fA{a b:List Nat}{m n:Nat}(ha:a.length<=m)(hb:b.length<=n):(a++b).length<=m+n:=by erw[bR];lia
theorem wI{r:R3}:∀{lv:List aZ},r∈eI lv->aZ.at r.2.1 r.1.1 r.1.2 r.2.2∈lv
 | .at ..::lv,h=>by
  rcases aV.mp h with h | h
  ·erw[h];exact .head _
  ·exact .tail _ (wI h)
 | .ns ..::lv,h=> .tail _ (wI (lv:=lv) h)
section
variable{P:PW}{σ:AH}{Q:AV->AH->Prop}(G:Gd P)
include G
theorem T7{X:TS}{rs:List Nat}{lv:List aZ}(H:TA σ X rs lv)(ok:pC lv){F:Nat}(hF:af σ F (.lst ((nsP lv).map aX)))(q:∀σ',Ch [] σ σ'->Q (.str (i5 lv)) σ'):
  T P 4 (.con (.ref vS)) [.ref X.t,.int 1,.ref F,.bool true] σ Q:=by
 have few:=H.few;have l1:=j7 lv 2;have l2:=iY lv 2;have l3:=lw lv 2;have l4:=lr lv 2;have tn:∀p∈nsP lv,p.1.length<=100/\p.2.length<=100:=λp hp=>by
  have:=ok.ns p.1 p.2 (lx.mp hp);exact ⟨(dR _ this.1).1.2,(jx _ this.2).2⟩
 have ta:∀p∈atP lv,p.1.length<=100/\p.2.length<=100:=λp hp=>by
  obtain ⟨r,hr,rfl⟩:=aL.mp hp;have:=H.tx _ (wI hr);exact ⟨this.1.2,this.2.2.2.2⟩
 have bn:∀k,([60,101]++wr dq ((nsP lv).take k)).length<=22002:=λk=>by
  have:=JD (w:=dq) (aq rfl) tn (by lia) k
  erw[bR];refine (?_:2+_<=_);lia
 have ba:∀k,([60,101]++wr dq (nsP lv)++wr [32] ((atP lv).take k)).length<=44002:=λk=>by
  have:=JD (w:=[32]) (aq rfl) ta (by unfold atP;rewrite[ay];lia) k
  have h:=bn (nsP lv).length;rw[ez] at h;erw[bR];lia
 refine (G.fn (rfl:tab vS=some (.fn _ _ _ Iq)) (aq rfl) (aq rfl) ?_).toT;refine bj (v:= .str [60,101]) (λQ q=>((a9 H.t.eq rfl rfl (dy G (rfl:tab j2=_) (i:=1) H.t.eq H.L.eq rfl H.r1.eq rfl rfl rfl ⟨by decide,q⟩)))) ?_
 refine mo (λk X'=>∀σ' a b,Ch [] σ σ'->X' [some (.ref X.t),some (.int 1),some (.ref F),some (.bool true),some (.str ([60,101]++wr dq ((nsP lv).take k))),a,b,none,none] σ')
  (λQ q=>q) (λX' q=>by have:=q _ none none (Ch.refl _);rw[CT,show wr dq []=[] from rfl,dB] at this;exact this) (λk σ' a b c=>bU (hF.ch c am).eq) (λk x K hk hK σ' a b c=>?_) λτ a b c=>?_
 ·rw[bt] at hk;obtain ⟨w,ew,rfl⟩:=bW.mp hk;have hm:=cj ew;have hw:=ok.ns w.1 w.2 (lx.mp hm);have pf:=dR _ hw.1;have hl:=tn w hm;refine dQ (C:=λQ=>∀cU,Ch [] σ' cU->Q (.str ([60,101]++wr dq ((nsP lv).take (k+1)))) cU) (λQ q=>?_) λcU c'=>hK _ _ λX' q=>q _ _ _ (c.trans c');have e:((((([60,101]++wr dq ((nsP lv).take k))++(dq++w.1))++[61,34])++w.2)++[34])=[60,101]++wr dq ((nsP lv).take (k+1)):=by
   erw[JC ew];simp only[d9,fU]
  have f1:=fA (b:=w.1) (show dq.length<=10 from aq rfl) hl.1
  have f2:=fA (bn k) f1;have f3:=fA f2 (show [61,34].length<=10 from aq rfl)
  have f4:=fA f3 hl.2;refine dd pf.1 (tx_of rfl) false (decide_eq_false pf.2.1).symm<| ?_;refine ⟨da (m:=10) (aq rfl) hl.1 rfl,da (bn k) f1 rfl,⟨da f2 (n:=10) (aq rfl) rfl,((Jz G _ (qj _ hw.2) σ' _ λcU c'=>?_).le (by decide))⟩⟩
  exact ⟨da f3 hl.2 rfl,⟨da f4 (n:=10) (aq rfl) rfl,e▸q _ c'⟩⟩
 (rewrite[ay];erw[ez]);have H1:=H.ch0 c;refine np (λk X'=>∀σ' e,Ch [] (τ.new (.lst (bK (dz lv 2)))) σ'->X' [some (.ref X.t),some (.int 1),some (.ref F),some (.bool true),some (.str ([60,101]++wr dq (nsP lv)++wr [32] ((atP lv).take k))),a,b,e,none] σ')
  (λQ q=>a9 H1.t.eq rfl rfl (lq G (rfl:tab rn=_) (i:=1) (n:=0) (ix:=[]) H1.t.eq H1.L.eq rfl H1.r1.eq rfl rfl H1.a1.eq q))
  (λX' q=>by have:=q _ none (Ch.refl _);rw[CT,show wr [32] []=[] from rfl,dB] at this;exact this) (λk σ' e h=>bU ((af.new _ _).ch h am).eq) (λk x K hk hK σ' e c'=>?_) λci e c'=>?_
 ·have c:=(c.trans (Ch.new _ _)).trans c';unfold bK at hk;rw[bt] at hk;obtain ⟨j,hj,rfl⟩:=bW.mp hk;obtain ⟨i,n,u,l,v,rfl,hi,hr3⟩:=rM hj;have ew:(atP lv)[k]? =some (n,v):=by unfold atP;(erw[bt];erw[hr3]);rfl
  have hl:=ta _ (cj ew);have H':=H.ch0 c;obtain ⟨r,cc,er,hr⟩:=H'.row hi;obtain ⟨hv,J⟩:=ok.at_ n u l v (cj hi);refine dQ (C:=λQ=>∀cU,Ch [] σ' cU->Q (.str ([60,101]++wr dq (nsP lv)++wr [32] ((atP lv).take (k+1)))) cU) (λQ q=>?_) λcU d=>hK _ _ λX' q=>q _ _ (c'.trans d);have e:(((((([60,101]++wr dq (nsP lv)++wr [32] ((atP lv).take k))++[32])++n)++[61,34])++v)++[34])=[60,101]++wr dq (nsP lv)++wr [32] ((atP lv).take (k+1)):=by
   erw[JC ew];simp only[d9,fU]
  have f1:=fA (ba k) (show [32].length<=10 from aq rfl)
  have f2:=fA f1 hl.1;have f3:=fA f2 (show [61,34].length<=10 from aq rfl)
  have f4:=fA f3 hl.2;refine ⟨da (ba k) (n:=10) (aq rfl) rfl,a9 H'.t.eq rfl rfl (dy G (rfl:tab j2=_) H'.t.eq H'.L.eq er hr.eq rfl rfl rfl ⟨da f1 hl.1 rfl,⟨da f2 (n:=10) (aq rfl) rfl,?_⟩⟩)⟩;refine a9 H'.t.eq rfl rfl<| dy G (rfl:tab o6=_) H'.t.eq H'.L.eq er hr.eq rfl rfl rfl<| (Jz G _ (mM _ hv) σ' _ λcU c'=>?_).le (by decide)
  exact ⟨da f3 hl.2 rfl,⟨da f4 (n:=10) (aq rfl) rfl,e▸q _ c'⟩⟩
 have bl:(bK (dz lv 2)).length=(atP lv).length:=by unfold bK atP;rw[ay,ay,lw]
 (erw[bl];erw[ez]);have b0:=ba (atP lv).length;rw[ez] at b0;exact bJ (λQ q=>⟨da b0 (n:=10) (aq rfl) rfl,q⟩) (q _ ((c.trans (Ch.new _ _)).trans c'))
end
section
variable{P:PW}{S:aN}{d:Nat}{ρ κ:ac}{σ σ':AH}{Q:Fl->ac->AH->Prop}{r b:au}{t:AE}
theorem rR(h:jt P S d t ρ σ false σ')(q:aM P S d r ρ σ' Q):aM P S d (.cons (.whl t b) r) ρ σ Q:=λX hX=>hX _ _ (h _ q)
theorem JE{a lo hi st:AE}{Q:AV->AH->Prop}(h:wE P S d a ρ κ σ λx ae=>wE P S d lo ρ κ ae λl ao=>wE P S d hi ρ κ ao λh aA=>wE P S d st ρ κ aA λs aW=>ot x l h s aW Q):wE P S d (.slice a lo hi st) ρ κ σ Q:=h
theorem T8{l:Nat}{xs:List AV}{Q:AV->AH->Prop}(h:af σ l (.lst xs))(q:Q (.ref σ.next) (σ.new (.lst xs.reverse))):wE P S d .none ρ κ σ λa ao=>wE P S d .none ρ κ ao λb aA=>wE P S d (.neg (.int 1)) ρ κ aA λs aW=>ot (.ref l) a b s aW Q:=
 (⟨xs,_,h.eq,rfl,q⟩:ot (.ref l) .none .none (.int (-1)) σ Q)
end
theorem T9{σ:AH}{K:Bool->Prop}{l:Nat}{xs:List AV}(h:af σ l (.lst xs))(b:Bool)(hb:b=xs.isEmpty)(q:K b):dY .Eq (.ref l) (.ref σ.next) (σ.new (.lst [])) K:=by
 obtain ⟨c,e,k⟩:=ge (K:=λc=>K !c) h (!b) (by (erw[hb];ac_rfl)) (by rewrite[Bool.not_not];exact q)
 exact ⟨c,e,Eq.mp (congrArg K (Bool.not_not c)) k⟩
theorem Ua{σ:AH}{X:TS}{rs:List Nat}{lv:List aZ}(H:TA σ X rs lv)(ok:pC lv):(i5 lv).length<=45000:=by
 have few:=H.few;have l1:=j7 lv 2;have l2:=iY lv 2;have l3:=lw lv 2;have l4:=lr lv 2;have h1:=nx (w:=dq) (aq rfl) (ps:=nsP lv) λp hp=>by
  have:=ok.ns p.1 p.2 (lx.mp hp);exact ⟨(dR _ this.1).1.2,(jx _ this.2).2⟩
 have h2:=nx (w:=[32]) (aq rfl) (ps:=atP lv) λp hp=>by
  obtain ⟨r,hr,rfl⟩:=aL.mp hp;have:=H.tx _ (wI hr);exact ⟨this.1.2,this.2.2.2.2⟩
 have h3:(atP lv).length=(eI lv).length:=ay ..;unfold i5;simp only[bR,dW,xF];lia
section
variable{P:PW}{σ:AH}{Q:AV->AH->Prop}(G:Gd P)
include G
set_option maxHeartbeats 1000000 in
theorem Ub{X:TS}{rs:List Nat}{lv:List aZ}(H:TA σ X rs lv)(ok:pC lv)(q:∀σ',Ch [] σ σ'->Q (.str (i5 lv)) σ'):T P 5 (.con (.ref vT)) [.ref X.t,.int 0] σ Q:=by
 refine (G.fn (rfl:tab vT=some (.fn _ _ _ Ir)) (aq rfl) (aq rfl) ?_).toT;refine bj (λQ q=>q) ?_;have c1:Ch [] σ (σ.new (.lst [])):=Ch.new _ _;have hf:=af.new σ (.lst []);generalize σ.new (.lst [])=ae at c1 hf ⊢;generalize eF:σ.next=F at hf ⊢;have gF:=iH eF;have H1:=H.ch0 c1;refine d7 (λK q=>a9 H1.t.eq rfl rfl (T.le (dy G (rfl:tab o4=_) (i:=0) H1.t.eq H1.L.eq rfl H1.r0.eq rfl rfl rfl ((dd (tx_of rfl) (tx_of rfl) true rfl q))) (by decide))) ?_
 refine dQ (C:=λQ=>∀σ' l d,Ch [] ae σ'->ae.next<l->af σ' l (.lst [.tup [.int 1,.ref d]])->af σ' d (.dct xmlKV)->Q (.ref l) σ') (λQ q=>?_) λao l d c2 gl hl hd=>?_
 ·have hk:=af.new ae (.lst [.int 1]);have hr:=af.new (ae.new (.lst [.int 1])) (.lst [.int 1]);have ha:=af.new ((ae.new (.lst [.int 1])).new (.lst [.int 1])) (.lst []);have c3:Ch [] ae ((((ae.new (.lst [.int 1])).new (.lst [.int 1])).new (.lst [])).new (.dct xmlKV)):=(((Ch.new _ _).trans (Ch.new _ _)).trans (Ch.new _ _)).trans (Ch.new _ _);have hr:=hr.ch (Ch.new (F:=[]) _ (.lst [])) am;refine I5 (f:= .ref (ae.next+1)) (σ':=(ae.new (.lst [.int 1])).new (.lst [.int 1])) (x:= .int 1)
   (λQ q=>a9 H1.t.eq rfl rfl (T.le (lq G (rfl:tab o7=_) (i:=0) (n:=0) (ix:=[]) H1.t.eq H1.L.eq rfl H1.r0.eq rfl rfl H1.c0.eq (T8 hk q)) (by decide)))
   (bU (af.new (ae.new (.lst [.int 1])) (.lst [.int 1])).eq) (bU hr.eq) λK hK=>⟨rfl,rfl,?_⟩
  have hd:=af.new (((ae.new (.lst [.int 1])).new (.lst [.int 1])).new (.lst [])) (.dct xmlKV);have hr:=hr.ch (Ch.new (F:=[]) _ (.dct xmlKV)) am;have ha:=ha.ch (Ch.new (F:=[]) _ (.dct xmlKV)) am;exact ⟨_,ha.eq,by erw[bH];decide,hK _ _ (bU (hr.ch (Ch.set (F:=[ae.next+2]) _ _ (.head _)) (ni (ce (jh _)))).eq) (q _ _ _ (c3.own (iG _ 2)) (CN (Nat.zero_lt_succ 1)) ha.set (hd.ch (Ch.set (F:=[ae.next+2]) _ _ (.head _)) (ni (cA (jh _)))))⟩
 have nl:F≠l:=ce (sN hf.lt gl);have hF:=hf.ch c2 am;have gl:σ.next<=l:=ck c1.le (kD gl);have c2:=c1.trans c2;clear hf H1 c1;refine rE (λK q=>(ge hl true rfl q)) λK hK=>?_;have e1:Ch [] ao (ao.new (.lst [])):=Ch.new _ _;refine gA (λQ q=>j5 (hl.ch e1 am).eq rfl ((qT (xs:=[]) (hl.ch e1 am).eq).builtin q)) rfl ?_;have c3:Ch [] σ ((ao.new (.lst [])).set l (.lst [])):=(c2.trans e1).own gl;have es:Ch [l] (ao.new (.lst [])) ((ao.new (.lst [])).set l (.lst [])):=Ch.set _ _ (.head _);have hl3:=(hl.ch e1 am).set (p:= .lst []);have hF3:=(hF.ch e1 am).ch es (ni nl);have hd3:=(hd.ch e1 am).ch es (ni (hd.ne hl nofun));generalize (ao.new (.lst [])).set l (.lst [])=aA at c3 hl3 hF3 hd3 ⊢;clear e1 es c2 hl hF hd;have H3:=H.ch0 c3;refine lm (λK q=>((lj q))) ?_;refine lm (λK q=>a9 H3.t.eq rfl rfl (T.le (dy G (rfl:tab o4=_) (i:=1) H3.t.eq H3.L.eq rfl H3.r1.eq rfl rfl rfl ((iy (tx_of rfl) (tx_of rfl) true rfl q))) (by decide))) ?_
 refine dQ (C:=λQ=>∀σ' p,Ch [] aA σ'->af σ' p (.lst ((nsP lv).map aX))->Q (.ref p) σ') (λQ=>T6 G H3 ok hd3) λaW p c4 hp=>?_;have H4:=H3.ch0 c4;refine bj (λQ q=>a9 H4.t.eq rfl rfl (T.le (lq G (rfl:tab o7=_) (i:=1) (n:=0) (ix:=[]) H4.t.eq H4.L.eq rfl H4.r1.eq rfl rfl H4.c1.eq q) (by decide))) ?_
 have hc:=af.new aW (.lst []);have c5:=c4.trans (Ch.new aW (.lst []));have hp5:=hp.ch (Ch.new aW (.lst [])) am;generalize aW.new (.lst [])=ct at hc c5 hp5 ⊢;have gC:aW.next≠F:=cA (hF3.ch c4 am).lt;generalize aW.next=C at hc gC ⊢;clear hp H4 c4;have hF5:=hF3.ch c5 am;have hl5:=hl3.ch c5 am;refine ln (C:=λQ=>∀v dT,Ch [] ct dT->Q v (dT.set F (.lst [.str (i5 lv)]))) (λQ q=>⟨_,eH hF5.eq rfl,T9 hc true rfl<| ?_⟩) λv dT c6=>?_
 ·have H6:=(H3.ch0 c5).ch0 (Ch.new ct (.lst []));refine (T7 G H6 ok (hp5.ch (Ch.new _ _) am) λdT c6=>?_);have c7:=(Ch.new (F:=[]) ct (.lst [])).trans c6;exact (dK (hF5.ch c7 am).eq (by erw[bH];decide)).builtin (q _ _ c7)
 have c8:Ch [] σ (dT.set F (.lst [.str (i5 lv)])):=((c3.trans c5).trans c6).own gF;have cs:Ch [F] dT (dT.set F (.lst [.str (i5 lv)])):=Ch.set _ _ (.head _);have hc7:=(hc.ch c6 am).ch cs (ni gC);have hl7:=(hl5.ch c6 am).ch cs (ni nl.symm);have hF7:=(hF5.ch c6 am).set (p:= .lst [.str (i5 lv)]);generalize dT.set F (.lst [.str (i5 lv)])=gi at c8 hc7 hl7 hF7 ⊢;refine bG (λK q=>(ge hc7 false rfl q)) ?_;refine hK _ _ (rR (λK q=>(ge (hl7.ch (Ch.new (F:=[]) _ _) am) false rfl q)) ?_);have c9:Ch [] gi ((gi.new (.lst [])).new (.lst [])):=(Ch.new _ _).trans (Ch.new _ _);refine bJ (λQ q=>⟨_,j4 rfl,(qU (xs:=[i5 lv]) (hF7.ch c9 am).eq ?_).builtin q⟩) (q _ (c8.trans c9));have:=Ua H ok;erw[bH];simp;(with_reducible exact ck ‹_› (by decide))
end
section
variable{P:PW}{d:Nat}{f:AV}{args:List AV}{σ:AH}{Q:AV->AH->Prop}
theorem JF(h:(∀l,σ.next<=l->σ.m l=none)->T P d f args σ Q):T P d f args σ Q:=λA s μ fv vs E room B R hf hv=>
 h (λl hl=>by
  induction e:σ.m l using bf with
  | none=>rfl
  | some o=>
   obtain ⟨ft,e1,J⟩:=R.objs l o e;have:=(bP.mp e1).1;have:=R.next;lia) A s μ fv vs E room B R hf hv
theorem AH.ext'{a b:AH}(h1:a.next=b.next)(h2:∀l,a.m l=b.m l):a=b:=by
 cases a;cases b;subst h1;exact congrArg (AH.mk _) (funext h2)
theorem AH.set_set(σ:AH)(l:Nat)(a b:AO):(σ.set l a).set l b=σ.set l b:=AH.ext' rfl λx=>by
 refine (?_:(if x=l then some b else if x=l then some a else σ.m x)=if x=l then some b else σ.m x)
 by_cases h:x=l
 ·((erw[if_pos h];erw[if_pos h]);ac_rfl)
 ·((erw[if_neg h];erw[if_neg h];erw[if_neg h]);ac_rfl)
theorem AH.set_id{σ:AH}{l:Nat}{a:AO}(h:σ.m l=some a):σ.set l a=σ:=AH.ext' rfl λx=>by
 refine (?_:(if x=l then some a else σ.m x)=σ.m x)
 by_cases e:x=l
 ·((erw[if_pos e];erw[e];erw[h]);ac_rfl)
 ·(erw[if_neg e];ac_rfl)
theorem wJ{w:AV}(hf:low 0 f=true)(ha:lows 0 args=true)(hw:low 0 w=true)(hr:∀g,ren g f=f/\dx g args=args/\ren g w=w)(h:T P d f args (aH []) λv J=>v=w)(q:Q w σ):T P d f args σ Q:=JF λht=>by
 have h1:T P d f args (aH []) λv σ'=>v=w/\σ'=aH []:=S6 (k:=0) (bI _) (h.mono λv σ' e=>⟨du _,by erw[e];exact hw,λl o hl=>absurd hl (Nat.not_lt_zero _),e,AH.ext' rfl λl=>(show (if l<0 then σ'.m l else none)=none from if_neg (Nat.not_lt_zero _))⟩)
 have h2:=Aw (σ:=σ) (r:=[]) je rfl (λi o e=>by simp at e) ha hf (λi o l e=>by simp at e) h1
 rw[(hr _).1,(hr _).2.1] at h2;refine h2.mono λv bu z_0=>?_;obtain ⟨v',σ',⟨e1,e2⟩,e3,e4⟩:=z_0;have:bu=σ:=by
  (erw[e4];erw[e2]);refine AH.ext' rfl λl=>?_;refine (?_:(if l<σ.next then σ.m l else none)=σ.m l)
  by_cases h:l<σ.next
  ·(erw[if_pos h];ac_rfl)
  ·((erw[if_neg h];erw[ht l (fV h)]);ac_rfl)
 (erw[this];erw[e3];erw[e1];erw[(hr _).2.2]);exact q
theorem Uc(G:Gd P){w:AV}(hf:low 0 f=true)(ha:lows 0 args=true)(hw:low 0 w=true)(hr:∀g,ren g f=f/\dx g args=args/\ren g w=w)(h:dL P S0 tab 300 d f args [] [] λv J J=>v=w)(q:Q w σ):T P d f args σ Q:=
 wJ hf ha hw hr (m9 300 G.O G.ht d _ _ _ _ _ _ h λv H sc h=>h) q
noncomputable def Bo{α:Type}(P:PW)(d:Nat)(f:AV)(A:α->List AV)(w:α->AV):List α->Prop
 | []=>True
 | x::r=>dL P S0 tab 300 d f (A x) [] [] (λv J J=>v=w x)/\Bo P d f A w r
noncomputable def Bp{α:Type}(w:α->AV):List α->Prop
 | []=>True
 | x::r=>w x=w x/\Bp w r
theorem JG{α:Type}(w:α->AV):∀L,Bp w L
 | []=>trivial
 | x::r=>⟨rfl,JG w r⟩
theorem JH{α:Type}{A:α->List AV}{w:α->AV}:∀{L:List α},Bo P d f A w L->∀x∈L,dL P S0 tab 300 d f (A x) [] [] (λv J J=>v=w x)
 | y::r,h,x,hx=>by
  rcases aV.mp hx with e | hx
  ·erw[e];exact h.1
  ·exact JH h.2 x hx
theorem i6(G:Gd P){α:Type}{A:α->List AV}{w:α->AV}{L:List α}(hf:low 0 f=true)(hA:∀x,lows 0 (A x)=true/\low 0 (w x)=true/\∀g,ren g f=f/\dx g (A x)=A x/\ren g (w x)=w x)(h:Bo P d f A w L=Bp w L){x:α}(hx:x∈L)(q:Q (w x) σ):T P d f (A x) σ Q:=
 Uc G hf (hA x).1 (hA x).2.1 (hA x).2.2 (JH (h▸JG w L) x hx) q
end
noncomputable def pE:List (List Nat):=[[97],[101],[108],[109],[110],[112],[113],[115],[120],[58]]
section
variable{P:PW}{σ:AH}{Q:AV->AH->Prop}(G:Gd P){x:List Nat}
include G
theorem Ud(hx:x∈pE)(q:Q (.bool true) σ):T P 4 (.con (.ref uY)) [.str x] σ Q:=i6 G (A:=λx=>[.str x]) (w:=λJ=> .bool true) (L:=pE) rfl (λJ=>⟨rfl,rfl,λJ=>⟨rfl,rfl,rfl⟩⟩) (by kernel_rfl) hx q
theorem Ue(hx:x∈[[32],[47],[61]])(q:Q (.bool false) σ):T P 4 (.con (.ref uY)) [.str x] σ Q:=i6 G (A:=λx=>[.str x]) (w:=λJ=> .bool false) (L:=[[32],[47],[61]]) rfl (λJ=>⟨rfl,rfl,λJ=>⟨rfl,rfl,rfl⟩⟩) (by kernel_rfl) hx q
theorem Uf(hx:x∈[[97],[101],[112],[113],[120]])(q:Q (.bool true) σ):T P 3 (.con (.ref zO)) [.str x] σ Q:=i6 G (A:=λx=>[.str x]) (w:=λJ=> .bool true) (L:=[[97],[101],[112],[113],[120]]) rfl (λJ=>⟨rfl,rfl,λJ=>⟨rfl,rfl,rfl⟩⟩) (by kernel_rfl) hx q
theorem Ug(q:Q (.bool true) σ):T P 2 (.con (.ref uX)) [.str [32]] σ Q:=i6 G (A:=λx=>[.str x]) (w:=λJ=> .bool true) (L:=[[32]]) rfl (λJ=>⟨rfl,rfl,λJ=>⟨rfl,rfl,rfl⟩⟩) (by kernel_rfl) (.head _) q
theorem Uh(hx:x∈[[34],[47],[60],[61],[97],[112],[113],[120]])(q:Q (.bool false) σ):T P 2 (.con (.ref uX)) [.str x] σ Q:=i6 G (A:=λx=>[.str x]) (w:=λJ=> .bool false) (L:=[[34],[47],[60],[61],[97],[112],[113],[120]]) rfl (λJ=>⟨rfl,rfl,λJ=>⟨rfl,rfl,rfl⟩⟩) (by kernel_rfl) hx q
end
noncomputable abbrev gE(X:List Nat)(n:Nat):AO:= .ins rr [(cZ,.str X),(bx,.int n)]
noncomputable abbrev cu(σ:AH)(c:Nat)(X:List Nat)(n:Nat):AH:=σ.set c (gE X n)
theorem eT(σ:AH)(c:Nat)(X:List Nat)(n:Nat):(cu σ c X n).m c=some (gE X n):=if_pos rfl
theorem Bq{X:List Nat}{n x:Nat}{r:List Nat}(h:X.drop n=x::r):X[n]? =some x:=by
 have:=sU (xs:=X) (i:=n) (j:=0);rw[h] at this;exact this.symm
theorem ny{X:List Nat}{n:Nat}{x:Nat}{r:List Nat}(h:X.drop n=x::r):n<X.length:=(bP.mp (Bq h)).1
theorem mr{X w r:List Nat}{n:Nat}(h:X.drop n=w++r):X.drop (n+w.length)=r:=by ((erw[aD xu];erw[h];erw[List.drop_left]);ac_rfl)
section
variable{P:PW}{d:Nat}{σ:AH}{c:Nat}{X:List Nat}{n m:Nat}{ρ κ:ac}
theorem eU{Q:AV->AH->Prop}{e:AE}(he:sv S0 ρ κ e=some (.ref c))(q:Q (.int n) (cu σ c X n)):wE P S0 d (.attr e bx) ρ κ (cu σ c X n) Q:=I0 he (eT σ c X n) rfl rfl rfl q
theorem jy{Q:AV->AH->Prop}{e:AE}(he:sv S0 ρ κ e=some (.ref c))(q:Q (.str X) (cu σ c X n)):wE P S0 d (.attr e cZ) ρ κ (cu σ c X n) Q:=I0 he (eT σ c X n) rfl rfl rfl q
theorem rT{Q:Fl->ac->AH->Prop}{e:AE}{r:au}(h0:sv S0 ρ [] (.loc 0)=some (.ref c))(h:∀Q:AV->AH->Prop,Q (.int m) (cu σ c X n)->wE P S0 d e ρ [] (cu σ c X n) Q)(q:aM P S0 d r ρ (cu σ c X m) Q):aM P S0 d (.cons (.asg (.attr (.loc 0) bx) e) r) ρ (cu σ c X n) Q:=
 h _ (show wE P S0 d (.loc 0) ρ [] (cu σ c X n) (λo ae=>xN S0 o bx (.int m) ae λao=>([]:ac)=[]/\aM P S0 d r ρ ao Q) from eZ h0 ⟨c,_,_,rfl,eT σ c X n,rfl,xD (by simp),rfl,by rewrite[AH.set_set];exact q⟩)
theorem Ui{K:Bool->AH->Prop}{op:dU}{x:AV}{e:AE}(h:wE P S0 d e ρ κ σ λy ae=>dY op x y ae λb=>K b ae):wC P S0 d (.one op e) x ρ κ σ K:=h
theorem JI{i:Nat}{xs:List Nat}{x:Nat}{k:AV->Prop}(e:xs[i]? =some x)(q:k (.str [x])):Item P (.str xs) (.int i) σ k:=⟨_,x,rfl,wk e,q⟩
theorem more{g:Nat}{f:aa}{x:Nat}{r1:List Nat}{b:Bool}(hg:S0.GV g=some (.con (.ref f)))(h0:sv S0 ρ [] (.loc 0)=some (.ref c))(hd:X.drop n=x::r1)(hx:∀{σ:AH}{Q:AV->AH->Prop},Q (.bool b) σ->T P d (.con (.ref f)) [.str [x]] σ Q):
  jt P S0 d (.and (.cons (.cmp (.attr (.loc 0) bx) (.one .Lt (.call (.glob b7) (.cons (.attr (.loc 0) cZ) .nil)))) (.cons (.call (.glob g) (.cons (.sub (.attr (.loc 0) cZ) (.attr (.loc 0) bx)) .nil)) .nil))) ρ (cu σ c X n) b (cu σ c X n):=λK q=>
 eU h0<| jy h0<| (oH X).builtin<| rz true (decide_eq_true (xl.mpr (ny hd))).symm<| Tf hg<| jy h0<| eU h0<| JI (Bq hd)<| hx (by induction b using bC<;>exact q)
theorem Uj{g:Nat}(h0:sv S0 ρ [] (.loc 0)=some (.ref c))(hd:X.length<=n):
  jt P S0 d (.and (.cons (.cmp (.attr (.loc 0) bx) (.one .Lt (.call (.glob b7) (.cons (.attr (.loc 0) cZ) .nil)))) (.cons (.call (.glob g) (.cons (.sub (.attr (.loc 0) cZ) (.attr (.loc 0) bx)) .nil)) .nil))) ρ (cu σ c X n) false (cu σ c X n):=λK q=>
 eU h0<| jy h0<| (oH X).builtin<| rz false (decide_eq_false (by lia)).symm q
theorem scan{Q:Fl->ac->AH->Prop}{r:au}{g:Nat}{f:aa}{r0:List Nat}(hg:S0.GV g=some (.con (.ref f)))(h0:sv S0 ρ [] (.loc 0)=some (.ref c))(hr:∀x r1,r0=x::r1->∀{σ:AH}{Q:AV->AH->Prop},Q (.bool false) σ->T P d (.con (.ref f)) [.str [x]] σ Q):
  ∀{w:List Nat}{n:Nat},(∀x∈w,∀{σ:AH}{Q:AV->AH->Prop},Q (.bool true) σ->T P d (.con (.ref f)) [.str [x]] σ Q)->X.drop n=w++r0->aM P S0 d r ρ (cu σ c X (n+w.length)) Q->
  aM P S0 d (.cons (.whl (.and (.cons (.cmp (.attr (.loc 0) bx) (.one .Lt (.call (.glob b7) (.cons (.attr (.loc 0) cZ) .nil)))) (.cons (.call (.glob g) (.cons (.sub (.attr (.loc 0) cZ) (.attr (.loc 0) bx)) .nil)) .nil))) (.cons (.asg (.attr (.loc 0) bx) (.bin .Add (.attr (.loc 0) bx) (.int 1))) .nil)) r) ρ (cu σ c X n) Q
 | [],n,hw,hd,q=>by
  induction r0 using bQ with
  | nil=>exact rR (Uj h0 (LZ.mp hd)) q
  | cons x r1=>exact rR (more hg h0 hd (hr x r1 rfl)) q
 | x::w,n,hw,hd,q=>rE (more hg h0 hd (hw x (.head _))) λK hK=>rT (m:=n+1) h0 (λQ q=>eU h0<| q)
   (hK _ _ (scan hg h0 hr (w:=w) (λy hy=>hw y (.tail _ hy)) (mr (w:=[x]) hd) (by rewrite[Nat.add_assoc,pT 1];exact q)))
variable(G:Gd P){Q:AV->AH->Prop}{w v r0:List Nat}
include G
theorem rU(b:Bool)(h:w.isPrefixOf (X.drop n)=b)(hn:n<=X.length)(q:Q (.bool b) (cu σ c X n)):T P 1 (.con (.ref vn)) [.ref c,.str w] (cu σ c X n) Q:=by
 refine (G.fn (rfl:tab vn=some (.fn _ _ _ HS)) (aq rfl) (aq rfl) ?_).toT;exact bJ (λQ q=>jy rfl ⟨_,j4 rfl,eU rfl<| (yJ (mI n)).builtin (by (rewrite[sT];(erw[h];erw[decide_eq_true hn]);rewrite[jJ]);exact q)⟩) q
theorem Br(b:Bool)(h:w.isPrefixOf (X.drop n)=b)(hn:n<=X.length)(q:Q (.bool b) (cu σ c X (match b with | true=>n+w.length | false=>n))):T P 1 (.con (.ref o3)) [.ref c,.str w] (cu σ c X n) Q:=by
 refine (G.fn (rfl:tab o3=some (.fn _ _ _ HT)) (aq rfl) (aq rfl) ?_).toT;have e:jt P S0 0 (.not (.meth (.attr (.loc 0) cZ) zJ (.cons (.loc 1) (.cons (.attr (.loc 0) bx) .nil)))) [some (.ref c),some (.str w)] (cu σ c X n) (!b) (cu σ c X n):=λK q=>
  jy rfl ⟨_,j4 rfl,eU rfl<| (yJ (mI n)).builtin (by (rewrite[sT];(erw[h];erw[decide_eq_true hn]);rewrite[jJ]);exact q)⟩
 induction b using bC with
 | false=>exact d7 e (bJ (λQ q=>q) q)
 | true=>exact bG e (rT (m:=n+w.length) rfl (λQ q=>eU rfl<| ((oH w).builtin q)) (bJ (λQ q=>q) q))
theorem JJ(h:w.isPrefixOf (X.drop n)=true)(hn:n<=X.length)(q:Q .none (cu σ c X (n+w.length))):T P 2 (.con (.ref vo)) [.ref c,.str w] (cu σ c X n) Q:=by
 refine (G.fn (rfl:tab vo=some (.fn _ _ _ HU)) (aq rfl) (aq rfl) ?_).toT;exact bG (λK q=>a9 (eT σ c X n) rfl rfl (Br G true h hn q)) q
theorem wK(hw:∀x∈w,x=32)(hr:∀x r1,r0=x::r1->[x]∈[[34],[47],[60],[61],[97],[112],[113],[120]])(hd:X.drop n=w++r0)(q:Q (.int w.length) (cu σ c X (n+w.length))):T P 3 (.con (.ref rk)) [.ref c] (cu σ c X n) Q:=by
 refine (G.fn (rfl:tab rk=some (.fn _ _ _ HW)) (aq rfl) (aq rfl) ?_).toT;refine bj (λQ q=>eU rfl q) ?_;refine scan (w:=w) rfl rfl (λx r1 e {σ Q} q=>Uh G (hr x r1 e) q) (λx hx {σ Q} q=>by erw[hw x hx];exact Ug G q) hd ?_
 refine bJ (v:= .int ((n+w.length:Nat) - n:Int)) (λQ q=>eU rfl<| q) ?_;erw[show ((n+w.length:Nat) - n:Int)=w.length by lia]
 exact q
end
theorem Uk{X w r:List Nat}{n m:Nat}(h:X.drop n=w++r)(e:m=n+w.length)(hm:m<1000000):cut X (.int n) (.int m) .none=some w:=by
 refine (?_:some ((X.take m).drop n)=_)
 ((erw[List.drop_take];erw[h];erw[e]);rewrite[Ce];erw[List.take_left];ac_rfl)
section
variable{P:PW}{d:Nat}{σ:AH}{c:Nat}{X:List Nat}{n m:Nat}{ρ κ:ac}
theorem Bs{Q:AV->AH->Prop}{a lo hi:AE}{w r:List Nat}(hX:X.length<1000000)(h:X.drop n=w++r)(hn:n<=X.length)(h1:∀Q:AV->AH->Prop,Q (.str X) σ->wE P S0 d a ρ κ σ Q)(h2:∀Q:AV->AH->Prop,Q (.int n) σ->wE P S0 d lo ρ κ σ Q)
  (h3:∀Q:AV->AH->Prop,Q (.int (n+w.length:Nat)) σ->wE P S0 d hi ρ κ σ Q) (q:Q (.str w) σ):wE P S0 d (.slice a lo hi .none) ρ κ σ Q:=
 h1 _<| h2 _<| h3 _<| ⟨rfl,_,Uk h rfl (by have:=congrArg kC h;rw[p9,bR] at this;exact dA (ck (sC (this▸iG _ _) n) (iH (xk hn))) hX),q⟩
variable(G:Gd P){Q:AV->AH->Prop}{w v r0:List Nat}
include G
theorem JK(b:Bool)(h:b=decide (X.length<=n))(q:Q (.bool b) (cu σ c X n)):T P 1 (.con (.ref vm)) [.ref c] (cu σ c X n) Q:=by
 refine (G.fn (rfl:tab vm=some (.fn _ _ _ HQ)) (aq rfl) (aq rfl) ?_).toT;exact bJ (λQ q=>eU rfl<| jy rfl<| (oH X).builtin<| Az b (by erw[h];exact decide_eq_decide.mpr Int.ofNat_le.symm) q) q
theorem JL{x:Nat}{y:Nat}{r1:List Nat}(hX:X.length<1000000)(h1:[x]∈[[97],[101],[112],[113],[120]])(hw:∀z∈w,[z]∈pE)(hy:[y]∈[[32],[47],[61]])(hd:X.drop n=(x::w)++y::r1)(q:Q (.str (x::w)) (cu σ c X (n+(x::w).length))):
  T P 5 (.con (.ref vq)) [.ref c] (cu σ c X n) Q:=by
 have hn:=ny (x:=x) (r:=w++y::r1) hd;refine (G.fn (rfl:tab vq=some (.fn _ _ _ HY)) (aq rfl) (aq rfl) ?_).toT;refine bj (λQ q=>eU rfl q) ?_;refine bG (σ':=cu σ c X n) (λK q=>a9 (eT σ c X n) rfl rfl (T.le (JK G false (decide_eq_false (Nat.not_le.mpr hn)).symm ?_) (by decide))) ?_
 ·exact jy rfl<| JI (Bq (x:=x) hd)<| T.le (Uf G h1 q) (by decide)
 refine rT (m:=n+1) rfl (λQ q=>q) ?_;refine scan (w:=w) rfl rfl (λx r1 e {σ Q} q=>by cases e;exact Ue G hy q) (λx hx {σ Q} q=>Ud G (hw x hx) q) (mr (w:=[x]) hd) ?_
 have e:n+1+w.length=n+(x::w).length:=by erw[dW];lia
 erw[e];exact bJ (λQ q=>Bs hX hd (kD hn) (λQ q=>jy rfl q) (λQ q=>q) (λQ q=>eU rfl q) q) q
theorem Ul{y:Nat}(hX:X.length<1000000)(hy:y∉w)(hd:X.drop n=w++y::r0)(q:Q (.str w) (cu σ c X (n+w.length+1))):T P 1 (.con (.ref vp)) [.ref c,.str [y]] (cu σ c X n) Q:=by
 have hn:n<=X.length:=by
  rcases Nat.lt_or_ge X.length n with h | h
  ·rw[LQ (kD h)] at hd;have:=congrArg kC hd;simp at this
  ·exact h
 refine (G.fn (rfl:tab vp=some (.fn _ _ _ HV)) (aq rfl) (aq rfl) ?_).toT;refine bj (λQ q=>jy rfl ⟨_,j4 rfl,eU rfl<| (QO (a:=w) (b:=r0) (mI n) (by rewrite[sT];exact hd) hy).builtin q⟩) ?_
 refine bG (λK q=>rz false (decide_eq_false (by lia)).symm q) ?_
 refine bj (λQ q=>Bs hX hd hn (λQ q=>jy rfl q) (λQ q=>eU rfl q) (λQ q=>q) q) ?_;refine rT (m:=n+w.length+1) rfl (λQ q=>((oH [y]).builtin q)) ?_;exact bJ (λQ q=>q) q
theorem Um(hX:X.length<1000000)(hy:34∉w)(hd:X.drop n=34::(w++34::r0))(q:Q (.tup [.str w,.int (n+1:Nat)]) (cu σ c X (n+w.length+2))):T P 2 (.con (.ref vv)) [.ref c] (cu σ c X n) Q:=by
 have hn:=ny hd;refine (G.fn (rfl:tab vv=some (.fn _ _ _ HZ)) (aq rfl) (aq rfl) ?_).toT;refine bj (v:= .str [34]) (σ':=cu σ c X n) (λQ q=>a9 (eT σ c X n) rfl rfl ?_) ?_
 ·refine (G.fn (rfl:tab zZ=some (.fn _ _ _ HR)) (aq rfl) (aq rfl) ?_).toT;exact bJ (λQ q=>Bs (w:=[34]) (r:=w++34::r0) hX hd (kD hn) (λQ q=>jy rfl q) (λQ q=>eU rfl q) (λQ q=>eU rfl<| q) q) q
 refine bG (λK q=>iy (tx_of rfl) (tx_of rfl) true rfl q) ?_;refine rT (m:=n+1) rfl (λQ q=>eU rfl<| q) ?_;refine bj (λQ q=>eU rfl q) ?_;have e:n+1+w.length+1=n+w.length+2:=by lia
 exact bJ (λQ q=>a9 (eT σ c X (n+1)) rfl rfl<| Ul G hX hy (mr (w:=[34]) hd)<| q) (e▸q)
theorem Un(hd:X.drop n=61::34::r0)(q:Q .none (cu σ c X (n+1))):T P 4 (.con (.ref vx)) [.ref c] (cu σ c X n) Q:=by
 have hn:=ny hd;refine (G.fn (rfl:tab vx=some (.fn _ _ _ H7)) (aq rfl) (aq rfl) ?_).toT;refine cI (λQ q=>a9 (eT σ c X n) rfl rfl<| wK G (w:=[]) (λx h=>by exact absurd h am) (λx r1 e=>by cases e;decide) hd q) ?_
 refine cI (λQ q=>a9 (eT σ c X n) rfl rfl<| T.le (JJ G (w:=[61]) ((congrArg (List.isPrefixOf [61]) hd).trans rfl) (kD hn) q) (by decide)) ?_
 exact cI (λQ q=>a9 (eT σ c X (n+1)) rfl rfl<| wK G (w:=[]) (λx h=>by exact absurd h am) (λx r1 e=>by cases e;decide) (mr (w:=[61]) hd) q) q
end
theorem Uo{P:PW}{S:aN}{d:Nat}{ρ:ac}{σ:AH}{Q:Fl->ac->AH->Prop}{b r:au}(h:aM P S d b ρ σ λfl be ae=>match fl with | .next=>aM P S d r be ae Q | .ret v=>Q (.ret v) be ae):aM P S d (.cons (.try_ b) r) ρ σ Q:=h
theorem Up{P:PW}{d:Nat}{f x:AV}{σ:AH}{Q:AV->AH->Prop}{l m:Nat}(h:∀a b,T P d f [x,.con (.ref a),.con (.ref b)] σ Q):T P d f [x,.ref l,.ref m] σ Q:=λA s μ fv vs E room B R hf hv=>by
 obtain J | ⟨hx,h1⟩:=hv;obtain J | ⟨h1,h2⟩:=h1;obtain J | ⟨h2,h3⟩:=h2;obtain ⟨_,_,rfl,_⟩:=kH h1;obtain ⟨_,_,rfl,_⟩:=kH h2;(have hH:=jl h3;clear h3;subst hH);exact h _ _ A s μ fv _ E room B R hf (.cons hx (.cons (.con _) (.cons (.con _) .nil)))
noncomputable def VU:List (List Nat):=VT++UT
section
variable{P:PW}{σ:AH}{Q:AV->AH->Prop}(G:Gd P){v:List Nat}
include G
theorem Uq(hv:v∈VU)(a b:aa)(q:Q (.str v) σ):T P 6 (.con (.ref zX)) [.str v,.con (.ref a),.con (.ref b)] σ Q:=i6 G (A:=λx=>[.str x,.con (.ref a),.con (.ref b)]) (w:=λx=> .str x) (L:=VU) rfl (λJ=>⟨rfl,rfl,λJ=>⟨rfl,rfl,rfl⟩⟩) (by kernel_rfl) hv q
theorem Ur(hv:v∈VU)(n:Int)(q:Q .none σ):T P 4 (.con (.ref z0)) [.str v,.int n] σ Q:=i6 G (A:=λx=>[.str x,.int n]) (w:=λJ=> .none) (L:=VU) rfl (λJ=>⟨rfl,rfl,λJ=>⟨rfl,rfl,rfl⟩⟩) (by kernel_rfl) hv q
end
structure Rd(σ:AH)(rd:Nat) where
 fs:List (Nat × AV)
 en:Nat
 gr:Nat
 h:af σ rd (.ins mh fs)
 e1:lk q7 fs=some (.ref en)
 e2:lk l7 fs=some (.ref gr)
structure wM(p:P2):Prop where
 nm:∃x w,p.1=x::w/\[x]∈[[97],[101],[112],[113],[120]]/\x≠101/\∀z∈w,[z]∈pE
 vl:p.2∈VU
 v34:34∉p.2
 v60:60∉p.2
theorem ms{P:PW}{d:Nat}{f:AV}{args:List AV}{σ:AH}{Q:AV->AH->Prop}{c:Nat}{X:List Nat}{n:Nat}(h:af σ c (gE X n))(t:T P d f args (cu σ c X n) Q):T P d f args σ Q:=AH.set_id h.eq▸t
theorem af.cu{σ:AH}{c:Nat}{X:List Nat}{n m:Nat}(h:af σ c (gE X n)):af (cu σ c X m) c (gE X m):=h.set
theorem Ch.cu{σ:AH}{c:Nat}{X:List Nat}{m:Nat}:Ch [c] σ (cu σ c X m):=Ch.set _ _ (.head _)
section
variable{P:PW}{σ:AH}{Q:AV->AH->Prop}(G:Gd P){c rd:Nat}{X:List Nat}{n:Nat}
include G
theorem Us{v:List Nat}(hv:v∈VU)(r:Rd σ rd)(i:Int)(q:Q (.str v) σ):T P 7 (.bm lh rd) [.str v,.int i] σ Q:=by
 refine (EH (by obtain ⟨o,J,J,J,J,ho,J⟩:=(G.ht lh _ (rfl:tab lh=some (.fn _ _ _ Al))).ex;exact ⟨o,ho⟩) (G.fn (rfl:tab lh=some (.fn _ _ _ Al)) (aq rfl) (aq rfl) ?_)).toT
 refine Uo ?_;exact bJ (λQ q=>bN r.h.eq r.e1 rfl rfl<| bN r.h.eq r.e2 rfl rfl<| Up λa b=>Uq G hv a b q) q
theorem Ut{p:P2}{r0:List Nat}(ok:wM p)(hc:af σ c (gE X n))(r:Rd σ rd)(hX:X.length<1000000)(hd:X.drop n=p.1++[61,34]++p.2++34::r0)(q:Q (aX p) (cu σ c X (n+p.1.length+1+p.2.length+2))):
  T P 8 (.con (.ref vy)) [.ref c,.bm lh rd] σ Q:=by
 obtain ⟨p1,v⟩:=p;obtain ⟨⟨x,w,e,h1,J,hw⟩,hv,h34,h60⟩:=ok;dsimp only at e hv h34 h60 hd;subst e;have ne:rd≠c:=r.h.ne hc (by intro e;cases e)
 refine (G.fn (rfl:tab vy=some (.fn _ _ _ H8)) (aq rfl) (aq rfl) ?_).toT;have d1:X.drop n=(x::w)++61::(34::(v++34::r0)):=by erw[hd];simp
 have d2:=mr d1;have d3:=mr (w:=[61]) d2;refine bj (λQ q=>a9 hc.eq rfl rfl<| ms hc<| T.le (JL G hX h1 hw (by decide) d1 q) (by decide)) ?_
 refine cI (λQ q=>T.le (Un G d2 q) (by decide)) ?_
 refine gA (λQ q=>a9 (eT σ c X _) rfl rfl<| T.le (Um G hX h34 d3 q) (by decide)) rfl ?_
 refine bj (λQ q=>⟨_,j4 rfl,(EQ h60).builtin q⟩) ?_;refine bG (λK q=>Az false rfl q) ?_;refine cI (λQ q=>T.le (Ur G hv _ q) (by decide)) ?_
 refine bJ (λQ q=>Us G hv ⟨r.fs,r.en,r.gr,r.h.ch Ch.cu (by rewrite[aF];exact ne),r.e1,r.e2⟩ _<| q) q
end
theorem Rd.ch{σ σ':AH}{rd:Nat}{F:List Nat}(r:Rd σ rd)(c:Ch F σ σ')(n:rd∉F):∃r':Rd σ' rd,r'.fs=r.fs:=⟨⟨r.fs,r.en,r.gr,r.h.ch c n,r.e1,r.e2⟩,rfl⟩
noncomputable def Rd.mv{σ σ':AH}{rd:Nat}{F:List Nat}(r:Rd σ rd)(c:Ch F σ σ')(n:rd∉F):Rd σ' rd:=⟨r.fs,r.en,r.gr,r.h.ch c n,r.e1,r.e2⟩
noncomputable abbrev kTrue(p:P2):AV × AV:=(.str p.1,.bool true)
structure Uu(fc τ:AH)(c rd:Nat)(X:List Nat)(n Fd Kd:Nat)(done rest:List P2):Prop where
 ch:Ch [c] fc τ
 hc:af τ c (gE X n)
 hf:af τ Fd (.lst (done.map aX))
 hk:af τ Kd (.dct (done.map kTrue))
 hd:X.drop n=wr [32] rest++[47,62]
theorem JM(w:List Nat)(p:P2)(r:List P2):wr w (p::r)=d9 w p++wr w r:=rfl
theorem Xk{σ:AH}{s t:List Nat}:AV.str s= .str t->s=t:=λe=>by injection e
theorem JN{P:PW}{S:aN}{d:Nat}{ρ:ac}{σ σ':AH}{Q:Fl->ac->AH->Prop}{r b:au}{t:AE}(h:jt P S d t ρ σ true σ')(q:∀K:Fl->ac->AH->Prop,(∀be ae,aM P S d (.cons (.whl t b) r) be ae Q->K .next be ae)->(∀v be ae,Q (.ret v) be ae->K (.ret v) be ae)->aM P S d b ρ σ' K):aM P S d (.cons (.whl t b) r) ρ σ Q:=
 λX hX=>hX _ _ (h _ (q _ (λbe ae h=>h X hX) λv be ae h=>h))
noncomputable def Uv:au:=match Ak with
 | .cons _ (.cons _ (.cons _ (.cons _ (.cons (.whl _ b) _))))=>b
 | _=> .nil
section
variable{P:PW}{σ:AH}{Q:AV->AH->Prop}(G:Gd P){c rd:Nat}{X:List Nat}{n:Nat}
include G
theorem Uw{w:List Nat}(h:w.isPrefixOf (X.drop n)=true)(hn:n<=X.length)(q:Q (.bool true) (cu σ c X (n+w.length))):T P 1 (.con (.ref o3)) [.ref c,.str w] (cu σ c X n) Q:=Br G true h hn q
theorem Bt{w:List Nat}(h:w.isPrefixOf (X.drop n)=false)(hn:n<=X.length)(q:Q (.bool false) (cu σ c X n)):T P 1 (.con (.ref o3)) [.ref c,.str w] (cu σ c X n) Q:=Br G false h hn q
theorem JO{r0:List Nat}(hr:∀x r1,r0=x::r1->[x]∈[[34],[47],[60],[61],[97],[112],[113],[120]])(hd:X.drop n=r0)(q:Q (.int 0) (cu σ c X n)):T P 3 (.con (.ref rk)) [.ref c] (cu σ c X n) Q:=wK G (w:=[]) (λx h=>by exact absurd h am) hr hd q
theorem JP{Fd Kd:Nat}(r0:Rd σ rd)(hX:X.length<1000000)(neF:σ.next<=Fd)(neK:σ.next<=Kd)(hcl:c<σ.next)(hcr:rd≠c)(hFK:Fd≠Kd)(all:List P2)(few:all.length<1000)(nd:(all.map (·.1)).Nodup)(ok:∀p∈all,wM p)(q:∀σ',Ch [c] σ σ'->af σ' c (gE X X.length)->Q (.tup [.str [101],.tup (all.map aX),.bool true]) σ'):
  ∀(rest done:List P2),done++rest=all->∀{τ:AH}{n:Nat}{a b e f:Option AV},Uu σ τ c rd X n Fd Kd done rest->
  aM P S0 8 (.cons (.whl .tru Uv) .nil) [some (.ref c),some (.bm lh rd),some (.str [101]),some (.ref Fd),some (.ref Kd),a,b,e,f,none,none,none] τ (λfl J σ'=>Ends Q fl σ')
 | [],done,hall,τ,n,a,b,e,f,H=>by
  have hn:=ny (x:=47) (r:=[62]) H.hd;have bl:n+2=X.length:=by
   have:=congrArg kC H.hd;rw[p9] at this;have h2:(wr [32] []++[47,62]).length=2:=rfl;lia
  rw[dB] at hall;subst hall;refine JN (σ':=τ) (λK q=>q) λK hK hR=>?_;refine bj (v:= .bool false) (λQ q=>a9 H.hc.eq rfl rfl<| ms H.hc<| T.le (JO G (r0:=[47,62]) (λx r1 e=>by cases e;decide) H.hd<| ry false rfl q) (by decide)) ?_
  have hF:=H.hf.ch (Ch.cu (c:=c) (X:=X) (m:=n+2)) (ni (cA (bX hcl neF)));refine d7 (λK q=>a9 (eT τ c X n) rfl rfl<| T.le (Uw G (w:=[47,62]) (by erw[H.hd];rfl) (kD hn) q) (by decide)) ?_
  refine bJ (λQ q=>(kU hF.eq).type<| q) (hR _ _ _ (q _ (H.ch.trans Ch.cu) ?_));have hc2:=H.hc.cu (m:=n+2);rw[bl] at hc2;exact bl▸hc2
 | p::rest,done,hall,τ,n,a,b,e,f,H=>by
  have hp:p∈all:=by erw[aD hall];exact qj _ (.head _)
  have okp:=ok p hp;obtain ⟨⟨x,w,ex,hx,hx2,hw⟩,hv,h34,h60⟩:=okp;have d0:X.drop n=[32]++(p.1++[61,34]++p.2++34::(wr [32] rest++[47,62])):=by (erw[H.hd];rewrite[JM]);simp[d9]
  have hn:=ny (x:=32) d0;have d1:=mr d0;have d1':X.drop (n+1)=x::(w++[61,34]++p.2++34::(wr [32] rest++[47,62])):=by (erw[show n+1=n+[32].length from rfl];erw[d1];erw[ex]);simp
  have hn1:=ny d1';have hsk:∀u:List Nat,(∃y r,u=y::r/\y≠x)->u.isPrefixOf (X.drop (n+1))=false:=λu z1=>by
   obtain ⟨y,r,e,hy⟩:=z1;(erw[d1'];erw[e]);refine (?_:(y==x && _)=false);erw[beq_eq_false_iff_ne.mpr hy];rfl
  have hx47:(47:Nat)≠x/\(62:Nat)≠x:=by
   simp only[aV,mH,and_true,am,or_false] at hx;lia
  refine JN (σ':=τ) (λK q=>q) λK hK hR=>?_;refine bj (v:= .bool true) (λQ q=>a9 H.hc.eq rfl rfl<| ms H.hc<| T.le (wK G (w:=[32]) (λx h=>aF.mp h) (λy r1 e=>?_) d0<| ry true rfl q) (by decide)) ?_
  ·rw[ex] at e;cases e;simp only[aV,mH,and_true,am,or_false] at hx ⊢;lia
  refine bG (λK q=>a9 (eT τ c X (n+1)) rfl rfl<| T.le (Bt G (w:=[47,62]) (hsk _ ⟨_,_,rfl,hx47.1⟩) (kD hn1) q) (by decide)) ?_
  refine bG (λK q=>a9 (eT τ c X (n+1)) rfl rfl<| T.le (Bt G (w:=[62]) (hsk _ ⟨_,_,rfl,hx47.2⟩) (kD hn1) q) (by decide)) ?_
  refine bG (λK q=>q) ?_;refine bj (λQ q=>eU rfl q) ?_;have c1:Ch [c] τ (cu τ c X (n+1)):=Ch.cu;have h1:=H.hc.cu (m:=n+1);have ncr:=ni hcr;have ncF:Fd∉[c]:=ni (cA (bX hcl neF));have ncK:Kd∉[c]:=ni (cA (bX hcl neK));refine gA (λQ q=>Ut G ⟨⟨x,w,ex,hx,hx2,hw⟩,hv,h34,h60⟩ h1 (r0.mv (H.ch.trans c1) ncr) hX d1 q) rfl ?_;have hc2:=h1.cu (m:=n+1+p.1.length+1+p.2.length+2);have c2:Ch [c] σ _:=(H.ch.trans c1).trans (Ch.cu (X:=X) (m:=n+1+p.1.length+1+p.2.length+2));have hf2:=(H.hf.ch c1 ncF).ch (Ch.cu (X:=X) (m:=n+1+p.1.length+1+p.2.length+2)) ncF;have hk2:=(H.hk.ch c1 ncK).ch (Ch.cu (X:=X) (m:=n+1+p.1.length+1+p.2.length+2)) ncK;generalize cu (cu τ c X (n+1)) c X (n+1+p.1.length+1+p.2.length+2)=ci at hc2 c2 hf2 hk2 ⊢;have d2:X.drop (n+1+p.1.length+1+p.2.length+2)=wr [32] rest++[47,62]:=by
   have:=mr (w:=[32]++p.1++[61,34]++p.2++[34]) (r:=wr [32] rest++[47,62]) (n:=n) (X:=X) (by erw[d0];simp)
   erw[aD this];congr 1;simp;lia
  have fresh:∀z∈done,z.1≠p.1:=λz hz e=>by
   rw[<-hall,bq,eL] at nd;exact nd.2.2 z.1 (aL.mpr ⟨z,hz,rfl⟩) p.1 (.head _) e
  have freshA:∀z∈done.map kTrue,z.1≠AV.str p.1:=λz hz e=>by
   obtain ⟨y,hy,rfl⟩:=aL.mp hz;exact fresh y hy (AV.str.inj e)
  have kinds:fY (done.map kTrue) (.str p.1):=⟨.s,rfl,λz hz=>by obtain ⟨y,hy,rfl⟩:=aL.mp hz;rfl⟩
  have lend:done.length<1000:=by rw[<-hall,bR] at few;lia
  refine bG (λK q=>⟨false,.inl ⟨_,hk2.eq,kinds,by erw[rP freshA];rfl⟩,q⟩) ?_
  refine ml (C:=λQ=>Q (.bool true) ci) (λQ q=>q) (rC rfl rfl hk2.eq kinds (by (rewrite[ay];erw[bH]);(with_reducible exact bX ‹_› (by decide))) ?_)
  have e3:dset (done.map kTrue) (.str p.1) (.bool true)=(done++[p]).map kTrue:=by (erw[rO freshA];erw[bq]);rfl
  erw[e3];have cK:Ch [Kd] ci (ci.set Kd (.dct ((done++[p]).map kTrue))):=Ch.set _ _ (.head _);have hf3:=hf2.ch cK (ni hFK);refine cI (λQ q=>j5 hf3.eq rfl ((dK hf3.eq (by (rewrite[ay];erw[bH]);(with_reducible exact bX ‹_› (by decide)))).builtin q)) ?_
  have e4:done.map aX++[aX p]=(done++[p]).map aX:=by erw[bq];rfl
  have cF:Ch [Fd] (ci.set Kd (.dct ((done++[p]).map kTrue))) ((ci.set Kd (.dct ((done++[p]).map kTrue))).set Fd (.lst (done.map aX++[aX p]))):=Ch.set _ _ (.head _);refine hK _ _ (JP r0 hX neF neK hcl hcr hFK all few nd ok q rest (done++[p]) (by (erw[aD hall];rewrite[fU]);rfl) ⟨(c2.drop cK λx hx=>?_).drop cF λx hx=>?_,(hc2.ch cK ?_).ch cF ?_,?_,(hk2.set).ch cF (ni hFK.symm),d2⟩)
  ·exact .inr (aF.mp hx▸neK)
  ·exact .inr (aF.mp hx▸neF)
  ·exact ni (ce (bX hcl neK))
  ·exact ni (ce (bX hcl neF))
  ·erw[aD e4];exact hf3.set
end
noncomputable def bB(items:List P2):List Nat:=[60,101]++(wr [32] items++[47,62])
theorem JQ(items:List P2):∃y r,wr [32] items++[47,62]=y::r/\[y]∈[[32],[47],[61]]/\y≠62:=by
 induction items using bQ with
 | nil=>exact ⟨47,[62],rfl,by decide,by decide⟩
 | cons p r=>exact ⟨32,_,by rewrite[JM];unfold d9;simp only[fU,nY,CS];rfl,by decide,by decide⟩
structure rV(items:List P2):Prop where
 few:items.length<1000
 nd:(items.map (·.1)).Nodup
 ok:∀p∈items,wM p
 len:(bB items).length<1000000
section
variable{P:PW}{σ:AH}{Q:AV->AH->Prop}(G:Gd P){c rd:Nat}{items:List P2}
include G
theorem Ux(I:rV items)(hc:af σ c (gE (bB items) 0))(r:Rd σ rd)(q:∀σ',Ch [c] σ σ'->af σ' c (gE (bB items) (bB items).length)->Q (.tup [.str [101],.tup (items.map aX),.bool true]) σ'):
  T P 9 (.con (.ref vw)) [.ref c,.bm lh rd] σ Q:=by
 obtain ⟨y,r1,e1,hy,J⟩:=JQ items;have d1:(bB items).drop 1=[101]++y::r1:=by unfold bB;erw[e1];rfl
 have ne:rd≠c:=r.h.ne hc (by intro e;cases e)
 refine (G.fn (rfl:tab vw=some (.fn _ _ _ Ak)) (aq rfl) (aq rfl) ?_).toT;refine cI (λQ q=>a9 hc.eq rfl rfl<| ms hc<| T.le (JJ G (w:=[60]) rfl (du _) q) (by decide)) ?_
 refine bj (λQ q=>a9 (eT σ c _ _) rfl rfl<| T.le (JL G (n:=0+[60].length) (x:=101) (w:=[]) I.len (by decide) (λz h=>by exact absurd h am) hy d1 q) (by decide)) ?_
 have h2:=hc.cu (m:=2);have c2:Ch [c] σ (cu σ c (bB items) 2):=Ch.cu;refine bj (λQ q=>q) ?_;refine bj (v:= .ref (σ.next+1)) (λQ q=>q) ?_;have c3:Ch [] (cu σ c (bB items) 2) (((cu σ c (bB items) 2).new (.lst [])).new (.dct [])):=(Ch.new _ _).trans (Ch.new _ _);have hl:af (((cu σ c (bB items) 2).new (.lst [])).new (.dct [])) σ.next (.lst []):=(af.new (cu σ c (bB items) 2) (.lst [])).ch (Ch.new (F:=[]) _ _) am;have hk:af (((cu σ c (bB items) 2).new (.lst [])).new (.dct [])) (σ.next+1) (.dct []):=af.new ((cu σ c (bB items) 2).new (.lst [])) _;exact JP G (Fd:=σ.next) (Kd:=σ.next+1) (rd:=rd) r I.len (bI _) (jc _) hc.lt ne (ce (jh _)) items I.few I.nd I.ok q items [] rfl (n:=2) ⟨c2.trans (c3.weak λx h=>by exact absurd h am),h2.ch c3 am,hl,hk,rfl⟩
end
structure RX where
 rd:Nat
 ev:Nat
 rw:Nat
 c:Nat
 fr:Nat
 fl:Nat
 nm:Nat
 en:Nat
 gr:Nat
 od:AV
noncomputable abbrev JR(x:RX):AO:= .ins mh [(q7,.ref x.en),(rf,x.od),(k9,.ref x.ev),(q9,.ref x.fl),(l7,.ref x.gr),(rc,.ref x.nm)]
structure RS(σ:AH)(x:RX)(X:List Nat)(n:Nat)(es:List AV):Prop where
 rd:af σ x.rd (JR x)
 fl:af σ x.fl (.lst [.ref x.fr])
 fr:af σ x.fr (.ins pb [(oS,.ref x.c),(di,.none),(uS,.int 0),(uQ,.int 0)])
 ev:af σ x.ev (.ins o9 [(cY,.ref x.rw)])
 rw:af σ x.rw (.lst es)
 nm:af σ x.nm (.lst [])
 c:af σ x.c (gE X n)
 ne:x.rw≠x.nm/\x.rw≠x.fl
theorem RS.ch{σ σ':AH}{x:RX}{X:List Nat}{n:Nat}{es:List AV}(h:RS σ x X n es)(c:Ch [] σ σ'):RS σ' x X n es:=
 ⟨h.rd.ch c am,h.fl.ch c am,h.fr.ch c am,h.ev.ch c am,h.rw.ch c am,h.nm.ch c am,h.c.ch c am,h.ne⟩
theorem RS.mv{σ σ':AH}{x:RX}{X:List Nat}{n m:Nat}{es:List AV}(h:RS σ x X n es)(c:Ch [x.c] σ σ')(hc:af σ' x.c (gE X m)):RS σ' x X m es:=by
 have k:∀{b:Nat}{o:AO},af σ b o->o≠gE X n->b∉[x.c]:=λhb hn e=>h.c.ne hb (λe=>hn e.symm) (aF.mp e).symm;exact ⟨h.rd.ch c (k h.rd (by intro e;cases e)),h.fl.ch c (k h.fl (by intro e;exact (AO.noConfusion e))),h.fr.ch c (k h.fr (by intro e;cases e)),h.ev.ch c (k h.ev (by intro e;cases e)),h.rw.ch c (k h.rw (by intro e;exact (AO.noConfusion e))),h.nm.ch c (k h.nm (by intro e;exact (AO.noConfusion e))),hc,h.ne⟩
theorem RS.put{σ:AH}{x:RX}{X:List Nat}{n:Nat}{es fs:List AV}(h:RS σ x X n es):RS (σ.set x.rw (.lst fs)) x X n fs:=by
 have k:∀{b:Nat}{o:AO},af σ b o->o≠.lst es->b∉[x.rw]:=λhb hn e=>h.rw.ne hb (λe=>hn e.symm) (aF.mp e).symm;have c:Ch [x.rw] σ (σ.set x.rw (.lst fs)):=Ch.set _ _ (.head _);exact ⟨h.rd.ch c (k h.rd (by intro e;exact (AO.noConfusion e))),h.fl.ch c (by rewrite[aF];exact h.ne.2.symm),h.fr.ch c (k h.fr (by intro e;exact (AO.noConfusion e))),h.ev.ch c (k h.ev (by intro e;exact (AO.noConfusion e))),h.rw.set,h.nm.ch c (by rewrite[aF];exact h.ne.1.symm),h.c.ch c (k h.c (by intro e;exact (AO.noConfusion e))),h.ne⟩
noncomputable abbrev lz(items:List P2):AV:= .tup [.str [115,116,97,114,116],.str [101],.tup (items.map aX)]
noncomputable abbrev mu:AV:= .tup [.str [101,110,100],.str [101]]
section
variable{P:PW}{σ:AH}{Q:AV->AH->Prop}(G:Gd P){x:RX}{X:List Nat}{n:Nat}{es:List AV}{items:List P2}
include G
theorem JS(H:RS σ x X n es)(hr:∀y r1,X.drop n=y::r1->[y]∈[[34],[47],[60],[61],[97],[112],[113],[120]])(h1:[60,33,45,45].isPrefixOf (X.drop n)=false)(h2:[60,63].isPrefixOf (X.drop n)=false)(hn:n<=X.length)(q:Q .none σ):
  T P 4 (.con (.ref vC)) [.ref x.rd,.ref x.c] σ Q:=by
 rw[<-AH.set_id H.c.eq] at q ⊢;refine (G.fn (rfl:tab vC=some (.fn _ _ _ Ic)) (aq rfl) (aq rfl) ?_).toT;refine cI (λQ q=>a9 (eT σ x.c X n) rfl rfl<| JO G hr rfl q) ?_;exact rR (λK q=>a9 (eT σ x.c X n) rfl rfl<| T.le (rU G false h1 hn<| a9 (eT σ x.c X n) rfl rfl<| T.le (rU G false h2 hn q) (by decide)) (by decide)) q
theorem JT(H:RS σ x X n es)(few:es.length<10){e:AV}(q:Q .none (σ.set x.rw (.lst (es++[e])))):T P 1 (.con (.ref vz)) [.ref x.ev,e] σ Q:=by
 refine (G.fn (rfl:tab vz=some (.fn _ _ _ H9)) (aq rfl) (aq rfl) ?_).toT;exact cI (λQ q=>bN H.ev.eq rfl rfl rfl ⟨_,eH H.rw.eq rfl,(dK H.rw.eq (by erw[bH];(with_reducible exact bX ‹_› (by decide)))).builtin q⟩) q
theorem Uy(I:rV items)(H:RS σ x (bB items) 0 [])(q:∀σ',RS σ' x (bB items) (bB items).length [lz items,mu]->Ch [x.c,x.rw] σ σ'->Q .none σ'):T P 10 (.con (.ref vE)) [.ref x.rd,.ref x.c] σ Q:=by
 refine (G.fn (rfl:tab vE=some (.fn _ _ _ Ig)) (aq rfl) (aq rfl) ?_).toT;refine wt (R:=λv σ'=>v= .tup [.str [101],.tup (items.map aX),.bool true]/\RS σ' x (bB items) (bB items).length []/\Ch [x.c] σ σ') (λQ q=>⟨_,_,_,rfl,H.rd.eq,.inr ⟨_,rfl,rfl,?_⟩⟩) λv ae z_0=>?_
 ·exact Ux G I H.c ⟨_,_,_,H.rd,rfl,rfl⟩ λσ' c' hc=>q _ _ ⟨rfl,H.mv c' hc,c'⟩
 obtain ⟨ev,H1,c1⟩:=z_0;subst ev;refine ⟨_,rfl,?_⟩;have H2:=H1.put (fs:=[lz items]);have H3:=H2.put (fs:=[lz items,mu]);refine cI (λQ q=>bN H1.rd.eq rfl rfl rfl ⟨_,fq H1.ev.eq rfl rfl,T.le (JT G H1 (by decide) q) (by decide)⟩) ?_
 refine d7 (λK q=>q) (cI (λQ q=>bN H2.rd.eq rfl rfl rfl ⟨_,fq H2.ev.eq rfl rfl,T.le (JT G H2 (xD (by simp)) q) (by decide)⟩) (q _ H3 ?_))
 have hm:x.rw∈[x.c,x.rw]:= .tail _ (.head _);exact ((c1.weak λy hy=>by rw[aF] at hy;erw[hy];exact .head _).trans (Ch.set _ _ hm)).trans (Ch.set _ _ hm)
theorem Uz(H:RS σ x (bB items) 0 [])(q:Q (.ref σ.next) (σ.new (.lst []))):T P 5 (.con (.ref vB)) [.ref x.rd] σ Q:=by
 obtain ⟨y,r1,e1,hy,J⟩:=JQ items;have d0:(bB items).drop 0=60::101::y::r1:=by unfold bB;erw[e1];rfl
 have p:∀w:List Nat,w.isPrefixOf (60::101::y::r1)=false->w.isPrefixOf ((bB items).drop 0)=false:=λw h=>d0▸h;refine (G.fn (rfl:tab vB=some (.fn _ _ _ Ib)) (aq rfl) (aq rfl) ?_).toT;refine bj (λQ q=>bN H.rd.eq rfl rfl rfl<| li (i:=0) H.fl.eq rfl<| bN H.fr.eq rfl rfl rfl q) ?_;have LJ:cu σ x.c (bB items) 0=σ:=AH.set_id H.c.eq;refine cI (λQ q=>a9 H.c.eq rfl rfl<| ms H.c<| T.le (Bt G (w:=[65279]) (p _ rfl) (du _) q) (by decide)) ?_
 refine bG (σ':=cu σ x.c (bB items) 0) (λK q=>a9 (eT ..) rfl rfl<| T.le (rU G false (p [60,63,120,109,108] rfl) (du _) q) (by decide)) ?_
 erw[LJ];refine cI (λQ q=>a9 H.rd.eq rfl rfl<| JS G H (λy r e=>by rw[d0] at e;cases e;decide) (p _ rfl) (p _ rfl) (du _) q) ?_
 refine bG (σ':=cu σ x.c (bB items) 0) (λK q=>a9 H.c.eq rfl rfl<| ms H.c<| T.le (rU G false (p [60,33,68,79,67,84,89,80,69] rfl) (du _) q) (by decide)) ?_
 erw[LJ];exact bJ (λQ q=>bN H.rd.eq rfl rfl rfl<| bN H.ev.eq rfl rfl rfl<| (yG H.rw.eq).type q) q
theorem UA(I:rV items)(H:RS σ x (bB items) 0 [])(q:∀σ',af σ' x.rw (.lst [lz items,mu])->Ch [x.c,x.rw] σ σ'->Q (.ref x.rw) σ'):T P 11 (.con (.ref vD)) [.ref x.rd] σ Q:=by
 refine (G.fn (rfl:tab vD=some (.fn _ _ _ Ie)) (aq rfl) (aq rfl) ?_).toT;refine bj (λQ q=>bN H.rd.eq rfl rfl rfl<| li (i:=0) H.fl.eq rfl<| bN H.fr.eq rfl rfl rfl q) ?_;refine bG (σ':=cu σ x.c (bB items) 0) (λK q=>a9 H.c.eq rfl rfl<| ms H.c<| T.le (rU G (w:=[60]) true rfl (du _) q) (by decide)) ?_
 erw[show cu σ x.c (bB items) 0=σ from AH.set_id H.c.eq]
 refine IZ (R:=λv σ'=>RS σ' x (bB items) (bB items).length [lz items,mu]/\Ch [x.c,x.rw] σ σ') (λQ q=>a9 H.rd.eq rfl rfl<| Uy G I H λσ' h c=>q _ _ ⟨h,c⟩) λv ae z_1=>?_;obtain ⟨H1,c1⟩:=z_1;have n1:Ch [] ae (ae.new (.lst [])):=Ch.new _ _;have H2:=H1.ch n1;refine rR (λK q=>bN H1.rd.eq rfl rfl rfl<| ge H1.nm false rfl q) ?_;have d:(bB items).drop (bB items).length=[]:=List.drop_length;refine cI (λQ q=>a9 H2.rd.eq rfl rfl<| T.le (JS G H2 (λy r e=>by rw[d] at e;cases e) (by erw[d];rfl) (by erw[d];rfl) (bI _) q) (by decide)) ?_
 refine bG (σ':=cu (ae.new (.lst [])) x.c (bB items) (bB items).length) (λK q=>a9 H2.c.eq rfl rfl<| ms H2.c<| T.le (JK G true (decide_eq_true (bI _)).symm q) (by decide)) ?_
 erw[show cu (ae.new (.lst [])) x.c (bB items) (bB items).length=ae.new (.lst []) from AH.set_id H2.c.eq]
 exact bJ (λQ q=>bN H2.rd.eq rfl rfl rfl<| bN H2.ev.eq rfl rfl rfl q) (q _ H2.rw (c1.trans (n1.weak λy h=>by exact absurd h am)))
theorem UB(I:rV items)(H:RS σ x (bB items) 0 [])(q:∀σ',af σ' x.rw (.lst [lz items,mu])->Ch [x.c,x.rw] σ σ'->Q (.ref x.rw) σ'):T P 12 (.con (.ref vA)) [.ref x.rd] σ Q:=by
 refine (G.fn (rfl:tab vA=some (.fn _ _ _ Ia)) (aq rfl) (aq rfl) ?_).toT;have n1:Ch [] σ (σ.new (.lst [])):=Ch.new _ _;refine cI (λQ q=>a9 H.rd.eq rfl rfl<| T.le (Uz G H q) (by decide)) ?_
 have H1:=H.ch n1;exact no (R:=λv σ'=>v= .ref x.rw/\af σ' x.rw (.lst [lz items,mu])/\Ch [x.c,x.rw] σ σ') (λQ q=>a9 H1.rd.eq rfl rfl<| UA G I H1 λσ' h c=>q _ _ ⟨rfl,h,(n1.weak λy h=>by exact absurd h am).trans c⟩) λv σ' z1=>by obtain ⟨ev,h,c⟩:=z1;subst ev;exact q _ h c
end
noncomputable abbrev A4:=(List Nat × List Nat × List Nat) × List Nat
structure aK where
 ps:List P2
 as:List A4
inductive It where
 | d (p u:List Nat)
 | a (x:A4)
noncomputable abbrev jz:List Nat:=[120,109,108,110,115,58]
noncomputable def It.p2:It->P2
 | .d p u=>(jz++p,u)
 | .a x=>(x.1.1,x.2)
noncomputable def It.dP:It->Option P2
 | .d p u=>some (p,u)
 | .a _=>none
noncomputable def It.aP:It->Option A4
 | .d .. =>none
 | .a x=>some x
noncomputable def aK.its(D:aK):List It:=D.ps.map (λp=>It.d p.1 p.2)++D.as.map It.a
noncomputable def uri:List P2->List Nat->List Nat
 | [],J1=>[]
 | q::r,p=>if q.1=p then q.2 else uri r p
theorem JU{q:P2}{r:List P2}{p:List Nat}:uri (q::r) p=if q.1=p then q.2 else uri r p:=rfl
structure aK.Ok(D:aK):Prop where
 few:D.ps.length+D.as.length<8
 ps:∀p∈D.ps,p.1∈PT/\p.2∈UT
 as:∀x∈D.as,x.1∈NT/\x.2∈VT/\(x.1.2.1=[]\/x.1.2.1∈D.ps.map (·.1))
 n1:(D.ps.map (·.1)).Nodup
 n2:(D.ps.map (·.2)).Nodup
 na:(D.as.map (·.1)).Nodup
theorem aK.dP(D:aK):D.its.filterMap It.dP=D.ps:=by
 unfold aK.its;(erw[CU];erw[xn];erw[xn]);have h1:D.ps.filterMap (It.dP∘λp=>It.d p.1 p.2)=D.ps:=by
  have:(It.dP∘λp:P2=>It.d p.1 p.2)=some:=rfl
  ((erw[this];erw[List.filterMap_some]);ac_rfl)
 have h2:D.as.filterMap (It.dP∘It.a)=[]:=List.filterMap_eq_nil_iff.mpr λa J=>rfl
 ((erw[h1];erw[h2]);rw[dB])
theorem aK.aP(D:aK):D.its.filterMap It.aP=D.as:=by
 unfold aK.its;(erw[CU];erw[xn];erw[xn]);have h1:D.ps.filterMap (It.aP∘λp=>It.d p.1 p.2)=[]:=List.filterMap_eq_nil_iff.mpr λa J=>rfl;have h2:D.as.filterMap (It.aP∘It.a)=D.as:=by
  have:(It.aP∘It.a)=some:=rfl
  ((erw[this];erw[List.filterMap_some]);ac_rfl)
 ((erw[h1];erw[h2]);rw[CS])
theorem pF{α β:Type}(f:α->Option β){xs:List α}{k:Nat}{x:α}(h:xs[k]? =some x):(xs.take (k+1)).filterMap f=(xs.take k).filterMap f++(f x).toList:=by
 (erw[d8 h];erw[CU]);cases e:f x<;>simp[e]
theorem Bu{α β:Type}(f:α->Option β)(xs:List α)(k:Nat):((xs.take k).filterMap f).length<=xs.length:=ck (List.length_filterMap_le _ _) (by erw[lO];lia)
theorem aK.its_len(D:aK):D.its.length=D.ps.length+D.as.length:=by unfold aK.its;(erw[bR];rw[ay,ay])
noncomputable def dS(x:A4):P2:=(x.1.1,x.2)
section
variable{P:PW}{σ:AH}{Q:AV->AH->Prop}(G:Gd P)
include G
theorem UC{x:List Nat × List Nat × List Nat}(hx:x∈NT)(q:Q .none σ):T P 1 (.con (.ref u3)) [.str x.1] σ Q:=i6 G (A:=λx:List Nat × List Nat × List Nat=>[.str x.1]) (w:=λJ=> .none) (L:=NT) rfl (λJ=>⟨rfl,rfl,λJ=>⟨rfl,rfl,rfl⟩⟩) (by kernel_rfl) hx q
theorem UD{x:List Nat}(hx:x∈PT)(q:Q (.str x) σ):T P 1 (.con (.ref u3)) [.str (jz++x)] σ Q:=i6 G (A:=λx=>[.str (jz++x)]) (w:=λx=> .str x) (L:=PT) rfl (λJ=>⟨rfl,rfl,λJ=>⟨rfl,rfl,rfl⟩⟩) (by kernel_rfl) hx q
theorem UE{x:List Nat}(hx:x∈PT)(q:Q (.bool true) σ):T P 8 (.con (.ref zP)) [.str x] σ Q:=i6 G (A:=λx=>[.str x]) (w:=λJ=> .bool true) (L:=PT) rfl (λJ=>⟨rfl,rfl,λJ=>⟨rfl,rfl,rfl⟩⟩) (by kernel_rfl) hx q
theorem UF{p u:List Nat}(hp:p∈PT)(hu:u∈UT)(q:Q .none σ):T P 9 (.con (.ref u4)) [.str p,.str u] σ Q:=by
 have tp:=(dR p hp).1;have tu:=jx u hu;have fp:p≠rL/\p≠pD/\p≠[]:=by
  unfold PT at hp;simp only[aV,am,or_false] at hp;rcases hp with rfl | rfl | rfl<;>decide
 have fu:u≠[]/\[rQ,iZ].contains u=false:=by
  unfold UT at hu;simp only[aV,am,or_false] at hu;rcases hu with rfl | rfl | rfl<;>decide
 refine (G.fn (rfl:tab u4=some (.fn _ _ _ Hw)) (aq rfl) (aq rfl) ?_).toT;refine bG (λK q=>dd tp (tx_of rfl) false (decide_eq_false fp.1).symm q) ?_;refine bG (λK q=>dd tp (tx_of rfl) false (decide_eq_false fp.2.1).symm q) ?_;refine bG (λK q=>Tb (ts:=[rQ,iZ]) rfl false fu.2 q) ?_;refine d7 (λK q=>iy tp (tx_of rfl) false (decide_eq_false fp.2.2).symm q) ?_;refine bG (λK q=>UE G hp q) ?_;exact bG (λK q=>dd tu (tx_of rfl) false (decide_eq_false fu.1).symm q) q
theorem UG{x:List Nat × List Nat × List Nat}(hx:x∈NT)(q:Q (.tup [.str x.2.1,.str x.2.2]) σ):T P 9 (.con (.ref uZ)) [.str x.1] σ Q:=i6 G (A:=λx:List Nat × List Nat × List Nat=>[.str x.1]) (w:=λx=> .tup [.str x.2.1,.str x.2.2]) (L:=NT) rfl (λJ=>⟨rfl,rfl,λJ=>⟨rfl,rfl,rfl⟩⟩) (by kernel_rfl) hx q
theorem UH(q:Q (.tup [.str [],.str de]) σ):T P 9 (.con (.ref uZ)) [.str de] σ Q:=i6 G (A:=λx:List Nat=>[.str x]) (w:=λx=> .tup [.str [],.str x]) (L:=[de]) rfl (λJ=>⟨rfl,rfl,λJ=>⟨rfl,rfl,rfl⟩⟩) (by kernel_rfl) (.head _) q
end
theorem JV{P:PW}{σ:AH}{l:Nat}{xs:List AV}{v:AV}{k:AV->Prop}(h:σ.m l=some (.lst (xs++[v])))(q:k v):Item P (.ref l) (.int (-1)) σ k:=by
 refine .inl ⟨_,_,v,h,rfl,?_,q⟩;unfold at_;(erw[if_neg (by decide)];erw[if_pos (by (erw[bR];erw[qf]);lia)])
 have:((-1:Int)+(xs++[v]).length).toNat=xs.length:=by (erw[bR];erw[qf]);lia
 ((erw[this];erw[oe (bI _)]);rewrite[Nat.sub_self]);rfl
theorem mw{p u:List Nat}:∀{ps:List P2},(ps.map (·.1)).Nodup->(p,u)∈ps->uri ps p=u
 | q::r,h,hm=>by
  rw[bi,ee] at h;erw[JU];rcases aV.mp hm with e | hm
  ·((erw[aD e];erw[if_pos rfl]);ac_rfl)
  ·rewrite[if_neg λe=>h.1 (aL.mpr ⟨_,hm,e.symm⟩)];exact mw h.2 hm
theorem Bv{p:List Nat}:∀{ps:List P2},p∉ps.map (·.1)->uri ps p=[]
 | [],J1=>rfl
 | q::r,h=>by
  rw[bi,aV,not_or] at h;erw[JU];rewrite[if_neg λe=>h.1 e.symm];exact Bv h.2
theorem UI:∀x∈NT,∀y∈NT,x.2=y.2->x=y:=by decide+kernel
section
variable{D:aK}(ok:D.Ok)
include ok
theorem aK.Ok.no0:([]:List Nat)∉D.ps.map (·.1):=λh=>by
 obtain ⟨p,hp,e⟩:=aL.mp h;exact (dR _ (ok.ps p hp).1).2.1 e
theorem aK.Ok.uri0:uri D.ps []=[]:=Bv ok.no0
theorem aK.Ok.get0:cy (xmlKV++D.ps.map kvAV) (.str [])=none:=rP λz hz e=>by
 rcases dH.mp hz with h | h
 ·rw[aF] at h;rw[h] at e;cases e
 ·obtain ⟨w,hw,rfl⟩:=aL.mp h;exact ok.no0 (aL.mpr ⟨w,hw,by injection e⟩)
theorem aK.Ok.get{p:List Nat}(h:p∈D.ps.map (·.1)):cy (xmlKV++D.ps.map kvAV) (.str p)=some (.str (uri D.ps p)):=by
 obtain ⟨w,hw,rfl⟩:=aL.mp h;refine (?_:cy ((AV.str pD,AV.str rQ)::D.ps.map kvAV) (.str w.1)=_);erw[jm];(rewrite[if_neg (λe=>(dR _ (ok.ps w hw).1).2.2.2 (by injection e with e;exact e.symm))];(erw[Bl ok.n1 hw];erw[mw (u:=w.2) ok.n1 hw]);ac_rfl)
theorem aK.Ok.uriU{p:List Nat}(h:p∈D.ps.map (·.1)):uri D.ps p∈UT:=by
 obtain ⟨w,hw,rfl⟩:=aL.mp h;erw[mw (u:=w.2) ok.n1 hw];exact (ok.ps w hw).2
theorem aK.Ok.uriInj{p q:List Nat}(hp:p=[]\/p∈D.ps.map (·.1))(hq:q=[]\/q∈D.ps.map (·.1))(e:uri D.ps p=uri D.ps q):p=q:=by
 have ne:∀{p},p∈D.ps.map (·.1)->uri D.ps p≠[]:=λh e=>by
  have:=ok.uriU h;rw[e] at this;exact absurd this (by decide)
 rcases hp with rfl | hp<;>rcases hq with rfl | hq
 ·rfl
 ·rw[ok.uri0] at e;exact absurd e.symm (ne hq)
 ·rw[ok.uri0] at e;exact absurd e (ne hp)
 ·obtain ⟨w,hw,rfl⟩:=aL.mp hp;obtain ⟨z,hz,rfl⟩:=aL.mp hq;rw[mw (u:=w.2) ok.n1 hw,mw (u:=z.2) ok.n1 hz] at e;have n2:=ok.n2
  suffices w=z by (erw[this];ac_rfl)
  revert hw hz e n2
  generalize D.ps=l;intro hw hz e n2
  induction l with
  | nil=>exact absurd hw am
  | cons y r ih=>
   rw[bi,ee] at n2;rcases aV.mp hw with h1 | h1<;>rcases aV.mp hz with h2 | h2
   ·((erw[h1];erw[h2]);ac_rfl)
   ·exact absurd (aL.mpr ⟨z,h2,by ((erw[aD e];erw[h1]);ac_rfl)⟩) n2.1
   ·exact absurd (aL.mpr ⟨w,h1,by ((erw[e];erw[h2]);ac_rfl)⟩) n2.1
   ·exact ih h1 h2 n2.2
end
noncomputable def aK.key(D:aK)(x:A4):List Nat × List Nat:=(uri D.ps x.1.2.1,x.1.2.2)
theorem aK.Ok.keys{D:aK}(ok:D.Ok):(D.as.map D.key).Nodup:=by
 have h:=ok.na;unfold lP at h ⊢;rw[jL] at h ⊢;refine h.imp_of_mem λ{a b} ha hb hn e=>hn ?_;have e1:=ok.uriInj (ok.as a ha).2.2 (ok.as b hb).2.2 (congrArg Prod.fst e);exact UI _ (ok.as a ha).1 _ (ok.as b hb).1 (iK e1 (show (D.key a).2=(D.key b).2 from congrArg _ e))
structure NB(σ:AH)(nb sc tl d:Nat)(D:aK)(xs ts:List AV):Prop where
 nb:af σ nb (.ins dN [(dM,.ref sc),(eQ,.ref tl)])
 sc:af σ sc (.lst (xs++[.ref d]))
 tl:af σ tl (.lst ts)
 d:af σ d (.dct (xmlKV++D.ps.map kvAV))
theorem NB.ch{σ σ':AH}{nb sc tl d:Nat}{D:aK}{xs ts:List AV}{F:List Nat}(h:NB σ nb sc tl d D xs ts)(c:Ch F σ σ')(n:nb∉F/\sc∉F/\tl∉F/\d∉F):NB σ' nb sc tl d D xs ts:=⟨h.nb.ch c n.1,h.sc.ch c n.2.1,h.tl.ch c n.2.2.1,h.d.ch c n.2.2.2⟩
section
variable{P:PW}{σ:AH}{Q:AV->AH->Prop}(G:Gd P){D:aK}(ok:D.Ok){nb sc tl d:Nat}{xs ts:List AV}
include G ok
theorem JW(H:NB σ nb sc tl d D xs ts){p:List Nat}(hp:p=[]\/p∈D.ps.map (·.1))(q:Q (.str (uri D.ps p)) σ):T P 1 (.con (.ref u7)) [.ref nb,.str p] σ Q:=by
 have tp:Tx p/\p≠rL:=by
  rcases hp with rfl | hp
  ·exact ⟨tx_of rfl,by decide⟩
  ·obtain ⟨w,hw,rfl⟩:=aL.mp hp;have:=(ok.ps w hw).1;refine ⟨(dR _ this).1,?_⟩;unfold PT at this;simp only[aV,am,or_false] at this;rcases this with e | e | e<;>erw[e]<;>decide
 refine (G.fn (rfl:tab u7=some (.fn _ _ _ Hy)) (aq rfl) (aq rfl) ?_).toT;refine bG (λK q=>dd tp.1 (tx_of rfl) false (decide_eq_false tp.2).symm q) ?_;refine bj (λQ q=>bN H.nb.eq rfl rfl rfl<| JV H.sc.eq ⟨_,pt H.d.eq rfl,((uj G.O.sys H.d.eq (wH p)).builtin q)⟩) ?_;rcases hp with rfl | hp
 ·erw[ok.get0];refine d7 (λK q=>lj q) ?_;refine bG (λK q=>iy tp.1 (tx_of rfl) true rfl q) ?_;exact bJ (λQ q=>q) (by rw[ok.uri0] at q;exact q)
 ·erw[ok.get hp];refine bG (λK q=>lj q) ?_;exact bJ (λQ q=>q) q
theorem JX(H:NB σ nb sc tl d D xs ts){x:A4}(hx:x∈D.as)(q:Q (.tup [.str (D.key x).1,.str (D.key x).2]) σ):T P 10 (.con (.ref oZ)) [.ref nb,.str x.1.1,.bool true] σ Q:=by
 obtain ⟨h1,h2,h3⟩:=ok.as x hx;have tp:=(ly _ h1).2.1;refine (G.fn (rfl:tab oZ=some (.fn _ _ _ Ai)) (aq rfl) (aq rfl) ?_).toT;refine gA (λQ q=>UG G h1 q) rfl ?_;by_cases e:x.1.2.1=[]
 ·refine d7 (λK q=>dd tp (tx_of rfl) true (decide_eq_true e).symm<| q) ?_;refine bJ (λQ q=>q) ?_;have:(D.key x).1=[]:=by refine (?_:uri D.ps x.1.2.1=_);((erw[e];erw[ok.uri0]);ac_rfl)
  rw[this] at q;exact q
 ·refine bG (λK q=>dd tp (tx_of rfl) false (decide_eq_false e).symm q) ?_;exact bJ (λQ q=>a9 H.nb.eq rfl rfl<| T.le (JW G ok H h3<| q) (by decide)) q
theorem UJ(H:NB σ nb sc tl d D xs ts)(q:Q (.tup [.str [],.str de]) σ):T P 10 (.con (.ref oZ)) [.ref nb,.str de] σ Q:=by
 refine (G.fn (rfl:tab oZ=some (.fn _ _ _ Ai)) (aq rfl) (aq rfl) ?_).toT;refine gA (λQ q=>UH G q) rfl ?_;refine bG (λK q=>dd (tx_of rfl) (tx_of rfl) true rfl<| q) ?_;refine bJ (λQ q=>a9 H.nb.eq rfl rfl<| T.le (JW G ok H (.inl rfl)<| ?_) (by decide)) q
 erw[ok.uri0];exact q
theorem UK(H:NB σ nb sc tl d D xs ts)(q:∀σ',Ch [] σ σ'->Q .none σ'):T P 11 (.con (.ref u8)) [.ref nb,.tup (D.as.map λx=>aX (dS x))] σ Q:=by
 have few:=ok.few;have hks:∀l:List A4,fY (l.map λx=>(aJ (D.key x),AV.str x.1.1)) (aJ (D.key default)):=λl=>⟨.ts,rfl,λp hp=>by obtain ⟨y,hy,rfl⟩:=aL.mp hp;rfl⟩
 refine (G.fn (rfl:tab u8=some (.fn _ _ _ Hz)) (aq rfl) (aq rfl) ?_).toT;refine bj (v:= .ref σ.next) (λQ q=>q) ?_;refine I3 (f:= .tup (D.as.map λx=>aX (dS x))) (xs:=D.as.map λx=>aX (dS x)) (λk ρ σ'=>Ch [] σ σ'/\af σ' σ.next (.dct ((D.as.take k).map λx=>(aJ (D.key x),AV.str x.1.1)))/\∃a b c:Option AV,ρ=[some (.ref nb),some (.tup (D.as.map λx=>aX (dS x))),some (.ref σ.next),a,b,c,none])
  (λQ q=>q) ⟨Ch.new _ _,af.new _ _,_,_,_,rfl⟩ (λk ρ σ' h=>rfl) (λk x ρ σ' K hk z1 hK=>?_) λρ τ ⟨c,hd,J⟩=>q _ c
 obtain ⟨c,hd,a,b,e,iC⟩:=z1;subst iC;rw[bt] at hk;obtain ⟨x,ex,rfl⟩:=bW.mp hk;have H':=H.ch c (by simp)
 refine ⟨_,rfl,bj (λQ q=>a9 H'.nb.eq rfl rfl<| JX G ok H' (cj ex) q) ?_⟩;have fresh:∀z∈(D.as.take k).map (λx=>(aJ (D.key x),AV.str x.1.1)),z.1≠aJ (D.key x):=λz hz e=>by
  obtain ⟨y,hy,rfl⟩:=aL.mp hz;have e2:D.key y=D.key x:=by
   injection e with e;injection e with e e';injection e with e;injection e' with e';injection e' with e';exact iK e e'
  obtain ⟨bD,er'⟩:=bP.mp ex;have e3:D.as=D.as.take k++x::D.as.drop (k+1):=by (erw[aD er'];rw[sW,kE])
  have nd:=ok.keys;rw[e3,bq,eL] at nd;exact nd.2.2 _ (aL.mpr ⟨y,hy,rfl⟩) _ (.head _) e2
 refine bG (λK q=>⟨false,.inl ⟨_,hd.eq,hks _,by erw[rP fresh];rfl⟩,q⟩) ?_
 refine Ti (R:=λv cU=>v= .str x.1.1/\cU=σ') (λQ q=>(q _ _ ⟨rfl,rfl⟩)) λv cU ⟨ev,es⟩=>⟨σ.next,_,aJ (D.key x),rfl,rfl,es▸hd.eq,hks _,fy (dE (fw (dA (CL _ _) few))) rfl,?_⟩;subst ev;subst cU;refine hK _ _ ⟨c.own (bI _),?_,_,_,_,rfl⟩;(erw[rO fresh];erw[d8 ex];erw[bq]);exact hd.set
end
theorem aK.its_d{D:aK}{p u:List Nat}(h:It.d p u∈D.its):(p,u)∈D.ps:=by
 erw[aD D.dP];exact List.mem_filterMap.mpr ⟨_,h,rfl⟩
theorem aK.its_a{D:aK}{x:A4}(h:It.a x∈D.its):x∈D.as:=by
 erw[aD D.aP];exact List.mem_filterMap.mpr ⟨_,h,rfl⟩
noncomputable def UL:au:=match Ah with
 | .cons _ (.cons _ (.cons _ (.cons _ (.cons _ r))))=>r
 | _=> .nil
section
variable{P:PW}{σ:AH}{Q:AV->AH->Prop}(G:Gd P){D:aK}(ok:D.Ok){nb sc tl d0:Nat}
include G ok
theorem JY(h1:af σ nb (.ins dN [(dM,.ref sc),(eQ,.ref tl)]))(h2:af σ sc (.lst [.ref d0]))(h3:af σ tl (.lst [.tup []]))(q:∀σ' d,Ch [sc,tl] σ σ'->NB σ' nb sc tl d D [.ref d0] [.tup [],.tup (D.ps.map aX)]->Q (.tup (D.as.map λx=>aX (dS x))) σ')
  {τ:AH} {O F d:Nat} {a b c e:Option AV} (ch:Ch [] σ τ) (gO:σ.next<=O) (gF:σ.next<=F) (hO:af τ O (.lst (D.as.map λx=>aX (dS x)))) (hF:af τ F (.lst (D.ps.map aX))) (hd:af τ d (.dct (xmlKV++D.ps.map kvAV))):
  aM P S0 10 UL [some (.ref nb),some (.tup (D.its.map λx=>aX x.p2)),some (.ref O),some (.ref F),a,b,c,some (.ref d),e,none,none,none,none] τ (λfl J σ'=>Ends Q fl σ'):=by
 have h1:=h1.ch ch am;have l2:=h2.lt;have l3:=h3.lt;have h2:=h2.ch ch am;have h3:=h3.ch ch am;have n23:sc≠tl:=h2.ne h3 nofun;have n21:nb≠sc:=h1.ne h2 nofun;have n31:nb≠tl:=h1.ne h3 nofun;have nd2:d≠sc:=hd.ne h2 nofun;have nd3:d≠tl:=hd.ne h3 nofun;refine cI (λQ q=>bN h1.eq rfl rfl rfl ⟨_,eH h2.eq rfl,((dK h2.eq (by erw[bH];exact xD (by simp))).builtin q)⟩) ?_
 have c1:Ch [sc] τ (τ.set sc (.lst ([.ref d0]++[.ref d]))):=Ch.set _ _ (.head _);have k1:=h1.ch c1 (ni n21);have k2:=h2.set (p:= .lst ([.ref d0]++[.ref d]));have k3:=h3.ch c1 (ni n23.symm);have kO:=hO.ch c1 (ni (cA (bX l2 gO)));have kF:=hF.ch c1 (ni (cA (bX l2 gF)));have kd:=hd.ch c1 (ni nd2);generalize τ.set sc (.lst ([.ref d0]++[.ref d]))=pS at c1 k1 k2 k3 kO kF kd ⊢;refine cI (λQ q=>bN k1.eq rfl rfl rfl ⟨_,eH k3.eq rfl,(kU kF.eq).type<| ((dK k3.eq (by erw[bH];decide)).builtin q)⟩) ?_
 have c2:Ch [tl] pS (pS.set tl (.lst ([.tup []]++[.tup (D.ps.map aX)]))):=Ch.set _ _ (.head _);refine bJ (λQ q=>(kU (kO.ch c2 (ni (cA (bX l3 gO)))).eq).type q) (q _ d ?_ ⟨k1.ch c2 ?_,k2.ch c2 ?_,k3.set,kd.ch c2 ?_⟩)
 ·exact ((ch.weak λx h=>by exact absurd h am).trans (c1.weak λx h=>by rw[aF] at h;erw[h];exact .head _)).trans (c2.weak λx h=>by rw[aF] at h;erw[h];exact .tail _ (.head _))
 ·exact ni n31
 ·exact ni n23
 ·exact ni nd3
theorem UM(h1:af σ nb (.ins dN [(dM,.ref sc),(eQ,.ref tl)]))(h2:af σ sc (.lst [.ref d0]))(h3:af σ tl (.lst [.tup []]))(h4:af σ d0 (.dct xmlKV))(q:∀σ' d,Ch [sc,tl] σ σ'->NB σ' nb sc tl d D [.ref d0] [.tup [],.tup (D.ps.map aX)]->Q (.tup (D.as.map λx=>aX (dS x))) σ'):
  T P 11 (.con (.ref u5)) [.ref nb,.tup (D.its.map λx=>aX x.p2)] σ Q:=by
 have few:=ok.few;have fl:=D.its_len;refine (G.fn (rfl:tab u5=some (.fn _ _ _ Ah)) (aq rfl) (aq rfl) ?_).toT;refine bj (λQ q=>q) ?_;refine bj (λQ q=>q) ?_;have c0:Ch [] σ ((σ.new (.lst [])).new (.lst [])):=(Ch.new _ _).trans (Ch.new _ _);refine mo (f:= .tup (D.its.map λx=>aX x.p2)) (xs:=D.its.map λx=>aX x.p2) (λk X=>∀τ a b c,Ch [] σ τ->af τ σ.next (.lst (((D.its.take k).filterMap It.aP).map λx=>aX (dS x)))->af τ (σ.next+1) (.lst (((D.its.take k).filterMap It.dP).map aX))->X [some (.ref nb),some (.tup (D.its.map λx:It=>aX x.p2)),some (.ref σ.next),some (.ref (σ.next+1)),a,b,c,none,none,none,none,none,none] τ)
  (λQ q=>q) (λX q=>q _ _ _ _ c0 ((af.new σ (.lst [])).ch (Ch.new (F:=[]) _ _) am) (af.new (σ.new (.lst [])) _)) (λJ J J J J J J J=>rfl) (λk x K hk hK τ a b e c hO hF=>?_) λτ a b e c hO hF=>?_
 ·rw[bt] at hk;obtain ⟨x,ex,rfl⟩:=bW.mp hk;have hm:=cj ex;cases x with
  | d p u=>
   obtain ⟨hp,hu⟩:=ok.ps _ (D.its_d hm);refine bj (λQ q=>T.le (UD G hp q) (by decide)) ?_
   refine lm (λK q=>lj q) ?_;refine cI (λQ q=>T.le (UF G hp hu q) (by decide)) ?_
   refine cI (λQ q=>j5 hF.eq rfl ((dK hF.eq (fy (dE (dA (Bu It.dP D.its k) (D.its_len▸few))) rfl)).builtin q)) ?_;refine hK _ _ λX q=>q _ _ _ _ (c.own (jc _)) ?_ ?_
   ·erw[pF It.aP ex];exact (dB _).symm▸hO.ch (Ch.set (F:=[σ.next+1]) _ _ (.head _)) (ni (ce (jh _)))
   ·(erw[pF It.dP ex];erw[bq]);exact hF.set
  | a x=>
   have h:=ok.as _ (D.its_a hm);refine bj (λQ q=>T.le (UC G h.1 q) (by decide)) ?_
   refine d7 (λK q=>lj q) ?_;refine cI (λQ q=>j5 hO.eq rfl ((dK hO.eq (fy (dE (dA (Bu It.aP D.its k) (D.its_len▸few))) rfl)).builtin q)) ?_;refine hK _ _ λX q=>q _ _ _ _ (c.own (bI _)) ?_ ?_
   ·(erw[pF It.aP ex];erw[bq]);exact hO.set
   ·erw[pF It.dP ex];exact (dB _).symm▸hF.ch (Ch.set (F:=[σ.next]) _ _ (.head _)) (ni (cA (jh _)))
 rw[ay,ez] at hO hF;rw[D.aP] at hO;rw[D.dP] at hF;have k1:=h1.ch c am;have k2:=h2.ch c am;have k4:=h4.ch c am;refine bj (λQ q=>bN k1.eq rfl rfl rfl<| JV (xs:=[]) k2.eq q) ?_;have n1:Ch [] τ (τ.new (.lst [])):=Ch.new _ _;have kF:=hF.ch n1 am;have kO:=hO.ch n1 am
 induction hps:D.ps using bQ with
 | nil=>
  refine bG (λK q=>ge hF false (by erw[hps];rfl) q) ?_
  exact JY G ok h1 h2 h3 q (c.trans n1) (bI _) (jc _) kO kF (by erw[hps];exact k4.ch n1 am)
 | cons p0 r0=>
  refine d7 (λK q=>ge hF true (by erw[hps];rfl) q) ?_
  refine bj (λQ q=>(yL G.O.sys (k4.ch n1 am).eq (Bm (l:=[]))).type q) ?_;have n2:Ch [] τ ((τ.new (.lst [])).new (.dct xmlKV)):=n1.trans (Ch.new _ _);have gD:σ.next<=τ.next+1:=xx c.le;have nF:σ.next+1∉[τ.next+1]:=ni (ce (sX hF.lt));have nO:σ.next∉[τ.next+1]:=ni (ce (sX hO.lt));have hO:=hO.ch n2 am;have hF:=hF.ch n2 am;refine mo (f:= .ref (σ.next+1)) (xs:=D.ps.map aX) (λk X=>∀fe e f,Ch [τ.next+1] ((τ.new (.lst [])).new (.dct xmlKV)) fe->af fe (τ.next+1) (.dct (xmlKV++(D.ps.take k).map kvAV))->X [some (.ref nb),some (.tup (D.its.map λx:It=>aX x.p2)),some (.ref σ.next),some (.ref (σ.next+1)),a,b,e,some (.ref (τ.next+1)),f,none,none,none,none] fe)
   (λQ q=>q) (λX q=>q _ _ _ (Ch.refl _) (af.new (τ.new (.lst [])) _)) (λk fe e f h J=>bU (hF.ch h nF).eq) (λk x K hk hK fe e f ch hd=>?_) λfe e f ch hd=>?_
  ·rw[bt] at hk;obtain ⟨w,ew,rfl⟩:=bW.mp hk;refine ml (C:=λQ=>Q (.str w.2) fe) (λQ q=>q) (rC rfl rfl hd.eq (wH _) (fy (N:=2+8) (pv (aq rfl) (dE (fw (dA (iG _ _) few)))) rfl) (hK _ _ λX q=>q _ _ _ (ch.trans (Ch.set _ _ (.head _))) ?_));erw[aD (JB ok.n1 ew (dR _ (ok.ps w (cj ew)).1).2.2.2)];exact hd.set
  ·rw[ay,ez] at hd;exact JY G ok h1 h2 h3 q ((c.trans n2).drop ch λx hx=> .inr (aF.mp hx▸gD)) (bI _) (jc _) (hO.ch ch nO) (hF.ch ch nF) hd
end
theorem JZ{σ:AH}{i j:Int}{k:Bool->Prop}(a:iJ (.int i)=true)(b:iJ (.int j)=true)(c:Bool)(h:sD (.int i) (.int j)=c)(q:k c):dY .Eq (.int i) (.int j) σ k:=⟨c,.inr ⟨1,_,_,rfl,rfl,a,b,by simp[gR],by simp[gR],h.symm⟩,q⟩
theorem UN{σ:AH}{i j:Int}{k:Bool->Prop}(a:iJ (.int i)=true)(b:iJ (.int j)=true)(c:Bool)(h:sD (.int i) (.int j)=c)(q:k (!c)):dY .NotEq (.int i) (.int j) σ k:=⟨c,.inr ⟨1,_,_,rfl,rfl,a,b,by simp[gR],by simp[gR],h.symm⟩,q⟩
theorem J0{P:PW}{σ:AH}{l:Nat}{xs:List AV}{x:AV}{d:Nat}{Q:AV->AH->Prop}(e:σ.m l=some (.lst (xs++[x])))(q:Q x (σ.set l (.lst xs))):T P d (.con (.builtin "list.pop")) [.ref l] σ Q:=(qT e).builtin q
noncomputable def nz(p:P2):aZ:= .ns p.1 p.2
noncomputable def aK.atLf(D:aK)(x:A4):aZ:= .at x.1.1 (D.key x).1 (D.key x).2 x.2
noncomputable def aK.lv(D:aK):List aZ:=D.ps.map nz++D.as.map D.atLf
theorem J8:∀x∈NT,(ll (x.1.take 6) && decide (x.1≠rL) && decide (x.1.take 6≠jz))=true:=by decide+kernel
theorem Bw:∀p∈PT,(ll (jz++p) && decide (jz++p≠rL))=true:=by decide+kernel
theorem rY:∀v∈VT,ll v=true:=by decide+kernel
theorem UO{α β γ:Type}(f:α->Option β)(g:β->γ){l:List α}{k:Nat}{x:α}{y:β}(h:((l.filterMap f).map g).Nodup)(e:l[k]? =some x)(ey:f x=some y):∀z∈(l.take k).filterMap f,g z≠g y:=λz hz e2=>by
 obtain ⟨bD,er'⟩:=bP.mp e;have e3:l=l.take k++x::l.drop (k+1):=by (erw[aD er'];rw[sW,kE])
 rw[e3,CU,List.filterMap_cons_some ey,bq,eL] at h;exact h.2.2 _ (aL.mpr ⟨z,hz,rfl⟩) _ (.head _) e2
theorem UP{X:List Nat}:cut X .none (.int 6) .none=some (X.take 6):=by
 rfl
theorem UQ{X:List Nat}:cut X (.int 6) .none .none=some (X.drop 6):=by
 refine (?_:some ((X.take X.length).drop 6)=_);(erw[ez];ac_rfl)
theorem J9{P:PW}{d:Nat}{ρ:ac}{σ:AH}{Q:AV->AH->Prop}{a:AE}{X:List Nat}(ha:sv S0 ρ [] a=some (.str X))(q:Q (.str (X.take 6)) σ):wE P S0 d (.slice a .none (.int 6) .none) ρ [] σ Q:=JE<| eZ ha ⟨rfl,_,UP,q⟩
theorem UR{P:PW}{d:Nat}{ρ:ac}{σ:AH}{Q:AV->AH->Prop}{a:AE}{X:List Nat}(ha:sv S0 ρ [] a=some (.str X))(q:Q (.str (X.drop 6)) σ):wE P S0 d (.slice a (.int 6) .none .none) ρ [] σ Q:=JE<| eZ ha ⟨rfl,_,UQ,q⟩
section
variable{P:PW}{σ:AH}{Q:AV->AH->Prop}(G:Gd P)
include G
theorem US{D:aK}{nb sc tl d d0:Nat}{w:AV}(H:NB σ nb sc tl d D [.ref d0] [.tup [],w])(q:∀σ' v,Ch [sc,tl] σ σ'->Q v σ'):T P 2 (.con (.ref u6)) [.ref nb] σ Q:=by
 obtain n1:nb≠sc:=H.nb.ne H.sc (by intro e;exact (AO.noConfusion e))
 obtain n3:sc≠tl:=H.sc.ne H.tl (by intro e;cases e)
 refine (G.fn (rfl:tab u6=some (.fn _ _ _ Hx)) (aq rfl) (aq rfl) ?_).toT;refine bG (λK q=>bN H.nb.eq rfl rfl rfl<| (lZ H.sc.eq).builtin<| JZ rfl rfl false rfl q) ?_;refine cI (λQ q=>bN H.nb.eq rfl rfl rfl ⟨_,eH H.sc.eq rfl,(J0 H.sc.eq q)⟩) ?_;obtain c1:Ch [sc] σ (σ.set sc (.lst [.ref d0])):=Ch.set _ _ (.head _);obtain k1:=H.nb.ch c1 (by rewrite[aF];exact n1)
 obtain k3:=H.tl.ch c1 (by rewrite[aF];exact n3.symm)
 exact cI (λQ q=>bN k1.eq rfl rfl rfl ⟨_,eH k3.eq rfl,(J0 (xs:=[.tup []]) k3.eq q)⟩) (q _ _ ((c1.weak λx h=>by rw[aF] at h;erw[h];exact .head _).trans (Ch.set _ _ (.tail _ (.head _)))))
theorem UU{X:TS}{rs:List Nat}{lv:List aZ}(H:TA σ X rs lv)(q:Q (.int 0) σ):T P 4 (.con (.ref vk)) [.ref X.t,.int 1,.str de,.int 0] σ Q:=by
 refine (G.fn (rfl:tab vk=some (.fn _ _ _ HO)) (aq rfl) (aq rfl) ?_).toT;refine bG (λK q=>JZ rfl rfl false rfl<| a9 H.t.eq rfl rfl<| dy G (rfl:tab j2=_) (i:=1) H.t.eq H.L.eq rfl H.r1.eq rfl rfl rfl<| iy (tx_of rfl) (tx_of rfl) true rfl q) ?_;exact bJ (λQ q=>a9 H.t.eq rfl rfl<| dy G (rfl:tab Ac=_) (i:=1) H.t.eq H.L.eq rfl H.r1.eq rfl rfl rfl q) q
theorem UV{D:aK}(ok:D.Ok){fc:AH}{t L r0 c0 nb sc tl d0:Nat}(H0:T0 fc t L r0 c0)(c00:Ch [] fc σ)(gs:fc.next<=sc)(gt:fc.next<=tl)(h1:af σ nb (.ins dN [(dM,.ref sc),(eQ,.ref tl)]))(h2:af σ sc (.lst [.ref d0]))(h3:af σ tl (.lst [.tup []]))(h4:af σ d0 (.dct xmlKV))
  (q:∀σ' r1 c1 rs d w,TA σ' ⟨t,L,r0,c0,r1,c1⟩ rs D.lv->NB σ' nb sc tl d D [.ref d0] [.tup [],w]->Ch [L,c0] fc σ'->Q (.int 1) σ'):T P 12 (.con (.ref vj)) [.ref t,.int 0,.str de,.tup (D.its.map λx=>aX x.p2),.ref nb] σ Q:=by
 obtain few:=ok.few;obtain fl:=D.its_len;refine (G.fn (rfl:tab vj=some (.fn _ _ _ HN)) (aq rfl) (aq rfl) ?_).toT;refine bG (λK q=>lj q) ?_;refine dQ (C:=λQ=>∀σ' d w,T0 σ' t L r0 c0->Ch [] fc σ'->NB σ' nb sc tl d D [.ref d0] [.tup [],w]->Q (.tup (D.as.map λx=>aX (dS x))) σ') (λQ q=>a9 h1.eq rfl rfl<| UM G ok h1 h2 h3 h4 λσ' d c' hN=>(λc2=>q _ d _ (H0.ch c2) c2 hN) (c00.drop c' λx hx=> .inr ?_)) λae d w H1 c01 N1=>?_
 ·rcases aV.mp hx with e | hx
  ·exact e▸gs
  ·exact aF.mp hx▸gt
 refine gA (λQ q=>a9 N1.nb.eq rfl rfl<| T.le (UJ G ok N1 q) (by decide)) rfl ?_
 refine dQ (C:=λQ=>∀σ',TA σ' ⟨t,L,r0,c0,ae.next,ae.next+1⟩ [] []->Ch [L,c0] fc σ'->NB σ' nb sc tl d D [.ref d0] [.tup [],w]->Q (.int 1) σ') (λQ q=>a9 H1.ht.eq rfl rfl<| T.le (Jy G H1 λσ' h1 h2=>q _ h1 ((c01.weak λx h=>nomatch h).trans h2) (N1.ch h2 ?_)) (by decide)) λao H2 c02 N2=>?_
 ·obtain a1:=N1.nb.ne H1.hL (by intro e;exact (AO.noConfusion e))
  have a2:=N1.nb.ne H1.hc (by intro e;exact (AO.noConfusion e))
  obtain a3:=N1.d.ne H1.hL (by intro e;exact (AO.noConfusion e))
  obtain a4:=N1.d.ne H1.hc (by intro e;exact (AO.noConfusion e))
  have b1:=H0.hL.lt;have b2:=H0.hc.lt;exact ⟨rx a1 a2,rx (cA (bX b1 gs)) (cA (bX b2 gs)),rx (cA (bX b1 gt)) (cA (bX b2 gt)),rx a3 a4⟩
 have hF:nb∉[L,ae.next+1+1,ae.next+1+2]/\sc∉[L,ae.next+1+1,ae.next+1+2]/\tl∉[L,ae.next+1+1,ae.next+1+2]/\d∉[L,ae.next+1+1,ae.next+1+2]:=by
  have a1:=N1.nb.ne H1.hL (by intro e;exact (AO.noConfusion e))
  have a3:=N1.d.ne H1.hL (by intro e;exact (AO.noConfusion e))
  obtain b1:=H0.hL.lt;obtain b2:=N1.nb.lt;obtain b3:=N1.sc.lt;obtain b4:=N1.tl.lt;have b5:=N1.d.lt;exact ⟨wj a1 b2,wj (cA (bX b1 gs)) b3,wj (cA (bX b1 gt)) b4,wj a3 b5⟩
 obtain gr:fc.next<=ae.next:=c01.le;generalize ae.next=r1 at H2 hF gr ⊢;have mv:∀{τ σ':AH},Ch [L,c0] fc τ->Ch [L,r1+1+1,r1+1+2] τ σ'->Ch [L,c0] fc σ':=λa b=>a.drop b λx hx=>by
  refine (aV.mp hx).elim (λe=> .inl (aV.mpr (.inl e))) λh=> .inr ((aV.mp h).elim (λe=>e▸ck gr (iG r1 2)) λh=>(aF.mp h)▸ck gr (iG r1 3))
 refine mo (f:= .tup (D.its.map λx=>aX x.p2)) (xs:=D.its.map λx=>aX x.p2) (λk X=>∀τ rs a b,TA τ ⟨t,L,r0,c0,r1,r1+1⟩ rs (((D.its.take k).filterMap It.dP).map nz)->Ch [L,c0] fc τ->NB τ nb sc tl d D [.ref d0] [.tup [],w]->X [some (.ref t),some (.int 0),some (.str de),some (.tup (D.its.map λx:It=>aX x.p2)),some (.ref nb),some (.int 1),a,b,some (.tup (D.as.map λx=>aX (dS x))),some (.str []),some (.str de)] τ)
  (λQ q=>q) (λX q=>q _ _ _ _ H2 c02 N2) (λJ J J J J J J J=>rfl) (λk x K hk hK τ rs a b H c2 N=>?_) λτ rs a b H c2 N=>?_
 ·rw[bt] at hk;obtain ⟨x,ex,rfl⟩:=bW.mp hk;obtain hm:=cj ex;obtain bl:=Bu It.dP D.its k;cases x with
  | d p u=>
   obtain ⟨hp,hu⟩:=ok.ps _ (D.its_d hm);obtain hn:=Bw p hp;rw[bV] at hn;obtain pf:=dR p hp;refine lm (λK q=>dd (tx_of hn.1) (tx_of rfl) false (decide_eq_false (of_decide_eq_true hn.2)).symm q) ?_;refine d7 (λK q=>J9 rfl<| dd (s:=jz) (tx_of rfl) (tx_of rfl) true rfl q) ?_;refine ln (C:=λQ=>∀v σ' rs',TA σ' ⟨t,L,r0,c0,r1,r1+1⟩ rs' (((D.its.take k).filterMap It.dP).map nz++[.ns p u])->Ch [L,c0] fc σ'->NB σ' nb sc tl d D [.ref d0] [.tup [],w]->Q v σ') (λQ q=>⟨_,fq H.t.eq rfl rfl,UR rfl<|
    T.le (Jg G H (dE (dA bl (wl (D.its_len▸ok.few) rfl))) ⟨pf.1,jx u hu,pf.2.1,pf.2.2.1⟩ (λp' u' h=>?_) λσ' r h c=>q _ _ _ h (mv c2 c) (N.ch c hF)) (by decide)⟩) λv σ' rs' h1 c3 h2=>hK _ _ λX q=>q _ rs' _ _ ?_ c3 h2
   ·obtain ⟨z,hz,e⟩:=aL.mp h;cases e;exact UO It.dP (·.1) (D.dP▸ok.n1) ex (y:=(p,u)) rfl z hz
   ·refine al (pF It.dP ex) (al bq ?_);exact h1
  | a x=>
   obtain hn:=J8 _ (ok.as _ (D.its_a hm)).1;rw[bV,bV] at hn;refine lm (λK q=>dd (ly _ (ok.as _ (D.its_a hm)).1).1 (tx_of rfl) false (decide_eq_false (of_decide_eq_true hn.1.2)).symm q) ?_;refine bG (λK q=>J9 rfl<| dd (tx_of hn.1.1) (tx_of rfl) false (decide_eq_false (of_decide_eq_true hn.2)).symm q) (hK _ _ λX q=>q _ rs _ _ ?_ c2 N);refine al (pF It.dP ex) ?_;exact (dB _).symm▸H
 rw[ay,ez,D.dP] at H;clear H2 N2;refine ln (C:=λQ=>∀v σ',Ch [] τ σ'->Q v σ') (λQ q=>a9 N.nb.eq rfl rfl<| UK G ok N λσ'=>q _ _) λv ci c=>?_;have H2:=H.ch0 c;have c3:=c2.trans (c.weak λx h=>nomatch h);have N2:=N.ch c ⟨am,am,am,am⟩;refine mo (f:= .tup (D.as.map λx=>aX (dS x))) (xs:=D.as.map λx=>aX (dS x)) (λk X=>∀τ rs a b c e,TA τ ⟨t,L,r0,c0,r1,r1+1⟩ rs (D.ps.map nz++(D.as.take k).map D.atLf)->Ch [L,c0] fc τ->NB τ nb sc tl d D [.ref d0] [.tup [],w]->X [some (.ref t),some (.int 0),some (.str de),some (.tup (D.its.map λx:It=>aX x.p2)),some (.ref nb),some (.int 1),a,b,some (.tup (D.as.map λx=>aX (dS x))),c,e] τ)
  (λQ q=>q) (λX q=>q _ _ _ _ _ _ (by ((erw[CT];erw[List.map_nil]);rewrite[dB]);exact H2) c3 N2) (λJ J J J J J J J J J=>rfl) (λk x K hk hK τ rs a b e f H c2 N=>?_) λτ rs a b e f H c2 N=>?_
 ·rw[bt] at hk;obtain ⟨x,ex,rfl⟩:=bW.mp hk;obtain hm:=cj ex;obtain ⟨hn,hv,hp⟩:=ok.as x hm;obtain tn:=ly _ hn;obtain tu:Tx (D.key x).1:=by
   refine (?_:Tx (uri D.ps x.1.2.1));rcases hp with h | h
   ·refine al h (al ok.uri0 ?_);exact tx_of rfl
   ·exact jx _ (ok.uriU h)
  refine gA (λQ q=>a9 N.nb.eq rfl rfl<| T.le (JX G ok N hm q) (by decide)) rfl ?_
  refine ln (C:=λQ=>∀v σ' rs',TA σ' ⟨t,L,r0,c0,r1,r1+1⟩ rs' ((D.ps.map nz++(D.as.take k).map D.atLf)++[D.atLf x])->Ch [L,c0] fc σ'->NB σ' nb sc tl d D [.ref d0] [.tup [],w]->Q v σ') (λQ q=>a9 H.t.eq rfl rfl<| T.le (Jf G H (by (erw[bR];rewrite[ay,ay];erw[lO]);exact dA (sC (Cu _ _) _) (wl ok.few rfl)) ⟨tn.1,tu,tn.2.2,tx_of (rY _ hv)⟩ (λn u l v h=>?_) λσ' r h c=>q _ _ _ h (mv c2 c) (N.ch c hF)) (by decide)) λv σ' rs' h1 c3 h2=>hK _ _ λX q=>q _ rs' _ _ _ _ ?_ c3 h2
  ·rintro ⟨rfl,rfl⟩
   rcases dH.mp h with h | h
   ·obtain ⟨z,hz,e⟩:=aL.mp h;exact (aZ.noConfusion e)
   ·obtain ⟨z,hz,e⟩:=aL.mp h;injection e with e1 e2 e3 e4;exact JA _ ok.keys ex z hz (iK e2 e3)
  ·((erw[d8 ex];erw[bq]);rewrite[<-fU]);exact h1
 ·rw[ay,ez] at H;exact bJ (λQ q=>q) (q _ _ _ _ _ _ H N c2)
end
noncomputable abbrev Bx(D:aK):AV:= .tup [.str [115,116,97,114,116],.str de,.tup (D.its.map λx=>aX x.p2)]
theorem Ka{l:List Nat}{x:AV}{r:List AV}(h:∀i,x≠.int i):AO.lst (bK l)≠.lst (x::r):=λe=>by
 induction l using bQ with
 | nil=>cases e
 | cons a l=>
  injection e with e;injection e with e;exact h _ e.symm
section
variable{P:PW}{σ:AH}{Q:AV->AH->Prop}(G:Gd P)
include G
theorem UW(q:Q (.ref σ.next) (σ.adds [.ins dN [(dM,.ref (σ.next+2)),(eQ,.ref (σ.next+3))],.dct xmlKV,.lst [.ref (σ.next+1)],.lst [.tup []]])):T P 3 (.con (.ref dN)) [] σ Q:=by
 have h:=wm G (n:=3) (f:= .con (.ref dN)) (args:=[]) (sc:=[]) (R:=λv H=>v= .ref 0/\H=[.ins dN [(dM,.ref 2),(eQ,.ref 3)],.dct xmlKV,.lst [.ref 1],.lst [.tup []]]) rfl rfl (by
   have e:(dL P S0 tab 300 3 (.con (.ref dN)) [] [] [] λv H J=>v= .ref 0/\H=[.ins dN [(dM,.ref 2),(eQ,.ref 3)],.dct xmlKV,.lst [.ref 1],.lst [.tup []]])=(AV.ref 0= .ref 0/\[AO.ins dN [(dM,.ref 2),(eQ,.ref 3)],.dct xmlKV,.lst [.ref 1],.lst [.tup []]]=[.ins dN [(dM,.ref 2),(eQ,.ref 3)],.dct xmlKV,.lst [.ref 1],.lst [.tup []]]):=by kernel_rfl
   erw[e];exact ⟨rfl,rfl⟩) σ
 refine h.mono λv σ' z_6=>?_;obtain ⟨v',H,⟨e2,e3⟩,e4,e5⟩:=z_6;subst e2 e3 e4 e5;exact q
set_option maxHeartbeats 1000000 in
theorem UX{D:aK}(ok:D.Ok){t L el:Nat}(ht:af σ t (dF L))(hL:af σ L (.lst []))(he:af σ el (.lst [Bx D,mu]))(q:∀σ' r0 c0 r1 c1 rs,TA σ' ⟨t,L,r0,c0,r1,c1⟩ rs D.lv->Q (.int 0) σ'):T P 13 (.con (.ref vi)) [.ref t,.ref el] σ Q:=by
 have net:t∉[L]:=ni (ht.ne hL nofun);have nel:el≠L:=he.ne hL nofun;have lel:=he.lt;refine (G.fn (rfl:tab vi=some (.fn _ _ _ HM)) (aq rfl) (aq rfl) ?_).toT;refine dQ (C:=λQ=>∀σ',T0 σ' t L σ.next (σ.next+1)->Ch [L] σ σ'->Q (.int 0) σ') (λQ q=>a9 ht.eq rfl rfl<| T.le (Jb G (rows:=[]) ht hL (by decide) λσ' N=>q _ ⟨ht.ch N.ch net,N.rows,N.row,N.l1,ce (sX hL.lt)⟩ N.ch) (by decide)) λae H1 c1=>?_
 refine bj (λQ q=>T.le (UW G q) (by decide)) ?_
 have ca:Ch [] ae (ae.adds [.ins dN [(dM,.ref (ae.next+2)),(eQ,.ref (ae.next+3))],.dct xmlKV,.lst [.ref (ae.next+1)],.lst [.tup []]]):=Ch.adds _ _;have n1:=af.adds ae (os:=[.ins dN [(dM,.ref (ae.next+2)),(eQ,.ref (ae.next+3))],.dct xmlKV,.lst [.ref (ae.next+1)],.lst [.tup []]]) (i:=0) rfl;have n2:=af.adds ae (os:=[.ins dN [(dM,.ref (ae.next+2)),(eQ,.ref (ae.next+3))],.dct xmlKV,.lst [.ref (ae.next+1)],.lst [.tup []]]) (i:=1) rfl;have n3:=af.adds ae (os:=[.ins dN [(dM,.ref (ae.next+2)),(eQ,.ref (ae.next+3))],.dct xmlKV,.lst [.ref (ae.next+1)],.lst [.tup []]]) (i:=2) rfl;have n4:=af.adds ae (os:=[.ins dN [(dM,.ref (ae.next+2)),(eQ,.ref (ae.next+3))],.dct xmlKV,.lst [.ref (ae.next+1)],.lst [.tup []]]) (i:=3) rfl;generalize (ae.adds [.ins dN [(dM,.ref (ae.next+2)),(eQ,.ref (ae.next+3))],.dct xmlKV,.lst [.ref (ae.next+1)],.lst [.tup []]])=ao at ca n1 n2 n3 n4 ⊢;have he1:=he.ch c1 (ni nel);have he2:=he1.ch ca am;have nel2:el∉[L,σ.next+1]:=λh=>(aV.mp h).elim nel λh=>ce (sX lel) (aF.mp h);have nel3:el∉[ae.next+2,ae.next+3]:=λh=>(aV.mp h).elim (ce (mL 2 he1.lt)) λh=>ce (mL 3 he1.lt) (aF.mp h);refine bj (λQ q=>q) ?_;refine I6 (f:= .ref el) (λQ q=>q) (bU he2.eq) λK hK=>?_;refine bj (λQ q=>dp (i:=0) rfl q) ?_;refine d7 (λK q=>dd (tx_of rfl) (tx_of rfl) true rfl q) ?_;refine dQ (C:=λQ=>∀σ' r1 c1 rs d w,TA σ' ⟨t,L,σ.next,σ.next+1,r1,c1⟩ rs D.lv->NB σ' (ae.next+0) (ae.next+2) (ae.next+3) d D [.ref (ae.next+1)] [.tup [],w]->Ch [L,σ.next+1] ae σ'->Q (.int 1) σ') (λQ q=>dp (i:=1) rfl<| dp (i:=2) rfl<|
  UV G ok H1 ca (iG _ 2) (iG _ 3) n1 n3 n4 n2 q) λτ r1 c1' rs d w hT hN hC=>hK [some (.ref t),some (.ref el),some (.bool true),some (.int 0),some (.ref (ae.next+0)),some (.int 1),some (Bx D),_,none,none,none,none] _ (bU (he1.ch hC nel2).eq) λK2 hK2=>?_
 have hel:=he1.ch hC nel2;refine bj (λQ q=>dp (i:=0) rfl q) ?_;refine lm (λK q=>dd (tx_of rfl) (tx_of rfl) false rfl q) ?_;refine d7 (λK q=>dd (tx_of rfl) (tx_of rfl) true rfl q) ?_;refine bj (λQ q=>dp (i:=1) rfl<| T.le (UU G hT q) (by decide)) ?_
 refine d7 (λK q=>rA q) ?_;refine ln (C:=λQ=>∀v σ',Ch [ae.next+2,ae.next+3] τ σ'->Q v σ') (λQ q=>a9 hN.nb.eq rfl rfl<| T.le (US G hN λσ' v c=>q _ _ c) (by decide)) λv σ' c=>hK2 [some (.ref t),some (.ref el),some (.bool true),some (.int 0),some (.ref (ae.next+0)),some (.int 0),_,_,none,none,none,none] _ (bU (hel.ch c nel3).eq) ?_
 refine bG (λK q=>UN rfl rfl true rfl q) (bJ (λQ q=>q) (q _ _ _ _ _ _ (hT.ch c λy hy=>?_)));have o:∀{y:Nat}{z:AV}{zs:List AV},af τ y (.lst (z::zs))->(∀i,z≠.int i)->y≠c1'/\y≠c1'+1/\y≠c1'+2:=λh hz=>⟨(hT.c1.ne h nofun).symm,(hT.a1.ne h (Ka hz)).symm,(hT.n1.ne h (Ka hz)).symm⟩;have l2:=H1.hc.lt;have lL:=H1.hL.lt;rcases aV.mp hy with e | hy
 ·subst e;exact ⟨⟨_,hN.sc⟩,cA (mL 2 lL),cA (mL 2 l2),o hN.sc nofun⟩
 ·rw[aF] at hy;subst hy;exact ⟨⟨_,hN.tl⟩,cA (mL 3 lL),cA (mL 3 l2),o hN.tl nofun⟩
end
noncomputable def aK.items(D:aK):List P2:=D.its.map It.p2
theorem UY:∀x∈NT,(match x.1 with | []=>false | y::w=>([[97],[101],[112],[113],[120]].contains [y] && decide (y≠101) && w.all (λz=>pE.contains [z])))=true:=by decide+kernel
theorem UZ:∀x∈NT,∀y∈NT,x.1=y.1->x=y:=by decide+kernel
theorem U0:∀p∈PT,(jz++p).tail.all (λz=>pE.contains [z])=true:=by decide+kernel
theorem Kb:∀v∈VU,(!v.contains 34 && !v.contains 60 && !v.contains 13 && jM v.length 100)=true:=by decide+kernel
section
variable{D:aK}(ok:D.Ok)
include ok
theorem aK.Ok.itOk:∀p∈D.items,wM p/\p.1.length<=100/\p.2.length<=100:=λp hp=>by
 obtain ⟨x,hx,rfl⟩:=aL.mp hp;have v:∀u∈VU,(34∉u/\60∉u)/\u.length<=100:=λu hu=>by
  have:=Kb u hu;simp only[bV,qc,List.contains_eq_mem,decide_eq_false_iff_not] at this;exact ⟨⟨this.1.1.1,this.1.1.2⟩,aq this.2⟩
 cases x with
 | d p u=>
  obtain ⟨hp,hu⟩:=ok.ps _ (D.its_d hx);have hv:u∈VU:=qj _ hu;have h:=U0 p hp;have:=(dR p hp).2.2.1;exact ⟨⟨⟨120,_,rfl,by decide,by decide,λz hz=>by simpa using jI.mp h z hz⟩,hv,(v u hv).1.1,(v u hv).1.2⟩,by refine (?_:(jz++p).length<=_);erw[bR];refine (?_:6+_<=_);lia,(v u hv).2⟩
 | a x=>
  obtain ⟨h1,h2,J⟩:=ok.as _ (D.its_a hx);have hv:x.2∈VU:=mM _ h2;have h:=UY _ h1;have:=(ly _ h1).1.2;refine ⟨⟨?_,hv,(v _ hv).1.1,(v _ hv).1.2⟩,this,(v _ hv).2⟩;refine (?_:∃y w,x.1.1=y::w/\_)
  induction e:x.1.1 using bQ with
  | nil=>rw[e] at h;exact (eh h)
  | cons y w=>
   rw[e] at h;simp only[bV,decide_eq_true_eq,jI] at h;exact ⟨y,w,rfl,by simpa using h.1.1,h.1.2,λz hz=>by simpa using h.2 z hz⟩
theorem aK.Ok.itNd:(D.items.map (·.1)).Nodup:=by
 have e:D.items.map (·.1)=D.ps.map (λp=>jz++p.1)++D.as.map (·.1.1):=by
  unfold aK.items aK.its;simp only[bq,cw];rfl
 (erw[e];rewrite[eL]);refine ⟨?_,?_,λa ha b hb=>?_⟩
 ·have h:=ok.n1;unfold lP at h ⊢;rw[jL] at h ⊢;exact h.imp λhn e=>hn (List.append_cancel_left e)
 ·have h:=ok.na;unfold lP at h ⊢;rw[jL] at h ⊢;exact h.imp_of_mem λ{a b} ha hb hn e=>hn (UZ _ (ok.as a ha).1 _ (ok.as b hb).1 e)
 ·obtain ⟨p,hp,rfl⟩:=aL.mp ha;obtain ⟨x,hx,rfl⟩:=aL.mp hb;intro e;have h:=J8 _ (ok.as x hx).1;rw[<-e,bV] at h;exact of_decide_eq_true h.2 rfl
theorem aK.Ok.I:rV D.items:=by
 have l:D.items.length=D.ps.length+D.as.length:=by unfold aK.items;(rewrite[ay];erw[D.its_len];ac_rfl)
 have few:=ok.few;refine ⟨by lia,ok.itNd,λp hp=>(ok.itOk p hp).1,?_⟩
 have:=nx (w:=[32]) (aq rfl) (ps:=D.items) λp hp=>(ok.itOk p hp).2;unfold bB;simp only[bR,dW,xF];lia
theorem aK.Ok.no13:13∉bB D.items:=by
 intro h;rcases dH.mp h with h | h
 ·exact absurd h (by decide)
 rcases dH.mp h with h | h
 ·unfold wr at h;rw[kr] at h;obtain ⟨l,hl,h⟩:=h;obtain ⟨p,hp,rfl⟩:=aL.mp hl;obtain ⟨⟨⟨x,w,e,hx,J,hw⟩,hv,J,J⟩,J⟩:=ok.itOk p hp;unfold d9 at h;rw[e] at h;have hv:=Kb _ hv;simp only[bV,qc,List.contains_eq_mem,decide_eq_false_iff_not] at hv;have hx13:x≠13:=by rintro rfl;exact absurd hx (by decide)
  have hw13:13∉w:=λh=>absurd (hw 13 h) (by decide)
  simp only[dH,aV,am,or_false] at h;rcases h with (((h | h | h) | h | h) | h) | h
  ·exact absurd h (by decide)
  ·exact hx13 h.symm
  ·exact hw13 h
  ·exact absurd h (by decide)
  ·exact absurd h (by decide)
  ·exact hv.1.2 h
  ·exact absurd h (by decide)
 ·exact absurd h (by decide)
end
noncomputable def Bz(a:aa):Option Ent:=match cf a oY with
 | true=>some (.orc λargs=>match args with | [.str x]=>some λJ=>(.str x,[]) | _=>none)
 | false=>tab a
noncomputable abbrev pG:AO:= .ins nj [(zz,.int 20),(zA,.int 100000)]
noncomputable abbrev wN:AO:= .ins nk [(nh,.ref 4),(uK,.none)]
noncomputable abbrev Kc:AO:= .ins rt [(l9,.ref 2),(zD,.ref 5),(zu,.ref 6),(zE,.ref 7)]
noncomputable abbrev HA:HP:=[dF 1,.lst []]
noncomputable abbrev HB:HP:=[dF 1,.lst [],pG,wN,Kc,.dct [],.dct [],.dct []]
noncomputable abbrev rX:RX:=⟨8,9,10,11,12,13,16,4,14,.bm v4 3⟩
noncomputable abbrev HC(X:List Nat):HP:=[dF 1,.lst [],pG,wN,Kc,.dct [],.dct [],.dct [],JR rX,.ins o9 [(cY,.ref 10)],.lst [],gE X 0,.ins pb [(oS,.ref 11),(di,.none),(uS,.int 0),(uQ,.int 0)],.lst [.ref 12],.ins rq [(l9,.ref 2),(zI,.int 0),(zC,.ref 15)],.lst [],.lst []]
theorem jA{H:HP}{i:Nat}{o:AO}(e:H[i]? =some o):af (aH H) i o:=⟨(bP.mp e).1,e⟩
section
variable{P:PW}{σ:AH}{Q:AV->AH->Prop}(G:Gd P)
include G
theorem Gd.hp:∀m e,Bz m=some e->jX P m e:=λm e h=>by
 unfold Bz at h
 split at h
 ·(have hH:=aO h;clear h;subst hH);trivial
 ·exact G.ht m e h
theorem U1{X:List Nat}(h13:13∉X)(hX:X.length<1000000)(q:Q (.str X) σ):T P 1 (.con (.ref oY)) [.str X] σ Q:=by
 have hl:X.length+2<=aY:=by erw[bH];lia
 have hj:([X].map kC).sum+[X].length*([10]:List Nat).length<=aY:=by erw[bH];simp;lia
 refine wJ (w:= .str X) rfl rfl rfl (λg=>⟨rfl,rfl,rfl⟩) ?_ q;refine (G.fn (rfl:tab oY=some (.fn _ _ _ Hv)) (aq rfl) (aq rfl) ?_).toT;refine no (R:=λv J=>v= .str X) (λQ q=>⟨_,j4 rfl,⟨_,j4 rfl,⟨_,j4 rfl,(yK (y:=[13,10]) (by simp) hl).builtin ?_⟩⟩⟩) λv σ' e=>e
 erw[ES ⟨13,.head _,h13⟩];refine (qU (xs:=[X]) (af.new _ _).eq hj).builtin ⟨_,j4 rfl,(yK (y:=[13]) (by simp) hl).builtin ?_⟩
 erw[ES ⟨13,.head _,h13⟩];exact (qU (xs:=[X]) (af.new _ _).eq hj).builtin (q _ _ rfl)
theorem U2(q:Q (.ref 0) (aH HA)):T P 3 (.con (.ref j3)) [] (aH []) Q:=
 uB 300 G.O G.ht (sc:=[]) ((by kernel_rfl:(dL P S0 tab 300 3 (.con (.ref j3)) [] [] [] λv H J=>Q v (aH H))=Q (.ref 0) (aH HA))▸q)
theorem U3(q:Q (.ref 2) (aH (HA++[pG]))):T P 3 (.con (.ref nj)) [] (aH HA) Q:=
 uB 300 G.O G.ht (sc:=[]) ((by kernel_rfl:(dL P S0 tab 300 3 (.con (.ref nj)) [] HA [] λv H J=>Q v (aH H))=Q (.ref 2) (aH (HA++[pG])))▸q)
theorem U4(q:Q (.ref 3) (aH HB)):T P 5 (.con (.ref nk)) [.ref 2,.none] (aH (HA++[pG])) Q:=
 uB 300 G.O G.ht (sc:=[]) ((by kernel_rfl:(dL P S0 tab 300 5 (.con (.ref nk)) [.ref 2,.none] (HA++[pG]) [] λv H J=>Q v (aH H))=Q (.ref 3) (aH HB))▸q)
theorem U5{X:List Nat}(h13:13∉X)(hX:X.length<1000000)(q:Q (.ref 8) (aH (HC X))):T P 5 (.con (.ref mh)) [.str X,.ref 4,.bm v4 3] (aH HB) Q:=by
 have e:(dL P S0 Bz 300 5 (.con (.ref mh)) [.str X,.ref 4,.bm v4 3] HB [] λv H J=>Q v (aH H))=((∀(σ:AH)(Q:AV->AH->Prop),Q (.str X) (ip σ [])->T P 3 (.con (.ref oY)) [.str X] σ Q)/\Q (.ref 8) (aH (HC X))):=by kernel_rfl
 refine uB 300 G.O G.hp (sc:=[]) (e▸⟨λσ Q q=>T.le (U1 G h13 hX q) (by decide),q⟩)
end
section
variable{P:PW}{σ:AH}{Q:AV->AH->Prop}(G:Gd P){D:aK}(ok:D.Ok)
include G ok
theorem U6(q:∀v σ' r0 c0 r1 c1 rs,TA σ' ⟨0,1,r0,c0,r1,c1⟩ rs D.lv->Q (.tup [.int 0,.none,v]) σ'):T P 14 (.con (.ref vN)) [.ref 0,.str (bB D.items)] (aH HA) Q:=by
 have I:=ok.I;refine (G.fn (rfl:tab vN=some (.fn _ _ _ Ik)) (aq rfl) (aq rfl) ?_).toT;refine bj (λQ q=>lj<| T.le (U3 G<| T.le (U4 G q) (by decide)) (by decide)) ?_
 have h3:af (aH HB) 3 wN:=jA rfl;refine mj (R:=λv σ'=>v= .ref 10/\af σ' 10 (.lst [lz D.items,mu])/\Ch [11,10] (aH (HC (bB D.items))) σ') (λQ q=>bN h3.eq rfl rfl rfl<| ⟨_,_,_,rfl,h3.eq,.inr ⟨_,rfl,rfl,T.le (U5 G ok.no13 I.len ⟨_,fq (l:=8) (jA rfl).eq rfl rfl,T.le (UB G (x:=rX) I ⟨jA rfl,jA rfl,jA rfl,jA rfl,jA rfl,jA rfl,jA rfl,by decide,by decide⟩ λσ' h c=>q _ _ ⟨rfl,h,c⟩) (by decide)⟩) (by decide)⟩⟩) λv ae z_1=>?_
 obtain ⟨ev,he,c⟩:=z_1;subst ev;have k:∀{i:Nat}{o:AO},(HC (bB D.items))[i]? =some o->i∉[11,10]->af ae i o:=λe n=>(jA e).ch c n;have k3:af ae 3 wN:=k rfl (by decide)
 refine bj (λQ q=>bN k3.eq rfl rfl rfl q) ?_;refine bG (λK q=>rA q) ?_;have e:AV.tup [.str [115,116,97,114,116],.str [101],.tup (D.items.map aX)]=Bx D:=by unfold aK.items;erw[cw];rfl
 unfold lz at he;rw[e] at he;refine mj (R:=λv σ'=>v= .int 0/\∃r0 c0 r1 c1 rs,TA σ' ⟨0,1,r0,c0,r1,c1⟩ rs D.lv) (λQ q=>UX G ok (t:=0) (L:=1) (k rfl (by decide)) (k rfl (by decide)) he λσ' r0 c0 r1 c1 rs h=>q _ _ ⟨rfl,_,_,_,_,_,h⟩) λv ao z_2=>?_
 obtain ⟨ev,r0,c0,r1,c1,rs,h⟩:=z_2;subst ev;exact bJ (λQ q=>lj<| q) (q _ _ _ _ _ _ _ (h.ch0 (Ch.new _ _)))
theorem Ke{S:List R3}(hs:nw S (rowsOf D.lv))(hl:∀g,ren g (a8 S)=a8 S)(hw:low 0 (a8 S)=true)(q:Q (a8 S) σ):T P 16 (.con (.ref vX)) [.str (bB D.items)] σ Q:=by
 refine wJ (w:=a8 S) rfl rfl hw (λg=>⟨rfl,rfl,hl g⟩) ?_ q;refine (G.fn (rfl:tab vX=some (.fn _ _ _ Iy)) (aq rfl) (aq rfl) ?_).toT;refine wt (R:=λv σ'=>∃x r0 c0 r1 c1 rs,v= .tup [.ref 0,.int 0,.none,x]/\TA σ' ⟨0,1,r0,c0,r1,c1⟩ rs D.lv) (λQ q=>?_) λv σ' z1=>by
  obtain ⟨x,r0,c0,r1,c1,rs,ev,h⟩:=z1;subst ev;exact ⟨_,rfl,no (R:=λv J=>v=a8 S) (λQ q=>T.le (Jx G h hs λσ' c=>q _ _ rfl) (by decide)) λv σ' e=>e⟩
 ·refine (G.fn (rfl:tab Ae=some (.fn _ _ _ Il)) (aq rfl) (aq rfl) ?_).toT;refine bj (λQ q=>T.le (U2 G q) (by decide)) ?_
  refine wt (R:=λv σ'=>∃x r0 c0 r1 c1 rs,v= .tup [.int 0,.none,x]/\TA σ' ⟨0,1,r0,c0,r1,c1⟩ rs D.lv) (λQ q=>U6 G ok λv σ' r0 c0 r1 c1 rs h=>q _ _ ⟨_,_,_,_,_,_,rfl,h⟩) λv σ' z2=>by
   obtain ⟨x,r0,c0,r1,c1,rs,ev,h⟩:=z2;subst ev;exact ⟨_,rfl,bJ (λQ q=>q) (q _ _ ⟨_,_,_,_,_,_,rfl,h⟩)⟩
end
noncomputable def rws(K:List K2)(f:K2->P2):List R3:=K.map λk=>(k,f k)
noncomputable def KVs(K:List K2)(f:K2->P2):List (AV × AV):=K.map λk=>(aJ k,aX (f k))
structure Ks(K:List K2):Prop where
 nd:K.Nodup
 lt:K.Pairwise λx y=>ltN x y=true
 few:K.length<8
theorem wO{a b:K2}(e:aJ a=aJ b):a=b:=by
 injection e with e;injection e with e e';injection e with e;injection e' with e';injection e' with e';exact iK e e'
theorem wP:∀(ps acc:List (AV × AV)),(∀p∈ps,∀q∈acc,q.1≠p.1)->(ps.map (·.1)).Nodup->gw acc ps=acc++ps
 | [],acc,J1,J2=>(dB _).symm
 | p::r,acc,h,hd=>by
  rw[bi,ee] at hd;refine (?_:gw (dset acc p.1 p.2) r=_);rw[rO (h p (.head _)),wP r _ (λz hz q hq=>?_) hd.2,fU];rfl;rcases dH.mp hq with hq | hq
  ·exact h z (.tail _ hz) q hq
  ·rw[aF] at hq;erw[hq];exact λe=>hd.1 (aL.mpr ⟨z,hz,e.symm⟩)
section
variable{K:List K2}{f:K2->P2}
theorem pH:(KVs K f).map (·.1)=K.map aJ:=by unfold KVs;erw[cw];rfl
theorem wQ{k:K2}:∀{K:List K2},k∈K->cy (KVs K f) (aJ k)=some (aX (f k))
 | a::K,h=>by
  refine (?_:cy ((aJ a,aX (f a))::KVs K f) _=_);erw[jm];by_cases e:a=k
  ·((erw[if_pos (by (erw[e];ac_rfl))];erw[e]);ac_rfl)
  ·rewrite[if_neg λh=>e (wO h)];exact wQ ((aV.mp h).resolve_left λh=>e h.symm)
theorem mx:∀p∈KVs K f,kindOf p.1=some .ts:=λp hp=>by obtain ⟨k,J,rfl⟩:=aL.mp hp;rfl
theorem pI(k:K2):fY (KVs K f) (aJ k):=⟨.ts,rfl,mx⟩
theorem Kf{α β:Type}{g:α->β}(hg:∀a b,g a=g b->a=b){l:List α}(h:l.Nodup):(l.map g).Nodup:=by
 unfold lP at h ⊢;rewrite[jL];exact h.imp λhn e=>hn (hg _ _ e)
theorem U7(h:Ks K):gw [] (KVs K f)=KVs K f:=by
 erw[wP _ _ (λp J q hq=>by exact absurd hq am) (by erw[pH];exact Kf (λJ J=>wO) h.nd)];rfl
end
theorem Kg{σ:AH}{p q:P2}(hp:Tx p.1/\Tx p.2)(hq:Tx q.1/\Tx q.2):jP σ (aX p) (aX q) (decide (p=q)):=by
 refine .inr ⟨2,.tuple [.str (st p.1),.str (st p.2)],.tuple [.str (st q.1),.str (st q.2)],rfl,rfl,?_,?_,by simp[gR,ji],by simp[gR,ji],?_⟩
 ·simp only[iJ,mN,jJ,bV];exact ⟨hp.1.ok,hp.2.ok⟩
 ·simp only[iJ,mN,jJ,bV];exact ⟨hq.1.ok,hq.2.ok⟩
 ·have e:∀s t:List Nat,(st s=st t)↔s=t:=λs t=>⟨λh=>by have:=congrArg (λx:Str=>x.cps.toList) h;simpa [st] using this,λh=>h▸rfl⟩
  simp only[sD,PyData.eqvAll,jJ];obtain ⟨a,b⟩:=p;obtain ⟨c,d⟩:=q;rewrite[sH];simp[e]
section
variable{P:PW}{σ:AH}{Q:AV->AH->Prop}(G:Gd P){K:List K2}(hK:Ks K)
include G hK
theorem BA{d i:Nat}{ρ:ac}{f:K2->P2}{k l v x:AV}(h0:sv S0 ρ [] (.loc i)=some (.tup [k,l,v,.tup ((rws K f).map bw),x]))(q:∀σ' l,Ch [] σ σ'->σ.next<=l->af σ' l (.dct (KVs K f))->Q (.ref l) σ'):
  wE P S0 d (.call (.glob iT) (.cons (.comp (.tup (.cons (.cl 1) (.cons (.tup (.cons (.cl 2) (.cons (.cl 3) .nil))) .nil))) (.cons (.tup (.cons (.cl 1) (.cons (.cl 2) (.cons (.cl 3) .nil)))) (.sub (.loc i) (.glob oL)) .nil .nil) 4) .nil)) ρ [] σ Q:=by
 have few:=hK.few;refine px (f:= .tup ((rws K f).map bw)) (σ':=σ) (xs:=(rws K f).map bw) (λk κ τ=>Ch [] σ τ/\af τ σ.next (.lst (pairs (KVs (K.take k) f)))/\∃a b c e:Option AV,κ=[a,b,c,e])
  (λQ q=>Td (eZ h0 (dp (i:=3) rfl q))) rfl ⟨Ch.new _ _,af.new _ _,_,_,_,_,rfl⟩ (λk κ τ h=>rfl) (λk x κ τ K' hx z2 hK'=>?_) λκ τ z1=>?_
 ·obtain ⟨c,h,a,b,e,g,sq⟩:=z2;subst sq;unfold rws at hx;rw[cw,bt] at hx;obtain ⟨y,ey,rfl⟩:=bW.mp hx;refine mZ (κ':=[a,some (aJ y),some (.str (f y).1),some (.str (f y).2)]) rfl ⟨rfl,⟨_,h.eq,?_,hK' _ _ ⟨c.own (bI _),?_,_,_,_,_,rfl⟩⟩⟩
  ·exact fy (dE (dE (fw few))) rfl
  ·unfold KVs;(erw[d8 ey];erw[bq]);unfold pairs;erw[bq];exact h.set
 ·obtain ⟨c,h,J⟩:=z1;have e:K.take ((rws K f).map bw).length=K:=by unfold rws;(rewrite[ay,ay];erw[ez];ac_rfl)
  rw[e] at h;refine (ul h.eq mx).type ?_;erw[U7 hK];exact q _ _ (c.trans (Ch.new _ _)) c.le (af.new _ _)
end
noncomputable def cQ(K:List K2)(f g:K2->P2):List AV:=(K.filter λk=>decide (f k≠g k)).map λk=>bw (k,g k)
noncomputable abbrev fm(k l v:AV)(K:List K2)(f:K2->P2)(x:AV):AV:= .tup [k,l,v,.tup ((rws K f).map bw),x]
def dG(K:List K2)(f:K2->P2):Prop:=∀k∈K,Tx (f k).1/\Tx (f k).2
theorem Kh{K:List K2}{f g:K2->P2}{i:Nat}{k:K2}(e:K[i]? =some k):cQ (K.take (i+1)) f g=cQ (K.take i) f g++(if f k≠g k then [bw (k,g k)] else []):=by
 unfold cQ;(erw[d8 e];rewrite[List.filter_append];erw[bq]);by_cases h:f k=g k<;>simp[h]
theorem rZ{P:PW}{σ:AH}{l:Nat}{i v:AV}{kvs:List (AV × AV)}{k:AV->Prop}(h:σ.m l=some (.dct kvs))(s:fY kvs i)(e:cy kvs i=some v)(q:k v):Item P (.ref l) i σ k:= .inr ⟨kvs,v,h,s,e,q⟩
section
variable{P:PW}{σ:AH}{Q:AV->AH->Prop}(G:Gd P){K:List K2}(hK:Ks K){f g:K2->P2}
include G hK
theorem Ki(hf:dG K f)(hg:dG K g){k1 l1 v1 x1 k2 l2 v2 x2:AV}(q:∀σ' l,Ch [] σ σ'->σ.next<=l->af σ' l (.lst (cQ K f g))->Q (.ref l) σ'):T P 2 (.con (.ref vh)) [fm k1 l1 v1 K f x1,fm k2 l2 v2 K g x2] σ Q:=by
 have few:=hK.few;refine (G.fn (rfl:tab vh=some (.fn _ _ _ HJ)) (aq rfl) (aq rfl) ?_).toT;refine dQ (C:=λQ=>∀σ' l,Ch [] σ σ'->σ.next<=l->af σ' l (.dct (KVs K f))->Q (.ref l) σ') (λQ=>BA G hK rfl) λae F c1 gF hF=>?_;refine dQ (C:=λQ=>∀σ' l,Ch [] ae σ'->ae.next<=l->af σ' l (.dct (KVs K g))->Q (.ref l) σ') (λQ=>BA G hK rfl) λao S c2 gS hS=>?_;have hF2:=hF.ch c2 am;have nFS:S≠F:=cA (bX hF.lt gS);refine bj (λQ q=>q) ?_;have c3:Ch [] σ (ao.new (.lst [])):=(c1.trans c2).trans (Ch.new _ _);have hF3:=hF2.ch (Ch.new (F:=[]) ao (.lst [])) am;have hS3:=hS.ch (Ch.new (F:=[]) ao (.lst [])) am;have hD:=af.new ao (.lst []);have gD:σ.next<=ao.next:=(c1.trans c2).le;have nFD:=ni (ce hF2.lt);have nSD:=ni (ce hS.lt);generalize ao.new (.lst [])=aA at c3 hF3 hS3 hD ⊢;generalize ao.next=D at hD gD nFD nSD ⊢;have nDL:D<aA.next:=hD.lt;have n1:Ch [] aA (aA.new (.lst (K.map aJ))):=Ch.new _ _;have n2:Ch [] aA ((aA.new (.lst (K.map aJ))).new (.lst [])):=n1.trans (Ch.new _ _);have n3:Ch [] aA (((aA.new (.lst (K.map aJ))).new (.lst [])).new (.lst (K.map aJ))):=n2.trans (Ch.new _ _);have n4:Ch [] aA ((((aA.new (.lst (K.map aJ))).new (.lst [])).new (.lst (K.map aJ))).new (.lst (K.map aJ))):=n3.trans (Ch.new _ _);have sz:K.length+([]:List AV).length<=aY:=by erw[bH];simp;lia
 have hL:af ((((aA.new (.lst (K.map aJ))).new (.lst [])).new (.lst (K.map aJ))).new (.lst (K.map aJ))) (aA.next+3) (.lst (K.map aJ)):=af.new (((aA.new (.lst (K.map aJ))).new (.lst [])).new (.lst (K.map aJ))) _;have nL:aA.next+3∉[D]:=ni (cA (mL 3 nDL));refine np (f:= .ref (aA.next+3)) (σ':=(((aA.new (.lst (K.map aJ))).new (.lst [])).new (.lst (K.map aJ))).new (.lst (K.map aJ))) (xs:=K.map aJ) (λk X=>∀τ a,Ch [D] ((((aA.new (.lst (K.map aJ))).new (.lst [])).new (.lst (K.map aJ))).new (.lst (K.map aJ))) τ->af τ D (.lst (cQ (K.take k) f g))->X [some (fm k1 l1 v1 K f x1),some (fm k2 l2 v2 K g x2),a,some (.ref F),some (.ref S),some (.ref D),none,none,none,none] τ)
  (λQ q=>(wi G.O.sys hF3.eq mx).type ?_) (λX q=>q _ _ (Ch.refl _) (hD.ch n4 am)) (λk τ a h J=>bU (hL.ch h nL).eq) (λk x K' hk hK' τ a c hD=>?_) λτ a c hD=>?_
 ·erw[pH];refine .inl ⟨1,4,3,S,F,KVs K g,KVs K f,rfl,by decide,G.O.sys,rfl,rfl,nFS,(hS3.ch n1 am).eq,(hF3.ch n1 am).eq,λp hp=>⟨mx p hp,?_⟩,mx,?_⟩
  ·erw[pH];obtain ⟨k,hk,rfl⟩:=aL.mp hp;exact aL.mpr ⟨k,hk,rfl⟩
  ·refine ⟨K.map aJ,[],((af.new aA (.lst (K.map aJ))).ch (Ch.new (F:=[]) (aA.new (.lst (K.map aJ))) (.lst [])) am).eq,(af.new (aA.new (.lst (K.map aJ))) (.lst [])).eq,by rewrite[ay];exact sz,?_⟩
   rewrite[dB];exact (TP (af.new ((aA.new (.lst (K.map aJ))).new (.lst [])) _).eq hK.few hK.nd (CV _) hK.lt).builtin q
 ·have hF:=(hF3.ch n4 am).ch c nFD;have hS:=(hS3.ch n4 am).ch c nSD;rw[bt] at hk;obtain ⟨y,ey,rfl⟩:=bW.mp hk;have hy:=cj ey;have gf:=wQ (f:=f) hy;have gg:=wQ (f:=g) hy;have bl:(cQ (K.take k) f g).length<=k:=by
   unfold cQ;rewrite[ay];exact ck (List.length_filter_le ..) (by erw[lO];lia)
  have hk64:k<K.length:=(bP.mp ey).1;refine lm (λK q=>⟨true,.inl ⟨_,hS.eq,pI y,by erw[gg];rfl⟩,q⟩) ?_
  have test:∀b,b=decide (f y=g y)->jt P S0 1 (.cmp (.meth (.loc 3) iU (.cons (.loc 2) .nil)) (.one .NotEq (.sub (.loc 4) (.loc 2)))) ([some (fm k1 l1 v1 K f x1),some (fm k2 l2 v2 K g x2),some (aJ y),some (.ref F),some (.ref S),some (.ref D),none,none,none,none]) τ (!b) τ:=λb hb K q=>
   ⟨_,pt hF.eq rfl,(uj G.O.sys hF.eq (pI y)).builtin<| rZ hS.eq (pI y) gg (by
    erw[gf];exact ⟨b,hb▸Kg (hf y hy) (hg y hy),q⟩)⟩
  by_cases e:f y=g y
  ·refine bG (test true (decide_eq_true e).symm) (hK' _ _ λX q=>q _ _ c ?_);rw[Kh ey,if_neg (λh=>h e),dB];exact hD
  ·refine d7 (test false (decide_eq_false e).symm) ?_;refine cI (λQ q=>⟨_,eH hD.eq rfl,rZ hS.eq (pI y) gg<| dp (i:=0) rfl<| rZ hS.eq (pI y) gg<| dp (i:=1) rfl<| (dK hD.eq (by erw[bH];lia)).builtin q⟩) ?_
   refine hK' _ _ λX q=>q _ _ (c.trans (Ch.set _ _ (.head _))) ?_;(erw[Kh ey];erw[if_pos e]);exact hD.set
 ·rw[ay,ez] at hD;exact bJ (λQ q=>q) (q _ _ ((c3.trans n4).drop c λx hx=> .inr (aF.mp hx▸gD)) gD hD)
end
def Pu(x:AV):Prop:=(∀n,low n x=true)/\∀h,ren h x=x
theorem j8:∀{xs:List AV},(∀x∈xs,Pu x)->(∀n,lows n xs=true)/\∀h,dx h xs=xs
 | [],J1=>⟨λJ=>rfl,λJ=>rfl⟩
 | x::xs,h=>by
  have h1:=h x (.head _);have h2:=j8 λy hy=>h y (.tail _ hy);exact ⟨λn=>by refine (?_:(low n x && lows n xs)=true);rewrite[h1.1,h2.1];rfl,λg=>by refine (?_:ren g x::dx g xs=_);rw[h1.2,h2.2]⟩
theorem jB{xs:List AV}(h:∀x∈xs,Pu x):Pu (.tup xs):=⟨λn=>(j8 h).1 n,λg=>congrArg AV.tup ((j8 h).2 g)⟩
theorem dg(s:List Nat):Pu (.str s):=⟨λJ=>rfl,λJ=>rfl⟩
theorem U8(r:R3):Pu (bw r):=⟨λJ=>rfl,λJ=>rfl⟩
theorem r7(S:List R3):Pu (.tup (S.map bw)):=jB λx hx=>by obtain ⟨r,J,rfl⟩:=aL.mp hx;exact U8 r
theorem fR(xs:List AV)(h:xs.foldr (λx p=>Pu x/\p) True):∀x∈xs,Pu x:=by
 induction xs with
 | nil=>intro x hx;exact absurd hx am
 | cons y ys ih=>
  intro x hx;rcases aV.mp hx with e | hx
  ·erw[e];exact h.1
  ·exact ih h.2 x hx
section
variable{P:PW}{d:Nat}{f:AV}{args:List AV}{σ:AH}{Q:AV->AH->Prop}
theorem U9{w:AV}(hf:Pu f)(ha:∀x∈args,Pu x)(hw:Pu w)(h:T P d f args (aH []) λv J=>v=w)(q:Q w σ):T P d f args σ Q:=wJ (hf.1 0) ((j8 ha).1 0) (hw.1 0) (λg=>⟨hf.2 g,(j8 ha).2 g,hw.2 g⟩) h q
theorem r8{v':AV}{xs:List AV}(hf:Pu f)(ha:∀x∈args,Pu x)(hv:low 1 v'=true)(hx:∀x∈xs,Pu x)(h:T P d f args (aH []) λv σ'=>∃l,v=ren (λJ=>l) v'/\af σ' l (.lst xs))(q:Q (ren (sh σ.next) v') (σ.new (.lst xs))):T P d f args σ Q:=JF λht=>by
 have h1:T P d f args (aH []) λv σ'=>v=v'/\σ'=aH [.lst xs]:=λA s μ fv vs E room B R hf hvs=>by
  obtain ⟨a,b⟩:=h A s μ fv vs E room B R hf hvs;refine ⟨a,aQ b (λval s' z_5=>?_) λJ J e=>e⟩;obtain ⟨v,σ',μ',⟨l,ev,hl⟩,p,hr⟩:=z_5;obtain ⟨ft,e1,e2⟩:=p.rel.objs l _ hl.eq;have hd:∀(i:Nat) x,i<1->μ'[(λJ=>l) i]? =some x->[ft][i]? =some x:=λi x hi e=>by
   have:i=0:=Nat.lt_one_iff.mp hi;subst this;rw[e1] at e;exact e
  have hm:∀b∈[ft].flatten,b∈μ'.flatten:=λb hb=>kr.mpr ⟨ft,cj e1,by simpa using hb⟩
  refine ⟨v',aH [.lst xs],[ft],⟨rfl,rfl⟩,⟨p.same,p.keep,λl x e=>?_,λb hb=>p.fresh b (hm b hb),⟨rfl,λi o e=>?_,?_,λb hb=>p.rel.above b (hm b hb)⟩⟩,VR.unren hd _ _ hv (ev▸hr)⟩
  ·have:=(bP.mp e).1;have h0:(0:Nat)=μ.length:=R.next;lia
  ·cases i with
   | zero=>
    cases e;exact ⟨ft,rfl,OR.unren hd ((j8 hx).1 1) (by rewrite[show gc _ (AO.lst xs)= .lst xs from congrArg AO.lst ((j8 hx).2 _)];exact e2)⟩
   | succ i=>exact aU e
  ·have:=p.rel.apart;exact this.sublist (by simpa using List.sublist_flatten_of_mem (cj e1))
 have h2:=Aw (σ:=σ) (r:=[]) je rfl (λi o e=>by simp at e) ((j8 ha).1 0) (hf.1 0) (λi o l e=>by simp at e) h1
 rw[hf.2,(j8 ha).2] at h2;refine h2.mono λv bu z_6=>?_;obtain ⟨v0,σ',⟨e1,e2⟩,e3,e4⟩:=z_6;have:bu=σ.new (.lst xs):=by
  ((erw[e4];erw[e2]);rewrite[IX])
  refine AH.ext' rfl λl=>?_;refine (?_:(if l<σ.next then σ.m l else [gc (sh σ.next) (.lst xs)][l - σ.next]?)=if l=σ.next then some (.lst xs) else σ.m l)
  rewrite[show gc _ (AO.lst xs)= .lst xs from congrArg AO.lst ((j8 hx).2 _)]
  by_cases h:l<σ.next
  ·((erw[if_pos h];erw[if_neg (by (with_reducible exact ce ‹_›))]);ac_rfl)
  ·erw[if_neg h];by_cases e:l=σ.next
   ·((erw[if_pos e];erw[e]);rewrite[Nat.sub_self]);rfl
   ·((erw[if_neg e];erw[ht l (by (with_reducible exact fV ‹_›))]);rw[oa (Nat.sub_pos_of_lt (Nat.lt_of_le_of_ne (fV h) λq=>e q.symm))])
 ((erw[this];erw[e3];erw[e1]);rewrite[AA])
 exact q
end
section
variable{P:PW}{σ:AH}{Q:AV->AH->Prop}(G:Gd P){K:List K2}(hK:Ks K){f g:K2->P2}
theorem pJ(v:ab):Pu (.con v):=⟨λJ=>rfl,λJ=>rfl⟩
theorem Va(i:Int):Pu (.int i):=⟨λJ=>rfl,λJ=>rfl⟩
theorem nE{k l v x:AV}(h:Pu k/\Pu l/\Pu v/\Pu x):Pu (fm k l v K f x):=jB (fR _ ⟨h.1,h.2.1,h.2.2.1,r7 _,h.2.2.2,trivial⟩)
include G hK
theorem Kj(hf:dG K f)(hg:dG K g){k1 l1 x1 k2 l2 x2:AV}(h1:Pu k1/\Pu l1/\Pu x1)(h2:Pu k2/\Pu l2/\Pu x2)(q:Q (.int (cQ K f g).length) σ):
  T P 3 (.con (.ref fO)) [fm k1 l1 (.str []) K f x1,fm k2 l2 (.str []) K g x2] σ Q:=by
 refine U9 (w:= .int (cQ K f g).length) (pJ _) (fR _ ⟨nE ⟨h1.1,h1.2.1,dg _,h1.2.2⟩,nE ⟨h2.1,h2.2.1,dg _,h2.2.2⟩,trivial⟩) (Va _) ?_ q;refine (G.fn (rfl:tab fO=some (.fn _ _ _ HK)) (aq rfl) (aq rfl) ?_).toT;refine no (R:=λv J=>v= .int (cQ K f g).length) (λQ q=>dp (i:=2) rfl<| dp (i:=2) rfl<| iy (tx_of rfl) (tx_of rfl) true rfl<| (yF _).type<| Ki G hK hf hg λσ' l c gl h=>(lZ h.eq).builtin ?_) λv σ' e=>e;exact q _ _ (congrArg AV.int (Int.zero_add _))
noncomputable def nG(p:AV)(xs:List AV):List AV:=xs.map λx=>match x with
 | .tup [a,b,c]=> .tup [.str [97,116,116,114,105,98,117,116,101],p,a,b,c]
 | x=>x
theorem Kk(hf:dG K f)(hg:dG K g){k1 l1 x1 k2 l2 x2 p:AV}(h1:Pu k1/\Pu l1/\Pu x1)(h2:Pu k2/\Pu l2/\Pu x2)(hp:Pu p)(q:Q (.ref σ.next) (σ.new (.lst (nG p (cQ K f g))))):
  T P 3 (.con (.ref mc)) [fm k1 l1 (.str []) K f x1,fm k2 l2 (.str []) K g x2,p] σ Q:=by
 have few:=hK.few;have bl:(cQ K f g).length<=K.length:=by
  unfold cQ;rewrite[ay];exact List.length_filter_le ..
 refine r8 (v':= .ref 0) (xs:=nG p (cQ K f g)) (pJ _) (fR _ ⟨nE ⟨h1.1,h1.2.1,dg _,h1.2.2⟩,nE ⟨h2.1,h2.2.1,dg _,h2.2.2⟩,hp,trivial⟩) rfl (λx hx=>?_) ?_ q
 ·unfold nG cQ at hx;rw[cw] at hx;obtain ⟨r,J,rfl⟩:=aL.mp hx;exact jB (fR _ ⟨dg _,hp,⟨λJ=>rfl,λJ=>rfl⟩,dg _,dg _,trivial⟩)
 refine (G.fn (rfl:tab mc=some (.fn _ _ _ HL)) (aq rfl) (aq rfl) ?_).toT;refine bj (v:= .ref 0) (σ':=(aH []).new (.lst [])) (λQ q=>q) ?_;refine bG (λK q=>dp (i:=2) rfl<| dp (i:=2) rfl<| iy (tx_of rfl) (tx_of rfl) true rfl q) ?_;have hD:=af.new (aH []) (.lst []);refine (show aM P S0 2 (.cons (.for_ _ _ _) (.cons (.ret (.loc 3)) .nil)) _ _ _ from Ki G hK hf hg λσ' l c gl h=>⟨_,bU h.eq,?_⟩)
 refine wn (λk ρ τ=>af τ l (.lst (cQ K f g))/\af τ 0 (.lst (nG p ((cQ K f g).take k)))/\∃a b e:Option AV,ρ=[some (fm k1 l1 (.str []) K f x1),some (fm k2 l2 (.str []) K g x2),some p,some (.ref 0),a,b,e,none,none]) ⟨h,hD.ch c am,_,_,_,rfl⟩ (λk ρ τ h=>bU h.1.eq) (λk x ρ τ K' hk z_1 hK'=>?_) λρ τ z_0=>?_
 ·obtain ⟨hL,hD,a,b,e,iC⟩:=z_1;subst iC;obtain ⟨r,er⟩:∃r:R3,x=bw r:=by
   have:=cj hk;unfold cQ at this;obtain ⟨k,J,e⟩:=aL.mp this;exact ⟨_,e.symm⟩
  have hkl:=(bP.mp hk).1;have gl1:1<=l:=gl;subst er;refine q5 (ρ':=[some (fm k1 l1 (.str []) K f x1),some (fm k2 l2 (.str []) K g x2),some p,some (.ref 0),some (aJ r.1),some (.str r.2.1),some (.str r.2.2),none,none]) rfl ⟨rfl,cI (λQ q=>j5 hD.eq rfl ((dK hD.eq ?_).builtin q)) (hK' _ _ ⟨hL.ch (Ch.set (F:=[0]) _ _ (.head _)) ?_,?_,_,_,_,rfl⟩)⟩
  ·exact fy (dE (fw (dA bl few))) rfl
  ·rewrite[aF];lia
  ·have:nG p ((cQ K f g).take (k+1))=nG p ((cQ K f g).take k)++[.tup [.str [97,116,116,114,105,98,117,116,101],p,aJ r.1,.str r.2.1,.str r.2.2]]:=by
    erw[d8 hk];unfold nG;erw[bq];rfl
   erw[this];exact hD.set
 ·obtain ⟨hL,hD,a,b,e,iC⟩:=z_0;subst iC;rw[ez] at hD;exact bJ (λQ q=>q) ⟨0,rfl,hD⟩
end
noncomputable def KT(K:List K2):List (AV × AV):=K.map λk=>(aJ k,AV.bool true)
theorem Kl{w:K2->AV}{k:K2}:∀{K:List K2},k∈K->cy (K.map λk=>(aJ k,w k)) (aJ k)=some (w k)
 | a::K,h=>by
  erw[bi];erw[jm];by_cases e:a=k
  ·((erw[if_pos (by (erw[e];ac_rfl))];erw[e]);ac_rfl)
  ·rewrite[if_neg λh=>e (wO h)];exact Kl ((aV.mp h).resolve_left λh=>e h.symm)
theorem Km{k v:AV}:∀{kvs:List (AV × AV)},cy kvs k=some v->dset kvs k v=kvs
 | p::r,h=>by
  rewrite[jm] at h;erw[qs];by_cases e:p.1=k
  ·rw[if_pos e] at h ⊢;(have hH:=aO h;clear h;subst hH);rfl
  ·rw[if_neg e] at h ⊢;(erw[Km h];ac_rfl)
theorem BB{kvs:List (AV × AV)}:∀{ps:List (AV × AV)},(∀p∈ps,cy kvs p.1=some p.2)->gw kvs ps=kvs
 | [],J1=>rfl
 | p::r,h=>by
  refine (?_:gw (dset kvs p.1 p.2) r=_)
  ((erw[Km (h p (.head _))];erw[BB λq hq=>h q (.tail _ hq)]);ac_rfl)
theorem Ko(a:List (AV × AV))(b c:List (AV × AV)):gw a (b++c)=gw (gw a b) c:=List.foldl_append
theorem Vb{K:List K2}(hK:Ks K):gw [] (KT (K++K++K))=KT K:=by
 have e:KT (K++K++K)=KT K++KT K++KT K:=by unfold KT;((erw[bq];erw[bq]);ac_rfl)
 have h:∀p∈KT K,cy (KT K) p.1=some p.2:=λp hp=>by
  obtain ⟨k,hk,rfl⟩:=aL.mp hp;exact Kl (w:=λJ=> .bool true) hk
 have h0:gw [] (KT K)=KT K:=by
  rewrite[wP _ _ (λp J q hq=>by exact absurd hq am) (by unfold KT;erw[cw];exact Kf (λJ J=>wO) hK.nd)];rfl
 (erw[e];rewrite[Ko,Ko];(erw[h0];erw[BB h];erw[BB h]);ac_rfl)
noncomputable def ds(f0 f1 f2:K2->P2)(k:K2):P2:=if f1 k=f0 k then f2 k else f1 k
section
variable{P:PW}{σ:AH}{Q:AV->AH->Prop}(G:Gd P){K:List K2}(hK:Ks K){f f0 f1 f2:K2->P2}
include G hK
theorem BC{k1 l1 v1 x1:AV}(q:∀σ' l,Ch [] σ σ'->σ.next<=l->af σ' l (.dct (KVs K f))->Q (.ref l) σ'):T P 1 (.con (.ref vO)) [fm k1 l1 v1 K f x1] σ Q:=by
 refine (G.fn (rfl:tab vO=some (.fn _ _ _ Im)) (aq rfl) (aq rfl) ?_).toT;exact no (R:=λv σ'=>∃l,v= .ref l/\Ch [] σ σ'/\σ.next<=l/\af σ' l (.dct (KVs K f))) (λQ q=>BA G hK rfl λσ' l a b c=>q _ _ ⟨l,rfl,a,b,c⟩) λv σ' z1=>by obtain ⟨l,ev,a,b,c⟩:=z1;subst ev;exact q _ _ a b c
theorem Vc{d:Nat}{ρ:ac}{A B C:Nat}(h4:sv S0 ρ [] (.loc 4)=some (.ref A))(h5:sv S0 ρ [] (.loc 5)=some (.ref B))(h6:sv S0 ρ [] (.loc 6)=some (.ref C))(hA:af σ A (.dct (KVs K f0)))(hB:af σ B (.dct (KVs K f1)))(hC:af σ C (.dct (KVs K f2)))(q:∀σ' l,Ch [] σ σ'->σ.next<=l->af σ' l (.dct (KT K))->Q (.ref l) σ'):
  wE P S0 d (.call (.glob iT) (.cons (.comp (.tup (.cons (.cl 1) (.cons .tru .nil))) (.cons (.cl 1) (.bin .Add (.bin .Add (.call (.glob iu) (.cons (.loc 4) .nil)) (.call (.glob iu) (.cons (.loc 5) .nil))) (.call (.glob iu) (.cons (.loc 6) .nil))) .nil .nil) 2) .nil)) ρ [] σ Q:=by
 have few:=hK.few;have hsz:(K.map aJ).length+(K.map aJ).length<=aY:=by (erw[bH];rewrite[ay]);lia
 have hsz2:(K.map aJ++K.map aJ).length+(K.map aJ).length<=aY:=by ((erw[bH];erw[bR]);rewrite[ay]);lia
 have n1:Ch [] σ (σ.new (.lst (K.map aJ))):=Ch.new _ _;have n2:Ch [] σ ((σ.new (.lst (K.map aJ))).new (.lst (K.map aJ))):=n1.trans (Ch.new _ _);have m1:=af.new σ (.lst (K.map aJ));have m2:=af.new (σ.new (.lst (K.map aJ))) (.lst (K.map aJ));have m1':=m1.ch (Ch.new (F:=[]) (σ.new (.lst (K.map aJ))) (.lst (K.map aJ))) am;have hA1:=pH (K:=K) (f:=f0);have hB1:=pH (K:=K) (f:=f1);have hC1:=pH (K:=K) (f:=f2);generalize e2:(σ.new (.lst (K.map aJ))).new (.lst (K.map aJ))=ao at n2 m2 m1';have ex2:ao.next=σ.next+2:=by erw[aD e2];rfl
 have m3:=af.new ao (.lst (K.map aJ++K.map aJ));have n3:Ch [] σ (ao.new (.lst (K.map aJ++K.map aJ))):=n2.trans (Ch.new _ _);generalize e3:ao.new (.lst (K.map aJ++K.map aJ))=aA at m3 n3;have ex3:aA.next=ao.next+1:=by erw[aD e3];rfl
 have m3':=m3.ch (Ch.new (F:=[]) aA (.lst (K.map aJ))) am;have m4:=af.new aA (.lst (K.map aJ));have n4:Ch [] σ (aA.new (.lst (K.map aJ))):=n3.trans (Ch.new _ _);generalize e4:aA.new (.lst (K.map aJ))=aW at m3' m4 n4;have ex4:aW.next=aA.next+1:=by erw[aD e4];rfl
 have m5:=af.new aW (.lst (K.map aJ++K.map aJ++K.map aJ));have n5:Ch [] σ (aW.new (.lst (K.map aJ++K.map aJ++K.map aJ))):=n4.trans (Ch.new _ _);generalize e5:aW.new (.lst (K.map aJ++K.map aJ++K.map aJ))=ct at m5 n5;have ex:K.map aJ++K.map aJ++K.map aJ=(K++K++K).map aJ:=by ((erw[bq];erw[bq]);ac_rfl)
 refine px (f:= .ref aW.next) (σ':=ct) (xs:=K.map aJ++K.map aJ++K.map aJ) (λk κ τ=>Ch [] σ τ/\af τ aW.next (.lst (K.map aJ++K.map aJ++K.map aJ))/\af τ ct.next (.lst (pairs (KT ((K++K++K).take k))))/\∃a b:Option AV,κ=[a,b])
  (λQ q=>AD rfl (by refine (?_:((sv S0 ρ [] (.loc 4)).bind _)=_);erw[h4];rfl)<| (wi G.O.sys hA.eq mx).type ?_) (bU m5.eq) ⟨n5.trans (Ch.new _ _),m5.ch (Ch.new (F:=[]) _ _) am,af.new _ _,_,_,rfl⟩ (λk κ τ h=>bU h.2.1.eq) (λk x κ τ K' hx z3 hK'=>?_) λκ τ z2=>?_
 ·erw[hA1];refine AD rfl (by refine (?_:((sv S0 ρ [] (.loc 5)).bind _)=_);erw[h5];rfl)<| (wi G.O.sys (hB.ch n1 am).eq mx).type ?_
  (erw[hB1];erw[e2]);refine ⟨_,_,m1'.eq,m2.eq,hsz,?_⟩;erw[e3];refine AD rfl (by refine (?_:((sv S0 ρ [] (.loc 6)).bind _)=_);erw[h6];rfl)<| (wi G.O.sys (hC.ch n3 am).eq mx).type ?_
  (erw[hC1];erw[e4]);refine ⟨_,_,m3'.eq,m4.eq,hsz2,?_⟩;erw[e5];exact q
 ·obtain ⟨c,h0,h,a,b,sq⟩:=z3;subst sq;rw[ex,bt] at hx;obtain ⟨y,ey,rfl⟩:=bW.mp hx;have hk9:=(bP.mp ey).1;rw[bR,bR] at hk9;refine ⟨rfl,⟨_,h.eq,?_,hK' _ _ ⟨c.own n5.le,h0.ch (Ch.set (F:=[ct.next]) _ _ (.head _)) ?_,?_,_,_,rfl⟩⟩⟩
  ·exact fy (dE (dE (fw (pv (pv few few) few)))) rfl
  ·have:ct.next=aW.next+1:=by erw[aD e5];rfl
   rewrite[aF];lia
  ·unfold KT;(erw[d8 ey];erw[bq]);unfold pairs;erw[bq];exact h.set
 ·obtain ⟨c,h0,h,J⟩:=z2;rw[ex,ay,ez] at h;refine (ul h.eq λp hp=>by obtain ⟨k,J,rfl⟩:=aL.mp hp;rfl).type ?_
  erw[Vb hK];exact q _ _ (c.trans (Ch.new _ _)) c.le (af.new _ _)
end
section
variable{P:PW}{σ:AH}{Q:AV->AH->Prop}(G:Gd P){K:List K2}(hK:Ks K){f0 f1 f2:K2->P2}
include G hK
theorem BD{d l:Nat}{f:K2->P2}{y:K2}(h:af σ l (.dct (KVs K f)))(hy:y∈K)(q:Q (aX (f y)) σ):T P d (.con (.builtin "dict.get")) [.ref l,aJ y] σ Q:=(uj G.O.sys h.eq (pI y)).builtin (by erw[wQ hy];exact q)
theorem Kq(h0:dG K f0)(h1:dG K f1)(h2:dG K f2)(hm:∀k∈K,f1 k=f0 k\/f2 k=f0 k\/f1 k=f2 k){k0 l0 x0 k1 l1 x1 k2 l2 x2 v0 v1 v2 p:AV}(p0:Pu k0/\Pu l0/\Pu v0/\Pu x0)(p1:Pu k1/\Pu l1/\Pu v1/\Pu x1)(p2:Pu k2/\Pu l2/\Pu v2/\Pu x2)(pp:Pu p)
  (q:Q (.tup [.tup ((rws K (ds f0 f1 f2)).map bw),.ref σ.next]) (σ.new (.lst []))):T P 2 (.con (.ref md)) [fm k0 l0 v0 K f0 x0,fm k1 l1 v1 K f1 x1,fm k2 l2 v2 K f2 x2,p] σ Q:=by
 have few:=hK.few;refine r8 (v':= .tup [.tup ((rws K (ds f0 f1 f2)).map bw),.ref 0]) (xs:=[]) (pJ _) (fR _ ⟨nE p0,nE p1,nE p2,pp,trivial⟩) ?_ (λx hx=>by exact absurd hx am) ?_ ?_
 ·refine (?_:(low 1 (.tup _) && true)=true);rewrite[(r7 _).1];rfl
 rotate_left
 ·(erw[show ren (sh σ.next) (.tup [.tup ((rws K (ds f0 f1 f2)).map bw),.ref 0])= .tup [ren (sh σ.next) (.tup ((rws K (ds f0 f1 f2)).map bw)),.ref (σ.next+0)] from rfl];rewrite[(r7 _).2]);exact q
 refine (G.fn (rfl:tab md=some (.fn _ _ _ Io)) (aq rfl) (aq rfl) ?_).toT;refine ml (C:=λQ=>∀τ A B C,af τ A (.dct (KVs K f0))->af τ B (.dct (KVs K f1))->af τ C (.dct (KVs K f2))->Q (.tup [.ref A,.ref B,.ref C]) τ) (λQ q=>BC G hK λpS A c1 J hA=>BC G hK λci B c2 J hB=>BC G hK λjb C c3 J hC=>q _ A B C ((hA.ch c2 am).ch c3 am) (hB.ch c3 am) hC) λτ A B C hA hB hC=>AN ?_;refine gA (λQ q=>q) rfl ?_;have n2:Ch [] τ ((τ.new (.lst [])).new (.lst [])):=(Ch.new _ _).trans (Ch.new _ _);have hF:=(af.new τ (.lst [])).ch (Ch.new (F:=[]) (τ.new (.lst [])) (.lst [])) am;have hC0:af ((τ.new (.lst [])).new (.lst [])) (τ.next+1) (.lst []):=af.new (τ.new (.lst [])) _;have hA2:=hA.ch n2 am;have hB2:=hB.ch n2 am;have hC2:=hC.ch n2 am;erw[show (τ.new (.lst [])).next=τ.next+1 from rfl]
 generalize (τ.new (.lst [])).new (.lst [])=ci at hF hC0 hA2 hB2 hC2 ⊢;generalize τ.next=F at hF hC0 ⊢;refine dQ (C:=λQ=>∀fe l,Ch [] ci fe->af fe l (.dct (KT K))->Q (.ref l) fe) (λQ q=>Vc G hK rfl rfl rfl hA2 hB2 hC2 λσ' l a J c=>q _ _ a c) λjb D c3 hD=>?_;have n4:Ch [] ci (jb.new (.lst (K.map aJ))):=c3.trans (Ch.new _ _);have hFl:=(hF.ch c3 am).lt;have hA:=hA2.ch n4 am;have hB:=hB2.ch n4 am;have hC:=hC2.ch n4 am;have nA:=ni (hA2.ne hF nofun);have nB:=ni (hB2.ne hF nofun);have nC:=ni (hC2.ne hF nofun);have nL:=ni (cA hFl);have n1:F+1∉[F]:=ni (Nat.succ_ne_self F);have hF:=hF.ch n4 am;have h10:=hC0.ch n4 am;clear hA2 hB2 hC2 hC0 n4 hFl;refine np (f:= .ref jb.next) (xs:=K.map aJ) (λk X=>∀τ a b c e g,Ch [F] (jb.new (.lst (K.map aJ))) τ->af τ F (.lst ((rws (K.take k) (ds f0 f1 f2)).map bw))->X [some (fm k0 l0 v0 K f0 x0),some (fm k1 l1 v1 K f1 x1),some (fm k2 l2 v2 K f2 x2),some p,some (.ref A),some (.ref B),some (.ref C),some (.ref F),some (.ref (F+1)),a,some (.ref D),b,c,e,g,none,none,none,none,none] τ)
  (λQ q=>(TR G.O.sys hD.eq (λp hp=>by obtain ⟨k,J,rfl⟩:=aL.mp hp;rfl) (by unfold KT;erw[cw];rfl) hK.few hK.nd (CV _) hK.lt).builtin q)
  (λX q=>q _ _ _ _ _ _ (Ch.refl _) hF) (λk τ a b c e g h J=>bU ((af.new _ _).ch h nL).eq) (λk x K' hk hK' τ a b c e g ch hF=>?_) λτ a b c e g ch hF=>?_
 ·have hA:=hA.ch ch nA;have hB:=hB.ch ch nB;have hC:=hC.ch ch nC;rw[bt] at hk;obtain ⟨y,ey,rfl⟩:=bW.mp hk;have hy:=cj ey;have ne:∀{f g:K2->P2},dG K f->dG K g->∀b,b=decide (f y=g y)->jP τ (aX (f y)) (aX (g y)) b:=λhf hg b hb=>hb▸Kg (hf y hy) (hg y hy);refine gA (λQ q=>⟨_,pt hA.eq rfl,BD G hK hA hy<| ⟨_,pt hB.eq rfl,BD G hK hB hy<| ⟨_,pt hC.eq rfl,BD G hK hC hy<| q⟩⟩⟩) rfl ?_;refine bj (v:=aX (ds f0 f1 f2 y)) (σ':=τ) (λQ q=>?_) ?_
  ·unfold ds at q;by_cases h:f1 y=f0 y
   ·rw[if_pos h] at q;exact ⟨true,ne h1 h0 true (decide_eq_true h).symm,q⟩
   ·rw[if_neg h] at q;exact ⟨false,ne h1 h0 false (decide_eq_false h).symm,q⟩
  refine bG (σ':=τ) (λK q=>?_) ?_
  ·by_cases h:f1 y=f0 y
   ·exact ⟨true,ne h1 h0 true (decide_eq_true h).symm,q⟩
   refine ⟨false,ne h1 h0 false (decide_eq_false h).symm,?_⟩;by_cases h':f2 y=f0 y
   ·exact ⟨true,ne h2 h0 true (decide_eq_true h').symm,q⟩
   refine ⟨false,ne h2 h0 false (decide_eq_false h').symm,?_⟩;have h3:=((hm y hy).resolve_left h).resolve_left h';exact ⟨true,ne h1 h2 true (decide_eq_true h3).symm,q⟩
  refine d7 (λK q=>rA q) ?_;refine cI (λQ q=>⟨_,eH hF.eq rfl,dp (i:=0) rfl<| dp (i:=1) rfl<| (dK hF.eq (fy (dE (dE (fw few))) rfl)).builtin q⟩) ?_;refine hK' _ _ λX q=>q _ _ _ _ _ _ (ch.trans (Ch.set _ _ (.head _))) ?_;unfold rws;(erw[d8 ey];erw[bq];erw[bq]);exact hF.set
 ·rw[ay,ez] at hF;exact bJ (λQ q=>(kU hF.eq).type<| q) ⟨F+1,by (erw[show ren (λJ=>F+1) (.tup [.tup ((rws K (ds f0 f1 f2)).map bw),.ref 0])= .tup [ren (λJ=>F+1) (.tup ((rws K (ds f0 f1 f2)).map bw)),.ref (F+1)] from rfl];rw[(r7 _).2]),h10.ch ch n1⟩
end
noncomputable def nH(a:aa):Option Ent:=match cf a fO || cf a mc || cf a md with
 | true=>some .ask
 | false=>tab a
noncomputable def pK:AV->HP->Option (List AV)
 | .ref l,H=>match H[l]? with
  | some (.lst xs)=>some xs
  | _=>none
 | J1,J2=>none
noncomputable def BE:AV->HP->Option (AV × List AV)
 | .tup ws,H=>match ws with
  | x::ws=>match ws with
   | y::ws=>match ws with
    | []=>(pK y H).map λl=>(x,l)
    | _::_=>none
   | []=>none
  | []=>none
 | J1,J2=>none
theorem Kr{v:AV}{H:HP}{xs:List AV}(h:pK v H=some xs):∃l,v= .ref l/\af (aH H) l (.lst xs):=by
 induction v using AV.casesOn with
 | ref l=>obtain ⟨ys,e,e2⟩:=C9 (f:=some) h;(have hH:=aO e2;clear e2;subst hH);exact ⟨l,rfl,jA e⟩
 | _=>exact aU h
theorem Vd{v x:AV}{H:HP}{xs:List AV}(h:BE v H=some (x,xs)):∃l,v= .tup [x,.ref l]/\af (aH H) l (.lst xs):=by
 induction v using AV.casesOn with
 | tup ws=>induction ws using bQ with
  | nil=>exact aU h
  | cons a ws=>induction ws using bQ with
   | nil=>exact aU h
   | cons y ws=>induction ws using bQ with
    | cons b ws=>exact aU h
    | nil=>
     obtain ⟨p,e,e2⟩:=bW.mp (h:(pK y H).map (λl=>(a,l))=some (x,xs));obtain ⟨l,rfl,hl⟩:=Kr e;obtain ⟨rfl,rfl⟩:=Prod.mk.inj e2;exact ⟨l,rfl,hl⟩
 | _=>exact aU h
noncomputable def fS(n:Int):G:= .w λJ=>(.int n,[])
noncomputable def wR(xs:List AV):G:= .w λn=>(.ref n,[.lst xs])
noncomputable def wU(x:AV):G:= .w λn=>(.tup [x,.ref n],[.lst []])
theorem BF:Ks []:=⟨je,List.Pairwise.nil,by decide⟩
theorem BG(K:List K2)(f:K2->P2):cQ K f f=[]:=by
 unfold cQ;erw[CH.mpr λk J=>by simp];rfl
theorem fb(S:List R3):Pu (bL S)/\Pu (a8 S):=by
 have h:Pu (bL S):=jB (fR _ ⟨dg _,⟨λJ=>rfl,λJ=>rfl⟩,dg _,r7 _,⟨λJ=>rfl,λJ=>rfl⟩,trivial⟩);exact ⟨h,jB (fR _ ⟨dg _,dg _,dg _,⟨λJ=>rfl,λJ=>rfl⟩,jB (fR _ ⟨h,trivial⟩),trivial⟩)⟩
section
variable{P:PW}{σ:AH}{Q:AV->AH->Prop}(G:Gd P){K:List K2}(hK:Ks K){f g f0 f1 f2:K2->P2}
theorem Gd.hm{P:PW}(G:Gd P):∀m e,nH m=some e->jX P m e:=λm e h=>by
 unfold nH at h
 induction q:(cf m fO || cf m mc || cf m md) using bC with
 | true=>rw[q] at h;(have hH:=aO h;clear h;subst hH);trivial
 | false=>rw[q] at h;exact G.ht m e h
theorem Kt{P:PW}(G:Gd P){n:Nat}{f:AV}{args xs:List AV}(sc:List Internal.G)(h:dL P S0 nH 300 n f args [] sc λv H J=>pK v H=some xs):T P n f args (aH []) λv σ'=>∃l,v=ren (λJ=>l) (.ref 0)/\af σ' l (.lst xs):=m9 300 G.O G.hm n _ _ _ _ _ _ h λv H sc h=>Kr h
theorem Ve{P:PW}(G:Gd P){n:Nat}{f x:AV}{args xs:List AV}(sc:List Internal.G)(hx:Pu x)(h:dL P S0 nH 300 n f args [] sc λv H J=>BE v H=some (x,xs)):T P n f args (aH []) λv σ'=>∃l,v=ren (λJ=>l) (.tup [x,.ref 0])/\af σ' l (.lst xs):=m9 300 G.O G.hm n _ _ _ _ _ _ h λv H sc h=>by
 obtain ⟨l,e1,e2⟩:=Vd h;exact ⟨l,by ((erw[e1];erw[show ren (λJ=>l) (.tup [x,.ref 0])= .tup [ren (λJ=>l) x,.ref l] from rfl]);rw[hx.2]),e2⟩
include G hK
theorem oE(hf:dG K f)(hg:dG K g){n:Nat}(e:(cQ K f g).length=n):∀(σ:AH)(Q:AV->AH->Prop),Q (.int n) (ip σ [])->T P 3 (.con (.ref fO)) [bL (rws K f),bL (rws K g)] σ Q:=λσ Q q=>
 Kj G hK hf hg ⟨dg _,⟨λJ=>rfl,λJ=>rfl⟩,⟨λJ=>rfl,λJ=>rfl⟩⟩ ⟨dg _,⟨λJ=>rfl,λJ=>rfl⟩,⟨λJ=>rfl,λJ=>rfl⟩⟩ (e▸q)
omit hK in
theorem oR(S S':List R3):∀(σ:AH)(Q:AV->AH->Prop),Q (.int 0) (ip σ [])->T P 3 (.con (.ref fO)) [a8 S,a8 S'] σ Q:=λσ Q q=>
 Kj G BF (f:=λJ=>([],[])) (g:=λJ=>([],[])) (λk h=>by exact absurd h am) (λk h=>by exact absurd h am) ⟨dg _,dg _,jB (fR _ ⟨(fb S).1,trivial⟩)⟩ ⟨dg _,dg _,jB (fR _ ⟨(fb S').1,trivial⟩)⟩ q
theorem Vf(hf:dG K f)(q:Q (.ref σ.next) (σ.new (.lst []))):T P 12 (.con (.ref o1)) [a8 (rws K f),a8 (rws K f)] σ Q:=by
 have e:(dL P S0 nH 300 12 (.con (.ref o1)) [a8 (rws K f),a8 (rws K f)] [] [fS 0,fS 0] λv H J=>pK v H=some [])=((∀(σ:AH)(Q:AV->AH->Prop),Q (.int 0) (ip σ [])->T P 9 (.con (.ref fO)) [bL (rws K f),bL (rws K f)] σ Q)/\
   (∀(σ:AH)(Q:AV->AH->Prop),Q (.int 0) (ip σ [])->T P 9 (.con (.ref fO)) [a8 (rws K f),a8 (rws K f)] σ Q)/\some ([]:List AV)=some []):=by kernel_rfl
 refine r8 (v':= .ref 0) (xs:=[]) (pJ _) (fR _ ⟨(fb _).2,(fb _).2,trivial⟩) rfl (λx hx=>by exact absurd hx am) ?_ q
 refine Kt G [fS 0,fS 0] ?_;rewrite (config:={}) [e];refine ⟨λσ Q q=>(oE G hK hf hf (n:=0) (by rewrite[BG];rfl) σ Q q).le (by decide),λσ Q q=>(oR G _ _ σ Q q).le (by decide),rfl⟩
theorem Vg(hf:dG K f)(hg:dG K g){r:R3}(h1:cQ K f g=[bw r])(q:Q (.ref σ.next) (σ.new (.lst [.tup [.str [97,116,116,114,105,98,117,116,101],.tup [.int 0],aJ r.1,.str r.2.1,.str r.2.2]]))):T P 12 (.con (.ref o1)) [a8 (rws K f),a8 (rws K g)] σ Q:=by
 have e:(dL P S0 nH 300 12 (.con (.ref o1)) [a8 (rws K f),a8 (rws K g)] [] [fS 1,fS 0,wR [],wR [.tup [.str [97,116,116,114,105,98,117,116,101],.tup [.int 0],aJ r.1,.str r.2.1,.str r.2.2]]] λv H J=>pK v H=some [.tup [.str [97,116,116,114,105,98,117,116,101],.tup [.int 0],aJ r.1,.str r.2.1,.str r.2.2]])=
   ((∀(σ:AH)(Q:AV->AH->Prop),Q (.int 1) (ip σ [])->T P 9 (.con (.ref fO)) [bL (rws K f),bL (rws K g)] σ Q)/\
   (∀(σ:AH)(Q:AV->AH->Prop),Q (.int 0) (ip σ [])->T P 9 (.con (.ref fO)) [a8 (rws K f),a8 (rws K g)] σ Q)/\
   (∀(σ:AH)(Q:AV->AH->Prop),Q (.ref σ.next) (σ.new (.lst []))->T P 10 (.con (.ref mc)) [a8 (rws K f),a8 (rws K g),.tup []] σ Q)/\
   (∀(σ:AH)(Q:AV->AH->Prop),Q (.ref σ.next) (σ.new (.lst [.tup [.str [97,116,116,114,105,98,117,116,101],.tup [.int 0],aJ r.1,.str r.2.1,.str r.2.2]]))->T P 10 (.con (.ref mc)) [bL (rws K f),bL (rws K g),.tup [.int 0]] σ Q)/\
   some [AV.tup [.str [97,116,116,114,105,98,117,116,101],.tup [.int 0],aJ r.1,.str r.2.1,.str r.2.2]]=some [.tup [.str [97,116,116,114,105,98,117,116,101],.tup [.int 0],aJ r.1,.str r.2.1,.str r.2.2]]):=by kernel_rfl
 refine r8 (v':= .ref 0) (pJ _) (fR _ ⟨(fb _).2,(fb _).2,trivial⟩) rfl (λx hx=>?_) ?_ q
 ·rw[aF] at hx;erw[hx];exact ⟨λJ=>rfl,λJ=>rfl⟩
 refine Kt G [fS 1,fS 0,wR [],wR [.tup [.str [97,116,116,114,105,98,117,116,101],.tup [.int 0],aJ r.1,.str r.2.1,.str r.2.2]]] ?_;rewrite (config:={}) [e];refine ⟨λσ Q q=>(oE G hK hf hg (n:=1) (by erw[h1];rfl) σ Q q).le (by decide),λσ Q q=>(oR G _ _ σ Q q).le (by decide),λσ Q q=>?_,λσ Q q=>?_,rfl⟩
 ·exact (Kk G BF (f:=λJ=>([],[])) (g:=λJ=>([],[])) (λk h=>by exact absurd h am) (λk h=>by exact absurd h am) ⟨dg _,dg _,jB (fR [bL _] ⟨(fb _).1,trivial⟩)⟩ ⟨dg _,dg _,jB (fR [bL _] ⟨(fb _).1,trivial⟩)⟩ (p:= .tup []) ⟨λJ=>rfl,λJ=>rfl⟩ q).le (by decide)
 ·exact (Kk G hK hf hg ⟨dg _,⟨λJ=>rfl,λJ=>rfl⟩,⟨λJ=>rfl,λJ=>rfl⟩⟩ ⟨dg _,⟨λJ=>rfl,λJ=>rfl⟩,⟨λJ=>rfl,λJ=>rfl⟩⟩ (p:= .tup [.int 0]) ⟨λJ=>rfl,λJ=>rfl⟩ (by erw[h1];exact q)).le (by decide)
theorem wV(h0:dG K f0)(h1:dG K f1)(h2:dG K f2)(hm:∀k∈K,f1 k=f0 k\/f2 k=f0 k\/f1 k=f2 k){a b:Bool}(ea:(cQ K f0 f1).length=a.toNat)(eb:(cQ K f0 f2).length=b.toNat)(q:Q (.tup [a8 (rws K (ds f0 f1 f2)),.ref σ.next]) (σ.new (.lst []))):
  T P 16 (.con (.ref vP)) [a8 (rws K f0),a8 (rws K f1),a8 (rws K f2)] σ Q:=by
 have e:(dL P S0 nH 300 16 (.con (.ref vP)) [a8 (rws K f0),a8 (rws K f1),a8 (rws K f2)] [] [fS a.toNat,fS 0,fS b.toNat,fS 0,wU (.tup ((rws K (ds f0 f1 f2)).map bw)),wU (.tup [])] λv H J=>BE v H=some (a8 (rws K (ds f0 f1 f2)),[]))=
   ((∀(σ:AH)(Q:AV->AH->Prop),Q (.int a.toNat) (ip σ [])->T P 11 (.con (.ref fO)) [bL (rws K f0),bL (rws K f1)] σ Q)/\
   (∀(σ:AH)(Q:AV->AH->Prop),Q (.int 0) (ip σ [])->T P 11 (.con (.ref fO)) [a8 (rws K f0),a8 (rws K f1)] σ Q)/\
   (∀(σ:AH)(Q:AV->AH->Prop),Q (.int b.toNat) (ip σ [])->T P 11 (.con (.ref fO)) [bL (rws K f0),bL (rws K f2)] σ Q)/\
   (∀(σ:AH)(Q:AV->AH->Prop),Q (.int 0) (ip σ [])->T P 11 (.con (.ref fO)) [a8 (rws K f0),a8 (rws K f2)] σ Q)/\
   (∀(σ:AH)(Q:AV->AH->Prop),Q (.tup [.tup ((rws K (ds f0 f1 f2)).map bw),.ref σ.next]) (σ.new (.lst []))->T P 12 (.con (.ref md)) [bL (rws K f0),bL (rws K f1),bL (rws K f2),.tup [.int 0]] σ Q)/\
   (∀(σ:AH)(Q:AV->AH->Prop),Q (.tup [.tup [],.ref σ.next]) (σ.new (.lst []))->T P 12 (.con (.ref md)) [a8 (rws K f0),a8 (rws K f1),a8 (rws K f2),.tup []] σ Q)/\
   some (a8 (rws K (ds f0 f1 f2)),([]:List AV))=some (a8 (rws K (ds f0 f1 f2)),[])):=by induction a using bC<;>induction b using bC<;>kernel_rfl
 have pe:∀{h:K2->P2},Pu (.str fQ)/\Pu (.tup [.str de,.str [],.str de])/\Pu (.str [])/\Pu (.tup []):=⟨dg _,⟨λJ=>rfl,λJ=>rfl⟩,dg _,⟨λJ=>rfl,λJ=>rfl⟩⟩;have pr:∀S,Pu (.str iz)/\Pu (.str [])/\Pu (.str [])/\Pu (.tup [bL S]):=λS=>⟨dg _,dg _,dg _,jB (fR _ ⟨(fb S).1,trivial⟩)⟩;refine r8 (v':= .tup [a8 (rws K (ds f0 f1 f2)),.ref 0]) (xs:=[]) (pJ _) (fR _ ⟨(fb _).2,(fb _).2,(fb _).2,trivial⟩) ?_ (λx hx=>by exact absurd hx am) ?_ ?_
 ·refine (?_:(low 1 (a8 _) && true)=true);rewrite[(fb _).2.1];rfl
 rotate_left
 ·(erw[show ren (sh σ.next) (.tup [a8 (rws K (ds f0 f1 f2)),.ref 0])= .tup [ren (sh σ.next) (a8 (rws K (ds f0 f1 f2))),.ref (σ.next+0)] from rfl];rewrite[(fb _).2.2]);exact q
 refine Ve G [fS a.toNat,fS 0,fS b.toNat,fS 0,wU (.tup ((rws K (ds f0 f1 f2)).map bw)),wU (.tup [])] (fb _).2 ?_;rewrite (config:={}) [e];refine ⟨λσ Q q=>(oE G hK h0 h1 ea σ Q q).le (by decide),λσ Q q=>(oR G _ _ σ Q q).le (by decide),λσ Q q=>(oE G hK h0 h2 eb σ Q q).le (by decide),λσ Q q=>(oR G _ _ σ Q q).le (by decide),λσ Q q=>?_,λσ Q q=>?_,rfl⟩
 ·exact (Kq G hK h0 h1 h2 hm (pe (h:=f0)) (pe (h:=f0)) (pe (h:=f0)) (p:= .tup [.int 0]) ⟨λJ=>rfl,λJ=>rfl⟩ q).le (by decide)
 ·exact (Kq G BF (f0:=λJ=>([],[])) (f1:=λJ=>([],[])) (f2:=λJ=>([],[])) (λk h=>by exact absurd h am) (λk h=>by exact absurd h am) (λk h=>by exact absurd h am) (λk h=>by exact absurd h am) (pr _) (pr _) (pr _) (p:= .tup []) ⟨λJ=>rfl,λJ=>rfl⟩ q).le (by decide)
end
noncomputable def pc(p:List Nat):List Nat:=match p with
 | []=>[]
 | _=>p++[58]
theorem r9:∀x∈NT,x.1=pc x.2.1++x.2.2:=by decide+kernel
theorem BH:∀x∈NT,(jM (pc x.2.1).length 50 && jM x.2.2.length 50 && ll (pc x.2.1))=true:=by decide+kernel
noncomputable abbrev cR(x:A4):AV:= .tup [.str (pc x.1.2.1),.str x.1.2.2,.str x.2]
theorem Ku:∀xs:List (List Nat),kX [] xs=xs.flatten
 | []=>rfl
 | [x]=>by erw[lG];exact (dB _).symm
 | x::y::r=>by
  refine (?_:x++[]++kX [] (y::r)=_);(erw[Ku (y::r)];rewrite[dB];erw[lG (l:=x)];ac_rfl)
theorem aK.items_text(D:aK):wr [32] D.items=wr dq D.ps++wr [32] (D.as.map dS):=by
 unfold aK.items aK.its wr;(erw[bq];erw[bq];erw[ku];erw[cw];erw[cw];erw[cw];erw[cw];erw[cw]);have e:(d9 [32]∘It.p2∘λp:P2=>It.d p.1 p.2)=d9 dq:=funext λp=>by refine (?_:[32]++(jz++p.1)++_++_++_=_);unfold d9;simp;rfl
 rewrite[show ((d9 [32]∘It.p2)∘λp:P2=>It.d p.1 p.2)=d9 dq from e]
 rfl
section
variable{P:PW}{d:Nat}{ρ:ac}{σ:AH}{Q:AV->AH->Prop}
theorem Kv{elt it:AE}{t:AT}{n l:Nat}{xs:List AV}{ss:List (List Nat)}(hl:af σ l (.lst xs))(hit:sv S0 ρ [] it=some (.ref l))(bl:ss.length=xs.length)(few:ss.length<1000)(hb:∀s∈ss,s.length<=1000)
  (step:∀(k:Nat)(x:AV)(s:List Nat)(κ:ac)(τ:AH)(K:AV->ac->AH->Prop),xs[k]? =some x->ss[k]? =some s->κ.length=n->(∀κ',κ'.length=n->K (.str s) κ' τ)->wA P S0 d t x ρ κ τ λb9 bo aA=>b9=ρ/\wE P S0 d elt ρ bo aA λv ae=>K v bo ae)
  (q:∀σ',Ch [] σ σ'->Q (.str ss.flatten) σ'):wE P S0 d (.meth (.str []) l8 (.cons (.comp elt (.cons t it .nil .nil) n) .nil)) ρ [] σ Q:=by
 refine ⟨_,j4 rfl,px (f:= .ref l) (σ':=σ) (xs:=xs) (λk κ τ=>Ch [] σ τ/\af τ σ.next (.lst ((ss.take k).map .str))/\κ.length=n)
  (λQ q=>eZ hit q) (bU hl.eq) ⟨Ch.new _ _,af.new _ _,List.length_replicate ..⟩ (λk κ τ h=>bU (hl.ch h.1 am).eq) (λk x κ τ K' hx z2 hK'=>?_) λκ τ z1=>?_⟩
 ·obtain ⟨c,h,hn⟩:=z2;have bD:=(bP.mp hx).1;have es:ss[k]? =some (ss[k]'(bl.symm▸bD)):=dh _;refine step k x _ κ τ (λv bo ae=>∃ys,ae.m σ.next=some (.lst ys)/\ys.length<aY/\K' bo (ae.set σ.next (.lst (ys++[v])))) hx es hn λκ' Cd=>⟨_,h.eq,?_,hK' _ _ ⟨c.own (bI _),?_,Cd⟩⟩
  ·exact fy (dE (fw few)) rfl
  ·(erw[d8 es];erw[bq]);exact h.set
 ·obtain ⟨c,h,J⟩:=z1;rw[<-bl,ez] at h;have hs:∀l:List (List Nat),(∀s∈l,s.length<=1000)->(l.map kC).sum<=1000*l.length:=λl=>by
   induction l with
   | nil=>intro J;exact bI _
   | cons a l ih=>
    intro h;have h1:=h a (.head _);have h2:=ih λs hs=>h s (.tail _ hs);simp only[bi,List.sum_cons,dW];lia
  have:=hs ss hb;refine (qU h.eq (by erw[bH];simp;lia)).builtin ?_
  rewrite[Ku];exact q _ c
end
section
variable{P:PW}{σ:AH}{Q:AV->AH->Prop}(G:Gd P){D:aK}(ok:D.Ok)
include G ok
omit G ok in
theorem Vh:bB D.items=[60,101]++wr dq D.ps++((D.as.map dS).map (d9 [32])).flatten++[47,62]:=by
 unfold bB;erw[D.items_text];simp only[fU];rfl
theorem Vi{sp rw:Nat}(h1:af σ sp (.lst (D.ps.map aX)))(h2:af σ rw (.lst (D.as.map cR)))(q:∀σ',Ch [] σ σ'->Q (.str (bB D.items)) σ'):T P 2 (.con (.ref vV)) [.ref sp,.ref rw] σ Q:=by
 have few:=ok.few;have bp:∀p∈D.ps,p.1.length<=50/\p.2.length<=100:=λp hp=>⟨(dR _ (ok.ps p hp).1).2.2.1,(jx _ (ok.ps p hp).2).2⟩;have ba:∀x∈D.as,(pc x.1.2.1).length<=50/\x.1.2.2.length<=50/\x.2.length<=100:=λx hx=>by
  have h:=BH _ (ok.as x hx).1;rw[bV,bV] at h;exact ⟨aq h.1.1,aq h.1.2,Bn _ (mM _ (ok.as x hx).2.1)⟩
 refine (G.fn (rfl:tab vV=some (.fn _ _ _ Iw)) (aq rfl) (aq rfl) ?_).toT;refine dQ (C:=λQ=>∀σ',Ch [] σ σ'->Q (.str (wr dq D.ps)) σ') (λQ q=>Kv (ss:=D.ps.map (d9 dq)) h1 rfl (by rw[ay,ay]) (by rewrite[ay];lia) (λs hs=>?_) (λk x s κ τ K hx hs fE hK=>?_) q) λae c1=>?_
 ·obtain ⟨p,hp,rfl⟩:=aL.mp hs;have:=bp p hp;unfold d9;simp only[bR,dW,xF];lia
 ·rw[bt] at hx hs;obtain ⟨p,ep,rfl⟩:=bW.mp hx;rw[ep] at hs;cases hs;have hb:=bp p (cj ep);have f1:=fA (show dq.length<=10 from aq rfl) hb.1
  have f2:=fA f1 (show [61,34].length<=10 from aq rfl)
  have f3:=fA f2 hb.2;obtain ⟨a,b,c,rfl⟩:=wu fE;exact mZ (κ':=[a,some (.str p.1),some (.str p.2)]) rfl ⟨rfl,⟨da (m:=10) (aq rfl) hb.1 rfl,⟨da f1 (n:=10) (aq rfl) rfl,⟨da f2 hb.2 rfl,⟨da f3 (n:=10) (aq rfl) rfl,hK _ rfl⟩⟩⟩⟩⟩
 have h2:=h2.ch c1 am;have g1:(wr dq D.ps).length<=20000:=by
  have:=nx (w:=dq) (aq rfl) (ps:=D.ps) λp hp=>⟨by have:=bp p hp;lia,(bp p hp).2⟩
  lia
 have g2:(wr [32] (D.as.map dS)).length<=20000:=by
  have:=nx (w:=[32]) (aq rfl) (ps:=D.as.map dS) λp hp=>by
   obtain ⟨x,hx,rfl⟩:=aL.mp hp;have:=ba x hx;have e:=r9 _ (ok.as x hx).1;refine (?_:x.1.1.length<=_/\x.2.length<=_);(erw[e];erw[bR]);lia
  rw[ay] at this;lia
 have g3:=fA (show ([60,101]:List Nat).length<=10 from aq rfl) g1
 have g4:=fA g3 g2;refine AK (C:=λQ=>∀σ',Ch [] σ σ'->Q (.str (bB D.items)) σ') (λQ q=>⟨da (m:=10) (aq rfl) g1 rfl,Kv (ss:=(D.as.map dS).map (d9 [32])) h2 rfl (by rw[ay,ay,ay]) (by rewrite[ay,ay];lia) (λs hs=>?_) (λk x s κ τ K hx hs fE hK=>?_) λσ' c=>⟨da g3 g2 rfl,⟨da g4 (n:=10) (aq rfl) rfl,by rw[Vh] at q;exact q _ (c1.trans c)⟩⟩⟩) λσ'=>q _
 ·obtain ⟨p,hp,rfl⟩:=aL.mp hs;obtain ⟨x,hx,rfl⟩:=aL.mp hp;have:=ba x hx;have e:=r9 _ (ok.as x hx).1;unfold d9 dS;simp only[bR,dW,xF];(erw[e];erw[bR]);lia
 ·rw[bt] at hx;rw[bt,bt] at hs;obtain ⟨x,ex,rfl⟩:=bW.mp hx;rw[ex] at hs;cases hs;have hb:=ba x (cj ex);have e:=r9 _ (ok.as x (cj ex)).1;have f0:=fA (show ([32]:List Nat).length<=10 from aq rfl) hb.1
  have f1:=fA f0 hb.2.1;have f2:=fA f1 (show [61,34].length<=10 from aq rfl)
  have f3:=fA f2 hb.2.2;obtain ⟨a,b,c,g,rfl⟩:=AQ fE
  ·refine mZ (κ':=[a,some (.str (pc x.1.2.1)),some (.str x.1.2.2),some (.str x.2)]) rfl ⟨rfl,⟨da (m:=10) (aq rfl) hb.1 rfl,⟨da f0 hb.2.1 rfl,⟨da f1 (n:=10) (aq rfl) rfl,⟨da f2 hb.2.2 rfl,⟨da f3 (n:=10) (aq rfl) rfl,?_⟩⟩⟩⟩⟩⟩;have e2:([32]++pc x.1.2.1++x.1.2.2++[61,34]++x.2++[34])=d9 [32] (dS x):=by unfold d9 dS;erw[e];simp only[fU]
   erw[e2];exact hK _ rfl
end
section
variable{P:PW}{d:Nat}{ρ:ac}{σ:AH}{Q:AV->AH->Prop}
theorem wW{elt it:AE}{t:AT}{n l:Nat}{xs vs:List AV}(hl:af σ l (.lst xs))(hit:sv S0 ρ [] it=some (.ref l))(bl:vs.length=xs.length)(few:vs.length<1000)
  (step:∀(k:Nat)(x w:AV)(κ:ac)(τ:AH)(K:AV->ac->AH->Prop),xs[k]? =some x->vs[k]? =some w->κ.length=n->Ch [] σ τ->(∀κ',κ'.length=n->K w κ' τ)->wA P S0 d t x ρ κ τ λb9 bo aA=>b9=ρ/\wE P S0 d elt ρ bo aA λv ae=>K v bo ae)
  (q:∀σ' l',Ch [] σ σ'->σ.next<=l'->af σ' l' (.lst vs)->Q (.ref l') σ'):wE P S0 d (.comp elt (.cons t it .nil .nil) n) ρ [] σ Q:=by
 refine px (f:= .ref l) (σ':=σ) (xs:=xs) (λk κ τ=>Ch [] σ τ/\af τ σ.next (.lst (vs.take k))/\κ.length=n)
  (λQ q=>eZ hit q) (bU hl.eq) ⟨Ch.new _ _,af.new _ _,List.length_replicate ..⟩ (λk κ τ h=>bU (hl.ch h.1 am).eq) (λk x κ τ K' hx z2 hK'=>?_) λκ τ z1=>?_
 ·obtain ⟨c,h,hn⟩:=z2;have bD:=(bP.mp hx).1;have es:vs[k]? =some (vs[k]'(bl.symm▸bD)):=dh _;refine step k x _ κ τ (λv bo ae=>∃ys,ae.m σ.next=some (.lst ys)/\ys.length<aY/\K' bo (ae.set σ.next (.lst (ys++[v])))) hx es hn c λκ' Cd=>⟨_,h.eq,?_,hK' _ _ ⟨c.own (bI _),?_,Cd⟩⟩
  ·exact fy (fw few) rfl
  ·erw[d8 es];exact h.set
 ·obtain ⟨c,h,J⟩:=z1;rw[<-bl,ez] at h;exact q _ _ c (bI _) h
end
noncomputable def TB(D:aK):List (AV × AV):=D.ps.map (λp=>(AV.str (p.1++[58]),AV.str p.2))++[(.str [],.str [])]
noncomputable def LL(D:aK)(val:A4->List Nat):List R3:=D.ps.map (λp=>nsRow p.1 p.2)++D.as.map λx=>(D.key x,x.1.1,val x)
theorem Vj(q:P2)(r:List P2)(p:List Nat):uri (q::r) p=if q.1=p then q.2 else uri r p:=rfl
section
variable{D:aK}(ok:D.Ok)
include ok
theorem aK.Ok.tb_nd:((TB D).map (·.1)).Nodup:=by
 have e:(TB D).map (·.1)=(D.ps.map λp=>AV.str (p.1++[58]))++[.str []]:=by
  unfold TB;(erw[bq];erw[cw]);rfl
 (erw[e];rewrite[eL]);refine ⟨?_,by simp,λa ha b hb=>?_⟩
 ·have h:=ok.n1;unfold lP at h ⊢;rw[jL] at h ⊢;exact h.imp λhn e=>hn (List.append_cancel_right (AV.str.inj e))
 ·rw[aF] at hb;obtain ⟨p,J,rfl⟩:=aL.mp ha;erw[hb];intro e;have:=AV.str.inj e;simp at this
theorem aK.Ok.tb_get{p:List Nat}(hp:p=[]\/p∈D.ps.map (·.1)):cy (TB D) (.str (pc p))=some (.str (uri D.ps p)):=by
 have g:∀(l:List P2),(∀q∈l,q.1≠[])->(p=[]\/p∈l.map (·.1))->cy (l.map (λp=>(AV.str (p.1++[58]),AV.str p.2))++[(.str [],.str [])]) (.str (pc p))=some (.str (uri l p)):=λl=>by
  induction l with
  | nil=>
   intro J h;rcases h with rfl | h
   ·refine (?_:cy [(AV.str [],AV.str [])] (.str [])=_);erw[jm];erw[if_pos rfl];rfl
   ·exact absurd h am
  | cons y r ih=>
   intro h0 h
   ((erw[bi];erw[nY]);rewrite[Vj])
   erw[jm];by_cases e:y.1=p
   ·have:pc p=y.1++[58]:=by
     erw[aD e];have:=h0 y (.head _);unfold pc
     induction hy:y.1 using bQ with
     | nil=>exact absurd hy this
     | cons a b=>rfl
    ((erw[if_pos (by (erw[this];ac_rfl))];erw[if_pos e]);ac_rfl)
   ·(erw[if_neg e];rw[if_neg,ih (λq hq=>h0 q (.tail _ hq)) (h.imp id λh=>(aV.mp h).resolve_left λh=>e h.symm)]);intro h';have h':y.1++[58]=pc p:=AV.str.inj h'
    induction p using bQ with
    | nil=>exact absurd h' (by unfold pc;simp)
    | cons a b=>exact e (List.append_cancel_right (show y.1++[58]=(a::b)++[58] from h'))
 exact g D.ps (λq hq=>(dR _ (ok.ps q hq).1).2.1) hp
end
section
variable{P:PW}{σ:AH}{Q:AV->AH->Prop}(G:Gd P){D:aK}(ok:D.Ok)
include G ok
theorem Kw{d:Nat}{ρ:ac}{sp:Nat}(h0:sv S0 ρ [] (.loc 0)=some (.ref sp))(h1:af σ sp (.lst (D.ps.map aX)))(q:∀σ' l,Ch [] σ σ'->σ.next<=l->af σ' l (.dct (TB D))->Q (.ref l) σ'):
  wE P S0 d (.call (.glob iT) (.cons (.bin .Add (.comp (.tup (.cons (.bin .Add (.cl 1) (.str [58])) (.cons (.cl 2) .nil))) (.cons (.tup (.cons (.cl 1) (.cons (.cl 2) .nil))) (.loc 0) .nil .nil) 3) (.list (.cons (.tup (.cons (.str []) (.cons (.str []) .nil))) .nil))) .nil)) ρ [] σ Q:=by
 have few:=ok.few;have bp:∀p∈D.ps,p.1.length<=50:=λp hp=>(dR _ (ok.ps p hp).1).2.2.1;refine wW (vs:=D.ps.map λp=> .tup [.str (p.1++[58]),.str p.2]) h1 h0 (by rw[ay,ay]) (by rewrite[ay];lia) (λk x w κ τ K hx hw fE c hK=>?_) λae l c g h=>?_
 ·rw[bt] at hx hw;obtain ⟨p,ep,rfl⟩:=bW.mp hx;rw[ep] at hw;cases hw;obtain ⟨a,b,e,rfl⟩:=wu fE;exact mZ (κ':=[a,some (.str p.1),some (.str p.2)]) rfl ⟨rfl,⟨da (bp p (cj ep)) (n:=10) (aq rfl) rfl,hK _ rfl⟩⟩
 ·refine ?_;have n1:Ch [] ae (ae.new (.lst [.tup [.str [],.str []]])):=Ch.new _ _;refine ⟨_,_,(h.ch n1 am).eq,(af.new _ _).eq,by (rewrite[ay];erw[bH]);simp;lia,?_⟩
  have e:(D.ps.map λp=>AV.tup [.str (p.1++[58]),.str p.2])++[.tup [.str [],.str []]]=pairs (TB D):=by
   unfold pairs TB;(erw[bq];erw[cw]);rfl
  erw[e];refine (ul (kd:= .s) (af.new _ _).eq λp hp=>?_).type ?_
  ·unfold TB at hp;rcases dH.mp hp with hp | hp
   ·obtain ⟨z,J,rfl⟩:=aL.mp hp;rfl
   ·rw[aF] at hp;erw[hp];rfl
  ·erw[wP _ _ (λp J q hq=>by exact absurd hq am) ok.tb_nd]
   exact q _ _ ((c.trans n1).trans ((Ch.new _ _).trans (Ch.new _ _))) (ck (c.trans n1).le (jc _)) (af.new _ _)
omit G in
theorem aK.Ok.ll_nd(val:A4->List Nat):((LL D val).map (·.1)).Nodup:=by
 have e:(LL D val).map (·.1)=(D.ps.map λp=>(iZ,p.1))++D.as.map D.key:=by
  unfold LL;(erw[bq];erw[cw];erw[cw]);rfl
 (erw[e];rewrite[eL]);refine ⟨?_,ok.keys,λa ha b hb=>?_⟩
 ·have h:=ok.n1;unfold lP at h ⊢;rw[jL] at h ⊢;exact h.imp λhn e=>hn (congrArg Prod.snd e)
 ·obtain ⟨p,hp,rfl⟩:=aL.mp ha;obtain ⟨x,hx,rfl⟩:=aL.mp hb;intro e;have e:iZ=uri D.ps x.1.2.1:=congrArg Prod.fst e;rcases (ok.as x hx).2.2 with h | h
  ·rw[h,ok.uri0] at e;cases e
  ·have:=ok.uriU h;rw[<-e] at this;exact absurd this (by decide)
theorem BI{sp rw:Nat}(val:A4->List Nat)(h1:af σ sp (.lst (D.ps.map aX)))(h2:af σ rw (.lst (D.as.map λx=>cR (x.1,val x)))){S:List R3}(hp:S.Perm (LL D val))(hs:S.Pairwise λx y=>ltN x.1 y.1=true)(q:∀σ',Ch [] σ σ'->Q (a8 S) σ'):
  T P 1 (.con (.ref vW)) [.ref sp,.ref rw] σ Q:=by
 have few:=ok.few;have bp:∀p∈D.ps,p.1.length<=50:=λp hp=>(dR _ (ok.ps p hp).1).2.2.1;refine (G.fn (rfl:tab vW=some (.fn _ _ _ Ix)) (aq rfl) (aq rfl) ?_).toT;refine dQ (C:=λQ=>∀σ' l,Ch [] σ σ'->af σ' l (.dct (TB D))->Q (.ref l) σ') (λQ q=>Kw G ok rfl h1 λσ' l c J=>q _ _ c) λae t c1 hT=>?_;have h1:=h1.ch c1 am;have h2:=h2.ch c1 am;refine dQ (C:=λQ=>∀σ' l,Ch [] ae σ'->af σ' l (.lst ((D.ps.map λp=>nsRow p.1 p.2).map bw))->Q (.ref l) σ') (λQ q=>wW (vs:=(D.ps.map λp=>nsRow p.1 p.2).map bw) h1 rfl (by rw[ay,ay,ay]) (by rewrite[ay,ay];lia) (λk x w κ τ K hx hw fE c hK=>?_) λσ' l c J=>q _ _ c) λao a c2 hA=>?_
 ·rw[bt] at hx;rw[bt,bt] at hw;obtain ⟨p,ep,rfl⟩:=bW.mp hx;rw[ep] at hw;cases hw;obtain ⟨a,b,e,f,rfl⟩:=AQ fE;exact mZ (κ':=[a,some (.str p.1),some (.str p.2),f]) rfl ⟨rfl,⟨da (m:=10) (aq rfl) (bp p (cj ep)) rfl,hK _ rfl⟩⟩
 have h2:=h2.ch c2 am;have hT:=hT.ch c2 am;refine dQ (C:=λQ=>∀σ' l,Ch [] ao σ'->af σ' l (.lst ((LL D val).map bw))->Q (.ref l) σ') (λQ q=>wW (vs:=(D.as.map λx=>(D.key x,x.1.1,val x)).map bw) h2 rfl (by rw[ay,ay,ay]) (by rewrite[ay,ay];lia) (λk x w κ τ K hx hw fE c hK=>?_) λσ' l c J h=>⟨_,_,(hA.ch c am).eq,h.eq,by simp only[ay];erw[bH];lia,q _ _ (c.trans (Ch.new _ _)) ?_⟩) λaA l c3 hL=>?_
 ·rw[bt] at hx;rw[bt,bt] at hw;obtain ⟨x,ex,rfl⟩:=bW.mp hx;rw[ex] at hw;cases hw;have hm:=cj ex;obtain ⟨n1,n2,n3⟩:=ok.as x hm;have h:=BH _ n1;rw[bV,bV] at h;have e:=r9 _ n1;obtain ⟨a,b,e0,f,g,rfl⟩:=Tr fE
  ·refine mZ (κ':=[a,some (.str (pc x.1.2.1)),some (.str x.1.2.2),some (.str (val x)),g]) rfl ⟨rfl,rZ (hT.ch c am).eq ?_ (ok.tb_get n3)<| ⟨da (aq h.1.1) (aq h.1.2) rfl,?_⟩⟩
   ·refine ⟨.s,rfl,λp hp=>?_⟩;unfold TB at hp;rcases dH.mp hp with hp | hp
    ·obtain ⟨z,J,rfl⟩:=aL.mp hp;rfl
    ·rw[aF] at hp;erw[hp];rfl
   ·erw[aD e];exact hK _ rfl
 ·unfold LL;erw[bq];exact af.new _ _
 have n4:Ch [] aA (aA.new (.lst (S.map bw))):=Ch.new _ _;have bl:(LL D val).length<8:=by
  unfold LL;(erw[bR];rewrite[ay,ay]);(with_reducible assumption)
 exact bJ (λQ q=>(Js hL.eq bl (ok.ll_nd val) hp hs).builtin<| (kU (af.new _ _).eq).type<| q) (q _ (((c1.trans c2).trans c3).trans n4))
end
theorem Vk{α:Type}(key:α->K2)(L:List α)(nd:(L.map key).Nodup):∃S:List α,S.Perm L/\S.Pairwise λx y=>ltN (key x) (key y)=true:=by
 have hp:=List.mergeSort_perm L λa b=>!(ltN (key b) (key a));have hs:=List.pairwise_mergeSort (le:=λa b=>!(ltN (key b) (key a))) (λa b c h1 h2=>by
  simp only[qc] at h1 h2 ⊢;cases e:ltN (key c) (key a)
  ·rfl
  ·rcases ltN_tri (key a) (key b) with h | h | h
   ·rw[Bd e h] at h2;exact (eh h2)
   ·rw[<-h,e] at h2;exact (eh h2)
   ·rw[h] at h1;exact (eh h1)) (λa b=>by
  cases e:ltN (key b) (key a)
  ·rfl
  ·erw[Be e];rfl) L
 refine ⟨_,hp,?_⟩;have nd':((L.mergeSort λa b=>!(ltN (key b) (key a))).map key).Nodup:=(hp.map key).nodup_iff.mpr nd;unfold lP at nd';rw[jL] at nd';refine (List.Pairwise.and hs nd').imp λ{a b} h=>?_;rcases ltN_tri (key a) (key b) with h' | h' | h'
 ·exact h'
 ·exact absurd h' h.2
 ·have:=h.1;rw[h'] at this;exact (eh this)
noncomputable def look:List R3->K2->P2
 | [],J1=>([],[])
 | r::L,k=>if r.1=k then r.2 else look L k
theorem Vl{r:R3}{L:List R3}{k:K2}:look (r::L) k=if r.1=k then r.2 else look L k:=rfl
theorem wX{r:R3}:∀{L:List R3},(L.map (·.1)).Nodup->r∈L->look L r.1=r.2
 | q::L,h,hm=>by
  rw[bi,ee] at h;erw[Vl];rcases aV.mp hm with e | hm
  ·((erw[aD e];erw[if_pos rfl]);ac_rfl)
  ·rewrite[if_neg λe=>h.1 (aL.mpr ⟨_,hm,e.symm⟩)];exact wX h.2 hm
theorem Vm{L:List R3}(h:(L.map (·.1)).Nodup):rws (L.map (·.1)) (look L)=L:=by
 unfold rws;erw[cw];refine (p4 λr hr=>?_).trans (List.map_id L);refine (?_:(r.1,look L r.1)=r);(erw[wX h hr];ac_rfl)
noncomputable def aK.keys(D:aK):List K2:=(LL D λx=>x.2).map (·.1)
theorem BJ(D:aK)(val:A4->List Nat):(LL D val).map (·.1)=D.keys:=by
 unfold aK.keys LL;(erw[bq];erw[bq];erw[cw];erw[cw];erw[cw]);rfl
section
variable{D:aK}(ok:D.Ok)
include ok
theorem aK.Ok.sorted:∃K:List K2,K.Perm D.keys/\Ks K:=by
 have nd:D.keys.Nodup:=ok.ll_nd _;obtain ⟨K,hp,hs⟩:=Vk (λk:K2=>k) D.keys (by rewrite[List.map_id'];exact nd)
 refine ⟨K,hp,hp.nodup_iff.mpr nd,hs,?_⟩;erw[hp.length_eq];unfold aK.keys LL;have:=ok.few;(rewrite[ay];erw[bR];rewrite[ay,ay]);(with_reducible assumption)
theorem aK.Ok.perm{K:List K2}(hp:K.Perm D.keys)(val:A4->List Nat):(rws K (look (LL D val))).Perm (LL D val):=by
 have h:=hp.map λk=>(k,look (LL D val) k);have e:=Vm (ok.ll_nd val);rw[BJ] at e;unfold rws at e ⊢;rw[e] at h;exact h
omit ok in
theorem wY{K:List K2}(h:Ks K)(f:K2->P2):(rws K f).Pairwise λx y=>ltN x.1 y.1=true:=by
 unfold rws;rewrite[jL];exact h.lt
theorem aK.Ok.look_ns{val:A4->List Nat}{p:P2}(hp:p∈D.ps):look (LL D val) (iZ,p.1)=(nsRow p.1 p.2).2:=
 wX (r:=nsRow p.1 p.2) (ok.ll_nd val) (mM _ (aL.mpr ⟨p,hp,rfl⟩))
theorem aK.Ok.look_at{val:A4->List Nat}{x:A4}(hx:x∈D.as):look (LL D val) (D.key x)=(x.1.1,val x):=
 wX (r:=(D.key x,x.1.1,val x)) (ok.ll_nd val) (qj _ (aL.mpr ⟨x,hx,rfl⟩))
theorem aK.Ok.key_cases{K:List K2}(hp:K.Perm D.keys){k:K2}(hk:k∈K):(∃p∈D.ps,k=(iZ,p.1))\/∃x∈D.as,k=D.key x:=by
 have h:=hp.mem_iff.mp hk;unfold aK.keys LL at h;rw[bq,dH,cw,cw] at h;rcases h with h | h
 ·obtain ⟨p,hp,e⟩:=aL.mp h;exact .inl ⟨p,hp,e.symm⟩
 ·obtain ⟨p,hp,e⟩:=aL.mp h;exact .inr ⟨p,hp,e.symm⟩
theorem aK.Ok.txf{K:List K2}(hp:K.Perm D.keys){val:A4->List Nat}(hv:∀x∈D.as,Tx (val x)):dG K (look (LL D val)):=λk hk=>by
 rcases ok.key_cases hp hk with ⟨p,hp,rfl⟩ | ⟨x,hx,rfl⟩
 ·erw[ok.look_ns hp];have h:=Bw _ (ok.ps p hp).1;rw[bV] at h;exact ⟨tx_of h.1,jx _ (ok.ps p hp).2⟩
 ·erw[ok.look_at hx];exact ⟨(ly _ (ok.as x hx).1).1,hv x hx⟩
end
noncomputable def aK.row(D:aK):It->R3
 | .d p u=>nsRow p u
 | .a x=>(D.key x,x.1.1,x.2)
theorem aK.its_rows(D:aK):D.its.map D.row=LL D λx=>x.2:=by
 unfold aK.its LL;(erw[bq];erw[cw];erw[cw]);rfl
theorem Vn{α β:Type}{f:α->β}:∀{l:List α}{S:List β},S.Perm (l.map f)->∃m:List α,m.Perm l/\S=m.map f:=λ{l S} h=>by
 generalize e:l.map f=T at h
 induction h generalizing l with
 | nil=>exact ⟨[],by (erw[List.map_eq_nil_iff.mp e];ac_rfl),rfl⟩
 | cons x h ih=>
  obtain ⟨a,l',rfl,rfl,e'⟩:=L8.mp e;obtain ⟨m,h1,h2⟩:=ih e';exact ⟨a::m,h1.cons a,by erw[h2];rfl⟩
 | swap x y r=>
  obtain ⟨a,l',rfl,rfl,e'⟩:=L8.mp e;obtain ⟨b,l'',rfl,rfl,e''⟩:=L8.mp e';exact ⟨b::a::l'',.swap ..,by erw[aD e''];rfl⟩
 | trans h1 h2 ih1 ih2=>
  obtain ⟨m,g1,g2⟩:=ih2 e;obtain ⟨n,g3,g4⟩:=ih1 g2.symm;exact ⟨n,g3.trans g1,g4⟩
theorem Vo(a b:List aZ):eI (a++b)=eI a++eI b:=by
 induction a with
 | nil=>rfl
 | cons x a ih=>
  induction x using aZ.casesOn with
  | «at» n u l v=>exact congrArg (((u,l),n,v)::·) ih
  | ns p u=>exact ih
theorem Vp(a b:List aZ):gh (a++b)=gh a++gh b:=by
 induction a with
 | nil=>rfl
 | cons x a ih=>
  induction x using aZ.casesOn with
  | «at» n u l v=>exact ih
  | ns p u=>exact congrArg (nsRow p u::·) ih
theorem Vq(D:aK):rowsOf D.lv=(D.as.map λx=>(D.key x,x.1.1,x.2))++D.ps.map λp=>nsRow p.1 p.2:=by
 have h1:∀l:List P2,eI (l.map nz)=[]/\gh (l.map nz)=l.map λp=>nsRow p.1 p.2:=λl=>by
  induction l with
  | nil=>exact ⟨rfl,rfl⟩
  | cons x l ih=>exact ⟨ih.1,congrArg _ ih.2⟩
 have h2:∀l:List A4,gh (l.map D.atLf)=[]/\eI (l.map D.atLf)=l.map λx=>(D.key x,x.1.1,x.2):=λl=>by
  induction l with
  | nil=>exact ⟨rfl,rfl⟩
  | cons x l ih=>exact ⟨ih.1,congrArg _ ih.2⟩
 unfold rowsOf aK.lv;(rewrite[Vo,Vp];(erw[(h1 _).1];erw[(h1 _).2];erw[(h2 _).1];erw[(h2 _).2]);rw[dB,CS])
theorem aK.Ok.srt{D:aK}(ok:D.Ok){K:List K2}(hp:K.Perm D.keys)(hK:Ks K):nw (rws K (look (LL D λx=>x.2))) (rowsOf D.lv):=by
 have h1:(LL D λx=>x.2).Perm (rowsOf D.lv):=by rewrite[Vq];exact List.perm_append_comm
 have h2:=ok.perm hp λx=>x.2;refine ⟨h2.trans h1,wY hK _,(h1.map _).nodup_iff.mp (ok.ll_nd _),?_⟩;erw[aD ((h2.trans h1).length_eq)];unfold rws;rewrite[ay];exact hK.few
noncomputable def docOf(m:List It):aK:=⟨m.filterMap It.dP,m.filterMap It.aP⟩
section
variable{D:aK}(ok:D.Ok){m:List It}(hm:m.Perm D.its)
include ok hm
theorem aK.Ok.dP':(docOf m).ps.Perm D.ps:=by have:=hm.filterMap It.dP;rwa [D.dP] at this
theorem aK.Ok.aP':(docOf m).as.Perm D.as:=by have:=hm.filterMap It.aP;rwa [D.aP] at this
theorem aK.Ok.key'{x:A4}(hx:x∈D.as):(docOf m).key x=D.key x:=by
 have hps:=ok.dP' hm;have e:uri (docOf m).ps x.1.2.1=uri D.ps x.1.2.1:=by
  have nd:((docOf m).ps.map (·.1)).Nodup:=(hps.map _).nodup_iff.mpr ok.n1
  rcases (ok.as x hx).2.2 with h | h
  ·(erw[h];erw[ok.uri0]);refine Bv λh=>ok.no0 ((hps.map _).mem_iff.mp h)
  ·obtain ⟨w,hw,e⟩:=aL.mp h
   ((erw[aD e];erw[mw (u:=w.2) ok.n1 hw];erw[mw (u:=w.2) nd (hps.mem_iff.mpr hw)]);ac_rfl)
 exact iK e rfl
theorem aK.Ok.ok':(docOf m).Ok:=by
 have hps:=ok.dP' hm;have has:=ok.aP' hm;refine ⟨by (erw[hps.length_eq];erw[has.length_eq]);exact ok.few,λp hp=>ok.ps p (hps.mem_iff.mp hp),λx hx=>?_,(hps.map _).nodup_iff.mpr ok.n1,(hps.map _).nodup_iff.mpr ok.n2,(has.map _).nodup_iff.mpr ok.na⟩
 obtain ⟨a,b,c⟩:=ok.as x (has.mem_iff.mp hx);exact ⟨a,b,c.imp id λh=>(hps.map _).mem_iff.mpr h⟩
theorem aK.Ok.keys'{K:List K2}(hp:K.Perm D.keys):K.Perm (docOf m).keys:=by
 have h:(LL (docOf m) λx=>x.2).Perm (LL D λx=>x.2):=by
  unfold LL;refine List.Perm.append ((ok.dP' hm).map _) (((ok.aP' hm).map _).trans (List.Perm.of_eq (p4 λx hx=>?_)));(erw[ok.key' hm hx];ac_rfl)
 exact hp.trans (h.map _).symm
theorem aK.Ok.look'{K:List K2}(hp:K.Perm D.keys):rws K (look (LL (docOf m) λx=>x.2))=rws K (look (LL D λx=>x.2)):=by
 refine p4 λk hk=>?_;have ok2:=ok.ok' hm;rcases ok.key_cases hp hk with ⟨p,hp,rfl⟩ | ⟨x,hx,rfl⟩
 ·((erw[ok.look_ns hp];erw[ok2.look_ns ((ok.dP' hm).mem_iff.mpr hp)]);ac_rfl)
 ·((erw[ok.look_at hx];erw[aD (ok.key' hm hx)];erw[ok2.look_at ((ok.aP' hm).mem_iff.mpr hx)]);ac_rfl)
end
section
variable{D:aK}(ok:D.Ok)
include ok
theorem aK.Ok.key_ns{x:A4}(hx:x∈D.as):(D.key x).1≠iZ:=λe=>by
 have e:uri D.ps x.1.2.1=iZ:=e;rcases (ok.as x hx).2.2 with h | h
 ·rw[h,ok.uri0] at e;cases e
 ·have:=ok.uriU h;rw[e] at this;exact absurd this (by decide)
theorem aK.Ok.leaf_d(p u:List Nat):leafOf (D.row (.d p u))= .ns p u:=if_pos rfl
theorem aK.Ok.leaf_a{x:A4}(hx:x∈D.as):leafOf (D.row (.a x))=D.atLf x:=if_neg (ok.key_ns hx)
variable{m:List It}(hm:∀x∈m,x∈D.its)
include hm
theorem aK.Ok.lv_ns:nsP (m.map λx=>leafOf (D.row x))=m.filterMap It.dP:=by
 induction m with
 | nil=>rfl
 | cons x m ih=>
  have ih:=ih λy hy=>hm y (.tail _ hy);cases x with
  | d p u=>(erw[bi];rewrite[ok.leaf_d]);exact congrArg _ ih
  | a x=>(erw[bi];erw[ok.leaf_a (D.its_a (hm _ (.head _)))]);exact ih
theorem aK.Ok.lv_at:atP (m.map λx=>leafOf (D.row x))=(m.filterMap It.aP).map dS:=by
 unfold atP
 induction m with
 | nil=>rfl
 | cons x m ih=>
  have ih:=ih λy hy=>hm y (.tail _ hy);cases x with
  | d p u=>(erw[bi];rewrite[ok.leaf_d]);exact ih
  | a x=>(erw[bi];erw[ok.leaf_a (D.its_a (hm _ (.head _)))]);exact congrArg _ ih
theorem aK.Ok.tag:i5 (m.map λx=>leafOf (D.row x))=bB (docOf m).items:=by
 unfold i5 bB;(erw[ok.lv_ns hm];erw[ok.lv_at hm];erw[(docOf m).items_text]);simp only[fU];rfl
end
section
variable{D:aK}(ok:D.Ok){m:List It}(hp:m.Perm D.its)
include ok hp
theorem aK.Ok.lvok:pC (m.map λx=>leafOf (D.row x)):=by
 have hm:∀x∈m,x∈D.its:=λx hx=>hp.mem_iff.mp hx;have hns:∀{p u},aZ.ns p u∈(m.map λx=>leafOf (D.row x))↔(p,u)∈D.ps:=λ{p u}=>by
  (rewrite[<-lx];erw[ok.lv_ns hm]);exact (ok.dP' hp).mem_iff
 refine ⟨λn u l v h=>?_,λp u h=>ok.ps _ (hns.mp h),?_⟩
 ·obtain ⟨x,hx,e⟩:=aL.mp h;cases x with
  | d p u=>rw[ok.leaf_d] at e;exact (aZ.noConfusion e)
  | a x=>
   have hx:=D.its_a (hm _ hx);rw[ok.leaf_a hx] at e;injection e with e1 e2 e3 e4;obtain ⟨a,b,c⟩:=ok.as x hx;refine ⟨e4▸b,x.1.2.1,by (erw[aD e1];erw[aD e3]);exact a,?_⟩
   by_cases h0:x.1.2.1=[]
   ·exact .inl ⟨h0,by erw[aD e2];refine (?_:uri D.ps x.1.2.1=_);((erw[h0];erw[ok.uri0]);ac_rfl)⟩
   ·obtain ⟨w,hw,ew⟩:=aL.mp (c.resolve_left h0);refine .inr ⟨h0,hns.mpr ?_⟩;erw[aD e2];refine (?_:(x.1.2.1,uri D.ps x.1.2.1)∈D.ps);(erw[aD ew];erw[mw (u:=w.2) ok.n1 hw]);exact hw
 ·erw[ok.lv_ns hm];exact ((ok.dP' hp).map _).nodup_iff.mpr ok.n1
theorem aK.Ok.rowOk:∀r∈m.map D.row,Bi r:=λr hr=>by
 obtain ⟨x,hx,rfl⟩:=aL.mp hr;have hx:=hp.mem_iff.mp hx;cases x with
 | d p u=>
  obtain ⟨a,b⟩:=ok.ps _ (D.its_d hx);have h:=Bw _ a;rw[bV] at h;have pf:=dR _ a;exact ⟨tx_of rfl,pf.1,tx_of h.1,jx _ b,λJ=>⟨pf.2.1,pf.2.2.1⟩⟩
 | a x=>
  have hx:=D.its_a hx;obtain ⟨a,b,c⟩:=ok.as x hx;have tn:=ly _ a;have tu:Tx (D.key x).1:=by
   refine (?_:Tx (uri D.ps x.1.2.1));rcases c with h | h
   ·(erw[h];erw[ok.uri0]);exact tx_of rfl
   ·exact jx _ (ok.uriU h)
  exact ⟨tu,tn.2.2,tn.1,tx_of (rY _ b),λe=>absurd e (ok.key_ns hx)⟩
end
noncomputable def rD(r:R3):PyData:= .tuple [.tuple [.str (st r.1.1),.str (st r.1.2)],.str (st r.2.1),.str (st r.2.2)]
noncomputable def fD(S:List R3):PyData:= .tuple [.str (st iz),.str (st []),.str (st []),.tuple [],.tuple [.tuple [.str (st fQ),.tuple [.str (st de),.str (st []),.str (st de)],.str (st []),.tuple (S.map rD),.tuple []]]]
theorem Kx(σ:AH)(n:Nat):∀S:List R3,(S.map bw).mapM (fz σ (n+3))=some (S.map rD)
 | []=>rfl
 | r::S=>by
  (erw[bi];erw[nZ];erw[Kx σ n S]);rfl
theorem BK(σ:AH)(n:Nat)(S:List R3):fz σ (n+7) (a8 S)=some (fD S):=by
 have h:=Kx σ n S;have h1:fz σ (n+4) (.tup (S.map bw))=some (.tuple (S.map rD)):=by
  refine (?_:((S.map bw).mapM (fz σ (n+3))).map n8=_);erw[h];rfl
 have h2:fz σ (n+5) (bL S)=some (.tuple [.str (st fQ),.tuple [.str (st de),.str (st []),.str (st de)],.str (st []),.tuple (S.map rD),.tuple []]):=by
  refine (?_:([AV.str fQ,.tup [.str de,.str [],.str de],.str [],.tup (S.map bw),.tup []].mapM (fz σ (n+4))).map n8=_);simp only[nZ,h1];rfl
 refine (?_:([AV.str iz,.str [],.str [],.tup [],.tup [bL S]].mapM (fz σ (n+6))).map n8=_);have h3:fz σ (n+6) (.tup [bL S])=some (.tuple [.tuple [.str (st fQ),.tuple [.str (st de),.str (st []),.str (st de)],.str (st []),.tuple (S.map rD),.tuple []]]):=by
  refine (?_:([bL S].mapM (fz σ (n+5))).map n8=_);simp only[nZ,h2];rfl
 simp only[nZ,h3];rfl
theorem eq_data{σ:AH}{n:Nat}{x y:AV}{p:PyData}(hx:fz σ n x=some p)(hy:fz σ n y=some p)(h1:p.canLay0=true)(h2:p.depth<=64):jP σ x y true:= .inr ⟨n,p,p,hx,hy,h1,h1,h2,h2,(SeqAt.eqv_refl p h1).symm⟩
def nI(r:R3):Prop:=Tx r.1.1/\Tx r.1.2/\Tx r.2.1/\Tx r.2.2
theorem Ky:∀{S:List R3},(∀r∈S,nI r)->mN (S.map rD)=true/\ji (S.map rD)<=2
 | [],J1=>⟨rfl,by simp[ji]⟩
 | r::S,h=>by
  have h1:=h r (.head _);have h2:=Ky λq hq=>h q (.tail _ hq)
  constructor
  ·erw[bi];unfold mN;(erw[h2.1];rewrite[jJ]);simp only[rD,iJ,mN,jJ,bV];exact ⟨⟨h1.1.ok,h1.2.1.ok⟩,h1.2.2.1.ok,h1.2.2.2.ok⟩
  ·erw[bi];have:(rD r).depth<=2:=by simp[rD,gR,ji]
   unfold ji;lia
theorem Kz{S:List R3}(h:∀r∈S,nI r):(fD S).canLay0=true/\(fD S).depth<=10:=by
 have h1:=Ky h;have tx:=λs=>(tx_of:ll s=true->Tx s)
 constructor
 ·simp only[fD,iJ,mN,jJ,bV,h1.1];have a:=(tx iz rfl).ok;have b:=(tx [] rfl).ok;have c:=(tx fQ rfl).ok;have d:=(tx de rfl).ok;simp only[iJ] at a b c d;simp[a,b,c,d]
 ·have h2:=h1.2;simp only[fD,gR,ji]
  revert h2
  generalize ji _=n
  revert n
  decide
theorem BL{σ:AH}{S:List R3}(h:∀r∈S,nI r):jP σ (a8 S) (a8 S) true:=by
 have:=Kz h;exact eq_data (BK σ 0 S) (BK σ 0 S) this.1 (by lia)
theorem my{σ:AH}{S:List R3}{l:Nat}(hl:af σ l (.lst [])):fz σ 8 (.tup [a8 S,.ref l])=some (.tuple [fD S,.list []]):=by
 have h1:fz σ 7 (.ref l)=some (.list []):=by
  refine (?_:(match σ.m l with | some (.lst xs)=>(xs.mapM (fz σ 6)).map n9 | _=>none)=_)
  erw[hl.eq];rfl
 refine (?_:([a8 S,.ref l].mapM (fz σ 7)).map n8=_);simp only[nZ,BK σ 0 S,h1];rfl
theorem KA{S:List R3}(h:∀r∈S,nI r):(n8 [fD S,.list []]).canLay0=true/\(n8 [fD S,.list []]).depth<=20:=by
 have:=Kz h
 constructor
 ·simp only[iJ,mN,this.1];rfl
 ·simp only[gR,ji];lia
theorem Vr{σ:AH}{S:List R3}{l m:Nat}(h:∀r∈S,nI r)(hl:af σ l (.lst []))(hm:af σ m (.lst [])):jP σ (.tup [a8 S,.ref l]) (.tup [a8 S,.ref m]) true:=by
 have:=KA h;exact eq_data (my hl) (my hm) this.1 (by lia)
theorem KB{P:PW}{S:aN}{d:Nat}{ρ:ac}{σ:AH}{Q:Fl->ac->AH->Prop}{r b:au}{t:AE}{R:AH->Prop}(h:∀K:Bool->AH->Prop,(∀σ',R σ'->K false σ')->wT P S d t (wE P S d t ρ [] σ) ρ [] σ K)(q:∀σ',R σ'->aM P S d r ρ σ' Q):aM P S d (.cons (.cond t b .nil) r) ρ σ Q:=h _ q
section
variable{P:PW}{S:aN}{d:Nat}{ρ κ:ac}{σ:AH}{Q:AV->AH->Prop}
theorem KC{e e2:AE}{es:AL}(h:wE P S d e ρ κ σ λv ae=>jO v λt=>match true,t with
  | true,true=>wB P S d true (.cons e2 es) ρ κ ae Q
  | false,false=>wB P S d true (.cons e2 es) ρ κ ae Q
  | J1,J2=>Q v ae):wE P S d (.and (.cons e (.cons e2 es))) ρ κ σ Q:=h
theorem KE{e:AE}(h:wE P S d e ρ κ σ Q):wB P S d true (.cons e .nil) ρ κ σ Q:=h
end
section
variable{P:PW}{σ:AH}{Q:AV->AH->Prop}(G:Gd P)
include G
theorem Vs(q:Q (.ref σ.next) (σ.adds [dF (σ.next+1),.lst []])):T P 3 (.con (.ref j3)) [] σ Q:=by
 have h:=wm G (n:=3) (f:= .con (.ref j3)) (args:=[]) (sc:=[]) (R:=λv H=>v= .ref 0/\H=[dF 1,.lst []]) rfl rfl (by
   have e:(dL P S0 tab 300 3 (.con (.ref j3)) [] [] [] λv H J=>v= .ref 0/\H=[dF 1,.lst []])=(AV.ref 0= .ref 0/\[dF 1,AO.lst []]=[dF 1,.lst []]):=by kernel_rfl
   erw[e];exact ⟨rfl,rfl⟩) σ
 refine h.mono λv σ' z_3=>?_;obtain ⟨v',H,⟨e2,e3⟩,e4,e5⟩:=z_3;subst e2 e3 e4 e5;exact q
omit G in
theorem KF{D:aK}(ok:D.Ok):∀{m:List It},(∀x∈m,x∈D.its)->(m.map D.row).Perm (rowsOf (m.map λx=>leafOf (D.row x)))
 | [],J1=> .nil
 | x::m,h=>by
  have ih:=KF ok λy hy=>h y (.tail _ hy);unfold rowsOf at ih ⊢;cases x with
  | d p u=>
   ((erw[bi];erw[bi]);rewrite[ok.leaf_d])
   exact (ih.cons _).trans List.perm_middle.symm
  | a x=>
   (erw[bi];erw[bi];erw[ok.leaf_a (D.its_a (h _ (.head _)))]);exact ih.cons _
theorem KG{D:aK}(ok:D.Ok){sp rw:Nat}(h1:af σ sp (.lst (D.ps.map aX)))(h2:af σ rw (.lst (D.as.map cR)))(q:∀σ',Ch [] σ σ'->Q (.bool true) σ'):T P 17 (.con (.ref vY)) [.ref sp,.ref rw] σ Q:=by
 obtain ⟨K,hp,hK⟩:=ok.sorted;obtain ⟨m,hm,em⟩:=Vn (f:=D.row) (l:=D.its) (S:=rws K (look (LL D λx=>x.2))) (by erw[D.its_rows];exact ok.perm hp λx=>x.2)
 have hm':∀x∈m,x∈D.its:=λx hx=>hm.mem_iff.mp hx;have tF:dG K (look (LL D λx=>x.2)):=ok.txf hp λx hx=>tx_of (rY _ (ok.as x hx).2.1);have hs:=ok.srt hp hK;have hpm:=ok.perm hp λx=>x.2;have rok:=ok.rowOk hm;have lvk:=ok.lvok hm;have tagE:=ok.tag hm';have rp:=KF ok hm';have elv:m.map (λx=>leafOf (D.row x))=(m.map D.row).map leafOf:=by erw[cw];rfl
 have ok2:=ok.ok' hm;have hs2:nw (rws K (look (LL D λx=>x.2))) (rowsOf (docOf m).lv):=by
  erw[aD (ok.look' hm hp)];exact ok2.srt (ok.keys' hm hp) hK
 have same:ds (look (LL D λx=>x.2)) (look (LL D λx=>x.2)) (look (LL D λx=>x.2))=look (LL D λx=>x.2):=funext λk=>if_pos rfl;have u0:=BG K (look (LL D λx=>x.2));generalize look (LL D λx=>x.2)=f at*;rw[<-em] at rok elv rp;have nd:((rws K f).map (·.1)).Nodup:=by unfold rws;erw[cw];exact (List.map_id' K).symm▸hK.nd
 have few:(rws K f).length<8:=by unfold rws;rewrite[ay];exact hK.few
 have rtx:∀r∈rws K f,nI r:=λr hr=>by have:=rok r hr;exact ⟨this.1,this.2.1,this.2.2.1,this.2.2.2.1⟩
 have hlw:low 0 (a8 (rws K f))=true:=(fb _).2.1 0;refine (G.fn (rfl:tab vY=some (.fn _ _ _ Iz)) (aq rfl) (aq rfl) ?_).toT;refine mj (R:=λv σ'=>v=a8 (rws K f)/\Ch [] σ σ') (λQ q=>T.le (Vi G ok h1 h2 λσ' c=>Ke G ok hs (fb _).2.2 hlw<| q _ _ ⟨rfl,c⟩) (by decide)) λv ae z_4=>?_
 obtain ⟨ev,c1⟩:=z_4;subst ev;refine KB (R:=λσ'=>Ch [] σ σ') (λK' q=>T.le (BI G ok (λx=>x.2) (h1.ch c1 am) (h2.ch c1 am) hpm (wY hK f) λao c2=>⟨true,BL rtx,?_⟩) (by decide)) λao c2=>?_
 ·have u0':(cQ K f f).length=false.toNat:=by erw[u0];rfl
  refine wV G hK tF tF tF (λJ J=> .inl rfl) (a:=false) (b:=false) u0' u0' ?_;erw[same];have n2:=(c1.trans c2).trans ((Ch.new (F:=[]) ao (.lst [])).trans (Ch.new (ao.new (.lst [])) (.lst [])));refine ⟨true,Vr rtx ((af.new ao (.lst [])).ch (Ch.new (F:=[]) _ _) am) (af.new (ao.new (.lst [])) _),?_⟩;exact T.le (Vf G hK tF<| ge (af.new _ _) false rfl (q _ ((n2.trans (Ch.new _ _)).trans (Ch.new _ _)))) (by decide)
 clear c1;refine bj (λQ q=>T.le (Vs G q) (by decide)) ?_
 have n3:Ch [] ao (ao.adds [dF (ao.next+1),.lst []]):=Ch.adds _ _;have ht:=af.adds ao (os:=[dF (ao.next+1),.lst []]) (i:=0) rfl;have hL:=af.adds ao (os:=[dF (ao.next+1),.lst []]) (i:=1) rfl;have c3:=c2.trans n3;have gL:σ.next<=ao.next:=c2.le;generalize ao.adds [dF (ao.next+1),.lst []]=aA at c3 ht hL ⊢;clear n3;have net:ao.next+0∉[ao.next+1]:=by simp
 have lL:=hL.lt;refine mj (R:=λv σ'=>v= .int 0/\T0 σ' (ao.next+0) (ao.next+1) aA.next (aA.next+1)/\Ch [] σ σ') (λQ q=>a9 ht.eq rfl rfl<| T.le (Jb G (rows:=[]) ht hL (by decide) λσ' N=>q _ _ ⟨rfl,⟨ht.ch N.ch net,N.rows,N.row,N.l1,by lia⟩,c3.drop N.ch λx hx=>by rw[aF] at hx;exact .inr (by lia)⟩) (by decide)) λv aW z_5=>?_
 obtain ⟨ev,H4,c4⟩:=z_5;subst ev;have g3:=c3.le;refine IZ (R:=λv σ'=>(∃rs r1 c1,TA σ' ⟨ao.next+0,ao.next+1,aA.next,aA.next+1,r1,c1⟩ rs ((rws K f).map leafOf))/\Ch [] σ σ') (λQ q=>T.le (TZ G H4 (λr hr=>rok r hr) nd (by (with_reducible exact bX ‹_› (by decide))) λσ' rs r1 c1 hT c=>q _ _ ⟨⟨_,_,_,hT⟩,c4.drop c λx hx=>?_⟩) (by decide)) λv ct z_2=>?_
 ·rcases aV.mp hx with e | hx
  ·exact .inr (by lia)
  ·rw[aF] at hx;exact .inr (by lia)
 obtain ⟨⟨rs,r1,c1,hT⟩,c5⟩:=z_2;rw[<-elv] at hT;have hs':nw (rws K f) (rowsOf (m.map λx=>leafOf (D.row x))):=⟨rp,hs.lt,(rp.map _).nodup_iff.mp nd,by erw[aD rp.length_eq];exact few⟩
 refine no (R:=λv σ'=>v= .bool true/\Ch [] σ σ') (λQ q=>?_) λv σ' z1=>by obtain ⟨ev,c⟩:=z1;subst ev;exact q _ c
 refine KC<| T.le (Jx G hT hs' λdT c6=>⟨true,BL rtx,?_⟩) (by decide)
 refine KE<| T.le (Ub G (hT.ch0 c6) lvk λgi c7=>?_) (by decide)
 erw[tagE];exact T.le (Ke G ok2 hs2 (fb _).2.2 hlw<| ⟨true,BL rtx,q _ _ ⟨rfl,(c5.trans c6).trans c7⟩⟩) (by decide)
end
theorem KH:∀v∈VT,ll (v++[57])=true:=by decide+kernel
theorem Vt{α:Type}{X:List α}{n:Nat}(h:n<1000):cut X .none (.int n) .none=some (X.take n):=by
 rfl
theorem Vu{α:Type}{X:List α}{n:Nat}(h:n<1000):cut X (.int n) .none .none=some (X.drop n):=by
 refine (?_:some ((X.take X.length).drop n)=_);(erw[ez];ac_rfl)
noncomputable def chg(x:A4)(z:A4):List Nat:=if z=x then z.2++[57] else z.2
theorem KI{α:Type}{p:α->Bool}{a:α}:∀{l:List α},l.Nodup->a∈l->(∀x∈l,p x=true↔x=a)->l.filter p=[a]
 | x::l,nd,hm,h=>by
  rw[ee] at nd;by_cases e:x=a
  ·subst e;(erw[CP ((h x (.head _)).mpr rfl)];rw[CH.mpr λy hy hp=>nd.1 ((h y (.tail _ hy)).mp hp▸hy)])
  ·rewrite[qi λhp=>e ((h x (.head _)).mp hp)];exact KI nd.2 ((aV.mp hm).resolve_left λh=>e h.symm) λy hy=>h y (.tail _ hy)
theorem KJ{α β:Type}{f:α->β}{a b:α}:∀{l:List α},(l.map f).Nodup->a∈l->b∈l->f a=f b->a=b
 | y::r,nd,h1,h2,h=>by
  rw[bi,ee] at nd;rcases aV.mp h1 with h1 | h1<;>rcases aV.mp h2 with h2 | h2
  ·((erw[h1];erw[h2]);ac_rfl)
  ·exact absurd (aL.mpr ⟨b,h2,by ((erw[aD h];erw[h1]);ac_rfl)⟩) nd.1
  ·exact absurd (aL.mpr ⟨a,h1,by ((erw[h];erw[h2]);ac_rfl)⟩) nd.1
  ·exact KJ nd.2 h1 h2 h
section
variable{D:aK}(ok:D.Ok){x:A4}(hx:x∈D.as)
include ok hx
theorem aK.Ok.chg_f{K:List K2}(hp:K.Perm D.keys){k:K2}(hk:k∈K):look (LL D λz=>z.2) k≠look (LL D (chg x)) k↔k=D.key x:=by
 rcases ok.key_cases hp hk with ⟨p,hp,rfl⟩ | ⟨z,hz,rfl⟩
 ·(erw[ok.look_ns hp];erw[ok.look_ns hp]);exact ⟨λh=>absurd rfl h,λh=>absurd (congrArg Prod.fst h).symm (ok.key_ns hx)⟩
 ·(erw[ok.look_at hz];erw[ok.look_at hz]);unfold chg;by_cases e:z=x
  ·subst e;erw[if_pos rfl];exact ⟨λJ=>rfl,λJ h=>by have:=congrArg (λq:P2=>q.2.length) h;simp at this⟩
  ·erw[if_neg e];exact ⟨λh=>absurd rfl h,λh=>absurd (KJ ok.keys hz hx h) e⟩
theorem aK.Ok.chg_unl{K:List K2}(hp:K.Perm D.keys)(hK:Ks K):cQ K (look (LL D λz=>z.2)) (look (LL D (chg x)))=[bw (D.key x,x.1.1,x.2++[57])]:=by
 have hm:D.key x∈K:=hp.mem_iff.mpr (by erw[aD (BJ D λz=>z.2)];exact aL.mpr ⟨_,qj _ (aL.mpr ⟨x,hx,rfl⟩),rfl⟩)
 unfold cQ;erw[KI hK.nd hm λk hk=>by rewrite[decide_eq_true_iff];exact ok.chg_f hx hp hk]
 refine (?_:[bw (D.key x,look (LL D (chg x)) (D.key x))]=_);erw[ok.look_at hx];unfold chg;(erw[if_pos rfl];ac_rfl)
omit hx in
theorem aK.Ok.later{i:Nat}(e:D.as[i]? =some x):(D.as.map cR).take i++[cR (x.1,x.2++[57])]++(D.as.map cR).drop (i+1)=D.as.map λz=>cR (z.1,chg x z):=by
 obtain ⟨bD,er⟩:=bP.mp e;have e2:D.as=D.as.take i++x::D.as.drop (i+1):=by (erw[aD er];rw[sW,kE])
 have nd:D.as.Nodup:=by
  have:=ok.na;unfold lP at this ⊢;rw[jL] at this;exact this.imp λh e=>h (by (erw[e];ac_rfl))
 have h:∀z∈D.as.take i++D.as.drop (i+1),z≠x:=λz hz e=>by
  rw[e2,eL,ee] at nd;rcases dH.mp hz with h | h
  ·exact nd.2.2 z h x (.head _) e
  ·exact nd.2.1.1 (e▸h)
 have h1:∀l:List A4,(∀z∈l,z≠x)->l.map cR=l.map λz=>cR (z.1,chg x z):=λl hl=>p4 λz hz=>by
  unfold chg;(erw[if_neg (hl z hz)];ac_rfl)
 (erw[aD List.map_take];erw[aD List.map_drop];erw[h1 _ λz hz=>h z (mM _ hz)];erw[h1 _ λz hz=>h z (qj _ hz)])
 conv=>rhs;rw[e2]
 ((erw[bq];erw[bi]);rewrite[fU])
 unfold chg;erw[if_pos rfl];rfl
end
theorem KK{σ:AH}{l n:Nat}{x:AV}{p:PyData}(h:af σ l (.lst [x]))(hx:fz σ n x=some p):fz σ (n+1) (.ref l)=some (.list [p]):=by
 refine (?_:(match σ.m l with | some (.lst xs)=>(xs.mapM (fz σ n)).map n9 | _=>none)=_)
 erw[h.eq];simp only[nZ,hx];rfl
theorem KL{σ:AH}{l n:Nat}{x y z:AV}{p:PyData}(h:af σ l (.lst [x,y,z]))(hx:fz σ n x=some p)(hy:fz σ n y=some p)(hz:fz σ n z=some p):fz σ (n+1) (.ref l)=some (.list [p,p,p]):=by
 refine (?_:(match σ.m l with | some (.lst xs)=>(xs.mapM (fz σ n)).map n9 | _=>none)=_)
 erw[h.eq];simp only[nZ,hx,hy,hz];rfl
noncomputable abbrev wZ(k:K2)(a b:List Nat):AV:= .tup [.str [97,116,116,114,105,98,117,116,101],.tup [.int 0],aJ k,.str a,.str b]
theorem Vv{σ:AH}{l m:Nat}{k:K2}{a b:List Nat}(h:Tx k.1/\Tx k.2/\Tx a/\Tx b)(hl:af σ l (.lst [wZ k a b]))(hm:af σ m (.lst [wZ k a b])):jP σ (.ref l) (.ref m) true:=by
 have e:fz σ 3 (wZ k a b)=some (.tuple [.str (st [97,116,116,114,105,98,117,116,101]),.tuple [.int 0],.tuple [.str (st k.1),.str (st k.2)],.str (st a),.str (st b)]):=rfl;refine eq_data (KK hl e) (KK hm e) ?_ ?_
 ·have t:=(tx_of (rfl:ll [97,116,116,114,105,98,117,116,101]=true)).ok;simp only[iJ,mN,jJ,Bool.true_and,bV];exact ⟨t,⟨h.1.ok,h.2.1.ok⟩,h.2.2.1.ok,h.2.2.2.ok⟩
 ·simp[gR,ji]
theorem Vw{p:PyData}(h:p.canLay0=true/\p.depth<=20):(n9 [p,p,p]).canLay0=true/\(n9 [p,p,p]).depth<=64:=by
 constructor
 ·simp only[iJ,mN,h.1,Bool.and_self]
 ·simp only[gR,ji];exact ck (pX (Nat.max_le.mpr ⟨h.2,Nat.max_le.mpr ⟨h.2,Nat.max_le.mpr ⟨h.2,du _⟩⟩⟩)) (aq rfl)
section
variable{P:PW}{σ:AH}{Q:AV->AH->Prop}(G:Gd P)
include G
set_option maxHeartbeats 1000000 in
theorem KM{D:aK}(ok:D.Ok){sp rw i:Nat}{x:A4}(hi:D.as[i]? =some x)(h1:af σ sp (.lst (D.ps.map aX)))(h2:af σ rw (.lst (D.as.map cR)))(q:∀σ',Ch [] σ σ'->Q (.bool true) σ'):T P 17 (.con (.ref vZ)) [.ref sp,.ref rw,.int i] σ Q:=by
 have hx:=cj hi;have bD:=(bP.mp hi).1;have few:=ok.few;obtain ⟨K,hp,hK⟩:=ok.sorted;have tF:dG K (look (LL D λx=>x.2)):=ok.txf hp λx hx=>tx_of (rY _ (ok.as x hx).2.1);have tG:dG K (look (LL D (chg x))):=ok.txf hp λz hz=>by
  unfold chg
  split
  ·exact tx_of (KH _ (ok.as z hz).2.1)
  ·exact tx_of (rY _ (ok.as z hz).2.1)
 have tK:∀k∈K,Tx k.1/\Tx k.2:=λk hk=>by
  rcases ok.key_cases hp hk with ⟨p,hp,rfl⟩ | ⟨z,hz,rfl⟩
  ·exact ⟨tx_of rfl,(dR _ (ok.ps p hp).1).1⟩
  ·refine ⟨?_,(ly _ (ok.as z hz).1).2.2⟩;refine (?_:Tx (uri D.ps z.1.2.1));rcases (ok.as z hz).2.2 with h | h
   ·(erw[h];erw[ok.uri0]);exact tx_of rfl
   ·exact jx _ (ok.uriU h)
 have hk0:D.key x∈K:=hp.mem_iff.mpr (by erw[aD (BJ D λz=>z.2)];exact aL.mpr ⟨_,qj _ (aL.mpr ⟨x,hx,rfl⟩),rfl⟩)
 have u1:=ok.chg_unl hx hp hK;have pf:=ok.perm hp λx=>x.2;have pg:=ok.perm hp (chg x);have lat:=ok.later hi;obtain ⟨xa,xb,xc⟩:=ok.as x hx;have tx9:Tx (x.2++[57]):=tx_of (KH _ xb);have tn:=ly _ xa;have epc:=r9 _ xa;have hpl:=BH _ xa;rw[bV,bV] at hpl;generalize look (LL D λx=>x.2)=f at*;generalize look (LL D (chg x))=g at*;have rtx:∀r∈rws K g,nI r:=λr hr=>by
  obtain ⟨k,hk,rfl⟩:=aL.mp hr;exact ⟨(tK k hk).1,(tK k hk).2,(tG k hk).1,(tG k hk).2⟩
 have m1:ds f g f=g:=funext λk=>by
  unfold ds;by_cases h:g k=f k
  ·((erw[if_pos h];erw[h]);ac_rfl)
  ·(erw[if_neg h];ac_rfl)
 have m2:ds f f g=g:=funext λk=>if_pos rfl;have m3:ds f g g=g:=funext λk=>by
  unfold ds;by_cases h:g k=f k
  ·(erw[if_pos h];ac_rfl)
  ·(erw[if_neg h];ac_rfl)
 have e1:(cQ K f g).length=true.toNat:=by erw[u1];rfl
 have e0:(cQ K f f).length=false.toNat:=by rewrite[BG];rfl
 refine (G.fn (rfl:tab vZ=some (.fn _ _ _ IA)) (aq rfl) (aq rfl) ?_).toT;refine gA (λQ q=>li (i:=i) (x:=cR x) h2.eq (by (erw[bt];erw[hi]);rfl) q) rfl ?_
 refine mj (R:=λv σ'=>∃l,v= .ref l/\Ch [] σ σ'/\af σ' l (.lst (D.as.map λz=>cR (z.1,chg x z)))) (λQ q=>?_) λv ae z_3=>?_
 ·have n1:Ch [] σ (σ.new (.lst ((D.as.map cR).take i))):=Ch.new _ _;have n2:=n1.trans (Ch.new _ (.lst [cR (x.1,x.2++[57])]));refine ⟨_,_,h2.eq,Vt (by lia),⟨da (Bn _ (mM _ xb)) (n:=10) (aq rfl) rfl,?_⟩⟩
  have a1:=(af.new σ (.lst ((D.as.map cR).take i))).ch (Ch.new (F:=[]) _ (.lst [cR (x.1,x.2++[57])])) am;have a2:=af.new (σ.new (.lst ((D.as.map cR).take i))) (.lst [cR (x.1,x.2++[57])]);refine ⟨_,_,a1.eq,a2.eq,by (erw[lO];rewrite[ay];erw[bH]);simp;lia,?_⟩
  have n3:=n2.trans (Ch.new _ (.lst ((D.as.map cR).take i++[cR (x.1,x.2++[57])])));have a3:=af.new ((σ.new (.lst ((D.as.map cR).take i))).new (.lst [cR (x.1,x.2++[57])])) (.lst ((D.as.map cR).take i++[cR (x.1,x.2++[57])]));refine ⟨_,_,(h2.ch n3 am).eq,Vu (n:=i+1) (by lia),?_⟩
  refine ⟨_,_,(a3.ch (Ch.new (F:=[]) _ _) am).eq,(af.new _ _).eq,by ((erw[bR];erw[lO];erw[p9]);rewrite[ay];erw[bH]);simp;lia,q _ _ ⟨_,rfl,(n3.trans (Ch.new _ _)).trans (Ch.new _ _),?_⟩⟩
  erw[aD lat];exact af.new _ _
 obtain ⟨lt,ev,c1,hl⟩:=z_3;subst ev;have h1':=h1.ch c1 am;refine wt (R:=λv σ'=>v= .tup [a8 (rws K f),a8 (rws K g)]/\Ch [] σ σ') (λQ q=>T.le (BI G ok (λx=>x.2) h1' (h2.ch c1 am) pf (wY hK f) λao c2=>T.le (BI G ok (chg x) (h1'.ch c2 am) (hl.ch c2 am) pg (wY hK g) λaA c3=>q _ _ ⟨rfl,(c1.trans c2).trans c3⟩) (by decide)) (by decide)) λv ao z_6=>?_
 obtain ⟨ev,c2⟩:=z_6;subst ev;refine ⟨_,rfl,?_⟩;have h1':=h1.ch c2 am;refine mj (R:=λv σ'=>v=aJ (D.key x)/\Ch [] σ σ') (λQ q=>Kw G ok rfl h1' λaA l c3 J h=>rZ h.eq ?_ (ok.tb_get xc)<| q _ _ ⟨rfl,c2.trans c3⟩) λv aA z_4=>?_
 ·refine ⟨.s,rfl,λp hp=>?_⟩;unfold TB at hp;rcases dH.mp hp with hp | hp
  ·obtain ⟨z,J,rfl⟩:=aL.mp hp;rfl
  ·rw[aF] at hp;erw[hp];rfl
 obtain ⟨ev,c3⟩:=z_4;subst ev;refine KB (R:=λσ'=>Ch [] σ σ') (λK' q=>T.le (Vg G hK tF tG (r:=(D.key x,x.1.1,x.2++[57])) u1<| ⟨da (aq hpl.1.1) (aq hpl.1.2) rfl,⟨da (Bn _ (mM _ xb)) (n:=10) (aq rfl) rfl,?_⟩⟩) (by decide)) λaW c4=>?_
 ·erw[aD epc];have n1:Ch [] aA (aA.new (.lst [wZ (D.key x) x.1.1 (x.2++[57])])):=Ch.new _ _;exact ⟨true,Vv ⟨(tK _ hk0).1,(tK _ hk0).2,tn.1,tx9⟩ ((af.new aA _).ch (Ch.new (F:=[]) _ _) am) (af.new (aA.new _) _),q _ ((c3.trans n1).trans (Ch.new _ _))⟩
 clear c1 c2 c3 h1';refine no (R:=λv σ'=>v= .bool true/\Ch [] σ σ') (λQ q=>wV G hK tF tG tF (λJ J=> .inr (.inl rfl)) (a:=true) (b:=false) e1 e0 ?_) λv σ' z1=>by obtain ⟨ev,c⟩:=z1;subst ev;exact q _ c
 erw[m1];refine wV G hK tF tF tG (λJ J=> .inl rfl) (a:=false) (b:=true) e0 e1 ?_;erw[m2];refine wV G hK tF tG tG (λJ J=> .inr (.inr rfl)) (a:=true) (b:=true) e1 e1 ?_;erw[m3];have a1:=af.new aW (.lst []);have n1:Ch [] aW (aW.new (.lst [])):=Ch.new _ _;have x1:(aW.new (.lst [])).next=aW.next+1:=rfl;generalize aW.new (.lst [])=ct at a1 n1 x1 ⊢;have a2:=af.new ct (.lst []);have n2:Ch [] ct (ct.new (.lst [])):=Ch.new _ _;generalize ct.new (.lst [])=dT at a2 n2 ⊢;have a3:=af.new dT (.lst []);have n3:Ch [] dT (dT.new (.lst [])):=Ch.new _ _;generalize dT.new (.lst [])=gi at a3 n3 ⊢;refine wq<| Ui<| Te<| I1<| AI<| Th<| AI<| eZ rfl<| AI<| I1<| wq<| wq<| wq<| eZ rfl ?_;have a4:=af.new gi (.lst [.tup [a8 (rws K g),.ref aW.next],.tup [a8 (rws K g),.ref ct.next],.tup [a8 (rws K g),.ref dT.next]]);have n4:Ch [] gi (gi.new (.lst [.tup [a8 (rws K g),.ref aW.next],.tup [a8 (rws K g),.ref ct.next],.tup [a8 (rws K g),.ref dT.next]])):=Ch.new _ _;generalize gi.new (.lst [.tup [a8 (rws K g),.ref aW.next],.tup [a8 (rws K g),.ref ct.next],.tup [a8 (rws K g),.ref dT.next]])=gJ at a4 n4 ⊢;have a5:=af.new gJ (.lst []);have n5:Ch [] gJ (gJ.new (.lst [])):=Ch.new _ _;generalize gJ.new (.lst [])=pR at a5 n5 ⊢;have a6:=af.new pR (.lst [.tup [a8 (rws K g),.ref gJ.next]]);have n6:Ch [] pR (pR.new (.lst [.tup [a8 (rws K g),.ref gJ.next]])):=Ch.new _ _;generalize pR.new (.lst [.tup [a8 (rws K g),.ref gJ.next]])=τ at a6 n6 ⊢;refine ⟨_,a6.eq,by decide,by decide,aq rfl,?_⟩
 have a7:=af.new τ (.lst (cV (3:Int).toNat [AV.tup [a8 (rws K g),.ref gJ.next]]).flatten);have n7:Ch [] τ (τ.new (.lst (cV (3:Int).toNat [AV.tup [a8 (rws K g),.ref gJ.next]]).flatten)):=Ch.new _ _;generalize τ.new (.lst (cV (3:Int).toNat [AV.tup [a8 (rws K g),.ref gJ.next]]).flatten)=ci at a7 n7 ⊢;have k7:Ch [] pR ci:=n6.trans n7;have k6:Ch [] gJ ci:=n5.trans k7;have k5:Ch [] gi ci:=n4.trans k6;have k4:Ch [] dT ci:=n3.trans k5;have k3:Ch [] ct ci:=n2.trans k4;have k2:Ch [] aW ci:=n1.trans k3;have lay:=KA rtx;have lay3:=Vw lay;refine ⟨true,eq_data (n:=9) (KL (a4.ch k6 am) (my (a1.ch k3 am)) (my (a2.ch k4 am)) (my (a3.ch k5 am))) (KL a7 (my (a5.ch k7 am)) (my (a5.ch k7 am)) (my (a5.ch k7 am))) lay3.1 lay3.2,q _ _ ⟨rfl,c4.trans k2⟩⟩
end
theorem KN{P:PW}{d:Nat}{ρ:ac}{σ:AH}{Q:Fl->ac->AH->Prop}{r:au}{a e:AE}{l i:Nat}{v:AV}{xs:List AV}(ha:sv S0 ρ [] a=some (.ref l))(hl:af σ l (.lst xs))(hi:i<xs.length)(h:∀Q:AV->AH->Prop,Q v σ->wE P S0 d e ρ [] σ Q)(q:aM P S0 d r ρ (σ.set l (.lst (xs.set i v))) Q):
  aM P S0 d (.cons (.asg (.sub a (.int i)) e) r) ρ σ Q:=
 h _ (show wE P S0 d a ρ [] σ (λx ae=>wE P S0 d (.int i) ρ [] ae λy ao=>s7 x y v ao λaA=>([]:ac)=[]/\aM P S0 d r ρ aA Q) from eZ ha<| .inl ⟨xs,i,hl.eq,rfl,mI i,by lia,rfl,by rewrite[sT];exact q⟩)
section
variable{σ:AH}{Q:AV->AH->Prop}{a b:Int}
theorem Vx(q:Q (.int (a - b)) σ):kI .Sub (.int a) (.int b) σ Q:=q
theorem sd(q:Q (.int (a+b)) σ):kI .Add (.int a) (.int b) σ Q:=q
theorem nJ(h:IntMulOk a b)(q:Q (.int (a*b)) σ):kI .Mult (.int a) (.int b) σ Q:=⟨h,q⟩
theorem pL(h:0<b)(q:Q (.int (a % b)) σ):kI .Mod (.int a) (.int b) σ Q:=⟨h,q⟩
theorem KO(h:0<b/\b<2 ^ 15)(q:Q (.int (a / b)) σ):kI .FloorDiv (.int a) (.int b) σ Q:=⟨h.1,h.2,q⟩
end
theorem Vy{P:PW}{σ:AH}{c:aa}{is:List Int}{i:Nat}{x:Int}{k:AV->Prop}(h:oq P c is)(e:is[i]? =some x)(q:k (.int x)):Item P (.con (.ref c)) (.int i) σ k:=
 ⟨_,_,_,_,rfl,h,rfl,wk (by (erw[bt];erw[e]);rfl),q⟩
theorem small{a:Int}(h0:0<=a)(h1:a<2147483648):Builtin.Int.intBits a<=64:=intBits_le_64 (by lia) (by lia)
section
variable{P:PW}{σ:AH}{Q:AV->AH->Prop}(G:Gd P)
include G
theorem Vz{scr:Nat}{is:List Int}(h:oq P scr is)(q:∀a b:Int,0<=a->0<=b->b<2147483647->Q (.ref σ.next) (σ.new (.lst [.int a,.int b]))):T P 1 (.con (.ref vU)) [.con (.ref scr),.int 0] σ Q:=by
 refine (G.fn (rfl:tab vU=some (.fn _ _ _ Iu)) (aq rfl) (aq rfl) ?_).toT;obtain ⟨c,hc⟩:∃c:Int,∀Q:AV->AH->Prop,Q (.int c) σ->wE P S0 0 (.ite (.cmp (.loc 1) (.one .Lt (.call (.glob b7) (.cons (.loc 0) .nil)))) (.sub (.loc 0) (.loc 1)) (.int 0)) [some (.con (.ref scr)),some (.int 0),none,none,none,none,none,none] [] σ Q:=by
  induction is using bQ with
  | nil=>exact ⟨0,λQ q=>(EI h).builtin<| rz false rfl<| q⟩
  | cons c r=>exact ⟨c,λQ q=>(EI h).builtin<| rz true (decide_eq_true (xl.mpr (Nat.zero_lt_succ _))).symm<| Vy (i:=0) h rfl q⟩
 refine bj hc ?_;obtain ⟨g,hg0,hg⟩:∃g:Int,0<=g/\(if -1 - c>c then -1 - c else c)=g:=⟨_,by split<;>lia,rfl⟩
 refine bj (v:= .int g) (σ':=σ) (λQ q=>Vx<| (EK c (-1 - c)).builtin (by erw[hg];exact q)) ?_
 have m0:(0:Int)<=g % 2147483629/\g % 2147483629<2147483629:=⟨sY _ (by decide),xH _ (by decide)⟩
 refine bj (λQ q=>pL (by decide)<| nJ (.of_left (by decide))<| nJ (.of_left (by decide))<| sd<| nJ (.of_left (by decide))<| sd<| sd<| nJ (.of_right (by decide))<| pL (by decide) q) ?_
 refine bJ (λQ q=>⟨by decide,by decide,Az _ rfl<| (yF _).type<| nJ (.of_right ?_)<| q⟩) (q _ _ ?_ ?_ ?_)
 ·split<;>decide
 ·split
  ·rewrite[Int.mul_one];exact hg0
  ·rewrite[Int.mul_zero];exact Int.le_refl _
 ·exact sY _ (by decide)
 ·exact xH _ (by decide)
theorem VA{s:Nat}{a b top:Int}(ha:0<=a)(hb:0<=b/\b<2147483647)(ht:0<top/\top<2 ^ 15)(h:af σ s (.lst [.int a,.int b]))(q:∀n a' b':Int,0<=n->n<top->0<=a'->0<=b'->b'<2147483647->Q (.int n) (σ.set s (.lst [.int a',.int b']))):T P 1 (.con (.ref ro)) [.ref s,.int top] σ Q:=by
 refine (G.fn (rfl:tab ro=some (.fn _ _ _ Iv)) (aq rfl) (aq rfl) ?_).toT;have i0:∀{σ:AH}{x y:Int}{k:AV->Prop},af σ s (.lst [.int x,.int y])->k (.int x)->Item P (.ref s) (.int 0) σ k:=λh q=>li (i:=0) h.eq rfl q;have i1:∀{σ:AH}{x y:Int}{k:AV->Prop},af σ s (.lst [.int x,.int y])->k (.int y)->Item P (.ref s) (.int 1) σ k:=λh q=>li (i:=1) h.eq rfl q;by_cases hp:0<a
 ·refine d7 (λK q=>i0 h<| ry true (decide_eq_true hp).symm q) ?_;refine bj (λQ q=>i0 h<| pL ht.1 q) ?_;refine KN (i:=0) rfl h (aq rfl) (λQ q=>i0 h<| KO ht q) ?_;exact bJ (λQ q=>q) (q _ _ _ (sY _ (by lia)) (xH _ ht.1) (Int.ediv_nonneg ha (by lia)) hb.1 hb.2)
 ·refine bG (λK q=>i0 h<| ry false (decide_eq_false hp).symm q) ?_;refine KN (i:=1) rfl h (aq rfl) (λQ q=>i1 h<| nJ (.of_left (small hb.1 (by lia)))<| sd<| pL (by decide) q) ?_
  have c0:0<=(b*39373+7) % 2147483647:=sY _ (by decide)
  have c1:(b*39373+7) % 2147483647<2147483647:=xH _ (by decide)
  have h2:af (σ.set s (.lst ([AV.int a,.int b].set 1 (.int ((b*39373+7) % 2147483647))))) s (.lst [.int a,.int ((b*39373+7) % 2147483647)]):=h.set;generalize (b*39373+7) % 2147483647=b' at c0 c1 h2 ⊢;have d0:0<=b'*b' % 2147483629:=sY _ (by decide)
  exact bJ (λQ q=>i1 h2<| i1 h2<| nJ (.of_left (small c0 (by lia)))<| pL (by decide)<| KO ⟨by decide,by decide⟩<| pL ht.1 q) (q _ _ _ (sY _ (by lia)) (xH _ ht.1) ha c0 c1)
end
noncomputable abbrev N3:=List Nat × List Nat × List Nat
noncomputable def lcs:List (List Nat):=[[97],[112],[113]]
noncomputable def menuT(ps:List P2):List N3:=([]::ps.map (·.1)).flatMap λp=>lcs.map λl=>(pc p++l,p,l)
noncomputable abbrev lA(x:N3):AV:= .tup [.str (pc x.2.1),.str x.2.2]
noncomputable abbrev VB(a b:Int):AO:= .lst [.int a,.int b]
theorem VC{P:PW}{S:aN}{d:Nat}{ρ κ:ac}{τ:AH}{it:AE}{t:AT}{B:ac->AH->Nat->(ac->AH->Prop)->Prop}{acc:Nat}{K:ac->AH->Prop}(h:wE P S d it ρ κ τ λv ae=>∃xs,bz v ae=some xs/\gY v xs.length (λx cS ao k=>wA P S d t x ρ cS ao λb9 bo aA=>b9=ρ/\iO P S d .nil ρ bo aA λb aW=>match b with
  | true=>wG P S d .nil B ρ acc bo aW k
  | false=>k bo aW) xs.length κ ae K):iO P S d .nil ρ κ τ λb aW=>match b with
  | true=>wG P S d (.cons t it .nil .nil) B ρ acc κ aW K
  | false=>K κ aW:=h
theorem VD{P:PW}{S:aN}{d:Nat}{ρ κ:ac}{τ:AH}{elt:AE}{acc:Nat}{K:ac->AH->Prop}(h:wE P S d elt ρ κ τ λv ae=>∃xs,ae.m acc=some (.lst xs)/\xs.length<aY/\K κ (ae.set acc (.lst (xs++[v])))):iO P S d .nil ρ κ τ λb aW=>match b with
  | true=>wG P S d .nil (λκ' σ' acc k=>wE P S d elt ρ κ' σ' λv ae=>∃xs,ae.m acc=some (.lst xs)/\xs.length<aY/\k κ' (ae.set acc (.lst (xs++[v])))) ρ acc κ aW K
  | false=>K κ aW:=h
section
variable{P:PW}{d:Nat}{ρ:ac}{σ:AH}{Q:AV->AH->Prop}(G:Gd P)
theorem VE{sp:Nat}{ps:List P2}(few:ps.length<10)(hpt:∀p∈ps,p.1∈PT)(h4:sv S0 ρ [] (.loc 4)=some (.ref sp))(h:af σ sp (.lst (ps.map aX)))(q:∀σ' l,Ch [] σ σ'->σ.next<=l->af σ' l (.lst ((menuT ps).map lA))->Q (.ref l) σ'):
  wE P S0 d (.comp (.tup (.cons (.cl 1) (.cons (.cl 2) .nil))) (.cons (.cl 1) (.bin .Add (.list (.cons (.str []) .nil)) (.comp (.bin .Add (.cl 1) (.str [58])) (.cons (.tup (.cons (.cl 1) (.cons (.cl 2) .nil))) (.loc 4) .nil .nil) 3)) .nil (.cons (.cl 2) (.list (.cons (.str [97]) (.cons (.str [112]) (.cons (.str [113]) .nil)))) .nil .nil)) 3) ρ [] σ Q:=by
 have n1:Ch [] σ (σ.new (.lst [.str []])):=Ch.new _ _;have a1:=af.new σ (.lst [.str []]);have epc:∀p∈ps,pc p.1=p.1++[58]:=λp hp=>by
  have:=(dR _ (hpt p hp)).2.1;unfold pc
  induction e:p.1 using bQ with
  | nil=>exact absurd e this
  | cons a b=>rfl
 refine .inr (wW (vs:=ps.map λp=> .str (pc p.1)) (h.ch n1 am) h4 (by rw[ay,ay]) (by rewrite[ay];(with_reducible exact bX ‹_› (by decide))) (λk x w κ τ K hx hw fE c hK=>?_) λae l c1 g1 h1=>⟨_,_,(a1.ch c1 am).eq,h1.eq,by (rewrite[ay];erw[bH]);simp;lia,?_⟩)
 ·rw[bt] at hx hw;obtain ⟨p,ep,rfl⟩:=bW.mp hx;rw[ep] at hw;cases hw;have hm:=cj ep;obtain ⟨a,b,e,rfl⟩:=wu fE;refine mZ (κ':=[a,some (.str p.1),some (.str p.2)]) rfl ⟨rfl,⟨da ((dR _ (hpt p hm)).2.2.1) (n:=10) (aq rfl) rfl,?_⟩⟩;erw[aD (epc p hm)];exact hK _ rfl
 have e1:[AV.str []]++(ps.map λp=>AV.str (pc p.1))=([]::ps.map (·.1)).map λp=>AV.str (pc p):=by
  (erw[bi];erw[cw]);rfl
 erw[e1];generalize eP:[]::ps.map (·.1)=pre at*
 have hpl:pre.length<=10:=by ((erw[aD eP];erw[dW]);rewrite[ay]);(with_reducible exact xr ‹_›)
 have n2:Ch [] σ (ae.new (.lst (pre.map λp=>AV.str (pc p)))):=(n1.trans c1).trans (Ch.new _ _);have a2:=af.new ae (.lst (pre.map λp=>AV.str (pc p)));generalize ae.new (.lst (pre.map λp=>AV.str (pc p)))=ao at n2 a2 ⊢;generalize ae.next=Lo at a2 ⊢;have lLo:=a2.lt;have em:menuT ps=pre.flatMap λp=>lcs.map λl=>(pc p++l,p,l):=by unfold menuT;(erw[eP];ac_rfl)
 have nL:Lo∉[ao.next]:=ni (ce lLo);refine ⟨_,bU a2.eq,I8 (λk X=>∀τ a b c,Ch [ao.next] (ao.new (.lst [])) τ->af τ ao.next (.lst (((pre.take k).flatMap λp=>lcs.map λl=>(pc p++l,p,l)).map lA))->X [a,b,c] τ) (λX q=>q _ _ _ _ (Ch.refl _) (af.new _ _)) (λk τ a b e c J=>bU ((a2.ch (Ch.new (F:=[]) _ _) am).ch c nL).eq) (λk x K hx hK τ a b e c hA=>?_) λτ a b e c hA=>q _ _ ((n2.trans (Ch.new _ _)).drop c λx hx=> .inr (aF.mp hx▸n2.le)) n2.le (by rw[ay,ez,<-em] at hA;exact hA)⟩
 rw[bt] at hx;obtain ⟨p,ep,rfl⟩:=bW.mp hx;have hkl:=(bP.mp ep).1;have bl:((pre.take k).flatMap λp=>lcs.map λl=>(pc p++l,p,l)).length<=30:=by
  erw[List.length_flatMap];have:∀l:List (List Nat),(l.map λp=>(lcs.map λl=>(pc p++l,p,l)).length).sum=3*l.length:=λl=>by
   induction l with
   | nil=>rfl
   | cons a l ih=>((erw[bi];erw[List.sum_cons];erw[ih]);rewrite[ay];erw[dW]);refine (?_:3+_=_);lia
  (rewrite[this];erw[lO]);exact Nat.mul_le_mul_left 3 (ck (Cu _ _) hpl)
 refine ⟨rfl,VC<| ⟨_,bU (af.new τ _).eq,I8 (λj X=>∀fe c,Ch [ao.next] (τ.new (.lst [.str [97],.str [112],.str [113]])) fe->af fe ao.next (.lst ((((pre.take k).flatMap λp=>lcs.map λl=>(pc p++l,p,l))++(lcs.take j).map λl=>(pc p++l,p,l)).map lA))->X [a,some (.str (pc p)),c] fe)
  (xs:=lcs.map .str) (λX q=>q _ _ (Ch.refl _) (by ((erw[CT];erw[List.map_nil]);rewrite[dB]);exact hA.ch (Ch.new (F:=[]) _ _) am)) (λj fe e c' J=>bU ((af.new τ _).ch c' (ni (cA hA.lt))).eq) (λj x K' hx hK' fe e c' hA=>?_) λfe e c' hA=>hK _ _ λX q=>q _ _ _ _ ((c.trans (Ch.new _ _)).trans c') (by ((erw[d8 ep];erw[List.flatMap_append]);rewrite[List.flatMap_singleton]);exact hA)⟩⟩
 rw[bt] at hx;obtain ⟨l,el,rfl⟩:=bW.mp hx;refine ⟨rfl,VD<| ⟨_,hA.eq,?_,hK' _ _ λX q=>q _ _ (c'.trans (Ch.set _ _ (.head _))) ?_⟩⟩
 ·exact fy (N:=31+4) (dE (pv (Nat.lt_succ_of_le bl) (dE (fw (show lcs.length<4 from jh 3))))) rfl
 ·((erw[d8 el];erw[bq (l₁:=lcs.take j)]);rewrite[<-fU];erw[bq (l₂:=[l].map _)])
  exact hA.set
end
theorem KP:∀p∈[]::PT,∀l∈lcs,(pc p++l,p,l)∈NT:=by decide+kernel
theorem VF:∀n∈fF 8,(cz (toString (n:Int))).cps.toList∈VT:=by decide+kernel
theorem VG:PT.Nodup:=by decide+kernel
theorem VH:UT.Nodup:=by decide+kernel
section
variable{ps:List P2}(hp:∀p∈ps,p.1∈PT)(nd:(ps.map (·.1)).Nodup)
include hp
theorem VI:∀x∈menuT ps,x∈NT/\(x.2.1=[]\/x.2.1∈ps.map (·.1)):=λx hx=>by
 unfold menuT at hx;obtain ⟨p,h1,h2⟩:=List.mem_flatMap.mp hx;obtain ⟨l,hl,rfl⟩:=aL.mp h2;rcases aV.mp h1 with rfl | h1
 ·exact ⟨KP _ (.head _) l hl,.inl rfl⟩
 ·obtain ⟨q,hq,e⟩:=aL.mp h1;exact ⟨KP _ (.tail _ (e▸hp q hq)) l hl,.inr h1⟩
include nd
theorem VJ:(menuT ps).Nodup:=by
 unfold menuT lP;rewrite[List.pairwise_flatMap];refine ⟨λp J=>?_,?_⟩
 ·rewrite[jL];exact (show lcs.Nodup by decide).imp λh e=>h (congrArg (λx:N3=>x.2.2) e)
 ·rewrite[LX];refine ⟨λp h1 x hx y hy e=>?_,?_⟩
  ·obtain ⟨l,J,rfl⟩:=aL.mp hx;obtain ⟨l',J,rfl⟩:=aL.mp hy;have e:([]:List Nat)=p:=congrArg (λx:N3=>x.2.1) e;obtain ⟨q,hq,e2⟩:=aL.mp h1;exact (dR _ (hp q hq)).2.1 (e2.trans e.symm)
  ·unfold lP at nd;refine nd.imp λ{a b} h x hx y hy e=>h ?_;obtain ⟨l,J,rfl⟩:=aL.mp hx;obtain ⟨l',J,rfl⟩:=aL.mp hy;exact congrArg (λx:N3=>x.2.1) e
end
theorem BM{α:Type}{l:List α}{n:Int}(h0:0<=n)(h1:n<l.length):∃a x b,l=a++x::b/\n=(a.length:Int):=by
 have hn:n.toNat<l.length:=(Int.toNat_lt h0).mpr h1;refine ⟨l.take n.toNat,l[n.toNat],l.drop (n.toNat+1),by rw[sW,kE],?_⟩
 ((erw[lO];erw[Cr (kD hn)];erw[CK h0]);ac_rfl)
noncomputable abbrev D0:aK:=⟨[([112],[120,109,108,110,115])],[(([112],[],[112]),[49]),(([112,58,112],[112],[112]),[50]),(([112,58,97],[112],[97]),[51])]⟩
theorem KQ:D0.Ok:=⟨by decide,by decide,by decide,by decide,by decide,by decide⟩
def jC(σ:AH)(s:Nat):Prop:=∃a b:Int,0<=a/\(0<=b/\b<2147483647)/\af σ s (VB a b)
section
variable{P:PW}{σ:AH}{Q:AV->AH->Prop}(G:Gd P)
include G
theorem pM{s:Nat}{top:Int}(ht:0<top/\top<2 ^ 15)(h:jC σ s)(q:∀n σ',0<=n->n<top->jC σ' s->Ch [s] σ σ'->Q (.int n) σ'){d:Nat}(hd:1<=d):T P d (.con (.ref ro)) [.ref s,.int top] σ Q:=by
 obtain ⟨a,b,ha,hb,h⟩:=h;exact T.le (VA G ha hb ht h λn a' b' n0 n1 a0 b0 b1=>q _ _ n0 n1 ⟨a',b',a0,⟨b0,b1⟩,h.set⟩ (Ch.set _ _ (.head _))) hd
end
structure L1(τ:AH)(Lp Sr Nm Sp k:Nat)(ps:List P2)(N:List (List Nat)):Prop where
 lp:af τ Lp (.lst (PT.map .str))
 sr:jC τ Sr
 nm:af τ Nm (.lst (N.map .str))
 sp:af τ Sp (.lst (ps.map aX))
 s1:(ps.map (·.1)).Sublist (PT.take k)
 s2:(ps.map (·.2)++N).Perm UT
structure L2(τ:AH)(Sr Mn Rw Sp k:Nat)(ps:List P2)(as:List A4)(M:List N3):Prop where
 sr:jC τ Sr
 mn:af τ Mn (.lst (M.map lA))
 rw:af τ Rw (.lst (as.map cR))
 sp:af τ Sp (.lst (ps.map aX))
 pm:(as.map (·.1)++M).Perm (menuT ps)
 vt:∀x∈as,x.2∈VT
 le:as.length<=k
 ne:0<k->as≠[]
theorem jC.ch{σ σ':AH}{s:Nat}{F:List Nat}(h:jC σ s)(c:Ch F σ σ')(n:s∉F):jC σ' s:=by
 obtain ⟨a,b,h1,h2,h⟩:=h;exact ⟨a,b,h1,h2,h.ch c n⟩
section
variable{P:PW}{σ:AH}{Q:AV->AH->Prop}(G:Gd P)
include G
theorem VK{scr:Nat}{is:List Int}(hs:oq P scr is)(q:∀σ',Q (.bool true) σ'):T P 18 (.con (.ref o8)) [.con (.ref scr)] σ Q:=by
 refine (G.fn (rfl:tab o8=some (.fn _ _ _ IB)) (aq rfl) (aq rfl) ?_).toT;refine bj (v:= .ref σ.next) (σ':=σ.new (.lst (D0.as.map cR))) (λQ q=>q) ?_;obtain f1:=af.new σ (.lst (D0.as.map cR));generalize σ.new (.lst (D0.as.map cR))=ae at f1 ⊢;generalize σ.next=fx at f1 ⊢;refine Tp (C:=λK=>∀ao,K ao) (λK q=>?_) λao=>?_
 ·obtain n1:Ch [] ae (ae.new (.lst (D0.ps.map aX))):=Ch.new _ _;refine KG G KQ (af.new ae (.lst (D0.ps.map aX))) (f1.ch n1 am) λao c2=>?_;have c2:=n1.trans c2;have n3:Ch [] ao (ao.new (.lst (D0.ps.map aX))):=Ch.new _ _;exact KM G KQ (i:=1) rfl (af.new ao (.lst (D0.ps.map aX))) ((f1.ch c2 am).ch n3 am) λaW c4=>q _
 refine dQ (C:=λQ=>∀σ',jC σ' ao.next->σ'.next=ao.next+1->Q (.ref ao.next) σ') (λQ q=>T.le (Vz G hs λa b a0 b0 b1=>q _ ⟨a,b,a0,⟨b0,b1⟩,af.new _ _⟩ rfl) (by decide)) λaA hSr eSr=>?_
 generalize ao.next=Sr at hSr eSr ⊢;refine gA (v:= .tup [.ref aA.next,.ref (aA.next+1)]) (σ':=(aA.new (.lst (UT.map .str))).new (.lst [])) (λQ q=>q) rfl ?_;have n4:Ch [] aA ((aA.new (.lst (UT.map .str))).new (.lst [])):=(Ch.new _ _).trans (Ch.new _ _);obtain hSr4:=hSr.ch n4 am;obtain hN4:=(af.new aA (.lst (UT.map .str))).ch (Ch.new (F:=[]) (aA.new (.lst (UT.map .str))) (.lst [])) am;obtain hP4:af ((aA.new (.lst (UT.map .str))).new (.lst [])) (aA.next+1) (.lst []):=af.new (aA.new (.lst (UT.map .str))) _;have e4:((aA.new (.lst (UT.map .str))).new (.lst [])).next=aA.next+2:=rfl;generalize (aA.new (.lst (UT.map .str))).new (.lst [])=aW at hSr4 hN4 hP4 e4 ⊢;obtain n5:Ch [] aW (aW.new (.lst (PT.map .str))):=Ch.new _ _;have nSN:Sr<aA.next:=by erw[eSr];exact jh _
 have nN4:aA.next<aW.next:=by erw[e4];exact CN (by decide)
 have nP4:aA.next+1<aW.next:=by erw[e4];exact jh _
 have nNS:aA.next∉[Sr]:=ni (cA nSN);have nPS:aA.next+1∉[Sr]:=ni (cA (sX nSN));have nLS:aW.next∉[Sr]:=ni (cA (sN nSN nN4));refine np (f:= .ref aW.next) (σ':=aW.new (.lst (PT.map .str))) (xs:=PT.map .str) (λk X=>∀τ ps N a,L1 τ aW.next Sr aA.next (aA.next+1) k ps N->X [some (.con (.ref scr)),some (.ref fx),some (.ref Sr),some (.ref aA.next),some (.ref (aA.next+1)),a,none,none,none,none,none,none,none,none,none,none,none] τ)
  (λQ q=>q) (λX q=>q _ [] UT _ ⟨af.new _ _,hSr4.ch n5 am,hN4.ch n5 am,hP4.ch n5 am,List.nil_sublist _,CV _⟩) (λk τ ps N a h=>bU h.lp.eq) (λk x K hk hK τ ps N a H=>?_) λτ ps N a H=>?_
 ·rw[bt] at hk;obtain ⟨p,ep,rfl⟩:=bW.mp hk;have hk3:=(bP.mp ep).1;have psl:ps.length<=k:=by have:=H.s1.length_le;rw[ay,lO] at this;lia
  have nl:ps.length+N.length=3:=by have:=H.s2.length_eq;rw[bR,ay] at this;exact this
  have k3:k<3:=hk3;have up:PT.take (k+1)=PT.take k++[p]:=d8 ep;refine Tn (C:=λX=>∀σ',jC σ' Sr->Ch [Sr] τ σ'->X σ') (λK q=>pM G ⟨by decide,by decide⟩ H.sr (λn σ' J J hs c=>ry _ rfl (q _ _ hs c)) (by decide)) (λpS hs1 c1=>?_) λpS hs1 c1=>hK _ _ λX q=>q _ ps N _ ⟨H.lp.ch c1 nLS,hs1,H.nm.ch c1 nNS,H.sp.ch c1 nPS,H.s1.trans (by refine al up ?_;exact L9 ..),H.s2⟩
  ·have hN1:=H.nm.ch c1 nNS;have hP1:=H.sp.ch c1 nPS;have hL1:=H.lp.ch c1 nLS;refine ln (C:=λQ=>∀v σ' ps N,L1 σ' aW.next Sr aA.next (aA.next+1) (k+1) ps N->Q v σ') (λQ q=>⟨_,eH hP1.eq rfl,⟨_,eH hN1.eq rfl,(lZ hN1.eq).builtin<| pM G ?_ hs1 (λn ci n0 n1 hs2 c2=>?_) (by decide)⟩⟩) λv jb ps' N' H'=>hK _ _ λX q=>q _ ps' N' _ H'
   ·rewrite[ay];lia
   ·rw[ay] at n1;(refine aI λkK=>?_;obtain ⟨A,x,B,eN,en⟩:=BM n0 n1;refine kK ?_;clear kK);subst eN;have hN2:=hN1.ch c2 nNS;have hP2:=hP1.ch c2 nPS;have hL2:=hL1.ch c2 nLS;rw[bq,bi] at hN2;refine (EM hN2.eq (by rewrite[ay];exact en)).builtin<| ?_
    obtain c3:Ch [aA.next] ci (ci.set aA.next (.lst (A.map .str++B.map .str))):=Ch.set _ _ (.head _);obtain hN3:=hN2.set (p:= .lst (A.map .str++B.map .str));have hP3:=hP2.ch c3 (ni (Nat.succ_ne_self _));have hL3:=hL2.ch c3 (ni (cA (bX nN4 (bI _))));have hs3:=hs2.ch c3 (ni (ce nSN));generalize ci.set aA.next (.lst (A.map .str++B.map .str))=jb at hN3 hP3 hL3 hs3 ⊢;refine (dK hP3.eq (by (rewrite[ay];erw[bH]);lia)).builtin<| q _ _ (ps++[(p,x)]) (A++B) ?_
    obtain c4:Ch [aA.next+1] jb (jb.set (aA.next+1) (.lst (ps.map aX++[aX (p,x)]))):=Ch.set _ _ (.head _);refine ⟨hL3.ch c4 (ni (cA nP4)),hs3.ch c4 (ni (ce (sX nSN))),?_,?_,?_,?_⟩
    ·refine al bq ?_;exact hN3.ch c4 (ni (ce (jh _)))
    ·refine al bq ?_;exact hP3.set
    ·refine al up (al bq ?_);exact H.s1.append (List.Sublist.refl _)
    ·refine al bq ?_;refine List.Perm.trans ?_ H.s2;rewrite[fU];exact List.Perm.append_left _ (show (x::(A++B)).Perm (A++x::B) from List.perm_middle.symm)
 have k1:(ps.map (·.1)).Sublist PT:=H.s1
 have hpt:∀p∈ps,p.1∈PT:=λp hp=>k1.subset (aL.mpr ⟨p,hp,rfl⟩);have hut:∀p∈ps,p.2∈UT:=λp hp=>H.s2.mem_iff.mp (mM _ (aL.mpr ⟨p,hp,rfl⟩));have nd1:(ps.map (·.1)).Nodup:=VG.sublist k1
 have nd2:(ps.map (·.2)).Nodup:=(H.s2.nodup_iff.mpr VH).sublist (L9 ..)
 have psl:ps.length<=3:=by have:=k1.length_le;rw[ay] at this;exact this
 have mnd:=VJ hpt nd1;have mmem:=VI hpt;have mlen:(menuT ps).length≠0:=by
  unfold menuT
  ((erw[List.flatMap_cons];erw[bR]);rewrite[ay])
  refine (?_:3+_≠0);lia
 refine dQ (C:=λQ=>∀σ' l,Ch [] τ σ'->τ.next<=l->af σ' l (.lst ((menuT ps).map lA))->Q (.ref l) σ') (λQ=>VE (ps:=ps) (by (with_reducible exact dA ‹_› (by decide))) hpt rfl H.sp) λct Mn c5 gM hM=>?_
 have hSp:=H.sp.ch c5 am;have hSr:=H.sr.ch c5 am;have lSp:=H.sp.lt;have lSr:Sr<τ.next:=by obtain ⟨J,J,J,J,h⟩:=H.sr;exact h.lt
 have nSS:Sr≠aA.next+1:=by lia
 generalize aA.next+1=Sp at hSp lSp nSS ⊢;generalize aA.next=Nm at*;clear H hP4 hN4 hSr4 n4 n5 e4 nSN nN4 nP4 nNS nPS nLS;refine bj (λQ q=>q) ?_;have n6:Ch [] ct (ct.new (.lst [])):=Ch.new _ _;have hM6:=hM.ch n6 am;have hSp6:=hSp.ch n6 am;have hSr6:=hSr.ch n6 am;have hRw:=af.new ct (.lst []);have lM:=hM.lt;have lc:=c5.le;generalize ct.new (.lst [])=dT at hM6 hSp6 hSr6 hRw ⊢;have ne1:Mn≠ct.next:=ce lM;have ne2:Sp≠ct.next:=ce (bX lSp lc);have ne3:Sr≠ct.next:=ce (bX lSr lc);have ne4:Sr≠Mn:=ce (bX lSr gM);have ne5:Sp≠Mn:=ce (bX lSp gM);generalize ct.next=Rw at hRw ne1 ne2 ne3 ⊢;refine Tl (C:=λQ=>∀(n:Nat) σ',1<=n->n<=4->jC σ' Sr->Ch [Sr] dT σ'->Q (.rng n) σ') (λQ q=>pM G ⟨by decide,by decide⟩ hSr6 (λn σ' n0 n1 hs c=>sd<| ?_) (by decide)) λn gi n1 n4 hSr7 c7=>?_
 ·obtain e:(1+n:Int)=((n.toNat+1:Nat):Int):=by lia
  refine al e ?_;exact (EJ (n.toNat+1) (by lia)).type (q (n.toNat+1) _ (pX (du _)) (by lia) hs c)
 refine Tk (xs:=(fF n).map λ(i:Nat)=> .int (i:Int)) (λk X=>∀τ as M a b c,L2 τ Sr Mn Rw Sp k ps as M->X [some (.con (.ref scr)),some (.ref fx),some (.ref Sr),some (.ref Nm),some (.ref Sp),a,b,some (.ref Mn),some (.ref Rw),c,none,none,none,none,none,none,none] τ) rfl
  (λX q=>q _ [] (menuT ps) _ _ _ ⟨hSr7,hM6.ch c7 (ni ne4.symm),hRw.ch c7 (ni ne3.symm),hSp6.ch c7 (ni nSS.symm),CV _,λx hx=>absurd hx am,bI _,λh=>absurd h (iE _)⟩) (λJ J J J J J J J=>rfl) (λk x K hk hK τ as M a b c H=>?_) λτ as M a b c H=>?_
 ·have hkn:k<n:=by have:=(bP.mp hk).1;rw[ay,sL] at this;exact this
  have m1:Ch [] τ (τ.new (.lst [])):=Ch.new _ _
  induction M using bQ with
  | nil=>
   refine bG (λK q=>ge H.mn false rfl q) (hK _ _ λX q=>q _ as [] _ _ _ ⟨H.sr.ch m1 am,H.mn.ch m1 am,H.rw.ch m1 am,H.sp.ch m1 am,H.pm,H.vt,xx H.le,λJ e=>?_⟩);have:=H.pm.length_eq;rw[e] at this;exact mlen this.symm
  | cons y0 M0=>
   generalize eM:y0::M0=M at*;obtain hMl:M.length≠0:=by erw[aD eM];exact Nat.succ_ne_zero _
   obtain hMs:M.length<100:=by
    obtain h1:=H.pm.length_eq;have h2:(menuT ps).length<=12:=by
     unfold menuT;refine al List.length_flatMap ?_;have:∀l:List (List Nat),(l.map λp=>(lcs.map λl=>(pc p++l,p,l)).length).sum=3*l.length:=λl=>by
      induction l with
      | nil=>rfl
      | cons a l ih=>((erw[bi];erw[List.sum_cons];erw[ih]);rewrite[ay];erw[dW]);refine (?_:3+_=_);lia
     (rewrite[this];erw[dW];rewrite[ay]);lia
    rw[bR] at h1;lia
   refine d7 (λK q=>ge H.mn true (by refine al (aD eM) ?_;rfl) q) ?_
   have hM1:=H.mn.ch m1 am;have hR1:=H.rw.ch m1 am;have hP1:=H.sp.ch m1 am;have hS1:=H.sr.ch m1 am;generalize τ.new (.lst [])=pS at hM1 hR1 hP1 hS1 ⊢;refine ml (C:=λQ=>∀σ' A x B,M=A++x::B->af σ' Mn (.lst ((A++B).map lA))->af σ' Rw (.lst (as.map cR))->af σ' Sp (.lst (ps.map aX))->jC σ' Sr->Q (lA x) σ') (λQ q=>⟨_,eH hM1.eq rfl,(lZ hM1.eq).builtin<| pM G ?_ hS1 (λi ci i0 i1 hs2 c2=>?_) (by decide)⟩) λci A x B eMx hM2 hR2 hP2 hS2=>AN ?_
   ·rewrite[ay];exact IU (by (with_reducible assumption)) (m:=99) (by (with_reducible exact Nat.le_of_lt_succ ‹_›)) rfl
   ·rw[ay] at i1;(refine aI λkK=>?_;obtain ⟨A,x,B,eN,en⟩:=BM i0 i1;refine kK ?_;clear kK);have hM2:=hM1.ch c2 (ni ne4.symm);have hR2:=hR1.ch c2 (ni ne3.symm);have hP2:=hP1.ch c2 (ni nSS.symm);rw[eN,bq,bi] at hM2;obtain c3:Ch [Mn] ci (ci.set Mn (.lst (A.map lA++B.map lA))):=Ch.set _ _ (.head _);refine (EM hM2.eq (by rewrite[ay];exact en)).builtin<| q _ A x B eN (by erw[bq];exact hM2.set) (hR2.ch c3 (ni ne1.symm)) (hP2.ch c3 (ni ne5)) (hs2.ch c3 (ni ne4))
   refine ln (C:=λQ=>∀v σ' as M,L2 σ' Sr Mn Rw Sp (k+1) ps as M->Q v σ') (λQ q=>⟨_,eH hR2.eq rfl,pM G ⟨by decide,by decide⟩ hS2 (λi jb i0 i1 hs3 c3=>?_) (by decide)⟩) λv σ' as' M' H'=>hK _ _ λX q=>q _ as' M' _ _ _ H'
   have hM3:=hM2.ch c3 (ni ne4.symm);have hR3:=hR2.ch c3 (ni ne3.symm);have hP3:=hP2.ch c3 (ni nSS.symm);obtain hv:=VF i.toNat (sI.mpr (by lia))
   rw[show ((i.toNat:Nat):Int)=i by lia] at hv
   obtain hlog:i.natAbs.log2<1920:=dA (Nat.log2_le_self _) (by lia)
   refine (EL i hlog).type<| ?_;generalize (cz (toString i)).cps.toList=v at hv ⊢;obtain c4:Ch [Rw] jb (jb.set Rw (.lst (as.map cR++[cR (x,v)]))):=Ch.set _ _ (.head _);refine (dK hR3.eq (by have:=H.le;(rewrite[ay];erw[bH]);lia)).builtin<| q _ _ (as++[(x,v)]) (A++B) ⟨hs3.ch c4 (ni ne3),hM3.ch c4 (ni ne1),by refine al bq ?_;exact hR3.set,hP3.ch c4 (ni ne2),?_,λz hz=>?_,by have:=H.le;refine al bR (al qf ?_);(with_reducible exact pX ‹_›),λJ e=>by simp at e⟩
   ·refine List.Perm.trans ?_ H.pm
    ((erw[eMx];erw[bq]);rewrite[fU])
    exact List.Perm.append_left _ (show (x::(A++B)).Perm (A++x::B) from List.perm_middle.symm)
   ·rcases dH.mp hz with h | h
    ·exact H.vt z h
    ·rw[aF] at h;refine al h ?_;exact hv
 ·rw[ay,sL] at H;have ok:(aK.mk ps as).Ok:=by
   refine ⟨by have:=H.le;refine (?_:ps.length+as.length<8);lia,λp hp=>⟨hpt p hp,hut p hp⟩,λx hx=>?_,nd1,nd2,?_⟩
   ·have:=mmem x.1 (H.pm.mem_iff.mp (mM _ (aL.mpr ⟨x,hx,rfl⟩)));exact ⟨this.1,H.vt x hx,this.2⟩
   ·exact (H.pm.nodup_iff.mpr mnd).sublist (L9 ..)
  obtain bA:as≠[]:=H.ne (by lia)
  have hal:as.length≠0:=λe=>bA (List.length_eq_zero_iff.mp e);have hle:=H.le;refine AK (C:=λQ=>∀σ',Q (.bool true) σ') (λQ q=>KC<| T.le (KG G ok H.sp H.rw λgJ c8=>?_) (by decide)) λσ'=>q _
  refine KE<| (lZ (H.rw.ch c8 am).eq).builtin<| pM G ?_ (H.sr.ch c8 am) (λi jb i0 i1 hs3 c3=>?_) (by decide)
  ·rewrite[ay];exact IU hal (ck hle n4) rfl
  ·rw[ay] at i1;(refine aI λkK=>?_;obtain ⟨A,x,B,eN,en⟩:=BM i0 i1;refine kK ?_;clear kK);obtain hx:as[A.length]? =some x:=by ((erw[eN];erw[oe (bI _)]);rewrite[Nat.sub_self]);rfl
   refine al en ?_;exact KM G ok (i:=A.length) hx ((H.sp.ch c8 am).ch c3 (ni nSS.symm)) ((H.rw.ch c8 am).ch c3 (ni ne3.symm)) λσ' c=>q _
end
noncomputable def BN(s:String)(v:ab):Sure (v= .type s):=(dec (v.ctorIdx=(Value.type s).ctorIdx)).bind λh=>Value.type.elim (motive:=λv=>Sure (v= .type s)) v h.1 λt=>(dec (t=s)).map λh=>⟨congrArg _ h.1⟩
noncomputable def BO(s:String)(v:ab):Sure (v= .builtin s):=(dec (v.ctorIdx=(Value.builtin s).ctorIdx)).bind λh=>Value.builtin.elim (motive:=λv=>Sure (v= .builtin s)) v h.1 λt=>(dec (t=s)).map λh=>⟨congrArg _ h.1⟩
noncomputable def w0(a:aa)(v:ab):Sure (v= .ref a):=(dec (v.ctorIdx=(jg a).ctorIdx)).bind λh=>Value.ref.elim (motive:=λv=>Sure (v= .ref a)) v h.1 λt=>(dec (t=a)).map λh=>⟨congrArg _ h.1⟩
noncomputable def BP(v:ab):Option {p:Str × Tok // v= .str p.1 p.2}:=(dec (v.ctorIdx=(kA default 0).ctorIdx)).bind λh=>Value.str.elim (motive:=λv=>Option {p:Str × Tok // v= .str p.1 p.2}) v h.1 λx t=>some ⟨(x,t),rfl⟩
noncomputable def BQ(v:ab):Option {a:aa // v= .ref a}:=(dec (v.ctorIdx=(jg 0).ctorIdx)).bind λh=>Value.ref.elim (motive:=λv=>Option {a:aa // v= .ref a}) v h.1 λa=>some ⟨a,rfl⟩
noncomputable def w3{p:ab->Prop}(k:∀v,Sure (p v))(o:Option (Option ab)):Sure (∃v,o=some (some v)/\p v):=match o with
 | some (some v)=>(k v).map λh=>⟨v,rfl,h.1⟩
 | _=>none
noncomputable def KR(o:Option (Option ab)):Sure (o=some none):=match o with
 | some none=>some ⟨rfl⟩
 | _=>none
theorem w4{o:Option (Option ab)}{w:ab}(h:∃v,o=some (some v)/\v=w):o=some (some w):=by
 obtain ⟨v,e,rfl⟩:=h;exact e
noncomputable def fnOf(o:Obj):Option {fd:FuncData // o.data= .func fd}:=match o with
 | ⟨_,_,.func fd,_⟩=>some ⟨fd,rfl⟩
 | _=>none
noncomputable def VL(o:Obj):Option {p:Array ab × Nat // o.data= .seq p.1 p.2}:=match o with
 | ⟨_,_,.seq vs n,_⟩=>some ⟨(vs,n),rfl⟩
 | _=>none
noncomputable def VM(o:Obj):Option {vs:Array ab // o.data= .fields vs}:=match o with
 | ⟨_,_,.fields vs,_⟩=>some ⟨vs,rfl⟩
 | _=>none
noncomputable def VN(o:Obj):Option {cd:ClassData // o.data= .cls cd}:=match o with
 | ⟨_,_,.cls cd,_⟩=>some ⟨cd,rfl⟩
 | _=>none
theorem fn_get:fH [] (.type "function") "__get__"=some (some (.builtin "function.__get__")):=by kernel_rfl
theorem VO:fH [] (.type "function") "__set__"=some none:=by kernel_rfl
theorem VP:fH [] (.type "function") "__delete__"=some none:=by kernel_rfl
theorem KU{K:Frag}{m:aa}(t:typeIn K (.ref m)=some (.type "function")):specialIn K (.ref m) "__get__"=some (some (.builtin "function.__get__"))/\takesIn K (.ref m)=some false:=by
 have s (n:Str):specialIn K (.ref m) n=fH [] (.type "function") n:=by unfold specialIn;erw[t];rfl
 refine ⟨(s _).trans fn_get,?_⟩;unfold takesIn;(rewrite[s];erw[VO];rewrite[s];erw[VP]);rfl
noncomputable def isFn(K:Frag)(m:aa):Sure (typeIn K (.ref m)=some (.type "function")):=(opt (typeIn K (.ref m))).bind λv=>(BN "function" v.1).map λh=>⟨v.2.trans (congrArg some h.1)⟩
noncomputable def KW:Nat->Nat->List Nat
 | 0,J1=>[]
 | n+1,f=>cond (cf f 0) [] ((f - 1) % 1114113::KW n ((f - 1) / 1114113))
noncomputable def strN(f:Nat):Str:=st (KW 60 f)
noncomputable def KX(f:Nat):Sure (∀x,good x=true->nm x=f->x=strN f):=(dec (good (strN f)=true)).bind λh1=>(dec (nm (strN f)=f)).map λh2=>⟨λx hx e=>xK hx h1.1 (e.trans h2.1.symm)⟩
noncomputable def KY(f:Nat):Sure (∀x,good x=true->nm x=f->x=strN f/\pV.contains x=false):=(KX f).bind λh=>(dec (pV.contains (strN f)=false)).map λh3=>⟨λx hx e=>have q:=h.1 x hx e;⟨q,q▸h3.1⟩⟩
noncomputable def KZ(K:Frag)(C:aa):Sure (xY K C):=(w3 (BO "object.__getattribute__") (fH K (.ref C) "__getattribute__")).bind λh1=>(KR (fH K (.ref C) "__getattr__")).bind λh2=>(w3 (BO "object.__setattr__") (fH K (.ref C) "__setattr__")).bind λh3=>
 (dec (plainOver K C=true)).bind λh4=>(dec ((clsIn K C).any (·.hasDict)=true)).map λh5=>⟨⟨w4 h1.1,h2.1,w4 h3.1,h4.1,h5.1⟩⟩
noncomputable def gG{β:Type}(p:Nat->β->Bool):NTree β->Bool
 | .leaf=>true
 | .node a k v b=>p k v && gG p a && gG p b
theorem lB{β:Type}{p:Nat->β->Bool}:∀{t:NTree β},gG p t=true->∀{n:Nat}{v:β},t.find n=some v->p n v=true
 | .leaf,J1,n,v,e=>by exact aU e
 | .node a k w b,h,n,v,e=>by
  obtain ⟨h1,h2,h3⟩:=Ep h;unfold NTree.find at e
  induction q:cf n k using bC with
  | true=>rw[q] at e;cases e;erw[mJ q];exact h1
  | false=>
   rw[q] at e
   induction q2:jM n k using bC with
   | true=>rw[q2] at e;exact lB h2 e
   | false=>rw[q2] at e;exact lB h3 e
noncomputable def w5(a:AV)(v:ab):Sure (∀h μ,VR h μ a v):=match a with
 | .none=>(dec (v.ctorIdx=iI.ctorIdx)).bind λh=>Value.none.elim (motive:=λv=>Sure (∀h μ,VR h μ .none v)) v h.1 (some ⟨λJ J=> .none⟩)
 | .bool b=>(dec (v.ctorIdx=(Value.bool b).ctorIdx)).bind λh=>Value.bool.elim (motive:=λv=>Sure (∀h μ,VR h μ (.bool b) v)) v h.1 λc=>(dec (b=c)).map λ(e:PLift (b=c))=>⟨λJ J=>e.1▸.bool _⟩
 | .int i=>(dec (v.ctorIdx=(Value.int i 0).ctorIdx)).bind λh=>Value.int.elim (motive:=λv=>Sure (∀h μ,VR h μ (.int i) v)) v h.1 λj t=>(dec (i=j)).map λ(e:PLift (i=j))=>⟨λJ J=>e.1▸.int _ _⟩
 | .str s=>(BP v).bind λp=>(dec (p.1.1.cps.toList=s)).bind λe=>(dec (s.length<=aY)).map λl=>⟨λJ J=>have q:=VR.str s p.1.2 l.1;p.2▸(show p.1.1=st s from e.1▸rfl)▸q⟩
 | .con (.ref a)=>(w0 a v).map λ(e:PLift (v= .ref a))=>⟨λJ J=>e.1▸.con _⟩
 | .con (.builtin a)=>(BO a v).map λ(e:PLift (v= .builtin a))=>⟨λJ J=>e.1▸.con _⟩
 | .con (.type a)=>(BN a v).map λ(e:PLift (v= .type a))=>⟨λJ J=>e.1▸.con _⟩
 | _=>none
noncomputable def BS{Y:aE->List (List aa)->Prop}(k:(a:AV)->(v:ab)->Sure (∀h μ,Y h μ->VR h μ a v)):(as:List AV)->(vs:List ab)->Sure (∀h μ,Y h μ->aB h μ as vs)
 | [],[]=>some ⟨λJ J J=> .nil⟩
 | a::as,v::vs=>(k a v).bind λe=>(BS k as vs).map λf=>⟨λh μ y=> .cons (e.1 h μ y) (f.1 h μ y)⟩
 | J1,J2=>none
abbrev nK(L:aa->Option Obj)(h:aE):Prop:=∀a o,L a=some o->h.get? a=some o
noncomputable def VQ(o:Obj):Option {vs:Array ab // ∃n,o={cls:= .type "tuple",data:= .seq vs n}}:=match o with
 | ⟨c,none,.seq vs n,sl⟩=>(BN "tuple" c).bind λe=>(dec (sl=#[])).map λf=>⟨vs,n,by ((erw[e.1];erw[f.1]);ac_rfl)⟩
 | _=>none
noncomputable def K0(L:aa->Option Obj):Nat->(a:AV)->(v:ab)->Sure (∀h μ,nK L h->VR h μ a v)
 | n+1,.tup xs,v=>(BQ v).bind λa=>(opt (L a.1)).bind λo=>(VQ o.1).bind λvs=>(dec (xs.length<=aY)).bind λl=>(BS (Y:=λh J=>nK L h) (K0 L n) xs vs.1.toList).map λr=>
   ⟨λh μ y=>a.2▸(let ⟨n,e⟩:=vs.2;.tup l.1 (e▸y _ _ o.2) (r.1 h μ y))⟩
 | J1,a,v=>(w5 a v).map λe=>⟨λh μ J=>e.1 h μ⟩
noncomputable def K1(sn:List (Str × cv)):(names:List Str)->(ix:List Nat)->Sure (ix.length=names.length/\∀(k:Nat) x i,names[k]? =some x->ix[k]? =some i->bM x sn 0=some (i,.local)\/bM x sn 0=some (i,.cell))
 | [],[]=>some ⟨rfl,λk x i e=>by rw[List.getElem?_nil] at e;exact aU e⟩
 | y::ys,j::js=>(dec (bM y sn 0=some (j,.local)\/bM y sn 0=some (j,.cell))).bind λh=>(K1 sn ys js).map λr=>⟨congrArg (· +1) r.1.1,λk x i=>match k with
  | 0=>λe1 e2=>aO e1▸aO e2▸h.1
  | k+1=>λe1 e2=>r.1.2 k x i e1 e2⟩
 | J1,J2=>none
noncomputable def VS(L:aa->Option Obj)(q:Str)(v:ab):Sure (∀h,nK L h->h.CodeRec v q):=(BQ v).bind λc=>(opt (L c.1)).bind λo=>(VM o.1).bind λvs=>(opt vs.1[1]?).bind λx=>(BP x.1).bind λy=>(dec (y.1.1=q)).map λ(e:PLift (y.1.1=q))=>
 ⟨λh y'=>⟨c.1,o.1,vs.1,y.1.2,c.2,y' _ _ o.2,vs.2,x.2.trans (congrArg some (y.2.trans (e.1▸rfl)))⟩⟩
abbrev K3(L:aa->Option Obj)(dfl:List AV)(n:Nat)(v:ab):Prop:=∃dv:List ab,(∀h,nK L h->(v= .none/\dv=[])\/∃T o k,v= .ref T/\h.get? T=some o/\o.data= .seq dv.toArray k)/\(∀h μ,aB h μ dfl dv)/\dv.length<=n
noncomputable def VV(L:aa->Option Obj)(dfl:List AV)(n:Nat)(v:ab):Sure (K3 L dfl n v):=match dfl with
 | []=>(dec (v.ctorIdx=iI.ctorIdx)).bind λh=>Value.none.elim (motive:=λv=>Sure (K3 L [] n v)) v h.1 (some ⟨[],λJ J=> .inl ⟨rfl,rfl⟩,λJ J=> .nil,du _⟩)
 | dfl=>(BQ v).bind λa=>(opt (L a.1)).bind λo=>(VL o.1).bind λvs=>(BS (Y:=λJ J=>True) (λa v=>(w5 a v).map λe=>⟨λh μ J=>e.1 h μ⟩) dfl vs.1.1.toList).bind λr=>(dec (vs.1.1.toList.length<=n)).map λl=>
   ⟨vs.1.1.toList,λh y=> .inr ⟨a.1,o.1,vs.1.2,a.2,y _ _ o.2,vs.2⟩,λh μ=>r.1 h μ trivial,l.1⟩
noncomputable def VW(b:FuncBody):Option {ss:List Stmt // b= .stmts ss}:=match b with
 | .stmts ss=>some ⟨ss,rfl⟩
 | _=>none
noncomputable def VX(p:Arguments):Sure (yx p (p.args.map (·.arg))):=(dec (p.posonlyargs.isEmpty=true)).bind λh1=>(dec (p.kwonlyargs.isEmpty=true)).bind λh2=>(dec (p.vararg.isNone=true)).bind λh3=>(dec (p.kwarg.isNone=true)).bind λh4=>(dec (p.args.map (·.arg)).Nodup).map λh5=>
 ⟨⟨CG.mp h1.1,CG.mp h2.1,xw.mp h3.1,xw.mp h4.1,rfl,h5.1⟩⟩
noncomputable def VY(L:aa->Option Obj)(m n:Nat)(ix:List Nat)(dfl:List AV)(body:au):Sure (∀P:PW,nK L P.h₀->P.h₀.NoLimit->yB P m n ix dfl body):=
 (opt (L m)).bind λo=>(fnOf o.1).bind λfd=>(dec (fd.1.closure.isEmpty=true)).bind λh1=>(VS L fd.1.qualname fd.1.code).bind λh2=>(VW fd.1.body).bind λss=>(dec ((EA body ⟨fd.1.scope.names,.none⟩ ss.1).isSome=true)).bind λh3=>(dec (fd.1.globals=mainNs)).bind λh4=>(dec (fd.1.builtins=sE)).bind λh5=>
 (dec (fd.1.scope.isCoroutine=false)).bind λh6=>(dec (fd.1.scope.isGenerator=false)).bind λh7=>(dec (fd.1.scope.kind= .function)).bind λh8=>(VX fd.1.params).bind λh9=>(VV L dfl (fd.1.params.args.map (·.arg)).length fd.1.defaults).bind λh10=>(dec (fd.1.scope.names.length=n)).bind λh11=>(dec (fd.1.scope.names.map (·.1)).Nodup).bind λh12=>(K1 fd.1.scope.names (fd.1.params.args.map (·.arg)) ix).map λh13=>
 ⟨λP y hN=>let ⟨dv,d1,d2,d3⟩:=h10.1;⟨⟨o.1,fd.1,ss.1,_,dv,y _ _ o.2,fd.2,CG.mp h1.1,h2.1 _ y,ss.2,h3.1,h4.1,h5.1,h6.1,h7.1,h8.1,h9.1,d1 _ y,d2,d3,h11.1,h12.1,h13.1.1,h13.1.2⟩,hN⟩⟩
noncomputable def w6:(es:List cC)->Sure (∀e∈es,∃n t,e.key= .str n t)
 | []=>some ⟨λJ h=>nomatch h⟩
 | e::r=>(BP e.key).bind λk=>(w6 r).map λf=>⟨CM.mpr ⟨⟨_,_,k.2⟩,f.1⟩⟩
noncomputable def mz(el:List cC)(x:Str):Option ab:=(el.find? (·.key.isStr x)).map (·.val)
theorem w7{es:Array cC}{x:Str}:gj es x=mz es.toList x:=by
 unfold gj findBy mz;(erw[aD (Array.find?_toList)];ac_rfl)
noncomputable def entryIn(L:aa->Option Obj)(a:aa):Frag:=match L a with | some o=>[(a,o)] | none=>[]
noncomputable def fragOf(L:aa->Option Obj):List aa->Frag
 | []=>[]
 | a::r=>(match L a with
  | some ⟨c,d,.cls cd,sl⟩=>(a,⟨c,d,.cls cd,sl⟩)::entryIn L cd.ns
  | some o=>[(a,o)]
  | none=>[])++fragOf L r
set_option tactic.hygienic true in
theorem VZ{L:aa->Option Obj}{a:aa}:∀p∈entryIn L a,L p.1=some p.2:=λp hp=>by
 unfold entryIn at hp
 split at hp
 ·rename_i o ho;cases aF.mp hp;exact ho
 ·exact absurd hp am
set_option tactic.hygienic true in
theorem K4{L:aa->Option Obj}:∀{as:List aa},∀p∈fragOf L as,L p.1=some p.2
 | [],p,hp=>by exact absurd hp am
 | a::r,p,hp=>by
  rcases dH.mp (hp:p∈(match L a with | some ⟨c,d,.cls cd,sl⟩=>(a,⟨c,d,.cls cd,sl⟩)::entryIn L cd.ns | some o=>[(a,o)] | none=>[])++fragOf L r) with h | h
  ·induction ho:L a using bf with
   | none=>rw[ho] at h;exact absurd h am
   | some o=>
    rw[ho] at h;obtain ⟨c,d,dt,sl⟩:=o;have key:p∈[(a,(⟨c,d,dt,sl⟩:Obj))]->L p.1=some p.2:=λh=>by rw[aF] at h;erw[h];exact ho
    cases dt with
    | cls cd=>
     rcases aV.mp h with e | h
     ·erw[e];exact ho
     ·exact VZ p h
    | _=>exact key h
  ·exact K4 p h
theorem V0{K:Frag}{a:aa}{o:Obj}:K.lookup a=some o->(a,o)∈K:=by
 induction K with
 | nil=>intro h;exact aU h
 | cons p r ih=>
  obtain ⟨b,q⟩:=p;intro h;rw[eO] at h
  induction e:a==b using bC with
  | true=>rw[e] at h;(have hH:=aO h;clear h;subst hH);erw[beq_iff_eq.mp e];exact .head _
  | false=>rw[e] at h;exact .tail _ (ih h)
theorem BU{L:aa->Option Obj}{h:aE}(hL:∀a o,L a=some o->h.get? a=some o){as:List aa}:(fragOf L as).In h:=λa o e=>hL _ _ (K4 _ (V0 e))
noncomputable def BV:NTree (List (Nat × aa))->List aa
 | .leaf=>[]
 | .node a k v b=>k::v.map (·.2)++BV a++BV b
abbrev V1(K:Frag)(c f:Nat):Prop:=∀x,good x=true->nm x=f->fH K (.ref c) x=some .none/\pV.contains x=false
abbrev V2(K:Frag)(c f m:Nat):Prop:=∀x,good x=true->nm x=f->fH K (.ref c) x=some (some (.ref m))/\typeIn K (.ref m)=some (.type "function")/\specialIn K (.ref m) "__get__"=some (some (.builtin "function.__get__"))/\takesIn K (.ref m)=some false/\pV.contains x=false
noncomputable def K5(K:Frag)(c:Nat):(fs:List Nat)->Sure (∀f∈fs,V1 K c f)
 | []=>some ⟨λJ h=>nomatch h⟩
 | f::r=>(KY f).bind λn=>(KR (fH K (.ref c) (strN f))).bind λe=>(K5 K c r).map λk=>⟨CM.mpr ⟨λx hx q=>⟨(n.1 x hx q).1▸e.1,(n.1 x hx q).2⟩,k.1⟩⟩
noncomputable def K6(K:Frag)(c:Nat):(fs:List (Nat × aa))->Sure (∀f∈fs,V2 K c f.1 f.2)
 | []=>some ⟨λJ h=>nomatch h⟩
 | f::r=>(KY f.1).bind λn=>(w3 (w0 f.2) (fH K (.ref c) (strN f.1))).bind λe=>(isFn K f.2).bind λt=>(K6 K c r).map λk=>⟨CM.mpr ⟨λx hx q=>⟨(n.1 x hx q).1▸w4 e.1,t.1,(KU t.1).1,(KU t.1).2,(n.1 x hx q).2⟩,k.1⟩⟩
noncomputable def V3(K:Frag)(C fI:aa):Sure (∀P:PW,K.In P.h₀->yD P C fI):=(dec (makesIn K C=true)).bind λh1=>(w3 (w0 fI) (fH K (.ref C) "__init__")).bind λh2=>(isFn K fI).bind λh3=>(opt (K.lookup C)).bind λo=>(VN o.1).map λcd=>
 ⟨λP X=>⟨⟨K,X,h1.1,w4 h2.1,h3.1⟩,_,cd.1,X _ _ o.2,cd.2⟩⟩
noncomputable def V4(L:aa->Option Obj)(K:Frag)(m:Nat)(e:Ent):Sure (∀P:PW,nK L P.h₀->K.In P.h₀->P.h₀.NoLimit->jX P m e):=match e with
 | .fn n ix dfl body=>(VY L m n ix dfl body).map λh=>⟨λP y J hN=>h.1 P y hN⟩
 | .cls fI=>(V3 K m fI).map λh=>⟨λP J X J=>h.1 P X⟩
 | .orc _=>some ⟨λJ J J J=>trivial⟩
 | .ask=>some ⟨λJ J J J=>trivial⟩
noncomputable def inR(lo hi a:Nat):Bool:=jM lo a && gm a hi
noncomputable def tupTab:List (Nat × aa):=[(ze,1996),(zc,150),(y8,133),(zg,146)]
noncomputable def V5(lo hi:Nat)(L:aa->Option Obj)(K:Frag):Bool:=
 (gG (λc fs=>!inR lo hi c || ((KZ K c).isSome && (K5 K c fs).isSome)) pd && gG (λc fs=>!inR lo hi c || ((KZ K c).isSome && (K6 K c fs).isSome)) nn) &&
 gG (λm e=>!inR lo hi m || (V4 L K m e).isSome) wc &&
 tupTab.all λp=>!inR lo hi p.2 || match ru.find p.1 with | some v=>(K0 L 3 v (.ref p.2)).isSome | none=>true
noncomputable def sf(lo hi:Nat)(L:aa->Option Obj):Bool:=V5 lo hi L (fragOf L (BV nn))
def BW(h:aE)(lo hi:Nat):Prop:=∃L:aa->Option Obj,nK L h/\sf lo hi L=true
def Dict(h:aE)(a:aa)(el:List cC):Prop:=∃o es ep,h.get? a=some o/\o.data= .dict es ep/\StrKeys es/\es.toList=el
abbrev K7(g:Nat)(v:AV)(val:ab):Prop:=(∀h μ,VR h μ v val)\/∃p∈tupTab,p.1=g/\val= .ref p.2
noncomputable def V6(g:Nat)(v:AV)(val:ab):Sure (K7 g v val):=match v with
 | .tup _=>(opt (tupTab.find? λp=>cf p.1 g)).bind λp=>(w0 p.1.2 val).map λh=>⟨.inr ⟨p.1,List.mem_of_find?_eq_some p.2,mJ (List.find?_some (p:=λp:Nat × aa=>cf p.1 g) p.2),h.1⟩⟩
 | v=>(w5 v val).map λh=>⟨.inl h.1⟩
abbrev V7(em eb:List cC)(g:Nat)(v:AV):Prop:=∃val,K7 g v val/\∀x,good x=true->nm x=g->mz em x=some val\/mz em x=none/\mz eb x=some val
noncomputable def K8(em eb:List cC)(g:Nat)(v:AV):Sure (V7 em eb g v):=(KX g).bind λn=>match e:mz em (strN g) with
 | some val=>(V6 g v val).map λh=>⟨val,h.1,λx hx q=> .inl (n.1 x hx q▸e)⟩
 | none=>(opt (mz eb (strN g))).bind λw=>(w5 v w.1).map λh=>⟨w.1,.inl h.1,λx hx q=> .inr ⟨n.1 x hx q▸e,n.1 x hx q▸w.2⟩⟩
theorem K9{f:Nat}:∀{l:List Nat},ph f l=true->f∈l
 | [],h=>by exact (eh h)
 | g::r,h=>by
  rewrite[S3] at h
  induction q:cf f g using bC with
  | true=>erw[mJ q];exact .head _
  | false=>rw[q] at h;exact .tail _ (K9 h)
theorem La{f m:Nat}:∀{l:List (Nat × aa)},pi f l=some m->(f,m)∈l
 | [],h=>by exact aU h
 | (g,a)::r,h=>by
  rewrite[S4] at h
  induction q:cf f g using bC with
  | true=>rw[q] at h;cases h;erw[mJ q];exact .head _
  | false=>rw[q] at h;exact .tail _ (La h)
theorem w8{a b:Bool}(h:(!a || b)=true)(k:a=true):b=true:=by subst k;exact h
theorem V8{P:PW}{lo hi:Nat}{em eb:List cC}(hin:(gG (λc J=>inR lo hi c) pd && gG (λc J=>inR lo hi c) nn && gG (λc J=>inR lo hi c) wc && tupTab.all λp=>inR lo hi p.2)=true)
  (hs:∀a,inR lo hi a=true->∃l h,inR l h a=true/\BW P.h₀ l h) (hm:Dict P.h₀ mainNs em) (hb:Dict P.h₀ sE eb) (hg:gG (λg v=>(K8 em eb g v).isSome) ru=true) (hsys:∃o,P.h₀.get? gk=some o) (hN:P.h₀.NoLimit):Gd P:=by
 obtain ⟨hin,i4⟩:=d4 hin;obtain ⟨i1,i2,i3⟩:=Ep hin;refine ⟨⟨hsys,λc f e=>?_,λc f m e=>?_,λg v e=>?_⟩,λm e he=>?_⟩
 ·have e:(match pd.find c with | some l=>ph f l | none=>false)=true:=e
  induction q:pd.find c using bf with
  | none=>rw[q] at e;exact (eh e)
  | some l=>
   rw[q] at e;obtain ⟨l',h,r,L,hL,k⟩:=hs c (lB i1 q);have k:=d4 (w8 (lB (d4 (d4 (d4 k).1).1).1 q) r);exact ⟨_,BU hL,Sure.get k.1,Sure.get k.2 f (K9 e)⟩
 ·have e:(match nn.find c with | some l=>pi f l | none=>none)=some m:=e
  induction q:nn.find c using bf with
  | none=>rw[q] at e;exact aU e
  | some l=>
   rw[q] at e;obtain ⟨l',h,r,L,hL,k⟩:=hs c (lB i2 q);have k:=d4 (w8 (lB (d4 (d4 (d4 k).1).1).2 q) r);exact ⟨_,BU hL,Sure.get k.1,Sure.get k.2 (f,m) (La e)⟩
 ·obtain ⟨o,es,ep,m1,m2,m3,rfl⟩:=hm;obtain ⟨o',es',ep',b1,b2,b3,rfl⟩:=hb;obtain ⟨val,V,F⟩:=Sure.get (lB hg (n:=g) (v:=v) e);refine ⟨val,λh μ B=>?_,λx hx ex h B=>(F x hx ex).imp (λq=>⟨gj es,⟨o,es,ep,B _ _ m1,m2,m3,λJ=>rfl⟩,w7.trans q⟩) λq=>⟨gj es,gj es',⟨o,es,ep,B _ _ m1,m2,m3,λJ=>rfl⟩,w7.trans q.1,⟨o',es',ep',B _ _ b1,b2,b3,λJ=>rfl⟩,w7.trans q.2⟩⟩;rcases V with V | ⟨p,hp,rfl,rfl⟩
  ·exact V h μ
  ·obtain ⟨l',h',r,L,hL,k⟩:=hs _ (jI.mp i4 p hp);have k:=w8 (jI.mp (d4 k).2 p hp) r;rw[show ru.find p.1=some v from e] at k
   exact Sure.get k h μ λa o e=>B _ _ (hL a o e)
 ·obtain ⟨l',h,r,L,hL,k⟩:=hs m (lB i3 he);exact Sure.get (w8 (lB (d4 (d4 k).1).2 he) r) P hL (BU hL) hN
noncomputable abbrev BX:String->Option Builtin:=Fast.tw14364793385576792824
noncomputable abbrev i7:Option ab:=some (.ref 6)
noncomputable abbrev Lb(p:dk)(w:bk)(n:Nat):SharedT->Thread->Option (Flow × SharedT × Code × Pos):=Fast.tw10110043849684766642 BX p w 11 i7 1 n
theorem V9{p:dk}{w:bk}{n:Nat}{s s':SharedT}{t:Thread}{f:Flow}{c:Code}{q:Pos}(h:Lb p w n s t=some (f,s',c,q)):segRun gT p w 11 i7 1 n s.abs t=some (f,s'.abs,c,q):=
 segRun_of (by (erw[Ma];erw[Fast.te10110043849684766642]);exact h)
noncomputable def j9:Nat->(Nat->Obj)->qk
 | 0,J1=> .nil
 | d+1,f=> .node (f 0) (j9 d λi=>f (2*i+1)) (j9 d λi=>f (2*i+2))
theorem pN:∀{d:Nat}{f:Nat->Obj}{i:Nat},i+1<2 ^ d->(j9 d f).get i=some (f i)
 | 0,f,i,h=>by lia
 | d+1,f,i,h=>by
  have h2:2 ^ (d+1)=2*2 ^ d:=by lia
  refine (?_:(PySem.W.BT.node _ _ _).get i=_);rewrite[PySem.W.BT.get_node];by_cases h0:i=0
  ·((erw[if_pos h0];erw[h0]);ac_rfl)
  ·erw[if_neg h0];by_cases h1:i % 2=1
   ·(erw[if_pos h1];erw[pN (by lia)])
    exact congrArg (some<| f ·) (by lia)
   ·(erw[if_neg h1];erw[pN (by lia)])
    exact congrArg (some<| f ·) (by lia)
noncomputable def jD(T:qk)(a:Nat):Obj:=(T.get a).getD default
theorem Wa{T T':qk}{n:Nat}{life:Life}(h:∀i,i<n->jD T i=jD T' i):absHeap T n life=absHeap T' n life:=
 congrArg (λl:List Obj=>(⟨l.toArray,life⟩:aE)) (p4 λi hi=>h i (sI.mp hi))
noncomputable def kb(a:Nat):List (Nat × Obj)->Option Obj
 | []=>none
 | p::r=>match cf a p.1 with
  | true=>some p.2
  | false=>kb a r
theorem Lc{a:Nat}{p:Nat × Obj}{r:List (Nat × Obj)}:kb a (p::r)=match cf a p.1 with | true=>some p.2 | false=>kb a r:=rfl
noncomputable def ff(sp:List (Nat × Obj))(g:Nat->Obj)(a:Nat):Obj:=match kb a sp with
 | some o=>o
 | none=>g a
noncomputable def i8(sp:List (Nat × Obj))(g:Nat->Obj)(n toks:Nat)(os:gU):SharedT:=⟨j9 12 (ff sp g),n,{},ql [],qm,toks,os⟩
noncomputable def BZ(sp:List (Nat × Obj))(n:Nat)(f:Nat->Obj)(a:Nat):Obj:=cond (gm a n && (kb a sp).isNone) (f a) default
noncomputable def w9(lo hi:Nat)(T:qk)(a:aa):Option Obj:=match inR lo hi a with
 | true=>(T.get a).bind alive
 | false=>none
structure Out where
 f:Flow
 c:Code
 pos:Pos
 n:Nat
 life:Life
 gens:Array GenState
 drawn:Drawn
 toks:Nat
 os:gU
 sp:List Obj
 old:qk
 ok:Bool
noncomputable def Ld(sp:List (Nat × Obj))(n n':Nat)(r:Flow × SharedT × Code × Pos):Out:=
 ⟨r.1,r.2.2.1,r.2.2.2,r.2.1.n,r.2.1.life,r.2.1.gens,r.2.1.drawn,r.2.1.toks,r.2.1.os,sp.map λp=>jD r.2.1.tree p.1,j9 12 (BZ sp n (jD r.2.1.tree)),sf n n' (w9 n n' r.2.1.tree)⟩
noncomputable def Le(sp:List (Nat × Obj))(n n' toks:Nat)(c:Code)(pos:Pos)(os:gU)(g:Nat->Obj):Out:=
 ⟨.next,c,pos,n',{},ql [],qm,toks,os,sp.map (·.2),j9 12 (BZ sp n g),true⟩
theorem Lf{T:qk}{a:Nat}{o:Obj}:∀{sp:List (Nat × Obj)},(sp.map λp=>jD T p.1)=sp.map (·.2)->kb a sp=some o->jD T a=o
 | [],J1,h=>by exact aU h
 | p::r,e,h=>by
  rewrite[Lc] at h;injection e with e1 e2
  induction q:cf a p.1 using bC with
  | true=>rw[q] at h;(have hH:=aO h;clear h;subst hH);erw[mJ q];exact e1
  | false=>rw[q] at h;exact Lf e2 h
theorem Wb{sp:List (Nat × Obj)}{n n' toks:Nat}{c:Code}{pos:Pos}{os:gU}{g:Nat->Obj}{r:Flow × SharedT × Code × Pos}(h:Ld sp n n' r=Le sp n n' toks c pos os g)(hn:n'<4095):
  r=(.next,r.2.1,c,pos)/\r.2.1.abs=(i8 sp (jD r.2.1.tree) n' toks os).abs/\(∀a,a<n'->a<n->kb a sp=none->jD r.2.1.tree a=g a)/\sf n n' (w9 n n' r.2.1.tree)=true:=by
 obtain ⟨f,⟨T,m,life,gens,drawn,tk,os'⟩,c',q⟩:=r;injection h with e1 e2 e3 e4 e5 e6 e7 e8 e9 e10 e11 e12;dsimp only at e1 e2 e3 e4 e5 e6 e7 e8 e9 e10 e11 e12;subst e1 e2 e3 e4 e5 e6 e7 e8 e9;refine ⟨rfl,?_,λa h1 h2 h3=>?_,e12⟩
 ·refine (?_:(⟨absHeap T _ _,_,_,_,_⟩:aj)=⟨absHeap (j9 12 _) _ _,_,_,_,_⟩);congr 1;refine Wa λi (hi:i<m)=>?_;refine (?_:_=((j9 12 _).get i).getD default);erw[pN (by lia)]
  refine (?_:_=ff sp _ i);unfold ff
  induction q:kb i sp using bf with
  | none=>rfl
  | some o=>exact Lf e10 q
 ·have:(j9 12 _).get a=(j9 12 _).get a:=congrArg (λt=>t.get a) e11;rw[pN (by lia),pN (by lia)] at this
  injection this with this;unfold BZ at this;rw[h3,show gm a n=true from xI h2] at this
  exact this
def mA(g:Nat->Obj)(lo hi:Nat):Prop:=∃L:aa->Option Obj,(∀a o,L a=some o->inR lo hi a=true/\alive (g a)=some o)/\sf lo hi L=true
theorem mB{lo hi a:Nat}(h:inR lo hi a=true):lo<=a/\a<hi:=⟨aq (d4 h).1,aq (d4 h).2⟩
theorem mA.mono{g g':Nat->Obj}{lo hi:Nat}(h:mA g lo hi)(k:∀a,lo<=a->a<hi->g' a=g a):mA g' lo hi:=by
 obtain ⟨L,h1,h2⟩:=h;exact ⟨L,λa o e=>⟨(h1 a o e).1,by erw[k a (mB (h1 a o e).1).1 (mB (h1 a o e).1).2];exact (h1 a o e).2⟩,h2⟩
theorem Wc{T:qk}{lo hi:Nat}(h:sf lo hi (w9 lo hi T)=true):mA (jD T) lo hi:=⟨_,λa o e=>by
 unfold w9 at e
 induction q:inR lo hi a using bC with
 | false=>rw[q] at e;exact aU e
 | true=>
  rw[q] at e;obtain ⟨x,e1,e2⟩:=p3.mp e;refine ⟨rfl,?_⟩;unfold jD;erw[e1];exact e2,h⟩
theorem Lg{sp:List (Nat × Obj)}{g:Nat->Obj}{n toks:Nat}{os:gU}{a:Nat}(h:a<n)(hn:n<4095):(i8 sp g n toks os).abs.heap.get? a=alive (ff sp g a):=
 abs_get h (pN (by lia))
theorem mA.ok{sp:List (Nat × Obj)}{g:Nat->Obj}{n toks:Nat}{os:gU}{lo hi:Nat}(h:mA g lo hi)(k:hi<=n)(hn:n<4095)(hs:∀a,lo<=a->kb a sp=none):BW (i8 sp g n toks os).abs.heap lo hi:=by
 obtain ⟨L,h1,h2⟩:=h;refine ⟨L,λa o e=>?_,h2⟩;obtain ⟨q1,q2⟩:=h1 a o e;erw[Lg (bX (mB q1).2 k) hn];unfold ff;erw[hs a (mB q1).1];exact q2
noncomputable abbrev pw:dk:=PySem.Challenge.pw_sm0083_01
noncomputable def xd(w:bk)(x:Str)(t:Nat)(v:ab):cC:=⟨sF w.params x,.str x t,v⟩
noncomputable def r_(x:String)(t a:Nat)(w:bk):cC:=xd w (.ofString x) t (.ref a)
noncomputable def v_(x:String)(t:Nat)(v:ab)(w:bk):cC:=xd w (.ofString x) t v
noncomputable def Lh:List (bk->cC):=[v_ "__doc__" 166 .none,v_ "__package__" 167 .none,v_ "__loader__" 168 (.builtin "__main__.__loader__#opaque"),v_ "__spec__" 169 .none,r_ "__annotations__" 170 6,r_ "__builtins__" 171 4,v_ "__file__" 173 (.str (.ofString "/claim/cut.py") 172),v_ "__cached__" 174 .none,r_ "_wall" 193 21,r_ "MarkupError" 224 38,r_ "SyntaxFault" 251 59,r_ "EntityFault" 267 71,r_ "LimitFault" 283 83,r_ "DtdFault" 310 103,r_ "NamespaceFault" 326 115,r_ "TreeFault" 342 127,v_ "SPACES_chars" 346 (.str (.ofString " \t\n\x0d") 345),r_ "CHAR_RANGES" 353 133,r_ "START_RANGES" 378 146,r_ "MORE_RANGES" 385 150,v_ "FIRST_BEYOND" 387 (.int 128 386),r_ "is_in_ranges" 397 157,r_ "is_space" 404 164,r_ "is_char" 412 171,r_ "is_small_letter" 419 178,r_ "is_name_start" 426 185,r_ "is_name_char" 433 192,r_ "first_other" 441 199,r_ "is_nmtoken" 449 206,r_ "is_name" 456 213,r_ "is_ncname" 463 220,r_ "split_name" 472 227,r_ "plain_ends" 479 234,r_ "space_split" 489 241,r_ "collapsed" 496 248,r_ "is_blank" 504 255,v_ "XML_URI_bindings" 508 (.str (.ofString "http://www.w3.org/XML/1998/namespace") 507),v_ "XMLNS_URI" 510 (.str (.ofString "http://www.w3.org/2000/xmlns/") 509),r_ "declared_prefix" 517 262,r_ "check_binding" 525 269,r_ "Bindings" 629 343,v_ "KIND" 633 (.int 0 632),v_ "LABEL" 635 (.int 1 634),v_ "VALUE" 637 (.int 2 636),v_ "ATTRIBUTES" 639 (.int 3 638),v_ "CHILDREN" 641 (.int 4 640),r_ "text_form" 648 354,r_ "comment_form" 655 361,r_ "instruction_form" 663 368,r_ "element_form" 672 375,r_ "root_form" 679 382,r_ "is_same" 690 389,r_ "are_same" 696 394,r_ "joined" 705 401,v_ "DECLARED" 709 (.str (.ofString "xmlns") 708),r_ "rows_of" 721 408,r_ "one_form" 731 415,r_ "form_of" 737 420,r_ "add_node" 754 427,r_ "grown" 760 432,r_ "FlatForm" 836 477,r_ "may_match" 846 488,r_ "unlike_attributes" 852 493,r_ "own_cost" 860 500,r_ "Matching" 945 545,r_ "own_edits" 960 556,r_ "inner_tasks" 974 563,r_ "edits_of" 985 570,r_ "diff" 993 577,r_ "build" 1009 585,r_ "add_start" 1026 592,r_ "left_end" 1036 599,r_ "LIST_KINDS" 1042 600,r_ "AttributeRule" 1091 631,r_ "blank_words" 1097 640,r_ "normalised" 1105 647,r_ "words_of" 1113 654,r_ "is_word" 1121 661,r_ "fits" 1131 668,r_ "MARKS" 1137 669,v_ "PCDATA" 1139 (.str (.ofString "#PCDATA") 1138),v_ "MOST_DEEP" 1141 (.int 60 1140),r_ "read_mark" 1149 676,r_ "Group" 1198 707,r_ "read_group" 1208 718,r_ "goes_on" 1217 725,r_ "read_mixed" 1226 732,r_ "read_spec" 1233 739,r_ "read_whole" 1241 746,r_ "Notation" 1276 763,r_ "Dtd" 1408 857,r_ "DtdScanner" 1563 984,r_ "declaration_end" 1574 995,v_ "DIGITS" 1578 (.str (.ofString "0123456789") 1577),v_ "HEX_DIGITS" 1580 (.str (.ofString "0123456789abcdef") 1579),v_ "MOST_DIGITS" 1582 (.int 12 1581),r_ "value_of_digits" 1593 1002,r_ "without_noughts" 1601 1009,r_ "code_of" 1607 1014,r_ "char_of" 1617 1022,r_ "predefined" 1624 1029,r_ "text_escape" 1631 1036,r_ "value_escape" 1638 1043,r_ "escaped_text" 1644 1048,r_ "escaped_value" 1650 1053,v_ "VALUE_SPACES" 1654 (.str (.ofString "\t\x0d\n") 1653),r_ "Growth" 1717 1098,r_ "Pending" 1775 1140,r_ "Stack" 1831 1182,r_ "growth_for" 1839 1193,r_ "text_in_value" 1851 1201,r_ "sign_or_entity" 1861 1208,r_ "blank_spaces" 1869 1215,r_ "literal_value" 1881 1223,r_ "literal_part" 1892 1230,r_ "PLAIN_KINDS" 1903 1231,r_ "WORDS" 1908 1232,v_ "PUBLIC_SIGNS" 1910 (.str (.ofString " \x0d\n-'()+,./:=?;!*#@$_%") 1909),r_ "OpenText" 1942 1249,r_ "put_in" 1959 1261,r_ "opened" 1971 1268,r_ "DtdReader" 2135 1362,r_ "read_choices" 2145 1373,r_ "read_kind" 2154 1380,r_ "read_outer" 2164 1387,r_ "public_name" 2174 1394,r_ "read_dtd" 2185 1402,r_ "Cursor" 2339 1520,v_ "LETTERS" 2343 (.str (.ofString "abcdefghijklmnopqrstuvwxyzABCDEFGHIJKLMNOPQRSTUVWXYZ") 2342),v_ "FIGURES" 2345 (.str (.ofString "0123456789") 2344),r_ "check_chars" 2354 1531,r_ "read_start" 2369 1538,r_ "read_equals" 2376 1545,r_ "read_attribute" 2388 1552,r_ "read_end" 2396 1559,r_ "read_comment" 2405 1566,r_ "read_instruction" 2415 1573,r_ "read_cdata" 2424 1580,r_ "read_word_value" 2432 1587,r_ "is_encoding" 2440 1594,r_ "is_version" 2448 1601,r_ "read_declaration" 2461 1608,r_ "is_public_sign" 2468 1615,r_ "read_public" 2474 1620,r_ "read_system" 2483 1627,r_ "read_outer_name" 2491 1634,r_ "read_inner" 2500 1641,r_ "read_doctype" 2512 1648,v_ "SPACES_entities" 2516 (.str (.ofString " \t\x0d\n") 2515),v_ "TEXT_HEAD" 2518 (.str (.ofString "<?xml") 2517),v_ "ORDER_MARK" 2520 (.str (.ofString "﻿") 2519),r_ "Limits" 2553 1666,r_ "Entity" 2602 1701,r_ "plain_reference" 2610 1712,r_ "pass_head" 2617 1719,r_ "without_head" 2627 1726,r_ "plain_outer" 2635 1733,r_ "EntityTable" 2746 1815,r_ "Events" 2792 1850,r_ "Frame" 2827 1871,r_ "Reader" 2994 1991,r_ "PARENTS" 2999 1996,r_ "NodeRow" 3041 2013,r_ "Tree" 3294 2202,v_ "START" 3298 (.int 0 3297),r_ "add_all" 3304 2211,r_ "Automaton" 3464 2312,v_ "WORDS_KIND" 3468 (.str (.ofString "IDREFS") 3467),r_ "walk_elements" 3479 2323,r_ "id_of" 3491 2330,r_ "id_table" 3503 2337,r_ "references" 3516 2344,r_ "broken_references" 3530 2351,r_ "Checker" 3614 2404,r_ "outermost" 3623 2415,r_ "check" 3639 2422,r_ "with_defaults" 3649 2429,r_ "attributes_told" 3663 2436,r_ "Declared" 3705 2460,r_ "read_into" 3719 2472,r_ "read_document" 3730 2479,r_ "Side" 3804 2524,r_ "merged_value" 3814 2535,r_ "by_key" 3820 2540,r_ "merged_attributes" 3826 2545,r_ "merged_insertions" 3836 2552,r_ "Merge" 3932 2604,r_ "merged" 3945 2615,v_ "XML_URI_order" 3947 (.str (.ofString "http://www.w3.org/XML/1998/namespace") 3946),v_ "DECLARATION" 3951 (.str (.ofString "<?xml version=\"1.0\" encoding=\"UTF-8\"?>\n") 3950),r_ "prefix_of" 3958 2622,r_ "written_comment" 3965 2629,r_ "written_instruction" 3973 2636,r_ "plain_node" 3982 2643,r_ "declared" 3988 2648,r_ "start_tag" 4002 2655,r_ "inner_scope" 4013 2662,r_ "write" 4019 2668,v_ "_law_named" 4023 (.str (.ofString "http://www.w3.org/2000/xmlns/") 4022),r_ "_law_pool" 4034 2675,r_ "_law_take" 4043 2682,r_ "_law_one" 4051 2689,r_ "_law_text" 4057 2694,r_ "_law_form" 4063 2699,r_ "_law_read" 4074 2706,r_ "_law_whole_right" 4085 2713,r_ "_law_change_right" 4091 2718,r_ "law" 4097 2723]
noncomputable def Wd:List (Nat × Nat):=[(1,20),(5,27),(10,47),(15,67),(17,79),(19,91),(24,111),(26,123),(34,156),(41,163),(43,170),(48,177),(50,184),(54,191),(60,198),(65,205),(70,212),(72,219),(74,226),(84,233),(86,240),(94,247),(96,254),(104,261),(112,268),(126,275),(195,353),(197,360),(199,367),(201,374),(203,381),(205,388),(213,393),(215,400),(227,407),(236,414),(247,419),(257,426),(273,431),(284,438),(328,487),(330,492),(340,499),(342,506),(393,555),(400,562),(411,569),(424,576),(427,584),(448,591),(467,598),(473,606),(486,639),(488,646),(492,653),(496,660),(500,667),(518,675),(523,682),(539,717),(555,724),(563,731),(577,738),(587,745),(593,752),(599,773),(669,867),(746,994),(763,1001),(773,1008),(778,1013),(787,1021),(794,1028),(806,1035),(816,1042),(826,1047),(828,1052),(832,1059),(857,1108),(880,1150),(902,1192),(904,1200),(915,1207),(923,1214),(927,1222),(936,1229),(949,1238),(954,1260),(979,1267),(987,1274),(1120,1372),(1133,1379),(1144,1386),(1158,1393),(1164,1401),(1169,1408),(1254,1530),(1258,1537),(1277,1544),(1281,1551),(1290,1558),(1296,1565),(1303,1572),(1316,1579),(1322,1586),(1326,1593),(1333,1600),(1340,1607),(1362,1614),(1364,1619),(1370,1626),(1374,1633),(1384,1640),(1405,1647),(1426,1654),(1431,1676),(1444,1711),(1447,1718),(1458,1725),(1468,1732),(1473,1739),(1523,1825),(1538,1860),(1545,1881),(1684,2002),(1696,2023),(1801,2210),(1808,2217),(1898,2322),(1906,2329),(1915,2336),(1922,2343),(1930,2350),(1938,2357),(2009,2414),(2014,2421),(2027,2428),(2034,2435),(2044,2442),(2053,2471),(2061,2478),(2066,2485),(2097,2534),(2103,2539),(2105,2544),(2117,2551),(2123,2558),(2168,2614),(2180,2621),(2182,2628),(2186,2635),(2190,2642),(2199,2647),(2220,2654),(2227,2661),(2232,2667),(2255,2674),(2260,2681),(2267,2688),(2269,2693),(2272,2698),(2277,2705),(2280,2712),(2288,2717),(2296,2722)]
noncomputable def We(w:bk)(nm:String)(t k:Nat):Obj:={cls:= .type "dict",data:= .dict ⟨xd w (.ofString "__name__") 165 (.str (.ofString nm) t)::(Lh.take k).map λf=>f w⟩ (k+1)}
noncomputable def Wf(k:Nat):Obj:={cls:= .none,data:= .fields ⟨(Wd.take k).flatMap λp=>[.int p.1 0,.int 0 0,.ref p.2]⟩}
noncomputable def Wg(w:bk)(l:List cC):Obj:={cls:= .none,data:= .dict ⟨l⟩ l.length}
noncomputable def Wh(w:bk):List cC:=[v_ "type.__subclasses__.Exception.0" 221 (.int 38 0) w,v_ "type.__subclasses__.Exception.n" 222 (.int 1 0) w]
noncomputable def Wi:Obj:={cls:= .type "code",data:= .fields ⟨[.str (.ofString "<module>") 182,.str (.ofString "<module>") 183,.str (.ofString "/claim/cut.py") 184,.int 1 0,.int 0 0,.int 0 0,.int 0 0,.int 0 0,.ref 11,.bool false,.int 181 0,.ref 12,.none,.none,.none,.none,.int 185 0,.int 1 0,.str (.ofString "/claim/cut.py") 186]⟩}
noncomputable def Li(w:bk)(nm:String)(t k j:Nat)(l:List cC):List (Nat × Obj):=[(3,We w nm t k),(12,Wf j),(13,Wi),(0,boot_o_0 w.params),(4,boot_o_4 w.params),(2,Wg w l),(1,boot_o_1 w.params),(5,boot_o_5 w.params)]
noncomputable abbrev SP:=bk->List (Nat × Obj)
noncomputable def nM:Env:={scope:=pw.main.scope,locals:=mainNs,globals:=mainNs,cells:=[],code:= .ref 13,frame:=some 14}
noncomputable def body:List Stmt:=behindTheImports pw
noncomputable def i9:Code:= .body body nM
noncomputable def iA:Pos:=⟨0,0,0,0⟩
noncomputable def xe:SP:=λw=>Li w "__main__" 164 8 0 []
noncomputable def spS(nm:String)(t k j:Nat):SP:=λw=>Li w nm t k j (Wh w)
noncomputable def Lj:SP:=spS "markupmill.chars" 343 22 9
noncomputable def Lk:SP:=spS "markupmill.matching" 837 61 40
noncomputable def Ll:SP:=spS "markupmill.content_model" 1132 84 59
noncomputable def Lm:SP:=spS "markupmill.references" 1575 104 76
noncomputable def Ln:SP:=spS "markupmill.dtd_reader" 1893 122 90
noncomputable def Lq:SP:=spS "markupmill.tags" 2340 141 107
noncomputable def Lr:SP:=spS "markupmill.reader" 2747 159 122
noncomputable def Ls:SP:=spS "markupmill.tree" 2995 164 126
noncomputable def Lu:SP:=spS "markupmill.house" 3664 179 139
noncomputable def B0:SP:=spS "law_sm0083_01" 4020 204 161
noncomputable def sg:SP:=spS "law_sm0083_01" 4020 208 165
abbrev PZ{β:Type}(Z:aj->β)(z:β)(w:bk)(os:gU)(g:Nat->Obj)(M j k:Nat)(sp sp':SP)(n n' t t':Nat)(p p':Pos):Prop:=(Lb pw w M (i8 (sp w) g n t os) (piecesOf ((body.drop j).take k) nM i9 p [oh iA])).map (λr=>(Ld (sp' w) n n' r,Z r.2.1.abs))=some (Le (sp' w) n n' t' i9 p' os g,z)
noncomputable abbrev kc(s:aj):Unit:=()
noncomputable def qv:dk:=view pw [227]
noncomputable def sj:List Str:=pw.boundNames.filter λx=>!(x=="law") && !startupNames.contains x
noncomputable def B1(w:bk)(s:aj):Bool:=staticsOk (qn pw.main.body) (iL w.params) s.heap && namesBound pw s.heap && gensDone s && laidKept (iL w.params) s.heap
noncomputable def B2(s:aj):=Fast.tw4187177175401517315 qv sj (qn pw.main.body) (λJ=>true) true s
theorem Wj(w os g):PZ kc () w os g 1776 0 16 xe Lj 15 158 187 398 ⟨0,0,0,0⟩ ⟨34,0,40,16⟩:=by kernel_rfl
theorem Wk(w os g):PZ kc () w os g 1840 16 44 Lj Lk 158 482 398 839 ⟨34,0,40,16⟩ ⟨327,0,327,8⟩:=by kernel_rfl
theorem Wl(w os g):PZ kc () w os g 1541 60 27 Lk Ll 482 712 839 1199 ⟨327,0,327,8⟩ ⟨523,0,538,50⟩:=by kernel_rfl
theorem Wm(w os g):PZ kc () w os g 1994 87 23 Ll Lm 712 1049 1199 1645 ⟨523,0,538,50⟩ ⟨826,0,827,56⟩:=by kernel_rfl
theorem Wn(w os g):PZ kc () w os g 2206 110 20 Lm Ln 1049 1367 1645 2136 ⟨826,0,827,56⟩ ⟨987,0,1119,62⟩:=by kernel_rfl
theorem Wo(w os g):PZ kc () w os g 1227 130 21 Ln Lq 1367 1602 2136 2449 ⟨987,0,1119,62⟩ ⟨1333,0,1339,15⟩:=by kernel_rfl
theorem Wp(w os g):PZ kc () w os g 1707 151 20 Lq Lr 1602 1855 2449 2793 ⟨1333,0,1339,15⟩ ⟨1523,0,1537,44⟩:=by kernel_rfl
theorem Wq(w os g):PZ kc () w os g 2204 171 6 Lr Ls 1855 2207 2793 3295 ⟨1523,0,1537,44⟩ ⟨1696,0,1798,16⟩:=by kernel_rfl
theorem Wr(w os g):PZ kc () w os g 1701 177 19 Ls Lu 2207 2465 3295 3706 ⟨1696,0,1798,16⟩ ⟨2044,0,2052,81⟩:=by kernel_rfl
theorem Ws(w os g):PZ kc () w os g 1433 196 28 Lu B0 2465 2700 3706 4064 ⟨2044,0,2052,81⟩ ⟨2272,0,2276,93⟩:=by kernel_rfl
theorem Wt(w os g):PZ (B1 w) true w os g 119 224 4 B0 sg 2700 2724 4064 4098 ⟨2272,0,2276,93⟩ ⟨2296,0,2311,107⟩:=by kernel_rfl
theorem Wu(w os g):PZ B2 (openGood qv sj) w os g 119 224 4 B0 sg 2700 2724 4064 4098 ⟨2272,0,2276,93⟩ ⟨2296,0,2311,107⟩:=by kernel_rfl
noncomputable abbrev Lv:Code->Sem Fin:=Fast.tw11892475500146522536 BX
theorem Wv:denote gT=Lv:=by ((erw[Fast.te11892475500146522536];erw[Ma]);ac_rfl)
theorem Ww{p q:dk}{loose:List Str}{Xt:aj->Bool}{α:Type}{Yf:aj->α}{Ya:bk->α}{N:Nat}{g0:Bool}{m₀:Nat}{ann:Option ab}{M:Nat}
  (open_:∀w:bk,(fencedOpening gT p w N).map (λs=>(s.heap,s.gens,s.drawn,s.toks))=some (iL w.params,ql [],qm,boot_toks))
  (size:∀w:bk,((iL w.params).isNs mainGlobals,(iL w.params).objs.size,(iL w.params).nsMap mainGlobals "__annotations__")=(true,m₀,ann))
  (run:∀(w:bk)(os:gU),∃ah:aj,topRun gT p w m₀ ann M ⟨iL w.params,ql [],qm,boot_toks,os⟩ (topStub p)=some ah/\
   (staticsOk (qn p.main.body) (iL w.params) ah.heap && namesBound p ah.heap && gensDone ah && laidKept (iL w.params) ah.heap)=true/\openSeen q loose (qn p.main.body) Xt g0 ah=openGood q loose/\Yf ah=Ya w)
  (le:jM M N=true):LeftO p q loose Xt Yf Ya N g0:=λw=>by
 obtain ⟨⟨h,gs,d,k,os⟩,e,e'⟩:=bW.mp (open_ w);obtain ⟨rfl,rfl,rfl,rfl⟩:h=iL w.params/\gs=ql []/\d=qm/\k=boot_toks:=by simpa using e'
 obtain ⟨z1,z2,z3⟩:_/\_/\_:=by simpa only [Prod.mk.injEq] using size w
 obtain ⟨ah,r,l1,l2,l3⟩:=run w os;have r:=topRun_mono (N - M) _ _ _ _ r;rw[show M+(N - M)=N by have:=aq le;lia] at r
 have t:topFrom gT p w N ⟨iL w.params,ql [],qm,boot_toks,os⟩=some ah:=by
  unfold topFrom;dsimp only;(erw[z1];erw[z2];erw[z3];erw[r]);refine (?_:(match staticsOk (qn p.main.body) (iL w.params) ah.heap && namesBound p ah.heap && gensDone ah && laidKept (iL w.params) ah.heap with | true=>some ah | false=>none)=_)
  (erw[l1];ac_rfl)
 unfold openEnds;erw[e];refine (?_:(topFrom gT p w N _).map _=_);erw[t];exact congrArg some (iK l2 l3)
noncomputable def B3(w:bk)(n:Nat):aj->Thread->Option (aj × Thread):=Fast.tw15667345088766844465 BX pw w 11 i7 n
noncomputable def xf(w:bk)(os:gU):aj:=⟨iL w.params,ql [],qm,boot_toks,os⟩
noncomputable def g0(w:bk)(os:gU)(a:Nat):Obj:=match B3 w 12 (xf w os) (topStub pw) with
 | some r=>(r.1.heap.objs.toList[a]?).getD default
 | none=>default
theorem Wx(w:bk)(os:gU):B3 w 12 (xf w os) (topStub pw)=some ((i8 (xe w) (g0 w os) 15 187 os).abs,⟨Lv i9,i9,iA,[oh iA]⟩):=by kernel_rfl
theorem Wy(w:bk)(s:aj):segRun gT pw w 11 i7 1 1 s (blockOf body nM i9 iA [oh iA])=some (.next,s,i9,iA):=by kernel_rfl
def pO(g:Nat->Obj)(n:Nat):Prop:=∀a,inR 15 n a=true->∃l h,15<=l/\h<=n/\inR l h a=true/\mA g l h
theorem pO.more{g g':Nat->Obj}{n n':Nat}(h:pO g n)(k:∀a,a<n->15<=a->g' a=g a)(s:mA g' n n')(h0:15<=n)(hl:n<=n'):pO g' n':=λa ha=>by
 by_cases q:a<n
 ·obtain ⟨l,u,e1,e2,e3,e4⟩:=h a (by (rewrite[inR];erw[xI (mB ha).1]);exact xI q)
  exact ⟨l,u,e1,ck e2 hl,e3,e4.mono λb h1 h2=>k b (bX h2 e2) (ck e1 h1)⟩
 ·exact ⟨n,n',h0,bI _,by (rewrite[inR];erw[xI (fV q)]);exact xI (mB ha).2,s⟩
theorem B4{m a:Nat}(h:m<=a):∀{sp:List (Nat × Obj)},(sp.all λp=>gm p.1 m)=true->kb a sp=none
 | [],J1=>rfl
 | p::r,e=>by
  obtain ⟨e1,e2⟩:=d4 e;erw[Lc]
  induction q:cf a p.1 using bC with
  | true=>have:=aq e1;rw[mJ q] at h;lia
  | false=>exact B4 h e2
theorem Wz{α β γ δ:Type}{o:Option α}{f:α->β}{g:α->γ}{h:α->δ}{a:β}{b:γ}{c:δ}(x:(o.map λr=>(f r,g r))=some (a,b))(y:(o.map λr=>(f r,h r))=some (a,c)):(o.map λr=>(f r,g r,h r))=some (a,b,c):=by
 induction o using bf with
 | none=>exact aU x
 | some r=>
  have x:=Prod.mk.inj (aO x);have y:=Prod.mk.inj (aO y);exact congrArg some (iK x.1 (iK x.2 y.2))
theorem jE{β:Type}{Z:aj->β}{z:β}{w:bk}{os:gU}{g:Nat->Obj}{M N j k n n' toks toks':Nat}{sp sp':SP}{pos pos':Pos}{X:aj->Prop}(h:PZ Z z w os g M j k sp sp' n n' toks toks' pos pos')(hn:(gm n' 4095 && (jM 15 n && jM n n') && (sp' w).all λp=>gm p.1 15)=true)(A:pO g n)
  (K:∀g',pO g' n'->Z (i8 (sp' w) g' n' toks' os).abs=z->∃ah,topRun gT pw w 11 i7 N (i8 (sp' w) g' n' toks' os).abs (restOf (body.drop (j+k)) nM i9 pos' [oh iA])=some ah/\X ah):
  ∃ah,topRun gT pw w 11 i7 (M+N) (i8 (sp w) g n toks os).abs (restOf (body.drop j) nM i9 pos [oh iA])=some ah/\X ah:=by
 obtain ⟨r,e,h⟩:=bW.mp h;injection h with h hz;obtain ⟨hn,a4⟩:=d4 hn;obtain ⟨a1,a23⟩:=d4 hn;obtain ⟨a2,a3⟩:=d4 a23;have a3:=aq a3;obtain ⟨h1,h2,h3,h4⟩:=Wb h (aq a1);obtain ⟨ah,e1,x⟩:=K (jD r.2.1.tree) (A.more (λa ha hb=>h3 a (bX ha a3) ha (B4 hb a4)) (Wc h4) (aq a2) a3) (h2▸hz);rw[h1] at e;rw[<-xu] at e1;have:=piece_app (V9 e) (h2▸e1);rw[kE] at this;exact ⟨ah,this,x⟩
noncomputable def sk(w:bk):List cC:=xd w (.ofString "__name__") 165 (.str (.ofString "law_sm0083_01") 4020)::(Lh.take 208).map λf=>f w
noncomputable def xg(w:bk):List cC:=match (boot_o_0 w.params).data with | .dict es _=>es.toList | _=>[]
structure lC(w:bk)(h:aE):Prop where
 seg:∀a,inR 15 2724 a=true->∃l u,inR l u a=true/\BW h l u
 main:Dict h mainNs (sk w)
 blt:Dict h sE (xg w)
 sys:∃o,h.get? gk=some o
theorem Dict.mono{h h':aE}{a:aa}{l:List cC}(d:Dict h a l)(k:∀b o,h.get? b=some o->h'.get? b=some o):Dict h' a l:=by
 obtain ⟨o,es,ep,e1,r⟩:=d;exact ⟨o,es,ep,k _ _ e1,r⟩
theorem lC.mono{w:bk}{h h':aE}(H:lC w h)(k:∀b o,h.get? b=some o->h'.get? b=some o):lC w h':=
 ⟨λa ha=>by
  obtain ⟨l,u,e,L,h1,h2⟩:=H.seg a ha;exact ⟨l,u,e,L,λa o e=>k _ _ (h1 a o e),h2⟩,H.main.mono k,H.blt.mono k,by obtain ⟨o,e⟩:=H.sys;exact ⟨o,k _ _ e⟩⟩
theorem WA(w:bk):(w6 (sk w)).isSome=true:=by kernel_rfl
theorem WB(w:bk):(w6 (xg w)).isSome=true:=by kernel_rfl
theorem Lw{es:Array cC}(h:(w6 es.toList).isSome=true):StrKeys es:=λe he=>Sure.get h e (Array.mem_toList_iff.mpr he)
theorem B5{w:bk}{g:Nat->Obj}{os:gU}{a:Nat}{o:Obj}(h:a<2724)(e:ff (sg w) g a=o){o':Obj}(e':alive o=some o'):(i8 (sg w) g 2724 4098 os).abs.heap.get? a=some o':=by
 ((erw[Lg h (by lia)];erw[e];erw[e']);ac_rfl)
theorem WC{w:bk}{g:Nat->Obj}{os:gU}(A:pO g 2724):lC w (i8 (sg w) g 2724 4098 os).abs.heap:=
 ⟨λa ha=>by
  obtain ⟨l,u,e1,e2,e3,e4⟩:=A a ha;exact ⟨l,u,e3,e4.ok e2 (by lia) λb hb=>B4 (ck e1 hb) rfl⟩,
  ⟨_,⟨sk w⟩,_,B5 (by decide) rfl rfl,rfl,Lw (WA w),rfl⟩,⟨_,⟨xg w⟩,_,B5 (by decide) rfl rfl,rfl,Lw (WB w),rfl⟩,⟨_,B5 (by decide) rfl rfl⟩⟩
theorem WD{w:bk}{n:Nat}{s:aj}{t:Thread}{r:aj × Thread}(h:B3 w n s t=some r):topGo gT pw w 11 i7 n s t=some r:=by
 (erw[Ma];erw[Fast.te15667345088766844465]);exact h
theorem WE(w:bk)(s:aj):topRun gT pw w 11 i7 9 s (restOf (body.drop 228) nM i9 ⟨2296,0,2311,107⟩ [oh iA])=some s:=by kernel_rfl
def HX(w:bk)(s:aj):Prop:=B1 w s=true/\B2 s=openGood qv sj/\lC w s.heap
theorem WF(w:bk)(os:gU):∃ah,topRun gT pw w 11 i7 20000 (xf w os) (topStub pw)=some ah/\HX w ah:=by
 have key:∃ah,topRun gT pw w 11 i7 (1776+(1840+(1541+(1994+(2206+(1227+(1707+(2204+(1701+(1433+(119+9))))))))))) (i8 (xe w) (g0 w os) 15 187 os).abs (restOf (body.drop 0) nM i9 iA [oh iA])=some ah/\HX w ah:=by
  refine jE (Wj w os _) (by rfl) (λa ha=>absurd (mB ha).1 (Nat.not_le.mpr (mB ha).2)) λg1 A1 J=>?_
  refine jE (Wk w os _) (by rfl) A1 λg2 A2 J=>?_
  refine jE (Wl w os _) (by rfl) A2 λg3 A3 J=>?_
  refine jE (Wm w os _) (by rfl) A3 λg4 A4 J=>?_
  refine jE (Wn w os _) (by rfl) A4 λg5 A5 J=>?_
  refine jE (Wo w os _) (by rfl) A5 λg6 A6 J=>?_
  refine jE (Wp w os _) (by rfl) A6 λg7 A7 J=>?_
  refine jE (Wq w os _) (by rfl) A7 λg8 A8 J=>?_
  refine jE (Wr w os _) (by rfl) A8 λg9 A9 J=>?_
  refine jE (Ws w os _) (by rfl) A9 λg10 A10 J=>?_
  refine jE (Z:=λs=>(B1 w s,B2 s)) (Wz (Wt w os _) (Wu w os _)) (by rfl) A10 λg11 A6 e6=>?_
  injection e6 with e6 e7;exact ⟨_,WE w _,e6,e7,WC A6⟩
 obtain ⟨ah,e,x⟩:=key;refine ⟨ah,?_,x⟩;have p:topGo gT pw w 11 i7 12 (xf w os) (topStub pw)=some ((i8 (xe w) (g0 w os) 15 187 os).abs,⟨denote gT i9,i9,iA,[oh iA]⟩):=by
  erw[Wv];exact WD (Wx w os)
 exact topRun_mono 2230 _ _ _ _ (go_top p (piece_block (Wy w _) e))
theorem Lx{R:WRecords}:∀{xs:List WData},WShape.hasItems R xs .int=true->∃is:List Int,xs=is.map .int
 | [],J1=>⟨[],rfl⟩
 | x::xs,h=>by
  obtain ⟨h1,h2⟩:=d4 (show (WShape.has R x .int && WShape.hasItems R xs .int)=true from h)
  obtain ⟨is,rfl⟩:=Lx h2;cases x with
  | int i=>exact ⟨i::is,rfl⟩
  | _=>exact eh (show false=true from h1)
noncomputable abbrev sm:OpenRow:=sZ.row
theorem WG{args:List WData}(h:sm.toRowW.claim.pre args=true):∃is:List Int,args=[.list (is.map .int)]/\is.length<=63:=by
 obtain ⟨h1,h2⟩:=d4 (show (WShape.hasAll [] args [.list .int] && WTm.holds [] sZ.pre {args:=args})=true from h)
 induction args using bQ with
 | nil=>exact eh (show false=true from h1)
 | cons x r=>
  obtain ⟨h3,h4⟩:=d4 (show (WShape.has [] x (.list .int) && WShape.hasAll [] r [])=true from h1)
  induction r using bQ with
  | cons _ _=>exact eh (show false=true from h4)
  | nil=>
   cases x with
   | list xs=>
    obtain ⟨is,rfl⟩:=Lx (R:=[]) (by
     have h3:(WShape.hasItems [] xs .int || false)=true:=h3;rw[Bool.or_false] at h3;exact h3)
    refine ⟨is,rfl,fV λq=>?_⟩;have h2:WTm.holds [] (.and (.not (.lit (.bool (decide ((63:Int)<((is.map WData.int).length:Nat)))))) (.lit (.bool true))) {args:=[]}=true:=h2;rw[ay,decide_eq_true (by lia)] at h2
    exact (eh h2)
   | _=>exact eh (show false=true from h3)
theorem all_ints{w:bk}{h:aE}:∀{is:List Int}{vs:List ab},WellAll w.params h vs (is.map .int)->∀h μ,aB h μ (is.map AV.int) vs
 | [],vs,H,J1,J2=>by cases H;exact .nil
 | i::is,vs,H,h',μ=>by
  cases H with | cons a r=>cases a;exact .cons (.int _ _) (all_ints r h' μ)
theorem WH(w:bk):gG (λg v=>(K8 (sk w) (xg w) g v).isSome) ru=true:=by kernel_rfl
theorem WI:(gG (λc J=>inR 15 2724 c) pd && gG (λc J=>inR 15 2724 c) nn && gG (λc J=>inR 15 2724 c) wc && tupTab.all λp=>inR 15 2724 p.2)=true:=by kernel_rfl
theorem WJ(w:bk):mz (sk w) "law"=some (.ref o8):=by kernel_rfl
theorem WK:1000<=aY:=by decide+kernel
theorem WL(args:List WData):(sm.toRowW.claim.post args (.bool true) args)=true:=by kernel_rfl
set_option tactic.hygienic true in
theorem WM{w w':bk}{s:aj}{mg:Str->Option ab}{cl:Str->Option aa}{mean:ExcName->Option ab}(hm:s.heap.Ns mainGlobals mg)(hN:s.heap.NoLimit)(H:lC w' s.heap){a:aa}(ha:mg "law"=some (.ref a))(hg:s.gens=#[]){args:List WData}{vals:List ab}(hp:sm.toRowW.claim.pre args=true)(wa:WellAll w.params s.heap vals args){E:ab->aj->Prop}:
  aw (model pw w) callerA (call (.ref a) vals) (λv s'=>GoodWG sm.toRowW.claim cl mean args s (.ok (.ret v)) s') E s:=by
 obtain ⟨is,rfl,hl⟩:=WG hp;have G:Gd ⟨pw,w,s.heap⟩:=V8 WI H.seg H.main H.blt (WH w') H.sys hN;obtain rfl:a=o8:=by
  obtain ⟨o,es,ep,e1,e2,e3,e4⟩:=H.main;obtain ⟨o',es',ep',f1,f2,f3,f4⟩:=hm;have f1:s.heap.get? mainNs=some o':=f1;rw[e1] at f1;(have hH:=aO f1;clear f1;subst hH);rw[e2] at f2;cases f2;have:=f4 "law";rw[w7,e4,WJ w',ha] at this;(have hH:=sM (aO this);clear this;subst hH);rfl
 cases wa with
 | cons x r=>
  cases r;cases x with
  | list ho hv=>
   rename_i b vs;have C:oq ⟨pw,w,s.heap⟩ b is:=⟨ck hl (ck (by decide) WK),_,_,ho,all_ints hv⟩
   obtain ⟨-,h⟩:=VK G (σ:=⟨0,λJ=>none⟩) (Q:=λv J=>v= .bool true) C (λJ=>rfl) callerA s [] (.ref o8) [.ref b] E ⟨rfl,by decide,by decide⟩ (λJ J e=>e) ⟨rfl,(λJ J h=>nomatch h),je,(λJ h=>nomatch h)⟩ (.con _) (.cons (.con _) .nil)
   refine aQ h (λv s' z_0=>?_) λJ J e=>e;obtain ⟨u,σ',μ',q,p,z⟩:=z_0;subst q;(have hH:=qq z;clear z;subst hH);obtain ⟨h',t,e⟩:=p.same;exact ⟨.inl ⟨_,.bool true,[],rfl,λJ=>rfl,.bool true,WL _,λJ=>⟨je,(λJ h=>nomatch h)⟩⟩,.of_keep λb o e=>p.keep b o e (.inl am),by (erw[e];ac_rfl),by erw[e];exact .of_eq hg⟩
theorem WN:LeftO pw qv sj (λJ=>true) (λs=>∃w,lC w s.heap) (λJ=>True) 20000:=by
 refine Ww (m₀:=11) (ann:=i7) (M:=20000) (boot_open (by kernel_rfl) (by rfl) λs=>by rfl) (λw=>by kernel_rfl) (λw os=>?_) (by rfl)
 obtain ⟨ah,e,h1,h2,h3⟩:=WF w os;exact ⟨ah,e,h1,by erw[Fast.te4187177175401517315];exact h2,eq_true ⟨w,h3⟩⟩
theorem WO(said:sZ.wellSaid=true)(hb:pw.bare):sZ.Holds:=by
 refine holds_law said λsaid=>?_;refine holds_open (r:=sm) (q:=qv) (loose:=sj) (Xt:=λJ=>true) (XP:=λJ J=>True) (Yf:=λs=>∃w,lC w s.heap) (Ya:=λJ=>True) (YP:=λJ h=>∃w,lC w h) (N:=20000) WN
  (λw s e=>of_eq_true e) (λw h h' ⟨w',H⟩ k=>⟨w',H.mono k⟩) (λJ J=>trivial) (λJ J J J J=>trivial) rfl rfl rfl (λs J=>recFacts_of (R:=[]) rfl) rfl said rfl hb ⟨[.list []],rfl,rfl⟩ ?_
 ·intro w Xr ah mg mb G ⟨w',Y⟩ a o pm cd doc dV kV h1 h2 h3 h4 h5 h6 args vals as hp J J wa J;exact WM G.T.g G.T.nolimit Y h5 h6 hp wa
theorem b8{a b:Bool}(x:a=true)(y:b=true):(a && b)=true:=by (erw[x];erw[y]);rfl
noncomputable abbrev pP:OpenLaw:=sZ
theorem Ly{α:Type}{A:xJ α}(hu:∀x,A.both A.unit x=x)(ha:∀x y z,A.both (A.both x y) z=A.both x (A.both y z)){top sc:dj}{cx:TablesWhole.Ctx}{b:List Stmt}:∀a:List Stmt,iM A top cx sc (a++b)=A.both (iM A top cx sc a) (iM A top cx sc b)
 | []=>(hu _).symm
 | s::a=>(congrArg (A.both _) (Ly hu ha a)).trans (ha _ _ _).symm
noncomputable abbrev mC:TablesWhole.Ctx:=⟨pw.main.scope,[],[],[],none⟩
noncomputable abbrev qS{α:Type}(A:xJ α)(l:List Stmt):α:=Fast.tw16421684217811934046 A pw.main.scope mC pw.main.scope l
theorem B6{α:Type}{A:xJ α}{l:List Stmt}{z:α}(h:qS A l=z):iM A pw.main.scope mC pw.main.scope l=z:=by erw[Fast.te16421684217811934046];exact h
theorem xh{α:Type}{A:xJ α}{z:α}(hu:∀x,A.both A.unit x=x)(ha:∀x y z,A.both (A.both x y) z=A.both x (A.both y z))(hz:A.both z z=z)(k:Nat){l:List Stmt}(x:qS A (l.take k)=z)(y:qS A (l.drop k)=z):qS A l=z:=by
 have e:=Ly hu ha (top:=pw.main.scope) (cx:=mC) (sc:=pw.main.scope) (b:=l.drop k) (l.take k);rw[kE,Fast.te16421684217811934046] at e;exact e.trans ((congr (congrArg _ x) y).trans hz)
theorem t0:Mb pw.main.scope=true:=(congrFun Fast.te8331962902438777018 _).trans (by kernel_rfl)
theorem t1:qS qo (pw.main.body.take 120)=[]:=by kernel_rfl
theorem t2:qS qo (pw.main.body.drop 120)=[]:=by kernel_rfl
theorem t3:qS oj (pw.main.body.take 80)=true:=by kernel_rfl
theorem t4:qS oj ((pw.main.body.drop 80).take 70)=true:=by kernel_rfl
theorem t5:qS oj ((pw.main.body.drop 80).drop 70)=true:=by kernel_rfl
theorem tG:iM qo pw.main.scope mC pw.main.scope pw.main.body=[]:=B6 (xh (λJ=>rfl) fU rfl 120 t1 t2)
theorem tS:iM oj pw.main.scope mC pw.main.scope pw.main.body=true:=B6 (xh (λJ=>rfl) CW rfl 80 t3 (xh (λJ=>rfl) CW rfl 70 t4 t5))
theorem WP{p:dk}(h1:p.modules=[])(h2:p.parses=[])(h3:p.harvested=[])(h4:Mb p.main.scope=true)(hg:iM qo p.main.scope ⟨p.main.scope,[],[],[],none⟩ p.main.scope p.main.body=[])
  (hs:iM oj p.main.scope ⟨p.main.scope,[],[],[],none⟩ p.main.scope p.main.body=true):p.tablesWhole=true:=by
 have hm:CX oj p.main=true:=by
  refine (?_:(true && (Mb p.main.scope && (iM oj p.main.scope ⟨p.main.scope,[],iM qo p.main.scope ⟨p.main.scope,[],[],[],none⟩ p.main.scope p.main.body,[],none⟩ p.main.scope p.main.body && true)))=true);(erw[h4];erw[hg];erw[hs]);rfl
 refine (?_:(CX oj p.main && (Mc _ (p.modules.map _) && (Mc _ (p.parses.map _) && (Mc _ (p.harvested.map _) && true))))=true);(erw[h1];erw[h2];erw[h3];erw[hm]);rfl
theorem WQ:pw.bare:=⟨rfl,rfl,rfl,rfl,rfl,WP rfl rfl rfl t0 tG tS⟩
noncomputable abbrev qA(f:dj->Str->Option Pos->Bool):xJ Bool:=⟨f,λ_ _ _ _=>true,λ_=>true,true,false,λa b=>a && b⟩
theorem WR{f:dj->Str->Option Pos->Bool}{b:List Stmt}(e:iM qo pw.main.scope mC pw.main.scope b=[])(h:iM (qA f) pw.main.scope mC pw.main.scope b=true):CX (qA f) {pw.main with body:=b}=true:=by
 refine (?_:(true && (true && (iM _ pw.main.scope ⟨pw.main.scope,[],iM qo pw.main.scope mC pw.main.scope b,[],none⟩ pw.main.scope b && true)))=true);(erw[e];erw[h]);rfl
theorem B7{f:dj->Str->Option Pos->Bool}(k:Nat)(x:qS (qA f) (pw.main.body.take k)=true)(y:qS (qA f) (pw.main.body.drop k)=true):CX (qA f) pw.main=true:=
 WR (b:=pw.main.body) tG (B6 (xh (λJ=>rfl) CW rfl k x y))
noncomputable abbrev rS(n:Str)(l:List Stmt):Bool:=qS (qA λsc x _=>x !=n || !(sc.names.lookup x==some .globalImplicit || sc.names.lookup x==some .globalExplicit)) l
theorem B8{n:Str}(x:rS n (pw.main.body.take 120)=true)(y:rS n (pw.main.body.drop 120)=true):readsOut pw pw.main.body n=false:=congrArg not (B7 120 x y)
noncomputable abbrev aS(l:List Stmt):Bool:=qS (qA λ_ n _=>attrL n) l
theorem Lz{lk:Look}{b:List Stmt}:∀a:List Stmt,noRoadLSs lk (a++b)=(noRoadLSs lk a && noRoadLSs lk b)
 | []=>rfl
 | s::a=>(congrArg (noRoadLS lk s && ·) (Lz a)).trans (CW _ _ _).symm
theorem WS{lk:Look}(k:Nat){l:List Stmt}(x:CY lk (l.take k)=true)(y:CY lk (l.drop k)=true):noRoadLSs lk l=true:=by
 have e:=Lz (lk:=lk) (b:=l.drop k) (l.take k);rw[kE,Fast.te8326940854005059898] at e;erw[Fast.te8326940854005059898];exact e.trans (b8 x y)
noncomputable abbrev LA:Look:={strict:=false,foot:=none,bare:=[]}
theorem WT:rS "vars" (pw.main.body.take 120)=true:=by kernel_rfl
theorem WU:rS "vars" (pw.main.body.drop 120)=true:=by kernel_rfl
theorem WV:rS "dir" (pw.main.body.take 120)=true:=by kernel_rfl
theorem WW:rS "dir" (pw.main.body.drop 120)=true:=by kernel_rfl
theorem WX:rS "locals" (pw.main.body.take 120)=true:=by kernel_rfl
theorem WY:rS "locals" (pw.main.body.drop 120)=true:=by kernel_rfl
theorem r4:CY LA (pw.main.body.take 120)=true:=by kernel_rfl
theorem r5:CY LA (pw.main.body.drop 120)=true:=by kernel_rfl
theorem r6:(!(qn pw.main.body).all cThrough.contains)=false:=by kernel_rfl
theorem WZ{α:Type}{p:α->Bool}{a b c:α}(x:p a=false)(y:p b=false)(z:p c=false):[a,b,c].filter p=[]:=by
 (erw[qi (by erw[x];decide)];erw[qi (by erw[y];decide)];erw[qi (by erw[z];decide)]);rfl
theorem a1:sreFenced pw.main=true:=by kernel_rfl
theorem a2:((moduleNames pw.main.body).isEmpty || lookedIntoSs (moduleNames pw.main.body) pw.main.body)=true:=by kernel_rfl
set_option maxHeartbeats 0 in
theorem a3:namesResolve pw=true:=by
 erw[Fast.te8377067652309620493]
 delta Fast.tw8377067652309620493
 erw[aD Fast.te6116379765354995101];exact B7 120 (by as_aux_lemma=>kernel_rfl) (by as_aux_lemma=>kernel_rfl)
theorem a4:(pw.boundNames.all λn=>!worldNames.contains n)=true:=by kernel_rfl
theorem a5:noRoadLSs {strict:=!(qn pw.main.body).all cThrough.contains,foot:=none,bare:=(["vars","dir","locals"]:List Str).filter (readsOut pw pw.main.body)} pw.main.body=true:=by
 (erw[r6];erw[WZ (B8 WT WU) (B8 WV WW) (B8 WX WY)]);exact WS 120 r4 r5
theorem W0:aS (pw.main.body.take 120)=true:=by kernel_rfl
theorem W1:aS (pw.main.body.drop 120)=true:=by kernel_rfl
theorem W2:looksOpen pw=true:=b8 (b8 (b8 (b8 (b8 a1 a2) a3) a4) a5) (B7 120 W0 W1)
theorem W3{l:OpenLaw}(h:looksOpen l.prog=true)(h8:l.row.toRowW.solid=true)(h9:l.row.pre.litsOk=true)(h10:l.row.post.litsOk=true)(h3:l.prog.boundNames.contains l.name=true)(h4:(!startupNames.contains l.name)=true):l.row.wellSaid=true:=by
 unfold OpenRow.wellSaid OpenRow.partSaid;exact b8 (b8 (b8 (b8 (b8 (b8 (b8 (b8 (b8 (b8 (b8 (b8 (b8 (b8 (b8 h rfl) rfl) rfl) rfl) rfl) rfl) h8) h9) h10) rfl) rfl) rfl) rfl) h3) h4
theorem W4:pP.row.wellSaid=true:=W3 W2 (by kernel_rfl) (by kernel_rfl) (by kernel_rfl) (by kernel_rfl) (by kernel_rfl)
theorem b6:pP.bound'.all (λn=>!Fast.qNamed n || pP.about==[n] || !pP.reads n)=true:=by kernel_rfl
theorem W5:Fast.tw17119622794617984870 pP.prog pP.above (λ_ n=>!pP.own.contains n)=true:=by kernel_rfl
theorem W6:pP.wellSaid=true:=by
 have h6:=b6;have h10:=W5;rw[<-Fast.named_eq] at h6;rw[<-Fast.te17119622794617984870] at h10;unfold OpenLaw.wellSaid;refine b8 (b8 (b8 (b8 (b8 (b8 (b8 (b8 (b8 (b8 (b8 (b8 (b8 (b8 (b8 (b8 (b8 (b8 W4 ?_) ?_) ?_) ?_) ?_) ?_) ?_) ?_) ?_) h6) ?_) ?_) ?_) ?_) ?_) ?_) h10) ?_
 all_goals kernel_rfl
end Internal
theorem PySem.Challenge.cw_sm0083_01_holds : PySem.Challenge.rw_sm0083_01.Holds :=
 Internal.WO Internal.W6 Internal.WQ
