import PyProof.Rows.All
import Wide.All
import OpenK.AllK
import Wide.FinOn
import Open.Boot
import Open.FastRun
import Open.Seg
import KE.KPar
import Lean
import PySem.Challenge.RW_xm0381_01
set_option Elab.async false
set_option linter.all false
set_option tactic.hygienic false
set_option genSizeOf false
set_option genInjectivity false
set_option bootstrap.genMatcherCode false
set_option compiler.extract_closed false
set_option genCtorIdx false
set_option maxRecDepth 20000
set_option maxHeartbeats 8000000
open Bool renaming and_eq_true->lR,and_false->rh,and_true->I3,eq_iff_iff->D6,false->ak,false_and->Ky,false_or->Ea,not_eq_true'->yK,not_true->at4,true->ai,true_or->au2
open Classical renaming byContradiction->Im,em->RG
open Decidable renaming decide->a6
open Int renaming add_assoc->nR,add_nonneg->Aq,add_zero->fW,beq'->K8,fdiv_eq_ediv_of_nonneg->Nh,le_of_lt->pU,le_refl->pk,le_trans->sF,max_eq_left->RA,max_eq_right->Ry,min_eq_left->Rx,min_eq_right->Rz,min_self->G7,mul_add->H5,mul_le_mul->at0,mul_nonneg->DC,mul_zero->Ap,natCast_mul->RE,natCast_nonneg->wC,neg_mul->DG,one_mul->qR,toNat_natCast->aH7,zero_add->mB,zero_mul->wA
open LawfulBEq renaming eq_of_beq->uL
open List renaming all_cons->H7,all_eq_true->Uk,any_eq_false->V1,append_assoc->dK,append_cancel_left->QF,append_inj'->uE,append_inj_right'->av3,append_nil->dZ,append_of_mem->PZ,append_toArray->T9,concat_eq_append->xT,cons->Ej,cons_append->qI,drop_append_of_le_length->aC5,drop_eq_getElem_cons->Kx,drop_left'->aw7,drop_length_add_append->aC4,eq_nil_of_length_eq_zero->yx,eq_nil_or_concat->xS,ext_getElem->Ul,ext_getElem?->Va,filterMap_cons->AR,filter_append->xH,filter_cons->s6,filter_nil->Cs,find?_cons->Ji,findIdx?_cons->WM,getElem?_append_left->Hy,getElem?_append_right->z7,getElem?_cons_succ->yt,getElem?_eq_getElem->rj,getElem?_eq_none->qi,getElem?_map->Ed,getElem?_of_mem->Wi,getElem?_set_ne->EU,getElem?_set_self->KJ,getElem?_toArray->vf,getElem?_zip_eq_some->Eg,getElem_toArray->UA,getLast?_cons_cons->PX,head?_drop->F9,isEmpty_iff->au7,isEmpty_map->aq7,length->yz,length_append->fQ,length_cons->iw,length_drop->vJ,length_filter_le->aq6,length_map->cm,length_nil->ao5,length_set->ET,length_singleton->CU,length_take->vO,lookup_append->Wl,lookup_cons->rB,map_append->gk,map_congr_left->yB,map_cons->oV,map_drop->Ox,map_id->EB,map_map->l8,map_nil->w3,map_reverse->Kr,map_take->zI,mem_append_left->jm,mem_append_right->C9,mem_cons->sR,mem_cons_of_mem->wB,mem_cons_self->mX,mem_map_of_mem->FQ,mem_of_getElem?->fJ,mem_of_mem_drop->Oy,mem_of_mem_take->GI,mem_reverse->Wh,nil_append->m9,not_mem_nil->nv,of_mem_zip->Bc,pairwise_singleton->Ph,range->rg,replicate->JU,reverse_cons->wR,size_toArray->jU,takeWhile_cons->nG,takeWhile_sublist->ae5,take_append_drop->aE9,take_append_of_le_length->aC2,take_left'->z5,take_length_add_append->aC1,take_succ_cons->ap2,toArray->p8,zip_cons_cons->Jv
open Max renaming max->jn
open Min renaming min->eQ
open Nat renaming add_le_add->al8,add_right_comm->Xe,add_sub_cancel_left->aC3,beq->ie,beq_refl->JK,eq_of_beq_eq_true->yG,le_add_right->yy,le_of_lt->A9,le_refl->gB,le_succ->Be,le_succ_of_le->xi,le_trans->hW,lt_irrefl->A8,lt_of_le_of_lt->DY,lt_of_not_le->RD,lt_succ_of_lt->JC,lt_succ_self->Bf,lt_trichotomy->Wj,ne_of_lt->oW,not_lt_zero->I1,succ_le_succ->AZ,succ_lt_succ->Ys,succ_ne_zero->Uy,succ_pos->Fp,zero_add->uh,zero_le->jW
open OfNat renaming ofNat->Ro
open Option renaming getD_none->Jq,getD_some->sC,map->Nw,none->aa,some->I,some_ne_none->oS
open PySem renaming Addr->aC,Around->cB,CmpOp->lW,DictEntry->n5,Env->b5,Expr->aR,Heap->gh,NameKind->ni,Obj->da,Operator->j8,OsState->mI,Params->gc,Pos->b3,Program->uX,Result->wQ,Scope->bN,Shared->bA,Stmt->gL,Str->bg,Value->aw,World->iS,assign->vr,assignEach->sN,assignInOrder->Kh,attributeBase->AQ,augStore->EH,backTo->n8,builtinsNs->q7,cStatics->AI,call->l7,callEnv->A7,callEnvC->vm,callWith->Eo,cellsFrom->Et,closureFor->EY,codeAny->yr,codeAny_mono->yI,compEnvC->Bo,eval->ij,evalEach->AO,foldedSetIterable->xf,getMethod_builtin->V8,holding->sr,importedModules->HY,intKind->p9,intKind_is->El,isTrue->va,letOwnedTupleGo->EI,mainGlobals->n7,mem_of_lookup->rC,model->b6,rawInt->xe,release->Bj,setItem->Bh,sliceBounds->yC,slicePick->ve,sliceRange->Ec,spliced->AL,standAt->vc,starEach->kB,strKind->DU,swappedStores->EG,swapsWith->EF,swapsWithSole->Kl,sysModules->q6,treeTable->x3,valueAt->sD,valueOrNone->JI,wpAny->bW,wpAny_bind->cG,wpAny_execs_nil->Kj,wpAny_holding->kh,wpAny_isSame_plain->I7,wpAny_mono->cy,wpAny_newList->JA,wpAny_newObj_type->w6,wpAny_pure->fH,wpAny_standAt->rq,wpAny_truthy_bool->wX
open PySem.Builtin.Int renaming intBits->RL
open PyProof.Rows renaming IntsAre->oT,IsTup->w5,Subscript_->yF,assign_Name->ED,callWith_type->JN,markedEach_of_false->UP,seqObj->kS,tail_any->Em,unpackItems_tuple->Ki
open PySem.W renaming boot_drawn->Dt,boot_heap->qP,boot_toks->Du,byRow2->x5,dictOf->sf,emptyDict->xc,findIn->qa,handedIn->AH,instObj->lX,isStarred->iH,keepIn->wO,putL->wZ,putName_dict->Eb,topFrame->x4
open Ne renaming symm->tO
open PySem.Heap renaming SameBut->IM,get?_push_of_some->yu,get?_push_size->qd,get?_update_self->Jk,lt_size->kT,size_push->WA
open PySem.Env renaming kindOf->IU
open PySem.F renaming args_tuple_add_2->Ud,entry_dict_get->V6,entry_tuple_add->Uc,slot_dict_get->JQ,slot_list_extend->Wb,slot_tuple_add->Ub
open PySem.SeqAt renaming EqAt->I0
open PySem.SeqAt.RcAt renaming lists->Uq,lists_lengths->Us,tuples->Uv
open PySem.SeqAt.RcNeAt renaming lists->Ur,lists_lengths->Ut,tuples->Uw
open Array renaming any_toList->UZ,length_toList->yD
open List.cons renaming inj->jV,injEq->Jh
open PySem.Heap.SameBut renaming update->Jl
open PySem.PyData renaming keyHash->yA
open PySem.Answers renaming of_false_list->Jx
open PySem.Value renaming int->Ee,isInt->Vl
open Pure renaming pure->eJ
open PySem.Heap.IsSliceOf renaming new->VG
open Nat.succ renaming inj->yH
open PySem.Calls renaming Constant_str->VN,callWith_builtin->VY
open False renaming elim->tT
open Option.some renaming inj->xa
open Except renaming ok->Ka
open PySem.Code renaming builtin->Ex
open PySem.Expr renaming Name->Bn
open PySem.Builtin.Range renaming rangeSize->KI
open ForInStep renaming yield->vz
open PySem.NameKind renaming free->kY
open Inhabited renaming default->jJ
open PySem.Challenge renaming pw_xm0381_01->FP,rw_xm0381_01->aX3
open PySem.Str renaming ofString->Dp
open PySem.Shared renaming heap->Q3
open PySem.Heap.Ns renaming of_isNs->aQ2
open PySem.W.WData renaming bool->Rk,int->Rj
open PySem.W.WShape renaming has->Rh,hasItems->Rg
open PySem.W.WTm renaming holds->Ri
open PySem PySem.W
noncomputable section
namespace Mine.Tactic
section
theorem cps{p:Prop}(h:∀cZ:Prop,(p->cZ)->cZ):p:=h p id
end
section
namespace Q
mutual
inductive N|a(i:Nat)|k(n:Nat)|p(x y:N)|s(x y:N)|m(c:Nat)(x:N)|r(x:N)(c:Nat)|af(t:T)|n(t:T)|i(x y:N)|l(x y:N)
inductive T|a(i:Nat)|k(n:Int)|p(x y:T)|s(x y:T)|m(c:Int)(x:T)|r(x:T)(c:Int)|g(x:T)|c(x:N)|i(x y:T)|l(x y:T)
end
noncomputable instance(n:Nat):OfNat N n:=⟨.k (Ro n)⟩
noncomputable instance(n:Nat):OfNat T n:=⟨.k (Ro n)⟩
inductive F|l(x y:T)|t(x y:T)|e(x y:T)|ag(x y:N)|U(x y:N)|E(x y:N)|n(x:F)|c(x y:F)|d(x y:F)|i(x y:F)|o
noncomputable def Ao:List Int->Nat->Int
 |[],_=>0
 |x::_,0=>x
 |_::l,n+1=>Ao l n
noncomputable def x9:List Nat->Nat->Nat
 |[],_=>0
 |x::_,0=>x
 |_::l,n+1=>x9 l n
mutual
noncomputable def N.v(aA:List Int)(bo:List Nat):N->Nat
 |.a i=>x9 bo i
 |.k n=>n
 |.p x y=>x.v aA bo+y.v aA bo
 |.s x y=>x.v aA bo- y.v aA bo
 |.m c x=>c*x.v aA bo
 |.r x c=>x.v aA bo*c
 |.af t=>(t.v aA bo).toNat
 |.n t=>(t.v aA bo).natAbs
 |.i x y=>eQ (x.v aA bo) (y.v aA bo)
 |.l x y=>jn (x.v aA bo) (y.v aA bo)
noncomputable def T.v(aA:List Int)(bo:List Nat):T->Int
 |.a i=>Ao aA i
 |.k n=>n
 |.p x y=>x.v aA bo+y.v aA bo
 |.s x y=>x.v aA bo- y.v aA bo
 |.m c x=>c*x.v aA bo
 |.r x c=>x.v aA bo*c
 |.g x=> - x.v aA bo
 |.c x=>(x.v aA bo:Int)
 |.i x y=>eQ (x.v aA bo) (y.v aA bo)
 |.l x y=>jn (x.v aA bo) (y.v aA bo)
end
noncomputable def F.v(aA:List Int)(bo:List Nat):F->Prop
 |.l x y=>x.v aA bo<=y.v aA bo
 |.t x y=>x.v aA bo<y.v aA bo
 |.e x y=>x.v aA bo=y.v aA bo
 |.ag x y=>x.v aA bo<=y.v aA bo
 |.U x y=>x.v aA bo<y.v aA bo
 |.E x y=>x.v aA bo=y.v aA bo
 |.n x=>¬x.v aA bo
 |.c x y=>x.v aA bo/\y.v aA bo
 |.d x y=>x.v aA bo\/y.v aA bo
 |.i x y=>x.v aA bo->y.v aA bo
 |.o=>False
abbrev LF:=Int×List Int
noncomputable def iC:List Int->(Nat->Int)->Int
 |[],_=>0
 |a::l,e=>a*e 0+iC l (λi=>e (i+1))
def LF.v(f:LF)(e:Nat->Int):Int:=f.1+iC f.2 e
noncomputable def wx:List Int->List Int->List Int
 |[],m=>m
 |a::l,[]=>a::l
 |a::l,b::m=>(a+b)::wx l m
theorem a4(a b c d:Int):a+b+(c+d)=a+c+(b+d):=by rw[nR,Int.add_left_comm b c d,<- nR]
theorem H4:∀(l m:List Int) (e:Nat->Int),iC (wx l m) e=iC l e+iC m e
 |[],m,e=>(mB _).symm
 |a::l,[],e=>(fW _).symm
 |a::l,b::m,e=>by
  show(a+b)*e 0+iC (wx l m) _=(a*e 0+iC l _)+(b*e 0+iC m _);rw[H4 l m,Int.add_mul,a4]
noncomputable def wy(k:Int)(l:List Int):List Int:=l.map (k*·)
theorem DB(k:Int):∀(l:List Int) (e:Nat->Int),iC (wy k l) e=k*iC l e
 |[],e=>(Ap k).symm
 |a::l,e=>by
  show k*a*e 0+iC (wy k l) _=k*(a*e 0+iC l _);rw[DB k l,H5,Int.mul_assoc]
def hG(p q:Int)(f g:LF):LF:=(p*f.1+q*g.1,wx (wy p f.2) (wy q g.2))
theorem wz(p q:Int)(f g:LF)(e:Nat->Int):LF.v (hG p q f g) e=p*LF.v f e+q*LF.v g e:=by show p*f.1+q*g.1+iC (wx _ _) e=_;rw[H4,DB,DB];show _=p*(f.1+iC f.2 e)+q*(g.1+iC g.2 e);rw[H5,H5,a4]
noncomputable def aF:List Int->Int
 |[]=>0
 |a::_=>a
def kO(e:Nat->Int)(l:List LF):Prop:=∀f∈l,0<=LF.v f e
noncomputable def tl(f:LF):LF:=(f.1,f.2.tail)
def Rp(ps ns:List LF):List LF:=ps.flatMap λf=>ns.map λg=>tl (hG (- aF g.2) (aF f.2) f g)
def elim(l:List LF):List LF:=(l.filter λf=>aF f.2==0).map tl++Rp (l.filter λf=>a6 (0<aF f.2)) (l.filter λf=>a6 (aF f.2<0))
noncomputable def cW(l:List LF):Bool:=l.any λf=>f.2.all (· ==0)&&a6 (f.1<0)
noncomputable def ref:Nat->List LF->Bool
 |0,l=>cW l
 |n+1,l=>cW l||ref n (elim l)
theorem Rq:∀(l:List Int) (e:Nat->Int),iC l e=aF l*e 0+iC l.tail (λi=>e (i+1))
 |[],e=>by show(0:Int)=0*e 0+0;rw[wA];rfl
 |a::l,e=>rfl
theorem H6:∀(l:List Int) (e:Nat->Int),l.all (· ==0)=ai->iC l e=0
 |[],_,_=>rfl
 |a::l,e,h=>by
  rw[H7,lR]at h;have ha:a=0:=uL h.1;show a*e 0+iC l _=0;rw[H6 l _ h.2,ha,wA];rfl
theorem Rr(p q:Int)(f g:LF):aF (hG p q f g).2=p*aF f.2+q*aF g.2:=by
 obtain⟨c,l⟩:=f;obtain⟨d,m⟩:=g;show aF (wx (wy p l) (wy q m))=_;cases l with
 |nil=>cases m with
  |nil=>show(0:Int)=p*0+q*0;rw[Ap,Ap];rfl
  |cons b m=>show q*b=p*0+q*b;rw[Ap,mB]
 |cons a l=>cases m with
  |nil=>show p*a=p*a+q*0;rw[Ap,fW]
  |cons b m=>rfl
theorem H8(f:LF)(e:Nat->Int)(h:aF f.2=0):LF.v (tl f) (λi=>e (i+1))=LF.v f e:=by show f.1+iC f.2.tail _=f.1+iC f.2 e;rw[Rq f.2 e,h,wA,mB]
theorem Rt{e:Nat->Int}{l:List LF}(h:kO e l):kO (λi=>e (i+1)) (elim l):=by
 intro f a;rcases List.mem_append.1 a with a|a
 .obtain⟨g,c,d⟩:=List.mem_map.1 a;have b:=List.mem_filter.1 c;rw[<- d,H8 g e (uL b.2)];exact h g b.1
 .obtain⟨g,c,a⟩:=List.mem_flatMap.1 a;obtain⟨k,m,d⟩:=List.mem_map.1 a;have b:=List.mem_filter.1 c;have j:=List.mem_filter.1 m;have n:0<aF g.2:=of_decide_eq_true b.2;have o:aF k.2<0:=of_decide_eq_true j.2;rw[<- d,H8 _ e (by rw[Rr,Int.mul_comm (aF g.2),<- Int.add_mul];exact(by rw[Int.add_left_neg,wA]:(-aF k.2+aF k.2)*aF g.2=0)),wz];exact Aq (DC (Int.neg_nonneg_of_nonpos (pU o)) (h g b.1)) (DC (pU n) (h k j.1))
theorem H9{e:Nat->Int}{l:List LF}(h:kO e l)(hb:cW l=ai):False:=by obtain⟨f,b,hb⟩:=List.any_eq_true.1 hb;rw[lR]at hb;have a:=h f b;have c:=of_decide_eq_true hb.2;have:LF.v f e=f.1+iC f.2 e:=rfl;rw[this,H6 f.2 e hb.1,fW]at a;exact absurd c (Int.not_lt.2 a)
theorem Ia:∀(n:Nat) {e:Nat->Int} {l:List LF},kO e l->ref n l=ai->False
 |0,e,l,h,hr=>H9 h hr
 |n+1,e,l,h,hr=>by
  rcases(Bool.or_eq_true _ _▸hr:cW l=ai\/ref n (elim l)=ai)with hr|hr
  .exact H9 h hr
  .exact Ia n (Rt h) hr
noncomputable def uN:Nat->List Int
 |0=>[1]
 |n+1=>0::uN n
def ab(aA:List Int)(bo:List Nat)(n:Nat):Int:=if n%2=0 then Ao aA (n/2)else(x9 bo (n/2):Int)
theorem DD:∀(n:Nat) (e:Nat->Int),iC (uN n) e=e n
 |0,e=>by show 1*e 0+0=e 0;rw[qR,fW]
 |n+1,e=>by show 0*e 0+iC (uN n) _=e (n+1);rw[DD n,wA,mB]
abbrev Al:=List (List LF×LF)
noncomputable def nS(b4:LF->LF->LF)(xs ys:Al):Al:=xs.flatMap λx=>ys.map λy=>(x.1++y.1,b4 x.2 y.2)
noncomputable def cD(b4:LF->LF)(xs:Al):Al:=xs.map λx=>(x.1,b4 x.2)
def tB(f g:LF):LF:=let h:=hG 1 (-1) f g;(h.1- 1,h.2)
def mm(b:Bool)(xs ys:Al):Al:=xs.flatMap λx=>ys.flatMap λy=>[(hG 1 (-1) y.2 x.2::(x.1++y.1),bif b then x.2 else y.2),(tB x.2 y.2::(x.1++y.1),bif b then y.2 else x.2)]
mutual
noncomputable def N.cX:N->Al
 |.a i=>[([(0,uN (2*i+1))],(0,uN (2*i+1)))]
 |.k n=>[([],((n:Int),[]))]
 |.p x y=>nS (hG 1 1) x.cX y.cX
 |.s x y=>(x.cX).flatMap λx=>(y.cX).flatMap λy=>[(hG 1 (-1) x.2 y.2::(x.1++y.1),hG 1 (-1) x.2 y.2),(tB y.2 x.2::(x.1++y.1),(0,[]))]
 |.m c x=>cD (λf=>hG c 0 f f) x.cX
 |.r x c=>cD (λf=>hG c 0 f f) x.cX
 |.af t=>(t.cX).flatMap λx=>[(x.2::x.1,x.2),(tB (0,[]) x.2::x.1,(0,[]))]
 |.n t=>(t.cX).flatMap λx=>[(x.2::x.1,x.2),(tB (0,[]) x.2::x.1,hG (-1) 0 x.2 x.2)]
 |.i x y=>mm ai x.cX y.cX
 |.l x y=>mm ak x.cX y.cX
noncomputable def T.cX:T->Al
 |.a i=>[([],(0,uN (2*i)))]
 |.k n=>[([],(n,[]))]
 |.p x y=>nS (hG 1 1) x.cX y.cX
 |.s x y=>nS (hG 1 (-1)) x.cX y.cX
 |.m c x=>cD (λf=>hG c 0 f f) x.cX
 |.r x c=>cD (λf=>hG c 0 f f) x.cX
 |.g x=>cD (λf=>hG (-1) 0 f f) x.cX
 |.c x=>x.cX
 |.i x y=>mm ai x.cX y.cX
 |.l x y=>mm ak x.cX y.cX
end
def has(e:Nat->Int)(l:Al)(v:Int):Prop:=∃x∈l,kO e x.1/\LF.v x.2 e=v
theorem tC{e:Nat->Int}{a b:List LF}(h:kO e a)(k:kO e b):kO e (a++b):=λf c=>(List.mem_append.1 c).elim (h f) (k f)
theorem nT{e:Nat->Int}{f:LF}{b:List LF}(h:0<=LF.v f e)(k:kO e b):kO e (f::b):=λg a=>(List.mem_cons.1 a).elim (λq=>q▸h) (k g)
theorem tD{e:Nat->Int}:kO e []:=λ_ h=>nomatch h
theorem DE{e:Nat->Int}{xs ys:Al}{v w:Int}(p q:Int)(h:has e xs v)(k:has e ys w):has e (nS (hG p q) xs ys) (p*v+q*w):=by obtain⟨x,a,b,c⟩:=h;obtain⟨y,d,f,g⟩:=k;exact⟨_,List.mem_flatMap.2 ⟨x,a,List.mem_map.2 ⟨y,d,rfl⟩⟩,tC b f,by show LF.v (hG p q x.2 y.2) e=_;rw[wz,c,g]⟩
theorem ya{e:Nat->Int}{xs:Al}{v:Int}(c:Int)(h:has e xs v):has e (cD (λf=>hG c 0 f f) xs) (c*v):=by obtain⟨x,a,b,d⟩:=h;exact⟨_,List.mem_map.2 ⟨x,a,rfl⟩,b,by show LF.v (hG c 0 x.2 x.2) e=_;rw[wz,d,wA,fW]⟩
theorem Ib{f g:LF}{e:Nat->Int}{v w:Int}(h:LF.v f e=v)(k:LF.v g e=w):LF.v (hG 1 (-1) f g) e=v- w:=by rw[wz,h,k,qR,DG,qR];rfl
theorem Ru(f g:LF)(e:Nat->Int):LF.v (tB f g) e=LF.v f e- LF.v g e- 1:=(Int.add_right_comm (hG 1 (-1) f g).1 (-1) (iC (hG 1 (-1) f g).2 e)).trans (congrArg (· - 1) (Ib rfl rfl))
theorem Rv{v w:Int}(h:w<=v):0<=1*v+-1*w:=by omega
theorem Rw{v w:Int}(h:w<v):0<=v- w- 1:=by omega
theorem cb{f g:LF}{e:Nat->Int}{v w:Int}(h:LF.v f e=v)(k:LF.v g e=w)(hc:w<=v):0<=LF.v (hG 1 (-1) f g) e:=by rw[wz,h,k];exact Rv hc
theorem sb{f g:LF}{e:Nat->Int}{v w:Int}(h:LF.v f e=v)(k:LF.v g e=w)(hc:w<v):0<=LF.v (tB f g) e:=by rw[Ru,h,k];exact Rw hc
theorem Ar{e:Nat->Int}{xs ys:Al}{v w:Int}(h:has e xs v)(k:has e ys w):has e (mm ai xs ys) (eQ v w)/\has e (mm ak xs ys) (jn v w):=by
 obtain⟨x,b,i,d⟩:=h;obtain⟨y,f,j,g⟩:=k;by_cases a:v<=w
 .have c:kO e (hG 1 (-1) y.2 x.2::(x.1++y.1)):=nT (cb g d a) (tC i j);exact⟨⟨_,List.mem_flatMap.2 ⟨x,b,List.mem_flatMap.2 ⟨y,f,mX ..⟩⟩,c,d.trans (Rx a).symm⟩,
   ⟨_,List.mem_flatMap.2 ⟨x,b,List.mem_flatMap.2 ⟨y,f,mX ..⟩⟩,c,g.trans (Ry a).symm⟩⟩
 .have c:kO e (tB x.2 y.2::(x.1++y.1)):=nT (sb d g (Int.not_le.1 a)) (tC i j);have q:w<=v:=pU (Int.not_le.1 a);exact⟨⟨_,List.mem_flatMap.2 ⟨x,b,List.mem_flatMap.2 ⟨y,f,wB _ (mX ..)⟩⟩,c,g.trans (Rz q).symm⟩,
   ⟨_,List.mem_flatMap.2 ⟨x,b,List.mem_flatMap.2 ⟨y,f,wB _ (mX ..)⟩⟩,c,d.trans (RA q).symm⟩⟩
theorem RB(aA bo)(i:Nat):ab aA bo (2*i)=Ao aA i:=by unfold ab;rw[if_pos (Nat.mul_mod_right 2 i),Nat.mul_div_cancel_left i (by decide)]
theorem RC(aA bo)(i:Nat):ab aA bo (2*i+1)=(x9 bo i:Int):=by unfold ab;rw[if_neg (by rw[Nat.mul_add_mod];decide),Nat.mul_add_div (by decide)];rfl
mutual
theorem N.dS(aA:List Int)(bo:List Nat):∀x:N,has (ab aA bo) x.cX (x.v aA bo:Int)
 |.a i=>by
  have h:LF.v (0,uN (2*i+1)) (ab aA bo)=(x9 bo i:Int):=by show 0+iC _ _=_;rw[DD,RC,mB]
  exact⟨_,mX ..,nT (by rw[h];exact wC _) tD,h⟩
 |.k n=>⟨_,mX ..,tD,fW _⟩
 |.p x y=>by
  have:=DE 1 1 (N.dS aA bo x) (N.dS aA bo y)
  rwa [qR,qR,<- Int.natCast_add]at this
 |.s x y=>by
  obtain⟨f,e,j,d⟩:=N.dS aA bo x;obtain⟨g,q,u,o⟩:=N.dS aA bo y;show has _ (x.cX.flatMap _) (((x.v aA bo- y.v aA bo:Nat):Int));by_cases b:y.v aA bo<=x.v aA bo
  .exact⟨_,List.mem_flatMap.2 ⟨f,e,List.mem_flatMap.2 ⟨g,q,mX ..⟩⟩,nT (cb d o (Int.ofNat_le.2 b)) (tC j u),(Ib d o).trans (Int.ofNat_sub b).symm⟩
  .exact⟨_,List.mem_flatMap.2 ⟨f,e,List.mem_flatMap.2 ⟨g,q,wB _ (mX ..)⟩⟩,nT (sb o d (Int.ofNat_lt.2 (RD b))) (tC j u),by rw[Nat.sub_eq_zero_of_le (Nat.le_of_not_le b)];rfl⟩
 |.m c x=>by
  have:=ya (c:Int) (N.dS aA bo x)
  rwa [<- RE]at this
 |.r x c=>by
  have:=ya (c:Int) (N.dS aA bo x)
  rwa [<- RE,Nat.mul_comm]at this
 |.af t=>by
  obtain⟨f,e,j,d⟩:=T.dS aA bo t;show has _ (t.cX.flatMap _) ((((t.v aA bo).toNat:Nat):Int));by_cases b:0<=t.v aA bo
  .exact⟨_,List.mem_flatMap.2 ⟨f,e,mX ..⟩,nT (by rw[d];exact b) j,d.trans (Int.toNat_of_nonneg b).symm⟩
  .exact⟨_,List.mem_flatMap.2 ⟨f,e,wB _ (mX ..)⟩,nT (sb rfl d (Int.not_le.1 b)) j,by rw[Int.toNat_of_nonpos (pU (Int.not_le.1 b))];rfl⟩
 |.n t=>by
  obtain⟨f,e,j,d⟩:=T.dS aA bo t;show has _ (t.cX.flatMap _) ((((t.v aA bo).natAbs:Nat):Int));by_cases b:0<=t.v aA bo
  .exact⟨_,List.mem_flatMap.2 ⟨f,e,mX ..⟩,nT (by rw[d];exact b) j,d.trans (Int.natAbs_of_nonneg b).symm⟩
  .exact⟨_,List.mem_flatMap.2 ⟨f,e,wB _ (mX ..)⟩,nT (sb rfl d (Int.not_le.1 b)) j,by show LF.v (hG (-1) 0 f.2 f.2) _=_;rw[wz,d,wA,fW,DG,qR];exact(Int.ofNat_natAbs_of_nonpos (pU (Int.not_le.1 b))).symm⟩
 |.i x y=>by rw[show((N.i x y).v aA bo:Int)=eQ (x.v aA bo:Int) (y.v aA bo)from(by show((eQ _ _:Nat):Int)=_;omega)];exact(Ar (N.dS aA bo x) (N.dS aA bo y)).1
 |.l x y=>by rw[show((N.l x y).v aA bo:Int)=jn (x.v aA bo:Int) (y.v aA bo)from(by show((jn _ _:Nat):Int)=_;omega)];exact(Ar (N.dS aA bo x) (N.dS aA bo y)).2
theorem T.dS(aA:List Int)(bo:List Nat):∀x:T,has (ab aA bo) x.cX (x.v aA bo)
 |.a i=>⟨_,mX ..,tD,by show 0+iC _ _=_;rw[DD,RB,mB];rfl⟩
 |.k n=>⟨_,mX ..,tD,fW _⟩
 |.p x y=>by
  have:=DE 1 1 (T.dS aA bo x) (T.dS aA bo y)
  rwa [qR,qR]at this
 |.s x y=>by
  have:=DE 1 (-1) (T.dS aA bo x) (T.dS aA bo y);rw[qR,DG,qR]at this;exact this
 |.m c x=>ya c (T.dS aA bo x)
 |.r x c=>by
  have:=ya c (T.dS aA bo x)
  rwa [Int.mul_comm]at this
 |.g x=>by
  have:=ya (-1) (T.dS aA bo x);rw[DG,qR]at this;exact this
 |.c x=>N.dS aA bo x
 |.i x y=>(Ar (T.dS aA bo x) (T.dS aA bo y)).1
 |.l x y=>(Ar (T.dS aA bo x) (T.dS aA bo y)).2
end
abbrev rZ:=List (List LF)
noncomputable def tE(b4:LF->LF->List LF)(xs ys:Al):rZ:=xs.flatMap λx=>ys.map λy=>b4 x.2 y.2++(x.1++y.1)
def DH(f g:LF):List LF:=[hG 1 (-1) g f]
def yb(f g:LF):List LF:=[tB g f]
def Ic(f g:LF):List LF:=[hG 1 (-1) g f,hG 1 (-1) f g]
def oM(k:Nat)(b:Bool)(xs ys:Al):rZ:=
 match k,b with
 |0,ai=>tE DH xs ys
 |0,ak=>tE yb ys xs
 |1,ai=>tE yb xs ys
 |1,ak=>tE DH ys xs
 |_,ai=>tE Ic xs ys
 |_,ak=>tE yb xs ys++tE yb ys xs
noncomputable def As(a b:rZ):rZ:=a.flatMap λx=>b.map λy=>x++y
noncomputable def F.dq:Bool->F->rZ
 |b,.l x y=>oM 0 b x.cX y.cX
 |b,.t x y=>oM 1 b x.cX y.cX
 |b,.e x y=>oM 2 b x.cX y.cX
 |b,.ag x y=>oM 0 b x.cX y.cX
 |b,.U x y=>oM 1 b x.cX y.cX
 |b,.E x y=>oM 2 b x.cX y.cX
 |b,.n x=>x.dq (!b)
 |true,.c x y=>As (x.dq ai) (y.dq ai)
 |false,.c x y=>x.dq ak++y.dq ak
 |true,.d x y=>x.dq ai++y.dq ai
 |false,.d x y=>As (x.dq ak) (y.dq ak)
 |true,.i x y=>x.dq ak++y.dq ai
 |false,.i x y=>As (x.dq ai) (y.dq ak)
 |true,.o=>[]
 |false,.o=>[[]]
def lS(e:Nat->Int)(c:rZ):Prop:=∃l∈c,kO e l
theorem uO{e:Nat->Int}{b4:LF->LF->List LF}{xs ys:Al}{v w:Int}(h:has e xs v)(k:has e ys w)(ho:∀f g:LF,LF.v f e=v->LF.v g e=w->kO e (b4 f g)):lS e (tE b4 xs ys):=by obtain⟨x,a,b,c⟩:=h;obtain⟨y,d,i,j⟩:=k;exact⟨_,List.mem_flatMap.2 ⟨x,a,List.mem_map.2 ⟨y,d,rfl⟩⟩,tC (ho _ _ c j) (tC b i)⟩
theorem Au{e:Nat->Int}{a b:rZ}(h:lS e a):lS e (a++b):=h.elim λl h=>⟨l,List.mem_append.2 (.inl h.1),h.2⟩
theorem Av{e:Nat->Int}{a b:rZ}(h:lS e b):lS e (a++b):=h.elim λl h=>⟨l,List.mem_append.2 (.inr h.1),h.2⟩
theorem DI{e:Nat->Int}{a b:rZ}(h:lS e a)(k:lS e b):lS e (As a b):=by obtain⟨x,c,h⟩:=h;obtain⟨y,d,k⟩:=k;exact⟨_,List.mem_flatMap.2 ⟨x,c,List.mem_map.2 ⟨y,d,rfl⟩⟩,tC h k⟩
theorem Ie{e:Nat->Int}{v w:Int}(hv:v<=w)(f g:LF)(h:LF.v f e=v)(k:LF.v g e=w):kO e (DH f g):=nT (cb k h hv) tD
theorem Aw{e:Nat->Int}{v w:Int}(hv:v<w)(f g:LF)(h:LF.v f e=v)(k:LF.v g e=w):kO e (yb f g):=nT (sb k h hv) tD
theorem RF{e:Nat->Int}{v w:Int}(hv:v=w)(f g:LF)(h:LF.v f e=v)(k:LF.v g e=w):kO e (Ic f g):=nT (cb k h (Int.le_of_eq hv)) (nT (cb h k (Int.le_of_eq hv.symm)) tD)
theorem Ig{e:Nat->Int}{xs ys:Al}{v w:Int}(h:has e xs v)(k:has e ys w)(p:v<=w):lS e (oM 0 ai xs ys):=uO h k (Ie p)
theorem Ih{e:Nat->Int}{xs ys:Al}{v w:Int}(h:has e xs v)(k:has e ys w)(p:¬v<=w):lS e (oM 0 ak xs ys):=uO k h (Aw (Int.not_le.1 p))
theorem Ii{e:Nat->Int}{xs ys:Al}{v w:Int}(h:has e xs v)(k:has e ys w)(p:v<w):lS e (oM 1 ai xs ys):=uO h k (Aw p)
theorem Ij{e:Nat->Int}{xs ys:Al}{v w:Int}(h:has e xs v)(k:has e ys w)(p:¬v<w):lS e (oM 1 ak xs ys):=uO k h (Ie (Int.not_lt.1 p))
theorem Ik{e:Nat->Int}{xs ys:Al}{v w:Int}(h:has e xs v)(k:has e ys w)(p:v=w):lS e (oM 2 ai xs ys):=uO h k (RF p)
theorem Il{e:Nat->Int}{xs ys:Al}{v w:Int}(h:has e xs v)(k:has e ys w)(p:¬v=w):lS e (oM 2 ak xs ys):=(Int.lt_or_gt_of_ne p).elim (λp=>Au (uO h k (Aw p))) (λp=>Av (uO k h (Aw p)))
theorem mC(aA:List Int)(bo:List Nat):∀x:F,(x.v aA bo->lS (ab aA bo) (x.dq ai))/\(¬x.v aA bo->lS (ab aA bo) (x.dq ak))
 |.l x y=>⟨Ig (x.dS aA bo) (y.dS aA bo),Ih (x.dS aA bo) (y.dS aA bo)⟩
 |.t x y=>⟨Ii (x.dS aA bo) (y.dS aA bo),Ij (x.dS aA bo) (y.dS aA bo)⟩
 |.e x y=>⟨Ik (x.dS aA bo) (y.dS aA bo),Il (x.dS aA bo) (y.dS aA bo)⟩
 |.ag x y=>⟨λh=>Ig (x.dS aA bo) (y.dS aA bo) (Int.ofNat_le.2 h),λh=>Ih (x.dS aA bo) (y.dS aA bo) (λk=>h (Int.ofNat_le.1 k))⟩
 |.U x y=>⟨λh=>Ii (x.dS aA bo) (y.dS aA bo) (Int.ofNat_lt.2 h),λh=>Ij (x.dS aA bo) (y.dS aA bo) (λk=>h (Int.ofNat_lt.1 k))⟩
 |.E x y=>⟨λh=>Ik (x.dS aA bo) (y.dS aA bo) (congrArg Int.ofNat h),λh=>Il (x.dS aA bo) (y.dS aA bo) (λk=>h (Int.ofNat_inj.1 k))⟩
 |.n x=>⟨(mC aA bo x).2,λh=>(mC aA bo x).1 (Classical.not_not.1 h)⟩
 |.c x y=>⟨λh=>DI ((mC aA bo x).1 h.1) ((mC aA bo y).1 h.2),λh=>(RG (x.v aA bo)).elim (λk=>Av ((mC aA bo y).2 λq=>h ⟨k,q⟩)) (λk=>Au ((mC aA bo x).2 k))⟩
 |.d x y=>⟨λh=>h.elim (λh=>Au ((mC aA bo x).1 h)) (λh=>Av ((mC aA bo y).1 h)),λh=>DI ((mC aA bo x).2 λq=>h (.inl q)) ((mC aA bo y).2 λq=>h (.inr q))⟩
 |.i x y=>⟨λh=>(RG (x.v aA bo)).elim (λk=>Av ((mC aA bo y).1 (h k))) (λk=>Au ((mC aA bo x).2 k)),λh=>DI ((mC aA bo x).1 (Im λq=>h λk=>absurd k q)) ((mC aA bo y).2 λq=>h λ_=>q)⟩
 |.o=>⟨λh=>h.elim,λ_=>⟨[],mX ..,tD⟩⟩
def F.ok(x:F):Bool:=(x.dq ak).all (ref 24)
end Q
open Q in
theorem O(aA:List Int)(bo:List Nat)(x:F)(h:x.ok=true:=by kernel_rfl):x.v aA bo:=Im λk=>((mC aA bo x).2 k).elim λl q=>Ia 24 q.2 (List.all_eq_true.1 h l q.1)
namespace Q
noncomputable abbrev T.x:T:=.a 0
noncomputable abbrev N.x:N:=.a 0
noncomputable abbrev T.y:T:=.a 1
noncomputable abbrev N.y:N:=.a 1
noncomputable abbrev T.u:T:=.a 2
noncomputable abbrev N.u:N:=.a 2
noncomputable abbrev T.w:T:=.a 3
noncomputable abbrev N.w:N:=.a 3
noncomputable abbrev T.b:T:=.a 4
noncomputable abbrev N.b:N:=.a 4
noncomputable abbrev T.d:T:=.a 5
noncomputable abbrev N.d:N:=.a 5
noncomputable abbrev T.e:T:=.a 6
noncomputable abbrev N.e:N:=.a 6
noncomputable abbrev T.f:T:=.a 7
noncomputable abbrev N.f:N:=.a 7
noncomputable abbrev T.h:T:=.a 8
noncomputable abbrev N.h:N:=.a 8
noncomputable abbrev T.j:T:=.a 9
noncomputable abbrev N.j:N:=.a 9
noncomputable abbrev T.q:T:=.a 10
noncomputable abbrev N.q:N:=.a 10
noncomputable abbrev T.v0:T:=.a 11
noncomputable abbrev N.v0:N:=.a 11
noncomputable abbrev T.nU:T:=.a 12
noncomputable abbrev N.nU:N:=.a 12
noncomputable abbrev T.nV:T:=.a 13
noncomputable abbrev N.nV:N:=.a 13
noncomputable abbrev T.v3:T:=.a 14
noncomputable abbrev N.v3:N:=.a 14
noncomputable abbrev T.mD:T:=.a 15
noncomputable abbrev N.mD:N:=.a 15
noncomputable abbrev T.v5:T:=.a 16
noncomputable abbrev N.v5:N:=.a 16
noncomputable abbrev T.Ax:T:=.a 17
noncomputable abbrev N.Ax:N:=.a 17
noncomputable abbrev T.v7:T:=.a 18
noncomputable abbrev N.v7:N:=.a 18
noncomputable abbrev T.v8:T:=.a 19
noncomputable abbrev N.v8:N:=.a 19
noncomputable abbrev T.v9:T:=.a 20
noncomputable abbrev N.v9:N:=.a 20
end Q
end
section
open PyProof.Rows
set_option genCtorIdx true in
inductive Bi where
 |aL|a|i|pV|n|m|sum|t|y|s|o|l|b|e|zip|r
 deriving DecidableEq
inductive V where
 |n
 |b(b:Bool)
 |i(i:Int)
 |a
 |bC(b:Bi)
 |L(v:aw)
 |r(a:aC)
 |o(a C dx:aC)
 |l(xs:List V)
 |aV(xs:List V)
 |eS(a C:aC)(ns:List Nat)(vs:List V)
 |dk(ks:List Int)(vs:List V)
 |mE(ns:List Nat)(vs:List V)
 deriving Inhabited
noncomputable def V.ctorIdx(x:V):Nat:=@V.casesOn (λ_=>Nat) x 0 (λ_=>1) (λ_=>2) 3 (λ_=>4) (λ_=>5) (λ_=>6) (λ_ _ _=>7) (λ_=>8) (λ_=>9) (λ_ _ _ _=>10) (λ_ _=>11) (λ_ _=>12)
inductive gf where
 |l(xs:List V)
 |dk(ks:List Int)(vs:List V)
 |eE(ns:List Nat)(vs:List V)
abbrev J:=aC->Option gf
abbrev ay:=List (Option V)
noncomputable def gf.ctorIdx(x:gf):Nat:=@gf.casesOn (λ_=>Nat) x (λ_=>0) (λ_ _=>1) (λ_ _=>2)
noncomputable def J.s(G:J)(a:aC)(o:gf):J:=λx=>if x=a then I o else G x
noncomputable def J.cT(G:J)(a:aC):J:=λx=>if x=a then aa else G x
noncomputable def dO:ay->Nat->Option V
 |[],_=>aa
 |v::_,0=>v
 |_::r,n+1=>dO r n
theorem Io:dO [] w1=(aa):=rfl
theorem Ip:dO (v::w1) 0=(v):=rfl
theorem Iq:dO (w1::r) (n+1)=(dO r n):=rfl
noncomputable def dX:ay->Nat->V->ay
 |[],_,_=>[]
 |_::r,0,v=>I v::r
 |x::r,n+1,v=>x::dX r n v
theorem RH:dX [] w1 w2=([]):=rfl
theorem RI:dX (w1::r) 0 v=(I v::r):=rfl
theorem RJ:dX (x::r) (n+1) v=(x::dX r n v):=rfl
noncomputable def i6:ay->List Nat->List V->ay
 |l,i::is,v::vs=>i6 (dX l i v) is vs
 |l,_,_=>l
noncomputable def iQ:List Nat->List V->Nat->Option V
 |n::ns,v::vs,x=>match ie n x with|true=>I v|false=>iQ ns vs x
 |_,_,_=>aa
noncomputable def mY:List Nat->Nat->Bool
 |n::ns,x=>match ie n x with|true=>ai|false=>mY ns x
 |[],_=>ak
noncomputable def lT:List Nat->List V->Nat->V->List V
 |n::ns,v::vs,x,u=>match ie n x with|true=>u::vs|false=>v::lT ns vs x u
 |_,_,_,u=>[u]
def putN(ns:List Nat)(x:Nat):List Nat:=match mY ns x with|true=>ns|false=>ns++[x]
noncomputable def iR:List Int->List V->Int->Option V
 |n::ns,v::vs,x=>if n=x then I v else iR ns vs x
 |_,_,_=>aa
noncomputable def mF:List Int->List V->Int->V->List V
 |n::ns,v::vs,x,u=>if n=x then u::vs else v::mF ns vs x u
 |_,_,_,u=>[u]
noncomputable def mZ(ns:List Int)(x:Int):List Int:=if x∈ns then ns else ns++[x]
noncomputable def bw(i:Int)(n:Nat):Option Nat:=if 0<=i then(if i<n then I i.toNat else aa)else(if-(n:Int)<=i then I (i+n).toNat else aa)
def j7(xs:List V)(i:Int):Option V:=(bw i xs.length).bind λj=>xs[j]?
noncomputable def bound(i:Int)(n:Nat):Nat:=if 0<=i then eQ i.toNat n else(i+n).toNat
noncomputable def pW(xs:List V)(a b:Nat):List V:=(xs.drop a).take (b- a)
noncomputable def gg:V->Option Int
 |.i i=>I i
 |_=>aa
noncomputable def oN:V->Option Bool
 |.b i=>I i
 |_=>aa
noncomputable def wD:V->Option Bi
 |.bC i=>I i
 |_=>aa
noncomputable def kP:V->Option (List V)
 |.l i=>I i
 |_=>aa
noncomputable def lU:V->Option (List V)
 |.aV i=>I i
 |_=>aa
noncomputable def r4:V->Option aC
 |.r i=>I i
 |_=>aa
def kQ{aK:Type}(f:aK->V)(v:V):Option aK->Prop
 |some i=>v=f i
 |none=>True
theorem i7(v:V):kQ .i v (gg v):=by cases v<;>first|trivial|exact rfl
theorem yc(v:V):kQ .b v (oN v):=by cases v<;>first|trivial|exact rfl
theorem DJ(v:V):kQ .bC v (wD v):=by cases v<;>first|trivial|exact rfl
theorem oO(v:V):kQ .l v (kP v):=by cases v<;>first|trivial|exact rfl
theorem qS(v:V):kQ .aV v (lU v):=by cases v<;>first|trivial|exact rfl
theorem yd(v:V):kQ .r v (r4 v):=by cases v<;>first|trivial|exact rfl
def bR{aK:Type}(x:Option aK)(Q:aK->Prop):Prop:=match x with|some a=>Q a|none=>False
theorem kQ.eq(h:kQ f v o)(e:o=I a):v=f a:=by subst e;exact h
inductive RK{aK:Type}(f:aK->V)(v:V)(Q:aK->Prop):Prop
 |mk (a:aK) (e:v=f a) (q:Q a)
theorem kQ.eF(h:kQ f v o)(q:bR o Q):RK f v Q:=match o,h,q with|some a,h,q=>⟨a,h,q⟩
noncomputable def pX:List V->Option (List Int)
 |[]=>I []
 |v::r=>(gg v).bind λi=>(pX r).map (i::·)
noncomputable def lq:Option gf->Option (List V)
 |some (.l xs)=>I xs
 |_=>aa
noncomputable def dictAt:Option gf->Option (List Int×List V)
 |some (.dk ks ao)=>I (ks,ao)
 |_=>aa
noncomputable def nW:Option gf->Option (List Nat×List V)
 |some (.eE ks ao)=>I (ks,ao)
 |_=>aa
def ye{aK:Type}(f:aK->gf)(v:Option gf):Option aK->Prop
 |some i=>v=I (f i)
 |none=>True
theorem yf(v:Option gf):ye .l v (lq v):=by
 cases v with
 |none=>trivial
 |some o=>cases o<;>first|trivial|exact rfl
theorem DK(v:Option gf):ye (λp=>.dk p.1 p.2) v (dictAt v):=by
 cases v with
 |none=>trivial
 |some o=>cases o<;>first|trivial|exact rfl
theorem yg(v:Option gf):ye (λp=>.eE p.1 p.2) v (nW v):=by
 cases v with
 |none=>trivial
 |some o=>cases o<;>first|trivial|exact rfl
theorem ye.eq(h:ye f v o)(e:o=I a):v=I (f a):=by subst e;exact h
def ky(G:J):V->Option (List V)
 |.l xs=>I xs
 |.r a=>lq (G a)
 |_=>aa
noncomputable def yh:V->Nat
 |.l xs=>bif xs.isEmpty then 1 else 0
 |.aV xs=>bif xs.isEmpty then 2 else 0
 |.dk ks vs=>bif ks.isEmpty&&vs.isEmpty then 3 else 0
 |_=>0
def wF(G:J)(a b:V):Option Bool:=match yh b with
 |1=>(ky G a).map (·.isEmpty)
 |2=>(lU a).map (·.isEmpty)
 |3=>(r4 a).bind λr=>(dictAt (G r)).map λd=>d.1.isEmpty
 |_=>aa
noncomputable def fA{aK de:Type}(f:V->Option aK)(a b:V)(g:aK->aK->de):Option de:=(f a).bind λx=>(f b).map λy=>g x y
def Ir(a b:V):Option Bool:=((fA gg a b λx y=>a6 (x=y)).or (fA oN a b λx y=>x==y)).or
 ((fA (λv=>(lU v).bind pX) a b λx y=>a6 (x=y)).or (fA (λv=>(kP v).bind pX) a b λx y=>a6 (x=y)))
def wG(G:J)(a b:V):Option Bool:=match wF G a b with
 |some c=>I c
 |none=>Ir a b
noncomputable def yi:V->Nat
 |.n=>0
 |.eS .. =>1
 |.l _=>1
 |.aV _=>1
 |.i _=>1
 |.r _=>1
 |_=>2
noncomputable def It:V->Option aC
 |.eS a .. =>I a
 |_=>aa
def Ay(a b:V):Option Bool:=(fA It a b λx y=>a6 (x=y)).or (match yi a,yi b with
 |0,0=>I ai
 |0,1=>I ak
 |1,0=>I ak
 |_,_=>aa)
def yj(a b:V):Option Bool:=(gg a).bind λx=>((kP b).bind pX).map λb=>a6 (x∈b)
def qT(G:J)(b4:lW)(a b:V):Option Bool:=
 match b4 with
 |.Lt=>fA gg a b λx y=>a6 (x<y)
 |.LtE=>fA gg a b λx y=>a6 (x<=y)
 |.Gt=>fA gg a b λx y=>a6 (y<x)
 |.GtE=>fA gg a b λx y=>a6 (y<=x)
 |.Eq=>wG G a b
 |.NotEq=>(wG G a b).map (!·)
 |.Is=>Ay a b
 |.IsNot=>(Ay a b).map (!·)
 |.In=>yj a b
 |.NotIn=>(yj a b).map (!·)
noncomputable def cK:Nat:=100000
structure wH(x y:Int):Prop where
 ok:IntMulOk x y
structure DL(y:Int):Prop where
 nz:y≠0
 sm:y.natAbs<2^64
structure Iu(x y:Int):Prop where
 yk:0<=y
 sm:(RL x:Int)*y<=2^27
structure nX(n:Nat):Prop where
 le:n<=cK
def nY(a b:V)(Q:Int->Int->Prop):Prop:=bR (gg a) λx=>bR (gg b) λy=>Q x y
def tF{aK:Type}(o:Option aK)(Q:aK->Prop)(E:Prop):Prop:=match o with|some a=>Q a|none=>E
def DN(b4:j8)(a b:V)(Q:V->Prop):Prop:=
 match b4 with
 |.Add=>tF (gg a) (λx=>bR (gg b) λy=>Q (.i (x+y))) (tF (kP a) (λxs=>bR (kP b) λys=>nX (xs.length+ys.length)/\Q (.l (xs++ys)))
   (bR (lU a) λxs=>bR (lU b) λys=>nX (xs.length+ys.length)/\Q (.aV (xs++ys))))
 |.Sub=>nY a b λx y=>Q (.i (x- y))
 |.Mult=>nY a b λx y=>wH x y/\Q (.i (x*y))
 |.FloorDiv=>nY a b λx y=>DL y/\Q (.i (x.fdiv y))
 |.Mod=>nY a b λx y=>y≠0/\Q (.i (x.fmod y))
 |.Pow=>nY a b λx y=>Iu x y/\Q (.i (x^y.toNat))
 |_=>False
structure jB(b:Bool)(A B:Prop):Prop where
 t:b=ai->A
 f:b=ak->B
def uP(last c:Bool)(A:Prop)(Q:Bool->J->Prop)(G:J):Prop:=match last with
 |true=>Q c G
 |false=>jB c A (Q ak G)
def Az(last c:Bool)(A:Prop)(Q:Bool->J->Prop)(G:J):Prop:=match last with
 |true=>Q c G
 |false=>jB c (Q ai G) A
structure Rd{aK:Type}(x:Option aK)(Q:aK->Prop):Prop where
 ok:bR x Q
def rd{aK:Type}(v:V)(x:Option aK)(Q:aK->Prop):Prop:=match v with
 |.r _=>Rd x Q
 |.o _ _ _=>Rd x Q
 |_=>bR x Q
inductive Tg where
 |cD(i:Nat)
 |fG(is:List Nat)
set_option genCtorIdx true in
inductive qU where
 |s|qV|z|r
mutual
inductive E where
 |i(i:Int)|b(b:Bool)|n
 |z(i:Nat)
 |L(v:V)
 |bH(b4:j8)(l r:E)
 |neg(e:E)|not(e:E)
 |and(es:Es)|o(es:Es)
 |aJ(l:E)(eK:Es)
 |d7(c b o:E)
 |c(f:E)(as:Es)
 |pY(m:Bool)(e:E)
 |iD(o:E)(n:Nat)(as:Es)
 |r5(o:E)(as:Es)
 |iE(o:Nat)(e:E)
 |ext(o:Nat)(e:E)
 |au(o:E)(n:Nat)
 |bq(o i:E)
 |m4(o:E)(n:Nat)
 |uQ(o l u:E)|yl(o l:E)|uR(o u:E)|ym(o:E)
 |aV(es:Es)|cj(m:Bool)(es:Es)|mE(ns:List Nat)(es:Es)|r6(m:Bool)
 |q(t:Tg)(k:qU)(a b:E)(aR6:Es)(j9:E)
 |hM
inductive Es where
 |n
 |c(b4:lW)(e:E)(es:Es)
end
noncomputable def Es.oP:Es->Bool
 |.n=>ai
 |.c _ _ _=>ak
inductive Pl where
 |z(i:Nat)
 |au(i n:Nat)
 |bq(o i:E)
mutual
inductive S where
 |aN(t:Pl)(e:E)
 |fm(ts:List Pl)(e:E)
 |eY(t:Pl)(b4:j8)(e:E)
 |cR(e:E)
 |ite(c:E)(b o:Ss)
 |gK(t:Tg)(k:qU)(a b:E)(body:Ss)
 |while(c:E)(b:Ss)
 |r(e:E)
 |c
 |hM
 |dC(i:Nat)
 |qW(i:Nat)
 |tG(i n:Nat)
inductive Ss where
 |n
 |c(s:S)(r:Ss)
end
inductive Fl where
 |n|c
 |r(v:V)
structure c9 where
 /-- Iv aR7 aR8 may Iw aR9 or stored:r7 a class and a name;with Iv aS0 own value,if it has cD-/
 tH:aC->Nat->Option (Option V)
 iD:aC->Nat->Option aC
abbrev CO:=V->List V->J->(V->J->Prop)->Prop
abbrev EW:=ay->J->(V->J->Prop)->Prop
noncomputable def uS:Int->List Int->List Int
 |x,[]=>[x]
 |x,y::r=>if x<=y then x::y::r else y::uS x r
theorem RM:uS x []=([x]):=rfl
theorem DO:uS x (y::r)=(if x<=y then x::y::r else y::uS x r):=rfl
noncomputable def qX:List Int->List Int
 |[]=>[]
 |x::r=>uS x (qX r)
noncomputable def RN:Int->List Int->Int
 |m,[]=>m
 |m,x::r=>RN (if m<x then x else m) r
def oQ(T:c9)(C:aC)(ns:List Nat)(vs:List V)(n:Nat):Option V:=match T.tH C n with
 |some c=>match iQ ns vs n with
  |some u=>I u
  |none=>c
 |none=>aa
def pZ(T:c9)(G:J)(v:V)(n:Nat):Option V:=match v with
 |.eS _ C ns vs=>oQ T C ns vs n
 |.o _ C dx=>(nW (G dx)).bind λf=>oQ T C f.1 f.2 n
 |_=>aa
def listOf(G:J):V->Option (List V)
 |.l xs=>I xs
 |.aV xs=>I xs
 |.r a=>lq (G a)
 |_=>aa
def tI(G:J):V->Option (List Int×List V)
 |.r r=>dictAt (G r)
 |.dk ks ao=>I (ks,ao)
 |_=>aa
def AA(G:J)(a:aC):Option (List Nat×List V):=nW (G a)
def yn:V->Nat
 |.bC b=>if b=.i then 1 else if b=.o then 2 else 0
 |.aV l=>if l.map wD=[I .y,I .b,I .l,I .t]then 3 else 0
 |_=>0
def uT(v t:V):Option Bool:=match yn t with
 |1=>(gg v).map λ_=>ai
 |2=>(gg v).map λ_=>ak
 |3=>(kP v).map λ_=>ai
 |_=>aa
noncomputable def mG:List V->Option V
 |[v]=>I v
 |_=>aa
noncomputable def tJ:List V->Option (V×V)
 |[v,w]=>I (v,w)
 |_=>aa
def kv{aK:Type}(Q:aK->J->Prop)(G:J)(v:aK):Prop:=Q v G
def kf{aK de:Type}(f:aK->de)(Q:de->J->Prop)(G:J)(x:aK):Prop:=Q (f x) G
def kg{aK de:Type}(f:aK->de)(Q:de->J->Prop)(x:aK)(G:J):Prop:=Q (f x) G
def RO(Q:V->J->Prop)(G:J)(xs:List V):Prop:=Q (.i xs.length) G
def RP(G:J)(Q:V->J->Prop)(v:V):Prop:=rd v (listOf G v) (RO Q G)
def RQ(G:J)(Q:V->J->Prop)(v:V):Prop:=rd v (listOf G v) (kf .aV Q G)
def RR(Q:V->J->Prop)(G:J)(is:List Int):Prop:=Q (.i is.sum) G
def RS(G:J)(Q:V->J->Prop)(v:V):Prop:=bR (kP v) λr=>bR (pX r) (RR Q G)
def RT(G:J)(Q:V->J->Prop)(d:List Int×List V):Prop:=d.1.length<60/\Q (.l ((qX d.1).map .i)) G
def RU(G:J)(Q:V->J->Prop)(v:V):Prop:=bR (r4 v) λa=>Rd (tI G (.r a)) (RT G Q)
def Iy(b:Bi)(vs:List V)(G:J)(Q:V->J->Prop):Prop:=
 match b with
 |.aL=>bR (mG vs) (RP G Q)
 |.a=>bR (mG vs) λv=>bR (gg v) λx=>Q (.i x.natAbs) G
 |.i=>bR (mG vs) λv=>bR (oN v) λb=>Q (.i (if b then 1 else 0)) G
 |.pV=>bR (tJ vs) λp=>bR (uT p.1 p.2) λb=>Q (.b b) G
 |.n=>bR (tJ vs) λp=>nY p.1 p.2 λx y=>Q (.i (eQ x y)) G
 |.m=>tF (tJ vs) (λp=>nY p.1 p.2 λx y=>Q (.i (jn x y)) G)
   (bR (mG vs) λv=>bR (kP v) λr=>bR (pX r) λis=>0<is.length/\∀m,m∈is->(∀a∈is,a<=m)->Q (.i m) G)
 |.sum=>bR (mG vs) (RS G Q)
 |.t=>bR (mG vs) (RQ G Q)
 |.y=>bR (mG vs) λv=>bR (kP v) λr=>pX r=I [65]/\Q .a G
 |.s=>bR (mG vs) (RU G Q)
 |_=>False
def tK(aU:CO)(f:V)(vs:List V)(G:J)(Q:V->J->Prop):Prop:=
 match f with
 |.L g=>aU (.L g) vs G Q
 |.bC b=>Iy b vs G Q
 |_=>False
def DP(o:Option gf)(i:Int):Option V:=match lq o with
 |some xs=>j7 xs i
 |none=>(dictAt o).bind λd=>iR d.1 d.2 i
def Iz(G:J)(o:V)(i:Int):Option V:=match o with
 |.l xs=>j7 xs i
 |.aV xs=>j7 xs i
 |.r a=>DP (G a) i
 |.dk ks vs=>iR ks vs i
 |_=>aa
def r8(G:J)(o i:V):Option V:=(gg i).bind λi=>Iz G o i
noncomputable def RV(t:Bool)(xs:List V):V:=match t with|true=>.aV xs|false=>.l xs
noncomputable def uU(b:Bool)(m:Option aC):Option Addr:=match b with
 |true=>aa
 |false=>m
def AB(T:c9)(G:J)(ov:V)(n:Nat):Option Addr:=match ov with
 |.eS _ C ns _=>uU (mY ns n) (T.iD C n)
 |.o _ C dx=>(nW (G dx)).bind λf=>uU (mY f.1 n) (T.iD C n)
 |_=>aa
def AD(G:J):V->Prop
 |.r r=>(dictAt (G r)).isSome=ai
 |.dk _ _=>True
 |_=>False
def uV(z:ay)(o:Nat):Option Addr:=(dO z o).bind r4
def wI(z:ay)(G:J)(o:Nat):Prop:=bR (uV z o) λa=>(lq (G a)).isSome=ai
def RW(G:J)(ov:V)(vs:List V)(Q:V->Prop):Prop:=rd ov (tI G ov) λd=>tF (mG vs) (λk=>bR (gg k) λk=>Q ((iR d.1 d.2 k).getD .n)) (bR (tJ vs) λp=>bR (gg p.1) λk=>Q ((iR d.1 d.2 k).getD p.2))
structure wJ(G:J)(ov:V)(vs:List V)(Q:V->Prop):Prop where
 ok:RW G ov vs Q
def AE(o:gf)(G:J)(Q:V->J->Prop):Prop:=∀a,G a=aa->Q (.r a) (G.s a o)
def wK(m:Bool)(xs:List V)(G:J)(Q:V->J->Prop):Prop:=match m with
 |true=>AE (.l xs) G Q
 |false=>Q (.l xs) G
def IA(m:Bool)(G:J)(Q:V->J->Prop):Prop:=match m with
 |true=>AE (.dk [] []) G Q
 |false=>Q (.dk [] []) G
def p5(t:Tg)(v:V)(z:ay)(Q:ay->Prop):Prop:=match t with
 |.cD i=>Q (dX z i v)
 |.fG is=>bR (lU v) λvs=>is.length=vs.length/\Q (i6 z is vs)
noncomputable def qY:List V->List V->List V
 |a::as,b::bs=>.aV [a,b]::qY as bs
 |_,_=>[]
noncomputable def m5(n:Nat):List V->List V
 |[]=>[]
 |a::as=>.aV [.i n,a]::m5 (n+1) as
noncomputable def tL(n k:Nat):List V:=match k with
 |0=>[]
 |k+1=>.i n::tL (n+1) k
def p6(k:qU)(a b:V):Option (List V):=match k with
 |.s=>(kP a).or (lU a)
 |.qV=>(kP a).map (m5 0)
 |.z=>fA kP a b qY
 |.r=>(gg a).bind λn=>if-100000<=n/\n<=100000 then I (tL 0 n.toNat)else aa
noncomputable def DQ:V->Option (List Nat×List V)
 |.mE ns vs=>I (ns,vs)
 |_=>aa
theorem RX(v:V):kQ (λp=>.mE p.1 p.2) v (DQ v):=by cases v<;>first|trivial|exact rfl
noncomputable def kR(f:V->J->(Option V->J->Prop)->Prop):List V->List V->J->(List V->J->Prop)->Prop
 |[],cq,G,Q=>Q cq G
 |x::xs,cq,G,Q=>f x G λo G=>match o with
  |some v=>kR f xs (cq++[v]) G Q
  |none=>kR f xs cq G Q
abbrev VQ:=V->J->Prop
abbrev wL:=ay->J->(List V->J->Prop)->Prop
abbrev BW:=ay->J->(Bool->J->Prop)->Prop
def RY(b4:j8)(a:V)(Q:VQ)(b:V)(G:J):Prop:=DN b4 a b (kv Q G)
def RZ(w:EW)(b4:j8)(z:ay)(Q:VQ)(a:V)(G:J):Prop:=w z G (RY b4 a Q)
def R3(Q:VQ)(G:J)(x:Int):Prop:=Q (.i (-x)) G
def R4(Q:VQ)(G:J)(x:Bool):Prop:=Q (.b (!x)) G
def R5(Q:VQ)(a:V)(G:J):Prop:=bR (gg a) (R3 Q G)
def R6(Q:VQ)(a:V)(G:J):Prop:=bR (oN a) (R4 Q G)
def R7(w:V->BW)(z:ay)(Q:VQ)(a:V)(G:J):Prop:=w a z G (kg .b Q)
def R8{de:Type}(w u:ay->J->de->Prop)(z:ay)(G:J)(Q:de)(t:Bool):Prop:=jB t (w z G Q) (u z G Q)
def IB{de:Type}(w u:ay->J->de->Prop)(z:ay)(Q:de)(t:V)(G:J):Prop:=bR (oN t) (R8 w u z G Q)
def R9(aU:CO)(f:V)(Q:VQ)(vs:List V)(G:J):Prop:=tK aU f vs G Q
def Sa(aU:CO)(w:wL)(z:ay)(Q:VQ)(f:V)(G:J):Prop:=w z G (R9 aU f Q)
def Sb(m:Bool)(G:J)(Q:VQ)(xs:List V):Prop:=wK m xs G Q
def Sd(m:Bool)(Q:VQ)(a:V)(G:J):Prop:=rd a (listOf G a) (Sb m G Q)
def Se(aU:CO)(f:aC)(o:V)(Q:VQ)(vs:List V)(G:J):Prop:=aU (.L (.ref f)) (o::vs) G Q
def Sf(aU:CO)(w:wL)(o:V)(z:ay)(G:J)(Q:VQ)(f:aC):Prop:=w z G (Se aU f o Q)
def Sg(T:c9)(aU:CO)(n:Nat)(w:wL)(z:ay)(Q:VQ)(o:V)(G:J):Prop:=rd o (AB T G o n) (Sf aU w o z G Q)
def Si(o:V)(Q:VQ)(vs:List V)(G:J):Prop:=wJ G o vs (kv Q G)
def Sj(w:wL)(z:ay)(Q:VQ)(o:V)(G:J):Prop:=AD G o/\w z G (Si o Q)
def Sk(G:J)(a:aC)(v:V)(Q:VQ)(xs:List V):Prop:=nX (xs.length+1)/\Q .n (G.s a (.l (xs++[v])))
def Sl(G:J)(v:V)(Q:VQ)(a:aC):Prop:=Rd (ky G (.r a)) (Sk G a v Q)
def Sn(z:ay)(o:Nat)(Q:VQ)(v:V)(G:J):Prop:=bR (uV z o) (Sl G v Q)
def So(G:J)(a:aC)(xs:List V)(Q:VQ)(ys:List V):Prop:=nX (xs.length+ys.length)/\Q .n (G.s a (.l (xs++ys)))
def Sp(G:J)(a:aC)(v:V)(Q:VQ)(xs:List V):Prop:=rd v (ky G v) (So G a xs Q)
def Sr(G:J)(v:V)(Q:VQ)(a:aC):Prop:=Rd (ky G (.r a)) (Sp G a v Q)
def Su(z:ay)(o:Nat)(Q:VQ)(v:V)(G:J):Prop:=bR (uV z o) (Sr G v Q)
def Sv(T:c9)(n:Nat)(Q:VQ)(o:V)(G:J):Prop:=rd o (pZ T G o n) (kv Q G)
def Sw(o:V)(Q:VQ)(i:V)(G:J):Prop:=rd o (r8 G o i) (kv Q G)
def Sx(w:EW)(z:ay)(Q:VQ)(o:V)(G:J):Prop:=w z G (Sw o Q)
def Sy(n:Nat)(G:J)(Q:VQ)(d:List Nat×List V):Prop:=bR (iQ d.1 d.2 n) (kv Q G)
def Sz(n:Nat)(Q:VQ)(o:V)(G:J):Prop:=bR (DQ o) (Sy n G Q)
def SA(o l:V)(Q:VQ)(u:V)(G:J):Prop:=nY l u λa b=>bR (kP o) λxs=>Q (.l (pW xs (bound a xs.length) (bound b xs.length))) G
def SD(w:EW)(o:V)(z:ay)(Q:VQ)(l:V)(G:J):Prop:=w z G (SA o l Q)
def SE(w u:EW)(z:ay)(Q:VQ)(o:V)(G:J):Prop:=w z G (SD u o z Q)
def SF(o:V)(Q:VQ)(l:V)(G:J):Prop:=bR (gg l) λa=>bR (lU o) λxs=>(1<=a/\a<=xs.length)/\Q (.aV (xs.drop a.toNat)) G
def SG(w:EW)(z:ay)(Q:VQ)(o:V)(G:J):Prop:=w z G (SF o Q)
def SH(b:Int)(Q:VQ)(G:J)(x:List V):Prop:=Q (.l (x.take (bound b x.length))) G
def SI(Q:VQ)(G:J)(x:List V):Prop:=Q (.l x.reverse) G
def SJ(o:V)(Q:VQ)(u:V)(G:J):Prop:=bR (gg u) λb=>rd o (ky G o) (SH b Q G)
def SK(w:EW)(z:ay)(Q:VQ)(o:V)(G:J):Prop:=w z G (SJ o Q)
def SO(Q:VQ)(o:V)(G:J):Prop:=rd o (ky G o) (SI Q G)
def SP(m:Bool)(Q:VQ)(vs:List V)(G:J):Prop:=wK m vs G Q
def SR(w:EW)(z:ay)(R:Option V->J->Prop)(c:Bool)(G:J):Prop:=jB c (w z G (kg I R)) (R aa G)
def SS(u:BW)(w:EW)(G:J)(R:Option V->J->Prop)(z:ay):Prop:=u z G (SR w z R)
def cF(t:Tg)(u:BW)(w:EW)(z:ay)(x:V)(G:J)(R:Option V->J->Prop):Prop:=p5 t x z (SS u w G R)
def SU(f:V->J->(Option V->J->Prop)->Prop)(G:J)(Q:VQ)(xs:List V):Prop:=kR f xs [] G (kg .l Q)
def SX(k:qU)(f:V->J->(Option V->J->Prop)->Prop)(a:V)(Q:VQ)(b:V)(G:J):Prop:=bR (p6 k a b) (SU f G Q)
def SY(w:EW)(k:qU)(f:V->J->(Option V->J->Prop)->Prop)(z:ay)(Q:VQ)(a:V)(G:J):Prop:=w z G (SX k f a Q)
def kC(v:V)(Q:List V->J->Prop)(vs:List V)(G:J):Prop:=Q (v::vs) G
def S0(w:wL)(z:ay)(Q:List V->J->Prop)(v:V)(G:J):Prop:=w z G (kC v Q)
def S1(n:Bool)(w:BW)(z:ay)(G:J)(Q:Bool->J->Prop)(b:Bool):Prop:=uP n b (w z G Q) Q G
def IC(n:Bool)(w:BW)(z:ay)(Q:Bool->J->Prop)(v:V)(G:J):Prop:=bR (oN v) (S1 n w z G Q)
def S2(n:Bool)(w:BW)(z:ay)(G:J)(Q:Bool->J->Prop)(b:Bool):Prop:=Az n b (w z G Q) Q G
def ID(n:Bool)(w:BW)(z:ay)(Q:Bool->J->Prop)(v:V)(G:J):Prop:=bR (oN v) (S2 n w z G Q)
def S3(n:Bool)(w:V->BW)(b:V)(z:ay)(G:J)(Q:Bool->J->Prop)(c:Bool):Prop:=uP n c (w b z G Q) Q G
def S4(b4:lW)(n:Bool)(w:V->BW)(a:V)(z:ay)(Q:Bool->J->Prop)(b:V)(G:J):Prop:=rd a (qT G b4 a b) (S3 n w b z G Q)
mutual
noncomputable def ct(T:c9)(aU:CO):E->EW
 |.i i=>λ_ G Q=>Q (.i i) G
 |.b b=>λ_ G Q=>Q (.b b) G
 |.n=>λ_ G Q=>Q .n G
 |.z i=>λz G Q=>bR (dO z i) (kv Q G)
 |.L v=>λ_ G Q=>Q v G
 |.bH b4 l r=>λz G Q=>ct T aU l z G (RZ (ct T aU r) b4 z Q)
 |.neg e=>λz G Q=>ct T aU e z G (R5 Q)
 |.not e=>λz G Q=>ct T aU e z G (R6 Q)
 |.and es=>λz G Q=>r9 T aU es z G (kg .b Q)
 |.o es=>λz G Q=>DR T aU es z G (kg .b Q)
 |.aJ l eK=>λz G Q=>ct T aU l z G (R7 (AF T aU eK) z Q)
 |.d7 c b o=>λz G Q=>ct T aU c z G (IB (ct T aU b) (ct T aU o) z Q)
 |.c f as=>λz G Q=>ct T aU f z G (Sa aU (sa T aU as) z Q)
 |.pY m e=>λz G Q=>ct T aU e z G (Sd m Q)
 |.iD o n as=>λz G Q=>ct T aU o z G (Sg T aU n (sa T aU as) z Q)
 |.r5 o as=>λz G Q=>ct T aU o z G (Sj (sa T aU as) z Q)
 |.iE o e=>λz G Q=>wI z G o/\ct T aU e z G (Sn z o Q)
 |.ext o e=>λz G Q=>wI z G o/\ct T aU e z G (Su z o Q)
 |.au o n=>λz G Q=>ct T aU o z G (Sv T n Q)
 |.bq o i=>λz G Q=>ct T aU o z G (Sx (ct T aU i) z Q)
 |.m4 o n=>λz G Q=>ct T aU o z G (Sz n Q)
 |.uQ o l u=>λz G Q=>ct T aU o z G (SE (ct T aU l) (ct T aU u) z Q)
 |.yl o l=>λz G Q=>ct T aU o z G (SG (ct T aU l) z Q)
 |.uR o u=>λz G Q=>ct T aU o z G (SK (ct T aU u) z Q)
 |.ym o=>λz G Q=>ct T aU o z G (SO Q)
 |.aV es=>λz G Q=>sa T aU es z G (kg .aV Q)
 |.cj m es=>λz G Q=>sa T aU es z G (SP m Q)
 |.mE ns es=>λz G Q=>sa T aU es z G (kg (.mE ns) Q)
 |.r6 m=>λ_ G Q=>IA m G Q
 |.q t k a b eK e=>λz G Q=>ct T aU a z G (SY (ct T aU b) k (cF t (r9 T aU eK) (ct T aU e) z) z Q)
 |.hM=>λ_ _ _=>False
noncomputable def sa(T:c9)(aU:CO):Es->wL
 |.n=>λ_ G Q=>Q [] G
 |.c _ e es=>λz G Q=>ct T aU e z G (S0 (sa T aU es) z Q)
noncomputable def r9(T:c9)(aU:CO):Es->BW
 |.n=>λ_ G Q=>Q ai G
 |.c _ e es=>λz G Q=>ct T aU e z G (IC es.oP (r9 T aU es) z Q)
noncomputable def DR(T:c9)(aU:CO):Es->BW
 |.n=>λ_ G Q=>Q ak G
 |.c _ e es=>λz G Q=>ct T aU e z G (ID es.oP (DR T aU es) z Q)
noncomputable def AF(T:c9)(aU:CO):Es->V->BW
 |.n=>λ_ _ G Q=>Q ai G
 |.c b4 e es=>λa z G Q=>ct T aU e z G (S4 b4 es.oP (AF T aU es) a z Q)
end
abbrev SW:=ay->J->(Fl->ay->J->Prop)->Prop
def IE(fl:Fl)(P:Prop)(z:ay)(G:J)(Q:Fl->ay->J->Prop):Prop:=match fl with
 |.r v=>Q (.r v) z G
 |_=>P
def IF(fl:Fl)(P:Prop)(z:ay)(G:J)(Q:Fl->ay->J->Prop):Prop:=match fl with
 |.n=>P
 |fl=>Q fl z G
abbrev SQ:=Fl->ay->J->Prop
def mH(w:SW)(Q:SQ)(fl:Fl)(z:ay)(G:J):Prop:=IE fl (w z G Q) z G Q
def nZ(w:SW)(Q:SQ)(fl:Fl)(z:ay)(G:J):Prop:=IF fl (w z G Q) z G Q
def IG(body w:SW)(G:J)(Q:SQ)(z:ay):Prop:=body z G (mH w Q)
noncomputable def d8(t:Tg)(body:SW):List V->SW
 |[]=>λz G Q=>Q .n z G
 |x::xs=>λz G Q=>p5 t x z (IG body (d8 t body xs) G Q)
theorem S5:d8 t body []=(λz G Q=>Q .n z G):=rfl
theorem S6:d8 t body (x::xs)=(λz G Q=>p5 t x z (IG body (d8 t body xs) G Q)):=rfl
def S7(body w:SW)(z:ay)(G:J)(Q:SQ)(t:Bool):Prop:=jB t (body z G (mH w Q)) (Q .n z G)
def S8(body w:SW)(z:ay)(Q:SQ)(t:V)(G:J):Prop:=bR (oN t) (S7 body w z G Q)
noncomputable def p7(c:EW)(body:SW):Nat->SW
 |0=>λ_ _ _=>False
 |n+1=>λz G Q=>c z G (S8 body (p7 c body n) z Q)
def S9(a:aC)(i:Int)(v:V)(G:J)(Q:J->Prop):gf->Prop
 |.l xs=>(0<=i/\i<xs.length)/\Q (G.s a (.l (xs.set i.toNat v)))
 |.dk ks vs=>nX (ks.length+1)/\Q (G.s a (.dk (mZ ks i) (mF ks vs i v)))
 |_=>False
def Ta(a:aC)(v:V)(G:J)(Q:J->Prop)(i:Int):Prop:=Rd (G a) (S9 a i v G Q)
def Tb(iv v:V)(G:J)(Q:J->Prop)(a:aC):Prop:=bR (gg iv) (Ta a v G Q)
def sd(ov iv v:V)(G:J)(Q:J->Prop):Prop:=bR (r4 ov) (Tb iv v G Q)
def Tc(T:c9)(C dx n:aC)(v:V)(G:J)(Q:J->Prop)(f:List Nat×List V):Prop:=((T.tH C n).isSome=ai/\f.1.length<100)/\Q (G.s dx (.eE (putN f.1 n) (lT f.1 f.2 n v)))
def IH(T:c9)(o:V)(n:Nat)(v:V)(G:J)(Q:J->Prop):Prop:=match o with
 |.o _ C dx=>Rd (AA G dx) (Tc T C dx n v G Q)
 |_=>False
structure n4(T:c9)(o:V)(n:Nat)(v:V)(G:J)(Q:J->Prop):Prop where
 ok:IH T o n v G Q
abbrev LQ:=ay->J->Prop
def Td(T:c9)(n:Nat)(v:V)(z:ay)(G:J)(Q:LQ)(o:V):Prop:=n4 T o n v G (Q z)
def Te(v o:V)(z:ay)(Q:LQ)(i:V)(G:J):Prop:=sd o i v G (Q z)
def Tf(w:EW)(v:V)(z:ay)(Q:LQ)(o:V)(G:J):Prop:=w z G (Te v o z Q)
def tM(T:c9)(aU:CO)(t:Pl)(v:V)(z:ay)(G:J)(Q:ay->J->Prop):Prop:=match t with
 |.z i=>Q (dX z i v) G
 |.au i n=>bR (dO z i) (Td T n v z G Q)
 |.bq o i=>ct T aU o z G (Tf (ct T aU i) v z Q)
def Th(w:ay->J->LQ->Prop)(Q:LQ)(z:ay)(G:J):Prop:=w z G Q
noncomputable def wM(T:c9)(aU:CO):List Pl->List V->ay->J->(ay->J->Prop)->Prop
 |[],[]=>λz G Q=>Q z G
 |t::ts,v::vs=>λz G Q=>tM T aU t v z G (Th (wM T aU ts vs) Q)
 |_,_=>λ_ _ _=>False
def uW(b4:j8)(a b:V)(Q:V->Prop):Prop:=match b4 with
 |.Add=>nY a b λx y=>Q (.i (x+y))
 |.Sub=>nY a b λx y=>Q (.i (x- y))
 |_=>False
def wN(G:J):V->Option (V×J)
 |.r a=>((lq (G a)).map λxs=>(V.l xs,G.cT a)).or ((dictAt (G a)).map λd=>(V.dk d.1 d.2,G.cT a))
 |.o a C dx=>(nW (G dx)).map λf=>(V.eS a C f.1 f.2,G.cT dx)
 |_=>aa
noncomputable def Ti:V->Option aC
 |.o _ _ dx=>I dx
 |_=>aa
def AG(G:J)(v:V)(n:Nat):Option J:=(Ti v).bind λdx=>(nW (G dx)).bind λf=>((iQ f.1 f.2 n).bind r4).bind λb=>(lq (G b)).map λxs=>(G.cT b).s dx (.eE f.1 (lT f.1 f.2 n (.l xs)))
def DS(T:c9)(aU:CO)(t:Pl)(z:ay)(Q:SQ)(v:V)(G:J):Prop:=tM T aU t v z G (Q .n)
def Tj(T:c9)(aU:CO)(ts:List Pl)(z:ay)(G:J)(Q:SQ)(vs:List V):Prop:=ts.length=vs.length/\wM T aU ts vs z G (Q .n)
def Tn(T:c9)(aU:CO)(ts:List Pl)(z:ay)(Q:SQ)(v:V)(G:J):Prop:=bR (lU v) (Tj T aU ts z G Q)
def To(i:Nat)(z:ay)(G:J)(Q:SQ)(v:V):Prop:=Q .n (dX z i v) G
def Tp(b4:j8)(i:Nat)(z:ay)(Q:SQ)(a b:V)(G:J):Prop:=uW b4 a b (To i z G Q)
def kU(b4:j8)(w:EW)(i:Nat)(z:ay)(G:J)(Q:SQ)(a:V):Prop:=w z G (Tp b4 i z Q a)
def Tq(T:c9)(n:Nat)(o:V)(z:ay)(G:J)(Q:SQ)(v:V):Prop:=n4 T o n v G (Q .n z)
def Ts(T:c9)(b4:j8)(n:Nat)(o:V)(z:ay)(Q:SQ)(a b:V)(G:J):Prop:=uW b4 a b (Tq T n o z G Q)
def Tt(T:c9)(b4:j8)(n:Nat)(w:EW)(o:V)(z:ay)(G:J)(Q:SQ)(a:V):Prop:=w z G (Ts T b4 n o z Q a)
def Tu(T:c9)(b4:j8)(n:Nat)(w:EW)(z:ay)(G:J)(Q:SQ)(o:V):Prop:=rd o (pZ T G o n) (Tt T b4 n w o z G Q)
def Tv(o i:V)(z:ay)(G:J)(Q:SQ)(v:V):Prop:=sd o i v G (Q .n z)
def Tw(b4:j8)(o i:V)(z:ay)(Q:SQ)(a b:V)(G:J):Prop:=uW b4 a b (Tv o i z G Q)
def Tz(b4:j8)(w:EW)(o i:V)(z:ay)(G:J)(Q:SQ)(a:V):Prop:=w z G (Tw b4 o i z Q a)
def TA(b4:j8)(w:EW)(o:V)(z:ay)(Q:SQ)(i:V)(G:J):Prop:=rd o (r8 G o i) (Tz b4 w o i z G Q)
def TB(b4:j8)(u w:EW)(z:ay)(Q:SQ)(o:V)(G:J):Prop:=u z G (TA b4 w o z Q)
def TC(z:ay)(Q:SQ)(v:V)(G:J):Prop:=match v with
 |.n=>Q .n z G
 |.i _=>Q .n z G
 |_=>False
def TF(t:Tg)(body:SW)(z:ay)(G:J)(Q:SQ)(xs:List V):Prop:=d8 t body xs z G Q
def TG(k:qU)(t:Tg)(body:SW)(a:V)(z:ay)(Q:SQ)(b:V)(G:J):Prop:=bR (p6 k a b) (TF t body z G Q)
def TH(w:EW)(k:qU)(t:Tg)(body:SW)(z:ay)(Q:SQ)(a:V)(G:J):Prop:=w z G (TG k t body a z Q)
def TJ(z:ay)(Q:SQ)(v:V)(G:J):Prop:=Q (.r v) z G
def TK(i:Nat)(z:ay)(Q:SQ)(x:V×J):Prop:=Q .n (dX z i x.1) x.2
def TM(i:Nat)(z:ay)(G:J)(Q:SQ)(v:V):Prop:=Rd (wN G v) (TK i z Q)
def TN(i:Nat)(z:ay)(G:J)(Q:SQ)(_:V):Prop:=Q .n (dX z i .a) G
def TO(n:Nat)(z:ay)(G:J)(Q:SQ)(v:V):Prop:=Rd (AG G v n) (Q .n z)
mutual
noncomputable def DT(T:c9)(aU:CO):S->SW
 |.aN t e=>λz G Q=>ct T aU e z G (DS T aU t z Q)
 |.fm ts e=>λz G Q=>ct T aU e z G (Tn T aU ts z Q)
 |.eY t b4 e=>λz G Q=>match t with
   |.z i=>bR (dO z i) (kU b4 (ct T aU e) i z G Q)
   |.au i n=>bR (dO z i) (Tu T b4 n (ct T aU e) z G Q)
   |.bq o i=>ct T aU o z G (TB b4 (ct T aU i) (ct T aU e) z Q)
 |.cR e=>λz G Q=>ct T aU e z G (TC z Q)
 |.ite c b o=>λz G Q=>ct T aU c z G (IB (bK T aU b) (bK T aU o) z Q)
 |.gK t k a b body=>λz G Q=>ct T aU a z G (TH (ct T aU b) k t (bK T aU body) z Q)
 |.while c b=>λz G Q=>∃n,p7 (ct T aU c) (bK T aU b) n z G Q
 |.r e=>λz G Q=>ct T aU e z G (TJ z Q)
 |.c=>λz G Q=>Q .c z G
 |.hM=>λ_ _ _=>False
 |.dC i=>λz G Q=>bR (dO z i) (TM i z G Q)
 |.qW i=>λz G Q=>bR (dO z i) (TN i z G Q)
 |.tG i n=>λz G Q=>bR (dO z i) (TO n z G Q)
noncomputable def bK(T:c9)(aU:CO):Ss->SW
 |.n=>λz G Q=>Q .n z G
 |.c s r=>λz G Q=>DT T aU s z G (nZ (bK T aU r) Q)
end
end
section
open PyProof.Rows PySem.Calls
section
abbrev Kp:=aC->Option da
def Kp.In(P:Kp)(h:gh):Prop:=∀a o,P a=I o->h.get? a=I o
def Kp.le(P Q:Kp):Prop:=∀a o,P a=I o->Q a=I o
noncomputable def tN:Bi->aw
 |.aL=>.builtin "len"|.a=>.builtin "abs"|.pV=>.builtin "isinstance"|.n=>.builtin "min"|.m=>.builtin "max"|.sum=>.builtin "sum"|.s=>.builtin "sorted"
 |.i=>.type "int"|.t=>.type "tuple"|.y=>.type "bytes"|.o=>.type "bool"|.l=>.type "list"|.b=>.type "bytearray"|.e=>.type "enumerate"|.zip=>.type "zip"|.r=>.type "range"
structure Cx where
 w:iS
 prog:uX
 K:Frag
 aH:Nat->bg
 inj:∀a b,aH a=aH b->a=b
 a8:c9
 cls:List aC
 eZ:Kp
 dC:Kp
 os:mI
 mg:bg->Option aw
 mb:bg->Option aw
 mc:bg->Option aw
 qZ:List (bg×V)
variable(X:Cx)
noncomputable def se:List Nat->List n5->Prop
 |[],[]=>True
 |n::ns,e::es=>(∃t,e.key=.str (X.aH n) t)/\se ns es
 |_,_=>False
inductive II(F:Kp)(aL:Nat)(R:List aw->Prop)(w:aw):Prop
 |mk (a:aC) (ws:List aw) (n:Nat) (e:w=.ref a) (f:F a=I (kS "list" (p8 ws) n)) (r:R ws) (af:aL<=2*cK)
inductive IJ(F:Kp)(aL:Nat)(R:List aw->Prop)(w:aw):Prop
 |mk (a:aC) (ws:List aw) (n:Nat) (e:w=.ref a) (f:F a=I (kS "tuple" (p8 ws) n)) (r:R ws) (af:aL<=2*cK/\n=0)
inductive TP(F:Kp)(a C:aC)(ns:List Nat)(R:List aw->Prop)(w:aw):Prop
 |mk (e:w=.ref a) (c:C∈X.cls) (dx:aC) (es:List n5) (n:Nat) (f:F a=I (lX C dx)) (g:F dx=I (sf es n)) (k:se X ns es) (r:R (es.map (·.val)))
inductive IK{p:uX}{wd:iS}{aK:Type}[DecidableEq aK](kd:PySem.KeyKind p wd aK)(ks:List aK)(F:Kp)(aL:Nat)(R:List aw->Prop)(w:aw):Prop
 |mk (a:aC) (o:da) (ao:List aw) (e:w=.ref a) (f:F a=I o) (d:o.IsDictOf kd (ks.zip ao)) (l:ao.length=aL) (af:a≠q6) (r:R ao)
inductive TQ(R1:aw->Prop)(R2:List aw->Prop)(ws:List aw):Prop
 |mk (w:aw) (dT:List aw) (e:ws=w::dT) (a:R1 w) (b:R2 dT)
mutual
noncomputable def bL(F:Kp):V->aw->Prop
 |.n,w=>w=.none
 |.b b,w=>w=.bool b
 |.i i,w=>∃t,w=.int i t
 |.a,w=>AH w=ai
 |.bC b,w=>w=tN b
 |.L v,w=>w=v/\AH w=ai
 |.r a,w=>w=.ref a
 |.o a C dx,w=>w=.ref a/\C∈X.cls/\F a=I (lX C dx)
 |.l xs,w=>II F xs.length (bE F xs) w
 |.aV xs,w=>IJ F xs.length (bE F xs) w
 |.eS a C ns vs,w=>TP X F a C ns (bE F vs) w
 |.dk ks vs,w=>IK (p9 X.prog X.w) ks F ks.length (bE F vs) w
 |.mE ns vs,w=>IK (DU X.prog X.w) (ns.map X.aH) F ns.length (bE F vs) w
noncomputable def bE(F:Kp):List V->List aw->Prop
 |[],ws=>ws=[]
 |v::vs,ws=>TQ (bL F v) (bE F vs) ws
end
inductive TR(F:Kp)(xs:List V)(o:da):Prop
 |mk (ws:List aw) (n:Nat) (e:o=PySem.W.listOf (p8 ws) n) (r:bE X F xs ws) (af:xs.length<=2*cK)
inductive TS(F:Kp)(ks:List Int)(vs:List V)(o:da):Prop
 |mk (ao:List aw) (d:o.IsDictOf (p9 X.prog X.w) (ks.zip ao)) (l:ao.length=ks.length) (af:ks.length<=2*cK) (r:bE X F vs ao)
inductive TU(F:Kp)(ns:List Nat)(vs:List V)(o:da):Prop
 |mk (es:List n5) (n:Nat) (e:o=sf es n) (k:se X ns es) (r:bE X F vs (es.map (·.val)))
def oR(F:Kp):gf->da->Prop
 |.l xs,o=>TR X F xs o
 |.dk ks vs,o=>TS X F ks vs o
 |.eE ns vs,o=>TU X F ns vs o
inductive TV(F:Kp)(h:gh)(a:aC)(o:gf):Prop
 |mk (ob:da) (e:h.get? a=I ob) (r:oR X F o ob)
abbrev bV:=List (Nat×bg)
structure yp(ab:b5)(eG:bg->Option aw)(h:gh):Prop where
 z:∃m,h.Ns ab.locals m/\∀n,ab.kindOf n=I .local->m n=eG n
 cell:∀n,ab.kindOf n=I .cell\/ab.kindOf n=I .free->∃c,ab.cells.lookup n=I c/\h.IsCell c (eG n)
def yq(F:Kp)(view:bV)(z:ay)(eG:bg->Option aw):Prop:=∀i x v,(i,x)∈view->dO z i=I v->∃u,eG x=I u/\bL X F v u
def ig(ab:b5)(a:aC):Prop:=a=ab.locals\/∃n,ab.cells.lookup n=I a
structure Rel(P F:Kp)(G:J)(s:bA):Prop where
 p:P.In s.heap
 f:F.In s.heap
 fo:∀a o,G a=I o->TV X F s.heap a o
 pf:∀a,P a≠aa->F a=aa/\G a=aa
 fs:∀a,F a≠aa->G a=aa
 sm:G q6=aa
 os:s.os=X.os
 gens:s.gens=#[]
structure TX(P F:Kp)(G:J)(ab:b5)(view:bV)(z:ay)(s:bA):Prop where
 bZ:∃eG,yp ab eG s.heap/\yq X F view z eG
 apart:∀a,ig ab a->P a=aa/\F a=aa/\G a=aa
 jo:∀a,ig ab a->∃o,s.heap.get? a=I o
def sg(P:Kp)(a:aC)(m:bg->Option aw):Prop:=∃o es ep,P a=I o/\o.data=.dict es ep/\StrKeys es/\∀name,nsFind es name=m name
structure Cx.OK:Prop where
 n6:∀a o,X.K.lookup a=I o->X.eZ a=I o
 ng:sg X.eZ n7 X.mg
 lY:sg X.eZ q7 X.mb
 nc:sg X.eZ AI X.mc
 IL:X.mc "sys.recursionlimit"=aa
 cls:∀C∈X.cls,qa X.K (.ref C) "__getattribute__"=I (I (.builtin "object.__getattribute__"))/\qa X.K (.ref C) "__getattr__"=I aa/\hasDictIn X.K C=ai/\
  qa X.K (.ref C) "__setattr__"=I (I (.builtin "object.__setattr__"))/\plainOver X.K C=ai
 au:∀C n c,X.a8.tH C n=I c->∃a,qa X.K (.ref C) (X.aH n)=I a/\noGet X.K a=ai/\takerIn X.K C (X.aH n)=I aa/\copiedNames.contains (X.aH n)=ak/\
  (∀v,c=I v->∃u,a=I u/\bL X X.dC v u)
 iD:∀C n f,X.a8.iD C n=I f->qa X.K (.ref C) (X.aH n)=I (I (.ref f))/\typeIn X.K (.ref f)=I (.type "function")
 L:∀x v,(x,v)∈X.qZ->∃u,bL X X.dC v u/\(X.mg x=I u\/(X.mg x=aa/\X.mb x=I u))
def q8(k:Nat)(A:cB):Prop:=A.handled=aa/\A.depth+4*k<=900/\A.units+40*k<=9000
def TY:V->Prop
 |.L v=>wO X.K v=ai
 |_=>False
inductive AJ(P F:Kp)(Q:V->J->Prop)(r:wQ)(aD:bA):Prop
 |mk (u:aw) (v:V) (aX:Kp) (aS:J) (e:r=.ok (.ret u)) (l:F.le aX) (x:Rel X P aX aS aD) (rv:bL X aX v u) (q:Q v aS)
structure aB(k:Nat)(f:V)(vs:List V)(G:J)(Q:V->J->Prop):Prop where
 hO:TY X f
 DV:∀(P F:Kp) (s:bA) (A:cB) (fw:aw) (ws:List aw),X.eZ.le P->X.dC.le F->q8 k A->Rel X P F G s->bL X F f fw->bE X F vs ws->
  yr (b6 X.prog X.w) A (.call fw ⟨ws,[]⟩) (AJ X P F Q) s
theorem Kp.le.r(F:Kp):F.le F:=λ_ _ e=>e
theorem Kp.le.t{F cZ H:Kp}(x:F.le cZ)(y:cZ.le H):F.le H:=λa o e=>y a o (x a o e)
mutual
theorem bL.bI(l:F.le cZ):∀{v:V} {w:aw},bL X F v w->bL X cZ v w
 |.n,_,h=>h
 |.b _,_,h=>h
 |.i _,_,h=>h
 |.a,_,h=>h
 |.bC _,_,h=>h
 |.L _,_,h=>h
 |.r _,_,h=>h
 |.o _ _ _,_,h=>by obtain⟨a,b,c⟩:=h;exact⟨a,b,l _ _ c⟩
 |.l _,_,h=>by obtain⟨a,ws,n,e,f,r,j⟩:=h;exact⟨a,ws,n,e,l _ _ f,bE.bI l r,j⟩
 |.aV _,_,h=>by obtain⟨a,ws,n,e,f,r,j⟩:=h;exact⟨a,ws,n,e,l _ _ f,bE.bI l r,j⟩
 |.eS _ _ _ _,_,h=>by obtain⟨e,c,p,q,n,f,g,k,r⟩:=h;exact⟨e,c,p,q,n,l _ _ f,l _ _ g,k,bE.bI l r⟩
 |.dk _ _,_,h=>by obtain⟨a,o,m,e,f,k,d,j,r⟩:=h;exact⟨a,o,m,e,l _ _ f,k,d,j,bE.bI l r⟩
 |.mE _ _,_,h=>by obtain⟨a,o,m,e,f,k,d,j,r⟩:=h;exact⟨a,o,m,e,l _ _ f,k,d,j,bE.bI l r⟩
theorem bE.bI(l:F.le cZ):∀{vs:List V} {ws:List aw},bE X F vs ws->bE X cZ vs ws
 |[],_,h=>h
 |_::_,_,h=>by obtain⟨w,dT,e,a,b⟩:=h;exact⟨w,dT,e,bL.bI l a,bE.bI l b⟩
end
theorem oR.bI(l:F.le cZ)(h:oR X F o ob):oR X cZ o ob:=by
 cases o with
 |l xs=>obtain⟨ws,n,e,r,af⟩:=h;exact⟨ws,n,e,bE.bI X l r,af⟩
 |dk ks vs=>obtain⟨ao,k,d,af,r⟩:=h;exact⟨ao,k,d,af,bE.bI X l r⟩
 |eE ns vs=>obtain⟨es,n,e,k,r⟩:=h;exact⟨es,n,e,k,bE.bI X l r⟩
theorem yq.bI{F cZ:Kp}(l:F.le cZ){view:bV}{z:ay}{eG:bg->Option aw}(h:yq X F view z eG):yq X cZ view z eG:=λi x v a b=>let⟨u,c,d⟩:=h i x v a b;⟨u,c,bL.bI X l d⟩
theorem bE.n:∀{vs:List V} {ws:List aw},bE X F vs ws->vs.length=ws.length:=by
 intro c;induction c with
 |nil=>intro _ h;obtain rfl:=h;rfl
 |cons _ _ d=>intro _ h;obtain⟨w,f,e,a,b⟩:=h;subst e;simp[d b]
theorem bE.at:∀{vs:List V} {ws:List aw} {i:Nat} {v:V},bE X F vs ws->vs[i]?=I v->∃w,ws[i]?=I w/\bL X F v w:=by
 intro c;induction c with
 |nil=>intro _ _ _ _ e;simp at e
 |cons _ _ d=>
  intro _;intro f;cases f with
  |zero=>intro _ h e;obtain⟨w,g,rfl,a,b⟩:=h;simp at e;subst e;exact⟨w,rfl,a⟩
  |succ i=>intro _ h e;obtain⟨w,g,rfl,a,b⟩:=h;simp only[yt]at e⊢;exact d b e
theorem bE.append:∀{vs iF:List V} {ws dT:List aw},bE X F vs ws->bE X F iF dT->bE X F (vs++iF) (ws++dT):=by
 intro d;induction d with
 |nil=>intro _ _ _ h c;obtain rfl:=h;exact c
 |cons _ _ e=>intro _ _ _ h c;obtain⟨w,dT,rfl,a,b⟩:=h;exact⟨w,_,rfl,a,e b c⟩
theorem bE.drop:∀{vs:List V} {ws:List aw} (n:Nat),bE X F vs ws->bE X F (vs.drop n) (ws.drop n):=by
 intro c;induction c with
 |nil=>intro _ _ h;obtain rfl:=h;simp;rfl
 |cons _ _ d=>
  intro _;intro e;cases e with
  |zero=>exactλh=>h
  |succ n=>intro h;obtain⟨w,f,rfl,a,b⟩:=h;exact d n b
theorem bE.take:∀{vs:List V} {ws:List aw} (n:Nat),bE X F vs ws->bE X F (vs.take n) (ws.take n):=by
 intro c;induction c with
 |nil=>intro _ _ h;obtain rfl:=h;simp;rfl
 |cons _ _ d=>
  intro _;intro e;cases e with
  |zero=>exactλh=>rfl
  |succ n=>intro h;obtain⟨w,f,rfl,a,b⟩:=h;exact⟨w,_,rfl,a,d n b⟩
theorem bE.uY(h:bL X F v w):bE X F [v] [w]:=⟨w,[],rfl,h,rfl⟩
theorem bE.reverse:∀{vs:List V} {ws:List aw},bE X F vs ws->bE X F vs.reverse ws.reverse:=by
 intro c;induction c with
 |nil=>intro _ h;obtain rfl:=h;rfl
 |cons _ _ d=>intro _ h;obtain⟨w,e,rfl,a,b⟩:=h;rw[wR,wR];exact bE.append X (d b) (bE.uY X a)
theorem bE.set:∀{vs:List V} {ws:List aw} {v:V} {w:aw} (i:Nat),bE X F vs ws->bL X F v w->bE X F (vs.set i v) (ws.set i w):=by
 intro d;induction d with
 |nil=>intro _ _ _ _ h _;obtain rfl:=h;rfl
 |cons _ _ e=>
  intro _;intro _;intro _;intro f;cases f with
  |zero=>intro h c;obtain⟨w,g,rfl,a,b⟩:=h;exact⟨_,_,rfl,c,b⟩
  |succ i=>intro h c;obtain⟨w,g,rfl,a,b⟩:=h;exact⟨_,_,rfl,a,e i b c⟩
theorem bL.AK(h:bL X F v w):AH w=true:=by
 cases v with
 |a=>exact h
 |L=>exact h.2
 |bC b=>cases h;cases b<;>decide+kernel
 |n=>obtain rfl:=h;rfl
 |b=>obtain rfl:=h;rfl
 |i=>obtain⟨t,rfl⟩:=h;rfl
 |r=>obtain rfl:=h;rfl
 |o=>obtain⟨rfl,_⟩:=h;rfl
 |l=>obtain⟨a,ws,n,rfl,_⟩:=h;rfl
 |aV=>obtain⟨a,ws,n,rfl,_⟩:=h;rfl
 |eS=>obtain⟨rfl,_⟩:=h;rfl
 |dk=>obtain⟨a,o,ao,rfl,_⟩:=h;rfl
 |mE=>obtain⟨a,o,ao,rfl,_⟩:=h;rfl
end
end
section
open PyProof.Rows PySem.Calls
variable{X:Cx}
section
theorem sg.ns(x:sg P a m)(hp:P.In h):h.Ns a m:=let⟨o,b,c,e,r⟩:=x;⟨o,b,c,hp _ _ e,r⟩
theorem sg.le(x:sg P a m)(l:P.le Q):sg Q a m:=let⟨o,b,c,e,r⟩:=x;⟨o,b,c,l _ _ e,r⟩
structure TZ(Y:bN)(ab:b5):Prop where
 scope:ab.scope=Y
 kind:Y.kind=.function
 L:ab.globals=n7
 blt:ab.builtins=q7
 plain:interactive ab=ak
 DW:∀n jg c,ab.cells.lookup n=I c->ab.cells.lookup jg=I c->n=jg
 DX:∀n c,ab.cells.lookup n=I c->c≠ab.locals
structure aO(X:Cx)(k:Nat)(Y:bN)(view:bV)(P F:Kp)(G:J)(ab:b5)(z:ay)(A:cB)(s:bA):Prop where
 ok:X.OK
 eZ:X.eZ.le P
 dC:X.dC.le F
 gz:q8 k A
 fa:TZ Y ab
 aP:Rel X P F G s
 bZ:TX X P F G ab view z s
def gQ(h bu:gh):Prop:=∀b o,h.get? b=I o->bu.get? b=I o
theorem gQ.refl(h:gh):gQ h h:=λ_ _ e=>e
theorem gQ.trans(x:gQ a b)(y:gQ b c):gQ a c:=λb o e=>y b o (x b o e)
theorem gQ.push(h:gh)(o:da):gQ h (h.push o):=λ_ _ e=>yu o e
theorem yp.keeps(x:yp ab eG h)(k:gQ h bu):yp ab eG bu:=⟨let⟨m,a,b⟩:=x.z;⟨m,a.keeps k,b⟩,λn d=>let⟨c,a,b⟩:=x.cell n d;⟨c,a,b.keeps k⟩⟩
theorem Rel.keeps(x:Rel X P F G s)(k:gQ s.heap aD.heap)(ho:aD.os=s.os)(hg:aD.gens=s.gens):Rel X P F G aD:=⟨λa o e=>k _ _ (x.p a o e),λa o e=>k _ _ (x.f a o e),λa o e=>let⟨ob,h,r⟩:=x.fo a o e;⟨ob,k _ _ h,r⟩,x.pf,x.fs,x.sm,ho.trans x.os,hg.trans x.gens⟩
variable{k:Nat}{Y:bN}{view:bV}{P F cZ:Kp}{G ae:J}{ab:b5}{z:ay}{A:cB}{s aD:bA}
theorem aO.keeps(x:aO X k Y view P F G ab z A s)(hk:gQ s.heap aD.heap)(ho:aD.os=s.os)(hg:aD.gens=s.gens):aO X k Y view P F G ab z A aD:=⟨x.ok,x.eZ,x.dC,x.gz,x.fa,x.aP.keeps hk ho hg,⟨let⟨c,a,b⟩:=x.bZ.bZ;⟨c,a.keeps hk,b⟩,x.bZ.apart,λa h=>let⟨o,e⟩:=x.bZ.jo a h;⟨o,hk _ _ e⟩⟩⟩
theorem aO.toks(x:aO X k Y view P F G ab z A s)(t:Nat):aO X k Y view P F G ab z A {s with toks:=t}:=x.keeps (.refl _) rfl rfl
theorem aO.heap(x:aO X k Y view P F G ab z A s)(hk:gQ s.heap h):aO X k Y view P F G ab z A {s with heap:=h,toks:=t}:=x.keeps hk rfl rfl
theorem aO.kz(x:aO X k Y view P F G ab z A s)(hk:gQ s.heap h):aO X k Y view P F G ab z A {s with heap:=h}:=x.keeps hk rfl rfl
noncomputable def Kp.iG(F:Kp)(a:aC)(o:da):Kp:=λb=>if b=a then I o else F b
theorem Kp.wU(h:F a=aa):F.le (F.iG a o):=λb ob e=>by
 unfold Kp.iG;split
 .rename_i q;subst q;rw[h]at e;cases e
 .exact e
theorem Kp.lr:F.iG a o a=I o:=by simp[Kp.iG]
theorem Kp.m6(h:b≠a):F.iG a o b=F b:=by simp[Kp.iG,h]
structure jC(P F:Kp)(G:J)(ab:b5)(a:aC):Prop where
 p:P a=aa
 f:F a=aa
 s:G a=aa
 e:¬ig ab a
 m:a≠q6
theorem aO.modules(x:aO X k Y view P F G ab z A s):q6<s.heap.objs.size:=by obtain⟨o,a,b,e,_⟩:=x.ok.nc;have:=kT (x.aP.p _ _ (x.eZ _ _ e));exact DY (by decide) this
theorem aO.fresh(x:aO X k Y view P F G ab z A s)(h:s.heap.objs.size<=a):jC P F G ab a:=by
 have bO:∀{o:da},s.heap.get? a≠I o:=λe=>absurd (kT e) (Nat.not_lt.mpr h);refine⟨?_,?_,?_,λe=>?_,λe=>?_⟩
 .cases e:P a with
  |none=>rfl
  |some o=>exact absurd (x.aP.p _ _ e) bO
 .cases e:F a with
  |none=>rfl
  |some o=>exact absurd (x.aP.f _ _ e) bO
 .cases e:G a with
  |none=>rfl
  |some o=>obtain⟨ob,b,_⟩:=x.aP.fo _ _ e;exact absurd b bO
 .obtain⟨o,b⟩:=x.bZ.jo a e;exact bO b
 .subst e;exact absurd x.modules (Nat.not_lt.mpr h)
theorem aO.sj(x:aO X k Y view P F G ab z A s)(f:jC P F G ab a)(e:s.heap.get? a=I o):F.le (F.iG a o)/\aO X k Y view P (F.iG a o) G ab z A s:=by
 have l:=Kp.wU (o:=o) f.f;refine⟨l,⟨x.ok,x.eZ,x.dC.t l,x.gz,x.fa,⟨x.aP.p,λb ob h=>?_,λb ob h=>let⟨q,c,d⟩:=x.aP.fo b ob h;⟨q,c,oR.bI X l d⟩,λb h=>?_,λb h=>?_,x.aP.sm,x.aP.os,x.aP.gens⟩,
  ⟨let⟨g,i,j⟩:=x.bZ.bZ;⟨g,i,j.bI X l⟩,λb h=>?_,x.bZ.jo⟩⟩⟩
 .by_cases q:b=a
  .subst q;rw[Kp.lr]at h;cases h;exact e
  .rw[Kp.m6 q]at h;exact x.aP.f _ _ h
 .have q:b≠a:=λq=>h (q▸f.p);rw[Kp.m6 q];exact x.aP.pf b h
 .by_cases q:b=a
  .subst q;exact f.s
  .rw[Kp.m6 q]at h;exact x.aP.fs b h
 .have q:b≠a:=λq=>f.e (q▸h);rw[Kp.m6 q];exact x.bZ.apart b h
theorem J.bY:G.s a o a=I o:=by simp[J.s]
theorem J.cC(h:b≠a):G.s a o b=G b:=by simp[J.s,h]
theorem aO.yv(x:aO X k Y view P F G ab z A s)(f:jC P F G ab a)(e:s.heap.get? a=I ob)(r:oR X F o ob):aO X k Y view P F (G.s a o) ab z A s:=by
 refine⟨x.ok,x.eZ,x.dC,x.gz,x.fa,⟨x.aP.p,x.aP.f,λb q h=>?_,λb h=>?_,λb h=>?_,?_,x.aP.os,x.aP.gens⟩,⟨x.bZ.bZ,λb h=>?_,x.bZ.jo⟩⟩
 .by_cases c:b=a
  .subst c;rw[J.bY]at h;cases h;exact⟨ob,e,r⟩
  .rw[J.cC c]at h;exact x.aP.fo b q h
 .have c:b≠a:=λq=>h (q▸f.p);rw[J.cC c];exact x.aP.pf b h
 .have c:b≠a:=λq=>h (q▸f.f);rw[J.cC c];exact x.aP.fs b h
 .rw[J.cC (tO f.m)];exact x.aP.sm
 .have c:b≠a:=λq=>f.e (q▸h);rw[J.cC c];exact x.bZ.apart b h
theorem aO.update(x:aO X k Y view P F G ab z A s)(e:G a=I o)(hs:IM a s.heap h)(eb:h.get? a=I ob)(r:oR X F hV ob):aO X k Y view P F (G.s a hV) ab z A {s with heap:=h,toks:=t}:=by
 have g:∀b,(P b≠aa\/F b≠aa\/ig ab b)->b≠a:=by
  rintro b h rfl;rcases h with h|h|h
  .rw[(x.aP.pf _ h).2]at e;cases e
  .rw[x.aP.fs _ h]at e;cases e
  .rw[(x.bZ.apart _ h).2.2]at e;cases e
 have aH:a≠sysModules:=λq=>by subst q;rw[x.aP.sm]at e;cases e
 refine⟨x.ok,x.eZ,x.dC,x.gz,x.fa,⟨λb q d=>?_,λb q d=>?_,λb q d=>?_,λb d=>?_,λb d=>?_,?_,x.aP.os,x.aP.gens⟩,
  ⟨let⟨v,u,y⟩:=x.bZ.bZ;⟨v,⟨let⟨m,i,j⟩:=u.z;⟨m,i.sameBut hs (g _ (.inr (.inr (.inl rfl)))),j⟩,λn B=>let⟨c,i,j⟩:=u.cell n B;⟨c,i,j.sameBut hs (g _ (.inr (.inr (.inr ⟨n,i⟩))))⟩⟩,y⟩,
   λb d=>?_,λb d=>?_⟩⟩
 .exact(hs.2 _ (g b (.inl (by rw[d];exact oS _)))).trans (x.aP.p _ _ d)
 .exact(hs.2 _ (g b (.inr (.inl (by rw[d];exact oS _))))).trans (x.aP.f _ _ d)
 .by_cases w:b=a
  .subst w;rw[J.bY]at d;cases d;exact⟨ob,eb,r⟩
  .rw[J.cC w]at d;obtain⟨C,l,D⟩:=x.aP.fo b q d;exact⟨C,(hs.2 _ w).trans l,D⟩
 .rw[J.cC (g b (.inl d))];exact x.aP.pf b d
 .rw[J.cC (g b (.inr (.inl d)))];exact x.aP.fs b d
 .rw[J.cC (tO aH)];exact x.aP.sm
 .rw[J.cC (g b (.inr (.inr d)))];exact x.bZ.apart b d
 .obtain⟨q,l⟩:=x.bZ.jo b d;exact⟨q,(hs.2 _ (g b (.inr (.inr d)))).trans l⟩
theorem aO.n6(x:aO X k Y view P F G ab z A s):X.K.In s.heap:=λa o e=>x.aP.p _ _ (x.eZ _ _ (x.ok.n6 a o e))
theorem aO.globals(x:aO X k Y view P F G ab z A s):s.heap.Ns n7 X.mg:=(x.ok.ng.le x.eZ).ns x.aP.p
theorem aO.builtins(x:aO X k Y view P F G ab z A s):s.heap.Ns q7 X.mb:=(x.ok.lY.le x.eZ).ns x.aP.p
inductive d9(X:Cx)(k:Nat)(Y:bN)(view:bV)(P F:Kp)(ab:b5)(z:ay)(A:cB)(Q:V->J->Prop)(u:aw)(aD:bA):Prop
 |mk (v:V) (aX:Kp) (aS:J) (l:F.le aX) (x:aO X k Y view P aX aS ab z A aD) (r:bL X aX v u) (q:Q v aS)
inductive mJ(X:Cx)(k:Nat)(Y:bN)(view:bV)(P F:Kp)(ab:b5)(z:ay)(A:cB)(Q:Bool->J->Prop)(b:Bool)(aD:bA):Prop
 |mk (aX:Kp) (aS:J) (l:F.le aX) (x:aO X k Y view P aX aS ab z A aD) (q:Q b aS)
inductive T1(X:Cx)(k:Nat)(Y:bN)(view:bV)(P F:Kp)(ab:b5)(z:ay)(A:cB)(n:Nat)(Q:List V->J->Prop)(ao:List aw)(aD:bA):Prop
 |mk (vs:List V) (aX:Kp) (aS:J) (l:F.le aX) (x:aO X k Y view P aX aS ab z A aD) (r:bE X aX vs ao) (e:vs.length=n) (q:Q vs aS)
abbrev bO:aw->bA->Prop:=λ_ _=>False
theorem d9.le(l:F.le cZ)(h:d9 X k Y view P cZ ab z A Q u s):d9 X k Y view P F ab z A Q u s:=h.casesOn λv b c a x r q=>⟨v,b,c,l.t a,x,r,q⟩
theorem d9.gA(x:aO X k Y view P F G ab z A s)(r:bL X F v u)(q:Q v G):d9 X k Y view P F ab z A Q u s:=⟨v,F,G,.r F,x,r,q⟩
theorem mJ.le(l:F.le cZ)(h:mJ X k Y view P cZ ab z A Q u s):mJ X k Y view P F ab z A Q u s:=h.casesOn λb c a x q=>⟨b,c,l.t a,x,q⟩
def bS(X:Cx)(k:Nat)(Y:bN)(view:bV)(e:aR)(w:EW):Prop:=
 ∀(P F:Kp) (G:J) (ab:b5) (z:ay) (A:cB) (s:bA) (Q:V->J->Prop),aO X k Y view P F G ab z A s->w z G Q->
  bW (b6 X.prog X.w) A (ij e ab) (d9 X k Y view P F ab z A Q) bO s
def m7(X:Cx)(k:Nat)(Y:bN)(view:bV)(es:List aR)(w:ay->J->(List V->J->Prop)->Prop):Prop:=
 ∀(P F:Kp) (G:J) (ab:b5) (z:ay) (A:cB) (s:bA) (pos:b3) (Q:List V->J->Prop),aO X k Y view P F G ab z A s->w z G Q->
  bW (b6 X.prog X.w) A (AL (n8 pos (kB es ab))) (T1 X k Y view P F ab z A es.length Q) bO s
end
end
section
open PyProof.Rows PySem.Calls
variable{X:Cx}{k:Nat}{Y:bN}{view:bV}{P F cZ:Kp}{G ae:J}{ab:b5}{z:ay}{A:cB}{s aD:bA}
theorem lx(h:bR x Q):∃a,x=I a/\Q a:=by
 cases x with
 |none=>exact h.elim
 |some a=>exact⟨a,rfl,h⟩
theorem tP(h:Rd x Q):∃a,x=I a/\Q a:=lx h.ok
theorem lZ(h:rd v x Q):∃a,x=I a/\Q a:=by cases v<;>first|exact tP h|exact lx h
theorem DZ(h:ky G (.r a)=I xs):G a=I (.l xs):=(yf (G a)).eq h
theorem IP(h:tI G (.r a)=I d):G a=I (.dk d.1 d.2):=(DK (G a)).eq h
theorem T2(h:AA G a=I d):G a=I (.eE d.1 d.2):=(yg (G a)).eq h
inductive T3(a b:V)(Q:Int->Int->Prop):Prop
 |mk (x y:Int) (e:a=.i x) (f:b=.i y) (q:Q x y)
theorem q9(h:nY a b Q):T3 a b Q:=by obtain⟨x,e,h⟩:=(i7 a).eF h;obtain⟨y,f,h⟩:=(i7 b).eF h;exact⟨x,y,e,f,h⟩
theorem ly:bL X F (.i i) (.int i t):=⟨t,rfl⟩
theorem yw:bL X F (.b b) (.bool b):=rfl
theorem IQ:bL X F .n .none:=rfl
theorem qc(a:bL X F v u)(b:bE X F vs ao):bE X F (v::vs) (u::ao):=⟨u,ao,rfl,a,b⟩
theorem IS:bE X F [] []:=rfl
theorem bS.then(h:bS X k Y view e w)(x:aO X k Y view P F G ab z A s)(aj:w z G R)(next:∀v u aX aS aD,F.le aX->aO X k Y view P aX aS ab z A aD->bL X aX v u->R v aS->Q u aD):bW (b6 X.prog X.w) A (ij e ab) Q bO s:=cy (h P F G ab z A s R x aj) (λu aD h=>h.casesOn λv aX aS l a r q=>next v u aX aS aD l a r q) λ_ _ b=>b
theorem IT:bS X k Y view (.Constant (.int i) n pos) λ_ G Q=>Q (.i i) G:=λ_ _ _ _ _ _ _ _ x h=>wpAny_Constant_int (.gA (x.toks _) ly h)
theorem T4:bS X k Y view (.Constant (.bool b) n pos) λ_ G Q=>Q (.b b) G:=λ_ _ _ _ _ _ _ _ x h=>Constant_bool (.gA x yw h)
theorem T5:bS X k Y view (.Constant .none n pos) λ_ G Q=>Q .n G:=λ_ _ _ _ _ _ _ _ x h=>Constant_none (.gA x IQ h)
theorem aO.kindOf(x:aO X k Y view P F G ab z A s)(n:bg):ab.kindOf n=Y.names.lookup n:=by unfold IU;rw[x.fa.scope]
theorem aO.wV(x:aO X k Y view P F G ab z A s):ab.scope.kind=.function:=by rw[x.fa.scope];exact x.fa.kind
theorem aO.eG(x:aO X k Y view P F G ab z A s)(hv:(i,n)∈view)(hl:dO z i=I v)(hk:Y.names.lookup n=I .local\/Y.names.lookup n=I .cell\/Y.names.lookup n=I .free)(h:∀u,bL X F v u->Q u s)(wW:(n==("__classdict__":bg))=ak):bW (b6 X.prog X.w) A (loadName ab n) Q bO s:=by
 refine cps λG0 j=>?_;obtain⟨eG,a,b⟩:=x.bZ.bZ;obtain⟨u,f,r⟩:=b i n v hv hl;refine j ?_;clear j;rw[<- x.kindOf]at hk;rcases hk with hk|hk|hk
 .obtain⟨m,l,e⟩:=a.z;exact wpAny_loadName_local x.wV hk l ((e n hk).trans f) (h u r)
 .obtain⟨c,g,d⟩:=a.cell n (.inl hk);rw[f]at d;exact wpAny_loadName_cell x.wV hk g d (h u r)
 .obtain⟨c,g,d⟩:=a.cell n (.inr hk);rw[f]at d;exact wpAny_loadName_free x.wV hk g d (h u r) wW
theorem T6(hv:(i,n)∈view)(hk:Y.names.lookup n=I .local\/Y.names.lookup n=I .cell\/Y.names.lookup n=I .free)(aF:(n==("__debug__":bg))=ak)(wW:(n==("__classdict__":bg))=ak):bS X k Y view (.Name n pos) λz G Q=>bR (dO z i) λv=>Q v G:=by intro P F G ab z A s Q x h;obtain⟨v,a,q⟩:=lx h;exact wpAny_Name (x.eG hv a hk (λu r=>.gA x r q) wW) aF
theorem IV(hg:(n,v)∈X.qZ)(hk:Y.names.lookup n=I .globalImplicit)(aF:(n==("__debug__":bg))=ak):bS X k Y view (.Name n pos) λ_ G Q=>Q v G:=by
 intro P F G ab z A s Q x h;obtain⟨u,r,a⟩:=x.ok.L n v hg;have q:d9 X k Y view P F ab z A Q u s:=.gA x (r.bI X x.dC) h;refine Name_function_global x.wV ((x.kindOf n).trans hk) ?_ aF;rcases a with a|⟨b,c⟩
 .exact loadGlobal_global (x.fa.L▸x.globals) a q
 .exact loadGlobal_builtin (x.fa.L▸x.globals) b (x.fa.blt▸x.builtins) c q
theorem aO.uZ(x:aO X k Y view P F G ab z A s)(r:bE X F vs ao)(t:Bool)(hz:vs.length<=2*cK)(hn:n=0:=by rfl):∃aX,F.le aX/\aO X k Y view P aX G ab z A {s with heap:=s.heap.push (kS (if t then "tuple"else "list") ao.toArray n)}/\bL X aX (RV t vs) (.ref s.heap.objs.size):=by
 have b:=x.fresh (a:=s.heap.objs.size) (gB _);have e:(s.heap.push (kS (if t then "tuple"else "list") ao.toArray n)).get? s.heap.objs.size=I (kS (if t then "tuple"else "list") ao.toArray n):=qd _ rfl;obtain⟨l,y⟩:=(x.kz (gQ.push s.heap _)).sj b e;refine⟨_,l,y,?_⟩;cases t with
 |true=>exact⟨_,ao,n,rfl,Kp.lr,r.bI X l,hz,hn⟩
 |false=>exact⟨_,ao,n,rfl,Kp.lr,r.bI X l,hz⟩
theorem aO.newList(x:aO X k Y view P F G ab z A s)(r:bE X F vs ao)(hz:vs.length<=2*cK):∀a,a=s.heap.objs.size->G a=aa/\aO X k Y view P F (G.s a (.l vs)) ab z A {s with heap:=s.heap.push (kS "list" ao.toArray n)}:=by rintro a rfl;have b:=x.fresh (a:=s.heap.objs.size) (gB _);exact⟨b.s,(x.kz (gQ.push s.heap _)).yv b (qd _ rfl) ⟨ao,n,rfl,r,hz⟩⟩
theorem AM:2*cK<=sizeLine:=by decide
theorem l5(h:bL X F (.l xs) u):II F xs.length (bE X F xs) u:=h
theorem m8(h:bL X F (.aV xs) u):IJ F xs.length (bE X F xs) u:=h
theorem T7(h:n<2^64):n.log2<9000:=by
 by_cases a:n=0
 .subst a;decide+kernel
 .exact Nat.lt_of_lt_of_le ((Nat.log2_lt a).mpr h) (by decide)
theorem aO.T8(x:aO X k Y view P F G ab z A s)(ra:bL X F (.l xs) u)(rb:bL X F (.l ys) v)(hr:nX (xs.length+ys.length))(h:Q (.l (xs++ys)) G):bW (b6 X.prog X.w) A (binaryOp .Add u v) (d9 X k Y view P F ab z A Q) bO s:=by obtain⟨i,ws,n,rfl,c,a,j⟩:=l5 ra;obtain⟨m,d,o,rfl,e,b,p⟩:=l5 rb;refine PySem.P.add_list (x.aP.f _ _ c) (x.aP.f _ _ e) ?_ (hW (show ws.length+d.length<=cK from a.n X▸b.n X▸hr.le) (by decide));rw[T9];obtain⟨g,l,y,r⟩:=x.uZ (n:=0) (a.append X b) ak (by rw[fQ];exact hW hr.le (by decide));exact⟨_,g,G,l,y,r,h⟩
theorem D4(h:ws≠ []):¬ws.toArray.isEmpty=true:=λe=>h (yx (of_decide_eq_true e))
theorem aO.Ua(x:aO X k Y view P F G ab z A s)(ra:bL X F (.aV xs) u)(rb:bL X F (.aV ys) v)(hr:nX (xs.length+ys.length))(h:Q (.aV (xs++ys)) G):bW (b6 X.prog X.w) A (binaryOp .Add u v) (d9 X k Y view P F ab z A Q) bO s:=by
 have⟨q,ws,n,m,a,e,t⟩:=m8 ra;have⟨B,c,j,o,b,g,C⟩:=m8 rb;obtain rfl:=m;obtain rfl:=o;by_cases d:ws=[]
 .refine concat_meets ⟨_,x.aP.f _ _ a,rfl⟩ ⟨_,x.aP.f _ _ b,rfl⟩ noFill_tuple_add seq_tuple_add Ub Uc (Ud _ _)
   (tuple_addW0 _ _ ws.toArray c.toArray n j aa aa #[] #[] (by rw[d];rfl)) ⟨x.aP.f _ _ a,x.aP.f _ _ b,.gA x ?_ h⟩
  have:xs=[]:=yx (by rw[e.n X,d];rfl);rw[this,m9];exact rb
 .by_cases i:c=[]
  .refine concat_meets ⟨_,x.aP.f _ _ a,rfl⟩ ⟨_,x.aP.f _ _ b,rfl⟩ noFill_tuple_add seq_tuple_add Ub Uc (Ud _ _)
    (tuple_addW1 _ _ ws.toArray c.toArray n j aa aa #[] #[] (D4 d) (by rw[i];rfl)) ⟨x.aP.f _ _ a,x.aP.f _ _ b,.gA x ?_ h⟩
   have:ys=[]:=yx (by rw[g.n X,i];rfl);rw[this,dZ];exact ra
  .refine PySem.P.add_tuple (x.aP.f _ _ a) (x.aP.f _ _ b) (D4 d) (D4 i) ?_ (hW (show ws.length+c.length<=cK from e.n X▸g.n X▸hr.le) (by decide));rw[T9];obtain⟨p,l,y,r⟩:=x.uZ (n:=0) (e.append X g) ai (by rw[fQ];exact hW hr.le (by decide));exact⟨_,p,G,l,y,r,h⟩
theorem aO.Ue(x:aO X k Y view P F G ab z A s)(ra:bL X F a u)(rb:bL X F b v)(h:DN b4 a b λc=>Q c G):bW (b6 X.prog X.w) A (binaryOp b4 u v) (d9 X k Y view P F ab z A Q) bO s:=by
 cases b4<;>first|exact h.elim|skip
 .replace h:tF (gg a) _ (tF (kP a) _ _):=h;cases e:gg a with
  |some i=>rw[e]at h;obtain⟨j,f,h⟩:=(i7 b).eF h;obtain rfl:=(i7 a).eq e;obtain rfl:=f;obtain⟨t,rfl⟩:=ra;obtain⟨d,rfl⟩:=rb;exact wpAny_add_int (.gA (x.toks _) ly h)
  |none=>
   rw[e]at h;replace h:tF (kP a) _ _:=h;cases e:kP a with
   |some i=>rw[e]at h;obtain⟨j,f,h⟩:=(oO b).eF h;obtain rfl:=(oO a).eq e;obtain rfl:=f;exact x.T8 ra rb h.1 h.2
   |none=>rw[e]at h;obtain⟨i,e,h⟩:=(qS a).eF h;obtain⟨j,f,h⟩:=(qS b).eF h;obtain rfl:=e;obtain rfl:=f;exact x.Ua ra rb h.1 h.2
 .obtain⟨i,j,e,f,h⟩:=q9 h;obtain rfl:=e;obtain rfl:=f;obtain⟨t,rfl⟩:=ra;obtain⟨d,rfl⟩:=rb;exact sub_int (.gA (x.toks _) ly h)
 .obtain⟨i,j,e,f,h⟩:=q9 h;obtain rfl:=e;obtain rfl:=f;obtain⟨t,rfl⟩:=ra;obtain⟨d,rfl⟩:=rb;exact mul_int (.gA (x.toks _) ly h.2) h.1.ok
 .obtain⟨i,j,e,f,h⟩:=q9 h;obtain rfl:=e;obtain rfl:=f;obtain⟨t,rfl⟩:=ra;obtain⟨d,rfl⟩:=rb;exact mod_int' h.1 (.gA (x.toks _) ly h.2)
 .obtain⟨i,j,e,f,h⟩:=q9 h;obtain rfl:=e;obtain rfl:=f;obtain⟨t,rfl⟩:=ra;obtain⟨d,rfl⟩:=rb;exact pow_int h.1.yk h.1.sm (.gA (x.toks _) ly h.2)
 .obtain⟨i,j,e,f,h⟩:=q9 h;obtain rfl:=e;obtain rfl:=f;obtain⟨t,rfl⟩:=ra;obtain⟨d,rfl⟩:=rb;exact floordiv_int h.1.nz (.gA (x.toks _) ly h.2) (.inl (PyProof.noPylong_of_log2 (T7 h.1.sm)))
theorem Ug(hl:bS X k Y view l nf)(hr:bS X k Y view r qf):bS X k Y view (.BinOp l b4 r pos) λz G Q=>nf z G λa G=>qf z G λb G=>DN b4 a b λv=>Q v G:=by intro P F G ab z A s Q x h;refine wpAny_BinOp (hl.then x h λa u o p q e f g i=>hr.then f i λb v w y B d j m n=>?_);exact cy (j.Ue (g.bI X d) m n) (λ_ _ c=>c.le (e.t d)) λ_ _ c=>c
theorem IX(h:bS X k Y view e w):bS X k Y view (.UnaryOp .USub e pos) λz G Q=>w z G λa G=>bR (gg a) λx=>Q (.i (-x)) G:=by intro P F G ab z A s Q x c;refine UnaryOp_ (h.then x c λa u j l m d f g b=>?_);obtain⟨i,e,b⟩:=(i7 a).eF b;obtain rfl:=e;obtain⟨t,rfl⟩:=g;exact neg_int (d9.le d (.gA (f.toks _) ly b))
theorem Uh(h:bS X k Y view e w):bS X k Y view (.UnaryOp .Not e pos) λz G Q=>w z G λa G=>bR (oN a) λx=>Q (.b (!x)) G:=by intro P F G ab z A s Q x d;refine UnaryOp_ (h.then x d λa u l m n f g j c=>not_of ?_);obtain⟨i,e,c⟩:=(yc a).eF c;obtain rfl:=e;obtain rfl:=j;exact wX (d9.le f (.gA g yw c))
theorem u0:m7 X k Y view [] λ_ G Q=>Q [] G:=λ_ _ _ _ _ _ _ _ _ x h=>spliced_nil ⟨[],_,_,.r _,x,IS,rfl,h⟩
theorem Ui(e:aR)(es:List aR):cond (iH e) True (kB (e::es)=λab=>(ak,ij e ab)::kB es ab):=by cases e<;>first|exact True.intro|exact rfl
theorem D5(h:iH e=ak):kB (e::es) ab=(ak,ij e ab)::kB es ab:=congrFun (h▸Ui e es:cond ak True (kB (e::es)=λab=>(ak,ij e ab)::kB es ab)) ab
theorem tQ(ba:bS X k Y view e w)(jD:m7 X k Y view es ws)(gC:iH e=ak):m7 X k Y view (e::es) λz G Q=>w z G λv G=>ws z G λvs G=>Q (v::vs) G:=by intro P F G ab z A s pos Q x h;rw[D5 gC];show bW _ A (AL ((ak,ij e ab)::n8 pos (kB es ab))) _ bO s;refine spliced_cons (ba.then x h λa u c d f g i j l=>?_);exact cy (jD P c d ab z A f pos _ i l) (λB C h=>h.casesOn λvs m n b o p r q=>⟨_,m,n,g.t b,o,qc (j.bI X b) p,congrArg (· +1) r,q⟩) λ_ _ y=>y
theorem u5:∀{vs:List V} {ao:List aw} {is:List Int},bE X F vs ao->pX vs=I is->oT ao is:=by
 intro c;induction c with
 |nil=>
  intro _ _ h e;cases h;cases e;exact .nil
 |cons v vs d=>intro _ is h e;obtain⟨u,l,rfl,a,b⟩:=h;obtain⟨i,f,e⟩:=Option.bind_eq_some_iff.mp e;obtain⟨g,j,rfl⟩:=Option.map_eq_some_iff.mp e;obtain rfl:=(i7 v).eq f;obtain⟨t,rfl⟩:=a;exact .cons _ _ (d b j)
theorem IY:∀{ao vs:List aw} {a b:List Int},oT ao a->oT vs b->ao.length=vs.length->((rg ao.length).all λj=>(a.getD j 0)==(b.getD j 0))=a6 (a=b):=by
 intro ao vs a b g l c;have d:=g.length;have e:=l.length;rw[D6,Uk,decide_eq_true_iff];constructor
 .intro h;refine Ul (by exact(O [] [_,_,_,_] (.i (.E .w .u) (.i (.E .w .x) (.i (.E .u .y) (.E .x .y))))) c d e) λi f m=>?_;have:=h i (List.mem_range.mpr (by exact(O [] [_,_,_,_,_] (.i (.E .y .w) (.i (.E .y .u) (.i (.E .w .b) (.i (.U .x .u) (.U .x .y)))))) c d e f));simpa[List.getD_eq_getElem?_getD,f,m]using this
 .rintro rfl j _;simp
theorem IntsAre.aG:∀{ao:List aw} {a:List Int} {j:Nat} {h:j<ao.length},oT ao a->∃t,ao[j]=.int (a.getD j 0) t
 |_,_,0,_,.cons _ _ _=>⟨_,rfl⟩
 |_,_,j+1,h,.cons _ _ r=>by
  obtain⟨t,e⟩:=IntsAre.aG (j:=j) (h:=by simpa using h) r;exact⟨t,by simpa using e⟩
theorem aO.l6(x:aO X k Y view P F G ab z A s):A.units<cLine:=by have:=x.gz.2.2;exact DY (hW (yy _ _) this) (by decide)
inductive Um{aK de:Type}(f:V->Option aK)(a b:V)(g:aK->aK->de)(c:de):Prop
 |mk (x y:aK) (e1:f a=I x) (e2:f b=I y) (e:c=g x y)
theorem u7(h:fA f a b g=I c):Um f a b g c:=by obtain⟨x,d,h⟩:=Option.bind_eq_some_iff.mp h;obtain⟨y,e,h⟩:=Option.map_eq_some_iff.mp h;exact⟨x,y,d,e,h.symm⟩
theorem or_some(h:o.or p=I c):o=I c\/p=I c:=by
 cases o with
 |none=>exact .inr h
 |some a=>exact .inl h
inductive IZ(X:Cx)(F:Kp)(h:gh)(xs:List V)(u:aw):Prop
 |mk (a:aC) (ao:List aw) (n:Nat) (e:u=.ref a) (f:h.get? a=I (kS "list" (p8 ao) n)) (r:bE X F xs ao) (af:xs.length<=2*Tactic.cK)
theorem Un(G:J)(v:V):kQ .l v (ky G v)\/∃a,v=.r a:=by cases v<;>first|exact .inl trivial|exact .inl rfl|exact .inr ⟨_,rfl⟩
theorem aO.cj(x:aO X k Y view P F G ab z A s)(r:bL X F v u)(h:ky G v=I xs):IZ X F s.heap xs u:=by
 rcases Un G v with e|⟨a,rfl⟩
 .obtain rfl:=e.eq h;obtain⟨a,b,n,e,f,q,c⟩:=l5 r;exact⟨a,b,n,e,x.aP.f _ _ f,q,c⟩
 .obtain rfl:=r;obtain⟨ob,e,b,n,rfl,q,c⟩:=x.aP.fo _ _ (DZ h);exact⟨_,b,n,rfl,e,q,c⟩
structure tR(X:Cx)(A:cB)(s:bA)(u v:aw)(c:Bool):Prop where
 eq:∀{Q:aw->bA->Prop},Q (.bool c) s->bW (b6 X.prog X.w) A (compareOp .Eq u v) Q bO s
 eH:∀{Q:aw->bA->Prop},Q (.bool !c) s->bW (b6 X.prog X.w) A (compareOp .NotEq u v) Q bO s
theorem tR.r7(h:SeqAt.RcAt A s u v c)(k:SeqAt.RcNeAt A s u v (!c)):tR X A s u v c:=⟨λq=>h _ _ _ _ q,λq=>k _ _ _ _ q⟩
theorem Uo(b:V):(yh b=0\/(yh b=1/\b=.l []))\/(yh b=2/\b=.aV [])\/(yh b=3/\b=.dk [] []):=by
 cases b with
 |l xs=>cases xs<;>first|exact .inl (.inr ⟨rfl,rfl⟩)|exact .inl (.inl rfl)
 |aV xs=>cases xs<;>first|exact .inr (.inl ⟨rfl,rfl⟩)|exact .inl (.inl rfl)
 |dk a vs=>cases a<;>cases vs<;>first|exact .inr (.inr ⟨rfl,rfl⟩)|exact .inl (.inl rfl)
 |_=>exact .inl (.inl rfl)
theorem bE.nil(h:bE X F [] ao):ao=[]:=h
theorem aO.Up(x:aO X k Y view P F G ab z A s)(ra:IZ X F s.heap xs u)(rb:bL X F (.l []) v):tR X A s u v xs.isEmpty:=by
 obtain⟨g,ws,n,rfl,h,c,r⟩:=ra;obtain⟨i,m,o,rfl,p,q,-⟩:=l5 rb;obtain rfl:=q;have a:s.heap.IsList g ws.toArray:=⟨_,h,rfl,n,rfl⟩
 have b:s.heap.IsList i #[]:=⟨_,x.aP.f _ _ p,rfl,o,rfl⟩
 cases xs with
 |nil=>obtain rfl:=c;have d:∀j (e:j<([]:List aw).toArray.size) (t:j<(#[]:Array aw).size),I0 A.in1 s ([]:List aw).toArray[j] (#[]:Array aw)[j] true:=λj e _=>absurd e (I1 j);exact .r7 (Uq a b rfl x.l6 d) (Ur a b rfl x.l6 d)
 |cons y B=>obtain⟨w,m,rfl,_,_⟩:=c;exact .r7 (Us a b rfl x.l6) (Ut a b rfl x.l6)
theorem aO.Uu(x:aO X k Y view P F G ab z A s)(ra:bL X F (.aV xs) u)(rb:bL X F (.aV []) v):tR X A s u v xs.isEmpty:=by
 obtain⟨l,ws,n,rfl,m,a,-⟩:=m8 ra;obtain⟨o,p,q,rfl,r,t,-⟩:=m8 rb;obtain rfl:=t;have b:s.heap.IsTuple l ws.toArray:=⟨_,x.aP.f _ _ m,rfl,n,rfl⟩
 have c:s.heap.IsTuple o #[]:=⟨_,x.aP.f _ _ r,rfl,q,rfl⟩
 have d:∀j (B:j<ws.toArray.size) (g:j<(#[]:Array aw).size),I0 A.in1 s ws.toArray[j] (#[]:Array aw)[j] true:=λj _ g=>absurd g (I1 j);have h:=Uv b c x.l6 (e:=λ_=>ai) d;have i:=Uw b c x.l6 (e:=λ_=>ai) d;cases xs with
 |nil=>obtain rfl:=a;exact .r7 h i
 |cons y C=>obtain⟨w,p,rfl,_,_⟩:=a;exact .r7 h i
theorem aO.Ux(x:aO X k Y view P F G ab z A s)(hs:G a=I (.dk ks vs))(rb:bL X F (.dk [] []) v):tR X A s (.ref a) v ks.isEmpty:=by
 obtain⟨ob,e,h,aF,j,t,r⟩:=x.aP.fo _ _ hs;obtain⟨b,l,u,rfl,m,n,o,p,y⟩:=rb;obtain rfl:=yx o;have c:s.heap.DictOf (p9 X.prog X.w) a (ks.zip h):=Heap.dictOf_iff.mpr ⟨ob,e,aF⟩;have D2:s.heap.DictOf (p9 X.prog X.w) b []:=Heap.dictOf_iff.mpr ⟨l,x.aP.f _ _ m,n⟩;have d:(a==q6)=false:=beq_eq_false_iff_ne.mpr λq=>by rw[q,x.aP.sm]at hs;cases hs
 have g:(b==q6)=false:=beq_eq_false_iff_ne.mpr p;cases ks with
 |nil=>exact⟨λq=>keq_eq d g c D2 x.l6 (λ_=>.nil) q,λq=>keq_ne d g c D2 x.l6 (λ_=>.nil) q⟩
 |cons i ks=>cases h with
  |nil=>cases j
  |cons w h=>exact⟨λq=>keq_eq d g c D2 x.l6 (show _->KeqHits A.in1 s [] _ ai fromλq=>absurd q (Uy _)) q,λq=>keq_ne d g c D2 x.l6 (show _->KeqHits A.in1 s [] _ ai fromλq=>absurd q (Uy _)) q⟩
theorem aO.Uz(x:aO X k Y view P F G ab z A s)(ra:bL X F a u)(rb:bL X F b v)(h:wF G a b=I c):tR X A s u v c:=by
 unfold wF at h;rcases Uo b with(e|⟨e,rfl⟩)|⟨e,rfl⟩|⟨e,rfl⟩
 .rw[e]at h;cases h
 .obtain⟨xs,e,rfl⟩:=Option.map_eq_some_iff.mp h;exact x.Up (x.cj ra e) rb
 .obtain⟨xs,e,rfl⟩:=Option.map_eq_some_iff.mp h;obtain rfl:=(qS a).eq e;exact x.Uu ra rb
 .obtain⟨r,e,h⟩:=Option.bind_eq_some_iff.mp h;obtain⟨d,aF,rfl⟩:=Option.map_eq_some_iff.mp h;obtain rfl:=(yd a).eq e;obtain rfl:=ra;exact x.Ux ((DK _).eq aF) rb
theorem AN(i1:oT ws is)(i2:oT dT js)(j:Nat)(h1:j<ws.toArray.size)(h2:j<dT.toArray.size):I0 A.in1 s ws.toArray[j] dT.toArray[j] ((is.getD j 0)==(js.getD j 0)):=by obtain⟨t,e⟩:=IntsAre.aG (h:=h1) i1;obtain⟨b,a⟩:=IntsAre.aG (h:=h2) i2;rw[UA,UA,e,a];exact SeqAt.EqAt.int_int _ _ _ _
theorem I2(i1:oT ws is)(i2:oT dT js)(h:ws.length≠dT.length):a6 (is=js)=false:=decide_eq_false λe=>h (i1.length.trans ((congrArg yz e).trans i2.length.symm))
theorem aO.UB(x:aO X k Y view P F G ab z A s)(ra:bL X F a u)(rb:bL X F b v)(h:Ir a b=I c):tR X A s u v c:=by
 rcases or_some h with h|h
 .rcases or_some h with h|h
  .obtain⟨i,j,d,g,rfl⟩:=u7 h;obtain rfl:=(i7 a).eq d;obtain rfl:=(i7 b).eq g;obtain⟨t,rfl⟩:=ra;obtain⟨R,rfl⟩:=rb;exact⟨λq=>IsLeap.wpAny_eq_int' q,λq=>SeqAt.RcNeAt.int_int _ _ _ _ _ _ _ _ q⟩
  .obtain⟨i,j,d,g,rfl⟩:=u7 h;obtain rfl:=(yc a).eq d;obtain rfl:=(yc b).eq g;obtain rfl:=ra;obtain rfl:=rb;exact .r7 (SeqAt.RcAt.bool_bool _ _) (SeqAt.RcNeAt.bool_bool _ _)
 .rcases or_some h with h|h
  .obtain⟨is,js,d,g,rfl⟩:=u7 h;obtain⟨xs,w,d⟩:=Option.bind_eq_some_iff.mp d;obtain⟨N,y,g⟩:=Option.bind_eq_some_iff.mp g;obtain rfl:=(qS a).eq w;obtain rfl:=(qS b).eq y;obtain⟨B,ws,n,rfl,C,D,-⟩:=m8 ra;obtain⟨E,l,H,rfl,K,L,-⟩:=m8 rb;have m:=u5 D d;have o:=u5 L g;have p:s.heap.IsTuple B ws.toArray:=⟨_,x.aP.f _ _ C,rfl,n,rfl⟩
   have r:s.heap.IsTuple E l.toArray:=⟨_,x.aP.f _ _ K,rfl,H,rfl⟩
   have M:((rg (eQ ws.toArray.size l.toArray.size)).all (λj=>(is.getD j 0)==(js.getD j 0))&&ws.toArray.size==l.toArray.size)=a6 (is=js):=by
    by_cases q:ws.length=l.length
    .show((rg (eQ ws.length l.length)).all _&&ws.length==l.length)=_;rw[<- q,Nat.min_self,IY m o q,beq_self_eq_true,I3]
    .rw[I2 m o q,show(ws.toArray.size==l.toArray.size)=ak from beq_eq_false_iff_ne.mpr q,rh]
   exact .r7 (M▸Uv p r x.l6 (AN m o)) (M▸Uw p r x.l6 (AN m o))
  .obtain⟨is,js,d,g,rfl⟩:=u7 h;obtain⟨xs,w,d⟩:=Option.bind_eq_some_iff.mp d;obtain⟨N,y,g⟩:=Option.bind_eq_some_iff.mp g;obtain rfl:=(oO a).eq w;obtain rfl:=(oO b).eq y;obtain⟨B,ws,n,rfl,C,D,-⟩:=l5 ra;obtain⟨E,l,H,rfl,K,L,-⟩:=l5 rb;have m:=u5 D d;have o:=u5 L g;have p:s.heap.IsList B ws.toArray:=⟨_,x.aP.f _ _ C,rfl,n,rfl⟩
   have r:s.heap.IsList E l.toArray:=⟨_,x.aP.f _ _ K,rfl,H,rfl⟩
   by_cases q:ws.length=l.length
   .have O:=Uq p r q x.l6 (AN m o);have Q:=Ur p r q x.l6 (AN m o);have e:((rg ws.toArray.size).all λj=>(is.getD j 0)==(js.getD j 0))=a6 (is=js):=IY m o q;exact .r7 (e▸O) (e▸Q)
   .rw[I2 m o q];exact .r7 (Us p r (bne_iff_ne.mpr q) x.l6) (Ut p r (bne_iff_ne.mpr q) x.l6)
theorem I4(X:Cx)(F:Kp)(v:V):(It v).elim True λa=>∀u,bL X F v u->u=.ref a/\∃C dx,F a=I (lX C dx):=by cases v<;>first|exact True.intro|exactλu h=>h.casesOn λe _ _ _ _ f _ _ _=>⟨e,_,_,f⟩
theorem I5(h:bL X F v u):yi v=2\/(yi v=0/\u=.none)\/(yi v=1/\((∃a,u=.ref a)\/∃i t,u=.int i t)):=by
 cases v with
 |n=>exact .inr (.inl ⟨rfl,h⟩)
 |i=>exact .inr (.inr ⟨rfl,.inr ⟨_,h⟩⟩)
 |r=>exact .inr (.inr ⟨rfl,.inl ⟨_,h⟩⟩)
 |l=>exact .inr (.inr ⟨rfl,.inl (h.casesOn λa _ _ e _ _ _=>⟨a,e⟩)⟩)
 |aV=>exact .inr (.inr ⟨rfl,.inl (h.casesOn λa _ _ e _ _ _=>⟨a,e⟩)⟩)
 |eS=>exact .inr (.inr ⟨rfl,.inl (h.casesOn λe _ _ _ _ _ _ _ _=>⟨_,e⟩)⟩)
 |_=>exact .inl rfl
theorem aO.I6(x:aO X k Y view P F G ab z A s)(ra:bL X F a u)(rb:bL X F b v)(h:Ay a b=I c)(q:Q c s):bW (b6 X.prog X.w) A (isSame u v) Q bO s:=by
 rcases or_some h with h|h
 .obtain⟨i,j,l,m,rfl⟩:=u7 h;have d:=I4 X F a;have g:=I4 X F b;rw[l]at d;rw[m]at g;obtain⟨rfl,_,_,n⟩:=d _ ra;obtain⟨rfl,_,_,o⟩:=g _ rb;by_cases e:i=j
  .subst e;rw[decide_eq_true rfl]at q;exact wpAny_isSame_ref_self q
  .rw[decide_eq_false e]at q;exact wpAny_isSame_ref_other e (x.aP.f _ _ n) (x.aP.f _ _ o) (by intro p;cases p) q
 .rcases I5 ra with e|⟨e,rfl⟩|⟨e,r⟩<;>rcases I5 rb with f|⟨f,rfl⟩|⟨f,t⟩<;>rw[e,f]at h<;>first|(cases h;done)|skip
  .cases h;exact I7 rfl q
  .cases h;rcases t with⟨_,rfl⟩|⟨_,_,rfl⟩<;>exact I7 rfl q
  .cases h;rcases r with⟨_,rfl⟩|⟨_,_,rfl⟩<;>exact I7 rfl q
theorem aO.eq(x:aO X k Y view P F G ab z A s)(ra:bL X F a u)(rb:bL X F b v)(h:wG G a b=I c):tR X A s u v c:=by
 unfold wG at h;cases e:wF G a b with
 |some d=>rw[e]at h;cases h;exact x.Uz ra rb e
 |none=>rw[e]at h;exact x.UB ra rb h
theorem I8(a:Int)(is:List Int):(is.any λy=>y==a)=a6 (a∈is):=by rw[D6];simp
theorem aO.mL(x:aO X k Y view P F G ab z A s)(ra:bL X F a u)(rb:bL X F b v)(h:yj a b=I c):∃(i:Int) (t:Tok) (r:aC) (ao:List aw) (is:List Int),u=.int i t/\v=.ref r/\s.heap.IsList r ao.toArray/\oT ao is/\c=a6 (i∈is):=by refine cps λG0 d=>?_;obtain⟨i,g,h⟩:=Option.bind_eq_some_iff.mp h;obtain⟨is,e,j⟩:=Option.map_eq_some_iff.mp h;obtain⟨w,l,e⟩:=Option.bind_eq_some_iff.mp e;obtain rfl:=(i7 a).eq g;obtain rfl:=(oO b).eq l;obtain⟨t,ra⟩:=ra;obtain⟨m,n,o,rb,p,q,-⟩:=l5 rb;refine d ?_;clear d;exact⟨i,t,m,n,is,ra,rb,⟨_,x.aP.f _ _ p,rfl,o,rfl⟩,u5 q e,j.symm⟩
theorem aO.aJ(x:aO X k Y view P F G ab z A s)(ra:bL X F a u)(rb:bL X F b v)(h:qT G b4 a b=I c)(q:Q (.bool c) s):bW (b6 X.prog X.w) A (compareOp b4 u v) Q bO s:=by
 have nS:∀{g:Int->Int->Bool},fA gg a b g=I c->∃i j t f,u=.int i t/\v=.int j f/\c=g i j:=λh=>by
  refine cps λG0 d=>?_;obtain⟨i,j,p,y,e⟩:=u7 h;obtain rfl:=(i7 a).eq p;obtain rfl:=(i7 b).eq y;obtain⟨t,ra⟩:=ra;obtain⟨f,rb⟩:=rb;refine d ?_;clear d;exact⟨i,j,t,f,ra,rb,e⟩
 cases b4 with
 |Eq=>exact(x.eq ra rb h).eq q
 |NotEq=>obtain⟨o,l,rfl⟩:=Option.map_eq_some_iff.mp h;exact(x.eq ra rb l).eH q
 |Lt=>obtain⟨i,j,t,f,rfl,rfl,rfl⟩:=nS h;exact wpAny_lt_int q
 |LtE=>obtain⟨i,j,t,f,rfl,rfl,rfl⟩:=nS h;exact le_int q
 |Gt=>obtain⟨i,j,t,f,rfl,rfl,rfl⟩:=nS h;exact PyProof.Rows.gt_int q
 |GtE=>obtain⟨i,j,t,f,rfl,rfl,rfl⟩:=nS h;exact ge_int q
 |Is=>exact cG (x.I6 ra rb h (fH q))
 |IsNot=>refine cps λG0 d=>?_;obtain⟨o,l,rfl⟩:=Option.map_eq_some_iff.mp h;refine d ?_;clear d;exact cG (x.I6 ra rb l (fH q))
 |In=>refine cps λG0 d=>?_;obtain⟨i,t,r,B,is,rfl,rfl,m,n,rfl⟩:=x.mL ra rb h;refine d ?_;clear d;refine in_list_ints m n ?_;rw[I8];exact q
 |NotIn=>refine cps λG0 d=>?_;obtain⟨o,l,rfl⟩:=Option.map_eq_some_iff.mp h;obtain⟨i,t,r,B,is,rfl,rfl,m,n,rfl⟩:=x.mL ra rb l;refine d ?_;clear d;refine notin_list_ints m n ?_;rw[I8];exact q
inductive nh(X:Cx)(k:Nat)(Y:bN)(view:bV)(P F:Kp)(ab:b5)(z:ay)(A:cB)(Q:Bool->J->Prop):aw->bA->Prop
 |mk (b:Bool) (aX:Kp) (aS:J) (aD:bA) (l:F.le aX) (x:aO X k Y view P aX aS ab z A aD) (q:Q b aS):nh X k Y view P F ab z A Q (.bool b) aD
theorem nh.then(h:bW (b6 X.prog X.w) A m (nh X k Y view P F ab z A R) bO s)(next:∀b aX aS aD,F.le aX->aO X k Y view P aX aS ab z A aD->R b aS->Q (.bool b) aD):bW (b6 X.prog X.w) A m Q bO s:=cy h (λ_ _ h=>h.rec next) λ_ _ a=>a
theorem nh.le(l:F.le cZ)(h:nh X k Y view P cZ ab z A Q u s):nh X k Y view P F ab z A Q u s:=h.rec λb c d e a x q=>⟨b,c,d,e,l.t a,x,q⟩
theorem mJ.then(h:bW (b6 X.prog X.w) A m (mJ X k Y view P F ab z A R) bO s)(next:∀b aX aS aD,F.le aX->aO X k Y view P aX aS ab z A aD->R b aS->Q b aD):bW (b6 X.prog X.w) A m Q bO s:=cy h (λb aD h=>h.rec λaX aS=>next b aX aS aD) λ_ _ a=>a
def sk(X:Cx)(k:Nat)(Y:bN)(view:bV)(e:aR)(w:BW):Prop:=
 ∀(P F:Kp) (G:J) (ab:b5) (z:ay) (A:cB) (s:bA) (Q:Bool->J->Prop),aO X k Y view P F G ab z A s->w z G Q->
  bW (b6 X.prog X.w) A (ij e ab) (nh X k Y view P F ab z A Q) bO s
def u9(X:Cx)(k:Nat)(Y:bN)(view:bV)(e:aR)(w:BW):Prop:=
 ∀(P F:Kp) (G:J) (ab:b5) (z:ay) (A:cB) (s:bA) (jh:Sem aw) (Q:Bool->J->Prop),aO X k Y view P F G ab z A s->w z G Q->
  bW (b6 X.prog X.w) A (va e ab jh) (mJ X k Y view P F ab z A Q) bO s
theorem sk.D7(h:sk X k Y view e w):bS X k Y view e λz G Q=>w z G λb G=>Q (.b b) G:=λP F G ab z A s Q x a=>nh.then (h P F G ab z A s _ x a) λb c d f l y q=>⟨.b b,c,d,l,y,rfl,q⟩
def vb(w:EW):BW:=λz G Q=>w z G λv G=>bR (oN v) λb=>Q b G
theorem bS.I9(h:bS X k Y view e w):sk X k Y view e (vb w):=by intro P F G ab z A s Q x a;refine h.then x a λv u c d f l y r q=>?_;obtain⟨b,e,q⟩:=(yc v).eF q;obtain rfl:=e;obtain rfl:=r;exact⟨b,c,d,f,l,y,q⟩
theorem sk.UC(h:sk X k Y view e w)(ba:∀ab jh,va e ab jh=(do let v<- jh;vc e.pos;sr [v] (truthy v))):∀(P F:Kp) (G:J) (ab:b5) (z:ay) (A:cB) (s:bA) (Q:Bool->J->Prop),aO X k Y view P F G ab z A s->w z G Q->bW (b6 X.prog X.w) A (va e ab (ij e ab)) (mJ X k Y view P F ab z A Q) bO s:=λP F G ab z A s Q x a=>isTrue_plain (nh.then (h P F G ab z A s Q x a) λb c d f l y q=>wX ⟨c,d,l,y,q⟩) (ba ab _)
def oU(X:Cx)(k:Nat)(Y:bN)(view:bV)(e:aR)(w:BW):Prop:=
 ∀(P F:Kp) (G:J) (ab:b5) (z:ay) (A:cB) (s:bA) (Q:Bool->J->Prop),aO X k Y view P F G ab z A s->w z G Q->
  bW (b6 X.prog X.w) A (va e ab (ij e ab)) (mJ X k Y view P F ab z A Q) bO s
theorem u9.te(h:u9 X k Y view e w):oU X k Y view e w:=λP F G ab z A s Q x a=>h P F G ab z A s _ Q x a
inductive su(X:Cx)(k:Nat)(Y:bN)(view:bV):List aR->List BW->Prop
 |nil:su X k Y view [] []
 |cons {e es w ws}:sk X k Y view e w->oU X k Y view e w->su X k Y view es ws->su X k Y view (e::es) (w::ws)
noncomputable def sx:List BW->BW
 |[]=>λ_ G Q=>Q ai G
 |w::ws=>λz G Q=>w z G λb G=>uP ws.isEmpty b (sx ws z G Q) Q G
noncomputable def sz:List BW->BW
 |[]=>λ_ G Q=>Q ak G
 |w::ws=>λz G Q=>w z G λb G=>Az ws.isEmpty b (sz ws z G Q) Q G
theorem Ja(h:uP l ak B Q G):Q ak G:=by
 cases l
 .exact h.2 rfl
 .exact h
theorem Jb(h:Az l ai B Q G):Q ai G:=by
 cases l
 .exact h.1 rfl
 .exact h
theorem Jc(h:uP ws.isEmpty ai (sx ws z G Q) Q G):sx ws z G Q:=by
 cases ws
 .exact h
 .exact h.1 rfl
theorem Jd(h:Az ws.isEmpty ak (sz ws z G Q) Q G):sz ws z G Q:=by
 cases ws
 .exact h
 .exact h.2 rfl
theorem UD(h:su X k Y view es ws):es≠ []->sk X k Y view (.BoolOp .And es pos) (sx ws):=by
 induction h with
 |nil=>exactλh=>absurd rfl h
 |cons f _ r i=>
  intro _ P F G ab z A s Q x g;cases r with
  |nil=>exact BoolOp_one (nh.then (f P F G ab z A s _ x g) λb a c d l y q=>⟨b,a,c,d,l,y,q⟩)
  |cons j m n=>
   refine BoolOp_and (nh.then (f P F G ab z A s _ x g) λb a c d l y q=>wX ?_);cases b with
   |false=>exact⟨ak,a,c,d,l,y,Ja q⟩
   |true=>exact cy (i (λh=>nomatch h) P a c ab z A d Q y (Jc q)) (λ_ _ e=>e.le l) λ_ _ e=>e
theorem UE(h:su X k Y view es ws):es≠ []->sk X k Y view (.BoolOp .Or es pos) (sz ws):=by
 induction h with
 |nil=>exactλh=>absurd rfl h
 |cons f _ r i=>
  intro _ P F G ab z A s Q x g;cases r with
  |nil=>exact BoolOp_one (nh.then (f P F G ab z A s _ x g) λb a c d l y q=>⟨b,a,c,d,l,y,q⟩)
  |cons j m n=>
   refine BoolOp_or (nh.then (f P F G ab z A s _ x g) λb a c d l y q=>wX ?_);cases b with
   |true=>exact⟨ai,a,c,d,l,y,Jb q⟩
   |false=>exact cy (i (λh=>nomatch h) P a c ab z A d Q y (Jd q)) (λ_ _ e=>e.le l) λ_ _ e=>e
theorem UG(h:su X k Y view es ws):u9 X k Y view (.BoolOp .And es pos) (sx ws):=by
 induction h with
 |nil=>exactλP F G ab z A s d Q x a=>isTrue_and_nil ⟨F,G,.r F,x,a⟩
 |cons _ g r i=>
  intro P F G ab z A s d Q x a;refine isTrue_and (mJ.then (g P F G ab z A s _ x a) λb e f j l y q=>?_);cases b with
  |false=>exact⟨e,f,l,y,Ja q⟩
  |true=>exact cy (i P e f ab z A j d Q y (Jc q)) (λ_ _ c=>c.le l) λ_ _ c=>c
theorem UH(h:su X k Y view es ws):u9 X k Y view (.BoolOp .Or es pos) (sz ws):=by
 induction h with
 |nil=>exactλP F G ab z A s d Q x a=>isTrue_or_nil ⟨F,G,.r F,x,a⟩
 |cons _ g r i=>
  intro P F G ab z A s d Q x a;refine isTrue_or (mJ.then (g P F G ab z A s _ x a) λb e f j l y q=>?_);cases b with
  |true=>exact⟨e,f,l,y,Jb q⟩
  |false=>exact cy (i P e f ab z A j d Q y (Jd q)) (λ_ _ c=>c.le l) λ_ _ c=>c
theorem UI(h:oU X k Y view e w):u9 X k Y view (.UnaryOp .Not e pos) λz G Q=>w z G λb G=>Q (!b) G:=λP F G ab z A s f Q x a=>isTrue_not (mJ.then (h P F G ab z A s _ x a) λ_ c d _ l y q=>⟨c,d,l,y,q⟩)
def Je(c:BW)(a b:EW):EW:=λz G Q=>c z G λt G=>jB t (a z G Q) (b z G Q)
def UJ(c:BW)(a b:BW):BW:=λz G Q=>c z G λt G=>jB t (a z G Q) (b z G Q)
theorem UK(hc:oU X k Y view c wc)(ha:bS X k Y view a wa)(hb:bS X k Y view b wb):bS X k Y view (.IfExp c a b pos) (Je wc wa wb):=by
 intro P F G ab z A s Q x h;refine IfExp_ (mJ.then (hc P F G ab z A s _ x h) λt e f g l y q=>?_);cases t with
 |true=>exact cy (ha P e f ab z A g Q y (q.1 rfl)) (λ_ _ d=>d.le l) λ_ _ d=>d
 |false=>exact cy (hb P e f ab z A g Q y (q.2 rfl)) (λ_ _ d=>d.le l) λ_ _ d=>d
theorem UL(hc:oU X k Y view c wc)(ha:oU X k Y view a wa)(hb:oU X k Y view b wb):u9 X k Y view (.IfExp c a b pos) (UJ wc wa wb):=by
 intro P F G ab z A s i Q x h;refine isTrue_IfExp (mJ.then (hc P F G ab z A s _ x h) λt e f g l y q=>?_);cases t with
 |true=>exact cy (ha P e f ab z A g Q y (q.1 rfl)) (λ_ _ d=>d.le l) λ_ _ d=>d
 |false=>exact cy (hb P e f ab z A g Q y (q.2 rfl)) (λ_ _ d=>d.le l) λ_ _ d=>d
inductive tS(X:Cx)(k:Nat)(Y:bN)(view:bV):List lW->List aR->List (lW×EW)->Prop
 |nil:tS X k Y view [] [] []
 |cons {b4 hX e es w ws}:bS X k Y view e w->tS X k Y view hX es ws->tS X k Y view (b4::hX) (e::es) ((b4,w)::ws)
noncomputable def vd:List (lW×EW)->V->BW
 |[]=>λ_ _ G Q=>Q ai G
 |(b4,w)::ws=>λa z G Q=>w z G λb G=>rd a (qT G b4 a b) λc=>uP ws.isEmpty c (vd ws b z G Q) Q G
theorem UM(h:tS X k Y view hX es ws):hX≠ []->∀(P F:Kp) (G:J) (ab:b5) (z:ay) (A:cB) (s:bA) (a:V) (u:aw) (Q:Bool->J->Prop),aO X k Y view P F G ab z A s->bL X F a u->vd ws a z G Q->bW (b6 X.prog X.w) A (compareChain pos u hX (AO es ab)) (nh X k Y view P F ab z A Q) bO s:=by
 induction h with
 |nil=>exactλh=>absurd rfl h
 |cons n r t=>
  intro _ P F G ab z A s a u Q x o p;cases r with
  |nil=>refine chain_last (n.then x p λb v g i j d f l q=>?_);obtain⟨c,e,q⟩:=lZ q;exact f.aJ (o.bI X d) l e (⟨c,g,i,j,d,f,q⟩)
  |cons y B=>
   refine chain_link (n.then x p λb v g i j d f l q=>?_);obtain⟨c,e,q⟩:=lZ q;refine f.aJ (o.bI X d) l e (wX ?_);cases c with
   |false=>exact⟨ak,g,i,j,d,f,q.2 rfl⟩
   |true=>exact cy (t (λh=>nomatch h) P g i ab z A j b v Q f l (q.1 rfl)) (λ_ _ m=>m.le d) λ_ _ m=>m
theorem UN(h:tS X k Y view hX es ws):hX≠ []->∀(P F:Kp) (G:J) (ab:b5) (z:ay) (A:cB) (s:bA) (a:V) (u:aw) (Q:Bool->J->Prop),aO X k Y view P F G ab z A s->bL X F a u->vd ws a z G Q->bW (b6 X.prog X.w) A (testChain pos u hX (AO es ab)) (mJ X k Y view P F ab z A Q) bO s:=by
 induction h with
 |nil=>exactλh=>absurd rfl h
 |cons m r t=>
  intro _ P F G ab z A s a u Q x n o;cases r with
  |nil=>refine test_last (m.then x o λb v g i p d f j q=>?_);obtain⟨c,e,q⟩:=lZ q;exact f.aJ (n.bI X d) j e (wX ⟨g,i,d,f,q⟩)
  |cons y B=>
   refine test_link (m.then x o λb v g i p d f j q=>?_);obtain⟨c,e,q⟩:=lZ q;refine f.aJ (n.bI X d) j e (wX ?_);cases c with
   |false=>exact⟨g,i,d,f,q.2 rfl⟩
   |true=>exact cy (t (λh=>nomatch h) P g i ab z A p b v Q f j (q.1 rfl)) (λ_ _ l=>l.le d) λ_ _ l=>l
theorem UO(hl:bS X k Y view l nf)(h:tS X k Y view hX es ws)(hn:hX≠ [])(ax:lastMarks hX es=ak):sk X k Y view (.Compare l hX es pos) λz G Q=>nf z G λa G=>vd ws a z G Q:=by intro P F G ab z A s Q x c;show bW _ A (do compareChain pos (<- ij l ab) hX (markedEach hX es (AO es ab))) _ bO s;rw[UP _ _ _ ax];refine cG (hl.then x c λa u d e f g i j q=>?_);exact cy (UM h hn P d e ab z A f a u Q i j q) (λ_ _ b=>b.le g) λ_ _ b=>b
theorem UQ(hl:bS X k Y view l nf)(h:tS X k Y view hX es ws)(hn:hX≠ [])(ax:lastMarks hX es=ak):u9 X k Y view (.Compare l hX es pos) λz G Q=>nf z G λa G=>vd ws a z G Q:=by intro P F G ab z A s m Q x c;show bW _ A (do testChain pos (<- ij l ab) hX (markedEach hX es (AO es ab))) _ bO s;rw[UP _ _ _ ax];refine cG (hl.then x c λa u d e f g i j q=>?_);exact cy (UN h hn P d e ab z A f a u Q i j q) (λ_ _ b=>b.le g) λ_ _ b=>b
theorem D8:iQ (m::ns) (v::vs) n=bif ie m n then I v else iQ ns vs n:=by show(match ie m n with|true=>I v|false=>iQ ns vs n)=_;cases ie m n<;>rfl
theorem Jf:mY (m::ns) n=bif ie m n then ai else mY ns n:=by show(match ie m n with|true=>ai|false=>mY ns n)=_;cases ie m n<;>rfl
theorem Jg:lT (m::ns) (v::vs) n u=bif ie m n then u::vs else v::lT ns vs n u:=by show(match ie m n with|true=>u::vs|false=>v::lT ns vs n u)=_;cases ie m n<;>rfl
theorem D9(hk:se X ns es)(hr:bE X F vs (es.map (·.val)))(n:Nat):(∀v,iQ ns vs n=I v->∃u,getL (X.aH n) es=I (I u)/\bL X F v u)/\(iQ ns vs n=aa->getL (X.aH n) es=I aa):=by
 induction ns generalizing es vs with
 |nil=>
  cases es with
  |nil=>exact⟨λv h=>(nomatch h),λ_=>rfl⟩
  |cons e es=>exact hk.elim
 |cons m ns f=>
  cases es with
  |nil=>exact hk.elim
  |cons e es=>
   refine cps λG0 a=>?_;obtain⟨⟨t,b⟩,hk⟩:=hk;refine a ?_;clear a;cases vs with
   |nil=>cases hr
   |cons v vs=>
    refine cps λG0 a=>?_;obtain⟨u,l,eq,g,i⟩:=hr;simp only[oV,Jh]at eq;obtain⟨rfl,rfl⟩:=eq;have key:e.key.isStr (X.aH n)=ie m n:=by rw[b];show(X.aH m==X.aH n)=_;rw[D6,beq_iff_eq,Nat.beq_eq];exact⟨X.inj _ _,λq=>by rw[q]⟩
    have j:e.refKey=false:=by unfold DictEntry.refKey;rw[b]
    obtain⟨c,d⟩:=f hk i;refine a ?_;clear a;rw[D8];unfold getL;rw[Ji,key];cases q:ie m n with
    |true=>
     refine⟨λo h=>?_,λh=>?_⟩
     .cases h;exact⟨_,rfl,g⟩
     .cases h
    |false=>dsimp only;unfold getL at c d;rw[List.any_cons,j,Ea];exact⟨c,d⟩
theorem UR(h:ns.length=vs.length)(n:Nat):mY ns n=(iQ ns vs n).isSome:=by
 induction ns generalizing vs with
 |nil=>cases vs<;>rfl
 |cons m ns a=>
  cases vs with
  |nil=>simp at h
  |cons v vs=>
   rw[Jf,D8];cases ie m n with
   |true=>rfl
   |false=>exact a (by simpa using h)
theorem Jj(h:se X ns es):ns.length=es.length:=by
 induction ns generalizing es with
 |nil=>cases es with|nil=>rfl|cons=>exact h.elim
 |cons n ns a=>cases es with|nil=>exact h.elim|cons e es=>simp[a h.2]
theorem US(hk:se X ns es)(hr:bE X F vs (es.map (·.val)))(rv:bL X F v u):se X (putN ns n) (wZ (X.aH n) hsh (.str (X.aH n) t) u es)/\bE X F (lT ns vs n v) ((wZ (X.aH n) hsh (.str (X.aH n) t) u es).map (·.val)):=by
 induction ns generalizing es vs with
 |nil=>
  cases es with
  |nil=>cases vs with
   |nil=>exact⟨⟨⟨t,rfl⟩,trivial⟩,qc rv IS⟩
   |cons=>obtain⟨_,_,h,_⟩:=hr;cases h
  |cons e es=>exact hk.elim
 |cons m ns l=>
  cases es with
  |nil=>exact hk.elim
  |cons e es=>
   refine cps λG0 a=>?_;obtain⟨⟨d,c⟩,hk⟩:=hk;refine a ?_;clear a;cases vs with
   |nil=>cases hr
   |cons w vs=>
    refine cps λG0 a=>?_;obtain⟨o,p,eq,f,g⟩:=hr;simp only[oV,Jh]at eq;obtain⟨rfl,rfl⟩:=eq;have key:e.key.isStr (X.aH n)=ie m n:=by rw[c];show(X.aH m==X.aH n)=_;rw[D6,beq_iff_eq,Nat.beq_eq];exact⟨X.inj _ _,λq=>by rw[q]⟩
    obtain⟨b,i⟩:=l hk g;refine a ?_;clear a;unfold putN wZ;rw[Jf,Jg,key];cases q:ie m n with
    |true=>exact⟨⟨⟨d,c⟩,hk⟩,qc rv g⟩
    |false=>
     unfold putN at b;cases j:mY ns n with
     |true=>rw[j]at b;exact⟨⟨⟨d,c⟩,b⟩,qc f i⟩
     |false=>rw[j]at b;exact⟨⟨⟨d,c⟩,b⟩,qc f i⟩
theorem AP(e1:h.get? a=I (lX C dx))(e2:h.get? dx=I (sf es n)):InstAt h a (lX C dx) C (I (sf es n)):=⟨e1,rfl,rfl,e2⟩
theorem UT(h:Tactic.oQ T C ns vs n=I v):∃c,T.tH C n=I c/\(iQ ns vs n=I v\/(iQ ns vs n=aa/\c=I v)):=by
 unfold Tactic.oQ at h;cases e:T.tH C n with
 |none=>rw[e]at h;cases h
 |some c=>
  rw[e]at h;cases f:iQ ns vs n with
  |none=>rw[f]at h;exact⟨c,rfl,.inr ⟨rfl,h⟩⟩
  |some u=>rw[f]at h;exact⟨c,rfl,.inl h⟩
theorem aO.oQ(x:aO X k Y view P F G ab z A s)(hC:C∈X.cls)(e1:s.heap.get? a=I (lX C dx))(e2:s.heap.get? dx=I (sf es m))(hk:se X ns es)(hr:bE X F vs (es.map (·.val)))(h:Tactic.oQ X.a8 C ns vs n=I v)(q:∀u t,bL X F v u->Q u {s with toks:=t}):bW (b6 X.prog X.w) A (getAttr (.ref a) (X.aH n) cR) Q bO s:=by
 refine cps λG0 f=>?_;obtain⟨c,p,h⟩:=UT h;obtain⟨b,i,j,L,y,B⟩:=x.ok.au C n c p;obtain⟨l,M,o,N,O⟩:=x.ok.cls C hC;obtain⟨D,E⟩:=D9 (X:=X) (F:=F) hk hr n;refine f ?_;clear f;rcases h with d|⟨d,h⟩
 .obtain⟨w,g,r⟩:=D _ d;exact get_value x.n6 (AP e1 e2) l (findObj_own o i j g) r.AK (q w _ r)
 .obtain⟨w,rfl,r⟩:=B _ h;have H:specialIn X.K w "__get__"=I none:=by simpa[noGet]using j
  have e:=r.bI X x.dC;exact get_value x.n6 (AP e1 e2) l (findObj_cls o i H e.AK y (E d)) e.AK (q w _ e)
inductive UU(T:c9)(G:J)(o:V)(n:Nat)(v:V):Prop
 |eS (a C:aC) (ns:List Nat) (vs:List V) (e:o=.eS a C ns vs) (h:Tactic.oQ T C ns vs n=I v)
 |obj (a C dx:aC) (f:List Nat×List V) (e:o=.o a C dx) (aT:nW (G dx)=I f) (h:Tactic.oQ T C f.1 f.2 n=I v)
theorem qh{aK:Type}{o:Option aK}{P:aK->Prop}(h:∀a,o=I a->P a):o.elim True P:=by
 cases o with
 |none=>exact True.intro
 |some a=>exact h a rfl
theorem UW(T:c9)(G:J)(o:V)(n:Nat):(pZ T G o n).elim True λv=>UU T G o n v:=by
 cases o<;>first|exact True.intro|skip
 .exact qh λv h=>have⟨f,aT,h⟩:=Option.bind_eq_some_iff.mp h; .obj _ _ _ f rfl aT h
 .exact qh λv h=>.eS _ _ _ _ rfl h
theorem aO.au(x:aO X k Y view P F G ab z A s)(ro:bL X F o u)(h:pZ X.a8 G o n=I v)(q:∀w t,bL X F v w->Q w {s with toks:=t}):bW (b6 X.prog X.w) A (getAttr u (X.aH n) cR) Q bO s:=by
 have k:=UW X.a8 G o n;rw[h]at k;clear h;rcases k with⟨a,C,ns,vs,rfl,h⟩|⟨a,C,i,f,rfl,j,h⟩
 .obtain⟨rfl,b,i,l,m,c,d,e,g⟩:=ro;exact x.oQ b (x.aP.f _ _ c) (x.aP.f _ _ d) e g h q
 .obtain⟨rfl,b,c⟩:=ro;obtain⟨ob,d,l,m,rfl,e,g⟩:=x.aP.fo _ _ ((yg _).eq j);exact x.oQ b (x.aP.f _ _ c) d e g h q
set_option tactic.hygienic true in
theorem UX{prog:uX}{w:iS}{A:cB}{R:wQ->bA->Prop}{s:bA}{K:Frag}{x C dx:aC}{name:bg}{tk:Tok}{v:aw}{es:List n5}{n:Nat}(X:K.In s.heap)(dH:InstAt s.heap x (lX C dx) C (I (sf es n)))(hp:plainOver K C=ai)(ht:takerIn K C name=I aa)(hh:hasDictIn K C=ai)(hl:(getL name es).isSome=ai)(hz:(wZ name (yA w.params name) (.str name s.toks) v es).length<=1000)(h:R (.ok (.ret .none)) {s with heap:=s.heap.update dx (Obj.putName name (yA w.params name) (.str name s.toks) v),toks:=s.toks+1}):yr (b6 prog w) A (.call (.builtin "object.__setattr__") ⟨[.ref x,.str name tk,v],[]⟩) R s:=by
 refine osa_open X dH hp ht λb=>?_;refine cps λG0 g0=>?_;obtain⟨UY,hc,qg⟩:=any_some hh;obtain⟨hx,-,-,D⟩:=dH;refine g0 ?_;clear g0;have D:s.heap.get? dx=I (sf es n):=D;have fX:(s.heap.update dx (Obj.putName name (yA w.params name) (.str name s.toks) v)).get? dx=I (sf (wZ name (yA w.params name) (.str name s.toks) v es) (PySem.W.putN name es n)):=by rw[Jk _ D (by rw[Eb];rfl),Eb]
 refine cG (fH (cG (cG (wpAny_loadPart hx (cG ((looks_clsIn X hc).here ?_))))));rw[qg];refine fH (a:=I dx) (cG (fH (cG ?_)));unfold nsSet;refine cG (cG (wpAny_askSetting (fH (cG (wpAny_mkText (cG (wpAny_loadPart D ?_)))))));have c:(!es.toArray.any (·.key.isStr name)&&es.toArray.any (·.refKey))=false:=by
  unfold getL at hl;rw[<- UZ,<- UZ];split at hl
  .rename_i en ba;rw[List.any_eq_true.mpr ⟨en,List.mem_of_find?_eq_some ba,List.find?_some ba⟩];rfl
  .split at hl
   .cases hl
   .rename_i af;rw[Bool.not_eq_true]at af;rw[af,rh]
 dsimp only;rw[aRefKeyMayBeTheName_at,c];refine wpAny_updatePart D ?_;refine cG (wpAny_lookBehind fX (by exact pastItsLine_dict (by rw[jU,sizeLine_eq];exact(O [] [_] (.i (.ag .x 1000) (.ag .x (.p 16777216 1)))) hz)) ?_);exact fH h
theorem U0(name:bg)(hsh:Int)(key v:aw)(es:List n5):(wZ name hsh key v es).length<=es.length+1:=by
 induction es with
 |nil=>exact gB _
 |cons e es a=>unfold wZ;split<;>simp<;>exact(O [] [_,_] (.i (.ag .x (.p .y 1)) (.ag .x (.p .y 1)))) a
theorem U1(h:IH T o n v G Q):∃a C dx,o=.o a C dx/\Rd (AA G dx) λf=>((T.tH C n).isSome=ai/\f.1.length<100)/\Q (G.s dx (.eE (putN f.1 n) (lT f.1 f.2 n v))):=by cases o<;>first|exact h.elim|exact⟨_,_,_,rfl,h⟩
theorem aO.n4(x:aO X k Y view P F G ab z A s)(ro:bL X F o u)(rv:bL X F v w)(h:n4 X.a8 o n v G Q)(q:∀aS aD,aO X k Y view P F aS ab z A aD->Q aS->R () aD):bW (b6 X.prog X.w) A (setAttr u (X.aH n) w) R bO s:=by
 replace h:=h.ok;refine cps λG0 d=>?_;obtain⟨a,C,dx,rfl,h⟩:=U1 h;refine d ?_;clear d
 .obtain⟨⟨ns,vs⟩,e,h⟩:=tP h;have e:=T2 e
  .obtain⟨⟨j,I⟩,h⟩:=h;refine cps λG0 d=>?_;obtain⟨c,j⟩:=Option.isSome_iff_exists.mp j;obtain⟨rfl,K,L⟩:=ro;obtain⟨b,fe,gj,M,oa,f5⟩:=x.ok.au C n c j;obtain⟨c1,c2,N,S,T⟩:=x.ok.cls C K;obtain⟨ob,r,V,m,rfl,l,B⟩:=x.aP.fo _ _ e;obtain⟨W,Z⟩:=D9 (X:=X) (F:=F) l B n;refine d ?_;clear d;have hg:(getL (X.aH n) V).isSome=true:=by
    cases D:iQ ns vs n with
    |none=>rw[Z D];rfl
    |some fg=>obtain⟨_,g,_⟩:=W _ D;rw[g];rfl
   have H:=AP (x.aP.f _ _ L) r;refine set_plain x.n6 H S (UX (s:={s with toks:=s.toks+1}) x.n6 H T M N hg ?_ ?_)
   .have:=Jj (X:=X) l;exact hW (U0 _ _ _ _ _) (by exact(O [] [_,_] (.i (.U .y 100) (.i (.E .y .x) (.ag (.p .x 1) 1000)))) I this)
   .obtain⟨p1,p2⟩:=US (X:=X) (F:=F) l B rv (n:=n) (hsh:=yA X.w.params (X.aH n)) (t:=s.toks+1);refine q _ _ (x.update (hV:=.eE (putN ns n) (lT ns vs n v)) e (Jl ..) (Jk _ r ?_) ⟨_,_,Eb ..,p1,p2⟩) h;rw[Eb];rfl
theorem aO.Jm(x:aO X k Y view P F G ab z A s)(hC:C∈X.cls)(e1:s.heap.get? a=I (lX C dx))(e2:s.heap.get? dx=I (sf es m))(hk:se X ns es)(hr:bE X F vs (es.map (·.val)))(hn:mY ns n=ak)(h:X.a8.iD C n=I f)(q:Q (.ref f,[.ref a]) s):bW (b6 X.prog X.w) A (getMethod (.ref a) (X.aH n) pl) Q bO s:=by
 refine cps λG0 b=>?_;obtain⟨c,d⟩:=x.ok.iD C n f h;obtain⟨e,g,j,l,o⟩:=x.ok.cls C hC;refine b ?_;clear b;refine method_fn x.n6 (AP e1 e2) e g c d ?_ q;have i:iQ ns vs n=none:=by have:=UR (vs:=vs) (by rw[Jj (X:=X) hk,hr.n X,cm]) n;rw[hn]at this;simpa using this.symm
 show(lookIn (X.aH n) (sf es m)).map (·.isSome)=I ak;rw[lookIn_dict,(D9 (X:=X) (F:=F) hk hr n).2 i];rfl
noncomputable def sA:aR->Bool
 |.Call .. =>ai
 |_=>ak
theorem U2(o:aR):cond (sA o) True (AQ o=λ_ _ jh=>jh):=by cases o<;>first|exact True.intro|exact rfl
theorem Jn(h:sA o=ak)(au:bg)(ab:b5)(jh:Sem aw):AQ o au ab jh=jh:=congrFun (congrFun (congrFun (h▸U2 o:cond ak True (AQ o=λ_ _ jh=>jh)) au) ab) jh
theorem U3(h:bS X k Y view o w)(hb:sA o=ak):bS X k Y view (.Attribute o (X.aH n) pos) λz G Q=>w z G λov G=>rd ov (pZ X.a8 G ov n) λv=>Q v G:=by
 intro P F G ab z A s Q x c;refine Attribute_any_ (h.then x c λa u g i j d b f q=>?_) ?_
 .obtain⟨v,e,q⟩:=lZ q;exact b.au f e λl t r=>d9.le d (.gA (b.toks t) r q)
 .show(do let m<- AQ o (X.aH n) ab (ij o ab);_)=_;rw[Jn hb]
theorem Jo(xs:List aw)(a:Nat):∀c,a+c<=xs.length->((rg c).map λk=>a+k).filterMap (xs.toArray[·]?)=(xs.drop a).take c:=by
 intro b;induction b with
 |zero=>exactλ_=>rfl
 |succ c d=>
  intro h;rw[List.range_succ,gk,List.filterMap_append,d (by exact(O [] [_,_,_] (.i (.ag (.p .x (.p .y 1)) .u) (.ag (.p .x .y) .u))) h),List.take_succ];congr 1;have:xs.toArray[a+c]?=(xs.drop a)[c]?:=by simp
  simp only[oV,w3];rw[AR,this];cases(xs.drop a)[c]?<;>simp
theorem Jp(a b:Nat):Ec a b 1=(rg (b- a)).map λk=>a+k:=by
 unfold Ec;have e:(if(1:Int)>0 then(if(a:Int)<b then((b:Int)- a+1- 1)/1 else 0)else(if(a:Int)>b then((a:Int)- b- 1- 1)/(-1)else 0)).toNat=b- a:=by
  rw[if_pos (by decide)];by_cases h:(a:Int)<b
  .rw[if_pos h,Int.ediv_one];exact(O [] [_,_] (.i (.t (.c .x) (.c .y)) (.E (.af (.s (.p (.s (.c .y) (.c .x)) 1) 1)) (.s .y .x)))) h
  .rw[if_neg h];exact(O [] [_,_] (.i (.n (.t (.c .x) (.c .y))) (.E 0 (.s .y .x)))) h
 simp only[e];refine yB λk _=>?_;exact O [] [_,_] (.E (.af (.p (.c .x) (.m 1 (.c .y)))) (.p .x .y))
theorem U4(a b:Int)(n:Nat):yC (I a) (I b) aa n=((bound a n:Int),(bound b n:Int),1):=by unfold yC bound;simp only[Jq,show(1:Int)>0 from by decide,if_true,Prod.mk.injEq,and_true];constructor<;>(split<;>split<;>(first|exact(O [_] [_] (.i (.t .x 0) (.i (.l 0 .x) (.e (.l 0 (.i (.p .x (.c .x)) (.c .x))) (.c (.i (.af .x) .x)))))) ‹_› ‹_›|exact(O [_] [_] (.i (.t .x 0) (.e (.l 0 (.i (.p .x (.c .x)) (.c .x))) (.c (.af (.p .x (.c .x))))))) ‹_›|exact(O [_] [_] (.i (.n (.t .x 0)) (.e (.l 0 (.i .x (.c .x))) (.c (.i (.af .x) .x))))) ‹_›|exact(O [_] [_] (.i (.n (.t .x 0)) (.i (.n (.l 0 .x)) (.e (.l 0 (.i .x (.c .x))) (.c (.af (.p .x (.c .x)))))))) ‹_› ‹_›))
theorem U5(b:Int)(n:Nat):yC aa (I b) aa n=(((0:Nat):Int),(bound b n:Int),1):=by
 unfold yC bound;simp only[Jq,show(1:Int)>0 from by decide,if_true,Prod.mk.injEq,and_true];constructor
 .rfl
 .split<;>split<;>(first|exact(O [_] [_] (.i (.t .x 0) (.i (.l 0 .x) (.e (.l 0 (.i (.p .x (.c .x)) (.c .x))) (.c (.i (.af .x) .x)))))) ‹_› ‹_›|exact(O [_] [_] (.i (.t .x 0) (.e (.l 0 (.i (.p .x (.c .x)) (.c .x))) (.c (.af (.p .x (.c .x))))))) ‹_›|exact(O [_] [_] (.i (.n (.t .x 0)) (.e (.l 0 (.i .x (.c .x))) (.c (.i (.af .x) .x))))) ‹_›|exact(O [_] [_] (.i (.n (.t .x 0)) (.i (.n (.l 0 .x)) (.e (.l 0 (.i .x (.c .x))) (.c (.af (.p .x (.c .x)))))))) ‹_› ‹_›)
theorem Jr(a:Int)(n:Nat):bound a n<=n:=by unfold bound;split<;>(first|exact O [_] [_] (.ag (.i (.af .x) .x) .x)|exact(O [_] [_] (.i (.n (.l 0 .x)) (.ag (.af (.p .x (.c .x))) .x))) ‹_›)
theorem U6(xs:List aw)(a b:Int):(ve xs.toArray (I a) (I b) aa).toList=(xs.drop (bound a xs.length)).take (bound b xs.length- bound a xs.length):=by
 unfold ve;rw[jU,U4];dsimp only;rw[Jp];by_cases h:bound a xs.length<=bound b xs.length
 .exact Jo _ _ _ (by have:=Jr b xs.length;exact(O [] [_,_,_] (.i (.ag .x .y) (.i (.ag .y .u) (.ag (.p .x (.s .y .x)) .u)))) h this)
 .rw[show bound b xs.length- bound a xs.length=0 by exact(O [] [_,_] (.i (.n (.ag .y .x)) (.E (.s .x .y) 0))) h];simp
theorem U7(xs:List aw)(b:Int):(ve xs.toArray aa (I b) aa).toList=xs.take (bound b xs.length):=by unfold ve;rw[jU,U5];dsimp only;rw[Jp];have:=Jo xs 0 (bound b xs.length) (by have:=Jr b xs.length;exact(O [] [_,_] (.i (.ag .x .y) (.ag (.p 0 .x) .y))) this);simpa using this
theorem U8:∀{l:List aK},(∀k∈l,f k=I (g k))->l.filterMap f=l.map g:=by
 intro b;induction b with
 |nil=>exactλ_=>rfl
 |cons a l c=>intro h;rw[AR,h a (.head _),oV];exact congrArg _ (c λk d=>h k (.tail _ d))
theorem U9(xs:List aw):(ve xs.toArray aa aa (I (-1))).toList=xs.reverse:=by
 unfold ve;have e:yC aa aa (I (-1)) xs.toArray.size=((xs.length:Int)- 1,-1,-1):=by unfold yC;simp
 rw[e];dsimp only;have f:Ec ((xs.length:Int)- 1) (-1) (-1)=(rg xs.length).map λk=>xs.length- 1- k:=by
  unfold Ec;have e:(if(-1:Int)>0 then(if(xs.length:Int)- 1< -1 then((-1:Int)- ((xs.length:Int)- 1)+-1- 1)/ -1 else 0)else(if(xs.length:Int)- 1> -1 then((xs.length:Int)- 1- -1- -1- 1)/(- -1)else 0)).toNat=xs.length:=by simp only[show¬((-1:Int)>0)from by decide,if_false,Int.neg_neg,Int.ediv_one];split<;>(first|exact(O [] [_] (.i (.t (.k (-1)) (.s (.c .x) 1)) (.E (.af (.s (.s (.s (.s (.c .x) 1) (.k (-1))) (.k (-1))) 1)) .x))) ‹_›|exact(O [] [_] (.i (.n (.t (.k (-1)) (.s (.c .x) 1))) (.E (.af 0) .x))) ‹_›)
  simp only[e];refine yB λk _=>?_;exact O [] [_,_] (.E (.af (.p (.s (.c .x) 1) (.m (-1) (.c .y)))) (.s (.s .x 1) .y))
 rw[f];induction xs with
 |nil=>rfl
 |cons v xs d=>
  clear e f d;refine Va λi=>?_;have all:((rg (v::xs).length).map λk=>(v::xs).length- 1- k).filterMap ((v::xs).toArray[·]?)=(rg (v::xs).length).map λk=>((v::xs)[(v::xs).length- 1- k]?).getD .none:=by
   rw[List.filterMap_map];refine U8 λk b=>?_;have b:=List.mem_range.mp b;have:(v::xs).length- 1- k<(v::xs).length:=by simp;exact O [] [_,_] (.U (.s .x .y) (.p .x 1))
   simp only[Function.comp,vf,rj this,sC]
  show(((rg (v::xs).length).map λk=>(v::xs).length- 1- k).filterMap ((v::xs).toArray[·]?))[i]?=_;rw[all,Ed];by_cases a:i<(v::xs).length
  .rw[List.getElem?_range a,List.getElem?_reverse a];have:(v::xs).length- 1- i<(v::xs).length:=by simp;exact O [] [_,_] (.U (.s .x .y) (.p .x 1))
   simp only[Option.map_some,rj this,sC]
  .rw[qi (by simpa using a),qi (by simpa using a)];rfl
theorem Js(r:bE X F vs ao)(hz:vs.length<=2*cK)(h:j7 vs i=I v):∃j u,bw i ao.length=I j/\ao[j]?=I u/\bL X F v u:=by unfold j7 at h;refine cps λG0 a=>?_;obtain⟨j,b,h⟩:=Option.bind_eq_some_iff.mp h;rw[r.n X]at b;obtain⟨u,e,c⟩:=r.at X h;refine a ?_;clear a;exact⟨j,u,b,e,c⟩
theorem Jt(h:bw i n=I j)(hn:n<=2*cK):(0<=i/\j=i.toNat\/i<0/\-(n:Int)<=i/\j=(i+n).toNat)/\-(2^63)<=i/\i<2^63:=by
 have:(2*cK:Nat)=200000:=rfl;unfold bw at h;split at h
 .split at h
  .cases h;exact⟨.inl ⟨by assumption,rfl⟩,by exact(O [_] [] (.i (.l 0 .x) (.l (.k (-2^63)) .x))) ‹_›,by exact(O [_] [_,_] (.i (.ag .x (.m 2 .y)) (.i (.E (.m 2 .y) 200000) (.i (.t .x (.c .x)) (.t .x (.k (2^63))))))) hn this ‹_›⟩
  .cases h
 .split at h
  .cases h;exact⟨.inr ⟨by exact(O [_] [] (.i (.n (.l 0 .x)) (.t .x 0))) ‹_›,by assumption,rfl⟩,by exact(O [_] [_,_] (.i (.ag .x (.m 2 .y)) (.i (.E (.m 2 .y) 200000) (.i (.l (.g (.c .x)) .x) (.l (.k (-2^63)) .x))))) hn this ‹_›,by exact(O [_] [] (.i (.n (.l 0 .x)) (.t .x (.k (2^63))))) ‹_›⟩
  .cases h
theorem Vb(h:bw i n=I j):seqIndex? i n=I j:=by
 unfold bw at h;by_cases a:0<=i
 .rw[if_pos a]at h;split at h
  .rename_i b;cases h;have:¬i<0:=by exact(O [_] [] (.i (.l 0 .x) (.n (.t .x 0)))) a
   simp only[seqIndex?,this,if_false];rw[if_pos (by simp;exact(O [_] [_] (.i (.l 0 .x) (.i (.t .x (.c .x)) (.c (.l 0 .x) (.t .x (.c .x)))))) a b)]
  .cases h
 .rw[if_neg a]at h;split at h
  .rename_i b;cases h;have:i<0:=by exact(O [_] [] (.i (.n (.l 0 .x)) (.t .x 0))) a
   simp only[seqIndex?,this,if_true];rw[if_pos (by simp;exact(O [_] [_] (.i (.n (.l 0 .x)) (.i (.l (.g (.c .x)) .x) (.c (.l 0 (.p .x (.c .x))) (.t (.p .x (.c .x)) (.c .x)))))) a b)]
  .cases h
theorem Vc{prog:uX}{w:iS}{A:cB}{s:bA}{l:aC}{ao:List aw}{i:Int}{t:Tok}{j:Nat}{u:aw}{Q:aw->bA->Prop}{E:aw->bA->Prop}(hl:s.heap.IsList l ao.toArray)(hj:bw i ao.length=I j)(hn:ao.length<=2*cK)(hu:ao[j]?=I u)(q:Q u s):bW (b6 prog w) A (getItem (.ref l) (.int i t)) Q E s:=by
 obtain⟨h|h,h1,h2⟩:=Jt hj hn
 .obtain⟨cQ,rfl⟩:=h;exact wpAny_getItem_list hl cQ h2 (by simpa using hu) q
 .obtain⟨cQ,h3,rfl⟩:=h;exact wpAny_getItem_list_neg hl cQ (by simpa using h3) h1 (by simpa using hu) q
theorem Ju(hl:ao.length=ks.length)(hr:bE X F vs ao)(i:Int):(∀v,iR ks vs i=I v->∃u,sD (ks.zip ao) i=I u/\bL X F v u)/\(iR ks vs i=aa->sD (ks.zip ao) i=aa):=by
 induction ks generalizing ao vs with
 |nil=>exact⟨λv h=>(nomatch h),λ_=>rfl⟩
 |cons m ks a=>
  cases ao with
  |nil=>simp at hl
  |cons u ao=>
   cases vs with
   |nil=>cases hr
   |cons v vs=>
    obtain⟨j,l,eq,b,c⟩:=hr;cases eq;obtain⟨d,e⟩:=a (by simpa using hl) c;have f:iR (m::ks) (v::vs) i=if m=i then I v else iR ks vs i:=rfl
    have g:sD ((m::ks).zip (u::ao)) i=if m=i then I u else sD (ks.zip ao) i:=by
     unfold sD;rw[Jv,Ji];by_cases q:m=i
     .rw[if_pos q,decide_eq_true q];rfl
     .rw[if_neg q,decide_eq_false q]
    rw[f,g];by_cases q:m=i
    .rw[if_pos q,if_pos q];exact⟨λn h=>by cases h;exact⟨_,rfl,b⟩,λh=>by cases h⟩
    .rw[if_neg q,if_neg q];exact⟨d,e⟩
inductive DictAt(X:Cx)(F:Kp)(h:gh)(ks:List Int)(vs:List V)(u:aw):Prop
 |mk (a:aC) (ao:List aw) (e:u=.ref a) (d:h.DictOf (p9 X.prog X.w) a (ks.zip ao)) (l:ao.length=ks.length) (r:bE X F vs ao) (af:a≠q6)
theorem Vd(G:J)(v:V):kQ (λp=>.dk p.1 p.2) v (tI G v)\/∃a,v=.r a:=by cases v<;>first|exact .inl trivial|exact .inl rfl|exact .inr ⟨_,rfl⟩
theorem aO.dict(x:aO X k Y view P F G ab z A s)(r:bL X F v u)(h:tI G v=I (ks,vs)):DictAt X F s.heap ks vs u:=by
 rcases Vd G v with e|⟨a,rfl⟩
 .obtain rfl:=e.eq h;obtain⟨a,o,b,rfl,e,aF,c,g,r⟩:=r;exact⟨a,b,rfl,Heap.dictOf_iff.mpr ⟨o,x.aP.f _ _ e,aF⟩,c,r,g⟩
 .have d:=IP h;obtain rfl:=r;obtain⟨ob,e,b,aF,c,g,r⟩:=x.aP.fo _ _ d;exact⟨_,b,rfl,Heap.dictOf_iff.mpr ⟨ob,e,aF⟩,c,r,λq=>by subst q;rw[x.aP.sm]at d;cases d⟩
inductive Ve(X:Cx)(F:Kp)(h:gh)(v:V)(xs:List V)(u:aw):Prop
 |mk (a:aC) (ao:List aw) (n:Nat) (T:String) (e:u=.ref a) (f:h.get? a=I (kS T (p8 ao) n)) (t:T="list"\/T="tuple") (r:bE X F xs ao) (af:xs.length<=2*Tactic.cK) (q:T="tuple"->v=.aV xs)
theorem Vf(G:J)(v:V):kQ .l v (listOf G v)\/kQ .aV v (listOf G v)\/∃a,v=.r a:=by cases v<;>first|exact .inl trivial|exact .inl rfl|exact .inr (.inl rfl)|exact .inr (.inr ⟨_,rfl⟩)
theorem aO.items(x:aO X k Y view P F G ab z A s)(r:bL X F v u)(h:listOf G v=I xs):Ve X F s.heap v xs u:=by
 rcases Vf G v with e|e|⟨a,rfl⟩
 .obtain rfl:=e.eq h;obtain⟨a,b,n,rfl,e,q,c⟩:=l5 r;exact⟨a,b,n,"list",rfl,x.aP.f _ _ e,.inl rfl,q,c,λq=>absurd q (by decide)⟩
 .obtain rfl:=e.eq h;obtain⟨a,b,n,rfl,e,q,c,_⟩:=m8 r;exact⟨a,b,n,"tuple",rfl,x.aP.f _ _ e,.inr rfl,q,c,λ_=>rfl⟩
 .have d:=(yf _).eq h;obtain rfl:=r;obtain⟨ob,e,b,n,rfl,q,c⟩:=x.aP.fo _ _ d;exact⟨_,b,n,"list",rfl,e,.inl rfl,q,c,λq=>absurd q (by decide)⟩
theorem Jw(h:n<=2*Tactic.cK):¬((n:Int)>=2^63):=by have:(2*cK:Nat)=200000:=rfl;exact(O [] [_,_] (.i (.ag .x (.m 2 .y)) (.i (.E (.m 2 .y) 200000) (.n (.l (.k (2^63)) (.c .x)))))) h this
theorem rp(h:n<=2*Tactic.cK):n<=sizeLine:=hW h AM
theorem Vg:∀{xs:Array (Int×Tok)} {ao:List aw} {is:List Int},ao.toArray=intItems xs->oT ao is->xs.toList.map (·.1)=is:=by
 intro xs ao is e h;have e:ao=xs.toList.map λp=>Ee p.1 p.2:=by have:=congrArg Array.toList e;simpa[intItems]using this
 generalize xs.toList=l at e;subst e;clear e;induction l generalizing is with
 |nil=>cases h;rfl
 |cons p l a=>cases h with|cons n t r=>exact congrArg _ (a r)
theorem Vh{a tp:aC}{ao:List aw}{n:Nat}{prog:uX}{w:iS}{A:cB}{s:bA}{Q:aw->bA->Prop}{E:aw->bA->Prop}(e:s.heap.get? a=I (kS "list" (p8 ao) n))(et:s.heap.get? tp=I {cls:=.type "tuple",data:=.seq (p8 [.type "bytes",.type "bytearray",.type "list",.type "tuple"])})(q:∀tk,Q (.bool ai) {s with toks:=tk}):bW (b6 prog w) A (l7 (.builtin "isinstance") [.ref a,.ref tp]) Q E s:=
 IsiPair.tupleOfB (vs:=[ak,ak,ai,ak]) (Tx:="list")
  (.cons (Jx (by decide+kernel) (by pv_isi_meta) PySem.F.sub_list_bytes) (.cons (Jx (by decide+kernel) (by pv_isi_meta) PySem.F.sub_list_bytearray)
   (.cons (Answers.of_true (by pv_isi_meta) PySem.F.sub_list_list) (.cons (Jx (by decide+kernel) (by pv_isi_meta) PySem.F.sub_list_tuple) .nil))))
  ⟨_,e,rfl⟩ et rfl q
theorem Jy(a:Int):∀l,(uS a l).Perm (a::l):=by
 intro c;induction c with
 |nil=>exact .refl _
 |cons b l d=>
  rw[DO];split
  .exact .refl _
  .exact((d).cons b).trans (.swap a b l)
theorem w4:∀l,(qX l).Perm l:=by
 intro b;induction b with
 |nil=>exact .refl _
 |cons a l c=>exact(Jy a _).trans ((c).cons a)
theorem Vi(a:Int):∀{l},l.Pairwise (· <=·)->(uS a l).Pairwise (· <=·):=by
 intro f;induction f with
 |nil=>intro _;simp[RM,DO]
 |cons b l g=>
  intro h;obtain⟨e,j⟩:=List.pairwise_cons.mp h;rw[DO];split
  .rename_i q;exact List.pairwise_cons.mpr ⟨λc d=>by
    rcases List.mem_cons.mp d with rfl|d
    .exact q
    .exact sF q (e c d),h⟩
  .exact List.pairwise_cons.mpr ⟨λc d=>by
    rcases List.mem_cons.mp ((Jy a l).mem_iff.mp d)with rfl|d
    .exact(O [_,_] [] (.i (.n (.l .y .x)) (.l .x .y))) ‹_›
    .exact e c d,g j⟩
theorem Vj:∀l,(qX l).Pairwise (· <=·):=by
 intro b;induction b with
 |nil=>exact .nil
 |cons a l c=>exact Vi a (c)
theorem Jz:∀{ao:List aw} {is:List Int},oT ao is->bE X F (is.map V.i) ao
 |_,_,.nil=>rfl
 |_,_,.cons n t r=>⟨_,_,rfl,⟨t,rfl⟩,Jz r⟩
theorem Vk(hl:ao.length=is.length)(h:∀(i:Nat) (u:aw),ao[i]?=I u->∃(k:Int) (t:Tok),is[i]?=I k/\u=Ee k t):oT ao is:=by
 induction ao generalizing is with
 |nil=>cases is with|nil=>exact .nil|cons=>simp at hl
 |cons u ao a=>
  cases is with
  |nil=>simp at hl
  |cons i is=>obtain⟨k,t,e,rfl⟩:=h 0 u (rfl);simp at e;subst e;exact .cons _ t (a (by simpa using hl) λj v b=>by simpa using h (j+1) v (by simpa using b))
theorem aO.sorted(x:aO X k Y view P F G ab z A s)(hs:G a=I (.dk ks vs))(hl:ks.length<60)(q:Q (.l ((qX ks).map .i)) G):bW (b6 X.prog X.w) A (l7 (.builtin "sorted") [.ref a]) (d9 X k Y view P F ab z A Q) bO s:=by
 refine cps λG0 d=>?_;obtain⟨ob,e,n,aF,j,K,r⟩:=x.aP.fo _ _ hs;have aH:a≠sysModules:=λq=>by subst q;rw[x.aP.sm]at hs;cases hs
 have D:s.heap.DictOf (p9 X.prog X.w) a (ks.zip n):=Heap.dictOf_iff.mpr ⟨ob,e,aF⟩;obtain⟨ep,D⟩:=D.dictAt;refine d ?_;clear d;have f:(ks.zip n).length=ks.length:=by simp[j]
 refine Calls.call_function_entry kind_sorted plain_sorted entry_sorted (args_sorted1 _) ?_;unfold Builtin.«sorted»;refine cG (m:=checkCount "sorted" 1 1 _) (fH ?_);have R:(ks.zip n).length<=sizeLine:=by rw[f];exact hW (by have:(60:Nat)<=2*Tactic.cK:=(by decide);exact(O [] [_,_,_,_] (.i (.E .w .x) (.i (.ag .x (.m 2 .y)) (.i (.E .u .x) (.ag .x (.m 2 .y)))))) j K f) AM
 refine cG (kdu_collect (A:=A.in1) (kdl_dict (by simpa using aH)) x.gz.1 D R λg S h T p=>?_);have L:=x.heap (t:=S) T;have V:oT h.toList ks:=by
  refine Vk (by rw[yD,p.1,f]) λi u W=>?_;refine cps λG0 d=>?_;obtain⟨k,v,M,B⟩:=p.2 i u (by simpa using W);refine d ?_;clear d;obtain⟨t,rfl⟩:∃t,u=.int k t:=by cases u<;>first|(simp[p9,Vl]at B;exact⟨_,by rw[B]⟩)|(simp[p9,Vl]at B)
  refine⟨k,t,?_,rfl⟩;rw[Eg]at M;exact M.1
 refine cG (JA ?_);have C:(g.push (kS "list" h.toList.toArray 0)).get? g.objs.size=I (kS "list" h.toList.toArray 0):=qd _ rfl;refine cG (kh (wpAny_call_entry slot_list_sort ⟨_,C,rfl⟩ entry_list_sort (list_sort_tree C V (by rw[yD,p.1,f];exact(O [] [_,_,_] (.i (.U .x 60) (.i (.E .u .x) (.i (.E .y .x) (.U .x 64))))) hl j f) λout Z dN eL a3=>⟨_,rfl,?_⟩) (args_list_sort _)));refine fH ⟨_,rfl,?_⟩;have Ei:gQ g (sortedHeap (g.push (kS "list" h.toList.toArray 0)) g.objs.size h.toList out):=λb o N=>by
  have H:=kT N;rw[sortedHeap_old (oW H) (by rw[size_push'];exact JC H),Heap.get?_push_ne _ _ _ (oW H)];exact N
 refine cps λG0 d=>?_;obtain⟨c,hc⟩:=sortedHeap_at (out:=out) C;have dr:=L.fresh (a:=g.objs.size) (gB _);obtain⟨l,y⟩:=(L.kz Ei).sj dr hc;refine d ?_;clear d;have en:Z=qX ks:=ksm_same (eL.trans (w4 ks).symm) a3 (Vj ks);subst en;refine d9.le l (.gA y ?_ q);refine⟨_,out.toList,c,rfl,Kp.lr,Jz dN,?_⟩;rw[cm,(w4 ks).length_eq];have:(60:Nat)<=2*Tactic.cK:=by decide
 exact(O [] [_,_,_,_] (.i (.E .w .x) (.i (.ag .x (.m 2 .y)) (.i (.E .u .x) (.ag .x (.m 2 .y)))))) j K f
inductive Vm(X:Cx)(F:Kp)(ao:List aw)(Q:V->Prop):Prop
 |mk (v:V) (u:aw) (e:ao=[u]) (r:bL X F v u) (q:Q v)
inductive Vn(X:Cx)(F:Kp)(ao:List aw)(Q:V×V->Prop):Prop
 |mk (v w:V) (u eT:aw) (e:ao=[u,eT]) (r:bL X F v u) (dG:bL X F w eT) (q:Q (v,w))
theorem od(r:bE X F vs ao)(h:bR (mG vs) Q):Vm X F ao Q:=by
 cases vs with
 |nil=>exact h.elim
 |cons v vs=>cases vs with
  |nil=>obtain⟨u,_,rfl,a,rfl⟩:=r;exact⟨v,u,rfl,a,h⟩
  |cons=>exact h.elim
theorem yE(r:bE X F vs ao)(h:bR (tJ vs) Q):Vn X F ao Q:=by
 cases vs with
 |nil=>exact h.elim
 |cons v vs=>cases vs with
  |nil=>exact h.elim
  |cons w vs=>cases vs with
   |nil=>obtain⟨u,_,rfl,a,b,_,rfl,c,rfl⟩:=r;exact⟨v,w,u,b,rfl,a,c,h⟩
   |cons=>exact h.elim
theorem Vo:∀{l:List V} {bs:List Bi},l.map wD=bs.map I->l=bs.map .bC:=by
 intro a;induction a with
 |nil=>
  intro c;cases c with
  |nil=>exactλ_=>rfl
  |cons _ _=>exactλh=>nomatch h
 |cons v l d=>
  intro e;cases e with
  |nil=>exactλh=>nomatch h
  |cons b bs=>exactλh=>congr (congrArg Ej ((DJ v).eq (jV h).1)) (d (jV h).2)
theorem Vp(t:V):yn t=0\/(yn t=1/\t=.bC .i)\/(yn t=2/\t=.bC .o)\/(yn t=3/\t=.aV [.bC .y,.bC .b,.bC .l,.bC .t]):=by
 cases t with
 |bC b=>cases b<;>first|exact .inl rfl|exact .inr (.inl ⟨rfl,rfl⟩)|exact .inr (.inr (.inl ⟨rfl,rfl⟩))
 |aV l=>
  by_cases h:l.map wD=[I .y,I .b,I .l,I .t]
  .exact .inr (.inr (.inr ⟨if_pos h,congrArg V.aV (Vo (bs:=[.y,.b,.l,.t]) h)⟩))
  .exact .inl (if_neg h)
 |_=>exact .inl rfl
theorem aO.Vq(x:aO X k Y view P F G ab z A s){v t:V}{u eT:aw}{b:Bool}{Q:V->J->Prop}(ru:bL X F v u)(rt:bL X F t eT)(h:uT v t=I b)(q:Q (.b b) G):bW (b6 X.prog X.w) A (l7 (.builtin "isinstance") [u,eT]) (d9 X k Y view P F ab z A Q) bO s:=by
 unfold uT at h;refine cps λG0 g0=>?_;rcases Vp t with e|⟨e,rfl⟩|⟨e,rfl⟩|⟨e,rfl⟩<;>rw[e]at h
 .refine g0 ?_;clear g0;cases h
 .refine g0 ?_;clear g0;obtain⟨i,e,rfl⟩:=Option.map_eq_some_iff.mp h;obtain rfl:=(i7 v).eq e;obtain⟨t,rfl⟩:=ru;obtain rfl:=rt;exact IsiPair.int_int (.gA x yw q)
 .refine g0 ?_;clear g0;obtain⟨i,e,rfl⟩:=Option.map_eq_some_iff.mp h;obtain rfl:=(i7 v).eq e;obtain⟨t,rfl⟩:=ru;obtain rfl:=rt;exact IsiPair.int_bool (.gA (x.toks _) yw q)
 .refine g0 ?_;clear g0;obtain⟨i,e,rfl⟩:=Option.map_eq_some_iff.mp h;refine cps λG0 g0=>?_;obtain rfl:=(oO v).eq e;obtain⟨a,ws,n,rfl,g,_⟩:=l5 ru;obtain⟨cY,dT,jg,rfl,gR,dG,_,rfl⟩:=m8 rt;obtain⟨u1,y1,rfl,h1,u2,aS5,rfl,h2,u3,aS6,rfl,h3,u4,aS7,rfl,h4,rfl⟩:=dG;obtain rfl:=h1;obtain rfl:=h2;obtain rfl:=h3;obtain rfl:=h4;refine g0 ?_;clear g0;exact Vh (x.aP.f _ _ g) (x.aP.f _ _ gR) λtk=>.gA (x.toks tk) yw q
theorem Vr(i:Int):(if i<0 then-i else i)=(i.natAbs:Int):=by
 by_cases h:i<0
 .rw[if_pos h];exact(O [_] [] (.i (.t .x 0) (.e (.g .x) (.c (.n .x))))) h
 .rw[if_neg h];exact(O [_] [] (.i (.n (.t .x 0)) (.e .x (.c (.n .x))))) h
theorem Vs(i j:Int)(t b8:Tok):(if j<i then Ee j b8 else .int i t)=.int (eQ i j) (if j<i then b8 else t):=by
 by_cases h:j<i
 .rw[if_pos h,if_pos h,Rz (pU h)]
 .rw[if_neg h,if_neg h,Rx (Int.not_lt.1 h)]
theorem Vt(i j:Int)(t b8:Tok):(if j>i then Ee j b8 else .int i t)=.int (jn i j) (if j>i then b8 else t):=by
 by_cases h:j>i
 .rw[if_pos h,if_pos h,Ry (pU h)]
 .rw[if_neg h,if_neg h,RA (Int.not_lt.1 h)]
inductive JD(s:bA)(u:aw)(is:List Int):Prop
 |mk (a:aC) (ys:Array (Int×Tok)) (e:u=.ref a) (hl:s.heap.IsList a (intItems ys)) (hs:ys.toList.map (·.1)=is)
theorem aO.JE(x:aO X k Y view P F G ab z A s)(ru:bL X F v u)(h:bR (kP v) λr=>bR (pX r) Q):∃is,JD s u is/\Q is:=by obtain⟨r,rfl,d⟩:=(oO v).eF h;obtain⟨is,e,q⟩:=lx d;obtain⟨a,ws,n,rfl,g,i,l⟩:=l5 ru;have b:=u5 i e;obtain⟨j,c⟩:=b.allInts.items;exact⟨is,⟨a,j,rfl,c▸⟨_,x.aP.f _ _ g,rfl,n,rfl⟩,Vg c b⟩,q⟩
theorem aO.Vu(x:aO X k Y view P F G ab z A s)(ag:JD s u is)(q:0<is.length/\∀m,m∈is->(∀a∈is,a<=m)->Q (.i m) G):bW (b6 X.prog X.w) A (l7 (.builtin "max") [u]) (d9 X k Y view P F ab z A Q) bO s:=by
 obtain⟨a,b,rfl,g,c⟩:=ag;have d:0<b.size:=by have:=congrArg yz c;rw[cm,yD]at this;rw[this];exact q.1
 refine max_intList x.gz.1 g d λv p r h l=>?_;obtain⟨t,rfl⟩:=intItems_at h;obtain⟨n,o⟩:=argBest_gt (numAt b) (b.size- 1);refine .gA (x.heap l) ly (q.2 _ ?_ λi e=>?_)
 .rw[<- c,numAt_eq];exact getD_mem (by rw[cm,yD];exact(O [] [_,_] (.i (.U 0 .y) (.i (.ag .x (.s .y 1)) (.U .x .y)))) d n)
 .rw[<- c]at e;obtain⟨j,f,rfl⟩:=mem_getD e;rw[cm,yD]at f;rw[<- numAt_eq];exact o j ((O [] [_,_] (.i (.U 0 .y) (.i (.U .x .y) (.ag .x (.s .y 1))))) d f)
theorem aO.bC(x:aO X k Y view P F G ab z A s)(r:bE X F vs ao)(h:tK aU (.bC b) vs G Q):bW (b6 X.prog X.w) A (l7 (tN b) ao) (d9 X k Y view P F ab z A Q) bO s:=by
 replace h:Iy b vs G Q:=h;cases b with
 |aL=>
  refine cps λG0 o=>?_;obtain⟨v,u,rfl,B,h⟩:=od r h;obtain⟨xs,e,q⟩:=lZ h;obtain⟨a,ws,n,T,rfl,g,hT,E,D,_⟩:=x.items B e;refine o ?_;clear o;have I:ws.length<=2*Tactic.cK:=(E.n X)▸D;have N:d9 X k Y view P F ab z A Q (.int (ws.toArray.size:Nat) (s.toks+1)) {s with toks:=s.toks+1+1}:=by rw[jU,<- E.n X];exact .gA (x.toks _) ly q
  refine cps λG0 o=>?_;rcases hT with rfl|rfl
  .refine o ?_;clear o;exact call_len_list ⟨_,g,rfl,n,rfl⟩ ((O [] [_] (.i (.n (.l (.k (2^63)) (.c .x))) (.t (.c .x) (.k (2^63))))) (Jw I)) N
  .refine o ?_;clear o;exact PySem.P.len_tuple g (Jw I) N
 |a=>refine cps λG0 o=>?_;obtain⟨v,u,rfl,B,h⟩:=od r h;obtain⟨i,rfl,q⟩:=(i7 v).eF h;obtain⟨t,rfl⟩:=B;refine o ?_;clear o;exact call_abs_int λu L=>by rw[Vr];exact .gA (x.toks _) ly q
 |i=>refine cps λG0 o=>?_;obtain⟨v,u,rfl,B,h⟩:=od r h;obtain⟨i,rfl,q⟩:=(yc v).eF h;obtain rfl:=B;refine o ?_;clear o;exact call_int_bool (.gA (x.toks _) ly q)
 |pV=>refine cps λG0 o=>?_;obtain⟨v,w,u,R,rfl,B,H,h⟩:=yE r h;obtain⟨b,e,q⟩:=lx h;refine o ?_;clear o;exact x.Vq B H e q
 |n=>refine cps λG0 o=>?_;obtain⟨v,w,u,R,rfl,B,H,h⟩:=yE r h;obtain⟨i,j,rfl,rfl,q⟩:=q9 h;obtain⟨t,rfl⟩:=B;obtain⟨S,rfl⟩:=H;refine o ?_;clear o;exact min_two_ints x.gz.1 λK L C=>by rw[Vs];exact .gA (x.heap C) ly q
 |m=>
  replace h:tF (tJ vs) _ _:=h;cases e:tJ vs with
  |none=>rw[e]at h;refine cps λG0 o=>?_;obtain⟨v,u,rfl,B,h⟩:=od r h;obtain⟨is,V,q⟩:=x.JE B h;refine o ?_;clear o;exact x.Vu V q
  |some p=>rw[e]at h;refine cps λG0 o=>?_;obtain⟨v,w,u,R,rfl,B,H,h⟩:=yE r (Q:=λp=>nY p.1 p.2 λx y=>Q (.i (jn x y)) G) (by rw[e];exact h);obtain⟨i,j,rfl,rfl,q⟩:=q9 h;obtain⟨t,rfl⟩:=B;obtain⟨S,rfl⟩:=H;refine o ?_;clear o;exact max_two_ints x.gz.1 λK L C=>by rw[Vt];exact .gA (x.heap C) ly q
 |sum=>
  refine cps λG0 o=>?_;obtain⟨v,u,rfl,B,h⟩:=od r h;obtain⟨is,⟨a,ys,rfl,W,M⟩,q⟩:=x.JE B h;refine o ?_;clear o;exact sum_intListG x.gz.1 W λK L S C=>by
   rw[preSum_eq,List.take_of_length_le (Nat.le_of_eq (by rw[cm,yD])),M];exact .gA (x.heap C) ly q
 |t=>
  refine cps λG0 o=>?_;obtain⟨v,u,rfl,B,h⟩:=od r h;obtain⟨xs,e,q⟩:=lZ h;obtain⟨a,ws,n,T,rfl,g,hT,E,D,Z⟩:=x.items B e;refine o ?_;clear o;have I:ws.length<=2*Tactic.cK:=(E.n X)▸D;refine cps λG0 o=>?_;rcases hT with rfl|rfl
  .refine o ?_;clear o;refine call_tuple_list ⟨_,g,rfl,n,rfl⟩ (λK C=>?_) (rp I);refine cps λG0 o=>?_;obtain⟨aX,l,y,r⟩:=(x.kz C).uZ (n:=0) E ai D;refine o ?_;clear o;exact⟨_,aX,G,l,y,r,q⟩
  .refine o ?_;clear o;obtain rfl:=Z rfl;exact call_tuple_tup ⟨_,g,rfl,n,rfl⟩ (.gA x B q)
 |y=>refine cps λG0 o=>?_;obtain⟨v,u,rfl,B,h⟩:=od r h;obtain⟨xs,rfl,e,q⟩:=(oO v).eF h;obtain⟨a,ws,n,rfl,g,U,D⟩:=l5 B;refine o ?_;clear o;have dH:=u5 (is:=[65]) U e;exact call_bytes_ints ⟨_,x.aP.f _ _ g,rfl,n,rfl⟩ dH (by decide) (rp (by rw[<- U.n X];exact D)) x.gz.1 λK t k C=>.gA (x.heap C) (v:=.a) rfl q
 |s=>refine cps λG0 o=>?_;obtain⟨v,u,rfl,B,h⟩:=od r h;obtain⟨xs,rfl,h⟩:=(yd v).eF h;obtain rfl:=B;obtain⟨d,M,q⟩:=tP h;refine o ?_;clear o;exact x.sorted (IP M) q.1 q.2
 |_=>exact h.elim
theorem aO.Vv(x:aO X k Y view P F G ab z A s)(f:jC P F G ab a)(e:s.heap.get? a=I o):aO X k Y view (P.iG a o) F G ab z A s:=by
 refine⟨x.ok,x.eZ.t (Kp.wU f.p),x.dC,x.gz,x.fa,⟨λb ob h=>?_,x.aP.f,x.aP.fo,λb h=>?_,x.aP.fs,x.aP.sm,x.aP.os,x.aP.gens⟩,⟨x.bZ.bZ,λb h=>?_,x.bZ.jo⟩⟩
 .by_cases q:b=a
  .subst q;rw[Kp.lr]at h;cases h;exact e
  .rw[Kp.m6 q]at h;exact x.aP.p _ _ h
 .by_cases q:b=a
  .subst q;exact⟨f.f,f.s⟩
  .rw[Kp.m6 q]at h;exact x.aP.pf b h
 .have q:b≠a:=λq=>f.e (q▸h);rw[Kp.m6 q];exact x.bZ.apart b h
theorem aO.Vw(x:aO X k Y view (P.iG a o) F G ab z A s)(l:P a=aa)(hb:X.eZ.le P)(ax:a≠q6):s.heap.get? a=I o/\jC P F G ab a/\aO X k Y view P F G ab z A s:=by
 have h:=x.aP.p _ _ Kp.lr;have q:=x.aP.pf a (by rw[Kp.lr];exact oS _);refine⟨h,⟨l,q.1,q.2,λw=>?_,ax⟩,⟨x.ok,hb,x.dC,x.gz,x.fa,⟨λb ob h=>x.aP.p _ _ (Kp.wU l _ _ h),x.aP.f,x.aP.fo,λb h=>?_,x.aP.fs,x.aP.sm,x.aP.os,x.aP.gens⟩,⟨x.bZ.bZ,λb h=>?_,x.bZ.jo⟩⟩⟩
 .have:=(x.bZ.apart _ w).1;rw[Kp.lr]at this;cases this
 .refine x.aP.pf b ?_;cases e:P b with
  |none=>exact absurd e h
  |some o=>rw[Kp.wU l _ _ e];exact oS _
 .obtain⟨c,d⟩:=x.bZ.apart b h;refine⟨?_,d⟩;cases e:P b with
  |none=>rfl
  |some o=>rw[Kp.wU l _ _ e]at c;cases c
theorem aO.AV(x:aO X k Y view P F G ab z A s)(f:jC P F G ab a)(hs:IM a s.heap h):aO X k Y view P F G ab z A {s with heap:=h,toks:=t}:=by
 have g:∀b,(P b≠aa\/F b≠aa\/G b≠aa\/ig ab b)->b≠a:=by
  rintro b h rfl;rcases h with h|h|h|h
  .exact h f.p
  .exact h f.f
  .exact h f.s
  .exact f.e h
 refine⟨x.ok,x.eZ,x.dC,x.gz,x.fa,⟨λb q d=>?_,λb q d=>?_,λb q d=>?_,x.aP.pf,x.aP.fs,x.aP.sm,x.aP.os,x.aP.gens⟩,
  ⟨let⟨r,o,u⟩:=x.bZ.bZ;⟨r,⟨let⟨m,i,j⟩:=o.z;⟨m,i.sameBut hs (g _ (.inr (.inr (.inr (.inl rfl))))),j⟩,λn v=>let⟨c,i,j⟩:=o.cell n v;⟨c,i,j.sameBut hs (g _ (.inr (.inr (.inr (.inr ⟨n,i⟩)))))⟩⟩,u⟩,
   x.bZ.apart,λb d=>?_⟩⟩
 .exact(hs.2 _ (g b (.inl (by rw[d];exact oS _)))).trans (x.aP.p _ _ d)
 .exact(hs.2 _ (g b (.inr (.inl (by rw[d];exact oS _))))).trans (x.aP.f _ _ d)
 .obtain⟨w,l,y⟩:=x.aP.fo b q d;exact⟨w,(hs.2 _ (g b (.inr (.inr (.inl (by rw[d];exact oS _)))))).trans l,y⟩
 .obtain⟨q,l⟩:=x.bZ.jo b d;exact⟨q,(hs.2 _ (g b (.inr (.inr (.inr d))))).trans l⟩
theorem Ek(oY:aR)(o i:aw):∃hX,subscripted oY ak o i=operate hX (getItem o i):=by
 cases oY with
 |Slice l u b0 p=>cases b0<;>exact⟨_,rfl⟩
 |_=>exact⟨_,rfl⟩
inductive Vx(G:J)(o:V)(i:Int)(v:V):Prop
 |cj (xs:List V) (e:ky G o=I xs) (h:j7 xs i=I v)
 |aV (xs:List V) (e:o=.aV xs) (h:j7 xs i=I v)
 |JF (ks:List Int) (vs:List V) (e:tI G o=I (ks,vs)) (h:iR ks vs i=I v)
set_option tactic.hygienic true in
theorem Vy(G:J)(o:V)(i:Int):(Iz G o i).elim True λv=>Vx G o i v:=by
 cases o<;>first|exact True.intro|exact qh λv h=>.cj _ rfl h|exact qh λv h=>.aV _ rfl h|exact qh λv h=>.JF _ _ rfl h|skip
 next a=>
  refine qh λv h=>?_;replace h:(match lq (G a)with|some xs=>j7 xs i|none=>(dictAt (G a)).bind λd=>iR d.1 d.2 i)=I v:=h;cases e:lq (G a)with
  |some xs=>rw[e]at h;exact .cj xs e h
  |none=>rw[e]at h;exact have⟨d,aF,h⟩:=Option.bind_eq_some_iff.mp h; .JF d.1 d.2 aF h
inductive Vz(X:Cx)(A:cB)(F:Kp)(s:bA)(u w:aw)(v:V):Prop
 |mk (T id:String) (t:s.TypeIs u T) (l:typeLookup (.type T) "__getitem__"=eJ (I (.builtin id)))
  (g:∀{Q:aw->bA->Prop},(∀r tk,bL X F v r->Q r {s with toks:=tk})->bW (b6 X.prog X.w) A (getItem u w) Q bO s)
theorem aO.JG(x:aO X k Y view P F G ab z A s)(ro:bL X F o u)(ri:bL X F i w)(h:r8 G o i=I v):Vz X A F s u w v:=by
 obtain⟨i,e,C⟩:=Option.bind_eq_some_iff.mp h;obtain rfl:=(i7 _).eq e;obtain⟨t,rfl⟩:=ri;have k:=Vy G o i;rw[C]at k;rcases k with⟨xs,e,h⟩|⟨xs,rfl,h⟩|⟨H,vs,e,h⟩
 .obtain⟨a,m,n,rfl,g,r,c⟩:=x.cj ro e;obtain⟨j,y,p,d,l⟩:=Js r c h;have B:s.heap.IsList a m.toArray:=⟨_,g,rfl,n,rfl⟩
  exact⟨_,_,B.typeIs,slot_list_getitem.lookup,λq=>Vc B p (by rw[<- r.n X];exact c) d (q _ s.toks l)⟩
 .obtain⟨a,m,n,rfl,e,r,c,_⟩:=m8 ro;obtain⟨j,y,p,d,l⟩:=Js r c h;have b:=Jt p (by rw[<- r.n X];exact c);have T:w5 s.heap a m.toArray:=⟨_,x.aP.f _ _ e,rfl,n,rfl⟩
  exact⟨_,_,T.typeIs,PyProof.Rows.slot_tuple_getitem.lookup,λq=>PyProof.Rows.getItem_tuple T b.2.1 b.2.2 (by rw[jU];exact Vb p) (by rw[vf];exact d) (q _ s.toks l)⟩
 .obtain⟨a,m,rfl,D,E,r,_⟩:=x.dict ro e;obtain⟨y,d,l⟩:=(Ju E r i).1 v h;exact⟨_,_,D.typeIs,slot_dict_getitem.lookup,λq=>wpAny_getItem_of (El _ _ _ _) D.mapOf d (q _ _ l)⟩
theorem aO.item(x:aO X k Y view P F G ab z A s)(ro:bL X F o u)(ri:bL X F i w)(h:r8 G o i=I v)(q:∀r tk,bL X F v r->Q r {s with toks:=tk}):bW (b6 X.prog X.w) A (subscriptTail value oY u w) Q bO s:=by obtain⟨e,a⟩:=Ek oY u w;obtain⟨T,id,b,c,d⟩:=x.JG ro ri h;exact Em b c (d q) a
theorem VA(ho:bS X k Y view o wo)(hi:bS X k Y view i wi):bS X k Y view (.Subscript o i pos) λz G Q=>wo z G λov G=>wi z G λiv G=>rd ov (r8 G ov iv) λv=>Q v G:=by intro P F G ab z A s Q x f;refine yF (ho.then x f λa u p y B g h j q=>?_);refine hi.then h q λb w C D E c d l q=>?_;obtain⟨v,e,q⟩:=lZ q;exact d.item (bL.bI X c j) l e λr m n=>d9.le (g.t c) (.gA (d.toks m) n q)
theorem VB(h:m7 X k Y view es ws)(hz:es.length<=2*cK):bS X k Y view (.Tuple es n pos) λz G Q=>ws z G λvs G=>Q (.aV vs) G:=by intro P F G ab z A s Q x c;refine Tuple_ (cy (h _ _ _ _ _ _ _ _ _ x c) (λm o d=>?_) λ_ _ e=>e);obtain⟨vs,p,f,g,i,b,a,q⟩:=d;rw[<- a]at hz;clear a;have a:=hz;refine wpAny_newTuple ?_ (by rw[<- b.n X];exact rp a);obtain⟨j,l,y,r⟩:=i.uZ (n:=0) b ai a;exact⟨_,j,f,g.t l,y,r,q⟩
theorem VC(h:m7 X k Y view es ws)(hz:es.length<=2*cK):bS X k Y view (.List es pos) λz G Q=>ws z G λvs G=>Q (.l vs) G:=by intro P F G ab z A s Q x c;refine List_ (cy (h _ _ _ _ _ _ _ _ _ x c) (λm o d=>?_) λ_ _ e=>e);obtain⟨vs,p,f,g,i,b,a,q⟩:=d;rw[<- a]at hz;clear a;have a:=hz;refine JA ?_ (by rw[<- b.n X];exact rp a);obtain⟨j,l,y,r⟩:=i.uZ (n:=0) b ak a;exact⟨_,j,f,g.t l,y,r,q⟩
theorem VD(h:m7 X k Y view es ws)(hz:es.length<=2*cK):bS X k Y view (.List es pos) λz G Q=>ws z G λvs G=>AE (.l vs) G Q:=by intro P F G ab z A s Q x c;refine List_ (cy (h _ _ _ _ _ _ _ _ _ x c) (λm o d=>?_) λ_ _ e=>e);obtain⟨vs,g,p,i,j,b,a,q⟩:=d;rw[<- a]at hz;clear a;have a:=hz;refine JA ?_ (by rw[<- b.n X];exact rp a);obtain⟨f,y⟩:=j.newList (n:=0) b a _ rfl;exact⟨.r _,g,_,i,y,rfl,q _ f⟩
theorem JH:({cls:=.type "dict",data:=.dict #[]}:da).IsDictOf (p9 X.prog X.w) (([]:List Int).zip []):=⟨#[],0,⟨rfl,rfl,rfl⟩,rfl,λe a=>by simp at a,.nil,.nil⟩
theorem VE:bS X k Y view (.Dict [] [] pos) λ_ G Q=>AE (.dk [] []) G Q:=by intro P F G ab z A s Q x c;rw[eval_Dict_empty];refine cG (rq ?_);refine w6 ?_;have b:=x.fresh (a:=s.heap.objs.size) (gB _);have y:=(x.kz (gQ.push s.heap {cls:=.type "dict",data:=.dict #[]})).yv (o:=.dk [] []) b (qd _ rfl) ⟨[],JH,rfl,by simp,rfl⟩;exact⟨.r _,F,_,.r F,y,rfl,c _ b.s⟩
theorem aO.oY(x:aO X k Y view P F G ab z A s){a:aC}{ao ps:List aw}{xs ys:List V}{n:Nat}{vl vu vs:aw}{oe hi b0:Option Int}{value oY:aR}{Q:V->J->Prop}(g:s.heap.get? a=I (kS "list" (p8 ao) n))(hz:xs.length<=2*Tactic.cK)(hx:bE X F xs ao)(hy:bE X F ys ps)(hl:ys.length<=xs.length)(pl:IsPart vl oe)(VF:IsPart vu hi)(lz:IsPart vs b0)(cQ:b0≠I 0)(hp:(ve ao.toArray oe hi b0).toList=ps)(q:Q (.l ys) G):bW (b6 X.prog X.w) A (subscriptTail value oY (.ref a) (.ref s.heap.objs.size)) (d9 X k Y view P F ab z A Q) bO {s with heap:=s.heap.push {cls:=.type "slice",data:=.fields #[vl,vu,vs]}}:=by
 obtain⟨hX,hs⟩:=Ek oY (.ref a) (.ref s.heap.objs.size);have ag:s.heap.IsList a ao.toArray:=⟨_,g,rfl,n,rfl⟩
 have fq:=x.kz (gQ.push s.heap {cls:=.type "slice",data:=.fields #[vl,vu,vs]});refine Em (s:={s with heap:=s.heap.push {cls:=.type "slice",data:=.fields #[vl,vu,vs]}}) (Heap.IsList.typeIs (ag.push _)) slot_list_getitem.lookup (wpAny_getItem_list_slice (ag.push _) (VG ..) pl VF lz cQ ?_ (by rw[jU,<- hx.n X];exact rp hz)) hs;obtain⟨aX,l,y,r⟩:=fq.uZ (n:=0) hy ak (by exact(O [] [_,_,_] (.i (.ag .u (.m 2 .y)) (.i (.ag .x .u) (.ag .x (.m 2 .y))))) hz hl);have e:ve ao.toArray oe hi b0=ps.toArray:=by rw[<- hp]
 rw[e];exact⟨_,aX,G,l,y,r,q⟩
theorem AW{l u b0:Option aR}{p:b3}{Q E:aw->bA->Prop}{M:Model}(h:bW M A (do let l<- JI (evalOpt l ab);let u<- sr [l] (JI (evalOpt u ab));let s<- sr [l,u] (JI (evalOpt b0 ab));newFields "slice" [l,u,s]) Q E s):bW M A (ij (.Slice l u b0 p) ab) Q E s:=h
theorem VH(ho:bS X k Y view o wo)(hl:bS X k Y view l nf)(hu:bS X k Y view u wu):bS X k Y view (.Subscript o (.Slice (I l) (I u) aa p) pos) λz G Q=>wo z G λov G=>nf z G λsG G=>wu z G λuv G=>nY sG uv λa b=>bR (kP ov) λxs=>Q (.l (pW xs (bound a xs.length) (bound b xs.length))) G:=by
 intro P F G ab z A s Q x m;refine yF (ho.then x m λov u K L M v B C q=>AW ?_);refine cG (hl.then B q λsG w N R S g D E q=>?_);refine cG (kh (hu.then D q λuv T U V W d h H q=>?_));refine cG (kh (fH ?_));refine w6 ?_;obtain⟨i,j,rfl,rfl,q⟩:=q9 q;obtain⟨xs,rfl,q⟩:=(oO ov).eF q
 .obtain⟨t,rfl⟩:=bL.bI X d E;obtain⟨Z,rfl⟩:=H;obtain⟨a,ao,n,rfl,e,r,c⟩:=l5 (bL.bI X (g.t d) C);refine cy (h.oY (h.aP.f _ _ e) c r (((r.drop X _).take X _)) (by simp[pW];exact O [] [_,_,_] (.ag (.i (.s .x .y) (.s .u .y)) .u)) (.int _ _) (.int _ _) .none (by simp) (by rw[U6,<- r.n X]) q) (λ_ _ c=>d9.le ((v.t g).t d) c) λ_ _ c=>c
theorem VI(ho:bS X k Y view o wo)(hu:bS X k Y view u wu):bS X k Y view (.Subscript o (.Slice aa (I u) aa p) pos) λz G Q=>wo z G λov G=>wu z G λuv G=>bR (gg uv) λb=>rd ov (ky G ov) λx=>Q (.l (x.take (bound b x.length))) G:=by
 intro P F G ab z A s Q x g;refine yF (ho.then x g λov u B C D h m v q=>AW ?_);refine cG (fH ?_);refine cG (kh (hu.then m q λuv E H K L d f w q=>?_));refine cG (kh (fH ?_));refine w6 ?_;obtain⟨j,rfl,q⟩:=(i7 uv).eF q
 .obtain⟨M,rfl⟩:=w;obtain⟨xs,e,q⟩:=lZ q;obtain⟨a,N,n,rfl,e,r,c⟩:=f.cj (bL.bI X d v) e;refine cy (f.oY e c r (r.take X _) (by simp;exact O [] [_,_] (.ag (.i .x .y) .y)) .none (.int _ _) .none (by simp) (by rw[U7,<- r.n X]) q) (λ_ _ c=>d9.le (h.t d) c) λ_ _ c=>c
theorem VJ(ho:bS X k Y view o wo)(hs:bS X k Y view b0 λ_ G Q=>Q (.i (-1)) G):bS X k Y view (.Subscript o (.Slice aa aa (I b0) p) pos) λz G Q=>wo z G λov G=>rd ov (ky G ov) λx=>Q (.l x.reverse) G:=by intro P F G ab z A s Q x f;refine yF (ho.then x f λov u B g C h j m q=>AW ?_);refine cG (fH ?_);refine cG (kh (fH ?_));refine cG (kh (hs.then (R:=λv G=>v=.i (-1)/\G=g) j ⟨rfl,rfl⟩ λD E H K L c d w y=>?_));obtain⟨rfl,rfl⟩:=y;refine w6 ?_;obtain⟨M,rfl⟩:=w;obtain⟨xs,e,q⟩:=lZ q;obtain⟨a,N,n,rfl,e,r,b⟩:=d.cj (bL.bI X c m) e;exact cy (d.oY e b r (r.reverse X) (by simp) .none .none (.int _ _) (by simp) (by rw[U9]) q) (λ_ _ b=>d9.le (h.t c) b) λ_ _ b=>b
theorem VK(ho:bS X k Y view o wo)(hl:bS X k Y view l nf):bS X k Y view (.Subscript o (.Slice (I l) aa aa p) pos) λz G Q=>wo z G λov G=>nf z G λsG G=>bR (gg sG) λa=>bR (lU ov) λxs=>(1<=a/\a<=xs.length)/\Q (.aV (xs.drop a.toNat)) G:=by
 intro P F G ab z A s Q x D;refine yF (ho.then x D λov u Z cg a7 E H K q=>AW ?_);refine cG (hl.then H q λsG w ik L d h j M q=>?_);refine cG (kh (fH ?_));refine cG (kh (fH ?_));refine w6 ?_;obtain⟨a,rfl,q⟩:=(i7 sG).eF q;obtain⟨xs,rfl,q⟩:=(qS ov).eF q
 .obtain⟨t,rfl⟩:=M;obtain⟨b,v,n,rfl,e,r,B,_⟩:=m8 (bL.bI X h K);obtain⟨⟨g,N⟩,q⟩:=q;obtain⟨m,rfl⟩:∃m:Nat,a=m:=⟨a.toNat,by exact(O [_] [] (.i (.l 1 .x) (.e .x (.c (.af .x))))) g⟩
  obtain⟨hX,R⟩:=Ek (.Slice (I l) aa aa p) (.ref b) (.ref d.heap.objs.size);have T:w5 d.heap b v.toArray:=⟨_,j.aP.f _ _ e,rfl,n,rfl⟩
  have C:w5 (d.heap.push {cls:=.type "slice",data:=.fields #[.int m t,.none,.none]}) b v.toArray:=T.keeps λ_ _ e=>yu _ e;have S:=j.kz (gQ.push d.heap {cls:=.type "slice",data:=.fields #[.int m t,.none,.none]});refine Em (s:={d with heap:=d.heap.push {cls:=.type "slice",data:=.fields #[.int m t,.none,.none]}}) C.typeIs PyProof.Rows.slot_tuple_getitem.lookup
   (getItem_tuple_from C (VG ..) (by exact(O [] [_] (.i (.l 1 (.c .x)) (.ag 1 .x))) g) (by rw[jU,<- r.n X];exact(O [] [_,_] (.i (.l (.c .x) (.c .y)) (.ag .x .y))) N) ?_ (by rw[jU,<- r.n X];exact rp B)) R
  obtain⟨U,V,y,W⟩:=S.uZ (n:=0) (r.drop X m) ai (by simp;exact(O [] [_,_,_] (.i (.ag .x (.m 2 .y)) (.i (.l 1 (.c .u)) (.ag .x (.p (.m 2 .y) .u))))) B g);exact⟨_,U,L,(E.t h).t V,y,W,q⟩
theorem VL(hr:bE X F vs ao)(h:iQ ns vs n=I v):∃u,sD ((ns.map X.aH).zip ao) (X.aH n)=I u/\bL X F v u:=by
 induction ns generalizing vs ao with
 |nil=>simp[iQ]at h
 |cons m ns b=>
  cases vs with
  |nil=>simp[iQ]at h
  |cons a vs=>
   obtain⟨u,ao,rfl,c,d⟩:=hr;have f:iQ (m::ns) (a::vs) n=match ie m n with|true=>I a|false=>iQ ns vs n:=rfl
   have g:sD (((m::ns).map X.aH).zip (u::ao)) (X.aH n)=if X.aH m=X.aH n then I u else sD ((ns.map X.aH).zip ao) (X.aH n):=by
    unfold sD;rw[oV,Jv,Ji];by_cases q:X.aH m=X.aH n
    .rw[if_pos q,decide_eq_true q];rfl
    .rw[if_neg q,decide_eq_false q]
   rw[f]at h;rw[g];by_cases q:m=n
   .subst q;rw[JK]at h;rw[if_pos rfl];cases h;exact⟨_,rfl,c⟩
   .have i:ie m n=false:=by
     cases e:ie m n with
     |true=>exact absurd (yG e) q
     |false=>rfl
    rw[i]at h;rw[if_neg λe=>q (X.inj _ _ e)];exact b d h
theorem VM(ho:bS X k Y view o wo):bS X k Y view (.Subscript o (.Constant (.str (X.aH n)) c p) pos) λz G Q=>wo z G λov G=>bR (DQ ov) λd=>bR (iQ d.1 d.2 n) λv=>Q v G:=by
 intro P F G ab z A s Q x h;refine yF (ho.then x h λov u B C b i j l q=>VN ?_);obtain⟨d,rfl,m⟩:=(RX ov).eF q
 .obtain⟨v,e,q⟩:=lx m;obtain⟨a,ob,E,rfl,f,aF,H,I,r⟩:=l;obtain⟨u,t,y⟩:=VL r e;have g:=j.toks (b.toks+1);have D:({b with toks:=b.toks+1}:bA).heap.DictOf (DU X.prog X.w) a _:=Heap.dictOf_iff.mpr ⟨ob,g.aP.f _ _ f,aF⟩;exact Em D.typeIs PySem.slot_dict_getitem.lookup (wpAny_getItem_of (strKind_is _ _ _ _) D.mapOf t (d9.le i (.gA (g.toks _) y q))) rfl
noncomputable def JL(aH:Nat->bg)(n:Nat)(p:Nat×b3):Expr:=.Constant (.str (aH n)) p.1 p.2
noncomputable def AX(aH:Nat->bg):List Nat->List (Nat×b3)->List (Option aR)
 |[],_=>[]
 |n::ns,ps=>I (JL aH n (ps.headD (0,⟨0,0,0,0⟩)))::AX aH ns ps.tail
noncomputable def AY(ab:b5)(pos:b3)(aH:Nat->bg):List Nat->List (Nat×b3)->List aR->List (Sem aw×Sem aw)
 |[],_,_=>[]
 |n::ns,ps,es=>match es with
  |[]=>[]
  |e::es=>(ij (JL aH n (ps.headD (0,⟨0,0,0,0⟩))) ab,do let x<- ij e ab;vc pos;eJ x)::AY ab pos aH ns ps.tail es
theorem VO(ab:b5)(pos:b3)(aH:Nat->bg):∀(ns:List Nat) (ps:List (Nat×b3)) (es:List aR),(evalEachOpt (AX aH ns ps) ab).zip ((AO es ab).map λv=>do let x<- v;vc pos;eJ x)=(AY ab pos aH ns ps es).map λp=>(I p.1,p.2):=by
 intro a;induction a with
 |nil=>exactλ_ _=>rfl
 |cons n ns b=>
  intro ps;intro c;cases c with
  |nil=>exact rfl
  |cons e es=>exact congrArg (Ej _) (b ps.tail es)
theorem VP(ab:b5)(pos:b3)(aH:Nat->bg):∀(ns:List Nat) (ps:List (Nat×b3)) (es:List aR),(AY ab pos aH ns ps es).length<=es.length:=by
 intro a;induction a with
 |nil=>exactλ_ _=>jW _
 |cons _ ns b=>
  intro ps;intro c;cases c with
  |nil=>exact jW _
  |cons _ es=>exact AZ (b ps.tail es)
inductive VR(X:Cx)(k:Nat)(Y:bN)(view:bV)(e:aR)(R:(ay->J->(List V->J->Prop)->Prop)->Prop)(w:ay->J->(List V->J->Prop)->Prop):Prop
 |mk (we:EW) (ws:ay->J->(List V->J->Prop)->Prop) (h:bS X k Y view e we) (r:R ws) (e:w=λz G Q=>we z G λv G=>ws z G λvs G=>Q (v::vs) G)
noncomputable def A0(X:Cx)(k:Nat)(Y:bN)(view:bV):List aR->(ay->J->(List V->J->Prop)->Prop)->Prop
 |[],w=>w=λ_ G Q=>Q [] G
 |e::es,w=>VR X k Y view e (A0 X k Y view es) w
inductive VS(X:Cx)(k:Nat)(Y:bN)(view:bV)(P F:Kp)(ab:b5)(z:ay)(A:cB)(ns:List Nat)(Q:List V->J->Prop)(ps:List (aw×aw))(aD:bA):Prop
 |mk (vs:List V) (ao:List aw) (aX:Kp) (aS:J) (l:F.le aX) (x:aO X k Y view P aX aS ab z A aD) (r:bE X aX vs ao) (c:Carries (DU X.prog X.w) ps ((ns.map X.aH).zip ao)) (e:ao.length=ns.length) (q:Q vs aS)
theorem VT:∀{es:List aR} {ns:List Nat} {kp:List (Nat×b3)} {ws:ay->J->(List V->J->Prop)->Prop},A0 X k Y view es ws->ns.length=es.length->∀(P F:Kp) (G:J) (ab:b5) (z:ay) (A:cB) (s:bA) (Q:List V->J->Prop),aO X k Y view P F G ab z A s->ws z G Q->bW (b6 X.prog X.w) A (evalPairs (AY ab pos X.aH ns kp es)) (VS X k Y view P F ab z A ns Q) bO s:=by
 intro es;induction es with
 |nil=>
  intro ns kp ws b a P F G ab z A s Q x q;obtain rfl:=b;cases ns with
  |cons=>cases a
  |nil=>exact fH ⟨[],[],F,G,.r F,x,rfl,trivial,rfl,q⟩
 |cons e es d=>
  intro ns kp ws b a P F G ab z A s Q x q;obtain⟨L,M,f,g,rfl⟩:=b;cases ns with
  |nil=>cases a
  |cons n ns=>refine evalPairs_cons (VN ?_);refine cG (f.then (x.toks _) q λv u i j l m o p q=>cG (rq (fH ?_)));exact cy (d g (yH a) P i j ab z A l _ o q) (λN O h=>h.rec λvs y B C c D E H I q=>⟨_,u::y,B,C,m.t c,D,qc (p.bI X c) E,⟨strKind_is _ _ _ _,rfl,H⟩,congrArg (· +1) I,q⟩) λ_ _ K=>K
theorem JM:∀{ns:List bg} {ao:List aw},ao.length=ns.length->(ns.zip ao).map (·.1)=ns
 |[],_,_=>rfl
 |_::_,[],h=>nomatch h
 |n::ns,_::ao,h=>congrArg (n::·) (JM (yH h))
theorem VU(h:A0 X k Y view es ws)(hl:ns.length=es.length)(aF:ns.Nodup)(hz:es.length<=15)(cQ:es≠ []):bS X k Y view (.Dict (AX X.aH ns kp) es pos) λz G Q=>ws z G λvs G=>Q (.mE ns vs) G:=by
 intro P F G ab z A s Q x v;refine wpAny_Dict_pairs (knd:=DU X.prog X.w) (VO ab pos X.aH ns kp es) ?_ (hW (VP ..) hz) ?_
 .cases es with
  |nil=>exact absurd rfl cQ
  |cons e es=>
   cases ns with
   |nil=>cases hl
   |cons n ns=>exactλh=>nomatch h
 .have d:=x.fresh (a:=s.heap.objs.size) (gB _);have B:(s.heap.push {cls:=.type "dict",data:=.dict #[]}).get? s.heap.objs.size=I {cls:=.type "dict",data:=.dict #[]}:=qd _ rfl;have C:=(x.kz (gQ.push s.heap {cls:=.type "dict",data:=.dict #[]})).Vv d B;refine cy (VT h hl _ _ _ _ _ _ _ _ C v) (λD E H=>?_) λ_ _ i=>i;refine cps λG0 c=>?_;obtain⟨vs,j,Z,K,L,M,N,O,l,q⟩:=H;obtain⟨g,f,y⟩:=M.Vw d.p x.eZ d.m;refine c ?_;clear c;have R:(((ns.map X.aH).zip j).map (·.1)).Nodup:=by
   rw[JM (l.trans (cm _).symm)];exact aF.map X.aH λa b S e=>S (X.inj _ _ e)
  refine⟨(ns.map X.aH).zip j,O,⟨_,#[],0,g,⟨rfl,rfl,rfl⟩,rfl,by intro e T;simp at T,.nil,.nil⟩,λbu r U=>?_⟩;rw[merged_nil_of_nodup _ R]at r;refine cps λG0 c=>?_;obtain⟨o,V,W⟩:=Heap.dictOf_iff.mp r;obtain⟨u,i⟩:=(y.AV (t:=E.toks+D.length) f U).sj f V;refine c ?_;clear c;exact⟨.mE ns vs,_,K,L.t u,i,⟨_,o,j,rfl,Kp.lr,W,l,f.m,bE.bI X u N⟩,q⟩
theorem aO.out(x:aO X k Y view P F G ab z A s):∃eU,P.le eU/\Rel X eU F G s/\∀aX aS aD,F.le aX->Rel X eU aX aS aD->aO X k Y view P aX aS ab z A aD:=by
 classical
 let eU:Kp:=λa=>match P a with
  |some o=>I o
  |none=>if ig ab a then s.heap.get? a else aa
 have b:P.le eU:=λa o e=>by show(match P a with|some o=>I o|none=>_)=_;rw[e]
 have own:∀a,ig ab a->eU a=s.heap.get? a:=λa h=>by
  show(match P a with|some o=>I o|none=>_)=_;rw[(x.bZ.apart a h).1];exact if_pos h
 have v:∀a,eU a≠aa->P a≠aa\/ig ab a:=λa h=>by
  cases e:P a with
  |some o=>exact .inl (by simp)
  |none=>
   by_cases q:ig ab a
   .exact .inr q
   .exact absurd (show eU a=aa by show(match P a with|some o=>I o|none=>_)=_;rw[e];exact if_neg q) h
 refine⟨eU,b,⟨λa o e=>?_,x.aP.f,x.aP.fo,λa h=>?_,x.aP.fs,x.aP.sm,x.aP.os,x.aP.gens⟩,λaX aS aD l r=>?_⟩
 .cases q:P a with
  |some d=>
   have:=b a d q;rw[this]at e;cases e;exact x.aP.p _ _ q
  |none=>
   rcases v a (by rw[e];simp)with h|h
   .exact absurd q h
   .rw[own a h]at e;exact e
 .rcases v a h with h|h
  .exact x.aP.pf a h
  .exact(x.bZ.apart a h).2
 .have i:∀a,ig ab a->∀o,s.heap.get? a=I o->aD.heap.get? a=I o:=λa h o e=>r.p a o (by rw[own a h];exact e);have y:∀a,ig ab a->eU a≠none:=λa h=>by
   obtain⟨o,e⟩:=x.bZ.jo a h;rw[own a h,e];simp
  refine⟨x.ok,x.eZ,x.dC.t l,x.gz,x.fa,⟨λa o e=>r.p _ _ (b a o e),r.f,r.fo,λa h=>?_,r.fs,r.sm,r.os,r.gens⟩,⟨?_,λa h=>⟨(x.bZ.apart a h).1,r.pf a (y a h)⟩,λa h=>?_⟩⟩
  .refine r.pf a ?_;cases e:P a with
   |none=>exact absurd e h
   |some o=>rw[b a o e];simp
  .obtain⟨B,w,C⟩:=x.bZ.bZ;refine⟨B,⟨?_,λn D=>?_⟩,C.bI X l⟩
   .obtain⟨m,⟨o,E,H,g,h⟩,j⟩:=w.z;exact⟨m,⟨o,E,H,i _ (.inl rfl) _ g,h⟩,j⟩
   .obtain⟨c,u,j⟩:=w.cell n D;obtain⟨o,g⟩:=x.bZ.jo c (.inr ⟨n,u⟩);refine⟨c,u,?_⟩;obtain⟨d,K,L⟩:=j;exact⟨d,i _ (.inr ⟨n,u⟩) _ K,L⟩
  .obtain⟨o,e⟩:=x.bZ.jo a h;exact⟨o,i a h o e⟩
theorem aO.VW(x:aO X k Y view P F G ab z A s)(rf:bL X F f fw)(rv:bE X F vs ws)(h:aB X k f vs G Q):bW (b6 X.prog X.w) A (l7 fw ws) (d9 X k Y view P F ab z A Q) bO s:=by refine cps λG0 a=>?_;obtain⟨c,l,r,d⟩:=x.out;refine a ?_;clear a;refine wpAny_call (yI (h.2 c F s A fw ws (x.eZ.t l) x.dC x.gz r rf rv) λr m h=>?_);refine cps λG0 a=>?_;obtain⟨u,v,e,g,rfl,b,i,j,q⟩:=h;refine a ?_;clear a;exact⟨v,e,g,b,d _ _ _ b i,j,q⟩
theorem aO.tK(x:aO X k Y view P F G ab z A s)(rf:bL X F f fw)(rv:bE X F vs ws)(h:tK (aB X k) f vs G Q):bW (b6 X.prog X.w) A (l7 fw ws) (d9 X k Y view P F ab z A Q) bO s:=by
 cases f with
 |bC b=>obtain rfl:=rf;exact x.bC rv h
 |L g=>exact x.VW rf rv h
 |_=>exact h.elim
theorem vi:∀{es:List aR} {ab:b5} {pos:b3},(es.all λe=> !iH e)=ai->(n8 pos (kB es ab)).any (·.1)=ak
 |[],_,_,_=>rfl
 |e::es,ab,pos,h=>by
  rw[H7,lR,yK]at h;rw[D5 h.1];exact vi h.2
theorem w7{es:List aR}{pos:b3}{f:aw}{M:Model}{E:aw->bA->Prop}{Q:Args->bA->Prop}(hp:(es.all λe=> !iH e)=ai)(h:bW M A (AL (n8 pos (kB es ab))) (λvs aD=>Q ⟨vs,[]⟩ aD) E s):bW M A (evalArgs f ai (n8 pos (kB es ab)) []) Q E s:=by
 cases es with
 |nil=>skip;skip;refine cG (cy h (λvs aD bu=>cG (fH ?_)) λ_ _ af=>af);refine kh ?_;exact cG (fH (cG (fH (fH bu))))
 |cons e es=>rw[H7,lR,yK]at hp;rw[D5 hp.1]at h⊢;exact Calls.evalArgs_plain h
theorem VX(b:Bi):(∃id,tN b=.builtin id)\/∃T,tN b=.type T:=by cases b<;>first|exact .inl ⟨_,rfl⟩|exact .inr ⟨_,rfl⟩
theorem aO.callWith(x:aO X k Y view P F G ab z A s)(jD:m7 X k Y view es ws)(hp:(es.all λe=> !iH e)=ai)(rf:bL X F f fw)(aQ:bE X F first w8)(h:ws z G λvs G=>Tactic.tK (aB X k) f (first++vs) G Q):bW (b6 X.prog X.w) A (Eo pos fw w8 (n8 pos (kB es ab)) []) (d9 X k Y view P F ab z A Q) bO s:=by
 by_cases hb:∃b,f=.bC b
 .obtain⟨b,rfl⟩:=hb;obtain rfl:=rf;have key:bW (b6 X.prog X.w) A (AL (n8 pos (kB es ab))) (λao a7=>bW (b6 X.prog X.w) A (l7 (tN b) (w8++ao)) (d9 X k Y view P F ab z A Q) bO a7) bO s:=by
   refine cy (jD _ _ _ _ _ _ _ _ _ x h) (λao a7 du=>?_) λ_ _ af=>af;obtain⟨vs,cf,cg,bG,br,bX,_,q⟩:=du;exact cy (br.tK (f:=.bC b) rfl ((bE.bI X bG aQ).append X bX) q) (λ_ _ af=>d9.le bG af) λ_ _ af=>af
  have pl:=vi (ab:=ab) (pos:=pos) hp;rcases VX b with⟨id,e⟩|⟨T,e⟩
  .rw[e]at key⊢;exact VY pl (w7 hp key)
  .rw[e]at key⊢;exact JN pl (w7 hp key)
 .have key:bW (b6 X.prog X.w) A (AL (n8 pos (kB es ab))) (λao a7=>(X.K.In a7.heap/\wO X.K fw=ai)/\bW (b6 X.prog X.w) A (l7 fw (w8++ao)) (d9 X k Y view P F ab z A Q) bO a7) bO s:=by
   refine cy (jD _ _ _ _ _ _ _ _ _ x h) (λao a7 du=>?_) λ_ _ af=>af;obtain⟨vs,cf,cg,bG,br,bX,_,q⟩:=du;refine⟨⟨br.n6,?_⟩,cy (br.tK (rf.bI X bG) ((bE.bI X bG aQ).append X bX) q) (λ_ _ af=>d9.le bG af) λ_ _ af=>af⟩;cases f with
   |L g=>obtain⟨rfl,_⟩:=rf;exact q.1
   |bC b=>exact absurd ⟨b,rfl⟩ hb
   |_=>exact q.elim
  exact callWith_of (P:=λh=>X.K.In h/\wO X.K fw=ai) (by rw[vi hp];rfl) (λh hh=>keeps_K hh.2 h hh.1) (w7 hp key)
noncomputable def vj:aR->Bool
 |.Attribute .. =>ai
 |_=>ak
theorem VZ(aT:bS X k Y view f JO)(ha:vj f=ak)(jD:m7 X k Y view es ws)(hp:(es.all λe=> !iH e)=ai):bS X k Y view (.Call f es [] pos) λz G Q=>JO z G λfv G=>ws z G λvs G=>tK (aB X k) fv vs G Q:=by intro P F G ab z A s Q x b;refine Call_ (aT.then x b λfv h i j l c d g q=>?_) (by cases f<;>first|rfl|cases ha);exact cy (d.callWith (first:=[]) (w8:=[]) jD hp g rfl q) (λ_ _ a=>d9.le c a) λ_ _ a=>a
theorem A1{o:aR}{name:bg}{lB pos:b3}{es:List aR}{M:Model}{Q E:aw->bA->Prop}(hb:sA o=ak)(hp:(es.all λe=> !iH e)=ai)(hn:es.length<30)(hl:(lB.endLine==pos.line)=ai)(h:bW M A (ij o ab) (λov a7=>bW M A (getMethod ov name (do return(<- importBound o ab).getD ai)) (λfx cN=>bW M A (Eo pos fx.1 fx.2 (n8 pos (kB es ab)) []) Q E cN) E a7) E s):bW M A (ij (.Call (.Attribute o name lB) es [] pos) ab) Q E s:=by
 have e:ij (.Call (.Attribute o name lB) es [] pos) ab=(do
  let ov<- AQ o name ab (ij o ab)
  vc lB.atName
  methodCall o name lB pos ab ov (es.length+0) (n8 pos (kB es ab)) []):=rfl
 rw[e,Jn hb];refine cG (cy h (λov a7 du=>cG (rq ?_)) λ_ _ af=>af);have V0:methodCallForm (es.length+0) (n8 pos (kB es ab)) []=true:=by
  unfold methodCallForm;have:(n8 pos (kB es ab)).all (λx=> !x.1)=true:=by have:=vi (ab:=ab) (pos:=pos) hp;rw[Uk];rw[V1]at this;intro y hy;simpa using this y hy
  rw[this];have hn:es.length<30:=by simpa using hn
  simp;exact hn
 unfold methodCall;rw[V0];refine cG (kh ?_);unfold calleeOf;rw[if_pos rfl];refine cy du (λfx cN jq=>?_) λ_ _ af=>af;unfold methodCallPos;rw[hl];refine cG (fH ?_);exact jq
theorem A2(h:uU b m=I f):b=ak/\m=I f:=by
 cases b with
 |true=>cases h
 |false=>exact⟨rfl,h⟩
inductive V2(T:c9)(G:J)(o:V)(n:Nat)(f:aC):Prop
 |eS (a C:aC) (ns:List Nat) (vs:List V) (e:o=.eS a C ns vs) (h:uU (mY ns n) (T.iD C n)=I f)
 |obj (a C dx:aC) (d:List Nat×List V) (e:o=.o a C dx) (aT:nW (G dx)=I d) (h:uU (mY d.1 n) (T.iD C n)=I f)
theorem V3(T:c9)(G:J)(o:V)(n:Nat):(AB T G o n).elim True λf=>V2 T G o n f:=by
 cases o<;>first|exact True.intro|exact qh λv h=>.eS _ _ _ _ rfl h|skip
 exact qh λv h=>have⟨f,a,h⟩:=Option.bind_eq_some_iff.mp h; .obj _ _ _ f rfl a h
theorem V4(ho:bS X k Y view o wo)(hb:sA o=ak)(jD:m7 X k Y view es ws)(hp:(es.all λe=> !iH e)=ai)(hn:es.length<30)(hl:(lB.endLine==pos.line)=ai):bS X k Y view (.Call (.Attribute o (X.aH n) lB) es [] pos) λz G Q=>wo z G λov G=>rd ov (AB X.a8 G ov n) λf=>ws z G λvs G=>aB X k (.L (.ref f)) (ov::vs) G Q:=by
 intro P F G ab z A s Q x v;refine A1 hb hp hn hl (ho.then x v λov u K y B D b c q=>?_);obtain⟨f,e,q⟩:=lZ q;have t:∀a,u=.ref a->bW (b6 X.prog X.w) A (Eo pos (.ref f) [.ref a] (n8 pos (kB es ab)) []) (d9 X k Y view P F ab z A Q) bO B:=λa e=>by
  subst e;exact cy (b.callWith (f:=.L (.ref f)) (first:=[ov]) (w8:=[.ref a]) jD hp ⟨rfl,rfl⟩ (bE.uY X c) q) (λ_ _ g=>d9.le D g) λ_ _ g=>g
 have k:=V3 X.a8 y ov n;rw[e]at k;clear e;rcases k with⟨a,C,ns,vs,rfl,h⟩|⟨a,C,E,d,rfl,H,h⟩
 .obtain⟨rfl,i,E,I,m,j,l,p,r⟩:=c;exact b.Jm i (b.aP.f _ _ j) (b.aP.f _ _ l) p r (A2 h).1 (A2 h).2 (t _ rfl)
 .obtain⟨rfl,i,j⟩:=c;obtain⟨ob,l,I,m,rfl,p,r⟩:=b.aP.fo _ _ ((yg _).eq H);exact b.Jm i (b.aP.f _ _ j) l p r (A2 h).1 (A2 h).2 (t _ rfl)
theorem V5(h:AD G v):∃ks vs,tI G v=I (ks,vs):=by
 cases v<;>first|exact h.elim|exact⟨_,_,rfl⟩|skip
 obtain⟨d,e⟩:=Option.isSome_iff_exists.mp h;exact⟨d.1,d.2,e⟩
theorem JP(hl:ao.length=ks.length)(hr:bE X F vs ao)(i:Int)(rd:bL X F d dw):bL X F ((iR ks vs i).getD d) ((sD (ks.zip ao) i).getD dw):=by
 obtain⟨a,b⟩:=Ju hl hr i;cases e:iR ks vs i with
 |none=>rw[b e];exact rd
 |some v=>obtain⟨u,c,f⟩:=a v e;rw[c];exact f
theorem aO.r5(x:aO X k Y view P F G ab z A s)(ro:bL X F o u)(rv:bE X F vs ao)(h:wJ G o vs λv=>Q v G):bW (b6 X.prog X.w) A (l7 (.builtin "dict.get") (u::ao)) (d9 X k Y view P F ab z A Q) bO s:=by
 refine cps λG0 b=>?_;obtain⟨⟨j,l⟩,e,q⟩:=lZ h.ok;obtain⟨a,ws,rfl,D,f,r,aH⟩:=x.dict ro e;refine b ?_;clear b;have g:(a==q6)=false:=by simpa using aH
 cases c:mG vs with
 |some v=>rw[c]at q;refine cps λG0 b=>?_;obtain⟨v,m,rfl,rv,q⟩:=od rv (Q:=λk=>bR (gg k) λk=>Q ((iR j l k).getD .n) G) (by rw[c];exact q);obtain⟨i,rfl,q⟩:=(i7 v).eF q;obtain⟨t,rfl⟩:=rv;refine b ?_;clear b;refine call_meetsIn JQ D.typeIs V6 (PySem.F.args_dict_get_2 _ _) (meets_dict_get (p9 X.prog X.w) a (El _ _ _ _) g) ⟨_,D.mapOf,?_⟩;exact d9.gA (x.toks _) (JP f r i IQ) q
 |none=>rw[c]at q;refine cps λG0 b=>?_;obtain⟨v,d,m,p,rfl,rv,rd,q⟩:=yE rv q;obtain⟨i,rfl,q⟩:=(i7 v).eF q;obtain⟨t,rfl⟩:=rv;refine b ?_;clear b;refine call_meetsIn JQ D.typeIs V6 (PySem.F.args_dict_get_3 _ _ _) (meets_dict_get_default (p9 X.prog X.w) a (El _ _ _ _) g _) ⟨_,D.mapOf,?_⟩;exact d9.gA (x.toks _) (JP f r i rd) q
theorem aO.Ep(x:aO X k Y view P F G ab z A s){es:List aR}{ws:ay->J->(List V->J->Prop)->Prop}{ov:V}{u:aw}{id:String}{pos:b3}{Q:V->J->Prop}{R:List V->J->Prop}(jD:m7 X k Y view es ws)(hp:(es.all λe=> !iH e)=ai)(r:bL X F ov u)(h:ws z G R)(hq:∀vs ao cf cg a7,F.le cf->aO X k Y view P cf cg ab z A a7->bL X cf ov u->bE X cf vs ao->R vs cg->bW (b6 X.prog X.w) A (l7 (.builtin id) (u::ao)) (d9 X k Y view P F ab z A Q) bO a7):bW (b6 X.prog X.w) A (Eo pos (.builtin id) [u] (n8 pos (kB es ab)) []) (d9 X k Y view P F ab z A Q) bO s:=by refine VY (vi hp) (w7 hp ?_);refine cy (jD _ _ _ _ _ _ _ _ _ x h) (λao a7 du=>?_) λ_ _ af=>af;obtain⟨vs,cf,cg,bG,br,bX,_,q⟩:=du;exact hq vs ao cf cg a7 bG br (r.bI X bG) bX q
theorem V7{o:aR}{es:List aR}{wo:EW}{ws:ay->J->(List V->J->Prop)->Prop}{lB pos:b3}(ho:bS X k Y view o wo)(hb:sA o=ak)(jD:m7 X k Y view es ws)(hp:(es.all λe=> !iH e)=ai)(hn:es.length<30)(hl:(lB.endLine==pos.line)=ai):bS X k Y view (.Call (.Attribute o ("get":bg) lB) es [] pos) λz G Q=>wo z G λov G=>AD G ov/\ws z G λvs G=>wJ G ov vs λv=>Q v G:=by intro P F G ab z A s Q x aj;refine A1 hb hp hn hl (ho.then x aj λov u cf cg a7 bG br bX q=>?_);refine cps λG0 g0=>?_;obtain⟨aF,q⟩:=q;obtain⟨ks,vs,e⟩:=V5 aF;obtain⟨a,u6,rfl,D,n9,r,aH⟩:=br.dict bX e;refine g0 ?_;clear g0;refine V8 D.typeIs PySem.F.plainAttrs_dict JQ PySem.F.type_dict_get D.mapOf.noDict ?_;exact cy (br.Ep jD hp bX q λvs ao ik i8 cN dP df iT rv q=>cy (df.r5 iT rv q) (λ_ _ af=>d9.le dP af) λ_ _ af=>af) (λ_ _ af=>d9.le bG af) λ_ _ af=>af
theorem JR(h:uV z o=I a):dO z o=I (.r a):=by obtain⟨v,e,h⟩:=Option.bind_eq_some_iff.mp h;rw[e,(yd v).eq h]
theorem JS(h:wI z G o):∃a xs,uV z o=I a/\G a=I (.l xs):=by obtain⟨a,e,h⟩:=lx h;obtain⟨xs,h⟩:=Option.isSome_iff_exists.mp h;exact⟨a,xs,e,(yf _).eq h⟩
theorem V9{i:Nat}{n:bg}{e:aR}{w:EW}{yL lB pos:b3}(hv:bS X k Y view (.Name n yL) λz G Q=>bR (dO z i) λv=>Q v G)(ba:bS X k Y view e w)(gC:iH e=ak)(hl:(lB.endLine==pos.line)=ai):bS X k Y view (.Call (.Attribute (.Name n yL) ("append":bg) lB) [e] [] pos) λz G Q=>wI z G i/\w z G λv G=>bR (uV z i) λa=>Rd (ky G (.r a)) λxs=>nX (xs.length+1)/\Q .n (G.s a (.l (xs++[v]))):=by
 intro P F G ab z A s Q x aj;refine cps λG0 g0=>?_;obtain⟨cQ,aj⟩:=aj;obtain⟨a,xs,e1,e2⟩:=JS cQ;refine g0 ?_;clear g0;have jD:=tQ ba u0 gC;have hp:([e].all λe=> !iH e)=true:=by simp[gC]
 refine A1 rfl hp (by simp) hl (hv.then (R:=λv aS=>v=.r a/\aS=G) x (by rw[JR e1];exact⟨rfl,rfl⟩) λov u cf cg a7 bG br bX q=>?_);refine cps λG0 g0=>?_;obtain⟨rfl,rfl⟩:=q;obtain rfl:=bX;obtain⟨ob,g,ao,m,rfl,r,af⟩:=br.aP.fo _ _ e2;refine g0 ?_;clear g0;refine getMethod_list_append g rfl rfl ?_;refine cy (br.Ep (ov:=.r a) (R:=λvs G=>bR (mG vs) λv=>Rd (ky G (.r a)) λxs=>nX (xs.length+1)/\Q .n (G.s a (.l (xs++[v])))) jD hp rfl (by rw[e1]at aj;exact aj) λvs ao ik i8 cN dP df iT rv q=>?_) (λ_ _ af=>d9.le bG af) λ_ _ af=>af;refine cps λG0 g0=>?_;obtain⟨v,u,rfl,ru,q⟩:=od rv q;refine g0 ?_;clear g0
 .skip;refine cps λG0 g0=>?_;obtain⟨ys,hs,q⟩:=tP q;refine g0 ?_;clear g0;have hs:=DZ hs
  .obtain⟨ob,g,ao,m,rfl,r,af⟩:=df.aP.fo _ _ hs;refine append_at g (λbu hb hg=>?_) (by rw[jU,<- r.n X];exact rp af);have hr:2*cK=200000:=rfl;refine⟨.n,ik,_,dP,df.update (hV:=.l (ys++[v])) (t:=cN.toks) hs hb hg ⟨ao++[u],_,by simp;rfl,r.append X (bE.uY X ru),by have:=q.1.le;simp;exact(O [] [_,_] (.i (.ag .x (.m 2 .y)) (.i (.E (.m 2 .y) 200000) (.i (.ag (.p .x 1) .y) (.ag (.p .x 1) (.m 2 .y)))))) af hr this⟩,rfl,q.2⟩
theorem Wa{i:Nat}{n:bg}{e:aR}{w:EW}{yL lB pos:b3}(hv:bS X k Y view (.Name n yL) λz G Q=>bR (dO z i) λv=>Q v G)(ba:bS X k Y view e w)(gC:iH e=ak)(hl:(lB.endLine==pos.line)=ai):bS X k Y view (.Call (.Attribute (.Name n yL) ("extend":bg) lB) [e] [] pos) λz G Q=>wI z G i/\w z G λv G=>bR (uV z i) λa=>Rd (ky G (.r a)) λxs=>rd v (ky G v) λys=>nX (xs.length+ys.length)/\Q .n (G.s a (.l (xs++ys))):=by
 intro P F G ab z A s Q x aj;refine cps λG0 g0=>?_;obtain⟨cQ,aj⟩:=aj;obtain⟨a,xs,e1,e2⟩:=JS cQ;refine g0 ?_;clear g0;have jD:=tQ ba u0 gC;have hp:([e].all λe=> !iH e)=true:=by simp[gC]
 refine A1 rfl hp (by simp) hl (hv.then (R:=λv aS=>v=.r a/\aS=G) x (by rw[JR e1];exact⟨rfl,rfl⟩) λov u cf cg a7 bG br bX q=>?_);refine cps λG0 g0=>?_;obtain⟨rfl,rfl⟩:=q;obtain rfl:=bX;obtain⟨ob,g,ao,m,rfl,r,af⟩:=br.aP.fo _ _ e2;refine g0 ?_;clear g0;refine V8 (T:="list") ⟨_,g,rfl⟩ PySem.F.plainAttrs_list Wb PySem.F.type_list_extend (λb e=>by cases e;exact⟨_,g,rfl⟩) ?_;refine cy (br.Ep (ov:=.r a) (R:=λvs G=>bR (mG vs) λv=>Rd (ky G (.r a)) λxs=>rd v (ky G v) λys=>nX (xs.length+ys.length)/\Q .n (G.s a (.l (xs++ys)))) jD hp rfl (by rw[e1]at aj;exact aj) λvs ao ik i8 cN dP df iT rv q=>?_) (λ_ _ af=>d9.le bG af) λ_ _ af=>af;refine cps λG0 g0=>?_;obtain⟨v,u,rfl,ru,q⟩:=od rv q;refine g0 ?_;clear g0
 .skip;refine cps λG0 g0=>?_;obtain⟨ys,hs,q⟩:=tP q;refine g0 ?_;clear g0;have hs:=DZ hs
  .obtain⟨A3,ez,q⟩:=lZ q;refine cps λG0 g0=>?_;obtain⟨ob,g,ao,m,rfl,r,af⟩:=df.aP.fo _ _ hs;obtain⟨b,bs,ki,rfl,gR,dG,wY⟩:=df.cj ru ez;refine g0 ?_;clear g0;have hr:2*cK=200000:=rfl;have ji:ao.toArray.size+bs.toArray.size<=sizeLine:=by
    rw[jU,jU,<- r.n X,<- dG.n X];exact hW (by have:=q.1.le;exact(O [] [_,_,_] (.i (.E (.m 2 .u) 200000) (.i (.ag (.p .x .y) .u) (.ag (.p .x .y) (.m 2 .u))))) hr this) AM
   refine call_meets Wb ⟨_,g,rfl⟩ PySem.F.entry_list_extend (PySem.F.args_list_extend_2 _ _) (AutoSeq1.list_extend_list_list_0 a ao.toArray m b bs.toArray ki (extend_door ji) (by exact(O [] [_,_,_] (.i (.ag (.p .x .u) .y) (.ag .x .y))) ji)) ⟨g,gR,?_⟩;have ho:(cN.heap.update a (Obj.mapSeq λx=>x++bs.toArray)).get? a=I (kS "list" (ao++bs).toArray (if(ao.toArray++bs.toArray).size==ao.toArray.size then m else m+1)):=by rw[Jk _ g (by rw[mapSeq_app];rfl),mapSeq_app];simp
   refine⟨.n,ik,_,dP,df.update (hV:=.l (ys++A3)) (t:=cN.toks) hs (Jl ..) ho ⟨ao++bs,_,rfl,r.append X dG,by have:=q.1.le;simp;exact(O [] [_,_,_] (.i (.E (.m 2 .u) 200000) (.i (.ag (.p .x .y) .u) (.ag (.p .x .y) (.m 2 .u))))) hr this⟩,rfl,q.2⟩
theorem Wc:bS X k Y view (.Dict [] [] pos) λ_ G Q=>Q (.dk [] []) G:=by intro P F G ab z A s Q x c;rw[eval_Dict_empty];refine cG (rq ?_);refine w6 ?_;have b:=x.fresh (a:=s.heap.objs.size) (gB _);obtain⟨l,y⟩:=(x.kz (gQ.push s.heap {cls:=.type "dict",data:=.dict #[]})).sj b (qd _ rfl);exact⟨.dk [] [],_,_,l,y,⟨_,_,[],rfl,Kp.lr,JH,rfl,b.m,rfl⟩,c⟩
theorem aO.pY(x:aO X k Y view P F G ab z A s)(ru:bL X F v u)(h:rd v (listOf G v) λxs=>wK m xs G Q):bW (b6 X.prog X.w) A (l7 (.type "list") [u]) (d9 X k Y view P F ab z A Q) bO s:=by
 obtain⟨xs,e,q⟩:=lZ h;obtain⟨a,ws,n,T,rfl,g,hT,b,c,_⟩:=x.items ru e;refine call_list_seq (it:=a) (hT:=hT) g (by rcases hT with rfl|rfl<;>rfl) rfl (λp f t i=>?_) (by rw[jU,<- b.n X];exact rp c);have d:=x.fresh (a:=s.heap.objs.size) (gB _);have j:=x.kz (h:=p) t;cases m with
 |true=>exact⟨.r _,F,_,.r F,j.yv (o:=.l xs) d i ⟨ws,f,rfl,b,c⟩,rfl,q _ d.s⟩
 |false=>obtain⟨l,y⟩:=j.sj d i;exact⟨.l xs,_,G,l,y,⟨_,ws,f,rfl,Kp.lr,bE.bI X l b,c⟩,q⟩
theorem Wd(aT:bS X k Y view f λ_ G Q=>Q (.bC .l) G)(ha:vj f=ak)(ba:bS X k Y view e w)(gC:iH e=ak):bS X k Y view (.Call f [e] [] pos) λz G Q=>w z G λv G=>rd v (listOf G v) λxs=>wK m xs G Q:=by
 intro P F G ab z A s Q x c;have d:=tQ ba u0 gC;have b:([e].all λe=> !iH e)=true:=by simp[gC]
 refine Call_ (aT.then (R:=λv g=>v=.bC .l/\g=G) x ⟨rfl,rfl⟩ λC D E H I i j n q=>?_) (by cases f<;>first|rfl|cases ha);obtain⟨rfl,rfl⟩:=q;obtain rfl:=n;refine JN (T:="list") (vi b) (w7 b ?_);refine cy (d _ _ _ _ _ _ _ _ (λvs G=>∃v,vs=[v]/\rd v (listOf G v) λxs=>wK m xs G Q) j ?_) (λK L o=>?_) λ_ _ a=>a
 .refine cast ?_ c;congr 1;funext v G;refine propext ⟨λh=>⟨v,rfl,h⟩,λh=>?_⟩;obtain⟨M,e,h⟩:=h;cases e;exact h
 .obtain⟨vs,N,O,p,r,y,_,v,rfl,q⟩:=o;obtain⟨u,S,rfl,B,rfl⟩:=y;exact cy (r.pY B q) (λ_ _ a=>d9.le (i.t p) a) λ_ _ a=>a
theorem We(h:m7 X k Y view es ws)(hz:es.length<=2*cK):bS X k Y view (.List es pos) λz G Q=>ws z G λvs G=>wK m vs G Q:=by
 cases m with
 |true=>exact VD h hz
 |false=>exact VC h hz
theorem Wf:bS X k Y view (.Dict [] [] pos) λ_ G Q=>IA m G Q:=by
 cases m with
 |true=>exact VE
 |false=>exact Wc
def Wg(X:Cx)(F:Kp):Fl->Flow->Prop
 |.n,f=>f=.next
 |.c,f=>f=.cont
 |.r v,f=>∃u,f=.ret u/\bL X F v u
inductive sJ(X:Cx)(k:Nat)(Y:bN)(view:bV)(P F:Kp)(ab:b5)(A:cB)(Q:Fl->ay->J->Prop)(f:Flow)(aD:bA):Prop
 |mk (fl:Fl) (ec:ay) (aX:Kp) (aS:J) (l:F.le aX) (x:aO X k Y view P aX aS ab ec A aD) (r:Wg X aX fl f) (q:Q fl ec aS)
def kW(X:Cx)(k:Nat)(Y:bN)(view:bV)(b:gL)(w:SW):Prop:=
 ∀(P F:Kp) (G:J) (ab:b5) (z:ay) (A:cB) (s:bA) (Q:Fl->ay->J->Prop),aO X k Y view P F G ab z A s->w z G Q->
  bW (b6 X.prog X.w) A (exec b ab) (sJ X k Y view P F ab A Q) bO s
def rA(X:Cx)(k:Nat)(Y:bN)(view:bV)(b:List gL)(w:SW):Prop:=
 ∀(P F:Kp) (G:J) (ab:b5) (z:ay) (A:cB) (s:bA) (Q:Fl->ay->J->Prop),aO X k Y view P F G ab z A s->w z G Q->
  bW (b6 X.prog X.w) A (execs b ab) (sJ X k Y view P F ab A Q) bO s
def J.le(ae G:J):Prop:=∀a o,ae a=I o->G a=I o
theorem J.le.r(G:J):G.le G:=λ_ _ e=>e
theorem Rel.yM(x:Rel X P F G s)(l:ae.le G):Rel X P F ae s:=by
 have b:∀a,G a=aa->ae a=none:=λa e=>by
  cases q:ae a with
  |none=>rfl
  |some o=>rw[l a o q]at e;cases e
 exact⟨x.p,x.f,λa o e=>x.fo a o (l a o e),λa h=>⟨(x.pf a h).1,b a (x.pf a h).2⟩,λa h=>b a (x.fs a h),b _ x.sm,x.os,x.gens⟩
noncomputable def JT:Fl->V
 |.r v=>v
 |_=>.n
noncomputable def oZ(vs:List V)(n:Nat):ay:=vs.map I++JU n aa
noncomputable def A4(view:bV)(ps:List bg):Bool:=view.all λx=>match ps[x.1]? with
 |some p=>p==x.2
 |none=>ai
structure Er(X:Cx)(f:aC)(ps:List bg)(il:List V)(Y:bN)(body:List gL):Prop where
 hO:wO X.K (.ref f)=ai
 obj:∃o fd c oc vs t w9,X.eZ f=I o/\o.data=.func fd/\fd.scope=Y/\fd.body=.stmts body/\fd.globals=n7/\fd.builtins=q7/\fd.closure=[]/\
  fd.code=.ref c/\X.eZ c=I oc/\oc.data=.fields vs/\vs[1]?=I (.str fd.qualname t)/\bE X X.dC il w9/\
  ((Y.names.all λx=>x.2 !=.cell)=ai\/∀ws,ws.length=ps.length->bindArgs fd ⟨ws,[]⟩=eJ (ps.zip ws))/\
  (∀(s:bA) ws,X.eZ.In s.heap->X.dC.In s.heap->ws.length+il.length=ps.length->BindsTo s fd ⟨ws,[]⟩ (ps.zip (ws++w9)))
 kind:Y.kind=.function
 JV:Y.isCoroutine=ak
 JW:Y.isGenerator=ak
 names:∀p∈ps,Y.names.lookup p=I .local\/Y.names.lookup p=I .cell
theorem JX:∀{vs:List V} {n i:Nat} {v:V},dO (oZ vs n) i=I v->vs[i]?=I v:=by
 intro b;induction b with
 |nil=>
  intro n i v h;have:∀(m i:Nat),dO (JU m aa) i=none:=λm=>by
   induction m with
   |zero=>intro i;rfl
   |succ m a=>intro i;cases i with
    |zero=>rfl
    |succ i=>exact a i
  have e:dO (oZ [] n) i=dO (JU n aa) i:=by simp[oZ]
  rw[e,this]at h;cases h
 |cons w vs a=>
  intro n;intro c;cases c with
  |zero=>
   intro v h;have:dO (oZ (w::vs) n) 0=I w:=rfl;rw[this]at h;cases h;rfl
  |succ i=>intro v h;have e:dO (oZ (w::vs) n) (i+1)=dO (oZ vs n) i:=rfl;rw[e]at h;simpa using a h
theorem JY:∀{ps:List bg} {ws:List aw} {i:Nat} {p:bg} {u:aw},ps.Nodup->ps[i]?=I p->ws[i]?=I u->(ps.zip ws).reverse.lookup p=I u:=by
 intro ps ws i p u aF a d;have f:(p,u)∈(ps.zip ws).reverse:=by rw[Wh];refine fJ (i:=i) ?_;rw[Eg];exact⟨a,d⟩
 have g:∀b,(p,b)∈(ps.zip ws).reverse->b=u:=λb h=>by
  rw[Wh]at h;obtain⟨j,c⟩:=Wi h;rw[Eg]at c;have:i=j:=by
   have t:=List.getElem?_eq_some_iff.mp a;have v:=List.getElem?_eq_some_iff.mp c.1;obtain⟨m,n⟩:=t;obtain⟨o,r⟩:=v;have a:=List.pairwise_iff_getElem.mp aF;rcases Wj i j with h|h|h
   .exact absurd (n.trans r.symm) (a i j m o h)
   .exact h
   .exact absurd (r.trans n.symm) (a j i o m h)
  subst this;rw[d]at c;exact(xa c.2).symm
 generalize(ps.zip ws).reverse=l at f g;clear a d aF;induction l with
 |nil=>cases f
 |cons x l y=>
  obtain⟨q,w⟩:=x;rw[rB];by_cases e:p=q
  .subst e;rw[beq_self_eq_true];exact congrArg I (g w (.head _))
  .have:(p==q)=false:=by simpa using e
   rw[this];refine y ?_ λb h=>g b (.tail _ h);cases f with
   |head=>exact absurd rfl e
   |tail _ h=>exact h
theorem Wk(kindOf:bg->Option ni)(y:bg):∀(b:List (bg×aw)) (m:bg->Option aw),kindOf y=I .local->bindL kindOf b m y=(b.reverse.lookup y).or (m y):=by
 intro a;induction a with
 |nil=>intro m _;simp[bindL]
 |cons c r d=>
  obtain⟨n,v⟩:=c;intro m h;show bindL kindOf r _ y=_;rw[d _ h,wR,Wl];by_cases e:y=n
  .subst e;rw[if_pos h];simp[rB]
  .have f:(y==n)=false:=by simpa using e
   have:(if kindOf n=I .local thenλy=>if y=n then I v else m y else m) y=m y:=by split<;>simp[e]
   rw[this];simp[rB,f]
theorem Wm(kindOf:bg->Option ni)(y:bg):∀(b:List (bg×aw)) (m:bg->Option aw),kindOf y≠I .local->bindC kindOf b m y=(b.reverse.lookup y).or (m y):=by
 intro a;induction a with
 |nil=>intro m _;simp[bindC]
 |cons c r d=>
  obtain⟨n,v⟩:=c;intro m h;show bindC kindOf r _ y=_;rw[d _ h,wR,Wl];by_cases e:y=n
  .subst e;rw[if_neg h];simp[rB]
  .have f:(y==n)=false:=by simpa using e
   have:(if kindOf n=I .local then m elseλy=>if y=n then I v else m y) y=m y:=by split<;>simp[e]
   rw[this];simp[rB,f]
theorem q8.deeper(h:q8 (k+1) A)(ab:b5):q8 k (A.deeper ab):=by
 obtain⟨a,b,c⟩:=h;refine⟨a,?_,?_⟩
 .show A.depth+1+4*k<=900;exact(O [] [_,_] (.i (.ag (.p .x (.m 4 (.p .y 1))) 900) (.ag (.p (.p .x 1) (.m 4 .y)) 900))) b
 .show A.units+3+40*k<=9000;exact(O [] [_,_] (.i (.ag (.p .x (.m 40 (.p .y 1))) 9000) (.ag (.p (.p .x 3) (.m 40 .y)) 9000))) c
theorem aO.Wn(ok:X.OK)(hb:X.eZ.le P)(aT:X.dC.le F)(ha:q8 k A)(r:Rel X P F G s)(rv:bE X F vs ws)(jG:fd.scope=Y)(hg:fd.globals=n7)(xb:fd.builtins=q7)(hc:fd.closure=[])(hk:Y.kind=.function)(hv:A4 view ps=ai)(aF:ps.Nodup)(hn:ws.length=ps.length)(sL:A5.Ns s.heap.objs.size (λx=>(ps.zip ws).reverse.lookup x))(hO:∀b o,s.heap.get? b=I o->A5.get? b=I o)(A6:∀n,Y.names.lookup n≠I .cell/\Y.names.lookup n≠I .free):aO X k Y view P F G (A7 fd s.heap.objs.size f) (oZ vs gE) A {s with heap:=A5,toks:=t}:=by
 have m:∀{b o},s.heap.get? b=I o->b≠s.heap.objs.size:=λe q=>absurd (kT (q▸e)) (A8 _);have cells:(A7 fd s.heap.objs.size f).cells=[]:=by show fd.closure=[];exact hc
 have own:∀a,ig (A7 fd s.heap.objs.size f) a->a=s.heap.objs.size:=λa h=>by
  rcases h with h|⟨n,h⟩
  .exact h
  .rw[cells]at h;cases h
 refine⟨ok,hb,aT,ha,⟨jG,hk,hg,xb,?_,λn N c h=>(by rw[cells]at h;cases h),λn c h=>(by rw[cells]at h;cases h)⟩,r.keeps hO rfl rfl,⟨⟨λx=>(ps.zip ws).reverse.lookup x,⟨⟨_,sL,λn _=>rfl⟩,λn h=>?_⟩,λi x v w B=>?_⟩,λa h=>?_,λa h=>?_⟩⟩
 .show(fd.scope.kind==.module&&_)=ak;rw[jG,hk];rfl
 .have e:(A7 fd s.heap.objs.size f).kindOf n=Y.names.lookup n:=by unfold IU;rw[show(A7 fd s.heap.objs.size f).scope=Y from jG]
  rw[e]at h;exact absurd h (λh=>h.elim (A6 n).1 (A6 n).2)
 .have C:=JX B;obtain⟨u,l,D⟩:=rv.at X C;have H:ps[i]?=I x:=by
   have d:=List.all_eq_true.mp hv _ w;simp only at d;cases e:ps[i]? with
   |none=>have K:=List.getElem?_eq_none_iff.mp e;have L:=(List.getElem?_eq_some_iff.mp l).1;exact tT ((O [] [_,_,_] (.i (.E .y .u) (.i (.ag .u .x) (.i (.U .x .y) .o)))) hn K L)
   |some p=>rw[e]at d;simp only[beq_iff_eq]at d;rw[d]
  exact⟨u,JY aF H l,D⟩
 .have j:=own a h;subst j;have bO:∀{o:da},s.heap.get? s.heap.objs.size≠I o:=λe=>absurd (kT e) (A8 _);refine⟨?_,?_,?_⟩
  .cases e:P s.heap.objs.size with
   |none=>rfl
   |some o=>exact absurd (r.p _ _ e) bO
  .cases e:F s.heap.objs.size with
   |none=>rfl
   |some o=>exact absurd (r.f _ _ e) bO
  .cases e:G s.heap.objs.size with
   |none=>rfl
   |some o=>obtain⟨ob,M,_⟩:=r.fo _ _ e;exact absurd M bO
 .have j:=own a h;subst j;obtain⟨o,Q,R,g,_⟩:=sL;exact⟨o,g⟩
theorem JZ{x:bg}{y:bg}{c:aC}{cq:List (bg×aC)}(h:(cq.lookup x).isSome=ai):(((y,c)::cq).lookup x).isSome=true:=by rw[rB];cases x==y<;>simp[h]
theorem Wo(x:bg):∀(names:List (bg×ni)) (n:Nat) (cq:List (bg×aC)),(cq.lookup x).isSome=ai->((Et n names cq).lookup x).isSome=true:=by
 intro aM;induction aM with
 |nil=>exactλ_ _ h=>h
 |cons jr r ih=>
  obtain⟨y,kd⟩:=jr;intro n cq h;unfold Et;split
  .exact ih _ _ (JZ h)
  .exact ih _ _ h
theorem J0(x:bg):∀(names:List (bg×ni)) (n:Nat) (cq:List (bg×aC)),(x,NameKind.cell)∈names->((Et n names cq).lookup x).isSome=true:=by
 intro b;induction b with
 |nil=>
  intro _ _ h;cases h
 |cons c r a=>
  obtain⟨y,kd⟩:=c;intro n cq h;unfold Et;rcases List.mem_cons.mp h with e|h
  .cases e;rw[if_pos (by rfl)];exact Wo x r _ _ (by rw[rB,beq_self_eq_true];rfl)
  .split
   .exact a _ _ h
   .exact a _ _ h
theorem aO.Wq(ok:X.OK)(hb:X.eZ.le P)(aT:X.dC.le F)(ha:q8 k A)(r:Rel X P F G s)(rv:bE X F vs ws)(jG:fd.scope=Y)(hg:fd.globals=n7)(xb:fd.builtins=q7)(hk:Y.kind=.function)(hv:A4 view ps=ai)(aF:ps.Nodup)(hn:ws.length=ps.length)(J1:∀p∈ps,Y.names.lookup p=I .local\/Y.names.lookup p=I .cell)(Eu:∀n,Y.names.lookup n≠I .free)(x:InCallC s (vm fd s.heap.objs.size f).locals (bindL (vm fd s.heap.objs.size f).kindOf (ps.zip ws) λ_=>aa) (vm fd s.heap.objs.size f).cells (bindC (vm fd s.heap.objs.size f).kindOf (ps.zip ws) λ_=>aa) a7):aO X k Y view P F G (vm fd s.heap.objs.size f) (oZ vs gE) A a7:=by
 have kd:∀n,(vm fd s.heap.objs.size f).kindOf n=Y.names.lookup n:=λn=>by unfold IU;rw[show(vm fd s.heap.objs.size f).scope=Y from jG]
 have own:∀a,ig (vm fd s.heap.objs.size f) a->s.heap.objs.size<=a:=λa h=>by
  rcases h with h|⟨n,h⟩
  .rw[h];exact x.toInCall.fresh
  .exact hW x.toInCall.fresh (A9 (x.above n a (rC h)))
 obtain⟨⟨N,l,rfl⟩,ns,m,fresh⟩:=x.toInCall;refine⟨ok,hb,aT,ha,⟨jG,hk,hg,xb,?_,λn Q c h q=>?_,λn c h=>?_⟩,r.keeps m rfl rfl,⟨⟨λx=>(ps.zip ws).reverse.lookup x,⟨⟨_,ns,λn hn=>?_⟩,λn h=>?_⟩,λi x v t w=>?_⟩,λa h=>?_,λa h=>?_⟩⟩
 .show(fd.scope.kind==.module&&_)=ak;rw[jG,hk];rfl
 .exact name_of_addr x.apart (rC h) (rC q)
 .exact Nat.ne_of_gt (x.above n c (rC h))
 .rw[Wk _ _ _ _ hn];simp
 .rw[kd]at h;rcases h with h|h
  .have:=J0 n Y.names (s.heap.objs.size+1) [] (rC h);rw[<- jG]at this;obtain⟨c,d⟩:=Option.isSome_iff_exists.mp this;refine⟨c,d,?_⟩;have:=x.cell n c d;rw[Wm _ _ _ _ (by rw[kd,h];simp)]at this;simpa using this
  .exact absurd h (Eu n)
 .have B:=JX w;obtain⟨u,j,C⟩:=rv.at X B;have D:ps[i]?=I x:=by
   have b:=List.all_eq_true.mp hv _ t;simp only at b;cases e:ps[i]? with
   |none=>have H:=List.getElem?_eq_none_iff.mp e;have K:=(List.getElem?_eq_some_iff.mp j).1;exact tT ((O [] [_,_,_] (.i (.E .y .u) (.i (.ag .u .x) (.i (.U .x .y) .o)))) hn H K)
   |some p=>rw[e]at b;simp only[beq_iff_eq]at b;rw[b]
  exact⟨u,JY aF D j,C⟩
 .have L:=own a h;have bO:∀{o:da},s.heap.get? a≠I o:=λe=>absurd (kT e) (Nat.not_lt.mpr L);refine⟨?_,?_,?_⟩
  .cases e:P a with
   |none=>rfl
   |some o=>exact absurd (r.p _ _ e) bO
  .cases e:F a with
   |none=>rfl
   |some o=>exact absurd (r.f _ _ e) bO
  .cases e:G a with
   |none=>rfl
   |some o=>obtain⟨ob,M,_⟩:=r.fo _ _ e;exact absurd M bO
 .rcases h with h|⟨n,h⟩
  .obtain⟨o,R,S,g,_⟩:=ns;exact⟨o,h▸g⟩
  .obtain⟨o,g,_⟩:=x.cell n a h;exact⟨o,g⟩
theorem Wr(ok:X.OK)(kX:Er X f ps il Y body)(hv:A4 view ps=ai)(aF:ps.Nodup)(Eu:Y.names.all (λx=>x.2 !=.free)=ai)(A6:(Y.names.all λx=>x.2 !=.cell)=ai\/il=[])(hb:rA X k Y view body w)(hn:vs.length+il.length=ps.length)(h:w (oZ (vs++il) gE) G λfl _ aS=>∃ae,J.le ae aS/\Q (JT fl) ae):aB X (k+1) (.L (.ref f)) vs G Q:=by
 refine⟨kX.hO,λP F s A fw ws g D R r rf rv=>?_⟩;refine cps λG0 B=>?_;obtain⟨rfl,_⟩:=rf;obtain⟨o,fd,c,oc,Ws,t,S,ho,J2,d,J3,hg,xb,J4,Wt,Wu,Wv,hq,J5,Ww,Wx⟩:=kX.obj;refine B ?_;clear B;have H:bE X F (vs++il) (ws++S):=rv.append X (bE.bI X D J5);have C:(ws++S).length=ps.length:=by rw[<- H.n X,fQ];exact hn
 have J6:s.heap.NoLimit:=⟨X.mc,(ok.nc.le g).ns r.p,ok.IL⟩
 have J7:s.heap.CodeRec fd.code fd.qualname:=⟨c,oc,Ws,t,Wt,r.p _ _ (g _ _ Wu),Wv,hq⟩
 have J8:A.depth<recursionLimit:=by have:=R.2.1;exact DY (by exact(O [] [_,_] (.i (.ag (.p .x (.m 4 (.p .y 1))) 900) (.ag .x 900))) this) (show 900<recursionLimit by decide)
 have J9:∀n,Y.names.lookup n≠I .free:=λn e=>by
  have:=List.all_eq_true.mp Eu _ (rC e);simp at this
 have T:∀{ab:b5} {K:bA},aO X k Y view P F G ab (oZ (vs++il) gE) (A.deeper ab) K->bW (b6 X.prog X.w) (A.deeper ab) (execs body ab)
   (λf M=>AJ X P F Q (Ka (Flow.ret (match f with|.ret v=>v|_=>Value.none))) M)
   (λe M=>bW (b6 X.prog X.w) (A.deeper ab) (leaving ab e) (λ_ U=>AJ X P F Q (.error e) U)
    (λbz U=>AJ X P F Q (.error bz) U) M) K:=by
  intro ab K x;refine cy (hb _ _ _ _ _ _ _ _ x h) (λfl M V=>?_) λ_ _ V=>V.elim;refine cps λG0 B=>?_;obtain⟨fv,ec,W,aS,l,y,Z,ae,lt,q⟩:=V;refine B ?_;clear B;cases fv with
  |n=>obtain rfl:=Z;exact⟨.none,.n,W,ae,rfl,l,y.aP.yM lt,rfl,q⟩
  |c=>obtain rfl:=Z;exact⟨.none,.n,W,ae,rfl,l,y.aP.yM lt,rfl,q⟩
  |r v=>obtain⟨u,rfl,ru⟩:=Z;exact⟨u,v,W,ae,rfl,l,y.aP.yM lt,ru,q⟩
 by_cases N:(Y.names.all λx=>x.2 !=.cell)=ai
 .have Bb:∀n,Y.names.lookup n≠I .cell:=λn e=>by
   have:=List.all_eq_true.mp N _ (rC e);simp at this
  refine codeAny_call_def (fd:=fd) (body:=body) (binds:=ps.zip (ws++S)) J8 (r.p _ _ (g _ _ ho)) J2 J6 J7 J3
   (Wx s ws (λa o e=>r.p _ _ (g _ _ e)) (λa o e=>r.f _ _ (D _ _ e)) (by have:=rv.n X;exact(O [] [_,_,_,_,_] (.i (.E (.p .w .y) .u) (.i (.E .b .u) (.i (.E .w .x) (.E (.p .x .y) .u))))) hn C this)) ?_ ?_ (λA5 sL hO=>?_) ((d)▸kX.JV) ((d)▸kX.JW) ((d)▸kX.kind)
  .intro x j e;rw[d]at j;have:=List.all_eq_true.mp N _ j;rw[e]at this;simp at this
  .intro x j;rw[d];rcases kX.names x.1 (Bc (show(x.1,x.2)∈_ from j)).1 with e|e
   .exact e
   .exact absurd e (Bb _)
  .exact T (aO.Wn ok (k:=k) g D (R.deeper _) r H d hg xb J4 kX.kind hv aF C sL hO λn=>⟨Bb n,J9 n⟩)
 .obtain rfl:il=[]:=A6.resolve_left N;obtain rfl:=J5;simp only[dZ]at H C T;refine codeAny_call_cells (fd:=fd) (body:=body) (binds:=ps.zip ws) J8 (r.p _ _ (g _ _ ho)) J2 J6 J7 J3 (Ww.resolve_left N ws C) J4 ?_ (λK x=>?_) ((d)▸kX.JV) ((d)▸kX.JW) ((d)▸kX.kind)
  .intro x j;rcases kX.names x.1 (Bc (show(x.1,x.2)∈_ from j)).1 with e|e
   .exact .inl ((d)▸e)
   .refine .inr ⟨(d)▸e,?_⟩;rw[d];exact J0 _ _ _ _ (rC e)
  .exact T (aO.Wq ok (k:=k) g D (R.deeper _) r H d hg xb kX.kind hv aF C kX.names J9 x)
structure Bd(P F:Kp)(G:J)(a:aC):Prop where
 p:P a=aa
 f:F a=aa
 s:G a=aa
 m:a≠q6
theorem Rel.fresh(ok:X.OK)(hb:X.eZ.le P)(x:Rel X P F G s)(h:s.heap.objs.size<=a):Bd P F G a:=by
 have bO:∀{o:da},s.heap.get? a≠I o:=λe=>absurd (kT e) (Nat.not_lt.mpr h);refine⟨?_,?_,?_,λe=>?_⟩
 .cases e:P a with
  |none=>rfl
  |some o=>exact absurd (x.p _ _ e) bO
 .cases e:F a with
  |none=>rfl
  |some o=>exact absurd (x.f _ _ e) bO
 .cases e:G a with
  |none=>rfl
  |some o=>obtain⟨ob,b,_⟩:=x.fo _ _ e;exact absurd b bO
 .subst e;obtain⟨o,c,d,e,_⟩:=ok.nc;have:=kT (x.p _ _ (hb _ _ e));exact absurd (DY (show q6<=AI by decide) this) (Nat.not_lt.mpr h)
theorem Rel.sj(x:Rel X P F G s)(f:Bd P F G a)(e:s.heap.get? a=I o):F.le (F.iG a o)/\Rel X P (F.iG a o) G s:=by
 have l:=Kp.wU (o:=o) f.f;refine⟨l,⟨x.p,λb ob h=>?_,λb ob h=>let⟨q,c,d⟩:=x.fo b ob h;⟨q,c,oR.bI X l d⟩,λb h=>?_,λb h=>?_,x.sm,x.os,x.gens⟩⟩
 .by_cases q:b=a
  .subst q;rw[Kp.lr]at h;cases h;exact e
  .rw[Kp.m6 q]at h;exact x.f _ _ h
 .have q:b≠a:=λq=>h (q▸f.p);rw[Kp.m6 q];exact x.pf b h
 .by_cases q:b=a
  .subst q;exact f.s
  .rw[Kp.m6 q]at h;exact x.fs b h
theorem Rel.yv(x:Rel X P F G s)(f:Bd P F G a)(e:s.heap.get? a=I ob)(r:oR X F o ob):Rel X P F (G.s a o) s:=by
 refine⟨x.p,x.f,λb q h=>?_,λb h=>?_,λb h=>?_,?_,x.os,x.gens⟩
 .by_cases c:b=a
  .subst c;rw[J.bY]at h;cases h;exact⟨ob,e,r⟩
  .rw[J.cC c]at h;exact x.fo b q h
 .have c:b≠a:=λq=>h (q▸f.p);rw[J.cC c];exact x.pf b h
 .have c:b≠a:=λq=>h (q▸f.f);rw[J.cC c];exact x.fs b h
 .rw[J.cC (tO f.m)];exact x.sm
theorem J.Kb:G.cT a a=none:=by simp[J.cT]
theorem J.nj(h:b≠a):G.cT a b=G b:=by simp[J.cT,h]
theorem Rel.yP(x:Rel X P F G s)(e:G a=I o):∃ob,s.heap.get? a=I ob/\oR X F o ob/\F.le (F.iG a ob)/\Rel X P (F.iG a ob) (G.cT a) s:=by
 obtain⟨ob,g,r⟩:=x.fo a o e;have c:F a=none:=by
  cases q:F a with
  |none=>rfl
  |some d=>rw[x.fs a (by rw[q];simp)]at e;cases e
 have f:P a=none:=by
  cases q:P a with
  |none=>rfl
  |some d=>rw[(x.pf a (by rw[q];simp)).2]at e;cases e
 have i:a≠sysModules:=λq=>by subst q;rw[x.sm]at e;cases e
 have y:Rel X P F (G.cT a) s:=x.yM λb o h=>by
  by_cases q:b=a
  .subst q;rw[J.Kb]at h;cases h
  .rw[J.nj q]at h;exact h
 obtain⟨l,j⟩:=y.sj ⟨f,c,J.Kb,i⟩ g;exact⟨ob,g,r,l,j⟩
structure Kc(X:Cx)(C fI:aC):Prop where
 hO:wO X.K (.ref C)=ai
 Wy:makesIn X.K C=ai
 rD:qa X.K (.ref C) "__init__"=I (I (.ref fI))
 kX:typeIn X.K (.ref fI)=I (.type "function")
 mem:C∈X.cls
def vn(a C dx:aC)(Q:V->J->Prop)(aS:J):Prop:=Q (.o a C dx) aS\/∃ns ao,aS dx=I (.eE ns ao)/\Q (.eS a C ns ao) (aS.cT dx)
theorem q8.under(h:q8 (k+1) A):q8 k (A.under (.builtin "type.__call__" ⟨.ref C::rest,[]⟩)):=by
 obtain⟨a,b,c⟩:=h;have d:(Ex "type.__call__" ⟨.ref C::rest,[]⟩).weight=1:=by kernel_rfl
 have e:(Ex "type.__call__" ⟨.ref C::rest,[]⟩).cUnits=1:=by kernel_rfl
 refine⟨a,?_,?_⟩
 .show A.depth+(Ex "type.__call__" ⟨.ref C::rest,[]⟩).weight+4*k<=900;exact(O [] [_,_,_] (.i (.ag (.p .x (.m 4 (.p .u 1))) 900) (.i (.E .y 1) (.ag (.p (.p .x .y) (.m 4 .u)) 900)))) b d
 .show A.units+(Ex "type.__call__" ⟨.ref C::rest,[]⟩).cUnits+40*k<=9000;exact(O [] [_,_,_] (.i (.ag (.p .x (.m 40 (.p .u 1))) 9000) (.i (.E .y 1) (.ag (.p (.p .x .y) (.m 40 .u)) 9000)))) c e
theorem Wz(ok:X.OK)(c:Kc X C fI)(h:∀a dx,G dx=aa->aB X k (.L (.ref fI)) (.o a C dx::vs) (G.s dx (.eE [] [])) λv aS=>v=.n/\vn a C dx Q aS):aB X (k+1) (.L (.ref C)) vs G Q:=by
 refine⟨c.hO,λP F s A fw ws j H M r N O=>?_⟩;obtain⟨rfl,_⟩:=N;obtain⟨b,g,d,t,os⟩:=s;have w:X.K.In b:=λa o e=>r.p _ _ (j _ _ (ok.n6 a o e));refine make_core (makes_of w c.Wy) (looks_findIn w c.rD) (λself=>bind_fn w self c.kX) (.inl rfl) ?_;have i:=r.fresh ok j (a:=b.objs.size) (gB _);have R:=r.fresh ok j (a:=b.objs.size+1) (Be _);have S:gQ b ((b.push xc).push (lX C b.objs.size)):=(gQ.push _ _).trans (gQ.push _ _);have T:((b.push xc).push (lX C b.objs.size)).get? b.objs.size=I emptyDict:=yu _ (qd _ rfl);have U:((b.push xc).push (lX C b.objs.size)).get? (b.objs.size+1)=I (lX C b.objs.size):=by
  have:=qd (b.push xc) (o:=lX C b.objs.size) rfl
  rwa [WA]at this
 have V:Rel X P F G ⟨(b.push xc).push (lX C b.objs.size),g,d,t,os⟩:=r.keeps (aD:=⟨(b.push xc).push (lX C b.objs.size),g,d,t,os⟩) S rfl rfl;obtain⟨l,W⟩:=V.sj R U;have Z:Bd P (F.iG (b.objs.size+1) (lX C b.objs.size)) G b.objs.size:=⟨i.p,by rw[Kp.m6 (oW (Bf _))];exact i.f,i.s,i.m⟩
 have r3:=W.yv (ob:=xc) (o:=.eE [] []) Z T ⟨[],0,rfl,trivial,rfl⟩;have B:bL X (F.iG (b.objs.size+1) (lX C b.objs.size)) (.o (b.objs.size+1) C b.objs.size) (.ref (b.objs.size+1)):=⟨rfl,c.mem,Kp.lr⟩
 have:=(h (b.objs.size+1) b.objs.size i.s).2 P _ _ _ (.ref fI) (.ref (b.objs.size+1)::ws) j (H.t l) (M.under (C:=C) (rest:=ws)) r3 ⟨rfl,rfl⟩ (qc B (bE.bI X l O));refine yI this λq aD af=>?_;obtain⟨u,v,aX,aS,rfl,x,D,yJ,rfl,q⟩:=af;obtain rfl:=yJ;refine⟨rfl,?_⟩;have E:=bL.bI X x B;rcases q with q|⟨ns,ao,e,q⟩
 .exact⟨_,_,aX,aS,rfl,l.t x,D,E,q⟩
 .obtain⟨ob,gR,⟨es,n,rfl,hk,hr⟩,y,WC⟩:=D.yP e;obtain⟨_,hC,gi⟩:=bL.bI X y E;exact⟨_,.eS _ C ns ao,_,_,rfl,(l.t x).t y,WC,⟨rfl,hC,_,es,n,gi,Kp.lr,hk,bE.bI X y hr⟩,q⟩
def jX(view:bV):Prop:=∀i x j y,(i,x)∈view->(j,y)∈view->(i=j↔x=y)
theorem Bg:∀{z:ay} {i j:Nat} {v w:V},dO (dX z i v) j=I w->(j=i/\w=v)\/(j≠i/\dO z j=I w)
 |[],i,j,v,w,h=>by cases h
 |x::r,0,0,v,w,h=>by
  have:dO (dX (x::r) 0 v) 0=I v:=rfl;rw[this]at h;cases h;exact .inl ⟨rfl,rfl⟩
 |x::r,0,j+1,v,w,h=>.inr ⟨by exact O [] [_] (.n (.E (.p .x 1) 0)),h⟩
 |x::r,i+1,0,v,w,h=>.inr ⟨by exact O [] [_] (.n (.E 0 (.p .x 1))),h⟩
 |x::r,i+1,j+1,v,w,h=>by
  have c:dO (dX r i v) j=I w:=h;rcases Bg c with⟨a,b⟩|⟨a,b⟩
  .exact .inl ⟨by exact(O [] [_,_] (.i (.E .x .y) (.E (.p .x 1) (.p .y 1)))) a,b⟩
  .exact .inr ⟨by exact(O [] [_,_] (.i (.n (.E .x .y)) (.n (.E (.p .x 1) (.p .y 1))))) a,b⟩
theorem aO.bind(x:aO X k Y view P F G ab z A s)(jt:jX view){i:Nat}{n:bg}{v:V}{u:aw}(hv:(i,n)∈view)(hk:Y.names.lookup n=I .local\/Y.names.lookup n=I .cell)(r:bL X F v u){Q:Unit->bA->Prop}(q:∀aD,aO X k Y view P F G ab (dX z i v) A aD->Q () aD){E:aw->bA->Prop}:bW (b6 X.prog X.w) A (storeName ab n u) Q E s:=by
 obtain⟨eG,a,b⟩:=x.bZ.bZ;have rr:yq X F view (dX z i v) λy=>if y=n then I u else eG y:=λj y w ax hl=>by
  rcases Bg hl with⟨rfl,rfl⟩|⟨h1,h2⟩
  .have:y=n:=(jt _ _ _ _ ax hv).mp rfl;exact⟨u,by simp[this],r⟩
  .have:y≠n:=λe=>h1 ((jt _ _ _ _ ax hv).mpr e);simp only[this,if_false];exact b j y w ax h2
 have vo:∀{a:aC} {h:gh} {t:Nat},ig ab a->IM a s.heap h->(∃o,h.get? a=I o)->yp ab (λy=>if y=n then I u else eG y) h->aO X k Y view P F G ab (dX z i v) A {s with heap:=h,toks:=t}:=by
  intro a h t ho hs hl aT;have eH:∀b,(P b≠aa\/F b≠aa\/G b≠aa)->b≠a:=by
   rintro b h rfl;obtain⟨c1,c2,c3⟩:=x.bZ.apart b ho;rcases h with h|h|h
   .exact h c1
   .exact h c2
   .exact h c3
  refine⟨x.ok,x.eZ,x.dC,x.gz,x.fa,⟨λb q af=>?_,λb q af=>?_,λb q af=>?_,x.aP.pf,x.aP.fs,x.aP.sm,x.aP.os,x.aP.gens⟩,⟨_,aT,rr⟩,x.bZ.apart,λb af=>?_⟩
  .exact(hs.2 _ (eH b (.inl (by rw[af];exact oS _)))).trans (x.aP.p _ _ af)
  .exact(hs.2 _ (eH b (.inr (.inl (by rw[af];exact oS _))))).trans (x.aP.f _ _ af)
  .obtain⟨qb,h1,h2⟩:=x.aP.fo b q af;exact⟨qb,(hs.2 _ (eH b (.inr (.inr (by rw[af];exact oS _))))).trans h1,h2⟩
  .by_cases e:b=a
   .subst e;exact hl
   .obtain⟨o,h1⟩:=x.bZ.jo b af;exact⟨o,(hs.2 _ e).trans h1⟩
 rw[<- x.kindOf]at hk;rcases hk with hk|hk
 .obtain⟨m,ax,e⟩:=a.z;refine wpAny_storeName_local hk ax (λbu hn hs=>q _ (vo (.inl rfl) hs (let⟨o,_,_,g,_⟩:=hn;⟨o,g⟩) ⟨⟨_,hn,λy hy=>?_⟩,λy hy=>?_⟩)) (by show(ab.scope.kind==.class||(ab.scope.kind==.module&&ab.locals !=ab.globals))=ak;rw[x.wV];rfl)
  .by_cases bz:y=n
   .simp[bz]
   .simp only[bz,if_false];exact e y hy
  .obtain⟨c,h1,h2⟩:=a.cell y hy;refine⟨c,h1,?_⟩;have bz:y≠n:=λe=>by subst e;rw[hk]at hy;rcases hy with hy|hy<;>cases hy
   simp only[bz,if_false];exact h2.sameBut hs (x.fa.DX y c h1)
 .obtain⟨c,h1,h2⟩:=a.cell n (.inl hk);refine wpAny_storeName_cell x.wV hk h1 h2 λbu hc hs=>q _ (vo (t:=s.toks) (.inr ⟨n,h1⟩) hs (let⟨o,g,_⟩:=hc;⟨o,g⟩) ⟨?_,λy hy=>?_⟩)
  .obtain⟨m,ax,e⟩:=a.z;refine⟨m,ax.sameBut hs (tO (x.fa.DX n c h1)),λy hy=>?_⟩;have bz:y≠n:=λe=>by subst e;rw[hk]at hy;cases hy
   simp only[bz,if_false];exact e y hy
  .obtain⟨dU,kc,jE⟩:=a.cell y hy;refine⟨dU,kc,?_⟩;by_cases bz:y=n
   .subst bz;rw[h1]at kc;cases kc;simp only[if_true];exact hc
   .simp only[bz,if_false];refine jE.sameBut hs λe=>bz ?_;subst e;exact x.fa.DW _ _ _ kc h1
noncomputable def vp:List Int->List aw->Int->aw->List aw
 |n::ns,v::vs,x,u=>if n=x then u::vs else v::vp ns vs x u
 |_,_,_,u=>[u]
theorem Ke(e:n=x):vp (n::ns) (v::vs) x u=u::vs:=if_pos e
theorem Ez(e:¬n=x):vp (n::ns) (v::vs) x u=v::vp ns vs x u:=if_neg e
theorem WD(e:n=x):mF (n::ns) (v::vs) x u=u::vs:=if_pos e
theorem WE(e:¬n=x):mF (n::ns) (v::vs) x u=v::mF ns vs x u:=if_neg e
theorem WG(hl:ao.length=ks.length)(aF:ks.Nodup):stored (ks.zip ao) i u=(mZ ks i).zip (vp ks ao i u)/\(vp ks ao i u).length=(mZ ks i).length:=by
 by_cases c:i∈ks
 .have d:(ks.zip ao).any (λkv=>a6 (kv.1=i))=true:=by
   rw[List.any_eq_true];obtain⟨j,l⟩:=Wi c;have m:=(List.getElem?_eq_some_iff.mp l).1;have:j<ao.length:=by exact(O [] [_,_,_] (.i (.E .y .u) (.i (.U .x .u) (.U .x .y)))) hl m
   refine⟨(i,ao[j]),?_,by simp⟩;refine fJ (i:=j) ?_;rw[Eg];exact⟨l,rj this⟩
  unfold stored mZ;rw[if_pos d,if_pos c];clear d;induction ks generalizing ao with
  |nil=>cases c
  |cons n ks f=>
   cases ao with
   |nil=>simp at hl
   |cons w ao=>
    obtain⟨o,p⟩:=List.nodup_cons.mp aF;rw[Jv,oV];by_cases e:n=i
    .subst e;have:(ks.zip ao).map (λkv=>if kv.1=n then(kv.1,u)else kv)=ks.zip ao:=by
      refine(yB λkv g=>?_).trans (EB _);have:=(Bc (show(kv.1,kv.2)∈_ from g)).1;have:kv.1≠n:=λe=>o (e▸this);simp[this]
     rw[this];rw[Ke rfl];exact⟨by rw[if_pos rfl];rfl,hl⟩
    .have q:i∈ks:=by
      rcases List.mem_cons.mp c with h|h
      .exact absurd h.symm e
      .exact h
     obtain⟨a,b⟩:=f (by simpa using hl) p q;rw[a];rw[Ez e,if_neg e];exact⟨rfl,congrArg (· +1) b⟩
 .have d:(ks.zip ao).any (λkv=>a6 (kv.1=i))=false:=by
   rw[V1];intro kv g;have:=(Bc (show(kv.1,kv.2)∈_ from g)).1;have:kv.1≠i:=λe=>c (e▸this);simp[this]
  unfold stored mZ;rw[d,if_neg (by simp),if_neg c];clear d aF;induction ks generalizing ao with
  |nil=>cases ao with
   |nil=>exact⟨rfl,rfl⟩
   |cons=>simp at hl
  |cons n ks f=>
   cases ao with
   |nil=>simp at hl
   |cons w ao=>have e:¬n=i:=λe=>c (e▸ .head _);obtain⟨a,b⟩:=f (by simpa using hl) λh=>c (.tail _ h);rw[Ez e];exact⟨congrArg ((n,w)::·) a,congrArg (· +1) b⟩
theorem WH(hl:ao.length=ks.length)(hr:bE X F vs ao)(rv:bL X F v u):bE X F (mF ks vs i v) (vp ks ao i u):=by
 induction ks generalizing ao vs with
 |nil=>exact bE.uY X rv
 |cons n ks b=>
  cases ao with
  |nil=>simp at hl
  |cons w ao=>
   cases vs with
   |nil=>cases hr
   |cons x vs=>
    obtain⟨d,f,eq,c,a⟩:=hr;cases eq;by_cases e:n=i
    .rw[WD e,Ke e];exact qc rv a
    .rw[WE e,Ez e];exact qc c (b (by simpa using hl) a)
theorem aO.sd(x:aO X k Y view P F G ab z A s)(ro:bL X F o ou)(ri:bL X F i iu)(rv:bL X F v vu)(h:sd o i v G Q)(q:∀aS aD,aO X k Y view P F aS ab z A aD->Q aS->R () aD):bW (b6 X.prog X.w) A (Bh ou iu vu) R bO s:=by
 obtain⟨a,rfl,C⟩:=(yd o).eF h;obtain⟨i,rfl,C⟩:=(i7 i).eF C
 .obtain rfl:=ro;obtain⟨t,rfl⟩:=ri;obtain⟨ob,f,h⟩:=tP C;cases ob with
  |l xs=>
   obtain⟨⟨M,K⟩,h⟩:=h;obtain⟨ob,g,d,n,rfl,r,j⟩:=x.aP.fo _ _ f;have H:2*cK=200000:=rfl;refine ki_setAt g M (by exact(O [_] [_,_] (.i (.t .x (.c .y)) (.i (.ag .y (.m 2 .x)) (.i (.E (.m 2 .x) 200000) (.t .x (.k (2^63))))))) K j H) (by rw[jU,<- r.n X];exact K) ?_;have go:=PySem.IsL.update g (·.setIfInBounds i.toNat vu);have e:d.toArray.setIfInBounds i.toNat vu=(d.set i.toNat vu).toArray:=by simp
   rw[e]at go;exact q _ _ (x.update (hV:=.l (xs.set i.toNat v)) (t:=s.toks) f (Jl ..) go ⟨_,_,rfl,r.set X _ rv,by simpa using j⟩) h
  |dk b vs=>
   obtain⟨ob,g,d,aF,I,j,r⟩:=x.aP.fo _ _ f;have D:s.heap.DictOf (p9 X.prog X.w) a (b.zip d):=Heap.dictOf_iff.mpr ⟨ob,g,aF⟩;have N:b.Nodup:=by obtain⟨_,_,_,_,_,_,_,S⟩:=D;have this:(b.zip d).map Prod.fst=b:=List.map_fst_zip (by exact(O [] [_,_] (.i (.E .y .x) (.ag .x .y))) I);have L:((b.zip d).map Prod.fst).Nodup:=S.2;rw[this]at L;exact L
   refine wpAny_setItem_pairs (El _ _ _ _) D (λbu B T=>?_) (by rw[List.length_zip];exact hW (Nat.min_le_left _ _) (hW j AM));obtain⟨U,V⟩:=WG (i:=i) (u:=vu) I N;rw[U]at B;obtain⟨hV,W,B⟩:=Heap.dictOf_iff.mp B;have H:2*cK=200000:=rfl;have Z:(mZ b i).length<=b.length+1:=by unfold mZ;split<;>simp
   exact q _ _ (x.update (hV:=.dk (mZ b i) (mF b vs i v)) f T W ⟨_,B,V,by have:=h.1.le;exact(O [] [_,_,_] (.i (.E (.m 2 .y) 200000) (.i (.ag .x (.p .u 1)) (.i (.ag (.p .u 1) .y) (.ag .x (.m 2 .y)))))) H Z this,WH I r rv⟩) h.2
  |eE=>exact h.elim
abbrev PW:=V->ay->J->(ay->J->Prop)->Prop
def vq(X:Cx)(k:Nat)(Y:bN)(view:bV)(t:aR)(w:PW):Prop:=
 ∀(P F:Kp) (G:J) (ab:b5) (z:ay) (A:cB) (s:bA) (v:V) (u:aw) (Q:ay->J->Prop),aO X k Y view P F G ab z A s->bL X F v u->w v z G Q->
  bW (b6 X.prog X.w) A (vr t ab u) (λ_ aD=>∃ec aX aS,F.le aX/\aO X k Y view P aX aS ab ec A aD/\Q ec aS) bO s
theorem WI(jt:jX view)(hv:(i,n)∈view)(hk:Y.names.lookup n=I .local\/Y.names.lookup n=I .cell):vq X k Y view (.Name n pos) λv z G Q=>Q (dX z i v) G:=by intro P F G ab z A s v u Q x r a;exact ED (x.bind jt hv hk r λb y=>⟨_,F,G,.r F,y,a⟩)
theorem WK(ho:bS X k Y view o λz G Q=>bR (dO z i) λv=>Q v G):vq X k Y view (.Attribute o (X.aH n) pos) λv z G Q=>bR (dO z i) λo=>n4 X.a8 o n v G λG=>Q z G:=by
 intro P F G ab z A s v u Q x r a;obtain⟨ov,e,a⟩:=lx a;show bW _ A (do
  let ov<- sr [u] (ij o ab)
  vc pos.atName
  sr [u,ov] (setAttr ov (X.aH n) u)
  Bj [u,ov] []) _ bO s
 refine cG (kh (ho.then (R:=λc b=>c=ov/\b=G) x (by rw[e];exact⟨rfl,rfl⟩) λc j f l m d g h q=>?_));obtain⟨rfl,rfl⟩:=q;refine cG (rq (cG (kh (g.n4 h (r.bI X d) a λb p y q=>wpAny_release ⟨z,f,b,d,y,q⟩))))
theorem WL(ho:bS X k Y view o wo)(hi:bS X k Y view i wi):vq X k Y view (.Subscript o i pos) λv z G Q=>wo z G λov G=>wi z G λiv G=>sd ov iv v G λG=>Q z G:=by intro P F G ab z A s v u Q x r c;rw[PySem.assign_Subscript];refine cG (kh (ho.then x c λov l m n p b d e q=>?_));refine cG (kh (hi.then d q λiv w f B C a g h q=>?_));exact cG (rq (cG (kh (g.sd (e.bI X a) h (r.bI X (b.t a)) q λj D y q=>wpAny_release ⟨z,f,j,b.t a,y,q⟩))))
inductive sM(X:Cx)(k:Nat)(Y:bN)(view:bV):List aR->List PW->Prop
 |nil:sM X k Y view [] []
 |cons {e es w ws}:vq X k Y view e w->iH e=ak->sM X k Y view es ws->sM X k Y view (e::es) (w::ws)
noncomputable def Bk:List PW->List V->ay->J->(ay->J->Prop)->Prop
 |[],[],z,G,Q=>Q z G
 |w::ws,v::vs,z,G,Q=>w v z G λz G=>Bk ws vs z G Q
 |_,_,_,_,_=>False
theorem yR(h:iH e=ak):sN (e::es) ab=(ak,vr e ab)::sN es ab:=by cases e<;>first|rfl|cases h
theorem Kg:∀{es:List aR} {ws:List PW},sM X k Y view es ws->∀(P F:Kp) (G:J) (ab:b5) (z:ay) (A:cB) (s:bA) (vs:List V) (ao:List aw) (Q:ay->J->Prop),aO X k Y view P F G ab z A s->bE X F vs ao->Bk ws vs z G Q->bW (b6 X.prog X.w) A (Kh ((sN es ab).map (·.2)) ao) (λ_ aD=>∃ec aX aS,F.le aX/\aO X k Y view P aX aS ab ec A aD/\Q ec aS) bO s
 |_,_,.nil=>by
  intro P F G ab z A s vs ao Q x r aj;cases vs with
  |nil=>exact fH ⟨z,F,G,.r F,x,aj⟩
  |cons=>exact aj.elim
 |_,_,.cons h gC hs=>by
  intro P F G ab z A s vs ao Q x r aj;cases vs with
  |nil=>exact aj.elim
  |cons v vs=>obtain⟨u,ao,rfl,r1,r2⟩:=r;rw[yR gC];refine cG (kh (cy (h _ _ _ _ _ _ _ _ _ _ x r1 aj) (λ_ e c=>?_) λ_ _ a=>a));obtain⟨f,g,i,b,d,q⟩:=c;exact cy (Kg hs _ _ _ _ _ _ _ _ _ _ d (bE.bI X b r2) q) (λ_ j ⟨ec,aX,aS,l,y,q⟩=>⟨ec,aX,aS,b.t l,y,q⟩) λ_ _ a=>a
theorem sM.yS:∀{es:List aR} {ws:List PW},sM X k Y view es ws->es.length=ws.length/\(sN es ab).length=ws.length/\(sN es ab).findIdx? (·.1)=aa
 |_,_,.nil=>⟨rfl,rfl,rfl⟩
 |_,_,.cons h gC hs=>by
  obtain⟨a,b,c⟩:=sM.yS hs;rw[yR gC];exact⟨congrArg (· +1) a,congrArg (· +1) b,by rw[WM];simp[c]⟩
theorem WN(h:sM X k Y view es ws):vq X k Y view (.Tuple es n pos) λv z G Q=>bR (lU v) λvs=>ws.length=vs.length/\Bk ws vs z G Q:=by
 intro P F G ab z A s v u Q x r c;show bW _ A (do vc pos;unpack u (sN es ab)) _ bO s;refine cG (rq ?_);obtain⟨vs,rfl,c⟩:=(qS v).eF c
 .obtain⟨g,c⟩:=c;obtain⟨a,i,m,rfl,f,d,q,_⟩:=m8 r;obtain⟨t,j,l⟩:=h.yS (ab:=ab);have T:w5 s.heap a i.toArray:=⟨_,x.aP.f _ _ f,rfl,m,rfl⟩
  unfold unpack;rw[j,l,g,d.n X,<- jU];refine cG (kh (Ki x.gz.1 T λw p=>?_));exact Kg h _ _ _ _ _ _ _ _ _ _ (x.kz λb o e=>p b o (oW (kT e)) e) d c
theorem sJ.le(l:F.le cZ)(h:sJ X k Y view P cZ ab A Q f s):sJ X k Y view P F ab A Q f s:=h.rec λb c d e a x r q=>⟨b,c,d,e,l.t a,x,r,q⟩
theorem WO:rA X k Y view [] λz G Q=>Q .n z G:=λP F G ab z A s Q x a=>Kj ⟨.n,z,F,G,.r F,x,rfl,a⟩
theorem rE(h:kW X k Y view b w)(hr:rA X k Y view r qf):rA X k Y view (b::r) λz G Q=>w z G λfl z G=>IF fl (qf z G Q) z G Q:=by
 intro P F G ab z A s Q x m;refine wpAny_execs_cons (cy (h _ _ _ _ _ _ _ _ x m) (λf p o=>?_) λ_ _ a=>a);obtain⟨fl,i,j,l,d,e,g,q⟩:=o;cases fl with
 |n=>obtain rfl:=g;exact cy (hr _ _ _ _ _ _ _ _ e q) (λ_ _ a=>a.le d) λ_ _ a=>a
 |c=>obtain rfl:=g;exact⟨.c,i,j,l,d,e,rfl,q⟩
 |r v=>obtain⟨u,rfl,r⟩:=g;exact⟨.r v,i,j,l,d,e,⟨u,rfl,r⟩,q⟩
theorem WQ(h:bS X k Y view e w):kW X k Y view (.Return (I e) pos) λz G Q=>w z G λv G=>Q (.r v) z G:=by intro P F G ab z A s Q x a;exact wpAny_Return_some (h.then x a λv u b c i d f g q=>⟨.r v,z,b,c,d,f,⟨u,rfl,g⟩,q⟩)
theorem WR:kW X k Y view (.Continue pos) λz G Q=>Q .c z G:=λP F G ab z A s Q x a=>wpAny_Continue ⟨.c,z,F,G,.r F,x,rfl,a⟩
theorem WS(hc:oU X k Y view c wc)(hb:rA X k Y view b wb)(ho:rA X k Y view o wo):kW X k Y view (.If c b o pos) λz G Q=>wc z G λt G=>jB t (wb z G Q) (wo z G Q):=by
 intro P F G ab z A s Q x f;refine wpAny_If (cy (hc _ _ _ _ _ _ _ _ x f) (λt h g=>?_) λ_ _ a=>a);obtain⟨i,j,d,e,q⟩:=g;cases t with
 |true=>exact cy (hb _ _ _ _ _ _ _ _ e (q.1 rfl)) (λ_ _ a=>a.le d) λ_ _ a=>a
 |false=>exact cy (ho _ _ _ _ _ _ _ _ e (q.2 rfl)) (λ_ _ a=>a.le d) λ_ _ a=>a
theorem WT(h:bS X k Y view e w)(hs:∀ab:b5,ab.scope=Y->EF e aa pos.line ab=eJ ak):kW X k Y view (.Expr e pos) λz G Q=>w z G λv G=>match v with
   |.n=>Q .n z G
   |.i _=>Q .n z G
   |_=>False:=by
 intro P F G ab z A s Q x g;refine wpAny_Expr (h.then x g λv u a b j c d f q=>?_) x.fa.plain (hs ab x.fa.scope);split at q
 .obtain rfl:=f;exact⟨.n,z,a,b,c,d,rfl,q⟩
 .obtain⟨t,rfl⟩:=f;exact⟨.n,z,a,b,c,d,rfl,q⟩
 .exact q.elim
theorem Kk(ht:vq X k Y view t wt)(gC:iH t=ak)(hv:bS X k Y view value eB)(hs:∀ab:b5,ab.scope=Y->Kl [t] value pos.line ab=eJ ak)(aj:∀ab:b5,ab.scope=Y->EG [t] value ab=eJ aa):kW X k Y view (.Assign [t] value pos) λz G Q=>eB z G λv G=>wt v z G λz G=>Q .n z G:=by intro P F G ab z A s Q x b;rw[PyProof.Rows.exec_Assign,hs ab x.fa.scope];refine cG (rq (cG (fH ?_)));rw[if_neg (by decide)];refine cG (hv.then x b λv u o p c d e f q=>?_);rw[aj ab x.fa.scope];refine cG (fH ?_);rw[yR gC];show bW _ A (do assignAll u [vr t ab];eJ Flow.next) _ bO c;refine cG (cy (ht _ _ _ _ _ _ _ _ _ _ e f q) (λ_ r g=>fH ?_) λ_ _ h=>h);refine cps λG0 a=>?_;obtain⟨i,j,m,l,y,q⟩:=g;refine a ?_;clear a;exact⟨.n,i,j,m,d.t l,y,rfl,q⟩
theorem Km:∀{z:ay} {i j:Nat} {v w:V},i≠j->dX (dX z i v) j w=dX (dX z j w) i v
 |[],_,_,_,_,_=>rfl
 |x::r,0,0,_,_,h=>absurd rfl h
 |x::r,0,j+1,_,_,_=>rfl
 |x::r,i+1,0,_,_,_=>rfl
 |x::r,i+1,j+1,v,w,h=>congrArg (x::·) (Km (z:=r) (λe=>h (congrArg (· +1) e)))
theorem Kn:∀{is:List Nat} {vs:List V} {z:ay} {i:Nat} {v:V},i∉is->i6 (dX z i v) is vs=dX (i6 z is vs) i v
 |[],_,_,_,_,_=>rfl
 |j::is,[],_,_,_,_=>rfl
 |j::is,w::vs,z,i,v,h=>by
  show i6 (dX (dX z i v) j w) is vs=dX (i6 (dX z j w) is vs) i v;rw[Km (λe=>h (by rw[e];exact .head _)),Kn λbu=>h (.tail _ bu)]
theorem Ko:∀{is:List Nat} {vs:List V} {z:ay} {i:Nat} {v:V},is.length=vs.length->i6 z (is++[i]) (vs++[v])=dX (i6 z is vs) i v
 |[],[],_,_,_,_=>rfl
 |[],_::_,_,_,_,h=>by cases h
 |_::_,[],_,_,_,h=>by cases h
 |j::is,w::vs,z,i,v,h=>Ko (z:=dX z j w) (by simpa using h)
theorem Kq:∀{is:List Nat} {vs:List V} {z:ay},is.Nodup->is.length=vs.length->i6 z is.reverse vs.reverse=i6 z is vs
 |[],[],_,_,_=>rfl
 |[],_::_,_,_,h=>by cases h
 |_::_,[],_,_,h=>by cases h
 |j::is,w::vs,z,aF,h=>by
  obtain⟨d1,d2⟩:=List.nodup_cons.mp aF;rw[wR,wR,Ko (by simpa using h),Kq d2 (by simpa using h)];exact(Kn d1).symm
theorem WU(jt:jX view):∀(ps:List (Nat×bg)) (vs:List V) (ao:List aw) (z:ay) (s:bA) {Q:ay->Prop},aO X k Y view P F G ab z A s->bE X F vs ao->(∀p∈ps,p∈view/\Y.names.lookup p.2=I .local)->ps.length=vs.length->bW (b6 X.prog X.w) A (Kh (ps.map λp=>bindName ab p.2) ao) (λ_ aD=>aO X k Y view P F G ab (i6 z (ps.map (·.1)) vs) A aD) bO s:=by
 intro b;induction b with
 |nil=>
  intro c;cases c with
  |nil=>intro ao z s Q x r _ _;obtain rfl:=r;exact fH x
  |cons _ _=>
   intro _ _ _ _ _ _ _ h;cases h
 |cons p ps d=>
  intro e;cases e with
  |nil=>
   intro _ _ _ _ _ _ _ h;cases h
  |cons v vs=>intro ao z s Q x r a h;obtain⟨u,ao,rfl,f,g⟩:=r;refine cG (kh (wpAny_bindName (x.bind jt (a p (.head _)).1 (.inl (a p (.head _)).2) f λaD y=>?_)));exact d vs ao _ aD (Q:=Q) y g (λq i=>a q (.tail _ i)) (by simpa using h)
theorem WV(jt:jX view){es:List aR}{n:Nat}{value:aR}{eB:EW}{ps:List (Nat×bg)}{nq pos:b3}(J1:∀p∈ps,p∈view/\Y.names.lookup p.2=I .local)(aF:(ps.map (·.1)).Nodup)(hv:bS X k Y view value eB)(hs:∀ab:b5,ab.scope=Y->Kl [.Tuple es n nq] value pos.line ab=eJ ak)(aj:∀ab:b5,ab.scope=Y->EG [.Tuple es n nq] value ab=eJ (I (ps.map (·.2)))):kW X k Y view (.Assign [.Tuple es n nq] value pos) λz G Q=>eB z G λv G=>bR (lU v) λvs=>ps.length=vs.length/\Q .n (i6 z (ps.map (·.1)) vs) G:=by
 intro P F G ab z A s Q x hq;refine PyProof.Rows.Assign_Tuple_swapped (hv.then x hq λv u cf cg a7 bG br bX q=>?_) (hs ab x.fa.scope) (aj ab x.fa.scope);obtain⟨vs,rfl,q⟩:=(qS v).eF q
 .obtain⟨hl,q⟩:=q;obtain⟨a,ao,m,rfl,f,rr,af,_⟩:=m8 bX;have T:w5 a7.heap a ao.toArray:=⟨_,br.aP.f _ _ f,rfl,m,rfl⟩
  have e:(ps.map (·.2)).length=ao.toArray.size:=by rw[cm,hl,rr.n X,jU]
  rw[e];refine Ki br.gz.1 T λbu ba=>?_;have y:=br.kz λb o e=>ba b o (oW (kT e)) e;have e2:(ps.map (·.2)).reverse.map (λn=>bindName ab n)=ps.reverse.map λp=>bindName ab p.2:=by rw[<- Kr,l8];rfl
  rw[e2];refine cy (WU jt ps.reverse vs.reverse ao.reverse z _ (Q:=λ_=>True) y (rr.reverse X) (λp hp=>J1 p (List.mem_reverse.mp hp)) (by simpa using hl)) (λ_ cN af=>?_) λ_ _ af=>af;rw[Kr,Kq aF (by simpa using hl)]at af;exact⟨.n,_,cf,cg,bG,af,rfl,q⟩
theorem aO.eY(x:aO X k Y view P F G ab z A s)(ra:bL X F a u)(rb:bL X F b w)(h:uW b4 a b Q)(q:∀v r tk,bL X F v r->Q v->R r {s with toks:=tk}):bW (b6 X.prog X.w) A (inplaceOp b4 u w) R bO s:=by
 cases b4<;>first|exact h.elim|skip
 .obtain⟨i,j,rfl,rfl,h⟩:=q9 h;obtain⟨t,rfl⟩:=ra;obtain⟨c,rfl⟩:=rb;exact wpAny_iadd_int (q _ _ _ ly h)
 .obtain⟨i,j,rfl,rfl,h⟩:=q9 h;obtain⟨t,rfl⟩:=ra;obtain⟨c,rfl⟩:=rb;exact PyProof.Rows.isub_int (q _ _ _ ly h)
theorem WW(jt:jX view)(hv:(i,n)∈view)(hk:Y.names.lookup n=I .local\/Y.names.lookup n=I .cell)(wW:(n==("__classdict__":bg))=ak)(ba:bS X k Y view value eB):kW X k Y view (.AugAssign (.Name n nq) b4 value pos) λz G Q=>bR (dO z i) λa=>eB z G λb G=>uW b4 a b λv=>Q .n (dX z i v) G:=by intro P F G ab z A s Q x c;obtain⟨a,e,c⟩:=lx c;refine wpAny_AugAssign_Name (x.eG hv e (hk.elim .inl λh=>.inr (.inl h)) (λu r=>?_) wW);refine ba.then x c λb w g j p d f l q=>?_;refine f.eY (r.bI X d) l q λv t m o q=>?_;exact(f.toks m).bind jt hv hk o λB y=>⟨.n,_,g,j,d,y,rfl,q⟩
theorem WX(ho:bS X k Y view o λz G Q=>bR (dO z i) λv=>Q v G)(ba:bS X k Y view value eB):kW X k Y view (.AugAssign (.Attribute o (X.aH n) nq) b4 value pos) λz G Q=>bR (dO z i) λo=>rd o (pZ X.a8 G o n) λa=>eB z G λb G=>uW b4 a b λv=>n4 X.a8 o n v G λG=>Q .n z G:=by intro P F G ab z A s Q x c;refine cps λG0 d=>?_;obtain⟨ov,e,c⟩:=lx c;obtain⟨a,p,c⟩:=lZ c;refine d ?_;clear d;refine wpAny_AugAssign_AttributeAny (ho.then (R:=λh f=>h=ov/\f=G) x (by rw[e];exact⟨rfl,rfl⟩) λh H I K L u j l q=>?_);refine cps λG0 d=>?_;obtain⟨rfl,rfl⟩:=q;refine d ?_;clear d;refine j.au l p λw t r=>?_;refine ba.then (j.toks t) c λb M B N O g m C q=>?_;refine m.eY (r.bI X g) C q λv S D E q=>?_;exact(m.toks D).n4 (l.bI X g) E q λf T y q=>⟨.n,z,B,f,u.t g,y,rfl,q⟩
theorem WY(ho:bS X k Y view o wo)(hi:bS X k Y view i wi)(ba:bS X k Y view value eB)(ha:∀ov iv new,EH i ov iv new=(do sr [new,ov,iv] (Bh ov iv new);Bj [new,ov,iv] [];eJ .next)):kW X k Y view (.AugAssign (.Subscript o i nq) b4 value pos) λz G Q=>wo z G λov G=>wi z G λiv G=>rd ov (r8 G ov iv) λa=>eB z G λb G=>uW b4 a b λv=>sd ov iv v G λG=>Q .n z G:=by intro P F G ab z A s Q x m;refine wpAny_AugAssign_SubscriptAny (ho.then x m λov I K L M p u f q=>hi.then u q λiv N O R S d h j q=>?_) ha;obtain⟨a,w,q⟩:=lZ q;refine(h.JG (f.bI X d) j w).rec λ_ _ _ _ g=>g λr e B=>?_;refine ba.then (h.toks e) q λb T C U V c l D q=>?_;refine l.eY (B.bI X c) D q λv W e E q=>?_;exact(l.toks e).sd (f.bI X (d.t c)) (j.bI X c) E q λH Z y q=>⟨.n,z,C,H,(p.t d).t c,y,rfl,q⟩
def tV(X:Cx)(F:Kp)(target:aR)(h:gh)(v:V)(u:aw):Prop:=bL X F v u\/(∃es n p,target=.Tuple es n p)/\∃vs T ao,v=.aV vs/\u=.ref T/\w5 h T (p8 ao)/\bE X F vs ao
structure o1(X:Cx)(target:aR)(dH:aC)(own:List aC)(fB:Nat->gh->Prop)(xs:List V)(ju:Kp):Prop where
 frame:∀i h bu,fB i h->ju.In h->ju.In bu->(∀b∈own,∀o,h.get? b=I o->bu.get? b=I o)->fB i bu
 item:∀(A:cB) (i:Nat) (s:bA) (E:aw->bA->Prop) (Q:aw->bA->Prop) (v:V),A.handled=aa->ju.In s.heap->xs[i]?=I v->fB i s.heap->
  (∀u bu tk,fB (i+1) bu->(∀b o,b∉own->s.heap.get? b=I o->bu.get? b=I o)->tV X ju target bu v u->Q u {s with heap:=bu,toks:=tk})->
  bW (b6 X.prog X.w) A (pyNext (.ref dH)) (λr a7=>match r with|none=>False|some u=>bW (b6 X.prog X.w) A (EI target (.ref dH) u) (λ_ cN=>Q u cN) E a7) E s
 Bl:∀(A:cB) (s:bA) (E:aw->bA->Prop) (Q:bA->Prop),A.handled=aa->ju.In s.heap->fB xs.length s.heap->
  (∀bu tk,(∀b o,b∉own->s.heap.get? b=I o->bu.get? b=I o)->Q {s with heap:=bu,toks:=tk})->
  bW (b6 X.prog X.w) A (pyNext (.ref dH)) (λr a7=>r=aa/\Q a7) E s
 self:∀(A:cB) (i:Nat) (s:bA) (E:aw->bA->Prop) (Q:aw->bA->Prop),A.handled=aa->fB i s.heap->Q (.ref dH) s->bW (b6 X.prog X.w) A (pyIter (.ref dH)) Q E s
 vt:∀i h,fB i h->∀b∈own,∃o,h.get? b=I o
theorem o1.EJ(W:∀A:cB,A.handled=aa->Walks X.prog X.w A dH fp qf n Ks fB)(hn:n=xs.length)(hP:∀i v u,xs[i]?=I v->Ks i u->bL X ju v u)(aj:∀b∈qf,b∈own)(aT:∀b∈fp,b∈own\/ju b≠aa)(hg:∀(A:cB) (i:Nat) (s:bA) (u:aw) (E:aw->bA->Prop) (Q:Unit->bA->Prop),fB i s.heap->Q () s->bW (b6 X.prog X.w) A (EI target (.ref dH) u) Q E s)(ht:∀i h,fB i h->∀b∈own,∃o,h.get? b=I o):o1 X target dH own fB xs ju where
 frame:=λi h bu b0 f tW hk=>(W {} rfl).frame i h bu b0 λb hb o e=>by
  rcases aT b hb with q|q
  .exact hk b q o e
  .obtain⟨hV,bz⟩:=Option.ne_none_iff_exists'.mp q;have:=f b hV bz;rw[e]at this;cases this;exact tW b o bz
 item:=λA i s E Q v hh f hx b0 hQ=>by
  have hi:i<n:=by rw[hn];exact(List.getElem?_eq_some_iff.mp hx).1
  refine(W A hh).item i s _ E hi b0 λu bu tk hp sO hk=>?_;exact hg A (i+1) _ u E _ sO (hQ u bu tk sO (λb o hb e=>hk b o (λq=>hb (aj b q)) e) (.inl (hP i v u hx hp)))
 Bl:=λA s E Q hh f b0 hQ=>(W A hh).done s _ E (by rw[hn];exact b0) λbu tk hk=>⟨rfl,hQ bu tk λb o hb e=>hk b o (λq=>hb (aj b q)) e⟩
 self:=λA i s E Q hh b0 q=>(W A hh).self i s Q E b0 q
 vt:=ht
theorem o1.Kt(W:∀A:cB,A.handled=aa->WalksT X.prog X.w A dH fp qf n Pt fB WZ)(hn:n=xs.length)(hP:∀i v ao,xs[i]?=I v->Pt i ao->∃vs,v=.aV vs/\bE X ju vs ao.toList)(aj:∀b∈qf,b∈own)(aT:∀b∈fp,b∈own\/ju b≠aa)(ht:∀i h,fB i h->∀b∈own,∃o,h.get? b=I o):o1 X (.Tuple Ku tn tp) dH own fB xs ju where
 frame:=λi h bu b0 f tW hk=>(W {} rfl).frame i h bu b0 λb hb o e=>by
  rcases aT b hb with q|q
  .exact hk b q o e
  .obtain⟨hV,bz⟩:=Option.ne_none_iff_exists'.mp q;have:=f b hV bz;rw[e]at this;cases this;exact tW b o bz
 item:=λA i s E Q v hh f hx b0 hQ=>by
  have hi:i<n:=by rw[hn];exact(List.getElem?_eq_some_iff.mp hx).1
  refine(W A hh).item i s _ E hi b0 λT ao bu tk hp _ hT ax hk=>?_;refine(W A hh).go Ku tn tp i T _ _ E ax λKv W2 qQ=>?_;obtain⟨vs,rfl,r⟩:=hP i v ao hx hp;refine hQ (.ref T) Kv tk W2 (λb o hb e=>qQ b o (λq=>hb (aj b q)) (hk b o (λq=>hb (aj b q)) e)) (.inr ⟨⟨_,_,_,rfl⟩,vs,T,ao.toList,rfl,rfl,?_,r⟩);obtain⟨o,g,c,m,d⟩:=hT;exact⟨o,qQ T o ((W A hh).apart i T bu ax) g,c,m,d⟩
 Bl:=λA s E Q hh f b0 hQ=>(W A hh).done s _ E (by rw[hn];exact b0) λbu tk hk=>⟨rfl,hQ bu tk λb o hb e=>hk b o (λq=>hb (aj b q)) e⟩
 self:=λA i s E Q hh b0 q=>(W A hh).self i s Q E b0 q
 vt:=ht
inductive W3(X:Cx)(k:Nat)(Y:bN)(view:bV)(P F:Kp)(G:J)(ab:b5)(z:ay)(A:cB)(own:List aC)(s aD:bA):Prop
 |mk (x:aO X k Y view P F G ab z A aD) (f:∀b∈own,jC P F G ab b) (h:∀b∈own,∀o,s.heap.get? b=I o->aD.heap.get? b=I o)
inductive W4(X:Cx)(k:Nat)(Y:bN)(view:bV)(P F:Kp)(G:J)(ab:b5)(z:ay)(A:cB)(own:List aC)(s:bA):Prop
 |mk (eU:Kp) (l:P.le eU) (x:aO X k Y view eU F G ab z A s) (og:∀{aX aS ec aD},aO X k Y view eU aX aS ab ec A aD->W3 X k Y view P aX aS ab ec A own s aD)
theorem aO.EK(x:aO X k Y view P F G ab z A s)(aT:∀b∈own,jC P F G ab b)(ht:∀b∈own,∃o,s.heap.get? b=I o):W4 X k Y view P F G ab z A own s:=by
 let c:Kp:=λa=>match P a with
  |some o=>I o
  |none=>if a∈own then s.heap.get? a else aa
 have g:P.le c:=λa o e=>by show(match P a with|some o=>I o|none=>_)=_;rw[e]
 have i:∀a,a∈own->c a=s.heap.get? a:=λa h=>by
  show(match P a with|some o=>I o|none=>_)=_;rw[(aT a h).p];exact if_pos h
 have j:∀a,c a≠aa->P a≠aa\/a∈own:=λa h=>by
  cases e:P a with
  |some o=>exact .inl (by simp)
  |none=>
   by_cases q:a∈own
   .exact .inr q
   .exact absurd (show c a=aa by show(match P a with|some o=>I o|none=>_)=_;rw[e];exact if_neg q) h
 have n:∀a,a∈own->c a≠none:=λa h=>by
  obtain⟨o,e⟩:=ht a h;rw[i a h,e];simp
 refine⟨c,g,⟨x.ok,x.eZ.t g,x.dC,x.gz,x.fa,⟨λa o e=>?_,x.aP.f,x.aP.fo,λa h=>?_,x.aP.fs,x.aP.sm,x.aP.os,x.aP.gens⟩,⟨x.bZ.bZ,λa h=>⟨?_,(x.bZ.apart a h).2⟩,x.bZ.jo⟩⟩,λ{u v w B} y=>⟨⟨y.ok,x.eZ,y.dC,y.gz,y.fa,⟨λa o e=>y.aP.p _ _ (g a o e),y.aP.f,y.aP.fo,λa h=>?_,y.aP.fs,y.aP.sm,y.aP.os,y.aP.gens⟩,⟨y.bZ.bZ,λa h=>⟨(x.bZ.apart a h).1,(y.bZ.apart a h).2⟩,y.bZ.jo⟩⟩,λb d=>?_,λb d o e=>?_⟩⟩
 .cases q:P a with
  |some r=>
   have:=g a r q;rw[this]at e;cases e;exact x.aP.p _ _ q
  |none=>
   rcases j a (by rw[e];simp)with h|h
   .exact absurd q h
   .rw[i a h]at e;exact e
 .rcases j a h with h|h
  .exact x.aP.pf a h
  .exact⟨(aT a h).f,(aT a h).s⟩
 .cases q:c a with
  |none=>rfl
  |some o=>
   rcases j a (by rw[q];simp)with l|l
   .exact absurd (x.bZ.apart a h).1 l
   .exact absurd h (aT a l).e
 .refine y.aP.pf a ?_;cases e:P a with
  |none=>exact absurd e h
  |some o=>rw[g a o e];simp
 .have q:=y.aP.pf b (n b d);exact⟨(aT b d).p,q.1,q.2,(aT b d).e,(aT b d).m⟩
 .exact y.aP.p b o (by rw[i b d];exact e)
theorem aO.Bm(x:aO X k Y view P F G ab z A s){own:List aC}(f:∀b∈own,jC P F G ab b){h:gh}{t:Nat}(hs:∀b o,b∉own->s.heap.get? b=I o->h.get? b=I o):aO X k Y view P F G ab z A {s with heap:=h,toks:=t}:=by
 have eH:∀b,(P b≠aa\/F b≠aa\/G b≠aa\/ig ab b)->b∉own:=by
  intro b h hb;rcases h with h|h|h|h
  .exact h (f b hb).p
  .exact h (f b hb).f
  .exact h (f b hb).s
  .exact(f b hb).e h
 refine⟨x.ok,x.eZ,x.dC,x.gz,x.fa,⟨λb q af=>?_,λb q af=>?_,λb q af=>?_,x.aP.pf,x.aP.fs,x.aP.sm,x.aP.os,x.aP.gens⟩,⟨?_,x.bZ.apart,λb af=>?_⟩⟩
 .exact hs _ _ (eH b (.inl (by rw[af];exact oS _))) (x.aP.p _ _ af)
 .exact hs _ _ (eH b (.inr (.inl (by rw[af];exact oS _)))) (x.aP.f _ _ af)
 .obtain⟨qb,h1,h2⟩:=x.aP.fo b q af;exact⟨qb,hs _ _ (eH b (.inr (.inr (.inl (by rw[af];exact oS _))))) h1,h2⟩
 .obtain⟨eG,dN,eL⟩:=x.bZ.bZ;refine⟨eG,⟨?_,λn hn=>?_⟩,eL⟩
  .obtain⟨m,⟨o,es,ep,g,w⟩,b2⟩:=dN.z;exact⟨m,⟨o,es,ep,hs _ _ (eH _ (.inr (.inr (.inr (.inl rfl))))) g,w⟩,b2⟩
  .obtain⟨c,b1,⟨o,g,w⟩⟩:=dN.cell n hn;exact⟨c,b1,o,hs _ _ (eH _ (.inr (.inr (.inr (.inr ⟨n,b1⟩))))) g,w⟩
 .obtain⟨q,h1⟩:=x.bZ.jo b af;exact⟨q,hs _ _ (eH b (.inr (.inr (.inr af)))) h1⟩
def sP(X:Cx)(k:Nat)(Y:bN)(view:bV)(target:aR)(t:Tg):Prop:=
 ∀(P F:Kp) (G:J) (ab:b5) (z:ay) (A:cB) (s:bA) (v:V) (u:aw) (Q:ay->Prop),aO X k Y view P F G ab z A s->tV X F target s.heap v u->p5 t v z Q->
  bW (b6 X.prog X.w) A (vr target ab u) (λ_ aD=>∃ec,aO X k Y view P F G ab ec A aD/\Q ec) bO s
theorem W5(jt:jX view)(hv:(i,n)∈view)(hk:Y.names.lookup n=I .local\/Y.names.lookup n=I .cell):sP X k Y view (.Name n pos) (.cD i):=by
 intro P F G ab z A s v u Q x r b;refine cps λG0 a=>?_;rcases r with r|⟨⟨_,_,_,e⟩,_⟩
 .refine a ?_;clear a;exact ED (x.bind jt hv hk r λc y=>⟨_,y,b⟩)
 .refine a ?_;clear a;cases e
theorem W6(jt:jX view):∀(ps:List (Nat×bg)) (es:List aR) (vs:List V) (ao:List aw) (z:ay) (s:bA),aO X k Y view P F G ab z A s->bE X F vs ao->(es.length=ps.length/\∀(j:Nat) (p:Nat×bg),ps[j]?=I p->∃pos,es[j]?=I (Bn p.2 pos))->(∀p∈ps,p∈view/\(Y.names.lookup p.2=I .local\/Y.names.lookup p.2=I .cell))->ps.length=vs.length->bW (b6 X.prog X.w) A (Kh ((sN es ab).map (·.2)) ao) (λ_ aD=>aO X k Y view P F G ab (i6 z (ps.map (·.1)) vs) A aD) bO s:=by
 intro c;induction c with
 |nil=>
  intro es;intro d;cases d with
  |nil=>intro ao z s x r a _ _;obtain rfl:=r;have:es=[]:=List.length_eq_zero_iff.mp a.1;subst this;exact fH x
  |cons _ _=>
   intro _ _ _ _ _ _ _ h;cases h
 |cons p ps f=>
  intro es;intro g;cases g with
  |nil=>
   intro _ _ _ _ _ _ _ h;cases h
  |cons v vs=>
   intro ao z s x r a b h;obtain⟨u,ao,rfl,i,l⟩:=r;cases es with
   |nil=>cases a.1
   |cons e es=>obtain⟨pos,m⟩:=a.2 0 p rfl;cases m;rw[yR rfl];refine cG (kh (ED (x.bind jt (b p (.head _)).1 (b p (.head _)).2 i λaD y=>?_)));exact f es vs ao _ aD y l ⟨by simpa using a.1,λj q n=>a.2 (j+1) q n⟩ (λq o=>b q (.tail _ o)) (by simpa using h)
theorem W7:∀{ps:List (Nat×bg)} {es:List aR},(es.length=ps.length/\∀(j:Nat) (p:Nat×bg),ps[j]?=I p->∃pos,es[j]?=I (Bn p.2 pos))->(sN es ab).length=ps.length/\(sN es ab).findIdx? (·.1)=none:=by
 intro c;induction c with
 |nil=>intro es h;have:es=[]:=List.length_eq_zero_iff.mp h.1;subst this;exact⟨rfl,rfl⟩
 |cons p ps d=>
  intro f;cases f with
  |nil=>
   intro h;cases h.1
  |cons e es=>intro h;obtain⟨pos,g⟩:=h.2 0 p rfl;cases g;obtain⟨a,b⟩:=d ⟨by simpa using h.1,λj q i=>h.2 (j+1) q i⟩;rw[yR rfl];exact⟨congrArg (· +1) a,by rw[WM];simp[b]⟩
theorem W8(jt:jX view){ps:List (Nat×bg)}{es:List aR}{n:Nat}{pos:b3}(ba:es.length=ps.length/\∀(j:Nat) (p:Nat×bg),ps[j]?=I p->∃pos,es[j]?=I (Bn p.2 pos))(hp:∀p∈ps,p∈view/\(Y.names.lookup p.2=I .local\/Y.names.lookup p.2=I .cell)):sP X k Y view (.Tuple es n pos) (.fG (ps.map (·.1))):=by
 intro P F G ab z A s v u Q x r aj;cases v with
 |aV vs=>
  obtain⟨hl,aj⟩:=aj;have hl:ps.length=vs.length:=by simpa using hl
  obtain⟨T,ao,rfl,hT,rr⟩:∃T ao,u=.ref T/\w5 s.heap T (p8 ao)/\bE X F vs ao:=by
   refine cps λG0 g0=>?_;rcases r with r|⟨_,iF,T,ao,e,e2,h,q⟩
   .refine g0 ?_;clear g0;obtain⟨a,ao,m,rfl,f,rr,af,_⟩:=m8 r;exact⟨a,ao,rfl,⟨_,x.aP.f _ _ f,rfl,m,rfl⟩,rr⟩
   .refine g0 ?_;clear g0;cases e;exact⟨T,ao,e2,h,q⟩
  show bW _ A (do vc pos;unpack (.ref T) (sN es ab)) _ bO s;refine cG (rq ?_);obtain⟨l2,l3⟩:=W7 (ab:=ab) ba;unfold unpack;rw[l2,l3,hl,rr.n X,<- jU];refine cG (kh (Ki x.gz.1 hT λbu W9=>?_));exact cy (W6 jt ps es vs ao z _ (x.kz λb o e=>W9 b o (oW (kT e)) e) rr ba hp hl) (λ_ cN af=>⟨_,af,aj⟩) λ_ _ af=>af
 |_=>exact aj.elim
theorem tV.bI(l:F.le cZ)(r:tV X F t h v u):tV X cZ t h v u:=by
 refine cps λG0 f=>?_;rcases r with r|⟨e,vs,T,g,a,b,c,d⟩
 .refine f ?_;clear f;exact .inl (r.bI X l)
 .refine f ?_;clear f;exact .inr ⟨e,vs,T,g,a,b,c,bE.bI X l d⟩
theorem Kw{xs:List V}{i:Nat}(h:i<xs.length):∃x,xs[i]?=I x/\xs.drop i=x::xs.drop (i+1):=by refine⟨xs[i],rj h,?_⟩;rw[Kx h]
inductive FJ(X:Cx)(k:Nat)(Y:bN)(view:bV)(P F:Kp)(ab:b5)(A:cB)(own:List aC)(fB:Nat->gh->Prop)(xs:List V)(f:List V->SW)(Q:Fl->ay->J->Prop)(n:Nat)(s:bA):Prop
 |mk (i:Nat) (z:ay) (aX:Kp) (aS:J) (hi:i<=xs.length) (e:n=xs.length+1- i) (l:F.le aX) (x:aO X k Y view P aX aS ab z A s) (b0:fB i s.heap) (aT:∀b∈own,jC P aX aS ab b) (aj:f (xs.drop i) z aS Q)
theorem Xa{target:aR}{t:Tg}{body:List gL}{w:SW}(ht:sP X k Y view target t)(hb:rA X k Y view body w){dH:aC}{own:List aC}{fB:Nat->gh->Prop}{xs:List V}{ju:Kp}(it:o1 X target dH own fB xs ju)(rF:ju.le F){Q:Fl->ay->J->Prop}(x:aO X k Y view P F G ab z A s)(b0:fB 0 s.heap)(aT:∀b∈own,jC P F G ab b)(aj:d8 t w xs z G Q):yr (b6 X.prog X.w) A (.forLoop target (.ref dH) body [] ab) (λr aD=>∃f,r=.ok f/\sJ X k Y view P F ab A Q f aD) s:=by
 refine codeAny_forLoop_any (FJ X k Y view P F ab A own fB xs (d8 t w) Q) ?_ (xs.length+1)
  ⟨0,z,F,G,jW _,rfl,.r F,x,b0,aT,by simpa using aj⟩
 rintro n s ⟨i,z,aX,aS,hi,rfl,l,x,b0,aT,aj⟩;have xd:ju.In s.heap:=λa o e=>x.aP.f _ _ (l _ _ (rF _ _ e));by_cases iV:i<xs.length
 .obtain⟨v,hx,aF⟩:=Kw iV;rw[aF]at aj;replace aj:p5 t v z λz=>w z aS λfl z G=>match fl with
   |.r v=>Q (.r v) z G
   |_=>d8 t w (xs.drop (i+1)) z G Q:=aj
  refine cy (it.item A i s bO (λu a7=>bW (b6 X.prog X.w) A (vr target ab u) (λ_ cN=>bW (b6 X.prog X.w) A (execs body ab) (λf kE=>match f with
      |.next|.cont=>∃m,m<xs.length+1- i/\FJ X k Y view P F ab A own fB xs (d8 t w) Q m kE
      |.brk=>∃f,(Ka Flow.next:wQ)=.ok f/\sJ X k Y view P F ab A Q f kE
      |.ret v=>∃f,(Ka (Flow.ret v):wQ)=.ok f/\sJ X k Y view P F ab A Q f kE) bO cN) bO a7) v x.gz.1 xd hx b0 ?_) ?_ λ_ _ af=>af.elim
  .intro u bu tk sO hk ir;have y:=x.Bm (t:=tk) aT hk;have fe:ju.In bu:=λa o e=>y.aP.f _ _ (l _ _ (rF _ _ e));obtain⟨eU,lp,af,og⟩:=y.EK aT (it.vt _ _ sO);refine cy (ht _ _ _ _ _ _ _ _ _ _ af (ir.bI (rF.t l)) aj) (λ_ cN jq=>?_) λ_ _ af=>af;obtain⟨vv,df,EM⟩:=jq;refine cy (hb _ _ _ _ _ _ _ _ df EM) (λf kE rG=>?_) λ_ _ af=>af;obtain⟨fl,EN,rz,sH,iU,jF,rf,q⟩:=rG;obtain⟨vx,yT,hO⟩:=og jF;have yU:fB (i+1) kE.heap:=it.frame _ _ _ sO fe (λa o e=>jF.aP.f _ _ (iU _ _ (l _ _ (rF _ _ e)))) hO;cases fl with
   |n=>obtain rfl:=rf;exact⟨xs.length+1- (i+1),by exact(O [] [_,_] (.i (.U .y .x) (.U (.s (.p .x 1) (.p .y 1)) (.s (.p .x 1) .y)))) iV,i+1,EN,rz,sH,iV,rfl,l.t iU,vx,yU,yT,q⟩
   |c=>obtain rfl:=rf;exact⟨xs.length+1- (i+1),by exact(O [] [_,_] (.i (.U .y .x) (.U (.s (.p .x 1) (.p .y 1)) (.s (.p .x 1) .y)))) iV,i+1,EN,rz,sH,iV,rfl,l.t iU,vx,yU,yT,q⟩
   |r w=>obtain⟨eT,rfl,ru⟩:=rf;exact⟨_,rfl,.r w,EN,rz,sH,l.t iU,vx,⟨eT,rfl,ru⟩,q⟩
  .intro r a7 du;cases r with
   |none=>exact du.elim
   |some u=>exact cy du (λ_ cN jq=>cy jq (λ_ kE rG=>cy rG (λf vy EO=>by cases f<;>exact EO) λ_ _ af=>af.elim) λ_ _ af=>af.elim) λ_ _ af=>af.elim
 .have e:i=xs.length:=by exact(O [] [_,_] (.i (.ag .x .y) (.i (.n (.U .x .y)) (.E .x .y)))) hi iV
  subst e;refine cy (it.Bl A s bO (λa7=>aO X k Y view P aX aS ab z A a7) x.gz.1 xd b0 λbu tk hk=>x.Bm (t:=tk) aT hk) (λr a7 du=>?_) λ_ _ af=>af.elim;obtain⟨rfl,y⟩:=du;have aj:Q .n z aS:=by simpa[S5,S6]using aj
  exact Kj ⟨.next,rfl,.n,z,aX,aS,l,y,rfl,aj⟩
abbrev IW:=ay->J->(List V->J->Prop)->Prop
inductive Xb(X:Cx)(k:Nat)(Y:bN)(view:bV)(target:aR)(P F:Kp)(ab:b5)(z:ay)(A:cB)(Q:List V->J->Prop)(v:aw)(s:bA):Prop
 |mk (dH:aC) (own:List aC) (fB:Nat->gh->Prop) (xs:List V) (aX:Kp) (aS:J) (e:v=.ref dH) (l:F.le aX) (x:aO X k Y view P aX aS ab z A s) (it:o1 X target dH own fB xs aX) (b0:fB 0 s.heap) (aT:∀b∈own,jC P aX aS ab b) (hl:xs.length<=2*cK) (q:Q xs aS)
def sQ(X:Cx)(k:Nat)(Y:bN)(view:bV)(target iter:aR)(w:IW):Prop:=
 ∀(P F:Kp) (G:J) (ab:b5) (z:ay) (A:cB) (s:bA) (Q:List V->J->Prop),aO X k Y view P F G ab z A s->w z G Q->
  bW (b6 X.prog X.w) A (ij iter ab) (λxv a7=>bW (b6 X.prog X.w) A (pyIter xv) (Xb X k Y view target P F ab z A Q) bO a7) bO s
theorem EP{target:aR}{dH:aC}{u:aw}{o:da}{n:String}{vs:Array aw}{prog:uX}{w:iS}{A:cB}{s:bA}{E:aw->bA->Prop}{Q:Unit->bA->Prop}(ho:s.heap.get? dH=I o)(hc:o.cls=.type n)(aF:o.data=.fields vs)(hn:(["enumerate","zip","dict_itemiterator","dict_reverseitemiterator","odict_iterator","itertools.zip_longest","itertools.pairwise"].contains n)=ak)(q:Q () s):bW (b6 prog w) A (EI target (.ref dH) u) Q E s:=by
 have key:∀a,bW (b6 prog w) A (do
   let o<- load dH
   match o.cls,o.data with
   |.type n,.fields vs=>
    if["enumerate","zip","dict_itemiterator","dict_reverseitemiterator","odict_iterator","itertools.zip_longest","itertools.pairwise"].contains n&&vs[0]?==I (xe a)then
     rule "for.unpacks-the-owned-tuple"
     updateField dH 0 .none
   |_,_=>eJ ():Sem Unit) Q E s:=λa=>by
  refine cG (wpAny_load ho ?_);rw[hc,aF];dsimp only;rw[hn,Ky,if_neg (by decide)];exact fH q
 cases target<;>first
  |exact fH q
  |(cases u<;>first|exact fH q|exact key _)
theorem Xc(h:bS X k Y view e w):sQ X k Y view target e λz G Q=>w z G λa G=>bR (p6 .s a .n) λxs=>Q xs G:=by
 intro P F G ab z A s Q x aj;refine h.then x aj λv u cf cg a7 bG br bX q=>?_;obtain⟨xs,e,q⟩:=lx q;have aT:=br.fresh (a:=a7.heap.objs.size) (gB _);skip;cases v with
 |l ys=>
  cases e;obtain⟨a,ao,n,rfl,g,r,af⟩:=l5 bX;have ag:a7.heap.IsList a ao.toArray:=⟨_,br.aP.f _ _ g,rfl,n,rfl⟩
  have cS:a≠a7.heap.objs.size:=oW (kT (br.aP.f _ _ g));refine wpAny_pyIter_list ag ⟨a7.heap.objs.size,[a7.heap.objs.size],_,xs,cf,cg,rfl,bG,br.kz (gQ.push _ _),o1.EJ (λA hh=>Walks.list hh _ a cS ao.toArray) (by rw[jU,r.n X]) (λi v u hv hu=>?_) (λb hb=>hb) (λb hb=>?_) (λA i s u E Q b0 q=>?_) (λi h b0 b hb=>?_),⟨⟨_,qd _ rfl,rfl,rfl⟩,ag.push _⟩,λb hb=>?_,af,q⟩
  .obtain⟨ft,bz,rr⟩:=r.at X hv;rw[vf,bz]at hu;cases hu;exact rr
  .rcases List.mem_cons.mp hb with rfl|hb
   .exact .inl (.head _)
   .rcases List.mem_cons.mp hb with rfl|hb
    .exact .inr (by rw[g];simp)
    .cases hb
  .obtain⟨⟨o,ho,hc,aF⟩,_⟩:=b0;exact EP ho hc aF (by decide) q
  .rcases List.mem_cons.mp hb with rfl|hb
   .obtain⟨⟨o,ho,_⟩,_⟩:=b0;exact⟨o,ho⟩
   .cases hb
  .rcases List.mem_cons.mp hb with rfl|hb
   .exact aT
   .cases hb
 |aV ys=>
  cases e;obtain⟨a,ao,n,rfl,g,r,af,_⟩:=m8 bX;have ag:a7.heap.IsTuple a ao.toArray:=⟨_,br.aP.f _ _ g,rfl,n,rfl⟩
  have cS:a≠a7.heap.objs.size:=oW (kT (br.aP.f _ _ g));refine wpAny_pyIter_tuple ag ⟨a7.heap.objs.size,[a7.heap.objs.size],_,xs,cf,cg,rfl,bG,br.kz (gQ.push _ _),o1.EJ (λA hh=>Walks.tuple hh _ a cS ao.toArray) (by rw[jU,r.n X]) (λi v u hv hu=>?_) (λb hb=>hb) (λb hb=>?_) (λA i s u E Q b0 q=>?_) (λi h b0 b hb=>?_),⟨⟨_,qd _ rfl,rfl,rfl⟩,⟨_,yu _ (br.aP.f _ _ g),rfl,n,rfl⟩⟩,λb hb=>?_,af,q⟩
  .obtain⟨ft,bz,rr⟩:=r.at X hv;rw[vf,bz]at hu;cases hu;exact rr
  .rcases List.mem_cons.mp hb with rfl|hb
   .exact .inl (.head _)
   .rcases List.mem_cons.mp hb with rfl|hb
    .exact .inr (by rw[g];simp)
    .cases hb
  .obtain⟨⟨o,ho,hc,aF⟩,_⟩:=b0;exact EP ho hc aF (by decide) q
  .rcases List.mem_cons.mp hb with rfl|hb
   .obtain⟨⟨o,ho,_⟩,_⟩:=b0;exact⟨o,ho⟩
   .cases hb
  .rcases List.mem_cons.mp hb with rfl|hb
   .exact aT
   .cases hb
 |_=>cases e
theorem Xd:∀(xs:List V) (n i:Nat),(m5 n xs)[i]?=(xs[i]?).map λx=>.aV [.i (n+i:Nat),x]:=by
 intro xs;induction xs with
 |nil=>exactλ_ _=>rfl
 |cons x xs a=>
  intro n i;cases i with
  |zero=>rfl
  |succ i=>show(m5 (n+1) xs)[i]?=(xs[i]?).map _;rw[a (n+1) i,Xe];rfl
theorem Kz:∀(xs:List V) (n:Nat),(m5 n xs).length=xs.length:=by
 intro a;induction a with
 |nil=>exactλ_=>rfl
 |cons _ xs b=>exactλn=>congrArg (· +1) (b (n+1))
theorem Xf:∀(xs ys:List V) (i:Nat) (v:V),(qY xs ys)[i]?=I v->∃x y,xs[i]?=I x/\ys[i]?=I y/\v=.aV [x,y]:=by
 intro xs;induction xs with
 |nil=>intro ys i v h;cases h
 |cons x xs a=>
  intro ys i v h;cases ys with
  |nil=>cases h
  |cons y ys=>cases i with
   |zero=>exact⟨x,y,rfl,rfl,(xa h).symm⟩
   |succ i=>exact a ys i v h
theorem KA:∀(xs ys:List V),(qY xs ys).length=eQ xs.length ys.length:=by
 intro xs;induction xs with
 |nil=>exactλ_=>(Nat.zero_min _).symm
 |cons _ xs a=>
  intro ys;cases ys with
  |nil=>exact(Nat.min_zero _).symm
  |cons _ ys=>exact(congrArg (· +1) (a ys)).trans (Nat.succ_min_succ ..).symm
theorem Xg:∀(k n i:Nat),i<k->(tL n k)[i]?=I (.i (n+i:Nat)):=by
 intro k;induction k with
 |zero=>exactλ_ _ h=>absurd h (I1 _)
 |succ k a=>
  intro n i h;cases i with
  |zero=>rfl
  |succ i=>show(tL (n+1) k)[i]?=_;rw[a (n+1) i (Nat.lt_of_succ_lt_succ h),Xe];rfl
theorem ER:∀(k n:Nat),(tL n k).length=k:=by
 intro a;induction a with
 |zero=>exactλ_=>rfl
 |succ k b=>exactλn=>congrArg (· +1) (b (n+1))
theorem rH(n a b:Nat)(h:a≠b):n+a≠n+b:=by exact(O [] [_,_,_] (.i (.n (.E .y .u)) (.n (.E (.p .x .y) (.p .x .u))))) h
theorem tX(h:a<n)(b:Nat):a≠n+b:=by exact(O [] [_,_,_] (.i (.U .x .y) (.n (.E .x (.p .y .u))))) h
theorem bS.ES(aT:bS X k Y view f λ_ G Q=>Q (.bC b) G)(ha:vj f=ak)(hT:tN b=.type T)(jD:m7 X k Y view es ws)(hp:(es.all λe=> !iH e)=ai)(x:aO X k Y view P F G ab z A s)(aj:ws z G R)(h:∀vs ao cf cg a7,F.le cf->aO X k Y view P cf cg ab z A a7->bE X cf vs ao->R vs cg->bW (b6 X.prog X.w) A (l7 (.type T) ao) Q bO a7):bW (b6 X.prog X.w) A (ij (.Call f es [] pos) ab) Q bO s:=by refine Call_ (aT.then (R:=λv a=>v=.bC b/\a=G) x ⟨rfl,rfl⟩ λu y cf cg a7 c d g q=>?_) (by cases f<;>first|rfl|cases ha);obtain⟨rfl,rfl⟩:=q;obtain rfl:=g;rw[hT];refine JN (vi hp) (w7 hp ?_);refine cy (jD _ _ _ _ _ _ _ _ _ d aj) (λao i j=>?_) λ_ _ l=>l;obtain⟨vs,m,n,o,p,r,_,q⟩:=j;exact h vs ao m n i (c.t o) p r q
theorem Xh(aT:bS X k Y view f λ_ G Q=>Q (.bC .e) G)(ha:vj f=ak)(ba:bS X k Y view e w)(gC:iH e=ak):sQ X k Y view (.Tuple es tn tp) (.Call f [e] [] pos) λz G Q=>w z G λa G=>bR (p6 .qV a .n) λxs=>Q xs G:=by
 intro P F G ab z A s Q x E;refine aT.ES (T:="enumerate") ha rfl (tQ ba u0 gC) (by simp[gC]) x (R:=λvs G=>bR (mG vs) λa=>bR (p6 .qV a .n) λxs=>Q xs G) E λvs m H I d K l L q=>?_;replace q:=od L q;refine cps λG0 j=>?_;obtain⟨a,u,rfl,M,q⟩:=q;replace q:=lx q;obtain⟨xs,e,q⟩:=q;obtain⟨N,O,rfl⟩:=Option.map_eq_some_iff.mp e;obtain rfl:=(oO a).eq O;refine j ?_;clear j
 ··skip;refine cps λG0 j=>?_;obtain⟨a,m,n,rfl,g,r,S⟩:=l5 M;refine j ?_;clear j;have U:d.heap.IsList a m.toArray:=⟨_,l.aP.f _ _ g,rfl,n,rfl⟩
   have p:=kT (l.aP.f _ _ g);refine call_enumerate_list U λV ba W ji B=>?_;have Z:=l.kz (h:=V) B;refine wpAny_pyIter_enum ba ?_;have fe:=l.fresh (a:=d.heap.objs.size) (gB _);have gj:=l.fresh (a:=d.heap.objs.size+1) (Be _);refine⟨d.heap.objs.size+1,[d.heap.objs.size+1,d.heap.objs.size],_,m5 0 N,H,I,rfl,K,Z,o1.Kt (λA hh=>WalksT.enumerate hh (d.heap.objs.size+1) d.heap.objs.size a (Nat.ne_of_gt (Bf _)) (oW (JC p)) (oW p) m.toArray)
    (by rw[jU,Kz,r.n X]) (λi v u6 C hu=>?_) (λb c=>c) (λb c=>?_) (λi h b0 b c=>?_),⟨⟨_,ba⟩,W,⟨_,B _ _ (l.aP.f _ _ g),rfl,n,rfl⟩⟩,λb c=>?_,by rw[Kz];exact S,q⟩
   .obtain⟨t,fq,D,rfl⟩:=hu;rw[Xd]at C;refine cps λG0 j=>?_;obtain⟨y,hy,rfl⟩:=Option.map_eq_some_iff.mp C;obtain⟨ft,bz,rr⟩:=r.at X hy;refine j ?_;clear j;rw[vf,bz]at D;cases D;exact⟨_,rfl,⟨_,_,rfl,⟨t,by simp⟩,bE.uY X rr⟩⟩
   .rcases List.mem_cons.mp c with rfl|c
    .exact .inl (.head _)
    .rcases List.mem_cons.mp c with rfl|c
     .exact .inl (.tail _ (.head _))
     .rcases List.mem_cons.mp c with rfl|c
      .exact .inr (by rw[g];simp)
      .cases c
   .obtain⟨⟨aT0,dN⟩,⟨o,eL,_⟩,_⟩:=b0;rcases List.mem_cons.mp c with rfl|c
    .exact⟨_,dN⟩
    .rcases List.mem_cons.mp c with rfl|c
     .exact⟨_,eL⟩
     .cases c
   .rcases List.mem_cons.mp c with rfl|c
    .exact gj
    .rcases List.mem_cons.mp c with rfl|c
     .exact fe
     .cases c
theorem Xi(aT:bS X k Y view f λ_ G Q=>Q (.bC .zip) G)(ha:vj f=ak)(Xj:bS X k Y view e1 w1)(KC:iH e1=ak)(yV:bS X k Y view e2 w2)(KG:iH e2=ak):sQ X k Y view (.Tuple es tn tp) (.Call f [e1,e2] [] pos) λz G Q=>w1 z G λa G=>w2 z G λb G=>bR (p6 .z a b) λxs=>Q xs G:=by
 intro P F G ab z A s Q x U;refine aT.ES (T:="zip") ha rfl (tQ Xj (tQ yV u0 KG) KC) (by simp[KC,KG]) x (R:=λvs G=>bR (tJ vs) λp=>bR (p6 .z p.1 p.2) λxs=>Q xs G) U λvs D E H d V o W q=>?_;replace q:=yE W q;refine cps λG0 c=>?_;obtain⟨a,b,u1,u2,rfl,Z,Xl,q⟩:=q;replace q:=lx q;obtain⟨xs,e,q⟩:=q;obtain⟨I,K,e1,e2,rfl⟩:=u7 e;obtain rfl:=(oO a).eq e1;obtain rfl:=(oO b).eq e2;refine c ?_;clear c
 ···skip;refine cps λG0 c=>?_;obtain⟨a,D,n,rfl,g,r,af⟩:=l5 Z;obtain⟨b,vs,m,rfl,t,L,wY⟩:=l5 Xl;refine c ?_;clear c;have w:=kT (o.aP.f _ _ g);have B:=kT (o.aP.f _ _ t);refine call_zip_2 ⟨_,o.aP.f _ _ g,rfl,n,rfl⟩ ⟨_,o.aP.f _ _ t,rfl,m,rfl⟩ λbu M c2 c3 c4 c5 ji C=>?_;have df:=o.kz (h:=bu) C;refine wpAny_pyIter_zip M ?_;have dr:∀j,jC P E H ab (d.heap.objs.size+j):=λj=>o.fresh (yy _ _);refine⟨d.heap.objs.size+4,[d.heap.objs.size+4,d.heap.objs.size+2,d.heap.objs.size+3,d.heap.objs.size,d.heap.objs.size+1],_,qY I K,E,H,rfl,V,df,
     o1.Kt (λA hh=>WalksT.zip2 hh (d.heap.objs.size+4) (d.heap.objs.size+2) (d.heap.objs.size+3) d.heap.objs.size (d.heap.objs.size+1) a b ⟨rH _ 2 4 (by decide),rH _ 3 4 (by decide),rH _ 0 4 (by decide),rH _ 1 4 (by decide),rH _ 2 3 (by decide),rH _ 2 0 (by decide),rH _ 2 1 (by decide),rH _ 3 0 (by decide),rH _ 3 1 (by decide),rH _ 0 1 (by decide),tX w 4,tX w 3,tX w 0,tX w 1,tX B 4,tX B 3,tX B 0,tX B 1⟩ D.toArray vs.toArray)
     (by rw[jU,jU,KA,r.n X,L.n X]) (λi v u6 hv hu=>?_) (λb l=>by simp only[sR,nv,or_false]at l⊢;rcases l with rfl|rfl|rfl|rfl<;>simp) (λb l=>?_) (λi h b0 b l=>?_),
     ⟨M,c2,⟨_,_,c3⟩,c4,c5,⟨_,C _ _ (o.aP.f _ _ g),rfl,n,rfl⟩,⟨_,C _ _ (o.aP.f _ _ t),rfl,m,rfl⟩⟩,λb l=>?_,by rw[KA];exact(O [] [_,_,_] (.i (.ag .x (.m 2 .u)) (.i (.ag .y (.m 2 .u)) (.ag (.i .x .y) (.m 2 .u))))) af wY,q⟩
    .obtain⟨fq,oh,N,S,rfl⟩:=hu;refine cps λG0 c=>?_;obtain⟨KH,aT1,h1,h2,rfl⟩:=Xf I K i v hv;obtain⟨w1,e1,Xm⟩:=r.at X h1;obtain⟨w2,e2,Xn⟩:=L.at X h2;refine c ?_;clear c;rw[vf,e1]at N;cases N;rw[vf,e2]at S;cases S;exact⟨_,rfl,⟨_,_,rfl,Xm,bE.uY X Xn⟩⟩
    .simp only[sR,nv,or_false]at l⊢;refine cps λG0 c=>?_;rcases l with rfl|rfl|rfl|rfl|rfl|rfl|rfl
     .refine c ?_;clear c;exact .inl (.inl rfl)
     .refine c ?_;clear c;exact .inl (.inr (.inl rfl))
     .refine c ?_;clear c;exact .inl (.inr (.inr (.inl rfl)))
     .refine c ?_;clear c;exact .inl (.inr (.inr (.inr (.inl rfl))))
     .refine c ?_;clear c;exact .inl (.inr (.inr (.inr (.inr rfl))))
     .refine c ?_;clear c;exact .inr (by rw[g];simp)
     .refine c ?_;clear c;exact .inr (by rw[t];simp)
    .obtain⟨dN,eL,⟨p,q,a3⟩,⟨o4,a4,_⟩,⟨o5,a5,_⟩,_⟩:=b0;simp only[sR,nv,or_false]at l;refine cps λG0 c=>?_;rcases l with rfl|rfl|rfl|rfl|rfl
     .refine c ?_;clear c;exact⟨_,dN⟩
     .refine c ?_;clear c;exact⟨_,eL⟩
     .refine c ?_;clear c;exact⟨_,a3⟩
     .refine c ?_;clear c;exact⟨_,a4⟩
     .refine c ?_;clear c;exact⟨_,a5⟩
    .simp only[sR,nv,or_false]at l;refine cps λG0 c=>?_;rcases l with rfl|rfl|rfl|rfl|rfl
     .refine c ?_;clear c;exact dr 4
     .refine c ?_;clear c;exact dr 2
     .refine c ?_;clear c;exact dr 3
     .refine c ?_;clear c;exact dr 0
     .refine c ?_;clear c;exact dr 1
theorem Xo(aT:bS X k Y view f λ_ G Q=>Q (.bC .r) G)(ha:vj f=ak)(ba:bS X k Y view e w)(gC:iH e=ak):sQ X k Y view target (.Call f [e] [] pos) λz G Q=>w z G λa G=>bR (p6 .r a .n) λxs=>Q xs G:=by
 intro P F G ab z A s Q x C;refine aT.ES (T:="range") ha rfl (tQ ba u0 gC) (by simp[gC]) x (R:=λvs G=>bR (mG vs) λa=>bR (p6 .r a .n) λxs=>Q xs G) C λvs ao D H d I K L q=>?_;replace q:=od L q;refine cps λG0 p=>?_;obtain⟨a,u,rfl,M,q⟩:=q;replace q:=lx q;obtain⟨xs,e,q⟩:=q;replace e:=Option.bind_eq_some_iff.mp e;obtain⟨m,N,e⟩:=e;obtain rfl:=(i7 a).eq N;refine p ?_;clear p;by_cases j:¬(-100000<=m/\m<=100000)
 .rw[if_neg j]at e;cases e
 replace j:=Classical.not_not.1 j
 ···rw[if_pos j]at e;cases e;refine cps λG0 p=>?_;obtain⟨t,rfl⟩:=M;refine p ?_;clear p;refine call_range_1 ?_;have B:=K.heap (t:=d.toks+1+1) (gQ.push d.heap {cls:=.type "range",data:=.fields #[.int 0 d.toks,.int m t,.int 1 (d.toks+1)]});refine wpAny_pyIter_range (IsRange.new ..) (small_one (by decide) (by decide) (by exact(O [_] [] (.i (.c (.l (.k (-100000)) .x) (.l .x 100000)) (.l (.k (-2^62)) .x))) j) (by exact(O [_] [] (.i (.c (.l (.k (-100000)) .x) (.l .x 100000)) (.t .x (.k (2^62))))) j)) ?_;have S:=B.kz (gQ.push (d.heap.push {cls:=.type "range",data:=.fields #[.int 0 d.toks,.int m t,.int 1 (d.toks+1)]}) {cls:=.type "range_iterator",data:=.fields #[xe 0,xe (KI 0 m 1),xe 1]});have aT:=B.fresh (a:=(d.heap.push {cls:=.type "range",data:=.fields #[.int 0 d.toks,.int m t,.int 1 (d.toks+1)]}).objs.size) (gB _);have U:KI 0 m 1=(m.toNat:Int):=by rw[rangeSize_one];split<;>(first|exact(O [_] [] (.i (.c (.l (.k (-100000)) .x) (.l .x 100000)) (.i (.t 0 .x) (.e (.s .x 0) (.c (.af .x)))))) j ‹_›|exact(O [_] [] (.i (.c (.l (.k (-100000)) .x) (.l .x 100000)) (.i (.n (.t 0 .x)) (.e 0 (.c (.af .x)))))) j ‹_›)
    refine⟨_,[(d.heap.push {cls:=.type "range",data:=.fields #[.int 0 d.toks,.int m t,.int 1 (d.toks+1)]}).objs.size],_,tL 0 m.toNat,D,H,rfl,I,S,
     o1.EJ (λA V=>Walks.range V _ 0 1 m.toNat) (by rw[ER]) (λi v u y W=>?_) (λb g=>g) (λb g=>.inl g) (λA i s u E Q b0 q=>EP b0 rfl rfl (by decide) q) (λi h b0 b g=>?_),?_,λb g=>?_,by rw[ER];have:(2*cK:Nat)=200000:=rfl;exact(O [_] [_] (.i (.c (.l (.k (-100000)) .x) (.l .x 100000)) (.i (.E (.m 2 .x) 200000) (.ag (.af .x) (.m 2 .x))))) j this,q⟩
    .obtain⟨Z,rfl⟩:=W;have hi:i<m.toNat:=by have:=(List.getElem?_eq_some_iff.mp y).1;rwa [ER]at this
     rw[Xg _ _ _ hi]at y;cases y;exact⟨Z,by simp⟩
    .rcases List.mem_cons.mp g with rfl|g
     .exact⟨_,b0⟩
     .cases g
    .have:=qd (d.heap.push {cls:=.type "range",data:=.fields #[.int 0 d.toks,.int m t,.int 1 (d.toks+1)]}) (o:={cls:=.type "range_iterator",data:=.fields #[xe 0,xe (KI 0 m 1),xe 1]}) rfl;rw[U]at this⊢;simpa[IsRangeIter]using this
    .rcases List.mem_cons.mp g with rfl|g
     .exact aT
     .cases g
theorem Xp(hi:sQ X k Y view target iter wi)(ht:sP X k Y view target t)(hb:rA X k Y view body w)(hs:∀(ab:b5) x,xf iter ab x=eJ x):kW X k Y view (.For target iter body [] pos) λz G Q=>wi z G λxs G=>d8 t w xs z G Q:=by intro P F G ab z A s Q x c;refine wpAny_For (cy (hi _ _ _ _ _ _ _ _ x c) (λxv l d=>cy d (λm n e=>?_) λ_ _ a=>a) λ_ _ a=>a) (hs ab);refine cps λG0 b=>?_;obtain⟨o,own,p,xs,u,v,rfl,g,h,it,b0,i,_,q⟩:=e;refine b ?_;clear b;refine yI (Xa ht hb it (.r _) h b0 i q) λr y j=>?_;refine cps λG0 b=>?_;obtain⟨f,rfl,a⟩:=j;refine b ?_;clear b;exact a.le g
inductive WJ(X:Cx)(k:Nat)(Y:bN)(view:bV)(P F:Kp)(ab:b5)(A:cB)(f:Nat->SW)(Q:Fl->ay->J->Prop)(n:Nat)(s:bA):Prop
 |mk (z:ay) (aX:Kp) (aS:J) (l:F.le aX) (x:aO X k Y view P aX aS ab z A s) (aj:f n z aS Q)
theorem Xr(hc:oU X k Y view c wc)(Xs:∀z G Q,cw z G (λt G=>bR (oN t) λt=>Q t G)->wc z G Q)(hb:rA X k Y view body w):kW X k Y view (.While c body [] pos) λz G Q=>∃n,p7 cw w n z G Q:=by
 intro P F G ab z A s Q x a;obtain⟨n,a⟩:=a;refine wpAny_While (yI (codeAny_whileLoop (R:=λr y=>∃f,r=.ok f/\sJ X k Y view P F ab A Q f y) (WJ X k Y view P F ab A (p7 cw w) Q) ?_ n ⟨z,F,G,.r F,x,a⟩) λr y h=>?_)
 .rintro n s ⟨z,M,C,l,x,a⟩;cases n with
  |zero=>exact a.elim
  |succ n=>
   have D:wc z C λt G=>jB t (w z G λd z G=>IE d (p7 cw w n z G Q) z G Q) (Q .n z G):=Xs _ _ _ a;refine cy (hc _ _ _ _ _ _ _ _ x D) (λt N E=>?_) λ_ _ e=>e.elim;obtain⟨H,I,b,B,q⟩:=E;cases t with
   |false=>exact Kj ⟨.next,rfl,.n,z,H,I,l.t b,B,rfl,q.2 rfl⟩
   |true=>
    refine cy (hb _ _ _ _ _ _ _ _ B (q.1 rfl)) (λf O K=>?_) λ_ _ e=>e.elim;obtain⟨d,g,i,j,m,o,p,q⟩:=K;cases d with
    |n=>obtain rfl:=p;exact⟨n,Bf _,g,i,j,(l.t b).t m,o,q⟩
    |c=>obtain rfl:=p;exact⟨n,Bf _,g,i,j,(l.t b).t m,o,q⟩
    |r v=>obtain⟨u,rfl,L⟩:=p;exact⟨_,rfl,.r v,g,i,j,(l.t b).t m,o,⟨u,rfl,L⟩,q⟩
 .obtain⟨f,rfl,h⟩:=h;exact h
theorem xg:∀(z:ay) (i:Nat) (v:V),dX z i v=z.set i (I v):=by
 intro a;induction a with
 |nil=>exactλ_ _=>rfl
 |cons _ r b=>
  intro c;cases c with
  |zero=>exactλ_=>rfl
  |succ i=>intro v;simp only[RH,RI,RJ,List.set_cons_succ];rw[b i v]
theorem yW:∀(z:ay) (i:Nat),dO z i=(z[i]?).join:=by
 intro a;induction a with
 |nil=>exactλ_=>rfl
 |cons _ r b=>
  intro c;cases c with
  |zero=>simp[Io,Ip,Iq]
  |succ i=>simp only[Io,Ip,Iq,yt];exact b i
def jH(is:List Nat)(a b:ay):Prop:=a.length=b.length/\∀j:Nat,j∉is->a[j]?=b[j]?
theorem jH.refl(is:List Nat)(a:ay):jH is a a:=⟨rfl,λ_ _=>rfl⟩
theorem jH.dX(h:jH is a b)(hi:i∈is)(v:V):jH is (dX a i v) b:=by refine⟨by rw[xg,ET];exact h.1,λj c=>?_⟩;rw[xg,EU (λe=>c (by rw[<- e];exact hi))];exact h.2 j c
theorem jH.i6:∀{js:List Nat} {vs:List V} {is:List Nat} {a b:ay},jH is a b->(∀j∈js,j∈is)->jH is (i6 a js vs) b
 |[],_,_,_,_,h,_=>h
 |_::_,[],_,_,_,h,_=>h
 |j::js,v::vs,is,a,b,h,hj=>jH.i6 (js:=js) (h.dX (hj j (.head _)) v) λi hi=>hj i (.tail _ hi)
theorem EV:∀{is:List Nat} {vs:List V} {a b:ay},jH is a b->is.length=vs.length->i6 a is vs=i6 b is vs
 |[],[],a,b,h,_=>Va λi=>h.2 i (by simp)
 |[],_::_,_,_,_,h=>by cases h
 |_::_,[],_,_,_,h=>by cases h
 |i::is,v::vs,a,b,h,hl=>by
  show i6 (dX a i v) is vs=i6 (dX b i v) is vs;refine EV ⟨by rw[xg,xg,ET,ET];exact h.1,λj hj=>?_⟩ (by simpa using hl);rw[xg,xg];by_cases e:i=j
  .subst e;by_cases q:i<a.length
   .rw[KJ q,KJ (h.1▸q)]
   .rw[qi (by simpa using q),qi (by rw[ET,<- h.1];simpa using q)]
  .rw[EU e,EU e];exact h.2 j (by simp[tO e,hj])
noncomputable def Tg.slots:Tg->List Nat
 |.cD i=>[i]
 |.fG is=>is
theorem Xu(h:jH t.slots a b)(v:V)(Q:ay->Prop)(hq:p5 t v b Q):p5 t v a Q:=by
 cases t with
 |cD i=>have e:=EV (vs:=[v]) h rfl;show Q (dX a i v);have bz:dX a i v=dX b i v:=e;rw[bz];exact hq
 |fG is=>
  cases v with
  |aV vs=>obtain⟨hl,hq⟩:=hq;refine⟨hl,?_⟩;have e:i6 a is vs=i6 b is vs:=EV h hl;rw[e];exact hq
  |_=>exact hq.elim
theorem Xv(h:jH t.slots a b)(hq:p5 t v b Q):p5 t v b λc=>jH t.slots c b/\Q c:=by
 cases t with
 |cD i=>exact⟨(jH.refl _ b).dX (.head _) v,hq⟩
 |fG is=>
  cases v with
  |aV vs=>exact⟨hq.1,jH.i6 (jH.refl _ b) λ_ h=>h,hq.2⟩
  |_=>exact hq.elim
noncomputable def tY(l:ay)(is:List Nat):ay:=is.foldl (λl i=>l.set i aa) l
theorem Xw:∀(is:List Nat) (l:ay),(tY l is).length=l.length:=by
 intro a;induction a with
 |nil=>exactλ_=>rfl
 |cons i is b=>intro l;show(tY (l.set i aa) is).length=_;rw[b];simp
theorem EX:∀(is:List Nat) (l:ay),jH is (tY l is) l:=by
 intro b;induction b with
 |nil=>exactλl=>⟨rfl,λ_ _=>rfl⟩
 |cons i is c=>intro l;refine⟨Xw _ _,λj a=>?_⟩;show(tY (l.set i aa) is)[j]?=_;rw[(c (l.set i aa)).2 j λh=>a (.tail _ h),EU λe=>a (by rw[<- e];exact .head _)]
theorem Xx:∀(is:List Nat) (l:ay) (i:Nat),i∈is->dO (tY l is) i=none:=by
 intro b;induction b with
 |nil=>
  intro _ _ h;cases h
 |cons j is c=>
  intro l i h;show dO (tY (l.set j aa) is) i=aa;by_cases q:i∈is
  .exact c _ i q
  .rcases List.mem_cons.mp h with rfl|h
   .rw[yW,(EX is (l.set i aa)).2 i q];by_cases a:i<l.length
    .rw[KJ a];rfl
    .rw[qi (by simpa using a)];rfl
   .exact absurd h q
noncomputable def kj(ab:b5):List (bg×ni)->List (bg×aC)->List (bg×aC)
 |[],cq=>cq
 |(n,kd)::r,cq=>if kd==.free then kj ab r ((n,(ab.cells.lookup n).getD 0)::cq)else kj ab r cq
theorem KL(h:∀n,(n,kY)∈scope.names->(ab.cells.lookup n).isSome=ai):EY scope ab=eJ (kj ab scope.names []):=by
 simp only[EY];have key:∀(names:List (bg×ni)) (b:List (bg×aC)),(∀n,(n,kY)∈names->(ab.cells.lookup n).isSome=ai)->
   (forIn names b λ(x:bg×ni) (d:List (bg×aC))=>(if x.2==.free then do let a<- cellOf ab x.1;eJ (vz ((x.1,a)::d))else eJ (vz d):Sem (ForInStep (List (bg×aC)))))=eJ (kj ab names b):=by
  intro names;induction names with
  |nil=>intro b _;rfl
  |cons x r f=>
   intro b h;obtain⟨n,kd⟩:=x;rw[List.forIn_cons];unfold kj;dsimp only;by_cases q:(kd==kY)=ai
   .rw[if_pos q,if_pos q];have g:kd=.free:=by simpa using q
    subst g;obtain⟨c,i⟩:=Option.isSome_iff_exists.mp (h n (.head _));unfold cellOf;rw[i];exact f _ λm e=>h m (.tail _ e)
   .rw[if_neg q,if_neg q];exact f _ λm e=>h m (.tail _ e)
 show(forIn scope.names [] _>>=λd=>eJ d)=_;rw[key scope.names [] h];rfl
theorem Xy:∀(names:List (bg×ni)) (cq:List (bg×aC)) (n:bg) (c:aC),(∀n,(n,kY)∈names->(ab.cells.lookup n).isSome=ai)->(n,c)∈kj ab names cq->(n,c)∈cq\/((n,kY)∈names/\ab.cells.lookup n=I c):=by
 intro i;induction i with
 |nil=>exactλ_ _ _ _ h=>.inl h
 |cons j r g=>
  obtain⟨m,kd⟩:=j;intro cq n c a h;unfold kj at h;split at h
  .rename_i q;have l:kd=.free:=by simpa using q
   subst l;rcases g _ n c (λm b=>a m (.tail _ b)) h with h|⟨d,f⟩
   .rcases List.mem_cons.mp h with e|h
    .cases e;obtain⟨p,o⟩:=Option.isSome_iff_exists.mp (a _ (.head _));exact .inr ⟨.head _,by rw[o];rfl⟩
    .exact .inl h
   .exact .inr ⟨.tail _ d,f⟩
  .rcases g _ n c (λm b=>a m (.tail _ b)) h with h|⟨d,f⟩
   .exact .inl h
   .exact .inr ⟨.tail _ d,f⟩
theorem Xz(x:bg):∀(names:List (bg×ni)) (cq:List (bg×aC)),(cq.lookup x).isSome=ai->((kj ab names cq).lookup x).isSome=true:=by
 intro b;induction b with
 |nil=>exactλ_ h=>h
 |cons c r a=>
  obtain⟨m,kd⟩:=c;intro cq h;unfold kj;split
  .exact a _ (JZ h)
  .exact a _ h
theorem XA(x:bg):∀(names:List (bg×ni)) (cq:List (bg×aC)),(x,kY)∈names->((kj ab names cq).lookup x).isSome=true:=by
 intro b;induction b with
 |nil=>
  intro _ h;cases h
 |cons c r a=>
  obtain⟨m,kd⟩:=c;intro cq h;unfold kj;rcases List.mem_cons.mp h with e|h
  .cases e;rw[if_pos (by rfl)];exact Xz x r _ (by rw[rB,beq_self_eq_true];rfl)
  .split
   .exact a _ h
   .exact a _ h
noncomputable def jI(scope Y:bN):Scope:={scope with names:=scope.names.map λ(n,k)=>if(k==.free&&Y.kind==.function&&Y.names.lookup n==I .cell)then(n,.cell)else(n,k)}
theorem EZ(h:ab.scope=Y):relabel scope ab=jI scope Y:=by subst h;rfl
structure xh(scope Y:bN)(view i9:bV)(is:List Nat):Prop where
 kind:scope.kind=.function
 Bb:∀y∈scope.names,y.2≠ .cell
 free:∀n,(n,kY)∈scope.names->Y.names.lookup n=I .cell
 XB:∀y∈scope.names,y.2=.local->scope.names.lookup y.1=I .local
 KN:∀n,(n,kY)∈scope.names->(jI scope Y).names.lookup n=I .cell
 XC:∀n,(jI scope Y).names.lookup n=I .cell\/(jI scope Y).names.lookup n=I .free->(n,kY)∈scope.names
 slots:∀i y,(i,y)∈i9->i∈is\/((i,y)∈view/\(y,kY)∈scope.names)
 KO:∀i y,(i,y)∈view->(y,kY)∈scope.names->(i,y)∈i9/\i∉is
inductive XD(X:Cx)(k:Nat)(Y:bN)(view:bV)(P F:Kp)(G:J)(ab:b5)(z:ay)(A:cB)(C:aC)(s:bA):Prop
 |mk (x:aO X k Y view P F G ab z A s) (f:jC P F G ab C) (h:∃m,s.heap.Ns C m)
inductive XE(X:Cx)(k:Nat)(Y:bN)(view:bV)(P F:Kp)(G:J)(ab:b5)(z:ay)(A:cB)(s:bA)(KP:bN)(i9:bV)(is:List Nat)(C:aC)(E:b5)(c:Prop):Prop
 |mk (P1:Kp) (l:P.le P1) (e:c) (o:∀b,ig E b->b=C\/ig ab b) (p:∀b,P1 b≠aa->P b≠aa\/ig ab b) (x:aO X k KP i9 P1 F G E (tY z is) A s)
  (og:∀{aX aS ec aD},aO X k KP i9 P1 aX aS E ec A aD->F.le aX->jH is ec z->XD X k Y view P aX aS ab z A C aD)
theorem aO.XF(x:aO X k Y view P F G ab z A s)(aU:xh scope Y view i9 is)(hC:s.heap.objs.size<=C)(sL:bu.Ns C λ_=>aa)(hO:gQ s.heap bu):XE X k Y view P F G ab z A {s with heap:=bu,toks:=t} (jI scope Y) i9 is C (Bo scope (kj ab scope.names []) C ab) (EY scope ab=eJ (kj ab scope.names [])):=by
 classical
 have KQ:∀n,(n,kY)∈scope.names->(ab.cells.lookup n).isSome=true:=λn B=>by
  refine cps λG0 r=>?_;obtain⟨V,a,b⟩:=x.bZ.bZ;obtain⟨c,W,_⟩:=a.cell n (.inl (by rw[x.kindOf];exact aU.free n B));refine r ?_;clear r;rw[W];rfl
 have E:∀n c,(kj ab scope.names []).lookup n=I c->(n,kY)∈scope.names/\ab.cells.lookup n=I c:=λn c h=>by
  rcases Xy scope.names [] n c KQ (rC h)with h|h
  .cases h
  .exact h
 have cls:∀n,(n,kY)∈scope.names->∃c,(kj ab scope.names []).lookup n=I c/\ab.cells.lookup n=I c:=λn h=>by
  obtain⟨c,W⟩:=Option.isSome_iff_exists.mp (XA (ab:=ab) n scope.names [] h);exact⟨c,W,(E n c W).2⟩
 have KR:=KL KQ;generalize kj ab scope.names []=dq at E cls KR⊢;have KU:∀a,ig ab a->a≠C:=λa h e=>by
  obtain⟨o,g⟩:=x.bZ.jo a h;exact absurd (kT g) (Nat.not_lt.mpr (e▸hC))
 have dr:=x.fresh hC;have y:=x.heap (t:=t) hO
 let K (a:aC):Prop:=∃n,dq.lookup n=I a
 let P1:Kp:=λa=>match P a with
  |some o=>I o
  |none=>if ig ab a/\¬K a then bu.get? a else aa
 have R:P.le P1:=λa o e=>by show(match P a with|some o=>I o|none=>_)=_;rw[e]
 have Z:∀a,ig ab a->¬K a->P1 a=bu.get? a:=λa d D=>by
  show(match P a with|some o=>I o|none=>_)=_;rw[(x.bZ.apart a d).1];exact if_pos ⟨d,D⟩
 have S:∀a,P1 a≠aa->P a≠aa\/(ig ab a/\¬K a):=λa h=>by
  cases e:P a with
  |some o=>exact .inl (by simp)
  |none=>
   by_cases q:ig ab a/\¬K a
   .exact .inr q
   .exact absurd (show P1 a=aa by show(match P a with|some o=>I o|none=>_)=_;rw[e];exact if_neg q) h
 have E2:∀b,ig (Bo scope dq C ab) b->b=C\/(ig ab b/\K b):=λb h=>by
  rcases h with h|⟨n,h⟩
  .exact .inl h
  .exact .inr ⟨.inr ⟨n,(E n b h).2⟩,n,h⟩
 have kd:∀n,(Bo scope dq C ab).kindOf n=(jI scope Y).names.lookup n:=λn=>by
  show(relabel scope ab).names.lookup n=_;rw[EZ x.fa.scope]
 refine⟨P1,R,KR,λb h=>(E2 b h).elim .inl λh=>.inr h.1,λb h=>(S b h).elim .inl λh=>.inr h.1,?_,λ{aX aS ec aD} j l dD=>?_⟩
 .obtain⟨V,a,b⟩:=y.bZ.bZ;refine⟨x.ok,x.eZ.t R,x.dC,x.gz,⟨EZ x.fa.scope,aU.kind,x.fa.L,x.fa.blt,?_,λn jg c d D=>?_,λn c h=>?_⟩,⟨λa o e=>?_,y.aP.f,y.aP.fo,λa h=>?_,y.aP.fs,y.aP.sm,y.aP.os,y.aP.gens⟩,
   ⟨⟨λn=>if(dq.lookup n).isSome then V n else aa,⟨⟨_,sL,λn B=>?_⟩,λn B=>?_⟩,λi n v H N=>?_⟩,λa h=>?_,λa h=>?_⟩⟩
  .show((relabel scope ab).kind==.module&&_)=ak;rw[EZ x.fa.scope];show(scope.kind==.module&&_)=ak;rw[aU.kind];rfl
  .exact x.fa.DW _ _ _ (E _ _ d).2 (E _ _ D).2
  .exact KU c (.inr ⟨n,(E _ _ h).2⟩)
  .cases q:P a with
   |some hV=>
    have:=R a hV q;rw[this]at e;cases e;exact y.aP.p _ _ q
   |none=>
    rcases S a (by rw[e];simp)with h|h
    .exact absurd q h
    .rw[Z a h.1 h.2]at e;exact e
  .rcases S a h with h|h
   .exact x.aP.pf a h
   .exact(x.bZ.apart a h.1).2
  .rw[kd]at B;have:(dq.lookup n).isSome=false:=by
    cases q:dq.lookup n with
    |none=>rfl
    |some c=>have:=aU.KN n (E n c q).1;rw[B]at this;cases this
   rw[this];rfl
  .rw[kd]at B;have H:=aU.XC n B;refine cps λG0 r=>?_;obtain⟨c,d,D⟩:=cls n H;obtain⟨O,M,Q⟩:=a.cell n (.inl (by rw[x.kindOf];exact aU.free n H));refine r ?_;clear r;rw[D]at M;cases M;refine⟨c,d,?_⟩;rw[d];exact Q
  .rcases aU.slots i n H with h|⟨d,D⟩
   .rw[Xx is z i h]at N;cases N
   .obtain⟨_,M⟩:=aU.KO i n d D;have:dO (tY z is) i=dO z i:=by rw[yW,yW,(EX is z).2 i M]
    rw[this]at N;refine cps λG0 r=>?_;obtain⟨u,T,U⟩:=b i n v d N;obtain⟨c,Q,_⟩:=cls n D;refine r ?_;clear r;exact⟨u,by simp only[Q];exact T,U⟩
  .rcases E2 a h with rfl|⟨d,D⟩
   .refine⟨?_,dr.f,dr.s⟩;cases q:P1 a with
    |none=>rfl
    |some o=>
     rcases S a (by rw[q];simp)with j|j
     .exact absurd dr.p j
     .exact absurd rfl (KU a j.1)
   .refine⟨?_,(x.bZ.apart a d).2⟩;cases q:P1 a with
    |none=>rfl
    |some o=>
     rcases S a (by rw[q];simp)with j|j
     .exact absurd (x.bZ.apart a d).1 j
     .exact absurd D j.2
  .rcases E2 a h with rfl|⟨d,_⟩
   .obtain⟨o,_,_,g,_⟩:=sL;exact⟨o,g⟩
   .exact y.bZ.jo a d
 ·-- og aT3 Iv frame aT4
  refine cps λG0 r=>?_;obtain⟨V,a,b⟩:=y.bZ.bZ;obtain⟨XG,cY,cp⟩:=j.bZ.bZ;refine r ?_;clear r;have E3:∀c,ig ab c->¬K c->∀o,bu.get? c=I o->aD.heap.get? c=I o:=λc d D o g=>j.aP.p _ _ (by rw[Z c d D];exact g);have XH:∀c,ig ab c->∃o,aD.heap.get? c=I o:=λc h=>by
   by_cases q:K c
   .obtain⟨n,B⟩:=q;exact j.bZ.jo c (.inr ⟨n,B⟩)
   .obtain⟨o,g⟩:=y.bZ.jo c h;exact⟨o,E3 c h q o g⟩
  have XI:∀c,ig ab c->P c=aa/\aX c=aa/\aS c=none:=λc h=>by
   refine⟨(x.bZ.apart c h).1,?_⟩;by_cases q:K c
   .obtain⟨n,B⟩:=q;exact(j.bZ.apart c (.inr ⟨n,B⟩)).2
   .obtain⟨o,g⟩:=y.bZ.jo c h;exact j.aP.pf c (by rw[Z c h q];show bu.get? c≠aa;rw[show bu.get? c=I o from g];simp)
  have XJ:¬K ab.locals:=λ⟨n,B⟩=>x.fa.DX n _ (E n _ B).2 rfl;refine⟨⟨x.ok,x.eZ,j.dC,x.gz,x.fa,⟨λa o e=>j.aP.p _ _ (R a o e),j.aP.f,j.aP.fo,λa h=>?_,j.aP.fs,j.aP.sm,j.aP.os,j.aP.gens⟩,⟨⟨λn=>if(dq.lookup n).isSome then XG n else V n,⟨?_,λn B=>?_⟩,λi n v H N=>?_⟩,XI,XH⟩⟩,?_,?_⟩
  .refine j.aP.pf a ?_;cases e:P a with
   |none=>exact absurd e h
   |some o=>rw[R a o e];simp
  .obtain⟨m,⟨o,es,ep,g,w⟩,b2⟩:=a.z;refine⟨m,⟨o,es,ep,E3 _ (.inl rfl) XJ _ g,w⟩,λn B=>?_⟩;have:(dq.lookup n).isSome=false:=by
    cases q:dq.lookup n with
    |none=>rfl
    |some c=>have:=aU.free n (E n c q).1;rw[x.kindOf,this]at B;cases B
   rw[this];exact b2 n B
  .obtain⟨c,d,D⟩:=a.cell n B;refine⟨c,d,?_⟩;by_cases q:(n,kY)∈scope.names
   .obtain⟨O,M,Q⟩:=cls n q;rw[d]at Q;cases Q;have hk:(jI scope Y).names.lookup n=I .cell\/(jI scope Y).names.lookup n=I .free:=.inl (aU.KN n q);refine cps λG0 r=>?_;obtain⟨O,h6,h7⟩:=cY.cell n (by rw[kd];exact hk);refine r ?_;clear r;have KW:dq.lookup n=I O:=h6;rw[M]at KW;cases KW;rw[M];exact h7
   .have:(dq.lookup n).isSome=false:=by
     cases e:dq.lookup n with
     |none=>rfl
     |some O=>exact absurd (E n O e).1 q
    rw[this];have nt:¬K c:=λ⟨m,H⟩=>by
     have:=x.fa.DW _ _ _ (E m c H).2 d;subst this;exact q (E m c H).1
    refine cps λG0 r=>?_;obtain⟨o,g,w⟩:=D;refine r ?_;clear r;exact⟨o,E3 _ (.inr ⟨n,d⟩) nt _ g,w⟩
  .by_cases q:(n,kY)∈scope.names
   .obtain⟨d,D⟩:=aU.KO i n H q;have e:dO ec i=dO z i:=by rw[yW,yW,dD.2 i D]
    refine cps λG0 r=>?_;obtain⟨u,T,U⟩:=cp i n v d (by rw[e];exact N);obtain⟨c,M,_⟩:=cls n q;refine r ?_;clear r;exact⟨u,by simp only[M];exact T,U⟩
   .have:(dq.lookup n).isSome=false:=by
     cases e:dq.lookup n with
     |none=>rfl
     |some O=>exact absurd (E n O e).1 q
    refine cps λG0 r=>?_;obtain⟨u,T,U⟩:=b i n v H N;refine r ?_;clear r;exact⟨u,by simp only[this];exact T,U.bI X l⟩
  .exact⟨dr.p,(j.bZ.apart C (.inl rfl)).2.1,(j.bZ.apart C (.inl rfl)).2.2,dr.e,dr.m⟩
  .obtain⟨m,H,_⟩:=cY.z;exact⟨m,H⟩
def vA(X:Cx)(k:Nat)(Y:bN)(view:bV)(ifs:List aR)(w:BW):Prop:=
 ∀(P F:Kp) (G:J) (ab:b5) (z:ay) (A:cB) (s:bA) (Q:Bool->J->Prop),aO X k Y view P F G ab z A s->w z G Q->
  bW (b6 X.prog X.w) A (forIn ifs ai λc r=>if r=ai then do let ok<- va c ab (ij c ab);eJ (vz ok)else eJ (vz r)) (mJ X k Y view P F ab z A Q) bO s
theorem XK:vA X k Y view [] λ_ G Q=>Q ai G:=λP F G ab z A s Q x h=>wpAny_tests_nil ⟨F,G,.r F,x,h⟩
theorem XM(h:oU X k Y view c w):vA X k Y view [c] w:=by intro P F G ab z A s Q x a;refine wpAny_tests_one (cy (h _ _ _ _ _ _ _ _ x a) (λb l d=>?_) λ_ _ e=>e);obtain⟨f,g,i,j,q⟩:=d;exact⟨f,g,i,j,q⟩
theorem XN {prog : uX} {w : iS} {A : cB} {R : wQ → bA → Prop} {j9 target iter : aR} {ifs : List aR} {scope : bN} {pos : b3} {it cq : aw} {ab : b5} (yX : Nat → bA → Prop)
    (XO : ∀ n s, yX n s → bW (b6 prog w) A (pyNext it) (fun r a7 => match r with
      | none => R (.ok .next) a7
      | some v => bW (b6 prog w) A (EI target it v) (fun _ Bp => bW (b6 prog w) A (vr target ab v) (fun _ cN =>
          bW (b6 prog w) A (forIn ifs ai fun c r => if r = ai then do let ok ← va c ab (ij c ab); eJ (vz ok) else eJ (vz r)) (fun ok kE =>
            if ok = ai then bW (b6 prog w) A (ij j9 ab) (fun x vy => bW (b6 prog w) A (l7 (.builtin "list.append") [cq, x]) (fun _ Bq => ∃ m, m < n ∧ yX m Bq) bO vy) bO kE
            else ∃ m, m < n ∧ yX m kE) bO cN) bO Bp) bO a7) bO s)
    (n : Nat) {s : bA} (h : yX n s) : yr (b6 prog w) A (.compLoop (.ListComp j9 [⟨target, iter, ifs, 0⟩] scope pos) 0 it cq ab) R s := by
  have yM : ∀ {aK : Type} {m : Sem aK} {Q : aK → bA → Prop} {E : aw → bA → Prop} {s : bA}, bW (b6 prog w) A m Q bO s → bW (b6 prog w) A m Q E s :=
    fun h => cy h (fun _ _ af => af) fun _ _ af => af.elim
  refine codeAny_loop rfl yX (fun n s hJ => ?_) n h
  show bW _ A ((compTurn (.ListComp j9 [⟨target, iter, ifs, 0⟩] scope pos) 0 it cq ab).onRaise (fun x => do noteFrame x ab; theTreesLotGoes x)) _ _ s
  refine wpAny_noted ?_
  rw [compTurn_list]
  refine cG (rq (cG (cy (XO n s hJ) (fun r a7 du => ?_) fun _ _ af => af.elim)))
  cases r with
  | none => exact fH du
  | some v =>
    refine cG (cy du (fun _ Bp XQ => ?_) fun _ _ af => af.elim)
    refine cG (cy XQ (fun _ cN jq => cG (cy jq (fun ok kE rG => ?_) fun _ _ af => af.elim)) fun _ _ af => af.elim)
    cases ok with
    | false => exact fH ⟨rfl, rG⟩
    | true => exact cG (cG (cy rG (fun x vy EO => cG (cy EO (fun _ Bq XR => fH (fH ⟨rfl, XR⟩)) fun _ _ af => af.elim)) fun _ _ af => af.elim))
def rJ(t:Tg)(wc:BW)(we:EW)(z:ay):V->J->(Option V->J->Prop)->Prop:=λx G R=>p5 t x z λz=>wc z G λc G=>jB c (we z G λv G=>R (I v) G) (R aa G)
inductive KX(X:Cx)(k:Nat)(Y:bN)(view:bV)(P F:Kp)(ab:b5)(A:cB)(t:Tg)(kZ:ay)(D:aC)(Q:List V->J->Prop)(r:wQ)(aD:bA):Prop
 |mk (e:r=.ok .next) (aX:Kp) (aS:J) (ec:ay) (vs:List V) (ao:List aw) (n:Nat) (l:F.le aX) (x:aO X k Y view P aX aS ab ec A aD) (dD:jH t.slots ec kZ) (hD:jC P aX aS ab D) (g:aD.heap.get? D=I (kS "list" (p8 ao) n)) (rv:bE X aX vs ao) (hl:vs.length<=2*cK) (q:Q vs aS)
inductive CJ(X:Cx)(k:Nat)(Y:bN)(view:bV)(P F:Kp)(ab:b5)(A:cB)(t:Tg)(kZ:ay)(D:aC)(own:List aC)(fB:Nat->gh->Prop)(xs:List V)(f:List V->List V->J->Prop)(n:Nat)(s:bA):Prop
 |mk (i:Nat) (aX:Kp) (aS:J) (ec:ay) (vs:List V) (ao:List aw) (m:Nat) (hi:i<=xs.length) (e:n=xs.length+1- i) (l:F.le aX) (x:aO X k Y view P aX aS ab ec A s) (dD:jH t.slots ec kZ) (b0:fB i s.heap) (aT:∀b∈own,jC P aX aS ab b) (hD:jC P aX aS ab D)
  (g:s.heap.get? D=I (kS "list" (p8 ao) m)) (rv:bE X aX vs ao) (hl:vs.length<=i) (aj:f (xs.drop i) vs aS)
theorem XS {target iter j9 : aR} {ifs : List aR} {t : Tg} {we : EW} {wc : BW} {scope : bN} {pos : b3} (ht : sP X k Y view target t) (hc : vA X k Y view ifs wc) (ba : bS X k Y view j9 we)
    {dH D : aC} {own : List aC} {fB : Nat → gh → Prop} {xs : List V} {ju : Kp} (it : o1 X target dH own fB xs ju) (rF : ju.le F) (hx : xs.length ≤ 2 * cK) {kZ : ay} {Q : List V → J → Prop} (x : aO X k Y view P F G ab z A s)
    (dD : jH t.slots z kZ) (b0 : fB 0 s.heap) (aT : ∀ b ∈ own, jC P F G ab b) (hD : jC P F G ab D) (E4 : D ∉ own) (g : s.heap.get? D = I (kS "list" #[] 0)) (aj : kR (rJ t wc we kZ) xs [] G Q) :
    yr (b6 X.prog X.w) A (.compLoop (.ListComp j9 [⟨target, iter, ifs, 0⟩] scope pos) 0 (.ref dH) (.ref D) ab) (KX X k Y view P F ab A t kZ D Q) s := by
  refine XN (CJ X k Y view P F ab A t kZ D own fB xs fun ys vs G => kR (rJ t wc we kZ) ys vs G Q) ?_ (xs.length + 1) ⟨0, F, G, z, [], [], 0, jW _, rfl, .r F, x, dD, b0, aT, hD, g, rfl, gB _, by simpa using aj⟩
  rintro n s ⟨i, aX, aS, ec, vs, ao, m, hi, rfl, l, x, dD, b0, aT, hD, g, rv, hl, aj⟩
  have xd : ju.In s.heap := fun a o e => x.aP.f _ _ (l _ _ (rF _ _ e))
  by_cases iV : i < xs.length
  · obtain ⟨v, hv, aF⟩ := Kw iV
    rw [aF] at aj
    replace aj : rJ t wc we kZ v aS fun o G => match o with
      | some v => kR (rJ t wc we kZ) (xs.drop (i + 1)) (vs ++ [v]) G Q
      | none => kR (rJ t wc we kZ) (xs.drop (i + 1)) vs G Q := aj
    refine cy (it.item A i s bO (fun u Bp => bW (b6 X.prog X.w) A (vr target ab u) (fun _ cN =>
          bW (b6 X.prog X.w) A (forIn ifs ai fun c r => if r = ai then do let ok ← va c ab (ij c ab); eJ (vz ok) else eJ (vz r)) (fun ok kE =>
            if ok = ai then bW (b6 X.prog X.w) A (ij j9 ab) (fun x vy => bW (b6 X.prog X.w) A (l7 (.builtin "list.append") [.ref D, x]) (fun _ Bq => ∃ m, m < xs.length + 1 - i ∧ CJ X k Y view P F ab A t kZ D own fB xs (fun ys vs G => kR (rJ t wc we kZ) ys vs G Q) m Bq) bO vy) bO kE
            else ∃ m, m < xs.length + 1 - i ∧ CJ X k Y view P F ab A t kZ D own fB xs (fun ys vs G => kR (rJ t wc we kZ) ys vs G Q) m kE) bO cN) bO Bp) v x.gz.1 xd hv b0 ?_) ?_ fun _ _ af => af
    · intro u bu tk sO hk ir
      have y := x.Bm (t := tk) aT hk
      have fe : ju.In bu := fun a o e => y.aP.f _ _ (l _ _ (rF _ _ e))
      have gD : bu.get? D = I (kS "list" ao.toArray m) := hk D _ E4 g
      obtain ⟨eU, lp, af, og⟩ := y.EK (own := D :: own) (fun b hb => by
        rcases List.mem_cons.mp hb with rfl | hb
        · exact hD
        · exact aT b hb) (fun b hb => by
        rcases List.mem_cons.mp hb with rfl | hb
        · exact ⟨_, gD⟩
        · exact it.vt _ _ sO b hb)
      have oi := Xv (jH.refl t.slots kZ) aj
      refine cy (ht _ _ _ _ _ _ _ _ _ _ af (ir.bI (rF.t l)) (Xu dD v _ oi)) (fun _ cN jq => ?_) fun _ _ af => af
      obtain ⟨vv, df, KY, EM⟩ := jq
      refine cy (hc _ _ _ _ _ _ _ _ df EM) (fun ok kE rG => ?_) fun _ _ af => af
      obtain ⟨rz, sH, iU, jF, q⟩ := rG
      cases ok with
      | false =>
        obtain ⟨vx, yT, hO⟩ := og jF
        have q := q.2 rfl
        refine ⟨xs.length + 1 - (i + 1), by exact (O [] [_,_] (.i (.U .y .x) (.U (.s (.p .x 1) (.p .y 1)) (.s (.p .x 1) .y)))) iV, i + 1, rz, sH, vv, vs, ao, m, iV, rfl, l.t iU, vx, KY, ?_, fun b hb => yT b (.tail _ hb), yT D (.head _), hO D (.head _) _ gD, bE.bI X iU rv, xi hl, q⟩
        exact it.frame _ _ _ sO fe (fun a o e => jF.aP.f _ _ (iU _ _ (l _ _ (rF _ _ e)))) fun b hb => hO b (.tail _ hb)
      | true =>
        refine ba.then jF (q.1 rfl) fun yY eu XT XU vy E5 vx XW q => ?_
        obtain ⟨XY, E6, hO⟩ := og vx
        have XZ := hO D (.head _) _ gD
        refine append_at XZ (fun Kv hb hg => ?_) (by rw [jU, ← rv.n X]; exact rp (by exact (O [] [_,_,_,_] (.i (.ag .w (.m 2 .y)) (.i (.ag .x .u) (.i (.U .u .w) (.ag .x (.m 2 .y)))))) hx hl iV))
        have KZ := XY.AV (t := vy.toks) (E6 D (.head _)) hb
        have cS : ∀ b ∈ own, b ≠ D := fun b hb e => E4 (e ▸ hb)
        refine ⟨xs.length + 1 - (i + 1), by exact (O [] [_,_] (.i (.U .y .x) (.U (.s (.p .x 1) (.p .y 1)) (.s (.p .x 1) .y)))) iV, i + 1, XT, XU, vv, vs ++ [yY], ao ++ [eu], m + 1, iV, rfl, (l.t iU).t E5, KZ, KY, ?_, fun b hb => E6 b (.tail _ hb), E6 D (.head _), by rw [hg]; simp, (bE.bI X (iU.t E5) rv).append X (bE.uY X XW), by simp; exact (O [] [_,_] (.i (.ag .x .y) (.ag .x .y))) hl, q⟩
        exact it.frame _ _ _ sO fe (fun a o e => KZ.aP.f _ _ (E5 _ _ (iU _ _ (l _ _ (rF _ _ e))))) fun b fR o e => hb.2 b (cS b fR) ▸ hO b (.tail _ fR) o e
    · intro r a7 du
      cases r with
      | none => exact du.elim
      | some u => exact du
  · have e : i = xs.length := by exact (O [] [_,_] (.i (.ag .x .y) (.i (.n (.U .x .y)) (.E .x .y)))) hi iV
    subst e
    refine cy (it.Bl A s bO (fun a7 => KX X k Y view P F ab A t kZ D Q (.ok .next) a7) x.gz.1 xd b0 fun bu tk hk => ?_) (fun r a7 du => ?_) fun _ _ af => af
    · have aj : Q vs aS := by simpa [kR] using aj
      exact ⟨rfl, aX, aS, ec, vs, ao, m, l, x.Bm (t := tk) aT hk, dD, hD, hk D _ E4 g, rv, by exact (O [] [_,_,_] (.i (.ag .u (.m 2 .y)) (.i (.ag .x .u) (.ag .x (.m 2 .y))))) hx hl, aj⟩
    · obtain ⟨rfl, h⟩ := du; exact h
theorem aO.closure(x:aO X k Y view P F G ab z A s)(aU:xh scope Y view i9 is):EY scope ab=eJ (kj ab scope.names []):=
 KL λn d=>by
  obtain⟨f,a,b⟩:=x.bZ.bZ;obtain⟨c,e,_⟩:=a.cell n (.inl (by rw[x.kindOf];exact aU.free n d));rw[e];rfl
inductive X0(X:Cx)(k:Nat)(Y:bN)(view:bV)(P F:Kp)(ab:b5)(z:ay)(A:cB)(D C:aC)(Q:List V->J->Prop)(r:wQ)(aD:bA):Prop
 |mk (e:r=.ok .next) (aX:Kp) (aS:J) (vs:List V) (l:F.le aX) (x:aO X k Y view P aX aS ab z A aD) (fC:jC P aX aS ab C) (ax:∃m,aD.heap.Ns C m) (rv:bL X aX (.l vs) (.ref D)) (eH:D≠C) (q:Q vs aS)
theorem K0(aU:xh scope Y view i9 t.slots)(hi:sQ X k Y view target iter wi)(ht:sP X k (jI scope Y) i9 target t)(hc:vA X k (jI scope Y) i9 ifs wc)(ba:bS X k (jI scope Y) i9 j9 we)(hs:∀(ab:b5) x,xf iter ab x=eJ x)(x:aO X k Y view P F G ab z A s)(aj:wi z G λxs G=>kR (rJ t wc we z) xs [] G Q)(ar:∀D C r aD,X0 X k Y view P F ab z A D C Q r aD->compPost (b6 X.prog X.w) A bO use R (.ref D) C r aD):bW (b6 X.prog X.w) A (comprehension (.ListComp j9 [⟨target,iter,ifs,0⟩] scope pos) scope ab (firstIterPos [⟨target,iter,ifs,0⟩] pos) (newList []) ak (ij iter ab) use) R bO s:=by
 refine wpAny_comprehension_free (g:=⟨target,iter,ifs,0⟩) (gs:=[]) rfl (hs ab) (x.closure aU) aU.kind aU.XB ?_;refine cy (hi _ _ _ _ _ _ _ _ x aj) (λxv a7 du=>cy du (λXq c jq=>?_) λ_ _ i=>i) λ_ _ i=>i;refine cps λG0 j=>?_;obtain⟨M,own,fB,xs,N,O,rfl,dP,H,it,b0,aT,hx,q⟩:=jq;refine j ?_;clear j;refine w6 (wpAny_newFunctionEnv aU.Bb (by intro y hy;simp at hy) (λu sL X1=>?_) aU.kind);have E:=H.fresh (a:=c.heap.objs.size) (gB _);have jF:=H.kz (gQ.push c.heap {cls:=.type "list",data:=.seq ([]:List aw).toArray});have K:gQ (c.heap.push {cls:=.type "list",data:=.seq ([]:List aw).toArray}) u:=λb o e=>(X1.2 b (oW (kT e))).trans (yu _ e);have S:(c.heap.push {cls:=.type "list",data:=.seq ([]:List aw).toArray}).objs.size=c.heap.objs.size+1:=WA ..;have gD:u.get? c.heap.objs.size=I (kS "list" #[] 0):=K _ _ (qd _ rfl);refine cps λG0 j=>?_;obtain⟨P1,lp,_,X2,X3,i,og⟩:=jF.XF aU (C:=(c.heap.push {cls:=.type "list",data:=.seq ([]:List aw).toArray}).objs.size) (t:=c.toks+0) (gB _) (by simpa using sL) K;refine j ?_;clear j;have L:c.heap.objs.size≠(c.heap.push {cls:=.type "list",data:=.seq ([]:List aw).toArray}).objs.size:=by rw[S];exact oW (Bf _)
 have T:∀b,jC P N O ab b->b≠(c.heap.push {cls:=.type "list",data:=.seq ([]:List aw).toArray}).objs.size->jC P1 N O (Bo scope (kj ab scope.names []) (c.heap.push {cls:=.type "list",data:=.seq ([]:List aw).toArray}).objs.size ab) b:=λb d cS=>by
  refine⟨?_,d.f,d.s,λh=>(X2 b h).elim cS d.e,d.m⟩;cases e:P1 b with
  |none=>rfl
  |some o=>
   rcases X3 b (by rw[e];simp)with h|h
   .exact absurd d.p h
   .exact absurd h d.e
 have U:fB 0 u:=it.frame _ _ _ b0 H.aP.f (λa o e=>i.aP.f _ _ e) λb _ o e=>K _ _ (yu _ e);have V:∀b∈own,b<c.heap.objs.size:=λb d=>by obtain⟨o,e⟩:=it.vt _ _ b0 b d;exact kT e
 have W:yr (b6 X.prog X.w) A (.compLoop (.ListComp j9 [⟨target,iter,ifs,0⟩] scope pos) 0 (.ref M) (.ref c.heap.objs.size) (Bo scope (kj ab scope.names []) (c.heap.push {cls:=.type "list",data:=.seq ([]:List aw).toArray}).objs.size ab))
   (compPost (b6 X.prog X.w) A bO use R (.ref c.heap.objs.size) (c.heap.push {cls:=.type "list",data:=.seq ([]:List aw).toArray}).objs.size) {c with heap:=u,toks:=c.toks+0}:=by
  refine yI (XS ht hc ba it (.r _) hx i (EX _ _) U (λb d=>T b (aT b d) (by rw[S];exact oW (JC (V b d)))) (T _ E L) (λh=>A8 _ (V _ h)) gD q) λr aD h=>ar _ _ r aD ?_;refine cps λG0 j=>?_;obtain⟨rfl,aX,aS,ec,vs,ao,n,l,y,dD,Z,g,rv,hl,q⟩:=h;obtain⟨yo,B,hC⟩:=og y l dD;obtain⟨cV,w⟩:=yo.sj ⟨E.p,Z.f,Z.s,E.e,E.m⟩ g;refine j ?_;clear j;refine⟨rfl,_,aS,vs,(dP.t l).t cV,w,⟨B.p,by rw[Kp.m6 (tO L)];exact B.f,B.s,B.e,B.m⟩,hC,⟨_,ao,n,rfl,Kp.lr,bE.bI X cV rv,hl⟩,L,q⟩
 exact codeAny_compStart_list W (cy (it.self A 0 _ bO (λv aD=>v=.ref M/\aD={c with heap:=u,toks:=c.toks+0}) x.gz.1 U ⟨rfl,rfl⟩) (λv aD h=>by obtain⟨rfl,rfl⟩:=h;exact W) λ_ _ i=>i.elim)
theorem X4(aU:xh scope Y view i9 t.slots)(hi:sQ X k Y view target iter wi)(ht:sP X k (jI scope Y) i9 target t)(hc:vA X k (jI scope Y) i9 ifs wc)(ba:bS X k (jI scope Y) i9 j9 we)(hs:∀(ab:b5) x,xf iter ab x=eJ x):bS X k Y view (.ListComp j9 [⟨target,iter,ifs,0⟩] scope pos) λz G Q=>wi z G λxs G=>kR (rJ t wc we z) xs [] G λvs G=>Q (.l vs) G:=by intro P F G ab z A s Q x b;rw[eval_ListComp];refine K0 aU hi ht hc ba hs x b λD C r c h=>?_;refine cps λG0 a=>?_;obtain⟨rfl,d,e,vs,l,y,f,⟨m,g⟩,i,n,q⟩:=h;refine a ?_;clear a;exact⟨m,g,λo j=>⟨.l vs,d,e,l,y.AV (t:=c.toks) f j,i,q⟩⟩
theorem X5(jt:jX view)(hv:(i,n)∈view)(hk:Y.names.lookup n=I .local\/Y.names.lookup n=I .cell)(aU:xh scope Y view i9 t.slots)(hi:sQ X k Y view target iter wi)(ht:sP X k (jI scope Y) i9 target t)(hc:vA X k (jI scope Y) i9 ifs wc)(ba:bS X k (jI scope Y) i9 j9 we)(hs:∀(ab:b5) x,xf iter ab x=eJ x)(X6:∀ab:b5,ab.scope=Y->EF (.ListComp j9 [⟨target,iter,ifs,0⟩] scope Br) (I (.Name n nq)) pos.line ab=eJ ai):kW X k Y view (.Assign [.Name n nq] (.ListComp j9 [⟨target,iter,ifs,0⟩] scope Br) pos) λz G Q=>wi z G λxs G=>kR (rJ t wc we z) xs [] G λvs G=>Q .n (dX z i (.l vs)) G:=by
 intro P F G ab z A s Q x f;rw[exec_Assign_Name_used n nq _ pos (X6 ab x.fa.scope)];refine cG (rq (cG ?_));show bW _ A (do let _<- comprehension (.ListComp j9 [⟨target,iter,ifs,0⟩] scope Br) scope ab (firstIterPos [⟨target,iter,ifs,0⟩] Br) (newList []) ak (ij iter ab) (I (vr (.Name n nq) ab));eJ ()) _ bO s;refine cG (K0 aU hi ht hc ba hs x f λD C r j h=>?_);refine cps λG0 c=>?_;obtain⟨rfl,p,u,vs,l,y,v,⟨m,d⟩,B,S,q⟩:=h;refine c ?_;clear c;have E:∀b∈ [C],∃o,j.heap.get? b=I o:=λb a=>by
  rcases List.mem_cons.mp a with rfl|a
  .obtain⟨o,_,_,g,_⟩:=d;exact⟨o,g⟩
  .cases a
 obtain⟨T,U,H,K⟩:=y.EK (own:=[C]) (λb a=>by
  rcases List.mem_cons.mp a with rfl|a
  .exact v
  .cases a) E
 refine ED (H.bind jt hv hk B λL M=>?_);refine cps λG0 c=>?_;obtain⟨w,dr,N⟩:=K M;refine c ?_;clear c;refine⟨m,?_,λV a=>fH ?_⟩
 .obtain⟨o,O,R,g,e⟩:=d;exact⟨o,O,R,N C (.head _) _ g,e⟩
 .exact fH ⟨.n,_,p,u,l,w.AV (t:=L.toks) (dr C (.head _)) a,rfl,q⟩
end
section
open PyProof.Rows PySem.Calls
theorem aq(h:(a&&b)=ai):a=ai/\b=true:=Bool.and_eq_true_iff.mp h
theorem nB(h:(!a)=ai):a=false:=by cases a with
 |false=>rfl
 |true=>cases h
theorem qk(h:(a||b)=ai):a=ai\/b=true:=by cases a with
 |false=>exact .inr h
 |true=>exact .inl rfl
noncomputable def yZ:List Nat->List Nat->Bool
 |[],b=>b.isEmpty
 |a::as,b=>match b with
  |b::bs=>ie a b&&yZ as bs
  |[]=>ak
theorem X7:∀{a b:List Nat},yZ a b=ai->a=b:=by
 intro d;induction d with
 |nil=>
  intro e;cases e with
  |nil=>exactλ_=>rfl
  |cons _ _=>intro c;first|exact c.elim|cases c
 |cons a as f=>
  intro g;cases g with
  |nil=>intro c;first|exact c.elim|cases c
  |cons b bs=>exactλh=>congr (congrArg Ej (yG (aq h).1)) (f (aq h).2)
theorem X8:∀(a:List Nat),yZ a a=true:=by
 intro b;induction b with
 |nil=>exact rfl
 |cons a as c=>show(ie a a&&yZ as as)=ai;rw[JK];exact c
def l9(a b:bg):Bool:=yZ a.cps.toList b.cps.toList
theorem y0(h:l9 a b=ai):a=b:=congrArg (λl:List Nat=>(⟨⟨l⟩⟩:bg)) (X7 h)
theorem Bs(a:bg):l9 a a=true:=X8 _
theorem E8(h:l9 a b=ak):(a==b)=false:=beq_eq_false_iff_ne.mpr λe=>by rw[e,Bs]at h;cases h
theorem X9(a b:bg):l9 a b=(a==b):=by
 cases h:l9 a b with
 |true=>rw[y0 h,beq_self_eq_true]
 |false=>exact(E8 h).symm
noncomputable def Bt:List (bg×ni)->bg->Option ni
 |[],_=>aa
 |p::r,n=>bif l9 n p.1 then I p.2 else Bt r n
theorem Yb:∀(l:List (bg×ni)) (n:bg),Bt l n=l.lookup n:=by
 intro a;induction a with
 |nil=>exactλ_=>rfl
 |cons p r b=>intro n;show(bif l9 n p.1 then I p.2 else Bt r n)=_;rw[rB,<- X9,b n];cases l9 n p.1<;>rfl
noncomputable def tZ:bV->Nat->bg->Bool
 |[],_,_=>ak
 |p::r,i,n=>(ie i p.1&&l9 p.2 n)||tZ r i n
theorem t4:∀{vw:bV} {i:Nat} {n:bg},tZ vw i n=ai->(i,n)∈vw
 |p::r,i,n,h=>(qk h).elim (λh=>by
   rw[yG (aq h).1,<- y0 (aq h).2];exact .head _) λh=>.tail _ (t4 h)
def E9(vw:bV):Bool:=vw.all λp=>vw.all λq=>ie p.1 q.1==l9 p.2 q.2
theorem K5(h:E9 vw=ai):jX vw:=by
 intro i x j y a b;have e:ie i j=l9 x y:=uL (List.all_eq_true.mp (List.all_eq_true.mp h _ a) _ b);constructor
 .rintro rfl;rw[JK]at e;exact y0 e.symm
 .rintro rfl;rw[Bs]at e;exact yG e
def kd(Y:bN)(n:bg)(k:ni):Bool:=Bt Y.names n==I k
def y2(Y:bN)(n:bg):Bool:=kd Y n .local||kd Y n .cell
def K6(Y:bN)(n:bg):Bool:=kd Y n .local||(kd Y n .cell||kd Y n .free)
theorem qm(h:kd Y n k=ai):Y.names.lookup n=I k:=(Yb _ _).symm.trans (uL h)
theorem Yc(h:K6 Y n=ai):Y.names.lookup n=I .local\/Y.names.lookup n=I .cell\/Y.names.lookup n=I .free:=(qk h).imp qm λh=>(qk h).imp qm qm
theorem y3(h:y2 Y n=ai):Y.names.lookup n=I .local\/Y.names.lookup n=I .cell:=(qk h).imp qm qm
noncomputable def Yd:aw->Option Nat
 |.ref i=>I i
 |_=>aa
def Fb:V->Option Nat
 |.L u=>Yd u
 |_=>aa
theorem K7(v:V):kQ (λa=>.L (.ref a)) v (Fb v):=by
 cases v with
 |L u=>cases u<;>first|trivial|exact rfl
 |_=>trivial
noncomputable def xj{aK:Type}(eq:aK->aK->Bool):Option aK->Option aK->Bool
 |some a,o=>match o with
  |some b=>eq a b
  |none=>ak
 |none,_=>ak
theorem y4{aK:Type}{eq:aK->aK->Bool}{f:aK->V}{v w:V}(h:∀a b,eq a b=ai->a=b):∀{o p:Option aK},kQ f v o->kQ f w p->xj eq o p=ai->v=w
 |some a,I b,i,j,e=>(show v=f a from i).trans ((congrArg f (h a b e)).trans (show w=f b from j).symm)
noncomputable def Fc:List V->List V->Bool
 |[],b=>b.isEmpty
 |a::as,b=>match b with
  |b::bs=>xj K8 (gg a) (gg b)&&Fc as bs
  |[]=>ak
theorem K9(a b:Int)(h:K8 a b=ai):a=b:=Eq.mp (Int.beq'_eq a b) h
theorem Ye:∀{a b:List V},Fc a b=ai->a=b:=by
 intro aM;induction aM with
 |nil=>
  intro z1;cases z1 with
  |nil=>exactλ_=>rfl
  |cons _ _=>intro r0;first|exact r0.elim|cases r0
 |cons a as ih=>
  intro z2;cases z2 with
  |nil=>intro r0;first|exact r0.elim|cases r0
  |cons b bs=>exactλh=>congr (congrArg Ej (y4 K9 (i7 a) (i7 b) (aq h).1)) (ih (aq h).2)
def La(v w:V):Bool:=xj ie (Fb v) (Fb w)||(xj (λa b=>a6 (a=b)) (wD v) (wD w)||(xj K8 (gg v) (gg w)||xj Fc (lU v) (lU w)))
theorem Yg{a b:V}(h:La a b=ai):a=b:=
 (qk h).elim (y4 (λ_ _=>yG) (K7 a) (K7 b)) λh=>
 (qk h).elim (y4 (λ_ _=>of_decide_eq_true) (DJ a) (DJ b)) λh=>
 (qk h).elim (y4 K9 (i7 a) (i7 b)) (y4 (λ_ _=>Ye) (qS a) (qS b))
structure Ck where
 aH:Nat->bg
 qZ:List (bg×V)
def Fd(l:List (bg×V))(n:bg)(v:V):Bool:=l.any λp=>l9 n p.1&&La p.2 v
theorem Lb(h:Fd l n v=ai):(n,v)∈l:=by obtain⟨⟨m,u⟩,b,a⟩:=List.any_eq_true.mp h;rw[y0 (aq a).1,<- Yg (aq a).2];exact b
def y5(n:bg):Bool:=l9 n "__debug__"||l9 n "__classdict__"
theorem y6(h:(!y5 n)=ai):(n==("__debug__":bg))=ak/\(n==("__classdict__":bg))=false:=⟨E8 (Bool.or_eq_false_iff.mp (nB h)).1,E8 (Bool.or_eq_false_iff.mp (nB h)).2⟩
noncomputable def aF:List aR->aR
 |x::_=>x
 |[]=>.Name ⟨#[]⟩ ⟨0,0,0,0⟩
structure Yh where
 ks:List aR
 n:bg
 k:Nat
 Yi:List (Option aR)
 Y:bN
 xl:Bool
def xv:aR->Yh
 |.BoolOp _ es _=>⟨es,⟨#[]⟩,0,[],jJ,ak⟩
 |.BinOp l _ r _=>⟨[l,r],⟨#[]⟩,0,[],jJ,ak⟩
 |.UnaryOp _ e _=>⟨[e],⟨#[]⟩,0,[],jJ,ak⟩
 |.IfExp a b c _=>⟨[a,b,c],⟨#[]⟩,0,[],jJ,ak⟩
 |.Dict ks vs _=>⟨vs,⟨#[]⟩,0,ks,jJ,ak⟩
 |.ListComp e gs Y _=>⟨e::gs.flatMap λg=>g.target::g.iter::g.ifs,⟨#[]⟩,0,[],Y,ak⟩
 |.Compare l _ es _=>⟨l::es,⟨#[]⟩,0,[],jJ,ak⟩
 |.Call f as _ _=>⟨f::as,⟨#[]⟩,0,[],jJ,ak⟩
 |.Attribute o _ _=>⟨[o],⟨#[]⟩,0,[],jJ,ak⟩
 |.Subscript o i _=>⟨[o,i],⟨#[]⟩,0,[],jJ,ak⟩
 |.List es _=>⟨es,⟨#[]⟩,0,[],jJ,ak⟩
 |.Tuple es k _=>⟨es,⟨#[]⟩,k,[],jJ,ak⟩
 |.Slice l u s _=>⟨[l.getD (aF []),u.getD (aF []),s.getD (aF [])],⟨#[]⟩,0,[],jJ,ak⟩
 |.Name n _=>⟨[],n,0,[],jJ,ak⟩
 |.Constant _ k _=>⟨[],⟨#[]⟩,k,[],jJ,ak⟩
 |.Set .. =>⟨[],⟨#[]⟩,0,[],jJ,ai⟩
 |_=>⟨[],⟨#[]⟩,0,[],jJ,ak⟩
def fY(x:aR):List Expr:=(xv x).ks
def bj(x:aR)(n:Nat):Expr:=aF ((fY x).drop n)
def ip(x:aR):Str:=(xv x).n
def xK(x:aR):Nat:=(xv x).k
def Yj(x:aR):List (Option aR):=(xv x).Yi
def Yk:Option aR->Nat×b3
 |some e=>(xK e,e.pos)
 |none=>(0,⟨0,0,0,0⟩)
def Yl(x:aR):List (Nat×b3):=(Yj x).map Yk
def t5(x:aR):Scope:=(xv x).Y
def pb(x:aR):Expr:=.Name (ip x) x.pos
noncomputable def Bu:List Nat->List aR->List aR
 |[],_=>[]
 |_::is,xs=>pb (aF xs)::Bu is xs.tail
def Bv:Tg->aR->aR
 |.cD _,x=>pb x
 |.fG is,x=>.Tuple (Bu is (fY x)) (xK x) x.pos
noncomputable def y7:Es->List lW
 |.n=>[]
 |.c b4 _ es=>b4::y7 es
noncomputable def Es.aL:Es->Nat
 |.n=>0
 |.c _ _ es=>es.aL+1
noncomputable def Ym:Str:="get"
noncomputable def Yn:Str:="append"
noncomputable def Yo:Str:="extend"
def y8(k:qU)(a0 dN b2 y:aR):Expr:=match k with
 |.s=>a0
 |.qV=>.Call (pb (bj y 0)) [dN] [] y.pos
 |.z=>.Call (pb (bj y 0)) [dN,b2] [] y.pos
 |.r=>.Call (pb (bj y 0)) [dN] [] y.pos
mutual
noncomputable def cI(aH:Nat->bg):E->aR->aR
 |.i i,x=>.Constant (.int i) (xK x) x.pos
 |.b b,x=>.Constant (.bool b) (xK x) x.pos
 |.n,x=>.Constant .none (xK x) x.pos
 |.z _,x=>pb x
 |.L _,x=>pb x
 |.bH b4 l r,x=>.BinOp (cI aH l (bj x 0)) b4 (cI aH r (bj x 1)) x.pos
 |.neg e,x=>.UnaryOp .USub (cI aH e (bj x 0)) x.pos
 |.not e,x=>.UnaryOp .Not (cI aH e (bj x 0)) x.pos
 |.and es,x=>.BoolOp .And (lC aH es (fY x)) x.pos
 |.o es,x=>.BoolOp .Or (lC aH es (fY x)) x.pos
 |.aJ l eK,x=>.Compare (cI aH l (bj x 0)) (y7 eK) (lC aH eK (fY x).tail) x.pos
 |.d7 t b o,x=>.IfExp (cI aH t (bj x 0)) (cI aH b (bj x 1)) (cI aH o (bj x 2)) x.pos
 |.c f as,x=>.Call (cI aH f (bj x 0)) (lC aH as (fY x).tail) [] x.pos
 |.pY _ e,x=>.Call (pb (bj x 0)) [cI aH e (bj x 1)] [] x.pos
 |.iD o n as,x=>.Call (.Attribute (cI aH o (bj (bj x 0) 0)) (aH n) (bj x 0).pos) (lC aH as (fY x).tail) [] x.pos
 |.r5 o as,x=>.Call (.Attribute (cI aH o (bj (bj x 0) 0)) Ym (bj x 0).pos) (lC aH as (fY x).tail) [] x.pos
 |.iE _ e,x=>.Call (.Attribute (pb (bj (bj x 0) 0)) Yn (bj x 0).pos) [cI aH e (bj x 1)] [] x.pos
 |.ext _ e,x=>.Call (.Attribute (pb (bj (bj x 0) 0)) Yo (bj x 0).pos) [cI aH e (bj x 1)] [] x.pos
 |.au o n,x=>.Attribute (cI aH o (bj x 0)) (aH n) x.pos
 |.bq o i,x=>.Subscript (cI aH o (bj x 0)) (cI aH i (bj x 1)) x.pos
 |.m4 o n,x=>.Subscript (cI aH o (bj x 0)) (.Constant (.str (aH n)) (xK (bj x 1)) (bj x 1).pos) x.pos
 |.uQ o l u,x=>.Subscript (cI aH o (bj x 0)) (.Slice (I (cI aH l (bj (bj x 1) 0))) (I (cI aH u (bj (bj x 1) 1))) aa (bj x 1).pos) x.pos
 |.yl o l,x=>.Subscript (cI aH o (bj x 0)) (.Slice (I (cI aH l (bj (bj x 1) 0))) aa aa (bj x 1).pos) x.pos
 |.uR o u,x=>.Subscript (cI aH o (bj x 0)) (.Slice aa (I (cI aH u (bj (bj x 1) 1))) aa (bj x 1).pos) x.pos
 |.ym o,x=>.Subscript (cI aH o (bj x 0)) (.Slice aa aa (I (.UnaryOp .USub (.Constant (.int 1) (xK (bj (bj (bj x 1) 2) 0)) (bj (bj (bj x 1) 2) 0).pos) (bj (bj x 1) 2).pos)) (bj x 1).pos) x.pos
 |.aV es,x=>.Tuple (lC aH es (fY x)) (xK x) x.pos
 |.cj _ es,x=>.List (lC aH es (fY x)) x.pos
 |.mE ns es,x=>.Dict (AX aH ns (Yl x)) (lC aH es (fY x)) x.pos
 |.r6 _,x=>.Dict [] [] x.pos
 |.q t k a b eK e,x=>.ListComp (cI aH e (bj x 0)) [⟨Bv t (bj x 1),y8 k (cI aH a (bj x 2)) (cI aH a (bj (bj x 2) 1)) (cI aH b (bj (bj x 2) 2)) (bj x 2),lC aH eK ((fY x).drop 3),0⟩] (t5 x) x.pos
 |.hM,x=>x
noncomputable def lC(aH:Nat->bg):Es->List aR->List aR
 |.n,_=>[]
 |.c _ e es,xs=>cI aH e (aF xs)::lC aH es xs.tail
end
def y9(c:Ck)(Y:bN)(n:bg)(b:Bi):Bool:=kd Y n .globalImplicit&& !y5 n&&Fd c.qZ n (.bC b)
def xm(Y:bN)(vw:bV)(i:Nat)(n:bg):Bool:=tZ vw i n&&(K6 Y n&& !y5 n)
noncomputable def Bw:List Nat->Bool
 |[]=>ai
 |n::ns=> !(ns.contains n)&&Bw ns
theorem Lc:∀{l:List Nat},Bw l=ai->l.Nodup:=by
 intro a;induction a with
 |nil=>exactλ_=>.nil
 |cons n ns b=>
  exactλh=>List.nodup_cons.mpr ⟨λc=>(by
   have:=nB (aq h).1;rw[List.contains_iff_mem.mpr c]at this;cases this),b (aq h).2⟩
def Ld:Tg->aR->bV
 |.cD i,x=>[(i,ip x)]
 |.fG is,x=>is.zip ((fY x).map ip)
noncomputable def Fe(Y:bN)(vw:bV):List Nat->List aR->Bool
 |[],_=>ai
 |i::is,xs=>tZ vw i (ip (aF xs))&&y2 Y (ip (aF xs))&&Fe Y vw is xs.tail
def Ff(Y:bN)(vw:bV):Tg->aR->Bool
 |.cD i,x=>tZ vw i (ip x)&&y2 Y (ip x)
 |.fG is,x=>Fe Y vw is (fY x)
def za(scope:bN)(n:bg):Bool:=scope.names.any λy=>y.2==.free&&l9 y.1 n
def xn(scope:bN)(vw:bV)(t:Tg)(target:aR):bV:=Ld t target++vw.filter λp=>za scope p.2
def Le(scope Y:bN)(vw:bV)(t:Tg)(target:aR):Bool:=
 (scope.kind==.function&&E9 (xn scope vw t target))&&
 ((scope.names.all λy=>(y.2 !=.cell&&(y.2 !=.free||(kd Y y.1 .cell&&kd (jI scope Y) y.1 .cell)))&&(y.2 !=.local||kd scope y.1 .local))&&
 (((jI scope Y).names.all λy=>(y.2 !=.cell&&y.2 !=.free)||za scope y.1)&&
 (vw.all λp=> !za scope p.2|| !t.slots.contains p.1)))
def xl(x:aR):Bool:=(xv x).xl
noncomputable def zb:E->Bool
 |.n=>ai
 |_=>ak
noncomputable def Bx:Tg->Bool
 |.fG _=>ai
 |_=>ak
noncomputable def Fg(k:qU)(n m a0 dN b2:Bool)(bC:Bi->Bool):Bool:=match k with
 |.s=>a0&&n
 |.qV=>(m&&bC .e)&&(dN&&n)
 |.z=>(m&&bC .zip)&&(dN&&b2)
 |.r=>bC .r&&(dN&&n)
mutual
noncomputable def dI(c:Ck):E->bN->bV->aR->Bool
 |.i _,_,_,_=>ai
 |.b _,_,_,_=>ai
 |.n,_,_,_=>ai
 |.z i,Y,vw,x=>xm Y vw i (ip x)
 |.L v,Y,_,x=>kd Y (ip x) .globalImplicit&&(!y5 (ip x)&&Fd c.qZ (ip x) v)
 |.bH _ l r,Y,vw,x=>dI c l Y vw (bj x 0)&&dI c r Y vw (bj x 1)
 |.neg e,Y,vw,x=>dI c e Y vw (bj x 0)
 |.not e,Y,vw,x=>dI c e Y vw (bj x 0)
 |.and es,Y,vw,x=> !es.oP&&pe c es Y vw (fY x)
 |.o es,Y,vw,x=> !es.oP&&pe c es Y vw (fY x)
 |.aJ l eK,Y,vw,x=>(dI c l Y vw (bj x 0)&&pe c eK Y vw (fY x).tail)&&(!eK.oP&& !lastMarks (y7 eK) (lC c.aH eK (fY x).tail))
 |.d7 t b o,Y,vw,x=>dI c t Y vw (bj x 0)&&(dI c b Y vw (bj x 1)&&dI c o Y vw (bj x 2))
 |.c f as,Y,vw,x=> !vj (cI c.aH f (bj x 0))&&(dI c f Y vw (bj x 0)&&pe c as Y vw (fY x).tail)
 |.pY _ e,Y,vw,x=>y9 c Y (ip (bj x 0)) .l&&dI c e Y vw (bj x 1)
 |.iD o _ as,Y,vw,x=>(dI c o Y vw (bj (bj x 0) 0)&& !sA (cI c.aH o (bj (bj x 0) 0)))&&(pe c as Y vw (fY x).tail&&(a6 (as.aL<30)&&((bj x 0).pos.endLine==x.pos.line)))
 |.r5 o as,Y,vw,x=>(dI c o Y vw (bj (bj x 0) 0)&& !sA (cI c.aH o (bj (bj x 0) 0)))&&(pe c as Y vw (fY x).tail&&(a6 (as.aL<30)&&((bj x 0).pos.endLine==x.pos.line)))
 |.iE i e,Y,vw,x=>xm Y vw i (ip (bj (bj x 0) 0))&&(dI c e Y vw (bj x 1)&&((bj x 0).pos.endLine==x.pos.line))
 |.ext i e,Y,vw,x=>xm Y vw i (ip (bj (bj x 0) 0))&&(dI c e Y vw (bj x 1)&&((bj x 0).pos.endLine==x.pos.line))
 |.au o _,Y,vw,x=>dI c o Y vw (bj x 0)&& !sA (cI c.aH o (bj x 0))
 |.bq o i,Y,vw,x=>dI c o Y vw (bj x 0)&&dI c i Y vw (bj x 1)
 |.m4 o _,Y,vw,x=>dI c o Y vw (bj x 0)
 |.uQ o l u,Y,vw,x=>dI c o Y vw (bj x 0)&&(dI c l Y vw (bj (bj x 1) 0)&&dI c u Y vw (bj (bj x 1) 1))
 |.yl o l,Y,vw,x=>dI c o Y vw (bj x 0)&&dI c l Y vw (bj (bj x 1) 0)
 |.uR o u,Y,vw,x=>dI c o Y vw (bj x 0)&&dI c u Y vw (bj (bj x 1) 1)
 |.ym o,Y,vw,x=>dI c o Y vw (bj x 0)
 |.aV es,Y,vw,x=>pe c es Y vw (fY x)&&a6 (es.aL<=1000)
 |.cj _ es,Y,vw,x=>pe c es Y vw (fY x)&&a6 (es.aL<=1000)
 |.mE ns es,Y,vw,x=>pe c es Y vw (fY x)&&((a6 (ns.length=es.aL)&&Bw ns)&&(a6 (es.aL<=15)&& !es.oP))
 |.r6 _,_,_,_=>ai
 |.q t k a b eK e,Y,vw,x=>
  (Le (t5 x) Y vw t (bj x 1)&&Ff (jI (t5 x) Y) (xn (t5 x) vw t (bj x 1)) t (bj x 1))&&
  ((!xl (y8 k (cI c.aH a (bj x 2)) (cI c.aH a (bj (bj x 2) 1)) (cI c.aH b (bj (bj x 2) 2)) (bj x 2))&&a6 (eK.aL<=1))&&
  ((pe c eK (jI (t5 x) Y) (xn (t5 x) vw t (bj x 1)) ((fY x).drop 3)&&dI c e (jI (t5 x) Y) (xn (t5 x) vw t (bj x 1)) (bj x 0))&&
  Fg k (zb b) (Bx t) (dI c a Y vw (bj x 2)) (dI c a Y vw (bj (bj x 2) 1)) (dI c b Y vw (bj (bj x 2) 2)) (y9 c Y (ip (bj (bj x 2) 0)))))
 |.hM,_,_,_=>ak
noncomputable def pe(c:Ck):Es->bN->bV->List aR->Bool
 |.n,_,_,_=>ai
 |.c _ e es,Y,vw,xs=>dI c e Y vw (aF xs)&&pe c es Y vw xs.tail
end
section
noncomputable def ma(X:Cx):Ck:=⟨X.aH,X.qZ⟩
variable{X:Cx}{k:Nat}{Y:bN}{view:bV}{P F cZ:Kp}{G ae:J}{ab:b5}{z:ay}{A:cB}{s aD:bA}
theorem By(h:y9 (ma X) Y n b=ai):bS X k Y view (.Name n pos) (λ_ G Q=>Q (.bC b) G):=IV (Lb (aq h).2) (qm (aq (aq h).1).1) (y6 (aq (aq h).1).2).1
theorem zc(h:xm Y view i n=ai):bS X k Y view (.Name n pos) λz G Q=>bR (dO z i) λv=>Q v G:=T6 (t4 (aq h).1) (Yc (aq (aq h).2).1) (y6 (aq (aq h).2).2).1 (y6 (aq (aq h).2).2).2
theorem Lf:∀{is:List Nat} {es:List aR},Fe Y view is es=ai->∃ps:List (Nat×bg),is=ps.map (·.1)/\((Bu is es).length=ps.length/\∀(j:Nat) (p:Nat×bg),ps[j]?=I p->∃pos,(Bu is es)[j]?=I (Bn p.2 pos))/\(∀p∈ps,p∈view/\(Y.names.lookup p.2=I .local\/Y.names.lookup p.2=I .cell))
 |[],_,_=>⟨[],rfl,⟨rfl,λ_ _ h=>nomatch(List.getElem?_nil.symm.trans h)⟩,λ_ h=>nomatch h⟩
 |i::is,es,h=>
  have⟨ps,e,⟨h1,h2⟩,h3⟩:=Lf (aq h).2
  ⟨(i,ip (aF es))::ps,congrArg (i::·) e,⟨congrArg (· +1) h1,λj p=>match j with
   |0=>λa=>⟨(aF es).pos,congrArg (λp:Nat×bg=>I (Bn p.2 (aF es).pos)) (xa a)⟩
   |j+1=>h2 j p⟩,λp b=>(List.mem_cons.mp b).elim (λe=>e▸⟨t4 (aq (aq h).1).1,y3 (aq (aq h).1).2⟩) (h3 p)⟩
theorem Fh(jt:jX view)(h:Ff Y view t target=ai):sP X k Y view (Bv t target) t:=by
 cases t with
 |cD i=>exact W5 jt (t4 (aq h).1) (y3 (aq h).2)
 |fG is=>obtain⟨ps,e,h1,h2⟩:=Lf h;subst e;exact W8 jt h1 h2
def Bz(X:Cx)(k:Nat)(Y:bN)(view:bV)(e:aR)(w:EW):Prop:=bS X k Y view e w/\oU X k Y view e (vb w)
theorem bS.fA(h:bS X k Y view e w)(ba:∀ab jh,va e ab jh=(do let v<- jh;vc e.pos;sr [v] (truthy v))):Bz X k Y view e w:=⟨h,h.I9.UC ba⟩
noncomputable def nC(T:c9)(aU:CO):Es->List BW
 |.n=>[]
 |.c _ e es=>vb (ct T aU e)::nC T aU es
noncomputable def zd(T:c9)(aU:CO):Es->List (lW×EW)
 |.n=>[]
 |.c b4 e es=>(b4,ct T aU e)::zd T aU es
theorem Lg(T:c9)(aU:CO)(es:Es):(nC T aU es).isEmpty=es.oP:=by cases es<;>rfl
theorem Yp(T:c9)(aU:CO)(es:Es):(zd T aU es).isEmpty=es.oP:=by cases es<;>rfl
theorem Fi(T:c9)(aU:CO):∀es,r9 T aU es=sx (nC T aU es)
 |.n=>rfl
 |.c _ e es=>by
  have h:(λz G Q=>ct T aU e z G (IC (nC T aU es).isEmpty (sx (nC T aU es)) z Q))=sx (nC T aU (.c .Eq e es)):=rfl;rw[<- Fi T aU es,Lg]at h;exact h
theorem Lh(T:c9)(aU:CO):∀es,DR T aU es=sz (nC T aU es)
 |.n=>rfl
 |.c _ e es=>by
  have h:(λz G Q=>ct T aU e z G (ID (nC T aU es).isEmpty (sz (nC T aU es)) z Q))=sz (nC T aU (.c .Eq e es)):=rfl;rw[<- Lh T aU es,Lg]at h;exact h
theorem Li(T:c9)(aU:CO):∀eK,AF T aU eK=vd (zd T aU eK)
 |.n=>rfl
 |.c b4 e es=>by
  funext a z G Q;show(ct T aU e z G λb G=>rd a (qT G b4 a b) λc=>uP es.oP c (AF T aU es b z G Q) Q G)=_;rw[Li T aU es,<- Yp T aU es];rfl
theorem Yq(iter:aR):cond (xl iter) True (xf iter=λ_ x=>eJ x):=by cases iter<;>first|exact True.intro|exact rfl
theorem Fj(h:xl iter=ak)(ab:b5)(x:aw):xf iter ab x=eJ x:=congrFun (congrFun (h▸Yq iter:cond ak True (xf iter=λ_ x=>eJ x)) ab) x
theorem Yr(b:E):cond (zb b) (b=.n) True:=by cases b<;>first|exact True.intro|exact rfl
theorem Fm(h:zb b=ai):b=.n:=(h▸Yr b:cond ai (b=.n) True)
theorem Lj:1000<=2*cK:=by decide
theorem t6:∀{ir:E},dI c ir Y view x=ai->iH (cI c.aH ir x)=false:=by intro ir h;cases ir<;>first|rfl|cases h
theorem Lk:∀{t:Tg},Bx t=ai->∃is,t=.fG is
 |.fG is,_=>⟨is,rfl⟩
theorem Fo(ha:∀{x},dI (ma X) a Y view x=ai->bS X k Y view (cI X.aH a x) (ct X.a8 (aB X k) a))(hb:∀{x},dI (ma X) b Y view x=ai->bS X k Y view (cI X.aH b x) (ct X.a8 (aB X k) b))(h:Fg kk (zb b) (Bx t) (dI (ma X) a Y view y) (dI (ma X) a Y view (bj y 1)) (dI (ma X) b Y view (bj y 2)) (y9 (ma X) Y (ip (bj y 0)))=ai):sQ X k Y view (Bv t tx) (y8 kk (cI X.aH a y) (cI X.aH a (bj y 1)) (cI X.aH b (bj y 2)) y) λz G Q=>ct X.a8 (aB X k) a z G λav G=>ct X.a8 (aB X k) b z G λg6 G=>bR (p6 kk av g6) λxs=>Q xs G:=by
 cases kk with
 |s=>
  cases Fm (aq h).2;exact Xc (ha (aq h).1)
 |qV=>
  cases Fm (aq (aq h).2).2;have⟨is,e⟩:=Lk (aq (aq h).1).1;obtain rfl:=e;exact Xh (By (aq (aq h).1).2) rfl (ha (aq (aq h).2).1) (t6 (aq (aq h).2).1)
 |z=>have⟨is,e⟩:=Lk (aq (aq h).1).1;obtain rfl:=e;exact Xi (By (aq (aq h).1).2) rfl (ha (aq (aq h).2).1) (t6 (aq (aq h).2).1) (hb (aq (aq h).2).2) (t6 (aq (aq h).2).2)
 |r=>cases Fm (aq (aq h).2).2;exact Xo (By (aq h).1) rfl (ha (aq (aq h).2).1) (t6 (aq (aq h).2).1)
theorem Ll:∀{eK:Es} {xs:List aR},a6 (eK.aL<=1)=ai->su X k Y view (lC X.aH eK xs) (nC T aU eK)->vA X k Y view (lC X.aH eK xs) (r9 T aU eK)
 |.n,_,_,_=>XK
 |.c o e .n,_,_,h=>by
  cases h with
  |cons _ h2 _=>rw[Fi];exact XM h2
 |.c _ _ (.c _ _ es),_,h,_=>absurd (of_decide_eq_true h) (Nat.not_le_of_gt (Ys (Fp _)))
theorem vB(aH:Nat->bg):∀(es:Es) (xs:List aR),(lC aH es xs).length=es.aL
 |.n,_=>rfl
 |.c _ _ es,xs=>congrArg (· +1) (vB aH es xs.tail)
theorem Fq:∀{es:Es},(!es.oP)=ai->lC aH es xs≠ []
 |.c _ _ _,_=>λh=>nomatch h
theorem Lm:∀{es:Es},(!es.oP)=ai->y7 es≠ []
 |.c _ _ _,_=>λh=>nomatch h
theorem Ln(h:za scope n=ai):(n,kY)∈scope.names:=by obtain⟨⟨m,kd⟩,a,e⟩:=List.any_eq_true.mp h;obtain rfl:kd=.free:=uL (aq e).1;rw[<- y0 (aq e).2];exact a
theorem Lo(h:(n,kY)∈scope.names):za scope n=true:=List.any_eq_true.mpr ⟨_,h,Bool.and_eq_true_iff.mpr ⟨rfl,Bs n⟩⟩
theorem Yt(h:(i,n)∈Ld t target):i∈t.slots:=by
 cases t with
 |cD j=>exact List.mem_singleton.mpr (congrArg (·.1) (List.mem_singleton.mp h))
 |fG is=>exact(Bc h).1
theorem ze(h:(a||b)=ai)(ha:a=ak):b=true:=(qk h).elim (λh=>by rw[ha]at h;cases h) id
theorem Lp(h:Le scope Y view t target=ai):xh scope Y view (xn scope view t target) t.slots/\jX (xn scope view t target):=by
 obtain⟨g,j⟩:=aq h;obtain⟨l,m⟩:=aq g;obtain⟨o,p⟩:=aq j;obtain⟨q,r⟩:=aq p;have c:=List.all_eq_true.mp o;have a4:=List.all_eq_true.mp q;have u:=List.all_eq_true.mp r;have dr:=λ(n:bg) (a:(n,kY)∈scope.names)=>aq (ze (aq (aq (c _ a)).1).2 rfl);exact⟨⟨uL l,λy d=>bne_iff_ne.mp (aq (aq (c _ d)).1).1,λn a=>qm (dr n a).1,λy d e=>qm (ze (aq (c _ d)).2 (by rw[e];rfl)),λn a=>qm (dr n a).2,
  λn a=>Ln (a.elim (λh=>ze (a4 _ (rC h)) rfl) (λh=>ze (a4 _ (rC h)) rfl)),
  λi y b=>(List.mem_append.mp b).imp Yt λh=>⟨(List.mem_filter.mp h).1,Ln (List.mem_filter.mp h).2⟩,
  λi y b f=>⟨List.mem_append.mpr (.inr (List.mem_filter.mpr ⟨b,Lo f⟩)),λv=>by
   have:=ze (u _ b) (by rw[Lo f];rfl);rw[List.contains_iff_mem.mpr v]at this;cases this⟩⟩,K5 m⟩
structure Yx(X:Cx)(k:Nat)(Y:bN)(view:bV)(xs:List aR)(es:Es):Prop where
 s:m7 X k Y view xs (sa X.a8 (aB X k) es)
 b:su X k Y view xs (nC X.a8 (aB X k) es)
 e:A0 X k Y view xs (sa X.a8 (aB X k) es)
 n:(xs.all λe=> !iH e)=ai
 c:tS X k Y view (y7 es) xs (zd X.a8 (aB X k) es)
theorem Bz.rw(h:bS X k Y view e ft)(e1:w=ft)(e2:vb ft=b)(t:oU X k Y view e b):Bz X k Y view e w:=by subst e1 e2;exact⟨h,t⟩
theorem Yy(T:c9)(aU:CO)(e:E):ct T aU (.not e)=λz G Q=>vb (ct T aU e) z G λb G=>Q (.b (!b)) G:=rfl
theorem Yz(T:c9)(aU:CO)(t b o:E):ct T aU (.d7 t b o)=Je (vb (ct T aU t)) (ct T aU b) (ct T aU o):=rfl
theorem YA(T:c9)(aU:CO)(es:Es):ct T aU (.and es)=λz G Q=>sx (nC T aU es) z G λb G=>Q (.b b) G:=by rw[<- Fi];rfl
theorem YB(T:c9)(aU:CO)(es:Es):ct T aU (.o es)=λz G Q=>sz (nC T aU es) z G λb G=>Q (.b b) G:=by rw[<- Lh];rfl
theorem YC(T:c9)(aU:CO)(l:E)(eK:Es):ct T aU (.aJ l eK)=λz G Q=>ct T aU l z G λa G=>vd (zd T aU eK) a z G λb G=>Q (.b b) G:=by rw[<- Li];rfl
mutual
theorem sE:∀(ir:E) {Y:bN} {vw:bV} {x:aR},jX vw->dI (ma X) ir Y vw x=ai->Bz X k Y vw (cI X.aH ir x) (ct X.a8 (aB X k) ir)
 |.i i,Y,vw,x,hv,h=>IT.fA λ_ _=>rfl
 |.b b,Y,vw,x,hv,h=>T4.fA λ_ _=>rfl
 |.n,Y,vw,x,hv,h=>T5.fA λ_ _=>rfl
 |.z i,Y,vw,x,hv,h=>(zc h).fA λ_ _=>rfl
 |.L v,Y,vw,x,hv,h=>(IV (Lb (aq (aq h).2).2) (qm (aq h).1) (y6 (aq (aq h).2).1).1).fA λ_ _=>rfl
 |.bH b4 l r,Y,vw,x,hv,h=>(Ug (sE l hv (aq h).1).1 (sE r hv (aq h).2).1).fA λ_ _=>rfl
 |.neg e,Y,vw,x,hv,h=>(IX (sE e hv h).1).fA λ_ _=>rfl
 |.not e,Y,vw,x,hv,h=>.rw (Uh (sE e hv h).1) rfl (congrArg vb (Yy _ _ e)) (UI (sE e hv h).2).te
 |.and es,Y,vw,x,hv,h=>.rw (UD (k5 es hv (aq h).2).b (Fq (aq h).1)).D7 (YA _ _ es) rfl (UG (k5 es hv (aq h).2).b).te
 |.o es,Y,vw,x,hv,h=>.rw (UE (k5 es hv (aq h).2).b (Fq (aq h).1)).D7 (YB _ _ es) rfl (UH (k5 es hv (aq h).2).b).te
 |.aJ l eK,Y,vw,x,hv,h=>
  .rw (UO (sE l hv (aq (aq h).1).1).1 (k5 eK hv (aq (aq h).1).2).c (Lm (aq (aq h).2).1) (nB (aq (aq h).2).2)).D7 (YC _ _ l eK) rfl
   (UQ (sE l hv (aq (aq h).1).1).1 (k5 eK hv (aq (aq h).1).2).c (Lm (aq (aq h).2).1) (nB (aq (aq h).2).2)).te
 |.d7 t b o,Y,vw,x,hv,h=>
  .rw (UK (sE t hv (aq h).1).2 (sE b hv (aq (aq h).2).1).1 (sE o hv (aq (aq h).2).2).1) (Yz _ _ t b o) rfl
   (UL (sE t hv (aq h).1).2 (sE b hv (aq (aq h).2).1).2 (sE o hv (aq (aq h).2).2).2).te
 |.c f as,Y,vw,x,hv,h=>(VZ (sE f hv (aq (aq h).2).1).1 (nB (aq h).1) (k5 as hv (aq (aq h).2).2).s (k5 as hv (aq (aq h).2).2).n).fA λ_ _=>rfl
 |.pY m e,Y,vw,x,hv,h=>(Wd (By (aq h).1) rfl (sE e hv (aq h).2).1 (t6 (aq h).2)).fA λ_ _=>rfl
 |.iD o n as,Y,vw,x,hv,h=>(V4 (sE o hv (aq (aq h).1).1).1 (nB (aq (aq h).1).2) (k5 as hv (aq (aq h).2).1).s (k5 as hv (aq (aq h).2).1).n (vB X.aH as _▸of_decide_eq_true (aq (aq (aq h).2).2).1) (aq (aq (aq h).2).2).2).fA λ_ _=>rfl
 |.r5 o as,Y,vw,x,hv,h=>(V7 (sE o hv (aq (aq h).1).1).1 (nB (aq (aq h).1).2) (k5 as hv (aq (aq h).2).1).s (k5 as hv (aq (aq h).2).1).n (vB X.aH as _▸of_decide_eq_true (aq (aq (aq h).2).2).1) (aq (aq (aq h).2).2).2).fA λ_ _=>rfl
 |.iE i e,Y,vw,x,hv,h=>(V9 (zc (aq h).1) (sE e hv (aq (aq h).2).1).1 (t6 (aq (aq h).2).1) (aq (aq h).2).2).fA λ_ _=>rfl
 |.ext i e,Y,vw,x,hv,h=>(Wa (zc (aq h).1) (sE e hv (aq (aq h).2).1).1 (t6 (aq (aq h).2).1) (aq (aq h).2).2).fA λ_ _=>rfl
 |.au o n,Y,vw,x,hv,h=>(U3 (sE o hv (aq h).1).1 (nB (aq h).2)).fA λ_ _=>rfl
 |.bq o i,Y,vw,x,hv,h=>(VA (sE o hv (aq h).1).1 (sE i hv (aq h).2).1).fA λ_ _=>rfl
 |.m4 o n,Y,vw,x,hv,h=>(VM (sE o hv h).1).fA λ_ _=>rfl
 |.uQ o l u,Y,vw,x,hv,h=>(VH (sE o hv (aq h).1).1 (sE l hv (aq (aq h).2).1).1 (sE u hv (aq (aq h).2).2).1).fA λ_ _=>rfl
 |.yl o l,Y,vw,x,hv,h=>(VK (sE o hv (aq h).1).1 (sE l hv (aq h).2).1).fA λ_ _=>rfl
 |.uR o u,Y,vw,x,hv,h=>(VI (sE o hv (aq h).1).1 (sE u hv (aq h).2).1).fA λ_ _=>rfl
 |.ym o,Y,vw,x,hv,h=>(VJ (sE o hv h).1 (IX (IT (i:=1)))).fA λ_ _=>rfl
 |.aV es,Y,vw,x,hv,h=>(VB (k5 es hv (aq h).1).s (vB X.aH es _▸hW (of_decide_eq_true (aq h).2) Lj)).fA λ_ _=>rfl
 |.cj m es,Y,vw,x,hv,h=>(We (k5 es hv (aq h).1).s (vB X.aH es _▸hW (of_decide_eq_true (aq h).2) Lj)).fA λ_ _=>rfl
 |.mE ns es,Y,vw,x,hv,h=>(VU (k5 es hv (aq h).1).e ((of_decide_eq_true (aq (aq (aq h).2).1).1).trans (vB X.aH es _).symm) (Lc (aq (aq (aq h).2).1).2) (vB X.aH es _▸of_decide_eq_true (aq (aq (aq h).2).2).1) (Fq (aq (aq (aq h).2).2).2)).fA λ_ _=>rfl
 |.r6 m,Y,vw,x,hv,h=>Wf.fA λ_ _=>rfl
 |.q t kk a b eK e,Y,vw,x,hv,h=>
  have hc:=Lp (aq (aq h).1).1
  bS.fA (X4 hc.1 (Fo (λh=>(sE a hv h).1) (λh=>(sE b hv h).1) (aq (aq (aq h).2).2).2) (Fh hc.2 (aq (aq h).1).2)
   (Ll (aq (aq (aq h).2).1).2 (k5 eK hc.2 (aq (aq (aq (aq h).2).2).1).1).b) (sE e hc.2 (aq (aq (aq (aq h).2).2).1).2).1 (Fj (nB (aq (aq (aq h).2).1).1))) λ_ _=>rfl
 |.hM,Y,vw,x,hv,h=>nomatch h
theorem k5:∀(es:Es) {Y:bN} {vw:bV} {xs:List aR},jX vw->pe (ma X) es Y vw xs=ai->Yx X k Y vw (lC X.aH es xs) es
 |.n,Y,vw,xs,hv,h=>⟨u0,.nil,rfl,rfl,.nil⟩
 |.c b4 e es,Y,vw,xs,hv,h=>
  have i:=sE e hv (aq h).1;have j:=k5 es hv (aq h).2;have b0:=t6 (aq h).1
  ⟨tQ i.1 j.s b0,.cons i.1.I9 i.2 j.b,⟨_,_,i.1,j.e,rfl⟩,Bool.and_eq_true_iff.mpr ⟨yK _▸b0,j.n⟩,.cons i.1 j.c⟩
end
end
end
section
open PyProof.Rows PySem.Calls
variable{X:Cx}{k:Nat}{Y:bN}{view:bV}{P F cZ:Kp}{G ae:J}{ab:b5}{z:ay}{A:cB}{s aD:bA}
theorem YD(G:J)(v:V):(wN G v).elim True λy=>(∃a xs,v=.r a/\G a=I (.l xs)/\y=(.l xs,G.cT a))\/(∃a ks vs,v=.r a/\G a=I (.dk ks vs)/\y=(.dk ks vs,G.cT a))\/∃a C dx ns vs,v=.o a C dx/\G dx=I (.eE ns vs)/\y=(.eS a C ns vs,G.cT dx):=by
 cases v<;>first|exact True.intro|skip
 .exact qh λy h=>(or_some h).elim (λh=>have⟨xs,e,h⟩:=Option.map_eq_some_iff.mp h; .inl ⟨_,xs,rfl,(yf _).eq e,h.symm⟩) (λh=>have⟨d,e,h⟩:=Option.map_eq_some_iff.mp h; .inr (.inl ⟨_,d.1,d.2,rfl,(DK _).eq e,h.symm⟩))
 .exact qh λy h=>have⟨d,e,h⟩:=Option.map_eq_some_iff.mp h; .inr (.inr ⟨_,_,_,d.1,d.2,rfl,(yg _).eq e,h.symm⟩)
theorem YE(G:J)(v:V)(n:Nat):(AG G v n).elim True λae=>∃dx ns vs b xs,G dx=I (.eE ns vs)/\iQ ns vs n=I (.r b)/\G b=I (.l xs)/\ae=(G.cT b).s dx (.eE ns (lT ns vs n (.l xs))):=
 qh λae h=>
  have⟨dx,_,h⟩:=Option.bind_eq_some_iff.mp h;have⟨f,c,h⟩:=Option.bind_eq_some_iff.mp h;have⟨b,a,h⟩:=Option.bind_eq_some_iff.mp h;have⟨u,d,a⟩:=Option.bind_eq_some_iff.mp a;have⟨xs,e,h⟩:=Option.map_eq_some_iff.mp h
  ⟨dx,f.1,f.2,b,xs,(yg _).eq c,d.trans (congrArg I ((yd u).eq a)),(yf _).eq e,h.symm⟩
theorem aO.yP(x:aO X k Y view P F G ab z A s)(jt:jX view){i:Nat}{v:V}{y:V×J}(hl:dO z i=I v)(aT:wN G v=I y):∃aX,F.le aX/\aO X k Y view P aX y.2 ab (dX z i y.1) A s:=by
 have main:∀{a:aC} {o:gf} {w:V},G a=I o->(∀aX ob u,F.le aX->aX a=I ob->oR X aX o ob->bL X F v u->bL X aX w u)->∃aX,F.le aX/\aO X k Y view P aX (G.cT a) ab (dX z i w) A s:=by
  intro a o w c H;obtain⟨ob,g,r,l,f⟩:=x.aP.yP c;refine⟨_,l,x.ok,x.eZ,x.dC.t l,x.gz,x.fa,f,⟨?_,λb K=>?_,x.bZ.jo⟩⟩
  .obtain⟨L,M,p⟩:=x.bZ.bZ;refine⟨L,M,λj n u B N=>?_⟩;rcases Bg N with⟨rfl,rfl⟩|⟨h1,O⟩
   .obtain⟨u,m,d⟩:=p _ n v B hl;exact⟨u,m,H _ ob u l Kp.lr (oR.bI X l r) d⟩
   .obtain⟨u,m,d⟩:=p _ n _ B O;exact⟨u,m,d.bI X l⟩
  .obtain⟨Q,R,D⟩:=x.bZ.apart b K;have E:b≠a:=λe=>by subst e;rw[D]at c;cases c
   exact⟨Q,by rw[Kp.m6 E];exact R,by rw[J.nj E];exact D⟩
 have h:=YD G v;rw[aT]at h;rcases h with⟨a,xs,rfl,c,rfl⟩|⟨a,ks,vs,rfl,c,rfl⟩|⟨a,C,dx,ns,vs,rfl,c,rfl⟩
 .refine main c λaX ob u l e r d=>?_;obtain rfl:=d;obtain⟨ws,n,rfl,r,f⟩:=r;exact⟨_,ws,n,rfl,e,r,f⟩
 .refine main c λaX ob u l e r d=>?_;obtain rfl:=d;obtain⟨S,aF,hl,f,r⟩:=r;exact⟨_,ob,S,rfl,e,aF,hl,λq=>(by subst q;rw[x.aP.sm]at c;cases c),r⟩
 .refine main c λaX ob u l e r d=>?_;obtain⟨rfl,T,g⟩:=d;obtain⟨U,n,rfl,W,Z⟩:=r;exact⟨rfl,T,_,U,n,l _ _ g,e,W,Z⟩
theorem aO.qW(x:aO X k Y view P F G ab z A s)(jt:jX view){i:Nat}{v:V}(hl:dO z i=I v):aO X k Y view P F G ab (dX z i .a) A s:=by
 refine⟨x.ok,x.eZ,x.dC,x.gz,x.fa,x.aP,⟨?_,x.bZ.apart,x.bZ.jo⟩⟩;obtain⟨d,e,b⟩:=x.bZ.bZ;refine⟨d,e,λj n u c f=>?_⟩;rcases Bg f with⟨rfl,rfl⟩|⟨m,g⟩
 .obtain⟨u,h,l⟩:=b _ n v c hl;exact⟨u,h,l.AK X⟩
 .exact b _ n _ c g
theorem YF{ns:List Nat}:∀{vs:List V} {ao:List aw} {n:Nat} {v w:V},bE X F vs ao->iQ ns vs n=I v->(∀u,bL X F v u->bL X F w u)->bE X F (lT ns vs n w) ao:=by
 induction ns with
 |nil=>intro vs ao n v w _ h;cases h
 |cons m ns d=>
  intro vs ao n v w r h a;cases vs with
  |nil=>cases h
  |cons e vs=>
   obtain⟨u,ao,rfl,b,c⟩:=r;rw[D8]at h;rw[Jg];revert h;cases ie m n with
   |true=>intro h;cases h;exact qc (a _ b) c
   |false=>exactλh=>qc b (d c h a)
theorem aO.YG(x:aO X k Y view P F G ab z A s){v:V}{u:aw}{n:Nat}{ae:J}(aT:AG G v n=I ae):∃aX,F.le aX/\aO X k Y view P aX ae ab z A s:=by
 have h:=YE G v n;rw[aT]at h;refine cps λG0 C=>?_;obtain⟨d,ns,vs,b,xs,D,K,i,rfl⟩:=h;have L:d≠b:=λe=>by subst e;rw[D]at i;cases i
 obtain⟨ob,g,r,l,a⟩:=x.aP.yP i;obtain⟨ws,m,rfl,M,N⟩:=r;have E:(G.cT b) d=I (.eE ns vs):=by rw[J.nj L];exact D
 obtain⟨O,gd,Q,R,rfl,S,T⟩:=a.fo _ _ E;refine C ?_;clear C;have H:∀{c:aC},(G.cT b) c=aa->c≠d:=λh q=>by rw[q,E]at h;cases h
 have j:∀{c:aC} {p:Option gf->Prop},(G.cT b) c=aa->p ((G.cT b) c)->p (((G.cT b).s d (.eE ns (lT ns vs n (.l xs)))) c):=λh U=>by rw[J.cC (H h)];exact U
 refine⟨_,l,x.ok,x.eZ,x.dC.t l,x.gz,x.fa,⟨a.p,a.f,λc o e=>?_,λc h=>j (p:=λo=>_/\o=aa) (a.pf _ h).2 (a.pf c h),λc h=>j (p:=(· =aa)) (a.fs c h) (a.fs c h),j (p:=(· =aa)) a.sm a.sm,a.os,a.gens⟩,⟨?_,λc W=>?_,x.bZ.jo⟩⟩
 .by_cases q:c=d
  .subst q;rw[J.bY]at e;cases e;refine⟨_,gd,Q,R,rfl,S,YF T K λw Z=>?_⟩;obtain rfl:=Z;exact⟨_,ws,m,rfl,Kp.lr,bE.bI X l M,N⟩
  .rw[J.cC q]at e;exact a.fo c o e
 .obtain⟨eG,dN,eL⟩:=x.bZ.bZ;exact⟨eG,dN,eL.bI X l⟩
 .obtain⟨c1,c2,y⟩:=x.bZ.apart c W;have B:c≠b:=λe=>by subst e;rw[y]at i;cases i
  exact⟨c1,by rw[Kp.m6 B];exact c2,by rw[J.cC (H (by rw[J.nj B];exact y)),J.nj B];exact y⟩
noncomputable def BA{aK:Type}:Sem aK->Option aK
 |.pure a=>I a
 |_=>aa
theorem YH{aK:Type}(m:Sem aK):(BA m).elim True λa=>m=eJ a:=by cases m<;>first|exact True.intro|exact rfl
theorem Lq{aK:Type}{m:Sem aK}{a:aK}(h:BA m=I a):m=eJ a:=(h▸YH m:(I a).elim True λa=>m=eJ a)
noncomputable def Lr(Y:bN):Env:={(jJ:b5)with scope:=Y}
def vC(Y:bN)(e:aR)(o:Option aR)(line:Nat)(b:Bool):Bool:=BA (EF e o line (Lr Y))==I b
def BB(Y:bN)(ts:List aR)(e:aR)(o:Option (List bg)):Bool:=BA (EG ts e (Lr Y))==I o
theorem Fs{e:aR}{o:Option aR}{line:Nat}{b:Bool}(h:vC Y e o line b=ai)(ab:b5)(ba:ab.scope=Y):EF e o line ab=eJ b:=by subst ba;exact Lq (uL h)
theorem Ft{t e:aR}{line:Nat}{b:Bool}(h:vC Y e (I t) line b=ai)(ab:b5)(ba:ab.scope=Y):Kl [t] e line ab=eJ b:=Fs h ab ba
theorem Fu{ts:List aR}{e:aR}{o:Option (List bg)}(h:BB Y ts e o=ai)(ab:b5)(ba:ab.scope=Y):EG ts e ab=eJ o:=by subst ba;exact Lq (uL h)
structure SV where
 es:List aR
 b:List gL
 o:List gL
 p:b3
def sv:gL->SV
 |.Assign ts e p=>⟨ts++[e],[],[],p⟩
 |.AugAssign t _ e p=>⟨[t,e],[],[],p⟩
 |.Expr e p=>⟨[e],[],[],p⟩
 |.If c b o p=>⟨[c],b,o,p⟩
 |.For t i b o p=>⟨[t,i],b,o,p⟩
 |.While c b o p=>⟨[c],b,o,p⟩
 |.Return e p=>⟨[e.getD (aF [])],[],[],p⟩
 |.Continue p=>⟨[],[],[],p⟩
 |_=>⟨[],[],[],⟨0,0,0,0⟩⟩
def bB(x:gL)(n:Nat):Expr:=aF ((sv x).es.drop n)
noncomputable def Ls:List gL->gL
 |x::_=>x
 |[]=>.Pass ⟨0,0,0,0⟩
def rK(aH:Nat->bg):Pl->aR->aR
 |.z _,x=>pb x
 |.au _ n,x=>.Attribute (pb (bj x 0)) (aH n) x.pos
 |.bq o i,x=>.Subscript (cI aH o (bj x 0)) (cI aH i (bj x 1)) x.pos
noncomputable def xo(aH:Nat->bg):List Pl->List aR->List aR
 |[],_=>[]
 |t::ts,xs=>rK aH t (aF xs)::xo aH ts xs.tail
noncomputable def Fv:S->Bool
 |.dC _=>ai
 |.qW _=>ai
 |.tG _ _=>ai
 |_=>ak
mutual
noncomputable def Lu(aH:Nat->bg):S->gL->gL
 |.aN t e,x=>.Assign [rK aH t (bB x 0)] (cI aH e (bB x 1)) (sv x).p
 |.fm ts e,x=>.Assign [.Tuple (xo aH ts (fY (bB x 0))) (xK (bB x 0)) (bB x 0).pos] (cI aH e (bB x 1)) (sv x).p
 |.eY t b4 e,x=>.AugAssign (rK aH t (bB x 0)) b4 (cI aH e (bB x 1)) (sv x).p
 |.cR e,x=>.Expr (cI aH e (bB x 0)) (sv x).p
 |.ite t b o,x=>.If (cI aH t (bB x 0)) (t7 aH b (sv x).b) (t7 aH o (sv x).o) (sv x).p
 |.gK t k a b body,x=>.For (Bv t (bB x 0)) (y8 k (cI aH a (bB x 1)) (cI aH a (bj (bB x 1) 1)) (cI aH b (bj (bB x 1) 2)) (bB x 1)) (t7 aH body (sv x).b) [] (sv x).p
 |.while t b,x=>.While (cI aH t (bB x 0)) (t7 aH b (sv x).b) [] (sv x).p
 |.r e,x=>.Return (I (cI aH e (bB x 0))) (sv x).p
 |.c,x=>.Continue (sv x).p
 |.hM,x=>x
 |.dC _,x=>x
 |.qW _,x=>x
 |.tG _ _,x=>x
noncomputable def t7(aH:Nat->bg):Ss->List gL->List gL
 |.n,_=>[]
 |.c s r,xs=>bif Fv s then t7 aH r xs else Lu aH s (Ls xs)::t7 aH r xs.tail
end
def zf(c:Ck)(Y:bN)(vw:bV):Pl->aR->Bool
 |.z i,x=>tZ vw i (ip x)&&y2 Y (ip x)
 |.au i _,x=>xm Y vw i (ip (bj x 0))
 |.bq o i,x=>dI c o Y vw (bj x 0)&&dI c i Y vw (bj x 1)
noncomputable def Fw(c:Ck)(Y:bN)(vw:bV):List Pl->List aR->Bool
 |[],_=>ai
 |t::ts,xs=>zf c Y vw t (aF xs)&&Fw c Y vw ts xs.tail
noncomputable def vD:Pl->Option Nat
 |.z i=>I i
 |_=>aa
noncomputable def t8:List Pl->List aR->List (Nat×bg)
 |[],_=>[]
 |t::ts,xs=>((vD t).getD 0,ip (aF xs))::t8 ts xs.tail
noncomputable def BC(Y:bN)(vw:bV):List Pl->List aR->Bool
 |[],_=>ai
 |t::ts,xs=>((vD t).isSome&&(tZ vw ((vD t).getD 0) (ip (aF xs))&&kd Y (ip (aF xs)) .local))&&BC Y vw ts xs.tail
noncomputable def Fx:aR->Bool
 |.Slice .. =>ai
 |_=>ak
noncomputable def Lv:E->Bool
 |.q .. =>ai
 |_=>ak
def YI(c:Ck)(Y:bN)(vw:bV):Pl->aR->Bool
 |.z i,x=>tZ vw i (ip x)&&(y2 Y (ip x)&& !y5 (ip x))
 |.au i _,x=>xm Y vw i (ip (bj x 0))
 |.bq o i,x=>(dI c o Y vw (bj x 0)&&dI c i Y vw (bj x 1))&& !Fx (cI c.aH i (bj x 1))
mutual
noncomputable def Lw(c:Ck)(Y:bN)(vw:bV):S->gL->Bool
 |.aN t e,x=>dI c e Y vw (bB x 1)&&((vC Y (cI c.aH e (bB x 1)) (I (rK c.aH t (bB x 0))) (sv x).p.line ak&&(BB Y [rK c.aH t (bB x 0)] (cI c.aH e (bB x 1)) aa&&zf c Y vw t (bB x 0)))||
   (vC Y (cI c.aH e (bB x 1)) (I (rK c.aH t (bB x 0))) (sv x).p.line ai&&((Lv e&&(vD t).isSome)&&zf c Y vw t (bB x 0))))
 |.fm ts e,x=>(dI c e Y vw (bB x 1)&&vC Y (cI c.aH e (bB x 1)) (I (.Tuple (xo c.aH ts (fY (bB x 0))) (xK (bB x 0)) (bB x 0).pos)) (sv x).p.line ak)&&
   ((BB Y [.Tuple (xo c.aH ts (fY (bB x 0))) (xK (bB x 0)) (bB x 0).pos] (cI c.aH e (bB x 1)) aa&&Fw c Y vw ts (fY (bB x 0)))||
    (BB Y [.Tuple (xo c.aH ts (fY (bB x 0))) (xK (bB x 0)) (bB x 0).pos] (cI c.aH e (bB x 1)) (I ((t8 ts (fY (bB x 0))).map (·.2)))&&(BC Y vw ts (fY (bB x 0))&&Bw ((t8 ts (fY (bB x 0))).map (·.1)))))
 |.eY t _ e,x=>dI c e Y vw (bB x 1)&&YI c Y vw t (bB x 0)
 |.cR e,x=>dI c e Y vw (bB x 0)&&vC Y (cI c.aH e (bB x 0)) aa (sv x).p.line ak
 |.ite t b o,x=>dI c t Y vw (bB x 0)&&(t9 c Y vw b (sv x).b&&t9 c Y vw o (sv x).o)
 |.gK t k a b body,x=>(Fg k (zb b) (Bx t) (dI c a Y vw (bB x 1)) (dI c a Y vw (bj (bB x 1) 1)) (dI c b Y vw (bj (bB x 1) 2)) (y9 c Y (ip (bj (bB x 1) 0)))&&Ff Y vw t (bB x 0))&&
   (!xl (y8 k (cI c.aH a (bB x 1)) (cI c.aH a (bj (bB x 1) 1)) (cI c.aH b (bj (bB x 1) 2)) (bB x 1))&&t9 c Y vw body (sv x).b)
 |.while t b,x=>dI c t Y vw (bB x 0)&&t9 c Y vw b (sv x).b
 |.r e,x=>dI c e Y vw (bB x 0)
 |.c,_=>ai
 |.hM,_=>ai
 |.dC _,_=>ak
 |.qW _,_=>ak
 |.tG _ _,_=>ak
noncomputable def t9(c:Ck)(Y:bN)(vw:bV):Ss->List gL->Bool
 |.n,_=>ai
 |.c s r,xs=>bif Fv s then t9 c Y vw r xs else Lw c Y vw s (Ls xs)&&t9 c Y vw r xs.tail
end
theorem Lx(hv:jX view){t:Pl}{x:aR}(h:zf (ma X) Y view t x=ai):vq X k Y view (rK X.aH t x) (tM X.a8 (aB X k) t):=by
 cases t with
 |z i=>exact WI hv (t4 (aq h).1) (y3 (aq h).2)
 |au i n=>exact WK (zc h)
 |bq o i=>exact WL (sE o hv (aq h).1).1 (sE i hv (aq h).2).1
theorem Ly(aH:Nat->bg)(t:Pl)(x:aR):iH (rK aH t x)=false:=by cases t<;>rfl
theorem Lz(hv:jX view):∀{ts:List Pl} {xs:List aR},Fw (ma X) Y view ts xs=ai->sM X k Y view (xo X.aH ts xs) (ts.map (tM X.a8 (aB X k)))
 |[],_,_=>.nil
 |t::ts,xs,h=>.cons (Lx hv (aq h).1) (Ly _ _ _) (Lz hv (aq h).2)
theorem YJ(T:c9)(aU:CO):∀(ts:List Pl) (vs:List V) (z:ay) (G:J) (Q:ay->J->Prop),wM T aU ts vs z G Q=Bk (ts.map (tM T aU)) vs z G Q:=by
 intro a;induction a with
 |nil=>
  intro b;cases b with
  |nil=>exactλ_ _ _=>rfl
  |cons _ _=>exactλ_ _ _=>rfl
 |cons t ts c=>
  intro d;cases d with
  |nil=>exactλ_ _ _=>rfl
  |cons v vs=>exactλz G Q=>congrArg (tM T aU t v z G) (funext λz=>funext λG=>c vs z G Q)
theorem YK(t:Pl):(vD t).isSome=ai->t=.z ((vD t).getD 0):=by
 cases t with
 |z i=>exactλ_=>rfl
 |_=>exactλh=>nomatch h
theorem LA:∀{ts:List Pl} {xs:List aR},BC Y view ts xs=ai->∀p∈t8 ts xs,p∈view/\Y.names.lookup p.2=I .local
 |t::ts,xs,h,p,hp=>(List.mem_cons.mp hp).elim (λe=>e▸⟨t4 (aq (aq (aq h).1).2).1,qm (aq (aq (aq h).1).2).2⟩) (LA (aq h).2 p)
theorem YL:∀(ts:List Pl) (xs:List aR),(t8 ts xs).length=ts.length:=by
 intro a;induction a with
 |nil=>exactλ_=>rfl
 |cons _ ts b=>exactλxs=>congrArg (· +1) (b xs.tail)
theorem LB{T:c9}{aU:CO}:∀{ts:List Pl} {xs:List aR},BC Y view ts xs=ai->∀vs z G Q,ts.length=vs.length->wM T aU ts vs z G Q=Q (i6 z ((t8 ts xs).map (·.1)) vs) G
 |[],_,_,[],_,_,_,_=>rfl
 |t::ts,xs,h,v::vs,z,G,Q,hl=>by
  show tM T aU t v z G _=_;rw[YK t (aq (aq h).1).1];exact LB (aq h).2 vs _ G Q (yH hl)
theorem YM(i:aR):cond (Fx i) True (EH i=λov iv new=>(do sr [new,ov,iv] (Bh ov iv new);Bj [new,ov,iv] [];eJ .next)):=by cases i<;>first|exact True.intro|exact rfl
theorem YN{i:aR}(h:Fx i=ak)(ov iv new:aw):EH i ov iv new=(do sr [new,ov,iv] (Bh ov iv new);Bj [new,ov,iv] [];eJ .next):=congrFun (congrFun (congrFun (h▸YM i:cond ak True (EH i=λov iv new=>(do sr [new,ov,iv] (Bh ov iv new);Bj [new,ov,iv] [];eJ .next))) ov) iv) new
theorem kW.eq{b:gL}{w ft:SW}(h:kW X k Y view b w)(e:∀z G Q,ft z G Q->w z G Q):kW X k Y view b ft:=λP F G ab z A s Q x a=>h P F G ab z A s Q x (e z G Q a)
theorem YO(hv:jX view){t:Pl}{e:E}{x y:aR}{pos:b3}(hc:Lv e=ai)(hl:(vD t).isSome=ai)(ht:zf (ma X) Y view t y=ai)(h:dI (ma X) e Y view x=ai)(hs:vC Y (cI X.aH e x) (I (rK X.aH t y)) pos.line ai=ai):kW X k Y view (.Assign [rK X.aH t y] (cI X.aH e x) pos) (DT X.a8 (aB X k) (.aN t e)):=by
 cases t with
 |z i=>
  cases e with
  |q t d a b c e=>
   have hc:=Lp (aq (aq h).1).1;exact X5 hv (t4 (aq ht).1) (y3 (aq ht).2) hc.1 (Fo (λh=>(sE a hv h).1) (λh=>(sE b hv h).1) (aq (aq (aq h).2).2).2) (Fh hc.2 (aq (aq h).1).2)
    (Ll (aq (aq (aq h).2).1).2 (k5 c hc.2 (aq (aq (aq (aq h).2).2).1).1).b) (sE e hc.2 (aq (aq (aq (aq h).2).2).1).2).1 (Fj (nB (aq (aq (aq h).2).1).1)) (Fs hs)
  |_=>exact nomatch hc
 |_=>exact nomatch hl
theorem LC{w:EW}{P eU:List V->J->Prop}(h:∀vs G,P vs G=eU vs G){z:ay}{G:J}(aj:w z G λv G=>bR (lU v) λvs=>P vs G):w z G λv G=>bR (lU v) λvs=>eU vs G:=by obtain rfl:P=eU:=funext λvs=>funext (h vs);exact aj
mutual
theorem sS(hv:jX view):∀(ir:S) {x:gL},Lw (ma X) Y view ir x=ai->Fv ir=ak->kW X k Y view (Lu X.aH ir x) (DT X.a8 (aB X k) ir)
 |.aN t e,x,h,_=>(qk (aq h).2).elim (λq=>Kk (Lx hv (aq (aq q).2).2) (Ly _ _ _) (sE e hv (aq h).1).1 (Ft (aq q).1) (Fu (aq (aq q).2).1))
   (λq=>YO hv (aq (aq (aq q).2).1).1 (aq (aq (aq q).2).1).2 (aq (aq q).2).2 (aq h).1 (aq q).1)
 |.fm ts e,x,h,_=>(qk (aq h).2).elim
   (λq=>(Kk (WN (Lz hv (aq q).2)) rfl (sE e hv (aq (aq h).1).1).1 (Ft (aq (aq h).1).2) (Fu (aq q).1)).eq λz G Q aj=>LC (w:=ct X.a8 (aB X k) e) (P:=λvs G=>ts.length=vs.length/\wM X.a8 (aB X k) ts vs z G λz G=>Q .n z G) (λvs G=>by rw[<- YJ,cm]) aj)
   (λq=>(WV hv (LA (aq (aq q).2).1) (Lc (aq (aq q).2).2) (sE e hv (aq (aq h).1).1).1 (Ft (aq (aq h).1).2) (Fu (aq q).1)).eq λz G Q aj=>
    LC (w:=ct X.a8 (aB X k) e) (P:=λvs G=>ts.length=vs.length/\wM X.a8 (aB X k) ts vs z G λz G=>Q .n z G) (eU:=λvs G=>(t8 ts (fY (bB x 0))).length=vs.length/\Q .n (i6 z ((t8 ts (fY (bB x 0))).map (·.1)) vs) G)
     (λvs G=>by rw[YL];exact propext (and_congr_right λhl=>iff_of_eq (LB (aq (aq q).2).1 vs z G _ hl))) aj)
 |.eY (.z i) b4 e,x,h,_=>WW hv (t4 (aq (aq h).2).1) (y3 (aq (aq (aq h).2).2).1) (y6 (aq (aq (aq h).2).2).2).2 (sE e hv (aq h).1).1
 |.eY (.au i n) b4 e,x,h,_=>WX (zc (aq h).2) (sE e hv (aq h).1).1
 |.eY (.bq o i) b4 e,x,h,_=>WY (sE o hv (aq (aq (aq h).2).1).1).1 (sE i hv (aq (aq (aq h).2).1).2).1 (sE e hv (aq h).1).1 (YN (nB (aq (aq h).2).2))
 |.cR e,x,h,_=>WT (sE e hv (aq h).1).1 (Fs (aq h).2)
 |.ite t b o,x,h,_=>WS (sE t hv (aq h).1).2 (k6 hv b (aq (aq h).2).1) (k6 hv o (aq (aq h).2).2)
 |.gK t kk a b body,x,h,_=>Xp (Fo (λh=>(sE a hv h).1) (λh=>(sE b hv h).1) (aq (aq h).1).1) (Fh hv (aq (aq h).1).2) (k6 hv body (aq (aq h).2).2) (Fj (nB (aq (aq h).2).1))
 |.while t b,x,h,_=>Xr (sE t hv (aq h).1).2 (λ_ _ _ h=>h) (k6 hv b (aq h).2)
 |.r e,x,h,_=>WQ (sE e hv h).1
 |.c,x,h,_=>WR
 |.hM,x,h,_=>λ_ _ _ _ _ _ _ _ _ h=>h.elim
 |.dC i,x,_,h=>nomatch h
 |.qW i,x,_,h=>nomatch h
 |.tG i n,x,_,h=>nomatch h
theorem k6(hv:jX view):∀(ir:Ss) {xs:List gL},t9 (ma X) Y view ir xs=ai->rA X k Y view (t7 X.aH ir xs) (bK X.a8 (aB X k) ir)
 |.n,xs,h=>WO
 |.c (.dC i) r,xs,h=>λP F G ab z A s Q x aj=>by
   refine cps λG0 g0=>?_;obtain⟨v,e1,aj⟩:=lx aj;obtain⟨y,f,aj⟩:=tP aj;obtain⟨g,l,d⟩:=x.yP hv e1 f;refine g0 ?_;clear g0;exact cy (k6 hv r h _ _ _ _ _ _ _ _ d aj) (λ_ _ d=>d.le l) λ_ _ d=>d
 |.c (.qW i) r,xs,h=>λP F G ab z A s Q x aj=>by
   refine cps λG0 g0=>?_;obtain⟨v,e1,aj⟩:=lx aj;refine g0 ?_;clear g0;exact k6 hv r h _ _ _ _ _ _ _ _ (x.qW hv e1) aj
 |.c (.tG i n) r,xs,h=>λP F G ab z A s Q x aj=>by
   refine cps λG0 g0=>?_;obtain⟨v,e1,aj⟩:=lx aj;obtain⟨y,f,aj⟩:=tP aj;obtain⟨g,l,d⟩:=x.YG (u:=.none) f;refine g0 ?_;clear g0;exact cy (k6 hv r h _ _ _ _ _ _ _ _ d aj) (λ_ _ d=>d.le l) λ_ _ d=>d
 |.c (.aN t e) r,xs,h=>rE (sS hv (.aN t e) (aq h).1 rfl) (k6 hv r (aq h).2)
 |.c (.fm t e) r,xs,h=>rE (sS hv (.fm t e) (aq h).1 rfl) (k6 hv r (aq h).2)
 |.c (.eY t o e) r,xs,h=>rE (sS hv (.eY t o e) (aq h).1 rfl) (k6 hv r (aq h).2)
 |.c (.cR e) r,xs,h=>rE (sS hv (.cR e) (aq h).1 rfl) (k6 hv r (aq h).2)
 |.c (.ite t b o) r,xs,h=>rE (sS hv (.ite t b o) (aq h).1 rfl) (k6 hv r (aq h).2)
 |.c (.gK t j a b body) r,xs,h=>rE (sS hv (.gK t j a b body) (aq h).1 rfl) (k6 hv r (aq h).2)
 |.c (.while t b) r,xs,h=>rE (sS hv (.while t b) (aq h).1 rfl) (k6 hv r (aq h).2)
 |.c (.r e) r,xs,h=>rE (sS hv (.r e) (aq h).1 rfl) (k6 hv r (aq h).2)
 |.c .c r,xs,h=>rE (sS hv .c rfl rfl) (k6 hv r h)
 |.c .hM r,xs,h=>rE (sS hv .hM rfl rfl) (k6 hv r h)
end
end
section
namespace IR
@[reducible] noncomputable def glbF (n:Nat):E:=.L (.L (.ref n))
noncomputable def strD:Nat->Nat->List Nat->List Nat
 |0,_,l=>l
 |f+1,n,l=>match Nat.beq n 0 with
  |true=>l
  |false=>strD f (n/59) ((n%59+64)::l)
noncomputable def strN(n:Nat):Str:=⟨(strD 40 n []).toArray⟩
noncomputable def strL(l:List Nat):List Str:=l.map strN
noncomputable def names:List Str:=strL [675003818,2188996929429,92333058621848379986724,36956248117,1558834266967003969732,1964538213253,8976768,29053873027,443994215,507623012,626345586,10619397,579912466,612829035,10640938,8166109,31911916569,661271329,170075,10024860,32675926849,37754542374,33538100529,10620509,183833,7354933,507396860,34036361312,7970775,7354033,20737401589052338677,33296836495,351481382766767655,10435853,7560002,1473366767890122448662,7754032383698237,1348218888187519037130,4301788414564675317012180,818348808870235651187546548632,83674432223402,65495824097264878407364,1167283001835022924375,6579525278518641,5546312414474749,6554259782135003,439268621066105910,10644242,9182148,134749,91184763548803,24763739519,128519720219823,626318313,9408723,28497755767,1766247811331,409848980,2185979257377,117033,675002939,26524866021789267451,447812199645809819,588588004,27138091401,433941098,540900657]
noncomputable def LD:Ss:=(.c (.r (.and (.c .Eq (.c (.L (.bC .pV)) (.c .Eq (.z 0) (.c .Eq (.L (.bC .i)) .n))) (.c .Eq (.not (.c (.L (.bC .pV)) (.c .Eq (.z 0) (.c .Eq (.L (.bC .o)) .n)))) (.c .Eq (.aJ (.z 1) (.c .LtE (.z 0) (.c .LtE (.z 2) .n))) .n))))) .n)
noncomputable def LG:Ss:=(.c (.ite (.o (.c .Eq (.not (.c (.L (.bC .pV)) (.c .Eq (.z 0) (.c .Eq (.L (.bC .i)) .n)))) (.c .Eq (.c (.L (.bC .pV)) (.c .Eq (.z 0) (.c .Eq (.L (.bC .o)) .n))) .n))) (.c .hM .n) .n) (.c (.r (.z 0)) .n))
noncomputable def LH:Ss:=(.c (.ite (.not (.aJ (.neg (.L (.i (2147483647)))) (.c .LtE (.c (glbF 96) (.c .Eq (.z 0) .n)) (.c .LtE (.L (.i (2147483647))) .n)))) (.c .hM .n) .n) (.c (.r (.z 0)) .n))
noncomputable def LI:Ss:=(.c (.ite (.not (.aJ (.neg (.L (.i (1073741823)))) (.c .LtE (.c (glbF 96) (.c .Eq (.z 0) .n)) (.c .LtE (.L (.i (1073741823))) .n)))) (.c .hM .n) .n) (.c (.r (.z 0)) .n))
noncomputable def LJ:Ss:=(.c (.ite (.aJ (.z 0) (.c .Lt (.i 0) .n)) (.c .hM .n) .n) (.c (.ite (.aJ (.z 0) (.c .Eq (.i 0) .n)) (.c (.r (.i 0)) .n) .n) (.c (.ite (.aJ (.z 1) (.c .LtE (.i 0) .n)) (.c (.r (.L (.i (10000)))) .n) .n) (.c (.ite (.aJ (.z 0) (.c .LtE (.i 7230584) .n)) (.c (.aN (.z 2) (.bH .FloorDiv (.bH .Mult (.z 0) (.i 297)) (.z 1))) .n) (.c (.ite (.aJ (.z 1) (.c .GtE (.i 1663497) .n)) (.c (.aN (.z 2) (.bH .FloorDiv (.z 0) (.bH .FloorDiv (.z 1) (.i 297)))) .n) (.c (.aN (.z 2) (.z 0)) .n)) .n)) (.c (.ite (.aJ (.z 2) (.c .Gt (.i 1290) .n)) (.c (.r (.L (.i (10000)))) .n) .n) (.c (.r (.bH .FloorDiv (.bH .Add (.bH .Mult (.bH .Mult (.z 2) (.z 2)) (.z 2)) (.i 131072)) (.i 262144))) .n))))))
noncomputable def zg:Ss:=(.c (.ite (.o (.c .Eq (.not (.c (glbF 89) (.c .Eq (.z 3) (.c .Eq (.L (.i (0))) (.c .Eq (.L (.i (3))) .n))))) (.c .Eq (.not (.c (glbF 89) (.c .Eq (.z 5) (.c .Eq (.L (.i (0))) (.c .Eq (.L (.i (3))) .n))))) .n))) (.c .hM .n) .n) (.c (.aN (.au 0 0) (.c (glbF 110) (.c .Eq (.z 1) .n))) (.c (.aN (.au 0 1) (.c (glbF 110) (.c .Eq (.z 2) .n))) (.c (.aN (.au 0 2) (.d7 (.aJ (.z 2) (.c .NotEq (.i 0) .n)) (.z 3) (.L (.i (0))))) (.c (.aN (.au 0 3) (.c (glbF 110) (.c .Eq (.z 4) .n))) (.c (.aN (.au 0 4) (.d7 (.aJ (.z 4) (.c .NotEq (.i 0) .n)) (.z 5) (.L (.i (0))))) .n))))))
noncomputable def LK:Ss:=(.c (.r (.aV (.c .Eq (.au (.z 0) 0) (.c .Eq (.au (.z 0) 1) (.c .Eq (.au (.z 0) 2) (.c .Eq (.au (.z 0) 3) (.c .Eq (.au (.z 0) 4) .n))))))) .n)
noncomputable def YQ:Ss:=(.c (.ite (.aJ (.bq (.z 0) (.z 1)) (.c .NotEq (.i 0) .n)) (.c (.r (.z 1)) .n) .n) .n)
def LL:Ss:=(.c (.gK (.cD 1) .s (.aV (.c .Eq (.L (.i (3))) (.c .Eq (.L (.i (2))) (.c .Eq (.L (.i (1))) .n)))) .n YQ) (.c (.r (.L (.i (0)))) .n))
noncomputable def LM:Ss:=(.c (.aN (.au 0 5) (.i 0)) (.c (.aN (.au 0 1) (.cj ai (.c .Eq (.i 0) (.c .Eq (.i 0) (.c .Eq (.i 0) (.c .Eq (.i 0) .n)))))) (.c (.aN (.au 0 3) (.cj ai (.c .Eq (.i 0) (.c .Eq (.i 0) (.c .Eq (.i 0) (.c .Eq (.i 0) .n)))))) .n)))
noncomputable def Fy:Ss:=(.c (.eY (.au 0 5) .Add (.au (.z 1) 0)) (.c (.eY (.bq (.au (.z 0) 1) (.au (.z 1) 2)) .Add (.au (.z 1) 1)) (.c (.eY (.bq (.au (.z 0) 3) (.au (.z 1) 4)) .Add (.au (.z 1) 3)) .n)))
noncomputable def LN:Ss:=(.c (.eY (.au 0 5) .Add (.z 1)) .n)
noncomputable def LO:Ss:=(.c (.r (.c (glbF 245) (.c .Eq (.au (.z 0) 1) .n))) .n)
noncomputable def LP:Ss:=(.c (.r (.c (glbF 245) (.c .Eq (.au (.z 0) 3) .n))) .n)
noncomputable def LR:Ss:=(.c (.ite (.aJ (.au (.z 1) 6) (.c .Gt (.L (.i (5))) .n)) (.c .hM .n) .n) .n)
def LS:Ss:=(.c (.gK (.cD 1) .s (.z 0) .n LR) (.c (.r (.z 0)) .n))
noncomputable def LU:Ss:=(.c (.ite (.not (.c (glbF 89) (.c .Eq (.z 1) (.c .Eq (.L (.i (2))) (.c .Eq (.L (.i (3))) .n))))) (.c .hM .n) .n) (.c (.aN (.au 0 6) (.z 1)) (.c (.aN (.au 0 0) (.c (glbF 110) (.c .Eq (.z 2) .n))) (.c (.aN (.au 0 7) (.c (glbF 110) (.c .Eq (.z 3) .n))) (.c (.aN (.au 0 8) (.c (glbF 110) (.c .Eq (.z 4) .n))) (.c (.aN (.au 0 9) (.z 5)) (.c (.aN (.au 0 10) (.i 0)) (.c (.aN (.au 0 11) (.L (.i (0)))) (.c (.aN (.au 0 12) (.i 0)) (.c (.aN (.au 0 13) (.aV (.c .Eq (.i 0) (.c .Eq (.i 1) .n)))) .n))))))))))
noncomputable def LV:Ss:=(.c (.ite (.aJ (.z 4) (.c .IsNot .n .n)) (.c (.cR (.c (glbF 110) (.c .Eq (.z 4) .n))) .n) .n) .n)
def LX:Ss:=(.c (.gK (.cD 4) .s (.aV (.c .Eq (.z 1) (.c .Eq (.z 2) (.c .Eq (.z 3) .n)))) .n LV) (.c (.aN (.au 0 0) (.z 1)) (.c (.aN (.au 0 7) (.z 2)) (.c (.aN (.au 0 8) (.z 3)) .n))))
noncomputable def LY:Ss:=(.c (.ite (.not (.c (glbF 89) (.c .Eq (.z 2) (.c .Eq (.L (.i (0))) (.c .Eq (.L (.i (3))) .n))))) (.c .hM .n) .n) (.c (.aN (.au 0 0) (.c (glbF 110) (.c .Eq (.z 1) .n))) (.c (.aN (.au 0 14) (.z 2)) .n)))
noncomputable def zh:Ss:=(.c (.ite (.and (.c .Eq (.not (.c (glbF 89) (.c .Eq (.z 2) (.c .Eq (.L (.i (0))) (.c .Eq (.L (.i (5))) .n))))) (.c .Eq (.not (.c (glbF 89) (.c .Eq (.z 2) (.c .Eq (.L (.i (100))) (.c .Eq (.bH .Add (.L (.i (100))) (.i 99)) .n))))) .n))) (.c .hM .n) .n) (.c (.ite (.aJ (.aJ (.z 3) (.c .Is .n .n)) (.c .Eq (.aJ (.L (.i (1))) (.c .LtE (.z 2) (.c .LtE (.L (.i (3))) .n))) .n)) (.c .hM .n) .n) (.c (.ite (.and (.c .Eq (.aJ (.z 3) (.c .IsNot .n .n)) (.c .Eq (.not (.aJ (.L (.i (2))) (.c .LtE (.au (.z 3) 6) (.c .LtE (.L (.i (4))) .n)))) .n))) (.c .hM .n) .n) (.c (.aN (.au 0 15) (.z 1)) (.c (.aN (.au 0 14) (.z 2)) (.c (.aN (.au 0 16) (.z 3)) .n))))))
noncomputable def LZ:Ss:=(.c (.aN (.au 0 17) (.c (glbF 103) (.c .Eq (.z 1) .n))) .n)
noncomputable def L0:Ss:=(.c (.aN (.au 0 18) (.c (glbF 332) (.c .Eq (.z 1) .n))) (.c (.aN (.au 0 19) (.c (glbF 332) (.c .Eq (.z 2) .n))) (.c (.aN (.au 0 20) (.c (glbF 332) (.c .Eq (.z 3) .n))) .n)))
noncomputable def L1:Ss:=(.c (.aN (.au 0 21) (.c (.L (.bC .t)) (.c .Eq (.z 1) .n))) .n)
noncomputable def L2:Ss:=(.c (.ite (.not (.c (glbF 89) (.c .Eq (.z 1) (.c .Eq (.i 0) (.c .Eq (.i 254) .n))))) (.c .hM .n) .n) (.c (.aN (.au 0 22) (.z 1)) (.c (.aN (.au 0 23) (.c (glbF 110) (.c .Eq (.z 2) .n))) (.c (.aN (.au 0 8) (.c (glbF 110) (.c .Eq (.z 3) .n))) (.c (.aN (.au 0 24) (.z 4)) (.c (.aN (.au 0 25) (.c (glbF 103) (.c .Eq (.z 5) .n))) (.c (.aN (.au 0 9) (.z 6)) .n)))))))
noncomputable def L3:Ss:=(.c (.aN (.au 0 9) (.z 1)) .n)
noncomputable def L4:Ss:=(.c (.aN (.au 0 26) (.z 1)) (.c (.aN (.au 0 0) (.c (glbF 110) (.c .Eq (.z 2) .n))) .n))
noncomputable def YR:Ss:=(.c (.ite (.not (.c (glbF 89) (.c .Eq (.z 2) (.c .Eq (.i 0) (.c .Eq (.i 255) .n))))) (.c .hM .n) .n) .n)
def L5:Ss:=(.c (.ite (.not (.c (.L (.bC .pV)) (.c .Eq (.z 1) (.c .Eq (.aV (.c .Eq (.L (.bC .y)) (.c .Eq (.L (.bC .b)) (.c .Eq (.L (.bC .l)) (.c .Eq (.L (.bC .t)) .n))))) .n)))) (.c .hM .n) .n) (.c (.gK (.cD 2) .s (.z 1) .n YR) (.c (.aN (.au 0 27) (.c (.L (.bC .y)) (.c .Eq (.z 1) .n))) .n)))
noncomputable def YS:E:=(.c (glbF 569) (.c .Eq (.z 2) .n))
def L6:Ss:=(.c (.aN (.z 1) (.au (.z 0) 6)) (.c (.ite (.o (.c .Eq (.aJ (.z 1) (.c .Eq (.L (.i (0))) .n)) (.c .Eq (.aJ (.z 1) (.c .Eq (.L (.i (1))) .n)) .n))) (.c (.r (.iD (.au (.z 0) 28) 0 (.c .Eq (.au (.z 0) 29) .n))) .n) .n) (.c (.ite (.o (.c .Eq (.aJ (.z 1) (.c .Eq (.L (.i (2))) .n)) (.c .Eq (.aJ (.z 1) (.c .Eq (.L (.i (3))) .n)) (.c .Eq (.aJ (.z 1) (.c .Eq (.L (.i (5))) .n)) (.c .Eq (.aJ (.z 1) (.c .Eq (.L (.i (12))) .n)) (.c .Eq (.aJ (.z 1) (.c .Eq (.L (.i (14))) .n)) .n)))))) (.c (.r (.au (.z 0) 0)) .n) .n) (.c (.ite (.aJ (.z 1) (.c .Eq (.L (.i (4))) .n)) (.c (.r (.d7 (.aJ (.au (.z 0) 0) (.c .Is .n .n)) (.i 0) (.au (.z 0) 0))) .n) .n) (.c (.ite (.aJ (.z 1) (.c .Eq (.L (.i (6))) .n)) (.c (.r (.au (.au (.z 0) 15) 0)) .n) .n) (.c (.ite (.aJ (.z 1) (.c .Eq (.L (.i (8))) .n)) (.c (.r (.c (.L (.bC .sum)) (.c .Eq (.q (.cD 2) .s (.au (.z 0) 20) .n .n YS) .n))) .n) .n) (.c (.r (.i 0)) .n)))))))
noncomputable def YT:E:=(.c (glbF 586) (.c .Eq (.z 2) .n))
def L7:Ss:=(.c (.aN (.z 1) (.au (.z 0) 6)) (.c (.ite (.o (.c .Eq (.aJ (.z 1) (.c .Eq (.L (.i (0))) .n)) (.c .Eq (.aJ (.z 1) (.c .Eq (.L (.i (1))) .n)) .n))) (.c (.r (.iD (.au (.z 0) 28) 7 (.c .Eq (.au (.z 0) 29) .n))) .n) .n) (.c (.ite (.o (.c .Eq (.aJ (.z 1) (.c .Eq (.L (.i (2))) .n)) (.c .Eq (.aJ (.z 1) (.c .Eq (.L (.i (3))) .n)) (.c .Eq (.aJ (.z 1) (.c .Eq (.L (.i (14))) .n)) .n)))) (.c (.r (.au (.z 0) 7)) .n) .n) (.c (.ite (.aJ (.z 1) (.c .Eq (.L (.i (4))) .n)) (.c (.r (.d7 (.aJ (.au (.z 0) 7) (.c .Is .n .n)) (.i 0) (.au (.z 0) 7))) .n) .n) (.c (.ite (.and (.c .Eq (.aJ (.z 1) (.c .Eq (.L (.i (6))) .n)) (.c .Eq (.aJ (.au (.z 0) 16) (.c .IsNot .n .n)) .n))) (.c (.r (.c (glbF 574) (.c .Eq (.au (.z 0) 16) .n))) .n) .n) (.c (.ite (.aJ (.z 1) (.c .Eq (.L (.i (8))) .n)) (.c (.r (.c (.L (.bC .m)) (.c .Eq (.bH .Add (.cj ak (.c .Eq (.i 0) .n)) (.q (.cD 2) .s (.au (.z 0) 20) .n .n YT)) .n))) .n) .n) (.c (.r (.i 0)) .n)))))))
noncomputable def YU:E:=(.c (glbF 593) (.c .Eq (.z 2) .n))
def L8:Ss:=(.c (.aN (.z 1) (.au (.z 0) 6)) (.c (.ite (.o (.c .Eq (.aJ (.z 1) (.c .Eq (.L (.i (0))) .n)) (.c .Eq (.aJ (.z 1) (.c .Eq (.L (.i (1))) .n)) .n))) (.c (.r (.iD (.au (.z 0) 28) 8 (.c .Eq (.au (.z 0) 29) .n))) .n) .n) (.c (.ite (.o (.c .Eq (.aJ (.z 1) (.c .Eq (.L (.i (2))) .n)) (.c .Eq (.aJ (.z 1) (.c .Eq (.L (.i (3))) .n)) (.c .Eq (.aJ (.z 1) (.c .Eq (.L (.i (14))) .n)) .n)))) (.c (.r (.au (.z 0) 8)) .n) .n) (.c (.ite (.aJ (.z 1) (.c .Eq (.L (.i (4))) .n)) (.c (.r (.d7 (.aJ (.au (.z 0) 8) (.c .Is .n .n)) (.i 0) (.au (.z 0) 8))) .n) .n) (.c (.ite (.and (.c .Eq (.aJ (.z 1) (.c .Eq (.L (.i (6))) .n)) (.c .Eq (.aJ (.au (.z 0) 16) (.c .IsNot .n .n)) .n))) (.c (.r (.c (glbF 579) (.c .Eq (.au (.z 0) 16) .n))) .n) .n) (.c (.ite (.aJ (.z 1) (.c .Eq (.L (.i (8))) .n)) (.c (.r (.c (.L (.bC .m)) (.c .Eq (.bH .Add (.cj ak (.c .Eq (.i 0) .n)) (.q (.cD 2) .s (.au (.z 0) 20) .n .n YU)) .n))) .n) .n) (.c (.r (.i 0)) .n)))))))
noncomputable def L9:Ss:=(.c (.ite (.o (.c .Eq (.aJ (.au (.z 0) 6) (.c .Eq (.L (.i (2))) .n)) (.c .Eq (.aJ (.au (.z 0) 6) (.c .Eq (.L (.i (3))) .n)) .n))) (.c (.r (.bH .Sub (.au (.z 0) 7) (.au (.z 0) 10))) .n) .n) (.c (.r (.c (glbF 574) (.c .Eq (.z 0) .n))) .n))
noncomputable def Ma:Ss:=(.c (.ite (.o (.c .Eq (.aJ (.au (.z 0) 6) (.c .Eq (.L (.i (2))) .n)) (.c .Eq (.aJ (.au (.z 0) 6) (.c .Eq (.L (.i (3))) .n)) .n))) (.c (.r (.bH .Add (.au (.z 0) 8) (.au (.z 0) 10))) .n) .n) (.c (.r (.c (glbF 579) (.c .Eq (.z 0) .n))) .n))
noncomputable def YV:E:=(.aV (.c .Eq (.c (glbF 110) (.c .Eq (.z 6) .n)) (.c .Eq (.c (glbF 110) (.c .Eq (.z 7) .n)) .n)))
def BD:Ss:=(.c (.aN (.au 0 0) (.c (glbF 110) (.c .Eq (.z 1) .n))) (.c (.aN (.au 0 30) (.c (glbF 110) (.c .Eq (.z 2) .n))) (.c (.aN (.au 0 31) (.c (glbF 110) (.c .Eq (.bH .Sub (.z 1) (.c (.L (.bC .a)) (.c .Eq (.z 2) .n))) .n))) (.c (.aN (.au 0 32) (.c (glbF 103) (.c .Eq (.z 3) .n))) (.c (.aN (.au 0 33) (.c (.L (.bC .t)) (.c .Eq (.q (.fG [6,7]) .s (.z 4) .n .n YV) .n))) (.c (.ite (.not (.c (glbF 89) (.c .Eq (.z 5) (.c .Eq (.i 0) (.c .Eq (.L (.i (2147483647))) .n))))) (.c .hM .n) .n) (.c (.aN (.au 0 34) (.z 5)) .n)))))))
noncomputable def Mb:Ss:=(.c (.ite (.aJ (.au (.z 0) 33) (.c .NotEq (.aV .n) .n)) (.c (.r (.bH .Sub (.c (.L (.bC .aL)) (.c .Eq (.au (.z 0) 33) .n)) (.i 1))) .n) .n) (.c (.r (.d7 (.aJ (.au (.z 0) 30) (.c .NotEq (.i 0) .n)) (.c (.L (.bC .a)) (.c .Eq (.au (.z 0) 32) .n)) (.i 0))) .n))
noncomputable def Mc:Ss:=(.c (.ite (.not (.c (glbF 89) (.c .Eq (.z 1) (.c .Eq (.i 1) (.c .Eq (.bH .Mult (.i 2) (.L (.i (2147483647)))) .n))))) (.c .hM .n) .n) (.c (.ite (.aJ (.au (.z 0) 33) (.c .NotEq (.aV .n) .n)) (.c (.r (.bq (.au (.z 0) 33) (.bH .Sub (.c (.L (.bC .n)) (.c .Eq (.z 1) (.c .Eq (.c (.L (.bC .aL)) (.c .Eq (.au (.z 0) 33) .n)) .n))) (.i 1)))) .n) .n) (.c (.aN (.z 2) (.aJ (.aJ (.z 1) (.c .LtE (.c (.L (.bC .a)) (.c .Eq (.au (.z 0) 32) .n)) .n)) (.c .Eq (.aJ (.au (.z 0) 32) (.c .Lt (.i 0) .n)) .n))) (.c (.ite (.o (.c .Eq (.aJ (.au (.z 0) 30) (.c .Eq (.i 0) .n)) (.c .Eq (.not (.z 2)) .n))) (.c (.r (.aV (.c .Eq (.i 0) (.c .Eq (.au (.z 0) 0) .n)))) .n) .n) (.c (.r (.aV (.c .Eq (.c (.L (.bC .m)) (.c .Eq (.i 0) (.c .Eq (.au (.z 0) 30) .n))) (.c .Eq (.au (.z 0) 31) .n)))) .n)))))
noncomputable def Md:Ss:=(.c (.aN (.au 0 35) (.i 0)) (.c (.aN (.au 0 36) (.L (.i (10000)))) (.c (.aN (.au 0 37) (.i 0)) (.c (.aN (.au 0 38) (.i 0)) (.c (.aN (.au 0 39) (.i 0)) (.c (.aN (.au 0 40) (.i 0)) (.c (.aN (.au 0 41) (.i 0)) (.c (.aN (.au 0 42) (.i 0)) (.c (.aN (.au 0 43) (.i 0)) (.c (.aN (.au 0 44) (.i 0)) (.c (.aN (.au 0 45) (.c (glbF 234) .n)) (.c (.aN (.au 0 46) (.c (glbF 234) .n)) .n))))))))))))
noncomputable def Me:Ss:=(.c (.aN (.au 0 47) (.z 1)) (.c (.aN (.au 0 48) (.z 2)) (.c (.aN (.au 0 49) (.z 3)) (.c (.aN (.au 0 50) (.z 4)) (.c (.aN (.au 0 51) (.z 5)) .n)))))
noncomputable def Mf:Ss:=(.c (.aN (.au 0 52) (.z 1)) (.c (.aN (.au 0 53) (.z 2)) (.c (.aN (.au 0 54) (.z 3)) (.c (.aN (.au 0 55) (.z 4)) (.c (.aN (.au 0 56) (.z 5)) (.c (.aN (.au 0 57) (.d7 (.aJ (.au (.z 1) 43) (.c .Eq (.i 0) .n)) (.iD (.z 2) 58 .n) (.bH .Mult (.i 2) (.L (.i (2147483647)))))) .n))))))
noncomputable def YW:Ss:=(.c (.cR (.c (glbF 103) (.c .Eq (.z 1) .n))) .n)
def Mg:Ss:=(.c (.gK (.cD 1) .s (.aV (.c .Eq (.au (.z 0) 35) (.c .Eq (.au (.z 0) 36) (.c .Eq (.au (.z 0) 37) (.c .Eq (.au (.z 0) 38) (.c .Eq (.au (.z 0) 39) (.c .Eq (.au (.z 0) 40) (.c .Eq (.au (.z 0) 41) (.c .Eq (.au (.z 0) 42) (.c .Eq (.au (.z 0) 43) .n)))))))))) .n YW) (.c (.cR (.c (glbF 110) (.c .Eq (.au (.z 0) 44) .n))) .n))
noncomputable def Mh:Ss:=(.c (.r (.o (.c .Eq (.aJ (.au (.z 0) 6) (.c .Eq (.L (.i (6))) .n)) (.c .Eq (.aJ (.au (.z 0) 6) (.c .Eq (.L (.i (7))) .n)) (.c .Eq (.aJ (.au (.z 0) 6) (.c .Eq (.L (.i (12))) .n)) (.c .Eq (.and (.c .Eq (.aJ (.au (.z 0) 6) (.c .Eq (.L (.i (5))) .n)) (.c .Eq (.aJ (.au (.z 0) 14) (.c .Eq (.L (.i (1))) .n)) .n))) .n)))))) .n)
noncomputable def ua:Ss:=(.c (.aN (.z 7) (.au (.z 6) 6)) (.c (.fm [(.z 8),(.z 9)] (.aV (.c .Eq (.L (.i (10000))) (.c .Eq (.L (.i (0))) .n)))) (.c (.ite (.aJ (.z 7) (.c .Eq (.L (.i (6))) .n)) (.c (.ite (.and (.c .Eq (.z 3) (.c .Eq (.z 4) .n))) (.c (.aN (.z 8) (.i 0)) .n) .n) .n) (.c (.ite (.aJ (.z 7) (.c .Eq (.L (.i (7))) .n)) (.c (.aN (.z 8) (.au (.z 6) 17)) .n) (.c (.ite (.aJ (.z 7) (.c .Eq (.L (.i (8))) .n)) (.c (.aN (.z 9) (.L (.i (1)))) (.c (.aN (.z 8) (.d7 (.aJ (.au (.z 6) 18) (.c .NotEq (.cj ak .n) .n)) (.au (.z 1) 38) (.au (.z 1) 39))) .n)) (.c (.ite (.o (.c .Eq (.aJ (.z 7) (.c .Eq (.L (.i (12))) .n)) (.c .Eq (.and (.c .Eq (.aJ (.z 7) (.c .Eq (.L (.i (5))) .n)) (.c .Eq (.aJ (.au (.z 6) 14) (.c .Eq (.L (.i (1))) .n)) .n))) .n))) (.c (.ite (.aJ (.z 7) (.c .Eq (.L (.i (12))) .n)) (.c (.aN (.z 3) (.not (.au (.z 6) 26))) .n) .n) (.c (.ite (.and (.c .Eq (.z 3) (.c .Eq (.aJ (.bH .Add (.z 5) (.i 1)) (.c .Lt (.c (.L (.bC .aL)) (.c .Eq (.z 0) .n)) .n)) (.c .Eq (.aJ (.au (.bq (.z 0) (.bH .Add (.z 5) (.i 1))) 6) (.c .Eq (.L (.i (6))) .n)) .n)))) (.c (.aN (.z 8) (.i 0)) .n) .n) .n)) .n) .n)) .n)) .n)) (.c (.ite (.aJ (.z 8) (.c .Lt (.L (.i (10000))) .n)) (.c (.cR (.iE 2 (.aV (.c .Eq (.z 5) (.c .Eq (.c (.L (.bC .m)) (.c .Eq (.z 8) (.c .Eq (.L (.i (-10000))) .n))) (.c .Eq (.z 9) .n)))))) .n) .n) (.c (.aN (.z 4) (.not (.c (glbF 718) (.c .Eq (.z 6) .n)))) .n)))))
def Mi:Ss:=(.c (.aN (.z 2) (.cj ai .n)) (.c (.fm [(.z 3),(.z 4)] (.aV (.c .Eq (.b ai) (.c .Eq (.b ak) .n)))) (.c (.gK (.fG [5,6]) .qV (.z 0) .n ua) (.c (.cR (.iE 2 (.aV (.c .Eq (.c (.L (.bC .aL)) (.c .Eq (.z 0) .n)) (.c .Eq (.L (.i (-10000))) (.c .Eq (.L (.i (1))) .n)))))) (.c (.dC 2) (.c (.r (.z 2)) .n))))))
noncomputable def Fz:E:=(.and (.c .Eq (.aJ (.z 1) (.c .Lt (.c (.L (.bC .aL)) (.c .Eq (.z 0) .n)) .n)) (.c .Eq (.c (glbF 718) (.c .Eq (.bq (.z 0) (.z 1)) .n)) .n)))
noncomputable def FA:Ss:=(.c (.eY (.z 1) .Add (.i 1)) .n)
def Mj:Ss:=(.c (.ite (.and (.c .Eq (.aJ (.z 1) (.c .Lt (.c (.L (.bC .aL)) (.c .Eq (.z 0) .n)) .n)) (.c .Eq (.aJ (.au (.bq (.z 0) (.z 1)) 6) (.c .Eq (.L (.i (8))) .n)) .n))) (.c (.ite (.aJ (.au (.bq (.z 0) (.z 1)) 19) (.c .NotEq (.cj ak .n) .n)) (.c (.r (.bH .Add (.z 1) (.i 1))) .n) .n) (.c (.eY (.z 1) .Add (.i 1)) .n)) .n) (.c (.while Fz FA) (.c (.r (.z 1)) .n)))
noncomputable def Mk:Ss:=(.c (.ite (.aJ (.au (.z 1) 4) (.c .NotEq (.L (.i (0))) .n)) (.c .hM .n) .n) (.c (.eY (.bq (.z 0) (.i 0)) .Add (.au (.z 1) 0)) (.c (.eY (.bq (.z 0) (.bH .Add (.i 1) (.au (.z 1) 2))) .Add (.au (.z 1) 1)) (.c (.eY (.bq (.z 0) (.i 5)) .Add (.au (.z 1) 3)) .n))))
noncomputable def Ml:Ss:=(.c (.eY (.z 1) .Add (.c (glbF 569) (.c .Eq (.z 2) .n))) .n)
def gu:Ss:=(.c (.aN (.z 1) (.i 0)) (.c (.gK (.cD 2) .s (.z 0) .n Ml) (.c (.r (.z 1)) .n)))
noncomputable def FC:Ss:=(.c (.ite (.aJ (.au (.z 3) 6) (.c .Eq (.L (.i (6))) .n)) (.c (.cR (.c (glbF 739) (.c .Eq (.z 1) (.c .Eq (.au (.z 3) 15) .n)))) .n) (.c (.ite (.aJ (.au (.z 3) 6) (.c .Eq (.L (.i (8))) .n)) (.c (.eY (.bq (.z 1) (.i 0)) .Add (.c (glbF 746) (.c .Eq (.au (.z 3) 20) .n))) .n) (.c (.eY (.bq (.z 1) (.i 0)) .Add (.c (glbF 569) (.c .Eq (.z 3) .n))) .n)) .n)) (.c (.cR (.iE 2 (.c (.L (.bC .t)) (.c .Eq (.z 1) .n)))) .n))
def Mm:Ss:=(.c (.aN (.z 1) (.pY ai (.L (.aV [.i (0),.i (0),.i (0),.i (0),.i (0),.i (0)])))) (.c (.aN (.z 2) (.cj ai (.c .Eq (.L (.aV [.i (0),.i (0),.i (0),.i (0),.i (0),.i (0)])) .n))) (.c (.gK (.cD 3) .s (.z 0) .n FC) (.c (.dC 2) (.c (.r (.z 2)) .n)))))
noncomputable def Mn:Ss:=(.c (.r (.bH .Add (.aV (.c .Eq (.bH .Add (.bq (.z 0) (.i 0)) (.z 1)) .n)) (.yl (.z 0) (.i 1)))) .n)
noncomputable def BE:Ss:=(.c (.aN (.z 7) (.c (glbF 732) (.c .Eq (.z 0) (.c .Eq (.z 4) .n)))) (.c (.fm [(.z 8),(.z 9)] (.aV (.c .Eq (.bq (.z 2) (.z 7)) (.c .Eq (.bq (.z 2) (.z 4)) .n)))) (.c (.ite (.and (.c .Eq (.aJ (.z 4) (.c .Lt (.c (.L (.bC .aL)) (.c .Eq (.z 0) .n)) .n)) (.c .Eq (.aJ (.z 6) (.c .Eq (.L (.i (1))) .n)) .n))) (.c (.aN (.z 8) (.c (glbF 760) (.c .Eq (.z 8) (.c .Eq (.neg (.c (glbF 746) (.c .Eq (.au (.bq (.z 0) (.z 4)) 19) .n))) .n)))) (.c (.aN (.z 9) (.c (glbF 760) (.c .Eq (.z 9) (.c .Eq (.c (glbF 746) (.c .Eq (.au (.bq (.z 0) (.z 4)) 18) .n)) .n)))) .n)) .n) (.c (.cR (.iE 3 (.aV (.c .Eq (.z 4) (.c .Eq (.z 5) (.c .Eq (.z 6) (.c .Eq (.z 7) (.c .Eq (.z 8) (.c .Eq (.z 9) .n))))))))) .n))))
def rL:Ss:=(.c (.aN (.z 2) (.c (glbF 753) (.c .Eq (.z 0) .n))) (.c (.aN (.z 3) (.cj ai .n)) (.c (.gK (.fG [4,5,6]) .s (.c (glbF 725) (.c .Eq (.z 0) (.c .Eq (.z 1) .n))) .n BE) (.c (.dC 3) (.c (.r (.z 3)) .n)))))
noncomputable def Mo:Ss:=(.c (.aN (.z 2) (.pY ai (.L (.aV [.i (0),.i (0),.i (0),.i (0),.i (0),.i (0)])))) (.c (.cR (.c (glbF 739) (.c .Eq (.z 2) (.c .Eq (.au (.z 0) 45) .n)))) (.c (.cR (.c (glbF 739) (.c .Eq (.z 2) (.c .Eq (.au (.z 0) 46) .n)))) (.c (.eY (.bq (.z 2) (.i 1)) .Add (.c (glbF 110) (.c .Eq (.z 1) .n))) (.c (.r (.c (.L (.bC .t)) (.c .Eq (.z 2) .n))) .n)))))
noncomputable def YX:E:=(.bH .Add (.bH .Sub (.bq (.z 1) (.z 3)) (.bq (.z 0) (.z 3))) (.bq (.z 2) (.z 3)))
def Mp:Ss:=(.c (.r (.c (.L (.bC .t)) (.c .Eq (.q (.cD 3) .r (.i 6) .n .n YX) .n))) .n)
noncomputable def cA:Ss:=(.c (.aN (.z 2) (.bH .Sub (.z 0) (.bq (.z 1) (.i 0)))) (.c (.ite (.aJ (.z 2) (.c .Gt (.i 0) .n)) (.c (.ite (.o (.c .Eq (.aJ (.bq (.z 1) (.i 2)) (.c .NotEq (.i 0) .n)) (.c .Eq (.aJ (.bq (.z 1) (.i 3)) (.c .NotEq (.i 0) .n)) (.c .Eq (.aJ (.bq (.z 1) (.i 4)) (.c .NotEq (.i 0) .n)) .n)))) (.c (.r (.aV (.c .Eq (.i 0) (.c .Eq (.L (.i (2))) .n)))) .n) .n) (.c (.aN (.z 3) (.c (glbF 152) (.c .Eq (.z 2) (.c .Eq (.bq (.z 1) (.i 1)) .n)))) (.c (.ite (.aJ (.z 3) (.c .Gt (.i 99) .n)) (.c (.r (.aV (.c .Eq (.z 3) (.c .Eq (.L (.i (0))) .n)))) .n) .n) (.c (.r (.aV (.c .Eq (.z 3) (.c .Eq (.d7 (.aJ (.z 3) (.c .Gt (.i 12) .n)) (.L (.i (1))) (.L (.i (2)))) .n)))) .n)))) .n) (.c (.ite (.aJ (.neg (.z 2)) (.c .Gt (.bq (.z 1) (.i 5)) .n)) (.c (.r (.aV (.c .Eq (.L (.i (10001))) (.c .Eq (.L (.i (3))) .n)))) .n) .n) (.c (.aN (.z 3) (.c (glbF 152) (.c .Eq (.neg (.z 2)) (.c .Eq (.bq (.z 1) (.i 5)) .n)))) (.c (.r (.aV (.c .Eq (.z 3) (.c .Eq (.d7 (.aJ (.z 3) (.c .Gt (.i 12) .n)) (.L (.i (3))) (.L (.i (2)))) .n)))) .n)))))
noncomputable def FD:Ss:=(.c (.aN (.z 3) (.bH .Add (.au (.z 0) 37) (.z 1))) (.c (.aN (.z 4) (.d7 (.aJ (.c (.L (.bC .a)) (.c .Eq (.z 3) .n)) (.c .GtE (.i 10000) .n)) (.L (.i (100000000))) (.bH .Mult (.z 3) (.z 3)))) (.c (.ite (.aJ (.z 2) (.c .Gt (.i 0) .n)) (.c (.r (.bH .Add (.z 4) (.bH .Mult (.z 2) (.z 2)))) .n) .n) (.c (.ite (.aJ (.z 2) (.c .Gt (.L (.i (-10000))) .n)) (.c (.r (.bH .Sub (.z 4) (.bH .Mult (.z 2) (.z 2)))) .n) .n) (.c (.r (.z 4)) .n)))))
noncomputable def FE:Ss:=(.c (.aN (.z 4) (.i 0)) (.c (.ite (.z 1) (.c (.eY (.z 4) .Add (.d7 (.z 2) (.au (.z 0) 42) (.au (.z 0) 41))) .n) .n) (.c (.ite (.aJ (.z 3) (.c .Gt (.i 1) .n)) (.c (.eY (.z 4) .Add (.au (.z 0) 40)) .n) .n) (.c (.r (.z 4)) .n))))
noncomputable def om:Ss:=(.c (.aN (.z 14) (.bH .Add (.au (.z 13) 48) (.i 1))) (.c (.aN (.z 15) (.d7 (.aJ (.bq (.au (.z 13) 47) (.i 3)) (.c .Gt (.z 4) .n)) (.au (.z 0) 55) (.c (glbF 779) (.c .Eq (.bq (.au (.z 13) 47) (.i 4)) (.c .Eq (.z 7) (.c .Eq (.au (.z 0) 55) .n)))))) (.c (.fm [(.z 16),(.z 17)] (.c (glbF 786) (.c .Eq (.bq (.iD (.au (.z 0) 53) 48 (.c .Eq (.z 14) .n)) (.i 1)) (.c .Eq (.z 15) .n)))) (.c (.aN (.z 18) (.b ak)) (.c (.ite (.o (.c .Eq (.aJ (.z 16) (.c .Gt (.L (.i (10000))) .n)) (.c .Eq (.aJ (.z 5) (.c .Eq (.L (.i (-10000))) .n)) .n))) (.c (.aN (.z 18) (.and (.c .Eq (.au (.z 0) 56) (.c .Eq (.aJ (.z 9) (.c .Eq (.cj ak .n) .n)) (.c .Eq (.aJ (.z 10) (.c .Eq (.r6 ak) .n)) (.c .Eq (.aJ (.z 12) (.c .Eq (.bH .Sub (.c (.L (.bC .aL)) (.c .Eq (.z 2) .n)) (.i 1)) .n)) .n)))))) .n) (.c (.cR (.iE 9 (.z 13))) .n)) (.c (.ite (.and (.c .Eq (.aJ (.z 16) (.c .Gt (.au (.z 0) 54) .n)) (.c .Eq (.not (.z 18)) .n))) (.c .c .n) .n) (.c (.aN (.z 19) (.au (.z 13) 50)) (.c (.ite (.not (.z 18)) (.c (.aN (.z 20) (.and (.c .Eq (.aJ (.z 6) (.c .Eq (.L (.i (1))) .n)) (.c .Eq (.aJ (.bq (.au (.z 13) 47) (.i 2)) (.c .Eq (.L (.i (1))) .n)) .n)))) (.c (.eY (.z 19) .Add (.bH .Add (.c (glbF 793) (.c .Eq (.z 8) (.c .Eq (.z 16) (.c .Eq (.z 5) .n)))) (.c (glbF 800) (.c .Eq (.z 8) (.c .Eq (.z 20) (.c .Eq (.z 3) (.c .Eq (.c (.L (.bC .a)) (.c .Eq (.bH .Sub (.z 17) (.au (.z 13) 49)) .n)) .n))))))) .n)) .n) (.c (.aN (.z 21) (.c (.L (.bC .n)) (.c .Eq (.z 14) (.c .Eq (.bH .Add (.au (.z 0) 57) (.i 1)) .n)))) (.c (.aN (.z 22) (.r5 (.z 10) (.c .Eq (.bH .Add (.bH .Mult (.i 4) (.z 21)) (.z 17)) .n))) (.c (.ite (.o (.c .Eq (.aJ (.z 22) (.c .Is .n .n)) (.c .Eq (.aJ (.z 19) (.c .LtE (.bq (.z 22) (.i 0)) .n)) .n))) (.c (.aN (.bq (.z 10) (.bH .Add (.bH .Mult (.i 4) (.z 21)) (.z 17))) (.aV (.c .Eq (.z 19) (.c .Eq (.z 13) (.c .Eq (.z 14) .n))))) (.c (.aN (.bq (.z 11) (.z 21)) (.c (.L (.bC .n)) (.c .Eq (.z 19) (.c .Eq (.r5 (.z 11) (.c .Eq (.z 21) (.c .Eq (.z 19) .n))) .n)))) .n)) .n) .n)))))))))))
noncomputable def Mq:Ss:=(.c (.fm [(.z 19),(.z 13),(.z 14)] (.bq (.z 10) (.z 12))) (.c (.ite (.aJ (.z 19) (.c .LtE (.bH .Add (.bq (.z 11) (.bH .FloorDiv (.z 12) (.i 4))) (.c (.L (.bC .a)) (.c .Eq (.au (.z 8) 40) .n))) .n)) (.c (.cR (.iE 9 (.c (glbF 679) (.c .Eq (.z 1) (.c .Eq (.z 14) (.c .Eq (.bH .Mod (.z 12) (.i 4)) (.c .Eq (.z 19) (.c .Eq (.z 13) .n)))))))) .n) .n) .n))
def Mr:Ss:=(.c (.fm [(.z 4),(.z 5),(.z 6),(.z 7)] (.aV (.c .Eq (.bq (.z 1) (.i 0)) (.c .Eq (.bq (.z 1) (.i 1)) (.c .Eq (.bq (.z 1) (.i 2)) (.c .Eq (.bq (.z 1) (.i 5)) .n)))))) (.c (.aN (.z 8) (.au (.z 0) 52)) (.c (.fm [(.z 9),(.z 10),(.z 11)] (.aV (.c .Eq (.cj ai .n) (.c .Eq (.r6 ai) (.c .Eq (.r6 ai) .n))))) (.c (.gK (.fG [12,13]) .qV (.z 2) .n om) (.c (.gK (.cD 12) .s (.c (.L (.bC .s)) (.c .Eq (.z 10) .n)) .n Mq) (.c (.dC 9) (.c (.r (.z 9)) .n)))))))
noncomputable def Ms:Ss:=(.c (.ite (.aJ (.au (.z 3) 50) (.c .Lt (.au (.z 2) 50) .n)) (.c (.aN (.z 2) (.z 3)) .n) .n) .n)
noncomputable def BF:Ss:=(.c (.aN (.z 6) (.bH .Sub (.au (.z 3) 48) (.au (.z 2) 48))) (.c (.aN (.z 7) (.o (.c .Eq (.aJ (.z 1) (.c .LtE (.z 6) (.c .Lt (.z 5) .n))) (.c .Eq (.aJ (.z 5) (.c .Lt (.z 6) (.c .LtE (.z 1) .n))) .n)))) (.c (.ite (.o (.c .Eq (.z 7) (.c .Eq (.and (.c .Eq (.aJ (.z 6) (.c .Eq (.z 5) .n)) (.c .Eq (.aJ (.au (.z 3) 50) (.c .Lt (.au (.z 4) 50) .n)) .n))) .n))) (.c (.fm [(.z 4),(.z 5)] (.aV (.c .Eq (.z 3) (.c .Eq (.z 6) .n)))) .n) .n) .n)))
def g7:Ss:=(.c (.aN (.z 2) (.bq (.z 0) (.i 0))) (.c (.gK (.cD 3) .s (.z 0) .n Ms) (.c (.fm [(.z 4),(.z 5)] (.aV (.c .Eq (.z 2) (.c .Eq (.i 0) .n)))) (.c (.ite (.aJ (.z 1) (.c .NotEq (.i 0) .n)) (.c (.gK (.cD 3) .s (.z 0) .n BF) .n) .n) (.c (.r (.aV (.c .Eq (.z 4) (.c .Eq (.z 5) .n)))) .n)))))
noncomputable def Mt:E:=(.aJ (.au (.z 0) 51) (.c .IsNot .n .n))
noncomputable def Mu:Ss:=(.c (.cR (.iE 1 (.bq (.au (.z 0) 47) (.i 0)))) (.c (.aN (.z 0) (.au (.z 0) 51)) .n))
def Mv:Ss:=(.c (.aN (.z 1) (.cj ai .n)) (.c (.while Mt Mu) (.c (.r (.ym (.z 1))) .n)))
noncomputable def Mw:Ss:=(.c (.aN (.z 8) (.c (glbF 807) (.c .Eq (.z 7) (.c .Eq (.z 9) (.c .Eq (.z 8) (.c .Eq (.aJ (.bq (.z 9) (.i 0)) (.c .Eq (.c (.L (.bC .aL)) (.c .Eq (.z 0) .n)) .n)) .n)))))) (.c (.ite (.aJ (.z 8) (.c .Eq (.cj ak .n) .n)) (.c (.r .n) .n) .n) .n))
def choose:Ss:=(.c (.cR (.c (glbF 711) (.c .Eq (.z 1) .n))) (.c (.aN (.z 6) (.c (glbF 774) (.c .Eq (.z 1) (.c .Eq (.z 4) .n)))) (.c (.aN (.z 7) (.c (glbF 700) (.c .Eq (.z 1) (.c .Eq (.z 2) (.c .Eq (.c (.L (.bC .n)) (.c .Eq (.c (glbF 103) (.c .Eq (.z 3) .n)) (.c .Eq (.L (.i (10000))) .n))) (.c .Eq (.z 6) (.c .Eq (.z 5) .n))))))) (.c (.aN (.z 8) (.cj ak (.c .Eq (.c (glbF 679) (.c .Eq (.aV (.c .Eq (.neg (.i 1)) (.c .Eq (.i 0) (.c .Eq (.L (.i (0))) (.c .Eq (.i 0) (.c .Eq (.L (.aV [.i (0),.i (0),.i (0),.i (0),.i (0),.i (0)])) (.c .Eq (.L (.aV [.i (0),.i (0),.i (0),.i (0),.i (0),.i (0)])) .n))))))) (.c .Eq (.au (.z 2) 34) (.c .Eq (.L (.i (2))) (.c .Eq (.i 0) (.c .Eq .n .n)))))) .n))) (.c (.gK (.cD 9) .s (.c (glbF 767) (.c .Eq (.z 0) (.c .Eq (.z 1) .n))) .n Mw) (.c (.fm [(.z 10),(.z 11)] (.c (glbF 814) (.c .Eq (.z 8) (.c .Eq (.au (.z 1) 43) .n)))) (.c (.ite (.and (.c .Eq (.aJ (.z 11) (.c .NotEq (.au (.z 1) 43) .n)) (.c .Eq (.not (.z 5)) .n))) (.c (.r .n) .n) .n) (.c (.r (.c (glbF 821) (.c .Eq (.z 10) .n))) .n))))))))
noncomputable def BG:Ss:=(.c (.ite (.aJ (.au (.z 4) 6) (.c .Eq (.L (.i (6))) .n)) (.c (.cR (.iD (.z 1) 59 (.c .Eq (.au (.z 4) 15) .n))) .n) (.c (.cR (.iD (.z 1) 60 (.c .Eq (.c (glbF 569) (.c .Eq (.z 4) .n)) .n))) .n)) (.c (.aN (.z 2) (.c (.L (.bC .m)) (.c .Eq (.z 2) (.c .Eq (.c (glbF 586) (.c .Eq (.z 4) .n)) .n)))) (.c (.aN (.z 3) (.c (.L (.bC .m)) (.c .Eq (.z 3) (.c .Eq (.c (glbF 593) (.c .Eq (.z 4) .n)) .n)))) .n)))
def Mx:Ss:=(.c (.aN (.z 1) (.c (glbF 297) .n)) (.c (.fm [(.z 2),(.z 3)] (.aV (.c .Eq (.i 0) (.c .Eq (.i 0) .n)))) (.c (.gK (.cD 4) .s (.z 0) .n BG) (.c (.tG 1 1) (.c (.tG 1 3) (.c (.dC 1) (.c (.r (.aV (.c .Eq (.z 1) (.c .Eq (.z 2) (.c .Eq (.z 3) .n))))) .n)))))))
noncomputable def My:Ss:=(.c (.r (.d7 (.aJ (.z 1) (.c .Gt (.i 0) .n)) (.aV (.c .Eq (.z 0) (.c .Eq (.z 1) .n))) (.aV (.c .Eq (.neg (.z 0)) (.c .Eq (.neg (.z 1)) .n))))) .n)
noncomputable def BH:Ss:=(.c (.ite (.aJ (.z 1) (.c .Eq (.i 0) .n)) (.c (.r (.aV (.c .Eq (.L (.i (0))) (.c .Eq (.L (.i (0))) (.c .Eq (.aV (.c .Eq (.i 0) (.c .Eq (.i 1) .n))) (.c .Eq (.aV (.c .Eq (.L (.i (0))) (.c .Eq (.i 0) .n))) .n)))))) .n) .n) (.c (.aN (.z 2) (.d7 (.aJ (.z 1) (.c .Gt (.i 0) .n)) (.iD (.z 0) 61 .n) (.iD (.z 0) 62 .n))) (.c (.aN (.z 3) (.d7 (.aJ (.z 1) (.c .Gt (.i 0) .n)) (.bq (.au (.z 0) 1) (.z 2)) (.bq (.au (.z 0) 3) (.z 2)))) (.c (.aN (.z 4) (.aV (.c .Eq (.L (.i (0))) (.c .Eq (.i 0) .n)))) (.c (.ite (.aJ (.z 2) (.c .Eq (.L (.i (0))) .n)) (.c (.aN (.z 4) (.aV (.c .Eq (.d7 (.aJ (.z 1) (.c .Gt (.i 0) .n)) (.L (.i (1))) (.L (.i (2)))) (.c .Eq (.c (glbF 152) (.c .Eq (.c (.L (.bC .a)) (.c .Eq (.z 1) .n)) (.c .Eq (.z 3) .n))) .n)))) .n) .n) (.c (.ite (.and (.c .Eq (.aJ (.z 2) (.c .Eq (.L (.i (0))) .n)) (.c .Eq (.aJ (.z 1) (.c .Lt (.i 0) .n)) (.c .Eq (.aJ (.z 3) (.c .Lt (.neg (.z 1)) .n)) .n)))) (.c (.aN (.z 4) (.aV (.c .Eq (.L (.i (3))) (.c .Eq (.bH .Sub (.neg (.z 1)) (.z 3)) .n)))) .n) .n) (.c (.ite (.aJ (.z 3) (.c .Eq (.i 0) .n)) (.c (.r (.aV (.c .Eq (.L (.i (0))) (.c .Eq (.L (.i (0))) (.c .Eq (.aV (.c .Eq (.i 0) (.c .Eq (.i 1) .n))) (.c .Eq (.z 4) .n)))))) .n) .n) (.c (.ite (.aJ (.bq (.z 4) (.i 0)) (.c .Eq (.L (.i (3))) .n)) (.c (.r (.aV (.c .Eq (.L (.i (2))) (.c .Eq (.z 2) (.c .Eq (.aV (.c .Eq (.i 1) (.c .Eq (.i 1) .n))) (.c .Eq (.z 4) .n)))))) .n) .n) (.c (.r (.aV (.c .Eq (.d7 (.aJ (.z 1) (.c .Gt (.i 0) .n)) (.L (.i (1))) (.L (.i (2)))) (.c .Eq (.z 2) (.c .Eq (.c (glbF 850) (.c .Eq (.c (.L (.bC .a)) (.c .Eq (.z 1) .n)) (.c .Eq (.z 3) .n))) (.c .Eq (.z 4) .n)))))) .n)))))))))
noncomputable def Mz:Ss:=(.c (.ite (.aJ (.au (.z 3) 6) (.c .Eq (.L (.i (11))) .n)) (.c (.cR (.ext 2 (.au (.z 3) 9))) .n) (.c (.ite (.o (.c .Eq (.aJ (.au (.z 3) 6) (.c .Eq (.L (.i (9))) .n)) (.c .Eq (.aJ (.au (.z 3) 6) (.c .Eq (.L (.i (10))) .n)) .n))) (.c (.cR (.iE 2 (.z 3))) .n) (.c (.cR (.iE 1 (.z 3))) .n)) .n)) .n)
def MA:Ss:=(.c (.fm [(.z 1),(.z 2)] (.aV (.c .Eq (.cj ai .n) (.c .Eq (.cj ai .n) .n)))) (.c (.gK (.cD 3) .s (.z 0) .n Mz) (.c (.dC 1) (.c (.dC 2) (.c (.r (.aV (.c .Eq (.z 1) (.c .Eq (.z 2) .n)))) .n)))))
noncomputable def MB:Ss:=(.c (.ite (.and (.c .Eq (.aJ (.z 1) (.c .NotEq (.L (.i (0))) .n)) (.c .Eq (.aJ (.z 1) (.c .NotEq (.L (.i (1))) .n)) .n))) (.c .hM .n) .n) (.c (.cR (.c (glbF 110) (.c .Eq (.z 2) .n))) (.c (.r (.d7 (.aJ (.z 1) (.c .Eq (.L (.i (0))) .n)) (.z 2) (.bH .Add (.z 0) (.z 2)))) .n)))
noncomputable def MC:Ss:=(.c (.fm [(.au 0 11),(.au 0 12),(.au 0 13),(.z 3)] (.c (glbF 857) (.c .Eq (.z 1) (.c .Eq (.z 2) .n)))) (.c (.r (.d7 (.aJ (.au (.z 0) 9) (.c .NotEq (.cj ak .n) .n)) (.z 3) (.aV (.c .Eq (.L (.i (0))) (.c .Eq (.i 0) .n))))) .n))
noncomputable def MD:Ss:=(.c (.fm [(.z 4),(.z 5)] (.d7 (.aJ (.z 3) (.c .Is .n .n)) (.aV (.c .Eq (.z 0) (.c .Eq (.cj ak .n) .n))) (.c (glbF 864) (.c .Eq (.z 0) .n)))) (.c (.fm [(.z 6),(.z 7),(.z 8)] (.c (glbF 843) (.c .Eq (.z 4) .n))) (.c (.aN (.z 9) (.c (glbF 871) (.c .Eq (.au (.z 6) 5) (.c .Eq (.z 1) (.c .Eq (.z 2) .n))))) (.c (.aN (.z 10) (.c (glbF 349) (.c .Eq (.L (.i (2))) (.c .Eq (.z 9) (.c .Eq (.z 7) (.c .Eq (.z 8) (.c .Eq (.z 4) .n))))))) (.c (.ite (.aJ (.z 3) (.c .IsNot .n .n)) (.c (.cR (.ext 3 (.z 5))) .n) .n) (.c (.r (.aV (.c .Eq (.z 10) (.c .Eq (.c (glbF 878) (.c .Eq (.z 10) (.c .Eq (.z 6) (.c .Eq (.bH .Sub (.z 9) (.au (.z 6) 5)) .n)))) .n)))) .n))))))
noncomputable def FF:Ss:=(.c (.aN (.z 4) (.cj ai .n)) (.c (.ite (.aJ (.iD (.au (.z 1) 45) 63 .n) (.c .NotEq (.aV (.c .Eq (.i 0) (.c .Eq (.i 0) (.c .Eq (.i 0) (.c .Eq (.i 0) (.c .Eq (.i 0) .n)))))) .n)) (.c (.cR (.iE 4 (.c (glbF 413) (.c .Eq (.au (.z 1) 45) (.c .Eq (.bH .Add (.L (.i (100))) (.L (.i (5)))) .n))))) .n) .n) (.c (.cR (.ext 4 (.z 0))) (.c (.cR (.iE 4 (.c (glbF 413) (.c .Eq (.au (.z 1) 46) (.c .Eq (.bH .Add (.L (.i (100))) (.L (.i (6)))) .n))))) (.c (.aN (.z 5) (.cj ai .n)) (.c (.dC 4) (.c (.fm [(.z 6),(.z 7)] (.c (glbF 886) (.c .Eq (.z 4) (.c .Eq (.L (.i (0))) (.c .Eq (.z 3) (.c .Eq (.z 5) .n)))))) (.c (.aN (.au 6 10) (.z 2)) (.c (.qW 6) (.c (.qW 5) (.c (.r (.aV (.c .Eq (.z 6) (.c .Eq (.z 5) (.c .Eq (.z 7) .n))))) .n)))))))))))
noncomputable def BI:Ss:=(.c (.ite (.aJ (.bH .Add (.z 0) (.i 1)) (.c .GtE (.z 1) .n)) (.c (.r (.i 0)) .n) .n) (.c (.fm [(.z 4),(.z 5),(.z 6),(.z 7)] (.z 3)) (.c (.aN (.z 8) (.z 4)) (.c (.ite (.aJ (.z 0) (.c .Eq (.i 0) .n)) (.c (.eY (.z 8) .Add (.z 5)) .n) .n) (.c (.ite (.aJ (.bH .Add (.z 0) (.i 2)) (.c .Eq (.z 1) .n)) (.c (.eY (.z 8) .Add (.z 6)) .n) .n) (.c (.ite (.z 2) (.c (.eY (.z 8) .Add (.z 7)) .n) .n) (.c (.r (.z 8)) .n)))))))
noncomputable def ub:Ss:=(.c (.aN (.z 10) (.and (.c .Eq (.aJ (.z 9) (.c .Lt (.c (.L (.bC .aL)) (.c .Eq (.z 0) .n)) .n)) (.c .Eq (.aJ (.au (.bq (.z 0) (.z 9)) 6) (.c .Eq (.L (.i (8))) .n)) .n)))) (.c (.aN (.z 11) (.bH .Add (.z 7) (.uQ (.z 0) (.z 6) (.z 9)))) (.c (.aN (.z 7) (.cj ak .n)) (.c (.ite (.z 10) (.c (.aN (.z 11) (.bH .Add (.z 11) (.au (.bq (.z 0) (.z 9)) 18))) (.c (.aN (.z 7) (.pY ak (.au (.bq (.z 0) (.z 9)) 19))) .n)) .n) (.c (.fm [(.z 12),(.z 13)] (.iD (.z 3) 48 (.c .Eq (.bH .Add (.bH .Add (.au (.z 3) 34) (.z 8)) (.i 1)) .n))) (.c (.fm [(.z 14),(.z 15),(.z 16)] (.c (glbF 897) (.c .Eq (.z 11) (.c .Eq (.z 2) (.c .Eq (.z 12) (.c .Eq (.z 13) .n)))))) (.c (.cR (.iE 5 (.aV (.c .Eq (.z 14) (.c .Eq (.z 15) (.c .Eq (.c (glbF 904) (.c .Eq (.z 8) (.c .Eq (.c (.L (.bC .aL)) (.c .Eq (.z 1) .n)) (.c .Eq (.z 10) (.c .Eq (.z 4) .n))))) (.c .Eq (.z 16) .n))))))) (.c (.aN (.z 6) (.c (glbF 732) (.c .Eq (.z 0) (.c .Eq (.z 9) .n)))) .n))))))))
def ME:Ss:=(.c (.aN (.z 5) (.cj ai .n)) (.c (.fm [(.z 6),(.z 7)] (.aV (.c .Eq (.i 0) (.c .Eq (.cj ak .n) .n)))) (.c (.gK (.fG [8,9]) .qV (.z 1) .n ub) (.c (.dC 5) (.c (.r (.z 5)) .n)))))
noncomputable def BJ:Ss:=(.c (.aN (.z 3) (.c (.L (.bC .a)) (.c .Eq (.z 2) .n))) (.c (.ite (.aJ (.z 3) (.c .Lt (.bH .Pow (.i 10) (.i 18)) .n)) (.c (.aN (.z 3) (.bH .FloorDiv (.bH .Mod (.bH .Mult (.bH .Add (.bH .Add (.bH .Mult (.i 2) (.z 3)) (.i 1)) (.c (.L (.bC .i)) (.c .Eq (.aJ (.z 2) (.c .Lt (.i 0) .n)) .n))) (.i 618033988749894848204586834365638117720309179805762862135449)) (.bH .Pow (.i 10) (.i 60))) (.bH .Pow (.i 10) (.i 6)))) .n) .n) (.c (.aN (.z 1) (.bH .Mod (.bH .Add (.bH .Mult (.z 1) (.i 1000003)) (.z 3)) (.bH .Pow (.i 10) (.i 300)))) .n)))
def FG:Ss:=(.c (.aN (.z 1) (.i 0)) (.c (.gK (.cD 2) .s (.uR (.z 0) (.i 24)) .n BJ) (.c (.r (.cj ai (.c .Eq (.z 1) (.c .Eq (.i 0) .n)))) .n)))
noncomputable def MF:Ss:=(.c (.ite (.aJ (.bq (.z 0) (.i 0)) (.c .Gt (.i 0) .n)) (.c (.aN (.z 2) (.bH .Mod (.bq (.z 0) (.i 0)) (.z 1))) (.c (.aN (.bq (.z 0) (.i 0)) (.bH .FloorDiv (.bq (.z 0) (.i 0)) (.z 1))) (.c (.r (.z 2)) .n))) .n) (.c (.eY (.bq (.z 0) (.i 1)) .Add (.i 1)) (.c (.r (.bH .Mod (.bH .Mod (.bH .Add (.bH .Add (.bH .Mult (.bH .Mult (.i 7) (.bq (.z 0) (.i 1))) (.bq (.z 0) (.i 1))) (.bH .Mult (.i 5) (.bq (.z 0) (.i 1)))) (.i 3)) (.i 101)) (.z 1))) .n)))
noncomputable def MG:Ss:=(.c (.ite (.aJ (.z 2) (.c .IsNot (.z 3) .n)) (.c (.r (.b ak)) .n) .n) .n)
def MH:Ss:=(.c (.ite (.aJ (.c (.L (.bC .aL)) (.c .Eq (.z 0) .n)) (.c .NotEq (.c (.L (.bC .aL)) (.c .Eq (.z 1) .n)) .n)) (.c (.r (.b ak)) .n) .n) (.c (.gK (.fG [2,3]) .z (.z 0) (.z 1) MG) (.c (.r (.b ai)) .n)))
noncomputable def MI:Ss:=(.c (.r (.c (glbF 234) (.c .Eq (.bq (.z 0) (.i 0)) (.c .Eq (.bq (.z 0) (.i 1)) (.c .Eq (.bq (.z 0) (.i 2)) (.c .Eq (.bq (.z 0) (.i 3)) (.c .Eq (.i 0) .n))))))) .n)
noncomputable def FH:Ss:=(.c (.aN (.z 2) (.c (glbF 658) .n)) (.c (.aN (.au 2 37) (.bq (.cj ak (.c .Eq (.i 10) (.c .Eq (.i 100) (.c .Eq (.neg (.i 20)) (.c .Eq (.i 0) .n))))) (.c (glbF 925) (.c .Eq (.z 0) (.c .Eq (.i 4) .n))))) (.c (.aN (.au 2 38) (.bq (.cj ak (.c .Eq (.i 50) (.c .Eq (.neg (.i 30)) (.c .Eq (.i 0) (.c .Eq (.i 10000) (.c .Eq (.i 200) .n)))))) (.c (glbF 925) (.c .Eq (.z 0) (.c .Eq (.i 5) .n))))) (.c (.aN (.au 2 39) (.bq (.cj ak (.c .Eq (.i 50) (.c .Eq (.i 10) (.c .Eq (.neg (.i 20)) .n)))) (.c (glbF 925) (.c .Eq (.z 0) (.c .Eq (.i 3) .n))))) (.c (.aN (.au 2 45) (.c (glbF 939) (.c .Eq (.bq (.cj ak (.c .Eq (.aV (.c .Eq (.i 0) (.c .Eq (.i 0) (.c .Eq (.i 0) (.c .Eq (.i 0) .n))))) (.c .Eq (.aV (.c .Eq (.i 3) (.c .Eq (.i 2) (.c .Eq (.i 0) (.c .Eq (.i 1) .n))))) (.c .Eq (.aV (.c .Eq (.i 0) (.c .Eq (.i 5) (.c .Eq (.i 0) (.c .Eq (.i 0) .n))))) .n)))) (.c (glbF 925) (.c .Eq (.z 0) (.c .Eq (.i 3) .n)))) .n))) (.c (.aN (.au 2 46) (.c (glbF 939) (.c .Eq (.bq (.cj ak (.c .Eq (.aV (.c .Eq (.i 0) (.c .Eq (.i 0) (.c .Eq (.i 0) (.c .Eq (.i 0) .n))))) (.c .Eq (.aV (.c .Eq (.i 1) (.c .Eq (.i 4) (.c .Eq (.i 0) (.c .Eq (.i 2) .n))))) (.c .Eq (.aV (.c .Eq (.i 0) (.c .Eq (.i 1) (.c .Eq (.i 1) (.c .Eq (.i 0) .n))))) (.c .Eq (.aV (.c .Eq (.neg (.i 2)) (.c .Eq (.i 9) (.c .Eq (.i 0) (.c .Eq (.i 0) .n))))) .n))))) (.c (glbF 925) (.c .Eq (.z 0) (.c .Eq (.i 4) .n)))) .n))) (.c (.ite (.z 1) (.c (.aN (.au 2 40) (.bq (.cj ak (.c .Eq (.i 5000) (.c .Eq (.i 0) (.c .Eq (.neg (.i 300)) .n)))) (.c (glbF 925) (.c .Eq (.z 0) (.c .Eq (.i 3) .n))))) (.c (.aN (.au 2 41) (.bq (.cj ak (.c .Eq (.i 0) (.c .Eq (.i 3000) .n))) (.c (glbF 925) (.c .Eq (.z 0) (.c .Eq (.i 2) .n))))) (.c (.aN (.au 2 42) (.bq (.cj ak (.c .Eq (.i 700) (.c .Eq (.i 0) .n))) (.c (glbF 925) (.c .Eq (.z 0) (.c .Eq (.i 2) .n))))) (.c (.aN (.au 2 43) (.bq (.cj ak (.c .Eq (.i 0) (.c .Eq (.i 1) (.c .Eq (.neg (.i 1)) (.c .Eq (.i 0) (.c .Eq (.i 2) .n)))))) (.c (glbF 925) (.c .Eq (.z 0) (.c .Eq (.i 5) .n))))) .n)))) .n) (.c (.dC 2) (.c (.r (.z 2)) .n)))))))))
noncomputable def MJ:Ss:=(.c (.fm [(.z 3),(.z 4)] (.aV (.c .Eq (.c (glbF 925) (.c .Eq (.z 0) (.c .Eq (.i 2) .n))) (.c .Eq (.bq (.cj ak (.c .Eq (.i 0) (.c .Eq (.i 2) (.c .Eq (.i 0) .n)))) (.c (glbF 925) (.c .Eq (.z 0) (.c .Eq (.i 3) .n)))) .n)))) (.c (.ite (.aJ (.z 3) (.c .Eq (.i 0) .n)) (.c (.r (.d7 (.z 1) (.c (glbF 637) (.c .Eq (.i 9) (.c .Eq (.i 3) (.c .Eq (.i 1) (.c .Eq (.aV (.c .Eq (.aV (.c .Eq (.i 0) (.c .Eq (.z 2) .n))) (.c .Eq (.aV (.c .Eq (.i 5) (.c .Eq (.z 2) .n))) (.c .Eq (.aV (.c .Eq (.neg (.i 2)) (.c .Eq (.z 2) .n))) .n)))) (.c .Eq (.z 4) .n)))))) (.c (glbF 637) (.c .Eq (.z 2) (.c .Eq (.i 0) (.c .Eq (.i 1) (.c .Eq (.aV .n) (.c .Eq (.z 4) .n)))))))) .n) .n) (.c (.r (.d7 (.z 1) (.c (glbF 637) (.c .Eq (.bH .Add (.z 2) (.i 6)) (.c .Eq (.neg (.i 6)) (.c .Eq (.neg (.i 40)) (.c .Eq (.aV .n) (.c .Eq (.z 4) .n)))))) (.c (glbF 637) (.c .Eq (.bH .Add (.z 2) (.i 7)) (.c .Eq (.i 7) (.c .Eq (.i 0) (.c .Eq (.aV .n) (.c .Eq (.z 4) .n)))))))) .n)))
noncomputable def MK:Ss:=(.c (.cR (.iE 0 (.aV (.c .Eq (.z 1) (.c .Eq (.z 2) (.c .Eq (.z 3) (.c .Eq (.z 4) (.c .Eq (.z 5) .n)))))))) .n)
noncomputable def zi:Ss:=(.c (.fm [(.z 3),(.z 4)] (.aV (.c .Eq (.bH .Add (.i 8) (.c (glbF 925) (.c .Eq (.z 0) (.c .Eq (.i 14) .n)))) (.c .Eq (.c (glbF 925) (.c .Eq (.z 0) (.c .Eq (.i 6) .n))) .n)))) (.c (.ite (.aJ (.z 4) (.c .Eq (.i 3) .n)) (.c (.aN (.z 3) (.c (.L (.bC .m)) (.c .Eq (.i 8) (.c .Eq (.bH .Add (.z 2) (.bq (.cj ak (.c .Eq (.i 0) (.c .Eq (.i 1) (.c .Eq (.neg (.i 1)) (.c .Eq (.i 0) .n))))) (.c (glbF 925) (.c .Eq (.z 0) (.c .Eq (.i 4) .n))))) .n)))) .n) (.c (.ite (.aJ (.z 4) (.c .Eq (.i 5) .n)) (.c (.aN (.z 3) (.c (.L (.bC .m)) (.c .Eq (.i 8) (.c .Eq (.bH .Add (.bH .Add (.z 2) (.i 2)) (.c (glbF 925) (.c .Eq (.z 0) (.c .Eq (.i 30) .n)))) .n)))) .n) .n) .n)) (.c (.aN (.z 5) (.c (glbF 925) (.c .Eq (.z 0) (.c .Eq (.i 6) .n)))) (.c (.ite (.aJ (.z 5) (.c .Lt (.i 2) .n)) (.c (.fm [(.z 6),(.z 7)] (.aV (.c .Eq (.bH .Sub (.i 2) (.bH .Mult (.i 4) (.z 5))) (.c .Eq (.c (glbF 925) (.c .Eq (.z 0) (.c .Eq (.i 4) .n))) .n)))) (.c (.cR (.c (glbF 960) (.c .Eq (.z 1) (.c .Eq (.c (glbF 349) (.c .Eq (.L (.i (2))) (.c .Eq (.i 5) (.c .Eq (.i 2) (.c .Eq (.i 1) (.c .Eq (.cj ak .n) .n)))))) (.c .Eq (.b ai) (.c .Eq (.i 5) (.c .Eq .n (.c .Eq .n .n)))))))) (.c (.cR (.c (glbF 960) (.c .Eq (.z 1) (.c .Eq (.c (glbF 391) (.c .Eq (.z 6) (.c .Eq (.z 7) .n))) (.c .Eq (.aJ (.z 7) (.c .NotEq (.i 1) .n)) (.c .Eq (.z 6) (.c .Eq .n (.c .Eq .n .n)))))))) (.c (.eY (.z 3) .Sub (.bH .Add (.i 5) (.z 6))) .n)))) .n) (.c (.aN (.z 8) (.d7 (.aJ (.z 5) (.c .Eq (.i 5) .n)) (.c (glbF 370) (.c .Eq (.z 3) (.c .Eq (.i 3) (.c .Eq .n .n)))) (.c (glbF 349) (.c .Eq (.d7 (.aJ (.z 5) (.c .Eq (.i 4) .n)) (.L (.i (3))) (.L (.i (2)))) (.c .Eq (.z 3) (.c .Eq (.i 2) (.c .Eq (.i 1) (.c .Eq (.cj ak .n) .n)))))))) (.c (.cR (.c (glbF 960) (.c .Eq (.z 1) (.c .Eq (.z 8) (.c .Eq (.b ai) (.c .Eq (.z 3) (.c .Eq .n (.c .Eq .n .n)))))))) .n))))))
noncomputable def FI:Ss:=(.c (.fm [(.z 3),(.z 4),(.z 5),(.z 6)] (.aV (.c .Eq (.bH .Add (.i 3) (.c (glbF 925) (.c .Eq (.z 0) (.c .Eq (.i 4) .n)))) (.c .Eq (.c (glbF 925) (.c .Eq (.z 0) (.c .Eq (.i 6) .n))) (.c .Eq (.bq (.cj ak (.c .Eq (.i 0) (.c .Eq (.i 0) (.c .Eq (.i 0) (.c .Eq (.i 1) (.c .Eq (.i 0) (.c .Eq (.i 2) .n))))))) (.c (glbF 925) (.c .Eq (.z 0) (.c .Eq (.i 6) .n)))) (.c .Eq (.c (glbF 925) (.c .Eq (.z 0) (.c .Eq (.i 4) .n))) .n)))))) (.c (.aN (.z 7) (.d7 (.aJ (.c (glbF 925) (.c .Eq (.z 0) (.c .Eq (.i 6) .n))) (.c .Eq (.i 0) .n)) (.c (glbF 370) (.c .Eq (.i 1) (.c .Eq (.i 3) (.c .Eq .n .n)))) .n)) (.c (.cR (.c (glbF 960) (.c .Eq (.z 1) (.c .Eq (.c (glbF 413) (.c .Eq (.c (glbF 234) (.c .Eq (.z 3) (.c .Eq (.z 4) (.c .Eq (.z 5) (.c .Eq (.z 6) (.c .Eq (.i 0) .n)))))) (.c .Eq (.d7 (.aJ (.z 7) (.c .Is .n .n)) (.i 0) (.i 2)) (.c .Eq (.z 7) .n)))) (.c .Eq (.b ak) (.c .Eq (.bH .Sub (.z 3) (.z 6)) (.c .Eq (.z 2) (.c .Eq .n .n)))))))) .n)))
noncomputable def ML:Ss:=(.c (.aN (.z 1) (.c (glbF 925) (.c .Eq (.z 0) (.c .Eq (.i 4) .n)))) (.c (.ite (.aJ (.z 1) (.c .Eq (.i 0) .n)) (.c (.r (.aV (.c .Eq (.cj ak .n) (.c .Eq (.i 0) .n)))) .n) .n) (.c (.ite (.aJ (.z 1) (.c .Eq (.i 1) .n)) (.c (.r (.aV (.c .Eq (.cj ak (.c .Eq (.c (glbF 391) (.c .Eq (.i 1) (.c .Eq (.i 0) .n))) (.c .Eq (.c (glbF 370) (.c .Eq (.i 2) (.c .Eq .n (.c .Eq .n .n)))) .n))) (.c .Eq (.i 3) .n)))) .n) .n) (.c (.r (.aV (.c .Eq (.cj ak (.c .Eq (.c (glbF 349) (.c .Eq (.L (.i (2))) (.c .Eq (.bH .Sub (.bH .Mult (.i 3) (.z 1)) (.i 3)) (.c .Eq (.i 1) (.c .Eq (.i 0) (.c .Eq (.cj ak .n) .n)))))) .n)) (.c .Eq (.bH .Sub (.bH .Mult (.i 3) (.z 1)) (.i 3)) .n)))) .n))))
noncomputable def FK:Ss:=(.c (.fm [(.z 3),(.z 4),(.z 5)] (.aV (.c .Eq (.c (glbF 981) (.c .Eq (.z 0) .n)) (.c .Eq (.c (glbF 981) (.c .Eq (.z 0) .n)) (.c .Eq (.c (glbF 981) (.c .Eq (.z 0) .n)) .n))))) (.c (.aN (.z 6) (.d7 (.aJ (.bq (.z 3) (.i 0)) (.c .Eq (.cj ak .n) .n)) (.au (.z 2) 39) (.au (.z 2) 38))) (.c (.cR (.c (glbF 960) (.c .Eq (.z 1) (.c .Eq (.c (glbF 455) (.c .Eq (.bq (.z 3) (.i 0)) (.c .Eq (.bq (.z 4) (.i 0)) (.c .Eq (.bq (.z 5) (.i 0)) .n)))) (.c .Eq (.b ai) (.c .Eq (.bq (.z 5) (.i 1)) (.c .Eq (.d7 (.aJ (.z 6) (.c .Lt (.i 10000) .n)) (.z 6) .n) (.c .Eq (.aV (.c .Eq (.bq (.z 3) (.i 1)) (.c .Eq (.bq (.z 4) (.i 1)) .n))) .n)))))))) .n)))
noncomputable def MM:Ss:=(.c (.aN (.z 1) (.c (glbF 925) (.c .Eq (.z 0) (.c .Eq (.i 4) .n)))) (.c (.ite (.aJ (.z 1) (.c .Eq (.i 0) .n)) (.c (.r (.c (glbF 476) (.c .Eq (.cj ak (.c .Eq (.aV (.c .Eq (.i 11) (.c .Eq (.i 65) .n))) .n)) .n))) .n) .n) (.c (.ite (.aJ (.z 1) (.c .Eq (.i 1) .n)) (.c (.r (.c (glbF 497) (.c .Eq (.i 3) (.c .Eq (.i 5) (.c .Eq (.i 0) (.c .Eq (.c (glbF 234) .n) (.c .Eq (.i 0) (.c .Eq (.cj ak (.c .Eq (.c (glbF 349) (.c .Eq (.L (.i (2))) (.c .Eq (.i 30) (.c .Eq (.i 5) (.c .Eq (.i 0) (.c .Eq (.cj ak .n) .n)))))) .n)) .n)))))))) .n) .n) (.c (.r (.d7 (.aJ (.z 1) (.c .Eq (.i 2) .n)) (.c (glbF 518) (.c .Eq (.cj ak (.c .Eq (.c (glbF 349) (.c .Eq (.L (.i (2))) (.c .Eq (.i 30) (.c .Eq (.i 5) (.c .Eq (.i 0) (.c .Eq (.cj ak .n) .n)))))) (.c .Eq (.c (glbF 434) (.c .Eq (.i 7) .n)) .n))) .n)) (.c (glbF 560) (.c .Eq (.cj ak (.c .Eq (.i 65) .n)) .n)))) .n))))
noncomputable def MN:Ss:=(.c (.aN (.z 4) (.c (glbF 925) (.c .Eq (.z 0) (.c .Eq (.i 11) .n)))) (.c (.ite (.aJ (.z 4) (.c .Lt (.i 3) .n)) (.c (.cR (.c (glbF 974) (.c .Eq (.z 0) (.c .Eq (.z 1) (.c .Eq (.i 0) .n))))) .n) (.c (.ite (.aJ (.z 4) (.c .Lt (.i 6) .n)) (.c (.aN (.z 5) (.bq (.cj ak (.c .Eq (.i 50) (.c .Eq (.neg (.i 50)) (.c .Eq (.i 0) (.c .Eq (.i 9999) (.c .Eq (.neg (.i 300)) (.c .Eq (.i 10000) (.c .Eq (.neg (.i 10000)) (.c .Eq (.neg (.i 12000)) .n))))))))) (.c (glbF 925) (.c .Eq (.z 0) (.c .Eq (.i 8) .n))))) (.c (.cR (.c (glbF 960) (.c .Eq (.z 1) (.c .Eq (.c (glbF 434) (.c .Eq (.z 5) .n)) (.c .Eq (.b ak) (.c .Eq (.i 0) (.c .Eq (.d7 (.aJ (.z 5) (.c .Lt (.i 10000) .n)) (.z 5) .n) (.c .Eq .n .n)))))))) (.c (.ite (.aJ (.z 4) (.c .Gt (.i 3) .n)) (.c (.cR (.c (glbF 974) (.c .Eq (.z 0) (.c .Eq (.z 1) (.c .Eq .n .n))))) .n) .n) .n))) (.c (.ite (.aJ (.z 4) (.c .Eq (.i 6) .n)) (.c (.cR (.c (glbF 988) (.c .Eq (.z 0) (.c .Eq (.z 1) (.c .Eq (.z 2) .n))))) .n) (.c (.ite (.aJ (.z 4) (.c .Eq (.i 7) .n)) (.c (.cR (.c (glbF 960) (.c .Eq (.z 1) (.c .Eq (.c (glbF 391) (.c .Eq (.i 3) (.c .Eq (.i 1) .n))) (.c .Eq (.b ak) (.c .Eq (.i 3) (.c .Eq (.i 0) (.c .Eq .n .n)))))))) (.c (.cR (.c (glbF 974) (.c .Eq (.z 0) (.c .Eq (.z 1) (.c .Eq .n .n))))) .n)) (.c (.ite (.aJ (.z 4) (.c .Eq (.i 8) .n)) (.c (.cR (.c (glbF 960) (.c .Eq (.z 1) (.c .Eq (.c (glbF 539) (.c .Eq (.b ai) (.c .Eq (.i 1) .n))) (.c .Eq (.b ak) (.c .Eq (.i 1) (.c .Eq .n (.c .Eq .n .n)))))))) (.c (.cR (.c (glbF 967) (.c .Eq (.z 0) (.c .Eq (.z 1) (.c .Eq (.z 3) .n))))) (.c (.cR (.c (glbF 974) (.c .Eq (.z 0) (.c .Eq (.z 1) (.c .Eq .n .n))))) (.c (.cR (.c (glbF 960) (.c .Eq (.z 1) (.c .Eq (.c (glbF 539) (.c .Eq (.b ak) (.c .Eq (.i 2) .n))) (.c .Eq (.b ak) (.c .Eq (.i 2) (.c .Eq (.i 0) (.c .Eq .n .n)))))))) (.c (.cR (.c (glbF 974) (.c .Eq (.z 0) (.c .Eq (.z 1) (.c .Eq .n .n))))) .n))))) (.c (.cR (.c (glbF 960) (.c .Eq (.z 1) (.c .Eq (.d7 (.aJ (.z 4) (.c .Eq (.i 9) .n)) (.c (glbF 391) (.c .Eq (.i 2) (.c .Eq (.i 0) .n))) (.c (glbF 995) (.c .Eq (.z 0) .n))) (.c .Eq (.b ai) (.c .Eq (.d7 (.aJ (.z 4) (.c .Eq (.i 9) .n)) (.i 2) (.i 0)) (.c .Eq .n (.c .Eq .n .n)))))))) (.c (.cR (.c (glbF 974) (.c .Eq (.z 0) (.c .Eq (.z 1) (.c .Eq (.i 0) .n))))) .n))) .n)) .n)) .n)) .n)) .n))
noncomputable def FL:Ss:=(.c (.cR (.c (glbF 1002) (.c .Eq (.z 0) (.c .Eq (.z 4) (.c .Eq (.z 1) (.c .Eq (.z 2) .n)))))) (.c (.cR (.c (glbF 967) (.c .Eq (.z 0) (.c .Eq (.z 4) (.c .Eq (.z 2) .n))))) .n))
def xq:Ss:=(.c (.aN (.z 4) (.cj ai .n)) (.c (.ite (.aJ (.c (glbF 925) (.c .Eq (.z 0) (.c .Eq (.i 7) .n))) (.c .Eq (.i 0) .n)) (.c (.cR (.c (glbF 974) (.c .Eq (.z 0) (.c .Eq (.z 4) (.c .Eq .n .n))))) .n) .n) (.c (.cR (.c (glbF 967) (.c .Eq (.z 0) (.c .Eq (.z 4) (.c .Eq (.z 2) .n))))) (.c (.aN (.z 5) (.c (glbF 925) (.c .Eq (.z 0) (.c .Eq (.i 5) .n)))) (.c (.gK (.cD 6) .r (.d7 (.z 3) (.i 1) (.bH .Add (.i 1) (.z 5))) .n FL) (.c (.aN (.z 7) (.c (glbF 925) (.c .Eq (.z 0) (.c .Eq (.i 4) .n)))) (.c (.ite (.aJ (.z 7) (.c .NotEq (.i 2) .n)) (.c (.cR (.c (glbF 960) (.c .Eq (.z 4) (.c .Eq (.c (glbF 434) (.c .Eq (.i 10000) .n)) (.c .Eq (.b ak) (.c .Eq (.i 0) (.c .Eq .n (.c .Eq .n .n)))))))) (.c (.cR (.c (glbF 960) (.c .Eq (.z 4) (.c .Eq (.c (glbF 413) (.c .Eq (.d7 (.aJ (.z 7) (.c .Lt (.i 2) .n)) (.c (glbF 234) (.c .Eq (.i 0) (.c .Eq (.i 6) (.c .Eq (.i 1) (.c .Eq (.i 0) (.c .Eq (.i 0) .n)))))) (.c (glbF 234) (.c .Eq (.i 2) (.c .Eq (.i 20) (.c .Eq (.i 0) (.c .Eq (.i 1) (.c .Eq (.i 0) .n))))))) (.c .Eq (.i 112) .n))) (.c .Eq (.b ak) (.c .Eq (.d7 (.aJ (.z 7) (.c .Lt (.i 2) .n)) (.i 0) (.i 1)) (.c .Eq .n (.c .Eq .n .n)))))))) .n)) .n) (.c (.dC 4) (.c (.r (.z 4)) .n)))))))))
noncomputable def MO:E:=(.and (.c .Eq (.aJ (.z 4) (.c .Lt (.z 3) .n)) (.c .Eq (.not (.bq (.bq (.z 0) (.z 4)) (.i 1))) .n)))
noncomputable def MP:Ss:=(.c (.eY (.z 4) .Add (.i 1)) .n)
noncomputable def MQ:Ss:=(.c (.eY (.z 5) .Add (.bq (.z 7) (.i 2))) .n)
def zj:Ss:=(.c (.fm [(.z 4),(.z 5)] (.aV (.c .Eq (.i 0) (.c .Eq (.z 1) .n)))) (.c (.ite (.aJ (.z 2) (.c .GtE (.i 0) .n)) (.c (.aN (.z 6) (.bq (.bq (.z 0) (.z 2)) (.i 4))) (.c (.aN (.z 4) (.d7 (.aJ (.z 6) (.c .Is .n .n)) (.z 2) (.bH .Add (.z 2) (.i 1)))) (.c (.ite (.and (.c .Eq (.aJ (.z 6) (.c .IsNot .n .n)) (.c .Eq (.aJ (.bq (.z 6) (.i 1)) (.c .Gt (.i 0) .n)) .n))) (.c (.eY (.z 5) .Add (.bq (.z 6) (.i 1))) .n) (.c (.while MO MP) .n)) .n))) .n) (.c (.gK (.cD 7) .s (.uQ (.z 0) (.z 4) (.z 3)) .n MQ) (.c (.ite (.and (.c .Eq (.aJ (.z 3) (.c .Lt (.c (.L (.bC .aL)) (.c .Eq (.z 0) .n)) .n)) (.c .Eq (.aJ (.bq (.bq (.z 0) (.z 3)) (.i 4)) (.c .IsNot .n .n)) .n))) (.c (.eY (.z 5) .Add (.bq (.bq (.bq (.z 0) (.z 3)) (.i 4)) (.i 0))) .n) .n) (.c (.r (.z 5)) .n)))))
noncomputable def YY:Es:=(.c .Eq (.aJ (.z 6) (.c .Lt (.z 10) (.c .Lt (.z 7) .n))) .n)
noncomputable def YZ:E:=(.z 10)
noncomputable def Y0:Es:=(.c .Eq (.aJ (.bq (.z 4) (.z 11)) (.c .LtE (.neg (.i 10000)) .n)) .n)
noncomputable def Y1:E:=(.z 11)
noncomputable def MS:Es:=(.c .Eq (.aJ (.bq (.z 5) (.z 12)) (.c .Gt (.i 0) .n)) .n)
noncomputable def MT:E:=(.z 12)
def uc:Ss:=(.c (.ite (.o (.c .Eq (.c (.L (.bC .pV)) (.c .Eq (.z 7) (.c .Eq (.L (.bC .o)) .n))) (.c .Eq (.c (.L (.bC .pV)) (.c .Eq (.bq (.bq (.z 8) (.i 3)) (.i 1)) (.c .Eq (.L (.bC .o)) .n))) (.c .Eq (.aJ (.z 7) (.c .NotIn (.z 3) .n)) (.c .Eq (.aJ (.z 7) (.c .LtE (.z 6) .n)) .n))))) (.c (.r (.b ak)) .n) .n) (.c (.aN (.z 9) (.q (.cD 10) .s (.z 3) .n YY YZ)) (.c (.ite (.aJ (.q (.cD 11) .s (.z 9) .n Y0 Y1) (.c .NotEq (.cj ak .n) .n)) (.c (.r (.b ak)) .n) .n) (.c (.ite (.aJ (.q (.cD 12) .s (.bH .Add (.z 9) (.cj ak (.c .Eq (.z 7) .n))) .n MS MT) (.c .Eq (.cj ak .n) .n)) (.c (.ite (.aJ (.bq (.bq (.z 8) (.i 3)) (.i 0)) (.c .Eq (.L (.i (3))) .n)) (.c (.r (.b ak)) .n) .n) .n) (.c (.ite (.o (.c .Eq (.aJ (.z 9) (.c .NotEq (.cj ak .n) .n)) (.c .Eq (.aJ (.bq (.z 8) (.i 3)) (.c .NotEq (.aV (.c .Eq (.L (.i (3))) (.c .Eq (.bq (.z 5) (.z 7)) .n))) .n)) .n))) (.c (.r (.b ak)) .n) .n) .n)) (.c (.aN (.z 6) (.z 7)) .n)))))
def MU:Ss:=(.c (.fm [(.z 3),(.z 4),(.z 5)] (.aV (.c .Eq (.m4 (.z 0) 66) (.c .Eq (.m4 (.z 0) 65) (.c .Eq (.m4 (.z 0) 64) .n))))) (.c (.aN (.z 6) (.neg (.i 1))) (.c (.gK (.fG [7,8]) .z (.z 1) (.z 2) uc) (.c (.r (.and (.c .Eq (.aJ (.z 6) (.c .Eq (.bq (.z 3) (.neg (.i 1))) .n)) (.c .Eq (.aJ (.c (.L (.bC .aL)) (.c .Eq (.z 2) .n)) (.c .Eq (.c (.L (.bC .aL)) (.c .Eq (.z 1) .n)) .n)) .n)))) .n))))
noncomputable def MV:E:=(.and (.c .Eq (.aJ (.z 3) (.c .Eq (.cj ak .n) .n)) (.c .Eq (.aJ (.z 4) (.c .Lt (.z 2) .n)) (.c .Eq (.not (.bq (.bq (.z 0) (.z 4)) (.i 1))) .n))))
noncomputable def MX:Ss:=(.c (.eY (.z 4) .Add (.i 1)) .n)
noncomputable def MY:E:=(.bq (.z 6) (.i 0))
def zk:Ss:=(.c (.fm [(.z 3),(.z 4)] (.aV (.c .Eq (.cj ak .n) (.c .Eq (.i 0) .n)))) (.c (.ite (.aJ (.z 1) (.c .GtE (.i 0) .n)) (.c (.aN (.z 4) (.z 1)) (.c (.ite (.aJ (.au (.bq (.bq (.z 0) (.z 1)) (.i 0)) 6) (.c .Eq (.L (.i (8))) .n)) (.c (.fm [(.z 3),(.z 4)] (.aV (.c .Eq (.pY ak (.au (.bq (.bq (.z 0) (.z 1)) (.i 0)) 19)) (.c .Eq (.bH .Add (.z 1) (.i 1)) .n)))) .n) .n) (.c (.while MV MX) .n))) .n) (.c (.aN (.z 5) (.bH .Sub (.z 4) (.c (.L (.bC .aL)) (.c .Eq (.z 3) .n)))) (.c (.aN (.z 3) (.bH .Add (.z 3) (.q (.cD 6) .s (.uQ (.z 0) (.z 4) (.z 2)) .n .n MY))) (.c (.ite (.and (.c .Eq (.aJ (.z 2) (.c .Lt (.c (.L (.bC .aL)) (.c .Eq (.z 0) .n)) .n)) (.c .Eq (.aJ (.au (.bq (.bq (.z 0) (.z 2)) (.i 0)) 6) (.c .Eq (.L (.i (8))) .n)) .n))) (.c (.aN (.z 3) (.bH .Add (.z 3) (.au (.bq (.bq (.z 0) (.z 2)) (.i 0)) 18))) .n) .n) (.c (.r (.aV (.c .Eq (.z 3) (.c .Eq (.z 5) .n)))) .n))))))
noncomputable def MZ:Ss:=(.c (.aN (.z 5) (.bH .Add (.au (.m4 (.z 0) 52) 37) (.bq (.bq (.z 4) (.i 3)) (.i 1)))) (.c (.eY (.z 3) .Add (.d7 (.aJ (.c (.L (.bC .a)) (.c .Eq (.z 5) .n)) (.c .GtE (.i 10000) .n)) (.bH .Pow (.i 10) (.i 8)) (.bH .Mult (.z 5) (.z 5)))) .n))
noncomputable def M0:Ss:=(.c (.aN (.z 7) (.r5 (.m4 (.z 0) 65) (.c .Eq (.z 6) (.c .Eq (.i 0) .n)))) (.c (.ite (.aJ (.z 7) (.c .Gt (.neg (.i 10000)) .n)) (.c (.eY (.z 3) .Add (.bH .Mult (.z 7) (.c (.L (.bC .a)) (.c .Eq (.z 7) .n)))) .n) .n) .n))
def M1:Ss:=(.c (.aN (.z 3) (.i 0)) (.c (.gK (.cD 4) .s (.z 1) .n MZ) (.c (.gK (.cD 6) .s (.z 2) .n M0) (.c (.r (.z 3)) .n))))
noncomputable def M3:E:=(.bH .Add (.z 9) (.z 6))
def M4:Ss:=(.c (.ite (.aJ (.z 2) (.c .Eq (.cj ak .n) .n)) (.c (.r (.b ai)) .n) .n) (.c (.aN (.z 4) (.c (glbF 637) (.c .Eq (.m4 (.z 0) 23) .n))) (.c (.fm [(.z 5),(.z 6)] (.c (glbF 1026) (.c .Eq (.m4 (.z 0) 33) (.c .Eq (.z 1) (.c .Eq (.bq (.z 2) (.neg (.i 1))) .n))))) (.c (.aN (.z 7) (.c (glbF 828) (.c .Eq (.z 5) (.c .Eq (.m4 (.z 0) 52) (.c .Eq (.z 4) (.c .Eq (.m4 (.z 0) 36) (.c .Eq (.i 0) (.c .Eq (.b ak) .n)))))))) (.c (.ite (.o (.c .Eq (.aJ (.z 7) (.c .Is .n .n)) (.c .Eq (.aJ (.bq (.z 7) (.neg (.i 1))) (.c .NotEq (.c (.L (.bC .aL)) (.c .Eq (.z 5) .n)) .n)) .n))) (.c (.r (.b ak)) .n) .n) (.c (.aN (.z 8) (.c (glbF 911) (.c .Eq (.z 5) (.c .Eq (.z 7) (.c .Eq (.m4 (.z 0) 52) (.c .Eq (.z 4) (.c .Eq (.aV (.c .Eq (.i 0) (.c .Eq (.i 0) (.c .Eq (.i 0) (.c .Eq (.i 0) .n))))) .n))))))) (.c (.r (.aJ (.c (glbF 1033) (.c .Eq (.z 0) (.c .Eq (.z 8) (.c .Eq (.q (.cD 9) .s (.uR (.z 7) (.neg (.i 1))) .n .n M3) .n)))) (.c .Eq (.c (glbF 1033) (.c .Eq (.z 0) (.c .Eq (.z 3) (.c .Eq (.uR (.z 2) (.neg (.i 1))) .n)))) .n))) .n)))))))
noncomputable def M5:Ss:=(.c (.ite (.aJ (.bq (.bq (.z 7) (.i 3)) (.i 0)) (.c .NotEq (.L (.i (3))) .n)) (.c (.cR (.iE 4 (.z 6))) (.c (.cR (.iE 5 (.z 7))) .n)) (.c (.dC 4) (.c (.dC 5) (.c (.ite (.not (.c (glbF 1038) (.c .Eq (.z 0) (.c .Eq (.z 3) (.c .Eq (.z 4) (.c .Eq (.z 5) .n)))))) (.c (.r (.b ak)) .n) .n) (.c (.fm [(.z 3),(.z 4),(.z 5)] (.aV (.c .Eq (.z 6) (.c .Eq (.cj ai .n) (.c .Eq (.cj ai .n) .n))))) .n))))) .n)
def M6:Ss:=(.c (.fm [(.z 3),(.z 4),(.z 5)] (.aV (.c .Eq (.neg (.i 1)) (.c .Eq (.cj ai .n) (.c .Eq (.cj ai .n) .n))))) (.c (.gK (.fG [6,7]) .z (.z 1) (.z 2) M5) (.c (.dC 4) (.c (.dC 5) (.c (.r (.c (glbF 1038) (.c .Eq (.z 0) (.c .Eq (.z 3) (.c .Eq (.z 4) (.c .Eq (.z 5) .n)))))) .n)))))
noncomputable def M7:Es:=(.c .Eq (.aJ (.bq (.z 24) (.i 3)) (.c .IsNot .n .n)) .n)
noncomputable def M8:E:=(.z 23)
noncomputable def BK:Ss:=(.c (.aN (.bq (.z 12) (.z 15)) (.d7 (.aJ (.z 15) (.c .Lt (.c (.L (.bC .aL)) (.c .Eq (.z 10) .n)) .n)) (.bq (.bq (.z 10) (.z 15)) (.i 3)) (.neg (.i 10000)))) (.c (.aN (.bq (.z 13) (.z 15)) (.bH .Sub (.c (glbF 1016) (.c .Eq (.z 10) (.c .Eq (.z 9) (.c .Eq (.z 14) (.c .Eq (.z 15) .n))))) (.z 5))) (.c (.aN (.z 14) (.z 15)) .n)))
noncomputable def Y2:Es:=(.c .Eq (.aJ (.bq (.z 13) (.z 25)) (.c .Gt (.i 0) .n)) .n)
noncomputable def Y3:E:=(.z 25)
noncomputable def Y4:E:=(.bq (.z 26) (.i 0))
def qn:Ss:=(.c (.aN (.z 1) (.c (glbF 918) (.c .Eq (.z 0) .n))) (.c (.aN (.z 2) (.aJ (.c (glbF 925) (.c .Eq (.z 1) (.c .Eq (.i 4) .n))) (.c .Eq (.i 0) .n))) (.c (.aN (.z 3) (.c (glbF 946) (.c .Eq (.z 1) (.c .Eq (.z 2) .n)))) (.c (.aN (.z 4) (.c (glbF 925) (.c .Eq (.z 1) (.c .Eq (.i 32) .n)))) (.c (.aN (.z 5) (.d7 (.aJ (.z 4) (.c .Gt (.i 1) .n)) (.bH .Add (.i 28) (.z 4)) (.bH .Mult (.neg (.i 4)) (.z 4)))) (.c (.aN (.z 6) (.c (glbF 953) (.c .Eq (.z 1) (.c .Eq (.z 2) (.c .Eq (.z 5) .n))))) (.c (.aN (.z 7) (.bq (.cj ak (.c .Eq (.i 10000) (.c .Eq (.i 10001) (.c .Eq (.i 20000) (.c .Eq (.i 2147483647) .n))))) (.c (glbF 925) (.c .Eq (.z 1) (.c .Eq (.i 4) .n))))) (.c (.aN (.z 8) (.d7 (.z 2) (.bq (.cj ak (.c .Eq (.i 0) (.c .Eq (.i 20) (.c .Eq (.neg (.i 5)) .n)))) (.c (glbF 925) (.c .Eq (.z 1) (.c .Eq (.i 3) .n)))) (.i 0))) (.c (.aN (.z 9) (.bH .Sub (.bH .Add (.bH .Sub (.au (.au (.z 3) 45) 0) (.au (.au (.z 3) 45) 3)) (.au (.au (.z 3) 46) 0)) (.au (.au (.z 3) 46) 3))) (.c (.aN (.z 10) (.c (glbF 1009) (.c .Eq (.z 1) (.c .Eq (.z 3) (.c .Eq (.bH .Sub (.z 5) (.z 9)) (.c .Eq (.and (.c .Eq (.aJ (.c (.L (.bC .aL)) (.c .Eq (.z 0) .n)) (.c .Lt (.i 2) .n)) (.c .Eq (.aJ (.c (.L (.bC .a)) (.c .Eq (.c (.L (.bC .sum)) (.c .Eq (.z 0) .n)) .n)) (.c .Lt (.i 2) .n)) .n))) .n)))))) (.c (.aN (.z 11) (.bH .Add (.q (.fG [23,24]) .qV (.z 10) .n M7 M8) (.cj ak (.c .Eq (.c (.L (.bC .aL)) (.c .Eq (.z 10) .n)) .n)))) (.c (.fm [(.z 12),(.z 13),(.z 14)] (.aV (.c .Eq (.r6 ai) (.c .Eq (.r6 ai) (.c .Eq (.neg (.i 1)) .n))))) (.c (.gK (.cD 15) .s (.z 11) .n BK) (.c (.dC 12) (.c (.dC 13) (.c (.aN (.z 16) (.mE [33,52,23,36,66,65,64] (.c .Eq (.z 10) (.c .Eq (.z 3) (.c .Eq (.z 5) (.c .Eq (.z 7) (.c .Eq (.z 11) (.c .Eq (.z 12) (.c .Eq (.z 13) .n))))))))) (.c (.aN (.z 17) (.aJ (.q (.cD 25) .s (.z 11) .n Y2 Y3) (.c .Eq (.cj ak .n) .n))) (.c (.aN (.z 18) (.q (.cD 26) .s (.z 10) .n .n Y4)) (.c (.aN (.z 19) (.pY ak (.z 18))) (.c (.aN (.z 20) (.c (glbF 828) (.c .Eq (.z 19) (.c .Eq (.z 3) (.c .Eq (.z 6) (.c .Eq (.z 7) (.c .Eq (.z 8) (.c .Eq (.b ak) .n)))))))) (.c (.aN (.z 21) (.c (glbF 828) (.c .Eq (.z 19) (.c .Eq (.z 3) (.c .Eq (.z 6) (.c .Eq (.z 7) (.c .Eq (.z 8) (.c .Eq (.b ai) .n)))))))) (.c (.ite (.o (.c .Eq (.aJ (.z 21) (.c .Is .n .n)) (.c .Eq (.and (.c .Eq (.aJ (.z 20) (.c .IsNot .n .n)) (.c .Eq (.o (.c .Eq (.not (.z 17)) (.c .Eq (.aJ (.z 21) (.c .NotEq (.z 20) .n)) .n))) .n))) .n))) (.c (.r (.b ak)) .n) .n) (.c (.ite (.and (.c .Eq (.aJ (.z 20) (.c .Is .n .n)) (.c .Eq (.z 17) (.c .Eq (.aJ (.au (.z 3) 43) (.c .Eq (.i 0) .n)) .n)))) (.c (.r (.b ak)) .n) .n) (.c (.aN (.z 22) (.c (glbF 911) (.c .Eq (.z 19) (.c .Eq (.z 21) (.c .Eq (.z 3) (.c .Eq (.z 6) (.c .Eq (.aV (.c .Eq (.i 0) (.c .Eq (.i 0) (.c .Eq (.i 0) (.c .Eq (.i 0) .n))))) .n))))))) (.c (.ite (.o (.c .Eq (.not (.c (glbF 1021) (.c .Eq (.z 16) (.c .Eq (.z 21) (.c .Eq (.z 22) .n))))) (.c .Eq (.not (.c (glbF 932) (.c .Eq (.z 19) (.c .Eq (.z 18) .n)))) .n))) (.c (.r (.b ak)) .n) .n) (.c (.r (.o (.c .Eq (.z 2) (.c .Eq (.z 17) (.c .Eq (.and (.c .Eq (.c (glbF 1045) (.c .Eq (.z 16) (.c .Eq (.z 21) (.c .Eq (.z 22) .n)))) (.c .Eq (.c (glbF 932) (.c .Eq (.z 19) (.c .Eq (.z 18) .n))) .n))) .n))))) .n))))))))))))))))))))))))))
noncomputable def qZ:List (bg×V):=[(strN 362775192996279691,.bC .pV),(strN 7149310,.bC .o),(strN 145487,.bC .i),(strN 112826821578379024,.i (2147483647)),(strN 18241127863862411224,.L (.ref 96)),(strN 1912318886165062,.i (1073741823)),(strN 389712820895,.i (10000)),(strN 104208755582794,.L (.ref 89)),(strN 74595069,.i (3)),(strN 10194442747,.i (0)),(strN 18241127863632379378,.L (.ref 110)),(strN 21429,.i (1)),(strN 1264323,.i (2)),(strN 7754196783391688,.L (.ref 245)),(strN 2277650,.i (5)),(strN 4526209,.i (3)),(strN 1650903,.i (2)),(strN 591489118181,.i (0)),(strN 563738263453,.i (3)),(strN 918917601771006,.i (0)),(strN 169893985,.i (100)),(strN 2093560049846632,.i (5)),(strN 196346350,.i (0)),(strN 60237389618206,.i (3)),(strN 2998405467369,.i (1)),(strN 3770636,.i (4)),(strN 1076226543961605023700,.L (.ref 103)),(strN 18241127863813942149,.L (.ref 332)),(strN 641157580,.bC .t),(strN 9182458,.bC .l),(strN 5136308263447909,.bC .b),(strN 423880123,.bC .y),(strN 30248463389799,.i (1)),(strN 644062,.i (0)),(strN 257406341,.i (14)),(strN 2674596,.i (12)),(strN 1480669,.i (6)),(strN 853969,.i (8)),(strN 180703,.bC .sum),(strN 138631609247744,.L (.ref 569)),(strN 5967055388522955,.L (.ref 574)),(strN 158648,.bC .m),(strN 22851167590678227110,.L (.ref 586)),(strN 91187087993207,.L (.ref 579)),(strN 387307925217288352,.L (.ref 593)),(strN 116930,.bC .a),(strN 155393,.bC .aL),(strN 159110,.bC .n),(strN 1593981,.L (.ref 234)),(strN 13467176288000,.i (1)),(strN 678633051161,.i (7)),(strN 8281993843653162638,.i (0)),(strN 4475010528,.i (10000)),(strN 254164822022993587246,.i (1)),(strN 62658197,.i (-10000)),(strN 362749883903671751,.L (.ref 718)),(strN 601630949738,.aV [.i (0),.i (0),.i (0),.i (0),.i (0),.i (0)]),(strN 83670119289167,.L (.ref 739)),(strN 11440727,.L (.ref 746)),(strN 449708963039335570,.L (.ref 753)),(strN 1346113224515140179654,.L (.ref 725)),(strN 1564821732979397040111,.L (.ref 732)),(strN 2349685232878,.L (.ref 760)),(strN 35393822577439615,.i (2)),(strN 1458176449948,.L (.ref 152)),(strN 191365932749693657,.i (0)),(strN 1799941382065424,.i (1)),(strN 2959307847315076,.i (3)),(strN 50416839721267,.i (10001)),(strN 201496972226615212,.i (100000000)),(strN 22851167599380730826,.L (.ref 779)),(strN 27674798102,.L (.ref 786)),(strN 79544914373199140111726,.L (.ref 793)),(strN 86418013973778507545180,.L (.ref 800)),(strN 37041107397,.bC .s),(strN 82067,.L (.ref 679)),(strN 3746344599542120679778074,.L (.ref 711)),(strN 5852840581781415,.L (.ref 774)),(strN 252760882,.L (.ref 700)),(strN 628010329,.L (.ref 767)),(strN 2344223127054,.L (.ref 807)),(strN 34820518320,.L (.ref 814)),(strN 7158779109227470,.L (.ref 821)),(strN 14878799175,.L (.ref 297)),(strN 1264434,.i (0)),(strN 148542358,.i (1)),(strN 244220490,.i (2)),(strN 38261538052475,.i (3)),(strN 13684271329,.i (2)),(strN 124213731136031,.L (.ref 850)),(strN 2840314411397016,.i (1)),(strN 765521775,.i (11)),(strN 6607882433,.i (10)),(strN 2674481,.i (9)),(strN 13781153747,.i (1)),(strN 228073655232,.i (0)),(strN 128519465338334,.L (.ref 857)),(strN 555124251,.L (.ref 864)),(strN 1404496104968998354986,.L (.ref 843)),(strN 5844777486893021,.L (.ref 871)),(strN 9791,.L (.ref 349)),(strN 2178296005458,.L (.ref 878)),(strN 4054351,.L (.ref 413)),(strN 1774676269943003,.i (5)),(strN 157273171356955862,.i (6)),(strN 494669613,.L (.ref 886)),(strN 24824730684578238507,.L (.ref 897)),(strN 5105921819600720498208852,.L (.ref 904)),(strN 48882872705615,.L (.ref 658)),(strN 4662675895947931,.L (.ref 925)),(strN 4662675895777255,.L (.ref 939)),(strN 238562761,.L (.ref 637)),(strN 79028404950097,.L (.ref 960)),(strN 2390962,.L (.ref 391)),(strN 3883948,.L (.ref 370)),(strN 4662675895962637,.L (.ref 981)),(strN 967281,.L (.ref 455)),(strN 2787793,.L (.ref 476)),(strN 7002323425,.L (.ref 497)),(strN 1159962767,.L (.ref 518)),(strN 701905069721,.L (.ref 434)),(strN 836202180865,.L (.ref 560)),(strN 4662675893316885,.L (.ref 974)),(strN 4662675892690185,.L (.ref 988)),(strN 33782088825337,.L (.ref 539)),(strN 4662675896613214,.L (.ref 967)),(strN 957615712637398015061,.L (.ref 995)),(strN 79028404970818,.L (.ref 1002)),(strN 4662675895126843,.L (.ref 1026)),(strN 25516864371,.L (.ref 828)),(strN 394788811678406834,.L (.ref 911)),(strN 4662675892505709,.L (.ref 1033)),(strN 40392741789137447690847946583682,.L (.ref 1038)),(strN 4662675895175392,.L (.ref 918)),(strN 56499327054886212441959,.L (.ref 946)),(strN 275097877850214097,.L (.ref 953)),(strN 4662675895586629,.L (.ref 1009)),(strN 275097877764776625,.L (.ref 1016)),(strN 4662675895742670,.L (.ref 932)),(strN 11603775287661392234102176476,.L (.ref 1021)),(strN 140607134167987455411856669131450116,.L (.ref 1045)),(strN 5549472358267264,.bC .e),(strN 204365,.bC .zip),(strN 612808021,.bC .r)]
noncomputable def FN:List (Nat×List (Nat×Option V)):=[(39,[]),(52,[]),(64,[]),(76,[]),(234,[(3,aa),(4,aa),(1,aa),(2,aa),(0,aa)]),(297,[(5,aa),(3,aa),(1,aa)]),(349,[(8,aa),(7,aa),(9,aa),(6,aa),(12,aa),(13,aa),(10,aa),(11,aa),(0,aa)]),(370,[(8,aa),(7,aa),(0,aa),(6,I (.i 4))]),(391,[(14,aa),(0,aa),(6,I (.i 5))]),(413,[(15,aa),(16,aa),(14,aa),(6,I (.i 6))]),(434,[(17,aa),(6,I (.i 7))]),(455,[(20,aa),(19,aa),(18,aa),(6,I (.i 8))]),(476,[(21,aa),(6,I (.i 9))]),(497,[(25,aa),(8,aa),(9,aa),(22,aa),(23,aa),(24,aa),(6,I (.i 10))]),(518,[(9,aa),(6,I (.i 11))]),(539,[(26,aa),(0,aa),(6,I (.i 12))]),(560,[(27,aa),(6,I (.i 13)),(14,I (.i 0))]),(637,[(34,aa),(32,aa),(30,aa),(31,aa),(33,aa),(0,aa)]),(658,[(40,aa),(41,aa),(44,aa),(39,aa),(42,aa),(38,aa),(45,aa),(37,aa),(43,aa),(35,aa),(46,aa),(36,aa)]),(679,[(51,aa),(50,aa),(49,aa),(48,aa),(47,aa)]),(700,[(57,aa),(55,aa),(56,aa),(54,aa),(52,aa),(53,aa)])]
noncomputable def FO:List (Nat×List (Nat×Nat)):=[(39,[]),(52,[]),(64,[]),(76,[]),(234,[(63,188)]),(297,[(59,266),(60,273),(61,280),(62,287)]),(349,[]),(370,[]),(391,[]),(413,[]),(434,[]),(455,[]),(476,[]),(497,[]),(518,[]),(539,[]),(560,[]),(637,[(58,627),(48,634)]),(658,[]),(679,[]),(700,[])]
noncomputable def qo{aK:Type}:List (Nat×aK)->Nat->Option aK
 |[],_=>aa
 |(m,a)::r,n=>match ie m n with|true=>I a|false=>qo r n
def a8:c9:=⟨λC n=>(qo FN C).bind λl=>qo l n,λC n=>(qo FO C).bind λl=>qo l n⟩
def aH(n:Nat):Str:=match names[n]? with|some s=>s|none=>⟨#[2000000+n]⟩
def ck:Ck:=⟨aH,qZ⟩
structure Fn where
 iq:Nat
 BL:List Nat
 ps:List bg
 il:List V
structure qq where
 e:Fn
 vw:bV
 ir:Ss
noncomputable def M9:Nat->List bg->bV
 |_,[]=>[]
 |i,n::r=>(i,n)::M9 (i+1) r
def b9(a:Nat)(p:List Nat)(m:Nat)(ns:List bg)(il:List V)(ir:Ss):qq:=⟨⟨a,p,ns.take m,il⟩,M9 0 ns,ir⟩
def vE:List qq:=[b9 89 [12] 3 (strL [661271329,155992,8360222]) [] LD,b9 96 [13] 1 (strL [661271329]) [] LG,b9 103 [14] 1 (strL [661271329]) [] LH,b9 110 [15] 1 (strL [661271329]) [] LI,b9 152 [23] 2 (strL [27138091401,639938588,612829035]) [] LJ,b9 181 [26,0] 6 (strL [10605760,675003818,2188996929429,92333058621848379986724,36956248117,1558834266967003969732]) [] zg,b9 181 [26,0] 6 (strL [10605760,675003818,2188996929429,92333058621848379986724,36956248117,1558834266967003969732]) [.i 0,.i 0,.i 0,.i 0,.i 0] zg,b9 188 [26,1] 1 (strL [10605760]) [] LK,b9 245 [27] 1 (strL [10661528,579912466]) [] LL,b9 259 [28,0] 1 (strL [10605760]) [] LM,b9 266 [28,1] 2 (strL [10605760,8166109]) [] Fy,b9 273 [28,2] 2 (strL [10605760,675003818]) [] LN,b9 280 [28,3] 1 (strL [10605760]) [] LO,b9 287 [28,4] 1 (strL [10605760]) [] LP,b9 332 [36] 1 (strL [507623012,9613202]) [] LS,b9 346 [37,0] 6 (strL [10605760,8976768,675003818,29053873027,443994215,507623012]) [] LU,b9 367 [38,1] 4 (strL [10605760,675003818,29053873027,443994215,10620509]) [] LX,b9 388 [39,1] 3 (strL [10605760,675003818,10640938]) [] LY,b9 410 [40,1] 4 (strL [10605760,8166109,10640938,31911916569]) [] zh,b9 410 [40,1] 4 (strL [10605760,8166109,10640938,31911916569]) [.n] zh,b9 431 [41,1] 2 (strL [10605760,661271329]) [] LZ,b9 452 [42,1] 4 (strL [10605760,170075,10024860,32675926849]) [] L0,b9 473 [43,1] 2 (strL [10605760,37754542374]) [] L1,b9 494 [44,1] 7 (strL [10605760,33538100529,10620509,443994215,183833,7354933,507623012]) [] L2,b9 515 [45,1] 2 (strL [10605760,507623012]) [] L3,b9 536 [46,1] 3 (strL [10605760,507396860,675003818]) [] L4,b9 557 [47,2] 2 (strL [10605760,34036361312,576887479]) [] L5,b9 569 [48] 1 (strL [9613202,8976768]) [] L6,b9 574 [49] 1 (strL [9613202,8976768]) [] L7,b9 579 [50] 1 (strL [9613202,8976768]) [] L8,b9 586 [51] 1 (strL [9613202]) [] L9,b9 593 [52] 1 (strL [9613202]) [] Ma,b9 620 [60,0] 6 (strL [10605760,675003818,20737401589052338677,351481382766767655,10435853,7560002]) [] BD,b9 620 [60,0] 6 (strL [10605760,675003818,20737401589052338677,351481382766767655,10435853,7560002]) [.i 0,.i 1,.aV [],.i 0] BD,b9 627 [60,1] 1 (strL [10605760]) [] Mb,b9 634 [60,2] 2 (strL [10605760,33538100529,1766247059127]) [] Mc,b9 655 [61,0] 1 (strL [10605760]) [] Md,b9 676 [62,0] 6 (strL [10605760,10644242,9182148,134749,91184763548803,24763739519]) [] Me,b9 697 [63,0] 6 (strL [10605760,128519720219823,626318313,9408723,28497755767,1766247811331]) [] Mf,b9 711 [64] 1 (strL [128519720219823,661271329]) [] Mg,b9 718 [65] 1 (strL [9613202]) [] Mh,b9 725 [66] 2 (strL [507623012,128519720219823,470299774,158649,6148301528174955,590786979,9613202,8976768,2051682146233,10640938]) [] Mi,b9 732 [67] 2 (strL [507623012,590786979]) [] Mj,b9 739 [68] 2 (strL [176878,8166109]) [] Mk,b9 746 [69] 1 (strL [507623012,470299774,9613202]) [] gu,b9 753 [70] 1 (strL [507623012,176878,470299774,9613202]) [] Mm,b9 760 [71] 2 (strL [10661528,9408649]) [] Mn,b9 767 [72] 2 (strL [507623012,128519720219823,10661528,470299774,590786979,2051682146233,10640938,628782994,419727521,131547]) [] rL,b9 774 [73] 2 (strL [128519720219823,460027576,176878]) [] Mo,b9 779 [74] 3 (strL [419727521,131547,28497755767]) [] Mp,b9 786 [75] 2 (strL [675003818,10661528,626367180,120337]) [] cA,b9 793 [76] 3 (strL [128519720219823,120337,2051682146233,7354933,470299774]) [] FD,b9 800 [77] 4 (strL [128519720219823,104208722289979,29936379966,409848980,470299774]) [] FE,b9 807 [78] 4 (strL [640516434,10644242,24027435154,29936379966,590786979,2051682146233,10640938,131547,128519720219823,8962978,7114744,540880841,33538100529,193459,9182148,10661528,120337,134749,6148312969244046,91184763548803,104208722289979,483012811,166239]) [] Mr,b9 814 [79] 2 (strL [11414132,6579525278518641,7114744,193459,470299774,409848980,134275,6148310105859702]) [] g7,b9 821 [80] 1 (strL [193459,470299774]) [] Mv,b9 828 [81] 6 (strL [507623012,128519720219823,626318313,7754032383698237,460027576,1766247811331,28497755767,640516434,24027435154,10644242,470299774,409848980]) [] choose,b9 843 [85] 1 (strL [507623012,37756376743,29053873027,443994215,9613202]) [] Mx,b9 850 [86] 2 (strL [3175,7560542]) [] My,b9 857 [87] 2 (strL [37756376743,27138091401,579912466,639938588,36204582108]) [] BH,b9 864 [88] 1 (strL [507623012,8962978,166786,9613202]) [] MA,b9 871 [89] 3 (strL [166898,9407823,24147623184]) [] MB,b9 878 [90] 3 (strL [121183,37756376743,27138091401,36204582108]) [] MC,b9 886 [91] 4 (strL [507623012,9407823,24147623184,2021016790957,8962978,166786,37756376743,29053873027,443994215,675003818,121183]) [] MD,b9 897 [94] 4 (strL [9182148,128519720219823,29876820072,675003818,470299774,2021016790957,121183,36204582108]) [] FF,b9 904 [95] 4 (strL [33538100529,9359699,29936373433,7141905550983611,362068035382641859,7344590,675003538,24923098941,470299774]) [] BI,b9 911 [96] 5 (strL [507623012,34856431812,128519720219823,626318313,7141905550983611,470299774,628782994,408218853,33538100529,590786979,29936373433,9182148,29876820072,675003818,121183,2021016790957,36204582108]) [] ME,b9 918 [98] 1 (strL [36895661439,674836255,7319702,9976067]) [] FG,b9 925 [99] 2 (strL [10024616,9359699,444783765]) [] MF,b9 932 [100] 2 (strL [166358,580337148,10821418,10820947]) [] MH,b9 939 [101] 1 (strL [588588004]) [] MI,b9 946 [102] 2 (strL [10024616,1766246637393,470299774]) [] FH,b9 953 [103] 3 (strL [10024616,1766246637393,10620509,193459,7560002]) [] MJ,b9 960 [104] 6 (strL [10435853,9613202,628783406,540880841,7354933,637899850]) [] MK,b9 967 [105] 3 (strL [10024616,10435853,10435375,10620509,193459,10640938,8963090,2010039279764,9613202]) [] zi,b9 974 [106] 3 (strL [10024616,10435853,7354933,675003818,2188996929429,579912466,36956248117,31911916569]) [] FI,b9 981 [107] 1 (strL [10024616,193459]) [] ML,b9 988 [108] 3 (strL [10024616,10435853,128519720219823,408218853,24764129154,32675926849,7354933]) [] FK,b9 995 [109] 1 (strL [10024616,193459]) [] MM,b9 1002 [110] 4 (strL [10024616,10435853,128519720219823,10435375,193459,661271329]) [] MN,b9 1009 [111] 4 (strL [10024616,128519720219823,10435375,104208707113719,10435853,9408649,10867197,193459]) [] xq,b9 1016 [112] 4 (strL [10435853,28497755767,1999,590786979,469057368,470299774,637899850,176878]) [] zj,b9 1021 [113] 3 (strL [10845947,24160568490,541746783,540900657,433941098,27138091401,1999,590786979,9182148,506421594]) [] MU,b9 1026 [114] 3 (strL [10435853,1999,590786979,470299774,469057368,165887]) [] zk,b9 1033 [115] 3 (strL [10845947,541746783,7761324,470299774,9182148,409075947,590786979,7354933]) [] M1,b9 1038 [116] 4 (strL [10845947,1999,7761324,541746783,626318313,9976067,165887,409075947,128480]) [] M4,b9 1045 [117] 3 (strL [10845947,24160568490,541746783,1999,7761324,10605355,590786979,9182148]) [] M6,b9 1050 [118] 1 (strL [36895661439,10024616,1766246637393,128519720219823,444783765,10620509,626318313,7754032383698237,460027576,28497755767,10435853,540900657,433941098,27138091401,1999,590786979,10845947,29936383168,567178969,481187821,32675926849,9154610,541746783]) [] qn]
def jK:List Fn:=vE.map qq.e
noncomputable def BM:List (Nat×Nat):=[(234,181),(297,259),(349,346),(370,367),(391,388),(413,410),(434,431),(455,452),(476,473),(497,494),(518,515),(539,536),(560,557),(637,620),(658,655),(679,676),(700,697)]
end IR
end
section
noncomputable def BN:List gL->Nat->gL
 |[],_=>.Pass ⟨0,0,0,0⟩
 |s::_,0=>s
 |_::r,n+1=>BN r n
noncomputable def sT:gL->List gL
 |.FunctionDef _ _ body .. =>body
 |.ClassDef _ _ _ body .. =>body
 |_=>[]
def nD(p:uX):List Nat->gL
 |[i]=>BN p.main.body i
 |[i,j]=>BN (sT (BN p.main.body i)) j
 |_=>.Pass ⟨0,0,0,0⟩
noncomputable def nE:gL->bN
 |.FunctionDef (scope:=Y) .. =>Y
 |_=>jJ
end
section
open PyProof.Rows PySem.Calls
section
open IR
structure Top(X:Cx):Prop where
 ok:X.OK
 ck:ma X=IR.ck
 a8:X.a8=IR.a8
 kX:∀e∈IR.jK,Er X e.iq e.ps e.il (nE (nD FP e.BL)) (sT (nD FP e.BL))
 cls:∀p∈IR.BM,Kc X p.1 p.2
noncomputable def BO:List bg->Bool
 |[]=>ai
 |n::ns=> !(ns.any λm=>l9 n m)&&BO ns
theorem Na:∀{l:List bg},BO l=ai->l.Nodup:=by
 intro a;induction a with
 |nil=>exactλ_=>.nil
 |cons n ns b=>exactλh=>List.nodup_cons.mpr ⟨λc=>List.any_eq_false.mp (nB (aq h).1) n c (Bs n),b (aq h).2⟩
def IR.qq.f(r:qq):Stmt:=nD FP r.e.BL
def IR.qq.ok(r:qq):Bool:=((E9 r.vw&&t9 IR.ck (nE r.f) r.vw r.ir (sT r.f))&&(A4 r.vw r.e.ps&&BO r.e.ps))&&((nE r.f).names.all (λx=>x.2 !=.free)&&(((nE r.f).names.all λx=>x.2 !=.cell)||r.e.il.isEmpty))
theorem Y5:vE.map qq.e=IR.jK:=rfl
theorem Y6:(vE.all qq.ok)=true:=by kernel_rfl
theorem Y7:vE.map (λr=>t7 IR.ck.aH r.ir (sT r.f))=vE.map (λr=>sT r.f):=by kernel_rfl
variable{X:Cx}{k:Nat}{G:J}{Q:V->J->Prop}{vs:List V}
structure lD(Q:V->J->Prop)(v:V)(G:J):Prop where
 bB:∃ae,J.le ae G/\Q v ae
theorem ret(h:Q v G):lD Q v G:=⟨G,.r G,h⟩
theorem pg(l:J.le ae G)(h:Q v ae):lD Q v G:=⟨ae,l,h⟩
def fS(Q:V->J->Prop)(fl:Fl)(_:ay)(G:J):Prop:=lD Q (JT fl) G
def ud(X:Cx)(k:Nat)(ir:Ss)(vs:List V)(gE:Nat)(G:J)(Q:V->J->Prop):Prop:=bK IR.a8 (aB X k) ir (oZ vs gE) G (fS Q)
theorem Y8:∀{l:List aK},l.isEmpty=ai->l=[]
 |[],_=>rfl
theorem BP(T:Top X){i:Nat}{r:qq}(hr:vE[i]?=I r){m gE:Nat}(ax:m+r.e.il.length=r.e.ps.length)(hn:vs.length=m)(aj:ud X k r.ir (vs++r.e.il) gE G Q):aB X (k+1) (.L (.ref r.e.iq)) vs G Q:=by
 have hi:=fJ hr;have h:=List.all_eq_true.mp Y6 r hi;have hs:=k6 (X:=X) (k:=k) (K5 (aq (aq (aq h).1).1).1) r.ir (by rw[T.ck];exact(aq (aq (aq h).1).1).2);rw[show X.aH=IR.ck.aH from congrArg Ck.aH T.ck,List.map_inj_left.mp Y7 r hi,T.a8]at hs;subst hn;exact Wr T.ok (T.kX r.e (Y5▸FQ hi)) (aq (aq (aq h).1).2).1 (Na (aq (aq (aq h).1).2).2) (aq (aq h).2).1 ((qk (aq (aq h).2).2).imp id Y8) hs ax
  ((congrArg (bK IR.a8 (aB X k) r.ir (oZ (vs++r.e.il) gE) G) (funext λfl=>funext λ_=>funext λaS=>propext ⟨λh=>h.bB,λh=>⟨h⟩⟩)).mp aj)
theorem cn(T:Top X){i:Nat}{r:qq}(hr:vE[i]?=I r){m gE:Nat}(ax:m=r.e.ps.length)(cQ:r.e.il=[])(hn:vs.length=m)(aj:ud X k r.ir vs gE G Q):aB X (k+1) (.L (.ref r.e.iq)) vs G Q:=BP T hr (m:=m) (by rw[cQ];exact ax) hn (by rw[cQ,dZ];exact aj)
end
end
section
variable{X:Cx}{k:Nat}{G:J}{Q:V->J->Prop}{vs:List V}
noncomputable abbrev KS(X:Cx)(f:Ss)(n l a:Nat):Prop:=∀{k:Nat} {G:J} {Q:V->J->Prop} {vs:List V},vs.length=n->ud X k f vs l G Q->aB X (k+1) (.L (.ref a)) vs G Q
theorem Y9(T:Top X):KS X IR.LD 3 0 89:=λh w=>cn T (i:=0) rfl rfl rfl h w
theorem Za(T:Top X):KS X IR.LG 1 0 96:=λh w=>cn T (i:=1) rfl rfl rfl h w
theorem Zb(T:Top X):KS X IR.LH 1 0 103:=λh w=>cn T (i:=2) rfl rfl rfl h w
theorem Zc(T:Top X):KS X IR.LI 1 0 110:=λh w=>cn T (i:=3) rfl rfl rfl h w
theorem Zd(T:Top X):KS X IR.LJ 2 1 152:=λh w=>cn T (i:=4) rfl rfl rfl h w
theorem Ze(T:Top X):KS X IR.zg 6 0 181:=λh w=>cn T (i:=5) rfl rfl rfl h w
theorem Zf(T:Top X)(hn:vs.length=1)(aj:ud X k IR.zg (vs++[.i 0,.i 0,.i 0,.i 0,.i 0]) 0 G Q):aB X (k+1) (.L (.ref 181)) vs G Q:=BP T (i:=6) rfl rfl hn aj
theorem Zg(T:Top X):KS X IR.LK 1 0 188:=λh w=>cn T (i:=7) rfl rfl rfl h w
theorem Zh(T:Top X):KS X IR.LL 1 1 245:=λh w=>cn T (i:=8) rfl rfl rfl h w
theorem Zi(T:Top X):KS X IR.LM 1 0 259:=λh w=>cn T (i:=9) rfl rfl rfl h w
theorem Zj(T:Top X):KS X IR.Fy 2 0 266:=λh w=>cn T (i:=10) rfl rfl rfl h w
theorem Zk(T:Top X):KS X IR.LN 2 0 273:=λh w=>cn T (i:=11) rfl rfl rfl h w
theorem Zl(T:Top X):KS X IR.LO 1 0 280:=λh w=>cn T (i:=12) rfl rfl rfl h w
theorem Zm(T:Top X):KS X IR.LP 1 0 287:=λh w=>cn T (i:=13) rfl rfl rfl h w
theorem Zn(T:Top X):KS X IR.LS 1 1 332:=λh w=>cn T (i:=14) rfl rfl rfl h w
theorem Nb(T:Top X):KS X IR.LU 6 0 346:=λh w=>cn T (i:=15) rfl rfl rfl h w
theorem Zo(T:Top X):KS X IR.LX 4 1 367:=λh w=>cn T (i:=16) rfl rfl rfl h w
theorem Zp(T:Top X):KS X IR.LY 3 0 388:=λh w=>cn T (i:=17) rfl rfl rfl h w
theorem Nc(T:Top X):KS X IR.zh 4 0 410:=λh w=>cn T (i:=18) rfl rfl rfl h w
theorem Zq(T:Top X)(hn:vs.length=3)(aj:ud X k IR.zh (vs++[.n]) 0 G Q):aB X (k+1) (.L (.ref 410)) vs G Q:=BP T (i:=19) rfl rfl hn aj
theorem Zr(T:Top X):KS X IR.LZ 2 0 431:=λh w=>cn T (i:=20) rfl rfl rfl h w
theorem Zs(T:Top X):KS X IR.L0 4 0 452:=λh w=>cn T (i:=21) rfl rfl rfl h w
theorem Zt(T:Top X):KS X IR.L1 2 0 473:=λh w=>cn T (i:=22) rfl rfl rfl h w
theorem Zu(T:Top X):KS X IR.L2 7 0 494:=λh w=>cn T (i:=23) rfl rfl rfl h w
theorem Zv(T:Top X):KS X IR.L3 2 0 515:=λh w=>cn T (i:=24) rfl rfl rfl h w
theorem Zw(T:Top X):KS X IR.L4 3 0 536:=λh w=>cn T (i:=25) rfl rfl rfl h w
theorem Zx(T:Top X):KS X IR.L5 2 1 557:=λh w=>cn T (i:=26) rfl rfl rfl h w
theorem FR(T:Top X):KS X IR.L6 1 2 569:=λh w=>cn T (i:=27) rfl rfl rfl h w
theorem xr(T:Top X):KS X IR.L7 1 2 574:=λh w=>cn T (i:=28) rfl rfl rfl h w
theorem xt(T:Top X):KS X IR.L8 1 2 579:=λh w=>cn T (i:=29) rfl rfl rfl h w
theorem BQ(T:Top X):KS X IR.L9 1 0 586:=λh w=>cn T (i:=30) rfl rfl rfl h w
theorem BR(T:Top X):KS X IR.Ma 1 0 593:=λh w=>cn T (i:=31) rfl rfl rfl h w
theorem Zy(T:Top X):KS X IR.BD 6 2 620:=λh w=>cn T (i:=32) rfl rfl rfl h w
theorem Zz(T:Top X)(hn:vs.length=2)(aj:ud X k IR.BD (vs++[.i 0,.i 1,.aV [],.i 0]) 2 G Q):aB X (k+1) (.L (.ref 620)) vs G Q:=BP T (i:=33) rfl rfl hn aj
theorem ZA(T:Top X):KS X IR.Mb 1 0 627:=λh w=>cn T (i:=34) rfl rfl rfl h w
theorem ZC(T:Top X):KS X IR.Mc 2 1 634:=λh w=>cn T (i:=35) rfl rfl rfl h w
theorem ZD(T:Top X):KS X IR.Md 1 0 655:=λh w=>cn T (i:=36) rfl rfl rfl h w
theorem ZE(T:Top X):KS X IR.Me 6 0 676:=λh w=>cn T (i:=37) rfl rfl rfl h w
theorem ZF(T:Top X):KS X IR.Mf 6 0 697:=λh w=>cn T (i:=38) rfl rfl rfl h w
theorem ZG(T:Top X):KS X IR.Mg 1 1 711:=λh w=>cn T (i:=39) rfl rfl rfl h w
theorem ZH(T:Top X):KS X IR.Mh 1 0 718:=λh w=>cn T (i:=40) rfl rfl rfl h w
theorem ZI(T:Top X):KS X IR.Mi 2 8 725:=λh w=>cn T (i:=41) rfl rfl rfl h w
theorem ZJ(T:Top X):KS X IR.Mj 2 0 732:=λh w=>cn T (i:=42) rfl rfl rfl h w
theorem ZK(T:Top X):KS X IR.Mk 2 0 739:=λh w=>cn T (i:=43) rfl rfl rfl h w
theorem ZL(T:Top X):KS X IR.gu 1 2 746:=λh w=>cn T (i:=44) rfl rfl rfl h w
theorem ZM(T:Top X):KS X IR.Mm 1 3 753:=λh w=>cn T (i:=45) rfl rfl rfl h w
theorem ZN(T:Top X):KS X IR.Mn 2 0 760:=λh w=>cn T (i:=46) rfl rfl rfl h w
theorem ZO(T:Top X):KS X IR.rL 2 8 767:=λh w=>cn T (i:=47) rfl rfl rfl h w
theorem ZP(T:Top X):KS X IR.Mo 2 1 774:=λh w=>cn T (i:=48) rfl rfl rfl h w
theorem ZQ(T:Top X):KS X IR.Mp 3 1 779:=λh w=>cn T (i:=49) rfl rfl rfl h w
theorem ZR(T:Top X):KS X IR.cA 2 2 786:=λh w=>cn T (i:=50) rfl rfl rfl h w
theorem ZS(T:Top X):KS X IR.FD 3 2 793:=λh w=>cn T (i:=51) rfl rfl rfl h w
theorem ZT(T:Top X):KS X IR.FE 4 1 800:=λh w=>cn T (i:=52) rfl rfl rfl h w
theorem ZU(T:Top X):KS X IR.Mr 4 19 807:=λh w=>cn T (i:=53) rfl rfl rfl h w
theorem ZV(T:Top X):KS X IR.g7 2 6 814:=λh w=>cn T (i:=54) rfl rfl rfl h w
theorem ZW(T:Top X):KS X IR.Mv 1 1 821:=λh w=>cn T (i:=55) rfl rfl rfl h w
theorem ZX(T:Top X):KS X IR.choose 6 6 828:=λh w=>cn T (i:=56) rfl rfl rfl h w
theorem ZY(T:Top X):KS X IR.Mx 1 4 843:=λh w=>cn T (i:=57) rfl rfl rfl h w
theorem ZZ(T:Top X):KS X IR.My 2 0 850:=λh w=>cn T (i:=58) rfl rfl rfl h w
theorem Z0(T:Top X):KS X IR.BH 2 3 857:=λh w=>cn T (i:=59) rfl rfl rfl h w
theorem Z1(T:Top X):KS X IR.MA 1 3 864:=λh w=>cn T (i:=60) rfl rfl rfl h w
theorem Z2(T:Top X):KS X IR.MB 3 0 871:=λh w=>cn T (i:=61) rfl rfl rfl h w
theorem Z3(T:Top X):KS X IR.MC 3 1 878:=λh w=>cn T (i:=62) rfl rfl rfl h w
theorem Z4(T:Top X):KS X IR.MD 4 7 886:=λh w=>cn T (i:=63) rfl rfl rfl h w
theorem Z5(T:Top X):KS X IR.FF 4 4 897:=λh w=>cn T (i:=64) rfl rfl rfl h w
theorem Z6(T:Top X):KS X IR.BI 4 5 904:=λh w=>cn T (i:=65) rfl rfl rfl h w
theorem Z7(T:Top X):KS X IR.ME 5 12 911:=λh w=>cn T (i:=66) rfl rfl rfl h w
theorem Z8(T:Top X):KS X IR.FG 1 3 918:=λh w=>cn T (i:=67) rfl rfl rfl h w
theorem Z9(T:Top X):KS X IR.MF 2 1 925:=λh w=>cn T (i:=68) rfl rfl rfl h w
theorem aa0(T:Top X):KS X IR.MH 2 2 932:=λh w=>cn T (i:=69) rfl rfl rfl h w
theorem aa1(T:Top X):KS X IR.MI 1 0 939:=λh w=>cn T (i:=70) rfl rfl rfl h w
theorem aa2(T:Top X):KS X IR.FH 2 1 946:=λh w=>cn T (i:=71) rfl rfl rfl h w
theorem aa3(T:Top X):KS X IR.MJ 3 2 953:=λh w=>cn T (i:=72) rfl rfl rfl h w
theorem aa4(T:Top X):KS X IR.MK 6 0 960:=λh w=>cn T (i:=73) rfl rfl rfl h w
theorem aa5(T:Top X):KS X IR.zi 3 6 967:=λh w=>cn T (i:=74) rfl rfl rfl h w
theorem aa6(T:Top X):KS X IR.FI 3 5 974:=λh w=>cn T (i:=75) rfl rfl rfl h w
theorem aa7(T:Top X):KS X IR.ML 1 1 981:=λh w=>cn T (i:=76) rfl rfl rfl h w
theorem aa8(T:Top X):KS X IR.FK 3 4 988:=λh w=>cn T (i:=77) rfl rfl rfl h w
theorem aa9(T:Top X):KS X IR.MM 1 1 995:=λh w=>cn T (i:=78) rfl rfl rfl h w
theorem ab0(T:Top X):KS X IR.MN 4 2 1002:=λh w=>cn T (i:=79) rfl rfl rfl h w
theorem ab1(T:Top X):KS X IR.xq 4 4 1009:=λh w=>cn T (i:=80) rfl rfl rfl h w
theorem ab2(T:Top X):KS X IR.zj 4 4 1016:=λh w=>cn T (i:=81) rfl rfl rfl h w
theorem ab3(T:Top X):KS X IR.MU 3 10 1021:=λh w=>cn T (i:=82) rfl rfl rfl h w
theorem ab4(T:Top X):KS X IR.zk 3 4 1026:=λh w=>cn T (i:=83) rfl rfl rfl h w
theorem ab5(T:Top X):KS X IR.M1 3 5 1033:=λh w=>cn T (i:=84) rfl rfl rfl h w
theorem ab6(T:Top X):KS X IR.M4 4 6 1038:=λh w=>cn T (i:=85) rfl rfl rfl h w
theorem ab7(T:Top X):KS X IR.M6 3 5 1045:=λh w=>cn T (i:=86) rfl rfl rfl h w
theorem ab8(T:Top X):KS X IR.qn 1 26 1050:=λh w=>cn T (i:=87) rfl rfl rfl h w
end
section
variable{X:Cx}{k:Nat}{G ae:J}{Q:V->J->Prop}{vs:List V}
theorem bF(hb:b=ai)(h:A):jB b A B:=⟨λ_=>h,λe=>(by rw[hb]at e;cases e)⟩
theorem aZ(hb:b=ak)(h:B):jB b A B:=⟨λe=>(by rw[hb]at e;cases e),λ_=>h⟩
theorem cv[Decidable p](h1:p->A)(h2:¬p->B):jB (a6 p) A B:=⟨λe=>h1 (of_decide_eq_true e),λe=>h2 (of_decide_eq_false e)⟩
theorem mM[Decidable p](h1:¬p->A)(h2:p->B):jB (!a6 p) A B:=⟨λe=>h1 (by simpa using e),λe=>h2 (by simpa using e)⟩
theorem iW[Decidable p](hp:p)(h:A):jB (a6 p) A B:=bF (decide_eq_true hp) h
theorem eN[Decidable p](hp:¬p)(h:B):jB (a6 p) A B:=aZ (decide_eq_false hp) h
theorem ab9[Decidable p](hp:¬p)(h:A):jB (!a6 p) A B:=bF (by simpa using hp) h
theorem BS[Decidable p](hp:p)(h:B):jB (!a6 p) A B:=aZ (by simpa using hp) h
theorem cz{aK:Type}{x:Option aK}{a:aK}{Q:aK->Prop}(h:x=I a)(q:Q a):Rd x Q:=⟨by rw[h];exact q⟩
theorem J.BU:(G.s a o).s a p=G.s a p:=by funext b;simp only[J.s];split<;>rfl
theorem J.ac0(h:G a=aa):(G.s a o).cT a=G:=by
 funext b;simp only[J.s,J.cT];split
 .rename_i e;subst e;exact h.symm
 .rfl
theorem b7{T:c9}{a C dx n:Nat}{v:V}{ns:List Nat}{ao:List V}{R:J->Prop}(hc:(T.tH C n).isSome=ai)(hl:Nat.blt ns.length 100=ai)(h:R (G.s dx (.eE (putN ns n) (lT ns ao n v)))):n4 T (.o a C dx) n v (G.s dx (.eE ns ao)) R:=by refine⟨cz (a:=(ns,ao)) (by unfold AA;rw[J.bY];rfl) ⟨⟨hc,by simpa using hl⟩,?_⟩⟩;rw[J.BU];exact h
theorem ac1(aF:G dx=aa)(h:Q (.eS a C ns ao) G):vn a C dx Q (G.s dx (.eE ns ao)):=.inr ⟨ns,ao,J.bY,by rw[J.ac0 aF];exact h⟩
theorem jZ(aF:G dx=aa)(h:Q (.eS a C ns ao) G):lD (λv aS=>v=.n/\vn a C dx Q aS) .n (G.s dx (.eE ns ao)):=ret ⟨rfl,ac1 aF h⟩
theorem jL(T:Top X)(ax:(C,fI)∈IR.BM)(h:∀a dx,G dx=aa->aB X k (.L (.ref fI)) (.o a C dx::vs) (G.s dx (.eE [] [])) λv aS=>v=.n/\vn a C dx Q aS):aB X (k+1) (.L (.ref C)) vs G Q:=Wz T.ok (T.cls (C,fI) ax) h
abbrev hY(v:Int):Prop:=-1073741823<=v/\v<=1073741823
abbrev zl(v:Int):Prop:=-2147483647<=v/\v<=2147483647
theorem Nf(T:Top X)(h:Q (.b (a6 (oe<=v/\v<=hi))) G):aB X (k+1) (.L (.ref 89)) [.i v,.i oe,.i hi] G Q:=by
 refine Y9 T rfl ?_;refine bF rfl (bF rfl (cv (λa=>ret ?_) λa=>ret ?_))
 .rw[show a6 (oe<=v/\v<=hi)=a6 (v<=hi)from decide_eq_decide.mpr ⟨And.right,And.intro a⟩]at h;exact h
 .rw[decide_eq_false (λe=>a e.1)]at h;exact h
theorem oo(T:Top X)(hv:oe<=v/\v<=hi)(h:Q (.b ai) G):aB X (k+1) (.L (.ref 89)) [.i v,.i oe,.i hi] G Q:=Nf T (by rw[decide_eq_true hv];exact h)
theorem Ng(T:Top X)(h:Q (.i v) G):aB X (k+1) (.L (.ref 96)) [.i v] G Q:=by refine Za T rfl ?_;refine aZ rfl (aZ rfl (ret h))
theorem nF(T:Top X)(hv:zl v)(h:Q (.i v) G):aB X (k+2) (.L (.ref 103)) [.i v] G Q:=by refine Zb T rfl ?_;refine Ng T (iW hv.1 (BS hv.2 (ret h)))
theorem iX(T:Top X)(hv:hY v)(h:Q (.i v) G):aB X (k+2) (.L (.ref 110)) [.i v] G Q:=by refine Zc T rfl ?_;refine Ng T (iW hv.1 (BS hv.2 (ret h)))
theorem kF(h1:-(2^64)<x)(h2:x<2^64):wH x y:=⟨IntMulOk.of_left (intBits_le_64 h1 h2)⟩
theorem FT(h1:-(2^64)<y)(h2:y<2^64):wH x y:=⟨IntMulOk.of_right (intBits_le_64 h1 h2)⟩
theorem xu(cQ:y≠0)(h1:-(2^64)<y)(h2:y<2^64):DL y:=⟨cQ,by exact(O [_] [] (.i (.t (.k (-2^64)) .x) (.i (.t .x (.k (2^64))) (.U (.n .x) (.k (2^64)))))) h1 h2⟩
noncomputable def vF(e t:Int):Int:=if e<=7230584 then(e*297).fdiv t else if 1663497<=t then e.fdiv (t.fdiv 297)else e
noncomputable def zm(r:Int):Int:=if 1290<r then 10000 else(r*r*r+131072).fdiv 262144
def k7(e t:Int):Int:=if e=0 then 0 else if t<=0 then 10000 else zm (vF e t)
theorem xw(x:Int){k:Int}(hk:0<k):k*x.fdiv k<=x/\x<k*x.fdiv k+k:=by rw[Nh _ (pU hk)];exact⟨Int.mul_ediv_self_le (Int.ne_of_gt hk),Int.lt_mul_ediv_self_add hk⟩
theorem FU{a b:Int}(h1:0<=a)(h2:0<b):0<=a.fdiv b:=by rw[Nh _ (pU h2)];exact Int.ediv_nonneg h1 (pU h2)
theorem Ni{e t:Int}(ba:0<=e)(ht:0<t):0<=vF e t:=by
 unfold vF;split
 .exact FU (by exact(O [_] [] (.i (.l 0 .x) (.i (.l .x 7230584) (.l 0 (.r .x 297))))) ba ‹_›) ht
 .split
  .exact FU ba ((O [_,_] [] (.i (.l 1663497 .x) (.i (.t .x (.p (.m 297 .y) 297)) (.t 0 .y)))) ‹1663497<=t› (xw t (by decide)).2)
  .exact ba
theorem BV(T:Top X)(ba:0<=e)(yV:e<1000000000000)(ht:t<1000000000000)(h:Q (.i (k7 e t)) G):aB X (k+1) (.L (.ref 152)) [.i e,.i t] G Q:=by
 refine Zd T rfl ?_;unfold k7 at h;refine eN (by exact(O [_] [] (.i (.l 0 .x) (.i (.t .x 1000000000000) (.n (.t .x 0))))) ba yV) (cv (λa=>?_) λa=>?_)
 .rw[if_pos a]at h;exact ret h
 rw[if_neg a]at h;refine cv (λb=>?_) λb=>?_
 .rw[if_pos b]at h;exact ret h
 rw[if_neg b]at h;have tail:∀{r:Int},r=vF e t->(1290<r->lD Q (.i 10000) G)/\(¬1290<r->wH r r/\wH (r*r) r/\DL 262144/\lD Q (.i ((r*r*r+131072).fdiv 262144)) G):=by
  intro r c;have g:0<=r:=c▸Ni ba (by exact(O [_] [] (.i (.t .x 1000000000000) (.i (.n (.l .x 0)) (.t 0 .x)))) ht b);rw[<- c]at h;unfold zm at h;refine⟨λa=>?_,λa=>⟨kF (by exact(O [_,_] [] (.i (.e .x .y) (.i (.l 0 .x) (.i (.n (.t 1290 .x)) (.t (.k (-2^64)) .x))))) c g a) (by exact(O [_,_] [] (.i (.e .x .y) (.i (.l 0 .x) (.i (.n (.t 1290 .x)) (.t .x (.k (2^64))))))) c g a),FT (by exact(O [_,_] [] (.i (.e .x .y) (.i (.l 0 .x) (.i (.n (.t 1290 .x)) (.t (.k (-2^64)) .x))))) c g a) (by exact(O [_,_] [] (.i (.e .x .y) (.i (.l 0 .x) (.i (.n (.t 1290 .x)) (.t .x (.k (2^64))))))) c g a),xu (by decide) (by decide) (by decide),?_⟩⟩
  .rw[if_pos a]at h;exact ret h
  .rw[if_neg a]at h;exact ret h
 refine cv (λd=>⟨kF (by exact(O [_] [] (.i (.l 0 .x) (.i (.t .x 1000000000000) (.i (.l .x 7230584) (.t (.k (-2^64)) .x))))) ba yV d) (by exact(O [_] [] (.i (.l 0 .x) (.i (.t .x 1000000000000) (.i (.l .x 7230584) (.t .x (.k (2^64))))))) ba yV d),xu (by exact(O [_] [] (.i (.t .x 1000000000000) (.i (.n (.l .x 0)) (.n (.e .x 0))))) ht b) (by exact(O [_] [] (.i (.t .x 1000000000000) (.i (.n (.l .x 0)) (.t (.k (-2^64)) .x)))) ht b) (by exact(O [_] [] (.i (.t .x 1000000000000) (.i (.n (.l .x 0)) (.t .x (.k (2^64)))))) ht b),?_⟩) λd=>cv (λf=>⟨xu (by decide) (by decide) (by decide),xu ?_ ?_ ?_,?_⟩) λf=>?_
 .have t:=tail (r:=(e*297).fdiv t) (by unfold vF;rw[if_pos d]);exact cv t.1 t.2
 .exact(O [_,_] [] (.i (.l 1663497 .x) (.i (.t .x (.p (.m 297 .y) 297)) (.n (.e .y 0))))) f (xw t (by decide)).2
 .exact(O [_,_] [] (.i (.l 1663497 .x) (.i (.t .x (.p (.m 297 .y) 297)) (.t (.k (-2^64)) .y)))) f (xw t (by decide)).2
 .exact(O [_,_] [] (.i (.l (.m 297 .y) .x) (.i (.t .x 1000000000000) (.t .y (.k (2^64)))))) (xw t (by decide)).1 ht
 .have t:=tail (r:=e.fdiv (t.fdiv 297)) (by unfold vF;rw[if_neg d,if_pos f]);exact cv t.1 t.2
 .have t:=tail (r:=e) (by unfold vF;rw[if_neg d,if_neg f]);exact cv t.1 t.2
noncomputable def fK(a:aC)(w s so sh qr:Int):V:=.eS a 234 [0,1,2,3,4] [.i w,.i s,.i so,.i sh,.i qr]
noncomputable def Nj(a:aC)(kd w h d:Int)(items:V):V:=.eS a 349 [6,0,7,8,9,10,11,12,13] [.i kd,.i w,.i h,.i d,items,.i 0,.i 0,.i 0,.aV [.i 0,.i 1]]
noncomputable def Nk(a:aC)(w dv:Int):V:=.eS a 391 [0,14] [.i w,.i dv]
noncomputable def FV(a:aC)(v:Int):V:=.eS a 434 [17] [.i v]
noncomputable def Nl(a:aC)(items:V):V:=.eS a 518 [9] [items]
noncomputable def Nm(a:aC)(eF:Bool)(w:Int):V:=.eS a 539 [26,0] [.b eF,.i w]
noncomputable def xx(a:aC)(BX:V)(line fL bc:Int)(BY:V):V:=.eS a 679 [47,48,49,50,51] [BX,.i line,.i fL,.i bc,BY]
noncomputable def Nn(a:aC)(t:V):V:=.eS a 476 [21] [t]
noncomputable def zo(a:aC)(w h d:V):V:=.eS a 370 [0,7,8] [w,h,d]
noncomputable def FW(a:aC)(p q m:List V):V:=.eS a 455 [18,19,20] [.l p,.l q,.l m]
noncomputable def ue(a:aC)(g:V)(so:Int)(ac2:V):V:=.eS a 413 [15,14,16] [g,.i so,ac2]
noncomputable def Np(a:aC):V:=.eS a 560 [27] [.a]
noncomputable def Nq(a:aC)(n s d:Int)(sU:V)(c:Int)(items:V):V:=.eS a 497 [22,23,8,24,25,9] [.i n,.i s,.i d,sU,.i c,items]
theorem Nr(T:Top X)(aF:G dx=aa)(aj:hY w)(hs:hY s)(pj:0<=so/\so<=3)(hsh:hY sh)(FX:0<=qr/\qr<=3)(h:Q (fK a w s (if s=0 then 0 else so) sh (if sh=0 then 0 else qr)) G):ud X (k+2) IR.zg [.o a 234 dx,.i w,.i s,.i so,.i sh,.i qr] 0 (G.s dx (.eE [] [])) (λv aS=>v=.n/\vn a 234 dx Q aS):=by
 refine oo T pj (aZ rfl ?_);refine oo T FX (aZ rfl ?_);refine iX T aj ?_;refine b7 rfl rfl ?_;refine iX T hs ?_;refine b7 rfl rfl ?_;refine mM (λe=>?_) λe=>?_
 .rw[if_neg e]at h;refine b7 rfl rfl ?_;refine iX T hsh ?_;refine b7 rfl rfl ?_;refine mM (λe=>?_) λe=>?_
  .rw[if_neg e]at h;exact b7 rfl rfl (jZ aF h)
  .rw[if_pos e]at h;exact b7 rfl rfl (jZ aF h)
 .rw[if_pos e]at h;refine b7 rfl rfl ?_;refine iX T hsh ?_;refine b7 rfl rfl ?_;refine mM (λe=>?_) λe=>?_
  .rw[if_neg e]at h;exact b7 rfl rfl (jZ aF h)
  .rw[if_pos e]at h;exact b7 rfl rfl (jZ aF h)
theorem BZ(T:Top X)(aj:hY w)(hs:hY s)(pj:0<=so/\so<=3)(hsh:hY sh)(FX:0<=qr/\qr<=3)(h:∀a,Q (fK a w s (if s=0 then 0 else so) sh (if sh=0 then 0 else qr)) G):aB X (k+4) (.L (.ref 234)) [.i w,.i s,.i so,.i sh,.i qr] G Q:=jL T (fJ (i:=0) rfl) λa b aF=>Ze T rfl (Nr T aF aj hs pj hsh FX (h a))
theorem FY(T:Top X)(h:∀a,Q (fK a 0 0 0 0 0) G):aB X (k+4) (.L (.ref 234)) [] G Q:=jL T (fJ (i:=0) rfl) λa b aF=>Zf T rfl (Nr T aF (by decide) (by decide) (by decide) (by decide) (by decide) (h a))
theorem xy(T:Top X){kd w h d:Int}{items:V}(hk:2<=kd/\kd<=3)(aj:hY w)(hh:hY h)(aF:hY d)(hq:∀a,Q (Nj a kd w h d items) G):aB X (k+4) (.L (.ref 349)) [.i kd,.i w,.i h,.i d,items] G Q:=by refine jL T (fJ (i:=2) rfl) λa dx dY=>Nb T rfl ?_;refine oo T hk (aZ rfl ?_);refine b7 rfl rfl (iX T aj (b7 rfl rfl (iX T hh (b7 rfl rfl (iX T aF (b7 rfl rfl ?_))))));exact b7 rfl rfl (b7 rfl rfl (b7 rfl rfl (b7 rfl rfl (b7 rfl rfl (jZ dY (hq a))))))
theorem B0(T:Top X)(aj:hY w)(hs:0<=so/\so<=3)(hq:∀a,Q (Nk a w so) G):aB X (k+4) (.L (.ref 391)) [.i w,.i so] G Q:=by refine jL T (fJ (i:=4) rfl) λa c b=>Zp T rfl ?_;refine oo T hs (aZ rfl ?_);exact iX T aj (b7 rfl rfl (b7 rfl rfl (jZ b (hq a))))
theorem FZ(T:Top X)(hv:zl v)(hq:∀a,Q (FV a v) G):aB X (k+4) (.L (.ref 434)) [.i v] G Q:=jL T (fJ (i:=6) rfl) λa c b=>Zr T rfl (nF T hv (b7 rfl rfl (jZ b (hq a))))
theorem ac3(T:Top X)(hq:∀a,Q (Nl a v) G):aB X (k+4) (.L (.ref 518)) [v] G Q:=by refine jL T (fJ (i:=10) rfl) λa c b=>Zv T rfl ?_;refine b7 rfl rfl ?_;exact jZ b (hq a)
theorem Nt(T:Top X)(aj:hY w)(hq:∀a,Q (Nm a b w) G):aB X (k+4) (.L (.ref 539)) [.b b,.i w] G Q:=by refine jL T (fJ (i:=11) rfl) λa d c=>Zw T rfl ?_;refine b7 rfl rfl ?_;exact iX T aj (b7 rfl rfl (jZ c (hq a)))
theorem Nu(T:Top X)(hq:∀a,Q (xx a BX line fL bc BY) G):aB X (k+4) (.L (.ref 679)) [BX,.i line,.i fL,.i bc,BY] G Q:=by refine jL T (fJ (i:=15) rfl) λa c b=>ZE T rfl ?_;refine b7 rfl rfl ?_;exact b7 rfl rfl (b7 rfl rfl (b7 rfl rfl (b7 rfl rfl (jZ b (hq a)))))
theorem ac4(T:Top X)(hq:∀a,Q (Nn a (.aV xs)) G):aB X (k+4) (.L (.ref 476)) [.l xs] G Q:=by refine jL T (fJ (i:=8) rfl) λa c b=>Zt T rfl ?_;refine b7 rfl rfl ?_;exact jZ b (hq a)
noncomputable def jv:Option Int->V
 |some i=>.i i
 |none=>.n
def B1(o:Option Int):Prop:=∀i,o=I i->hY i
theorem F1(T:Top X)(aj:B1 w)(hh:B1 h)(aF:B1 d)(hq:∀a,Q (zo a (jv w) (jv h) (jv d)) G):aB X (k+4) (.L (.ref 370)) [jv w,jv h,jv d] G Q:=by
 refine jL T (fJ (i:=3) rfl) λa c f=>Zo T rfl ?_;have step:∀(o:Option Int) (x:Option V) (R:Fl->ay->J->Prop) (b:J),B1 o->R .n [I (.o a 370 c),I (jv w),I (jv h),I (jv d),I (jv o)] b->
   bK IR.a8 (aB X (k+2)) IR.LV [I (.o a 370 c),I (jv w),I (jv h),I (jv d),I (jv o)] b R:=by
  intro o x R b g e;cases o with
  |none=>exact aZ rfl e
  |some i=>exact bF rfl (iX T (g i rfl) e)
 refine step w aa _ _ aj ?_;refine step h aa _ _ hh ?_;refine step d aa _ _ aF ?_;refine b7 rfl rfl ?_;exact b7 rfl rfl (b7 rfl rfl (jZ f (hq a)))
theorem ac5(T:Top X)(hn:0<=n/\n<=254)(hs:hY s)(aF:hY d)(hc:zl c)(hq:∀a,Q (Nq a n s d sU c items) G):aB X (k+4) (.L (.ref 497)) [.i n,.i s,.i d,sU,.i c,items] G Q:=by refine jL T (fJ (i:=9) rfl) λa e b=>Zu T rfl ?_;refine oo T hn (aZ rfl ?_);refine b7 rfl rfl (iX T hs (b7 rfl rfl (iX T aF (b7 rfl rfl (b7 rfl rfl (nF T hc (b7 rfl rfl ?_)))))));exact b7 rfl rfl (jZ b (hq a))
theorem ac6(T:Top X)(hq:∀a,Q (Np a) G):aB X (k+4) (.L (.ref 560)) [.l [.i 65]] G Q:=by refine jL T (fJ (i:=12) rfl) λa c b=>Zx T rfl ?_;refine aZ rfl ?_;refine oo T (by decide) (aZ rfl ?_);refine⟨rfl,b7 rfl rfl ?_⟩;exact jZ b (hq a)
theorem Nv(T:Top X)(dY:G dx=aa)(hs:so=0\/100<=so/\so<=199)(hq:Q (ue a g so .n) G):ud X (k+2) IR.zh [.o a 413 dx,g,.i so,.n] 0 (G.s dx (.eE [] [])) (λv aS=>v=.n/\vn a 413 dx Q aS):=by
 have b:n4 IR.a8 (.o a 413 dx) 15 g (G.s dx (.eE [] [])) λG=>n4 IR.a8 (.o a 413 dx) 14 (.i so) G λG=>n4 IR.a8 (.o a 413 dx) 16 .n G λG=>lD (λv aS=>v=.n/\vn a 413 dx Q aS) .n G:=b7 rfl rfl (b7 rfl rfl (b7 rfl rfl (jZ dY hq)))
 rcases hs with rfl|hs
 .refine oo T (by decide) (aZ rfl ?_)
  repeat refine aZ rfl ?_
  exact b
 .refine Nf T (ab9 (by exact(O [_] [] (.i (.c (.l 100 .x) (.l .x 199)) (.n (.c (.l 0 .x) (.l .x 5))))) hs) ?_);refine oo T hs (aZ rfl ?_);refine iW (by exact(O [_] [] (.i (.c (.l 100 .x) (.l .x 199)) (.l 1 .x))) hs) ?_;refine aZ (by simp;exact(O [_] [] (.i (.c (.l 100 .x) (.l .x 199)) (.t 3 .x))) hs) ?_
  repeat refine aZ rfl ?_
  exact b
theorem ac7(T:Top X)(hs:so=0\/100<=so/\so<=199)(hq:∀a,Q (ue a g so .n) G):aB X (k+4) (.L (.ref 413)) [g,.i so,.n] G Q:=jL T (fJ (i:=5) rfl) λa c b=>Nc T rfl (Nv T b hs (hq a))
theorem B2(T:Top X)(hs:so=0\/100<=so/\so<=199)(hq:∀a,Q (ue a g so .n) G):aB X (k+4) (.L (.ref 413)) [g,.i so] G Q:=jL T (fJ (i:=5) rfl) λa c b=>Zq T rfl (Nv T b hs (hq a))
theorem ac8(T:Top X)(hq:∀a,Q (ue a g 2 (zo b w h d)) G):aB X (k+4) (.L (.ref 413)) [g,.i 2,zo b w h d] G Q:=by refine jL T (fJ (i:=5) rfl) λa e c=>Nc T rfl ?_;refine oo T (by decide) (aZ rfl ?_);refine aZ rfl (bF rfl (aZ rfl (bF rfl (bF rfl (aZ rfl ?_)))));refine b7 rfl rfl ?_;exact b7 rfl rfl (b7 rfl rfl (jZ c (hq a)))
inductive Sh where
 |jM(a:aC)(kd w h d:Int)
 |r(a:aC)(w h d:Option Int)
 |iI(a:aC)(w so:Int)
inductive Nd where
 |sh(s:Sh)
 |eV(a b c:aC)(w s so d6:Int)(dv:Int)(eW:Bool)
 |bD(a:aC)(v:Int)
 |dt(a:aC)(pre post j0:List Sh)
 |xA(a:aC)(t:V)
 |iG(a:aC)(n s d:Int)(sU:V)(c:Int)(items:V)
 |ed(a:aC)(items:List V)
 |jN(a:aC)(eF:Bool)(w:Int)
 |F2(a:aC)
def Sh.v:Sh->V
 |.jM a kd w h d=>Nj a kd w h d (.l [])
 |.r a w h d=>zo a (jv w) (jv h) (jv d)
 |.iI a w so=>Nk a w so
def F3(c:aC)(l:Bool):V:=match l with|true=>zo c (.i 1) (.i 3) .n|false=>.n
def Nd.v:Nd->V
 |.sh s=>s.v
 |.eV a b c w s so d6 dv eW=>ue a (fK b w s so d6 0) dv (F3 c eW)
 |.bD a v=>FV a v
 |.dt a p q m=>FW a (p.map Sh.v) (q.map Sh.v) (m.map Sh.v)
 |.xA a t=>Nn a t
 |.iG a n s d sU c items=>Nq a n s d sU c items
 |.ed a items=>Nl a (.l items)
 |.jN a eF w=>Nm a eF w
 |.F2 a=>Np a
noncomputable def Nd.ctorIdx(x:Nd):Nat:=@Nd.casesOn (λ_=>Nat) x (λ_=>0) (λ_ _ _ _ _ _ _ _ _=>1) (λ_ _=>2) (λ_ _ _ _=>3) (λ_ _=>4) (λ_ _ _ _ _ _ _=>5) (λ_ _=>6) (λ_ _ _=>7) (λ_=>8)
noncomputable def Sh.kind:Sh->Int
 |.jM _ kd .. =>kd
 |.r .. =>4
 |.iI .. =>5
def Nd.kind:Nd->Int
 |.sh s=>s.kind
 |.eV .. =>6
 |.bD .. =>7
 |.dt .. =>8
 |.xA .. =>9
 |.iG .. =>10
 |.ed .. =>11
 |.jN .. =>12
 |.F2 .. =>13
def Sh.cO:Sh->Prop
 |.jM _ kd w h d=>(kd=2\/kd=3)/\(0<=w/\w<=1000)/\(0<=h/\h<=10)/\(0<=d/\d<=10)
 |.r _ w h d=>(∃i,w=I i/\0<=i/\i<=1000)/\(h=aa\/h=I 3)/\d=aa
 |.iI _ w so=>(-1000<=w/\w<=1000)/\0<=so/\so<=3
def Nd.cO:Nd->Prop
 |.sh s=>s.cO
 |.eV _ _ _ w s so d6 dv eW=>(-1000<=w/\w<=1000)/\(0<=s/\s<=1000)/\(0<=so/\so<=3)/\(0<=d6/\d6<=1000)
 |.bD _ v=> -100000<=v/\v<=100000
 |.dt _ p q m=>((∀s∈p,s.cO)/\(∀s∈q,s.cO)/\∀s∈m,s.cO)/\p.length<=2/\q.length<=2/\m.length<=2
 |.jN _ _ w=>0<=w/\w<=1000
 |.ed _ items=>items.length<=2
 |_=>True
noncomputable def Sh.jj:Sh->Int
 |.jM _ _ w _ _=>w
 |.r _ w _ _=>w.getD 0
 |.iI _ w _=>w
noncomputable def cH:List Sh->Int
 |[]=>0
 |s::r=>s.jj+cH r
def Nd.jj:Nd->Int
 |.sh s=>s.jj
 |.eV _ _ _ w .. =>w
 |.dt _ _ _ m=>cH m
 |.jN _ _ w=>w
 |_=>0
noncomputable def Nd.cL:Nd->Bool
 |.eV .. =>ai
 |.bD .. =>ai
 |.jN .. =>ai
 |.sh (.iI _ _ so)=>a6 (so=1)
 |_=>ak
set_option tactic.hygienic true in
theorem Nd.uT(n:Nd):∃a C ns ao,n.v=.eS a C ns ao:=by
 cases n
 case sh s=>cases s<;>exact⟨_,_,_,_,rfl⟩
 all_goals exact⟨_,_,_,_,rfl⟩
set_option tactic.hygienic true in
theorem qs(n:Nd)(h:K (.i n.kind)):rd n.v (pZ IR.a8 G n.v 6) K:=by
 cases n
 case sh s=>cases s<;>exact h
 all_goals exact h
theorem F4(n:Sh)(h:K (.i n.kind)):rd n.v (pZ IR.a8 G n.v 6) K:=by cases n<;>exact h
theorem vG{aK:Type}{f:V->J->(Option V->J->Prop)->Prop}{Q:List V->J->Prop}(g r:aK->V)(xs:List aK)(h:∀x∈xs,∀R:Option V->J->Prop,R (I (r x)) G->f (g x) G R)(q:Q (xs.map r) G):kR f (xs.map g) [] G Q:=by
 have key:∀(xs:List aK) (cq:List V),(∀x∈xs,∀R:Option V->J->Prop,R (I (r x)) G->f (g x) G R)->Q (cq++xs.map r) G->kR f (xs.map g) cq G Q:=by
  intro xs;induction xs with
  |nil=>intro cq _ q;rw[w3,dZ]at q;exact q
  |cons x xs ih=>intro cq h q;exact h x (.head _) _ (ih _ (λy hy=>h y (.tail _ hy)) (by rw[dK];exact q))
 exact key xs [] h q
theorem zp(f:aK->Int):∀l:List aK,pX (l.map λs=>.i (f s))=I (l.map f):=by
 intro a;induction a with
 |nil=>exact rfl
 |cons x l b=>exact congrArg (Nw (f x::·)) (b)
theorem Nx(f:aK->Int)(l:List aK):pX ([V.i 0]++l.map λs=>.i (f s))=I (0::l.map f):=congrArg (Nw (0::·)) (zp f l)
theorem dg{aK:Type}{x:Option aK}{a:aK}{Q:aK->Prop}(h:x=I a)(q:Q a):bR x Q:=by rw[h];exact q
theorem Sh.sV{s:Sh}(h:s.cO):s.kind<=5:=by
 cases s
 .rcases h.1 with rfl|rfl
  .exact(by decide:(2:Int)<=5)
  .exact(by decide:(3:Int)<=5)
 .exact(by decide:(4:Int)<=5)
 .exact pk 5
theorem F5(T:Top X){xs:List Sh}(hg:∀s∈xs,s.cO)(h:Q (.l (xs.map Sh.v)) G):aB X (k+1) (.L (.ref 332)) [.l (xs.map Sh.v)] G Q:=by
 refine Zn T rfl ?_;have key:∀(ys:List Sh) (o:Option V) (R:Fl->ay->J->Prop),(∀s∈ys,s.cO)->(∀o,R .n [I (.l (xs.map Sh.v)),o] G)->d8 (.cD 1) (bK IR.a8 (aB X k) IR.LR) (ys.map Sh.v) [I (.l (xs.map Sh.v)),o] G R:=by
  intro ys;induction ys with
  |nil=>intro o R _ hR;exact hR o
  |cons y ys ih=>exactλo R hg hR=>F4 y (eN (Int.not_lt.mpr (Sh.sV (hg y (.head _)))) (ih _ R (λs hs=>hg s (.tail _ hs)) hR))
 exact key xs aa _ hg λo=>ret h
theorem ad0(T:Top X){p q m:List Sh}(hp:∀s∈p,s.cO)(hq:∀s∈q,s.cO)(ax:∀s∈m,s.cO)(h:∀a,Q (FW a (p.map Sh.v) (q.map Sh.v) (m.map Sh.v)) G):aB X (k+4) (.L (.ref 455)) [.l (p.map Sh.v),.l (q.map Sh.v),.l (m.map Sh.v)] G Q:=by refine jL T (fJ (i:=7) rfl) λa dx dY=>Zs T rfl ?_;exact F5 T hp (b7 rfl rfl (F5 T hq (b7 rfl rfl (F5 T ax (b7 rfl rfl (jZ dY (h a)))))))
theorem F6(T:Top X){s:Sh}(hg:s.cO)(h:Q (.i s.jj) G):aB X (k+1) (.L (.ref 569)) [s.v] G Q:=by
 refine FR T rfl ?_;cases s with
 |jM a kd w hh d=>
  rcases hg.1 with rfl|rfl
  all_goals repeat first|refine aZ rfl ?_|refine bF rfl ?_
  all_goals exact ret h
 |r a w hh d=>
  obtain⟨⟨i,rfl,_⟩,_⟩:=hg
  repeat first|refine aZ rfl ?_|refine bF rfl ?_
  exact ret h
 |iI a w so=>
  repeat first|refine aZ rfl ?_|refine bF rfl ?_
  exact ret h
theorem ad1:∀m:List Sh,(m.map Sh.jj).sum=cH m:=by
 intro a;induction a with
 |nil=>exact rfl
 |cons s m b=>simp[cH,b]
theorem F7(T:Top X){n:Nd}(hg:n.cO)(h:Q (.i n.jj) G):aB X (k+2) (.L (.ref 569)) [n.v] G Q:=by
 cases n with
 |sh s=>exact F6 T hg h
 |dt a p q m=>
  refine FR T rfl ?_
  repeat first|refine aZ rfl ?_|refine bF rfl ?_
  refine vG Sh.v (λs=>.i s.jj) m (λs hs R hR=>bF rfl (F6 T (hg.1.2.2 s hs) hR)) ?_;exact dg (zp _ _) (ret (by show Q (.i (m.map Sh.jj).sum) G;rw[ad1];exact h))
 |_=>
  refine FR T rfl ?_
  repeat first|refine aZ rfl ?_|refine bF rfl ?_
  exact ret h
noncomputable def Sh.B3:Sh->Int
 |.jM _ _ _ h _=>h
 |.r _ _ h _=>h.getD 0
 |.iI .. =>0
noncomputable def Sh.B4:Sh->Int
 |.jM _ _ _ _ d=>d
 |.r _ _ _ d=>d.getD 0
 |.iI .. =>0
theorem B5:(0:Int)<=0/\(0:Int)<=10:=by decide
theorem ad2:(0:Int)<=3/\(3:Int)<=10:=by decide
theorem Sh.Ny{s:Sh}(h:s.cO):0<=s.B3/\s.B3<=10:=by
 cases s with
 |jM=>exact h.2.2.1
 |r _ _ hh _=>
  rcases h.2.1 with rfl|rfl
  .exact B5
  .exact ad2
 |iI=>exact B5
theorem Sh.Nz{s:Sh}(h:s.cO):0<=s.B4/\s.B4<=10:=by
 cases s with
 |jM=>exact h.2.2.2
 |r _ _ hh _=>obtain rfl:=h.2.2;exact B5
 |iI=>exact B5
theorem NA(T:Top X){s:Sh}(hg:s.cO)(h:Q (.i s.B3) G):aB X (k+2) (.L (.ref 586)) [s.v] G Q:=by
 refine BQ T rfl ?_;cases s with
 |jM a kd w hh d=>
  rcases hg.1 with rfl|rfl
  all_goals repeat first|refine aZ rfl ?_|refine bF rfl ?_
  all_goals (refine ret ?_;rw[Int.sub_zero];exact h)
 |r a w hh d=>
  repeat refine aZ rfl ?_
  refine xr T (by rfl) ?_
  repeat first|refine aZ rfl ?_|refine bF rfl ?_
  rcases hg.2.1 with rfl|rfl
  .exact bF rfl (ret (ret h))
  .exact aZ rfl (ret (ret h))
 |iI a w so=>
  repeat refine aZ rfl ?_
  refine xr T (by rfl) ?_
  repeat first|refine aZ rfl ?_|refine bF rfl ?_
  exact ret (ret h)
theorem NB(T:Top X){s:Sh}(hg:s.cO)(h:Q (.i s.B4) G):aB X (k+2) (.L (.ref 593)) [s.v] G Q:=by
 refine BR T rfl ?_;cases s with
 |jM a kd w hh d=>
  rcases hg.1 with rfl|rfl
  all_goals repeat first|refine aZ rfl ?_|refine bF rfl ?_
  all_goals (refine ret ?_;rw[fW];exact h)
 |r a w hh d=>
  repeat refine aZ rfl ?_
  refine xt T (by rfl) ?_
  repeat first|refine aZ rfl ?_|refine bF rfl ?_
  obtain rfl:=hg.2.2;exact bF rfl (ret (ret h))
 |iI a w so=>
  repeat refine aZ rfl ?_
  refine xt T (by rfl) ?_
  repeat first|refine aZ rfl ?_|refine bF rfl ?_
  exact ret (ret h)
theorem ad3(T:Top X){n:Nd}(hg:n.cO)(h:∀i,0<=i/\i<=10->Q (.i i) G):aB X (k+4) (.L (.ref 586)) [n.v] G Q:=by
 cases n with
 |sh s=>exact NA T hg (h _ (Sh.Ny hg))
 |dt a p q m=>
  refine BQ T rfl ?_
  repeat refine aZ rfl ?_
  refine xr T (by rfl) ?_
  repeat first|refine aZ rfl ?_|refine bF rfl ?_
  refine vG Sh.v (λs=>.i s.B3) m (λs hs R hR=>bF rfl (NA T (hg.1.2.2 s hs) hR)) ?_;refine⟨⟨by have:=hg.2.2.2;simp[cK];exact(O [] [_] (.i (.ag .x 2) (.ag (.p 1 .x) 100000))) this⟩,?_⟩;refine dg (Nx _ _) ⟨Fp _,λi hi _=>ret (ret (h i ?_))⟩;rcases List.mem_cons.mp hi with rfl|hi
  .exact⟨by decide,by decide⟩
  .obtain⟨s,hs,rfl⟩:=List.mem_map.mp hi;exact Sh.Ny (hg.1.2.2 s hs)
 |eV a b c w s so d6 dv eW=>
  refine BQ T rfl ?_
  repeat refine aZ rfl ?_
  refine xr T (by rfl) ?_
  repeat first|refine aZ rfl ?_|refine bF rfl ?_
  cases eW
  .repeat refine aZ rfl ?_
   exact ret (ret (h 0 ⟨by decide,by decide⟩))
  .refine bF rfl ?_;refine xr T (by rfl) ?_
   repeat first|refine aZ rfl ?_|refine bF rfl ?_
   exact ret (ret (ret (h 3 ⟨by decide,by decide⟩)))
 |_=>
  refine BQ T rfl ?_
  repeat refine aZ rfl ?_
  refine xr T (by rfl) ?_
  repeat first|refine aZ rfl ?_|refine bF rfl ?_
  exact ret (ret (h 0 ⟨by decide,by decide⟩))
theorem ad4(T:Top X){n:Nd}(hg:n.cO)(h:∀i,0<=i/\i<=10->Q (.i i) G):aB X (k+4) (.L (.ref 593)) [n.v] G Q:=by
 cases n with
 |sh s=>exact NB T hg (h _ (Sh.Nz hg))
 |dt a p q m=>
  refine BR T rfl ?_
  repeat refine aZ rfl ?_
  refine xt T (by rfl) ?_
  repeat first|refine aZ rfl ?_|refine bF rfl ?_
  refine vG Sh.v (λs=>.i s.B4) m (λs hs R hR=>bF rfl (NB T (hg.1.2.2 s hs) hR)) ?_;refine⟨⟨by have:=hg.2.2.2;simp[cK];exact(O [] [_] (.i (.ag .x 2) (.ag (.p 1 .x) 100000))) this⟩,?_⟩;refine dg (Nx _ _) ⟨Fp _,λi hi _=>ret (ret (h i ?_))⟩;rcases List.mem_cons.mp hi with rfl|hi
  .exact⟨by decide,by decide⟩
  .obtain⟨s,hs,rfl⟩:=List.mem_map.mp hi;exact Sh.Nz (hg.1.2.2 s hs)
 |eV a b c w s so d6 dv eW=>
  refine BR T rfl ?_
  repeat refine aZ rfl ?_
  refine xt T (by rfl) ?_
  repeat first|refine aZ rfl ?_|refine bF rfl ?_
  cases eW
  .repeat refine aZ rfl ?_
   exact ret (ret (h 0 ⟨by decide,by decide⟩))
  .refine bF rfl ?_;refine xt T (by rfl) ?_
   repeat first|refine aZ rfl ?_|refine bF rfl ?_
   exact ret (ret (ret (h 0 ⟨by decide,by decide⟩)))
 |_=>
  refine BR T rfl ?_
  repeat refine aZ rfl ?_
  refine xt T (by rfl) ?_
  repeat first|refine aZ rfl ?_|refine bF rfl ?_
  exact ret (ret (h 0 ⟨by decide,by decide⟩))
theorem F8(T:Top X){n:Nd}(hg:n.cO)(h:Q (.b n.cL) G):aB X (k+1) (.L (.ref 718)) [n.v] G Q:=by
 refine ZH T rfl ?_;cases n with
 |sh s=>
  cases s with
  |jM a kd w hh d=>
   rcases hg.1 with rfl|rfl
   all_goals repeat first|refine aZ rfl ?_|refine bF rfl ?_
   all_goals exact ret h
  |_=>
   repeat first|refine aZ rfl ?_|refine bF rfl ?_
   exact ret h
 |_=>
  repeat first|refine aZ rfl ?_|refine bF rfl ?_
  exact ret h
theorem vH{T:c9}{aU:CO}{z:ay}{w:SW}{Q:SQ}(h:w z G Q):bK T aU .n z G (nZ w Q):=h
theorem nx{w:SW}{z:ay}{Q:SQ}(h:w z G Q):nZ w Q .n z G:=h
theorem ad5{p n:Nat}(h:p<n):bw (p:Int) n=I p:=by unfold bw;rw[if_pos (wC p),if_pos (by exact(O [] [_,_] (.i (.U .x .y) (.t (.c .x) (.c .y)))) h)];rfl
theorem iJ{aK:Type}{f:aK->V}{l:List aK}{p:Nat}{x:aK}(h:l[p]?=I x):j7 (l.map f) (p:Int)=I (f x):=by have hp:p<l.length:=(List.getElem?_eq_some_iff.mp h).1;unfold j7;rw[cm,ad5 hp];simp[h]
def hZ(items:List Nd):Prop:=∀n∈items,n.cO
def dn(items:List Nd):V:=.l (items.map Nd.v)
theorem hZ.at{items:List Nd}(h:hZ items){p:Nat}{n:Nd}(e:items[p]?=I n):n.cO:=h n (fJ e)
def h8(items:List Nd)(p:Nat):Nat:=p+((items.drop p).takeWhile Nd.cL).length
theorem zq(h:∀n,items[p]?=I n->n.cL=ak):h8 items p=p:=by
 unfold h8;cases e:items.drop p with
 |nil=>rfl
 |cons n r=>
  have:items[p]?=I n:=by rw[<- F9,e];rfl
  rw[nG,h n this];rfl
theorem NC(h:items[p]?=I n)(aF:n.cL=ai):h8 items p=h8 items (p+1):=by unfold h8;obtain⟨a,e⟩:=List.getElem?_eq_some_iff.mp h;rw[Kx a,e,nG,aF];simp only[if_true,iw];exact O [] [_,_] (.E (.p .x (.p .y 1)) (.p (.p .x 1) .y))
@[reducible] def Nd.gS:Nd->List Sh
 |.dt _ p _ _=>p
 |_=>[]
@[reducible] def Nd.uf:Nd->List Sh
 |.dt _ _ q _=>q
 |_=>[]
theorem Nd.B6{n:Nd}(g:n.cO):(∀s∈n.gS,s.cO)/\n.gS.length<=2:=by
 cases n with
 |dt a p q m=>exact⟨g.1.1,g.2.1⟩
 |_=>exact⟨λ_ h=>absurd h nv,jW 2⟩
theorem Nd.B7{n:Nd}(g:n.cO):(∀s∈n.uf,s.cO)/\n.uf.length<=2:=by
 cases n with
 |dt a p q m=>exact⟨g.1.2.1,g.2.2.1⟩
 |_=>exact⟨λ_ h=>absurd h nv,jW 2⟩
noncomputable def B8:Option Nd->Option (List Sh)
 |some (.dt _ _ q _)=>I q
 |_=>aa
def ad6(items:List Nd)(p:Nat)(o:Option (List Sh)):Nat:=match o with
 |some q=>if q=[]then h8 items (p+1)else p+1
 |none=>h8 items p
def fD(items:List Nd)(p:Nat):Nat:=ad6 items p (B8 items[p]?)
theorem ad7(T:Top X){items:List Nd}(hg:hZ items){R:Fl->ay->J->Prop}:∀(m p:Nat),items.length- p<=m->R .n [I (dn items),I (.i (h8 items p))] G->p7 (ct IR.a8 (aB X (k+1)) IR.Fz) (bK IR.a8 (aB X (k+1)) IR.FA) (m+1) [I (dn items),I (.i p)] G R:=by
 intro m;induction m with
 |zero=>
  intro p ax hR;have hl:¬(p:Int)<((items.map Nd.v).length:Nat):=by rw[cm];exact(O [] [_,_] (.i (.ag (.s .y .x) 0) (.n (.t (.c .x) (.c .y))))) ax
  refine eN hl (aZ rfl ?_);rw[zq (λn e=>by rw[qi (by exact(O [] [_,_] (.i (.ag (.s .x .y) 0) (.ag .x .y))) ax)]at e;cases e)]at hR;exact hR
 |succ m ih=>
  intro p ax hR;cases e:items[p]? with
  |none=>
   have hl:¬(p:Int)<((items.map Nd.v).length:Nat):=by rw[cm];have:=List.getElem?_eq_none_iff.mp e;exact(O [] [_,_] (.i (.ag .y .x) (.n (.t (.c .x) (.c .y))))) this
   refine eN hl (aZ rfl ?_);rw[zq (λn bz=>by rw[e]at bz;cases bz)]at hR;exact hR
  |some n=>
   have hp:p<items.length:=(List.getElem?_eq_some_iff.mp e).1;refine iW (by rw[cm];exact(O [] [_,_] (.i (.U .x .y) (.t (.c .x) (.c .y)))) hp) ?_;refine dg (iJ e) ?_;refine F8 T (hg.at e) ?_;cases aF:n.cL with
   |false=>
    refine aZ rfl ?_;rw[zq (λjg bz=>by rw[e]at bz;cases bz;exact aF)]at hR;exact hR
   |true=>refine bF rfl ?_;rw[NC e aF]at hR;exact ih (p+1) (by exact(O [] [_,_,_] (.i (.ag (.s .x .y) (.p .u 1)) (.i (.U .y .x) (.ag (.s .x (.p .y 1)) .u)))) ax hp) hR
set_option tactic.hygienic true in
theorem ND(T:Top X)(hg:hZ items)(h:Q (.i (fD items p)) G):aB X (k+2) (.L (.ref 732)) [dn items,.i p] G Q:=by
 refine ZJ T rfl ?_;unfold fD at h;have b:∀q:Nat,Q (.i (h8 items q)) G->bK IR.a8 (aB X (k+1)) (.c (.while IR.Fz IR.FA) (.c (.r (.z 1)) .n)) [I (dn items),I (.i q)] G (fS Q):=λq f=>⟨_,ad7 T hg (items.length) q (by exact O [] [_,_] (.ag (.s .x .y) .x)) (ret f)⟩
 cases e:items[p]? with
 |none=>
  rw[e]at h;have g:¬(p:Int)<((items.map Nd.v).length:Nat):=by rw[cm];have:=List.getElem?_eq_none_iff.mp e;exact(O [] [_,_] (.i (.ag .y .x) (.n (.t (.c .x) (.c .y))))) this
  exact eN g (aZ rfl (b p h))
 |some n=>
  rw[e]at h;have j:p<items.length:=(List.getElem?_eq_some_iff.mp e).1;refine iW (by rw[cm];exact(O [] [_,_] (.i (.U .x .y) (.t (.c .x) (.c .y)))) j) ?_;refine dg (iJ e) ?_;have u:=hg.at e;by_cases aF:n.kind=8
  .obtain⟨a,d,q,m,rfl⟩:∃a d q m,n=.dt a d q m:=by
    cases n<;>first|exact⟨_,_,_,_,rfl⟩|(simp[Nd.kind]at aF)|skip
    rename_i s;have:=Sh.sV u;exact tT ((O [_] [] (.i (.e .x 8) (.i (.l .x 5) .o))) aF this)
   refine bF rfl ?_;refine dg (iJ e) ?_;cases q with
   |nil=>exact aZ rfl (b (p+1) h)
   |cons s q=>exact bF rfl (ret h)
  .refine qs n (eN aF ?_);have w:Q (.i (h8 items p)) G:=by cases n<;>first|exact h|exact absurd rfl aF
   exact b p w
theorem J.le.s(l:J.le G ae)(h:G a=aa):J.le G (ae.s a o):=λb ob e=>by
 have:b≠a:=λq=>by subst q;rw[h]at e;cases e
 rw[J.cC this];exact l b ob e
theorem J.le.cT(l:J.le G ae)(h:G a=aa):J.le G (ae.cT a):=λb ob e=>by
 have:b≠a:=λq=>by subst q;rw[h]at e;cases e
 rw[J.nj this];exact l b ob e
theorem J.le.qt(l:J.le G ae)(h:ae a=aa):G a=none:=by
 cases e:G a with
 |none=>rfl
 |some o=>rw[l a o e]at h;cases h
theorem md(h:G a=I (.l xs))(e:j7 xs i=I v):r8 G (.r a) (.i i)=I v:=(congrArg (DP · i) h).trans e
theorem kG(e:dO z o=I (.r a))(h:G a=I (.l xs)):wI z G o:=dg (congrArg (·.bind r4) e) (congrArg (λo=>(lq o).isSome) h)
theorem km(h:G a=I (.l xs)):ky G (.r a)=I xs:=congrArg lq h
theorem NF(h:G a=I (.l xs)):Tactic.listOf G (.r a)=I xs:=congrArg lq h
theorem oq(h:G a=I (.l xs)):wN G (.r a)=I (.l xs,G.cT a):=congrArg (λo=>((lq o).map λxs=>(V.l xs,G.cT a)).or ((dictAt o).map λd:List Int×List V=>(V.dk d.1 d.2,G.cT a))) h
theorem qu(h:G a=I (.l xs))(hi:a6 (0<=i/\i<(xs.length:Int))=ai)(q:R (G.s a (.l (xs.set i.toNat v)))):sd (.r a) (.i i) v G R:=cz h ⟨of_decide_eq_true hi,q⟩
structure Sm where
 n:Int
 a:Int
 b:Int
 c:Int
 d:Int
 h:Int
noncomputable def Sm.l(m:Sm):List V:=[.i m.n,.i m.a,.i m.b,.i m.c,.i m.d,.i m.h]
def Sm.v(m:Sm):V:=.aV m.l
noncomputable def Sm.z:Sm:=⟨0,0,0,0,0,0⟩
noncomputable def Sm.add(m:Sm)(w s so h:Int):Sm:=⟨m.n+w,if so=0 then m.a+s else m.a,if so=1 then m.b+s else m.b,if so=2 then m.c+s else m.c,if so=3 then m.d+s else m.d,m.h+h⟩
noncomputable def Sm.gu(m:Sm)(w:Int):Sm:=⟨m.n+w,m.a,m.b,m.c,m.d,m.h⟩
def Sm.step(m:Sm):Nd->Sm
 |.eV _ _ _ w s so d6 _ _=>m.add w s so d6
 |n=>m.gu n.jj
noncomputable def rM(m:Sm):List Nd->List Sm
 |[]=>[]
 |n::r=>m.step n::rM (m.step n) r
theorem B9:rM m []=([]):=rfl
theorem Ga:rM m (n::r)=(m.step n::rM (m.step n) r):=rfl
def pq(items:List Nd):List Sm:=.z::rM .z items
theorem ad8:∀(r:List Nd) (m:Sm),(rM m r).length=r.length:=by
 intro a;induction a with
 |nil=>exactλ_=>rfl
 |cons _ r b=>exactλm=>congrArg (· +1) (b _)
theorem Gb(T:Top X){a b:aC}{m:Sm}{w s so d6:Int}(ha:G a=I (.l m.l))(pj:0<=so/\so<=3)(h:Q .n (G.s a (.l (m.add w s so d6).l))):aB X (k+1) (.L (.ref 739)) [.r a,fK b w s so d6 0] G Q:=by
 refine ZK T rfl (aZ rfl ?_);refine cz (md ha rfl) ?_;refine qu ha rfl ?_;have ar:∀{l:List V} {o:gf} {R:V->J->Prop},R .n ((G.s a (.l l)).s a o)->R .n (G.s a o):=λh=>by rw[J.BU]at h;exact h
 rcases(by exact(O [_] [] (.i (.c (.l 0 .x) (.l .x 3)) (.d (.e .x 0) (.d (.e .x 1) (.d (.e .x 2) (.e .x 3)))))) pj:so=0\/so=1\/so=2\/so=3)with rfl|rfl|rfl|rfl
 all_goals
  refine cz (md J.bY rfl) ?_;refine qu J.bY rfl ?_;refine cz (md J.bY rfl) ?_;refine qu J.bY rfl ?_;rw[J.BU,J.BU];exact ret h
theorem Gd(T:Top X)(hg:∀s∈xs,s.cO)(h:Q (.i (cH xs)) G):aB X (k+2) (.L (.ref 746)) [.l (xs.map Sh.v)] G Q:=by
 refine ZL T rfl ?_;have key:∀(a:List Sh) (m:Int) (o:Option V) (R:Fl->ay->J->Prop),(∀s∈a,s.cO)->(∀o,R .n [I (.l (xs.map Sh.v)),I (.i (m+cH a)),o] G)->
   d8 (.cD 2) (bK IR.a8 (aB X (k+1)) IR.Ml) (a.map Sh.v) [I (.l (xs.map Sh.v)),I (.i m),o] G R:=by
  intro a;induction a with
  |nil=>intro m o R _ b;have:=b o;rw[cH,fW]at this;exact this
  |cons y a c=>exactλm o R hg b=>F6 T (hg y (.head _)) (c (m+y.jj) _ R (λs d=>hg s (.tail _ d)) λo=>by rw[nR];exact b o)
 exact key xs 0 aa _ hg λo=>ret (by rw[mB];exact h)
theorem NG(T:Top X){m:Sm}{w:Int}(h:Q (m.gu w).v G):aB X (k+1) (.L (.ref 760)) [m.v,.i w] G Q:=ZN T rfl ⟨of_decide_eq_true rfl,⟨of_decide_eq_true rfl⟩,ret h⟩
theorem ad9(T:Top X)(hg:hZ items)(hl:items.length<=1000)(h:Q (.l ((pq items).map Sm.v)) G):aB X (k+3) (.L (.ref 753)) [dn items] G Q:=by
 refine ZM T rfl ?_;intro a ha b hb;have iY:a≠b:=λe=>by subst e;rw[J.bY]at hb;cases hb
 have fR:G b=none:=by rw[J.cC (tO iY)]at hb;exact hb
 have key:∀(r:List Nd) (m:Sm) (done:List Sm) (o:Option V) (ae:J) (R:Fl->ay->J->Prop),hZ r->done.length+r.length<=2000->ae a=I (.l m.l)->ae b=I (.l (done.map Sm.v))->J.le G ae->
   (∀o ae,ae b=I (.l ((done++rM m r).map Sm.v))->J.le G ae->R .n [I (dn items),I (.r a),I (.r b),o] ae)->
   d8 (.cD 3) (bK IR.a8 (aB X (k+2)) IR.FC) (r.map Nd.v) [I (dn items),I (.r a),I (.r b),o] ae R:=by
  intro r;induction r with
  |nil=>intro m done o ae R _ _ _ h2 h3 hR;exact hR o ae (by rw[B9,dZ];exact h2) h3
  |cons n r ih=>
   intro m done o ae R hg hl h1 h2 h3 hR;have tail:∀ae:J,ae a=I (.l (m.step n).l)->ae b=I (.l (done.map Sm.v))->J.le G ae->
     bK IR.a8 (aB X (k+2)) (.c (.cR (.iE 2 (.c (.L (.bC .t)) (.c .Eq (.z 1) .n)))) .n) [I (dn items),I (.r a),I (.r b),I n.v] ae (mH (d8 (.cD 3) (bK IR.a8 (aB X (k+2)) IR.FC) (r.map Nd.v)) R):=by
    intro ae h1 h2 h3;refine⟨kG rfl h2,cz (NF h1) (cz (km h2) ⟨⟨by rw[cm];simp at hl;simp[cK];exact(O [] [_,_] (.i (.ag (.p .x (.p .y 1)) 2000) (.ag .x 99999))) hl⟩,?_⟩)⟩;refine ih (m.step n) (done++[m.step n]) _ _ R (λx hx=>hg x (.tail _ hx)) (by simp at hl⊢;exact(O [] [_,_] (.i (.ag (.p .x (.p .y 1)) 2000) (.ag (.p (.p .x 1) .y) 2000))) hl) (by rw[J.cC iY];exact h1) (by rw[J.bY,gk];rfl) (h3.s fR) λo ae e l=>hR o ae (by rw[e,dK];rfl) l
   have hn:=hg n (.head _);have iZ:∀{x:Int},(ae.s a (.l ((m.l).set 0 (.i x)))) b=I (.l (done.map Sm.v)):=λ{x}=>by rw[J.cC (tO iY)];exact h2
   cases n with
   |eV cY cp dU w s so d6 dv eW=>refine bF rfl ?_;refine Gb T h1 hn.2.2.1 ?_;exact tail _ J.bY (by rw[J.cC (tO iY)];exact h2) (h3.s ha)
   |dt cY p q mm=>refine aZ rfl (bF rfl ?_);refine cz (md h1 rfl) ?_;refine Gd T hn.1.2.2 ?_;refine qu h1 rfl ?_;exact tail _ J.bY iZ (h3.s ha)
   |sh s=>refine F4 s (eN (by have:=Sh.sV hn;exact(O [_] [] (.i (.l .x 5) (.n (.e .x 6)))) this) (F4 s (eN (by have:=Sh.sV hn;exact(O [_] [] (.i (.l .x 5) (.n (.e .x 8)))) this) ?_)));refine cz (md h1 rfl) ?_;refine F7 T (n:=.sh s) hn ?_;refine qu h1 rfl ?_;exact tail _ J.bY iZ (h3.s ha)
   |_=>refine aZ rfl (aZ rfl ?_);refine cz (md h1 rfl) ?_;refine F7 T hn ?_;refine qu h1 rfl ?_;exact tail _ J.bY iZ (h3.s ha)
 refine key items .z [.z] aa _ _ hg (by simp;exact(O [] [_] (.i (.ag .x 1000) (.ag (.p 1 .x) 2000))) hl) (by rw[J.cC iY,J.bY];rfl) J.bY (((J.le.r G).s ha).s fR) λo ae e l=>?_;exact cz (oq e) (pg (l.cT fR) h)
structure Gl where
 a:aC
 w:Int
 s:Int
 so:Int
 h:Int
def Gl.v(g:Gl):V:=fK g.a g.w g.s g.so g.h 0
structure bk where
 a:aC
 lp:Int
 hp:Int
 ep:Int
 ed:Int
 iy:Int
 ar:Int
 loose:Int
 l:Gl
 r:Gl
def bk.v(S:bk):V:=.eS S.a 658 [35,36,37,38,39,40,41,42,43,44,45,46]
 [.i 0,.i 10000,.i S.lp,.i S.hp,.i S.ep,.i S.ed,.i S.iy,.i S.ar,.i S.loose,.i 0,S.l.v,S.r.v]
noncomputable def Ss.d:Nat->Ss->Ss
 |0,s=>s
 |k+1,.c _ r=>Ss.d k r
 |_+1,.n=>.n
noncomputable def ug:List Nd->Bool
 |.eV .. ::_=>ai
 |_=>ak
def lE(S:bk)(may gT:Bool)(r:List Nd):Nd->Int×Int×Bool
 |.eV .. =>(if(may&&gT)=ai then 0 else 10000,0,may)
 |.bD _ v=>(v,0,may)
 |.dt _ p _ _=>(if p=[]then S.ep else S.hp,1,may)
 |.jN _ eF _=>(if(!eF&&ug r)=ai then 0 else 10000,0,!eF)
 |.sh (.iI _ _ so)=>(if(a6 (so=1)&&(may&&ug r))=ai then 0 else 10000,0,may)
 |_=>(10000,0,may)
structure g8 where
 p:Nat
 bD:Int
 dv:Int
noncomputable def g8.v(b:g8):V:=.aV [.i b.p,.i b.bD,.i b.dv]
noncomputable def px(S:bk):Bool->Bool->Nat->List Nd->List g8
 |_,_,_,[]=>[]
 |may,gT,p,n::r=>(if(lE S may gT r n).1<10000 then [⟨p,jn (lE S may gT r n).1 (-10000),(lE S may gT r n).2.1⟩]else [])++px S (lE S may gT r n).2.2 (!n.cL) (p+1) r
theorem NH{S w1 w2 ae0}:px S w1 w2 ae0 []=([]):=rfl
theorem NI{S may gT p n r}:px S may gT p (n::r)=((if(lE S may gT r n).1<10000 then [⟨p,jn (lE S may gT r n).1 (-10000),(lE S may gT r n).2.1⟩]else [])++px S (lE S may gT r n).2.2 (!n.cL) (p+1) r):=rfl
def iK(S:bk)(items:List Nd):List g8:=px S ai ak 0 items++[⟨items.length,-10000,1⟩]
theorem NJ(S:bk):∀(r:List Nd) (m b:Bool) (p:Nat),(px S m b p r).length<=r.length:=by
 intro c;induction c with
 |nil=>exactλ_ _ _=>gB _
 |cons n r d=>intro m b p;have:=d (lE S m b r n).2.2 (!n.cL) (p+1);rw[NI];split<;>simp<;>(first|exact(O [] [_,_] (.i (.ag .x .y) (.ag .x .y))) this|exact(O [] [_,_] (.i (.ag .x .y) (.ag .x (.p .y 1)))) this)
theorem NK{n2:Nd}(jE:n2.cO):n2.kind≠6/\ug (n2::[])=ak\/n2.kind=6/\ug (n2::[])=true:=by
 cases n2 with
 |eV a b c w s so d6 dv eW=>exact .inr ⟨rfl,rfl⟩
 |sh s=>exact .inl ⟨by have:=Sh.sV jE;show s.kind≠6;exact(O [_] [] (.i (.l .x 5) (.n (.e .x 6)))) this,rfl⟩
 |_=>exact .inl ⟨λe=>absurd e (of_decide_eq_true rfl),rfl⟩
theorem NL{n:Nd}{r:List Nd}:ug (n::r)=ug (n::[]):=by cases n<;>rfl
section
variable{items:List Nd}{S:bk}{a:aC}{n:Nd}{r:List Nd}{may gT:Bool}{p:Nat}{o7 o8 o9:Option V}{K:SQ}
theorem Ge(h:n.kind≠6/\n.kind≠7/\n.kind≠8/\n.kind≠12/\n.kind≠5)(tail:∀o7,bK IR.a8 (aB X (k+1)) (Ss.d 3 IR.ua) [I (dn items),I S.v,I (.r a),I (.b may),I (.b gT),I (.i p),I n.v,o7,I (.i 10000),I (.i 0)] ae K):bK IR.a8 (aB X (k+1)) IR.ua [I (dn items),I S.v,I (.r a),I (.b may),I (.b gT),I (.i p),I n.v,o7,o8,o9] ae K:=qs n ⟨rfl,eN h.1 (eN h.2.1 (eN h.2.2.1 (eN h.2.2.2.1 (eN h.2.2.2.2 (aZ rfl (tail _))))))⟩
theorem ae1(gn:n.cO)(hc:r=[]/\¬((p:Int)+1<((items.map Nd.v).length:Nat))\/∃n2 r2,r=n2::r2/\n2.cO/\items[p+1]?=I n2/\(p:Int)+1<((items.map Nd.v).length:Nat))(tail:∀o7,bK IR.a8 (aB X (k+1)) (Ss.d 3 IR.ua) [I (dn items),I S.v,I (.r a),I (.b (lE S may gT r n).2.2),I (.b gT),I (.i p),I n.v,o7,I (.i (lE S may gT r n).1),I (.i (lE S may gT r n).2.1)] ae K):bK IR.a8 (aB X (k+1)) IR.ua [I (dn items),I S.v,I (.r a),I (.b may),I (.b gT),I (.i p),I n.v,o7,o8,o9] ae K:=by
 cases n with
 |eV cY cp dU w s so d6 aU1 eW=>
  clear hc;refine⟨rfl,bF rfl ?_⟩;cases may with
  |false=>exact aZ rfl (aZ rfl (tail _))
  |true=>
   refine bF rfl ?_;cases gT with
   |false=>exact aZ rfl (tail _)
   |true=>exact bF rfl (tail _)
 |bD cY v=>exact⟨rfl,aZ rfl (bF rfl (tail _))⟩
 |dt cY gS q m=>
  clear hc;refine⟨rfl,aZ rfl (aZ rfl (bF rfl ?_))⟩;cases gS with
  |nil=>exact aZ rfl (tail _)
  |cons=>exact bF rfl (tail _)
 |jN cY eF w=>
  refine⟨rfl,aZ rfl (aZ rfl (aZ rfl (bF rfl (bF rfl (bF rfl ?_)))))⟩;cases eF with
  |true=>exact aZ rfl (aZ rfl (tail _))
  |false=>
   refine bF rfl ?_;refine cps λG0 g0=>?_;rcases hc with⟨rfl,hl⟩|⟨n2,r2,rfl,jE,hi,hl⟩
   .refine g0 ?_;clear g0;exact eN hl (aZ rfl (tail _))
   .refine g0 ?_;clear g0;refine iW hl (dg (iJ hi) (qs n2 ?_));unfold lE at tail;rw[NL]at tail;refine cps λG0 g0=>?_;rcases NK jE with⟨h6,vI⟩|⟨h6,vI⟩
    .refine g0 ?_;clear g0;rw[vI]at tail;exact eN h6 (tail _)
    .refine g0 ?_;clear g0;rw[vI]at tail;exact iW h6 (tail _)
 |sh s=>
  cases s with
  |jM cY kd w hh d=>have hk:kd=2\/kd=3:=gn.1;exact Ge (by show kd≠6/\kd≠7/\kd≠8/\kd≠12/\kd≠5;exact(O [_] [] (.i (.d (.e .x 2) (.e .x 3)) (.c (.n (.e .x 6)) (.c (.n (.e .x 7)) (.c (.n (.e .x 8)) (.c (.n (.e .x 12)) (.n (.e .x 5)))))))) hk) tail
  |r cY w hh d=>exact Ge (of_decide_eq_true rfl) tail
  |iI cY w so=>
   refine⟨rfl,aZ rfl (aZ rfl (aZ rfl (aZ rfl (bF rfl ?_))))⟩;unfold lE at tail;dsimp only at tail;refine cv (λh1=>?_) λh1=>by rw[decide_eq_false h1]at tail;exact tail _
   rw[decide_eq_true h1]at tail;refine aZ rfl ?_;cases may with
   |false=>exact aZ rfl (aZ rfl (tail _))
   |true=>
    refine bF rfl ?_;refine cps λG0 g0=>?_;rcases hc with⟨rfl,hl⟩|⟨n2,r2,rfl,jE,hi,hl⟩
    .refine g0 ?_;clear g0;exact eN hl (aZ rfl (tail _))
    .refine g0 ?_;clear g0;refine iW hl (dg (iJ hi) (qs n2 ?_));rw[NL]at tail;refine cps λG0 g0=>?_;rcases NK jE with⟨h6,vI⟩|⟨h6,vI⟩
     .refine g0 ?_;clear g0;rw[vI]at tail;exact eN h6 (tail _)
     .refine g0 ?_;clear g0;rw[vI]at tail;exact iW h6 (tail _)
 |_=>exact Ge (of_decide_eq_true rfl) tail
end
theorem ae2(T:Top X){items:List Nd}{S:bk}(hg:hZ items)(hl:items.length<=1000)(h:Q (.l ((iK S items).map g8.v)) G):aB X (k+2) (.L (.ref 725)) [dn items,S.v] G Q:=by
 refine ZI T rfl ?_;intro a D;have key:∀(r:List Nd) (may z:Bool) (p:Nat) (done:List g8) (j o f q w:Option V) (g:J) (R:Fl->ay->J->Prop),items.drop p=r->done.length<=p->g a=I (.l (done.map g8.v))->J.le G g->
   (∀m b j o f q w g,g a=I (.l ((done++px S may z p r).map g8.v))->J.le G g->R .n [I (dn items),I S.v,I (.r a),I (.b m),I (.b b),j,o,f,q,w] g)->
   d8 (.fG [5,6]) (bK IR.a8 (aB X (k+1)) IR.ua) (m5 p (r.map Nd.v)) [I (dn items),I S.v,I (.r a),I (.b may),I (.b z),j,o,f,q,w] g R:=by
  intro r;induction r with
  |nil=>intro may z p done j o f q w g R _ _ B F A;exact A may z j o f q w g (by rw[NH,dZ];exact B) F
  |cons n r ih=>
   intro may z p done j o f q w g R aF N B F A;have fh:p<items.length:=by have:=congrArg yz aF;simp at this;exact(O [] [_,_,_] (.i (.E (.s .y .x) (.p .u 1)) (.U .x .y))) this
   have hn:items[p]?=I n:=by rw[<- F9,aF];rfl
   have P:=hg.at hn;have W:items.drop (p+1)=r:=by rw[<- List.tail_drop,aF];rfl
   have tail:∀(H M:Int) (m:Bool) (f:Option V),lE S may z r n=(H,M,m)->
     bK IR.a8 (aB X (k+1)) (Ss.d 3 IR.ua) [I (dn items),I S.v,I (.r a),I (.b m),I (.b z),I (.i p),I n.v,f,I (.i H),I (.i M)] g (mH (d8 (.fG [5,6]) (bK IR.a8 (aB X (k+1)) IR.ua) (m5 (p+1) (r.map Nd.v))) R):=by
    intro H M m f e;have me:=λY j o f q w g=>ih m (!n.cL) (p+1) Y j o f q w g R W;simp only[NH,NI,e]at A;refine cv (λZ=>?_) λZ=>?_
    .rw[if_pos Z]at A;refine⟨kG rfl B,cz (km B) ⟨⟨by rw[cm];simp[cK];exact(O [] [_,_,_] (.i (.ag .u 1000) (.i (.ag .x .y) (.i (.U .y .u) (.ag .x 99999))))) hl N fh⟩,?_⟩⟩;refine F8 T P ?_;refine me (done++[⟨p,jn H (-10000),M⟩]) _ _ _ _ _ _ (by simp;exact(O [] [_,_] (.i (.ag .x .y) (.ag .x .y))) N) (by rw[J.bY,gk];rfl) (F.s D) λm b j o f q w g e l=>A m b j o f q w g (by rw[e,dK]) l
    .rw[if_neg Z]at A;refine F8 T P ?_;exact me done _ _ _ _ _ _ (by exact(O [] [_,_] (.i (.ag .x .y) (.ag .x (.p .y 1)))) N) B F λm b j o f q w g e l=>A m b j o f q w g e l
   refine⟨rfl,ae1 P ?_ λf=>tail _ _ _ f rfl⟩;cases r with
   |nil=>exact .inl ⟨rfl,by
     have:=congrArg yz W;simp at this;rw[cm];exact(O [] [_,_] (.i (.E (.s .y (.p .x 1)) 0) (.n (.t (.p (.c .x) 1) (.c .y))))) this⟩
   |cons n2 r2=>
    have C:items[p+1]?=I n2:=by rw[<- F9,W];rfl
    exact .inr ⟨n2,r2,rfl,hg.at C,C,by
     have:=(List.getElem?_eq_some_iff.mp C).1;rw[cm];exact(O [] [_,_] (.i (.U (.p .x 1) .y) (.t (.p (.c .x) 1) (.c .y)))) this⟩
 refine⟨rfl,key items ai ak 0 [] aa aa aa aa aa _ _ rfl (gB _) J.bY ((J.le.r G).s D) λm b j o f q w g e l=>?_⟩;refine⟨kG rfl e,cz (km e) ⟨⟨by have:=NJ S items ai ak 0;rw[cm];simp[cK];exact(O [] [_,_] (.i (.ag .y 1000) (.i (.ag .x .y) (.ag .x 99999)))) hl this⟩,?_⟩⟩;refine cz (oq J.bY) (pg ((l.s D).cT D) ?_);unfold iK at h;rw[gk]at h;have C:((items.map Nd.v).length:Int)=items.length:=by rw[cm]
 rw[C];exact h
noncomputable def Nd.gU:Nd->Bool
 |.dt .. =>ai
 |_=>ak
theorem ae4(S:bk)(m b:Bool)(r:List Nd)(n:Nd):(lE S m b r n).2.1=if n.gU=ai then 1 else 0:=by
 cases n with
 |sh s=>cases s<;>rfl
 |_=>rfl
theorem NM(S:bk):∀{r:List Nd} {m b:Bool} {p:Nat} {k:g8},k∈px S m b p r->∃j n,k.p=p+j/\r[j]?=I n/\k.dv=if n.gU=ai then 1 else 0:=by
 intro a;induction a with
 |nil=>
  intro _ _ _ _ h;cases h
 |cons n r c=>
  intro m b p k h;skip;rcases List.mem_append.mp h with h|h
  .split at h
   .obtain rfl:=List.mem_singleton.mp h;exact⟨0,n,rfl,rfl,ae4 ..⟩
   .cases h
  .obtain⟨j,d,e,f,g⟩:=c h;exact⟨j+1,d,by rw[e];exact O [] [_,_] (.E (.p (.p .x 1) .y) (.p .x (.p .y 1))),f,g⟩
theorem NN(h:p<=items.length):h8 items p<=items.length:=by unfold h8;have:=(ae5 Nd.cL (l:=items.drop p)).length_le;rw[vJ]at this;exact(O [] [_,_,_] (.i (.ag .x .u) (.i (.ag .y (.s .u .x)) (.ag (.p .x .y) .u)))) h this
theorem Gf(h:p<=items.length):fD items p<=items.length:=by
 unfold fD;cases e:B8 items[p]? with
 |none=>exact NN h
 |some q=>
  have this:p<items.length:=RD λh=>by rw[qi h]at e;cases e
  show(if q=[]then h8 items (p+1)else p+1)<=_;by_cases a:q=[]
  .rw[if_pos a];exact NN this
  .rw[if_neg a];exact this
def gM(items:List Nd)(p:Nat):Sm:=(pq items)[p]?.getD .z
theorem Ca(h:p<=items.length):(pq items)[p]?=I (gM items p):=by
 have:p<(pq items).length:=by unfold pq;rw[iw,ad8];exact(O [] [_,_] (.i (.ag .x .y) (.U .x (.p .y 1)))) h
 unfold gM;rw[rj this];rfl
structure aY where
 p:Int
 bD:Int
 dv:Int
 cP:Int
 b:Sm
 e:Sm
def aY.v(s:aY):V:=.aV [.i s.p,.i s.bD,.i s.dv,.i s.cP,s.b.v,s.e.v]
def j1(items:List Nd)(p:Nat):Int:=match items[p]? with
 |some n=>cH n.uf
 |none=>0
def ja(items:List Nd)(p:Nat):Int:=match items[p]? with
 |some n=>cH n.gS
 |none=>0
def dE(items:List Nd)(k:g8):aY:=⟨k.p,k.bD,k.dv,fD items k.p,(gM items (fD items k.p)).gu (-j1 items k.p),(gM items k.p).gu (ja items k.p)⟩
def cM(S:bk)(items:List Nd):List aY:=(iK S items).map (dE items)
theorem Sm.vK(m:Sm):m.gu 0=m:=by unfold Sm.gu;rw[fW]
theorem Sm.Cb(m:Sm):m.gu (-0)=m:=m.vK
theorem ae6(T:Top X){items:List Nd}{S:bk}(hg:hZ items)(hl:items.length<=900)(h:Q (.l ((cM S items).map aY.v)) G):aB X (k+4) (.L (.ref 767)) [dn items,S.v] G Q:=by
 refine ZO T rfl (ad9 T hg (by exact(O [] [_] (.i (.ag .x 900) (.ag .x 1000))) hl) ?_);intro a ha;refine ae2 T hg (by exact(O [] [_] (.i (.ag .x 900) (.ag .x 1000))) hl) ?_;have key:∀(r:List g8) (done:List aY) (o4 o5 o6 o7 o8 o9:Option V) (ae:J) (R:Fl->ay->J->Prop),(∀k∈r,k∈iK S items)->done.length+r.length<=2000->ae a=I (.l (done.map aY.v))->J.le G ae->
   (∀o4 o5 o6 o7 o8 o9 ae,ae a=I (.l ((done++r.map (dE items)).map aY.v))->J.le G ae->R .n [I (dn items),I S.v,I (.l ((pq items).map Sm.v)),I (.r a),o4,o5,o6,o7,o8,o9] ae)->
   d8 (.fG [4,5,6]) (bK IR.a8 (aB X (k+3)) IR.BE) (r.map g8.v) [I (dn items),I S.v,I (.l ((pq items).map Sm.v)),I (.r a),o4,o5,o6,o7,o8,o9] ae R:=by
  intro r;induction r with
  |nil=>intro done o4 o5 o6 o7 o8 o9 ae R _ _ h1 h2 hR;exact hR o4 o5 o6 o7 o8 o9 ae (by rw[w3,dZ];exact h1) h2
  |cons x r ih=>
   intro done o4 o5 o6 o7 o8 o9 ae R ax n9 h1 h2 hR;have hx:=ax x (.head _);have xp:x.p<=items.length/\(x.p=items.length\/∃n,items[x.p]?=I n/\x.dv=if n.gU=ai then 1 else 0):=by
    unfold iK at hx;rcases List.mem_append.mp hx with hx|hx
    .obtain⟨j,n,e1,e2,e3⟩:=NM S hx;rw[uh]at e1;subst e1;exact⟨A9 (List.getElem?_eq_some_iff.mp e2).1,.inr ⟨n,e2,e3⟩⟩
    .obtain rfl:=List.mem_singleton.mp hx;exact⟨gB _,.inl rfl⟩
   refine⟨rfl,?_⟩;refine ND T hg ?_;refine dg (iJ (Ca (Gf xp.1))) (dg (iJ (Ca xp.1)) ⟨rfl,?_⟩);have tail:∀(o8 o9:Sm),dE items x=⟨x.p,x.bD,x.dv,fD items x.p,o8,o9⟩->
     bK IR.a8 (aB X (k+3)) (Ss.d 3 IR.BE) [I (dn items),I S.v,I (.l ((pq items).map Sm.v)),I (.r a),I (.i x.p),I (.i x.bD),I (.i x.dv),I (.i (fD items x.p)),I o8.v,I o9.v] ae (mH (d8 (.fG [4,5,6]) (bK IR.a8 (aB X (k+3)) IR.BE) (r.map g8.v)) R):=by
    intro o8 o9 e;refine⟨kG rfl h1,cz (km h1) ⟨⟨by rw[cm];simp at n9;simp[cK];exact(O [] [_,_] (.i (.ag (.p .x (.p .y 1)) 2000) (.ag .x 99999))) n9⟩,?_⟩⟩;refine ih (done++[dE items x]) _ _ _ _ _ _ _ R (λy hy=>ax y (.tail _ hy)) (by simp at n9⊢;exact(O [] [_,_] (.i (.ag (.p .x (.p .y 1)) 2000) (.ag (.p (.p .x 1) .y) 2000))) n9) (by rw[J.bY,gk,e];rfl) (h2.s ha) λo4 o5 o6 o7 o8 o9 ae e l=>hR o4 o5 o6 o7 o8 o9 ae (by rw[e,dK];rfl) l
   rcases xp.2 with ba|⟨n,e,hs⟩
   .refine eN (by rw[cm,ba];exact O [] [_] (.n (.t (.c .x) (.c .x)))) (aZ rfl (tail _ _ ?_));have:items[x.p]?=none:=by rw[ba];exact qi (gB _)
    unfold dE j1 ja;rw[this];dsimp only;rw[Sm.Cb,Sm.vK]
   .refine iW (by rw[cm];have:=(List.getElem?_eq_some_iff.mp e).1;exact(O [] [_,_] (.i (.U .x .y) (.t (.c .x) (.c .y)))) this) ?_;by_cases aF:n.gU=ai
    .obtain⟨cY,gS,q,m,rfl⟩:∃a gS q m,n=.dt a gS q m:=by
      cases n<;>first|exact⟨_,_,_,_,rfl⟩|cases aF
     rw[if_pos aF]at hs;have gn:=hg.at e;refine iW hs (dg (iJ e) (Gd T gn.1.2.1 (NG T ?_)));refine dg (iJ e) (Gd T gn.1.1 (NG T (tail _ _ ?_)));unfold dE j1 ja;rw[e]
    .rw[if_neg aF]at hs;refine eN (by rw[hs];decide) (tail _ _ ?_);have h1:j1 items x.p=0:=by unfold j1;rw[e];cases n<;>first|rfl|exact absurd rfl aF
     have h2:ja items x.p=0:=by unfold ja;rw[e];cases n<;>first|rfl|exact absurd rfl aF
     unfold dE;rw[h1,h2,Sm.Cb,Sm.vK]
 refine key (iK S items) [] aa aa aa aa aa aa _ _ (λ_ h=>h) (by unfold iK;have:=NJ S items ai ak 0;simp;exact(O [] [_,_] (.i (.ag .y 900) (.i (.ag .x .y) (.ag .x 1999)))) hl this) J.bY ((J.le.r G).s ha) λo4 o5 o6 o7 o8 o9 ae e l=>?_;exact cz (oq e) (pg (l.cT ha) h)
noncomputable def ot(b e g:Sm):Sm:=⟨e.n- b.n+g.n,e.a- b.a+g.a,e.b- b.b+g.b,e.c- b.c+g.c,e.d- b.d+g.d,e.h- b.h+g.h⟩
theorem ae7(T:Top X)(h:Q (ot b e g).v G):aB X (k+1) (.L (.ref 779)) [b.v,e.v,g.v] G Q:=by refine ZQ T rfl ?_;refine bF rfl (bF rfl (bF rfl (bF rfl (bF rfl (bF rfl ?_)))));exact ret h
def fM(S:bk)(bM:Int):Sm:=let m:=(Sm.z.add S.l.w S.l.s S.l.so S.l.h).add S.r.w S.r.s S.r.so S.r.h;⟨m.n,m.a+bM,m.b,m.c,m.d,m.h⟩
theorem ae8(T:Top X){S:bk}{bM:Int}(h1:0<=S.l.so/\S.l.so<=3)(h2:0<=S.r.so/\S.r.so<=3)(ba:hY bM)(h:Q (fM S bM).v G):aB X (k+3) (.L (.ref 774)) [S.v,.i bM] G Q:=by refine ZP T rfl ?_;intro a ha;refine Gb T (m:=.z) J.bY h1 ?_;refine Gb T J.bY h2 ?_;refine cz (md J.bY rfl) (iX T ba (qu J.bY rfl ?_));refine cz (NF J.bY) (pg (ae:=G) ((((J.le.r G).s ha).s ha|>.s ha).s ha) h)
def zr(w:Int)(m:Sm):Int×Int:=if 99<k7 (w- m.n) m.a then(k7 (w- m.n) m.a,0)else(k7 (w- m.n) m.a,if 12<k7 (w- m.n) m.a then 1 else 2)
def zu(w:Int)(m:Sm):Int×Int:=(k7 (-(w- m.n)) m.h,if 12<k7 (-(w- m.n)) m.h then 3 else 2)
def cA(w:Int)(m:Sm):Int×Int:=
 if 0<w- m.n then(if m.b≠0 then(0,2)else if m.c≠0 then(0,2)else if m.d≠0 then(0,2)else zr w m)
 else if m.h< -(w- m.n)then(10001,3)else zu w m
theorem ae9(T:Top X)(aj:-1000000000<=w- m.n/\w- m.n<=1000000000)(ha:m.a<1000000000)(hh:m.h<1000000000)(h:Q (.aV [.i (cA w m).1,.i (cA w m).2]) G):aB X (k+2) (.L (.ref 786)) [.i w,m.v] G Q:=by
 refine ZR T rfl ?_;unfold cA at h;refine cv (λe=>?_) λe=>?_
 .rw[if_pos e]at h;refine mM (λb=>?_) λb=>mM (λd=>?_) λd=>mM (λf=>?_) λf=>?_
  .rw[if_pos b]at h;exact bF rfl (ret h)
  .rw[if_neg (by simpa using b),if_pos d]at h;exact bF rfl (ret h)
  .rw[if_neg (by simpa using b),if_neg (by simpa using d),if_pos f]at h;exact ret h
  .rw[if_neg (by simpa using b),if_neg (by simpa using d),if_neg (by simpa using f)]at h;refine BV T (by exact(O [_,_] [] (.i (.c (.l (.k (-1000000000)) (.s .x .y)) (.l (.s .x .y) 1000000000)) (.i (.t 0 (.s .x .y)) (.l 0 (.s .x .y))))) aj e) (by exact(O [_,_] [] (.i (.c (.l (.k (-1000000000)) (.s .x .y)) (.l (.s .x .y) 1000000000)) (.i (.t 0 (.s .x .y)) (.t (.s .x .y) 1000000000000)))) aj e) (by exact(O [_] [] (.i (.t .x 1000000000) (.t .x 1000000000000))) ha) ?_;unfold zr at h;refine cv (λb=>?_) λb=>?_
   .rw[if_pos b]at h;exact ret h
   .rw[if_neg b]at h;refine cv (λd=>?_) λd=>?_
    .rw[if_pos d]at h;exact ret h
    .rw[if_neg d]at h;exact ret h
 .rw[if_neg e]at h;refine cv (λb=>?_) λb=>?_
  .rw[if_pos b]at h;exact ret h
  .rw[if_neg b]at h;unfold zu at h;refine BV T (by exact(O [_,_] [] (.i (.c (.l (.k (-1000000000)) (.s .x .y)) (.l (.s .x .y) 1000000000)) (.i (.n (.t 0 (.s .x .y))) (.l 0 (.g (.s .x .y)))))) aj e) (by exact(O [_,_] [] (.i (.c (.l (.k (-1000000000)) (.s .x .y)) (.l (.s .x .y) 1000000000)) (.i (.n (.t 0 (.s .x .y))) (.t (.g (.s .x .y)) 1000000000000)))) aj e) (by exact(O [_] [] (.i (.t .x 1000000000) (.t .x 1000000000000))) hh) ?_;refine cv (λd=>?_) λd=>?_
   .rw[if_pos d]at h;exact ret h
   .rw[if_neg d]at h;exact ret h
noncomputable def zv(S:bk)(cW bD:Int):Int:=
 let f:=if 10000<=((S.lp+cW).natAbs:Int)then 100000000 else(S.lp+cW)*(S.lp+cW)
 if 0<bD then f+bD*bD else if-10000<bD then f- bD*bD else f
theorem af0(T:Top X){S:bk}{cW bD:Int}(hp:-100000<=bD/\bD<=100000)(h:Q (.i (zv S cW bD)) G):aB X (k+1) (.L (.ref 793)) [S.v,.i cW,.i bD] G Q:=by
 refine ZS T rfl ?_;unfold zv at h;have rest:∀f:Int,Q (.i (if 0<bD then f+bD*bD else if-10000<bD then f- bD*bD else f)) G->
   bK IR.a8 (aB X k) (Ss.d 2 IR.FD) [I S.v,I (.i cW),I (.i bD),I (.i (S.lp+cW)),I (.i f)] G (fS Q):=by
  intro f h;refine cv (λh1=>?_) λh1=>cv (λh2=>?_) λh2=>?_
  .rw[if_pos h1]at h;exact⟨kF (by exact(O [_] [] (.i (.c (.l (.k (-100000)) .x) (.l .x 100000)) (.i (.t 0 .x) (.t (.k (-2^64)) .x)))) hp h1) (by exact(O [_] [] (.i (.c (.l (.k (-100000)) .x) (.l .x 100000)) (.i (.t 0 .x) (.t .x (.k (2^64)))))) hp h1),ret h⟩
  .rw[if_neg h1,if_pos h2]at h;exact⟨kF (by exact(O [_] [] (.i (.c (.l (.k (-100000)) .x) (.l .x 100000)) (.i (.n (.t 0 .x)) (.i (.t (.k (-10000)) .x) (.t (.k (-2^64)) .x))))) hp h1 h2) (by exact(O [_] [] (.i (.c (.l (.k (-100000)) .x) (.l .x 100000)) (.i (.n (.t 0 .x)) (.i (.t (.k (-10000)) .x) (.t .x (.k (2^64))))))) hp h1 h2),ret h⟩
  .rw[if_neg h1,if_neg h2]at h;exact ret h
 refine cv (λh1=>?_) λh1=>?_
 .rw[if_pos h1]at h;exact rest _ h
 .rw[if_neg h1]at h;exact⟨kF (by exact(O [_,_] [] (.i (.n (.l 10000 (.c (.n (.p .x .y))))) (.t (.k (-2^64)) (.p .x .y)))) h1) (by exact(O [_,_] [] (.i (.n (.l 10000 (.c (.n (.p .x .y))))) (.t (.p .x .y) (.k (2^64))))) h1),rest _ h⟩
noncomputable def Cc(S:bk)(tw ar:Bool)(qv:Int):Int:=(if tw=ai then(if ar=ai then S.ar else S.iy)else 0)+if 1<qv then S.ed else 0
theorem af1(T:Top X){S:bk}{tw ar:Bool}{qv:Int}(h:Q (.i (Cc S tw ar qv)) G):aB X (k+1) (.L (.ref 800)) [S.v,.b tw,.b ar,.i qv] G Q:=by
 refine ZT T rfl ?_;skip;have rest:∀f:Int,Q (.i (f+if 1<qv then S.ed else 0)) G->
   bK IR.a8 (aB X k) (Ss.d 2 IR.FE) [I S.v,I (.b tw),I (.b ar),I (.i qv),I (.i f)] G (fS Q):=by
  intro f h;refine cv (λh1=>?_) λh1=>?_
  .rw[if_pos h1]at h;exact ret h
  .rw[if_neg h1,fW]at h;exact ret h
 cases tw with
 |false=>exact aZ rfl (rest 0 h)
 |true=>
  refine bF rfl ?_;cases ar with
  |false=>exact aZ rfl (rest (0+S.iy) (by rw[mB];exact h))
  |true=>exact bF rfl (rest (0+S.ar) (by rw[mB];exact h))
structure gN where
 a:aC
 w:Int
 hi:Int
 Gg:Int
 ha:Int
 Z:List (Int×Int)
 done:Int
noncomputable def sW(r:Int×Int):V:=.aV [.i r.1,.i r.2]
def gN.v(s:gN):V:=.eS s.a 637 [0,30,31,32,33,34] [.i s.w,.i s.hi,.i s.Gg,.i s.ha,.aV (s.Z.map sW),.i s.done]
noncomputable def gN.bP(s:gN):Int:=if s.Z≠ []then s.Z.length- 1 else if s.hi≠0 then s.ha.natAbs else 0
def gN.ok(s:gN)(size:Int):Prop:=(s.Z=[]/\s.hi=0/\s.w=size)\/(s.Z=[]/\s.hi=7/\s.ha=0/\s.Gg=size)\/(s.Z=[(0,size),(5,size),(-2,size)])\/(s.Z=[]/\s.hi=-6/\s.ha=-40/\s.Gg=size)
theorem af2(T:Top X){s:gN}(h:Q (.i s.bP) G):aB X (k+1) (.L (.ref 627)) [s.v] G Q:=by
 refine ZA T rfl ?_;unfold gN.bP at h;cases hr:s.Z with
 |nil=>
  rw[hr,if_neg (λe=>e rfl)]at h;refine aZ (by rw[hr];rfl) (mM (λh1=>?_) λh1=>?_)
  .rw[if_pos h1]at h;exact ret h
  .rw[if_neg (by simpa using h1)]at h;exact ret h
 |cons r aQ=>
  rw[hr,if_pos (λe=>by cases e)]at h;refine bF (by rw[hr];rfl) ?_;have e:((s.Z.map sW).length:Int)- 1=((r::aQ).length:Int)- 1:=by rw[cm,hr]
  refine ret ?_;rw[e];exact h
theorem NO(T:Top X){s:gN}{size n:Int}(hs:s.ok size)(hn:1<=n/\n<=40)(h:∀i,(-10<=i/\i<=10)->Q (.aV [.i i,.i size]) G):aB X (k+2) (.L (.ref 634)) [s.v,.i n] G Q:=by
 refine ZC T rfl ⟨kF (by decide) (by decide),?_⟩;refine oo T (by exact(O [_] [] (.i (.c (.l 1 .x) (.l .x 40)) (.c (.l 1 .x) (.l .x (.m 2 2147483647))))) hn) (aZ rfl ?_);rcases hs with⟨h1,h2,h3⟩|⟨h1,h2,h3,h4⟩|h1|⟨h1,h2,h3,h4⟩
 .refine aZ (by rw[h1];rfl) (iW h2 (bF rfl (ret ?_)));rw[h3];exact h 0 (by decide)
 .refine aZ (by rw[h1];rfl) (eN (by rw[h2];decide) (aZ ?_ (ret ?_)))
  .rw[h3];simp;exact(O [_] [] (.i (.c (.l 1 .x) (.l .x 40)) (.t 0 .x))) hn
  .rw[h2,h4];exact h 7 (by decide)
 .refine bF (by rw[h1];rfl) ?_;have e:((s.Z.map sW).length:Int)=3:=by rw[cm,h1];rfl
  have go:∀(i:Nat) (w:Int),n- 1=i\/(3<=n/\i=2)->i<3->(s.Z[i]?=I (w,size))->j7 (s.Z.map sW) (eQ n ((s.Z.map sW).length:Int)- 1)=I (sW (w,size)):=by
   intro i w hi hl bz;rw[e];have:eQ n 3- 1=(i:Int):=by exact(O [_] [_] (.i (.c (.l 1 .x) (.l .x 40)) (.i (.d (.e (.s .x 1) (.c .x)) (.c (.l 3 .x) (.E .x 2))) (.i (.U .x 3) (.e (.s (.i .x 3) 1) (.c .x)))))) hn hi hl
   rw[this];exact iJ bz
  rcases(by exact(O [_] [] (.i (.c (.l 1 .x) (.l .x 40)) (.d (.e .x 1) (.d (.e .x 2) (.l 3 .x))))) hn:n=1\/n=2\/3<=n)with rfl|rfl|h3
  .exact dg (go 0 0 (.inl (by decide)) (by decide) (by rw[h1];rfl)) (ret (h 0 (by decide)))
  .exact dg (go 1 5 (.inl (by decide)) (by decide) (by rw[h1];rfl)) (ret (h 5 (by decide)))
  .exact dg (go 2 (-2) (.inr ⟨h3,rfl⟩) (by decide) (by rw[h1];rfl)) (ret (h (-2) (by decide)))
 .refine aZ (by rw[h1];rfl) (eN (by rw[h2];decide) (aZ ?_ (ret ?_)))
  .rw[h3];simp;exact(O [_] [] (.i (.c (.l 1 .x) (.l .x 40)) (.l .x 40))) hn
  .rw[h2,h4];exact h 0 (by decide)
theorem Cd(T:Top X)(h1:hY w)(h2:hY hi)(h3:hY (w- hi.natAbs))(h4:zl ha)(h5:∀r∈Z,hY r.1/\hY r.2)(h6:0<=done/\done<=2147483647)(h:∀a,Q (gN.v ⟨a,w,hi,w- hi.natAbs,ha,Z,done⟩) G):aB X (k+4) (.L (.ref 637)) [.i w,.i hi,.i ha,.aV (Z.map sW),.i done] G Q:=by refine jL T (fJ (i:=13) rfl) λa e c=>Zy T rfl ?_;refine iX T h1 (b7 rfl rfl (iX T h2 (b7 rfl rfl ?_)));refine iX T h3 (b7 rfl rfl (nF T h4 (b7 rfl rfl ?_)));refine vG sW sW Z (λr b R d=>⟨rfl,bF rfl (iX T (h5 r b).1 (iX T (h5 r b).2 d))⟩) ?_;refine b7 rfl rfl ?_;exact oo T h6 (aZ rfl (b7 rfl rfl (jZ c (h a))))
theorem af3(T:Top X)(h1:hY w)(h:∀a,Q (gN.v ⟨a,w,0,w,1,[],0⟩) G):aB X (k+4) (.L (.ref 637)) [.i w] G Q:=by refine jL T (fJ (i:=13) rfl) λa d b=>Zz T rfl ?_;refine iX T h1 (b7 rfl rfl (iX T (by decide) (b7 rfl rfl ?_)));refine iX T (by exact(O [_] [] (.i (.c (.l (.k (-1073741823)) .x) (.l .x 1073741823)) (.c (.l (.k (-1073741823)) (.s .x (.c (.n 0)))) (.l (.s .x (.c (.n 0))) 1073741823)))) h1) (b7 rfl rfl (nF T (by decide) (b7 rfl rfl ?_)));refine b7 rfl rfl ?_;refine oo T (by decide) (aZ rfl (b7 rfl rfl (jZ b ?_)));have e:w- ((0:Int).natAbs:Int)=w:=Int.sub_zero w;have:=h a;rw[show gN.v ⟨a,w,0,w,1,[],0⟩=gN.v ⟨a,w,0,w- ((0:Int).natAbs:Int),1,[],0⟩ by rw[e]]at this;exact this
theorem af4(T:Top X)(h:∀a dx b c,G dx=aa->Q (.o a 658 dx) (G.s dx (.eE [35,36,37,38,39,40,41,42,43,44,45,46] [.i 0,.i 10000,.i 0,.i 0,.i 0,.i 0,.i 0,.i 0,.i 0,.i 0,fK b 0 0 0 0 0,fK c 0 0 0 0 0]))):aB X (k+6) (.L (.ref 658)) [] G Q:=by refine jL T (fJ (i:=14) rfl) λa dx d=>ZD T rfl ?_;refine b7 rfl rfl ?_;refine b7 rfl rfl (b7 rfl rfl (b7 rfl rfl (b7 rfl rfl (b7 rfl rfl (b7 rfl rfl (b7 rfl rfl (b7 rfl rfl (b7 rfl rfl ?_))))))));refine FY T λb=>b7 rfl rfl (FY T λc=>b7 rfl rfl (ret ⟨rfl,.inl (h a dx b c d)⟩))
structure Tr where
 a:aC
 S:bk
 sh:gN
 most:Int
 gr:Sm
 last:Bool
 bP:Int
def Tr.v(t:Tr):V:=.eS t.a 700 [52,53,54,55,56,57] [t.S.v,t.sh.v,.i t.most,t.gr.v,.b t.last,.i t.bP]
theorem af5(T:Top X){S:bk}{sh:gN}{most:Int}{gr:Sm}{last:Bool}(h:∀a,Q (Tr.v ⟨a,S,sh,most,gr,last,if S.loose=0 then sh.bP else 2*2147483647⟩) G):aB X (k+4) (.L (.ref 700)) [S.v,sh.v,.i most,gr.v,.b last] G Q:=by
 refine jL T (fJ (i:=16) rfl) λa dx dY=>ZF T rfl ?_;have h:=h a;refine b7 rfl rfl ?_;refine b7 rfl rfl (b7 rfl rfl (b7 rfl rfl (b7 rfl rfl ?_)));refine cv (λe=>?_) λe=>?_
 .rw[if_pos e]at h;exact af2 T (b7 rfl rfl (jZ dY h))
 .rw[if_neg e]at h;exact⟨kF (by decide) (by decide),b7 rfl rfl (jZ dY h)⟩
abbrev fN(i:Int):Prop:=-100000<=i/\i<=100000
abbrev Gl.ok(g:Gl):Prop:=(-1000<=g.w/\g.w<=1000)/\(0<=g.s/\g.s<=1000)/\(0<=g.so/\g.so<=3)/\(0<=g.h/\g.h<=1000)
structure bk.ok(S:bk):Prop where
 lp:fN S.lp
 hp:fN S.hp
 ep:fN S.ep
 ed:fN S.ed
 iy:fN S.iy
 ar:fN S.ar
 loose:fN S.loose
 l:S.l.ok
 r:S.r.ok
theorem af6(T:Top X){S:bk}(hS:S.ok)(h:Q .n G):aB X (k+3) (.L (.ref 711)) [S.v] G Q:=by
 refine ZG T rfl ?_;have n:∀{i:Int},fN i->zl i:=λh=>by exact(O [_] [] (.i (.c (.l (.k (-100000)) .x) (.l .x 100000)) (.c (.l (.k (-2147483647)) .x) (.l .x 2147483647)))) h
 refine nF T (by decide) (nF T (by decide) (nF T (n hS.lp) (nF T (n hS.hp) (nF T (n hS.ep) ?_))));refine nF T (n hS.ed) (nF T (n hS.iy) (nF T (n hS.ar) (nF T (n hS.loose) ?_)));exact iX T (by decide) (ret h)
inductive aE where
 |iL(s:aY)(line fL bc:Int)
 |n(s:aY)(line fL bc:Int)(bf:aE)
noncomputable def aE.ctorIdx(x:aE):Nat:=@aE.casesOn (λ_=>Nat) x (λ_ _ _ _=>0) (λ_ _ _ _ _=>1)
noncomputable def aE.s:aE->aY
 |.iL s _ _ _=>s
 |.n s _ _ _ _=>s
noncomputable def aE.line:aE->Int
 |.iL _ l _ _=>l
 |.n _ l _ _ _=>l
noncomputable def aE.fL:aE->Int
 |.iL _ _ f _=>f
 |.n _ _ f _ _=>f
noncomputable def aE.bc:aE->Int
 |.iL _ _ _ d=>d
 |.n _ _ _ d _=>d
noncomputable def lF:V->aE->Prop
 |v,.iL s l f d=>∃a,v=xx a s.v l f d .n
 |v,.n s l f d bf=>∃a g6,v=xx a s.v l f d g6/\lF g6 bf
theorem lF.v{v:V}:∀{w:aE},lF v w->∃a g6,v=xx a w.s.v w.line w.fL w.bc g6
 |.iL ..,⟨a,e⟩=>⟨a,_,e⟩
 |.n ..,⟨a,g6,e,_⟩=>⟨a,g6,e⟩
noncomputable def k8:List V->List aE->Prop
 |vs,[]=>vs=[]
 |vs,w::ws=>∃v iF,vs=v::iF/\lF v w/\k8 iF ws
theorem k8.length{vs:List V}:∀{ws:List aE},k8 vs ws->vs.length=ws.length
 |[],h=>by obtain rfl:=h;rfl
 |_::_,⟨_,_,e,_,h⟩=>by subst e;exact congrArg (· +1) h.length
theorem k8.mN{vs:List V}{v:V}{w:aE}(hv:lF v w):∀{ws:List aE},k8 vs ws->k8 (vs++[v]) (ws++[w])
 |[],h=>by obtain rfl:=h;exact⟨v,[],rfl,hv,rfl⟩
 |_::_,⟨_,_,e,h1,h⟩=>by subst e;exact⟨_,_,rfl,h1,h.mN hv⟩
theorem k8.empty(h:k8 vs ws):vs.isEmpty=ws.isEmpty:=by
 cases ws with
 |nil=>obtain rfl:=h;rfl
 |cons=>obtain⟨_,_,rfl,_⟩:=h;rfl
noncomputable def bJ{aK:Type}:List (Int×aK)->Int->Option aK
 |[],_=>aa
 |(n,v)::r,x=>if n=x then I v else bJ r x
noncomputable def dQ{aK:Type}:List (Int×aK)->Int->aK->List (Int×aK)
 |[],x,u=>[(x,u)]
 |(n,v)::r,x,u=>if n=x then(n,u)::r else(n,v)::dQ r x u
theorem zw(x:Int)(u:aK):∀l:List (Int×aK),mZ (l.map (·.1)) x=(dQ l x u).map (·.1):=by
 intro b;induction b with
 |nil=>exact rfl
 |cons c r a=>
  obtain⟨n,v⟩:=c;have a:=a;unfold mZ at a⊢;unfold dQ;by_cases h:n=x
  .subst h;simp
  .have d:¬x=n:=λe=>h e.symm;simp only[oV,sR,d,false_or,if_neg h];rw[<- a];split<;>rfl
structure gv where
 bc:Int
 w:aE
 line:Int
def zy(v:V)(b:gv):Prop:=∃eB,v=.aV [.i b.bc,eB,.i b.line]/\lF eB b.w
noncomputable def sX:List V->List (Int×gv)->Prop
 |vs,[]=>vs=[]
 |vs,p::r=>∃v iF,vs=v::iF/\zy v p.2/\sX iF r
theorem sX.get:∀{l:List (Int×gv)} {vs:List V},sX vs l->(iR (l.map (·.1)) vs x=aa/\bJ l x=aa)\/∃v b,iR (l.map (·.1)) vs x=I v/\bJ l x=I b/\zy v b:=by
 intro a;induction a with
 |nil=>intro _ h;obtain rfl:=h;exact .inl ⟨rfl,rfl⟩
 |cons c r d=>
  intro _;intro f;obtain⟨v,i,e,g,h⟩:=f;obtain⟨n,b⟩:=c;subst e;by_cases q:n=x
  .exact .inr ⟨v,b,by simp[iR,q],by simp[bJ,q],g⟩
  .have:=d h;simpa[iR,bJ,q]using this
theorem sX.iZ(hv:zy v b):∀{l:List (Int×gv)} {vs:List V},sX vs l->sX (mF (l.map (·.1)) vs x v) (dQ l x b)
 |[],_,h=>by obtain rfl:=h;exact⟨v,[],rfl,hv,rfl⟩
 |(n,a)::r,_,⟨d,c,e,f,h⟩=>by
  subst e;by_cases q:n=x
  .rw[show dQ ((n,a)::r) x b=(n,b)::r from if_pos q];rw[show mF (((n,a)::r).map (·.1)) (d::c) x v=v::c from if_pos q];exact⟨v,c,rfl,hv,h⟩
  .rw[show dQ ((n,a)::r) x b=(n,a)::dQ r x b from if_neg q];rw[show mF (((n,a)::r).map (·.1)) (d::c) x v=d::mF (r.map (·.1)) c x v from if_neg q];exact⟨d,_,rfl,f,h.iZ hv⟩
noncomputable def lV(l:List (Int×Int)):List V:=l.map λp=>.i p.2
theorem Ce(x:Int):∀l:List (Int×Int),iR (l.map (·.1)) (lV l) x=(bJ l x).map V.i:=by
 intro a;induction a with
 |nil=>exact rfl
 |cons c r d=>
  obtain⟨n,b⟩:=c;by_cases q:n=x
  .simp[iR,bJ,lV,q]
  .have:=d;simpa[iR,bJ,lV,q]using this
theorem Gh(x u:Int):∀l:List (Int×Int),mF (l.map (·.1)) (lV l) x (.i u)=lV (dQ l x u):=by
 intro a;induction a with
 |nil=>exact rfl
 |cons c r d=>
  obtain⟨n,b⟩:=c;by_cases q:n=x
  .rw[show dQ ((n,b)::r) x u=(n,u)::r from if_pos q];exact if_pos q
  .rw[show dQ ((n,b)::r) x u=(n,b)::dQ r x u from if_neg q];have:=d;exact(if_neg q).trans (congrArg (V.i b::·) this)
theorem Gi(h:G a=I (.dk ks vs)):tI G (.r a)=I (ks,vs):=congrArg dictAt h
theorem NP(h:G a=I (.dk ks vs)):AD G (.r a):=congrArg (λo=>(dictAt o).isSome) h
theorem af7(h:G a=I (.dk ks vs)):qT G .Eq (.r a) (.dk [] [])=I ks.isEmpty:=by have e:wF G (.r a) (.dk [] [])=I ks.isEmpty:=congrArg (λo=>(dictAt o).map λd:List Int×List V=>d.1.isEmpty) h;unfold qT wG;dsimp only;rw[e]
theorem af8(h:G a=I (.l xs)):qT G .Eq (.r a) (.l [])=I xs.isEmpty:=by have e:wF G (.r a) (.l [])=I xs.isEmpty:=congrArg (λo=>(lq o).map λl:List V=>l.isEmpty) h;unfold qT wG;dsimp only;rw[e]
theorem NQ(h:G a=I (.dk ks vs)):r8 G (.r a) (.i i)=iR ks vs i:=congrArg (DP · i) h
structure dJ where
 bT:List aE
 bt:List (Int×gv)
 a9:List (Int×Int)
structure kn(G:J)(rk rb rl:aC)(s:dJ)(ae:J):Prop where
 le:J.le G ae
 nk:G rk=aa
 lY:G rb=aa
 gE:G rl=aa
 kb:rk≠rb
 kl:rk≠rl
 bl:rb≠rl
 k:∃vs,ae rk=I (.l vs)/\k8 vs s.bT
 b:∃vs,ae rb=I (.dk (s.bt.map (·.1)) vs)/\sX vs s.bt
 l:ae rl=I (.dk (s.a9.map (·.1)) (lV s.a9))
theorem kn.NR(x:kn G rk rb rl s ae)(hk:ae rk=I (.l vs))(h:k8 vs s.bT)(hv:lF v w):kn G rk rb rl ⟨s.bT++[w],s.bt,s.a9⟩ (ae.s rk (.l (vs++[v]))):=⟨x.le.s x.nk,x.nk,x.lY,x.gE,x.kb,x.kl,x.bl,⟨_,J.bY,h.mN hv⟩,by rw[J.cC x.kb.symm];exact x.b,by rw[J.cC x.kl.symm];exact x.l⟩
theorem kn.af9{rk rb rl:aC}{s:dJ}{vs:List V}{v:V}{i:Int}{b:gv}(x:kn G rk rb rl s ae)(h:sX vs s.bt)(hv:zy v b):kn G rk rb rl ⟨s.bT,dQ s.bt i b,s.a9⟩ (ae.s rb (.dk (mZ (s.bt.map (·.1)) i) (mF (s.bt.map (·.1)) vs i v))):=⟨x.le.s x.lY,x.nk,x.lY,x.gE,x.kb,x.kl,x.bl,by rw[J.cC x.kb];exact x.k,⟨_,by rw[J.bY,zw],h.iZ hv⟩,by rw[J.cC x.bl.symm];exact x.l⟩
theorem kn.putL(x:kn G rk rb rl s ae):kn G rk rb rl ⟨s.bT,s.bt,dQ s.a9 i u⟩ (ae.s rl (.dk (mZ (s.a9.map (·.1)) i) (mF (s.a9.map (·.1)) (lV s.a9) i (.i u)))):=⟨x.le.s x.gE,x.nk,x.lY,x.gE,x.kb,x.kl,x.bl,(J.cC x.kl)▸x.k,(J.cC x.bl)▸x.b,by rw[J.bY,zw i u,Gh]⟩
def bQ(t:Tr)(sp:aY)(w:aE):Sm:=if sp.p<w.s.cP then t.gr else ot w.s.b sp.e t.gr
noncomputable def kI(cW:Int)(sp:aY):Bool:=a6 (10000<cW)||decide (sp.bD=-10000)
def nH(t:Tr)(cW:Int)(sp:aY)(aL i:Nat)(s:dJ):Bool:=kI cW sp&&(t.last&&(s.bT.isEmpty&&(s.bt.isEmpty&&a6 ((i:Int)=(aL:Int)- 1))))
def zz(sp:aY)(w:aE):Bool:=a6 (sp.dv=1)&&a6 (w.s.dv=1)
def ko(t:Tr)(sp:aY)(ar:Bool)(w:aE)(bf:Int×Int):Int:=w.bc+(zv t.S bf.1 sp.bD+Cc t.S (zz sp w) ar (bf.2- w.fL).natAbs)
def nI(s:dJ)(g f:Int)(b:gv):dJ:=if(match bJ s.bt (4*g+f)with|none=>ai|some o=>a6 (b.bc<=o.bc))=ai then⟨s.bT,dQ s.bt (4*g+f) b,dQ s.a9 g (eQ b.bc ((bJ s.a9 g).getD b.bc))⟩else s
def fO(cW:Int)(sp:aY)(w:aE)(s:dJ):dJ:=if kI cW sp=ai then s else⟨s.bT++[w],s.bt,s.a9⟩
def kJ(t:Tr)(size:Int)(sp:aY)(ar:Bool)(aL i:Nat)(s:dJ)(w:aE):dJ:=
 let bf:=cA size (bQ t sp w)
 let NS:=nH t bf.1 sp aL i s
 let aD:=fO bf.1 sp w s
 if(a6 (t.most<bf.1)&& !NS)=ai then aD else nI aD (eQ (w.line+1) (t.bP+1)) bf.2 ⟨if NS=ai then w.bc else ko t sp ar w bf,w,w.line+1⟩
def Gj(size:Int)(m:Sm):Prop:=(-1000000000<=size- m.n/\size- m.n<=1000000000)/\m.a<1000000000/\m.h<1000000000
abbrev W0(ag0 sv av:V)(ar:Bool)(sp:aY)(S:V)(rk rb rl:aC)(r:ay):ay:=I ag0::I sv::I av::I (.b ar)::I (.i sp.p)::I (.i sp.bD)::I (.i sp.dv)::I sp.e.v::I S::I (.r rk)::I (.r rb)::I (.r rl)::r
theorem ag1(h:G a=I (.dk (l.map (·.1)) (lV l)))(q:R (.i ((bJ l g).getD d))):wJ G (.r a) [.i g,.i d] R:=by refine⟨cz (Gi h) ?_⟩;show R ((iR (l.map (·.1)) (lV l) g).getD (.i d));rw[Ce];cases e:bJ l g<;>rw[e]at q<;>exact q
theorem ag2(h:G a=I (.dk (l.map (·.1)) vs))(hb:sX vs l)(q1:bJ l x=aa->R .n)(q2:∀v b,bJ l x=I b->zy v b->R v):wJ G (.r a) [.i x] R:=by
 refine⟨cz (Gi h) ?_⟩;show R ((iR (l.map (·.1)) vs x).getD .n);rcases hb.get (x:=x)with⟨c,d⟩|⟨v,b,c,d,e⟩
 .rw[c];exact q1 d
 .rw[c];exact q2 v b d e
theorem ag3(T:Top X){t:Tr}{sp:aY}{ar:Bool}{av eB g6:V}{a:aC}{rk rb rl:aC}{s:dJ}{w:aE}{i:Nat}{line fL bc:Int}{dF eX iz gx gF fu:Option V}{K:Fl->ay->J->Prop}(x:kn G rk rb rl s ae)(aj:eB=xx a w.s.v w.line w.fL w.bc g6)(hv:lF eB w)(hl:(-100<=line/\line<=100))(aT:0<=fL/\fL<=3)(hb:s.bt.length<=1000)(zA:s.a9.length<=1000)(eO:0<=t.bP/\t.bP<=10000000000)(h:∀gF fu ae,kn G rk rb rl (nI s (eQ line (t.bP+1)) fL ⟨bc,w,line⟩) ae->K .n (W0 t.v sp.v av ar sp t.S.v rk rb rl [I (.i i),I eB,I (.i line),dF,eX,I (.i fL),iz,I (.i bc),gx,gF,fu]) ae):bK IR.a8 (aB X k) (Ss.d 8 IR.om) (W0 t.v sp.v av ar sp t.S.v rk rb rl [I (.i i),I eB,I (.i line),dF,eX,I (.i fL),iz,I (.i bc),gx,gF,fu]) ae K:=by
 obtain⟨Gk,Gm,NT⟩:=x.b;generalize hg:eQ line (t.bP+1)=g at h;have iZ:(match bJ s.bt (4*g+fL)with|none=>ai|some o=>a6 (bc<=o.bc))=ai->∀fu,
   bK IR.a8 (aB X k) (match Ss.d 10 IR.om with|.c (.ite _ b _) _=>b|_=>.n) (W0 t.v sp.v av ar sp t.S.v rk rb rl [I (.i i),I eB,I (.i line),dF,eX,I (.i fL),iz,I (.i bc),gx,I (.i g),fu]) ae (nZ (bK IR.a8 (aB X k) .n) K):=by
  intro hp fu;unfold nI at h;dsimp only at h;rw[if_pos hp]at h;refine⟨kF (by decide) (by decide),cz Gm ⟨⟨by rw[cm];simp[cK];exact(O [] [_] (.i (.ag .x 1000) (.ag .x 99999))) hb⟩,?_⟩⟩;have fq:=x.af9 (i:=4*g+fL) (v:=.aV [.i bc,eB,.i line]) (b:=⟨bc,w,line⟩) NT ⟨eB,rfl,hv⟩;refine⟨NP fq.l,ag1 fq.l ?_⟩;refine cz fq.l ⟨⟨by rw[cm];simp[cK];exact(O [] [_] (.i (.ag .x 1000) (.ag .x 99999))) zA⟩,?_⟩;exact h _ _ _ fq.putL
 have bO:¬(match bJ s.bt (4*g+fL)with|none=>ai|some o=>a6 (bc<=o.bc))=ai->∀fu,K .n (W0 t.v sp.v av ar sp t.S.v rk rb rl [I (.i i),I eB,I (.i line),dF,eX,I (.i fL),iz,I (.i bc),gx,I (.i g),fu]) ae:=by intro hp fu;unfold nI at h;dsimp only at h;rw[if_neg hp]at h;exact h _ _ _ x
 subst hg;refine⟨NP Gm,kF (by decide) (by decide),ag2 Gm NT (λe=>?_) λv b e fR=>?_⟩
 .exact bF rfl (bF rfl (iZ (by rw[e]) _))
 .obtain⟨aU2,rfl,_⟩:=fR;refine aZ rfl (cv (λh1=>?_) λh1=>?_)
  .exact iZ (by rw[e];exact decide_eq_true h1) _
  .exact bO (by rw[e];simpa using h1) _
theorem vL(size:Int)(m:Sm):0<=(cA size m).2/\(cA size m).2<=3:=by
 unfold cA zr zu
 repeat' split
 all_goals (dsimp only;(first|exact O [] [] (.c (.l 0 2) (.l 2 3))|exact O [] [] (.c (.l 0 0) (.l 0 3))|exact O [] [] (.c (.l 0 1) (.l 1 3))|exact O [] [] (.c (.l 0 3) (.l 3 3))))
theorem ag4(T:Top X)(hsh:t.sh.ok size)(x:kn G rk rb rl s ae)(hv:lF eB w)(hl:0<=w.line/\w.line<=30)(qw:Gj size (bQ t sp w))(hb:s.bt.length<=1000)(zA:s.a9.length<=1000)(hk:s.bT.length<=1000)(eO:0<=t.bP/\t.bP<=10000000000)(Gn:-100000<=sp.bD/\sp.bD<=100000)(h:∀fl eI dF eX jw iz i0 gx gF fu ae,fl=Fl.n\/fl=Fl.c->kn G rk rb rl (kJ t size sp ar fZ.length i s w) ae->K fl (W0 t.v sp.v (.l fZ) ar sp t.S.v rk rb rl [I (.i i),I eB,eI,dF,eX,jw,iz,i0,gx,gF,fu]) ae):bK IR.a8 (aB X (k+2)) IR.om (W0 t.v sp.v (.l fZ) ar sp t.S.v rk rb rl [I (.i i),I eB,eI,dF,eX,jw,iz,i0,gx,gF,fu]) ae K:=by
 obtain⟨a,Z,B⟩:=hv.v;have C:∀m,m=bQ t sp w->bK IR.a8 (aB X (k+2)) (Ss.d 2 IR.om) (W0 t.v sp.v (.l fZ) ar sp t.S.v rk rb rl [I (.i i),I eB,I (.i (w.line+1)),I m.v,eX,jw,iz,i0,gx,gF,fu]) ae K:=by
  intro m em;rw[<- em]at qw;refine NO T hsh (by exact(O [_] [] (.i (.c (.l 0 .x) (.l .x 30)) (.c (.l 1 (.p .x 1)) (.l (.p .x 1) 40)))) hl) λow _=>?_;refine ae9 T qw.1 qw.2.1 qw.2.2 ⟨rfl,?_⟩;have dr:=vL size m;have e1:cA size (bQ t sp w)=cA size m:=by rw[em]
  unfold kJ at h;dsimp only at h;rw[e1]at h;generalize cA size m=bf at h dr;obtain⟨cW,j⟩:=bf;dsimp only at h dr;have q:∀(r:Bool) o,r=nH t cW sp fZ.length i s->kn G rk rb rl (fO cW sp w s) o->bK IR.a8 (aB X (k+2)) (Ss.d 5 IR.om)
    (W0 t.v sp.v (.l fZ) ar sp t.S.v rk rb rl [I (.i i),I eB,I (.i (w.line+1)),I m.v,I (.i cW),I (.i j),I (.b r),i0,gx,gF,fu]) o K:=by
   intro r o er D;rw[<- er]at h;have M:(fO cW sp w s).bt.length<=1000:=by unfold fO;split<;>exact hb
   have N:(fO cW sp w s).a9.length<=1000:=by unfold fO;split<;>exact zA
   generalize kV:fO cW sp w s=aD at h D M N;have P:(a6 (t.most<cW)&& !r)=ak->∀E gx,(E=if r=ai then w.bc else ko t sp ar w (cW,j))->bK IR.a8 (aB X (k+2)) (Ss.d 8 IR.om)
     (W0 t.v sp.v (.l fZ) ar sp t.S.v rk rb rl [I (.i i),I eB,I (.i (w.line+1)),I m.v,I (.i cW),I (.i j),I (.b r),I (.i E),gx,gF,fu]) o K:=by
    intro y E gx F;rw[y,if_neg (by decide),<- F]at h;exact ag3 T D B hv (by exact(O [_] [] (.i (.c (.l 0 .x) (.l .x 30)) (.c (.l (.k (-100)) (.p .x 1)) (.l (.p .x 1) 100)))) hl) dr M N eO λgF fu aU3 KH=>h _ _ _ _ _ _ _ _ _ _ _ (.inl rfl) KH
   have R:(a6 (t.most<cW)&& !r)=ak->bK IR.a8 (aB X (k+2)) (Ss.d 6 IR.om)
     (W0 t.v sp.v (.l fZ) ar sp t.S.v rk rb rl [I (.i i),I eB,I (.i (w.line+1)),I m.v,I (.i cW),I (.i j),I (.b r),i0,gx,gF,fu]) o K:=by
    intro y;subst B;cases r with
    |true=>exact aZ rfl (vH (P y _ _ rfl))
    |false=>
     refine bF rfl ?_;have U:∀H,H=zz sp w->bK IR.a8 (aB X (k+2)) (match Ss.d 7 IR.om with|.c (.ite _ b _) _=>Ss.d 1 b|_=>.n)
       (W0 t.v sp.v (.l fZ) ar sp t.S.v rk rb rl [I (.i i),I (xx a w.s.v w.line w.fL w.bc Z),I (.i (w.line+1)),I m.v,I (.i cW),I (.i j),I (.b ak),I (.i w.bc),I (.b H),gF,fu]) o (nZ (bK IR.a8 (aB X (k+2)) (Ss.d 8 IR.om)) K):=by
      intro H et;refine af0 T Gn (af1 T (P y _ _ ?_));rw[et];rfl
     refine cv (λf=>U _ ?_) λf=>U _ ?_
     .unfold zz;rw[decide_eq_true f];rfl
     .unfold zz;rw[decide_eq_false f];rfl
   refine cv (λf=>?_) λf=>?_
   .cases r with
    |true=>exact aZ rfl (vH (R (by rw[decide_eq_true f];rfl)))
    |false=>refine bF rfl ?_;rw[decide_eq_true f]at h;exact h _ _ _ _ _ _ _ _ _ _ _ (.inr rfl) D
   .exact aZ rfl (vH (R (by rw[decide_eq_false f];rfl)))
  obtain⟨NV,z,L⟩:=x.k;obtain⟨Gk,b1,b2⟩:=x.b;have W:kI cW sp=ai->bK IR.a8 (aB X (k+2)) (match Ss.d 4 IR.om with|.c (.ite _ b _) _=>b|_=>.n)
    (W0 t.v sp.v (.l fZ) ar sp t.S.v rk rb rl [I (.i i),I eB,I (.i (w.line+1)),I m.v,I (.i cW),I (.i j),I (.b ak),i0,gx,gF,fu]) ae (nZ (bK IR.a8 (aB X (k+2)) (Ss.d 5 IR.om)) K):=by
   intro u;have A:kn G rk rb rl (fO cW sp w s) ae:=by unfold fO;rw[if_pos u];exact x
   have er:∀r,r=(t.last&&(s.bT.isEmpty&&(s.bt.isEmpty&&a6 ((i:Int)=(fZ.length:Int)- 1))))->r=nH t cW sp fZ.length i s:=λr e=>by unfold nH;rw[u,e];rfl
   cases f:t.last with
   |false=>exact aZ f (q _ _ (er _ (by rw[f];rfl)) A)
   |true=>
    refine bF f (cz (af8 z) ?_);rw[L.empty];cases g:s.bT.isEmpty with
    |false=>exact aZ rfl (q _ _ (er _ (by rw[f,g];rfl)) A)
    |true=>
     refine bF rfl (cz (af7 b1) ?_);have e3:(s.bt.map (·.1)).isEmpty=s.bt.isEmpty:=by cases s.bt<;>rfl
     rw[e3];cases Y:s.bt.isEmpty with
     |false=>exact aZ rfl (q _ _ (er _ (by rw[f,g,Y];rfl)) A)
     |true=>exact bF rfl (q _ _ (er _ (by rw[f,g,Y];rfl)) A)
  refine cv (λf=>bF rfl (W (by unfold kI;rw[decide_eq_true f];rfl))) λf=>cv (λg=>W (by unfold kI;rw[decide_eq_true g];simp)) λg=>?_;have u:kI cW sp=false:=by unfold kI;rw[decide_eq_false f,decide_eq_false g];rfl
  refine⟨kG rfl z,cz (km z) ⟨⟨by rw[L.length];simp[cK];exact(O [] [_] (.i (.ag .x 1000) (.ag .x 99999))) hk⟩,?_⟩⟩;refine q _ _ (by unfold nH;rw[u];rfl) ?_;unfold fO;rw[if_neg (by rw[u];decide)];exact x.NR z L hv
 subst B;unfold bQ at C;refine cv (λf=>C _ (if_pos f).symm) λf=>ae7 T (C _ (if_neg f).symm)
theorem NX:∀(N:Nat) (l:List Int),l.Nodup->(∀x∈l,0<=x/\x<N)->l.length<=N:=by
 intro b;induction b with
 |zero=>
  intro l _ h;cases l with
  |nil=>exact gB 0
  |cons x l=>have:=h x (.head _);exact(O [_] [_] (.i (.c (.l 0 .x) (.t .x (.c 0))) (.ag .x 0))) this
 |succ N d=>
  intro l aF h;have:=d (l.erase (N:Int)) (aF.erase _) λx f=>by
   have a:=(List.Nodup.mem_erase_iff aF).mp f;have:=h x a.2;have:=a.1;exact(O [_] [_] (.i (.c (.l 0 .x) (.t .x (.c (.p .x 1)))) (.i (.n (.e .x (.c .x))) (.c (.l 0 .x) (.t .x (.c .x)))))) ‹_› this
  rw[List.length_erase]at this;split at this<;>(first|exact(O [] [_,_] (.i (.ag (.s .x 1) .y) (.ag .x (.p .y 1)))) this|exact(O [] [_,_] (.i (.ag .x .y) (.ag .x (.p .y 1)))) this)
theorem mf(x y:Int)(u:aK):∀l:List (Int×aK),bJ (dQ l x u) y=if x=y then I u else bJ l y:=by
 intro c;induction c with
 |nil=>unfold dQ bJ;split<;>rfl
 |cons d r b=>
  obtain⟨n,v⟩:=d;have b:=b;by_cases h:n=x
  .subst h;rw[show dQ ((n,v)::r) n u=(n,u)::r from if_pos rfl];unfold bJ;by_cases a:n=y<;>simp[a]
  .rw[show dQ ((n,v)::r) x u=(n,v)::dQ r x u from if_neg h];unfold bJ;rw[b];by_cases a:n=y
   .have:¬x=y:=λe=>h (a.trans e.symm);simp[a,this]
   .simp[a]
theorem Cf:∀{l:List (Int×aK)},x∈l.map (·.1)↔(bJ l x).isSome=true:=by
 intro b;induction b with
 |nil=>simp[bJ]
 |cons c r a=>
  obtain⟨n,v⟩:=c;have a:=a;by_cases h:n=x
  .subst h;simp[bJ]
  .have:¬x=n:=λe=>h e.symm;simpa[bJ,h,this]using a
structure qx(s:dJ):Prop where
 a9:∀n,n∈s.bt.map (·.1)->(bJ s.a9 (n.fdiv 4)).isSome=ai
 rN:∀n,n∈s.bt.map (·.1)->0<=n/\n<56
 nd:(s.bt.map (·.1)).Nodup
theorem NY{aK:Type}{x y:Int}{u:aK}{l:List (Int×aK)}:y∈(dQ l x u).map (·.1)↔x=y\/y∈l.map (·.1):=by rw[Cf,Cf,mf];by_cases h:x=y<;>simp[h]
theorem ag6{aK:Type}{x:Int}{u:aK}{l:List (Int×aK)}(h:(l.map (·.1)).Nodup):((dQ l x u).map (·.1)).Nodup:=by
 rw[<- zw];unfold mZ;split
 .exact h
 .rename_i hx;exact List.nodup_append.mpr ⟨h,(of_decide_eq_true rfl),λa ha b hb=>by
   obtain rfl:=List.mem_singleton.mp hb;exactλe=>hx (e▸ha)⟩
theorem xB{g f:Int}(aT:0<=f/\f<=3):(4*g+f).fdiv 4=g:=(O [_,_,_] [] (.i (.c (.l (.m 4 .y) (.p (.m 4 .x) .u)) (.t (.p (.m 4 .x) .u) (.p (.m 4 .y) 4))) (.i (.c (.l 0 .u) (.l .u 3)) (.e .y .x)))) (xw (4*g+f) (by decide)) aT
theorem Gp[Decidable c](a b:aK):(if c then a else b)=a\/(if c then a else b)=b:=by
 by_cases h:c
 .exact .inl (if_pos h)
 .exact .inr (if_neg h)
theorem Gq(s:dJ)(g f:Int)(b:gv):nI s g f b=⟨s.bT,dQ s.bt (4*g+f) b,dQ s.a9 g (eQ b.bc ((bJ s.a9 g).getD b.bc))⟩\/nI s g f b=s:=Gp _ _
theorem ag7{s:dJ}{g f:Int}{b:gv}(h:qx s)(hg:0<=g/\g<=13)(aT:0<=f/\f<=3):qx (nI s g f b):=by
 rcases Gq s g f b with e|e<;>rw[e]
 .refine⟨λn hn=>?_,λn hn=>?_,ag6 h.nd⟩
  .rw[mf];split
   .rfl
   .rename_i cS;rcases NY.mp hn with e|hn
    .exact absurd (by rw[<- e,xB aT]) cS
    .exact h.a9 n hn
  .rcases NY.mp hn with e|hn
   .exact(O [_,_,_] [] (.i (.c (.l 0 .y) (.l .y 13)) (.i (.c (.l 0 .u) (.l .u 3)) (.i (.e (.p (.m 4 .y) .u) .x) (.c (.l 0 .x) (.t .x 56)))))) hg aT e
   .exact h.rN n hn
 .exact h
theorem NZ(h:qx s):qx (fO cW sp w s):=by
 unfold fO;split
 .exact h
 .exact⟨h.a9,h.rN,h.nd⟩
theorem N0(h:qx s)(hl:0<=w.line/\w.line<=12)(eO:0<=t.bP):qx (kJ t size sp ar aL i s w):=by
 unfold kJ;dsimp only;split
 .exact NZ h
 .exact ag7 (NZ h) (by exact(O [_,_] [] (.i (.c (.l 0 .x) (.l .x 12)) (.i (.l 0 .y) (.c (.l 0 (.i (.p .x 1) (.p .y 1))) (.l (.i (.p .x 1) (.p .y 1)) 13))))) hl eO) (vL _ _)
theorem Cg:∀{l:List (Int×aK)},(dQ l x u).length<=l.length+1:=by
 intro a;induction a with
 |nil=>exact gB _
 |cons b r c=>
  obtain⟨n,v⟩:=b;by_cases h:n=x
  .rw[show dQ ((n,v)::r) x u=(n,u)::r from if_pos h];exact Be _
  .rw[show dQ ((n,v)::r) x u=(n,v)::dQ r x u from if_neg h];exact AZ c
theorem N1(h:s.bt.length<=n/\s.a9.length<=n/\s.bT.length<=n):(kJ t size sp ar aL i s w).bt.length<=n+1/\(kJ t size sp ar aL i s w).a9.length<=n+1/\(kJ t size sp ar aL i s w).bT.length<=n+1:=by
 have a:∀cW,(fO cW sp w s).bt.length<=n/\(fO cW sp w s).a9.length<=n/\(fO cW sp w s).bT.length<=n+1:=λcW=>by
  unfold fO;split
  .exact⟨h.1,h.2.1,xi h.2.2⟩
  .exact⟨h.1,h.2.1,by simp;exact(O [] [_,_,_,_] (.i (.c (.ag .u .y) (.c (.ag .w .y) (.ag .x .y))) (.ag .x .y))) h⟩
 unfold kJ;dsimp only;have a:=a (cA size (bQ t sp w)).1;generalize fO (cA size (bQ t sp w)).1 sp w s=d at a;split
 .exact⟨xi a.1,xi a.2.1,a.2.2⟩
 .rename_i f;generalize(⟨if nH t (cA size (bQ t sp w)).1 sp aL i s=ai then w.bc else ko t sp ar w (cA size (bQ t sp w)),w,w.line+1⟩:gv)=b;rcases Gq d (eQ (w.line+1) (t.bP+1)) (cA size (bQ t sp w)).2 b with e|e<;>rw[e]
  .exact⟨hW Cg (AZ a.1),hW Cg (AZ a.2.1),a.2.2⟩
  .exact⟨xi a.1,xi a.2.1,a.2.2⟩
noncomputable def jb(t:Tr)(size:Int)(sp:aY)(ar:Bool)(aL:Nat):Nat->dJ->List aE->dJ
 |_,s,[]=>s
 |i,s,w::r=>jb t size sp ar aL (i+1) (kJ t size sp ar aL i s w) r
theorem N2:jb t size sp ar aL i s (w::r)=(jb t size sp ar aL (i+1) (kJ t size sp ar aL i s w) r):=rfl
def qy(S:bk)(sp:aY)(bt:List (Int×gv))(a9:List (Int×Int))(n:Int):Option aE:=(bJ bt n).bind λb=>if b.bc<=(bJ a9 (n.fdiv 4)).getD 0+S.ed.natAbs then I (.n sp b.line (n.fmod 4) b.bc b.w)else aa
def jO(S:bk)(sp:aY)(bt:List (Int×gv))(a9:List (Int×Int))(r:List Int)(bT:List aE):List aE:=bT++r.filterMap (qy S sp bt a9)
theorem xC{S:bk}{sp:aY}{bt:List (Int×gv)}{a9:List (Int×Int)}{n:Int}{b:gv}(e:bJ bt n=I b)(h:b.bc<=(bJ a9 (n.fdiv 4)).getD 0+S.ed.natAbs):qy S sp bt a9 n=I (.n sp b.line (n.fmod 4) b.bc b.w):=by unfold qy;rw[e];exact if_pos h
theorem Ci{S:bk}{sp:aY}{bt:List (Int×gv)}{a9:List (Int×Int)}{n:Int}{b:gv}(e:bJ bt n=I b)(h:¬b.bc<=(bJ a9 (n.fdiv 4)).getD 0+S.ed.natAbs):qy S sp bt a9 n=none:=by unfold qy;rw[e];exact if_neg h
theorem N3{S:bk}{sp:aY}{bt:List (Int×gv)}{a9:List (Int×Int)}{n:Int}{v:aE}:qy S sp bt a9 n=I v↔∃b,bJ bt n=I b/\b.bc<=(bJ a9 (n.fdiv 4)).getD 0+S.ed.natAbs/\v=.n sp b.line (n.fmod 4) b.bc b.w:=by
 cases e:bJ bt n with
 |none=>unfold qy;rw[e];exact⟨λh=>(nomatch h),λ⟨_,h,_⟩=>(nomatch h)⟩
 |some b=>
  by_cases h:b.bc<=(bJ a9 (n.fdiv 4)).getD 0+S.ed.natAbs
  .rw[xC e h];exact⟨λq=>⟨b,rfl,h,(xa q).symm⟩,λ⟨cp,q1,q2,q3⟩=>by cases q1;rw[q3]⟩
  .rw[Ci e h];exact⟨λq=>(nomatch q),λ⟨cp,q1,q2,_⟩=>by cases q1;exact absurd q2 h⟩
theorem zB{S:bk}{sp:aY}{bt:List (Int×gv)}{a9:List (Int×Int)}{n:Int}{r:List Int}{bT:List aE}{w:aE}(e:qy S sp bt a9 n=I w):jO S sp bt a9 (n::r) bT=jO S sp bt a9 r (bT++[w]):=by unfold jO;rw[AR,e,dK];rfl
theorem zC{S:bk}{sp:aY}{bt:List (Int×gv)}{a9:List (Int×Int)}{n:Int}{r:List Int}{bT:List aE}(e:qy S sp bt a9 n=aa):jO S sp bt a9 (n::r) bT=jO S sp bt a9 r bT:=by unfold jO;rw[AR,e]
theorem zD{S:bk}{sp:aY}{bt:List (Int×gv)}{a9:List (Int×Int)}{bT:List aE}:jO S sp bt a9 [] bT=bT:=dZ _
def fj(t:Tr)(size:Int)(sp:aY)(ar:Bool)(aW:List aE):List aE:=
 let s:=jb t size sp ar aW.length 0 ⟨[],[],[]⟩ aW
 jO t.S sp s.bt s.a9 (qX (s.bt.map (·.1))) s.bT
theorem ag8(T:Top X){t:Tr}{sp:aY}{ar:Bool}{av:V}{rk rb rl:aC}{bt:List (Int×gv)}{a9:List (Int×Int)}:∀(r:List Int) (bT:List aE) (ae:J) (dp h9 eI dF eX jw iz i0 gx gF fu:Option V) (R:Fl->ay->J->Prop),(∀n∈r,(bJ bt n).isSome=ai/\(bJ a9 (n.fdiv 4)).isSome=ai)->kn G rk rb rl ⟨bT,bt,a9⟩ ae->bT.length+r.length<=2000->(∀dp h9 eI dF eX jw iz i0 gx gF fu ae,kn G rk rb rl ⟨jO t.S sp bt a9 r bT,bt,a9⟩ ae->R .n (W0 t.v sp.v av ar sp t.S.v rk rb rl [dp,h9,eI,dF,eX,jw,iz,i0,gx,gF,fu]) ae)->d8 (.cD 12) (bK IR.a8 (aB X (k+4)) IR.Mq) (r.map V.i) (W0 t.v sp.v av ar sp t.S.v rk rb rl [dp,h9,eI,dF,eX,jw,iz,i0,gx,gF,fu]) ae R:=by
 intro r;induction r with
 |nil=>exactλbT ae dp h9 eI dF eX jw iz i0 gx gF fu R _ x _ h=>h _ _ _ _ _ _ _ _ _ _ _ ae (by rw[zD];exact x)
 |cons n r ih=>
  intro bT ae dp h9 eI dF eX jw iz i0 gx gF fu R hn x hl h;refine cps λG0 g0=>?_;obtain⟨⟨Gk,b1,b2⟩,l1⟩:=And.intro x.b x.l;obtain⟨ui,nJ⟩:=hn n (.head _);refine g0 ?_;clear g0;rcases b2.get (x:=n)with⟨_,e⟩|⟨v,b,e1,e2,eB,rfl,aj⟩
  .rw[e]at ui;cases ui
  obtain⟨m,e3⟩:=Option.isSome_iff_exists.mp nJ;have me:=λag9 ae dp h9 eI dF eX jw iz i0 gx gF fu=>ih ag9 ae dp h9 eI dF eX jw iz i0 gx gF fu R (λn Cj=>hn n (.tail _ Cj));refine cz ((NQ b1).trans e1) ⟨rfl,⟨⟨by decide,by decide⟩,?_⟩⟩;refine cz ((NQ l1).trans ((Ce _ _).trans (by rw[e3];rfl))) ?_;refine cv (λh1=>?_) λh1=>?_
  .rw[zB (xC e2 (by rw[e3];exact h1))]at h;refine cps λG0 g0=>?_;obtain⟨NV,k1,k2⟩:=x.k;refine g0 ?_;clear g0;refine⟨kG rfl k1,by decide,Nu T λa=>cz (km k1) ⟨⟨by rw[k2.length];simp[cK];simp at hl;exact(O [] [_,_] (.i (.ag (.p .x (.p .y 1)) 2000) (.ag .x 99999))) hl⟩,?_⟩⟩;refine me _ _ _ _ _ _ _ _ _ _ _ _ _ (x.NR k1 k2 (w:=.n sp b.line (n.fmod 4) b.bc b.w) ⟨a,eB,rfl,aj⟩) (by simp at hl⊢;exact(O [] [_,_] (.i (.ag (.p .x (.p .y 1)) 2000) (.ag (.p (.p .x 1) .y) 2000))) hl) h
  .rw[zC (Ci e2 (by rw[e3];exact h1))]at h;exact me _ _ _ _ _ _ _ _ _ _ _ _ _ x (by simp at hl⊢;exact(O [] [_,_] (.i (.ag (.p .x (.p .y 1)) 2000) (.ag (.p .x .y) 2000))) hl) h
theorem ah0(T:Top X)(hsh:t.sh.ok size)(ha:k8 fZ aW)(ah1:∀w∈aW,(0<=w.line/\w.line<=12)/\Gj size (bQ t sp w))(fh:aW.length<=900)(eO:0<=t.bP/\t.bP<=10000000000)(Gn:-100000<=sp.bD/\sp.bD<=100000)(h:∀vs,k8 vs (fj t size sp ar aW)->Q (.l vs) G):aB X (k+5) (.L (.ref 807)) [t.v,sp.v,.l fZ,.b ar] G Q:=by
 refine ZU T rfl ⟨rfl,?_⟩;intro C nk D P F H;have kb:C≠D:=λe=>by subst e;rw[J.bY]at P;cases P
 have bl:D≠F:=λe=>by subst e;rw[J.bY]at H;cases H
 rw[J.cC bl.symm]at H;have kl:C≠F:=λe=>by subst e;rw[J.bY]at H;cases H
 rw[J.cC kb.symm]at P;rw[J.cC kl.symm]at H;refine⟨rfl,?_⟩;have sY:kn G C D F ⟨[],[],[]⟩ (((G.s C (.l [])).s D (.dk [] [])).s F (.dk [] [])):=⟨((J.le.r G).s nk|>.s P).s H,nk,P,H,kb,kl,bl,⟨[],by rw[J.cC kl,J.cC kb,J.bY],rfl⟩,⟨[],by rw[J.cC bl,J.bY];rfl,rfl⟩,J.bY⟩
 have key:∀(r:List aE) (rv:List V) (i:Nat) (s:dJ) (a:J) (K M f g j m o q z A B:Option V) (R:Fl->ay->J->Prop),k8 rv r->(∀w∈r,w∈aW)->qx s->i+r.length=aW.length->(s.bt.length<=i/\s.a9.length<=i/\s.bT.length<=i)->kn G C D F s a->
   (∀K M f g j m o q z A B a,qx (jb t size sp ar fZ.length i s r)->((jb t size sp ar fZ.length i s r).bT.length<=1000)->kn G C D F (jb t size sp ar fZ.length i s r) a->R .n (W0 t.v sp.v (.l fZ) ar sp t.S.v C D F [K,M,f,g,j,m,o,q,z,A,B]) a)->
   d8 (.fG [12,13]) (bK IR.a8 (aB X (k+4)) IR.om) (m5 i rv) (W0 t.v sp.v (.l fZ) ar sp t.S.v C D F [K,M,f,g,j,m,o,q,z,A,B]) a R:=by
  intro r;induction r with
  |nil=>intro rv i s a K M f g j m o q z A B R hr _ hs _ N x h;obtain rfl:=hr;exact h _ _ _ _ _ _ _ _ _ _ _ a hs (by show s.bT.length<=1000;exact(O [] [_,_,_,_,_,_] (.i (.ag .d 900) (.i (.E (.p .u .b) .d) (.i (.c (.ag .y .u) (.c (.ag .w .u) (.ag .x .u))) (.ag .x 1000))))) fh ‹_› N) x
  |cons w r ih=>
   intro rv i s a K M f g j m o q z A B R hr ax hs W N x h;obtain⟨eB,yJ,rfl,aj,Gr⟩:=hr;have Gs:=ah1 w (ax w (.head _));simp only[iw]at W;refine⟨rfl,?_⟩;refine ag4 T hsh x aj (by exact(O [_,_,_,_,_] [] (.i (.c (.c (.l 0 .x) (.l .x 12)) (.c (.c (.l (.k (-1000000000)) (.s .y .u)) (.l (.s .y .u) 1000000000)) (.c (.t .w 1000000000) (.t .b 1000000000)))) (.c (.l 0 .x) (.l .x 30)))) Gs) Gs.2 (by exact(O [] [_,_,_,_,_,_] (.i (.ag .d 900) (.i (.E (.p .y (.p .b 1)) .d) (.i (.c (.ag .x .y) (.c (.ag .u .y) (.ag .w .y))) (.ag .x 1000))))) fh W N) (by exact(O [] [_,_,_,_,_,_] (.i (.ag .d 900) (.i (.E (.p .u (.p .b 1)) .d) (.i (.c (.ag .y .u) (.c (.ag .x .u) (.ag .w .u))) (.ag .x 1000))))) fh W N) (by exact(O [] [_,_,_,_,_,_] (.i (.ag .d 900) (.i (.E (.p .u (.p .b 1)) .d) (.i (.c (.ag .y .u) (.c (.ag .w .u) (.ag .x .u))) (.ag .x 1000))))) fh W N) eO Gn λfl f g j m o q z A B a ah2 fq=>?_;have:=ih yJ (i+1) _ a (I (.i i)) (I eB) f g j m o q z A B R Gr (λw aj=>ax w (.tail _ aj)) (N0 hs Gs.1 eO.1) (by exact(O [] [_,_,_] (.i (.E (.p .x (.p .y 1)) .u) (.E (.p (.p .x 1) .y) .u))) W) (N1 N) fq h;rcases ah2 with rfl|rfl
   .exact this
   .exact this
 refine key aW fZ 0 ⟨[],[],[]⟩ _ aa aa aa aa aa aa aa aa aa aa aa _ ha (λ_ h=>h) ⟨λn Y=>by(cases Y),λn Y=>by(cases Y),.nil⟩ (by exact O [] [_] (.E (.p 0 .x) .x)) ⟨by simp,by simp,by simp⟩ sY ?_;intro K M f g j m o q z A B a Z uj x;rw[ha.length]at Z uj x;unfold fj at h;dsimp only at h;generalize jb t size sp ar aW.length 0 ⟨[],[],[]⟩ aW=s at Z uj x h;obtain⟨bT,bt,a9⟩:=s;obtain⟨Gk,b1,b2⟩:=x.b;have N4:(bt.map (·.1)).length<=56:=NX 56 _ Z.nd Z.rN;refine cz (Gi b1) ⟨by dsimp only;exact(O [] [_] (.i (.ag .x 56) (.U .x 60))) N4,?_⟩;refine ag8 T _ bT a K M f g j m o q z A B _ (λn Y=>?_) x (by rw[(w4 _).length_eq];dsimp only at uj⊢;exact(O [] [_,_] (.i (.ag .x 1000) (.i (.ag .y 56) (.ag (.p .x .y) 2000)))) uj N4) ?_
 .have Cj:=(w4 _).mem_iff.mp Y;exact⟨Cf.mp Cj,Z.a9 n Cj⟩
 .intro K M f g j m o q z A B a x;obtain⟨NV,k1,k2⟩:=x.k;exact cz (oq k1) (pg (x.le.cT nk) (h _ k2))
noncomputable def jP:aE->List aE->aE
 |b,[]=>b
 |b,w::r=>jP (if w.bc<b.bc then w else b) r
theorem N5:jP b (w::r)=(jP (if w.bc<b.bc then w else b) r):=rfl
noncomputable def Cm(loose qv bP:Int):Bool:=(a6 (loose<=qv)&&a6 (qv<bP))||(a6 (bP<qv)&&a6 (qv<=loose))
noncomputable def kK(bt:aE)(loose:Int):aE->Int->List aE->aE×Int
 |f,bP,[]=>(f,bP)
 |f,bP,w::r=>if(Cm loose (w.line- bt.line) bP||(a6 (w.line- bt.line=bP)&&a6 (w.bc<f.bc)))=ai then kK bt loose w (w.line- bt.line) r else kK bt loose f bP r
theorem N6:kK bt loose f bP (w::r)=(if(Cm loose (w.line- bt.line) bP||(a6 (w.line- bt.line=bP)&&a6 (w.bc<f.bc)))=ai then kK bt loose w (w.line- bt.line) r else kK bt loose f bP r):=rfl
def g7(w:aE)(r:List aE)(loose:Int):aE×Int:=if loose=0 then(jP w (w::r),0)else kK (jP w (w::r)) loose (jP w (w::r)) 0 (w::r)
theorem ah3(T:Top X):∀(ws:List aE) (vs:List V) (g6:V) (b:aE) (o3:Option V) (R:Fl->ay->J->Prop),k8 vs ws->lF g6 b->(∀g6 o3,lF g6 (jP b ws)->R .n [I (.l fZ),I (.i loose),I g6,o3,o4,o5,o6,o7] G)->d8 (.cD 3) (bK IR.a8 (aB X k) IR.Ms) vs [I (.l fZ),I (.i loose),I g6,o3,o4,o5,o6,o7] G R:=by
 intro ws;induction ws with
 |nil=>intro vs g6 b o3 R h d c;obtain rfl:=h;exact c g6 o3 d
 |cons w ws f=>
  intro vs g6 b o3 R h d c;refine cps λG0 g=>?_;obtain⟨r,j,rfl,m,o⟩:=h;obtain⟨a,s,p⟩:=m.v;obtain⟨t,u,q⟩:=d.v;refine g ?_;clear g;rw[N5]at c;subst p q;refine cv (λe=>?_) λe=>?_
  .rw[if_pos e]at c;exact f j _ w _ R o m c
  .rw[if_neg e]at c;exact f j _ b _ R o d c
theorem ah4(T:Top X)(hb:lF g6 b):∀(ws:List aE) (vs:List V) (fv:V) (f:aE) (bP:Int) (o3 o6 o7:Option V) (R:Fl->ay->J->Prop),k8 vs ws->lF fv f->(∀fv o3 o6 o7,lF fv (kK b loose f bP ws).1->R .n [I (.l fZ),I (.i loose),I g6,o3,I fv,I (.i (kK b loose f bP ws).2),o6,o7] G)->d8 (.cD 3) (bK IR.a8 (aB X k) IR.BF) vs [I (.l fZ),I (.i loose),I g6,o3,I fv,I (.i bP),o6,o7] G R:=by
 intro ws;induction ws with
 |nil=>intro vs fv f bP o3 o6 o7 R h p c;obtain rfl:=h;exact c fv o3 o6 o7 p
 |cons w ws r=>
  intro vs fv f bP o3 o6 o7 R h p c;refine cps λG0 x=>?_;obtain⟨z,q,rfl,u,s⟩:=h;obtain⟨a,C,y⟩:=u.v;obtain⟨D,E,A⟩:=hb.v;obtain⟨F,fb,B⟩:=p.v;refine x ?_;clear x;rw[N6]at c;have g:∀t,t=Cm loose (w.line- b.line) bP->bK IR.a8 (aB X k) (Ss.d 2 IR.BF) [I (.l fZ),I (.i loose),I g6,I z,I fv,I (.i bP),I (.i (w.line- b.line)),I (.b t)] G (mH (d8 (.cD 3) (bK IR.a8 (aB X k) IR.BF) q) R):=by
   intro t e;rw[<- e]at c;subst y B;cases t with
   |true=>exact bF rfl (bF rfl ⟨rfl,r q _ w _ _ _ _ R s u c⟩)
   |false=>
    refine aZ rfl (cv (λj=>cv (λm=>?_) λm=>?_) λj=>aZ rfl ?_)
    .rw[decide_eq_true j,decide_eq_true m]at c;exact⟨rfl,r q _ w _ _ _ _ R s u c⟩
    .rw[decide_eq_true j,decide_eq_false m]at c;exact r q _ f _ _ _ _ R s p c
    .rw[decide_eq_false j]at c;exact r q _ f _ _ _ _ R s p c
  subst y A;unfold Cm at g;refine cv (λj=>cv (λm=>g _ ?_) λm=>?_) λj=>aZ rfl ?_
  .rw[decide_eq_true j,decide_eq_true m];rfl
  .rw[decide_eq_false m,rh,Ea]at g;refine cv (λo=>g _ ?_) λo=>g _ ?_
   .rw[decide_eq_true o];rfl
   .rw[decide_eq_false o];rfl
  .rw[decide_eq_false j,Ky,Ea]at g;refine cv (λo=>g _ ?_) λo=>g _ ?_
   .rw[decide_eq_true o];rfl
   .rw[decide_eq_false o];rfl
theorem ah5(v:V)(vs:List V):j7 (v::vs) 0=I v:=by
 have:=iJ (f:=id) (l:=v::vs) (p:=0) (x:=v) rfl
 rwa [EB]at this
theorem ah6(T:Top X)(ha:k8 vs (w::ws))(h:∀v,lF v (g7 w ws loose).1->Q (.aV [v,.i (g7 w ws loose).2]) G):aB X (k+1) (.L (.ref 814)) [.l vs,.i loose] G Q:=by
 refine ZV T rfl ?_;have f:=ha;obtain⟨d,o,e,g,_⟩:=f;refine dg (a:=d) (by rw[e];exact ah5 _ _) ?_;refine ah3 T (w::ws) vs d w _ _ ha g λj m b=>⟨rfl,?_⟩
 unfold g7 at h;refine mM (λc=>?_) λc=>?_
 .rw[if_neg c]at h;exact ah4 T b (w::ws) vs j _ 0 _ _ _ _ ha b λp m q r n=>ret (h _ n)
 .rw[if_pos c]at h;exact ret (h _ b)
noncomputable def qz:aE->List Int
 |.iL .. =>[]
 |.n s _ _ _ bf=>s.p::qz bf
def lG(w:aE):List Int:=(qz w).reverse
theorem N7(T:Top X)(ha:G a=aa):∀(w:aE) (v:V) (cq:List Int) (ae:J) (R:Fl->ay->J->Prop),lF v w->ae a=I (.l (cq.map .i))->J.le G ae->cq.length+(qz w).length<=1000->(∀v ae,ae a=I (.l ((cq++qz w).map .i))->J.le G ae->R .n [I v,I (.r a)] ae)->∃n,p7 (ct IR.a8 (aB X k) IR.Mt) (bK IR.a8 (aB X k) IR.Mu) n [I v,I (.r a)] ae R
 |.iL s l f d,v,cq,ae,R,⟨cY,e⟩,h1,h2,hl,hR=>⟨1,by subst e;exact aZ rfl (hR _ ae (by rw[qz,dZ];exact h1) h2)⟩
 |.n s l f d bf,v,cq,ae,R,⟨cY,g6,e,hb⟩,h1,h2,hl,hR=>by
  obtain⟨n,hn⟩:=N7 T ha bf g6 (cq++[s.p]) (ae.s a (.l ((cq++[s.p]).map .i))) R hb J.bY (h2.s ha) (by simp[qz]at hl⊢;exact(O [] [_,_] (.i (.ag (.p .x (.p .y 1)) 1000) (.ag (.p (.p .x 1) .y) 1000))) hl) λv ae e l=>hR v ae (by rw[e,dK];rfl) l;refine⟨n+1,?_⟩;obtain⟨c,g,b⟩:=hb.v;subst e b;refine bF rfl ⟨kG rfl h1,cz (km h1) ⟨⟨by rw[cm];simp[cK];exact(O [] [_,_] (.i (.ag (.p .x .y) 1000) (.ag .x 99999))) hl⟩,?_⟩⟩;rw[gk]at hn;exact hn
theorem N8(T:Top X)(aj:lF v w)(hl:(qz w).length<=1000)(h:Q (.l ((lG w).map .i)) G):aB X (k+1) (.L (.ref 821)) [v] G Q:=by refine ZW T rfl ?_;intro a b;refine N7 T b w v [] _ _ aj J.bY ((J.le.r G).s b) (by simpa using hl) λv c e l=>?_;refine cz (km e) (pg l ?_);rw[m9,<- Kr];exact h
structure xD(aW:List aE)(s:dJ):Prop where
 bT:∀w∈s.bT,w∈aW
 bt:∀n b,bJ s.bt n=I b->b.w∈aW/\b.line=b.w.line+1
theorem ah7(h:xD aW s)(aj:w∈aW):xD aW (kJ t size sp ar aL i s w):=by
 have a:∀cW,xD aW (fO cW sp w s):=λcW=>by
  unfold fO;split
  .exact h
  .refine⟨λv c=>?_,h.bt⟩;rcases List.mem_append.mp c with c|c
   .exact h.bT v c
   .obtain rfl:=List.mem_singleton.mp c;exact aj
 have a:=a (cA size (bQ t sp w)).1;unfold kJ;dsimp only;generalize fO (cA size (bQ t sp w)).1 sp w s=g at a;split
 .exact a
 .generalize(if nH t (cA size (bQ t sp w)).1 sp aL i s=ai then w.bc else ko t sp ar w (cA size (bQ t sp w)))=d;rcases Gq g (eQ (w.line+1) (t.bP+1)) (cA size (bQ t sp w)).2 ⟨d,w,w.line+1⟩with e|e<;>rw[e]
  .refine⟨a.bT,λn b f=>?_⟩;dsimp only at f;rw[mf]at f;split at f
   .cases f;exact⟨aj,rfl⟩
   .exact a.bt n b f
  .exact a
theorem N9:∀{r:List aE} {i:Nat} {s:dJ},xD aW s->(∀w∈r,w∈aW)->xD aW (jb t size sp ar aL i s r)
 |[],_,_,h,_=>h
 |_::_,_,_,h,hr=>by rw[N2];exact N9 (ah7 h (hr _ (.head _))) λw aj=>hr w (.tail _ aj)
theorem Oa(eO:0<=t.bP):∀{r:List aE} {i:Nat} {s:dJ},qx s->(∀w∈r,0<=w.line/\w.line<=12)->qx (jb t size sp ar aL i s r)
 |[],_,_,h,_=>h
 |_::_,_,_,h,hr=>by rw[N2];exact Oa eO (N0 h (hr _ (.head _)) eO) λw aj=>hr w (.tail _ aj)
theorem Ob:∀{r:List aE} {i n:Nat} {s:dJ},(s.bt.length<=n/\s.a9.length<=n/\s.bT.length<=n)->(jb t size sp ar aL i s r).bT.length<=n+r.length
 |[],_,_,_,h=>h.2.2
 |w::r,i,n,s,h=>by
  have:=Ob (t:=t) (size:=size) (sp:=sp) (ar:=ar) (aL:=aL) (r:=r) (i:=i+1) (N1 (t:=t) (size:=size) (sp:=sp) (ar:=ar) (aL:=aL) (i:=i) (w:=w) h);skip;rw[iw];exact hW this (by exact O [] [_,_] (.ag (.p (.p .x 1) .y) (.p .x (.p .y 1))))
theorem ah8{S:bk}{sp:aY}{bt:List (Int×gv)}{a9:List (Int×Int)}{w:aE}{r:List Int}{bT:List aE}(h:w∈jO S sp bt a9 r bT):w∈bT\/∃n b,bJ bt n=I b/\w=.n sp b.line (n.fmod 4) b.bc b.w:=by
 rcases List.mem_append.mp h with h|h
 .exact .inl h
 .obtain⟨n,_,e⟩:=List.mem_filterMap.mp h;obtain⟨b,e1,_,e2⟩:=N3.mp e;exact .inr ⟨n,b,e1,e2⟩
theorem ah9{S:bk}{sp:aY}{bt:List (Int×gv)}{a9:List (Int×Int)}{r:List Int}{bT:List aE}:(jO S sp bt a9 r bT).length<=bT.length+r.length:=by unfold jO;rw[fQ];exact Nat.add_le_add_left (List.length_filterMap_le _ _) _
theorem ai0:qx ⟨[],[],[]⟩:=⟨λn a=>by(cases a),λn a=>by(cases a),.nil⟩
theorem ai1:xD aW ⟨[],[],[]⟩:=⟨λ_ h=>(by cases h),λ_ _ h=>(by cases h)⟩
theorem Gu(h:w∈fj t size sp ar aW):w∈aW\/∃ft∈aW,∃f d,w=.n sp (ft.line+1) f d ft:=by
 unfold fj at h;dsimp only at h;have f:=N9 (t:=t) (size:=size) (sp:=sp) (ar:=ar) (aL:=aW.length) (i:=0) (ai1 (aW:=aW)) λw h=>h;generalize jb t size sp ar aW.length 0 ⟨[],[],[]⟩ aW=s at h f;rcases ah8 h with h|⟨n,b,e,rfl⟩
 .exact .inl (f.bT w h)
 .obtain⟨a,c⟩:=f.bt n b e;exact .inr ⟨b.w,a,_,_,by rw[c]⟩
theorem ai2(eO:0<=t.bP)(hl:∀w∈aW,0<=w.line/\w.line<=12):(fj t size sp ar aW).length<=aW.length+56:=by unfold fj;dsimp only;have g:=Oa (size:=size) (sp:=sp) (ar:=ar) (aL:=aW.length) eO (i:=0) ai0 hl;have l:=Ob (t:=t) (size:=size) (sp:=sp) (ar:=ar) (aL:=aW.length) (r:=aW) (i:=0) (n:=0) (s:=⟨[],[],[]⟩) ⟨gB _,gB _,gB _⟩;generalize jb t size sp ar aW.length 0 ⟨[],[],[]⟩ aW=s at g l;have:=NX 56 _ g.nd g.rN;have:=(w4 (s.bt.map (·.1))).length_eq;exact hW ah9 (by exact(O [] [_,_,_,_] (.i (.ag .x (.p 0 .u)) (.i (.ag .w 56) (.i (.E .y .w) (.ag (.p .x .y) (.p .u 56)))))) l ‹_› this)
structure Sm.jc(B:Int)(m:Sm):Prop where
 n:-B<=m.n/\m.n<=B
 a:-B<=m.a/\m.a<=B
 h:-B<=m.h/\m.h<=B
theorem Sm.jc.bI{B C:Int}{m:Sm}(x:m.jc B)(h:B<=C):m.jc C:=⟨by have:=x.n;exact(O [_,_,_] [] (.i (.l .u .x) (.i (.c (.l (.g .u) .y) (.l .y .u)) (.c (.l (.g .x) .y) (.l .y .x))))) h this,by have:=x.a;exact(O [_,_,_] [] (.i (.l .u .x) (.i (.c (.l (.g .u) .y) (.l .y .u)) (.c (.l (.g .x) .y) (.l .y .x))))) h this,by have:=x.h;exact(O [_,_,_] [] (.i (.l .u .x) (.i (.c (.l (.g .u) .y) (.l .y .u)) (.c (.l (.g .x) .y) (.l .y .x))))) h this⟩
theorem Sh.Co{s:Sh}(h:s.cO):-1000<=s.jj/\s.jj<=1000:=by
 cases s with
 |jM=>have:=h.2.1;exact⟨by show-1000<=_;exact sF (by decide) this.1,this.2⟩
 |r _ w _ _=>obtain⟨⟨i,rfl,h1,h2⟩,_⟩:=h;exact⟨sF (by decide) h1,h2⟩
 |iI=>exact h.1
theorem Gv:∀{l:List Sh},(∀s∈l,s.cO)-> -(1000*(l.length:Int))<=cH l/\cH l<=1000*(l.length:Int):=by
 intro a;induction a with
 |nil=>intro _;decide
 |cons s l b=>intro h;have d:=Sh.Co (h s (.head _));have e:=b λx f=>h x (wB s f);skip;rw[iw];exact(O [_,_] [_] (.i (.c (.l (.k (-1000)) .x) (.l .x 1000)) (.i (.c (.l (.g (.m 1000 (.c .x))) .y) (.l .y (.m 1000 (.c .x)))) (.c (.l (.g (.m 1000 (.c (.p .x 1)))) (.p .x .y)) (.l (.p .x .y) (.m 1000 (.c (.p .x 1)))))))) d e
theorem Nd.Co{n:Nd}(h:n.cO):-2000<=n.jj/\n.jj<=2000:=by
 cases n with
 |sh s=>have:=Sh.Co h;show-2000<=s.jj/\s.jj<=2000;exact(O [_] [] (.i (.c (.l (.k (-1000)) .x) (.l .x 1000)) (.c (.l (.k (-2000)) .x) (.l .x 2000)))) this
 |eV=>have:=h.1;exact⟨sF (by decide) this.1,sF this.2 (by decide)⟩
 |dt a p q m=>have h1:=Gv h.1.2.2;have h2:=h.2.2.2;show-2000<=cH m/\cH m<=2000;exact(O [_] [_] (.i (.c (.l (.g (.m 1000 (.c .x))) .x) (.l .x (.m 1000 (.c .x)))) (.i (.ag .x 2) (.c (.l (.k (-2000)) .x) (.l .x 2000))))) h1 h2
 |jN _ _ w=>exact⟨sF (by decide) h.1,sF h.2 (by decide)⟩
 |_=>exact of_decide_eq_true rfl
theorem Sm.Gw{B:Int}{m:Sm}{n:Nd}(h:m.jc B)(hn:n.cO):(m.step n).jc (B+2000):=by
 have aj:=Nd.Co hn;have gu:(m.gu n.jj).jc (B+2000):=⟨by show-(B+2000)<=m.n+n.jj/\m.n+n.jj<=_;have:=h.n;exact(O [_,_,_] [] (.i (.c (.l (.k (-2000)) .u) (.l .u 2000)) (.i (.c (.l (.g .x) .y) (.l .y .x)) (.c (.l (.g (.p .x 2000)) (.p .y .u)) (.l (.p .y .u) (.p .x 2000)))))) aj this,by show-(B+2000)<=m.a/\m.a<=_;have:=h.a;exact(O [_,_] [] (.i (.c (.l (.g .x) .y) (.l .y .x)) (.c (.l (.g (.p .x 2000)) .y) (.l .y (.p .x 2000))))) this,by show-(B+2000)<=m.h/\m.h<=_;have:=h.h;exact(O [_,_] [] (.i (.c (.l (.g .x) .y) (.l .y .x)) (.c (.l (.g (.p .x 2000)) .y) (.l .y (.p .x 2000))))) this⟩
 cases n with
 |eV a b c w s so d6 dv eW=>have h1:=hn.2.1;have h2:=hn.2.2.2;have h3:=hn.1;refine⟨by show-(B+2000)<=m.n+w/\m.n+w<=_;have:=h.n;exact(O [_,_,_] [] (.i (.c (.l (.k (-1000)) .u) (.l .u 1000)) (.i (.c (.l (.g .x) .y) (.l .y .x)) (.c (.l (.g (.p .x 2000)) (.p .y .u)) (.l (.p .y .u) (.p .x 2000)))))) h3 this,?_,by show-(B+2000)<=m.h+d6/\m.h+d6<=_;have:=h.h;exact(O [_,_,_] [] (.i (.c (.l 0 .u) (.l .u 1000)) (.i (.c (.l (.g .x) .y) (.l .y .x)) (.c (.l (.g (.p .x 2000)) (.p .y .u)) (.l (.p .y .u) (.p .x 2000)))))) h2 this⟩;show-(B+2000)<=(if so=0 then m.a+s else m.a)/\(if so=0 then m.a+s else m.a)<=_;have:=h.a;split<;>(first|exact(O [_,_,_] [] (.i (.c (.l 0 .u) (.l .u 1000)) (.i (.c (.l (.g .x) .y) (.l .y .x)) (.c (.l (.g (.p .x 2000)) (.p .y .u)) (.l (.p .y .u) (.p .x 2000)))))) h1 this|exact(O [_,_] [] (.i (.c (.l (.g .x) .y) (.l .y .x)) (.c (.l (.g (.p .x 2000)) .y) (.l .y (.p .x 2000))))) this)
 |_=>exact gu
theorem ai3:∀{r:List Nd} {m:Sm} {B:Int} {j:Nat} {x:Sm},hZ r->m.jc B->(rM m r)[j]?=I x->x.jc (B+2000*((j:Int)+1)):=by
 intro aM;induction aM with
 |nil=>intro _ _ _ _ _ _ e;simp[B9,Ga]at e
 |cons n r ih=>
  intro m;intro B;intro z1;cases z1 with
  |zero=>intro x hg ax e;simp[B9,Ga]at e;subst e;exact(Sm.Gw ax (hg n (.head _))).bI (by exact O [_] [] (.l (.p .x 2000) (.p .x (.m 2000 (.p (.c 0) 1)))))
  |succ j=>intro x hg ax e;simp only[B9,Ga,yt]at e;exact(ih (λy hy=>hg y (.tail _ hy)) (Sm.Gw ax (hg n (.head _))) e).bI (by exact O [_] [_] (.l (.p (.p .x 2000) (.m 2000 (.p (.c .x) 1))) (.p .x (.m 2000 (.p (.c (.p .x 1)) 1)))))
theorem Oc(hg:hZ items)(hl:items.length<=900)(h:p<=items.length):(gM items p).jc 1900000:=by
 have e:=Ca h;cases p with
 |zero=>unfold pq at e;simp at e;rw[<- e];exact⟨by decide,by decide,by decide⟩
 |succ p=>unfold pq at e;rw[yt]at e;exact(ai3 hg (B:=0) ⟨by decide,by decide,by decide⟩ e).bI (by exact(O [] [_,_] (.i (.ag .y 900) (.i (.ag (.p .x 1) .y) (.l (.p 0 (.m 2000 (.p (.c .x) 1))) 1900000)))) hl h)
theorem Sm.Od{B w:Int}{m:Sm}(h:m.jc B)(aj:-3000<=w/\w<=3000):(m.gu w).jc (B+3000):=⟨by show-(B+3000)<=m.n+w/\m.n+w<=_;have:=h.n;exact(O [_,_,_] [] (.i (.c (.l (.k (-3000)) .u) (.l .u 3000)) (.i (.c (.l (.g .x) .y) (.l .y .x)) (.c (.l (.g (.p .x 3000)) (.p .y .u)) (.l (.p .y .u) (.p .x 3000)))))) aj this,by show-(B+3000)<=m.a/\m.a<=_;have:=h.a;exact(O [_,_] [] (.i (.c (.l (.g .x) .y) (.l .y .x)) (.c (.l (.g (.p .x 3000)) .y) (.l .y (.p .x 3000))))) this,by show-(B+3000)<=m.h/\m.h<=_;have:=h.h;exact(O [_,_] [] (.i (.c (.l (.g .x) .y) (.l .y .x)) (.c (.l (.g (.p .x 3000)) .y) (.l .y (.p .x 3000))))) this⟩
theorem ai4(hg:hZ items)(p:Nat):-2000<=j1 items p/\j1 items p<=2000:=by
 unfold j1;cases e:items[p]? with
 |none=>exact(by decide:(-2000:Int)<=0/\(0:Int)<=2000)
 |some n=>have a:=Gv (Nd.B7 (hg.at e)).1;have b:=(Nd.B7 (hg.at e)).2;show-2000<=cH n.uf/\cH n.uf<=2000;exact(O [_] [_] (.i (.c (.l (.g (.m 1000 (.c .x))) .x) (.l .x (.m 1000 (.c .x)))) (.i (.ag .x 2) (.c (.l (.k (-2000)) .x) (.l .x 2000))))) a b
theorem ai5(hg:hZ items)(p:Nat):-2000<=ja items p/\ja items p<=2000:=by
 unfold ja;cases e:items[p]? with
 |none=>exact(by decide:(-2000:Int)<=0/\(0:Int)<=2000)
 |some n=>have a:=Gv (Nd.B6 (hg.at e)).1;have b:=(Nd.B6 (hg.at e)).2;show-2000<=cH n.gS/\cH n.gS<=2000;exact(O [_] [_] (.i (.c (.l (.g (.m 1000 (.c .x))) .x) (.l .x (.m 1000 (.c .x)))) (.i (.ag .x 2) (.c (.l (.k (-2000)) .x) (.l .x 2000))))) a b
theorem ai6(S:bk):∀{r:List Nd} {m b:Bool} {p:Nat} {k:g8},k∈px S m b p r-> -10000<=k.bD/\k.bD<10000:=by
 intro a;induction a with
 |nil=>
  intro _ _ _ _ h;cases h
 |cons n r d=>
  intro m b p k h;skip;rcases List.mem_append.mp h with h|h
  .split at h
   .obtain rfl:=List.mem_singleton.mp h;dsimp only;exact(O [_] [] (.i (.t .x 10000) (.c (.l (.k (-10000)) (.l .x (.k (-10000)))) (.t (.l .x (.k (-10000))) 10000)))) ‹_›
   .cases h
  .exact d h
structure aY.Gx(sp:aY):Prop where
 b:sp.b.jc 2000000
 e:sp.e.jc 2000000
 bD:-10000<=sp.bD/\sp.bD<10000
theorem sZ{S:bk}{items:List Nd}{k:g8}(h:k∈iK S items):k.p<=items.length/\-10000<=k.bD/\k.bD<10000:=by
 unfold iK at h;rcases List.mem_append.mp h with h|h
 .obtain⟨j,n,e1,e2,_⟩:=NM S h;have:=(List.getElem?_eq_some_iff.mp e2).1;exact⟨by exact(O [] [_,_,_] (.i (.E .x (.p 0 .u)) (.i (.U .u .y) (.ag .x .y)))) e1 this,ai6 S h⟩
 .obtain rfl:=List.mem_singleton.mp h;exact⟨gB _,(by decide:(-10000:Int)<=-10000/\(-10000:Int)<10000)⟩
theorem ai7{S:bk}{items:List Nd}(hg:hZ items)(hl:items.length<=900){sp:aY}(h:sp∈cM S items):sp.Gx:=by obtain⟨k,hk,rfl⟩:=List.mem_map.mp h;obtain⟨h1,h2⟩:=sZ hk;have a:=ai4 hg k.p;have b:=ai5 hg k.p;exact⟨(Sm.Od (Oc hg hl (Gf h1)) (by exact(O [_] [] (.i (.c (.l (.k (-2000)) .x) (.l .x 2000)) (.c (.l (.k (-3000)) (.g .x)) (.l (.g .x) 3000)))) a)).bI (by decide),(Sm.Od (Oc hg hl h1) (by exact(O [_] [] (.i (.c (.l (.k (-2000)) .x) (.l .x 2000)) (.c (.l (.k (-3000)) .x) (.l .x 3000)))) b)).bI (by decide),h2⟩
noncomputable def jk(t:Tr)(size:Int)(aL:Int):List aY->List aE->Option (List aE)
 |[],aW=>I aW
 |sp::r,aW=>if(fj t size sp (a6 (sp.p=aL)) aW).isEmpty=ai then aa else jk t size aL r (fj t size sp (a6 (sp.p=aL)) aW)
theorem uk:jk t size aL (sp::r) aW=(if(fj t size sp (a6 (sp.p=aL)) aW).isEmpty=ai then aa else jk t size aL r (fj t size sp (a6 (sp.p=aL)) aW)):=rfl
def kq(done:Int):aE:=.iL ⟨-1,0,0,0,.z,.z⟩ done 2 0
def nK(loose:Int)(last:Bool):Option (List aE)->Option (List Int)
 |some (w::ws)=>if(!(a6 ((g7 w ws loose).2=loose))&& !last)=ai then aa else I (lG (g7 w ws loose).1)
 |_=>aa
def jd(S:bk)(sh:gN)(bM:Int)(last:Bool)(a:aC):Tr:=⟨a,S,sh,10000,fM S bM,last,if S.loose=0 then sh.bP else 2*2147483647⟩
def jx(items:List Nd)(S:bk)(sh:gN)(size bM:Int)(last:Bool)(a:aC):Option (List Int):=nK S.loose last (jk (jd S sh bM last a) size items.length (cM S items) [kq sh.done])
noncomputable def Gy:Option (List Int)->V
 |some l=>.l (l.map .i)
 |none=>.n
structure zE(done:Int)(j:Nat)(aW:List aE):Prop where
 line:∀w∈aW,done<=w.line/\w.line<=done+j
 b:∀w∈aW,w.s.b.jc 2000000
 Cp:∀w∈aW,(qz w).length<=j
 aL:aW.length<=1+56*j
theorem zE.next(h:zE done j aW)(kL:sp.Gx)(aF:0<=done/\done<=2)(hj:j<=9)(eO:0<=t.bP):zE done (j+1) (fj t size sp ar aW) where
 line w aj:=by
  rcases Gu aj with aj|⟨ft,oi,f,d,rfl⟩
  .have:=h.line w aj;exact(O [_,_] [_] (.i (.c (.l .x .y) (.l .y (.p .x (.c .x)))) (.c (.l .x .y) (.l .y (.p .x (.c (.p .x 1))))))) this
  .have:=h.line ft oi;show done<=ft.line+1/\ft.line+1<=_;exact(O [_,_] [_] (.i (.c (.l .x .y) (.l .y (.p .x (.c .x)))) (.c (.l .x (.p .y 1)) (.l (.p .y 1) (.p .x (.c (.p .x 1))))))) this
 b w aj:=by
  rcases Gu aj with aj|⟨ft,oi,f,d,rfl⟩
  .exact h.b w aj
  .exact kL.b
 Cp w aj:=by
  rcases Gu aj with aj|⟨ft,oi,f,d,rfl⟩
  .exact xi (h.Cp w aj)
  .exact AZ (h.Cp ft oi)
 aL:=by
  have:=ai2 (t:=t) (size:=size) (sp:=sp) (ar:=ar) (aW:=aW) eO λw aj=>by have:=h.line w aj;exact(O [_,_] [_] (.i (.c (.l 0 .y) (.l .y 2)) (.i (.ag .x 9) (.i (.c (.l .y .x) (.l .x (.p .y (.c .x)))) (.c (.l 0 .x) (.l .x 12)))))) aF hj this
  have:=h.aL;exact(O [] [_,_,_] (.i (.ag .x (.p .u 56)) (.i (.ag .u (.p 1 (.m 56 .y))) (.ag .x (.p 1 (.m 56 (.p .y 1))))))) ‹_› this
theorem ai8{S:bk}{bM:Int}(hS:S.ok)(ba:fN bM):(fM S bM).jc 1000000:=by
 have h1:=hS.l;have h2:=hS.r;refine⟨?_,?_,?_⟩
 .show-1000000<=0+S.l.w+S.r.w/\0+S.l.w+S.r.w<=_;have:=h1.1;have:=h2.1;exact(O [_,_,_,_,_,_,_,_] [] (.i (.c (.c (.l (.k (-1000)) .x) (.l .x 1000)) (.c (.c (.l 0 .d) (.l .d 1000)) (.c (.c (.l 0 .e) (.l .e 3)) (.c (.l 0 .f) (.l .f 1000))))) (.i (.c (.c (.l (.k (-1000)) .y) (.l .y 1000)) (.c (.c (.l 0 .u) (.l .u 1000)) (.c (.c (.l 0 .w) (.l .w 3)) (.c (.l 0 .b) (.l .b 1000))))) (.c (.l (.k (-1000000)) (.p (.p 0 .x) .y)) (.l (.p (.p 0 .x) .y) 1000000))))) h1 h2
 .show-1000000<=(if S.r.so=0 then(if S.l.so=0 then 0+S.l.s else 0)+S.r.s else(if S.l.so=0 then 0+S.l.s else 0))+bM/\(if S.r.so=0 then(if S.l.so=0 then 0+S.l.s else 0)+S.r.s else(if S.l.so=0 then 0+S.l.s else 0))+bM<=_;have:=h1.2.1;have:=h2.2.1;split<;>split<;>(first|exact(O [_,_,_,_,_,_,_,_,_] [] (.i (.c (.l (.k (-100000)) .u) (.l .u 100000)) (.i (.c (.c (.l (.k (-1000)) .e) (.l .e 1000)) (.c (.c (.l 0 .x) (.l .x 1000)) (.c (.c (.l 0 .f) (.l .f 3)) (.c (.l 0 .h) (.l .h 1000))))) (.i (.c (.c (.l (.k (-1000)) .w) (.l .w 1000)) (.c (.c (.l 0 .y) (.l .y 1000)) (.c (.c (.l 0 .b) (.l .b 3)) (.c (.l 0 .d) (.l .d 1000))))) (.c (.l (.k (-1000000)) (.p (.p (.p 0 .x) .y) .u)) (.l (.p (.p (.p 0 .x) .y) .u) 1000000)))))) ba h1 h2|exact(O [_,_,_,_,_] [] (.i (.c (.l (.k (-100000)) .y) (.l .y 100000)) (.i (.c (.c (.l (.k (-1000)) .u) (.l .u 1000)) (.c (.c (.l 0 .x) (.l .x 1000)) (.c (.c (.l 0 .w) (.l .w 3)) (.c (.l 0 .b) (.l .b 1000))))) (.c (.l (.k (-1000000)) (.p (.p 0 .x) .y)) (.l (.p (.p 0 .x) .y) 1000000))))) ba h2|exact(O [_,_,_,_,_] [] (.i (.c (.l (.k (-100000)) .y) (.l .y 100000)) (.i (.c (.c (.l (.k (-1000)) .u) (.l .u 1000)) (.c (.c (.l 0 .x) (.l .x 1000)) (.c (.c (.l 0 .w) (.l .w 3)) (.c (.l 0 .b) (.l .b 1000))))) (.c (.l (.k (-1000000)) (.p (.p 0 .x) .y)) (.l (.p (.p 0 .x) .y) 1000000))))) ba h1|exact(O [_] [] (.i (.c (.l (.k (-100000)) .x) (.l .x 100000)) (.c (.l (.k (-1000000)) (.p 0 .x)) (.l (.p 0 .x) 1000000)))) ba)
 .show-1000000<=0+S.l.h+S.r.h/\0+S.l.h+S.r.h<=_;have:=h1.2.2.2;have:=h2.2.2.2;exact(O [_,_,_,_,_,_,_,_] [] (.i (.c (.c (.l (.k (-1000)) .d) (.l .d 1000)) (.c (.c (.l 0 .e) (.l .e 1000)) (.c (.c (.l 0 .f) (.l .f 3)) (.c (.l 0 .x) (.l .x 1000))))) (.i (.c (.c (.l (.k (-1000)) .u) (.l .u 1000)) (.c (.c (.l 0 .w) (.l .w 1000)) (.c (.c (.l 0 .b) (.l .b 3)) (.c (.l 0 .y) (.l .y 1000))))) (.c (.l (.k (-1000000)) (.p (.p 0 .x) .y)) (.l (.p (.p 0 .x) .y) 1000000))))) h1 h2
theorem ai9(hs:fN size)(hg:t.gr.jc 1000000)(kL:sp.Gx)(hb:w.s.b.jc 2000000):Gj size (bQ t sp w):=by
 have key:(bQ t sp w).jc 5000000:=by
  unfold bQ;split
  .exact hg.bI (by decide)
  .refine⟨?_,?_,?_⟩
   .show-5000000<=sp.e.n- w.s.b.n+t.gr.n/\sp.e.n- w.s.b.n+t.gr.n<=_;have:=hg.n;have:=kL.e.n;have:=hb.n;exact(O [_,_,_] [] (.i (.c (.l (.k (-1000000)) .u) (.l .u 1000000)) (.i (.c (.l (.k (-2000000)) .x) (.l .x 2000000)) (.i (.c (.l (.k (-2000000)) .y) (.l .y 2000000)) (.c (.l (.k (-5000000)) (.p (.s .x .y) .u)) (.l (.p (.s .x .y) .u) 5000000)))))) ‹_› ‹_› this
   .show-5000000<=sp.e.a- w.s.b.a+t.gr.a/\sp.e.a- w.s.b.a+t.gr.a<=_;have:=hg.a;have:=kL.e.a;have:=hb.a;exact(O [_,_,_] [] (.i (.c (.l (.k (-1000000)) .u) (.l .u 1000000)) (.i (.c (.l (.k (-2000000)) .x) (.l .x 2000000)) (.i (.c (.l (.k (-2000000)) .y) (.l .y 2000000)) (.c (.l (.k (-5000000)) (.p (.s .x .y) .u)) (.l (.p (.s .x .y) .u) 5000000)))))) ‹_› ‹_› this
   .show-5000000<=sp.e.h- w.s.b.h+t.gr.h/\sp.e.h- w.s.b.h+t.gr.h<=_;have:=hg.h;have:=kL.e.h;have:=hb.h;exact(O [_,_,_] [] (.i (.c (.l (.k (-1000000)) .u) (.l .u 1000000)) (.i (.c (.l (.k (-2000000)) .x) (.l .x 2000000)) (.i (.c (.l (.k (-2000000)) .y) (.l .y 2000000)) (.c (.l (.k (-5000000)) (.p (.s .x .y) .u)) (.l (.p (.s .x .y) .u) 5000000)))))) ‹_› ‹_› this
 have:=key.n;have:=key.a;have:=key.h;exact⟨by exact(O [_,_] [] (.i (.c (.l (.k (-100000)) .x) (.l .x 100000)) (.i (.c (.l (.k (-5000000)) .y) (.l .y 5000000)) (.c (.l (.k (-1000000000)) (.s .x .y)) (.l (.s .x .y) 1000000000))))) hs ‹_›,by exact(O [_] [] (.i (.c (.l (.k (-5000000)) .x) (.l .x 5000000)) (.t .x 1000000000))) ‹_›,by exact(O [_] [] (.i (.c (.l (.k (-5000000)) .x) (.l .x 5000000)) (.t .x 1000000000))) this⟩
theorem Gz(T:Top X){items:List Nd}{S:bk}{sh:gN}{size bU bM:Int}{last:Bool}(hg:hZ items)(hl:items.length<=900)(hS:S.ok)(hsh:sh.ok size)(aF:0<=sh.done/\sh.done<=2)(eO:0<=sh.bP/\sh.bP<=100000)(ji:fN size)(pz:fN bM)(xE:10000<=bU/\bU<=2147483647)(kL:(cM S items).length<=9)(h:∀a,Q (Gy (jx items S sh size bM last a)) G):aB X (k+6) (.L (.ref 828)) [dn items,S.v,sh.v,.i bU,.i bM,.b last] G Q:=by
 refine ZX T rfl (af6 T hS (ae8 T hS.l.2.2.1 hS.r.2.2.1 (by exact(O [_] [] (.i (.c (.l (.k (-100000)) .x) (.l .x 100000)) (.c (.l (.k (-1073741823)) .x) (.l .x 1073741823)))) pz) ?_));refine nF T (by exact(O [_] [] (.i (.c (.l 10000 .x) (.l .x 2147483647)) (.c (.l (.k (-2147483647)) .x) (.l .x 2147483647)))) xE) (af5 T λa=>?_);have em:eQ bU 10000=10000:=by exact(O [_] [] (.i (.c (.l 10000 .x) (.l .x 2147483647)) (.e (.i .x 10000) 10000))) xE
 rw[em];refine Nu T λaj0=>?_;have h:=h a;refine ae6 T hg hl ?_;have Oe:0<=(jd S sh bM last a).bP/\(jd S sh bM last a).bP<=10000000000:=by show 0<=(if S.loose=0 then sh.bP else 2*2147483647)/\(if S.loose=0 then sh.bP else 2*2147483647)<=_;split<;>(first|exact(O [_] [] (.i (.c (.l 0 .x) (.l .x 100000)) (.c (.l 0 .x) (.l .x 10000000000)))) eO|exact O [] [] (.c (.l 0 (.m 2 2147483647)) (.l (.m 2 2147483647) 10000000000)))
 have key:∀(r:List aY) (aW:List aE) (fZ:List V) (j:Nat) (o9:Option V) (R:Fl->ay->J->Prop),(∀sp∈r,sp∈cM S items)->k8 fZ aW->aW≠ []->zE sh.done j aW->j+r.length<=9->
   (jk (jd S sh bM last a) size items.length r aW=aa->∀z,R (.r .n) z G)->
   (∀ia Of o9,jk (jd S sh bM last a) size items.length r aW=I ia->k8 Of ia->ia≠ []->zE sh.done (j+r.length) ia->R .n [I (dn items),I S.v,I sh.v,I (.i bU),I (.i bM),I (.b last),I (fM S bM).v,I (jd S sh bM last a).v,I (.l Of),o9,aa,aa] G)->
   d8 (.cD 9) (bK IR.a8 (aB X (k+5)) IR.Mw) (r.map aY.v) [I (dn items),I S.v,I sh.v,I (.i bU),I (.i bM),I (.b last),I (fM S bM).v,I (jd S sh bM last a).v,I (.l fZ),o9,aa,aa] G R:=by
  intro r;induction r with
  |nil=>intro aW fZ j o9 R _ ha cS hA _ _ h2;exact h2 aW fZ o9 rfl ha cS hA
  |cons sp r ih=>
   intro aW fZ j o9 R ax ha cS hA hj h1 h2;have ok:=ai7 hg hl (ax sp (.head _));simp only[iw]at hj;refine ah0 T hsh ha (λw aj=>⟨by have:=hA.line w aj;exact(O [_,_] [_,_] (.i (.c (.l 0 .y) (.l .y 2)) (.i (.ag (.p .x (.p .y 1)) 9) (.i (.c (.l .y .x) (.l .x (.p .y (.c .x)))) (.c (.l 0 .x) (.l .x 12)))))) aF hj this,ai9 ji (ai8 hS pz) ok (hA.b w aj)⟩) (by have:=hA.aL;exact(O [] [_,_,_] (.i (.ag (.p .y (.p .u 1)) 9) (.i (.ag .x (.p 1 (.m 56 .y))) (.ag .x 900)))) hj this) Oe (by have:=ok.bD;exact(O [_] [] (.i (.c (.l (.k (-10000)) .x) (.t .x 10000)) (.c (.l (.k (-100000)) .x) (.l .x 100000)))) this) λvs zF=>?_;rw[cm]at zF;rw[uk]at h1 h2;have Cq:=hA.next (t:=jd S sh bM last a) (size:=size) (ar:=a6 (sp.p=items.length)) ok aF (by exact(O [] [_,_] (.i (.ag (.p .x (.p .y 1)) 9) (.ag .x 9))) hj) Oe.1;generalize fj (jd S sh bM last a) size sp (a6 (sp.p=items.length)) aW=ia at zF h1 h2 Cq;cases ia with
   |nil=>obtain rfl:=zF;exact bF rfl (h1 rfl _)
   |cons w ws=>have aj1:=zF;refine cps λG0 g0=>?_;obtain⟨v,iF,rfl,_⟩:=aj1;refine g0 ?_;clear g0;refine aZ rfl (ih (w::ws) _ (j+1) _ R (λx hx=>ax x (.tail _ hx)) zF ((of_decide_eq_true rfl)) Cq (by exact(O [] [_,_] (.i (.ag (.p .x (.p .y 1)) 9) (.ag (.p (.p .x 1) .y) 9))) hj) h1 λaj2 aj3 o9 e h3 h4 h5=>h2 aj2 aj3 o9 e h3 h4 ?_);rw[iw,show j+(r.length+1)=j+1+r.length by exact O [] [_,_] (.E (.p .x (.p .y 1)) (.p (.p .x 1) .y))];exact h5
 unfold jx at h;refine key (cM S items) [kq sh.done] _ 0 _ _ (λ_ h=>h) ⟨_,[],rfl,⟨aj0,rfl⟩,rfl⟩ ((of_decide_eq_true rfl)) ⟨?_,?_,?_,(of_decide_eq_true rfl)⟩ (by exact(O [] [_] (.i (.ag .x 9) (.ag (.p 0 .x) 9))) kL) ?_ ?_
 .intro w aj;obtain rfl:=List.mem_singleton.mp aj;show sh.done<=sh.done/\sh.done<=sh.done+0;exact O [_] [] (.c (.l .x .x) (.l .x (.p .x 0)))
 .intro w aj;obtain rfl:=List.mem_singleton.mp aj;exact⟨of_decide_eq_true rfl,of_decide_eq_true rfl,of_decide_eq_true rfl⟩
 .intro w aj;obtain rfl:=List.mem_singleton.mp aj;exact gB 0
 .intro e z;rw[e]at h;exact ret h
 .intro aW fZ o9 e ha cS hA;rw[e]at h;cases aW with
  |nil=>exact absurd rfl cS
  |cons w ws=>
   refine ah6 T ha λv hv=>⟨rfl,?_⟩
   unfold nK at h;dsimp only at h;have Cr:∀(l:List aE) (b:aE),jP b l=b\/jP b l∈l:=by
    intro l;induction l with
    |nil=>exactλb=>.inl rfl
    |cons x l ih=>
     intro b;rw[N5];rcases ih (if x.bc<b.bc then x else b)with e|e
     .rw[e];rcases Gp (c:=x.bc<b.bc) x b with e|e<;>rw[e]
      .exact .inr (.head _)
      .exact .inl rfl
     .exact .inr (.tail _ e)
   have pl:∀(l:List aE) (b f:aE) (bP:Int),(kK b S.loose f bP l).1=f\/(kK b S.loose f bP l).1∈l:=by
    intro l;induction l with
    |nil=>exactλb f bP=>.inl rfl
    |cons x l ih=>
     intro b f bP;rw[N6];split
     .rcases ih b x (x.line- b.line)with e|e
      .rw[e];exact .inr (.head _)
      .exact .inr (.tail _ e)
     .rcases ih b f bP with e|e
      .exact .inl e
      .exact .inr (.tail _ e)
   have zG:jP w (w::ws)∈w::ws:=by
    rcases Cr (w::ws) w with e|e
    .rw[e];exact .head _
    .exact e
   have hp:(g7 w ws S.loose).1∈w::ws:=by
    unfold g7;split
    .exact zG
    .rcases pl (w::ws) (jP w (w::ws)) (jP w (w::ws)) 0 with e|e
     .rw[e];exact zG
     .exact e
   have Og:=hA.Cp _ hp;refine mM (λh1=>?_) λh1=>?_
   .rw[decide_eq_false h1]at h;cases last with
    |true=>exact aZ rfl (N8 T hv (by exact(O [] [_,_] (.i (.ag .y 9) (.i (.ag .x (.p 0 .y)) (.ag .x 1000)))) kL Og) (ret h))
    |false=>exact bF rfl (ret h)
   .rw[decide_eq_true h1]at h;exact aZ rfl (N8 T hv (by exact(O [] [_,_] (.i (.ag .y 9) (.i (.ag .x (.p 0 .y)) (.ag .x 1000)))) kL Og) (ret h))
structure pA(G:J)(dx b1 b2:aC)(m:Sm)(ae:J):Prop where
 le:J.le G ae
 nd:G dx=aa
 n1:G b1=aa
 n2:G b2=aa
 d1:dx≠b1
 d2:dx≠b2
 rO:b1≠b2
 d:ae dx=I (.eE [5,1,3] [.i m.n,.r b1,.r b2])
 g9:ae b1=I (.l [.i m.a,.i m.b,.i m.c,.i m.d])
 iA:ae b2=I (.l [.i m.h,.i 0,.i 0,.i 0])
theorem pA.xF(x:pA G dx b1 b2 m ae)(w:Int):pA G dx b1 b2 (m.gu w) (ae.s dx (.eE [5,1,3] [.i (m.n+w),.r b1,.r b2])):=⟨x.le.s x.nd,x.nd,x.n1,x.n2,x.d1,x.d2,x.rO,J.bY,(J.cC x.d1.symm)▸x.g9,(J.cC x.d2.symm)▸x.iA⟩
theorem zH(h:G dx=I (.eE ns ao))(e:oQ T C ns ao n=I v):pZ T G (.o a C dx) n=I v:=(congrArg (λo=>(nW o).bind λf:List Nat×List V=>oQ T C f.1 f.2 n) h).trans e
theorem Oh(h:G dx=I (.eE ns ao))(e:mY ns n=ak)(m:T.iD C n=I f):AB T G (.o a C dx) n=I f:=(congrArg (λo=>(nW o).bind λf:List Nat×List V=>uU (mY f.1 n) (T.iD C n)) h).trans ((congrArg (λb=>uU b (T.iD C n)) e).trans m)
theorem mO(hs:G dx=I (.eE ns ao))(hc:(T.tH C n).isSome=ai)(hl:Nat.blt ns.length 100=ai)(h:R (G.s dx (.eE (putN ns n) (lT ns ao n v)))):n4 T (.o a C dx) n v G R:=⟨cz (a:=(ns,ao)) (congrArg nW hs) ⟨⟨hc,Nat.le_of_ble_eq_true hl⟩,h⟩⟩
theorem aj4(T:Top X)(h:∀a dx b1 b2 ae,pA G dx b1 b2 .z ae->Q (.o a 297 dx) ae):aB X (k+2) (.L (.ref 297)) [] G Q:=by
 refine jL T (fJ (i:=1) rfl) λa dx g=>Zi T rfl ?_;refine b7 rfl rfl ?_;intro b1 c;have d:dx≠b1:=λe=>by subst e;rw[J.bY]at c;cases c
 rw[J.cC d.symm]at c;refine mO (by rw[J.cC d,J.bY]) rfl rfl ?_;intro b2 b;have f:dx≠b2:=λe=>by subst e;rw[J.bY]at b;cases b
 rw[J.cC f.symm]at b;have j:b1≠b2:=λe=>by subst e;rw[J.bY]at b;cases b
 rw[J.cC j.symm,J.cC f.symm]at b;refine mO (by rw[J.cC f,J.bY]) rfl rfl ?_;refine ret ⟨rfl,.inl (h a dx b1 b2 _ ⟨?_,g,c,b,d,f,j,J.bY,?_,?_⟩)⟩
 .exact(((((J.le.r G).s g).s c).s g).s b).s g
 .rw[J.cC d.symm,J.cC j,J.cC d.symm,J.bY];rfl
 .rw[J.cC f.symm,J.bY];rfl
theorem aj5(T:Top X)(x:pA G dx b1 b2 m ae)(h:∀ae,pA G dx b1 b2 (m.gu w) ae->Q .n ae):aB X (k+1) (.L (.ref 273)) [.o a 297 dx,.i w] ae Q:=by refine Zk T rfl ?_;refine cz (zH x.d rfl) (mO x.d rfl rfl ?_);exact ret (h _ (x.xF w))
theorem aj6(T:Top X)(x:pA G dx b1 b2 m ae)(pj:0<=so/\so<=3)(h:∀ae,pA G dx b1 b2 (m.add w s so d6) ae->Q .n ae):aB X (k+1) (.L (.ref 266)) [.o a 297 dx,fK b w s so d6 0] ae Q:=by
 refine Zj T rfl ?_;refine cz (zH x.d rfl) (mO x.d rfl rfl ?_);have f:=x.xF w;refine cz (zH f.d rfl) ?_;have nS:∀{l:List V} {ae:J},pA G dx b1 b2 ⟨m.n+w,(m.add w s so 0).a,(m.add w s so 0).b,(m.add w s so 0).c,(m.add w s so 0).d,m.h⟩ ae->
   bK IR.a8 (aB X k) (Ss.d 2 IR.Fy) [I (.o a 297 dx),I (fK b w s so d6 0)] ae (fS Q):=by
  intro l ae g;refine cz (zH g.d rfl) ?_;refine cz (md g.iA rfl) ?_;refine qu g.iA rfl ?_;refine ret (h _ ⟨g.le.s g.n2,g.nd,g.n1,g.n2,g.d1,g.d2,g.rO,?_,?_,J.bY⟩)
  .rw[J.cC g.d2];exact g.d
  .rw[J.cC g.rO];exact g.g9
 rcases(by exact(O [_] [] (.i (.c (.l 0 .x) (.l .x 3)) (.d (.e .x 0) (.d (.e .x 1) (.d (.e .x 2) (.e .x 3)))))) pj:so=0\/so=1\/so=2\/so=3)with rfl|rfl|rfl|rfl
 all_goals
  refine cz (md f.g9 rfl) ?_;refine qu f.g9 rfl ?_;refine nS (l:=[]) ⟨f.le.s f.n1,f.nd,f.n1,f.n2,f.d1,f.d2,f.rO,?_,J.bY,?_⟩
  .rw[J.cC f.d1];exact f.d
  .rw[J.cC f.rO.symm];exact f.iA
noncomputable def cJ:Sm->List Nd->Sm
 |m,[]=>m
 |m,n::r=>cJ (m.step n) r
noncomputable def vM(a:aC)(m:Sm):V:=.eS a 297 [5,1,3] [.i m.n,.l [.i m.a,.i m.b,.i m.c,.i m.d],.l [.i m.h,.i 0,.i 0,.i 0]]
theorem Oi(h:G dx=I (.eE ns ao))(e:iQ ns ao n=I (.r b))(h2:G b=I (.l xs)):AG G (.o a C dx) n=I ((G.cT b).s dx (.eE ns (lT ns ao n (.l xs)))):=by show((nW (G dx)).bind λf=>((iQ f.1 f.2 n).bind r4).bind λb=>(lq (G b)).map λxs=>(G.cT b).s dx (.eE f.1 (lT f.1 f.2 n (.l xs))))=_;rw[h];show((iQ ns ao n).bind r4).bind _=_;rw[e];show(lq (G b)).map _=_;rw[h2];rfl
theorem Oj(h:G dx=I (.eE ns ao)):wN G (.o a C dx)=I (.eS a C ns ao,G.cT dx):=congrArg (λo=>(nW o).map λf:List Nat×List V=>(V.eS a C f.1 f.2,G.cT dx)) h
theorem aj7(T:Top X)(hg:hZ items)(h:∀a hh dd,(0<=hh/\hh<=10)->(0<=dd/\dd<=10)->Q (.aV [vM a (cJ .z items),.i hh,.i dd]) G):aB X (k+5) (.L (.ref 843)) [dn items] G Q:=by
 refine ZY T rfl (aj4 T λa g A B ae x=>⟨rfl,?_⟩);have key:∀(r:List Nd) (m:Sm) (hh dd:Int) (ae:J) (f:Option V) (R:Fl->ay->J->Prop),hZ r->pA G g A B m ae->(0<=hh/\hh<=10)->(0<=dd/\dd<=10)->
   (∀hh dd ae f,pA G g A B (cJ m r) ae->(0<=hh/\hh<=10)->(0<=dd/\dd<=10)->R .n [I (dn items),I (.o a 297 g),I (.i hh),I (.i dd),f] ae)->
   d8 (.cD 4) (bK IR.a8 (aB X (k+4)) IR.BG) (r.map Nd.v) [I (dn items),I (.o a 297 g),I (.i hh),I (.i dd),f] ae R:=by
  intro r;induction r with
  |nil=>exactλm hh dd ae f R _ x p q C=>C hh dd ae f x p q
  |cons n r K=>
   intro m hh dd ae f R hg x p q C;have t:=hg n (.head _);have rest:∀ae,pA G g A B (m.step n) ae->bK IR.a8 (aB X (k+4)) (Ss.d 1 IR.BG) [I (dn items),I (.o a 297 g),I (.i hh),I (.i dd),I n.v] ae (mH (d8 (.cD 4) (bK IR.a8 (aB X (k+4)) IR.BG) (r.map Nd.v)) R):=λae x=>ad3 T t λi M=>ad4 T t λj N=>K (m.step n) _ _ ae _ R (λy P=>hg y (.tail _ P)) x (by exact(O [_,_] [] (.i (.c (.l 0 .x) (.l .x 10)) (.i (.c (.l 0 .y) (.l .y 10)) (.c (.l 0 (.l .x .y)) (.l (.l .x .y) 10))))) p M) (by exact(O [_,_] [] (.i (.c (.l 0 .x) (.l .x 10)) (.i (.c (.l 0 .y) (.l .y 10)) (.c (.l 0 (.l .x .y)) (.l (.l .x .y) 10))))) q N) C
   by_cases u:n.kind=6
   .obtain⟨S,U,W,w,s,D,E,F,H,rfl⟩:∃a b c w s D E F H,n=.eV a b c w s D E F H:=by
     cases n<;>first|exact⟨_,_,_,_,_,_,_,_,_,rfl⟩|cases u|skip
     rename_i s;have:=Sh.sV t;have:s.kind=6:=u;exact tT ((O [_] [] (.i (.l .x 5) (.i (.e .x 6) .o))) ‹_› this)
    refine bF rfl (cz (Oh x.d rfl rfl) ?_);exact aj6 T x t.2.2.1 rest
   .refine qs n (eN u (cz (Oh x.d rfl rfl) ?_));refine F7 T t (aj5 T x λae x=>rest ae ?_);cases n<;>first|exact x|exact absurd rfl u
 refine key items .z 0 0 ae aa _ hg x (by decide) (by decide) λhh dd ae f x p q=>?_;refine cz (Oi x.d rfl x.g9) ?_;refine cz (Oi J.bY rfl (by rw[J.cC x.d2.symm,J.nj x.rO.symm];exact x.iA)) ?_;refine cz (Oj J.bY) ?_;refine pg (ae:=G) ?_ (h a hh dd p q);exact(((((x.le.cT x.n1).s x.nd).cT x.n2).s x.nd).cT x.nd)
noncomputable def ox(a b c d:Int):Int:=if d≠0 then 3 else if c≠0 then 2 else if b≠0 then 1 else 0
theorem Ol(T:Top X)(h:Q (.i (ox a b c d)) G):aB X (k+1) (.L (.ref 245)) [.l [.i a,.i b,.i c,.i d]] G Q:=by
 refine Zh T rfl ?_;unfold ox at h;refine mM (λe=>?_) λe=>mM (λf=>?_) λf=>mM (λg=>?_) λg=>?_
 .rw[if_pos e]at h;exact ret h
 .rw[if_neg (by simpa using e),if_pos f]at h;exact ret h
 .rw[if_neg (by simpa using e),if_neg (by simpa using f),if_pos g]at h;exact ret h
 .rw[if_neg (by simpa using e),if_neg (by simpa using f),if_neg (by simpa using g)]at h;exact ret h
theorem aj8(a b c d:Int):ox a b c d=0\/ox a b c d=1\/ox a b c d=2\/ox a b c d=3:=by
 unfold ox;split
 .exact .inr (.inr (.inr rfl))
 .split
  .exact .inr (.inr (.inl rfl))
  .split
   .exact .inr (.inl rfl)
   .exact .inl rfl
theorem aj9(T:Top X)(h:Q (.i (ox m.a m.b m.c m.d)) G):aB X (k+2) (.L (.ref 280)) [vM t m] G Q:=Zl T rfl (Ol T (ret h))
theorem ak0(T:Top X)(h:Q (.i 0) G):aB X (k+2) (.L (.ref 287)) [vM t m] G Q:=by refine Zm T rfl (Ol T (ret ?_));unfold ox;rw[if_neg (λe=>e rfl),if_neg (λe=>e rfl),if_neg (λe=>e rfl)];exact h
theorem Om(T:Top X)(h:∀v,Q v G):aB X (k+1) (.L (.ref 850)) [.i u,.i d] G Q:=ZZ T rfl (cv (λ_=>ret (h _)) λ_=>ret (h _))
def nL(m:Sm)(bB:Int):Int×Int:=
 if bB=0 then(0,0)else if 0<bB then(if ox m.a m.b m.c m.d=0 then(1,k7 bB.natAbs m.a)else(0,0))
 else if m.h< -bB then(3,-bB- m.h)else(2,k7 bB.natAbs m.h)
noncomputable def um(r:Int×Int):V:=.aV [.i r.1,.i r.2]
theorem ak1(T:Top X){t:aC}{m:Sm}{bB:Int}(hx:-1000000000<=bB/\bB<=1000000000)(ha:m.a<1000000000)(hh:m.h<1000000000)(h:∀s o r,Q (.aV [.i s,.i o,r,um (nL m bB)]) G):aB X (k+4) (.L (.ref 857)) [vM t m,.i bB] G Q:=by
 refine Z0 T rfl ?_;unfold nL at h;refine cv (λh1=>?_) λh1=>?_
 .rw[if_pos h1]at h;exact ret (h _ _ _)
 rw[if_neg h1]at h;have ar:∀(o Oo:Int) (r:Int×Int),(∀s o dG,Q (.aV [.i s,.i o,dG,um r]) G)->
   bK IR.a8 (aB X (k+3)) (Ss.d 6 IR.BH) [I (vM t m),I (.i bB),I (.i o),I (.i Oo),I (um r)] G (fS Q):=by
  intro o Oo r h;refine cv (λh1=>ret (h _ _ _)) λh1=>cv (λh2=>ret (h _ _ _)) λh2=>?_;exact cv (λh3=>Om T λv=>ret (h _ _ _)) λh3=>Om T λv=>ret (h _ _ _)
 by_cases h2:0<bB
 .rw[if_pos h2]at h;have go:∀o:Int,(o=0\/o=1\/o=2\/o=3)->(∀s hV dG,Q (.aV [.i s,.i hV,dG,um (if o=0 then(1,k7 bB.natAbs m.a)else(0,0))]) G)->
    bK IR.a8 (aB X (k+3)) (Ss.d 2 IR.BH) [I (vM t m),I (.i bB),I (.i o),aa,aa] G (fS Q):=by
   intro o ho h;refine iW h2 ?_;rcases ho with rfl|rfl|rfl|rfl
   .refine bF rfl (iW h2 (BV T (by exact(O [_] [] (.i (.c (.l (.k (-1000000000)) .x) (.l .x 1000000000)) (.i (.t 0 .x) (.l 0 (.c (.n .x)))))) hx h2) (by exact(O [_] [] (.i (.c (.l (.k (-1000000000)) .x) (.l .x 1000000000)) (.i (.t 0 .x) (.t (.c (.n .x)) 1000000000000)))) hx h2) (by exact(O [_] [] (.i (.t .x 1000000000) (.t .x 1000000000000))) ha) ?_));exact bF rfl (eN (by exact(O [_] [] (.i (.c (.l (.k (-1000000000)) .x) (.l .x 1000000000)) (.i (.t 0 .x) (.n (.t .x 0))))) hx h2) (aZ rfl (ar 0 m.a (1,k7 bB.natAbs m.a) h)))
   .exact aZ rfl (aZ rfl (aZ rfl (ar 1 _ (0,0) h)))
   .exact aZ rfl (aZ rfl (aZ rfl (ar 2 _ (0,0) h)))
   .exact aZ rfl (aZ rfl (aZ rfl (ar 3 _ (0,0) h)))
  exact iW h2 (aj9 T (go _ (aj8 _ _ _ _) h))
 .rw[if_neg h2]at h;refine eN h2 (ak0 T (eN h2 ?_));refine bF rfl (eN h2 (BV T (by exact(O [_] [] (.i (.c (.l (.k (-1000000000)) .x) (.l .x 1000000000)) (.i (.n (.t 0 .x)) (.l 0 (.c (.n .x)))))) hx h2) (by exact(O [_] [] (.i (.c (.l (.k (-1000000000)) .x) (.l .x 1000000000)) (.i (.n (.t 0 .x)) (.t (.c (.n .x)) 1000000000000)))) hx h2) (by exact(O [_] [] (.i (.t .x 1000000000) (.t .x 1000000000000))) hh) ?_));refine bF rfl (iW (by exact(O [_] [] (.i (.c (.l (.k (-1000000000)) .x) (.l .x 1000000000)) (.i (.n (.e .x 0)) (.i (.n (.t 0 .x)) (.t .x 0))))) hx h1 h2) (cv (λh3=>?_) λh3=>?_))
  .rw[if_pos h3]at h;exact ar 0 m.h (3,-bB- m.h) h
  .rw[if_neg h3]at h;exact ar 0 m.h (2,k7 bB.natAbs m.h) h
noncomputable def Nd.out:Nd->Bool
 |.xA .. =>ai
 |.iG .. =>ai
 |.ed .. =>ai
 |_=>ak
def mh(items:List Nd):List Nd:=items.filter λn=> !n.out
theorem ak2(T:Top X)(hg:hZ items)(hl:items.length<=1000)(h:∀out:List V,out.length<=2*items.length->Q (.aV [dn (mh items),.l out]) G):aB X (k+1) (.L (.ref 864)) [dn items] G Q:=by
 refine Z1 T rfl ?_;intro a H b z;have B:a≠b:=λe=>by subst e;rw[J.bY]at z;cases z
 rw[J.cC B.symm]at z;refine⟨rfl,?_⟩;have key:∀(r g:List Nd) (out:List V) (d:J) (f:Option V) (R:Fl->ay->J->Prop),hZ r->g.length+r.length<=1000->out.length+2*r.length<=2*items.length->d a=I (.l (g.map Nd.v))->d b=I (.l out)->J.le G d->
   (∀out d f,out.length<=2*items.length->d a=I (.l ((g++mh r).map Nd.v))->d b=I (.l out)->J.le G d->R .n [I (dn items),I (.r a),I (.r b),f] d)->
   d8 (.cD 3) (bK IR.a8 (aB X k) IR.Mz) (r.map Nd.v) [I (dn items),I (.r a),I (.r b),f] d R:=by
  intro r;induction r with
  |nil=>exactλbT out d f R _ _ j C o E A=>A out d f (by simpa using j) (by rw[mh,Cs,dZ];exact C) o E
  |cons n r Y=>
   intro g out d f R hg q j C o E A;have S:=hg n (.head _);simp only[iw]at q j;have F:=λg out d f=>Y g out d f R λy Z=>hg y (.tail _ Z);have hO:n.out=ak->n.kind≠11/\n.kind≠9/\n.kind≠10:=λe=>by
    cases n with
    |sh s=>have:=Sh.sV S;show s.kind≠11/\s.kind≠9/\s.kind≠10;exact(O [_] [] (.i (.l .x 5) (.c (.n (.e .x 11)) (.c (.n (.e .x 9)) (.n (.e .x 10)))))) this
    |xA=>cases e
    |iG=>cases e
    |ed=>cases e
    |_=>exact of_decide_eq_true rfl
   by_cases D:n.out=ai
   .have e:mh (n::r)=mh r:=by unfold mh;rw[s6,D];rfl
    rw[e]at A;cases n with
    |xA U t=>refine aZ rfl (bF rfl (bF rfl ⟨kG rfl o,cz (km o) ⟨⟨by simp[cK];exact(O [] [_,_,_,_] (.i (.ag .u 1000) (.i (.ag (.p .w (.p .y 1)) 1000) (.i (.ag (.p .x (.m 2 (.p .y 1))) (.m 2 .u)) (.ag .x 99999))))) hl q j⟩,?_⟩⟩));exact F g _ _ _ (by exact(O [] [_,_] (.i (.ag (.p .x (.p .y 1)) 1000) (.ag (.p .x .y) 1000))) q) (by simp;exact(O [] [_,_,_] (.i (.ag (.p .x (.m 2 (.p .y 1))) (.m 2 .u)) (.ag (.p (.p .x 1) (.m 2 .y)) (.m 2 .u)))) j) (by rw[J.cC B];exact C) J.bY (E.s z) A
    |iG U jg aD mi b8 dU aU8=>refine aZ rfl (aZ rfl (bF rfl ⟨kG rfl o,cz (km o) ⟨⟨by simp[cK];exact(O [] [_,_,_,_] (.i (.ag .u 1000) (.i (.ag (.p .w (.p .y 1)) 1000) (.i (.ag (.p .x (.m 2 (.p .y 1))) (.m 2 .u)) (.ag .x 99999))))) hl q j⟩,?_⟩⟩));exact F g _ _ _ (by exact(O [] [_,_] (.i (.ag (.p .x (.p .y 1)) 1000) (.ag (.p .x .y) 1000))) q) (by simp;exact(O [] [_,_,_] (.i (.ag (.p .x (.m 2 (.p .y 1))) (.m 2 .u)) (.ag (.p (.p .x 1) (.m 2 .y)) (.m 2 .u)))) j) (by rw[J.cC B];exact C) J.bY (E.s z) A
    |ed U is=>have W:is.length<=2:=S;refine bF rfl ⟨kG rfl o,cz (km o) ⟨⟨by simp[cK];exact(O [] [_,_,_,_,_] (.i (.ag .w 1000) (.i (.ag (.p .b (.p .u 1)) 1000) (.i (.ag (.p .x (.m 2 (.p .u 1))) (.m 2 .w)) (.i (.ag .y 2) (.ag (.p .x .y) 100000)))))) hl q j W⟩,?_⟩⟩;exact F g (out++is) _ _ (by exact(O [] [_,_] (.i (.ag (.p .x (.p .y 1)) 1000) (.ag (.p .x .y) 1000))) q) (by simp;exact(O [] [_,_,_,_] (.i (.ag (.p .x (.m 2 (.p .u 1))) (.m 2 .w)) (.i (.ag .y 2) (.ag (.p (.p .x .y) (.m 2 .u)) (.m 2 .w))))) j W) (by rw[J.cC B];exact C) J.bY (E.s z) A
    |sh s=>cases s<;>cases D
    |_=>cases D
   .have D:n.out=false:=by simpa using D
    have e:mh (n::r)=n::mh r:=by unfold mh;rw[s6,D];rfl
    rw[e]at A;obtain⟨k1,k2,k3⟩:=hO D;refine qs n (eN k1 (qs n (eN k2 (qs n (eN k3 ⟨kG rfl C,cz (km C) ⟨⟨by rw[cm];simp[cK];exact(O [] [_,_] (.i (.ag (.p .x (.p .y 1)) 1000) (.ag .x 99999))) q⟩,?_⟩⟩)))));exact F (g++[n]) out _ _ (by simp;exact(O [] [_,_] (.i (.ag (.p .x (.p .y 1)) 1000) (.ag (.p (.p .x 1) .y) 1000))) q) (by exact(O [] [_,_,_] (.i (.ag (.p .x (.m 2 (.p .y 1))) (.m 2 .u)) (.ag (.p .x (.m 2 .y)) (.m 2 .u)))) j) (by rw[J.bY,gk];rfl) (by rw[J.cC B.symm];exact o) (E.s H) λout d f K M N P=>A out d f K (by rw[M,dK];rfl) N P
 refine key items [] [] _ aa _ hg (by simpa using hl) (by simp) (by rw[J.cC B,J.bY];rfl) J.bY (((J.le.r G).s H).s z) λout d f K M N P=>?_;refine cz (oq M) (cz (oq (G:=d.cT a) (by rw[J.nj B.symm];exact N)) ?_);exact pg ((P.cT H).cT z) (h out K)
theorem ak3(T:Top X)(ha:hY GA)(h:Q (.i GA) G):aB X (k+3) (.L (.ref 871)) [.i own,.i 0,.i GA] G Q:=Z2 T rfl (aZ rfl (aZ rfl (iX T ha (bF rfl (ret h)))))
noncomputable abbrev Ct:List Nat:=[6,0,7,8,9,10,11,12,13]
theorem ak4(T:Top X)(aj:hY w)(hh:hY h)(aF:hY d)(hq:∀a dx,G dx=aa->Q (.o a 349 dx) (G.s dx (.eE Ct [.i 2,.i w,.i h,.i d,items,.i 0,.i 0,.i 0,.aV [.i 0,.i 1]]))):aB X (k+4) (.L (.ref 349)) [.i 2,.i w,.i h,.i d,items] G Q:=by refine jL T (fJ (i:=2) rfl) λa dx b=>Nb T rfl ?_;refine oo T (by decide) (aZ rfl ?_);refine b7 rfl rfl (iX T aj (b7 rfl rfl (iX T hh (b7 rfl rfl (iX T aF (b7 rfl rfl ?_))))));exact b7 rfl rfl (b7 rfl rfl (b7 rfl rfl (b7 rfl rfl (b7 rfl rfl (ret ⟨rfl,.inl (hq a dx b)⟩)))))
theorem ak5(T:Top X){a dx t:aC}{m:Sm}{bB w h d:Int}{n:V}{ns:List V}(hx:-1000000000<=bB/\bB<=1000000000)(ha:m.a<1000000000)(hh:m.h<1000000000)(hs:G dx=I (.eE Ct [.i 2,.i w,.i h,.i d,.l (n::ns),.i 0,.i 0,.i 0,.aV [.i 0,.i 1]]))(hq:∀ao,Q (um (nL m bB)) (G.s dx (.eE Ct ao))):aB X (k+5) (.L (.ref 878)) [.o a 349 dx,vM t m,.i bB] G Q:=by refine Z3 T rfl (ak1 T hx ha hh λs o r=>⟨rfl,?_⟩);refine mO hs rfl rfl (b7 rfl rfl (b7 rfl rfl ?_));exact cz (zH J.bY rfl) (bF rfl (ret (hq _)))
theorem Oq:∀{r:List Nd} {m:Sm} {B:Int},hZ r->m.jc B->(cJ m r).jc (B+2000*(r.length:Int))
 |[],_,_,_,ax=>ax.bI (by simp)
 |n::r,m,B,hg,ax=>(Oq (λy hy=>hg y (.tail _ hy)) (Sm.Gw ax (hg n (.head _)))).bI (by rw[iw];exact O [_] [_] (.l (.p (.p .x 2000) (.m 2000 (.c .x))) (.p .x (.m 2000 (.c (.p .x 1))))))
theorem ak6:∀(r:List Nd) (m:Sm),cJ m (mh r)=cJ m r:=by
 intro b;induction b with
 |nil=>exactλ_=>rfl
 |cons n r a=>
  intro m;unfold mh;rw[s6];by_cases h:n.out=ai
  .rw[h];have e:m.step n=m:=by cases n<;>first|exact m.vK|cases h
   show cJ m (mh r)=cJ (m.step n) r;rw[e];exact a m
  .rw[show n.out=ak by simpa using h];exact a _
theorem ak7(T:Top X){aA:J}{o:aC}{items:List Nd}{w:Int}(hg:hZ items)(hl:items.length<=1000)(aj:-100000<=w/\w<=100000)(ho:G o=I (.l []))(l:J.le aA G)(uo:aA o=aa)(cS:mh items≠ [])(h:∀a dx ao ae,ae dx=I (.eE Ct ao)->aA dx=aa->J.le aA ae->Q (.aV [.o a 349 dx,um (nL (cJ .z items) (w- (cJ .z items).n))]) ae):aB X (k+6) (.L (.ref 886)) [dn items,.i 0,.i w,.r o] G Q:=by
 refine Z4 T rfl (cz rfl (aZ rfl (ak2 T hg hl λout ak8=>⟨rfl,?_⟩)));have ak9:hZ (mh items):=λn hn=>hg n (List.mem_filter.mp hn).1;have jc:(cJ .z items).jc 2000000:=(Oq hg (B:=0) ⟨by decide,by decide,by decide⟩).bI (by exact(O [] [_] (.i (.ag .x 1000) (.l (.p 0 (.m 2000 (.c .x))) 2000000))) hl);refine aj7 T ak9 λt hh dd h1 h2=>⟨rfl,?_⟩
 rw[ak6];have b1:=jc.n;have b2:=jc.a;have al0:=jc.h;refine ak3 T (by exact(O [_] [] (.i (.c (.l (.k (-100000)) .x) (.l .x 100000)) (.c (.l (.k (-1073741823)) .x) (.l .x 1073741823)))) aj) (ak4 T (by exact(O [_] [] (.i (.c (.l (.k (-100000)) .x) (.l .x 100000)) (.c (.l (.k (-1073741823)) .x) (.l .x 1073741823)))) aj) (by exact(O [_] [] (.i (.c (.l 0 .x) (.l .x 10)) (.c (.l (.k (-1073741823)) .x) (.l .x 1073741823)))) h1) (by exact(O [_] [] (.i (.c (.l 0 .x) (.l .x 10)) (.c (.l (.k (-1073741823)) .x) (.l .x 1073741823)))) h2) λa dx dY=>cz rfl (bF rfl ?_));have Ot:dx≠o:=λe=>by subst e;rw[dY]at ho;cases ho
 have Ou:∀{f},(G.s dx f) o=I (.l []):=by intro f;rw[J.cC Ot.symm];exact ho
 refine⟨kG rfl Ou,cz (km Ou) ⟨⟨by simp[cK];exact(O [] [_,_] (.i (.ag .y 1000) (.i (.ag .x (.m 2 .y)) (.ag .x 100000)))) hl ak8⟩,?_⟩⟩;have GB:aA dx=none:=l.qt dY;cases hk:mh items with
 |nil=>exact absurd hk cS
 |cons n ns=>refine ak5 T (m:=cJ .z items) (n:=n.v) (ns:=ns.map Nd.v) (by exact(O [_,_] [] (.i (.c (.l (.k (-100000)) .x) (.l .x 100000)) (.i (.c (.l (.k (-2000000)) .y) (.l .y 2000000)) (.c (.l (.k (-1000000000)) (.s .x .y)) (.l (.s .x .y) 1000000000))))) aj b1) (by exact(O [_] [] (.i (.c (.l (.k (-2000000)) .x) (.l .x 2000000)) (.t .x 1000000000))) b2) (by exact(O [_] [] (.i (.c (.l (.k (-2000000)) .x) (.l .x 2000000)) (.t .x 1000000000))) al0) (by rw[J.cC Ot,J.bY];rfl) λao=>ret ?_;exact h a dx ao _ J.bY GB (((l.s GB).s uo).s GB)
def Gl.zero(g:Gl):Prop:=[g.w,g.s,g.so,g.h,0]=[0,0,0,0,0]
noncomputable instance(g:Gl):Decidable g.zero:=inferInstanceAs (Decidable (_=_))
def qA(g:Gl)(a:aC):List Nd:=if g.zero then []else [.eV a g.a 0 g.w g.s g.so g.h 105 ak]
def xG(S:bk)(line:List Nd):Sm:=(cJ (Sm.z.add S.l.w S.l.s S.l.so S.l.h) line).add S.r.w S.r.s S.r.so S.r.h
theorem oy:∀(a b:List Nd) (m:Sm),cJ m (a++b)=cJ (cJ m a) b:=by
 intro c;induction c with
 |nil=>exactλ_ _=>rfl
 |cons _ a d=>exactλb m=>d b _
theorem al1(S:bk)(line:List Nd)(a b:aC):cJ .z (qA S.l a++line++[.eV b S.r.a 0 S.r.w S.r.s S.r.so S.r.h 106 ak])=xG S line:=by
 rw[oy,oy];unfold xG qA;split
 .rename_i h;unfold Gl.zero at h;simp only[Jh,and_true]at h;refine cps λG0 c=>?_;obtain⟨d,e,f,g⟩:=h;refine c ?_;clear c;rw[d,e,f,g];rfl
 .rfl
def s7(S:bk)(size:Int)(line:List Nd):Int×Int:=nL (xG S line) (size- (xG S line).n)
theorem al2(T:Top X){S:bk}{line:List Nd}{ow size:Int}(hS:S.ok)(hg:hZ line)(hl:line.length<=900)(aj:-100000<=size/\size<=100000)(h:Q (.aV [.a,.a,um (s7 S size line)]) G):aB X (k+7) (.L (.ref 897)) [dn line,S.v,.i ow,.i size] G Q:=by
 refine Z5 T rfl ?_;intro f aT;have rest:∀(a:aC) (ae:J),ae f=I (.l ((qA S.l a).map Nd.v))->J.le G ae->bK IR.a8 (aB X (k+6)) (Ss.d 2 IR.FF) [I (dn line),I S.v,I (.i ow),I (.i size),I (.r f),aa,aa,aa] ae (fS Q):=by
  intro a ae e1 l1;have GC:(qA S.l a).length<=1:=by unfold qA;split<;>simp
  refine⟨kG rfl e1,cz (km e1) ⟨⟨by rw[cm,cm];simp[cK];exact(O [] [_,_] (.i (.ag .y 900) (.i (.ag .x 1) (.ag (.p .x .y) 100000)))) hl GC⟩,?_⟩⟩;refine⟨kG rfl J.bY,B2 T (.inr (by decide)) λb=>cz (km J.bY) ⟨⟨by simp[cK];exact(O [] [_,_] (.i (.ag .y 900) (.i (.ag .x 1) (.ag (.p .x .y) 99999)))) hl GC⟩,?_⟩⟩;intro o ho;have Cu:f≠o:=λe=>by subst e;rw[J.bY]at ho;cases ho
  rw[J.cC Cu.symm,J.cC Cu.symm]at ho;have yY:(qA S.l a).map Nd.v++line.map Nd.v++[ue b S.r.v 106 .n]=(qA S.l a++line++[Nd.eV b S.r.a 0 S.r.w S.r.s S.r.so S.r.h 106 ak]).map Nd.v:=by rw[gk,gk];rfl
  refine cz (oq (xs:=(qA S.l a++line++[Nd.eV b S.r.a 0 S.r.w S.r.s S.r.so S.r.h 106 ak]).map Nd.v) (by rw[J.cC Cu,J.bY];exact congrArg (λx=>I (gf.l x)) yY)) ?_;have Cv:∀(g:Gl) (x:aC) (n:Int),g.ok->(Nd.eV x g.a 0 g.w g.s g.so g.h n ak).cO:=λg x n hk=>hk;refine ak7 (aA:=G) (o:=o) T ?_ ?_ aj ?_ ?_ (l1.qt ho) ?_ ?_
  .intro n hn;rcases List.mem_append.mp hn with hn|hn
   .rcases List.mem_append.mp hn with hn|hn
    .unfold qA at hn;split at hn
     .cases hn
     .obtain rfl:=List.mem_singleton.mp hn;exact Cv _ _ _ hS.l
    .exact hg n hn
   .obtain rfl:=List.mem_singleton.mp hn;exact Cv _ _ _ hS.r
  .simp;exact(O [] [_,_] (.i (.ag .y 900) (.i (.ag .x 1) (.ag (.p .x (.p .y 1)) 1000)))) hl GC
  .dsimp only;rw[J.nj Cu.symm,J.bY]
  .exact((((l1.s aT).s aT).s (l1.qt ho)).cT aT)
  .unfold mh;rw[xH];intro e;have e2:[_]=[]:=(List.append_eq_nil_iff.mp e).2;cases e2
  .intro cY dx ao fP e2 aF l2;refine⟨rfl,mO e2 rfl rfl ?_⟩;rw[al1];exact pg (l2.s aF) h
 refine Zg T (by rfl) (ret ?_);refine mM (λh1=>?_) λh1=>?_
 .refine⟨kG rfl J.bY,B2 T (.inr (by decide)) λa=>cz (km J.bY) ⟨⟨by simp[cK]⟩,?_⟩⟩;refine rest a _ ?_ (((J.le.r G).s aT).s aT);rw[J.bY];unfold qA;rw[if_neg (show¬S.l.zero from h1)];rfl
 .refine rest 0 _ ?_ ((J.le.r G).s aT);rw[J.bY];unfold qA;rw[if_pos (show S.l.zero from h1)];rfl
theorem al3(T:Top X)(h:Q (.i 0) G):aB X (k+1) (.L (.ref 904)) [.i n,.i m,.b c,.aV [.i 0,.i 0,.i 0,.i 0]] G Q:=by
 refine Z6 T rfl (cv (λ_=>ret h) λ_=>⟨rfl,?_⟩);have a:bK IR.a8 (aB X k) (Ss.d 5 IR.BI) [I (.i n),I (.i m),I (.b c),I (.aV [.i 0,.i 0,.i 0,.i 0]),I (.i 0),I (.i 0),I (.i 0),I (.i 0),I (.i 0)] G (fS Q):=by
  cases c with
  |true=>exact bF rfl (ret h)
  |false=>exact aZ rfl (ret h)
 have e:bK IR.a8 (aB X k) (Ss.d 4 IR.BI) [I (.i n),I (.i m),I (.b c),I (.aV [.i 0,.i 0,.i 0,.i 0]),I (.i 0),I (.i 0),I (.i 0),I (.i 0),I (.i 0)] G (fS Q):=cv (λ_=>a) λ_=>a
 exact cv (λ_=>e) λ_=>e
noncomputable def qB(items:List Nd)(p:Nat):List Sh:=match items[p]? with
 |some n=>n.gS
 |none=>[]
noncomputable def mj(items:List Nd)(p:Nat):List Sh:=match items[p]? with
 |some n=>n.uf
 |none=>[]
def mP(items:List Nd)(cP:Nat)(iM:List Sh)(p:Nat):List Nd:=iM.map .sh++(items.drop cP).take (p- cP)++(qB items p).map .sh
noncomputable def kM(S:bk)(size:Int)(items:List Nd):Nat->List Sh->List Nat->List (Int×Int)
 |_,_,[]=>[]
 |cP,iM,p::r=>s7 S size (mP items cP iM p)::kM S size items (fD items p) (mj items p) r
theorem al4{S size items w1 w2}:kM S size items w1 w2 []=([]):=rfl
theorem al5{S size items cP iM p r}:kM S size items cP iM (p::r)=(s7 S size (mP items cP iM p)::kM S size items (fD items p) (mj items p) r):=rfl
def gy(r:Int×Int):V:=.aV [.a,.a,.i 0,um r]
theorem Cw{p n:Nat}(h:p<=n):bound (p:Int) n=p:=by unfold bound;rw[if_pos (wC p)];exact(O [] [_,_] (.i (.ag .x .y) (.E (.i (.af (.c .x)) .y) .x))) h
theorem Cy(l:List Sh):(l.map Nd.sh).map Nd.v=l.map Sh.v:=by rw[l8];rfl
theorem GD(hg:hZ items)(p:Nat):(∀s∈qB items p,s.cO)/\(qB items p).length<=2:=by
 unfold qB;cases e:items[p]? with
 |none=>exact⟨λ_ h=>absurd h nv,jW 2⟩
 |some n=>exact Nd.B6 (hg.at e)
theorem al6(hg:hZ items)(p:Nat):(∀s∈mj items p,s.cO)/\(mj items p).length<=2:=by
 unfold mj;cases e:items[p]? with
 |none=>exact⟨λ_ h=>absurd h nv,jW 2⟩
 |some n=>exact Nd.B7 (hg.at e)
theorem GF(ha:a<=2)(hc:c<=2)(hn:n<=800)(al7:804<=M):a+eQ (p- s) (n- s)+c<=M:=hW (al8 (al8 ha (hW (Nat.min_le_right _ _) (hW (Nat.sub_le _ _) hn))) hc) al7
theorem Ov(T:Top X){items:List Nd}{ps:List Nat}{S:bk}{sh:gN}{size:Int}(hg:hZ items)(hl:items.length<=800)(hS:S.ok)(hsh:sh.ok size)(aF:0<=sh.done/\sh.done<=2)(ji:fN size)(hp:∀p∈ps,p<=items.length)(hn:ps.length<=20)(h:Q (.l ((kM S size items 0 [] ps).map gy)) G):aB X (k+8) (.L (.ref 911)) [dn items,.l (ps.map λp:Nat=>.i p),S.v,sh.v,.aV [.i 0,.i 0,.i 0,.i 0]] G Q:=by
 refine Z7 T rfl ?_;intro a ha;refine⟨rfl,?_⟩;have key:∀(r:List Nat) (i cP:Nat) (iM:List Sh) (done:List (Int×Int)) (ae:J) (o8 o9 s8 rP dp h9 eI dF eX:Option V) (R:Fl->ay->J->Prop),(∀p∈r,p∈ps)->i+r.length<=20->cP<=items.length->((∀s∈iM,s.cO)/\iM.length<=2)->done.length+r.length<=20->ae a=I (.l (done.map gy))->J.le G ae->
   (∀o6 o7 o8 o9 s8 rP dp h9 eI dF eX ae,ae a=I (.l ((done++kM S size items cP iM r).map gy))->J.le G ae->R .n [I (dn items),I (.l (ps.map λp:Nat=>.i p)),I S.v,I sh.v,I (.aV [.i 0,.i 0,.i 0,.i 0]),I (.r a),o6,o7,o8,o9,s8,rP,dp,h9,eI,dF,eX] ae)->
   d8 (.fG [8,9]) (bK IR.a8 (aB X (k+7)) IR.ub) (m5 i (r.map λp:Nat=>V.i p)) [I (dn items),I (.l (ps.map λp:Nat=>.i p)),I S.v,I sh.v,I (.aV [.i 0,.i 0,.i 0,.i 0]),I (.r a),I (.i cP),I (.l (iM.map Sh.v)),o8,o9,s8,rP,dp,h9,eI,dF,eX] ae R:=by
  intro r;induction r with
  |nil=>exactλi cP iM done ae o8 o9 s8 rP dp h9 eI dF eX R _ _ _ _ _ h1 h2 hR=>hR _ _ o8 o9 s8 rP dp h9 eI dF eX ae (by rw[al4,dZ];exact h1) h2
  |cons p r ih=>
   intro i cP iM done ae o8 o9 s8 rP dp h9 eI dF eX R ax hi gC vN GG h1 h2 hR;have pl:=hp p (ax p (.head _));simp only[iw]at hi GG;refine⟨rfl,?_⟩;have Ow:∀{s:Nat},s<=items.length->pW (items.map Nd.v) (bound (s:Int) (items.map Nd.v).length) (bound (p:Int) (items.map Nd.v).length)=((items.drop s).take (p- s)).map Nd.v:=by intro s hs;rw[cm,Cw hs,Cw pl];unfold pW;rw[<- Ox,<- zI]
   have GH:hZ (mP items cP iM p):=by
    intro n hn;unfold mP at hn;rcases List.mem_append.mp hn with hn|hn
    .rcases List.mem_append.mp hn with hn|hn
     .obtain⟨s,hs,rfl⟩:=List.mem_map.mp hn;exact vN.1 s hs
     .exact hg n (Oy (GI hn))
    .obtain⟨s,hs,rfl⟩:=List.mem_map.mp hn;exact(GD hg p).1 s hs
   have al9:(mP items cP iM p).length<=900:=by unfold mP;have:=(GD hg p).2;have:=vN.2;simp only[fQ,cm,vO,vJ];exact GF vN.2 (GD hg p).2 hl (by decide)
   have tail:∀c sG av dp,sG=dn (mP items cP iM p)->av=.l ((mj items p).map Sh.v)->bK IR.a8 (aB X (k+7)) (Ss.d 4 IR.ub) [I (dn items),I (.l (ps.map λp:Nat=>.i p)),I S.v,I sh.v,I (.aV [.i 0,.i 0,.i 0,.i 0]),I (.r a),I (.i cP),I av,I (.i i),I (.i p),I (.b c),I sG,dp,h9,eI,dF,eX] ae (mH (d8 (.fG [8,9]) (bK IR.a8 (aB X (k+7)) IR.ub) (m5 (i+1) (r.map λp:Nat=>V.i p))) R):=by
    rintro c _ _ dp rfl rfl;refine NO T hsh (by exact(O [_] [_,_] (.i (.c (.l 0 .x) (.l .x 2)) (.i (.ag (.p .x (.p .y 1)) 20) (.c (.l 1 (.p (.p .x (.c .x)) 1)) (.l (.p (.p .x (.c .x)) 1) 40))))) aF hi) λow _=>⟨rfl,?_⟩
    refine al2 T hS GH al9 (by exact(O [_] [] (.i (.c (.l (.k (-100000)) .x) (.l .x 100000)) (.c (.l (.k (-100000)) .x) (.l .x 100000)))) ji) ⟨rfl,?_⟩;refine⟨kG rfl h1,al3 T (cz (km h1) ⟨⟨by rw[cm];simp[cK];exact(O [] [_,_,_] (.i (.ag (.p .u (.p .y 1)) 20) (.i (.ag (.p .x (.p .y 1)) 20) (.ag .x 99999)))) hi GG⟩,?_⟩)⟩;refine ND T hg ?_;refine ih (i+1) (fD items p) (mj items p) (done++[s7 S size (mP items cP iM p)]) _ _ _ _ _ _ _ _ _ _ R (λq hq=>ax q (.tail _ hq)) (by exact(O [] [_,_] (.i (.ag (.p .x (.p .y 1)) 20) (.ag (.p (.p .x 1) .y) 20))) hi) (Gf pl) (al6 hg p) (by simp;exact(O [] [_,_] (.i (.ag (.p .x (.p .y 1)) 20) (.ag (.p (.p .x 1) .y) 20))) GG) (by rw[J.bY,gk];rfl) (h2.s ha) λo6 o7 o8 o9 s8 rP dp h9 eI dF eX ae e l=>hR o6 o7 o8 o9 s8 rP dp h9 eI dF eX ae (by rw[e,al5,dK];rfl) l
   have Oz:dn (mP items cP iM p)=.l (iM.map Sh.v++((items.drop cP).take (p- cP)).map Nd.v++(qB items p).map Sh.v):=by unfold dn mP;rw[gk,gk,Cy,Cy]
   have m2:∀(c:Bool) (ag:List V),c=(match items[p]? with|some (.dt ..)=>ai|_=>ak)->ag=iM.map Sh.v++((items.drop cP).take (p- cP)).map Nd.v->bK IR.a8 (aB X (k+7)) (Ss.d 2 IR.ub) [I (dn items),I (.l (ps.map λp:Nat=>.i p)),I S.v,I sh.v,I (.aV [.i 0,.i 0,.i 0,.i 0]),I (.r a),I (.i cP),I (.l (iM.map Sh.v)),I (.i i),I (.i p),I (.b c),I (.l ag),dp,h9,eI,dF,eX] ae (mH (d8 (.fG [8,9]) (bK IR.a8 (aB X (k+7)) IR.ub) (m5 (i+1) (r.map λp:Nat=>V.i p))) R):=by
    intro c ag hc hL;have am0:(∀a gS q m,items[p]?≠I (.dt a gS q m))->qB items p=[]/\mj items p=[]/\c=false:=by
     intro hn;subst hc;unfold qB mj;cases e:items[p]? with
     |none=>exact⟨rfl,rfl,rfl⟩
     |some n=>cases n<;>first|exact⟨rfl,rfl,rfl⟩|exact absurd e (hn _ _ _ _)
    by_cases OA:∃a gS q m,items[p]?=I (.dt a gS q m)
    .obtain⟨cY,gS,q,m,e⟩:=OA;rw[e]at hc;subst hc;have e1:qB items p=gS:=by unfold qB;rw[e]
     have e2:mj items p=q:=by unfold mj;rw[e]
     have g:=hg.at e;refine bF rfl (dg (iJ e) ⟨⟨?_⟩,dg (iJ e) (tail _ _ _ _ ?_ ?_)⟩)
     .have:=vN.2;have:=g.2.1;rw[hL];simp only[fQ,cm,vO,vJ,cK];exact GF vN.2 g.2.1 hl (by decide)
     .rw[Oz,e1,hL]
     .rw[e2]
    .obtain⟨e1,e2,e3⟩:=am0 λa gS q m e=>OA ⟨a,gS,q,m,e⟩;subst e3;refine aZ rfl (tail _ _ _ _ ?_ ?_)
     .rw[Oz,e1,hL,w3,dZ]
     .rw[e2];rfl
   have m1:∀(c:Bool),c=(match items[p]? with|some (.dt ..)=>ai|_=>ak)->bK IR.a8 (aB X (k+7)) (Ss.d 1 IR.ub) [I (dn items),I (.l (ps.map λp:Nat=>.i p)),I S.v,I sh.v,I (.aV [.i 0,.i 0,.i 0,.i 0]),I (.r a),I (.i cP),I (.l (iM.map Sh.v)),I (.i i),I (.i p),I (.b c),rP,dp,h9,eI,dF,eX] ae (mH (d8 (.fG [8,9]) (bK IR.a8 (aB X (k+7)) IR.ub) (m5 (i+1) (r.map λp:Nat=>V.i p))) R):=by intro c hc;refine⟨⟨?_⟩,m2 c _ hc (by rw[Ow gC])⟩;rw[Ow gC,cm,cm];have:=vN.2;simp only[vO,vJ,cK];exact GF (c:=0) vN.2 (jW _) hl (by decide)
   cases e:items[p]? with
   |none=>have:=List.getElem?_eq_none_iff.mp e;exact eN (by rw[cm];exact(O [] [_,_] (.i (.ag .x .y) (.i (.ag .y .x) (.n (.t (.c .x) (.c .y)))))) pl this) (m1 ak (by rw[e]))
   |some n=>
    have nN:=(List.getElem?_eq_some_iff.mp e).1;refine iW (by rw[cm];exact(O [] [_,_] (.i (.U .x .y) (.t (.c .x) (.c .y)))) nN) (dg (iJ e) (qs n (m1 _ ?_)));rw[e];have gn:=hg.at e;cases n with
    |sh s=>have:=Sh.sV gn;show a6 (s.kind=8)=ak;exact decide_eq_false (by exact(O [_] [] (.i (.l .x 5) (.n (.e .x 8)))) this)
    |_=>rfl
 refine key ps 0 0 [] [] _ aa aa aa aa aa aa aa aa aa _ (λ_ h=>h) (by exact(O [] [_] (.i (.ag .x 20) (.ag (.p 0 .x) 20))) hn) (jW _) ⟨λ_ h=>by(cases h),by simp⟩ (by simpa using hn) J.bY ((J.le.r G).s ha) λo6 o7 o8 o9 s8 rP dp h9 eI dF eX ae e l=>?_;exact cz (oq e) (pg (l.cT ha) h)
structure pB(ae:J)(pa:aC)(b:Int):Prop where
 bB:∃x y:Int,ae pa=I (.l [.i x,.i y])/\0<=x/\0<=y/\y+b<=1000000
theorem pB.bI(h:pB ae pa b)(hc:c<=b):pB ae pa c:=let⟨x,y,e,a,d,f⟩:=h.bB;⟨x,y,e,a,d,by exact(O [_,_,_] [] (.i (.l .y .u) (.i (.l (.p .x .u) 1000000) (.l (.p .x .y) 1000000)))) hc f⟩
theorem pB.vo(h:pB ae pa b)(hn:pa≠a):pB (ae.s a o) pa b:=let⟨x,y,e,c⟩:=h.bB;⟨x,y,by rw[J.cC hn];exact e,c⟩
theorem GJ{a b:Int}(hb:0<b):0<=a.fmod b/\a.fmod b<b:=by rw[Int.fmod_eq_emod_of_nonneg _ (pU hb)];exact⟨Int.emod_nonneg _ (by exact(O [_] [] (.i (.t 0 .x) (.n (.e .x 0)))) hb),Int.emod_lt_of_pos _ hb⟩
theorem GK(T:Top X){pa:aC}{b m:Int}(hp:pB G pa b)(hb:1<=b)(ax:1<=m/\m<=1000)(h:∀d x y:Int,0<=d/\d<m->0<=x->0<=y->y+(b- 1)<=1000000->Q (.i d) (G.s pa (.l [.i x,.i y]))):aB X (k+1) (.L (.ref 925)) [.r pa,.i m] G Q:=by
 refine cps λG0 g0=>?_;obtain⟨x,y,e,h1,h2,h3⟩:=hp.bB;refine g0 ?_;clear g0;refine Z9 T rfl ?_;refine cz (md e rfl) (cv (λhx=>?_) λhx=>?_)
 .refine cz (md e rfl) ⟨by exact(O [_] [] (.i (.c (.l 1 .x) (.l .x 1000)) (.n (.e .x 0)))) ax,?_⟩;refine cz (md e rfl) ⟨xu (by exact(O [_] [] (.i (.c (.l 1 .x) (.l .x 1000)) (.n (.e .x 0)))) ax) (by exact(O [_] [] (.i (.c (.l 1 .x) (.l .x 1000)) (.t (.k (-2^64)) .x))) ax) (by exact(O [_] [] (.i (.c (.l 1 .x) (.l .x 1000)) (.t .x (.k (2^64))))) ax),qu e rfl (ret ?_)⟩;exact h _ _ _ (GJ (by exact(O [_] [] (.i (.c (.l 1 .x) (.l .x 1000)) (.t 0 .x))) ax)) (FU h1 (by exact(O [_] [] (.i (.c (.l 1 .x) (.l .x 1000)) (.t 0 .x))) ax)) h2 (by exact(O [_,_] [] (.i (.l (.p .x .y) 1000000) (.l (.p .x (.s .y 1)) 1000000))) h3)
 .refine cz (md e rfl) (qu e rfl ?_);refine cz (md J.bY rfl) ⟨kF (by decide) (by decide),cz (md J.bY rfl) ⟨FT (by exact(O [_] [] (.i (.l 0 .x) (.t (.k (-2^64)) (.p .x 1)))) h2) (by exact(O [_,_] [] (.i (.l 1 .y) (.i (.l (.p .x .y) 1000000) (.t (.p .x 1) (.k (2^64)))))) hb h3),cz (md J.bY rfl) ⟨kF (by decide) (by decide),by decide,by exact(O [_] [] (.i (.c (.l 1 .x) (.l .x 1000)) (.n (.e .x 0)))) ax,ret ?_⟩⟩⟩;exact h _ _ _ (GJ (by exact(O [_] [] (.i (.c (.l 1 .x) (.l .x 1000)) (.t 0 .x))) ax)) h1 (by exact(O [_] [] (.i (.l 0 .x) (.l 0 (.p .x 1)))) h2) (by exact(O [_,_] [] (.i (.l (.p .x .y) 1000000) (.l (.p (.p .x 1) (.s .y 1)) 1000000))) h3)
theorem OB{P:V->Prop}{xs:List V}{d:Int}(aF:0<=d/\d<xs.length)(h:∀v∈xs,P v):∃v,j7 xs d=I v/\P v:=by
 obtain⟨n,rfl⟩:∃n:Nat,d=n:=⟨d.toNat,by exact(O [_] [_] (.i (.c (.l 0 .x) (.t .x (.c .x))) (.e .x (.c (.af .x))))) aF⟩
 have hn:n<xs.length:=by exact(O [] [_,_] (.i (.c (.l 0 (.c .x)) (.t (.c .x) (.c .y))) (.U .x .y))) aF
 have:=iJ (f:=id) (rj hn);rw[EB]at this;exact⟨_,this,h _ (List.getElem_mem hn)⟩
inductive am1(P:Int->Prop)(xs:List Int)(d:Int):Prop
 |mk (i:Int) (e:j7 (xs.map .i) d=I (.i i)) (h:P i)
theorem oz{P:Int->Prop}{xs:List Int}{d:Int}(aF:0<=d/\d<xs.length)(h:∀i∈xs,P i):am1 P xs d:=by
 obtain⟨v,e,i,rfl,hi⟩:=OB (P:=λv=>∃i,v=.i i/\P i) (xs:=xs.map .i) (by rw[cm];exact aF) λv hv=>by
  obtain⟨i,hi,rfl⟩:=List.mem_map.mp hv;exact⟨i,rfl,h i hi⟩
 exact⟨i,e,hi⟩
theorem OC(T:Top X)(aj:hY w)(hs:hY s)(pj:0<=so/\so<=3)(hh:hY bu)(h:∀a,Q (fK a w s (if s=0 then 0 else so) bu 0) G):aB X (k+5) (.L (.ref 939)) [.aV [.i w,.i s,.i so,.i bu]] G Q:=by refine aa1 T rfl (BZ T aj hs pj hh (by decide) λa=>ret ?_);have:=h a;rw[show(if bu=0 then(0:Int)else 0)=0 by split<;>rfl];exact this
inductive am2(xs:List (Int×Int×Int×Int))(d:Int):Prop
 |mk (w s so bu:Int) (e:j7 (xs.map λp=>V.aV [.i p.1,.i p.2.1,.i p.2.2.1,.i p.2.2.2]) d=I (.aV [.i w,.i s,.i so,.i bu])) (h1:-20<=w/\w<=20) (h2:0<=s/\s<=20) (h3:0<=so/\so<=3) (h4:0<=bu/\bu<=20)
theorem OD(aF:0<=d/\d<xs.length)(h:∀p∈xs,(-20<=p.1/\p.1<=20)/\(0<=p.2.1/\p.2.1<=20)/\(0<=p.2.2.1/\p.2.2.1<=3)/\(0<=p.2.2.2/\p.2.2.2<=20)):am2 xs d:=by
 obtain⟨v,e,p,rfl,a⟩:=OB (P:=λv=>∃p:Int×Int×Int×Int,v=V.aV [.i p.1,.i p.2.1,.i p.2.2.1,.i p.2.2.2]/\(-20<=p.1/\p.1<=20)/\(0<=p.2.1/\p.2.1<=20)/\(0<=p.2.2.1/\p.2.2.1<=3)/\(0<=p.2.2.2/\p.2.2.2<=20))
  (xs:=xs.map λp=>V.aV [.i p.1,.i p.2.1,.i p.2.2.1,.i p.2.2.2]) (d:=d) (by rw[cm];exact aF) λv b=>by
  obtain⟨p,a,rfl⟩:=List.mem_map.mp b;exact⟨p,rfl,h p a⟩
 exact⟨_,_,_,_,e,a.1,a.2.1,a.2.2.1,a.2.2.2⟩
noncomputable abbrev SN:List Nat:=[35,36,37,38,39,40,41,42,43,44,45,46]
structure uq(aA:J)(pa dx:aC)(b:Int)(lp hp ep ed iy ar loose:Int)(l r:V)(ae:J):Prop where
 le:J.le aA ae
 jl:aA pa=aa
 nd:aA dx=aa
 pd:pa≠dx
 p:pB ae pa b
 d:ae dx=I (.eE SN [.i 0,.i 10000,.i lp,.i hp,.i ep,.i ed,.i iy,.i ar,.i loose,.i 0,l,r])
theorem uq.take(T:Top X)(x:uq aA pa dx b lp hp ep ed iy ar loose l r ae)(hb:1<=b)(ax:1<=m/\m<=1000)(h:∀d fP,0<=d/\d<m->uq aA pa dx (b- 1) lp hp ep ed iy ar loose l r fP->Q (.i d) fP):aB X (k+1) (.L (.ref 925)) [.r pa,.i m] ae Q:=GK T x.p hb ax λd u v a c e f=>h d _ a ⟨x.le.s x.jl,x.jl,x.nd,x.pd,⟨u,v,J.bY,c,e,f⟩,by rw[J.cC x.pd.symm];exact x.d⟩
theorem uq.iZ(x:uq aA pa dx b lp hp ep ed iy ar loose l r ae):uq aA pa dx b oA kH pC qC qD ib qE cV dG (ae.s dx (.eE SN [.i 0,.i 10000,.i oA,.i kH,.i pC,.i qC,.i qD,.i ib,.i qE,.i 0,cV,dG])):=⟨x.le.s x.nd,x.jl,x.nd,x.pd,x.p.vo x.pd,J.bY⟩
structure rQ(S:bk)(free:Bool):Prop where
 ok:S.ok
 plain:free=ak->S.ed=0/\S.iy=0/\S.ar=0/\S.loose=0
 am3:-100<=S.l.w- S.l.h+S.r.w- S.r.h/\S.l.w- S.l.h+S.r.w- S.r.h<=100
theorem am4(T:Top X)(l:J.le aA G)(jl:aA pa=aa)(p:pB G pa b)(hb:9<=b)(h:∀S ae,rQ S free->J.le aA ae->pB ae pa (b- 9)->Q S.v ae):aB X (k+7) (.L (.ref 946)) [.r pa,.b free] G Q:=by
 refine aa2 T rfl (af4 T λa R U N aF=>?_);have OE:pa≠R:=λe=>by
  refine cps λG0 f=>?_;obtain⟨_,_,bz,_⟩:=p.bB;refine f ?_;clear f;subst e;rw[aF]at bz;cases bz
 have sY:uq aA pa R b 0 0 0 0 0 0 0 (fK U 0 0 0 0 0) (fK N 0 0 0 0 0) (G.s R (.eE SN [.i 0,.i 10000,.i 0,.i 0,.i 0,.i 0,.i 0,.i 0,.i 0,.i 0,fK U 0 0 0 0 0,fK N 0 0 0 0 0])):=⟨l.s (l.qt aF),jl,l.qt aF,OE,p.vo OE,J.bY⟩
 refine sY.take T (by exact(O [_] [] (.i (.l 9 .x) (.l 1 .x))) hb) (by decide) λd ae aF x=>?_;refine cps λG0 f=>?_;obtain⟨m,e1,W⟩:=oz (P:=fN) (xs:=[10,100,-20,0]) aF (by decide);refine f ?_;clear f;refine dg e1 (mO x.d rfl rfl ?_);have x:=x.iZ (oA:=m) (kH:=0) (pC:=0) (qC:=0) (qD:=0) (ib:=0) (qE:=0) (cV:=fK U 0 0 0 0 0) (dG:=fK N 0 0 0 0 0);refine x.take T (by exact(O [_] [] (.i (.l 9 .x) (.l 1 (.s .x 1)))) hb) (by decide) λd ae aF x=>?_;refine cps λG0 f=>?_;obtain⟨q,e2,Y⟩:=oz (P:=fN) (xs:=[50,-30,0,10000,200]) aF (by decide);refine f ?_;clear f;refine dg e2 (mO x.d rfl rfl ?_);have x:=x.iZ (oA:=m) (kH:=q) (pC:=0) (qC:=0) (qD:=0) (ib:=0) (qE:=0) (cV:=fK U 0 0 0 0 0) (dG:=fK N 0 0 0 0 0);refine x.take T (by exact(O [_] [] (.i (.l 9 .x) (.l 1 (.s (.s .x 1) 1)))) hb) (by decide) λd ae aF x=>?_;refine cps λG0 f=>?_;obtain⟨z,e3,Z⟩:=oz (P:=fN) (xs:=[50,10,-20]) aF (by decide);refine f ?_;clear f;refine dg e3 (mO x.d rfl rfl ?_);have x:=x.iZ (oA:=m) (kH:=q) (pC:=z) (qC:=0) (qD:=0) (ib:=0) (qE:=0) (cV:=fK U 0 0 0 0 0) (dG:=fK N 0 0 0 0 0);refine x.take T (by exact(O [_] [] (.i (.l 9 .x) (.l 1 (.s (.s (.s .x 1) 1) 1)))) hb) (by decide) λd ae aF x=>?_;refine cps λG0 f=>?_;obtain⟨A,g,B,C,e4,kc,jE,Cz,g4⟩:=OD (xs:=[(0,0,0,0),(3,2,0,1),(0,5,0,0)]) aF (by decide);refine f ?_;clear f;refine dg e4 (OC T (by exact(O [_] [] (.i (.c (.l (.k (-20)) .x) (.l .x 20)) (.c (.l (.k (-1073741823)) .x) (.l .x 1073741823)))) kc) (by exact(O [_] [] (.i (.c (.l 0 .x) (.l .x 20)) (.c (.l (.k (-1073741823)) .x) (.l .x 1073741823)))) jE) Cz (by exact(O [_] [] (.i (.c (.l 0 .x) (.l .x 20)) (.c (.l (.k (-1073741823)) .x) (.l .x 1073741823)))) g4) λD=>mO x.d rfl rfl ?_);have x:=x.iZ (oA:=m) (kH:=q) (pC:=z) (qC:=0) (qD:=0) (ib:=0) (qE:=0) (cV:=fK D A g (if g=0 then 0 else B) C 0) (dG:=fK N 0 0 0 0 0);refine x.take T (by exact(O [_] [] (.i (.l 9 .x) (.l 1 (.s (.s (.s (.s .x 1) 1) 1) 1)))) hb) (by decide) λd ae aF x=>?_;refine cps λG0 f=>?_;obtain⟨E,j,F,H,e5,fe,gj,f3,oa⟩:=OD (xs:=[(0,0,0,0),(1,4,0,2),(0,1,1,0),(-2,9,0,0)]) aF (by decide);refine f ?_;clear f;refine dg e5 (OC T (by exact(O [_] [] (.i (.c (.l (.k (-20)) .x) (.l .x 20)) (.c (.l (.k (-1073741823)) .x) (.l .x 1073741823)))) fe) (by exact(O [_] [] (.i (.c (.l 0 .x) (.l .x 20)) (.c (.l (.k (-1073741823)) .x) (.l .x 1073741823)))) gj) f3 (by exact(O [_] [] (.i (.c (.l 0 .x) (.l .x 20)) (.c (.l (.k (-1073741823)) .x) (.l .x 1073741823)))) oa) λK=>mO x.d rfl rfl ?_);have x:=x.iZ (oA:=m) (kH:=q) (pC:=z) (qC:=0) (qD:=0) (ib:=0) (qE:=0) (cV:=fK D A g (if g=0 then 0 else B) C 0) (dG:=fK K E j (if j=0 then 0 else F) H 0);have GH:Gl.ok ⟨D,A,g,if g=0 then 0 else B,C⟩:=⟨by dsimp only;exact(O [_] [] (.i (.c (.l (.k (-20)) .x) (.l .x 20)) (.c (.l (.k (-1000)) .x) (.l .x 1000)))) kc,by dsimp only;exact(O [_] [] (.i (.c (.l 0 .x) (.l .x 20)) (.c (.l 0 .x) (.l .x 1000)))) jE,by dsimp only;split<;>(first|exact O [] [] (.c (.l 0 0) (.l 0 3))|exact(O [_] [] (.i (.c (.l 0 .x) (.l .x 3)) (.c (.l 0 .x) (.l .x 3)))) Cz),by dsimp only;exact(O [_] [] (.i (.c (.l 0 .x) (.l .x 20)) (.c (.l 0 .x) (.l .x 1000)))) g4⟩
 have gr:Gl.ok ⟨K,E,j,if j=0 then 0 else F,H⟩:=⟨by dsimp only;exact(O [_] [] (.i (.c (.l (.k (-20)) .x) (.l .x 20)) (.c (.l (.k (-1000)) .x) (.l .x 1000)))) fe,by dsimp only;exact(O [_] [] (.i (.c (.l 0 .x) (.l .x 20)) (.c (.l 0 .x) (.l .x 1000)))) gj,by dsimp only;split<;>(first|exact O [] [] (.c (.l 0 0) (.l 0 3))|exact(O [_] [] (.i (.c (.l 0 .x) (.l .x 3)) (.c (.l 0 .x) (.l .x 3)))) f3),by dsimp only;exact(O [_] [] (.i (.c (.l 0 .x) (.l .x 20)) (.c (.l 0 .x) (.l .x 1000)))) oa⟩
 have M:∀(n t M loose:Int) ae,uq aA pa R (b- 9) m q z n t M loose (fK D A g (if g=0 then 0 else B) C 0) (fK K E j (if j=0 then 0 else F) H 0) ae->fN n->fN t->fN M->fN loose->(free=ak->n=0/\t=0/\M=0/\loose=0)->
   bK IR.a8 (aB X (k+6)) (Ss.d 7 IR.FH) [I (.r pa),I (.b free),I (.o a 658 R)] ae (fS Q):=by
  intro n t M loose ae x i1 i2 i3 i4 am8;refine cz (Oj x.d) (ret ?_);refine h ⟨a,m,q,z,n,t,M,loose,⟨D,A,g,if g=0 then 0 else B,C⟩,⟨K,E,j,if j=0 then 0 else F,H⟩⟩ _ ⟨⟨W,Y,Z,i1,i2,i3,i4,GH,gr⟩,am8,by dsimp only;exact(O [_,_,_,_] [] (.i (.c (.l (.k (-20)) .x) (.l .x 20)) (.i (.c (.l 0 .y) (.l .y 20)) (.i (.c (.l (.k (-20)) .u) (.l .u 20)) (.i (.c (.l 0 .w) (.l .w 20)) (.c (.l (.k (-100)) (.s (.p (.s .x .y) .u) .w)) (.l (.s (.p (.s .x .y) .u) .w) 100))))))) kc g4 fe oa⟩ (x.le.cT x.nd) ?_;refine cps λG0 f=>?_;obtain⟨u,v,e,r1⟩:=x.p.bB;refine f ?_;clear f;exact⟨u,v,by dsimp only;rw[J.nj x.pd];exact e,r1⟩
 cases free with
 |false=>exact aZ rfl (M 0 0 0 0 _ ⟨x.le,x.jl,x.nd,x.pd,x.p.bI (by exact O [_] [] (.l (.s .x 9) (.s (.s (.s (.s (.s .x 1) 1) 1) 1) 1))),x.d⟩ (by decide) (by decide) (by decide) (by decide) λ_=>⟨rfl,rfl,rfl,rfl⟩)
 |true=>refine bF rfl (x.take T (by exact(O [_] [] (.i (.l 9 .x) (.l 1 (.s (.s (.s (.s (.s .x 1) 1) 1) 1) 1)))) hb) (by decide) λd ae aF x=>?_);refine cps λG0 f=>?_;obtain⟨n,e6,i1⟩:=oz (P:=fN) (xs:=[5000,0,-300]) aF (by decide);refine f ?_;clear f;refine dg e6 (mO x.d rfl rfl ?_);have x:=x.iZ (oA:=m) (kH:=q) (pC:=z) (qC:=n) (qD:=0) (ib:=0) (qE:=0) (cV:=fK D A g (if g=0 then 0 else B) C 0) (dG:=fK K E j (if j=0 then 0 else F) H 0);refine x.take T (by exact(O [_] [] (.i (.l 9 .x) (.l 1 (.s (.s (.s (.s (.s (.s .x 1) 1) 1) 1) 1) 1)))) hb) (by decide) λd ae aF x=>?_;refine cps λG0 f=>?_;obtain⟨t,e7,i2⟩:=oz (P:=fN) (xs:=[0,3000]) aF (by decide);refine f ?_;clear f;refine dg e7 (mO x.d rfl rfl ?_);have x:=x.iZ (oA:=m) (kH:=q) (pC:=z) (qC:=n) (qD:=t) (ib:=0) (qE:=0) (cV:=fK D A g (if g=0 then 0 else B) C 0) (dG:=fK K E j (if j=0 then 0 else F) H 0);refine x.take T (by exact(O [_] [] (.i (.l 9 .x) (.l 1 (.s (.s (.s (.s (.s (.s (.s .x 1) 1) 1) 1) 1) 1) 1)))) hb) (by decide) λd ae aF x=>?_;refine cps λG0 f=>?_;obtain⟨fi,e8,i3⟩:=oz (P:=fN) (xs:=[700,0]) aF (by decide);refine f ?_;clear f;refine dg e8 (mO x.d rfl rfl ?_);have x:=x.iZ (oA:=m) (kH:=q) (pC:=z) (qC:=n) (qD:=t) (ib:=fi) (qE:=0) (cV:=fK D A g (if g=0 then 0 else B) C 0) (dG:=fK K E j (if j=0 then 0 else F) H 0);refine x.take T (by exact(O [_] [] (.i (.l 9 .x) (.l 1 (.s (.s (.s (.s (.s (.s (.s (.s .x 1) 1) 1) 1) 1) 1) 1) 1)))) hb) (by decide) λd ae aF x=>?_;refine cps λG0 f=>?_;obtain⟨oe,e9,i4⟩:=oz (P:=fN) (xs:=[0,1,-1,0,2]) aF (by decide);refine f ?_;clear f;refine dg e9 (mO x.d rfl rfl ?_);have x:=x.iZ (oA:=m) (kH:=q) (pC:=z) (qC:=n) (qD:=t) (ib:=fi) (qE:=oe) (cV:=fK D A g (if g=0 then 0 else B) C 0) (dG:=fK K E j (if j=0 then 0 else F) H 0);exact M n t fi oe _ ⟨x.le,x.jl,x.nd,x.pd,x.p.bI (by exact O [_] [] (.l (.s .x 9) (.s (.s (.s (.s (.s (.s (.s (.s (.s .x 1) 1) 1) 1) 1) 1) 1) 1) 1))),x.d⟩ i1 i2 i3 i4 λe=>by cases e
theorem zJ(h:0<=n/\n<=300):Iu 10 n:=⟨h.1,by
 have:RL 10=4:=by decide+kernel
 rw[this];omega⟩
theorem OF{n:Nat}(h:(n:Int)<1000000000000000000)(b:Bool):-(2^64)<2*(n:Int)+1+(if b=ai then 1 else 0)/\2*(n:Int)+1+(if b=ai then 1 else 0)<2^64:=by
 cases b
 .exact⟨(O [] [_] (.i (.t (.c .x) 1000000000000000000) (.t (.k (-2^64)) (.p (.p (.m 2 (.c .x)) 1) 0)))) h,(O [] [_] (.i (.t (.c .x) 1000000000000000000) (.t (.p (.p (.m 2 (.c .x)) 1) 0) (.k (2^64))))) h⟩
 .exact⟨(O [] [_] (.i (.t (.c .x) 1000000000000000000) (.t (.k (-2^64)) (.p (.p (.m 2 (.c .x)) 1) 1)))) h,(O [] [_] (.i (.t (.c .x) 1000000000000000000) (.t (.p (.p (.m 2 (.c .x)) 1) 1) (.k (2^64))))) h⟩
theorem am9(T:Top X){is:List Int}(h:∀a x,G a=aa->0<=x->Q (.r a) (G.s a (.l [.i x,.i 0]))):aB X (k+1) (.L (.ref 918)) [.l (is.map .i)] G Q:=by
 refine Z8 T rfl ?_;have key:∀(r:List Int) (w:Int) (o2 o3:Option V) (R:Fl->ay->J->Prop),0<=w->(∀w o2 o3,0<=w->R .n [I (.l (is.map .i)),I (.i w),o2,o3] G)->
   d8 (.cD 2) (bK IR.a8 (aB X k) IR.BJ) (r.map .i) [I (.l (is.map .i)),I (.i w),o2,o3] G R:=by
  intro r;induction r with
  |nil=>exactλw o2 o3 R aj hR=>hR w o2 o3 aj
  |cons c r ih=>
   intro w o2 o3 R aj hR;have tail:∀p:Int,bK IR.a8 (aB X k) (Ss.d 2 IR.BJ) [I (.l (is.map .i)),I (.i w),I (.i c),I (.i p)] G (mH (d8 (.cD 2) (bK IR.a8 (aB X k) IR.BJ) (r.map .i)) R):=by intro p;refine⟨FT (by decide) (by decide),zJ (by decide),?_⟩;have hN:(0:Int)<10^(300:Int).toNat:=Int.pow_pos (by decide);refine⟨by exact(O [_] [] (.i (.t 0 .x) (.n (.e .x 0)))) hN,ih _ _ _ R (GJ hN).1 hR⟩
   refine⟨zJ (by decide),cv (λh1=>?_) λh1=>tail _⟩;have hb:(c.natAbs:Int)<1000000000000000000:=h1;refine⟨kF (by decide) (by decide),kF (OF hb _).1 (OF hb _).2,zJ (by decide),?_⟩;have hN:(0:Int)<10^(60:Int).toNat:=Int.pow_pos (by decide);exact⟨by exact(O [_] [] (.i (.t 0 .x) (.n (.e .x 0)))) hN,zJ (by decide),xu (by decide) (by decide) (by decide),tail _⟩
 have e:(is.map V.i).take (bound 24 (is.map V.i).length)=(is.take (bound 24 (is.map V.i).length)).map .i:=by rw[zI]
 have:=key (is.take (bound 24 (is.map V.i).length)) 0 aa aa ((nZ (bK IR.a8 (aB X k) (Ss.d 2 IR.FG)) (fS Q))) (pk 0) λw o2 o3 aj a ha=>ret (h a w ha aj);rw[<- e]at this;exact this
structure oB(aA:J)(pa:aC)(b:Int)(ae:J):Prop where
 le:J.le aA ae
 jl:aA pa=aa
 p:pB ae pa b
theorem oB.bI(x:oB aA pa b ae)(h:c<=b):oB aA pa c ae:=⟨x.le,x.jl,x.p.bI h⟩
theorem oB.take(T:Top X)(x:oB aA pa b ae)(hb:1<=b)(ax:1<=m/\m<=1000)(h:∀d fP,0<=d/\d<m->oB aA pa (b- 1) fP->Q (.i d) fP):aB X (k+1) (.L (.ref 925)) [.r pa,.i m] ae Q:=GK T x.p hb ax λd u v a c e f=>h d _ a ⟨x.le.s x.jl,x.jl,⟨u,v,J.bY,c,e,f⟩⟩
theorem an0(T:Top X)(x:oB aA pa b G)(hb:2<=b)(hs:-4<=size/\size<=100)(h:∀sh ae,gN.ok sh size->(0<=sh.done/\sh.done<=2)->(0<=sh.bP/\sh.bP<=100)->(free=ak->sh.bP=0)->oB aA pa (b- 2) ae->Q sh.v ae):aB X (k+5) (.L (.ref 953)) [.r pa,.b free,.i size] G Q:=by
 refine aa3 T rfl (x.take T (by exact(O [_] [] (.i (.l 2 .x) (.l 1 .x))) hb) (by decide) λd ae aF x=>?_);refine x.take T (by exact(O [_] [] (.i (.l 2 .x) (.l 1 (.s .x 1)))) hb) (by decide) λo ae j x=>?_;obtain⟨done,m,f⟩:=oz (P:=λi=>0<=i/\i<=2) (xs:=[0,2,0]) j (by decide);have x:=x.bI (c:=b- 2) (by exact O [_] [] (.l (.s .x 2) (.s (.s .x 1) 1)));refine dg m ⟨rfl,cv (λ_=>?_) λ_=>?_⟩
 .cases free with
  |true=>
   refine bF rfl (Cd T (Z:=[(0,size),(5,size),(-2,size)]) (by decide) (by decide) (by decide) (by decide) ?_ (by exact(O [_] [] (.i (.c (.l 0 .x) (.l .x 2)) (.c (.l 0 .x) (.l .x 2147483647)))) f) λa=>ret (h _ _ (.inr (.inr (.inl rfl))) f ?_ (λe=>by cases e) x))
   .intro r g;simp only[sR,nv,or_false]at g;rcases g with rfl|rfl|rfl<;>dsimp only<;>(first|exact(O [_] [] (.i (.c (.l (.k (-4)) .x) (.l .x 100)) (.c (.c (.l (.k (-1073741823)) 0) (.l 0 1073741823)) (.c (.l (.k (-1073741823)) .x) (.l .x 1073741823))))) hs|exact(O [_] [] (.i (.c (.l (.k (-4)) .x) (.l .x 100)) (.c (.c (.l (.k (-1073741823)) 5) (.l 5 1073741823)) (.c (.l (.k (-1073741823)) .x) (.l .x 1073741823))))) hs|exact(O [_] [] (.i (.c (.l (.k (-4)) .x) (.l .x 100)) (.c (.c (.l (.k (-1073741823)) (.k (-2))) (.l (.k (-2)) 1073741823)) (.c (.l (.k (-1073741823)) .x) (.l .x 1073741823))))) hs)
   .exact of_decide_eq_true rfl
  |false=>exact aZ rfl (Cd T (Z:=[]) (by exact(O [_] [] (.i (.c (.l (.k (-4)) .x) (.l .x 100)) (.c (.l (.k (-1073741823)) .x) (.l .x 1073741823)))) hs) (by decide) (by exact(O [_] [] (.i (.c (.l (.k (-4)) .x) (.l .x 100)) (.c (.l (.k (-1073741823)) (.s .x (.c (.n 0)))) (.l (.s .x (.c (.n 0))) 1073741823)))) hs) (by decide) (λr g=>by cases g) (by exact(O [_] [] (.i (.c (.l 0 .x) (.l .x 2)) (.c (.l 0 .x) (.l .x 2147483647)))) f) λa=>ret (h _ _ (.inl ⟨rfl,rfl,rfl⟩) f (of_decide_eq_true rfl) (λ_=>rfl) x))
 .cases free with
  |true=>exact bF rfl (Cd T (Z:=[]) (by exact(O [_] [] (.i (.c (.l (.k (-4)) .x) (.l .x 100)) (.c (.l (.k (-1073741823)) (.p .x 6)) (.l (.p .x 6) 1073741823)))) hs) (by decide) (by exact(O [_] [] (.i (.c (.l (.k (-4)) .x) (.l .x 100)) (.c (.l (.k (-1073741823)) (.s (.p .x 6) (.c (.n (.k (-6)))))) (.l (.s (.p .x 6) (.c (.n (.k (-6))))) 1073741823)))) hs) (by decide) (λr g=>by cases g) (by exact(O [_] [] (.i (.c (.l 0 .x) (.l .x 2)) (.c (.l 0 .x) (.l .x 2147483647)))) f) λa=>ret (h _ _ (.inr (.inr (.inr ⟨rfl,rfl,rfl,by show size+6- 6=size;exact O [_] [] (.e (.s (.p .x 6) 6) .x)⟩))) f (of_decide_eq_true rfl) (λe=>by cases e) x))
  |false=>exact aZ rfl (Cd T (Z:=[]) (by exact(O [_] [] (.i (.c (.l (.k (-4)) .x) (.l .x 100)) (.c (.l (.k (-1073741823)) (.p .x 7)) (.l (.p .x 7) 1073741823)))) hs) (by decide) (by exact(O [_] [] (.i (.c (.l (.k (-4)) .x) (.l .x 100)) (.c (.l (.k (-1073741823)) (.s (.p .x 7) (.c (.n 7)))) (.l (.s (.p .x 7) (.c (.n 7))) 1073741823)))) hs) (by decide) (λr g=>by cases g) (by exact(O [_] [] (.i (.c (.l 0 .x) (.l .x 2)) (.c (.l 0 .x) (.l .x 2147483647)))) f) λa=>ret (h _ _ (.inr (.inl ⟨rfl,rfl,rfl,by show size+7- 7=size;exact O [_] [] (.e (.s (.p .x 7) 7) .x)⟩)) f (of_decide_eq_true rfl) (λ_=>rfl) x))
structure az where
 n:Nd
 k9:Bool
 a9:Int
 bx:Option Int
 qF:Option (Int×Int)
noncomputable def an1:Option (Int×Int)->V
 |some p=>.aV [.i p.1,.i p.2]
 |none=>.n
def az.v(r:az):V:=.aV [r.n.v,.b r.k9,.i r.a9,jv r.bx,an1 r.qF]
structure gG(aA:J)(pa ra:aC)(b:Int)(Z:List az)(ae:J):Prop where
 le:J.le aA ae
 jl:aA pa=aa
 nr:aA ra=aa
 gS:pa≠ra
 p:pB ae pa b
 r:ae ra=I (.l (Z.map az.v))
theorem gG.bI(x:gG aA pa ra b Z ae)(h:c<=b):gG aA pa ra c Z ae:=⟨x.le,x.jl,x.nr,x.gS,x.p.bI h,x.r⟩
theorem gG.take(T:Top X)(x:gG aA pa ra b Z ae)(hb:1<=b)(ax:1<=m/\m<=1000)(h:∀d fP,0<=d/\d<m->gG aA pa ra (b- 1) Z fP->Q (.i d) fP):aB X (k+1) (.L (.ref 925)) [.r pa,.i m] ae Q:=GK T x.p hb ax λd u v a c e f=>h d _ a ⟨x.le.s x.jl,x.jl,x.nr,x.gS,⟨u,v,J.bY,c,e,f⟩,by rw[J.cC x.gS.symm];exact x.r⟩
theorem gG.add(T:Top X){aA:J}{pa ra:aC}{b:Int}{Z:List az}{r:az}{nU nV v3 mD v5:V}(x:gG aA pa ra b Z ae)(hl:Z.length<=1000)(e:V.aV [nU,nV,v3,mD,v5]=r.v)(h:∀fP,gG aA pa ra b (Z++[r]) fP->Q .n fP):aB X (k+1) (.L (.ref 960)) [.r ra,nU,nV,v3,mD,v5] ae Q:=by refine aa4 T rfl ⟨kG rfl x.r,cz (km x.r) ⟨⟨by rw[cm];simp[cK];exact(O [] [_] (.i (.ag .x 1000) (.ag .x 99999))) hl⟩,ret ?_⟩⟩;refine h _ ⟨x.le.s x.nr,x.jl,x.nr,x.gS,x.p.vo x.gS,?_⟩;rw[J.bY,gk];exact congrArg (λy=>I (gf.l (Z.map az.v++[y]))) e
def Nd.cj:Nd->Int
 |.eV _ _ _ w _ _ d6 _ _=>w- d6
 |n=>n.jj
def Nd.CA:Nd->Option (Int×Int)
 |.dt _ p q _=>I (cH p,cH q)
 |_=>aa
structure xI(p:List Sh):Prop where
 rN:0<=cH p/\cH p<=6
 nil:cH p=0->p=[]
 hO:∀s∈p,(Nd.sh s).cL=ak
structure ml(r:az):Prop where
 cO:r.n.cO
 k9:r.k9= !r.n.cL
 a9:r.a9=r.n.cj
 qF:r.qF=r.n.CA
 dt:∀a p q m,r.n=.dt a p q m->xI p/\xI q/\0<=cH m
noncomputable def lH(S:bk)(may gT nx:Bool):Nd->Int
 |.eV .. =>if(may&&gT)=ai then 0 else 10000
 |.bD _ v=>v
 |.dt _ p _ _=>if p=[]then S.ep else S.hp
 |.jN _ eF _=>if(!eF&&nx)=ai then 0 else 10000
 |.sh (.iI _ _ so)=>if(a6 (so=1)&&(may&&nx))=ai then 0 else 10000
 |_=>10000
noncomputable def kr(may:Bool):Nd->Bool
 |.jN _ eF _=> !eF
 |_=>may
noncomputable def fT(p:Int):Option Int:=if p<10000 then I p else aa
noncomputable def Nd.qG:Nd->Bool
 |.eV .. =>ai
 |_=>ak
def pE(nx:Bool):List az->Bool
 |[]=>nx
 |r::_=>r.n.qG
noncomputable def gH:Bool->List az->Bool
 |m,[]=>m
 |m,r::aQ=>gH (kr m r.n) aQ
noncomputable def nO:Bool->List az->Bool
 |b,[]=>b
 |_,r::aQ=>nO (!r.n.cL) aQ
noncomputable def gV(S:bk):Bool->Bool->Bool->List az->Prop
 |_,_,_,[]=>True
 |m,b,nx,r::aQ=>r.bx=fT (lH S m b (pE nx aQ) r.n)/\gV S (kr m r.n) (!r.n.cL) nx aQ
noncomputable def eP:List az->Int
 |[]=>0
 |r::aQ=>r.a9+eP aQ
theorem an2:eP (r::aQ)=(r.a9+eP aQ):=rfl
structure vP(w:List az):Prop where
 ok:∀r∈w,ml r
 bx:∀S m b nx,gV S m b nx w
 free:∀r∈w,r.bx=aa
 head:∃r aQ,w=r::aQ/\r.n.cL=ak/\r.n.qG=ak
 sum:8<=eP w
 may:∀m,gH m w=m
 bh:∀b,nO b w=ai
 aL:w.length<=3
structure xJ(r:az)(s:Int):Prop where
 k9:r.k9=ai
 a9:r.a9=s
 bx:r.bx=aa
 qF:r.qF=aa
 n:(∃a kd,(kd=2\/kd=3)/\r.n=.sh (.jM a kd s 2 1))\/∃a,r.n=.sh (.r a (I s) (I 3) aa)
theorem xJ.qH(h:xJ r s)(hs:0<=s/\s<=1000):ml r/\r.n.cL=ak/\r.n.qG=ak/\(∀S m b nx,lH S m b nx r.n=10000)/\(∀m,kr m r.n=m):=by
 refine cps λG0 c=>?_;obtain⟨f,g,o,i,j⟩:=h;refine c ?_;clear c;refine cps λG0 c=>?_;rcases j with⟨a,kd,l,e⟩|⟨a,e⟩
 .refine c ?_;clear c;refine⟨⟨?_,?_,?_,?_,?_⟩,?_,?_,?_,?_⟩
  .rw[e];exact⟨l,hs,by decide,by decide⟩
  .rw[f,e];rfl
  .rw[g,e];rfl
  .rw[i,e];rfl
  .intro a p q m d;rw[e]at d;cases d
  .rw[e];rfl
  .rw[e];rfl
  .intro S m b nx;rw[e];rfl
  .intro m;rw[e];rfl
 .refine c ?_;clear c;refine⟨⟨?_,?_,?_,?_,?_⟩,?_,?_,?_,?_⟩
  .rw[e];exact⟨⟨s,rfl,hs⟩,.inr rfl,rfl⟩
  .rw[f,e];rfl
  .rw[g,e];rfl
  .rw[i,e];rfl
  .intro a p q m d;rw[e]at d;cases d
  .rw[e];rfl
  .rw[e];rfl
  .intro S m b nx;rw[e];rfl
  .intro m;rw[e];rfl
theorem an3(h:xJ r s)(hs:8<=s/\s<=1000):vP [r]:=by
 obtain⟨e,d,f,g,j⟩:=h.qH ⟨by exact(O [_] [] (.i (.c (.l 8 .x) (.l .x 1000)) (.l 0 .x))) hs,hs.2⟩;refine⟨λx a=>?_,λS m b nx=>⟨by rw[g,h.bx];rfl,trivial⟩,λx a=>?_,⟨r,[],rfl,d,f⟩,by simp[eP,h.a9];exact(O [_] [] (.i (.c (.l 8 .x) (.l .x 1000)) (.l 8 .x))) hs,λm=>j m,λb=>by show(!r.n.cL)=ai;rw[d];rfl,(of_decide_eq_true rfl)⟩
 .obtain rfl:=List.mem_singleton.mp a;exact e
 .obtain rfl:=List.mem_singleton.mp a;exact h.bx
theorem an4{r:az}{s k o:Int}{a c:aC}(h:xJ r s)(hs:1<=s/\s<=1000)(hk:k=2\/k=-2)(ho:0<=o/\o<=3)(OG:8<=5+k+s):vP ([⟨.sh (.jM a 2 5 2 1),ai,5,aa,aa⟩,⟨.sh (.iI c k o),!a6 (o=1),k,aa,aa⟩]++[r]):=by
 refine cps λG0 g0=>?_;obtain⟨fe,gj,f3,oa,f5⟩:=h.qH ⟨by exact(O [_] [] (.i (.c (.l 1 .x) (.l .x 1000)) (.l 0 .x))) hs,hs.2⟩;refine g0 ?_;clear g0;refine⟨λx hx=>?_,λS m b nx=>⟨rfl,?_,by rw[oa,h.bx];rfl,trivial⟩,λx hx=>?_,⟨_,_,rfl,rfl,rfl⟩,by simp[eP,h.a9];exact(O [_,_] [] (.i (.l 8 (.p (.p 5 .x) .y)) (.l 8 (.p 5 (.p .x .y))))) OG,λm=>f5 m,λb=>by show(!r.n.cL)=ai;rw[gj];rfl,(of_decide_eq_true rfl)⟩
 .simp only[qI,m9,sR,nv,or_false]at hx;refine cps λG0 g0=>?_;rcases hx with rfl|rfl|rfl
  .refine g0 ?_;clear g0;exact⟨⟨.inl rfl,by decide,by decide,by decide⟩,rfl,rfl,rfl,λ_ _ _ _ e=>by cases e⟩
  .refine g0 ?_;clear g0;exact⟨⟨by exact(O [_,_] [] (.i (.c (.l 1 .y) (.l .y 1000)) (.i (.d (.e .x 2) (.e .x (.k (-2)))) (.i (.l 8 (.p (.p 5 .x) .y)) (.c (.l (.k (-1000)) .x) (.l .x 1000)))))) hs hk OG,ho⟩,rfl,rfl,rfl,λ_ _ _ _ e=>by cases e⟩
  .refine g0 ?_;clear g0;exact fe
 .show aa=fT (if(a6 (o=1)&&(m&&r.n.qG))=ai then 0 else 10000);rw[f3,rh,rh];rfl
 .simp only[qI,m9,sR,nv,or_false]at hx;refine cps λG0 g0=>?_;rcases hx with rfl|rfl|rfl
  .refine g0 ?_;clear g0;rfl
  .refine g0 ?_;clear g0;rfl
  .refine g0 ?_;clear g0;exact h.bx
theorem GL(T:Top X){aA:J}{pa ra:aC}{b rm:Int}{Z:List az}(x:gG aA pa ra b Z G)(hb:6<=b)(hl:Z.length<=900)(hr:-300<=rm/\rm<=300)(h:∀w ae,vP w->gG aA pa ra (b- 6) (Z++w) ae->Q .n ae):aB X (k+5) (.L (.ref 967)) [.r pa,.r ra,.i rm] G Q:=by
 refine aa5 T rfl (x.take T (by exact(O [_] [] (.i (.l 6 .x) (.l 1 .x))) hb) (by decide) λd1 ae ta x=>?_);refine x.take T (by exact(O [_] [] (.i (.l 6 .x) (.l 1 (.s .x 1)))) hb) (by decide) λzK ae pD x=>⟨rfl,?_⟩
 have main:∀(w0:List az) (s dv cp:Int) (o6 o7:Option V) (ae:J),(1<=s/\s<=1000)->b- 6<=cp->w0.length<=2->gG aA pa ra cp (Z++w0) ae->(∀r,xJ r s->vP (w0++[r]))->
   bK IR.a8 (aB X (k+4)) (Ss.d 4 IR.zi) [I (.r pa),I (.r ra),I (.i rm),I (.i s),I (.i zK),I (.i dv),o6,o7,aa] ae (fS Q):=by
  intro w0 s dv cp o6 o7 ae hs fR uu x aj;have aL:(Z++w0).length<=1000:=by simp;exact(O [] [_,_] (.i (.ag .x 900) (.i (.ag .y 2) (.ag (.p .x .y) 1000)))) hl uu
  have ar:∀(n:Nd),xJ ⟨n,ai,s,aa,aa⟩ s->bK IR.a8 (aB X (k+4)) (Ss.d 5 IR.zi) [I (.r pa),I (.r ra),I (.i rm),I (.i s),I (.i zK),I (.i dv),o6,o7,I n.v] ae (fS Q):=by intro n hn;refine x.add T aL (r:=⟨n,ai,s,aa,aa⟩) rfl λae x=>ret (h _ ae (aj _ hn) ?_);rw[dK]at x;exact x.bI (by exact(O [_,_] [] (.i (.l (.s .x 6) .y) (.l (.s .x 6) .y))) fR)
  refine cv (λ_=>?_) λ_=>?_
  .refine F1 T (w:=I s) (h:=I 3) (d:=aa) (λi e=>by cases e;exact(O [_] [] (.i (.c (.l 1 .x) (.l .x 1000)) (.c (.l (.k (-1073741823)) .x) (.l .x 1073741823)))) hs) (λi e=>by cases e;decide) (λi e=>by cases e) λa=>?_;exact ar (.sh (.r a (I s) (I 3) aa)) ⟨rfl,rfl,rfl,rfl,.inr ⟨a,rfl⟩⟩
  .refine cv (λ_=>?_) λ_=>?_
   .exact xy T (by decide) (by exact(O [_] [] (.i (.c (.l 1 .x) (.l .x 1000)) (.c (.l (.k (-1073741823)) .x) (.l .x 1073741823)))) hs) (by decide) (by decide) λa=>ar (.sh (.jM a 3 s 2 1)) ⟨rfl,rfl,rfl,rfl,.inl ⟨a,3,.inr rfl,rfl⟩⟩
   .exact xy T (by decide) (by exact(O [_] [] (.i (.c (.l 1 .x) (.l .x 1000)) (.c (.l (.k (-1073741823)) .x) (.l .x 1073741823)))) hs) (by decide) (by decide) λa=>ar (.sh (.jM a 2 s 2 1)) ⟨rfl,rfl,rfl,rfl,.inl ⟨a,2,.inl rfl,rfl⟩⟩
 have xM:∀(s cp:Int) (ae:J),(8<=s/\s<=900)->b- 4<=cp->gG aA pa ra cp Z ae->
   bK IR.a8 (aB X (k+4)) (Ss.d 2 IR.zi) [I (.r pa),I (.r ra),I (.i rm),I (.i s),I (.i zK),aa,aa,aa,aa] ae (fS Q):=by
  intro s cp ae hs fR x;refine x.take T (by exact(O [_,_] [] (.i (.l 6 .y) (.i (.l (.s .y 4) .x) (.l 1 .x)))) hb fR) (by decide) λdv ae rR x=>cv (λh1=>?_) λh1=>?_
  .refine⟨kF (by decide) (by decide),x.take T (by exact(O [_,_] [] (.i (.l 6 .y) (.i (.l (.s .y 4) .x) (.l 1 (.s .x 1))))) hb fR) (by decide) λo ae ho x=>⟨rfl,?_⟩⟩;have hk:2- 4*dv=2\/2- 4*dv=-2:=((O [_] [] (.i (.c (.l 0 .x) (.t .x 6)) (.i (.t .x 2) (.d (.e .x 0) (.e .x 1))))) rR h1).imp (λe:dv=0=>by rw[e];rfl) λe:dv=1=>by rw[e];rfl
   refine xy T (by decide) (by decide) (by decide) (by decide) λa=>?_;refine x.add T (by exact(O [] [_] (.i (.ag .x 900) (.ag .x 1000))) hl) (r:=⟨.sh (.jM a 2 5 2 1),ai,5,aa,aa⟩) rfl λae x=>?_;refine B0 T (by exact(O [_] [] (.i (.c (.l 0 .x) (.t .x 6)) (.i (.t .x 2) (.c (.l (.k (-1073741823)) (.s 2 (.m 4 .x))) (.l (.s 2 (.m 4 .x)) 1073741823))))) rR h1) (by exact(O [_] [] (.i (.c (.l 0 .x) (.t .x 4)) (.c (.l 0 .x) (.l .x 3)))) ho) λc=>?_;refine x.add T (by simp;exact(O [] [_] (.i (.ag .x 900) (.ag .x 999))) hl) (r:=⟨.sh (.iI c (2- 4*dv) o),!a6 (o=1),2- 4*dv,aa,aa⟩) rfl λae x=>?_;rw[dK]at x;exact main _ _ dv _ _ _ ae (by exact(O [_,_] [] (.i (.c (.l 8 .x) (.l .x 900)) (.i (.c (.l 0 .y) (.t .y 6)) (.i (.t .y 2) (.c (.l 1 (.s .x (.p 5 (.s 2 (.m 4 .y))))) (.l (.s .x (.p 5 (.s 2 (.m 4 .y)))) 1000)))))) hs rR h1) (by exact(O [_,_] [] (.i (.l (.s .x 4) .y) (.l (.s .x 6) (.s (.s .y 1) 1)))) fR) ((of_decide_eq_true rfl)) x λr hr=>an4 hr (by exact(O [_,_] [] (.i (.c (.l 8 .x) (.l .x 900)) (.i (.c (.l 0 .y) (.t .y 6)) (.i (.t .y 2) (.c (.l 1 (.s .x (.p 5 (.s 2 (.m 4 .y))))) (.l (.s .x (.p 5 (.s 2 (.m 4 .y)))) 1000)))))) hs rR h1) hk (by exact(O [_] [] (.i (.c (.l 0 .x) (.t .x 4)) (.c (.l 0 .x) (.l .x 3)))) ho) (by exact(O [_,_] [] (.i (.c (.l 8 .y) (.l .y 900)) (.l 8 (.p (.p 5 (.s 2 (.m 4 .x))) (.s .y (.p 5 (.s 2 (.m 4 .x)))))))) hs)
  .exact main [] s dv (cp- 1) aa aa ae (by exact(O [_] [] (.i (.c (.l 8 .x) (.l .x 900)) (.c (.l 1 .x) (.l .x 1000)))) hs) (by exact(O [_,_] [] (.i (.l (.s .x 4) .y) (.l (.s .x 6) (.s .y 1)))) fR) ((of_decide_eq_true rfl)) (by rw[dZ];exact x) λr hr=>an3 hr (by exact(O [_] [] (.i (.c (.l 8 .x) (.l .x 900)) (.c (.l 8 .x) (.l .x 1000)))) hs)
 refine cv (λh1=>?_) λh1=>cv (λh2=>?_) λh2=>?_
 .refine x.take T (by exact(O [_] [] (.i (.l 6 .x) (.l 1 (.s (.s .x 1) 1)))) hb) (by decide) λd3 ae rR x=>?_;obtain⟨e,e1,ba⟩:=oz (P:=λi=> -1<=i/\i<=1) (xs:=[0,1,-1,0]) rR (by decide);exact dg e1 (xM _ _ ae (by exact(O [_,_] [] (.i (.c (.l (.k (-300)) .x) (.l .x 300)) (.i (.c (.l (.k (-1)) .y) (.l .y 1)) (.c (.l 8 (.l 8 (.p .x .y))) (.l (.l 8 (.p .x .y)) 900))))) hr ba) (by exact O [_] [] (.l (.s .x 4) (.s (.s (.s .x 1) 1) 1))) x)
 .exact x.take T (by exact(O [_] [] (.i (.l 6 .x) (.l 1 (.s (.s .x 1) 1)))) hb) (by decide) λd3 ae rR x=>xM _ _ ae (by exact(O [_,_] [] (.i (.c (.l (.k (-300)) .x) (.l .x 300)) (.i (.c (.l 0 .y) (.t .y 30)) (.c (.l 8 (.l 8 (.p (.p .x 2) .y))) (.l (.l 8 (.p (.p .x 2) .y)) 900))))) hr rR) (by exact O [_] [] (.l (.s .x 4) (.s (.s (.s .x 1) 1) 1))) x
 .exact xM _ _ ae (by exact(O [_] [] (.i (.c (.l 0 .x) (.t .x 14)) (.c (.l 8 (.p 8 .x)) (.l (.p 8 .x) 900)))) ta) (by exact O [_] [] (.l (.s .x 4) (.s (.s .x 1) 1))) x
structure lg(r:az)(bx:Option Int):Prop where
 ok:ml r
 bx:r.bx=bx
 a9:0<=r.a9
 eV:r.n.qG=ai
theorem lg.qH(h:lg r c):r.n.cL=ai/\(∀S m b nx,lH S m b nx r.n=if(m&&b)=ai then 0 else 10000)/\∀m,kr m r.n=m:=by
 obtain⟨h1,h2,h3,h4⟩:=h;cases e:r.n with
 |eV=>exact⟨rfl,λ_ _ _ _=>rfl,λ_=>rfl⟩
 |_=>rw[e]at h4;cases h4
theorem vQ(T:Top X)(x:gG aA pa ra b Z G)(hb:5<=b)(hl:Z.length<=1000)(h:∀g ae,lg g bx->gG aA pa ra (b- 5) (Z++[g]) ae->Q .n ae):aB X (k+5) (.L (.ref 974)) [.r pa,.r ra,jv bx] G Q:=by
 refine aa6 T rfl (x.take T (by exact(O [_] [] (.i (.l 5 .x) (.l 1 .x))) hb) (by decide) λj ae v x=>x.take T (by exact(O [_] [] (.i (.l 5 .x) (.l 1 (.s .x 1)))) hb) (by decide) λm ae B x=>?_);refine x.take T (by exact(O [_] [] (.i (.l 5 .x) (.l 1 (.s (.s .x 1) 1)))) hb) (by decide) λR ae E x=>?_;obtain⟨u,F,C⟩:=oz (P:=λi=>0<=i/\i<=2) (xs:=[0,0,0,1,0,2]) E (by decide);refine dg F (x.take T (by exact(O [_] [] (.i (.l 5 .x) (.l 1 (.s (.s (.s .x 1) 1) 1)))) hb) (by decide) λf ae z x=>⟨rfl,?_⟩);refine x.take T (by exact(O [_] [] (.i (.l 5 .x) (.l 1 (.s (.s (.s (.s .x 1) 1) 1) 1)))) hb) (by decide) λS ae H x=>?_;have x:=x.bI (c:=b- 5) (by exact O [_] [] (.l (.s .x 5) (.s (.s (.s (.s (.s .x 1) 1) 1) 1) 1)));have D:∀(q:Bool) (c:aC),bK IR.a8 (aB X (k+4)) (Ss.d 2 IR.FI) [I (.r pa),I (.r ra),I (jv bx),I (.i (3+j)),I (.i m),I (.i u),I (.i f),I (F3 c q)] ae (fS Q):=by
  intro q c;refine BZ T (by exact(O [_] [] (.i (.c (.l 0 .x) (.t .x 4)) (.c (.l (.k (-1073741823)) (.p 3 .x)) (.l (.p 3 .x) 1073741823)))) v) (by exact(O [_] [] (.i (.c (.l 0 .x) (.t .x 6)) (.c (.l (.k (-1073741823)) .x) (.l .x 1073741823)))) B) (by exact(O [_] [] (.i (.c (.l 0 .x) (.l .x 2)) (.c (.l 0 .x) (.l .x 3)))) C) (by exact(O [_] [] (.i (.c (.l 0 .x) (.t .x 4)) (.c (.l (.k (-1073741823)) .x) (.l .x 1073741823)))) z) (by decide) λA=>?_;rw[show(if f=0 then(0:Int)else 0)=0 by split<;>rfl];have M:∀a o,(Nd.eV a A c (3+j) m (if m=0 then 0 else u) f o q).cO:=λa o=>⟨by exact(O [_] [] (.i (.c (.l 0 .x) (.t .x 4)) (.c (.l (.k (-1000)) (.p 3 .x)) (.l (.p 3 .x) 1000)))) v,by exact(O [_] [] (.i (.c (.l 0 .x) (.t .x 6)) (.c (.l 0 .x) (.l .x 1000)))) B,by split<;>(first|exact O [] [] (.c (.l 0 0) (.l 0 3))|exact(O [_] [] (.i (.c (.l 0 .x) (.l .x 2)) (.c (.l 0 .x) (.l .x 3)))) C),by exact(O [_] [] (.i (.c (.l 0 .x) (.t .x 4)) (.c (.l 0 .x) (.l .x 1000)))) z⟩
  have add:∀a o {K:V->J->Prop},(∀ae,lD Q .n ae->K .n ae)->aB X (k+4) (.L (.ref 960)) [.r ra,ue a (fK A (3+j) m (if m=0 then 0 else u) f 0) o (F3 c q),.b ak,.i (3+j- f),jv bx,.n] ae K:=by intro a o K N;refine x.add T hl (r:=⟨.eV a A c (3+j) m (if m=0 then 0 else u) f o q,ak,3+j- f,bx,aa⟩) rfl λae x=>N ae (ret (h _ ae ⟨⟨M a o,rfl,rfl,rfl,λ_ _ _ _ e=>by cases e⟩,rfl,by show 0<=3+j- f;exact(O [_,_] [] (.i (.c (.l 0 .x) (.t .x 4)) (.i (.c (.l 0 .y) (.t .y 4)) (.l 0 (.s (.p 3 .x) .y))))) v z,rfl⟩ x))
  cases q with
  |true=>exact aZ rfl (ac8 T λa=>add a 2 λae h=>h)
  |false=>exact bF rfl (ac7 T (.inl rfl) λa=>add a 0 λae h=>h)
 refine cv (λ_=>?_) λ_=>D ak 0;exact F1 T (w:=I 1) (h:=I 3) (d:=aa) (λi e=>by cases e;decide) (λi e=>by cases e;decide) (λi e=>by cases e) λc=>D ai c
theorem GO(T:Top X)(x:gG aA pa ra b Z G)(hb:1<=b)(h:∀p ae,xI p->(∀s∈p,s.cO)->p.length<=2->gG aA pa ra (b- 1) Z ae->Q (.aV [.l (p.map Sh.v),.i (cH p)]) ae):aB X (k+5) (.L (.ref 981)) [.r pa] G Q:=by
 refine aa7 T rfl (x.take T (by exact(O [_] [] (.i (.l 1 .x) (.l 1 .x))) hb) (by decide) λd ae aF x=>?_);refine cv (λ_=>?_) λj=>cv (λ_=>?_) λg=>?_
 .exact ret (h [] ae ⟨by decide,λ_=>rfl,λ_ h=>by cases h⟩ (λ_ h=>by cases h) (by decide) x)
 .refine B0 T (by decide) (by decide) λa=>F1 T (w:=I 2) (h:=aa) (d:=aa) (λi e=>by cases e;decide) (λi e=>by cases e) (λi e=>by cases e) λc=>ret ?_;refine h [.iI a 1 0,.r c (I 2) aa aa] ae ⟨of_decide_eq_true rfl,λe=>absurd e (of_decide_eq_true rfl),?_⟩ ?_ (of_decide_eq_true rfl) x
  .intro s f;simp only[sR,nv,or_false]at f;rcases f with rfl|rfl<;>rfl
  .intro s f;simp only[sR,nv,or_false]at f;rcases f with rfl|rfl
   .exact⟨by decide,by decide⟩
   .exact⟨⟨2,rfl,by decide⟩,.inl rfl,rfl⟩
 .refine⟨kF (by decide) (by decide),xy T (by decide) (by exact(O [_] [] (.i (.c (.l 0 .x) (.t .x 4)) (.c (.l (.k (-1073741823)) (.s (.m 3 .x) 3)) (.l (.s (.m 3 .x) 3) 1073741823)))) aF) (by decide) (by decide) λa=>⟨kF (by decide) (by decide),ret ?_⟩⟩;have e:cH [.jM a 2 (3*d- 3) 1 0]=3*d- 3:=fW _;have:=h [.jM a 2 (3*d- 3) 1 0] ae ⟨by rw[e];exact(O [_] [] (.i (.c (.l 0 .x) (.t .x 4)) (.i (.n (.e .x 0)) (.i (.n (.e .x 1)) (.c (.l 0 (.s (.m 3 .x) 3)) (.l (.s (.m 3 .x) 3) 6)))))) aF j g,λq=>by rw[e]at q;exact tT ((O [_] [] (.i (.n (.e .x 1)) (.i (.e (.s (.m 3 .x) 3) 0) .o))) g q),?_⟩ ?_ (by simp) x
  .rw[e]at this;exact this
  .intro s f;obtain rfl:=List.mem_singleton.mp f;rfl
  .intro s f;obtain rfl:=List.mem_singleton.mp f;exact⟨.inl rfl,by exact(O [_] [] (.i (.c (.l 0 .x) (.t .x 4)) (.i (.n (.e .x 0)) (.i (.n (.e .x 1)) (.c (.l 0 (.s (.m 3 .x) 3)) (.l (.s (.m 3 .x) 3) 1000)))))) aF j g,by decide,by decide⟩
structure OH(S:bk)(r:az):Prop where
 ok:ml r
 bx:∀m b nx,r.bx=fT (lH S m b nx r.n)
 a9:0<=r.a9
 dt:r.n.gU=ai
theorem an5(T:Top X){aA:J}{pa ra:aC}{b:Int}{Z:List az}{S:bk}(x:gG aA pa ra b Z G)(hb:3<=b)(hl:Z.length<=1000)(h:∀r ae,OH S r->gG aA pa ra (b- 3) (Z++[r]) ae->Q .n ae):aB X (k+6) (.L (.ref 988)) [.r pa,.r ra,S.v] G Q:=by
 refine aa8 T rfl (GO T x (by exact(O [_] [] (.i (.l 3 .x) (.l 1 .x))) hb) λp ae tp gp lp x=>GO T x (by exact(O [_] [] (.i (.l 3 .x) (.l 1 (.s .x 1)))) hb) λq ae tq gq an6 x=>GO T x (by exact(O [_] [] (.i (.l 3 .x) (.l 1 (.s (.s .x 1) 1)))) hb) λm ae tm gm an7 x=>⟨rfl,?_⟩);have x:=x.bI (c:=b- 3) (by exact O [_] [] (.l (.s .x 3) (.s (.s (.s .x 1) 1) 1)));have ar:∀c,c=(if p=[]then S.ep else S.hp)->bK IR.a8 (aB X (k+5)) (Ss.d 2 IR.FK) [I (.r pa),I (.r ra),I S.v,I (.aV [.l (p.map Sh.v),.i (cH p)]),I (.aV [.l (q.map Sh.v),.i (cH q)]),I (.aV [.l (m.map Sh.v),.i (cH m)]),I (.i c)] ae (fS Q):=by
  intro c hc;refine ad0 T gp gq gm λa=>?_;have cO:(Nd.dt a p q m).cO:=⟨⟨gp,gq,gm⟩,lp,an6,an7⟩
  have add:∀{K:V->J->Prop},(∀ae,lD Q .n ae->K .n ae)->aB X (k+5) (.L (.ref 960)) [.r ra,FW a (p.map Sh.v) (q.map Sh.v) (m.map Sh.v),.b ai,.i (cH m),jv (fT c),.aV [.i (cH p),.i (cH q)]] ae K:=by intro K hK;refine x.add T hl (r:=⟨.dt a p q m,ai,cH m,fT c,I (cH p,cH q)⟩) rfl λae x=>hK ae (ret (h _ ae ⟨⟨cO,rfl,rfl,rfl,λ_ _ _ _ e=>by cases e;exact⟨tp,tq,tm.rN.1⟩⟩,λm b nx=>by rw[hc];rfl,tm.rN.1,rfl⟩ x))
  unfold fT at add;refine cv (λh1=>?_) λh1=>?_
  .rw[if_pos h1]at add;exact add λae h=>h
  .rw[if_neg h1]at add;exact add λae h=>h
 cases p with
 |nil=>exact bF rfl (ar _ rfl)
 |cons s p=>exact aZ rfl (ar _ rfl)
structure GP(n:Nd)(w:Int):Prop where
 cO:n.cO
 drop:n.cL=ak
 eV:n.qG=ak
 cj:n.cj=w
 CA:n.CA=aa
 dt:n.gU=ak
 bD:∀S m b nx,lH S m b nx n=10000
 may:∀m,kr m n=m
theorem an8(T:Top X)(x:gG aA pa ra b Z G)(hb:1<=b)(h:∀n ae,GP n 0->gG aA pa ra (b- 1) Z ae->Q n.v ae):aB X (k+5) (.L (.ref 995)) [.r pa] G Q:=by
 refine aa9 T rfl (x.take T (by exact(O [_] [] (.i (.l 1 .x) (.l 1 .x))) hb) (by decide) λd ae aF x=>?_);refine cv (λ_=>?_) λf=>cv (λ_=>?_) λj=>cv (λ_=>?_) λm=>?_
 .exact ac4 T λa=>ret (h (.xA a _) ae ⟨trivial,rfl,rfl,rfl,rfl,rfl,λ_ _ _ _=>rfl,λ_=>rfl⟩ x)
 .exact FY T λg=>xy T (by decide) (by decide) (by decide) (by decide) λc=>ac5 T (by decide) (by decide) (by decide) (by decide) λa=>ret (h (.iG a _ _ _ _ _ _) ae ⟨trivial,rfl,rfl,rfl,rfl,rfl,λ_ _ _ _=>rfl,λ_=>rfl⟩ x)
 .exact xy T (by decide) (by decide) (by decide) (by decide) λc=>FZ T (by decide) λe=>ac3 T λa=>ret (h (.ed a [_,_]) ae ⟨by show [_,_].length<=2;simp,rfl,rfl,rfl,rfl,rfl,λ_ _ _ _=>rfl,λ_=>rfl⟩ x)
 .exact ac6 T λa=>ret (h (.F2 a) ae ⟨trivial,rfl,rfl,rfl,rfl,rfl,λ_ _ _ _=>rfl,λ_=>rfl⟩ x)
theorem an9(nx:Bool)(x y:List az):pE nx (x++y)=pE (pE nx y) x:=by cases x<;>rfl
theorem rS(S:bk):∀(x y:List az) (m b nx:Bool),gV S m b nx (x++y)↔gV S m b (pE nx y) x/\gV S (gH m x) (nO b x) nx y:=by
 intro a;induction a with
 |nil=>exactλ_ _ _ _=>⟨λh=>⟨trivial,h⟩,λh=>h.2⟩
 |cons r x c=>intro y m b nx;rw[qI];show(r.bx=fT (lH S m b (pE nx (x++y)) r.n)/\gV S (kr m r.n) (!r.n.cL) nx (x++y))↔_;rw[an9,c y];exact and_assoc.symm
theorem nP:∀(x y:List az) (m:Bool),gH m (x++y)=gH (gH m x) y:=by
 intro a;induction a with
 |nil=>exactλ_ _=>rfl
 |cons _ x b=>exactλy _=>b y _
theorem CB:∀(x y:List az) (m:Bool),nO m (x++y)=nO (nO m x) y:=by
 intro a;induction a with
 |nil=>exactλ_ _=>rfl
 |cons _ x b=>exactλy _=>b y _
theorem qJ:∀(x y:List az),eP (x++y)=eP x+eP y:=by
 intro a;induction a with
 |nil=>exactλy=>(mB _).symm
 |cons r x b=>intro y;show r.a9+eP (x++y)=_;rw[b y];show _=r.a9+eP x+eP y;exact O [_,_,_] [] (.e (.p .x (.p .y .u)) (.p (.p .x .y) .u))
structure tb(S:bk)(g:List az):Prop where
 ok:∀r∈g,ml r
 bx:gV S ai ai ak g
 may:gH ai g=ai
 aL:g.length<=8
 cD:((∀r∈g,r.bx=aa)/\0<=eP g)\/∃pre l d,g=pre++l::d/\(∀r∈pre,r.bx=aa)/\0<=eP pre/\l.bx≠aa/\0<=l.a9/\gH ai (pre++[l])=ai/\
  ∀r∈d,r.bx=aa/\r.n.cL=ai/\0<=r.a9/\∀m,kr m r.n=m
theorem xN{S:bk}{pre d:List az}{l:az}(ok:∀r∈pre++l::d,ml r)(bx:gV S ai ai ak (pre++l::d))(aL:(pre++l::d).length<=8)(h1:∀r∈pre,r.bx=aa)(h2:0<=eP pre)(h3:l.bx≠aa)(h4:0<=l.a9)(h5:gH ai (pre++[l])=ai)(h6:∀r∈d,lg r aa):tb S (pre++l::d):=by
 have h7:∀r∈d,r.bx=aa/\r.n.cL=ai/\0<=r.a9/\∀m,kr m r.n=m:=λr hr=>⟨(h6 r hr).bx,(h6 r hr).qH.1,(h6 r hr).a9,(h6 r hr).qH.2.2⟩
 refine⟨ok,bx,?_,aL,.inr ⟨pre,l,d,rfl,h1,h2,h3,h4,h5,h7⟩⟩;have e:pre++l::d=(pre++[l])++d:=by simp
 rw[e,nP,h5];have:∀(x:List az),(∀r∈x,∀m,kr m r.n=m)->gH ai x=true:=by
  intro x;induction x with
  |nil=>exactλ_=>rfl
  |cons r x ih=>intro h;show gH (kr ai r.n) x=ai;rw[h r (.head _)];exact ih λy hy=>h y (.tail _ hy)
 exact this d λr hr=>(h7 r hr).2.2.2
theorem uw{S:bk}{r:az}{c:Option Int}(h:lg r c)(m b nx:Bool)(e:c=fT (if(m&&b)=ai then 0 else 10000)):gV S m b nx [r]:=⟨by rw[h.qH.2.1,h.bx,e],trivial⟩
theorem lh{P:az->Prop}{r:az}(h:P r):∀x∈ [r],P x:=λx hx=>by obtain rfl:=List.mem_singleton.mp hx;exact h
theorem tc{P:az->Prop}:∀x∈([]:List az),P x:=λx hx=>by cases hx
theorem pF{P:az->Prop}{r:az}{l:List az}(h:P r)(h2:∀x∈l,P x):∀x∈r::l,P x:=λx hx=>by
 rcases List.mem_cons.mp hx with rfl|hx
 .exact h
 .exact h2 x hx
theorem mn{P:az->Prop}{l cV:List az}(h:∀x∈l,P x)(h2:∀x∈cV,P x):∀x∈l++cV,P x:=λx hx=>by
 rcases List.mem_append.mp hx with hx|hx
 .exact h x hx
 .exact h2 x hx
theorem ao0{S:bk}{g:az}(h:lg g (I 0)):tb S [g]:=xN (pre:=[]) (d:=[]) (lh h.ok) (uw h _ _ _ rfl) ((of_decide_eq_true rfl)) tc (by decide) (by rw[h.bx];simp) h.a9 (by show kr ai g.n=ai;exact h.qH.2.2 ai) tc
theorem OI{S:bk}{a:aC}{v:Int}{d:List az}(hv:-100000<=v/\v<=100000)(aF:d=[]\/∃g,d=[g]/\lg g aa):tb S (⟨.bD a v,ak,0,fT v,aa⟩::d):=by
 have ok:ml ⟨.bD a v,ak,0,fT v,aa⟩:=⟨hv,rfl,rfl,rfl,λ_ _ _ _ e=>by cases e⟩
 have GQ:∀r∈d,lg r none:=by
  rcases aF with rfl|⟨g,rfl,hg⟩
  .exact tc
  .exact lh hg
 have OJ:d.length<=1:=by rcases aF with rfl|⟨g,rfl,hg⟩<;>simp
 have c:gV S ai ai ak (⟨.bD a v,ak,0,fT v,aa⟩::d):=by
  refine⟨rfl,?_⟩;rcases aF with rfl|⟨g,rfl,hg⟩
  .trivial
  .exact uw hg _ _ _ rfl
 have OL:∀r∈(⟨.bD a v,ak,0,fT v,aa⟩:az)::d,ml r:=pF ok λr hr=>(GQ r hr).ok;by_cases h:v<10000
 .exact xN (pre:=[]) OL c (by simp;exact(O [] [_] (.i (.ag .x 1) (.ag .x 7))) OJ) tc (by decide) (by unfold fT;rw[if_pos h];simp) (pk 0) rfl GQ
 .have hc:fT v=none:=by unfold fT;rw[if_neg h]
  refine⟨OL,c,?_,by simp;exact(O [] [_] (.i (.ag .x 1) (.ag .x 7))) OJ,.inl ⟨pF hc λr hr=>(GQ r hr).bx,?_⟩⟩
  .rcases aF with rfl|⟨g,rfl,hg⟩
   .rfl
   .exact hg.qH.2.2 ai
  .rcases aF with rfl|⟨g,rfl,hg⟩
   .exact pk 0
   .show 0<=0+(g.a9+0);have:=hg.a9;exact(O [_] [] (.i (.l 0 .x) (.l 0 (.p 0 (.p .x 0))))) this
theorem ao1{S:bk}{r:az}(h:OH S r):tb S [r]:=by
 have ax:gH ai [r]=true:=by show kr ai r.n=ai;have:=h.dt;cases e:r.n<;>rw[e]at this<;>first|rfl|cases this
 have c:gV S ai ai ak [r]:=⟨h.bx _ _ _,trivial⟩
 cases e:r.bx with
 |none=>exact⟨lh h.ok,c,ax,(of_decide_eq_true rfl),.inl ⟨lh e,by show 0<=r.a9+0;have:=h.a9;exact(O [_] [] (.i (.l 0 .x) (.l 0 (.p .x 0)))) this⟩⟩
 |some v=>exact xN (pre:=[]) (d:=[]) (lh h.ok) c ((of_decide_eq_true rfl)) tc (by decide) (by rw[e];simp) h.a9 ax tc
theorem ao2{S:bk}{a:aC}{g:az}(h:lg g aa):tb S [⟨.sh (.iI a 3 1),ak,3,I 0,aa⟩,g]:=xN (pre:=[]) (d:=[g]) (pF ⟨⟨by decide,by decide⟩,rfl,rfl,rfl,λ_ _ _ _ e=>by cases e⟩ (lh h.ok)) ⟨by show I 0=fT (if(a6 ((1:Int)=1)&&(ai&&g.n.qG))=ai then 0 else 10000);rw[h.eV];rfl,uw h _ _ _ rfl⟩ ((of_decide_eq_true rfl)) tc (by decide) ((of_decide_eq_true rfl)) (by decide:(0:Int)<=3) rfl (lh h)
theorem ao3{S:bk}{n:Nd}{w:Int}{g:az}(hn:GP n w)(aj:0<=w)(h:lg g (I 0)):tb S [⟨n,ai,w,aa,aa⟩,g]:=by
 refine xN (pre:=[⟨n,ai,w,aa,aa⟩]) (l:=g) (d:=[]) (pF ⟨hn.cO,by rw[hn.drop];rfl,hn.cj.symm,hn.CA.symm,λ_ _ _ _ e=>?_⟩ (lh h.ok)) ⟨by rw[hn.bD];rfl,?_⟩ ((of_decide_eq_true rfl)) (lh rfl) (by show 0<=w+0;exact(O [_] [] (.i (.l 0 .x) (.l 0 (.p .x 0)))) aj) (by rw[h.bx];simp) h.a9 (by show kr (kr ai n) g.n=ai;rw[hn.may,h.qH.2.2]) tc
 .have:=hn.dt;dsimp only at e;rw[e]at this;cases this
 .refine uw h _ _ _ ?_;dsimp only;rw[hn.may,hn.drop];rfl
theorem ao4{S:bk}{a c:aC}{w:List az}{g gR:az}(aj:vP w)(h:lg g aa)(bu:lg gR aa):tb S ((⟨.jN a ai 1,ak,1,aa,aa⟩::w++[g])++⟨.jN c ak 2,ak,2,I 0,aa⟩::[gR]):=by
 have m1:∀eF:Bool,gH (!eF) (w++[g])= !eF:=λeF=>by rw[nP,aj.may];exact h.qH.2.2 _
 refine xN (mn (pF ⟨(by decide:(0:Int)<=1/\(1:Int)<=1000),rfl,rfl,rfl,λ_ _ _ _ e=>by cases e⟩ (mn aj.ok (lh h.ok))) (pF ⟨(by decide:(0:Int)<=2/\(2:Int)<=1000),rfl,rfl,rfl,λ_ _ _ _ e=>by cases e⟩ (lh bu.ok))) ?_ ?_ (pF rfl (mn aj.free (lh h.bx))) ?_ (by simp) (by decide:(0:Int)<=2) ?_ (lh bu)
 .rw[rS];refine⟨⟨rfl,?_⟩,?_⟩
  .show gV S ak _ _ (w++[g]);rw[rS];refine⟨aj.bx _ _ _ _,uw h _ _ _ ?_⟩;rw[aj.may];rfl
  .refine⟨by show I 0=fT (if(!ak&&gR.n.qG)=ai then 0 else 10000);rw[bu.eV];rfl,uw bu _ _ _ ?_⟩;show aa=fT (if(ai&&ak)=ai then 0 else 10000);rfl
 .have:=aj.aL;simp only[fQ,iw,ao5];exact(O [] [_] (.i (.ag .x 3) (.ag (.p (.p (.p .x 1) (.p 0 1)) (.p (.p 0 1) 1)) 8))) this
 .show 0<=1+eP (w++[g]);rw[qJ];have:=aj.sum;have:=h.a9;show 0<=1+(eP w+(g.a9+0));exact(O [_,_] [] (.i (.l 8 .x) (.i (.l 0 .y) (.l 0 (.p 1 (.p .x (.p .y 0))))))) ‹_› this
 .rw[nP];rfl
theorem ao6(T:Top X){aA:J}{pa ra:aC}{b rm:Int}{Z:List az}{S:bk}(x:gG aA pa ra b Z G)(hb:20<=b)(hl:Z.length<=800)(hr:-300<=rm/\rm<=300)(h:∀g ae,tb S g->gG aA pa ra (b- 20) (Z++g) ae->Q .n ae):aB X (k+7) (.L (.ref 1002)) [.r pa,.r ra,S.v,.i rm] G Q:=by
 refine ab0 T rfl (x.take T (by exact(O [_] [] (.i (.l 20 .x) (.l 1 .x))) hb) (by decide) λd ae aF x=>?_);refine cv (λh1=>?_) λh1=>cv (λh2=>?_) λh2=>cv (λh3=>?_) λh3=>cv (λh4=>?_) λh4=>cv (λh5=>?_) λh5=>?_
 .exact vQ T (bx:=I 0) x (by exact(O [_] [] (.i (.l 20 .x) (.l 5 (.s .x 1)))) hb) (by exact(O [] [_] (.i (.ag .x 800) (.ag .x 1000))) hl) λg ae hg x=>ret (h [g] ae (ao0 hg) (x.bI (by exact O [_] [] (.l (.s .x 20) (.s (.s .x 1) 5)))))
 .refine x.take T (by exact(O [_] [] (.i (.l 20 .x) (.l 1 (.s .x 1)))) hb) (by decide) λd2 ae pD x=>?_;refine cps λG0 g0=>?_;obtain⟨v,e1,hv⟩:=oz (P:=λi=> -100000<=i/\i<=100000) (xs:=[50,-50,0,9999,-300,10000,-10000,-12000]) pD (by decide);refine g0 ?_;clear g0;refine dg e1 (FZ T (by exact(O [_] [] (.i (.c (.l (.k (-100000)) .x) (.l .x 100000)) (.c (.l (.k (-2147483647)) .x) (.l .x 2147483647)))) hv) λa=>?_);have add:∀{K:V->J->Prop},(∀ae,gG aA pa ra (b- 1- 1) (Z++[⟨.bD a v,ak,0,fT v,aa⟩]) ae->K .n ae)->aB X (k+6) (.L (.ref 960)) [.r ra,FV a v,.b ak,.i 0,jv (fT v),.n] ae K:=λhK=>x.add T (by exact(O [] [_] (.i (.ag .x 800) (.ag .x 1000))) hl) rfl hK;unfold fT at add;have rest:∀ae,gG aA pa ra (b- 1- 1) (Z++[⟨.bD a v,ak,0,fT v,aa⟩]) ae->jB (a6 (3<d)) (aB X (k+6) (.L (.ref 974)) [.r pa,.r ra,.n] ae λfg G=>match fg with|.n=>lD Q .n G|.i _=>lD Q .n G|_=>False) (lD Q .n ae):=by
   intro ae x;refine cv (λh6=>?_) λh6=>ret (h _ ae (OI (d:=[]) hv (.inl rfl)) (x.bI (by exact O [_] [] (.l (.s .x 20) (.s (.s .x 1) 1)))));exact vQ T (bx:=aa) x (by exact(O [_] [] (.i (.l 20 .x) (.l 5 (.s (.s .x 1) 1)))) hb) (by simp;exact(O [] [_] (.i (.ag .x 800) (.ag .x 999))) hl) λg ae hg x=>ret (h _ ae (OI hv (.inr ⟨g,rfl,hg⟩)) (by rw[dK]at x;exact x.bI (by exact O [_] [] (.l (.s .x 20) (.s (.s (.s .x 1) 1) 5)))))
  refine cv (λh6=>?_) λh6=>?_
  .rw[if_pos h6]at add;exact add λae x=>rest ae (by unfold fT;rw[if_pos h6];exact x)
  .rw[if_neg h6]at add;exact add λae x=>rest ae (by unfold fT;rw[if_neg h6];exact x)
 .exact an5 T x (by exact(O [_] [] (.i (.l 20 .x) (.l 3 (.s .x 1)))) hb) (by exact(O [] [_] (.i (.ag .x 800) (.ag .x 1000))) hl) λr ae Gr x=>ret (h [r] ae (ao1 Gr) (x.bI (by exact O [_] [] (.l (.s .x 20) (.s (.s .x 1) 3)))))
 .refine B0 T (by decide) (by decide) λa=>x.add T (by exact(O [] [_] (.i (.ag .x 800) (.ag .x 1000))) hl) (r:=⟨.sh (.iI a 3 1),ak,3,I 0,aa⟩) rfl λae x=>?_;exact vQ T (bx:=aa) x (by exact(O [_] [] (.i (.l 20 .x) (.l 5 (.s .x 1)))) hb) (by simp;exact(O [] [_] (.i (.ag .x 800) (.ag .x 999))) hl) λg ae hg x=>ret (h _ ae (ao2 (a:=a) hg) (by rw[dK]at x;exact x.bI (by exact O [_] [] (.l (.s .x 20) (.s (.s .x 1) 5)))))
 .refine Nt T (by decide) λa=>x.add T (by exact(O [] [_] (.i (.ag .x 800) (.ag .x 1000))) hl) (r:=⟨.jN a ai 1,ak,1,aa,aa⟩) rfl λae x=>?_;refine GL T x (by exact(O [_] [] (.i (.l 20 .x) (.l 6 (.s .x 1)))) hb) (by simp;exact(O [] [_] (.i (.ag .x 800) (.ag .x 899))) hl) hr λw ae aj x=>?_;have zL:=aj.aL;refine vQ T (bx:=aa) x (by exact(O [_] [] (.i (.l 20 .x) (.l 5 (.s (.s .x 1) 6)))) hb) (by simp;exact(O [] [_,_] (.i (.ag .x 800) (.i (.ag .y 3) (.ag (.p .x (.p .y 1)) 1000)))) hl zL) λg ae hg x=>?_;refine Nt T (by decide) λc=>x.add T (by simp;exact(O [] [_,_] (.i (.ag .x 800) (.i (.ag .y 3) (.ag (.p .x (.p (.p .y 1) 1)) 1000)))) hl zL) (r:=⟨.jN c ak 2,ak,2,I 0,aa⟩) rfl λae x=>?_;refine vQ T (bx:=aa) x (by exact(O [_] [] (.i (.l 20 .x) (.l 5 (.s (.s (.s .x 1) 6) 5)))) hb) (by simp;exact(O [] [_,_] (.i (.ag .x 800) (.i (.ag .y 3) (.ag (.p .x (.p (.p .y 2) 1)) 1000)))) hl zL) λgR ae uM x=>ret (h _ ae (ao4 (a:=a) (c:=c) aj hg uM) ?_);have e:Z++[(⟨.jN a ai 1,ak,1,aa,aa⟩:az)]++w++[g]++[⟨.jN c ak 2,ak,2,I 0,aa⟩]++[gR]=Z++((⟨.jN a ai 1,ak,1,aa,aa⟩::w++[g])++⟨.jN c ak 2,ak,2,I 0,aa⟩::[gR]):=by simp
  rw[e]at x;exact x.bI (by exact O [_] [] (.l (.s .x 20) (.s (.s (.s (.s .x 1) 6) 5) 5)))
 .have ar:∀(n:Nd) (w cp:Int) (ae:J) {K:V->J->Prop},GP n w->0<=w->b- 2<=cp->gG aA pa ra cp Z ae->
    (∀ae,aB X (k+6) (.L (.ref 974)) [.r pa,.r ra,.i 0] ae (λfg G=>match fg with|.n=>lD Q .n G|.i _=>lD Q .n G|_=>False)->K .n ae)->
    aB X (k+6) (.L (.ref 960)) [.r ra,n.v,.b ai,.i w,.n,.n] ae K:=by
   intro n w cp ae K hn aj fR x hK;refine x.add T (by exact(O [] [_] (.i (.ag .x 800) (.ag .x 1000))) hl) (r:=⟨n,ai,w,aa,aa⟩) rfl λae x=>hK ae ?_;exact vQ T (bx:=I 0) x (by exact(O [_,_] [] (.i (.l 20 .y) (.i (.l (.s .y 2) .x) (.l 5 .x)))) hb fR) (by simp;exact(O [] [_] (.i (.ag .x 800) (.ag .x 999))) hl) λg ae hg x=>ret (h _ ae (ao3 hn aj hg) (by rw[dK]at x;exact x.bI (by exact(O [_,_] [] (.i (.l (.s .x 2) .y) (.l (.s .x 20) (.s .y 5)))) fR)))
  refine cv (λh6=>?_) λh6=>?_
  .refine B0 T (by decide) (by decide) λa=>iW h6 (ar (.sh (.iI a 2 0)) 2 (b- 1) ae ⟨⟨by decide,by decide⟩,rfl,rfl,rfl,rfl,rfl,λ_ m _ nx=>rfl,λ_=>rfl⟩ (by decide) (by exact O [_] [] (.l (.s .x 2) (.s .x 1))) x λae h=>h)
  .exact an8 T x (by exact(O [_] [] (.i (.l 20 .x) (.l 1 (.s .x 1)))) hb) λn ae hn x=>eN h6 (ar n 0 _ ae hn (by decide) (by exact O [_] [] (.l (.s .x 2) (.s (.s .x 1) 1))) x λae h=>h)
structure Seg where
 l:az
 d:List az
 w:List az
noncomputable def cU:List az->List Seg->List az
 |b,[]=>b
 |b,s::ss=>b++s.l::(s.d++cU s.w ss)
theorem CC:cU b []=(b):=rfl
theorem CD:cU b (s::ss)=(b++s.l::(s.d++cU s.w ss)):=rfl
structure zM(w:List az):Prop where
 free:∀r∈w,r.bx=aa
 sum:8<=eP w
structure GR(s:Seg):Prop where
 bx:s.l.bx≠aa
 a9:0<=s.l.a9
 d:∀r∈s.d,r.bx=aa/\r.n.cL=ai/\0<=r.a9/\∀m,kr m r.n=m
 OM:zM s.w
 head:∃r aQ,s.w=r::aQ/\r.n.cL=ak/\r.n.qG=ak
noncomputable def ON:List az->List Seg->Prop
 |_,[]=>True
 |b,s::ss=>kr (gH ai b) s.l.n=ai/\ON s.w ss
structure mq(b:List az)(ss:List Seg):Prop where
 qK:zM b
 pG:∀s∈ss,GR s
 oC:ON b ss
theorem mq.tail(h:mq b (s::ss)):mq s.w ss:=⟨(h.pG s (.head _)).OM,λt a=>h.pG t (.tail _ a),h.oC.2⟩
theorem zM.iE(h:zM w)(h1:∀r∈x,r.bx=aa)(h2:0<=eP x):zM (w++x):=⟨mn h.free h1,by rw[qJ];have:=h.sum;exact(O [_,_] [] (.i (.l 0 .y) (.i (.l 8 .x) (.l 8 (.p .x .y))))) h2 this⟩
theorem OO(h1:∀r∈x,r.bx=aa)(h2:0<=eP x):∀(ss:List Seg) (b:List az),mq b ss->∃cp iB,cU cp iB=cU b ss++x/\mq cp iB/\iB.length=ss.length/\(∃y,cp=b++y):=by
 intro j;induction j with
 |nil=>
  exactλb h=>⟨b++x,[],rfl,⟨h.qK.iE h1 h2,λ_ h=>by(cases h),trivial⟩,rfl,x,rfl⟩
 |cons s ss m=>
  intro b h;refine cps λG0 f=>?_;obtain⟨i,iB,e,g,n,y,o⟩:=m s.w h.tail;refine f ?_;clear f;have a:=h.pG s (.head _);refine⟨b,⟨s.l,s.d,i⟩::iB,?_,⟨h.qK,?_,h.oC.1,g.oC⟩,by simp[n],[],by simp⟩
  .show b++s.l::(s.d++cU i iB)=b++s.l::(s.d++cU s.w ss)++x;rw[e];simp
  .intro t c;rcases List.mem_cons.mp c with rfl|c
   .obtain⟨r,p,q,u,v⟩:=a.head;exact⟨a.bx,a.a9,a.d,g.qK,⟨r,p++y,by dsimp only;rw[o,q];rfl,u,v⟩⟩
   .exact g.pG t c
theorem CE:∀(d:List az) (m:Bool),(∀r∈d,∀m,kr m r.n=m)->gH m d=m:=by
 intro a;induction a with
 |nil=>exactλ_ _=>rfl
 |cons r d b=>intro m h;show gH (kr m r.n) d=m;rw[h r (.head _)];exact b m λx c=>h x (.tail _ c)
theorem ao7(h:mq b (s::ss)):gH ai (cU b (s::ss))=gH ai (cU s.w ss):=by show gH ai (b++s.l::(s.d++cU s.w ss))=_;rw[nP];show gH (kr (gH ai b) s.l.n) (s.d++cU s.w ss)=_;rw[h.oC.1,nP,CE s.d ai λr a=>((h.pG s (.head _)).d r a).2.2.2]
theorem ao8(ht:GR t)(h1:∀r∈pre,r.bx=aa)(h2:0<=eP pre)(ax:gH ai (pre++[t.l])=ai):∀(ss:List Seg) (b:List az),mq b ss->gH ai (cU b ss)=ai->∃cp iB,cU cp iB=cU b ss++(pre++t.l::(t.d++t.w))/\mq cp iB/\iB.length=ss.length+1/\(∃y,cp=b++y):=by
 intro m;induction m with
 |nil=>
  intro b h c;refine⟨b++pre,[t],by simp[CC,CD],⟨h.qK.iE h1 h2,?_,?_,trivial⟩,rfl,pre,rfl⟩
  .intro s a;obtain rfl:=List.mem_singleton.mp a;exact ht
  .rw[nP,show gH ai b=ai from c];rw[nP]at ax;exact ax
 |cons s ss n=>
  intro b h c;rw[ao7 h]at c;refine cps λG0 i=>?_;obtain⟨j,iB,e,g,o,y,p⟩:=n s.w h.tail c;refine i ?_;clear i;have a:=h.pG s (.head _);refine⟨b,⟨s.l,s.d,j⟩::iB,?_,⟨h.qK,?_,h.oC.1,g.oC⟩,by simp[o],[],by simp⟩
  .show b++s.l::(s.d++cU j iB)=b++s.l::(s.d++cU s.w ss)++_;rw[e];simp
  .intro q f;rcases List.mem_cons.mp f with rfl|f
   .obtain⟨r,u,v,x,z⟩:=a.head;exact⟨a.bx,a.a9,a.d,g.qK,⟨r,u++y,by dsimp only;rw[p,v];rfl,x,z⟩⟩
   .exact g.pG q f
structure Rows(S:bk)(Z:List az):Prop where
 ok:∀r∈Z,ml r
 bx:gV S ai ak ak Z
 aL:Z.length<=100
 zN:∃b ss,Z=cU b ss/\mq b ss/\ss.length<=5
structure pH(S:bk)(n:Nat)(Z:List az):Prop where
 ok:∀r∈Z,ml r
 bx:∀nx,gV S ai ak nx Z
 may:gH ai Z=ai
 bh:nO ak Z=ai
 aL:Z.length<=4+11*n
 zN:∃b ss,Z=cU b ss/\mq b ss/\ss.length<=n
theorem pH.next{S:bk}{n:Nat}{Z g w:List az}(h:pH S n Z)(hg:tb S g)(aj:vP w):pH S (n+1) (Z++g++w):=by
 refine cps λG0 g0=>?_;obtain⟨hr,aQ,ew,ta,pD⟩:=aj.head;refine g0 ?_;clear g0;have ao9:∀nx,pE nx w=false:=λnx=>by rw[ew];exact pD
 refine⟨mn (mn h.ok hg.ok) aj.ok,λnx=>?_,?_,?_,?_,?_⟩
 .rw[rS,rS];refine⟨⟨h.bx _,?_⟩,aj.bx _ _ _ _⟩;rw[h.may,h.bh,ao9];exact hg.bx
 .rw[nP,nP,h.may,hg.may,aj.may]
 .rw[CB];exact aj.bh _
 .have:=h.aL;have:=hg.aL;have:=aj.aL;simp only[fQ];exact(O [] [_,_,_,_] (.i (.ag .x (.p 4 (.m 11 .w))) (.i (.ag .y 8) (.i (.ag .u 3) (.ag (.p (.p .x .y) .u) (.p 4 (.m 11 (.p .w 1)))))))) ‹_› ‹_› this
 .obtain⟨b,ss,e,gd,hl⟩:=h.zN;refine cps λG0 g0=>?_;rcases hg.cD with⟨h1,h2⟩|⟨pre,l,d,eg,h1,h2,h3,h4,h5,h6⟩
  .refine g0 ?_;clear g0;obtain⟨cp,iB,bz,gR,cV,_⟩:=OO (x:=g++w) (mn h1 aj.free) (by rw[qJ];have:=aj.sum;exact(O [_,_] [] (.i (.l 0 .x) (.i (.l 8 .y) (.l 0 (.p .x .y))))) h2 this) ss b gd;exact⟨cp,iB,by rw[bz,e,dK],gR,by exact(O [] [_,_,_] (.i (.ag .u .y) (.i (.E .x .u) (.ag .x (.p .y 1))))) hl cV⟩
  .refine g0 ?_;clear g0;have ax:gH ai (cU b ss)=true:=e▸h.may;refine cps λG0 g0=>?_;obtain⟨cp,iB,bz,gR,cV,_⟩:=ao8 (t:=⟨l,d,w⟩) ⟨h3,h4,h6,⟨aj.free,aj.sum⟩,⟨hr,aQ,ew,ta,pD⟩⟩ h1 h2 h5 ss b gd ax;refine g0 ?_;clear g0;exact⟨cp,iB,by rw[bz,e,eg];simp,gR,by exact(O [] [_,_,_] (.i (.ag .u .y) (.i (.E .x (.p .u 1)) (.ag .x (.p .y 1))))) hl cV⟩
theorem pH.rD{S:bk}{eW w:List az}(hl:eW=[]\/∃g,eW=[g]/\lg g aa)(aj:vP w):pH S 0 (eW++w):=by
 have ok:∀r∈eW,lg r none:=by
  rcases hl with rfl|⟨g,rfl,hg⟩
  .exact tc
  .exact lh hg
 have hs:0<=eP eW:=by
  rcases hl with rfl|⟨g,rfl,hg⟩
  .decide
  .show 0<=g.a9+0;have:=hg.a9;exact(O [_] [] (.i (.l 0 .x) (.l 0 (.p .x 0)))) this
 have ap0:eW.length<=1:=by rcases hl with rfl|⟨g,rfl,hg⟩<;>simp
 have ax:gH ai eW=true:=CE eW ai λr hr=>(ok r hr).qH.2.2;refine⟨mn (λr hr=>(ok r hr).ok) aj.ok,λnx=>?_,by rw[nP,ax,aj.may],by rw[CB,aj.bh],by simp only[fQ];have:=aj.aL;exact(O [] [_,_] (.i (.ag .x 1) (.i (.ag .y 3) (.ag (.p .x .y) (.p 4 (.m 11 0)))))) ap0 this,eW++w,[],rfl,⟨⟨mn (λr hr=>(ok r hr).bx) aj.free,by rw[qJ];have:=aj.sum;exact(O [_,_] [] (.i (.l 0 .x) (.i (.l 8 .y) (.l 8 (.p .x .y))))) hs this⟩,λ_ h=>by(cases h),trivial⟩,gB 0⟩;rw[rS];refine⟨?_,aj.bx _ _ _ _⟩;rcases hl with rfl|⟨g,rfl,hg⟩
 .trivial
 .exact uw hg _ _ _ rfl
theorem pH.done{S:bk}{Z t:List az}(h:pH S 5 Z)(ht:t=[]\/∃a g,t=[⟨.bD a 10000,ak,0,aa,aa⟩,g]/\lg g aa):Rows S (Z++t):=by
 obtain⟨b,ss,e,gd,hl⟩:=h.zN;rcases ht with rfl|⟨a,g,rfl,hg⟩
 .rw[dZ];exact⟨h.ok,h.bx ak,by have:=h.aL;exact(O [] [_] (.i (.ag .x (.p 4 (.m 11 5))) (.ag .x 100))) this,b,ss,e,gd,hl⟩
 .obtain⟨cp,iB,bz,gR,cV,_⟩:=OO (x:=[⟨.bD a 10000,ak,0,aa,aa⟩,g]) (pF rfl (lh hg.bx)) (by show 0<=0+(g.a9+0);have:=hg.a9;exact(O [_] [] (.i (.l 0 .x) (.l 0 (.p 0 (.p .x 0))))) this) ss b gd;refine⟨mn h.ok (pF ⟨(by decide:(-100000:Int)<=10000/\(10000:Int)<=100000),rfl,rfl,rfl,λ_ _ _ _ e=>by cases e⟩ (lh hg.ok)),?_,by have:=h.aL;simp;exact(O [] [_] (.i (.ag .x (.p 4 (.m 11 5))) (.ag .x 98))) this,cp,iB,by rw[bz,e],gR,by exact(O [] [_,_] (.i (.ag .y 5) (.i (.E .x .y) (.ag .x 5)))) hl cV⟩;rw[rS];exact⟨h.bx _,rfl,uw hg _ _ _ (by show aa=fT (if(_&&ak)=ai then 0 else 10000);rw[rh];rfl)⟩
theorem ap1(T:Top X){aA:J}{pa:aC}{b rm:Int}{S:bk}{qL:Bool}(x:oB aA pa b G)(hb:200<=b)(hr:-300<=rm/\rm<=300)(h:∀Z ae,Rows S Z->oB aA pa (b- 200) ae->Q (.l (Z.map az.v)) ae):aB X (k+8) (.L (.ref 1009)) [.r pa,S.v,.i rm,.b qL] G Q:=by
 refine ab1 T rfl ?_;intro ra GU;have OP:pa≠ra:=λe=>by
  obtain⟨_,_,bz,_⟩:=x.p.bB;subst e;rw[GU]at bz;cases bz
 have sY:gG aA pa ra b [] (G.s ra (.l [])):=⟨x.le.s (x.le.qt GU),x.jl,x.le.qt GU,OP,x.p.vo OP,J.bY⟩
 refine sY.take T (by exact(O [_] [] (.i (.l 200 .x) (.l 1 .x))) hb) (by decide) λd0 ae jr x=>?_;have OQ:∀(eW:List az) (ae:J),(eW=[]\/∃g,eW=[g]/\lg g aa)->gG aA pa ra (b- 6) eW ae->
   bK IR.a8 (aB X (k+7)) (Ss.d 2 IR.xq) [I (.r pa),I S.v,I (.i rm),I (.b qL),I (.r ra),aa,aa,aa] ae (fS Q):=by
  intro eW ae OR x;have fh:eW.length<=1:=by rcases OR with rfl|⟨g,rfl,hg⟩<;>simp
  refine GL T x (by exact(O [_] [] (.i (.l 200 .x) (.l 6 (.s .x 6)))) hb) (by exact(O [] [_] (.i (.ag .x 1) (.ag .x 900))) fh) hr λw ae aj x=>?_;refine x.take T (by exact(O [_] [] (.i (.l 200 .x) (.l 1 (.s (.s .x 6) 6)))) hb) (by decide) λmore ae ax x=>?_;have p0:=pH.rD (S:=S) OR aj;have ny:∀(m n i:Nat) (Z:List az) (cp:Int) (ae:J) (o6:Option V) (R:Fl->ay->J->Prop),n+m<=5->pH S n Z->b- 20- 30*n<=cp->gG aA pa ra cp Z ae->
    (∀Z ae o6,pH S (n+m) Z->gG aA pa ra (b- 20- 30*(n+m)) Z ae->R .n [I (.r pa),I S.v,I (.i rm),I (.b qL),I (.r ra),I (.i more),o6,aa] ae)->
    d8 (.cD 6) (bK IR.a8 (aB X (k+7)) IR.FL) (tL i m) [I (.r pa),I S.v,I (.i rm),I (.b qL),I (.r ra),I (.i more),o6,aa] ae R:=by
   intro m;induction m with
   |zero=>exactλn i Z cp ae o6 R _ hp fR x hR=>hR Z ae o6 hp (x.bI (by exact(O [_,_] [_] (.i (.l (.s (.s .x 20) (.m 30 (.c .x))) .y) (.l (.s (.s .x 20) (.m 30 (.p (.c .x) (.c 0)))) .y))) fR))
   |succ m ih=>intro n i Z cp ae o6 R hn hp fR x hR;have nN:=hp.aL;refine ao6 T x (by exact(O [_,_] [_,_] (.i (.l 200 .y) (.i (.ag (.p .x (.p .y 1)) 5) (.i (.l (.s (.s .y 20) (.m 30 (.c .x))) .x) (.l 20 .x))))) hb hn fR) (by exact(O [] [_,_,_] (.i (.ag (.p .y (.p .u 1)) 5) (.i (.ag .x (.p 4 (.m 11 .y))) (.ag .x 800)))) hn nN) hr λg ae hg x=>?_;have Cv:=hg.aL;refine GL T x (by exact(O [_,_] [_,_] (.i (.l 200 .y) (.i (.ag (.p .x (.p .y 1)) 5) (.i (.l (.s (.s .y 20) (.m 30 (.c .x))) .x) (.l 6 (.s .x 20)))))) hb hn fR) (by simp;exact(O [] [_,_,_,_] (.i (.ag (.p .u (.p .w 1)) 5) (.i (.ag .x (.p 4 (.m 11 .u))) (.i (.ag .y 8) (.ag (.p .x .y) 900))))) hn nN Cv) hr λw ae aj x=>?_;refine ih (n+1) (i+1) _ _ ae _ R (by exact(O [] [_,_] (.i (.ag (.p .x (.p .y 1)) 5) (.ag (.p (.p .x 1) .y) 5))) hn) (hp.next hg aj) (by exact(O [_,_] [_] (.i (.l (.s (.s .x 20) (.m 30 (.c .x))) .y) (.l (.s (.s .x 20) (.m 30 (.c (.p .x 1)))) (.s (.s .y 20) 6)))) fR) x λZ ae o6 hp x=>hR Z ae o6 ?_ (x.bI (by exact O [_] [_,_] (.l (.s (.s .x 20) (.m 30 (.p (.c .x) (.c (.p .y 1))))) (.s (.s .x 20) (.m 30 (.p (.c (.p .x 1)) (.c .y)))))));rw[show n+(m+1)=n+1+m by exact O [] [_,_] (.E (.p .x (.p .y 1)) (.p (.p .x 1) .y))];exact hp
  have ar:∀(Z:List az) (n:Nat) (ae:J) (o6:Option V),n<=5->pH S n Z->gG aA pa ra (b- 180) Z ae->
    bK IR.a8 (aB X (k+7)) (Ss.d 5 IR.xq) [I (.r pa),I S.v,I (.i rm),I (.b qL),I (.r ra),I (.i more),o6,aa] ae (fS Q):=by
   intro Z n ae o6 hn hp x;have hp:pH S 5 Z:=⟨hp.ok,hp.bx,hp.may,hp.bh,by have:=hp.aL;exact(O [] [_,_] (.i (.ag .y 5) (.i (.ag .x (.p 4 (.m 11 .y))) (.ag .x (.p 4 (.m 11 5)))))) hn this,let⟨b,ss,e,g,hl⟩:=hp.zN;⟨b,ss,e,g,by exact(O [] [_,_] (.i (.ag .y 5) (.i (.ag .x .y) (.ag .x 5)))) hn hl⟩⟩
   have nN:=hp.aL;refine x.take T (by exact(O [_] [] (.i (.l 200 .x) (.l 1 (.s .x 180)))) hb) (by decide) λzK ae aU9 x=>?_;have mQ:∀(t:List az) (ae:J),(t=[]\/∃a g,t=[⟨.bD a 10000,ak,0,aa,aa⟩,g]/\lg g aa)->gG aA pa ra (b- 200) (Z++t) ae->
     bK IR.a8 (aB X (k+7)) (Ss.d 7 IR.xq) [I (.r pa),I S.v,I (.i rm),I (.b qL),I (.r ra),I (.i more),o6,I (.i zK)] ae (fS Q):=by
    intro t ae ht x;refine cz (oq x.r) (ret (h _ _ (hp.done ht) ⟨x.le.cT x.nr,x.jl,?_⟩));obtain⟨u,v,e,r1⟩:=x.p.bB;exact⟨u,v,by dsimp only;rw[J.nj x.gS];exact e,r1⟩
   refine mM (λh1=>?_) λh1=>mQ [] ae (.inl rfl) (by rw[dZ];exact x.bI (by exact O [_] [] (.l (.s .x 200) (.s (.s .x 180) 1))));refine FZ T (by decide) λa=>x.add T (by exact(O [] [_] (.i (.ag .x (.p 4 (.m 11 5))) (.ag .x 1000))) nN) (r:=⟨.bD a 10000,ak,0,aa,aa⟩) rfl λae x=>?_;have OS:∀(jY c:aC) (w s so d6:Int) {K:V->J->Prop},(-1000<=w/\w<=1000)->(0<=s/\s<=1000)->(0<=so/\so<=3)->(0<=d6/\d6<=1000)->0<=w- d6->(∀ae,gG aA pa ra (b- 200) (Z++[⟨.bD a 10000,ak,0,aa,aa⟩,⟨.eV c jY 0 w s so d6 112 ak,ak,w- d6,aa,aa⟩]) ae->lg ⟨.eV c jY 0 w s so d6 112 ak,ak,w- d6,aa,aa⟩ aa->K .n ae)->
     aB X (k+7) (.L (.ref 960)) [.r ra,ue c (fK jY w s so d6 0) 112 .n,.b ak,.i (w- d6),.n,.n] ae K:=by
    intro jY c w s so d6 K h1 h2 h3 h4 h5 hK;refine x.add T (by simp;exact(O [] [_] (.i (.ag .x (.p 4 (.m 11 5))) (.ag .x 999))) nN) (r:=⟨.eV c jY 0 w s so d6 112 ak,ak,w- d6,aa,aa⟩) rfl λae x=>hK ae ?_ ⟨⟨⟨h1,h2,h3,h4⟩,rfl,rfl,rfl,λ_ _ _ _ e=>by cases e⟩,rfl,h5,rfl⟩;rw[dK]at x;exact x.bI (by exact O [_] [] (.l (.s .x 200) (.s (.s .x 180) 1)))
   refine cv (λh2=>?_) λh2=>?_
   .refine BZ T (by decide) (by decide) (by decide) (by decide) (by decide) λjY=>B2 T (.inr (by decide)) λc=>iW h2 ?_;exact OS jY c 0 6 1 0 (by decide) (by decide) (by decide) (by decide) (by decide) λae x g=>mQ _ ae (.inr ⟨a,_,rfl,g⟩) x
   .refine BZ T (by decide) (by decide) (by decide) (by decide) (by decide) λjY=>B2 T (.inr (by decide)) λc=>eN h2 ?_;exact OS jY c 2 20 0 1 (by decide) (by decide) (by decide) (by decide) (by decide) λae x g=>mQ _ ae (.inr ⟨a,_,rfl,g⟩) x
  have go:∀m:Int,1<=m/\m<=5->bR (p6 .r (.i m) .n) λxs=>d8 (.cD 6) (bK IR.a8 (aB X (k+7)) IR.FL) xs [I (.r pa),I S.v,I (.i rm),I (.b qL),I (.r ra),I (.i more),aa,aa] ae (nZ (bK IR.a8 (aB X (k+7)) (Ss.d 5 IR.xq)) (fS Q)):=by intro m ax;refine dg (a:=tL 0 m.toNat) ?_ (ny m.toNat 0 0 _ _ ae aa _ (by exact(O [_] [] (.i (.c (.l 1 .x) (.l .x 5)) (.ag (.p 0 (.af .x)) 5))) ax) p0 (by exact O [_] [] (.l (.s (.s .x 20) (.m 30 (.c 0))) (.s (.s (.s .x 6) 6) 1))) x λZ ae o6 hp x=>ar Z (0+m.toNat) ae o6 (by exact(O [_] [] (.i (.c (.l 1 .x) (.l .x 5)) (.ag (.p 0 (.af .x)) 5))) ax) hp (x.bI (by exact(O [_,_] [] (.i (.c (.l 1 .y) (.l .y 5)) (.l (.s .x 180) (.s (.s .x 20) (.m 30 (.p (.c 0) (.c (.af .y)))))))) ax)));show(if _/\_ then _ else _)=_;rw[if_pos (by exact(O [_] [] (.i (.c (.l 1 .x) (.l .x 5)) (.c (.l (.k (-100000)) .x) (.l .x 100000)))) ax)]
  cases qL with
  |true=>exact bF rfl (go 1 (by decide))
  |false=>exact aZ rfl (go (1+more) (by exact(O [_] [] (.i (.c (.l 0 .x) (.t .x 5)) (.c (.l 1 (.p 1 .x)) (.l (.p 1 .x) 5)))) ax))
 refine cv (λcQ=>?_) λcQ=>OQ [] ae (.inl rfl) (x.bI (by exact O [_] [] (.l (.s .x 6) (.s .x 1))));exact vQ T (bx:=aa) x (by exact(O [_] [] (.i (.l 200 .x) (.l 5 (.s .x 1)))) hb) (by simp) λg ae hg x=>OQ [g] ae (.inr ⟨g,rfl,hg⟩) (x.bI (by exact O [_] [] (.l (.s .x 6) (.s (.s .x 1) 5))))
def jy(Z:List az):V:=.l (Z.map az.v)
def ic(Z:List az):Prop:=∀r∈Z,ml r
theorem ic.at{Z:List az}(h:ic Z){p:Nat}{r:az}(e:Z[p]?=I r):ml r:=h r (fJ e)
noncomputable def lI(Z:List az)(bw p:Nat):Nat:=p+(((Z.drop p).take (bw- p)).takeWhile λr=> !r.k9).length
theorem xO{Z:List az}{bw p:Nat}(h:bw<=p\/∀r,Z[p]?=I r->r.k9=ai):lI Z bw p=p:=by
 unfold lI;cases e:(Z.drop p).take (bw- p)with
 |nil=>rfl
 |cons r l=>
  rcases h with h|h
  .rw[show bw- p=0 by exact(O [] [_,_] (.i (.ag .x .y) (.E (.s .x .y) 0))) h]at e;cases e
  .have:Z[p]?=I r:=by
    have h1:((Z.drop p).take (bw- p))[0]?=I r:=by rw[e];rfl
    rw[List.getElem?_take]at h1;split at h1
    .simpa using h1
    .cases h1
   rw[nG,h r this];rfl
theorem OT{Z:List az}{bw p:Nat}{r:az}(hp:p<bw)(e:Z[p]?=I r)(hs:r.k9=ak):lI Z bw p=lI Z bw (p+1):=by unfold lI;obtain⟨hl,bz⟩:=List.getElem?_eq_some_iff.mp e;rw[Kx hl,bz,show bw- p=(bw- (p+1))+1 by exact(O [] [_,_] (.i (.U .y .x) (.E (.s .x .y) (.p (.s .x (.p .y 1)) 1)))) hp,ap2,nG,hs];simp only[Bool.not_false,if_true,iw];exact O [] [_,_] (.E (.p .x (.p .y 1)) (.p (.p .x 1) .y))
theorem CF{Z:List az}{bw p:Nat}(h:p<=bw):p<=lI Z bw p/\lI Z bw p<=bw:=by unfold lI;have h1:=(ae5 (λr:az=> !r.k9) (l:=(Z.drop p).take (bw- p))).length_le;rw[vO]at h1;exact(O [] [_,_,_,_] (.i (.ag .x .u) (.i (.ag .y (.i (.s .u .x) .w)) (.c (.ag .x (.p .x .y)) (.ag (.p .x .y) .u))))) h h1
noncomputable def ux:Option Nat->Int
 |none=> -1
 |some a=>a
noncomputable def gW(Z:List az):Option Nat->List Sh
 |none=>[]
 |some a=>match Z[a]? with
  |some r=>r.n.uf
  |none=>[]
noncomputable def hB(Z:List az)(p:Nat):List Sh:=match Z[p]? with
 |some r=>r.n.gS
 |none=>[]
def hE(Z:List az)(bw:Nat):Option Nat->Nat
 |none=>0
 |some a=>match Z[a]? with
  |some r=>if r.n.gU=ai then(if gW Z (I a)=[]then lI Z bw (a+1)else a+1)else lI Z bw a
  |none=>0
noncomputable def jQ(Z:List az)(a b:Nat):List az:=(Z.drop a).take (b- a)
def mR(Z:List az)(g:Int)(aG:Option Nat)(bw:Nat):Int:=g+cH (gW Z aG)+eP (jQ Z (hE Z bw aG) bw)+cH (hB Z bw)
theorem ap3{Z:List az}{bw:Nat}{aG:Option Nat}(h:∀a,aG=I a->a<bw):hE Z bw aG<=bw:=by
 cases aG with
 |none=>exact jW _
 |some a=>
  have:=h a rfl;unfold hE;dsimp only;cases Z[a]? with
  |none=>exact jW _
  |some r=>
   dsimp only;split
   .split
    .exact(CF this).2
    .exact this
   .exact(CF (A9 this)).2
theorem OU{aK:Type}{f:aK->V}{l:List aK}{a b:Nat}(ha:a<=l.length)(hb:b<=l.length):pW (l.map f) (bound (a:Int) (l.map f).length) (bound (b:Int) (l.map f).length)=((l.drop a).take (b- a)).map f:=by rw[cm,Cw ha,Cw hb];unfold pW;rw[<- Ox,<- zI]
theorem ap4(T:Top X){Z:List az}{g:Int}{aG:Option Nat}{bw:Nat}(hr:ic Z)(ha:∀a,aG=I a->a<bw)(hp:bw<=Z.length)(h:Q (.i (mR Z g aG bw)) G):aB X (k+1) (.L (.ref 1016)) [jy Z,.i g,.i (ux aG),.i bw] G Q:=by
 refine ab2 T rfl ⟨rfl,?_⟩;unfold mR at h;have ar:∀(o2:Option V) (f:Int) (o4 o6 o7:Option V),Q (.i (f+cH (hB Z bw))) G->bK IR.a8 (aB X k) (Ss.d 3 IR.zj) [I (jy Z),I (.i g),o2,I (.i bw),o4,I (.i f),o6,o7] G (fS Q):=by
  intro o2 f o4 o6 o7 h;cases e:Z[bw]? with
  |none=>
   have:=List.getElem?_eq_none_iff.mp e;have e2:hB Z bw=[]:=by unfold hB;rw[e]
   rw[e2,show cH []=0 from rfl,fW]at h;exact eN (by rw[cm];exact(O [] [_,_] (.i (.ag .x .y) (.i (.ag .y .x) (.n (.t (.c .x) (.c .y)))))) hp this) (aZ rfl (ret h))
  |some r=>
   have hl:=(List.getElem?_eq_some_iff.mp e).1;have ro:=hr.at e;have et:=ro.qF;refine iW (by rw[cm];exact(O [] [_,_] (.i (.U .x .y) (.t (.c .x) (.c .y)))) hl) ?_;by_cases aF:r.n.gU=ai
   .obtain⟨a,p,q,m,en⟩:∃a p q m,r.n=.dt a p q m:=by
     cases en:r.n<;>rw[en]at aF<;>first|exact⟨_,_,_,_,rfl⟩|cases aF
    have e2:hB Z bw=p:=by unfold hB;rw[e];dsimp only;rw[en]
    have e3:r.qF=I (cH p,cH q):=by rw[et,en];rfl
    rw[e2]at h;obtain⟨rn,aQ,rl,lJ,rt⟩:=r;obtain rfl:rt=I (cH p,cH q):=e3;exact dg (iJ e) (bF rfl (dg (iJ e) (ret h)))
   .have e2:hB Z bw=[]:=by
     unfold hB;rw[e];dsimp only;cases en:r.n<;>first|rfl|(rw[en]at aF;exact absurd rfl aF)
    have e3:r.qF=none:=by rw[et];cases en:r.n<;>first|rfl|(rw[en]at aF;exact absurd rfl aF)
    rw[e2,show cH []=0 from rfl,fW]at h;obtain⟨rn,aQ,rl,lJ,rt⟩:=r;obtain rfl:rt=none:=e3;exact dg (iJ e) (aZ rfl (ret h))
 have j0:∀(o2:Option V) (first:Nat) (f:Int) (o6:Option V),first<=bw->Q (.i (f+eP (jQ Z first bw)+cH (hB Z bw))) G->bK IR.a8 (aB X k) (Ss.d 2 IR.zj) [I (jy Z),I (.i g),o2,I (.i bw),I (.i first),I (.i f),o6,aa] G (fS Q):=by
  intro o2 first f o6 aT h
  have ny:∀(l:List az) (f:Int) (o7:Option V) (R:Fl->ay->J->Prop),(∀o7,R .n [I (jy Z),I (.i g),o2,I (.i bw),I (.i first),I (.i (f+eP l)),o6,o7] G)->
    d8 (.cD 7) (bK IR.a8 (aB X k) IR.MQ) (l.map az.v) [I (jy Z),I (.i g),o2,I (.i bw),I (.i first),I (.i f),o6,o7] G R:=by
   intro l;induction l with
   |nil=>intro f o7 R hR;have:=hR o7;rw[eP,fW]at this;exact this
   |cons r l ih=>exactλf o7 R hR=>ih (f+r.a9) _ R λo7=>by have:=hR o7;rw[an2,<- nR]at this;exact this
  have:=ny (jQ Z first bw) f aa ((nZ (bK IR.a8 (aB X k) (Ss.d 3 IR.zj)) (fS Q))) λo7=>ar _ _ _ _ _ h;have e:pW (Z.map az.v) (bound (first:Int) (Z.map az.v).length) (bound (bw:Int) (Z.map az.v).length)=(jQ Z first bw).map az.v:=OU (by exact(O [] [_,_,_] (.i (.ag .u .y) (.i (.ag .x .u) (.ag .x .y)))) hp aT) hp;rw[<- e]at this;exact this
 have skip:∀(o2:Option V) (m p:Nat) (o6 o7:Option V) (R:Fl->ay->J->Prop),bw- p<=m->R .n [I (jy Z),I (.i g),o2,I (.i bw),I (.i (lI Z bw p)),I (.i g),o6,o7] G->
   p7 (ct IR.a8 (aB X k) IR.MO) (bK IR.a8 (aB X k) IR.MP) (m+1) [I (jy Z),I (.i g),o2,I (.i bw),I (.i p),I (.i g),o6,o7] G R:=by
  intro o2 m;induction m with
  |zero=>intro p o6 o7 R ax hR;rw[xO (.inl (by exact(O [] [_,_] (.i (.ag (.s .x .y) 0) (.ag .x .y))) ax))]at hR;exact eN (by exact(O [] [_,_] (.i (.ag (.s .y .x) 0) (.n (.t (.c .x) (.c .y))))) ax) (aZ rfl hR)
  |succ m ih=>
   intro p o6 o7 R ax hR;by_cases oD:p<bw
   .obtain⟨r,e⟩:∃r,Z[p]?=I r:=⟨_,rj (by exact(O [] [_,_,_] (.i (.ag .u .y) (.i (.U .x .u) (.U .x .y)))) hp oD)⟩
    refine iW (by exact(O [] [_,_] (.i (.U .x .y) (.t (.c .x) (.c .y)))) oD) (dg (iJ e) ?_);cases hs:r.k9 with
    |true=>
     rw[xO (.inr λdG bz=>by rw[e]at bz;cases bz;exact hs)]at hR;exact aZ (by show(!r.k9)=ak;rw[hs];rfl) hR
    |false=>rw[OT oD e hs]at hR;exact bF (by show(!r.k9)=ai;rw[hs];rfl) (ih (p+1) o6 o7 R (by exact(O [] [_,_,_] (.i (.ag (.s .x .y) (.p .u 1)) (.i (.U .y .x) (.ag (.s .x (.p .y 1)) .u)))) ax oD) hR)
   .rw[xO (.inl (by exact(O [] [_,_] (.i (.n (.U .y .x)) (.ag .x .y))) oD))]at hR;exact eN (by exact(O [] [_,_] (.i (.n (.U .x .y)) (.n (.t (.c .x) (.c .y))))) oD) (aZ rfl hR)
 cases aG with
 |none=>refine aZ rfl (j0 _ 0 g aa (jW _) ?_);rw[show cH (gW Z aa)=0 from rfl,fW]at h;exact h
 |some a=>
  have eO:=ha a rfl;obtain⟨r,e⟩:∃r,Z[a]?=I r:=⟨_,rj (by exact(O [] [_,_,_] (.i (.ag .u .y) (.i (.U .x .u) (.U .x .y)))) hp eO)⟩
  have ro:=hr.at e;have et:=ro.qF;refine iW (wC a) ?_;by_cases aF:r.n.gU=ai
  .obtain⟨cY,p,q,m,en⟩:∃a p q m,r.n=.dt a p q m:=by
    cases en:r.n<;>rw[en]at aF<;>first|exact⟨_,_,_,_,rfl⟩|cases aF
   have e2:gW Z (I a)=q:=by unfold gW;dsimp only;rw[e];dsimp only;rw[en]
   have e3:r.qF=I (cH p,cH q):=by rw[et,en];rfl
   have tq:=(ro.dt cY p q m en).2.1;rw[e2]at h;obtain⟨rn,aQ,rl,lJ,rt⟩:=r;obtain rfl:rt=I (cH p,cH q):=e3;refine dg (iJ e) (aZ rfl (bF rfl ?_));refine cv (λh1=>?_) λh1=>?_
   .refine j0 _ (a+1) (g+cH q) _ (by exact(O [] [_,_] (.i (.U .x .y) (.ag (.p .x 1) .y))) eO) ?_;have:hE Z bw (I a)=a+1:=by
     unfold hE;dsimp only;rw[e];dsimp only;rw[if_pos aF,e2,if_neg (λeq=>by rw[eq]at h1;exact absurd h1 (Int.lt_irrefl 0))]
    rw[this]at h;exact h
   .have q0:q=[]:=tq.nil (by have:=tq.rN;omega);refine⟨bw+1,skip _ bw (a+1) _ _ _ (by exact(O [] [_,_] (.i (.U .y .x) (.ag (.s .x (.p .y 1)) .x))) eO) (j0 _ _ g _ (CF (by exact(O [] [_,_] (.i (.U .x .y) (.ag (.p .x 1) .y))) eO)).2 ?_)⟩;have:hE Z bw (I a)=lI Z bw (a+1):=by
     unfold hE;dsimp only;rw[e];dsimp only;rw[if_pos aF,e2,if_pos q0]
    rw[this,q0,show cH []=0 from rfl,fW]at h;exact h
  .have e2:gW Z (I a)=[]:=by
    unfold gW;dsimp only;rw[e];dsimp only;cases en:r.n<;>first|rfl|(rw[en]at aF;exact absurd rfl aF)
   have e3:r.qF=none:=by rw[et];cases en:r.n<;>first|rfl|(rw[en]at aF;exact absurd rfl aF)
   obtain⟨rn,aQ,rl,lJ,rt⟩:=r;obtain rfl:rt=none:=e3;refine dg (iJ e) (bF rfl (aZ rfl (aZ rfl ?_)));refine⟨bw+1,skip _ bw a _ _ _ (by exact(O [] [_,_] (.i (.U .y .x) (.ag (.s .x .y) .x))) eO) (j0 _ _ g _ (CF (by exact(O [] [_,_] (.i (.U .x .y) (.ag .x .y))) eO)).2 ?_)⟩;have:hE Z bw (I a)=lI Z bw a:=by unfold hE;dsimp only;rw[e];dsimp only;rw[if_neg aF]
   rw[this,e2,show cH []=0 from rfl,fW]at h;exact h
def dy(Z:List az)(aG:Option Nat)(bw:Nat):List Nd:=(gW Z aG).map .sh++(jQ Z (hE Z bw aG) bw).map (·.n)++(hB Z bw).map .sh
def lj(Z:List az)(aG:Option Nat)(bw:Nat):Int:=(hE Z bw aG:Int)- (gW Z aG).length
theorem OV(e:Z[a]?=I r)(en:r.n=.dt cY p q m):gW Z (I a)=q:=by unfold gW;dsimp only;rw[e];dsimp only;rw[en]
theorem ap5(e:Z[a]?=I r)(aF:r.n.gU=ak):gW Z (I a)=[]:=by unfold gW;dsimp only;rw[e];dsimp only;cases en:r.n<;>first|rfl|(rw[en]at aF;cases aF)
theorem OW{n:Nd}(h:n.gU=ai):∃a p q m,n=.dt a p q m:=by cases n<;>first|exact⟨_,_,_,_,rfl⟩|cases h
theorem GV{n:Nd}(hg:n.cO):n.kind=8↔n.gU=true:=by
 cases n with
 |sh s=>have:=Sh.sV hg;exact⟨λh=>by have:s.kind=8:=h;exact tT ((O [_] [] (.i (.l .x 5) (.i (.e .x 8) .o))) ‹_› this),λh=>by cases h⟩
 |_=>exact of_decide_eq_true rfl
theorem OX(hr:ic Z)(aG:Option Nat):(gW Z aG).length<=2:=by
 cases aG with
 |none=>exact jW _
 |some a=>
  unfold gW;dsimp only;cases e:Z[a]? with
  |none=>exact jW _
  |some r=>exact(Nd.B7 (hr.at e).cO).2
theorem OY(hr:ic Z)(p:Nat):(hB Z p).length<=2:=by
 unfold hB;cases e:Z[p]? with
 |none=>exact jW _
 |some r=>exact(Nd.B6 (hr.at e).cO).2
theorem ap6(T:Top X){Z:List az}{aG:Option Nat}{bw:Nat}(hr:ic Z)(hl:Z.length<=1000)(ha:∀a,aG=I a->a<bw)(hp:bw<=Z.length)(h:Q (.aV [dn (dy Z aG bw),.i (lj Z aG bw)]) G):aB X (k+1) (.L (.ref 1026)) [jy Z,.i (ux aG),.i bw] G Q:=by
 refine ab4 T rfl ⟨rfl,?_⟩;have fl:hE Z bw aG<=bw:=ap3 ha;have ap7:dn (dy Z aG bw)=.l ((gW Z aG).map Sh.v++(jQ Z (hE Z bw aG) bw).map (λr=>r.n.v)++(hB Z bw).map Sh.v):=by unfold dn dy;rw[gk,gk,Cy,Cy,l8];rfl
 have ar:∀(o2:Option V) (ag:List V) (dD:Int) (o4 o6:Option V),ag.length<=2000->ag=(gW Z aG).map Sh.v++(jQ Z (hE Z bw aG) bw).map (λr=>r.n.v)->dD=lj Z aG bw->
   bK IR.a8 (aB X k) (Ss.d 4 IR.zk) [I (jy Z),o2,I (.i bw),I (.l ag),o4,I (.i dD),o6] G (fS Q):=by
  intro o2 ag dD o4 o6 hL ap8 eo;rw[ap7,<- ap8]at h;subst eo;cases e:Z[bw]? with
  |none=>
   have:=List.getElem?_eq_none_iff.mp e;have e2:hB Z bw=[]:=by unfold hB;rw[e]
   rw[e2,w3,dZ]at h;exact eN (by rw[cm];exact(O [] [_,_] (.i (.ag .x .y) (.i (.ag .y .x) (.n (.t (.c .x) (.c .y)))))) hp this) (aZ rfl (ret h))
  |some r=>
   have nN:=(List.getElem?_eq_some_iff.mp e).1;have ro:=hr.at e;refine iW (by rw[cm];exact(O [] [_,_] (.i (.U .x .y) (.t (.c .x) (.c .y)))) nN) (dg (iJ e) (qs r.n ?_));refine cv (λh1=>?_) λh1=>?_
   .obtain⟨a,p,q,m,en⟩:=OW ((GV ro.cO).mp h1);have e2:hB Z bw=p:=by unfold hB;rw[e];dsimp only;rw[en]
    rw[e2]at h;have nN:=OY hr bw;rw[e2]at nN;refine cps λG0 g0=>?_;obtain⟨rn,aQ,rl,lJ,rt⟩:=r;obtain rfl:rn=.dt a p q m:=en;refine g0 ?_;clear g0;exact dg (iJ e) ⟨⟨by rw[cm];simp[cK];exact(O [] [_,_] (.i (.ag .x 2000) (.i (.ag .y 2) (.ag (.p .x .y) 100000)))) hL nN⟩,ret h⟩
   .have e2:hB Z bw=[]:=by
     unfold hB;rw[e];dsimp only;cases en:r.n<;>first|rfl|(rw[en]at h1;exact absurd rfl h1)
    rw[e2,w3,dZ]at h;exact ret h
 have j0:∀(o2:Option V) (first:Nat) (av:List V) (o6:Option V),first=hE Z bw aG->av=(gW Z aG).map Sh.v->bK IR.a8 (aB X k) (Ss.d 2 IR.zk) [I (jy Z),o2,I (.i bw),I (.l av),I (.i first),aa,o6] G (fS Q):=by
  rintro o2 first av o6 rfl rfl
  have c:=vG (G:=G) (f:=cF (.cD 6) (r9 IR.a8 (aB X k) .n) (ct IR.a8 (aB X k) IR.MY) [I (jy Z),o2,I (.i bw),I (.l ((gW Z aG).map Sh.v)),I (.i (hE Z bw aG)),I (.i ((hE Z bw aG:Int)- ((gW Z aG).map Sh.v).length)),o6])
   (Q:=λvs G=>nX (((gW Z aG).map Sh.v).length+vs.length)/\bK IR.a8 (aB X k) (Ss.d 4 IR.zk) [I (jy Z),o2,I (.i bw),I (.l ((gW Z aG).map Sh.v++vs)),I (.i (hE Z bw aG)),I (.i ((hE Z bw aG:Int)- ((gW Z aG).map Sh.v).length)),o6] G (fS Q))
   az.v (λr=>r.n.v) (jQ Z (hE Z bw aG) bw) (λr hr R hR=>bF rfl hR) ?_
  .have e:pW (Z.map az.v) (bound ((hE Z bw aG:Nat):Int) (Z.map az.v).length) (bound (bw:Int) (Z.map az.v).length)=(jQ Z (hE Z bw aG) bw).map az.v:=OU (by exact(O [] [_,_,_] (.i (.ag .u .y) (.i (.ag .x .u) (.ag .x .y)))) hp fl) hp;rw[<- e]at c;exact c
  .have l1:=OX hr aG;have l2:(jQ Z (hE Z bw aG) bw).length<=1000:=by unfold jQ;rw[vO,vJ];exact(O [] [_,_,_] (.i (.ag .u 1000) (.i (.ag .x .u) (.i (.ag .y .x) (.ag (.i (.s .x .y) (.s .u .y)) 1000))))) hl hp fl
   refine⟨⟨by rw[cm,cm];simp[cK];exact(O [] [_,_] (.i (.ag .x 2) (.i (.ag .y 1000) (.ag (.p .x .y) 100000)))) l1 l2⟩,ar _ _ _ _ _ ?_ rfl ?_⟩
   .rw[fQ,cm,cm];exact(O [] [_,_] (.i (.ag .x 2) (.i (.ag .y 1000) (.ag (.p .x .y) 2000)))) l1 l2
   .unfold lj;rw[cm]
 have skip:∀(o2:Option V) (m p:Nat) (o5 o6:Option V) (R:Fl->ay->J->Prop),bw- p<=m->R .n [I (jy Z),o2,I (.i bw),I (.l []),I (.i (lI Z bw p)),o5,o6] G->
   p7 (ct IR.a8 (aB X k) IR.MV) (bK IR.a8 (aB X k) IR.MX) (m+1) [I (jy Z),o2,I (.i bw),I (.l []),I (.i p),o5,o6] G R:=by
  intro o2 m;induction m with
  |zero=>intro p o5 o6 R ax hR;rw[xO (.inl (by exact(O [] [_,_] (.i (.ag (.s .x .y) 0) (.ag .x .y))) ax))]at hR;exact bF rfl (eN (by exact(O [] [_,_] (.i (.ag (.s .y .x) 0) (.n (.t (.c .x) (.c .y))))) ax) (aZ rfl hR))
  |succ m ih=>
   intro p o5 o6 R ax hR;by_cases oD:p<bw
   .obtain⟨r,e⟩:∃r,Z[p]?=I r:=⟨_,rj (by exact(O [] [_,_,_] (.i (.ag .u .y) (.i (.U .x .u) (.U .x .y)))) hp oD)⟩
    refine bF rfl (iW (by exact(O [] [_,_] (.i (.U .x .y) (.t (.c .x) (.c .y)))) oD) (dg (iJ e) ?_));cases hs:r.k9 with
    |true=>
     rw[xO (.inr λdG bz=>by rw[e]at bz;cases bz;exact hs)]at hR;exact aZ (by show(!r.k9)=ak;rw[hs];rfl) hR
    |false=>rw[OT oD e hs]at hR;exact bF (by show(!r.k9)=ai;rw[hs];rfl) (ih (p+1) o5 o6 R (by exact(O [] [_,_,_] (.i (.ag (.s .x .y) (.p .u 1)) (.i (.U .y .x) (.ag (.s .x (.p .y 1)) .u)))) ax oD) hR)
   .rw[xO (.inl (by exact(O [] [_,_] (.i (.n (.U .y .x)) (.ag .x .y))) oD))]at hR;exact bF rfl (eN (by exact(O [] [_,_] (.i (.n (.U .x .y)) (.n (.t (.c .x) (.c .y))))) oD) (aZ rfl hR))
 cases aG with
 |none=>exact aZ rfl (vH (j0 _ 0 [] aa rfl rfl))
 |some a=>
  have eO:=ha a rfl;refine cps λG0 g0=>?_;obtain⟨r,e⟩:∃r,Z[a]?=I r:=⟨_,rj (by exact(O [] [_,_,_] (.i (.ag .u .y) (.i (.U .x .u) (.U .x .y)))) hp eO)⟩
  refine g0 ?_;clear g0;have ro:=hr.at e;refine iW (wC a) (dg (iJ e) (qs r.n ?_));refine cv (λh1=>?_) λh1=>?_
  .have aF:=(GV ro.cO).mp h1;refine cps λG0 g0=>?_;obtain⟨cY,p,q,m,en⟩:=OW aF;have e2:gW Z (I a)=q:=OV e en;have ef:hE Z bw (I a)=if q=[]then lI Z bw (a+1)else a+1:=by
    unfold hE;dsimp only;rw[e];dsimp only;rw[if_pos aF,e2]
   obtain⟨rn,aQ,rl,lJ,rt⟩:=r;obtain rfl:rn=.dt cY p q m:=en;refine g0 ?_;clear g0;refine dg (iJ e) ⟨rfl,?_⟩;cases q with
   |nil=>
    refine⟨bw+1,skip _ bw (a+1) _ _ _ (by exact(O [] [_,_] (.i (.U .y .x) (.ag (.s .x (.p .y 1)) .x))) eO) (nx (vH (j0 _ _ _ _ ?_ ?_)))⟩
    .rw[ef,if_pos rfl]
    .rw[e2];rfl
   |cons s q=>
    refine⟨1,aZ rfl (aZ rfl (nx (vH (j0 _ (a+1) _ _ ?_ ?_))))⟩
    .rw[ef,if_neg ((of_decide_eq_true rfl))]
    .rw[e2]
  .have aF:r.n.gU=false:=by
    cases aF:r.n.gU with
    |true=>exact absurd ((GV ro.cO).mpr aF) h1
    |false=>rfl
   refine⟨bw+1,skip _ bw a _ _ _ (by exact(O [] [_,_] (.i (.U .y .x) (.ag (.s .x .y) .x))) eO) (nx (vH (j0 _ _ _ _ ?_ ?_)))⟩
   .unfold hE;dsimp only;rw[e];dsimp only;rw[if_neg (by rw[aF];decide)]
   .rw[ap5 e aF];rfl
structure gX where
 Z:List az
 S:bk
 size:Int
 bU:Int
 gY:List Nat
 oE:List (Int×Int)
 oF:List (Int×Int)
noncomputable def fU(l:List Nat):V:=.l (l.map λp:Nat=>.i p)
def dV(l:List (Int×Int)):V:=.dk (l.map (·.1)) (lV l)
def gX.v(t:gX):V:=.mE [33,52,23,36,66,65,64] [jy t.Z,t.S.v,.i t.size,.i t.bU,fU t.gY,dV t.oE,dV t.oF]
def gX.bx(t:gX)(p:Int):Int:=(bJ t.oE p).getD 0
def gX.bB(t:gX)(p:Int):Int:=(bJ t.oF p).getD 0
noncomputable def pI(lp:Int):List (Int×Int)->Int
 |[]=>0
 |r::aQ=>(if 10000<=((lp+r.2).natAbs:Int)then 10^(8:Int).toNat else(lp+r.2)*(lp+r.2))+pI lp aQ
theorem OZ:pI lp []=(0):=rfl
theorem ap9:pI lp (r::aQ)=((if 10000<=((lp+r.2).natAbs:Int)then 10^(8:Int).toNat else(lp+r.2)*(lp+r.2))+pI lp aQ):=rfl
noncomputable def uy(t:gX):List Int->Int
 |[]=>0
 |p::ps=>(if-10000<t.bx p then t.bx p*(t.bx p).natAbs else 0)+uy t ps
theorem O0:uy t []=(0):=rfl
theorem aq0:uy t (p::ps)=((if-10000<t.bx p then t.bx p*(t.bx p).natAbs else 0)+uy t ps):=rfl
def xP(t:gX)(aQ:List (Int×Int))(eC:List Int):Int:=pI t.S.lp aQ+uy t eC
theorem aq1(q:R (.i ((bJ l g).getD d))):wJ G (dV l) [.i g,.i d] R:=by refine⟨?_⟩;show R ((iR (l.map (·.1)) (lV l) g).getD (.i d));rw[Ce];cases e:bJ l g<;>rw[e]at q<;>exact q
theorem O1(T:Top X)(hc:∀p,-100000<=t.bx p/\t.bx p<=100000)(h:Q (.i (xP t aQ eC)) G):aB X (k+1) (.L (.ref 1033)) [t.v,.l (aQ.map gy),.l (eC.map .i)] G Q:=by
 refine ab5 T rfl ?_;have nS:∀(m:List Int) (f:Int) (b d e g:Option V) (R:Fl->ay->J->Prop),(∀e g,R .n [I t.v,I (.l (aQ.map gy)),I (.l (eC.map .i)),I (.i (f+uy t m)),b,d,e,g] G)->
   d8 (.cD 6) (bK IR.a8 (aB X k) IR.M0) (m.map .i) [I t.v,I (.l (aQ.map gy)),I (.l (eC.map .i)),I (.i f),b,d,e,g] G R:=by
  intro m;induction m with
  |nil=>intro f b d e g R a;have:=a e g;rw[O0,fW]at this;exact this
  |cons p m q=>
   intro f b d e g R a;have s:=hc p;have u:=λf e g=>q f b d e g R;simp only[O0,aq0,<- nR]at a;refine⟨trivial,aq1 ?_⟩;show jB _ _ _;refine cv (λj=>⟨kF (by show-(2^64)<t.bx p;exact(O [_] [] (.i (.c (.l (.k (-100000)) .x) (.l .x 100000)) (.t (.k (-2^64)) .x))) s) (by show t.bx p<2^64;exact(O [_] [] (.i (.c (.l (.k (-100000)) .x) (.l .x 100000)) (.t .x (.k (2^64))))) s),?_⟩) λj=>?_
   .rw[if_pos (show-10000<t.bx p from j)]at a;exact u _ _ _ a
   .rw[if_neg (show¬-10000<t.bx p from j),fW]at a;exact u _ _ _ a
 have cD:∀(o:List (Int×Int)) (f:Int) (b d:Option V) (R:Fl->ay->J->Prop),(∀b d,R .n [I t.v,I (.l (aQ.map gy)),I (.l (eC.map .i)),I (.i (f+pI t.S.lp o)),b,d,aa,aa] G)->
   d8 (.cD 4) (bK IR.a8 (aB X k) IR.MZ) (o.map gy) [I t.v,I (.l (aQ.map gy)),I (.l (eC.map .i)),I (.i f),b,d,aa,aa] G R:=by
  intro o;induction o with
  |nil=>intro f b d R a;have:=a b d;rw[OZ,fW]at this;exact this
  |cons r o q=>
   intro f b d R a;simp only[OZ,ap9,<- nR]at a;refine cv (λj=>⟨zJ (by decide),?_⟩) λj=>⟨kF (by exact(O [_,_] [] (.i (.n (.l 10000 (.c (.n (.p .x .y))))) (.t (.k (-2^64)) (.p .x .y)))) j) (by exact(O [_,_] [] (.i (.n (.l 10000 (.c (.n (.p .x .y))))) (.t (.p .x .y) (.k (2^64))))) j),?_⟩
   .rw[if_pos j]at a;exact q _ _ _ R a
   .rw[if_neg j]at a;exact q _ _ _ R a
 refine cD aQ 0 aa aa _ λb d=>nS eC _ b d aa aa _ λe g=>ret ?_;unfold xP at h;rw[mB];exact h
theorem O2(T:Top X)(h:Q (.b ai) G):aB X (k+1) (.L (.ref 932)) [dn ns,dn ns] G Q:=by
 refine aa0 T rfl (BS rfl ?_);have key:∀(l:List Nd) (o2 o3:Option V) (R:Fl->ay->J->Prop),(∀o2 o3,R .n [I (dn ns),I (dn ns),o2,o3] G)->d8 (.fG [2,3]) (bK IR.a8 (aB X k) IR.MG) (qY (l.map Nd.v) (l.map Nd.v)) [I (dn ns),I (dn ns),o2,o3] G R:=by
  intro l;induction l with
  |nil=>exactλo2 o3 R hR=>hR o2 o3
  |cons n l ih=>
   intro o2 o3 R hR;refine⟨rfl,?_⟩;have e:Ay n.v n.v=I true:=by refine cps λG0 g0=>?_;obtain⟨a,C,ns,ao,e⟩:=n.uT;refine g0 ?_;clear g0;rw[e];show I (a6 (a=a))=_;rw[decide_eq_true rfl]
   refine cps λG0 g0=>?_;obtain⟨a,C,JB,ao,bz⟩:=n.uT;refine g0 ?_;clear g0;have:=ih (I n.v) (I n.v) R hR;rw[bz]at this⊢;exact aZ (by show(!a6 (a=a))=ak;rw[decide_eq_true rfl];rfl) this
 exact key ns aa aa _ λo2 o3=>ret h
theorem zO(g r:aK->V)(c:aK->Bool)(xs:List aK)(h:∀x∈xs,∀R:Option V->J->Prop,(c x=ai->R (I (r x)) G)->(c x=ak->R aa G)->f (g x) G R)(q:mS ((xs.filter c).map r) G):kR f (xs.map g) [] G mS:=by
 have key:∀(xs:List aK) (a:List V),(∀x∈xs,∀R:Option V->J->Prop,(c x=ai->R (I (r x)) G)->(c x=ak->R aa G)->f (g x) G R)->mS (a++(xs.filter c).map r) G->kR f (xs.map g) a G mS:=by
  intro xs;induction xs with
  |nil=>intro a _ q;rw[Cs,w3,dZ]at q;exact q
  |cons x xs e=>
   intro a h q;have d:=λa=>e a λy i=>h y (.tail _ i);refine h x (.head _) _ (λb=>d _ ?_) λb=>d _ ?_
   .rw[s6,if_pos b]at q;rw[dK];exact q
   .rw[s6,if_neg (by rw[b];decide)]at q;exact q
 exact key xs [] h q
noncomputable def i5(t:gX)(aG:Int)(p:Nat):List Nat:=t.gY.filter λq=>a6 (aG<q)&&a6 ((q:Int)<p)
noncomputable def rT(t:gX):Int->List Nat->List (Int×Int)->Prop
 |aG,[],[]=>∃l,t.gY=l++[aG.toNat]/\0<=aG
 |aG,p::ps,r::aQ=>(p∈t.gY/\aG<p)/\(∀q∈i5 t aG p,-10000<t.bx q)/\((∀q∈i5 t aG p++[p],t.bB q<=0)->r.1≠3)/\(¬(∀q∈i5 t aG p++[p],t.bB q<=0)->i5 t aG p=[]/\r=(3,t.bB p))/\rT t p ps aQ
 |_,_,_=>False
theorem CG(h:bJ l i=I v):r8 G (dV l) (.i i)=I (.i v):=by show iR (l.map (·.1)) (lV l) i=_;rw[Ce,h];rfl
theorem filter_nil{aK:Type}{c:aK->Bool}{l:List aK}:(l.filter c).isEmpty=a6 (∀x∈l,c x=ak):=by
 induction l with
 |nil=>simp
 |cons x l ih=>cases h:c x<;>simp[s6,h]at ih⊢<;>simpa using ih
theorem aq2(T:Top X){t:gX}{ps:List Nat}{aQ:List (Int×Int)}(hl:t.gY.length<=1000)(hc:∀q∈t.gY,(bJ t.oE q).isSome=ai/\(bJ t.oF q).isSome=ai)(fh:ps.length=aQ.length)(vR:rT t (-1) ps aQ)(h:Q (.b ai) G):aB X (k+1) (.L (.ref 1021)) [t.v,fU ps,.l (aQ.map gy)] G Q:=by
 refine ab3 T rfl ⟨rfl,?_⟩;have aq3:∀p:Nat,p∈t.gY->yj (.i p) (fU t.gY)=I true:=by intro p hp;exact(congrArg (Nw λb:List Int=>a6 ((p:Int)∈b)) (zp (λp:Nat=>(p:Int)) t.gY)).trans (congrArg I (decide_eq_true (List.mem_map.mpr ⟨p,hp,rfl⟩)))
 have aq4:∀{q:Nat},q∈t.gY->bJ t.oE q=I (t.bx q):=λhq=>by
  obtain⟨v,e⟩:=Option.isSome_iff_exists.mp (hc _ hq).1;unfold gX.bx;rw[e];rfl
 have O3:∀{q:Nat},q∈t.gY->bJ t.oF q=I (t.bB q):=λhq=>by
  obtain⟨v,e⟩:=Option.isSome_iff_exists.mp (hc _ hq).2;unfold gX.bB;rw[e];rfl
 have key:∀(lz:List Nat) (j2:List (Int×Int)) (aG:Int) (o7 o8 o9:Option V) (R:Fl->ay->J->Prop),rT t aG lz j2->
   (∀aG o7 o8 o9,rT t aG [] []->R .n [I t.v,I (fU ps),I (.l (aQ.map gy)),I (fU t.gY),I (dV t.oE),I (dV t.oF),I (.i aG),o7,o8,o9,aa,aa,aa] G)->
   d8 (.fG [7,8]) (bK IR.a8 (aB X k) IR.uc) (qY (lz.map λp:Nat=>.i p) (j2.map gy)) [I t.v,I (fU ps),I (.l (aQ.map gy)),I (fU t.gY),I (dV t.oE),I (dV t.oF),I (.i aG),o7,o8,o9,aa,aa,aa] G R:=by
  intro lz;induction lz with
  |nil=>
   intro j2 aG o7 o8 o9 R vR hR;cases j2 with
   |nil=>exact hR aG o7 o8 o9 vR
   |cons=>exact vR.elim
  |cons p lz ih=>
   intro j2 aG o7 o8 o9 R vR hR;cases j2 with
   |nil=>exact vR.elim
   |cons r j2=>
    refine cps λG0 g0=>?_;obtain⟨⟨hp,iV⟩,h1,h2,h3,h4⟩:=vR;refine g0 ?_;clear g0;refine⟨rfl,aZ rfl (aZ rfl ?_)⟩;refine dg (a:=ak) (by show(yj (.i (p:Int)) (fU t.gY)).map (!·)=_;rw[aq3 p hp];rfl) (aZ rfl (eN (by exact(O [_] [_] (.i (.t .x (.c .x)) (.n (.l (.c .x) .x)))) iV) ?_));have hb:∀q∈i5 t aG p,q∈t.gY:=λq hq=>(List.mem_filter.mp hq).1;refine zO (λq:Nat=>V.i q) (λq:Nat=>V.i q) (λq=>a6 (aG<q)&&a6 ((q:Int)<p)) t.gY (λq hq R h1 h2=>?_) ?_
    .refine cv (λe1=>cv (λe2=>h1 ?_) λe2=>h2 ?_) λe1=>aZ rfl (h2 ?_)
     .rw[decide_eq_true e1,decide_eq_true e2];rfl
     .rw[decide_eq_false e2,rh]
     .rw[decide_eq_false e1];rfl
    refine zO (λq:Nat=>V.i q) (λq:Nat=>V.i q) (λq=>a6 (t.bx q<=-10000)) (i5 t aG p) (λq hq R h1 h2=>?_) ?_
    .refine dg (CG (aq4 (hb q hq))) (cv (λe1=>h1 (decide_eq_true e1)) λe1=>h2 (decide_eq_false e1))
    have e1:((i5 t aG p).filter λq:Nat=>a6 (t.bx q<=-10000))=[]:=List.filter_eq_nil_iff.mpr λq hq=>by
     have:=h1 q hq;simp only[decide_eq_true_eq];exact(O [_] [] (.i (.t (.k (-10000)) .x) (.n (.l .x (.k (-10000)))))) this
    rw[e1];refine aZ rfl ?_;have aq5:(i5 t aG p).length<=1000:=hW (aq6 _ _) hl;refine⟨⟨?_⟩,?_⟩
    .show((i5 t aG p).map λq:Nat=>V.i q).length+1<=cK;rw[cm];simp[cK];exact(O [] [_] (.i (.ag .x 1000) (.ag .x 99999))) aq5
    have e2:(i5 t aG p).map (λq:Nat=>V.i q)++[V.i (p:Int)]=(i5 t aG p++[p]).map λq:Nat=>V.i q:=by rw[gk];rfl
    have zA:∀q∈i5 t aG p++[p],q∈t.gY:=λq hq=>by
     rcases List.mem_append.mp hq with hq|hq
     .exact hb q hq
     .cases List.mem_singleton.mp hq;exact hp
    have c:=zO (G:=G) (f:=cF (.cD 12) (r9 IR.a8 (aB X k) IR.MS) (ct IR.a8 (aB X k) IR.MT) [I t.v,I (fU ps),I (.l (aQ.map gy)),I (fU t.gY),I (dV t.oE),I (dV t.oF),I (.i aG),I (.i p),I (gy r),I (fU (i5 t aG p)),aa,aa,aa])
     (mS:=λvs G=>jB vs.isEmpty (bK IR.a8 (aB X k) (match Ss.d 3 IR.uc with|.c (.ite _ b _) _=>b|_=>.n) [I t.v,I (fU ps),I (.l (aQ.map gy)),I (fU t.gY),I (dV t.oE),I (dV t.oF),I (.i aG),I (.i p),I (gy r),I (fU (i5 t aG p)),aa,aa,aa] G (nZ (bK IR.a8 (aB X k) (Ss.d 4 IR.uc)) (mH (d8 (.fG [7,8]) (bK IR.a8 (aB X k) IR.uc) (qY (lz.map λp:Nat=>.i p) (j2.map gy))) R)))
      (bK IR.a8 (aB X k) (match Ss.d 3 IR.uc with|.c (.ite _ _ b) _=>b|_=>.n) [I t.v,I (fU ps),I (.l (aQ.map gy)),I (fU t.gY),I (dV t.oE),I (dV t.oF),I (.i aG),I (.i p),I (gy r),I (fU (i5 t aG p)),aa,aa,aa] G (nZ (bK IR.a8 (aB X k) (Ss.d 4 IR.uc)) (mH (d8 (.fG [7,8]) (bK IR.a8 (aB X k) IR.uc) (qY (lz.map λp:Nat=>.i p) (j2.map gy))) R))))
     (λq:Nat=>V.i q) (λq:Nat=>V.i q) (λq=>a6 (0<t.bB q)) (i5 t aG p++[p]) (λq hq R h1 h2=>dg (CG (O3 (zA q hq))) (cv (λe1=>h1 (decide_eq_true e1)) λe1=>h2 (decide_eq_false e1))) ?_
    .rw[<- e2]at c;exact c
    .have e3:(((i5 t aG p++[p]).filter λq:Nat=>a6 (0<t.bB q)).map λq:Nat=>V.i q).isEmpty=a6 (∀q∈i5 t aG p++[p],t.bB q<=0):=by
      rw[aq7,filter_nil];refine decide_eq_decide.mpr ⟨λh q hq=>?_,λh q hq=>?_⟩
      .have:=h q hq;simp only[decide_eq_false_iff_not]at this;exact(O [_] [] (.i (.n (.t 0 .x)) (.l .x 0))) this
      .have:=h q hq;simp only[decide_eq_false_iff_not];exact(O [_] [] (.i (.l .x 0) (.n (.t 0 .x)))) this
     rw[e3];have go:=ih j2 p (I (.i p)) (I (gy r)) (I (fU (i5 t aG p))) R h4 hR;refine cv (λe4=>?_) λe4=>?_
     .exact eN (h2 e4) go
     .obtain⟨e5,e6⟩:=h3 e4;have e7:(fU (i5 t aG p))=.l []:=by rw[e5];rfl
      have O4:=go;rw[e7]at O4⊢;subst e6;refine aZ rfl (dg (CG (O3 hp)) (aZ ?_ O4));show(!a6 (_=_))=ak;rw[decide_eq_true (by show [(3:Int),t.bB p]=[3,t.bB p];rfl)];rfl
 refine key ps aQ (-1) aa aa aa _ vR λaG o7 o8 o9 aq8=>?_;refine cps λG0 g0=>?_;obtain⟨l,el,cQ⟩:=aq8;refine g0 ?_;clear g0;refine dg (a:=.i aG) ?_ ?_
 rotate_left
 .refine bF (decide_eq_true rfl) ?_;refine ret ?_;rw[cm,cm,fh];show Q (.b (a6 ((aQ.length:Int)=aQ.length))) G;rw[decide_eq_true rfl];exact h
 .show j7 (t.gY.map λp:Nat=>V.i p) (-1)=_;rw[el,gk];have hn:((l.map λp:Nat=>V.i p)++[aG.toNat].map λp:Nat=>V.i p).length=l.length+1:=by simp
  unfold j7 bw;rw[hn,if_neg (by decide),if_pos (by exact O [] [_] (.l (.g (.c (.p .x 1))) (.k (-1))))];show((l.map λp:Nat=>V.i p)++[V.i (aG.toNat:Nat)])[(-1+((l.length+1:Nat):Int)).toNat]?=_;rw[show(-1+((l.length+1:Nat):Int)).toNat=(l.map λp:Nat=>V.i p).length by rw[cm];exact O [] [_] (.E (.af (.p (.k (-1)) (.c (.p .x 1)))) .x),List.getElem?_concat_length];rw[show((aG.toNat:Nat):Int)=aG by exact(O [_] [] (.i (.l 0 .x) (.e (.c (.af .x)) .x))) cQ]
theorem O5(f:aK->V)(l:List aK)(x:aK):j7 ((l++[x]).map f) (-1)=I (f x):=by
 have a:((l++[x]).map f).length=l.length+1:=by simp
 unfold j7 bw;rw[a,if_neg (by decide),if_pos (by exact O [] [_] (.l (.g (.c (.p .x 1))) (.k (-1))))];show((l++[x]).map f)[(-1+((l.length+1:Nat):Int)).toNat]?=_;rw[show(-1+((l.length+1:Nat):Int)).toNat=l.length by exact O [] [_] (.E (.af (.p (.k (-1)) (.c (.p .x 1)))) .x),gk];simp
theorem O6(f:aK->V)(l:List aK)(x:aK):((l++[x]).map f).take (bound (-1) ((l++[x]).map f).length)=l.map f:=by
 have a:((l++[x]).map f).length=l.length+1:=by simp
 rw[a];unfold bound;rw[if_neg (by decide),show(-1+((l.length+1:Nat):Int)).toNat=l.length by exact O [] [_] (.E (.af (.p (.k (-1)) (.c (.p .x 1)))) .x),gk];simp
noncomputable def lK(a:aC)(size:Int):gN:=⟨a,size,0,size,1,[],0⟩
inductive uz(t:gX)(aG:Option Nat)(aQ:List (Int×Int)):List Nat->Prop
 |nil:uz t aG aQ []
 |mk (es:List Nat) (e:Nat) (ha:∀a,aG=I a->a<e) (hl:e<=t.Z.length) (g:hZ (dy t.Z aG e)) (aV0:(dy t.Z aG e).length<=500) (aV1:(cM t.S (dy t.Z aG e)).length<=9) (cX:List Nat)
  (c:∀a b,jx (dy t.Z aG e) t.S (lK a t.size) t.size 0 ak b=I ((cX++[(dy t.Z aG e).length]).map λp:Nat=>(p:Int))) (aV2:cX.length<=15) (hp:∀p∈cX,p<=(dy t.Z aG e).length)
  (q:xP t (kM t.S t.size (dy t.Z aG e) 0 [] (cX++[(dy t.Z aG e).length])) (cX.map λp:Nat=>(p:Int)+lj t.Z aG e)=xP t aQ (es.map λp:Nat=>(p:Int))):uz t aG aQ (es++[e])
structure zP(t:gX):Prop where
 Z:ic t.Z
 aL:t.Z.length<=400
 S:t.S.ok
 size:-4<=t.size/\t.size<=100
 bU:10000<=t.bU/\t.bU<=2147483647
 bx:∀p,-100000<=t.bx p/\t.bx p<=100000
theorem O7(T:Top X)(ht:zP t)(hs:uz t aG aQ eC)(h:Q (.b ai) G):aB X (k+9) (.L (.ref 1038)) [t.v,.i (ux aG),fU eC,.l (aQ.map gy)] G Q:=by
 refine ab6 T rfl ?_;rcases hs with _|⟨g,e,A,B,r,s,C,d,D,m,u,o⟩
 .exact bF rfl (ret h)
 have E:((g++[e]).map λp:Nat=>V.i p).isEmpty=false:=by simp
 refine aZ E ?_;have q:=ht.size;refine af3 T (by exact(O [_] [] (.i (.c (.l (.k (-4)) .x) (.l .x 100)) (.c (.l (.k (-1073741823)) .x) (.l .x 1073741823)))) q) λa=>?_;refine dg (O5 _ g e) ?_;refine ap6 T ht.Z (by have:=ht.aL;exact(O [] [_] (.i (.ag .x 400) (.ag .x 1000))) this) A B ⟨rfl,?_⟩;refine Gz T (sh:=lK a t.size) (size:=t.size) r (by exact(O [] [_] (.i (.ag .x 500) (.ag .x 900))) s) ht.S (.inl ⟨rfl,rfl,rfl⟩) (by show(0:Int)<=0/\(0:Int)<=2;decide) (by show(0:Int)<=0/\(0:Int)<=100000;decide) (by exact(O [_] [] (.i (.c (.l (.k (-4)) .x) (.l .x 100)) (.c (.l (.k (-100000)) .x) (.l .x 100000)))) q) (by decide) ht.bU C λb=>?_;rw[D a b];have F:Gy (I ((d++[(dy t.Z aG e).length]).map λp:Nat=>(p:Int)))=.l ((d++[(dy t.Z aG e).length]).map λp:Nat=>V.i p):=by show V.l (((d++[(dy t.Z aG e).length]).map λp:Nat=>(p:Int)).map V.i)=_;rw[l8];rfl
 rw[F];have z:((dy t.Z aG e).length:Int)=((dy t.Z aG e).map Nd.v).length:=by rw[cm]
 refine aZ rfl (dg (O5 _ d _) (BS z ?_));refine Ov T (sh:=lK a t.size) (size:=t.size) r (by exact(O [] [_,_] (.i (.ag .x 500) (.i (.e (.c .x) (.c .y)) (.ag .x 800)))) s z) ht.S (.inl ⟨rfl,rfl,rfl⟩) (by show(0:Int)<=0/\(0:Int)<=2;decide) (by exact(O [_] [] (.i (.c (.l (.k (-4)) .x) (.l .x 100)) (.c (.l (.k (-100000)) .x) (.l .x 100000)))) q) (λp j=>?_) (by simp;exact(O [] [_] (.i (.ag .x 15) (.ag .x 19))) m) ?_
 .rcases List.mem_append.mp j with j|j
  .exact u p j
  .obtain rfl:=List.mem_singleton.mp j;exact gB _
 have c:=vG (G:=G) (f:=cF (.cD 9) (r9 IR.a8 (aB X (k+8)) .n) (ct IR.a8 (aB X (k+8)) IR.M3) [I t.v,I (.i (ux aG)),I (fU (g++[e])),I (.l (aQ.map gy)),I (lK a t.size).v,I (dn (dy t.Z aG e)),I (.i (lj t.Z aG e)),I (.l ((d++[(dy t.Z aG e).length]).map λp:Nat=>V.i p)),I (.l ((kM t.S t.size (dy t.Z aG e) 0 [] (d++[(dy t.Z aG e).length])).map gy)),aa])
  (Q:=λvs G=>aB X (k+8) (.L (.ref 1033)) [t.v,.l ((kM t.S t.size (dy t.Z aG e) 0 [] (d++[(dy t.Z aG e).length])).map gy),.l vs] G λv G=>aB X (k+8) (.L (.ref 1033)) [t.v,.l (aQ.map gy),.l (((g++[e]).map λp:Nat=>V.i p).take (bound (-1) ((g++[e]).map λp:Nat=>V.i p).length))] G λw G=>rd v (qT G .Eq v w) λc=>lD Q (.b c) G)
  (λp:Nat=>V.i p) (λp:Nat=>V.i ((p:Int)+lj t.Z aG e)) d (λp u R H=>bF rfl H) ?_
 .rw[<- O6 (λp:Nat=>V.i p) d (dy t.Z aG e).length]at c;exact c
 .have K:(d.map λp:Nat=>V.i ((p:Int)+lj t.Z aG e))=(d.map λp:Nat=>(p:Int)+lj t.Z aG e).map V.i:=by rw[l8];rfl
  have M:((g++[e]).map λp:Nat=>V.i p).take (bound (-1) ((g++[e]).map λp:Nat=>V.i p).length)=(g.map λp:Nat=>(p:Int)).map V.i:=by rw[O6,l8];rfl
  rw[K,M];refine O1 T ht.bx (O1 T ht.bx ?_);show lD Q (.b (a6 (_=_))) G;rw[decide_eq_true o];exact ret h
noncomputable def oG(t:gX):Option Nat->List Nat->List (Int×Int)->List Nat->List (Int×Int)->Prop
 |aG,eC,lL,[],[]=>uz t aG lL eC
 |aG,eC,lL,p::ps,r::aQ=>(r.1≠3->oG t aG (eC++[p]) (lL++[r]) ps aQ)/\(r.1=3->uz t aG lL eC/\oG t (I p) [] [] ps aQ)
 |_,_,_,_,_=>False
theorem ar1(T:Top X)(ht:zP t)(fh:ps.length<=100)(hs:oG t aa [] [] ps aQ)(h:Q (.b ai) G):aB X (k+10) (.L (.ref 1045)) [t.v,fU ps,.l (aQ.map gy)] G Q:=by
 refine ab7 T rfl ?_;intro a m b d;have f:a≠b:=λe=>by subst e;rw[J.bY]at d;cases d
 rw[J.cC f.symm]at d;refine⟨rfl,?_⟩;have key:∀(w:List Nat) (q:List (Int×Int)) (o:Option Nat) (g:List Nat) (j:List (Int×Int)) (a b:aC) (c:J) (z A:Option V) (R:Fl->ay->J->Prop),g.length+w.length<=100->j.length+w.length<=100->G a=aa->G b=aa->a≠b->c a=I (.l (g.map λp:Nat=>V.i p))->c b=I (.l (j.map gy))->J.le G c->oG t o g j w q->
   (∀o g j a b z A c,G a=aa->G b=aa->a≠b->c a=I (.l (g.map λp:Nat=>V.i p))->c b=I (.l (j.map gy))->J.le G c->uz t o j g->R .n [I t.v,I (fU ps),I (.l (aQ.map gy)),I (.i (ux o)),I (.r a),I (.r b),z,A] c)->
   d8 (.fG [6,7]) (bK IR.a8 (aB X (k+9)) IR.M5) (qY (w.map λp:Nat=>.i p) (q.map gy)) [I t.v,I (fU ps),I (.l (aQ.map gy)),I (.i (ux o)),I (.r a),I (.r b),z,A] c R:=by
  intro w;induction w with
  |nil=>
   intro q o g j a b c z A R B H m d f C D l hs K;cases q with
   |nil=>exact K o g j a b z A c m d f C D l hs
   |cons=>exact hs.elim
  |cons p w U=>
   intro q o g j a b c z A R B H m d f C D l hs K;cases q with
   |nil=>exact hs.elim
   |cons r q=>
    simp only[iw]at B H;obtain⟨ui,nJ⟩:=hs;refine⟨rfl,mM (λM=>?_) λM=>?_⟩
    .refine⟨kG rfl C,cz (km C) ⟨⟨by rw[cm];simp[cK];exact(O [] [_,_] (.i (.ag (.p .x (.p .y 1)) 100) (.ag .x 99999))) B⟩,?_⟩⟩;have W:(c.s a (.l ((g.map λp:Nat=>V.i p)++[V.i p]))) b=I (.l (j.map gy)):=by rw[J.cC f.symm];exact D
     refine⟨kG rfl W,cz (km W) ⟨⟨by rw[cm];simp[cK];exact(O [] [_,_,_] (.i (.ag (.p .u (.p .y 1)) 100) (.i (.ag (.p .x (.p .y 1)) 100) (.ag .x 99999)))) B H⟩,?_⟩⟩;refine U q o (g++[p]) (j++[r]) a b _ _ _ R (by simp;exact(O [] [_,_] (.i (.ag (.p .x (.p .y 1)) 100) (.ag (.p (.p .x 1) .y) 100))) B) (by simp;exact(O [] [_,_] (.i (.ag (.p .x (.p .y 1)) 100) (.ag (.p (.p .x 1) .y) 100))) H) m d f ?_ ?_ ((l.s m).s d) (ui M) K
     .rw[J.cC f,J.bY,gk];rfl
     .rw[J.bY,gk];rfl
    .obtain⟨N,P⟩:=nJ M;refine cz (oq C) (cz (oq (G:=c.cT a) (by rw[J.nj f.symm];exact D)) ?_);refine O7 T ht N (aZ rfl ?_);have E:J.le G ((c.cT a).cT b):=(l.cT m).cT d;intro Y Z cp F;have S:Y≠cp:=λe=>by subst e;rw[J.bY]at F;cases F
     rw[J.cC S.symm]at F;refine⟨rfl,?_⟩;refine U q (I p) [] [] Y cp _ _ _ R (by simp;exact(O [] [_,_] (.i (.ag (.p .y (.p .x 1)) 100) (.ag .x 100))) B) (by simp;exact(O [] [_,_] (.i (.ag (.p .y (.p .x 1)) 100) (.ag .x 100))) B) (E.qt Z) (E.qt F) S ?_ J.bY ((E.s (E.qt Z)).s (E.qt F)) P K;rw[J.cC S,J.bY];rfl
 refine key ps aQ aa [] [] a b _ aa aa _ (by simpa using fh) (by simpa using fh) m d f (by rw[J.cC f,J.bY];rfl) J.bY (((J.le.r G).s m).s d) hs λo g j a b z A c m d f C D l hs=>?_;refine cz (oq C) (cz (oq (G:=c.cT a) (by rw[J.nj f.symm];exact D)) ?_);exact O7 T ht hs (pg ((l.cT m).cT d) h)
noncomputable def td:Nat->List az->List (Nat×az)
 |_,[]=>[]
 |n,r::aQ=>(n,r)::td (n+1) aQ
def O9(p:Nat×az):V:=.aV [.i p.1,p.2.v]
theorem ar2:∀(aQ:List az) (n:Nat),m5 n (aQ.map az.v)=(td n aQ).map O9:=by
 intro a;induction a with
 |nil=>exactλ_=>rfl
 |cons r aQ b=>exactλn=>congrArg (V.aV [.i n,r.v]::·) (b (n+1))
def oH(Z:List az):List Nat:=((td 0 Z).filter λp=>p.2.bx.isSome).map (·.1)
def fE(Z:List az):List Nat:=oH Z++[Z.length]
noncomputable def mu(Z:List az)(p:Nat):Int:=match Z[p]? with
 |some r=>r.bx.getD 0
 |none=> -10000
noncomputable def oI(Z:List az):List (Int×Int)->List Nat->List (Int×Int)
 |d,[]=>d
 |d,p::ps=>oI Z (dQ d p (mu Z p)) ps
noncomputable def pJ(Z:List az)(g size:Int):List (Int×Int)->Option Nat->List Nat->List (Int×Int)
 |d,_,[]=>d
 |d,aG,p::ps=>pJ Z g size (dQ d p (mR Z g aG p- size)) (I p) ps
noncomputable def ku(S:bk):Int:=S.l.w- S.l.h+S.r.w- S.r.h
def iN(Z:List az)(S:bk)(size bU:Int):gX:=⟨Z,S,size,bU,fE Z,oI Z [] (fE Z),pJ Z (ku S) size [] aa (fE Z)⟩
def xQ(t:gX):Prop:=∀q∈t.gY,t.bB q<=0
noncomputable def aI(Z:List az):List Nd:=Z.map (·.n)
structure GX(t:gX)(sh:gN)(bM:Int)(free:Bool)(gO:List Nat):Prop where
 last:∀a,jx (aI t.Z) t.S sh t.size bM ai a=I (gO.map λp:Nat=>(p:Int))
 j0:∀a,jx (aI t.Z) t.S sh t.size bM ak a=aa\/jx (aI t.Z) t.S sh t.size bM ak a=I (gO.map λp:Nat=>(p:Int))
 fL:∀a,jx (aI t.Z) t.S sh t.size bM ak a≠aa->xQ t
 GY:∀a,jx (aI t.Z) t.S sh t.size bM ak a=aa->xQ t->t.S.loose≠0
 Pa:rT t (-1) gO (kM t.S t.size (aI t.Z) 0 [] gO)
 ar3:free=ak->¬xQ t->oG t aa [] [] gO (kM t.S t.size (aI t.Z) 0 [] gO)
 le:∀p∈gO,p<=(aI t.Z).length
 aL:gO.length<=15
def Pb:Prop:=∀(Z:List az) (S:bk) (free:Bool) (sh:gN) (size bU bM:Int),Rows S Z->rQ S free->sh.ok size->(0<=sh.done/\sh.done<=2)->(0<=sh.bP/\sh.bP<=100)->(free=ak->sh.bP=0)->(-4<=size/\size<=59)->
 fN bM->(free=ak->bM=0)->(10000<=bU/\bU<=2147483647)->
 zP (iN Z S size bU)/\(cM S (aI Z)).length<=9/\(∀q∈fE Z,(bJ (oI Z [] (fE Z)) q).isSome=ai/\(bJ (pJ Z (ku S) size [] aa (fE Z)) q).isSome=ai)/\
 (∀p∈oH Z,p<Z.length/\∃r,Z[p]?=I r/\r.bx≠aa)/\(oH Z).Pairwise (· <·)/\∃gO,GX (iN Z S size bU) sh bM free gO
theorem ar4:∀(aQ:List az) (n:Nat),(td n aQ).length=aQ.length:=by
 intro a;induction a with
 |nil=>exactλ_=>rfl
 |cons _ aQ b=>exactλn=>congrArg (· +1) (b (n+1))
theorem ar5(T:Top X){is:List Int}{pv:V}{digit:Int}{t:gX}{sh:gN}{bM CH:Int}{free:Bool}{gO:List Nat}{eI dF:Option V}(ht:zP t)(hS:rQ t.S free)(hsh:sh.ok t.size)(uA:0<=sh.done/\sh.done<=2)(eO:0<=sh.bP/\sh.bP<=100)(pz:fN bM)(kL:(cM t.S (aI t.Z)).length<=9)(hl:t.gY.length<=500)(CI:∀q∈t.gY,(bJ t.oE q).isSome=ai/\(bJ t.oF q).isSome=ai)(f:GX t sh bM free gO)(h:lD Q (.b ai) G):bK IR.a8 (aB X (k+10)) (Ss.d 15 IR.qn) [I (.l (is.map .i)),I pv,I (.b free),I t.S.v,I (.i digit),I (.i t.size),I sh.v,I (.i t.bU),I (.i bM),I (.i CH),I (jy t.Z),I (fU t.gY),I (dV t.oE),I (dV t.oF),eI,dF,aa,aa,aa,aa,aa,aa,aa,aa,aa,aa,aa] G (fS Q):=by
 have gn:hZ (aI t.Z):=λn hn=>by
  obtain⟨r,hr,rfl⟩:=List.mem_map.mp hn;exact(ht.Z r hr).cO
 have pK:(aI t.Z).length<=400:=by unfold aI;rw[cm];exact ht.aL
 have ji:=ht.size;have cS:∃p ps,gO=p::ps:=by
  cases e:gO with
  |nil=>have:=f.Pa;rw[e]at this;obtain⟨_,_,cQ⟩:=this;exact absurd cQ (by decide)
  |cons p ps=>exact⟨p,ps,rfl⟩
 have Pc:Gy (I (gO.map λp:Nat=>(p:Int)))=fU gO:=by show V.l ((gO.map λp:Nat=>(p:Int)).map V.i)=_;rw[l8];rfl
 have rest:∀(b:Bool) (mv:V),(b=ai↔xQ t)->(mv=.n/\(b=ai->t.S.loose≠0)\/(mv=fU gO/\b=ai))->
   bK IR.a8 (aB X (k+10)) (Ss.d 21 IR.qn) [I (.l (is.map .i)),I pv,I (.b free),I t.S.v,I (.i digit),I (.i t.size),I sh.v,I (.i t.bU),I (.i bM),I (.i CH),I (jy t.Z),I (fU t.gY),I (dV t.oE),I (dV t.oF),eI,dF,I t.v,I (.b b),I (dn (aI t.Z)),I (dn (aI t.Z)),I mv,I (fU gO),aa,aa,aa,aa,aa] G (fS Q):=by
  intro b mv hb ax;have ar:bK IR.a8 (aB X (k+10)) (Ss.d 23 IR.qn) [I (.l (is.map .i)),I pv,I (.b free),I t.S.v,I (.i digit),I (.i t.size),I sh.v,I (.i t.bU),I (.i bM),I (.i CH),I (jy t.Z),I (fU t.gY),I (dV t.oE),I (dV t.oF),eI,dF,I t.v,I (.b b),I (dn (aI t.Z)),I (dn (aI t.Z)),I mv,I (fU gO),aa,aa,aa,aa,aa] G (fS Q):=by
   refine Ov T (size:=t.size) gn (by exact(O [] [_] (.i (.ag .x 400) (.ag .x 800))) pK) ht.S hsh uA (by exact(O [_] [] (.i (.c (.l (.k (-4)) .x) (.l .x 100)) (.c (.l (.k (-100000)) .x) (.l .x 100000)))) ji) f.le (by have:=f.aL;exact(O [] [_] (.i (.ag .x 15) (.ag .x 20))) this) ?_;have Pd:gO.length=(kM t.S t.size (aI t.Z) 0 [] gO).length:=by
    have:∀(l:List Nat) (b0:Nat) (ah:List Sh),(kM t.S t.size (aI t.Z) b0 ah l).length=l.length:=by
     intro l;induction l with
     |nil=>exactλ_ _=>rfl
     |cons p l ih=>exactλ_ _=>congrArg (· +1) (ih _ _)
    exact(this gO 0 []).symm
   refine aq2 T (by exact(O [] [_] (.i (.ag .x 500) (.ag .x 1000))) hl) CI Pd f.Pa (aZ rfl (O2 T (aZ rfl ?_)));cases free with
   |true=>exact bF rfl h
   |false=>
    refine aZ rfl ?_;cases b with
    |true=>exact bF rfl h
    |false=>refine aZ rfl (ar1 T ht (by have:=f.aL;exact(O [] [_,_] (.i (.E .x .y) (.i (.ag .x 15) (.ag .x 100)))) Pd this) (f.ar3 rfl λaT=>by have:=hb.mpr aT;cases this) (bF rfl (O2 T h)))
  obtain⟨p,ps,rfl⟩:=cS;rcases ax with⟨rfl,ax⟩|⟨rfl,rfl⟩
  .refine aZ rfl (aZ rfl (aZ rfl (bF rfl ?_)));cases b with
   |false=>exact aZ rfl (aZ rfl ar)
   |true=>exact bF rfl (eN (ax rfl) ar)
  .refine aZ rfl (bF rfl (aZ rfl ?_));have e:qT G .NotEq (fU (p::ps)) (fU (p::ps))=I false:=
    (congrArg (λo:Option (List Int)=>(o.bind λx=>o.map λy=>a6 (x=y)).map (!·)) (zp (λp:Nat=>(p:Int)) (p::ps))).trans (congrArg (λb=>I (!b)) (decide_eq_true rfl))
   refine dg e (aZ rfl (aZ rfl (aZ rfl ar)))
 refine zO (λq:Nat=>V.i q) (λq:Nat=>V.i q) (λq=>a6 (0<t.bB q)) t.gY (λq hq R h1 h2=>?_) ?_
 .obtain⟨v,e⟩:=Option.isSome_iff_exists.mp (CI q hq).2;have e2:t.bB q=v:=by unfold gX.bB;rw[e];rfl
  rw[e2]at h1 h2;exact dg (CG e) (cv (λe1=>h1 (decide_eq_true e1)) λe1=>h2 (decide_eq_false e1))
 have qw:(((t.gY.filter λq:Nat=>a6 (0<t.bB q)).map λq:Nat=>V.i q).isEmpty=ai)↔xQ t:=by
  rw[aq7,filter_nil,decide_eq_true_iff];refine⟨λh q hq=>?_,λh q hq=>?_⟩
  .have:=h q hq;simp only[decide_eq_false_iff_not]at this;exact(O [_] [] (.i (.n (.t 0 .x)) (.l .x 0))) this
  .have:=h q hq;simp only[decide_eq_false_iff_not];exact(O [_] [] (.i (.l .x 0) (.n (.t 0 .x)))) this
 refine vG az.v (λr=>r.n.v) t.Z (λr hr R hR=>bF rfl hR) ?_;have en:(t.Z.map λr=>r.n.v)=(aI t.Z).map Nd.v:=by unfold aI;rw[l8];rfl
 rw[en];refine Gz T (size:=t.size) gn (by exact(O [] [_] (.i (.ag .x 400) (.ag .x 900))) pK) hS.ok hsh uA (by exact(O [_] [] (.i (.c (.l 0 .x) (.l .x 100)) (.c (.l 0 .x) (.l .x 100000)))) eO) (by exact(O [_] [] (.i (.c (.l (.k (-4)) .x) (.l .x 100)) (.c (.l (.k (-100000)) .x) (.l .x 100000)))) ji) pz ht.bU kL λdN=>?_;refine Gz T (size:=t.size) gn (by exact(O [] [_] (.i (.ag .x 400) (.ag .x 900))) pK) hS.ok hsh uA (by exact(O [_] [] (.i (.c (.l 0 .x) (.l .x 100)) (.c (.l 0 .x) (.l .x 100000)))) eO) (by exact(O [_] [] (.i (.c (.l (.k (-4)) .x) (.l .x 100)) (.c (.l (.k (-100000)) .x) (.l .x 100000)))) ji) pz ht.bU kL λeL=>?_;rw[f.last eL,Pc];rcases f.j0 dN with e|e
 .rw[e];exact rest _ .n qw (.inl ⟨rfl,λhb=>f.GY dN e (qw.mp hb)⟩)
 .rw[e,Pc];exact rest _ _ qw (.inr ⟨rfl,qw.mpr (f.fL dN (by rw[e];simp))⟩)
theorem ar6(h:ct T aU e z G λv G=>bK T aU r (dX z i v) G K):bK T aU (.c (.aN (.z i) e) r) z G K:=h
theorem ar7(h1:dO z i=I (.i b))(h:K (.i (a+b)) G):ct T aU (.bH .Add (.i a) (.z i)) z G K:=by show bR (dO z i) _;rw[h1];exact h
theorem ar8(h1:dO z i=I (.i b))(ax:wH (-a) b)(h:K (.i (-a*b)) G):ct T aU (.bH .Mult (.neg (.i a)) (.z i)) z G K:=by show bR (dO z i) _;rw[h1];exact⟨ax,h⟩
theorem ar9{T:c9}{aU:CO}{i:Nat}{v:V}{z:ay}{w:SW}{Q:SQ}(h:w (dX z i v) G Q):DS T aU (.z i) z (nZ w Q) v G:=h
theorem as0{T:c9}{aU:CO}{i:Nat}{v:V}{z:ay}{w:SW}{Q:SQ}(h:w (dX z i v) G Q):kv (DS T aU (.z i) z (nZ w Q)) G v:=h
theorem as1(h:K (.i i) G):ct T aU (.i i) z G K:=h
theorem as2(T:Top X)(P:Pb){is:List Int}(hl:is.length<=63)(h:Q (.b ai) G):aB X (k+11) (.L (.ref 1050)) [.l (is.map .i)] G Q:=by
 refine ab8 T rfl (am9 T λpa x zR hx=>?_);have sY:oB G pa 1000000 (G.s pa (.l [.i x,.i 0])):=⟨(J.le.r G).s zR,zR,x,0,J.bY,hx,by decide,by decide⟩
 refine sY.take T (by decide) (by decide) λd0 ae jr x=>?_
 suffices key:∀free:Bool,bK IR.a8 (aB X (k+10)) (Ss.d 2 IR.qn) [I (.l (is.map .i)),I (.r pa),I (.b free),aa,aa,aa,aa,aa,aa,aa,aa,aa,aa,aa,aa,aa,aa,aa,aa,aa,aa,aa,aa,aa,aa,aa,aa] ae (fS Q)from key _
 intro free;refine am4 T x.le x.jl x.p (by decide) λS ae hS l p=>?_;have x:oB G pa 999000 ae:=⟨l,x.jl,p.bI (by decide)⟩
 refine x.take T (by decide) (by decide) λdigit ae Pe x=>?_;have xM:∀size:Int,(-4<=size/\size<=59)->bK IR.a8 (aB X (k+10)) (Ss.d 5 IR.qn) [I (.l (is.map .i)),I (.r pa),I (.b free),I S.v,I (.i digit),I (.i size),aa,aa,aa,aa,aa,aa,aa,aa,aa,aa,aa,aa,aa,aa,aa,aa,aa,aa,aa,aa,aa] ae (fS Q):=by
  intro size ji;refine an0 T x (by decide) (by exact(O [_] [] (.i (.c (.l (.k (-4)) .x) (.l .x 59)) (.c (.l (.k (-4)) .x) (.l .x 100)))) ji) λsh ae hsh uA eO as3 x=>?_;refine x.take T (by decide) (by decide) λd1 ae ta x=>?_;obtain⟨bU,e1,xE⟩:=oz (P:=λi=>10000<=i/\i<=2147483647) (xs:=[10000,10001,20000,2147483647]) ta (by decide);refine dg e1 ?_;have x:=x.bI (c:=900000) (by decide);have Pf:∀(bM:Int) (ae:J),fN bM->(free=ak->bM=0)->oB G pa 800000 ae->bK IR.a8 (aB X (k+10)) (Ss.d 8 IR.qn) [I (.l (is.map .i)),I (.r pa),I (.b free),I S.v,I (.i digit),I (.i size),I sh.v,I (.i bU),I (.i bM),aa,aa,aa,aa,aa,aa,aa,aa,aa,aa,aa,aa,aa,aa,aa,aa,aa,aa] ae (fS Q):=by
   intro bM ae pz as4 x;have as5:=hS.am3;have Z:∀qL:Bool,aB X (k+10) (.L (.ref 1009)) [.r pa,S.v,.i (size- ku S),.b qL] ae λv ae=>bK IR.a8 (aB X (k+10)) (Ss.d 10 IR.qn) [I (.l (is.map .i)),I (.r pa),I (.b free),I S.v,I (.i digit),I (.i size),I sh.v,I (.i bU),I (.i bM),I (.i (ku S)),I v,aa,aa,aa,aa,aa,aa,aa,aa,aa,aa,aa,aa,aa,aa,aa,aa] ae (fS Q):=by
    intro qL;refine ap1 T x (by decide) (by unfold ku;exact(O [_,_,_,_,_] [] (.i (.c (.l (.k (-4)) .x) (.l .x 59)) (.i (.c (.l (.k (-100)) (.s (.p (.s .y .u) .w) .b)) (.l (.s (.p (.s .y .u) .w) .b) 100)) (.c (.l (.k (-300)) (.s .x (.s (.p (.s .y .u) .w) .b))) (.l (.s .x (.s (.p (.s .y .u) .w) .b)) 300))))) ji as5) λZ ae CK x=>?_;obtain⟨ht,kL,CI,iV,CL,gO,f⟩:=P Z S free sh size bU bM CK hS hsh uA eO as3 ji pz as4 xE;have ro:ic Z:=CK.ok;have Pg:=zO (G:=ae) (f:=cF (.fG [23,24]) (r9 IR.a8 (aB X (k+10)) IR.M7) (ct IR.a8 (aB X (k+10)) IR.M8) [I (.l (is.map .i)),I (.r pa),I (.b free),I S.v,I (.i digit),I (.i size),I sh.v,I (.i bU),I (.i bM),I (.i (ku S)),I (jy Z),aa,aa,aa,aa,aa,aa,aa,aa,aa,aa,aa,aa,aa,aa,aa,aa])
     (mS:=λvs G=>nX (vs.length+1)/\bK IR.a8 (aB X (k+10)) (Ss.d 11 IR.qn) [I (.l (is.map .i)),I (.r pa),I (.b free),I S.v,I (.i digit),I (.i size),I sh.v,I (.i bU),I (.i bM),I (.i (ku S)),I (jy Z),I (.l (vs++[.i ((Z.map az.v).length:Nat)])),aa,aa,aa,aa,aa,aa,aa,aa,aa,aa,aa,aa,aa,aa,aa] G (fS Q))
     O9 (λp:Nat×az=>V.i p.1) (λp=>p.2.bx.isSome) (td 0 Z) (λp hp R h1 h2=>?_) ?_
    .rw[<- ar2]at Pg;exact Pg
    .refine⟨rfl,?_⟩;obtain⟨n,rn,aQ,rl,lJ,rt⟩:=p;cases lJ with
     |none=>exact aZ rfl (h2 rfl)
     |some c=>exact bF rfl (h1 rfl)
    have e1:((td 0 Z).filter λp=>p.2.bx.isSome).map (λp:Nat×az=>V.i p.1)=(oH Z).map λp:Nat=>V.i p:=by unfold oH;rw[l8];rfl
    have l0:(oH Z).length<=100:=by unfold oH;rw[cm];refine hW (aq6 _ _) ?_;rw[ar4];exact CK.aL
    rw[e1];have e2:(oH Z).map (λp:Nat=>V.i p)++[V.i ((Z.map az.v).length:Nat)]=(fE Z).map λp:Nat=>V.i p:=by unfold fE;rw[gk,cm];rfl
    rw[e2];refine⟨⟨by rw[cm];simp[cK];exact(O [] [_] (.i (.ag .x 100) (.ag .x 99999))) l0⟩,?_⟩;intro lJ GZ rx xR;have zS:lJ≠rx:=λe=>by subst e;rw[J.bY]at xR;cases xR
    rw[J.cC zS.symm]at xR;refine⟨rfl,?_⟩;have fh:Z.length<=100:=CK.aL;have ny:∀(r:List Nat) (aG:Option Nat) (dc dx:List (Int×Int)) (fP:J) (dF:Option V) (R:Fl->ay->J->Prop),(∀p∈r,p=Z.length\/p<Z.length/\∃x,Z[p]?=I x/\x.bx≠aa)->(∀p∈r,∀a,aG=I a->a<p)->r.Pairwise (· <·)->dc.length+r.length<=200->dx.length+r.length<=200->fP lJ=I (.dk (dc.map (·.1)) (lV dc))->fP rx=I (.dk (dx.map (·.1)) (lV dx))->J.le ae fP->
      (∀eI dF fP,fP lJ=I (.dk ((oI Z dc r).map (·.1)) (lV (oI Z dc r)))->fP rx=I (.dk ((pJ Z (ku S) size dx aG r).map (·.1)) (lV (pJ Z (ku S) size dx aG r)))->J.le ae fP->R .n [I (.l (is.map .i)),I (.r pa),I (.b free),I S.v,I (.i digit),I (.i size),I sh.v,I (.i bU),I (.i bM),I (.i (ku S)),I (jy Z),I (fU (fE Z)),I (.r lJ),I (.r rx),eI,dF,aa,aa,aa,aa,aa,aa,aa,aa,aa,aa,aa] fP)->
      d8 (.cD 15) (bK IR.a8 (aB X (k+10)) IR.BK) (r.map λp:Nat=>V.i p) [I (.l (is.map .i)),I (.r pa),I (.b free),I S.v,I (.i digit),I (.i size),I sh.v,I (.i bU),I (.i bM),I (.i (ku S)),I (jy Z),I (fU (fE Z)),I (.r lJ),I (.r rx),I (.i (ux aG)),dF,aa,aa,aa,aa,aa,aa,aa,aa,aa,aa,aa] fP R:=by
     intro r;induction r with
     |nil=>exactλaG dc dx fP dF R _ _ _ _ _ h1 h2 l hR=>hR _ dF fP h1 h2 l
     |cons p r ih=>
      intro aG dc dx fP dF R ax ha CL h3 h4 h1 h2 l hR;simp only[iw]at h3 h4;have nN:p<=Z.length:=by rcases ax p (.head _)with e|e<;>omega
      have tail:∀c:Int,c=mu Z p->tM IR.a8 (aB X (k+10)) (.bq (.z 12) (.z 15)) (.i c) [I (.l (is.map .i)),I (.r pa),I (.b free),I S.v,I (.i digit),I (.i size),I sh.v,I (.i bU),I (.i bM),I (.i (ku S)),I (jy Z),I (fU (fE Z)),I (.r lJ),I (.r rx),I (.i (ux aG)),I (.i p),aa,aa,aa,aa,aa,aa,aa,aa,aa,aa,aa] fP λz G=>bK IR.a8 (aB X (k+10)) (Ss.d 1 IR.BK) z G (mH (d8 (.cD 15) (bK IR.a8 (aB X (k+10)) IR.BK) (r.map λp:Nat=>V.i p)) R):=by
       rintro c rfl;refine cz h1 ⟨⟨by rw[cm];simp[cK];exact(O [] [_,_] (.i (.ag (.p .x (.p .y 1)) 200) (.ag .x 99999))) h3⟩,?_⟩;have as6:(fP.s lJ (.dk (mZ (dc.map (·.1)) p) (mF (dc.map (·.1)) (lV dc) p (.i (mu Z p))))) rx=I (.dk (dx.map (·.1)) (lV dx)):=by rw[J.cC zS.symm];exact h2
       refine ap4 T ro (λa e=>ha p (.head _) a e) nN (cz as6 ⟨⟨by rw[cm];simp[cK];exact(O [] [_,_,_] (.i (.ag (.p .u (.p .y 1)) 200) (.i (.ag (.p .x (.p .y 1)) 200) (.ag .x 99999)))) h3 h4⟩,?_⟩);refine ih (I p) (dQ dc p (mu Z p)) (dQ dx p (mR Z (ku S) aG p- size)) _ _ R (λq hq=>ax q (.tail _ hq)) (λq hq a e=>by cases e;exact(List.pairwise_cons.mp CL).1 q hq) (List.pairwise_cons.mp CL).2 (by have:=Cg (x:=(p:Int)) (u:=mu Z p) (l:=dc);exact(O [] [_,_,_] (.i (.ag (.p .u (.p .y 1)) 200) (.i (.ag .x (.p .u 1)) (.ag (.p .x .y) 200)))) h3 this) (by have:=Cg (x:=(p:Int)) (u:=mR Z (ku S) aG p- size) (l:=dx);exact(O [] [_,_,_] (.i (.ag (.p .u (.p .y 1)) 200) (.i (.ag .x (.p .u 1)) (.ag (.p .x .y) 200)))) h4 this) ?_ ?_ ((l.s GZ).s xR) hR
       .rw[J.cC zS,J.bY,zw (p:Int) (mu Z p),Gh]
       .rw[J.bY,zw (p:Int) (mR Z (ku S) aG p- size),Gh]
      rcases ax p (.head _)with e|⟨iV,y,ey,hy⟩
      .refine eN (by rw[cm];exact(O [] [_,_] (.i (.E .x .y) (.n (.t (.c .x) (.c .y))))) e) (tail _ ?_);unfold mu;rw[qi (by exact(O [] [_,_] (.i (.E .y .x) (.ag .x .y))) e)]
      .refine iW (by rw[cm];exact(O [] [_,_] (.i (.U .x .y) (.t (.c .x) (.c .y)))) iV) (dg (iJ ey) ?_);obtain⟨rn,aQ,rl,as7,rt⟩:=y;cases as7 with
       |none=>exact absurd rfl hy
       |some c=>exact tail c (by unfold mu;rw[ey];rfl)
    have lp:(fE Z).length<=101:=by unfold fE;simp;exact(O [] [_] (.i (.ag .x 100) (.ag .x 100))) l0
    refine ny (fE Z) aa [] [] _ aa _ (λp hp=>?_) (λ_ _ _ e=>by cases e) ?_ (by simp;exact(O [] [_] (.i (.ag .x 101) (.ag .x 200))) lp) (by simp;exact(O [] [_] (.i (.ag .x 101) (.ag .x 200))) lp) (by rw[J.cC zS,J.bY];rfl) J.bY (((J.le.r ae).s GZ).s xR) λeI dF fP h1 h2 l=>?_
    .rcases List.mem_append.mp hp with hp|hp
     .exact .inr (iV p hp)
     .exact .inl (List.mem_singleton.mp hp)
    .unfold fE;refine List.pairwise_append.mpr ⟨CL,Ph _ _,λa ha b hb=>?_⟩;obtain rfl:=List.mem_singleton.mp hb;exact(iV a ha).1
    have fz:∀{a:aC} {ks:List Int} {vs:List V} {ae:J},ae a=I (.dk ks vs)->wN ae (.r a)=I (.dk ks vs,ae.cT a):=λ{a _ _ ae} h=>congrArg (λo=>((lq o).map λxs=>(V.l xs,ae.cT a)).or ((dictAt o).map λd:List Int×List V=>(V.dk d.1 d.2,ae.cT a))) h
    refine cz (fz h1) (cz (fz (ae:=fP.cT lJ) (by rw[J.nj zS.symm];exact h2)) ?_);have cV:J.le G ((fP.cT lJ).cT rx):=λa o e=>(l.cT GZ).cT xR a o (x.le a o e);have ar:=ar5 (k:=k) (is:=is) (pv:=.r pa) (digit:=digit) (CH:=ku S) (eI:=eI) (dF:=dF) T ht hS hsh uA eO pz kL (by show(fE Z).length<=500;exact(O [] [_] (.i (.ag .x 101) (.ag .x 500))) lp) CI f (pg cV h);exact nx ar
   refine cv (λh1=>?_) λh1=>Z ak;exact dg (a:=is) (by have:=zp id is;rw[EB]at this;exact this) (Z _)
  cases free with
  |true=>
   refine bF rfl (x.take T (by decide) (by decide) λd2 ae pD x=>?_);obtain⟨bM,e2,pz⟩:=oz (P:=fN) (xs:=[0,20,-5]) pD (by decide);exact dg e2 (as0 (Pf bM ae pz (λe=>by cases e) (x.bI (by decide))))
  |false=>exact aZ rfl (as1 (ar9 (Pf 0 ae (by decide) (λ_=>rfl) (x.bI (by decide)))))
 have as8:bK IR.a8 (aB X (k+10)) (Ss.d 4 IR.qn) [I (.l (is.map .i)),I (.r pa),I (.b free),I S.v,I (.i digit),aa,aa,aa,aa,aa,aa,aa,aa,aa,aa,aa,aa,aa,aa,aa,aa,aa,aa,aa,aa,aa,aa] ae (fS Q):=by
  refine ar6 (cv (λh1=>?_) λh1=>?_)
  .exact ar7 rfl (xM (28+digit) (by exact(O [_] [] (.i (.c (.l 0 .x) (.t .x 32)) (.i (.t 1 .x) (.c (.l (.k (-4)) (.p 28 .x)) (.l (.p 28 .x) 59))))) Pe h1))
  .exact ar8 rfl (kF (by decide) (by decide)) (xM (-4*digit) (by exact(O [_] [] (.i (.c (.l 0 .x) (.t .x 32)) (.i (.n (.t 1 .x)) (.c (.l (.k (-4)) (.m (-4) .x)) (.l (.m (-4) .x) 59))))) Pe h1))
 exact as8
theorem as9(h:0<=r):0<=zm r/\zm r<=10000:=by
 unfold zm;split
 .decide
 .rename_i a;have b:r*r<=1290*1290:=at0 (by exact(O [_] [] (.i (.l 0 .x) (.i (.n (.t 1290 .x)) (.l .x 1290)))) h a) (by exact(O [_] [] (.i (.l 0 .x) (.i (.n (.t 1290 .x)) (.l .x 1290)))) h a) h (by decide);have d:0<=r*r:=DC h h;have e:r*r*r<=(1290*1290)*1290:=at0 b (by exact(O [_] [] (.i (.l 0 .x) (.i (.n (.t 1290 .x)) (.l .x 1290)))) h a) h (by decide);have f:0<=r*r*r:=DC d h;exact(O [_,_] [] (.i (.l .x (.r (.k (1290*1290)) 1290)) (.i (.l 0 .x) (.i (.c (.l (.m 262144 .y) (.p .x 131072)) (.t (.p .x 131072) (.p (.m 262144 .y) 262144))) (.c (.l 0 .y) (.l .y 10000)))))) e f (xw (r*r*r+131072) (by decide))
theorem at1(h:0<=e):0<=k7 e t/\k7 e t<=10000:=by
 unfold k7;split
 .decide
 .split
  .decide
  .exact as9 (Ni h (by exact(O [_] [] (.i (.n (.l .x 0)) (.t 0 .x))) ‹_›))
def hF(size:Int)(m:Sm):Prop:=size<m.n- m.h
noncomputable instance(size:Int)(m:Sm):Decidable (hF size m):=inferInstanceAs (Decidable (_<_))
theorem zT(hh:0<=m.h):10000<(cA size m).1↔hF size m:=by
 unfold cA hF;have a:∀{e t:Int},0<=e->¬10000<k7 e t:=λ{e t} h=>by have:=at1 (e:=e) (t:=t) h;exact(O [_] [] (.i (.c (.l 0 .x) (.l .x 10000)) (.n (.t 10000 .x)))) this
 split
 .rename_i b;refine⟨λh=>?_,λh=>by exact(O [_,_,_,_] [] (.i (.l 0 .w) (.i (.t 0 (.s .y .u)) (.i (.t .y (.s .u .w)) (.t 10000 .x))))) hh b h⟩;exfalso;split at h
  .exact absurd h (by decide)
  .split at h
   .exact absurd h (by decide)
   .split at h
    .exact absurd h (by decide)
    .unfold zr at h;split at h<;>exact a (by omega) h
 .split
  .exact⟨λ_=>by exact(O [_,_,_] [] (.i (.t .u (.g (.s .x .y))) (.t .x (.s .y .u)))) ‹_›,λ_=>by decide⟩
  .unfold zu;refine⟨λh=>absurd h (a (by exact(O [_,_] [] (.i (.n (.t 0 (.s .x .y))) (.l 0 (.g (.s .x .y))))) ‹_›)),λh=>by exact(O [_,_,_,_] [] (.i (.n (.t .w (.g (.s .y .u)))) (.i (.t .y (.s .u .w)) (.t 10000 .x)))) ‹_› h⟩
theorem Pj:ox a b c d=0↔b=0/\c=0/\d=0:=by
 unfold ox;constructor
 .intro h;split at h
  .cases h
  .split at h
   .cases h
   .split at h
    .cases h
    .exact(O [_,_,_] [] (.i (.n (.n (.e .u 0))) (.i (.n (.n (.e .y 0))) (.i (.n (.n (.e .x 0))) (.c (.e .x 0) (.c (.e .y 0) (.e .u 0))))))) ‹_› ‹_› ‹_›
 .rintro⟨rfl,rfl,rfl⟩;rfl
theorem Pk(hh:0<=m.h)(h:hF size m):nL m (size- m.n)=(3,m.n- m.h- size):=by unfold hF at h;unfold nL;rw[if_neg (by exact(O [_,_,_] [] (.i (.l 0 .u) (.i (.t .x (.s .y .u)) (.n (.e (.s .x .y) 0))))) hh h),if_neg (by exact(O [_,_,_] [] (.i (.l 0 .u) (.i (.t .x (.s .y .u)) (.n (.t 0 (.s .x .y)))))) hh h),if_pos (by exact(O [_,_,_] [] (.i (.t .y (.s .u .x)) (.t .x (.g (.s .y .u))))) h)];rw[show-(size- m.n)- m.h=m.n- m.h- size by exact O [_,_,_] [] (.e (.s (.g (.s .x .y)) .u) (.s (.s .y .u) .x))]
theorem Pm(hh:0<=m.h)(h:¬hF size m):(nL m (size- m.n)).1≠3/\(nL m (size- m.n)).2=(cA size m).1:=by
 unfold hF at h;unfold nL cA;by_cases l:size- m.n=0
 .rw[if_pos l,if_neg (by exact(O [_,_] [] (.i (.e (.s .x .y) 0) (.n (.t 0 (.s .x .y))))) l),if_neg (by exact(O [_,_,_] [] (.i (.n (.t .y (.s .u .x))) (.i (.e (.s .y .u) 0) (.n (.t .x (.g (.s .y .u))))))) h l)];refine⟨by decide,?_⟩;unfold zu k7;rw[if_pos (by exact(O [_,_] [] (.i (.e (.s .x .y) 0) (.e (.g (.s .x .y)) 0))) l)]
 .rw[if_neg l];by_cases f:0<size- m.n
  .rw[if_pos f,if_pos f];have en:((size- m.n).natAbs:Int)=size- m.n:=by exact(O [_,_] [] (.i (.t 0 (.s .x .y)) (.e (.c (.n (.s .x .y))) (.s .x .y)))) f
   by_cases p:ox m.a m.b m.c m.d=0
   .rw[if_pos p];obtain⟨j,o,q⟩:=Pj.mp p;refine⟨by dsimp only;decide,?_⟩;rw[if_neg (by simpa using j),if_neg (by simpa using o),if_neg (by simpa using q),en];unfold zr;split<;>rfl
   .rw[if_neg p];refine⟨by decide,?_⟩;by_cases j:m.b=0
    .by_cases o:m.c=0
     .by_cases q:m.d=0
      .exact absurd (Pj.mpr ⟨j,o,q⟩) p
      .rw[if_neg (by simpa using j),if_neg (by simpa using o),if_pos q]
     .rw[if_neg (by simpa using j),if_pos o]
    .rw[if_pos j]
  .have en:((size- m.n).natAbs:Int)=-(size- m.n):=by exact(O [_,_] [] (.i (.n (.t 0 (.s .x .y))) (.e (.c (.n (.s .x .y))) (.g (.s .x .y))))) f
   rw[if_neg f,if_neg f,if_neg (by exact(O [_,_,_] [] (.i (.n (.t .y (.s .u .x))) (.i (.e (.c (.n (.s .y .u))) (.g (.s .y .u))) (.n (.t .x (.g (.s .y .u))))))) h en),if_neg (by exact(O [_,_,_] [] (.i (.n (.t .y (.s .u .x))) (.i (.e (.c (.n (.s .y .u))) (.g (.s .y .u))) (.n (.t .x (.g (.s .y .u))))))) h en)];refine⟨by dsimp only;decide,?_⟩;rw[en];rfl
section
def mT(t:Tr)(size:Int)(sp:aY)(ar:Bool)(s:dJ)(w:aE):dJ:=
 let bf:=cA size (bQ t sp w)
 let aD:=fO bf.1 sp w s
 if t.most<bf.1 then aD else nI aD (eQ (w.line+1) (t.bP+1)) bf.2 ⟨ko t sp ar w bf,w,w.line+1⟩
noncomputable def eD(t:Tr)(size:Int)(sp:aY)(ar:Bool):dJ->List aE->dJ
 |s,[]=>s
 |s,w::r=>eD t size sp ar (mT t size sp ar s w) r
variable{t:Tr}{size:Int}{sp:aY}{ar:Bool}{aL:Nat}{s:dJ}{w:aE}
theorem Pn(h:nH t (cA size (bQ t sp w)).1 sp aL i s=ak):kJ t size sp ar aL i s w=mT t size sp ar s w:=by
 unfold kJ mT;dsimp only;rw[h];by_cases a:t.most<(cA size (bQ t sp w)).1
 .rw[decide_eq_true a,if_pos (show(ai&& !ak)=ai from rfl),if_pos a]
 .rw[decide_eq_false a,if_neg (show¬(ak&& !ak)=ai by decide),if_neg a];rfl
theorem at3(h:nH t (cA size (bQ t sp w)).1 sp aL i s=ai):kJ t size sp ar aL i s w=nI s (eQ (w.line+1) (t.bP+1)) (cA size (bQ t sp w)).2 ⟨w.bc,w,w.line+1⟩:=by
 have a:kI (cA size (bQ t sp w)).1 sp=true:=by unfold nH at h;rw[lR]at h;exact h.1
 unfold kJ;dsimp only;rw[h,at4,rh,if_neg (by decide),if_pos rfl];unfold fO;rw[if_pos a]
theorem at5:∀(r:List aE) (i:Nat) (s:dJ),i+r.length<aL->jb t size sp ar aL i s r=eD t size sp ar s r:=by
 intro a;induction a with
 |nil=>exactλ_ _ _=>rfl
 |cons w r b=>
  intro i s h;simp only[iw]at h;have:nH t (cA size (bQ t sp w)).1 sp aL i s=false:=by unfold nH;rw[decide_eq_false (by exact(O [] [_,_,_] (.i (.U (.p .x (.p .u 1)) .y) (.n (.e (.c .x) (.s (.c .y) 1))))) h:¬(i:Int)=(aL:Int)- 1)];simp
  show jb t size sp ar aL (i+1) (kJ t size sp ar aL i s w) r=eD t size sp ar (mT t size sp ar s w) r;rw[Pn this];exact b (i+1) _ (by exact(O [] [_,_,_] (.i (.U (.p .x (.p .y 1)) .u) (.U (.p (.p .x 1) .y) .u))) h)
theorem at6:∀(a b:List aE) (i:Nat) (s:dJ),jb t size sp ar aL i s (a++b)=jb t size sp ar aL (i+a.length) (jb t size sp ar aL i s a) b:=by
 intro c;induction c with
 |nil=>exactλ_ _ _=>rfl
 |cons w a e=>intro b i s;show jb t size sp ar aL (i+1) _ (a++b)=_;rw[e b,iw,show i+1+a.length=i+(a.length+1) by exact O [] [_,_] (.E (.p (.p .x 1) .y) (.p .x (.p .y 1)))];rfl
theorem Po:∀(a b:List aE) (s:dJ),eD t size sp ar s (a++b)=eD t size sp ar (eD t size sp ar s a) b:=by
 intro c;induction c with
 |nil=>exactλ_ _=>rfl
 |cons _ a e=>exactλb s=>e b _
noncomputable def eh:dJ:=⟨[],[],[]⟩
def uB(t:Tr)(size:Int)(sp:aY)(ar:Bool)(dh:List aE)(w:aE):Bool:=kI (cA size (bQ t sp w)).1 sp&&(t.last&&((eD t size sp ar eh dh).bT.isEmpty&&(eD t size sp ar eh dh).bt.isEmpty))
theorem Pp(dh:List aE)(w:aE):jb t size sp ar (dh++[w]).length 0 eh (dh++[w])=if uB t size sp ar dh w=ai then nI (eD t size sp ar eh dh) (eQ (w.line+1) (t.bP+1)) (cA size (bQ t sp w)).2 ⟨w.bc,w,w.line+1⟩else eD t size sp ar eh (dh++[w]):=by
 have a:(dh++[w]).length=dh.length+1:=by simp
 rw[at6,at5 dh 0 eh (by exact(O [] [_,_] (.i (.E .y (.p .x 1)) (.U (.p 0 .x) .y))) a)];have e:nH t (cA size (bQ t sp w)).1 sp (dh++[w]).length (0+dh.length) (eD t size sp ar eh dh)=uB t size sp ar dh w:=by unfold nH uB;rw[decide_eq_true (by rw[a];exact O [] [_] (.e (.c (.p 0 .x)) (.s (.c (.p .x 1)) 1)):((0+dh.length:Nat):Int)=((dh++[w]).length:Int)- 1),I3]
 show kJ t size sp ar (dh++[w]).length (0+dh.length) (eD t size sp ar eh dh) w=_;by_cases h:uB t size sp ar dh w=ai
 .rw[if_pos h,at3 (by rw[e];exact h)]
 .rw[if_neg h,Pn (by rw[e];simpa using h),Po];rfl
section
variable{ag:aE->Prop}[DecidablePred ag]{ix dm:aE->Int}{kb:Bool}{pre kp:List aE}{s:dJ}{w:aE}{n d g:Int}
structure G0(ag:aE->Prop)[DecidablePred ag](ix dm:aE->Int)(kb:Bool)(pre:List aE)(s:dJ):Prop where
 bT:s.bT=pre.filter λw=>a6 (¬ag w)&&kb
 bt:∀n b,bJ s.bt n=I b->b.w∈pre/\¬ag b.w/\b.bc=dm b.w/\b.line=b.w.line+1/\n=ix b.w
 none:s.bt=[]↔∀w∈pre,ag w
 all:∀w∈pre,¬ag w->∃b,bJ s.bt (ix w)=I b/\b.bc<=dm w
 has:∀n b,bJ s.bt n=I b->∃m,bJ s.a9 (n.fdiv 4)=I m
 a9:∀g m,bJ s.a9 g=I m->(∃n b,bJ s.bt n=I b/\n.fdiv 4=g/\b.bc<=m)/\∀n b,bJ s.bt n=I b->n.fdiv 4=g->m<=b.bc
theorem at7:dQ l x u≠ []:=by
 cases l with
 |nil=>exactλe=>by cases e
 |cons p l=>unfold dQ;split<;>exactλe=>by cases e
noncomputable def uC(o:Option gv)(d:Int):Bool:=match o with
 |none=>ai
 |some o=>a6 (d<=o.bc)
theorem zU(s:dJ)(g f:Int)(b:gv):nI s g f b=if uC (bJ s.bt (4*g+f)) b.bc=ai then⟨s.bT,dQ s.bt (4*g+f) b,dQ s.a9 g (eQ b.bc ((bJ s.a9 g).getD b.bc))⟩else s:=rfl
theorem G0.at8(h:G0 ag ix dm kb pre s)(hL:ag w):G0 ag ix dm kb (pre++[w]) s:=by
 refine⟨?_,λn b i=>?_,?_,λv e f=>?_,h.has,h.a9⟩
 .rw[h.bT,xH,s6,if_neg (by rw[decide_eq_false (not_not_intro hL)];exact Bool.false_ne_true),Cs,dZ]
 .obtain⟨a,c⟩:=h.bt n b i;exact⟨jm _ a,c⟩
 .rw[h.none];refine⟨λh v e=>?_,λh v e=>h v (jm _ e)⟩;rcases List.mem_append.mp e with e|e
  .exact h v e
  .cases List.mem_singleton.mp e;exact hL
 .rcases List.mem_append.mp e with e|e
  .exact h.all v e f
  .cases List.mem_singleton.mp e;exact absurd hL f
theorem G0.iZ(h:G0 ag ix dm kb pre s)(hL:¬ag w)(ek:kp=(pre++[w]).filter λw=>a6 (¬ag w)&&kb)(hn:ix w=n0)(aF:dm w=d)(vS:n0.fdiv 4=g)(hc:uC (bJ s.bt n0) d=ai):G0 ag ix dm kb (pre++[w]) ⟨kp,dQ s.bt n0 ⟨d,w,w.line+1⟩,dQ s.a9 g (eQ d ((bJ s.a9 g).getD d))⟩:=by
 have mem:∀v,v∈pre++[w]->v∈pre\/v=w:=λv z=>(List.mem_append.mp z).imp id List.mem_singleton.mp;refine⟨ek,λn b f=>?_,⟨λe=>absurd e at7,λe=>absurd (e w (by simp)) hL⟩,λv z H=>?_,λn b f=>?_,λE m j=>⟨?_,λn b f hn=>?_⟩⟩
 .dsimp only at f;rw[mf]at f;split at f
  .rename_i en;cases f;exact⟨by simp,hL,aF.symm,rfl,by dsimp only;rw[hn];exact en.symm⟩
  .obtain⟨a,c⟩:=h.bt n b f;exact⟨jm _ a,c⟩
 .dsimp only;rw[mf];rcases mem v z with z|rfl
  .obtain⟨b,q,r⟩:=h.all v z H;split
   .rename_i en;refine⟨_,rfl,?_⟩;rw[en,q]at hc;exact sF (of_decide_eq_true hc) r
   .exact⟨b,q,r⟩
  .rw[hn,if_pos rfl,aF];exact⟨_,rfl,pk _⟩
 .dsimp only at f⊢;rw[mf]at f⊢;split at f
  .rename_i en;rw[<- en,vS,if_pos rfl];exact⟨_,rfl⟩
  .split
   .exact⟨_,rfl⟩
   .exact h.has n b f
 .dsimp only at j⊢;rw[mf]at j;split at j
  .rename_i p;cases j;have self:bJ (dQ s.bt n0 ⟨d,w,w.line+1⟩) n0=I ⟨d,w,w.line+1⟩:=by rw[mf,if_pos rfl]
   cases C:bJ s.a9 g with
   |none=>exact⟨_,_,self,by rw[vS];exact p,by simp⟩
   |some A=>
    by_cases D:d<=A
    .exact⟨_,_,self,by rw[vS];exact p,by simp;exact(O [_,_] [] (.i (.l .x .y) (.l .x (.i .x .y)))) D⟩
    .obtain⟨n,b,q,r,B⟩:=(h.a9 g A C).1;refine⟨n,b,?_,by rw[r];exact p,by simp;exact(O [_,_,_] [] (.i (.n (.l .y .u)) (.i (.l .x .u) (.l .x (.i .y .u))))) D B⟩;rw[mf,if_neg λen=>?_]
     .exact q
     .rw[en,q]at hc;have:=of_decide_eq_true hc;exact(O [_,_,_] [] (.i (.n (.l .x .u)) (.i (.l .y .u) (.i (.l .x .y) .o)))) D B this
  .rename_i p;refine cps λG0 F=>?_;obtain⟨n,b,q,r,B⟩:=(h.a9 E m j).1;refine F ?_;clear F;refine⟨n,b,?_,r,B⟩;rw[mf,if_neg λen=>p (by rw[<- r,<- en,vS])];exact q
 .dsimp only at j f;rw[mf]at j f;split at j
  .rename_i p;cases j;split at f
   .cases f;exact Int.min_le_left _ _
   .obtain⟨A,em⟩:=h.has n b f;rw[hn,<- p]at em;rw[em,sC];exact sF (Int.min_le_right _ _) ((h.a9 g A em).2 n b f (by rw[hn,<- p]))
  .rename_i p;split at f
   .rename_i en;exact absurd (by rw[<- hn,<- en,vS]) p
   .exact(h.a9 E m j).2 n b f hn
theorem G0.au0(h:G0 ag ix dm kb pre s)(hL:¬ag w)(ek:aD.bT=(pre++[w]).filter λw=>a6 (¬ag w)&&kb)(eb:aD.bt=s.bt)(el:aD.a9=s.a9)(hn:ix w=n0)(aF:dm w=d)(hc:¬uC (bJ s.bt n0) d=ai):G0 ag ix dm kb (pre++[w]) aD:=by
 have mem:∀v,v∈pre++[w]->v∈pre\/v=w:=λv j=>(List.mem_append.mp j).imp id List.mem_singleton.mp;obtain⟨o,f,r⟩:∃o,bJ s.bt n0=I o/\¬d<=o.bc:=by
  cases f:bJ s.bt n0 with
  |none=>rw[f]at hc;exact absurd rfl hc
  |some o=>rw[f]at hc;exact⟨o,rfl,λz=>hc (decide_eq_true z)⟩
 refine⟨ek,λn b p=>?_,⟨λe=>?_,λe=>absurd (e w (by simp)) hL⟩,λv j A=>?_,λn b p=>?_,λB m q=>?_⟩
 .rw[eb]at p;obtain⟨a,c⟩:=h.bt n b p;exact⟨jm _ a,c⟩
 .rw[eb]at e;rw[e]at f;cases f
 .rw[eb];rcases mem v j with j|rfl
  .exact h.all v j A
  .rw[hn,aF];exact⟨o,f,by exact(O [_,_,_] [] (.i (.n (.l .y .x)) (.i (.e .u .y) (.l .x .y)))) r aF⟩
 .rw[eb]at p;rw[el];exact h.has n b p
 .rw[el]at q;rw[eb];exact h.a9 B m q
end
abbrev F0(t:Tr)(size:Int)(sp:aY)(ar:Bool)(pre:List aE)(s:dJ):Prop:=G0 (λw=>hF size (bQ t sp w)) (λw=>4*eQ (w.line+1) (t.bP+1)+(cA size (bQ t sp w)).2) (λw=>ko t sp ar w (cA size (bQ t sp w))) (a6 (sp.bD≠-10000)) pre s
theorem au1(h:F0 t size sp ar pre s)(ax:t.most=10000)(hh:0<=(bQ t sp w).h):F0 t size sp ar (pre++[w]) (mT t size sp ar s w):=by
 have o:=zT (size:=size) hh;have dr:=vL size (bQ t sp w);unfold mT;dsimp only;rw[ax];by_cases a:hF size (bQ t sp w)
 ·-- r hF:u x
  have b:10000<(cA size (bQ t sp w)).1:=o.mpr a;rw[if_pos b];have e:fO (cA size (bQ t sp w)).1 sp w s=s:=by unfold fO kI;rw[decide_eq_true b,au2,if_pos rfl]
  rw[e];exact h.at8 a
 .have b:¬10000<(cA size (bQ t sp w)).1:=λh=>a (o.mp h);rw[if_neg b];have j:(fO (cA size (bQ t sp w)).1 sp w s).bT=(pre++[w]).filter λw=>a6 (¬hF size (bQ t sp w))&&a6 (sp.bD≠-10000):=by
   rw[xH,<- h.bT];unfold fO kI;rw[decide_eq_false b,Ea];by_cases c:sp.bD=-10000
   .rw[decide_eq_true c,if_pos rfl,s6,if_neg (by simp[c]),Cs,dZ]
   .rw[decide_eq_false c,if_neg (by decide),s6,if_pos (by simp[c,a]),Cs]
  have l:(fO (cA size (bQ t sp w)).1 sp w s).bt=s.bt:=by unfold fO;split<;>rfl
  have m:(fO (cA size (bQ t sp w)).1 sp w s).a9=s.a9:=by unfold fO;split<;>rfl
  generalize fO (cA size (bQ t sp w)).1 sp w s=A at j l m;generalize aF:ko t sp ar w (cA size (bQ t sp w))=d;generalize p:eQ (w.line+1) (t.bP+1)=g;generalize q:(cA size (bQ t sp w)).2=f at dr;have y:(4*g+f).fdiv 4=g:=xB dr;rw[zU,l,m];dsimp only;have mem:∀v,v∈pre++[w]->v∈pre\/v=w:=λv z=>(List.mem_append.mp z).imp id List.mem_singleton.mp;by_cases i:uC (bJ s.bt (4*g+f)) d=ai
  .rw[if_pos i];exact h.iZ a j (by rw[p,q]) aF y i
  .rw[if_neg i];exact h.au0 a j l m (by rw[p,q]) aF i
theorem au3:∀(r pre:List aE) (s:dJ),F0 t size sp ar pre s->t.most=10000->(∀w∈r,0<=(bQ t sp w).h)->F0 t size sp ar (pre++r) (eD t size sp ar s r):=by
 intro c;induction c with
 |nil=>intro pre s h _ _;rw[dZ];exact h
 |cons w r e=>intro pre s h a b;have:=e (pre++[w]) _ (au1 h a (b w (.head _))) a λv f=>b v (.tail _ f);rw[dK]at this;exact this
theorem au4:F0 t size sp ar [] eh:=⟨rfl,λ_ _ h=>by(cases h),⟨λ_ _ h=>by(cases h),λ_=>rfl⟩,λ_ h=>by(cases h),λ_ _ h=>by(cases h),λ_ _ h=>by(cases h)⟩
theorem pL(ax:t.most=10000)(hh:∀w∈aW,0<=(bQ t sp w).h):F0 t size sp ar aW (eD t size sp ar eh aW):=by have:=au3 aW [] eh (au4 (t:=t) (size:=size) (sp:=sp) (ar:=ar)) ax hh;rw[m9]at this;exact this
end
section
variable{t:Tr}{size:Int}{sp:aY}{ar:Bool}{s:dJ}{w:aE}
theorem au5{S:bk}{bt:List (Int×gv)}{a9:List (Int×Int)}:∀(r:List Int) (bT:List aE),jO S sp bt a9 r bT=bT++jO S sp bt a9 r []:=by intro r bT;unfold jO;rw[m9]
theorem au6{S:bk}{bt:List (Int×gv)}{a9:List (Int×Int)}{v:aE}:∀{r:List Int},v∈jO S sp bt a9 r []↔∃n∈r,∃b,bJ bt n=I b/\b.bc<=(bJ a9 (n.fdiv 4)).getD 0+S.ed.natAbs/\v=.n sp b.line (n.fmod 4) b.bc b.w:=by intro r;unfold jO;rw[m9,List.mem_filterMap];exact exists_congr λn=>and_congr_right λ_=>N3
def jz(t:Tr)(sp:aY)(s:dJ):List aE:=jO t.S sp s.bt s.a9 (qX (s.bt.map (·.1))) []
theorem G4:v∈jz t sp s↔∃n b,bJ s.bt n=I b/\b.bc<=(bJ s.a9 (n.fdiv 4)).getD 0+t.S.ed.natAbs/\v=.n sp b.line (n.fmod 4) b.bc b.w:=by unfold jz;rw[au6];refine⟨λ⟨n,_,b,q⟩=>⟨n,b,q⟩,λ⟨n,b,q⟩=>⟨n,?_,b,q⟩⟩;exact(w4 _).mem_iff.mpr (Cf.mpr (by rw[q.1];rfl))
theorem Pq(aW:List aE):fj t size sp ar aW=(jb t size sp ar aW.length 0 eh aW).bT++jz t sp (jb t size sp ar aW.length 0 eh aW):=by unfold fj jz;exact au5 _ _
theorem G5{g f:Int}(aT:0<=f/\f<=3):(4*g+f).fmod 4=f:=by rw[Int.fmod_def,xB aT];exact O [_,_] [] (.e (.s (.p (.m 4 .x) .y) (.m 4 .x)) .y)
theorem F0.new(h:F0 t size sp ar aW s)(aT:∃w∈aW,¬hF size (bQ t sp w)):jz t sp s≠ []:=by refine cps λG0 a=>?_;obtain⟨w,d,f⟩:=aT;obtain⟨b,e,_⟩:=h.all w d f;obtain⟨m,em⟩:=h.has _ b e;obtain⟨n,g,j,o,q⟩:=(h.a9 _ m em).1;refine a ?_;clear a;refine List.ne_nil_of_mem (G4.mpr ⟨n,g,j,?_,rfl⟩);rw[o,em,sC];exact(O [_,_,_] [] (.i (.l .x .y) (.l .x (.p .y (.c (.n .u)))))) q
theorem F0.mem(h:F0 t size sp ar aW s)(hv:v∈jz t sp s):∃w∈aW,¬hF size (bQ t sp w)/\v=.n sp (w.line+1) (cA size (bQ t sp w)).2 (ko t sp ar w (cA size (bQ t sp w))) w:=by refine cps λG0 a=>?_;obtain⟨n,b,c,j,rfl⟩:=G4.mp hv;obtain⟨d,e,f,g,i⟩:=h.bt n b c;refine a ?_;clear a;refine⟨b.w,d,e,?_⟩;rw[i,G5 (vL _ _),f,g]
theorem tf(mU:t.last=ak):fj t size sp ar aW=(eD t size sp ar eh aW).bT++jz t sp (eD t size sp ar eh aW):=by
 rw[Pq];rcases xS aW with rfl|⟨a,w,rfl⟩
 .rfl
 .rw[xT,Pp,if_neg];unfold uB;rw[mU,Ky,rh];decide
theorem G6{dh:List aE}{w:aE}(mU:t.last=ai)(ax:t.most=10000)(hh:∀v∈dh++[w],0<=(bQ t sp v).h):((kI (cA size (bQ t sp w)).1 sp=ai/\∀v∈dh,hF size (bQ t sp v))/\fj t size sp ar (dh++[w])=[.n sp (w.line+1) (cA size (bQ t sp w)).2 w.bc w])\/(¬(kI (cA size (bQ t sp w)).1 sp=ai/\∀v∈dh,hF size (bQ t sp v))/\fj t size sp ar (dh++[w])=(eD t size sp ar eh (dh++[w])).bT++jz t sp (eD t size sp ar eh (dh++[w]))):=by
 have cQ:=pL (t:=t) (size:=size) (sp:=sp) (ar:=ar) (aW:=dh) ax λv hv=>hh v (jm _ hv);have eb:(eD t size sp ar eh dh).bt.isEmpty=ai↔∀v∈dh,hF size (bQ t sp v):=by rw[au7,cQ.none]
 have ek:(∀v∈dh,hF size (bQ t sp v))->(eD t size sp ar eh dh).bT=[]:=λh=>by
  rw[cQ.bT];exact List.filter_eq_nil_iff.mpr λv hv=>by simp[h v hv]
 have er:uB t size sp ar dh w=ai↔(kI (cA size (bQ t sp w)).1 sp=ai/\∀v∈dh,hF size (bQ t sp v)):=by unfold uB;rw[mU,Bool.true_and,lR,lR,eb];exact⟨λh=>⟨h.1,h.2.2⟩,λh=>⟨h.1,by rw[ek h.2];rfl,h.2⟩⟩
 rw[Pq,Pp];by_cases hr:uB t size sp ar dh w=ai
 .refine .inl ⟨er.mp hr,?_⟩;rw[if_pos hr];have Pr:=(er.mp hr).2;have hk:=ek Pr;have hb:(eD t size sp ar eh dh).bt=[]:=cQ.none.mpr Pr;have hl:∀g,bJ (eD t size sp ar eh dh).a9 g=none:=λg=>by
   cases e:bJ (eD t size sp ar eh dh).a9 g with
   |none=>rfl
   |some m=>obtain⟨n,b,e1,_⟩:=(cQ.a9 g m e).1;rw[hb]at e1;cases e1
  rw[zU,hb,show uC (bJ [] (4*eQ (w.line+1) (t.bP+1)+(cA size (bQ t sp w)).2)) w.bc=ai from rfl,if_pos rfl,hl];dsimp only;rw[hk,m9,Jq,G7];have dr:=vL size (bQ t sp w);generalize eQ (w.line+1) (t.bP+1)=g;generalize(cA size (bQ t sp w)).2=f at dr;show jO t.S sp [(4*g+f,_)] _ (qX [4*g+f]) []=_;have hg:bJ (dQ (eD t size sp ar eh dh).a9 g w.bc) g=I w.bc:=by rw[mf,if_pos rfl]
  have e1:bJ [(4*g+f,(⟨w.bc,w,w.line+1⟩:gv))] (4*g+f)=I ⟨w.bc,w,w.line+1⟩:=if_pos rfl;refine(zB (xC e1 ?_)).trans ?_
  .rw[xB dr,hg,sC];exact O [_,_] [] (.l .x (.p .x (.c (.n .y))))
  .rw[zD,G5 dr];rfl
 .exact .inr ⟨λh=>hr (er.mpr h),by rw[if_neg hr]⟩
end
structure Sq(gr:Sm)(a b:aY):Prop where
 cP:a.cP<=b.p
 bb:a.b.n- a.b.h<=b.b.n- b.b.h
 ee:a.e.n- a.e.h<=b.e.n- b.e.h
 h:0<=b.e.h- a.b.h+gr.h
 p:a.p<b.p
 Iw:a.b.n- a.b.h<=b.e.n- b.e.h
def TL(size:Int)(gr:Sm)(a b:aY):Prop:=hF size (ot a.b b.e gr)
theorem TL.zV:TL size gr a b↔size<(b.e.n- b.e.h)- (a.b.n- a.b.h)+(gr.n- gr.h):=by skip;skip;constructor<;>intro h<;>(first|exact(O [_,_,_,_,_,_,_] [] (.i (.t .x (.s (.p (.s .y .w) .d) (.p (.s .u .b) .e))) (.t .x (.p (.s (.s .y .u) (.s .w .b)) (.s .d .e))))) h|exact(O [_,_,_,_,_,_,_] [] (.i (.t .x (.p (.s (.s .y .b) (.s .u .d)) (.s .w .e))) (.t .x (.s (.p (.s .y .u) .w) (.p (.s .b .d) .e))))) h)
theorem TL.right(h:Sq gr b c)(x:TL size gr a b):TL size gr a c:=by rw[TL.zV]at x⊢;have:=h.ee;exact(O [_,_,_,_,_,_,_,_,_] [] (.i (.t .x (.p (.s (.s .f .h) (.s .w .b)) (.s .d .e))) (.i (.l (.s .f .h) (.s .y .u)) (.t .x (.p (.s (.s .y .u) (.s .w .b)) (.s .d .e)))))) x this
theorem TL.left(h:Sq gr a b)(x:TL size gr b c):TL size gr a c:=by rw[TL.zV]at x⊢;have:=h.bb;exact(O [_,_,_,_,_,_,_,_,_] [] (.i (.t .x (.p (.s (.s .y .u) (.s .f .h)) (.s .d .e))) (.i (.l (.s .w .b) (.s .f .h)) (.t .x (.p (.s (.s .y .u) (.s .w .b)) (.s .d .e)))))) x this
theorem qM(h:Sq t.gr w.s sp):bQ t sp w=ot w.s.b sp.e t.gr:=if_neg (Int.not_lt.mpr h.cP)
theorem lN(h:Sq t.gr w.s sp):0<=(bQ t sp w).h:=by rw[qM h];exact h.h
inductive jA(size:Int)(gr:Sm):List aY->aE->Prop
 |iL {s l f d}:jA size gr [s] (.iL s l f d)
 |next {D D2 s l f d bf}:jA size gr D bf->((¬TL size gr bf.s s/\∀m∈D2,m.bD≠-10000)\/(TL size gr bf.s s/\D2=[]))->jA size gr (D++D2++[s]) (.n s l f d bf)
theorem jA.mQ(h:jA size gr D w):∃D1,D=D1++[w.s]:=by
 cases h with
 |iL=>exact⟨[],rfl⟩
 |next h1 h2=>exact⟨_,rfl⟩
structure Pass(size:Int)(gr:Sm)(D:List aY)(aW:List aE):Prop where
 zW:∀w∈aW,∃D1 D2,D=D1++D2/\jA size gr D1 w/\∀m∈D2,¬TL size gr w.s m/\m.bD≠-10000
 last:∃dh w,aW=dh++[w]/\jA size gr D w
theorem Pass.sq(h:Pass size gr D aW)(hp:∀a∈D,Sq gr a sp):∀w∈aW,Sq gr w.s sp:=by intro w b;obtain⟨f,D2,e,c,_⟩:=h.zW w b;obtain⟨D0,d⟩:=c.mQ;exact hp _ (by rw[e,d];simp)
theorem Pass.Pu(h:Pass size t.gr D aW)(hp:∀a∈D,Sq t.gr a sp)(ax:t.most=10000)(aT:∃w∈aW,¬hF size (bQ t sp w)):Pass size t.gr (D++[sp]) ((eD t size sp ar eh aW).bT++jz t sp (eD t size sp ar eh aW)):=by
 have n:=h.sq hp;have F:=pL (t:=t) (size:=size) (sp:=sp) (ar:=ar) (aW:=aW) ax λw b=>lN (n w b);have tl:∀w∈aW,(hF size (bQ t sp w)↔TL size t.gr w.s sp):=λw b=>by rw[qM (n w b)];exact Iff.rfl
 have new:∀v∈jz t sp (eD t size sp ar eh aW),jA size t.gr (D++[sp]) v:=λv p=>by
  refine cps λG0 g=>?_;obtain⟨w,b,q,rfl⟩:=F.mem p;obtain⟨o,D2,e,c,i⟩:=h.zW w b;refine g ?_;clear g;have:=jA.next (s:=sp) (l:=w.line+1) (f:=(cA size (bQ t sp w)).2) (d:=ko t sp ar w (cA size (bQ t sp w))) (D2:=D2) c (.inl ⟨λh=>q ((tl w b).mpr h),λm ax=>(i m ax).2⟩);rw[<- e]at this;exact this
 refine⟨λw b=>?_,?_⟩
 .rcases List.mem_append.mp b with b|b
  .rw[F.bT]at b;refine cps λG0 g=>?_;obtain⟨b,j⟩:=List.mem_filter.mp b;rw[lR,decide_eq_true_eq,decide_eq_true_eq]at j;obtain⟨o,D2,e,c,i⟩:=h.zW w b;refine g ?_;clear g;refine⟨o,D2++[sp],by rw[e];simp,c,λm ax=>?_⟩;rcases List.mem_append.mp ax with ax|ax
   .exact i m ax
   .cases List.mem_singleton.mp ax;exact⟨λh=>j.1 ((tl w b).mpr h),j.2⟩
  .exact⟨D++[sp],[],by simp,new w b,λ_ h=>by cases h⟩
 .have r:=F.new aT;refine cps λG0 g=>?_;rcases xS (jz t sp (eD t size sp ar eh aW))with e|⟨u,v,e⟩
  .refine g ?_;clear g;exact absurd e r
  .refine g ?_;clear g;rw[xT]at e;refine⟨(eD t size sp ar eh aW).bT++u,v,by rw[e,dK],new v ?_⟩;rw[e];simp
theorem Pass.au8(h:Pass size t.gr D aW)(hp:∀a∈D,Sq t.gr a sp)(ax:t.most=10000)(mU:t.last=ai):Pass size t.gr (D++[sp]) (fj t size sp ar aW):=by
 have j:=h.sq hp;obtain⟨dh,w,e,c⟩:=h.last;subst e;rcases G6 (t:=t) (size:=size) (sp:=sp) (ar:=ar) (dh:=dh) (w:=w) mU ax (λv b=>lN (j v b))with⟨⟨m,i⟩,e⟩|⟨m,e⟩
 .rw[e];have o:jA size t.gr (D++[sp]) (.n sp (w.line+1) (cA size (bQ t sp w)).2 w.bc w):=by
   have:=jA.next (s:=sp) (l:=w.line+1) (f:=(cA size (bQ t sp w)).2) (d:=w.bc) (D2:=[]) c (by
    by_cases g:TL size t.gr w.s sp
    .exact .inr ⟨g,rfl⟩
    .exact .inl ⟨g,λ_ h=>by cases h⟩)
   rw[dZ]at this;exact this
  exact⟨λv b=>by cases List.mem_singleton.mp b;exact⟨D++[sp],[],by simp,o,λ_ h=>by cases h⟩,[],_,rfl,o⟩
 .rw[e];refine h.Pu hp ax ?_;by_cases i:∀v∈dh,hF size (bQ t sp v)
  .refine⟨w,by simp,λg=>m ⟨?_,i⟩⟩;unfold kI;rw[decide_eq_true ((zT (lN (j w (by simp)))).mpr g)];rfl
  .obtain⟨v,b⟩:=Classical.not_forall.mp i;obtain⟨b,g⟩:=Classical.not_imp.mp b;exact⟨v,by simp[b],g⟩
theorem Pass.CN(h:Pass size t.gr D aW)(hp:∀a∈D,Sq t.gr a sp)(ax:t.most=10000)(mU:t.last=ak)(cS:fj t size sp ar aW≠ []):Pass size t.gr (D++[sp]) (fj t size sp ar aW)/\∃w∈aW,¬TL size t.gr w.s sp:=by
 have e:=h.sq hp;have F:=pL (t:=t) (size:=size) (sp:=sp) (ar:=ar) (aW:=aW) ax λw b=>lN (e w b);have f:∃w∈aW,¬hF size (bQ t sp w):=by
  rw[tf mU]at cS;cases g:(eD t size sp ar eh aW).bT with
  |cons v l=>
   have c:v∈(eD t size sp ar eh aW).bT:=by rw[g];simp
   rw[F.bT]at c;obtain⟨c,i⟩:=List.mem_filter.mp c;rw[lR,decide_eq_true_eq,decide_eq_true_eq]at i;exact⟨v,c,i.1⟩
  |nil=>rw[g,m9]at cS;obtain⟨v,c⟩:=List.exists_mem_of_ne_nil _ cS;obtain⟨w,b,d,_⟩:=F.mem c;exact⟨w,b,d⟩
 refine⟨by rw[tf mU];exact h.Pu hp ax f,?_⟩;obtain⟨w,b,d⟩:=f;rw[qM (e w b)]at d;exact⟨w,b,d⟩
theorem Pass.Pw(h:Pass size t.gr D aW)(hp:∀a∈D,Sq t.gr a sp)(ax:t.most=10000)(mU:t.last=ak)(aT:∃w∈aW,¬TL size t.gr w.s sp):fj t size sp ar aW≠ []:=by
 have c:=h.sq hp;have F:=pL (t:=t) (size:=size) (sp:=sp) (ar:=ar) (aW:=aW) ax λw b=>lN (c w b);rw[tf mU];have:=F.new (by
  obtain⟨w,b,d⟩:=aT;exact⟨w,b,by rw[qM (c w b)];exact d⟩)
 intro e;exact this (List.append_eq_nil_iff.mp e).2
section
noncomputable def dz{aK de:Type}(R:aK->de->Prop):List aK->List de->Prop
 |[],[]=>True
 |a::l,b::r=>R a b/\dz R l r
 |_,_=>False
section
variable{aK de:Type}{R:aK->de->Prop}
theorem dz.ow{P:List aK->List de->Prop}{l:List aK}{r:List de}(x:dz R l r)(cQ:P [] [])(h1:∀a b l r,R a b->dz R l r->P l r->P (a::l) (b::r)):P l r:=by
 induction l generalizing r with
 |nil=>cases r with
  |nil=>exact cQ
  |cons=>exact x.elim
 |cons a l ih=>cases r with
  |nil=>exact x.elim
  |cons b r=>exact h1 a b l r x.1 x.2 (ih x.2)
theorem dz.iE{a b:List aK}{cY cp:List de}(x:dz R a cY)(h:dz R b cp):dz R (a++b) (cY++cp):=x.ow (P:=λa cY=>dz R (a++b) (cY++cp)) h λ_ _ _ _ h _ ih=>And.intro h ih
theorem dz.mN{w:aK}{v:de}{ws:List aK}{vs:List de}(h:R w v)(x:dz R ws vs):dz R (ws++[w]) (vs++[v]):=x.iE ⟨h,trivial⟩
theorem dz.aL{a:List aK}{b:List de}(x:dz R a b):b.length=a.length:=x.ow (P:=λa b=>b.length=a.length) rfl λ_ _ _ _ _ _ ih=>congrArg (· +1) ih
theorem dz.bI(h:∀a b,R a b->mS a b)(x:dz R a b):dz mS a b:=x.ow (P:=dz mS) trivial λ_ _ _ _ q _ d=>And.intro (h _ _ q) d
theorem dz.mem(x:dz R a b):w∈b->∃v∈a,R v w:=x.ow (P:=λa b=>w∈b->∃v∈a,R v w) (λh=>absurd h nv) λv _ _ _ q _ d h=>(List.mem_cons.mp h).elim (λe=>⟨v,.head _,e▸q⟩) λh=>(d h).elim λu h=>⟨u,.tail _ h.1,h.2⟩
theorem dz.CP(x:dz R a b):v∈a->∃w∈b,R v w:=x.ow (P:=λa b=>v∈a->∃w∈b,R v w) (λh=>absurd h nv) λ_ w _ _ q _ d h=>(List.mem_cons.mp h).elim (λe=>⟨w,.head _,e▸q⟩) λh=>(d h).elim λu h=>⟨u,.tail _ h.1,h.2⟩
theorem dz.split:∀{a:List aK} {v:aK} {b:List de},dz R (a++[v]) b->∃cY fg,b=cY++[fg]/\dz R a cY/\R v fg:=by
 intro a v;induction a with
 |nil=>intro b h;cases b with
  |nil=>exact h.elim
  |cons fg b=>cases b with
   |nil=>exact⟨[],fg,rfl,trivial,h.1⟩
   |cons=>exact h.2.elim
 |cons w a f=>intro b h;cases b with
  |nil=>exact h.elim
  |cons u b=>refine cps λG0 d=>?_;obtain⟨cY,fg,e,g,i⟩:=f h.2;refine d ?_;clear d;exact⟨u::cY,fg,congrArg (u::·) e,⟨h.1,g⟩,i⟩
end
def KV{aK de:Type}(R:aK->de->Prop)(p:Int×aK)(q:Int×de):Prop:=q.1=p.1/\R p.2 q.2
section
variable{aK de:Type}{R:aK->de->Prop}
theorem dz.fst(x:dz (KV R) l r):r.map (·.1)=l.map (·.1):=x.ow (P:=λl r=>r.map (·.1)=l.map (·.1)) rfl λ_ _ _ _ q _ a=>by rw[oV,oV,q.1,a]
theorem dz.get(x:dz (KV R) l r):(bJ l n=aa/\bJ r n=aa)\/∃b cp,bJ l n=I b/\bJ r n=I cp/\R b cp:=by
 refine x.ow (P:=λl r=>(bJ l n=aa/\bJ r n=aa)\/∃b cp,bJ l n=I b/\bJ r n=I cp/\R b cp) (.inl ⟨rfl,rfl⟩) λp q l r h _ a=>?_;by_cases e:p.1=n
 .exact .inr ⟨p.2,q.2,if_pos e,if_pos (h.1.trans e),h.2⟩
 .have d:bJ (p::l) n=bJ l n:=if_neg e;have f:bJ (q::r) n=bJ r n:=if_neg λk=>e (h.1.symm.trans k);rw[d,f];exact a
theorem dz.iZ(h:R b cp)(x:dz (KV R) l r):dz (KV R) (dQ l n b) (dQ r n cp):=by
 refine x.ow (P:=λl r=>dz (KV R) (dQ l n b) (dQ r n cp)) ⟨⟨rfl,h⟩,trivial⟩ λp q l r k x f=>?_;obtain⟨d,j⟩:=p;obtain⟨g,m⟩:=q;have a:g=d:=k.1;unfold dQ;by_cases e:d=n
 .rw[if_pos e,if_pos (a.trans e)];exact And.intro ⟨a,h⟩ x
 .rw[if_neg e,if_neg λi=>e (a.symm.trans i)];exact And.intro k f
end
structure pM(aA:aE->aE->Prop)(c:Int)(w v:aE):Prop where
 r:aA w v
 bc:v.bc=w.bc+c
structure G9(aA:aE->aE->Prop)(c:Int)(b cp:gv):Prop where
 bc:cp.bc=b.bc+c
 w:aA b.w cp.w
 line:b.line=b.w.line+1/\cp.line=cp.w.line+1
abbrev kN(aA:aE->aE->Prop)(c:Int):List aE->List aE->Prop:=dz (pM aA c)
structure zX(t b8:Tr)(sp f7:aY)(ar ib:Bool)(aA oJ:aE->aE->Prop)(rU:Int):Prop where
 S:b8.S=t.S
 most:b8.most=t.most
 sum:∀{w v},aA w v->bQ b8 f7 v=bQ t sp w
 bc:∀{w v},aA w v->∀bf,ko b8 f7 ib v bf- v.bc=ko t sp ar w bf- w.bc+rU
 Ha:∀{w v},aA w v->eQ (v.line+1) (b8.bP+1)=eQ (w.line+1) (t.bP+1)
 next:∀{w v f d mi},aA w v->oJ (.n sp (w.line+1) f d w) (.n f7 (v.line+1) f mi v)
structure lO(H:Prop)(aA:aE->aE->Prop)(c dU:Int)(s aD:dJ):Prop where
 bT:H->kN aA c s.bT aD.bT
 bt:dz (KV (G9 aA dU)) s.bt aD.bt
 a9:dz (KV λa b:Int=>b=a+dU) s.a9 aD.a9
variable{t b8:Tr}{size:Int}{sp f7:aY}{ar ib:Bool}{c dU rU:Int}{aA oJ:aE->aE->Prop}{H:Prop}
theorem lO.iZ(x:lO H aA c dU s aD)(h:G9 aA dU b cp):lO H aA c dU (nI s g f b) (nI aD g f cp):=by
 rw[zU,zU];have j:uC (bJ aD.bt (4*g+f)) cp.bc=uC (bJ s.bt (4*g+f)) b.bc:=by
  rcases x.bt.get (n:=4*g+f)with⟨a,d⟩|⟨o,q,a,d,l⟩<;>rw[a,d]
  .rfl
  .exact decide_eq_decide.mpr (by rw[h.bc,l.bc];exact Int.add_le_add_iff_right _)
 rw[j];split
 .refine⟨x.bT,x.bt.iZ h,x.a9.iZ ?_⟩;rcases x.a9.get (n:=g)with⟨a,d⟩|⟨m,_,a,d,rfl⟩<;>rw[a,d,h.bc]
  .exact(G7 _).trans (congrArg (· +dU) (G7 _).symm)
  .show eQ _ _=eQ _ _+dU;simp only[sC];exact O [_,_,_] [] (.e (.i (.p .x .y) (.p .u .y)) (.p (.i .x .u) .y))
 .exact x
theorem Px(cW:Int)(sp:aY)(w:aE)(s:dJ):fO cW sp w s=⟨if kI cW sp=ai then s.bT else s.bT++[w],s.bt,s.a9⟩:=by unfold fO;split<;>rfl
theorem lO.step(x:zX t b8 sp f7 ar ib aA oJ rU)(hH:H->f7.bD=sp.bD)(h:lO H aA c (c+rU) s aD)(aj:pM aA c w v):lO H aA c (c+rU) (mT t size sp ar s w) (mT b8 size f7 ib aD v):=by
 unfold mT;dsimp only;rw[x.sum aj.r,x.most,x.Ha aj.r];generalize cA size (bQ t sp w)=a;have f:lO H aA c (c+rU) (fO a.1 sp w s) (fO a.1 f7 v aD):=by
  rw[Px,Px];refine⟨λk=>?_,h.bt,h.a9⟩;unfold kI;rw[hH k];dsimp only;split
  .exact h.bT k
  .exact(h.bT k).mN aj
 split
 .exact f
 .refine f.iZ ⟨?_,aj.r,rfl,rfl⟩;have:=x.bc aj.r a;have:=aj.bc;dsimp only;exact(O [_,_,_,_,_,_] [] (.i (.e (.s .x .b) (.p (.s .y .d) .w)) (.i (.e .b (.p .d .u)) (.e .x (.p .y (.p .u .w)))))) ‹_› this
theorem lO.CQ(x:zX t b8 sp f7 ar ib aA oJ rU)(hH:H->f7.bD=sp.bD):∀{ws vs:List aE} {s aD:dJ},lO H aA c (c+rU) s aD->kN aA c ws vs->lO H aA c (c+rU) (eD t size sp ar s ws) (eD b8 size f7 ib aD vs)
 |[],[],_,_,h,_=>h
 |_::_,_::_,_,_,h,aj=>by unfold eD;exact lO.CQ x hH (h.step x hH aj.1) aj.2
theorem au9{S:bk}{bt Py:List (Int×gv)}{a9 Pz:List (Int×Int)}(hn:∀{w v f d mi},aA w v->oJ (.n sp (w.line+1) f d w) (.n f7 (v.line+1) f mi v))(hb:dz (KV (G9 aA c)) bt Py)(hl:dz (KV λa b:Int=>b=a+c) a9 Pz)(hs:∀n b,bJ bt n=I b->∃m,bJ a9 (n.fdiv 4)=I m):∀{r:List Int} {k lP:List aE},kN oJ c k lP->kN oJ c (jO S sp bt a9 r k) (jO S f7 Py Pz r lP):=by
 intro r;induction r with
 |nil=>intro k lP h;rw[zD,zD];exact h
 |cons n r ih=>
  intro k lP h;refine cps λG0 g0=>?_;rcases hb.get (n:=n)with⟨e1,e2⟩|⟨o,hV,e1,e2,ho⟩
  .refine g0 ?_;clear g0;rw[zC (by unfold qy;rw[e1];rfl),zC (by unfold qy;rw[e2];rfl)];exact ih h
  .refine g0 ?_;clear g0;obtain⟨m,em⟩:=hs n o e1;refine cps λG0 g0=>?_;refine cps λG0 g0=>?_;rcases hl.get (n:=n.fdiv 4)with⟨e3,e4⟩|⟨ki,_,e3,e4,rfl⟩
   .refine g0 ?_;clear g0;refine g0 ?_;clear g0;rw[em]at e3;cases e3
   .refine g0 ?_;clear g0;refine g0 ?_;clear g0;have aF:=ho.bc;by_cases hc:o.bc<=ki+S.ed.natAbs
    .rw[zB (xC e1 (by rw[e3];exact hc)),zB (xC e2 (by rw[e4];exact(O [_,_,_,_,_] [] (.i (.e .x (.p .b .u)) (.i (.l .b (.p .y (.c (.n .w)))) (.l .x (.p (.p .y .u) (.c (.n .w))))))) aF hc))];refine ih (h.mN ⟨?_,aF⟩);rw[ho.line.1,ho.line.2];exact hn ho.w
    .rw[zC (Ci e1 (by rw[e3];exact hc)),zC (Ci e2 (by rw[e4];exact(O [_,_,_,_,_] [] (.i (.e .x (.p .b .u)) (.i (.n (.l .b (.p .y (.c (.n .w))))) (.n (.l .x (.p (.p .y .u) (.c (.n .w)))))))) aF hc))];exact ih h
theorem lO.new(x:zX t b8 sp f7 ar ib aA oJ rU)(h:lO H aA c dU s aD)(hs:∀n b,bJ s.bt n=I b->∃m,bJ s.a9 (n.fdiv 4)=I m):kN oJ dU (jz t sp s) (jz b8 f7 aD):=by unfold jz;rw[x.S,h.bt.fst];exact au9 x.next h.bt h.a9 hs (k:=[]) (lP:=[]) trivial
theorem Hb:lO H aA c dU eh eh:=⟨λ_=>trivial,trivial,trivial⟩
structure jR(w v:aE):Prop where
 s:v.s=w.s
 line:v.line=w.line
 fL:v.fL=w.fL
 Hc:qz v=qz w
structure uD(t b8:Tr):Prop where
 S:b8.S=t.S
 most:b8.most=t.most
 gr:b8.gr=t.gr
 bP:b8.bP=t.bP
theorem jR.sum(h:jR w v)(x:uD t b8):bQ b8 sp v=bQ t sp w:=by unfold bQ;rw[h.s,x.gr]
theorem uD.vT(x:uD t b8):zX t b8 sp sp ar ar jR jR 0 where
 S:=x.S
 most:=x.most
 sum h:=h.sum x
 bc h bf:=by unfold ko zz;rw[h.s,h.fL,x.S];exact O [_,_,_,_] [] (.e (.s (.p .x (.p .y .u)) .x) (.p (.s (.p .w (.p .y .u)) .w) 0))
 Ha h:=by rw[h.line,x.bP]
 next h:=⟨rfl,congrArg (· +1) h.line,rfl,congrArg (sp.p::·) h.Hc⟩
theorem PA(ax:t.most=10000):∀{r:List aE} {s:dJ},(∀w∈r,hF size (bQ t sp w)/\0<=(bQ t sp w).h)->eD t size sp ar s r=s
 |[],_,_=>rfl
 |w::r,s,h=>by
  obtain⟨h1,h2⟩:=h w (.head _);have a:=(zT h2).mpr h1;have e:mT t size sp ar s w=s:=by unfold mT fO kI;dsimp only;rw[ax,if_pos a,decide_eq_true a,au2,if_pos rfl]
  show eD t size sp ar (mT t size sp ar s w) r=s;rw[e];exact PA ax λv b=>h v (.tail _ b)
theorem PC(x:uD t b8)(cQ:t.last=ak)(h1:b8.last=ai)(ax:t.most=10000)(P:Pass size t.gr D aW)(hp:∀a∈D,Sq t.gr a sp)(hs:kN jR c aW ia)(cS:fj t size sp ar aW≠ []):∃dU,kN jR dU (fj t size sp ar aW) (fj b8 size sp ar ia):=by
 have i:=P.sq hp;have F:=pL (t:=t) (size:=size) (sp:=sp) (ar:=ar) (aW:=aW) ax λw T=>lN (i w T);refine cps λG0 b=>?_;obtain⟨_,w0,j,q⟩:=P.CN hp ax cQ cS;obtain⟨dh,w,U,_⟩:=P.last;refine b ?_;clear b;subst U;refine cps λG0 b=>?_;obtain⟨E,m,W,Y,K⟩:=dz.split hs;refine b ?_;clear b;subst W;have Z:∀v∈E++[m],0<=(bQ b8 sp v).h:=λv o=>by
  refine cps λG0 b=>?_;obtain⟨u,z,y⟩:=hs.mem o;refine b ?_;clear b;rw[y.r.sum x];exact lN (i u z)
 have EC:b8.most=10000:=by rw[x.most];exact ax
 rw[tf cQ]at cS⊢;refine cps λG0 b=>?_;rcases G6 (t:=b8) (size:=size) (sp:=sp) (ar:=ar) (dh:=E) (w:=m) h1 EC Z with⟨⟨L,q2⟩,e⟩|⟨_,e⟩
 .refine b ?_;clear b;rw[e];have M:∀v∈dh,hF size (bQ t sp v)/\0<=(bQ t sp v).h:=λv o=>by
   refine cps λG0 b=>?_;obtain⟨u,z,y⟩:=Y.CP o;refine b ?_;clear b;have:=q2 u z;rw[y.r.sum x]at this;exact⟨this,lN (i v (by simp[o]))⟩
  have A:¬hF size (bQ t sp w):=λhl=>by
   rcases List.mem_append.mp j with j|j
   .exact q (by unfold TL;rw[<- qM (i w0 (by simp[j]))];exact(M w0 j).1)
   .have ew:=List.mem_singleton.mp j;rw[ew]at q;exact q (by unfold TL;rw[<- qM (i w (by simp))];exact hl)
  have N:bQ b8 sp m=bQ t sp w:=K.r.sum x;have B:0<=(bQ t sp w).h:=lN (i w (by simp));have C:¬10000<(cA size (bQ t sp w)).1:=λh=>A ((zT B).mp h);rw[N]at L;have dr:=vL size (bQ t sp w);have e0:eD t size sp ar eh (dh++[w])=nI eh (eQ (w.line+1) (t.bP+1)) (cA size (bQ t sp w)).2 ⟨ko t sp ar w (cA size (bQ t sp w)),w,w.line+1⟩:=by rw[Po,PA ax M];show mT t size sp ar eh w=_;unfold mT fO;dsimp only;rw[ax,if_neg C,if_pos L]
  rw[e0,zU,show uC (bJ eh.bt (4*eQ (w.line+1) (t.bP+1)+(cA size (bQ t sp w)).2)) (ko t sp ar w (cA size (bQ t sp w)))=ai from rfl,if_pos rfl,N];generalize eQ (w.line+1) (t.bP+1)=g;generalize aF:ko t sp ar w (cA size (bQ t sp w))=d;generalize(cA size (bQ t sp w)).2=f at dr;refine⟨m.bc- d,?_⟩;have en:jz t sp ⟨[],[(4*g+f,⟨d,w,w.line+1⟩)],[(g,eQ d d)]⟩=[.n sp (w.line+1) f d w]:=by
   have e1:bJ [(4*g+f,(⟨d,w,w.line+1⟩:gv))] (4*g+f)=I ⟨d,w,w.line+1⟩:=if_pos rfl;have e2:bJ [(g,eQ d d)] g=I (eQ d d):=if_pos rfl;show jO t.S sp _ _ (qX [4*g+f]) []=_;refine(zB (xC e1 ?_)).trans ?_
   .rw[xB dr,e2,sC,G7];exact O [_,_] [] (.l .x (.p .x (.c (.n .y))))
   .rw[zD,G5 dr];rfl
  show kN jR _ ([]++jz t sp ⟨[],[(4*g+f,⟨d,w,w.line+1⟩)],[(g,eQ d d)]⟩) _;rw[en,m9];exact⟨⟨x.vT.next (ar:=ar) K.r,by show m.bc=d+(m.bc- d);exact O [_,_] [] (.e .x (.p .y (.s .x .y)))⟩,trivial⟩
 .refine b ?_;clear b;rw[e];have S:=lO.CQ (H:=True) (size:=size) (c:=c) (x.vT (sp:=sp) (ar:=ar)) (λ_=>rfl) Hb hs;rw[fW]at S;exact⟨c,(S.bT trivial).iE (S.new (x.vT (sp:=sp) (ar:=ar)) F.has)⟩
end
section
variable{t b8:Tr}{size:Int}{c:Int}{aL:Int}
noncomputable def vU(size:Int)(gr:Sm):aY->List aY->Prop
 |_,[]=>True
 |a,s::r=>¬TL size gr a s/\vU size gr s r
theorem vV:l.isEmpty=ai↔l=[]:=au7
theorem Pass.eH(h:Pass size gr D aW):aW≠ []:=by obtain⟨a,w,e,_⟩:=h.last;rw[e];simp
theorem He(h:(D++s::r).Pairwise (Sq gr)):(∀a∈D,Sq gr a s)/\(D++[s]++r).Pairwise (Sq gr):=by have b:=List.pairwise_append.mp h;exact⟨λa d=>b.2.2 a d s (.head _),by rw[dK];exact h⟩
theorem PD(ax:t.most=10000)(hl:t.last=ai):∀(je D:List aY) (aW:List aE),(D++je).Pairwise (Sq t.gr)->Pass size t.gr D aW->∃ia,jk t size aL je aW=I ia/\Pass size t.gr (D++je) ia:=by
 intro d;induction d with
 |nil=>exactλD aW _ P=>⟨aW,rfl,by rw[dZ];exact P⟩
 |cons s r f=>intro D aW g P;obtain⟨i,j⟩:=He g;have a:=P.au8 (ar:=a6 (s.p=aL)) i ax hl;obtain⟨ia,e,b⟩:=f (D++[s]) _ j a;refine⟨ia,?_,by rw[dK]at b;exact b⟩;rw[uk];rw[if_neg (λh=>a.eH (vV.mp h))];exact e
theorem PF(ax:t.most=10000)(hl:t.last=ak):∀(je D:List aY) (a:aY) (aW:List aE),(D++[a]++je).Pairwise (Sq t.gr)->Pass size t.gr (D++[a]) aW->(jk t size aL je aW=aa/\¬vU size t.gr a je)\/∃ia,jk t size aL je aW=I ia/\Pass size t.gr (D++[a]++je) ia/\vU size t.gr a je:=by
 intro o;induction o with
 |nil=>exactλD a aW _ P=>.inr ⟨aW,rfl,by rw[dZ];exact P,trivial⟩
 |cons s r i=>
  intro D a aW j P;obtain⟨l,q⟩:=He j;by_cases d:fj t size s (a6 (s.p=aL)) aW=[]
  .refine .inl ⟨?_,λf=>?_⟩
   .rw[uk];rw[if_pos (vV.mpr d)]
   .obtain⟨L,w,e,c⟩:=P.last;obtain⟨u,v⟩:=c.mQ;have x:w.s=a:=by
     have:=av3 v rfl;exact(jV this).1.symm
    exact P.Pw (ar:=a6 (s.p=aL)) l ax hl ⟨w,by rw[e];simp,by rw[x];exact f.1⟩ d
  .obtain⟨y,w,z,f⟩:=P.CN (ar:=a6 (s.p=aL)) l ax hl d;have A:¬TL size t.gr a s:=by
    obtain⟨u,D2,e,c,_⟩:=P.zW w z;obtain⟨D0,m⟩:=c.mQ;rcases xS D2 with rfl|⟨B,b,rfl⟩
    .rw[dZ,m]at e;have:=av3 e rfl;rw[(jV this).1];exact f
    .rw[xT,m]at e;have C:D++[a]=(D0++[w.s]++B)++[b]:=by rw[e];simp
     have E:=uE C rfl;have F:Sq t.gr w.s a:=by have n:(D++[a]).Pairwise (Sq t.gr):=(List.pairwise_append.mp j).1;rw[E.1]at n;exact(List.pairwise_append.mp n).2.2 w.s (by simp) a (by simp)
     exactλhl=>f (hl.left F)
   have i:=i (D++[a]) s _ q y;have H:jk t size aL (s::r) aW=jk t size aL r (fj t size s (a6 (s.p=aL)) aW):=by rw[uk,if_neg (λh=>d (vV.mp h))]
   rw[H];rcases i with⟨e,g⟩|⟨ia,e,g,K⟩
   .exact .inl ⟨e,λh=>g h.2⟩
   .exact .inr ⟨ia,e,by rw[dK]at g;exact g,A,K⟩
theorem av4(x:uD t b8)(cQ:t.last=ak)(h1:b8.last=ai)(ax:t.most=10000):∀(je D:List aY) (aW ia A:List aE) (c:Int),(D++je).Pairwise (Sq t.gr)->Pass size t.gr D aW->kN jR c aW ia->jk t size aL je aW=I A->∃dU iO,jk b8 size aL je ia=I iO/\kN jR dU A iO:=by
 intro j;induction j with
 |nil=>
  intro _ aW ia A c _ _ b e;cases e;exact⟨c,ia,rfl,b⟩
 |cons s r l=>
  intro D aW ia A c m P b e;obtain⟨g,n⟩:=He m;rw[uk]at e;by_cases a:fj t size s (a6 (s.p=aL)) aW=[]
  .rw[if_pos (vV.mpr a)]at e;cases e
  .rw[if_neg (λh=>a (vV.mp h))]at e;obtain⟨dU,i⟩:=PC (ar:=a6 (s.p=aL)) x cQ h1 ax P g b a;obtain⟨o,_⟩:=P.CN (ar:=a6 (s.p=aL)) g ax cQ a;obtain⟨d,iO,q,f⟩:=l (D++[s]) _ _ A dU n o i e;refine⟨d,iO,?_,f⟩;rw[uk,if_neg (λh=>?_)]
   .exact q
   .have:=i.aL;rw[vV.mp h]at this;exact a (yx this.symm)
theorem Hf:∀{ws vs:List aE} {b d:aE},pM jR c b d->kN jR c ws vs->pM jR c (jP b ws) (jP d vs)
 |[],[],_,_,h,_=>h
 |w::_,v::_,b,d,h,x=>by
  unfold jP;by_cases hc:w.bc<b.bc
  .rw[if_pos hc,if_pos (by rw[x.1.bc,h.bc];exact(O [_,_,_] [] (.i (.t .x .u) (.t (.p .x .y) (.p .u .y)))) hc)];exact Hf x.1 x.2
  .rw[if_neg hc,if_neg (by rw[x.1.bc,h.bc];exact(O [_,_,_] [] (.i (.n (.t .x .u)) (.n (.t (.p .x .y) (.p .u .y))))) hc)];exact Hf h x.2
theorem Hg(hb:pM jR c b d):∀{ws vs:List aE} {f g:aE} {bP:Int},pM jR c f g->kN jR c ws vs->pM jR c (kK b loose f bP ws).1 (kK d loose g bP vs).1/\(kK d loose g bP vs).2=(kK b loose f bP ws).2
 |[],[],_,_,_,h,_=>⟨h,rfl⟩
 |w::_,v::_,f,g,bP,h,x=>by
  unfold kK;have e1:v.line- d.line=w.line- b.line:=by rw[x.1.r.line,hb.r.line]
  have a:a6 (v.bc<g.bc)=a6 (w.bc<f.bc):=decide_eq_decide.mpr ⟨λq=>by rw[x.1.bc,h.bc]at q;exact(O [_,_,_] [] (.i (.t (.p .x .u) (.p .y .u)) (.t .x .y))) q,λq=>by rw[x.1.bc,h.bc];exact(O [_,_,_] [] (.i (.t .x .u) (.t (.p .x .y) (.p .u .y)))) q⟩;rw[e1,a];split
  .exact Hg hb x.1 x.2
  .exact Hg hb h x.2
theorem av7{c loose:Int}{w v:aE}{ws vs:List aE}(h:pM jR c w v)(x:kN jR c ws vs):pM jR c (g7 w ws loose).1 (g7 v vs loose).1/\(g7 v vs loose).2=(g7 w ws loose).2:=by
 have Hh:=Hf h (ws:=w::ws) (vs:=v::vs) ⟨h,x⟩;unfold g7;split
 .exact⟨Hh,rfl⟩
 .exact Hg Hh Hh ⟨h,x⟩
theorem av8(hs:kN jR c A iO):(nK loose ak (I A)=aa)\/nK loose ak (I A)=nK loose ai (I iO):=by
 match A,iO,hs with
 |[],[],_=>exact .inl rfl
 |w::ws,v::vs,hs=>
  obtain⟨b,d⟩:=av7 (loose:=loose) hs.1 hs.2;unfold nK;dsimp only;rw[d];by_cases a:(g7 w ws loose).2=loose
  .refine .inr ?_;rw[decide_eq_true a];show I (lG _)=I (lG _);unfold lG;rw[b.r.Hc]
  .rw[decide_eq_false a];exact .inl rfl
end
theorem av9(S:bk)(m b:Bool)(r:List az)(n:Nd):lE S m b (aI r) n=(lH S m b (pE ak r) n,if n.gU=ai then 1 else 0,kr m n):=by
 have e:ug (aI r)=pE ak r:=by
  cases r with
  |nil=>rfl
  |cons x r=>show ug (x.n::aI r)=x.n.qG;cases x.n<;>rfl
 rw[<- e];cases n with
 |sh s=>cases s<;>rfl
 |_=>rfl
def pN(p:Nat)(r:az):List g8:=match r.bx with
 |some c=>[⟨p,jn c (-10000),if r.n.gU=ai then 1 else 0⟩]
 |none=>[]
noncomputable def fk:Nat->List az->List g8
 |_,[]=>[]
 |p,r::aQ=>pN p r++fk (p+1) aQ
theorem zZ(h:r.bx=aa):pN p r=[]:=by unfold pN;rw[h]
theorem z0(h:r.bx=I c):pN p r=[⟨p,jn c (-10000),if r.n.gU=ai then 1 else 0⟩]:=by unfold pN;rw[h]
theorem CR(S:bk):∀(aQ:List az) (m b:Bool) (p:Nat),gV S m b ak aQ->px S m b p (aI aQ)=fk p aQ:=by
 intro c;induction c with
 |nil=>exactλ_ _ _ _=>rfl
 |cons r aQ d=>
  intro m b p h;show px S m b p (r.n::aI aQ)=_;unfold px fk pN;rw[av9,h.1];dsimp only;rw[d _ _ _ h.2];unfold fT;by_cases a:lH S m b (pE ak aQ) r.n<10000
  .rw[if_pos a,if_pos a]
  .rw[if_neg a,if_neg a]
theorem z3:∀(x y:List az) (p:Nat),(∀r∈x,r.bx=aa)->fk p (x++y)=fk (p+x.length) y:=by
 intro a;induction a with
 |nil=>exactλ_ _ _=>rfl
 |cons r x b=>intro y p h;show pN p r++fk (p+1) (x++y)=_;rw[zZ (h r (.head _)),m9,b y (p+1) λc d=>h c (.tail _ d),iw,show p+1+x.length=p+(x.length+1) by exact O [] [_,_] (.E (.p (.p .x 1) .y) (.p .x (.p .y 1)))]
noncomputable def vW(r:az):Int:=r.bx.getD 0
noncomputable def uF:Nat->List az->List Seg->List g8
 |p,b,[]=>[⟨p+b.length,-10000,1⟩]
 |p,b,s::ss=>⟨p+b.length,jn (vW s.l) (-10000),if s.l.n.gU=ai then 1 else 0⟩::uF (p+b.length+1+s.d.length) s.w ss
theorem aw0:uF p b (s::ss)=(⟨p+b.length,jn (vW s.l) (-10000),if s.l.n.gU=ai then 1 else 0⟩::uF (p+b.length+1+s.d.length) s.w ss):=rfl
theorem aw1:∀(ss:List Seg) (b:List az) (p:Nat),mq b ss->fk p (cU b ss)++[⟨p+(cU b ss).length,-10000,1⟩]=uF p b ss:=by
 intro i;induction i with
 |nil=>intro b p h;show fk p b++_=_;have:=z3 b [] p h.qK.free;rw[dZ]at this;rw[this];rfl
 |cons s ss a=>
  intro b p h;have f:=h.pG s (.head _);have a:=a s.w (p+b.length+1+s.d.length) h.tail;show fk p (b++s.l::(s.d++cU s.w ss))++_=_;rw[z3 b _ p h.qK.free];obtain⟨c,g⟩:=Option.ne_none_iff_exists'.mp f.bx;have e:fk (p+b.length) (s.l::(s.d++cU s.w ss))=⟨p+b.length,jn c (-10000),if s.l.n.gU=ai then 1 else 0⟩::fk (p+b.length+1+s.d.length) (cU s.w ss):=by show pN _ s.l++fk _ _=_;rw[z0 g,z3 s.d _ _ λr j=>(f.d r j).1];rfl
  rw[e];rw[aw0];rw[<- a];have m:vW s.l=c:=by unfold vW;rw[g];rfl
  rw[m];have o:p+(cU b (s::ss)).length=p+b.length+1+s.d.length+(cU s.w ss).length:=by show p+(b++s.l::(s.d++cU s.w ss)).length=_;simp only[fQ,iw];exact O [] [_,_,_,_] (.E (.p .x (.p .y (.p (.p .u .w) 1))) (.p (.p (.p (.p .x .y) 1) .u) .w))
  rw[o,qI]
theorem mx(Z:List az):(aI Z).length=Z.length:=by unfold aI;rw[cm]
theorem aw2{S:bk}{b:List az}{ss:List Seg}(hc:gV S ai ak ak (cU b ss))(g:mq b ss):iK S (aI (cU b ss))=uF 0 b ss:=by unfold iK;rw[CR S _ _ _ _ hc,mx,<- aw1 ss b 0 g,uh]
noncomputable def nu(m:Sm):Int:=m.n- m.h
theorem aw3(m:Sm)(n:Nd):nu (m.step n)=nu m+n.cj:=by
 cases n with
 |eV a b c w s so d6 dv eW=>show(m.n+w)- (m.h+d6)=(m.n- m.h)+(w- d6);exact O [_,_,_,_] [] (.e (.s (.p .x .y) (.p .u .w)) (.p (.s .x .u) (.s .y .w)))
 |sh s=>show(m.n+s.jj)- m.h=(m.n- m.h)+s.jj;exact O [_,_,_] [] (.e (.s (.p .x .y) .u) (.p (.s .x .u) .y))
 |dt a p q mm=>show(m.n+cH mm)- m.h=(m.n- m.h)+cH mm;exact O [_,_,_] [] (.e (.s (.p .x .y) .u) (.p (.s .x .u) .y))
 |jN a eF w=>show(m.n+w)- m.h=(m.n- m.h)+w;exact O [_,_,_] [] (.e (.s (.p .x .y) .u) (.p (.s .x .u) .y))
 |_=>show(m.n+0)- m.h=(m.n- m.h)+0;exact O [_,_] [] (.e (.s (.p .x 0) .y) (.p (.s .x .y) 0))
theorem qN:∀(aQ:List az) (m:Sm),ic aQ->nu (cJ m (aI aQ))=nu m+eP aQ:=by
 intro a;induction a with
 |nil=>exactλm _=>(fW _).symm
 |cons r aQ b=>intro m h;show nu (cJ (m.step r.n) (aI aQ))=nu m+(r.a9+eP aQ);rw[b _ λx c=>h x (.tail _ c),aw3,(h r (.head _)).a9];exact O [_,_,_] [] (.e (.p (.p .x .y) .u) (.p .x (.p .y .u)))
theorem aw4{m:Sm}{n:Nd}(h:n.cO):m.h<=(m.step n).h:=by
 cases n with
 |eV a b c w s so d6 dv eW=>show m.h<=m.h+d6;have:=h.2.2.2;exact(O [_,_] [] (.i (.c (.l 0 .y) (.l .y 1000)) (.l .x (.p .x .y)))) this
 |_=>exact pk _
theorem z4:∀(aQ:List az) (m:Sm),ic aQ->m.h<=(cJ m (aI aQ)).h:=by
 intro aM;induction aM with
 |nil=>exactλ_ _=>pk _
 |cons r aQ ih=>exactλm h=>sF (aw4 (h r (.head _)).cO) (ih _ λx hx=>h x (.tail _ hx))
theorem aw5:∀(r:List Nd) (m:Sm) (j:Nat),j<r.length->(rM m r)[j]?=I (cJ m (r.take (j+1))):=by
 intro a;induction a with
 |nil=>
  intro _ _ h;cases h
 |cons n r b=>
  intro m;intro c;cases c with
  |zero=>exactλ_=>rfl
  |succ j=>intro h;show(rM (m.step n) r)[j]?=_;rw[b _ j (by simpa using h)];rfl
theorem pO(h:p<=items.length):gM items p=cJ .z (items.take p):=by
 have e:=Ca h;cases p with
 |zero=>unfold pq at e;simp at e;exact e.symm
 |succ p=>unfold pq at e;rw[yt,aw5 items .z p (by exact(O [] [_,_] (.i (.ag (.p .x 1) .y) (.U .x .y))) h)]at e;exact(xa e).symm
theorem CS:gM (aI (x++y)) x.length=cJ .z (aI x):=by rw[pO (by rw[mx];simp)];congr 1;unfold aI;rw[<- zI,z5 rfl]
theorem pP(x y:List az):aI (x++y)=aI x++aI y:=by unfold aI;rw[gk]
theorem aw6(aF:∀r∈d,r.n.cL=ai)(hy:∀r ys,y=r::ys->r.n.cL=ak):h8 (aI (x++d++y)) x.length=x.length+d.length:=by
 unfold h8;have e:(aI (x++d++y)).drop x.length=aI d++aI y:=by rw[dK,pP,pP,aw7 (mx x)]
 rw[e];have:∀(d:List az),(∀r∈d,r.n.cL=ai)->((aI d++aI y).takeWhile Nd.cL).length=d.length:=by
  intro d;induction d with
  |nil=>
   intro _;cases y with
   |nil=>rfl
   |cons r ys=>show((r.n::aI ys).takeWhile Nd.cL).length=0;rw[nG,hy r ys rfl];rfl
  |cons r d a=>intro h;show((r.n::(aI d++aI y)).takeWhile Nd.cL).length=_;rw[nG,h r (.head _)];show _+1=_;rw[a λb c=>h b (.tail _ c)];rfl
 rw[this d aF]
theorem aw8{S:bk}{m b nx:Bool}{n:Nd}(h:lH S m b nx n<10000)(aF:n.gU=ak):n.cL=true:=by
 cases n with
 |sh s=>
  cases s with
  |iI a w so=>
   show a6 (so=1)=ai;by_cases e:so=1
   .exact decide_eq_true e
   .have:lH S m b nx (.sh (.iI a w so))=10000:=by
     show(if(a6 (so=1)&&(m&&nx))=ai then(0:Int)else 10000)=10000;rw[decide_eq_false e];rfl
    exact tT ((O [_] [] (.i (.t .x 10000) (.i (.e .x 10000) .o))) h this)
  |jM=>exact absurd h (by show¬(10000:Int)<10000;decide)
  |r=>exact absurd h (by show¬(10000:Int)<10000;decide)
 |eV=>rfl
 |bD=>rfl
 |jN=>rfl
 |dt=>cases aF
 |_=>exact absurd h (by show¬(10000:Int)<10000;decide)
theorem Hi{S:bk}:∀{x y:List az} {l:az} {m b nx:Bool},gV S m b nx (x++l::y)->∃ki cp tg,l.bx=fT (lH S ki cp tg l.n)
 |[],_,_,_,_,_,h=>⟨_,_,_,h.1⟩
 |_::_,_,_,_,_,_,h=>Hi (x:=_) h.2
theorem aw9(h:fT p≠aa):p<10000:=by
 unfold fT at h;split at h
 .assumption
 .exact absurd rfl h
@[reducible] def z6 (n:Nd):List Sh:=n.gS
@[reducible] def qO (n:Nd):List Sh:=n.uf
theorem CT:(aI (x++l::y))[x.length]?=I l.n:=by rw[pP];have:=mx x;rw[z7 (by exact(O [] [_,_] (.i (.E .x .y) (.ag .x .y))) this),this,Nat.sub_self];rfl
theorem ax0:ja (aI (x++l::y)) x.length=cH (z6 l.n):=by unfold ja;rw[CT]
theorem ax1:j1 (aI (x++l::y)) x.length=cH (qO l.n):=by unfold j1;rw[CT]
theorem PG(hl:l.n.gU=ak->l.n.cL=ai)(aF:∀r∈d,r.n.cL=ai)(hy:∀r ys,y=r::ys->r.n.cL=ak):fD (aI (x++l::(d++y))) x.length=if qO l.n=[]then x.length+1+d.length else x.length+1:=by
 unfold fD;rw[CT];have e1:∀{p:Nat},p=x.length+1->h8 (aI (x++l::(d++y))) p=x.length+1+d.length:=by rintro p rfl;have:=aw6 (x:=x++[l]) (d:=d) (y:=y) aF hy;rw[fQ,CU]at this;rw[<- this];simp
 have e2:l.n.cL=ai->h8 (aI (x++l::(d++y))) x.length=x.length+1+d.length:=by intro h;rw[NC CT h];exact e1 rfl
 cases en:l.n with
 |dt a p q m=>
  show(if q=[]then _ else _)=_;by_cases hq:q=[]
  .rw[if_pos hq,e1 rfl];exact(if_pos (show qO (.dt a p q m)=[]from hq)).symm
  .rw[if_neg hq];exact(if_neg (show¬qO (.dt a p q m)=[]from hq)).symm
 |_=>rw[en]at hl e2;exact(e2 (hl rfl)).trans (if_pos (show qO _=[]from rfl)).symm
theorem CV(h:ml r):xI (qO r.n)/\xI (z6 r.n):=by
 have nil:xI []:=⟨by decide,λ_=>rfl,λ_ h=>by cases h⟩
 cases e:r.n with
 |dt a p q m=>have:=h.dt a p q m e;exact⟨this.2.1,this.1⟩
 |_=>exact⟨nil,nil⟩
structure ax2(x d:List az)(l:az)(sp:aY):Prop where
 p:sp.p=x.length
 cP:x.length+1<=sp.cP/\sp.cP<=x.length+1+d.length
 e:nu sp.e=nu (cJ .z (aI x))+cH (z6 l.n)
 ax3:sp.e.h=(cJ .z (aI x)).h
 b1:nu sp.b<=nu (cJ .z (aI x))+l.a9+eP d
 b2:nu (cJ .z (aI x))+l.a9- 6<=nu sp.b
 bh1:(cJ .z (aI x)).h<=sp.b.h
 bh2:sp.b.h<=(cJ .z (aI (x++l::d))).h
theorem th(m:Sm)(w:Int):nu (m.gu w)=nu m+w:=by show m.n+w- m.h=m.n- m.h+w;exact O [_,_,_] [] (.e (.s (.p .x .y) .u) (.p (.s .x .u) .y))
theorem PH:∀{d:List az},(∀r∈d,0<=r.a9)->0<=eP d:=by
 intro a;induction a with
 |nil=>exactλ_=>pk 0
 |cons r d b=>intro h;show 0<=r.a9+eP d;have:=h r (.head _);have:=b λc e=>h c (wB r e);exact(O [_,_] [] (.i (.l 0 .x) (.i (.l 0 .y) (.l 0 (.p .x .y))))) ‹_› this
theorem ax4{x d y:List az}{l:az}{k:g8}(ok:ic (x++l::(d++y)))(hl:l.n.gU=ak->l.n.cL=ai)(aF:∀r∈d,r.n.cL=ai/\0<=r.a9)(hy:∀r ys,y=r::ys->r.n.cL=ak)(hk:k.p=x.length):ax2 x d l (dE (aI (x++l::(d++y))) k):=by
 have CW:ic x:=λr hr=>ok r (by simp[hr]);have uG:ml l:=ok l (by simp);have z8:ic d:=λr hr=>ok r (by simp[hr]);have b0:=PG (x:=x) (d:=d) (y:=y) (l:=l) hl (λr hr=>(aF r hr).1) hy;have eh:gM (aI (x++l::(d++y))) x.length=cJ .z (aI x):=CS;have g9:gM (aI (x++l::(d++y))) (x.length+1)=cJ .z (aI (x++[l])):=by have:=CS (x:=x++[l]) (y:=d++y);rw[fQ,CU]at this;rw[<- this];simp
 have iA:gM (aI (x++l::(d++y))) (x.length+1+d.length)=cJ .z (aI (x++l::d)):=by have:=CS (x:=x++l::d) (y:=y);rw[fQ,iw]at this;rw[show x.length+1+d.length=x.length+(d.length+1) by exact O [] [_,_] (.E (.p (.p .x 1) .y) (.p .x (.p .y 1))),<- this];simp
 have n1:nu (cJ .z (aI (x++[l])))=nu (cJ .z (aI x))+l.a9:=by rw[qN _ _ (mn CW (lh uG)),qN _ _ CW,qJ];show _+(_+(l.a9+0))=_;exact O [_,_,_] [] (.e (.p .x (.p .y (.p .u 0))) (.p (.p .x .y) .u))
 have n2:nu (cJ .z (aI (x++l::d)))=nu (cJ .z (aI x))+l.a9+eP d:=by rw[qN _ _ (mn CW (pF uG z8)),qN _ _ CW,qJ];show _+(_+(l.a9+_))=_;exact O [_,_,_,_] [] (.e (.p .x (.p .y (.p .u .w))) (.p (.p (.p .x .y) .u) .w))
 have PI:(cJ .z (aI x)).h<=(cJ .z (aI (x++[l]))).h:=by rw[pP,oy];exact z4 [l] _ (lh uG)
 have PJ:(cJ .z (aI (x++[l]))).h<=(cJ .z (aI (x++l::d))).h:=by rw[show x++l::d=(x++[l])++d by simp,pP (x++[l]) d,oy];exact z4 d _ z8
 obtain⟨tq,tp⟩:=CV uG;have CX:=PH λr hr=>(aF r hr).2;have q1:=tq.rN;unfold dE;rw[hk,ax1,ax0,b0,eh];by_cases hq:qO l.n=[]
 .rw[if_pos hq,iA];have af:cH (qO l.n)=0:=by rw[hq];rfl
  refine⟨rfl,⟨by dsimp only;exact O [] [_,_] (.l (.p (.c .x) 1) (.c (.p (.p .x 1) .y))),by dsimp only;exact O [] [_,_] (.l (.c (.p (.p .x 1) .y)) (.p (.p (.c .x) 1) (.c .y)))⟩,th _ _,rfl,?_,?_,?_,?_⟩
  .show nu (Sm.gu _ _)<=_;rw[th,n2,af];exact O [_,_,_] [] (.l (.p (.p (.p .x .y) .u) 0) (.p (.p .x .y) .u))
  .show _<=nu (Sm.gu _ _);rw[th,n2,af];exact(O [_,_,_] [] (.i (.l 0 .u) (.l (.s (.p .x .y) 6) (.p (.p (.p .x .y) .u) 0)))) CX
  .show _<=(cJ .z (aI (x++l::d))).h;exact(O [_,_,_] [] (.i (.l .x .u) (.i (.l .u .y) (.l .x .y)))) PI PJ
  .exact pk _
 .rw[if_neg hq,g9];refine⟨rfl,⟨by dsimp only;exact O [] [_] (.l (.p (.c .x) 1) (.c (.p .x 1))),by dsimp only;exact O [] [_,_] (.l (.c (.p .x 1)) (.p (.p (.c .x) 1) (.c .y)))⟩,th _ _,rfl,?_,?_,PI,PJ⟩
  .show nu (Sm.gu _ _)<=_;rw[th,n1];exact(O [_,_,_,_] [] (.i (.l 0 .w) (.i (.c (.l 0 .u) (.l .u 6)) (.l (.p (.p .x .y) (.g .u)) (.p (.p .x .y) .w))))) CX q1
  .show _<=nu (Sm.gu _ _);rw[th,n1];exact(O [_,_,_] [] (.i (.c (.l 0 .u) (.l .u 6)) (.l (.s (.p .x .y) 6) (.p (.p .x .y) (.g .u))))) q1
def uH(pre b:List az)(ss:List Seg):List aY:=(uF pre.length b ss).map (dE (aI (pre++cU b ss)))
structure ax5(pre b:List az)(x:aY):Prop where
 p:((pre.length+b.length:Nat):Int)<=x.p
 e:nu (cJ .z (aI pre))+eP b<=nu x.e
 b:nu (cJ .z (aI pre))+eP b- 6<=nu x.b
 h:(cJ .z (aI pre)).h<=x.e.h
theorem PK(hs:GR s):∀r ys,cU s.w ss=r::ys->r.n.cL=false:=by
 obtain⟨b,c,e,h,_⟩:=hs.head;intro r ys a;cases ss with
 |nil=>rw[show cU s.w []=s.w from rfl,e]at a;cases a;exact h
 |cons t ss=>rw[show cU s.w (t::ss)=s.w++t.l::(t.d++cU t.w ss)from rfl,e]at a;cases a;exact h
theorem ax6(hg:0<=gr.h):∀(ss:List Seg) (pre b:List az),ic (pre++cU b ss)->mq b ss->(∀s∈ss,s.l.n.gU=ak->s.l.n.cL=ai)->(uH pre b ss).Pairwise (Sq gr)/\∀x∈uH pre b ss,ax5 pre b x:=by
 intro aM;induction aM with
 |nil=>
  intro pre b ok g aF;have B:ic pre:=λr m=>ok r (by simp[m]);have D:ic b:=λr m=>ok r (by simp[CC,CD,m]);refine⟨Ph _ _,λx C=>?_⟩;cases List.mem_singleton.mp C;have en:(aI (pre++cU b []))[pre.length+b.length]?=none:=by refine qi ?_;rw[mx];simp[CC,CD]
  have e1:fD (aI (pre++cU b [])) (pre.length+b.length)=pre.length+b.length:=by unfold fD;rw[en];exact zq λn e=>by rw[en]at e;cases e
  have e2:j1 (aI (pre++cU b [])) (pre.length+b.length)=0:=by unfold j1;rw[en]
  have e3:ja (aI (pre++cU b [])) (pre.length+b.length)=0:=by unfold ja;rw[en]
  have e4:gM (aI (pre++cU b [])) (pre.length+b.length)=cJ .z (aI (pre++b)):=by have:=CS (x:=pre++b) (y:=[]);rw[dZ,fQ]at this;exact this
  have e5:nu (cJ .z (aI (pre++b)))=nu (cJ .z (aI pre))+eP b:=by rw[qN _ _ (mn B D),qN _ _ B,qJ];exact O [_,_,_] [] (.e (.p .x (.p .y .u)) (.p (.p .x .y) .u))
  have e6:(cJ .z (aI pre)).h<=(cJ .z (aI (pre++b))).h:=by rw[pP,oy];exact z4 b _ D
  unfold dE;dsimp only;rw[e1,e2,e3,e4,Sm.vK,Sm.Cb];exact⟨pk _,by dsimp only;exact(O [_,_,_] [] (.i (.e .u (.p .x .y)) (.l (.p .x .y) .u))) e5,by dsimp only;exact(O [_,_,_] [] (.i (.e .u (.p .x .y)) (.l (.s (.p .x .y) 6) .u))) e5,e6⟩
 |cons s ss ih=>
  intro pre b ok g aF;have F:=g.pG s (.head _);have W:pre++cU b (s::ss)=(pre++b)++s.l::(s.d++cU s.w ss):=by show pre++(b++s.l::(s.d++cU s.w ss))=_;rw[dK]
  have PL:pre++cU b (s::ss)=(pre++b++s.l::s.d)++cU s.w ss:=by rw[W];simp
  have I:=ok;rw[W]at I;have B:ic pre:=λr m=>ok r (by simp[m]);have D:ic b:=λr m=>I r (by simp[m]);have Y:ml s.l:=I _ (by simp);have z8:ic s.d:=λr m=>I r (by simp[m]);obtain⟨i1,i2⟩:=ih (pre++b++s.l::s.d) s.w (by rw[<- PL];exact ok) g.tail λt ht=>aF t (.tail _ ht);have f:=ax4 (x:=pre++b) (d:=s.d) (y:=cU s.w ss) (l:=s.l) (k:=⟨pre.length+b.length,jn (vW s.l) (-10000),if s.l.n.gU=ai then 1 else 0⟩) I (aF s (.head _)) (λr m=>⟨(F.d r m).2.1,(F.d r m).2.2.1⟩) (PK F) (by simp);have Z:(pre++b++s.l::s.d).length=pre.length+b.length+1+s.d.length:=by simp only[fQ,iw];exact O [] [_,_,_] (.E (.p (.p .x .y) (.p .u 1)) (.p (.p (.p .x .y) 1) .u))
  have es:uH pre b (s::ss)=dE (aI ((pre++b)++s.l::(s.d++cU s.w ss))) ⟨pre.length+b.length,jn (vW s.l) (-10000),if s.l.n.gU=ai then 1 else 0⟩::uH (pre++b++s.l::s.d) s.w ss:=by unfold uH;rw[Z,<- PL,<- W];rfl
  rw[es];generalize dE (aI ((pre++b)++s.l::(s.d++cU s.w ss))) ⟨pre.length+b.length,jn (vW s.l) (-10000),if s.l.n.gU=ai then 1 else 0⟩=a at f;have o:nu (cJ .z (aI (pre++b)))=nu (cJ .z (aI pre))+eP b:=by rw[qN _ _ (mn B D),qN _ _ B,qJ];exact O [_,_,_] [] (.e (.p .x (.p .y .u)) (.p (.p .x .y) .u))
  have v:nu (cJ .z (aI (pre++b++s.l::s.d)))=nu (cJ .z (aI pre))+eP b+s.l.a9+eP s.d:=by rw[qN _ _ (mn (mn B D) (pF Y z8)),qN _ _ B,qJ,qJ];show _+(_+_+(s.l.a9+_))=_;exact O [_,_,_,_,_] [] (.e (.p .x (.p (.p .y .u) (.p .w .b))) (.p (.p (.p (.p .x .y) .u) .w) .b))
  have m3:(cJ .z (aI pre)).h<=(cJ .z (aI (pre++b))).h:=by rw[pP,oy];exact z4 b _ D
  have ax7:(cJ .z (aI (pre++b))).h<=(cJ .z (aI (pre++b++s.l::s.d))).h:=by rw[pP (pre++b) (s.l::s.d),oy];exact z4 (s.l::s.d) _ (pF Y z8)
  have P:=F.a9;have CX:=PH λr m=>(F.d r m).2.2.1;have K:=F.OM.sum;obtain⟨tq,R⟩:=CV Y;have R:=R.rN;have L:=f.p;have S:=f.cP;have A:=f.e;have oa:=f.ax3;have M:=f.b1;have T:=f.b2;have ax8:=f.bh2;simp only[fQ]at L S;refine⟨List.pairwise_cons.mpr ⟨λx C=>?_,i1⟩,λx C=>?_⟩
  .have q:=i2 x C;have H:=q.p;have N:=q.e;have U:=q.b;have q4:=q.h;rw[Z]at H;unfold nu at o v A M T N U;exact⟨by exact(O [_,_,_] [_,_,_,_] (.i (.e .u (.c (.p .x .y))) (.i (.c (.l (.p (.c (.p .x .y)) 1) .x) (.l .x (.p (.p (.c (.p .x .y)) 1) (.c .u)))) (.i (.l (.c (.p (.p (.p (.p .x .y) 1) .u) .w)) .y) (.l .x .y))))) L S H,by exact(O [_,_,_,_,_,_,_,_,_,_,_,_,_,_,_,_,_] [] (.i (.e (.s .f .h) (.p (.s .v3 .mD) .v5)) (.i (.e (.s .b .d) (.p (.p (.p (.s .v3 .mD) .v5) .j) .q)) (.i (.l 8 .e) (.i (.e (.s .v0 .nU) (.p (.s .f .h) .nV)) (.i (.l (.s .x .y) (.p (.p (.s .f .h) .j) .q)) (.i (.l (.s (.p (.s .b .d) .e) 6) (.s .u .w)) (.l (.s .x .y) (.s .u .w))))))))) o v K A M U,by exact(O [_,_,_,_,_,_,_,_,_,_,_,_,_,_,_] [] (.i (.e (.s .f .h) (.p (.s .nU .nV) .v3)) (.i (.e (.s .b .d) (.p (.p (.p (.s .nU .nV) .v3) .v0) .q)) (.i (.l 0 .v0) (.i (.l 0 .q) (.i (.l 8 .e) (.i (.c (.l 0 .j) (.l .j 6)) (.i (.e (.s .x .y) (.p (.s .f .h) .j)) (.i (.l (.p (.s .b .d) .e) (.s .u .w)) (.l (.s .x .y) (.s .u .w))))))))))) o v P CX K R A N,by exact(O [_,_,_,_] [] (.i (.l 0 .u) (.i (.l .y .w) (.i (.l .w .x) (.l 0 (.p (.s .x .y) .u)))))) hg ax8 q4,by exact(O [_,_,_] [_,_,_,_] (.i (.e .x (.c (.p .x .y))) (.i (.c (.l (.p (.c (.p .x .y)) 1) .u) (.l .u (.p (.p (.c (.p .x .y)) 1) (.c .u)))) (.i (.l (.c (.p (.p (.p (.p .x .y) 1) .u) .w)) .y) (.t .x .y))))) L S H,by exact(O [_,_,_,_,_,_,_,_,_,_,_,_,_,_,_,_,_] [] (.i (.e (.s .f .h) (.p (.s .v3 .mD) .v5)) (.i (.e (.s .b .d) (.p (.p (.p (.s .v3 .mD) .v5) .j) .q)) (.i (.l 8 .e) (.i (.e (.s .v0 .nU) (.p (.s .f .h) .nV)) (.i (.l (.s .x .y) (.p (.p (.s .f .h) .j) .q)) (.i (.l (.p (.s .b .d) .e) (.s .u .w)) (.l (.s .x .y) (.s .u .w))))))))) o v K A M N⟩
  .rcases List.mem_cons.mp C with rfl|C
   .exact⟨by exact(O [_] [_,_] (.i (.e .x (.c (.p .x .y))) (.l (.c (.p .x .y)) .x))) L,by exact(O [_,_,_,_,_,_,_,_] [] (.i (.e .w (.p .x .y)) (.i (.e .d (.p (.p (.p .x .y) .e) .f)) (.i (.c (.l 0 .b) (.l .b 6)) (.i (.e .u (.p .w .b)) (.l (.p .x .y) .u)))))) o v R A,by exact(O [_,_,_,_,_,_,_,_,_] [] (.i (.e .w (.p .x .y)) (.i (.e .f (.p (.p (.p .x .y) .b) .h)) (.i (.l 0 .b) (.i (.e .d (.p .w .e)) (.i (.l (.s (.p .w .b) 6) .u) (.l (.s (.p .x .y) 6) .u))))))) o v P A T,by exact(O [_,_,_] [] (.i (.l .x .u) (.i (.e .y .u) (.l .x .y)))) m3 oa⟩
   .have q:=i2 x C;have H:=q.p;have N:=q.e;have U:=q.b;have q4:=q.h;rw[Z]at H;exact⟨by exact(O [_,_,_] [_,_,_,_] (.i (.e .u (.c (.p .x .y))) (.i (.c (.l (.p (.c (.p .x .y)) 1) .y) (.l .y (.p (.p (.c (.p .x .y)) 1) (.c .u)))) (.i (.l (.c (.p (.p (.p (.p .x .y) 1) .u) .w)) .x) (.l (.c (.p .x .y)) .x))))) L S H,by exact(O [_,_,_,_,_,_,_,_,_,_,_] [] (.i (.e .d (.p .x .y)) (.i (.e .w (.p (.p (.p .x .y) .e) .h)) (.i (.l 0 .e) (.i (.l 8 .b) (.i (.e .j (.p .d .q)) (.i (.l .f (.p (.p .d .e) .h)) (.i (.l (.s (.p .d .e) 6) .f) (.i (.l (.p .w .b) .u) (.l (.p .x .y) .u)))))))))) o v P K A M T N,by exact(O [_,_,_,_,_,_,_,_,_,_,_] [] (.i (.e .d (.p .x .y)) (.i (.e .w (.p (.p (.p .x .y) .e) .h)) (.i (.l 0 .e) (.i (.l 8 .b) (.i (.e .j (.p .d .q)) (.i (.l .f (.p (.p .d .e) .h)) (.i (.l (.s (.p .d .e) 6) .f) (.i (.l (.s (.p .w .b) 6) .u) (.l (.s (.p .x .y) 6) .u)))))))))) o v P K A M T U,by exact(O [_,_,_,_,_] [] (.i (.l .x .b) (.i (.l .b .u) (.i (.e .w .b) (.i (.l .u .y) (.l .x .y)))))) m3 ax7 oa q4⟩
def dj:aY:=⟨-1,0,0,0,.z,.z⟩
theorem ax9{a cY:aC}{S:bk}{sh lk:gN}{most:Int}{gr:Sm}{last:Bool}{bP size:Int}{sp:aY}{ar:Bool}{aL:Nat}:∀(r:List aE) (i:Nat) (s:dJ),jb ⟨a,S,sh,most,gr,last,bP⟩ size sp ar aL i s r=jb ⟨cY,S,lk,most,gr,last,bP⟩ size sp ar aL i s r:=by
 intro aM;induction aM with
 |nil=>exactλ_ _=>rfl
 |cons w r ih=>exactλi s=>ih (i+1) (kJ ⟨cY,S,lk,most,gr,last,bP⟩ size sp ar aL i s w)
theorem ay0{a cY:aC}{S:bk}{sh lk:gN}{most:Int}{gr:Sm}{last:Bool}{bP size:Int}{sp:aY}{ar:Bool}{aW:List aE}:fj ⟨a,S,sh,most,gr,last,bP⟩ size sp ar aW=fj ⟨cY,S,lk,most,gr,last,bP⟩ size sp ar aW:=by unfold fj;rw[ax9 (cY:=cY) (lk:=lk)]
theorem ay1{a cY:aC}{S:bk}{sh lk:gN}{most:Int}{gr:Sm}{last:Bool}{bP size aL:Int}:∀(je:List aY) (aW:List aE),jk ⟨a,S,sh,most,gr,last,bP⟩ size aL je aW=jk ⟨cY,S,lk,most,gr,last,bP⟩ size aL je aW:=by
 intro aM;induction aM with
 |nil=>exactλ_=>rfl
 |cons s r ih=>intro aW;unfold jk;rw[ay0 (cY:=cY) (lk:=lk),ih]
theorem PM{items:List Nd}{S:bk}{sh lk:gN}{size bM:Int}{last:Bool}{a cY:aC}(aF:lk.done=sh.done)(hp:lk.bP=sh.bP):jx items S sh size bM last a=jx items S lk size bM last cY:=by unfold jx jd;rw[aF,hp,ay1 (cY:=cY) (lk:=lk)]
structure gZ(S:bk)(Z b:List az)(ss:List Seg):Prop where
 e:Z=cU b ss
 ok:ic Z
 bx:gV S ai ak ak Z
 g:mq b ss
theorem gZ.drop{S:bk}{Z b:List az}{ss:List Seg}(h:gZ S Z b ss):∀s∈ss,s.l.n.gU=ak->s.l.n.cL=true:=by
 have:∀(ss:List Seg) (b pre:List az),mq b ss->(∃m cp nx,gV S m cp nx (pre++cU b ss))->∀s∈ss,s.l.n.gU=ak->s.l.n.cL=true:=by
  intro ss;induction ss with
  |nil=>intro _ _ _ _ s hs;cases hs
  |cons t ss ih=>
   intro b pre g ⟨m,cp,nx,hc⟩ s hs aF;have e:pre++cU b (t::ss)=(pre++b)++t.l::(t.d++cU t.w ss):=by show pre++(b++t.l::(t.d++cU t.w ss))=_;rw[dK]
   rcases List.mem_cons.mp hs with rfl|hs
   .rw[e]at hc;obtain⟨ki,aW3,tg,h⟩:=Hi hc;exact aw8 (aw9 (by rw[<- h];exact(g.pG s (.head _)).bx)) aF
   .refine ih t.w (pre++b++t.l::t.d) g.tail ⟨m,cp,nx,?_⟩ s hs aF;rw[e]at hc;have e2:(pre++b++t.l::t.d)++cU t.w ss=(pre++b)++t.l::(t.d++cU t.w ss):=by simp
    rw[e2];exact hc
 exact this ss b [] h.g ⟨ai,ak,ak,by rw[m9,<- h.e];exact h.bx⟩
theorem gZ.rL{S:bk}{Z b:List az}{ss:List Seg}(h:gZ S Z b ss):cM S (aI Z)=uH [] b ss:=by unfold cM uH;have:=h.bx;rw[h.e]at this⊢;rw[aw2 this h.g];rfl
theorem gZ.sq{S:bk}{Z b:List az}{ss:List Seg}{gr:Sm}(h:gZ S Z b ss)(hg:0<=gr.h):(dj::cM S (aI Z)).Pairwise (Sq gr):=by rw[h.rL];obtain⟨i1,i2⟩:=ax6 hg ss [] b (by rw[m9,<- h.e];exact h.ok) h.g h.drop;refine List.pairwise_cons.mpr ⟨λx hx=>?_,i1⟩;have q:=i2 x hx;have hb:=h.g.qK.sum;have q1:=q.p;have q2:=q.e;have q3:=q.b;have q4:=q.h;have af:nu (cJ .z (aI []))=0:=rfl;have z2:(cJ .z (aI [])).h=0:=rfl;rw[af]at q2 q3;rw[z2]at q4;unfold nu at q2 q3;exact⟨by exact(O [_] [_,_] (.i (.l (.c (.p .x .y)) .x) (.l 0 .x))) q1,by exact(O [_,_,_] [] (.i (.l 8 .u) (.i (.l (.s (.p 0 .u) 6) (.s .x .y)) (.l (.s 0 0) (.s .x .y))))) hb q3,by exact(O [_,_,_] [] (.i (.l 8 .u) (.i (.l (.p 0 .u) (.s .x .y)) (.l (.s 0 0) (.s .x .y))))) hb q2,by exact(O [_,_] [] (.i (.l 0 .y) (.i (.l 0 .x) (.l 0 (.p (.s .x 0) .y))))) hg q4,by exact(O [_] [_,_] (.i (.l (.c (.p .x .y)) .x) (.t (.k (-1)) .x))) q1,by exact(O [_,_,_] [] (.i (.l 8 .u) (.i (.l (.p 0 .u) (.s .x .y)) (.l (.s 0 0) (.s .x .y))))) hb q2⟩
theorem Pass.rD:Pass size gr [dj] [kq done]:=⟨λw a=>by cases List.mem_singleton.mp a;exact⟨[dj],[],rfl,.iL,λ_ h=>by cases h⟩,[],kq done,rfl,.iL⟩
theorem vY{S:bk}{bM:Int}(hS:S.ok):0<=(fM S bM).h:=by show 0<=0+S.l.h+S.r.h;have:=hS.l.2.2.2;have:=hS.r.2.2.2;exact(O [_,_] [] (.i (.c (.l 0 .x) (.l .x 1000)) (.i (.c (.l 0 .y) (.l .y 1000)) (.l 0 (.p (.p 0 .x) .y))))) ‹_› this
theorem CY:(g7 w ws loose).1∈w::ws:=by
 have h:∀(l:List aE) (b:aE),jP b l=b\/jP b l∈l:=by
  intro l;induction l with
  |nil=>exactλb=>.inl rfl
  |cons x l d=>
   intro b;unfold jP;rcases d (if x.bc<b.bc then x else b)with e|e
   .rw[e];rcases Gp (c:=x.bc<b.bc) x b with e|e<;>rw[e]
    .exact .inr (.head _)
    .exact .inl rfl
   .exact .inr (.tail _ e)
 have i:∀(l:List aE) (b f:aE) (a:Int),(kK b loose f a l).1=f\/(kK b loose f a l).1∈l:=by
  intro l;induction l with
  |nil=>exactλb f a=>.inl rfl
  |cons x l d=>
   intro b f a;unfold kK;split
   .rcases d b x (x.line- b.line)with e|e
    .rw[e];exact .inr (.head _)
    .exact .inr (.tail _ e)
   .rcases d b f a with e|e
    .exact .inl e
    .exact .inr (.tail _ e)
 have g:jP w (w::ws)∈w::ws:=by
  rcases h (w::ws) w with e|e
  .rw[e];exact .head _
  .exact e
 unfold g7;split
 .exact g
 .rcases i (w::ws) (jP w (w::ws)) (jP w (w::ws)) 0 with e|e
  .rw[e];exact g
  .exact e
theorem Hj{S:bk}{items:List Nd}:∃l s,cM S items=l++[s]/\s.bD=-10000:=by unfold cM iK;rw[gk];exact⟨_,_,rfl,rfl⟩
theorem Hk(e:je=l++[s])(hs:s.bD=-10000)(P:Pass size gr (dj::je) A)(aj:w∈A):jA size gr (dj::je) w:=by
 obtain⟨b,D2,a,c,h⟩:=P.zW w aj;rcases xS D2 with rfl|⟨d,x,rfl⟩
 .rw[dZ]at a;rw[a];exact c
 .rw[xT]at a h;have f:(dj::l)++[s]=(b++d)++[x]:=by
   rw[qI,<- e,a,dK]
  have g:=(uE f rfl).2;have:s=x:=(jV g).1;exact absurd hs (by rw[this];exact(h x (by simp)).2)
theorem Hl:nK loose ai (I (w::ws))=I (lG (g7 w ws loose).1):=by unfold nK;dsimp only;rw[at4,rh,if_neg (by decide)]
theorem ay2:nK 0 ak (I (w::ws))≠none:=by
 unfold nK;dsimp only;have:(g7 w ws 0).2=0:=by unfold g7;rw[if_pos rfl]
 rw[this,decide_eq_true rfl];simp
structure Hm(items:List Nd)(S:bk)(sh:gN)(size bM:Int)(w:aE):Prop where
 oC:jA size (fM S bM) (dj::cM S items) w
 last:∀a,jx items S sh size bM ai a=I (lG w)
 j0:∀a,jx items S sh size bM ak a=aa\/jx items S sh size bM ak a=I (lG w)
 fL:∀a,jx items S sh size bM ak a≠aa->vU size (fM S bM) dj (cM S items)
 GY:∀a,jx items S sh size bM ak a=aa->vU size (fM S bM) dj (cM S items)->S.loose≠0
theorem ay3{items:List Nd}{S:bk}{sh:gN}{size bM:Int}(hp:(dj::cM S items).Pairwise (Sq (fM S bM))):∃w,Hm items S sh size bM w:=by
 obtain⟨l,s,e,hs⟩:=Hj (S:=S) (items:=items);obtain⟨A,eA,P⟩:=PD (t:=jd S sh bM ai 0) (size:=size) (aL:=(items.length:Int)) rfl rfl (cM S items) [dj] [kq sh.done] hp Pass.rD;cases A with
 |nil=>exact absurd rfl P.eH
 |cons w0 ws=>
  have ay4:jx items S sh size bM ai 0=I (lG (g7 w0 ws S.loose).1):=by unfold jx;rw[eA];exact Hl
  have last:∀a,jx items S sh size bM ai a=I (lG (g7 w0 ws S.loose).1):=λa=>by
   rw[PM (lk:=sh) (cY:=0) rfl rfl];exact ay4
  have Hn:∀a,jx items S sh size bM ak a=nK S.loose ak (jk (jd S sh bM ak a) size items.length (cM S items) [kq sh.done]):=λa=>rfl;have go:=λa=>PF (t:=jd S sh bM ak a) (size:=size) (aL:=(items.length:Int)) rfl rfl (cM S items) [] dj [kq sh.done] hp Pass.rD;refine⟨(g7 w0 ws S.loose).1,Hk e hs P CY,last,λa=>?_,λa cS=>?_,λa uo aT=>?_⟩
  .rw[Hn];rcases go a with⟨e1,_⟩|⟨B,e1,PB,_⟩
   .rw[e1];exact .inl rfl
   .obtain⟨c,aW4,e2,kV⟩:=av4 (t:=jd S sh bM ak a) (b8:=jd S sh bM ai 0) (size:=size) (aL:=(items.length:Int)) ⟨rfl,rfl,rfl,rfl⟩ rfl rfl rfl (cM S items) [dj] [kq sh.done] [kq sh.done] B 0 hp Pass.rD ⟨⟨⟨rfl,rfl,rfl,rfl⟩,(fW _).symm⟩,trivial⟩ e1;rw[eA]at e2;cases e2;rw[e1];rcases av8 (loose:=S.loose) kV with h|h
    .exact .inl h
    .rw[h,Hl];exact .inr rfl
  .rw[Hn]at cS;rcases go a with⟨e1,_⟩|⟨B,e1,PB,aT⟩
   .rw[e1]at cS;exact absurd rfl cS
   .exact aT
  .rw[Hn]at uo;rcases go a with⟨e1,h⟩|⟨B,e1,PB,_⟩
   .exact absurd aT h
   .rw[e1]at uo;intro cQ;rw[cQ]at uo;cases B with
    |nil=>exact absurd rfl PB.eH
    |cons v vs=>exact ay2 uo
noncomputable def Sm.pl(m x:Sm):Sm:=⟨m.n+x.n,m.a+x.a,m.b+x.b,m.c+x.c,m.d+x.d,m.h+x.h⟩
theorem Sm.uI{m x:Sm}(h1:m.n=x.n)(h2:m.a=x.a)(h3:m.b=x.b)(h4:m.c=x.c)(h5:m.d=x.d)(h6:m.h=x.h):m=x:=by cases m;cases x;cases h1;cases h2;cases h3;cases h4;cases h5;cases h6;rfl
theorem Sm.Ho(m:Sm):m.pl .z=m:=Sm.uI (fW _) (fW _) (fW _) (fW _) (fW _) (fW _)
theorem uJ{c:Prop}[Decidable c]{a b s:Int}:(if c then a+b+s else a+b)=a+if c then b+s else b:=by split<;>(first|exact O [_,_,_] [] (.e (.p (.p .x .y) .u) (.p .x (.p .y .u)))|exact O [_,_] [] (.e (.p .x .y) (.p .x .y)))
theorem Sm.CZ(m x:Sm)(w:Int):(m.pl x).gu w=m.pl (x.gu w):=Sm.uI (nR _ _ _) rfl rfl rfl rfl rfl
theorem Sm.ay5(m x:Sm)(n:Nd):(m.pl x).step n=m.pl (x.step n):=by
 cases n with
 |eV a b c w s so d6 dv eW=>exact Sm.uI (nR _ _ _) uJ uJ uJ uJ (nR _ _ _)
 |_=>exact Sm.CZ _ _ _
theorem ay6:∀(l:List Nd) (m x:Sm),cJ (m.pl x) l=m.pl (cJ x l):=by
 intro a;induction a with
 |nil=>exactλ_ _=>rfl
 |cons n l b=>intro m x;show cJ ((m.pl x).step n) l=_;rw[Sm.ay5,b];rfl
theorem C0(l:List Nd)(m:Sm):cJ m l=m.pl (cJ .z l):=by
 have:=ay6 l m .z
 rwa [Sm.Ho]at this
theorem C1:∀(l:List Sh) (m:Sm),cJ m (l.map .sh)=m.gu (cH l):=by
 intro a;induction a with
 |nil=>exactλm=>(m.vK).symm
 |cons s l b=>intro m;show cJ (m.gu s.jj) (l.map .sh)=_;rw[b];exact Sm.uI (nR _ _ _) rfl rfl rfl rfl rfl
theorem Hp{aK:Type}{l:List aK}{a b:Nat}(h:a<=b):l.take b=l.take a++(l.drop a).take (b- a):=by
 have:=List.take_add (l:=l) (i:=a) (j:=b- a)
 rwa [show a+(b- a)=b by exact(O [] [_,_] (.i (.ag .x .y) (.E (.p .x (.s .y .x)) .y))) h]at this
theorem PN{S:bk}{items:List Nd}{cP p:Nat}{iM:List Sh}(h:cP<=p)(hp:p<=items.length):xG S (mP items cP iM p)=ot ((gM items cP).gu (-(cH iM))) ((gM items p).gu (ja items p)) (fM S 0):=by
 have ay7:cH (qB items p)=ja items p:=by
  unfold qB ja;cases e:items[p]? with
  |none=>rfl
  |some n=>cases n<;>rfl
 have es:gM items p=(gM items cP).pl (cJ .z ((items.drop cP).take (p- cP))):=by rw[pO hp,pO (by exact(O [] [_,_,_] (.i (.ag .x .u) (.i (.ag .u .y) (.ag .x .y)))) h hp),Hp h,oy,C0]
 unfold xG mP;rw[oy,oy,C1,C1,ay7,es,C0 ((items.drop cP).take (p- cP))];generalize cJ .z ((items.drop cP).take (p- cP))=x;generalize gM items cP=y;have C2:∀{c:Prop} [Decidable c] {u v s:Int},(if c then u+v+s else u+v)=(v+(if c then u+s else u)):=λ{c _ u v s}=>by split<;>(first|exact O [_,_,_] [] (.e (.p (.p .x .y) .u) (.p .y (.p .x .u)))|exact O [_,_] [] (.e (.p .x .y) (.p .y .x)))
 skip;refine Sm.uI ?_ ?_ ?_ ?_ ?_ ?_
 .show((0+S.l.w+cH iM)+x.n+ja items p)+S.r.w=(y.n+x.n+ja items p)- (y.n+-(cH iM))+(0+S.l.w+S.r.w);exact O [_,_,_,_,_,_] [] (.e (.p (.p (.p (.p (.p 0 .x) .y) .u) .w) .b) (.p (.s (.p (.p .d .u) .w) (.p .d (.g .y))) (.p (.p 0 .x) .b)))
 .show(if S.r.so=0 then(if S.l.so=0 then 0+S.l.s else 0)+x.a+S.r.s else(if S.l.so=0 then 0+S.l.s else 0)+x.a)=(y.a+x.a)- y.a+((if S.r.so=0 then(if S.l.so=0 then 0+S.l.s else 0)+S.r.s else(if S.l.so=0 then 0+S.l.s else 0))+0);rw[C2];exact O [_,_,_] [] (.e (.p .x .y) (.p (.s (.p .u .x) .u) (.p .y 0)))
 .show(if S.r.so=1 then(if S.l.so=1 then 0+S.l.s else 0)+x.b+S.r.s else(if S.l.so=1 then 0+S.l.s else 0)+x.b)=(y.b+x.b)- y.b+(if S.r.so=1 then(if S.l.so=1 then 0+S.l.s else 0)+S.r.s else(if S.l.so=1 then 0+S.l.s else 0));rw[C2];exact O [_,_,_] [] (.e (.p .x .y) (.p (.s (.p .u .x) .u) .y))
 .show(if S.r.so=2 then(if S.l.so=2 then 0+S.l.s else 0)+x.c+S.r.s else(if S.l.so=2 then 0+S.l.s else 0)+x.c)=(y.c+x.c)- y.c+(if S.r.so=2 then(if S.l.so=2 then 0+S.l.s else 0)+S.r.s else(if S.l.so=2 then 0+S.l.s else 0));rw[C2];exact O [_,_,_] [] (.e (.p .x .y) (.p (.s (.p .u .x) .u) .y))
 .show(if S.r.so=3 then(if S.l.so=3 then 0+S.l.s else 0)+x.d+S.r.s else(if S.l.so=3 then 0+S.l.s else 0)+x.d)=(y.d+x.d)- y.d+(if S.r.so=3 then(if S.l.so=3 then 0+S.l.s else 0)+S.r.s else(if S.l.so=3 then 0+S.l.s else 0));rw[C2];exact O [_,_,_] [] (.e (.p .x .y) (.p (.s (.p .u .x) .u) .y))
 .show(0+S.l.h)+x.h+S.r.h=(y.h+x.h)- y.h+(0+S.l.h+S.r.h);exact O [_,_,_,_] [] (.e (.p (.p (.p 0 .x) .y) .u) (.p (.s (.p .w .y) .w) (.p (.p 0 .x) .u)))
theorem ay8{S:bk}{size:Int}{items:List Nd}:∀(l:List Nat) (q p b0:Nat) (ah:List Sh),kM S size items b0 ah (l++[q]++[p])=kM S size items b0 ah (l++[q])++[s7 S size (mP items (fD items q) (mj items q) p)]:=by
 intro aM;induction aM with
 |nil=>exactλ_ _ _ _=>rfl
 |cons x l ih=>intro q p b0 ah;show _::kM S size items (fD items x) (mj items x) (l++[q]++[p])=_;rw[ih q p];rfl
theorem ay9:cH (mj items p)=j1 items p:=by
 unfold mj j1;cases e:items[p]? with
 |none=>rfl
 |some n=>cases n<;>rfl
def kx(S:bk)(size:Int)(a b:aY):Int×Int:=nL (ot a.b b.e (fM S 0)) (size- (ot a.b b.e (fM S 0)).n)
theorem az0{S:bk}{size:Int}{items:List Nd}{k j:g8}(h:fD items k.p<=j.p)(hj:j.p<=items.length):s7 S size (mP items (fD items k.p) (mj items k.p) j.p)=kx S size (dE items k) (dE items j):=by unfold s7;rw[PN h hj,ay9];rfl
theorem az1{S:bk}{size:Int}{items:List Nd}{j:g8}(hj:j.p<=items.length):s7 S size (mP items 0 [] j.p)=kx S size dj (dE items j):=by
 unfold s7;rw[PN (jW _) hj];have:gM items 0=.z:=by rw[pO (jW _)];rfl
 rw[this];rfl
noncomputable def f9:aE->List aY
 |.iL .. =>[]
 |.n s _ _ _ bf=>f9 bf++[s]
theorem C3:∀w:aE,lG w=(f9 w).map (·.p)
 |.iL .. =>rfl
 |.n s _ _ _ bf=>by
  show(s.p::qz bf).reverse=_;rw[wR];show lG bf++[s.p]=_;rw[C3 bf,f9,gk];rfl
noncomputable def gI(S:bk)(size:Int):aE->List (Int×Int)
 |.iL .. =>[]
 |.n s _ _ _ bf=>gI S size bf++[kx S size bf.s s]
theorem PO{S:bk}{size bM:Int}{a b:aY}:TL size (fM S bM) a b↔TL size (fM S 0) a b:=by rw[TL.zV,TL.zV];exact Iff.rfl
structure vZ(S:bk)(items:List Nd)(gr:Sm)(D:List aY):Prop where
 sq:D.Pairwise (Sq gr)
 head:∃r,D=dj::r
 mV:∀x∈D,x=dj\/∃k∈iK S items,x=dE items k
theorem vZ.left{S:bk}{items:List Nd}{gr:Sm}{D E:List aY}(h:vZ S items gr (D++E))(cS:D≠ []):vZ S items gr D:=by
 refine⟨(List.pairwise_append.mp h.sq).1,?_,λx hx=>h.mV x (jm _ hx)⟩;obtain⟨r,e⟩:=h.head;cases D with
 |nil=>exact absurd rfl cS
 |cons a D=>cases e;exact⟨_,rfl⟩
theorem Hq(c:jA size gr D w):D≠ []:=by obtain⟨a,e⟩:=c.mQ;rw[e];simp
def fy(w:aE):List Nat:=(f9 w).map λs=>s.p.toNat
theorem C4{S:bk}{items:List Nd}{gr:Sm}{D:List aY}{a s:aY}(h:vZ S items gr D)(ha:a∈D)(hq:Sq gr a s)(hs:s∈D):∃k∈iK S items,s=dE items k:=by
 rcases h.mV s hs with e|e
 .exfalso;rcases h.mV a ha with e2|⟨k,_,e2⟩
  .have:=hq.p;rw[e,e2]at this;exact absurd this (by decide)
  .have:=hq.p;rw[e,e2]at this;have h1:(dE items k).p=(k.p:Int):=rfl;rw[h1]at this;have h2:dj.p=-1:=rfl;exact(O [_,_] [_] (.i (.t (.c .x) .x) (.i (.e .y (.c .x)) (.i (.e .x (.k (-1))) .o)))) this h1 h2
 .exact e
theorem C5{S:bk}{items:List Nd}{gr:Sm}{size:Int}{D:List aY}{w:aE}(c:jA size gr D w):vZ S items gr D->kM S size items 0 [] (fy w)=gI S size w:=by
 induction c with
 |iL=>exactλ_=>rfl
 |@next D0 D2 s l f d bf c0 hc ih=>
  intro h;have cQ:vZ S items gr D0:=(h.left (D:=D0++D2) (by simp[Hq c0])).left (Hq c0);obtain⟨E,az2⟩:=c0.mQ;have PQ:bf.s∈D0:=by rw[az2];simp
  have PR:Sq gr bf.s s:=(List.pairwise_append.mp h.sq).2.2 bf.s (jm _ PQ) s (by simp);obtain⟨j,hj,ej⟩:=C4 h (by simp[PQ]) PR (by simp);have PS:=(sZ hj).1;have Hr:s.p.toNat=j.p:=by rw[ej];show((j.p:Int)).toNat=j.p;exact O [] [_] (.E (.af (.c .x)) .x)
  have PT:=ih cQ;cases c0 with
  |@iL eh l0 xd d0=>obtain⟨r,er⟩:=cQ.head;have e0:eh=dj:=(jV er).1;show kM S size items 0 [] [s.p.toNat]=[kx S size eh s];rw[Hr,e0,ej];exact congrArg (λx=>[x]) (az1 PS)
  |@next tj aW8 aD cV tW mi tr az3 aW9=>
   have kV:∃k∈iK S items,aD=dE items k:=by
    obtain⟨aX0,az4⟩:=az3.mQ;have fR:tr.s∈tj:=by rw[az4];simp
    exact C4 cQ (a:=tr.s) (by simp[fR]) ((List.pairwise_append.mp cQ.sq).2.2 tr.s (jm _ fR) aD (by simp)) (by simp)
   obtain⟨k,hk,ek⟩:=kV;have az5:aD.p.toNat=k.p:=by rw[ek];show((k.p:Int)).toNat=k.p;exact O [] [_] (.E (.af (.c .x)) .x)
   have gC:fD items k.p<=j.p:=by
    have:=PR.cP;have e1:(aE.n aD cV tW mi tr).s.cP=(fD items k.p:Int):=by show aD.cP=_;rw[ek];rfl
    have e2:s.p=(j.p:Int):=by rw[ej];rfl
    rw[e1,e2]at this;exact(O [_,_] [_,_] (.i (.E (.af .x) .y) (.i (.l (.c .x) (.c .y)) (.i (.e .y (.c .x)) (.i (.e .x (.c .y)) (.ag .x .y)))))) Hr this e1 e2
   have en:fy (.n s l f d (.n aD cV tW mi tr))=fy tr++[aD.p.toNat]++[s.p.toNat]:=by unfold fy;simp[f9]
   have en2:fy (.n aD cV tW mi tr)=fy tr++[aD.p.toNat]:=by unfold fy;simp[f9]
   rw[en2]at PT;rw[en,ay8,PT,az5,Hr,az0 gC PS];show _=gI S size (.n aD cV tW mi tr)++[kx S size aD s];rw[ek,ej]
structure az6(t:gX)(aG:Int)(p:Nat)(r:Int×Int):Prop where
 mem:p∈t.gY
 lt:aG<p
 bx:∀q∈i5 t aG p,-10000<t.bx q
 fits:(∀q∈i5 t aG p++[p],t.bB q<=0)->r.1≠3
 az7:¬(∀q∈i5 t aG p++[p],t.bB q<=0)->i5 t aG p=[]/\r=(3,t.bB p)
noncomputable def C6(t:gX)(S:bk)(size:Int):aE->Prop
 |.iL s _ _ _=>s.p=-1
 |.n s _ _ _ bf=>C6 t S size bf/\az6 t bf.s.p s.p.toNat (kx S size bf.s s)/\0<=s.p
theorem PU{t:gX}{S:bk}{size:Int}:∀(w:aE),C6 t S size w->∀ps aQ,rT t w.s.p ps aQ->rT t (-1) (fy w++ps) (gI S size w++aQ)
 |.iL s l f d,h,ps,aQ,hl=>by
  have h:s.p=-1:=h;have hl:rT t s.p ps aQ:=hl;rw[h]at hl;exact hl
 |.n s l f d bf,h,ps,aQ,hl=>by
  obtain⟨h1,h2,h3⟩:=h;have e1:fy (.n s l f d bf)++ps=fy bf++(s.p.toNat::ps):=by unfold fy;simp[f9]
  have e2:gI S size (.n s l f d bf)++aQ=gI S size bf++(kx S size bf.s s::aQ):=by simp[gI]
  rw[e1,e2];refine PU bf h1 _ _ ⟨⟨h2.mem,h2.lt⟩,h2.bx,h2.fits,h2.az7,?_⟩;have hl:rT t s.p ps aQ:=hl;rw[show((s.p.toNat:Nat):Int)=s.p by exact(O [_] [] (.i (.l 0 .x) (.e (.c (.af .x)) .x))) h3];exact hl
theorem PV:∀(l:List Nat) (d:List (Int×Int)),(∀p∈l,(p:Int)≠q)->bJ (oI Z d l) q=bJ d q:=by
 intro a;induction a with
 |nil=>exactλ_ _=>rfl
 |cons p l b=>intro d h;show bJ (oI Z (dQ d p (mu Z p)) l) q=_;rw[b _ λx c=>h x (.tail _ c),mf,if_neg (h p (.head _))]
theorem C7:∀(l:List Nat) (d:List (Int×Int)),q∈l->bJ (oI Z d l) q=I (mu Z q)
 |p::l,d,h=>by
  show bJ (oI Z (dQ d p (mu Z p)) l) q=_;by_cases hq:q∈l
  .exact C7 l _ hq
  .have e:q=p:=(List.mem_cons.mp h).resolve_right hq;rw[PV l _ λx a bB=>hq (by have:x=q:=(by exact(O [] [_,_,_] (.i (.E .y .u) (.i (.e (.c .x) (.c .y)) (.E .x .y)))) e bB);rw[<- this];exact a),mf,e,if_pos rfl]
theorem az8:∀(l:List Nat) (d:List (Int×Int)) (aG:Option Nat),(∀p∈l,(p:Int)≠q)->bJ (pJ Z g size d aG l) q=bJ d q:=by
 intro a;induction a with
 |nil=>exactλ_ _ _=>rfl
 |cons p l b=>intro d aG h;show bJ (pJ Z g size (dQ d p (mR Z g aG p- size)) (I p) l) q=_;rw[b _ _ λx c=>h x (.tail _ c),mf,if_neg (h p (.head _))]
noncomputable def xV(aG:Option Nat)(l:List Nat):Option Nat:=match l.getLast? with
 |some p=>I p
 |none=>aG
theorem az9(aG:Option Nat)(p:Nat)(l:List Nat):xV aG (p::l)=xV (I p) l:=by
 unfold xV;cases l with
 |nil=>rfl
 |cons q l=>rw[PX];cases e:(q::l).getLast? with
  |none=>simp at e
  |some x=>rfl
theorem Hs{Z:List az}{g size:Int}{q:Nat}{l2:List Nat}:∀(l1:List Nat) (d:List (Int×Int)) (aG:Option Nat),(l1++q::l2).Pairwise (· <·)->bJ (pJ Z g size d aG (l1++q::l2)) q=I (mR Z g (xV aG l1) q- size):=by
 intro aM;induction aM with
 |nil=>intro d aG h;show bJ (pJ Z g size (dQ d q (mR Z g aG q- size)) (I q) l2) q=_;have hq:=(List.pairwise_cons.mp h).1;rw[az8 l2 _ _ λx hx=>by have:=hq x hx;exact(O [] [_,_] (.i (.U .y .x) (.n (.e (.c .x) (.c .y))))) this,mf,if_pos rfl];rfl
 |cons p l1 ih=>intro d aG h;show bJ (pJ Z g size (dQ d p (mR Z g aG p- size)) (I p) (l1++q::l2)) q=_;rw[ih _ _ (List.pairwise_cons.mp h).2,az9]
theorem aA0:∀(aQ:List az) (p:Nat),((td p aQ).filter λx=>x.2.bx.isSome).map (·.1)=(fk p aQ).map (·.p):=by
 intro b;induction b with
 |nil=>exactλ_=>rfl
 |cons r aQ a=>
  intro p;have a:=a (p+1);show(((p,r)::td (p+1) aQ).filter λx=>x.2.bx.isSome).map (·.1)=(pN p r++fk (p+1) aQ).map (·.p);rw[s6,gk,<- a];cases h:r.bx with
  |none=>rw[zZ h];rfl
  |some c=>rw[z0 h];rfl
theorem Aa{S:bk}{Z b:List az}{ss:List Seg}(h:gZ S Z b ss):fE Z=(iK S (aI Z)).map (·.p):=by unfold fE oH iK;rw[aA0,CR S _ _ _ _ h.bx,gk,mx];rfl
theorem PY{S:bk}{Z b:List az}{ss:List Seg}(h:gZ S Z b ss):(fE Z).map (λp:Nat=>(p:Int))=(cM S (aI Z)).map (·.p):=by rw[Aa h];unfold cM;rw[l8,l8];rfl
theorem Ht{S:bk}{Z b:List az}{ss:List Seg}(h:gZ S Z b ss):(fE Z).Pairwise (· <·):=by have h1:=(List.pairwise_cons.mp (h.sq (gr:=.z) (pk 0))).2;have h2:((cM S (aI Z)).map (·.p)).Pairwise (· <·):=List.pairwise_map.mpr (h1.imp λh=>h.p);rw[<- PY h]at h2;exact(List.pairwise_map.mp h2).imp λh=>by exact(O [] [_,_] (.i (.t (.c .x) (.c .y)) (.U .x .y))) h
theorem aA1:∀{aQ:List az} {n p:Nat} {r:az},(p,r)∈td n aQ->∃j,p=n+j/\aQ[j]?=I r:=by
 intro a;induction a with
 |nil=>
  intro _ _ _ h;cases h
 |cons x aQ b=>
  intro n p r h;rcases List.mem_cons.mp h with e|h
  .cases e;exact⟨0,rfl,rfl⟩
  .obtain⟨j,c,d⟩:=b h;exact⟨j+1,by exact(O [] [_,_,_] (.i (.E .x (.p (.p .y 1) .u)) (.E .x (.p .y (.p .u 1))))) c,d⟩
theorem aA2(h:p∈oH Z):p<Z.length/\∃r,Z[p]?=I r/\r.bx≠none:=by unfold oH at h;refine cps λG0 c=>?_;obtain⟨⟨q,r⟩,a,rfl⟩:=List.mem_map.mp h;obtain⟨a,b⟩:=List.mem_filter.mp a;obtain⟨j,d,f⟩:=aA1 a;refine c ?_;clear c;rw[uh]at d;subst d;refine⟨(List.getElem?_eq_some_iff.mp f).1,r,f,λe=>?_⟩;dsimp only at b;rw[e]at b;cases b
theorem aA3{Z:List az}{S:bk}{g size:Int}{b:List az}{ss:List Seg}(h:gZ S Z b ss):∀q∈fE Z,(bJ (oI Z [] (fE Z)) q).isSome=ai/\(bJ (pJ Z g size [] aa (fE Z)) q).isSome=true:=by intro q hq;obtain⟨l1,l2,e⟩:=PZ hq;have hp:=Ht h;refine⟨by rw[C7 _ _ hq];rfl,?_⟩;rw[e]at hp⊢;rw[Hs l1 [] aa hp];rfl
theorem P0(ok:ic Z)(h:a<=b)(hb:b<=Z.length):eP (jQ Z a b)=nu (gM (aI Z) b)- nu (gM (aI Z) a):=by
 have e:∀p,p<=Z.length->nu (gM (aI Z) p)=eP (Z.take p):=by
  intro p c;rw[pO (by rw[mx];exact c)];have d:(aI Z).take p=aI (Z.take p):=by unfold aI;rw[zI]
  rw[d,qN _ _ λr f=>ok r (GI f)];show 0- 0+_=_;exact O [_] [] (.e (.p (.s 0 0) .x) .x)
 rw[e b hb,e a (by exact(O [] [_,_,_] (.i (.ag .x .u) (.i (.ag .u .y) (.ag .x .y)))) h hb),Hp h,qJ];show _=eP (Z.take a)+eP (jQ Z a b)- _;exact O [_,_] [] (.e .x (.s (.p .y .x) .y))
theorem aA4:∀{l:List az},ic l->(l.takeWhile λr=> !r.k9).length=((aI l).takeWhile Nd.cL).length:=by
 intro a;induction a with
 |nil=>exactλ_=>rfl
 |cons r l b=>
  intro h;show((r::l).takeWhile λr=> !r.k9).length=((r.n::aI l).takeWhile Nd.cL).length;rw[nG,nG,(h r (.head _)).k9,Bool.not_not];cases r.n.cL with
  |false=>rfl
  |true=>exact congrArg (· +1) (b λx c=>h x (.tail _ c))
theorem aA5:∀{l:List aK} {n:Nat},(l.takeWhile p).length<=n->((l.take n).takeWhile p).length=(l.takeWhile p).length:=by
 intro b;induction b with
 |nil=>intro _ _;simp
 |cons x l c=>
  intro d;cases d with
  |zero=>
   intro h;rw[nG]at h⊢;cases a:p x with
   |false=>rfl
   |true=>rw[a]at h;simp at h
  |succ n=>
   intro h;rw[ap2,nG,nG];rw[nG]at h;cases a:p x with
   |false=>rfl
   |true=>rw[a]at h;exact congrArg (· +1) (c (by simpa using h))
theorem P2{Z:List az}(ok:ic Z){bw p:Nat}(h:h8 (aI Z) p<=bw):lI Z bw p=h8 (aI Z) p:=by
 unfold h8 at h;unfold lI h8;have e:(aI Z).drop p=aI (Z.drop p):=by unfold aI;rw[Ox]
 rw[e]at h⊢;rw[aA4 λr hr=>ok r (Oy (GI hr))];have e2:aI ((Z.drop p).take (bw- p))=(aI (Z.drop p)).take (bw- p):=by unfold aI;rw[zI]
 rw[e2,aA5 (by exact(O [] [_,_,_] (.i (.ag (.p .u .x) .y) (.ag .x (.s .y .u)))) h)]
theorem Hu{Z:List az}{a:Nat}{r:az}(e:Z[a]?=I r):(aI Z)[a]?=I r.n:=by unfold aI;rw[Ed,e];rfl
theorem P4{Z:List az}{a:Nat}:cH (gW Z (I a))=j1 (aI Z) a:=by
 unfold gW j1;dsimp only;cases e:Z[a]? with
 |none=>
  have:(aI Z)[a]?=none:=by unfold aI;rw[Ed,e];rfl
  rw[this];rfl
 |some r=>rw[Hu e]
theorem Hv{Z:List az}{a:Nat}:cH (hB Z a)=ja (aI Z) a:=by
 unfold hB ja;cases e:Z[a]? with
 |none=>
  have:(aI Z)[a]?=none:=by unfold aI;rw[Ed,e];rfl
  rw[this];rfl
 |some r=>rw[Hu e]
theorem P5{Z:List az}(ok:ic Z){a bw:Nat}(ha:a<Z.length)(h:fD (aI Z) a<=bw):hE Z bw (I a)=fD (aI Z) a:=by
 obtain⟨r,e⟩:∃r,Z[a]?=I r:=⟨_,rj ha⟩
 unfold hE fD at*;dsimp only;rw[Hu e]at h⊢;rw[e];dsimp only;cases en:r.n with
 |dt x p q m=>
  rw[en]at h;replace h:(if q=[]then h8 (aI Z) (a+1)else a+1)<=bw:=h;show(if(Nd.dt x p q m).gU=ai then _ else _)=if q=[]then h8 (aI Z) (a+1)else a+1
  rw[if_pos (show(Nd.dt x p q m).gU=ai from rfl),OV e en];by_cases hq:q=[]
  .rw[if_pos hq]at h⊢;rw[if_pos hq];exact P2 ok h
  .rw[if_neg hq,if_neg hq]
 |_=>rw[en]at h;refine(if_neg (λhh=>by cases hh)).trans ?_;exact P2 ok h
theorem aA6{Z:List az}(ok:ic Z){g:Int}{k j:g8}(hk:k.p<Z.length)(h:fD (aI Z) k.p<=j.p)(hj:j.p<=Z.length):mR Z g (I k.p) j.p=g+nu (dE (aI Z) j).e- nu (dE (aI Z) k).b:=by unfold mR;rw[P5 ok hk h,P4,Hv,P0 ok h hj];unfold dE;dsimp only;rw[th,th];exact O [_,_,_,_,_] [] (.e (.p (.p (.p .x .y) (.s .u .w)) .b) (.s (.p .x (.p .u .b)) (.p .w (.g .y))))
theorem aA7(ok:ic Z)(hj:j.p<=Z.length):mR Z g aa j.p=g+nu (dE (aI Z) j).e- nu dj.b:=by
 unfold mR;rw[Hv,show hE Z j.p aa=0 from rfl,P0 ok (jW _) hj];have a:nu (gM (aI Z) 0)=0:=by rw[pO (jW _)];rfl
 show g+0+(nu (gM (aI Z) j.p)- nu (gM (aI Z) 0))+ja (aI Z) j.p=g+nu (Sm.gu _ _)- 0;rw[th,a];exact O [_,_,_] [] (.e (.p (.p (.p .x 0) (.s .y 0)) .u) (.s (.p .x (.p .y .u)) 0))
theorem aA8{S:bk}(hS:S.ok){m b nx:Bool}{n:Nd}(hg:n.cO):fN (lH S m b nx n):=by
 cases n with
 |sh s=>
  cases s with
  |iI a w so=>show fN (if _ then(0:Int)else 10000);split<;>(first|exact O [] [] (.c (.l (.k (-100000)) 0) (.l 0 100000))|exact O [] [] (.c (.l (.k (-100000)) 10000) (.l 10000 100000)))
  |_=>show fN 10000;exact O [] [] (.c (.l (.k (-100000)) 10000) (.l 10000 100000))
 |eV=>show fN (if _ then(0:Int)else 10000);split<;>(first|exact O [] [] (.c (.l (.k (-100000)) 0) (.l 0 100000))|exact O [] [] (.c (.l (.k (-100000)) 10000) (.l 10000 100000)))
 |bD a v=>exact hg
 |dt a p q mm=>show fN (if _ then S.ep else S.hp);have:=hS.ep;have:=hS.hp;split<;>(first|exact(O [_] [] (.i (.c (.l (.k (-100000)) .x) (.l .x 100000)) (.c (.l (.k (-100000)) .x) (.l .x 100000)))) ‹_›|exact(O [_] [] (.i (.c (.l (.k (-100000)) .x) (.l .x 100000)) (.c (.l (.k (-100000)) .x) (.l .x 100000)))) this)
 |jN=>show fN (if _ then(0:Int)else 10000);split<;>(first|exact O [] [] (.c (.l (.k (-100000)) 0) (.l 0 100000))|exact O [] [] (.c (.l (.k (-100000)) 10000) (.l 10000 100000)))
 |_=>show fN 10000;exact O [] [] (.c (.l (.k (-100000)) 10000) (.l 10000 100000))
theorem aA9(h:I c=fT p):c=p:=by
 unfold fT at h;by_cases a:p<10000
 .rw[if_pos a]at h;exact xa h
 .rw[if_neg a]at h;cases h
theorem aB0{S:bk}(hS:S.ok){aQ:List az}{m b nx:Bool}(h:gV S m b nx aQ)(ok:ic aQ)(r:az)(hr:r∈aQ)(c:Int)(hc:r.bx=I c):fN c:=by have hg:=(ok r hr).cO;obtain⟨x,y,e⟩:=PZ hr;rw[e]at h;obtain⟨ki,cp,tg,bu⟩:=Hi h;rw[hc]at bu;rw[aA9 bu];exact aA8 hS hg
theorem P6{Z:List az}{S:bk}{size bU:Int}{q:Nat}(hq:q∈fE Z):(iN Z S size bU).bx q=mu Z q:=by show(bJ (oI Z [] (fE Z)) q).getD 0=_;rw[C7 _ _ hq];rfl
theorem aB1{Z b:List az}{S:bk}{ss:List Seg}{size bU:Int}(h:gZ S Z b ss)(hS:S.ok)(hl:Z.length<=100)(hs:-4<=size/\size<=59)(ht:10000<=bU/\bU<=2147483647):zP (iN Z S size bU):=by
 refine⟨h.ok,hW hl (by decide),hS,⟨hs.1,by show size<=100;exact(O [_] [] (.i (.c (.l (.k (-4)) .x) (.l .x 59)) (.l .x 100))) hs⟩,ht,λp=>?_⟩;show-100000<=(bJ (oI Z [] (fE Z)) p).getD 0/\(bJ (oI Z [] (fE Z)) p).getD 0<=100000;by_cases hp:∃q∈fE Z,(q:Int)=p
 .obtain⟨q,hq,rfl⟩:=hp;rw[C7 _ _ hq,sC];unfold mu;cases e:Z[q]? with
  |none=>decide
  |some r=>
   dsimp only;cases aB2:r.bx with
   |none=>decide
   |some c=>exact aB0 hS h.bx h.ok r (fJ e) c aB2
 .rw[PV _ _ λq hq e=>hp ⟨q,hq,e⟩];show fN 0;decide
theorem Ab{S:bk}{Z b:List az}{ss:List Seg}{size bU:Int}(h:gZ S Z b ss){A R:List aY}{x y:aY}(e:dj::cM S (aI Z)=A++x::y::R):y.p.toNat∈fE Z/\(y.p.toNat:Int)=y.p/\(iN Z S size bU).bB y.p.toNat=ku S+nu y.e- nu x.b- size:=by
 have hp:=Ht h;have hl:=Aa h;have sq:=h.sq (gr:=.z) (pk 0);have gE:=mx Z;unfold gX.bB;show _/\_/\(bJ (pJ Z (ku S) size [] aa (fE Z)) _).getD 0=_;rw[hl]at hp⊢;unfold cM at e sq;cases A with
 |nil=>
  refine cps λG0 g0=>?_;obtain⟨e0,e⟩:=jV e;obtain⟨k,ks,e1,e2,e3⟩:=List.map_eq_cons_iff.mp e;refine g0 ?_;clear g0;have kl:=(sZ (S:=S) (items:=aI Z) (k:=k) (by rw[e1];simp)).1;have ep:y.p.toNat=k.p:=by rw[<- e2];show((k.p:Nat):Int).toNat=k.p;exact O [] [_] (.E (.af (.c .x)) .x)
  rw[e1,oV]at hp⊢;rw[ep];refine⟨by simp,by rw[<- e2];rfl,?_⟩;have ht:=Hs (Z:=Z) (g:=ku S) (size:=size) [] [] aa hp;rw[m9]at ht;rw[ht,sC];show mR Z (ku S) aa k.p- size=_;rw[aA7 h.ok (by exact(O [_] [_,_,_] (.i (.E .u .y) (.i (.ag .x .u) (.i (.E (.af .x) .x) (.ag .x .y))))) gE kl ep),e2,e0]
 |cons a A=>
  refine cps λG0 g0=>?_;obtain⟨e0,e⟩:=jV e;obtain⟨l1,l2,e1,e2,e3⟩:=List.map_eq_append_iff.mp e;obtain⟨k1,l3,e4,e5,e6⟩:=List.map_eq_cons_iff.mp e3;obtain⟨k2,l4,e7,e8,e9⟩:=List.map_eq_cons_iff.mp e6;refine g0 ?_;clear g0;rw[e7]at e4;rw[e4]at e1;have kl:=(sZ (S:=S) (items:=aI Z) (k:=k2) (by rw[e1];simp)).1;have ep:y.p.toNat=k2.p:=by rw[<- e8];show((k2.p:Nat):Int).toNat=k2.p;exact O [] [_] (.E (.af (.c .x)) .x)
  have q:Sq .z (dE (aI Z) k1) (dE (aI Z) k2):=by have q2:=(List.pairwise_cons.mp sq).2;rw[e1,gk]at q2;exact(List.pairwise_cons.mp (List.pairwise_append.mp q2).2.1).1 _ (.head _)
  have q1:((fD (aI Z) k1.p:Nat):Int)<=((k2.p:Nat):Int):=q.cP;have q2:((k1.p:Nat):Int)<((k2.p:Nat):Int):=q.p;rw[e1]at hp⊢;rw[ep];have em:(l1++k1::k2::l4).map (·.p)=(l1.map (·.p)++[k1.p])++k2.p::l4.map (·.p):=by simp
  rw[em]at hp⊢;refine⟨by simp,by rw[<- e8];rfl,?_⟩;rw[Hs _ [] aa hp,sC];have el:xV aa (l1.map (·.p)++[k1.p])=I k1.p:=by unfold xV;rw[List.getLast?_append];rfl
  rw[el,aA6 h.ok (by exact(O [_] [_,_,_,_] (.i (.E .w .y) (.i (.ag .u .w) (.i (.E (.af .x) .u) (.i (.t (.c .x) (.c .u)) (.U .x .y)))))) gE kl ep q2) (by exact(O [_] [_,_] (.i (.E (.af .x) .y) (.i (.l (.c .x) (.c .y)) (.ag .x .y)))) ep q1) (by exact(O [_] [_,_,_] (.i (.E .u .y) (.i (.ag .x .u) (.i (.E (.af .x) .x) (.ag .x .y))))) gE kl ep),e5,e8]
theorem C8{S:bk}{Z b:List az}{ss:List Seg}{size bU bM:Int}(h:gZ S Z b ss){A R:List aY}{x y:aY}(e:dj::cM S (aI Z)=A++x::y::R):(0<(iN Z S size bU).bB y.p.toNat↔TL size (fM S bM) x y):=by rw[(Ab h e).2.2,TL.zV];skip;skip;constructor<;>intro _<;>(first|exact(O [_,_,_,_,_,_,_,_,_] [] (.i (.t 0 (.s (.s (.p (.s (.p (.s .d .f) .e) .h) (.s .y .u)) (.s .w .b)) .x)) (.t .x (.p (.s (.s .y .u) (.s .w .b)) (.s (.p (.p 0 .d) .e) (.p (.p 0 .f) .h)))))) ‹_›|exact(O [_,_,_,_,_,_,_,_,_] [] (.i (.t .h (.p (.s (.s .b .d) (.s .e .f)) (.s (.p (.p 0 .x) .u) (.p (.p 0 .y) .w)))) (.t 0 (.s (.s (.p (.s (.p (.s .x .y) .u) .w) (.s .b .d)) (.s .e .f)) .h)))) ‹_›)
theorem aB3:∀(l:List aY) (a:aY),vU size gr a l↔∀A x y R,a::l=A++x::y::R->¬TL size gr x y:=by
 intro c;induction c with
 |nil=>exactλa=>⟨λ_ A x y R e=>by have:=congrArg yz e;simp at this;exact(O [_,_,_] [_,_] (.i (.E 1 (.p .x (.p (.p .y 1) 1))) (.n (.t .x (.s .y .u))))) this,λ_=>trivial⟩
 |cons s r b=>
  intro a;refine⟨λh A x y R e=>?_,λh=>⟨h [] a s r rfl,(b s).mpr λA x y R e=>h (a::A) x y R (by rw[e];rfl)⟩⟩;cases A with
  |nil=>cases e;exact h.1
  |cons _ A=>exact(b s).mp h.2 A x y R (jV e).2
theorem P7(h:y∈l):∃A x R,a::l=A++x::y::R:=by
 obtain⟨b,c,rfl⟩:=PZ h;rcases xS (a::b)with e|⟨A,x,e⟩
 .cases e
 .rw[xT]at e;exact⟨A,x,c,by rw[<- qI,e,dK];rfl⟩
theorem P8{S:bk}{Z b:List az}{ss:List Seg}(h:gZ S Z b ss){q:Nat}(hq:q∈fE Z):∃af∈cM S (aI Z),af.p=q:=by rw[Aa h]at hq;obtain⟨k,hk,rfl⟩:=List.mem_map.mp hq;exact⟨_,FQ hk,rfl⟩
theorem P9{S:bk}{Z b:List az}{ss:List Seg}{size bU bM:Int}(h:gZ S Z b ss):xQ (iN Z S size bU)↔vU size (fM S bM) dj (cM S (aI Z)):=by
 rw[aB3];refine⟨λaT A x y R e ht=>?_,λaT q hq=>?_⟩
 .have h1:=aT _ (Ab h (size:=size) (bU:=bU) e).1;have h2:=(C8 h (size:=size) (bU:=bU) (bM:=bM) e).mpr ht;exact(O [_] [] (.i (.l .x 0) (.i (.t 0 .x) .o))) h1 h2
 .obtain⟨y,hy,ey⟩:=P8 h hq;obtain⟨A,x,R,e⟩:=P7 (a:=dj) hy;have h1:¬0<(iN Z S size bU).bB y.p.toNat:=λbu=>aT A x y R e ((C8 h (size:=size) (bU:=bU) (bM:=bM) e).mp bu);have e2:y.p.toNat=q:=by exact(O [_] [_] (.i (.e .x (.c .x)) (.E (.af .x) .x))) ey
  rw[e2]at h1;exact(O [_] [] (.i (.n (.t 0 .x)) (.l .x 0))) h1
theorem TL.aB4(hp:(a::(M++[s])).Pairwise (Sq gr))(e:a::(M++[s])=A++x::af::R)(h:TL size gr x af):TL size gr a s:=by
 have c:TL size gr x s:=by
  rcases xS R with rfl|⟨d,t,rfl⟩
  .have b:(a::M)++[s]=(A++[x])++[af]:=by rw[qI,e,dK];rfl
   rw[(jV (uE b rfl).2).1];exact h
  .rw[xT]at e;have b:(a::M)++[s]=(A++x::af::d)++[t]:=by rw[qI,e];simp
   rw[(jV (uE b rfl).2).1];rw[e]at hp;exact h.right ((List.pairwise_cons.mp (List.pairwise_cons.mp (List.pairwise_append.mp hp).2.1).2).1 t (by simp))
 cases A with
 |nil=>rw[(jV e).1];exact c
 |cons g A=>have f:=(jV e).1;rw[e]at hp;subst f;exact c.left ((List.pairwise_cons.mp hp).1 x (by simp))
theorem Ac:∀{aQ:List az} {p:Nat} {k:g8},k∈fk p aQ->∃j r c,k.p=p+j/\aQ[j]?=I r/\r.bx=I c/\k.bD=jn c (-10000)
 |r::aQ,p,k,h=>by
  rcases List.mem_append.mp h with h|h
  .cases hc:r.bx with
   |none=>rw[zZ hc]at h;cases h
   |some c=>rw[z0 hc]at h;obtain rfl:=List.mem_singleton.mp h;exact⟨0,r,c,rfl,rfl,hc,rfl⟩
  .obtain⟨j,a,c,b,d,e⟩:=Ac h;exact⟨j+1,a,c,by exact(O [] [_,_,_] (.i (.E .x (.p (.p .y 1) .u)) (.E .x (.p .y (.p .u 1))))) b,d,e⟩
theorem Qa{S:bk}{Z b:List az}{ss:List Seg}(h:gZ S Z b ss){k:g8}(hk:k∈iK S (aI Z)):k.bD=jn (mu Z k.p) (-10000):=by
 unfold iK at hk;rw[CR S _ _ _ _ h.bx]at hk;unfold mu;rcases List.mem_append.mp hk with hk|hk
 .obtain⟨j,r,c,e1,e2,e3,e4⟩:=Ac hk;rw[e1,uh,e2,e4];dsimp only;rw[e3];rfl
 .obtain rfl:=List.mem_singleton.mp hk;dsimp only;rw[mx,qi (gB _)];rfl
theorem aB5{S:bk}{Z b:List az}{ss:List Seg}{size bU bM:Int}(hS:S.ok)(h:gZ S Z b ss){D:List aY}{w:aE}(c:jA size (fM S bM) D w):∀E,dj::cM S (aI Z)=D++E->C6 (iN Z S size bU) S size w:=by
 have sq:=h.sq (gr:=fM S bM) (vY hS);induction c with
 |@iL s l f d=>intro E e;have:s=dj:=(jV e).1.symm;subst this;rfl
 |@next D0 D2 s l f d bf c0 hc ih=>
  intro E e;refine⟨ih (D2++[s]++E) (by rw[e];simp),?_,?_⟩
  .obtain⟨D1,e1⟩:=c0.mQ;subst e1;have e2:dj::cM S (aI Z)=D1++((bf.s::(D2++[s]))++E):=by rw[e];simp
   have Ad:=sq;rw[e2]at Ad;have pw:=(List.pairwise_append.mp (List.pairwise_append.mp Ad).2.1).1;have lY:∀{y},y∈D2++[s]->∃A x R,bf.s::(D2++[s])=A++x::y::R/\dj::cM S (aI Z)=(D1++A)++x::y::(R++E):=λ{y} hy=>by
    obtain⟨A,x,R,e3⟩:=P7 (a:=bf.s) hy;exact⟨A,x,R,e3,by rw[e2,e3];simp⟩
   have hs:s.p.toNat∈fE Z/\(s.p.toNat:Int)=s.p:=by obtain⟨A,x,R,e3,e4⟩:=lY (y:=s) (by simp);exact⟨(Ab h (size:=size) (bU:=bU) e4).1,(Ab h (size:=size) (bU:=bU) e4).2.1⟩
   have iG:∀q∈i5 (iN Z S size bU) bf.s.p s.p.toNat,∃af∈D2,af.p=(q:Int)/\q∈fE Z/\af∈cM S (aI Z):=λq hq=>by
    obtain⟨hq,hc⟩:=List.mem_filter.mp hq;rw[lR,decide_eq_true_eq,decide_eq_true_eq]at hc;obtain⟨af,hz,ez⟩:=P8 h hq;refine⟨af,?_,ez,hq,hz⟩;have hz:af∈D1++((bf.s::(D2++[s]))++E):=by rw[<- e2];exact .tail _ hz
    have p1:=List.pairwise_append.mp Ad;rcases List.mem_append.mp hz with hz|hz
    .have:=(p1.2.2 af hz bf.s (by simp)).p;exact tT ((O [_,_,_] [_] (.i (.c (.t .y (.c .x)) (.t (.c .x) (.c (.af .u)))) (.i (.e .x (.c .x)) (.i (.t .x .y) .o)))) hc ez this)
    .rcases List.mem_append.mp hz with hz|hz
     .rcases List.mem_cons.mp hz with rfl|hz
      .exact tT ((O [_,_] [_] (.i (.c (.t .x (.c .x)) (.t (.c .x) (.c (.af .y)))) (.i (.e .x (.c .x)) .o))) hc ez)
      .rcases List.mem_append.mp hz with hz|hz
       .exact hz
       .cases List.mem_singleton.mp hz;omega
     .have:=((List.pairwise_append.mp p1.2.1).2.2 s (by simp) af hz).p;omega
   refine⟨hs.1,?_,λq hq=>?_,λhx=>?_,λhx=>?_⟩
   .rw[hs.2];exact((List.pairwise_cons.mp pw).1 s (by simp)).p
   .obtain⟨af,hz,ez,aB6,aB7⟩:=iG q hq;rw[P6 aB6];skip;obtain⟨k,hk,rfl⟩:=List.mem_map.mp aB7;have hp:(dE (aI Z) k).bD≠-10000:=by
     rcases hc with⟨_,h2⟩|⟨_,h2⟩
     .exact h2 _ hz
     .rw[h2]at hz;cases hz
    have hp:k.bD≠-10000:=hp;have ez:(k.p:Int)=q:=ez;have ek:k.p=q:=by exact(O [] [_,_] (.i (.e (.c .x) (.c .y)) (.E .x .y))) ez
    rw[Qa h hk,ek]at hp;exact(O [_] [] (.i (.n (.e (.l .x (.k (-10000))) (.k (-10000)))) (.t (.k (-10000)) .x))) hp
   .have gE:¬TL size (fM S bM) bf.s s:=λht=>by
     rcases hc with⟨h1,_⟩|⟨_,h2⟩
     .exact h1 ht
     .subst h2;obtain⟨A,x,R,e3,e4⟩:=lY (y:=s) (by simp);have:=hx _ (C9 _ (.head _));have e5:=(uE (show([]:List aY)++[bf.s,s]=A++x::s::R from e3))
      have:=(C8 h (size:=size) (bU:=bU) (bM:=bM) (A:=D1) (x:=bf.s) (y:=s) (R:=E) (by rw[e2];simp)).mpr ht;exact(O [_] [] (.i (.l .x 0) (.i (.t 0 .x) .o))) ‹_› this
    have hh:0<=(ot bf.s.b s.e (fM S 0)).h:=((List.pairwise_cons.mp pw).1 s (by simp)).h;exact(Pm hh λhl=>gE (PO.mpr hl)).1
   .have tl:TL size (fM S bM) bf.s s:=by
     obtain⟨q,hx⟩:=Classical.not_forall.mp hx;obtain⟨hq,hx⟩:=Classical.not_imp.mp hx;have:∃y∈D2++[s],y.p=(q:Int):=by
      rcases List.mem_append.mp hq with hq|hq
      .obtain⟨af,hz,ez,_⟩:=iG q hq;exact⟨af,by simp[hz],ez⟩
      .cases List.mem_singleton.mp hq;exact⟨s,by simp,hs.2.symm⟩
     obtain⟨y,hy,ey⟩:=this;obtain⟨A,x,R,e3,e4⟩:=lY hy;have eq:y.p.toNat=q:=by exact(O [_] [_] (.i (.e .x (.c .x)) (.E (.af .x) .x))) ey
     refine TL.aB4 pw e3 ((C8 h (size:=size) (bU:=bU) e4).mp ?_);rw[eq];omega
    have e0:D2=[]:=by
     rcases hc with⟨h1,_⟩|⟨_,h2⟩
     .exact absurd tl h1
     .exact h2
    subst e0;refine⟨?_,?_⟩
    .cases eb:i5 (iN Z S size bU) bf.s.p s.p.toNat with
     |nil=>rfl
     |cons q l=>obtain⟨af,hz,_⟩:=iG q (by rw[eb];simp);cases hz
    .have hh:0<=(ot bf.s.b s.e (fM S 0)).h:=((List.pairwise_cons.mp pw).1 s (by simp)).h;have r:=Pk (size:=size) hh (PO.mp tl);have bB:=(Ab h (size:=size) (bU:=bU) (A:=D1) (x:=bf.s) (y:=s) (R:=E) (by rw[e2];simp)).2.2;skip;unfold kx;rw[r,bB];refine congrArg (Prod.mk 3) ?_;skip;skip;exact O [_,_,_,_,_,_,_,_,_] [] (.e (.s (.s (.p (.s .x .y) (.p (.p 0 .u) .w)) (.p (.s .b .d) (.p (.p 0 .e) .f))) .h) (.s (.s (.p (.s (.p (.s .u .e) .w) .f) (.s .x .b)) (.s .y .d)) .h))
  .have:s∈cM S (aI Z):=by
    have ax:s∈dj::cM S (aI Z):=by rw[e];simp
    rcases List.mem_cons.mp ax with rfl|ax
    .exfalso;obtain⟨D1,e1⟩:=c0.mQ;rw[e,e1]at sq;have:=((List.pairwise_append.mp (List.pairwise_append.mp sq).1).2.2 bf.s (by simp) dj (by simp)).p;have hb:bf.s∈dj::cM S (aI Z):=by rw[e,e1];simp
     rcases List.mem_cons.mp hb with e5|hb
     .rw[e5]at this;exact absurd this (by decide)
     .unfold cM at hb;obtain⟨k,_,e5⟩:=List.mem_map.mp hb;rw[<- e5]at this;have:(k.p:Int)< -1:=this;exact(O [] [_] (.i (.t (.c .x) (.k (-1))) .o)) this
    .exact ax
   skip;obtain⟨k,_,rfl⟩:=List.mem_map.mp this;exact wC k.p
theorem Qb{t:gX}{S:bk}{size:Int}:∀{w:aE},C6 t S size w->∀x∈f9 w,x.p.toNat∈t.gY/\0<=x.p
 |.iL ..,_,x,hx=>by cases hx
 |.n s _ _ _ bf,h,x,hx=>by
  rcases List.mem_append.mp hx with hx|hx
  .exact Qb h.1 x hx
  .obtain rfl:=List.mem_singleton.mp hx;exact⟨h.2.1.mem,h.2.2⟩
theorem aB8(h:∀x∈f9 w,0<=x.p):lG w=(fy w).map λp:Nat=>(p:Int):=by rw[C3];unfold fy;rw[l8];exact yB λx a=>by have:=h x a;show x.p=((x.p.toNat:Nat):Int);exact(O [_] [] (.i (.l 0 .x) (.e .x (.c (.af .x))))) this
theorem Qc(c:jA size gr D w):(fy w).length+1<=D.length:=by
 have e:∀w:aE,(fy w).length=(f9 w).length:=λw=>by unfold fy;rw[cm]
 rw[e];induction c with
 |iL=>exact gB 1
 |next c h ih=>simp only[f9,fQ,CU];exact(O [] [_,_,_] (.i (.ag (.p .x 1) .y) (.ag (.p (.p .x 1) 1) (.p (.p .y .u) 1)))) ih
theorem Hw{S:bk}{Z b:List az}{ss:List Seg}(h:gZ S Z b ss):(cM S (aI Z)).length=ss.length+1:=by
 have:∀(ss:List Seg) (b:List az) (p:Nat),(uF p b ss).length=ss.length+1:=by
  intro ss;induction ss with
  |nil=>exactλ_ _=>rfl
  |cons s ss ih=>exactλb p=>congrArg (· +1) (ih _ _)
 rw[h.rL];unfold uH;rw[cm,this]
theorem Dc{S:bk}{Z b:List az}{ss:List Seg}{gr:Sm}(h:gZ S Z b ss)(hg:0<=gr.h):vZ S (aI Z) gr (dj::cM S (aI Z)):=
 ⟨h.sq hg,⟨_,rfl⟩,λx hx=>by
  rcases List.mem_cons.mp hx with e|hx
  .exact .inl e
  .obtain⟨k,hk,e⟩:=List.mem_map.mp hx;exact .inr ⟨k,hk,e.symm⟩⟩
theorem aB9{S:bk}{Z b:List az}{ss:List Seg}{size bU bM:Int}{sh:gN}{free:Bool}(hS:S.ok)(h:gZ S Z b ss)(hl:ss.length<=5)(aT:S.loose≠0->free=ai)(gC:∀w,Hm (aI Z) S sh size bM w->free=ak->oG (iN Z S size bU) aa [] [] (fy w) (gI S size w)):∃gO,GX (iN Z S size bU) sh bM free gO:=by
 obtain⟨w,a⟩:=ay3 (items:=aI Z) (S:=S) (sh:=sh) (size:=size) (bM:=bM) (h.sq (vY hS));have ok:=aB5 (size:=size) (bU:=bU) hS h a.oC [] (dZ _).symm;have ax:=Qb ok;have en:=aB8 λx hx=>(ax x hx).2;have er:=C5 (size:=size) a.oC (Dc h (vY hS));have fh:=Qc a.oC;rw[iw,Hw h]at fh;have G3:∀p∈fy w,p<=(aI Z).length:=λp hp=>by
  obtain⟨x,hx,rfl⟩:=List.mem_map.mp hp;have:=(ax x hx).1;have this:x.p.toNat∈fE Z:=this;rw[Aa h]at this;obtain⟨k,hk,e⟩:=List.mem_map.mp this;rw[<- e];exact(sZ hk).1
 have eZ:rT (iN Z S size bU) w.s.p [] []:=by
  obtain⟨D1,e1⟩:=a.oC.mQ;have e2:(fE Z).map (λp:Nat=>(p:Int))=(cM S (aI Z)).map (·.p):=PY h;cases D1 with
  |nil=>obtain⟨_,e3⟩:=jV e1;rw[e3]at e2;unfold fE at e2;simp at e2
  |cons x D1=>obtain⟨_,e3⟩:=jV e1;rw[e3]at e2;unfold fE at e2;rw[List.append_eq,gk,gk]at e2;have e4:((Z.length:Nat):Int)=w.s.p:=(jV (uE e2 rfl).2).1;exact⟨oH Z,by show oH Z++[Z.length]=_;rw[<- e4];rfl,by rw[<- e4];exact wC _⟩
 refine⟨fy w,λc=>by rw[<- en];exact a.last c,λc=>by rw[<- en];exact a.j0 c,λc hc=>(P9 h).mpr (a.fL c hc),λc hc aC0=>a.GY c hc ((P9 h).mp aC0),?_,λe _=>?_,G3,by exact(O [] [_,_] (.i (.ag .y 5) (.i (.ag (.p .x 1) (.p (.p .y 1) 1)) (.ag .x 15)))) hl fh⟩
 .have:=PU w ok [] [] eZ;rw[dZ,dZ,<- er]at this;exact this
 .have:=gC w a e;rw[<- er]at this;exact this
structure xW(dD:Int)(dM:Sm)(s aD:aY):Prop where
 p:s.p=aD.p+dD
 b:s.b=dM.pl aD.b
 e:s.e=dM.pl aD.e
 cP:s.cP=aD.cP+dD
theorem Qd(dM b e g:Sm):ot (dM.pl b) (dM.pl e) g=ot b e g:=by
 have:∀{x y a w:Int},x+y- (x+a)+w=y- a+w:=by intros;exact O [_,_,_,_] [] (.e (.p (.s (.p .x .y) (.p .x .u)) .w) (.p (.s .y .u) .w))
 exact Sm.uI this this this this this this
theorem Qe{aK:Type}{p:aK->Bool}{B U:List aK}(hU:∀u∈U,p u=ak):∀{M:List aK},((M++B).takeWhile p).length<=M.length->((M++U).takeWhile p).length=((M++B).takeWhile p).length
 |[],h=>by
  rw[Nat.le_zero.mp h];cases U with
  |nil=>rfl
  |cons u U=>rw[m9,nG,hU u (.head _)];rfl
 |n::M,h=>by
  rw[qI,nG]at h⊢;rw[qI,nG];cases hp:p n with
  |false=>rfl
  |true=>rw[hp]at h;exact congrArg (· +1) (Qe hU (Nat.le_of_succ_le_succ h))
section
variable{A M B:List Nd}{T U:List Sh}{i:Nat}
theorem Hx(h:i<=M.length):gM (A++M++B) (A.length+i)=((gM (A++M++B) A.length).gu (-(cH T))).pl (gM (T.map .sh++M++U.map .sh) (T.length+i)):=by
 have f:(A++M++B).take (A.length+i)=A++M.take i:=by rw[dK,aC1,aC2 h]
 have j:(A++M++B).take A.length=A:=by rw[dK];exact z5 rfl
 have l:(T.map Nd.sh++M++U.map Nd.sh).take (T.length+i)=T.map .sh++M.take i:=by have:=cm (as:=T) Nd.sh;rw[<- this,dK,aC1,aC2 h]
 rw[pO (by simp only[fQ];exact(O [] [_,_,_,_] (.i (.ag .y .u) (.ag (.p .x .y) (.p (.p .x .u) .w)))) h),pO (by simp only[fQ];exact(O [] [_,_,_,_] (.i (.ag .w .y) (.ag .x (.p (.p .x .y) .u)))) h),pO (by simp only[fQ,cm];exact(O [] [_,_,_,_] (.i (.ag .y .u) (.ag (.p .x .y) (.p (.p .x .u) .w)))) h),f,j,l,oy,oy,C1,C0 (M.take i),C0 (M.take i) (Sm.z.gu _)];generalize cJ .z A=x;generalize cJ .z (M.take i)=y;exact Sm.uI (by show x.n+y.n=x.n+-cH T+(0+cH T+y.n);exact O [_,_,_] [] (.e (.p .x .y) (.p (.p .x (.g .u)) (.p (.p 0 .u) .y)))) (congrArg (x.a+·) (mB y.a).symm) (congrArg (x.b+·) (mB y.b).symm) (congrArg (x.c+·) (mB y.c).symm) (congrArg (x.d+·) (mB y.d).symm) (congrArg (x.h+·) (mB y.h).symm)
theorem Qf(h:i<M.length):(A++M++B)[A.length+i]?=(T.map Nd.sh++M++U.map Nd.sh)[T.length+i]?:=by have:=cm (as:=T) Nd.sh;rw[dK,dK,z7 (yy _ _),aC3,Hy h,z7 (by exact(O [] [_,_,_] (.i (.E .x .y) (.ag .x (.p .y .u)))) this),this,aC3,Hy h]
theorem Qg(hU:∀u∈U,(Nd.sh u).cL=ak)(hi:i<=M.length)(h:h8 (A++M++B) (A.length+i)<=A.length+M.length):h8 (T.map .sh++M++U.map .sh) (T.length+i)+A.length=h8 (A++M++B) (A.length+i)+T.length:=by
 have e1:(A++M++B).drop (A.length+i)=M.drop i++B:=by rw[dK,aC4,aC5 hi]
 have e2:(T.map Nd.sh++M++U.map Nd.sh).drop (T.length+i)=M.drop i++U.map .sh:=by have:=cm (as:=T) Nd.sh;rw[<- this,dK,aC4,aC5 hi]
 unfold h8 at h⊢;rw[e1]at h⊢;have:=vJ (l:=M) (i:=i);rw[e2,Qe (B:=B) (λu hu=>by obtain⟨s,hs,rfl⟩:=List.mem_map.mp hu;exact hU s hs) (by exact(O [] [_,_,_,_,_] (.i (.ag .w .u) (.i (.ag (.p (.p .b .w) .x) (.p .b .u)) (.i (.E .y (.s .u .w)) (.ag .x .y))))) hi h this)];exact O [] [_,_,_,_] (.E (.p (.p (.p .x .y) .u) .w) (.p (.p (.p .w .y) .u) .x))
theorem aC6(hU:∀u∈U,(Nd.sh u).cL=ak)(hi:i<M.length)(h:fD (A++M++B) (A.length+i)<=A.length+M.length):fD (T.map .sh++M++U.map .sh) (T.length+i)+A.length=fD (A++M++B) (A.length+i)+T.length:=by
 unfold fD at h⊢;rw[<- Qf (A:=A) (B:=B) hi];revert h;cases e:B8 (A++M++B)[A.length+i]? with
 |none=>exactλh=>Qg hU (A9 hi) h
 |some q=>
  intro h;show(if q=[]then _ else _)+_=(if q=[]then _ else _)+_;have h:(if q=[]then h8 (A++M++B) (A.length+i+1)else A.length+i+1)<=A.length+M.length:=h;by_cases e:q=[]
  .rw[if_pos e]at h;rw[if_pos e,if_pos e];exact Qg (i:=i+1) hU hi h
  .rw[if_neg e,if_neg e];exact O [] [_,_,_] (.E (.p (.p (.p .x .y) 1) .u) (.p (.p (.p .u .y) 1) .x))
end
theorem dz.map:∀{l:List aK} {r:List de},dz R l r->(∀a∈l,∀b,R a b->mS (f a) (g b))->dz mS (l.map f) (r.map g)
 |[],[],_,_=>trivial
 |a::_,b::_,x,h=>⟨h a (.head _) b x.1,x.2.map λa ha=>h a (.tail _ ha)⟩
theorem Hz:∀(x y:List az) (p:Nat),fk p (x++y)=fk p x++fk (p+x.length) y:=by
 intro a;induction a with
 |nil=>exactλ_ _=>rfl
 |cons r x b=>intro y p;show pN p r++fk (p+1) (x++y)=pN p r++fk (p+1) x++_;rw[b y,dK,iw,show p+1+x.length=p+(x.length+1) by exact O [] [_,_] (.E (.p (.p .x 1) .y) (.p .x (.p .y 1)))]
theorem aC7:∀(M:List az) (p q:Nat),dz (λk lP:g8=>∃j,j<M.length/\k.p=p+j/\lP.p=q+j/\k.bD=lP.bD) (fk p M) (fk q M):=by
 intro d;induction d with
 |nil=>exactλ_ _=>trivial
 |cons r M a=>
  intro p q;have a:=(a (p+1) (q+1)).bI λk lP h=>show∃j,j<(r::M).length/\k.p=p+j/\lP.p=q+j/\k.bD=lP.bD from
   let⟨j,e,g,i,f⟩:=h;⟨j+1,Ys e,by omega,by omega,f⟩
  unfold fk;cases b:r.bx with
  |none=>rw[zZ b,zZ b];exact a
  |some c=>rw[z0 b,z0 b];exact⟨⟨0,Fp _,rfl,rfl,rfl⟩,a⟩
def rV(s:Sh):az:=⟨.sh s,ai,s.jj,aa,aa⟩
theorem Qi(T:List Sh):∀r∈T.map rV,r.bx=none:=λr a=>by obtain⟨s,_,rfl⟩:=List.mem_map.mp a;rfl
def j3(T:List Sh)(M:List az)(U:List Sh):List az:=T.map rV++M++U.map rV
theorem Qj(T:List Sh)(M:List az)(U:List Sh):aI (j3 T M U)=T.map .sh++aI M++U.map .sh:=by unfold j3;rw[pP,pP];unfold aI;rw[l8,l8];rfl
theorem aC8(T:List Sh)(M:List az)(U:List Sh):fk 0 (j3 T M U)=fk T.length M:=by unfold j3;have:=z3 (U.map rV) [] (0+(T.map rV++M).length) (Qi U);rw[dZ]at this;rw[Hz,this,z3 (T.map rV) _ _ (Qi T),cm,uh];exact dZ _
theorem Dd{S:bk}{Z:List az}(hc:gV S ai ak ak Z):iK S (aI Z)=fk 0 Z++[⟨Z.length,-10000,1⟩]:=by unfold iK;rw[CR S _ _ _ _ hc,mx]
structure xX(S:bk)(gr:Sm)(Z:List az)(dD:Int)(dM:Sm)(De:List Nd)(a e bz:aY)(SM iP:List aY):Prop where
 j0:dz (λs aD=>xW dD dM s aD/\s.bD=aD.bD) SM iP
 ee:e.e=dM.pl bz.e
 bD:bz.bD=-10000
 p:bz.p=De.length
 rL:cM S De=iP++[bz]
 sq:(dj::(iP++[bz])).Pairwise (Sq gr)
theorem Df{gr:Sm}{dD:Int}{dM:Sm}{x y fq oh:aY}(q:Sq gr x y)(h1:fq.cP+dD<=x.cP)(h2:y.p<=oh.p+dD)(h3:fq.p<oh.p)(hb:x.b=dM.pl fq.b)(ba:y.e=dM.pl oh.e)(h4:y.b=dM.pl oh.b\/oh.b=oh.e)(h5:x.e=dM.pl fq.e\/fq.e=fq.b):Sq gr fq oh:=by
 have q1:=q.cP;have q2:=q.bb;have q3:=q.ee;have q4:=q.h;have q5:=q.Iw;rw[hb,ba]at q5;rw[hb]at q2;rw[ba]at q3;rw[hb,ba]at q4;have pn:∀m:Sm,(dM.pl m).n=dM.n+m.n:=λ_=>rfl;have ph:∀m:Sm,(dM.pl m).h=dM.h+m.h:=λ_=>rfl;rw[pn,ph]at q2 q3;rw[pn,ph,pn,ph]at q5;rw[ph,ph]at q4;refine⟨by exact(O [_,_,_,_,_] [] (.i (.l (.p .x .b) .u) (.i (.l .w (.p .y .b)) (.i (.l .u .w) (.l .x .y))))) h1 h2 q1,?_,?_,by exact(O [_,_,_,_] [] (.i (.l 0 (.p (.s (.p .w .x) (.p .w .y)) .u)) (.l 0 (.p (.s .x .y) .u)))) q4,h3,by exact(O [_,_,_,_,_,_] [] (.i (.l (.s (.p .b .x) (.p .d .y)) (.s (.p .b .u) (.p .d .w))) (.l (.s .x .y) (.s .u .w)))) q5⟩
 .rcases h4 with h4|h4
  .rw[h4,pn,ph]at q2;exact(O [_,_,_,_,_,_] [] (.i (.l (.s (.p .b .x) (.p .d .y)) (.s (.p .b .u) (.p .d .w))) (.l (.s .x .y) (.s .u .w)))) q2
  .rw[h4];exact(O [_,_,_,_,_,_] [] (.i (.l (.s (.p .b .x) (.p .d .y)) (.s (.p .b .u) (.p .d .w))) (.l (.s .x .y) (.s .u .w)))) q5
 .rcases h5 with h5|h5
  .rw[h5,pn,ph]at q3;exact(O [_,_,_,_,_,_] [] (.i (.l (.s (.p .b .x) (.p .d .y)) (.s (.p .b .u) (.p .d .w))) (.l (.s .x .y) (.s .u .w)))) q3
  .rw[h5];exact(O [_,_,_,_,_,_] [] (.i (.l (.s (.p .b .x) (.p .d .y)) (.s (.p .b .u) (.p .d .w))) (.l (.s .x .y) (.s .u .w)))) q5
theorem aC9(ee:e.e=dM.pl bz.e)(eb:bz.b=bz.e)(ep:e.p<=bz.p+dD):∀{SM iP:List aY},dz (λs aD=>xW dD dM s aD/\s.bD=aD.bD) SM iP->(SM++[e]).Pairwise (Sq gr)->(iP++[bz]).Pairwise (Sq gr):=by
 intro n;induction n with
 |nil=>
  intro o;cases o with
  |nil=>exactλ_ _=>Ph _ _
  |cons _ _=>exactλh _=>h.elim
 |cons s SM r=>
  intro v;cases v with
  |nil=>exactλh _=>h.elim
  |cons aD iP=>
   intro h z;obtain⟨j,A⟩:=List.pairwise_cons.mp z;have l:=h.1.1;have c:=l.p;have f:=l.cP;refine List.pairwise_cons.mpr ⟨λB a=>?_,r h.2 A⟩;rcases List.mem_append.mp a with a|a
   .obtain⟨y,a,k,_⟩:=h.2.mem a;have q:=j y (jm _ a);have g:=q.p;have m:=k.p;exact Df (dD:=dD) q (by exact(O [_,_,_,_,_] [] (.i (.e .w (.p .b .y)) (.i (.e .u (.p .x .y)) (.l (.p .x .y) .u)))) c f) (by exact(O [_,_,_,_,_,_,_] [] (.i (.e .d (.p .e .u)) (.i (.e .w (.p .b .u)) (.i (.e .x (.p .y .u)) (.l .x (.p .y .u)))))) c f m) (by exact(O [_,_,_,_,_,_,_] [] (.i (.e .b (.p .x .w)) (.i (.e .d (.p .e .w)) (.i (.t .b .u) (.i (.e .u (.p .y .w)) (.t .x .y)))))) c f g m) l.b k.e (.inl k.b) (.inl l.e)
   .obtain rfl:=List.mem_singleton.mp a;have q:=j e (by simp);have g:=q.p;exact Df (dD:=dD) q (by exact(O [_,_,_,_,_] [] (.i (.e .w (.p .b .y)) (.i (.e .u (.p .x .y)) (.l (.p .x .y) .u)))) c f) ep (by exact(O [_,_,_,_,_,_,_] [] (.i (.l .w (.p .y .e)) (.i (.e .u (.p .x .e)) (.i (.e .b (.p .d .e)) (.i (.t .u .w) (.t .x .y)))))) ep c f g) l.b ee (.inr eb) (.inl l.e)
theorem Qk(items:List Nd)(p:Nat):p<=fD items p:=by
 unfold fD;cases e:B8 items[p]? with
 |none=>exact yy _ _
 |some q=>
  show _<=if q=[]then h8 items (p+1)else p+1
  by_cases a:q=[]
  .rw[if_pos a];exact hW (Be p) (yy _ _)
  .rw[if_neg a];exact Be p
theorem aD0{A M B:List Nd}{T U:List Sh}{k lP:g8}{j:Nat}(hU:∀u∈U,(Nd.sh u).cL=ak)(hj:j<M.length)(hk:k.p=A.length+j)(qQ:lP.p=T.length+j)(hs:fD (A++M++B) k.p<=A.length+M.length):xW ((A.length:Int)- T.length) ((gM (A++M++B) A.length).gu (-(cH T))) (dE (A++M++B) k) (dE (T.map .sh++M++U.map .sh) lP):=by
 have ge:=Qk (A++M++B) k.p;rw[hk]at hs ge;have b0:=aC6 (T:=T) hU hj hs;have eg:=Qf (A:=A) (B:=B) (T:=T) (U:=U) hj;obtain⟨i,hi⟩:=Nat.exists_eq_add_of_le (hW (yy _ j) ge);have aD1:fD (T.map .sh++M++U.map .sh) (T.length+j)=T.length+i:=by exact(O [] [_,_,_,_,_] (.i (.E (.p .x .b) (.p .w .y)) (.i (.E .w (.p .b .u)) (.E .x (.p .y .u))))) b0 hi
 have ep:j1 (A++M++B) (A.length+j)=j1 (T.map .sh++M++U.map .sh) (T.length+j):=by unfold j1;rw[eg]
 have eq:ja (A++M++B) (A.length+j)=ja (T.map .sh++M++U.map .sh) (T.length+j):=by unfold ja;rw[eg]
 unfold dE;rw[hk,qQ,aD1,hi,ep,eq];refine⟨by dsimp only;exact O [] [_,_,_] (.e (.c (.p .x .y)) (.p (.c (.p .u .y)) (.s (.c .x) (.c .u)))),?_,?_,by dsimp only;exact O [] [_,_,_] (.e (.c (.p .x .y)) (.p (.c (.p .u .y)) (.s (.c .x) (.c .u))))⟩
 .dsimp only;rw[Hx (T:=T) (U:=U) (i:=i) (by exact(O [] [_,_,_,_,_,_] (.i (.ag .u (.p .w .y)) (.i (.E (.p .b .w) (.p .u .d)) (.i (.E .u (.p .w .x)) (.ag .x .y))))) hs b0 hi),Sm.CZ]
 .dsimp only;rw[Hx (T:=T) (U:=U) (i:=j) (by exact(O [] [_,_,_,_,_,_,_,_,_] (.i (.U .x .y) (.i (.E .h (.p .w .x)) (.i (.E .f (.p .e .x)) (.i (.E (.p .d .w) (.p .u .e)) (.i (.E .u (.p .w .b)) (.ag .x .y))))))) hj hk qQ b0 hi),Sm.CZ]
theorem aD2:(dE items ⟨items.length,x,y⟩).b=gM items items.length/\(dE items ⟨items.length,x,y⟩).e=gM items items.length:=by
 have en:items[items.length]?=none:=qi (gB _);have a:fD items items.length=items.length:=by unfold fD;rw[en];exact zq λn e=>by rw[en]at e;cases e
 have c:j1 items items.length=0:=by unfold j1;rw[en]
 have d:ja items items.length=0:=by unfold ja;rw[en]
 unfold dE;dsimp only;rw[a,c,d];exact⟨Sm.Cb _,Sm.vK _⟩
theorem aD3{aK:Type}{P:aK->Bool}{x m y fq ki oh:List aK}(e:x++(m++y)=fq++(ki++oh))(h1:∀s∈x,¬P s=ai)(h2:∀s∈m,P s=ai)(h3:∀s∈y,¬P s=ai)(kc:∀s∈fq,¬P s=ai)(jE:∀s∈ki,P s=ai)(Cz:∀s∈oh,¬P s=ai):m=ki:=by have:=congrArg (List.filter P) e;rw[xH,xH,xH,xH,List.filter_eq_nil_iff.mpr h1,List.filter_eq_self.mpr h2,List.filter_eq_nil_iff.mpr h3,List.filter_eq_nil_iff.mpr kc,List.filter_eq_self.mpr jE,List.filter_eq_nil_iff.mpr Cz,dZ,dZ]at this;exact this
theorem aD4{S:bk}{gr:Sm}{Z b:List az}{ss:List Seg}(h:gZ S Z b ss)(hg:0<=gr.h){A M B:List az}{T U:List Sh}(er:Z=A++M++B){D0 E SM:List aY}{a e:aY}(es:dj::cM S (aI Z)=D0++a::(SM++e::E))(ha:a.cP=A.length)(ba:e.p=(A.length+M.length:Nat))(hb:a.b=(gM (aI Z) A.length).gu (-(cH T)))(aD5:e.e=(gM (aI Z) (A.length+M.length)).gu (cH U))(eO:a.p<A.length)(hU:∀u∈U,(Nd.sh u).cL=ak)(hc:gV S ai ak ak (j3 T M U)):∃bz iP,xX S gr Z (A.length- T.length) a.b (aI (j3 T M U)) a e bz SM iP:=by
 have sq:=h.sq hg;rw[es]at sq;refine cps λG0 g0=>?_;obtain⟨_,Ad,sq3⟩:=List.pairwise_append.mp sq;obtain⟨HA,Ql⟩:=List.pairwise_cons.mp Ad;obtain⟨_,sq6,Qm⟩:=List.pairwise_append.mp Ql;refine g0 ?_;clear g0;have uK:(SM++[e]).Pairwise (Sq gr):=List.Pairwise.sublist (List.Sublist.append_left (List.singleton_sublist.mpr (.head _)) SM) Ql;have Dg:∀{p:Nat} {x:List az} {s:aY},s∈(fk p x).map (dE (aI Z))->(p:Int)<=s.p/\s.p<p+x.length:=λ{p x s} hs=>by
  refine cps λG0 g0=>?_;obtain⟨k,hk,rfl⟩:=List.mem_map.mp hs;obtain⟨j,r,c,e1,e2,_⟩:=Ac hk;refine g0 ?_;clear g0;have:=(List.getElem?_eq_some_iff.mp e2).1;show(p:Int)<=(k.p:Nat)/\((k.p:Nat):Int)<_;exact(O [] [_,_,_,_] (.i (.E .y (.p .x .w)) (.i (.U .w .u) (.c (.l (.c .x) (.c .y)) (.t (.c .y) (.p (.c .x) (.c .u))))))) e1 this
 have eM:SM=(fk A.length M).map (dE (aI Z)):=by
  have e1:dj::cM S (aI Z)=dj::(fk 0 A).map (dE (aI Z))++((fk A.length M).map (dE (aI Z))++((fk (A++M).length B).map (dE (aI Z))++[dE (aI Z) ⟨Z.length,-10000,1⟩])):=by
   unfold cM;have aD6:=h.bx;rw[Dd aD6];have:fk 0 Z=fk 0 A++(fk A.length M++fk (A++M).length B):=by rw[er,Hz,Hz,dK,uh,uh]
   rw[this];simp only[gk,dK,qI];rfl
  have hl:Z.length=A.length+M.length+B.length:=by rw[er];simp only[fQ]
  have bO:∀{s:aY},s.p<A.length\/((A.length+M.length:Nat):Int)<=s.p->¬(a6 ((A.length:Int)<=s.p)&&a6 (s.p<(A.length+M.length:Nat)))=true:=λhl=>by
   rw[lR,decide_eq_true_eq,decide_eq_true_eq];exact(O [_,_] [_,_,_,_] (.i (.e .y (.c (.p .x .y))) (.i (.E .u (.p (.p .x .y) .w)) (.i (.d (.t .x (.c .x)) (.l (.c (.p .x .y)) .x)) (.n (.c (.l (.c .x) .x) (.t .x (.c (.p .x .y))))))))) ba ‹_› hl
  have Qn:∀{s:aY},(A.length:Int)<=s.p->s.p<(A.length+M.length:Nat)->(a6 ((A.length:Int)<=s.p)&&a6 (s.p<(A.length+M.length:Nat)))=true:=λh1 h2=>by
   rw[lR,decide_eq_true_eq,decide_eq_true_eq];exact⟨h1,h2⟩
  refine aD3 (P:=λs:aY=>a6 ((A.length:Int)<=s.p)&&a6 (s.p<(A.length+M.length:Nat))) (x:=D0++[a]) (y:=e::E) (by rw[dK];exact es.symm.trans e1) (λs hs=>bO ?_) (λs hs=>Qn ?_ ?_) (λs hs=>bO ?_) (λs hs=>bO ?_) (λs hs=>Qn (Dg hs).1 (by have:=(Dg hs).2;exact(O [_,_] [_,_,_,_] (.i (.e .y (.c (.p .x .y))) (.i (.E .u (.p (.p .x .y) .w)) (.i (.t .x (.p (.c .x) (.c .y))) (.t .x (.c (.p .x .y))))))) ba hl this)) (λs hs=>bO ?_)
  .rcases List.mem_append.mp hs with hs|hs
   .have:=(sq3 s hs a (.head _)).p;exact(O [_,_,_] [_,_,_,_] (.i (.e .u (.c (.p .x .y))) (.i (.t .y (.c .x)) (.i (.E .u (.p (.p .x .y) .w)) (.i (.t .x .y) (.d (.t .x (.c .x)) (.l (.c (.p .x .y)) .x))))))) ba eO hl this
   .obtain rfl:=List.mem_singleton.mp hs;exact .inl eO
  .have:=(HA s (jm _ hs)).cP;exact(O [_,_,_] [_,_,_,_] (.i (.e .y (.c .x)) (.i (.e .u (.c (.p .x .u))) (.i (.E .y (.p (.p .x .u) .w)) (.i (.l .y .x) (.l (.c .x) .x)))))) ha ba hl this
  .have:=(Qm s hs e (.head _)).p;exact(O [_,_] [_,_,_,_] (.i (.e .y (.c (.p .x .y))) (.i (.E .u (.p (.p .x .y) .w)) (.i (.t .x .y) (.t .x (.c (.p .x .y))))))) ba hl this
  .rcases List.mem_cons.mp hs with rfl|hs
   .exact(O [_] [_,_,_,_] (.i (.E .u (.p (.p .x .y) .w)) (.i (.e .x (.c (.p .x .y))) (.d (.t .x (.c .x)) (.l (.c (.p .x .y)) .x))))) hl ba
   .have:=((List.pairwise_cons.mp sq6).1 s hs).p;exact(O [_,_] [_,_,_,_] (.i (.e .y (.c (.p .x .y))) (.i (.E .u (.p (.p .x .y) .w)) (.i (.t .y .x) (.d (.t .x (.c .x)) (.l (.c (.p .x .y)) .x)))))) ba hl this
  .rcases List.mem_cons.mp hs with rfl|hs
   .left;show(-1:Int)<_;exact(O [_] [_,_,_,_] (.i (.e .x (.c (.p .x .u))) (.i (.E .y (.p (.p .x .u) .w)) (.t (.k (-1)) (.c .x))))) ba hl
   .have:=Dg hs;exact(O [_,_] [_,_,_,_] (.i (.e .y (.c (.p .x .y))) (.i (.E .u (.p (.p .x .y) .w)) (.i (.c (.l (.c 0) .x) (.t .x (.p (.c 0) (.c .x)))) (.d (.t .x (.c .x)) (.l (.c (.p .x .y)) .x)))))) ba hl this
  .rcases List.mem_append.mp hs with hs|hs
   .have:=(Dg hs).1;rw[fQ]at this;exact .inr this
   .obtain rfl:=List.mem_singleton.mp hs;right;show _<=((Z.length:Nat):Int);exact(O [_] [_,_,_,_] (.i (.e .x (.c (.p .x .y))) (.i (.E .u (.p (.p .x .y) .w)) (.l (.c (.p .x .y)) (.c .u))))) ba hl
 have nr:aI Z=aI A++aI M++aI B:=by rw[er,pP,pP]
 have nA:=mx A;have nM:=mx M;have pn:=Qj T M U;have aL:(aI (j3 T M U)).length=T.length+M.length+U.length:=by rw[pn];simp only[fQ,cm,nM]
 have aD7:cM S (aI (j3 T M U))=(fk T.length M).map (dE (aI (j3 T M U)))++[dE (aI (j3 T M U)) ⟨(aI (j3 T M U)).length,-10000,1⟩]:=by unfold cM;rw[Dd hc,aC8,gk,mx];rfl
 have eb:=aD2 (items:=aI (j3 T M U)) (x:=-10000) (y:=1);have j0:dz (λs aD=>xW ((A.length:Int)- T.length) a.b s aD/\s.bD=aD.bD) SM ((fk T.length M).map (dE (aI (j3 T M U)))):=by rw[eM];refine(aC7 M A.length T.length).map λk hk lP Ei=>?_;refine cps λG0 g0=>?_;obtain⟨j,h1,h2,h3,h4⟩:=Ei;refine g0 ?_;clear g0;have q:=(Qm (dE (aI Z) k) (by rw[eM];exact FQ hk) e (.head _)).cP;have q:((fD (aI Z) k.p:Nat):Int)<=e.p:=q;rw[nr]at q hb⊢;rw[<- nA]at h2 hb;have c:=aD0 (A:=aI A) (M:=aI M) (B:=aI B) (T:=T) (U:=U) (k:=k) (lP:=lP) hU (by exact(O [] [_,_,_,_,_,_,_] (.i (.E .y .b) (.i (.E .d (.p (.p .w .b) .e)) (.i (.U .x .b) (.i (.E .u (.p .w .x)) (.U .x .y)))))) nM aL h1 h3) h2 h3 (by exact(O [_] [_,_,_,_,_,_,_,_,_,_,_] (.i (.e .x (.c (.p .q .h))) (.i (.E .y .q) (.i (.E .u .h) (.i (.E .f (.p (.p .b .h) .j)) (.i (.E .e (.p .y .d)) (.i (.E .w (.p .b .d)) (.i (.l (.c .x) .x) (.ag .x (.p .y .u)))))))))) ba nA nM aL h2 h3 q);rw[<- hb,nA,<- pn]at c;exact⟨c,h4⟩
 have ee:e.e=a.b.pl (dE (aI (j3 T M U)) ⟨(aI (j3 T M U)).length,-10000,1⟩).e:=by rw[eb.2,aD5,pO (gB _),List.take_length,pn,oy,C1];have c:=Hx (A:=aI A) (M:=aI M) (B:=aI B) (T:=T) (U:=U) (gB _);rw[<- nr,nA,<- hb,nM,pO (items:=T.map Nd.sh++aI M++U.map Nd.sh) (by simp only[fQ,cm,nM];exact O [] [_,_,_] (.ag (.p .x .y) (.p (.p .x .y) .u))),z5 (by simp only[fQ,cm,nM])]at c;rw[c,Sm.CZ]
 have ep:e.p<=(dE (aI (j3 T M U)) ⟨(aI (j3 T M U)).length,-10000,1⟩).p+((A.length:Int)- T.length):=by show e.p<=(((aI (j3 T M U)).length:Nat):Int)+_;exact(O [_] [_,_,_,_,_,_] (.i (.e .x (.c (.p .y .w))) (.i (.E .d .w) (.i (.E .x (.p (.p .u .w) .b)) (.l .x (.p (.c .x) (.s (.c .y) (.c .u)))))))) ba nM aL
 refine⟨_,_,j0,ee,rfl,rfl,aD7,List.pairwise_cons.mpr ⟨λoh hy=>?_,aC9 ee (eb.1.trans eb.2.symm) ep j0 uK⟩⟩;have hr:a.b=a.b.pl dj.b:=(Sm.Ho _).symm;have r0:dj.cP+((A.length:Int)- T.length)<=a.cP:=by rw[ha];show(0:Int)+_<=_;exact O [] [_,_] (.l (.p 0 (.s (.c .x) (.c .y))) (.c .x))
 rcases List.mem_append.mp hy with hy|hy
 .obtain⟨y,aD8,k,_⟩:=j0.mem hy;have q:=HA y (jm _ aD8);have aD9:=q.cP;have kp:=k.p;exact Df q r0 (by exact(O [_,_,_] [_,_,_,_] (.i (.e .u (.c (.p .x .w))) (.i (.E .u .x) (.i (.e .x (.p .y (.s (.c .x) (.c .y)))) (.l .x (.p .y (.s (.c .x) (.c .y)))))))) ba nA kp) (by show(-1:Int)<_;exact(O [_,_,_,_] [_,_,_,_] (.i (.e .u (.c .x)) (.i (.e .w (.c (.p .x .w))) (.i (.E .u .x) (.i (.l .u .y) (.i (.e .y (.p .x (.s (.c .x) (.c .y)))) (.t (.k (-1)) .x))))))) ha ba nA aD9 kp) hr k.e (.inl k.b) (.inr rfl)
 .obtain rfl:=List.mem_singleton.mp hy;exact Df (HA e (by simp)) r0 ep (by show(-1:Int)<((_:Nat):Int);exact O [] [_] (.t (.k (-1)) (.c .x))) hr ee (.inr (eb.1.trans eb.2.symm)) (.inr rfl)
theorem Qo{S:bk}{m b nx tg:Bool}{n:Nd}(h:n.cL=ak):lH S m b nx n=lH S m b tg n:=by
 cases n with
 |sh s=>
  cases s with
  |iI a w so=>
   have h:a6 (so=1)=false:=h;show(if(a6 (so=1)&&(m&&nx))=ai then(0:Int)else 10000)=if(a6 (so=1)&&(m&&tg))=ai then 0 else 10000
   rw[h];rfl
  |_=>rfl
 |jN=>cases h
 |_=>rfl
theorem aE0{S:bk}{m b cp nx:Bool}{n:Nd}(h:n.cL=ak):lH S m b nx n=lH S m cp nx n:=by
 cases n with
 |sh s=>cases s<;>rfl
 |eV=>cases h
 |_=>rfl
theorem Qp{S:bk}{nx tg:Bool}:∀{M:List az} {m b:Bool},(∀r,M.getLast?=I r->r.n.cL=ak)->gV S m b nx M->gV S m b tg M
 |[],_,_,_,_=>trivial
 |[r],m,b,hl,h=>⟨by rw[h.1];exact congrArg fT (Qo (hl r rfl)),trivial⟩
 |r::r2::M,m,b,hl,h=>⟨h.1,Qp (λx hx=>hl x (by rw[PX];exact hx)) h.2⟩
theorem aE1{S:bk}{m b cp nx:Bool}{M:List az}(aF:∀r ys,M=r::ys->r.n.cL=ak)(h:gV S m b nx M):gV S m cp nx M:=by
 cases M with
 |nil=>trivial
 |cons r M=>exact⟨by rw[h.1];exact congrArg fT (aE0 (aF r M rfl)),h.2⟩
theorem HB{S:bk}{m nx:Bool}:∀{T:List Sh} {b:Bool},(∀s∈T,(Nd.sh s).cL=ak)->gV S m b nx (T.map rV)
 |[],_,_=>trivial
 |s::T,b,h=>by
  refine⟨?_,HB λx hx=>h x (.tail _ hx)⟩;have hs:=h s (.head _);show aa=fT (lH S m b _ (.sh s));rw[Qo (tg:=ak) hs];cases s with
  |iI a w so=>have hs:a6 (so=1)=false:=hs;show aa=fT (if(a6 (so=1)&&(m&&ak))=ai then(0:Int)else 10000);rw[hs];rfl
  |_=>rfl
theorem aE2:∀T:List Sh,gH m (T.map rV)=m:=by
 intro a;induction a with
 |nil=>exact rfl
 |cons s T b=>exact b
theorem Qq:∀T:List Sh,(∀s∈T,(Nd.sh s).cL=ak)->T≠ []->nO b (T.map rV)=ai
 |[s],h,_=>congrArg (!·) (h s (.head _))
 |x::s::T,h,_=>Qq (b:= !(Nd.sh x).cL) (s::T) (λx hx=>h x (.tail _ hx)) (List.cons_ne_nil _ _)
 |[],_,h=>absurd rfl h
theorem Qr:∀{M:List az} {b:Bool},nO b M=ai->∀r,M.getLast?=I r->r.n.cL=ak
 |[],_,_,_,e=>by cases e
 |[x],b,h,r,e=>by
  have h:(!x.n.cL)=true:=h;cases e;exact yK _|>.mp h
 |x::y::M,b,h,r,e=>Qr (M:=y::M) (b:= !x.n.cL) h r (by rw[<- PX];exact e)
theorem aE3 {S : bk} {A M B : List az} {T U : List Sh} (hc : gV S ai ak ak (A ++ M ++ B)) (ax : gH ai A = ai) (hT : ∀ s ∈ T, (Nd.sh s).cL = ak) (hU : ∀ s ∈ U, (Nd.sh s).cL = ak)
    (aE4 : ∀ l ys, B = l :: ys → l.bx ≠ aa) (hb : (T ≠ [] ∧ nO ak A = ai) ∨ (T = [] ∧ (A = [] ∨ ∀ r ys, M = r :: ys → r.n.cL = ak))) : gV S ai ak ak (j3 T M U) := by
  obtain ⟨h1, h3⟩ := (rS S _ _ _ _ _).mp hc
  obtain ⟨_, h2⟩ := (rS S _ _ _ _ _).mp h1
  rw [ax] at h2
  refine (rS S _ _ _ _ _).mpr ⟨(rS S _ _ _ _ _).mpr ⟨HB hT, ?_⟩, HB hU⟩
  rw [aE2]
  have aE5 : pE ak (U.map rV) = false := by cases U <;> rfl
  rw [aE5]
  have h4 : gV S ai (nO ak A) ak M := by
    cases B with
    | nil => exact h2
    | cons l ys =>
      cases hg : l.n.qG with
      | false => have : pE ak (l :: ys) = false := hg
                 rw [this] at h2; exact h2
      | true =>
        refine Qp (fun r hr => ?_) h2
        have hl := h3.1
        refine Qr (b := nO ak A) ?_ r hr
        cases en : l.n with
        | eV a b c w s so d6 dv eW =>
          rw [en] at hl
          rw [← CB]
          cases aE6 : nO ak (A ++ M) with
          | true => rfl
          | false =>
            rw [aE6] at hl
            have hl : l.bx = fT (if (gH ai (A ++ M) && ak) = ai then 0 else 10000) := hl
            rw [rh] at hl
            exact absurd hl (aE4 l ys rfl)
        | _ => rw [en] at hg; cases hg
  rcases hb with ⟨n, e⟩ | ⟨rfl, e⟩
  · rw [Qq T hT n]
    rw [e] at h4; exact h4
  · show gV S ai ak ak M
    rcases e with rfl | e
    · exact h4
    · exact aE1 e h4
theorem Qs:∀{ss:List Seg} {b:List az},mq b ss->∀{p:Nat} {l:az},(cU b ss)[p]?=I l->l.bx≠aa->∃(x:List az) (s:Seg) (y:List az),cU b ss=x++s.l::(s.d++y)/\p=x.length/\s∈ss/\gH ai (x++[s.l])=ai/\∀r ys,y=r::ys->r.n.cL=ak
 |[],b,g,p,l,e,hc=>absurd (g.qK.free l (fJ e)) hc
 |s::ss,b,g,p,l,e,hc=>by
  have hs:=g.pG s (.head _);have m:cU b (s::ss)=b++s.l::(s.d++cU s.w ss):=rfl;have h:gH ai (b++[s.l])=true:=by rw[nP];exact g.oC.1
  rw[m]at e⊢;by_cases a:p<b.length
  .rw[Hy a]at e;exact absurd (g.qK.free l (fJ e)) hc
  .rw[z7 (by exact(O [] [_,_] (.i (.n (.U .y .x)) (.ag .x .y))) a)]at e;by_cases c:p=b.length
   .exact⟨b,s,_,rfl,c,.head _,h,PK hs⟩
   .rw[show p- b.length=(p- b.length- 1)+1 by exact(O [] [_,_] (.i (.n (.U .x .y)) (.i (.n (.E .x .y)) (.E (.s .x .y) (.p (.s (.s .x .y) 1) 1))))) a c,yt]at e;by_cases f:p- b.length- 1<s.d.length
    .rw[Hy f]at e;exact absurd (hs.d l (fJ e)).1 hc
    .rw[z7 (by exact(O [] [_,_,_] (.i (.n (.U (.s (.s .y .u) 1) .x)) (.ag .x (.s (.s .y .u) 1)))) f)]at e;refine cps λG0 j=>?_;obtain⟨x,t,y,o,q,v,z,A⟩:=Qs g.tail e hc;refine j ?_;clear j;refine⟨b++s.l::(s.d++x),t,y,by rw[o];simp,by simp only[fQ,iw];exact(O [] [_,_,_,_] (.i (.n (.U .x .y)) (.i (.n (.E .x .y)) (.i (.n (.U (.s (.s .x .y) 1) .u)) (.i (.E (.s (.s (.s .x .y) 1) .u) .w) (.E .x (.p .y (.p (.p .u .w) 1)))))))) a c f q,.tail _ v,?_,A⟩;have:b++s.l::(s.d++x)++[t.l]=(b++[s.l])++(s.d++(x++[t.l])):=by simp
     rw[this,nP,h,nP,CE s.d ai λr B=>(hs.d r B).2.2.2];exact z
theorem Qt(e:Z[a]?=I r):gW Z (I a)=qO r.n:=by unfold gW;dsimp only;rw[e]
theorem Qu(e:Z[a]?=I r):hB Z a=z6 r.n:=by unfold hB;rw[e]
theorem aE7(ok:ic Z)(p:Nat):∀s∈hB Z p,(Nd.sh s).cL=false:=by
 cases e:Z[p]? with
 |none=>unfold hB;rw[e];exactλ_ h=>by cases h
 |some r=>rw[Qu e];exact(CV (ok r (fJ e))).2.hO
theorem Qv{S:bk}{gr:Sm}{Z b:List az}{ss:List Seg}(h:gZ S Z b ss)(hg:0<=gr.h){D0 E SM:List aY}{a e:aY}(es:dj::cM S (aI Z)=D0++a::(SM++e::E)){f:Nat}{T:List Sh}{ke:g8}(rW:ke∈iK S (aI Z))(ee:e=dE (aI Z) ke)(aT:a.cP=f)(eO:a.p<f)(Ae:f<=ke.p)(hb:a.b=(gM (aI Z) f).gu (-(cH T)))(hT:∀s∈T,(Nd.sh s).cL=ak)(ax:gH ai (Z.take f)=ai)(aE8:(T≠ []/\nO ak (Z.take f)=ai)\/(T=[]/\(Z.take f=[]\/∀r ys,jQ Z f ke.p=r::ys->r.n.cL=ak))):∃bz iP,xX S gr Z ((f:Int)- T.length) a.b (aI (j3 T (jQ Z f ke.p) (hB Z ke.p))) a e bz SM iP:=by
 have hp:=(sZ rW).1;rw[mx]at hp;have er:Z=Z.take f++jQ Z f ke.p++Z.drop ke.p:=by unfold jQ;rw[<- Hp Ae,aE9]
 have lA:(Z.take f).length=f:=by rw[vO];exact(O [] [_,_,_] (.i (.ag .x .u) (.i (.ag .u .y) (.E (.i .x .y) .x)))) Ae hp
 have lM:(jQ Z f ke.p).length=ke.p- f:=by unfold jQ;rw[vO,vJ];exact(O [] [_,_,_,_] (.i (.ag .y .x) (.i (.ag .x .u) (.i (.E .w .y) (.E (.i (.s .x .y) (.s .u .y)) (.s .x .y)))))) Ae hp lA
 have hU:=aE7 h.ok ke.p;have hc:=h.bx;rw[er]at hc;have hc:=aE3 (T:=T) (U:=hB Z ke.p) hc ax hT hU (λl ys el=>by
  have e1:Z[ke.p]?=I l:=by rw[<- F9,el];rfl
  have iV:=(List.getElem?_eq_some_iff.mp e1).1;rw[Dd h.bx]at rW;rcases List.mem_append.mp rW with hk|hk
  .obtain⟨j,r,c,e2,e3,e4,_⟩:=Ac hk;rw[e2,uh,e3]at e1;cases e1;rw[e4];exactλh=>by cases h
  .obtain rfl:=List.mem_singleton.mp hk;exact absurd iV (A8 _)) aE8
 have c:=aD4 (gr:=gr) h hg (T:=T) (U:=hB Z ke.p) er es (by rw[lA];exact aT) (by rw[lA,lM,ee];show((ke.p:Nat):Int)=_;exact(O [] [_,_,_] (.i (.ag .y .x) (.i (.E .u .y) (.e (.c .x) (.c (.p .y (.s .x .y))))))) Ae lA) (by rw[lA];exact hb) (by
  rw[lA,lM,Hv,ee,show f+(ke.p- f)=ke.p by exact(O [] [_,_,_] (.i (.ag .x .y) (.i (.E .u .x) (.E (.p .x (.s .y .x)) .y)))) Ae lA];rfl) (by rw[lA];exact eO) hU hc
 rw[lA]at c;exact c
theorem Qw(Z:List az)(aG:Option Nat)(p:Nat):dy Z aG p=aI (j3 (gW Z aG) (jQ Z (hE Z p aG) p) (hB Z p)):=by rw[Qj];rfl
theorem aF0{S:bk}{gr:Sm}{Z b:List az}{ss:List Seg}(h:gZ S Z b ss)(hg:0<=gr.h){E SM:List aY}{e:aY}(es:cM S (aI Z)=SM++e::E){ke:g8}(rW:ke∈iK S (aI Z))(ee:e=dE (aI Z) ke):∃bz iP,xX S gr Z (lj Z aa ke.p) dj.b (dy Z aa ke.p) dj e bz SM iP:=by rw[Qw];refine Qv (f:=0) (T:=[]) h hg (D0:=[]) (by rw[es];rfl) rW ee rfl (by decide) (jW _) ?_ (λ_ h=>by cases h) rfl (.inr ⟨rfl,.inl rfl⟩);rw[pO (jW _)];rfl
theorem aF1{S:bk}{gr:Sm}{Z b:List az}{ss:List Seg}(h:gZ S Z b ss)(hg:0<=gr.h){D0 E SM:List aY}{e:aY}{ka ke:g8}(Dh:ka∈iK S (aI Z))(es:dj::cM S (aI Z)=D0++dE (aI Z) ka::(SM++e::E))(rW:ke∈iK S (aI Z))(ee:e=dE (aI Z) ke):∃bz iP,xX S gr Z (lj Z (I ka.p) ke.p) (dE (aI Z) ka).b (dy Z (I ka.p) ke.p) (dE (aI Z) ka) e bz SM iP:=by
 rw[Qw];have q:Sq gr (dE (aI Z) ka) e:=by have sq:=h.sq hg;rw[es]at sq;exact(List.pairwise_cons.mp (List.pairwise_append.mp sq).2.1).1 e (by simp)
 have q1:=q.cP;have q2:=q.p;rw[ee]at q1 q2;have q1:((fD (aI Z) ka.p:Nat):Int)<=(ke.p:Nat):=q1;have q2:((ka.p:Nat):Int)<(ke.p:Nat):=q2;have hp:=(sZ rW).1;rw[mx]at hp;have iV:ka.p<Z.length:=by exact(O [] [_,_,_] (.i (.t (.c .x) (.c .u)) (.i (.ag .u .y) (.U .x .y)))) q2 hp
 obtain⟨r,er,hr⟩:∃r,Z[ka.p]?=I r/\r.bx≠none:=by
  rw[Dd h.bx]at Dh;rcases List.mem_append.mp Dh with hk|hk
  .obtain⟨j,r,c,e2,e3,e4,_⟩:=Ac hk;exact⟨r,by rw[e2,uh];exact e3,by rw[e4];exactλh=>by cases h⟩
  .obtain rfl:=List.mem_singleton.mp hk;exact absurd iV (A8 _)
 have Qx:=P5 h.ok iV (bw:=ke.p) (by exact(O [] [_,_] (.i (.l (.c .x) (.c .y)) (.ag .x .y))) q1);have Qy:=er;have Qz:=h.e;rw[Qz]at Qy;refine cps λG0 g0=>?_;obtain⟨x,s,y,e1,e2,e3,e4,e5⟩:=Qs h.g Qy hr;refine g0 ?_;clear g0;rw[<- Qz]at e1;have hs:=h.g.pG s e3;have AU:Z[ka.p]?=I s.l:=by rw[e1,e2,z7 (gB _),Nat.sub_self];rfl
 have b0:=PG (x:=x) (d:=s.d) (y:=y) (h.drop s e3) (λr hr=>(hs.d r hr).2.1) e5;rw[<- e1,<- e2]at b0;unfold lj;rw[Qx];have QA:=Qt AU;have tk:=CV (h.ok s.l (fJ AU));refine Qv (T:=gW Z (I ka.p)) h hg es rW ee rfl ?_ (by exact(O [] [_,_,_,_] (.i (.l (.c .x) (.c .y)) (.i (.E .w .x) (.i (.E .x .u) (.ag .x .y))))) q1 Qx b0) ?_ (by rw[QA];exact tk.1.hO) ?_ ?_
 .have:=Qk (aI Z) ka.p;show((ka.p:Nat):Int)<_;rw[b0]at*;split<;>(first|exact O [] [_,_] (.t (.c .x) (.c (.p (.p .x 1) .y)))|exact O [] [_] (.t (.c .x) (.c (.p .x 1))))
 .rw[P4];rfl
 .rw[b0];split
  .rw[e1,e2,show x++s.l::(s.d++y)=(x++s.l::s.d)++y by simp,z5 (by simp only[fQ,iw];exact O [] [_,_] (.E (.p .x (.p .y 1)) (.p (.p .x 1) .y))),show x++s.l::s.d=(x++[s.l])++s.d by simp,nP,e4];exact CE s.d ai λr hr=>(hs.d r hr).2.2.2
  .rw[e1,e2,show x++s.l::(s.d++y)=(x++[s.l])++(s.d++y) by simp,z5 (by simp)];exact e4
 .rw[QA,b0];by_cases hq:qO s.l.n=[]
  .rw[if_pos hq];refine .inr ⟨hq,.inr λr ys er=>?_⟩;unfold jQ at er;rw[e1,e2,show x++s.l::(s.d++y)=(x++s.l::s.d)++y by simp,aw7 (by simp only[fQ,iw];exact O [] [_,_] (.E (.p .x (.p .y 1)) (.p (.p .x 1) .y)))]at er;cases y with
   |nil=>rw[List.take_nil]at er;cases er
   |cons af y=>
    have:=e5 af y rfl
    match hn:ke.p- (x.length+1+s.d.length),er with
    |0,er=>cases er
    |n+1,er=>cases er;exact this
  .rw[if_neg hq];refine .inl ⟨hq,?_⟩;rw[e1,e2,show x++s.l::(s.d++y)=(x++[s.l])++(s.d++y) by simp,z5 (by simp),CB];show(!s.l.n.cL)=ai;cases en:s.l.n with
   |dt=>rfl
   |_=>rw[en]at hq;exact absurd rfl hq
noncomputable def oK(bD:Int):Int:=if 0<bD then bD*bD else if-10000<bD then-(bD*bD)else 0
noncomputable def xY(lp cW:Int):Int:=if 10000<=((lp+cW).natAbs:Int)then 10^(8:Int).toNat else(lp+cW)*(lp+cW)
theorem HC(S:bk)(cW bD:Int):zv S cW bD=xY S.lp cW+oK bD:=by
 show(if 0<bD then xY S.lp cW+bD*bD else if-10000<bD then xY S.lp cW- bD*bD else xY S.lp cW)=_;unfold oK;split
 .rfl
 .split<;>(first|exact O [_,_] [] (.e (.s .x .y) (.p .x (.g .y)))|exact O [_] [] (.e .x (.p .x 0)))
theorem aF2(lp:Int)(r:Int×Int):∀aQ:List (Int×Int),pI lp (aQ++[r])=pI lp aQ+xY lp r.2:=by
 intro a;induction a with
 |nil=>exact Int.add_comm _ _
 |cons x aQ b=>show _+pI lp (aQ++[r])=_+pI lp aQ+_;rw[b,nR]
noncomputable def tv:List aY->Int
 |[]=>0
 |s::r=>oK s.bD+tv r
theorem QB(s:aY):∀r:List aY,tv (r++[s])=tv r+oK s.bD:=by
 intro a;induction a with
 |nil=>exact Int.add_comm _ _
 |cons x r b=>show _+tv (r++[s])=_+tv r+_;rw[b,nR]
inductive mW(S:bk)(size:Int)(D:List aY)(w0:aE):aE->List aY->List (Int×Int)->Prop
 |refl:mW S size D w0 w0 [] []
 |step {w ss aQ s l f d}:mW S size D w0 w ss aQ->s∈D->(kx S size w.s s).1≠3->d=w.bc+zv S (kx S size w.s s).2 s.bD->mW S size D w0 (.n s l f d w) (ss++[s]) (aQ++[kx S size w.s s])
section
variable{S:bk}{size:Int}{D fX:List aY}{w0 v:aE}{ss:List aY}{aQ:List (Int×Int)}
theorem mW.bI(h:mW S size D w0 v ss aQ)(hD:∀s∈D,s∈fX):mW S size fX w0 v ss aQ:=by
 induction h with
 |refl=>exact .refl
 |step _ a b c d=>exact .step d (hD _ a) b c
theorem mW.bq(h:mW S size D w0 v ss aQ):∀s∈ss,s∈D:=by
 induction h with
 |refl=>exactλ_ h=>by cases h
 |step _ b _ _ c=>
  intro s a;rcases List.mem_append.mp a with a|a
  .exact c s a
  .cases List.mem_singleton.mp a;exact b
theorem mW.bc(h:mW S size D w0 v ss aQ):v.bc=w0.bc+pI S.lp aQ+tv ss:=by
 induction h with
 |refl=>exact(fW _).symm.trans (fW _).symm
 |step _ _ _ a c=>rw[aF2,QB];show _=_;rw[show∀{s l f d w},(aE.n s l f d w).bc=d from rfl,a,c,HC];exact O [_,_,_,_,_] [] (.e (.p (.p (.p .x .y) .u) (.p .w .b)) (.p (.p .x (.p .y .w)) (.p .u .b)))
theorem mW.f9(h:mW S size D w0 v ss aQ):f9 v=f9 w0++ss/\gI S size v=gI S size w0++aQ:=by
 induction h with
 |refl=>exact⟨(dZ _).symm,(dZ _).symm⟩
 |step _ _ _ _ a=>rw[<- dK,<- dK,<- a.1,<- a.2];exact⟨rfl,rfl⟩
theorem mW.fits(h:mW S size D w0 v ss aQ):∀r∈aQ,r.1≠3:=by
 induction h with
 |refl=>exactλ_ h=>by cases h
 |step _ _ b _ c=>
  intro s a;rcases List.mem_append.mp a with a|a
  .exact c s a
  .obtain rfl:=List.mem_singleton.mp a;exact b
end
structure lQ(t:Tr):Prop where
 ed:t.S.ed=0
 iy:t.S.iy=0
 ar:t.S.ar=0
 bP:t.bP=0
 most:t.most=10000
 gr:t.gr=fM t.S 0
 last:t.last=ak
theorem lQ.aF3(h:lQ t)(a b:Bool)(c:Int):Cc t.S a b c=0:=by unfold Cc;rw[h.ed,h.iy,h.ar];cases a<;>cases b<;>simp
theorem lQ.bc{t:Tr}(h:lQ t){sp:aY}{ar:Bool}{w:aE}{bf:Int×Int}:ko t sp ar w bf=w.bc+(xY t.S.lp bf.1+oK sp.bD):=by unfold ko;rw[h.aF3,HC,fW]
theorem aF4(h:lQ t)(F:F0 t size sp ar aW s)(hl:∀w∈aW,0<=w.line)(hv:v∈jz t sp s)(qj:fg∈jz t sp s):v.bc=fg.bc:=by
 have key:∀v∈jz t sp s,∃m,bJ s.a9 1=I m/\v.bc=m:=λv hv=>by
  refine cps λG0 c=>?_;obtain⟨n,b,d,a,rfl⟩:=G4.mp hv;obtain⟨j,_,_,_,o⟩:=F.bt n b d;obtain⟨m,em⟩:=F.has n b d;refine c ?_;clear c;have f:n.fdiv 4=1:=by have:=hl _ j;rw[o,h.bP,xB (vL _ _)];exact(O [_] [] (.i (.l 0 .x) (.e (.i (.p .x 1) (.p 0 1)) 1))) this
  rw[f]at em a;rw[em,h.ed]at a;have:=(F.a9 1 m em).2 n b d f;have a:b.bc<=m+0:=a;exact⟨m,em,by show b.bc=m;exact(O [_,_,_] [] (.i (.e .x .u) (.i (.l .y .x) (.i (.l .x (.p .y 0)) (.e .x .y))))) ‹_› this a⟩
 refine cps λG0 c=>?_;obtain⟨m,d,a⟩:=key v hv;obtain⟨r,g,q⟩:=key fg qj;refine c ?_;clear c;rw[d]at g;cases g;rw[a,q]
inductive MR(t:Tr)(size aL:Int)(w0:aE):List aY->List aE->Prop
 |nil:MR t size aL w0 [] [w0]
 |mN {D A s}:MR t size aL w0 D A->fj t size s (a6 (s.p=aL)) A≠ []->MR t size aL w0 (D++[s]) (fj t size s (a6 (s.p=aL)) A)
theorem MR.ny(h:MR t size aL w0 D A):∀rest,jk t size aL (D++rest) [w0]=jk t size aL rest A:=by
 induction h with
 |nil=>exactλ_=>rfl
 |@mN D A s _ cS ih=>intro rest;rw[dK,ih];show jk t size aL (s::rest) A=_;rw[uk,if_neg λh=>cS (vV.mp h)]
structure MW(t:Tr)(size:Int)(w0:aE)(D:List aY)(w:aE):Prop where
 bB:∃ss aQ,mW t.S size D w0 w ss aQ
 l:0<=w.line
 m:w.s∈w0.s::D
theorem MW.bI(h:MW t size w0 D w):MW t size w0 (D++fX) w:=by obtain⟨ss,a,e⟩:=h.bB;exact⟨⟨ss,a,e.bI λs b=>jm _ b⟩,h.l,jm (as:=w0.s::D) _ h.m⟩
theorem MW.next(p:lQ t)(h:MW t size w0 D w)(sq:Sq t.gr w.s sp)(hl:¬hF size (bQ t sp w)):MW t size w0 (D++[sp]) (.n sp (w.line+1) f (ko t sp ar w (cA size (bQ t sp w))) w):=by obtain⟨ss,g,e⟩:=h.bB;have c:=lN sq;have r:=Pm c hl;rw[qM sq,p.gr]at r;have a:kx t.S size w.s sp=nL (ot w.s.b sp.e (fM t.S 0)) (size- (ot w.s.b sp.e (fM t.S 0)).n):=rfl;refine⟨⟨_,_,(e.bI λs d=>jm _ d).step (by simp) (by rw[a];exact r.1) ?_⟩,Aq h.l (by decide),by simp[aE.s]⟩;rw[p.bc,a,r.2,HC,qM sq,p.gr]
theorem MR.mw(p:lQ t)(aj:0<=w0.line)(h:MR t size aL w0 D A):(w0.s::D).Pairwise (Sq t.gr)->∀w∈A,MW t size w0 D w:=by
 induction h with
 |nil=>exactλ_ w oi=>by obtain rfl:=List.mem_singleton.mp oi;exact⟨⟨[],[],.refl⟩,aj,.head _⟩
 |@mN D A s _ _ ih=>
  intro sq w aj;obtain⟨g9,_,iA⟩:=List.pairwise_append.mp (show(w0.s::D++[s]).Pairwise (Sq t.gr)from sq);have ih:=ih g9;have QC:∀w∈A,Sq t.gr w.s s:=λw aj=>iA _ (ih w aj).m s (.head _);have F:=pL (t:=t) (size:=size) (sp:=s) (ar:=a6 (s.p=aL)) (aW:=A) p.most λw aj=>lN (QC w aj);rw[tf p.last]at aj;rcases List.mem_append.mp aj with aj|aj
  .rw[F.bT]at aj;exact(ih w (List.mem_filter.mp aj).1).bI
  .obtain⟨ft,oi,hl,rfl⟩:=F.mem aj;exact(ih ft oi).next p (QC ft oi) hl
structure LW(S:bk)(size dD:Int)(dM:Sm)(w0 v0:aE)(D fX:List aY)(w v:aE):Prop where
 bB:∃ss iB aQ,f9 w=f9 w0++ss/\gI S size w=gI S size w0++aQ/\f9 v=f9 v0++iB/\gI S size v=gI S size v0++aQ/\dz (λs aD:aY=>s.p=aD.p+dD) ss iB
 b:w.s.b=dM.pl v.s.b
 m:w.s∈D
 ki:v.s∈fX
 l:0<=w.line
 cV:0<=v.line
inductive LE(S:bk)(size dD:Int)(dM:Sm)(w0 v0:aE)(D fX:List aY)(e bz:aY)(w v:aE):Prop
 |mk (ss iB:List aY) (aQ:List (Int×Int)) (h1:f9 w=f9 w0++(ss++[e])) (h2:gI S size w=gI S size w0++aQ) (h3:f9 v=f9 v0++(iB++[bz])) (h4:gI S size v=gI S size v0++aQ) (h5:dz (λs aD:aY=>s.p=aD.p+dD) ss iB)
section
variable{S:bk}{size dD:Int}{dM:Sm}{w0 v0 w v:aE}{D fX:List aY}{t b8:Tr}{sp f7:aY}{ar ib:Bool}
theorem LW.nL(h:LW S size dD dM w0 v0 D fX w v)(ba:sp.e=dM.pl f7.e):kx S size v.s f7=kx S size w.s sp:=by unfold kx;rw[h.b,ba,Qd]
theorem LW.sum(h:LW S size dD dM w0 v0 D fX w v)(ba:sp.e=dM.pl f7.e)(hg:b8.gr=t.gr)(hp:∀a∈D,Sq t.gr a sp)(kH:∀a∈fX,Sq t.gr a f7):bQ b8 f7 v=bQ t sp w:=by rw[qM (by rw[hg];exact kH _ h.ki),qM (hp _ h.m),h.b,ba,Qd,hg]
theorem LW.ext(h:LW S size dD dM w0 v0 D fX w v)(ba:sp.e=dM.pl f7.e){l f d cV mi:Int}:LE S size dD dM w0 v0 D fX sp f7 (.n sp l f d w) (.n f7 cV f mi v):=by
 refine cps λG0 g0=>?_;obtain⟨ss,iB,aQ,h1,h2,h3,h4,h5⟩:=h.bB;refine g0 ?_;clear g0;refine⟨ss,iB,aQ++[kx S size w.s sp],?_,?_,?_,?_,h5⟩
 .show f9 w++[sp]=_;rw[h1,dK]
 .show gI S size w++[_]=_;rw[h2,dK]
 .show f9 v++[f7]=_;rw[h3,dK]
 .show gI S size v++[kx S size v.s f7]=_;rw[h4,h.nL ba,dK]
theorem lQ.vT(p:lQ t)(jS:lQ b8)(hS:b8.S=t.S)(ba:sp.e=dM.pl f7.e)(hp:∀a∈D,Sq t.gr a sp)(kH:∀a∈fX,Sq t.gr a f7)(hn:∀{w v f d mi},LW S size dD dM w0 v0 D fX w v->oJ (.n sp (w.line+1) f d w) (.n f7 (v.line+1) f mi v)):zX t b8 sp f7 ar ib (LW S size dD dM w0 v0 D fX) oJ (oK f7.bD- oK sp.bD) where
 S:=hS
 most:=by rw[p.most,jS.most]
 sum h:=h.sum ba (by rw[p.gr,jS.gr,hS]) hp kH
 bc h bf:=by rw[p.bc,jS.bc,hS];exact O [_,_,_,_,_] [] (.e (.s (.p .x (.p .y .u)) .x) (.p (.s (.p .w (.p .y .b)) .w) (.s .u .b)))
 Ha h:=by have:=h.l;have:=h.cV;rw[p.bP,jS.bP];exact(O [_,_] [] (.i (.l 0 .y) (.i (.l 0 .x) (.e (.i (.p .x 1) (.p 0 1)) (.i (.p .y 1) (.p 0 1)))))) ‹_› this
 next:=hn
theorem LW.next(h:LW S size dD dM w0 v0 D fX w v)(l:xW dD dM sp f7){f d mi:Int}:LW S size dD dM w0 v0 (D++[sp]) (fX++[f7]) (.n sp (w.line+1) f d w) (.n f7 (v.line+1) f mi v):=by refine cps λG0 g0=>?_;obtain⟨ss,iB,aQ,h1,h2,h3,h4,h5⟩:=h.ext (l:=0) (cV:=0) (f:=0) (d:=0) (mi:=0) l.e;refine g0 ?_;clear g0;exact⟨⟨_,_,aQ,h1,h2,h3,h4,h5.mN l.p⟩,l.b,C9 _ (.head _),C9 _ (.head _),Aq h.l (by decide),Aq h.cV (by decide)⟩
theorem LW.bI(h:LW S size dD dM w0 v0 D fX w v):LW S size dD dM w0 v0 (D++[sp]) (fX++[f7]) w v:=⟨h.bB,h.b,jm _ h.m,jm _ h.ki,h.l,h.cV⟩
end
theorem Di(h:(D++[s]).Pairwise R):D.Pairwise R/\∀a∈D,R a s:=by obtain⟨b,_,c⟩:=List.pairwise_append.mp h;exact⟨b,λa d=>c a d s (.head _)⟩
theorem aF5(p:lQ t)(jS:lQ b8)(hS:b8.S=t.S)(cQ:pM (LW t.S size dD dM w0 v0 [w0.s] [v0.s]) c w0 v0)(h:MR t size aL w0 D A):∀fX,dz (λs aD=>xW dD dM s aD/\s.bD=aD.bD) D fX->(w0.s::D).Pairwise (Sq t.gr)->(v0.s::fX).Pairwise (Sq t.gr)->∃iO,MR b8 size Dj v0 fX iO/\kN (LW t.S size dD dM w0 v0 (w0.s::D) (v0.s::fX)) c A iO:=by
 induction h with
 |nil=>
  intro fX h _ _;cases fX with
  |nil=>exact⟨[v0],.nil,cQ,trivial⟩
  |cons _ _=>exact h.elim
 |@mN D A s _ cS ih=>
  intro fX h sq Dk;refine cps λG0 g0=>?_;obtain⟨tj,aD,rfl,h1,h2⟩:=dz.split h;obtain⟨Dl,QD⟩:=Di (D:=w0.s::D) sq;obtain⟨HD,aF6⟩:=Di (D:=v0.s::tj) Dk;obtain⟨iO,m,hs⟩:=ih tj h1 Dl HD;refine g0 ?_;clear g0;have F:=pL (t:=t) (size:=size) (sp:=s) (ar:=a6 (s.p=aL)) (aW:=A) p.most λw aj=>by
   refine cps λG0 g0=>?_;obtain⟨v,_,k⟩:=hs.CP aj;refine g0 ?_;clear g0;exact lN (QD _ k.r.m)
  have ag:=p.vT (S:=t.S) (w0:=w0) (v0:=v0) (ar:=a6 (s.p=aL)) (ib:=a6 (aD.p=Dj)) (size:=size) jS hS h2.1.e QD aF6 λk=>k.next h2.1;have e0:oK aD.bD- oK s.bD=0:=by rw[h2.2];exact Int.sub_self _
  rw[e0]at ag;have X:=lO.CQ (H:=True) (size:=size) (c:=c) ag (λ_=>h2.2.symm) Hb hs;have N:=X.new ag F.has;rw[fW]at N;have all:kN (LW t.S size dD dM w0 v0 (w0.s::(D++[s])) (v0.s::(tj++[aD]))) c (fj t size s (a6 (s.p=aL)) A) (fj b8 size aD (a6 (aD.p=Dj)) iO):=by rw[tf p.last,tf jS.last];exact((X.bT trivial).bI λ_ _ k=>⟨k.r.bI,k.bc⟩).iE N
  refine⟨_,m.mN λe=>cS ?_,all⟩;have:=all.aL;rw[e]at this;exact yx this.symm
theorem aF7(p:lQ t)(jS:lQ b8)(hS:b8.S=t.S)(hs:kN (LW t.S size dD dM w0 v0 D fX) c A iO)(ee:e.e=dM.pl bz.e)(aF8:bz.bD=-10000)(sq:∀a∈D,Sq t.gr a e)(Dk:∀a∈fX,Sq t.gr a bz):∃dU,kN (LE t.S size dD dM w0 v0 D fX e bz) dU (jz t e (eD t size e ar eh A)) (fj b8 size bz ib iO):=by
 have f:∀w∈A,Sq t.gr w.s e:=λw b=>by
  obtain⟨v,_,k⟩:=hs.CP b;exact sq _ k.r.m
 have g:∀w∈iO,Sq b8.gr w.s bz:=λw b=>by
  obtain⟨v,_,k⟩:=hs.mem b;rw[jS.gr,hS,<- p.gr];exact Dk _ k.r.ki
 have F:=pL (t:=t) (size:=size) (sp:=e) (ar:=ar) (aW:=A) p.most λw b=>lN (f w b);have i:=pL (t:=b8) (size:=size) (sp:=bz) (ar:=ib) (aW:=iO) jS.most λw b=>lN (g w b);have d:=p.vT (S:=t.S) (w0:=w0) (v0:=v0) (ar:=ar) (ib:=ib) (size:=size) jS hS ee sq Dk (oJ:=LE t.S size dD dM w0 v0 D fX e bz) λk=>k.ext ee;have X:=lO.CQ (H:=False) (size:=size) (c:=c) d (λh=>h.elim) Hb hs;have j:(eD b8 size bz ib eh iO).bT=[]:=by rw[i.bT];exact List.filter_eq_nil_iff.mpr λv _=>by rw[aF8];simp
 rw[tf jS.last,j];exact⟨_,X.new d F.has⟩
theorem aF9(c:Int):oK (jn c (-10000))=if-10000<c then c*c.natAbs else 0:=by
 unfold oK;by_cases a:-10000<c
 .rw[if_pos a,show jn c (-10000)=c by exact(O [_] [] (.i (.t (.k (-10000)) .x) (.e (.l .x (.k (-10000))) .x))) a];by_cases b:0<c
  .rw[if_pos b,show((c.natAbs:Nat):Int)=c by exact(O [_] [] (.i (.t 0 .x) (.e (.c (.n .x)) .x))) b]
  .rw[if_neg b,if_pos a,show((c.natAbs:Nat):Int)=-c by exact(O [_] [] (.i (.t (.k (-10000)) .x) (.i (.n (.t 0 .x)) (.e (.c (.n .x)) (.g .x))))) a b,Int.mul_neg]
 .rw[if_neg a,show jn c (-10000)=-10000 by exact(O [_] [] (.i (.n (.t (.k (-10000)) .x)) (.e (.l .x (.k (-10000))) (.k (-10000))))) a];rfl
theorem aG0(c:jA size gr D w):∃r T,D=r::T/\∀x∈f9 w,x∈T:=by
 induction c with
 |iL=>exact⟨_,[],rfl,λ_ h=>by cases h⟩
 |@next D0 D2 s l f d bf _ _ ih=>
  obtain⟨r,T,rfl,h⟩:=ih;refine⟨r,T++D2++[s],rfl,λx hx=>?_⟩;rcases List.mem_append.mp hx with hx|hx
  .exact jm _ (jm _ (h x hx))
  .exact C9 _ hx
theorem HE{S:bk}{Z b:List az}{nQ:List Seg}(h:gZ S Z b nQ){size bU:Int}:∀{ss:List aY},(∀s∈ss,s∈cM S (aI Z))->uy (iN Z S size bU) (ss.map (·.p))=tv ss
 |[],_=>rfl
 |s::ss,hs=>by
  have ih:=HE h (size:=size) (bU:=bU) (ss:=ss) λx hx=>hs x (.tail _ hx);obtain⟨k,hk,rfl⟩:=List.mem_map.mp (hs s (.head _));have e1:(iN Z S size bU).bx k.p=mu Z k.p:=P6 (by rw[Aa h];exact FQ hk);show(if-10000<(iN Z S size bU).bx k.p then(iN Z S size bU).bx k.p*((iN Z S size bU).bx k.p).natAbs else 0)+uy _ _=oK k.bD+tv ss;rw[ih,e1,Qa h hk,aF9]
inductive aG1(t:Tr)(size:Int)(w0 u:aE)(SM:List aY)(e:aY):Prop
 |mk (ss:List aY) (aQ:List (Int×Int)) (h1:f9 u=f9 w0++(ss++[e])) (h2:gI t.S size u=gI t.S size w0++aQ) (h3:∀s∈ss,s∈SM) (h4:u.bc=w0.bc+pI t.S.lp aQ+tv ss+oK e.bD) (h5:∀r∈aQ,r.1≠3)
inductive aG2(S:bk)(Z:List az)(size bU:Int)(aG:Option Nat)(w0 u:aE):Prop
 |mk (eC:List Nat) (aQ:List (Int×Int)) (h1:fy u=fy w0++eC) (h2:gI S size u=gI S size w0++aQ) (h3:∀r∈aQ,r.1≠3) (h4:uz (iN Z S size bU) aG aQ eC)
theorem QE(p:lQ t)(ax:∀w∈A,MW t size w0 SM w)(sq:∀a∈w0.s::SM,Sq t.gr a e)(hu:u∈jz t e (eD t size e ar eh A)):aG1 t size w0 u SM e:=by have F:=pL (t:=t) (size:=size) (sp:=e) (ar:=ar) (aW:=A) p.most λw b=>lN (sq _ (ax w b).m);refine cps λG0 c=>?_;obtain⟨w,b,i,rfl⟩:=F.mem hu;obtain⟨⟨ss,j,x⟩,_,_⟩:=(ax w b).next (f:=0) (ar:=ar) p (sq _ (ax w b).m) i;obtain⟨⟨l,q,y⟩,_,_⟩:=ax w b;refine c ?_;clear c;have g:=x.f9.1;have n:=x.f9.2;have h:f9 w++[e]=f9 w0++ss:=g;rw[y.f9.1,dK]at h;have o:=QF h;subst o;refine⟨l,j,g,n,y.bq,?_,x.fits⟩;have d:=x.bc;rw[QB]at d;show ko t e ar w (cA size (bQ t e w))=_;have d:ko t e ar w (cA size (bQ t e w))=_:=d;rw[d];exact O [_,_,_,_] [] (.e (.p (.p .x .y) (.p .u .w)) (.p (.p (.p .x .y) .u) .w))
theorem aG3:nK 0 last (I (w::ws))=I (lG (g7 w ws 0).1):=by
 unfold nK;dsimp only;have:(g7 w ws 0).2=0:=by unfold g7;rw[if_pos rfl]
 rw[this,decide_eq_true rfl];rfl
theorem aG4(ok:ic Z)(aG:Option Nat)(p:Nat):hZ (dy Z aG p):=by
 intro n hn;skip;have dt:∀{r:az},ml r->(∀s∈qO r.n,s.cO)/\∀s∈z6 r.n,s.cO:=λ{r} hr=>by
  have g:=hr.cO;cases e:r.n with
  |dt a p q m=>rw[e]at g;exact⟨g.1.2.1,g.1.1⟩
  |_=>exact⟨λ_ h=>(by cases h),λ_ h=>(by cases h)⟩
 rcases List.mem_append.mp hn with hn|hn
 .rcases List.mem_append.mp hn with hn|hn
  .obtain⟨s,hs,rfl⟩:=List.mem_map.mp hn;cases aG with
   |none=>cases hs
   |some a=>
    cases e:Z[a]? with
    |none=>unfold gW at hs;dsimp only at hs;rw[e]at hs;cases hs
    |some r=>rw[Qt e]at hs;exact(dt (ok r (fJ e))).1 s hs
  .obtain⟨r,hr,rfl⟩:=List.mem_map.mp hn;exact(ok r (Oy (GI hr))).cO
 .obtain⟨s,hs,rfl⟩:=List.mem_map.mp hn;cases e:Z[p]? with
  |none=>unfold hB at hs;rw[e]at hs;cases hs
  |some r=>rw[Qu e]at hs;exact(dt (ok r (fJ e))).2 s hs
def ll(S:bk):Tr:=⟨0,S,lK 0 0,10000,fM S 0,ak,0⟩
theorem QG{S:bk}{free:Bool}(hS:rQ S free)(aT:free=ak):lQ (ll S):=⟨(hS.plain aT).1,(hS.plain aT).2.1,(hS.plain aT).2.2.1,rfl,rfl,rfl,rfl⟩
theorem aG5{S:bk}{free:Bool}(hS:rQ S free)(aT:free=ak)(a b:aC)(size:Int):lQ (jd S (lK a size) 0 ak b):=⟨(hS.plain aT).1,(hS.plain aT).2.1,(hS.plain aT).2.2.1,if_pos (hS.plain aT).2.2.2,rfl,rfl,rfl⟩
theorem aG6{S:bk}{Z b:List az}{nQ:List Seg}{size bU aL:Int}{free:Bool}(hS:rQ S free)(aT:free=ak)(h:gZ S Z b nQ)(fh:Z.length<=100)(rX:nQ.length<=5){aG:Option Nat}{D0 E SM iP:List aY}{e bz:aY}{w0 u:aE}{A:List aE}(es:dj::cM S (aI Z)=D0++w0.s::(SM++e::E))(HF:∀a,aG=I a->w0.s.p=a)(C:xX S (fM S 0) Z (lj Z aG e.p.toNat) w0.s.b (dy Z aG e.p.toNat) w0.s e bz SM iP)(hl:0<=w0.line)(m:MR (ll S) size aL w0 (SM++[e]) A)(hu:u∈A)(HG:u.s=e):aG2 S Z size bU aG w0 u:=by
 have p:=QG hS aT;have hg:=vY (bM:=0) hS.ok;have QH:=h.sq hg;rw[es]at QH;have HH:(w0.s::(SM++[e])).Pairwise (Sq (fM S 0)):=by have:=(List.pairwise_append.mp QH).2.1;rw[show w0.s::(SM++e::E)=(w0.s::(SM++[e]))++E by simp]at this;exact(List.pairwise_append.mp this).1
 obtain⟨Dl,uK⟩:=Di (D:=w0.s::SM) HH;generalize hD:SM++[e]=D at m;cases m with
 |nil=>simp at hD
 |@mN HI A s m cS=>
  refine cps λG0 g0=>?_;obtain⟨rfl,hs⟩:=uE hD rfl;obtain rfl:=(jV hs).1;have mw:=m.mw p hl Dl;have vk:u∈jz (ll S) e (eD (ll S) size e (a6 (e.p=aL)) eh A):=by
   rw[tf p.last]at hu;rcases List.mem_append.mp hu with hu|hu
   .exfalso;have F:=pL (t:=ll S) (size:=size) (sp:=e) (ar:=a6 (e.p=aL)) (aW:=A) rfl λw aj=>lN (uK _ (mw w aj).m);rw[F.bT]at hu;have:=(uK _ (mw u (List.mem_filter.mp hu).1).m).p;rw[HG]at this;exact(O [_] [] (.i (.t .x .x) .o)) this
   .exact hu
  obtain⟨ss,aQ,u1,u2,u3,u4,aG7⟩:=QE p mw uK vk;refine g0 ?_;clear g0;refine⟨(ss++[e]).map (·.p.toNat),aQ,by unfold fy;rw[u1,gk],u2,aG7,?_⟩;have Dm:∀s∈SM++[e],s∈cM S (aI Z):=λs hs=>by
   have ax:s∈dj::cM S (aI Z):=by rw[es,show w0.s::(SM++e::E)=w0.s::((SM++[e])++E) by simp];exact C9 _ (.tail _ (jm _ hs))
   rcases List.mem_cons.mp ax with rfl|ax
   .exfalso;have:=((List.pairwise_cons.mp HH).1 dj hs).p;have aj:w0.s∈dj::cM S (aI Z):=by rw[es];simp
    rcases List.mem_cons.mp aj with e1|aj
    .rw[e1]at this;exact absurd this (by decide)
    .obtain⟨k,_,e1⟩:=List.mem_map.mp aj;rw[<- e1]at this;have:((k.p:Nat):Int)< -1:=this;exact(O [] [_] (.i (.t (.c .x) (.k (-1))) .o)) this
   .exact ax
  refine cps λG0 g0=>?_;obtain⟨ke,rW,aG8⟩:=List.mem_map.mp (Dm e (by simp));refine g0 ?_;clear g0;have uj:=(sZ rW).1;rw[mx]at uj;have ep:e.p=(ke.p:Nat):=by rw[<- aG8];rfl
  have yS:(cM S (aI Z)).length=SM.length+1+E.length+D0.length:=by have:=congrArg yz es;simp only[iw,fQ]at this;exact(O [] [_,_,_,_] (.i (.E (.p .x 1) (.p .w (.p (.p .y (.p .u 1)) 1))) (.E .x (.p (.p (.p .y 1) .u) .w)))) this
  rw[Hw h]at yS;have aG9:=C.j0.aL;have kL:(cM S (dy Z aG e.p.toNat)).length<=6:=by rw[C.rL,fQ,CU];exact(O [] [_,_,_,_,_] (.i (.ag .u 5) (.i (.E (.p .u 1) (.p (.p (.p .y 1) .w) .b)) (.i (.E .x .y) (.ag (.p .x 1) 6))))) rX yS aG9
  have De:∀a b,∃eT u2:aE,jx (dy Z aG e.p.toNat) S (lK a size) size 0 ak b=I (lG eT)/\jA size (fM S 0) (dj::cM S (dy Z aG e.p.toNat)) eT/\u2∈jz (ll S) e (eD (ll S) size e (a6 (e.p=aL)) eh A)/\LE S size (lj Z aG e.p.toNat) w0.s.b w0 (kq 0) (w0.s::SM) (dj::iP) e bz u2 eT:=by
   intro a b;have jS:=aG5 hS aT a b size;have cQ:pM (LW S size (lj Z aG e.p.toNat) w0.s.b w0 (kq 0) [w0.s] [dj]) (0- w0.bc) w0 (kq 0):=⟨⟨⟨[],[],[],(dZ _).symm,(dZ _).symm,rfl,rfl,trivial⟩,(Sm.Ho _).symm,.head _,.head _,hl,pk 0⟩,by show(0:Int)=w0.bc+(0- w0.bc);exact O [_] [] (.e 0 (.p .x (.s 0 .x)))⟩
   refine cps λG0 g0=>?_;obtain⟨HD,aH0⟩:=Di (D:=dj::iP) C.sq;obtain⟨iO,ki,kV⟩:=aF5 (t:=ll S) (b8:=jd S (lK a size) 0 ak b) (Dj:=((dy Z aG e.p.toNat).length:Int)) p jS rfl cQ m iP C.j0 Dl HD;obtain⟨dU,nJ⟩:=aF7 (ar:=a6 (e.p=aL)) (ib:=a6 (bz.p=((dy Z aG e.p.toNat).length:Int))) p jS rfl kV C.ee C.bD uK aH0;refine g0 ?_;clear g0;have HJ:fj (jd S (lK a size) 0 ak b) size bz (a6 (bz.p=((dy Z aG e.p.toNat).length:Int))) iO≠ []:=λhn=>by
    refine cps λG0 g0=>?_;obtain⟨v,hv,_⟩:=nJ.CP vk;refine g0 ?_;clear g0;rw[hn]at hv;cases hv
   have tA:=(ki.mN HJ).ny [];rw[dZ,<- C.rL]at tA;have tA:jk (jd S (lK a size) 0 ak b) size ((dy Z aG e.p.toNat).length:Int) (cM S (dy Z aG e.p.toNat)) [kq 0]=I _:=tA;have hP:Pass size (fM S 0) (dj::cM S (dy Z aG e.p.toNat)) (fj (jd S (lK a size) 0 ak b) size bz (a6 (bz.p=((dy Z aG e.p.toNat).length:Int))) iO):=by
    refine cps λG0 g0=>?_;rcases PF (t:=jd S (lK a size) 0 ak b) (size:=size) (aL:=((dy Z aG e.p.toNat).length:Int)) rfl rfl (cM S (dy Z aG e.p.toNat)) [] dj [kq 0] (by rw[C.rL];exact C.sq) Pass.rD with⟨e1,_⟩|⟨B,e1,PB,_⟩
    .refine g0 ?_;clear g0;rw[e1]at tA;cases tA
    .refine g0 ?_;clear g0;rw[e1]at tA;cases tA;exact PB
   generalize fj (jd S (lK a size) 0 ak b) size bz (a6 (bz.p=((dy Z aG e.p.toNat).length:Int))) iO=W at nJ HJ tA hP;cases W with
   |nil=>exact absurd rfl HJ
   |cons v vs=>refine cps λG0 g0=>?_;obtain⟨u2,hu2,k⟩:=nJ.mem (w:=(g7 v vs 0).1) CY;obtain⟨l,s,e1,e2⟩:=Hj (S:=S) (items:=dy Z aG e.p.toNat);refine g0 ?_;clear g0;refine⟨_,u2,?_,Hk e1 e2 hP (CY (w:=v) (ws:=vs) (loose:=0)),hu2,k.r⟩;show nK S.loose ak (jk (jd S (lK a size) 0 ak b) size ((dy Z aG e.p.toNat).length:Int) (cM S (dy Z aG e.p.toNat)) [kq 0])=_;rw[tA,(hS.plain aT).2.2.2];exact aG3
  have same:=λa b=>PM (items:=dy Z aG e.p.toNat) (S:=S) (sh:=lK a size) (lk:=lK 0 size) (size:=size) (bM:=0) (last:=ak) (a:=b) (cY:=0) rfl rfl;refine cps λG0 g0=>?_;obtain⟨eT,u2,c1,c2,c3,iA,wg,r2,k1,k2,k3,k4,aH1⟩:=De 0 0;obtain⟨ss2,rs2,nU,nV,v3,mD,_⟩:=QE p mw uK c3;refine g0 ?_;clear g0;have x1:iA=ss2:=(uE (QF (k1.symm.trans nU)) rfl).1;have x2:r2=rs2:=QF (k2.symm.trans nV);subst x1 x2;have k3:f9 eT=wg++[bz]:=k3;refine cps λG0 g0=>?_;obtain⟨r0,T,aH2,hT⟩:=aG0 c2;obtain⟨_,rfl⟩:=jV aH2;refine g0 ?_;clear g0;have xF:∀x∈wg++[bz],((x.p.toNat:Nat):Int)=x.p/\x.p.toNat<=(dy Z aG e.p.toNat).length:=λx hx=>by
   rw[<- k3]at hx;refine cps λG0 g0=>?_;obtain⟨k,hk,rfl⟩:=List.mem_map.mp (hT x hx);refine g0 ?_;clear g0;have:=(sZ hk).1;exact⟨rfl,this⟩
  have aH3:bz.p.toNat=(dy Z aG e.p.toNat).length:=by rw[C.p];rfl
  have jl:fy eT=wg.map (·.p.toNat)++[(dy Z aG e.p.toNat).length]:=by unfold fy;rw[k3,gk,<- aH3];rfl
  have dq:=Qc c2;rw[jl,fQ,iw]at dq;have oX:=C5 (size:=size) c2 ⟨by rw[C.rL];exact C.sq,⟨_,rfl⟩,λx hx=>by
   rcases List.mem_cons.mp hx with e1|hx
   .exact .inl e1
   .obtain⟨k,hk,e1⟩:=List.mem_map.mp hx;exact .inr ⟨k,hk,e1.symm⟩⟩
  rw[jl]at oX;have k4:gI S size eT=r2:=k4;rw[show(ss++[e]).map (·.p.toNat)=ss.map (·.p.toNat)++[e.p.toNat]from gk];refine .mk _ _ (λa ha=>?_) (by rw[ep];exact uj) (aG4 h.ok aG _) ?_ (hW kL (by decide)) (wg.map (·.p.toNat)) (λa b=>?_) ?_ (λx hx=>?_) ?_
  .have:=HF a ha;have:=((List.pairwise_cons.mp HH).1 e (by simp)).p;exact(O [_,_] [_,_] (.i (.e .x (.c .y)) (.i (.e .y (.c .x)) (.i (.t .y .x) (.U .x (.af .x)))))) ep ‹_› this
  .have l1:=OX h.ok aG;have l2:=OY h.ok e.p.toNat;show(dy Z aG e.p.toNat).length<=500;unfold dy jQ;simp only[fQ,cm,vO,vJ];exact(O [_] [_,_,_,_,_] (.i (.ag .u 100) (.i (.ag .b .u) (.i (.e .x (.c .b)) (.i (.ag .x 2) (.i (.ag .w 2) (.ag (.p (.p .x (.i (.s (.af .x) .y) (.s .u .y))) .w) 500))))))) fh uj ep l1 l2
  .show jx (dy Z aG e.p.toNat) S (lK a size) size 0 ak b=I ((wg.map (·.p.toNat)++[(dy Z aG e.p.toNat).length]).map λp:Nat=>(p:Int));rw[same,<- same 0 0,c1,C3,k3,<- jl];unfold fy;rw[k3,l8];exact congrArg I (yB λx hx=>((xF x hx).1).symm)
  .rw[cm]at dq⊢;simp only[iw,ao5]at dq;exact(O [] [_,_] (.i (.ag .y 6) (.i (.ag (.p (.p .x (.p 0 1)) 1) (.p .y 1)) (.ag .x 15)))) kL dq
  .obtain⟨s,hs,rfl⟩:=List.mem_map.mp hx;exact(xF s (jm _ hs)).2
  .show xP (iN Z S size bU) (kM S size (dy Z aG e.p.toNat) 0 [] (wg.map (·.p.toNat)++[(dy Z aG e.p.toNat).length])) ((wg.map (·.p.toNat)).map λp:Nat=>(p:Int)+lj Z aG e.p.toNat)=_;rw[oX,k4];have pl:∀{l cV:List aY},dz (λs aD:aY=>s.p=aD.p+lj Z aG e.p.toNat) l cV->(∀x∈cV,((x.p.toNat:Nat):Int)=x.p)->(cV.map (·.p.toNat)).map (λp:Nat=>(p:Int)+lj Z aG e.p.toNat)=l.map (·.p):=by
    intro l;induction l with
    |nil=>intro cV h _;cases cV with
     |nil=>rfl
     |cons=>exact h.elim
    |cons s l ih=>intro cV h hn;cases cV with
     |nil=>exact h.elim
     |cons aD cV=>have:=ih h.2 λx hx=>hn x (.tail _ hx);rw[oV,oV,this,hn aD (.head _),<- h.1];rfl
   unfold xP;rw[pl aH1 λx hx=>(xF x (jm _ hx)).1,HE h λs hs=>Dm s (jm _ (v3 s hs))];have eo:(ss.map (·.p.toNat)).map (λp:Nat=>(p:Int))=ss.map (·.p):=by rw[l8];refine yB λx hx=>?_;refine cps λG0 g0=>?_;obtain⟨k,_,rfl⟩:=List.mem_map.mp (Dm x (jm _ (u3 x hx)));refine g0 ?_;clear g0;rfl
   rw[eo,HE h λs hs=>Dm s (jm _ (u3 s hs))];have F:=pL (t:=ll S) (size:=size) (sp:=e) (ar:=a6 (e.p=aL)) (aW:=A) rfl λw aj=>lN (uK _ (mw w aj).m);have:=aF4 p F (λw aj=>(mw w aj).l) vk c3;have lp:(iN Z S size bU).S.lp=S.lp:=rfl;have oA:(ll S).S.lp=S.lp:=rfl;rw[oA]at u4 mD;rw[lp];exact(O [_,_,_,_,_,_,_,_] [] (.i (.e .b (.p (.p (.p .e .u) .w) .f)) (.i (.e .d (.p (.p (.p .e .x) .y) .f)) (.i (.e .b .d) (.e (.p .x .y) (.p .u .w)))))) u4 mD this
theorem Dn(w:aE):fy w=(lG w).map Int.toNat:=by rw[C3];unfold fy;rw[l8];rfl
theorem HK{S:bk}{size:Int}:∀w:aE,(gI S size w).length=(fy w).length
 |.iL .. =>rfl
 |.n s _ _ _ bf=>by
  have:=HK (S:=S) (size:=size) bf;unfold fy at this⊢;rw[cm]at this⊢;simp only[gI,f9,fQ,CU,this]
theorem aH4:∀(eC:List Nat) (aQ:List (Int×Int)) (E0:List Nat) (R0:List (Int×Int)) (ps:List Nat) (rr:List (Int×Int)),aQ.length=eC.length->(∀r∈aQ,r.1≠3)->oG t aG (E0++eC) (R0++aQ) ps rr->oG t aG E0 R0 (eC++ps) (aQ++rr):=by
 intro c;induction c with
 |nil=>
  intro d;cases d with
  |nil=>intro E0 R0 _ _ _ _ h;rw[dZ,dZ]at h;exact h
  |cons _ _=>
   intro _ _ _ _ h _ _;cases h
 |cons p eC e=>
  intro f;cases f with
  |nil=>
   intro _ _ _ _ h _ _;cases h
  |cons r aQ=>
   exactλE0 R0 ps rr g a h=>
   ⟨λ_=>e aQ (E0++[p]) (R0++[r]) ps rr (yH g) (λx i=>a x (.tail _ i)) (by rw[dK,dK];exact h),λj=>absurd j (a r (.head _))⟩
theorem MR.aH5(h:MR t size aL w0 D A)(e:D=[]):A=[w0]:=by
 cases h with
 |nil=>rfl
 |mN=>simp at e
def aH6(t:gX)(S:bk)(size:Int)(aG:Option Nat)(w:aE):Prop:=∀ps aQ,oG t aG [] [] ps aQ->oG t aa [] [] (fy w++ps) (gI S size w++aQ)
structure rY(S:bk)(Z:List az)(size bU aL:Int)(D:List aY)(aW:List aE)(D0 SM:List aY)(w0:aE)(aG:Option Nat)(A:List aE):Prop where
 e:D=D0++w0.s::SM
 xZ:Pass size (fM S 0) D A
 mr:MR (ll S) size aL w0 SM A
 QI:∃c,kN jR c A aW
 b0:(aG=aa/\w0.s=dj/\D0=[])\/∃k∈iK S (aI Z),aG=I k.p/\w0.s=dE (aI Z) k
 l:0<=w0.line
 HM:aH6 (iN Z S size bU) S size aG w0
section
variable{S:bk}{Z b:List az}{nQ:List Seg}{size bU aL:Int}{free:Bool}{D D0 SM E:List aY}{w0 u:aE}{aG:Option Nat}{aW A:List aE}
theorem rY.QJ(hS:rQ S free)(aT:free=ak)(h:gZ S Z b nQ)(fh:Z.length<=100)(rX:nQ.length<=5)(x:rY S Z size bU aL D aW D0 SM w0 aG A)(es:dj::cM S (aI Z)=D++E)(hu:u∈A)(c:jA size (fM S 0) D u):∀ps rr,(∀eC aQ,uz (iN Z S size bU) aG aQ eC->oG (iN Z S size bU) aG eC aQ ps rr)->oG (iN Z S size bU) aa [] [] (fy u++ps) (gI S size u++rr):=by
 intro ps rr go;obtain⟨D1,e1⟩:=c.mQ;have e0:=x.e;have mr:=x.mr;refine cps λG0 g0=>?_;rcases xS SM with rfl|⟨HI,e,rfl⟩
 .refine g0 ?_;clear g0;rw[mr.aH5 rfl]at hu;obtain rfl:=List.mem_singleton.mp hu;exact x.HM ps rr (go [] [] .nil)
 .refine g0 ?_;clear g0;rw[xT]at e0 mr;have HG:u.s=e:=by
   rw[e0,<- qI,<- dK]at e1;exact((jV (uE e1 rfl).2).1).symm
  have sI:dj::cM S (aI Z)=D0++w0.s::(HI++e::E):=by rw[es,e0];simp
  have hg:=vY (bM:=0) hS.ok;have ke:∃k∈iK S (aI Z),e=dE (aI Z) k:=by have mV:=Dc h hg;rw[sI]at mV;refine C4 mV (a:=w0.s) (by simp) ?_ (by simp);have:=(List.pairwise_append.mp mV.sq).2.1;exact(List.pairwise_cons.mp this).1 e (by simp)
  refine cps λG0 g0=>?_;obtain⟨k,hk,ek⟩:=ke;have ep:e.p.toNat=k.p:=by rw[ek];exact aH7 k.p
  have pW:∃bz iP,xX S (fM S 0) Z (lj Z aG e.p.toNat) w0.s.b (dy Z aG e.p.toNat) w0.s e bz HI iP:=by
   rw[ep];rcases x.b0 with⟨rfl,aj,rfl⟩|⟨ka,Dh,rfl,aj⟩
   .rw[aj];rw[aj]at sI;exact aF0 h hg (jV sI).2 hk ek
   .rw[aj];rw[aj]at sI;exact aF1 h hg Dh sI hk ek
  obtain⟨bz,iP,C⟩:=pW;have HF:∀a,aG=I a->w0.s.p=a:=λa ha=>by
   rcases x.b0 with⟨rfl,_,_⟩|⟨ka,_,rfl,aj⟩
   .cases ha
   .cases ha;rw[aj];rfl
  obtain⟨eC,aQ,h1,h2,h3,h4⟩:=aG6 (bU:=bU) hS aT h fh rX sI HF C x.l mr hu HG;refine g0 ?_;clear g0;rw[h1,h2,dK,dK];refine x.HM _ _ (aH4 eC aQ [] [] ps rr ?_ h3 (go eC aQ h4));have l1:=HK (S:=S) (size:=size) u;have l2:=HK (S:=S) (size:=size) w0;rw[h1,h2,fQ,fQ]at l1;exact(O [] [_,_,_,_] (.i (.E (.p .u .x) (.p .w .y)) (.i (.E .u .w) (.E .x .y)))) l1 l2
theorem rY.step(hS:rQ S free)(aT:free=ak)(h:gZ S Z b nQ)(fh:Z.length<=100)(rX:nQ.length<=5)(ht:uD (ll S) t)(mU:t.last=ai)(x:rY S Z size bU aL D aW D0 SM w0 aG A)(es:dj::cM S (aI Z)=D++s::E):∃tj iP HN HO iO,rY S Z size bU aL (D++[s]) (fj t size s (a6 (s.p=aL)) aW) tj iP HN HO iO:=by
 have Y:=vY (bM:=0) hS.ok;have q:=Dc h Y;rw[es]at q;have m:∀a∈D,Sq (fM S 0) a s:=λa ha=>(List.pairwise_append.mp q.sq).2.2 a ha s (.head _);obtain⟨c,y⟩:=x.QI;by_cases z:fj (ll S) size s (a6 (s.p=aL)) A=[]
 .have all:∀w∈A,TL size (fM S 0) w.s s:=λw i=>Im λF=>x.xZ.Pw (t:=ll S) (ar:=a6 (s.p=aL)) m rfl rfl ⟨w,i,F⟩ z;have H:=x.xZ.sq (sp:=s) m;refine cps λG0 g=>?_;obtain⟨dh,u,B,C⟩:=x.xZ.last;have o:u∈A:=by rw[B];simp
  rw[B]at y;obtain⟨P,j,eb,ui,K⟩:=dz.split y;refine g ?_;clear g;subst eb;have L:∀v w,pM jR c w v->w∈A->hF size (bQ t s v)/\0<=(bQ t s v).h:=λv w k i=>by
   rw[k.r.sum ht,qM (t:=ll S) (H w i)];exact⟨all w i,(H w i).h⟩
  have hh:∀v∈P++[j],0<=(bQ t s v).h:=λv M=>by
   refine cps λG0 g=>?_;obtain⟨w,i,k⟩:=y.mem M;refine g ?_;clear g;exact(L v w k (by rw[B];exact i)).2
  have ax:t.most=10000:=ht.most;have R:=L j u K o;refine cps λG0 g=>?_;rcases G6 (t:=t) (size:=size) (sp:=s) (ar:=a6 (s.p=aL)) (dh:=P) (w:=j) mU ax hh with⟨_,e2⟩|⟨uo,_⟩
  .refine g ?_;clear g;rw[e2];have tu:=all u o;have aX2:D≠ []:=Hq C;refine cps λG0 g=>?_;obtain⟨D1,T⟩:=C.mQ;obtain⟨k,hk,U⟩:=C4 q (a:=u.s) (by rw[T];simp) (m _ (by rw[T];simp)) (s:=s) (by simp);refine g ?_;clear g;have W:jA size (fM S 0) (D++[s]) (.n s (u.line+1) (cA size (bQ t s j)).2 u.bc u):=by
    have:=jA.next (s:=s) (l:=u.line+1) (f:=(cA size (bQ t s j)).2) (d:=u.bc) (D2:=[]) C (.inr ⟨tu,rfl⟩);rw[dZ]at this;exact this
   refine⟨D,[],.n s (u.line+1) (cA size (bQ t s j)).2 u.bc u,I k.p,[.n s (u.line+1) (cA size (bQ t s j)).2 u.bc u],rfl,⟨λw i=>?_,[],_,rfl,W⟩,.nil,⟨c,⟨ht.vT.next (ar:=ak) K.r,K.bc⟩,trivial⟩,.inr ⟨k,hk,rfl,U⟩,?_,?_⟩
   .cases List.mem_singleton.mp i;exact⟨D++[s],[],(dZ _).symm,W,λ_ h=>by cases h⟩
   .have mw:=x.mr.mw (QG hS aT) x.l (by
     have:=q.sq;rw[x.e]at this;have:=(List.pairwise_append.mp (List.pairwise_append.mp this).1).2.1;exact this) u o
    exact Aq mw.l (by decide)
   .intro N O gC;have dq:=x.QJ hS aT h fh rX es o C (s.p.toNat::N) (kx S size u.s s::O) λeC j2 so=>⟨λF=>absurd ?_ F,λ_=>⟨so,by
     have:s.p.toNat=k.p:=by rw[U];exact aH7 k.p
     rw[this];exact gC⟩⟩
    .have e3:fy (.n s (u.line+1) (cA size (bQ t s j)).2 u.bc u)++N=fy u++(s.p.toNat::N):=by unfold fy;simp[f9]
     have e4:gI S size (.n s (u.line+1) (cA size (bQ t s j)).2 u.bc u)++O=gI S size u++(kx S size u.s s::O):=by simp[gI]
     rw[e3,e4];exact dq
    .unfold kx;rw[Pk (H u o).h tu]
  .refine g ?_;clear g;refine absurd ⟨?_,λv M=>?_⟩ uo
   .unfold kI;rw[decide_eq_true ((zT R.2).mpr R.1)];rfl
   .obtain⟨w,i,k⟩:=ui.mem M;exact(L v w k (by rw[B];exact jm _ i)).1
 .obtain⟨dU,kV⟩:=PC (ar:=a6 (s.p=aL)) ht rfl mU rfl x.xZ m y z;obtain⟨eU,_⟩:=x.xZ.CN (t:=ll S) (ar:=a6 (s.p=aL)) m rfl rfl z;exact⟨D0,SM++[s],w0,aG,_,by rw[x.e];simp,eU,x.mr.mN z,⟨dU,kV⟩,x.b0,x.l,x.HM⟩
theorem rY.DV(hS:rQ S free)(aT:free=ak)(h:gZ S Z b nQ)(fh:Z.length<=100)(rX:nQ.length<=5)(ht:uD (ll S) t)(mU:t.last=ai):∀{je D D0 SM:List aY} {aW A ia:List aE} {w0:aE} {aG:Option Nat},rY S Z size bU aL D aW D0 SM w0 aG A->dj::cM S (aI Z)=D++je->jk t size aL je aW=I ia->∃tj iP HN HO iO,rY S Z size bU aL (D++je) ia tj iP HN HO iO:=by
 intro d;induction d with
 |nil=>
  intro _ _ _ _ _ _ _ _ x _ e;cases e;rw[dZ];exact⟨_,_,_,_,_,x⟩
 |cons s r f=>
  intro D _ _ aW A ia _ _ x a e;refine cps λG0 c=>?_;obtain⟨_,_,_,_,_,g⟩:=x.step hS aT h fh rX ht mU a;refine c ?_;clear c;rw[uk]at e;split at e
  .cases e
  .have:=f g (by rw[dK];exact a) e;rw[dK]at this;exact this
end
theorem aH8{S:bk}{Z b:List az}{nQ:List Seg}{size bU:Int}{free:Bool}(hS:rQ S free)(h:gZ S Z b nQ)(fh:Z.length<=100)(rX:nQ.length<=5){sh:gN}(eO:sh.bP=0)(aF:0<=sh.done){w:aE}(a:Hm (aI Z) S sh size 0 w)(aT:free=ak):oG (iN Z S size bU) aa [] [] (fy w) (gI S size w):=by
 have hg:=vY (bM:=0) hS.ok;have sq:=h.sq hg;have ht:uD (ll S) (jd S sh 0 ai 0):=⟨rfl,rfl,rfl,(if_pos (hS.plain aT).2.2.2).trans eO⟩
 have sY:rY S Z size bU ((aI Z).length:Int) [dj] [kq sh.done] [] [] (kq sh.done) aa [kq sh.done]:=⟨rfl,Pass.rD,.nil,⟨0,⟨⟨rfl,rfl,rfl,rfl⟩,(fW _).symm⟩,trivial⟩,.inl ⟨rfl,rfl,rfl⟩,aF,λps aQ gC=>gC⟩
 refine cps λG0 g0=>?_;obtain⟨A,eA,P⟩:=PD (t:=jd S sh 0 ai 0) (size:=size) (aL:=((aI Z).length:Int)) rfl rfl (cM S (aI Z)) [dj] [kq sh.done] sq Pass.rD;obtain⟨D0,SM,w0,aG,M,x⟩:=rY.DV hS aT h fh rX ht rfl sY rfl eA;refine g0 ?_;clear g0;have aH9:fy w=fy (match A with|[]=>kq 0|v::vs=>(g7 v vs 0).1):=by
  have:=a.last 0;unfold jx at this;rw[eA,(hS.plain aT).2.2.2]at this;cases A with
  |nil=>exact absurd rfl P.eH
  |cons v vs=>rw[Hl]at this;rw[Dn,Dn,xa this]
 cases A with
 |nil=>exact absurd rfl P.eH
 |cons v vs=>
  refine cps λG0 g0=>?_;obtain⟨c,hs⟩:=x.QI;obtain⟨u,hu,k⟩:=hs.mem (w:=(g7 v vs 0).1) CY;have eu:fy w=fy u:=by rw[aH9,Dn,Dn];unfold lG;rw[k.r.Hc]
  obtain⟨l,s,e1,e2⟩:=Hj (S:=S) (items:=aI Z);refine g0 ?_;clear g0;have cu:=Hk e1 e2 x.xZ hu;have mV:=Dc h hg;have r1:=C5 (size:=size) a.oC mV;have r2:=C5 (size:=size) cu mV;rw[eu]at r1⊢;rw[<- r1,r2];have:=x.QJ hS aT h fh rX (E:=[]) (dZ _).symm hu cu [] [] λ_ _ so=>so;rw[dZ,dZ]at this;exact this
theorem aI0:Pb:=by
 intro Z S free sh size v y c d _ n _ o q _ r s;refine cps λG0 l=>?_;obtain⟨b,ss,e,g,f⟩:=c.zN;refine l ?_;clear l;have h:gZ S Z b ss:=⟨e,c.ok,c.bx,g⟩
 have m:=Ht h;unfold fE at m;refine⟨aB1 h d.ok c.aL q s,by rw[Hw h];exact(O [] [_] (.i (.ag .x 5) (.ag (.p .x 1) 9))) f,aA3 h,λp t=>aA2 t,(List.pairwise_append.mp m).1,?_⟩;refine aB9 d.ok h f (λu=>?_) λw a j=>?_
 .cases free with
  |true=>rfl
  |false=>exact absurd (d.plain rfl).2.2.2 u
 .obtain rfl:=r j;exact aH8 d h c.aL f (o j) n.1 a j
end
section
namespace H
noncomputable abbrev pw:Program:=FP
noncomputable def s(x:String)(t:Nat):Value:=.str (Dp x) t
noncomputable def i(n:Int):Value:=.int n 0
noncomputable def r(a:Nat):Value:=.ref a
noncomputable def b0(x:String):Str:=Dp x
noncomputable def ob(c:aw)(d:Data):Obj:=⟨c,aa,d,⟨[]⟩⟩
def tu(vs:List aw):Obj:=ob (.type "tuple") (.seq ⟨vs⟩ 0)
def fs(c:aw)(vs:List aw):Obj:=ob c (.fields ⟨vs⟩)
noncomputable def jT:Nat->List String->List aw
 |_,[]=>[]
 |t,x::l=>s x t::jT (t+1) l
noncomputable def my:Nat->List Int->List aw
 |_,[]=>[]
 |t,x::l=>.int x t::my (t+1) l
noncomputable def en(P:gc)(k:String)(t:Nat)(v:aw):DictEntry:=⟨yA P (Dp k),.str (Dp k) t,v⟩
def di(es:List n5)(ep:Nat):Obj:=ob (.type "dict") (.dict ⟨es⟩ ep)
def pQ(aH ql:String)(t:Nat)(pK aI1 fl:Int)(a:Nat)(b:Bool)(g:Int)(c:List aw)(u:Nat):Obj:=fs (.type "code") ([s aH t,s ql (t+1),s "/claim/cut.py" (t+2),i pK,i aI1,i 0,i 0,i fl,r a,.bool b,i g,r (a+1),.none]++c++[i u,i pK,s "/claim/cut.py" (u+1)])
noncomputable def dR:Value:=s "gluepage.nodes" 580
noncomputable def fV:Value:=s "gluepage.breaks" 1058
noncomputable def gJ:Value:=s "gluepage.scaled" 272
noncomputable def j4:Value:=s "law_xm0381_01" 1619
noncomputable def oL:Value:=s "gluepage.errors" 194
noncomputable def wh:Value:=s "gluepage.packing" 1460
noncomputable def bp:Obj:=fs (.type "builtin_function_or_method") [(.builtin "type.__prepare__"),(.type "type")]
noncomputable def bs(n:Nat):Obj:=fs (.type "builtin_function_or_method") [(.builtin "object.__init_subclass__"),r n]
noncomputable def gd(t n:Nat):Obj:=fs (.type "getset_descriptor") [s "__dict__" t,r n,(.builtin "function.__dict__"),(.builtin "function.__dict__#set")]
noncomputable def gw(t n:Nat):Obj:=fs (.type "getset_descriptor") [s "__weakref__" t,r n,(.builtin "ExceptionGroup.__weakref__"),.none]
noncomputable def j5(n:Nat):Obj:=fs (.type "super") [r n,r n,r n]
noncomputable def si(n:Nat):Obj:=fs (.type "StopIteration") [r n,.none,.none,.none,(.bool ak),.none]
noncomputable def ti(n:Int):Obj:=fs (.type "tuple_iterator") [.none,i n]
noncomputable def dr(a b:Nat)(m:aw):Obj:=⟨(.type "frame"),aa,.plain,⟨[I (r a),I (r 3),I (r b),aa,I m,aa,I (r 0)]⟩⟩
noncomputable def er(P:gc)(k:String)(t n:Nat):DictEntry:=en P k t (r n)
noncomputable def dA(P:gc)(t:Nat)(m:aw)(aH:String)(l:Int)(es:List n5)(n:Nat):Obj:=di (en P "__module__" (t+5) m::en P "__qualname__" (t+7) (s aH (t+6))::en P "__firstlineno__" (t+9) (.int l (t+8))::es) n
noncomputable def dB(P:gc)(t:Nat)(m:aw)(l:Int)(es:List n5)(n:Nat):Obj:=di (en P "__module__" (t+5) m::en P "__firstlineno__" (t+9) (.int l (t+8))::es) n
noncomputable def dW(P:gc)(d w:Nat):List DictEntry:=[er P "__dict__" (d+1) (w+1),er P "__weakref__" (d+3) (w+2),en P "__doc__" (d+4) .none]
noncomputable def dq(aH:String)(w t q:Nat):Obj:=⟨(.type "type"),aa,.cls {name:=b0 aH,bases:=[(.type "object")],mro:=[r w,(.type "object")],ns:=w- 1,qualname:=b0 aH,hasDict:=ai,slotNames:=[],subclasses:=[],abstract:=ak,collection:=aa,hasDel:=ak},⟨[aa,aa,I (s aH t),I (s aH q),I (.builtin "object.__new__"),I (.bool ai)]⟩⟩
noncomputable def cx(aH:String)(w b t q:Nat):Obj:=⟨(.type "type"),aa,.cls {name:=b0 aH,bases:=[r 39],mro:=[r w,r 39,(.type "ValueError"),(.type "Exception"),(.type "BaseException"),(.type "object")],ns:=w- 1,qualname:=b0 aH,hasDict:=ai,slotNames:=[],subclasses:=[],abstract:=ak,collection:=aa,hasDel:=ak},⟨[I (r b),aa,I (s aH t),I (s aH q),I (.builtin "ValueError.__new__"),I (.bool ai)]⟩⟩
noncomputable def Af(b:Int):List (Int×Nat)->List aw
 |[]=>[]
 |x::l=>i x.1::i b::r x.2::Af b l
noncomputable def cc(aH:String)(t:Nat)(l:Int)(a:Nat):Obj:=pQ aH aH t l 0 0 a ak 181 [.none,.none,.none] (t+3)
noncomputable def HR:gL->Arguments
 |.FunctionDef _ a .. =>a
 |_=>jJ
noncomputable def QN:gL->bg
 |.FunctionDef n .. =>n
 |_=>jJ
def fb(p:List Nat)(ql:String):Obj:=ob .none (.func {name:=QN (nD pw p),qualname:=b0 ql,params:=HR (nD pw p),body:=.stmts (sT (nD pw p)),scope:=nE (nD pw p),globals:=0,closure:=[],defaults:=.none,kwdefaults:=.none})
def ff(p:List Nat)(ql:String)(d m c:aw):Obj:=ob (.type "function") (.func {name:=QN (nD pw p),qualname:=b0 ql,params:=HR (nD pw p),body:=.stmts (sT (nD pw p)),scope:=nE (nD pw p),globals:=3,closure:=[],defaults:=d,kwdefaults:=.none,pyModule:=m,code:=c})
def D(a t:Nat)(pK:Int)(p:List Nat)(aH ql:String)(l:List String)(d m:aw)(af:List da):List Obj:=tu []::fs .none []::tu (jT (t+3) l)::tu []::fb p ql::pQ aH ql t pK (HR (nD pw p)).args.length 3 a ai 181 [r (a+2),r (a+3),r (a+4)] (t+3+l.length)::ff p ql d m (r (a+5))::af
noncomputable def DF(a t:Nat)(pK:Int)(p:Nat)(aH:String)(l:List String)(m:aw)(af:List da):List Obj:=D a t pK [p] aH aH l .none m af
noncomputable def DM(a t:Nat)(pK:Int)(p q:Nat)(aH ql:String)(l:List String)(m:aw)(af:List da):List Obj:=D a t pK [p,q] aH ql l .none m af
def ch0(P:gc)(o3 dp jf:da)(af:List da):List Obj:=boot_o_0 P::boot_o_1 P::boot_o_2 P::o3::boot_o_4 P::boot_o_5 P::boot_o_6 P::boot_o_7 P::boot_o_8 P::boot_o_9 P::boot_o_10 P::tu []::dp::pQ "<module>" "<module>" 182 1 0 0 11 ak 181 [.none,.none,.none] 185::⟨(.type "frame"),aa,.plain,⟨[I (r 13),I (r 3),I (r 3),aa,I (s "__main__" 164),aa,I (r 0)]⟩⟩::D 15 187 1 [0] "_wall" "_wall" ["k"] .none (s "__main__" 164) (tu [(.type "ValueError")]::bp::dA P 198 oL "PageError" 5 [er P "__init__" 216 36,er P "__static_attributes__" 218 37] 5::tu []::fs .none [(i 7),(i 4),(r 35)]::cc "PageError" 198 5 25::dr 27 24 oL::tu (jT 208 [""])::D 30 209 7 [2,0] "__init__" "PageError.__init__" ["self","reason"] (r 29) oL (tu (jT 217 ["reason"])::dB P 198 oL 5 [er P "__init__" 216 36,er P "__static_attributes__" 218 37,er P "__weakref__" 220 40,en P "__doc__" 221 .none] 3::jf::gw 219 39::j5 39::bs 39::tu [(r 39)]::bp::dA P 226 oL "BadArgument" 9 [er P "__static_attributes__" 236 50] 4::tu []::fs .none []::cc "BadArgument" 226 9 46::dr 48 45 oL::tu []::dB P 226 oL 9 [er P "__static_attributes__" 236 50,en P "__doc__" 237 .none] 2::cx "BadArgument" 52 43 224 232::j5 52::bs 52::tu [(r 39)]::bp::af))
def ch1(P:gc)(o3 dp jf:da)(af:List da):List Obj:=dA P 242 oL "BadUnit" 11 [er P "__static_attributes__" 252 62] 4::tu []::fs .none []::cc "BadUnit" 242 11 58::dr 60 57 oL::tu []::dB P 242 oL 11 [er P "__static_attributes__" 252 62,en P "__doc__" 253 .none] 2::cx "BadUnit" 64 55 240 248::j5 64::bs 64::tu [(r 39)]::bp::dA P 258 oL "Overflow" 13 [er P "__static_attributes__" 268 74] 4::tu []::fs .none []::cc "Overflow" 258 13 70::dr 72 69 oL::tu []::dB P 258 oL 13 [er P "__static_attributes__" 268 74,en P "__doc__" 269 .none] 2::cx "Overflow" 76 67 256 264::j5 76::bs 76::tu (my 290 [0,1,2,3])::ti 4::tu []::si 81::DF 83 298 21 12 "is_whole" ["value","low","high"] gJ (DF 90 307 23 13 "check_whole" ["value"] gJ (DF 97 314 27 14 "check_number" ["value"] gJ (DF 104 321 31 15 "check_dimen" ["value"] gJ (DF 111 328 35 16 "rounded" ["number","by"] gJ (DF 118 336 41 17 "reading" ["whole","scale"] gJ (DF 125 344 43 18 "decimal_text" ["value","sign","points","part","scale","near","places"] gJ (DF 132 357 54 19 "times" ["count","value","more"] gJ (DF 139 367 57 21 "over" ["value","by","quotient","rest"] gJ (DF 146 378 67 23 "badness" ["excess","total","ratio"] gJ (DF 153 387 83 24 "order_text" ["order"] gJ (DF 160 394 85 25 "part_text" ["value","order","unit"] gJ (tu []::bp::dA P 405 gJ "Glue" 87 [er P "__init__" 431 181,er P "parts" 438 188,er P "same" 446 195,er P "added" 454 202,er P "times" 464 209,er P "over" 474 216,er P "negated" 481 223,er P "text" 491 231,er P "__static_attributes__" 497 232] 12::tu []::fs .none (Af 4 [(89,180),(98,187),(101,194),(104,201),(107,208),(111,215),(115,222),(118,230)])::cc "Glue" 405 87 170::dr 172 169 gJ::af))))))))))))
def ch2(P:gc)(o3 dp jf:da)(af:List da):List Obj:=tu (my 415 [0,0,0,0,0])::D 175 420 89 [26,0] "__init__" "Glue.__init__" ["self","width","stretch","stretch_order","shrink","shrink_order"] (r 174) gJ (DM 182 432 98 26 1 "parts" "Glue.parts" ["self"] gJ (DM 189 439 101 26 2 "same" "Glue.same" ["self","other"] gJ (DM 196 447 104 26 3 "added" "Glue.added" ["self","other"] gJ (DM 203 455 107 26 4 "times" "Glue.times" ["self","count","stretch","shrink"] gJ (DM 210 465 111 26 5 "over" "Glue.over" ["self","by","stretch","shrink"] gJ (DM 217 475 115 26 6 "negated" "Glue.negated" ["self"] gJ (tu (jT 482 ["pt"])::D 225 483 118 [26,7] "text" "Glue.text" ["self","unit","found"] (r 224) gJ (tu (jT 492 ["shrink","shrink_order","stretch","stretch_order","width"])::dB P 405 gJ 87 ([er P "__init__" 431 181,er P "parts" 438 188,er P "same" 446 195,er P "added" 454 202,er P "times" 464 209,er P "over" 474 216,er P "negated" 481 223,er P "text" 491 231,er P "__static_attributes__" 497 232]++dW P 498 234) 4::dq "Glue" 234 403 411::gd 498 234::gw 500 234::j5 234::bs 234::DF 239 505 125 27 "top_order" ["sums","order"] gJ (tu []::bp::dA P 515 gJ "Totals" 130 [er P "__init__" 531 259,er P "add" 539 266,er P "widen" 547 273,er P "stretch_top" 554 280,er P "shrink_top" 561 287,er P "copy" 568 294,er P "__static_attributes__" 572 295] 10::tu []::fs .none (Af 4 [(132,258),(137,265),(142,272),(145,279),(148,286),(151,293)])::cc "Totals" 515 130 249::dr 251 248 gJ::DM 253 525 132 28 0 "__init__" "Totals.__init__" ["self"] gJ (DM 260 532 137 28 1 "add" "Totals.add" ["self","glue"] gJ (DM 267 540 142 28 2 "widen" "Totals.widen" ["self","width"] gJ (DM 274 548 145 28 3 "stretch_top" "Totals.stretch_top" ["self"] gJ (DM 281 555 148 28 4 "shrink_top" "Totals.shrink_top" ["self"] gJ (DM 288 562 151 28 5 "copy" "Totals.copy" ["self"] gJ (tu (jT 569 ["natural","shrink","stretch"])::dB P 515 gJ 130 ([er P "__init__" 531 259,er P "add" 539 266,er P "widen" 547 273,er P "stretch_top" 554 280,er P "shrink_top" 561 287,er P "copy" 568 294,er P "__static_attributes__" 572 295]++dW P 573 297) 4::dq "Totals" 297 513 521::gd 573 297::gw 575 297::j5 297::bs 297::tu (my 582 [0,1,2,3,4,5,6,7])::ti 8::tu []::si 304::tu (my 598 [8,9,10,11,12,13,14])::ti 7::tu []::af)))))))))))))))
def ch3(P:gc)(o3 dp jf:da)(af:List da):List Obj:=si 308::tu (my 612 [0,1,2])::ti 3::tu []::si 312::tu (my 618 [0,1,2,3])::ti 4::tu []::si 316::tu (my 626 [0,1,2,3,4,5,100])::ti 7::tu []::si 320::tu (my 640 [0,1,2,3])::ti 4::tu []::si 324::DF 326 648 160 36 "check_short" ["items","node"] dR (tu []::bp::dA P 658 dR "Box" 165 [er P "__init__" 679 346,er P "__static_attributes__" 689 347] 5::tu []::fs .none [(i 167),(i 4),(r 345)]::cc "Box" 658 165 336::dr 338 335 dR::DM 340 668 167 37 0 "__init__" "Box.__init__" ["self","kind","width","height","depth","items"] dR (tu (jT 680 ["depth","height","items","kind","order","ratio","shift","sign","width"])::dB P 658 dR 165 ([er P "__init__" 679 346,er P "__static_attributes__" 689 347]++dW P 690 349) 4::dq "Box" 349 656 664::gd 690 349::gw 692 349::j5 349::bs 349::tu []::bp::dA P 699 dR "Rule" 179 [en P "kind" 709 (.int (4) 586),er P "__init__" 720 367,er P "__static_attributes__" 724 368] 6::tu []::fs .none [(i 182),(i 4),(r 366)]::cc "Rule" 699 179 357::dr 359 356 dR::DM 361 710 182 38 1 "__init__" "Rule.__init__" ["self","width","height","depth","size"] dR (tu (jT 721 ["depth","height","width"])::dB P 699 dR 179 ([en P "kind" 709 (.int (4) 586),er P "__init__" 720 367,er P "__static_attributes__" 724 368]++dW P 725 370) 4::dq "Rule" 370 697 705::gd 725 370::af)))
def ch4(P:gc)(o3 dp jf:da)(af:List da):List Obj:=gw 727 370::j5 370::bs 370::tu []::bp::dA P 734 dR "Kern" 189 [en P "kind" 744 (.int (5) 587),er P "__init__" 753 388,er P "__static_attributes__" 756 389] 6::tu []::fs .none [(i 192),(i 4),(r 387)]::cc "Kern" 734 189 378::dr 380 377 dR::DM 382 745 192 39 1 "__init__" "Kern.__init__" ["self","width","sort"] dR (tu (jT 754 ["sort","width"])::dB P 734 dR 189 ([en P "kind" 744 (.int (5) 587),er P "__init__" 753 388,er P "__static_attributes__" 756 389]++dW P 757 391) 4::dq "Kern" 391 732 740::gd 757 391::gw 759 391::j5 391::bs 391::tu []::bp::dA P 766 dR "Skip" 197 [en P "kind" 776 (.int (6) 588),er P "__init__" 786 410,er P "__static_attributes__" 790 411] 6::tu []::fs .none [(i 200),(i 4),(r 409)]::cc "Skip" 766 197 399::dr 401 398 dR::tu [.none]::D 404 777 200 [40,1] "__init__" "Skip.__init__" ["self","glue","sort","leader"] (r 403) dR (tu (jT 787 ["glue","leader","sort"])::dB P 766 dR 197 ([en P "kind" 776 (.int (6) 588),er P "__init__" 786 410,er P "__static_attributes__" 790 411]++dW P 791 413) 4::dq "Skip" 413 764 772::gd 791 413::gw 793 413::j5 413::bs 413::tu []::bp::dA P 800 dR "Penalty" 210 [en P "kind" 810 (.int (7) 589),er P "__init__" 818 431,er P "__static_attributes__" 820 432] 6::tu []::fs .none [(i 213),(i 4),(r 430)]::cc "Penalty" 800 210 421::dr 423 420 dR::DM 425 811 213 41 1 "__init__" "Penalty.__init__" ["self","value"] dR (tu (jT 819 ["value"])::dB P 800 dR 210 ([en P "kind" 810 (.int (7) 589),er P "__init__" 818 431,er P "__static_attributes__" 820 432]++dW P 821 434) 4::dq "Penalty" 434 798 806::af)))
def ch5(P:gc)(o3 dp jf:da)(af:List da):List Obj:=gd 821 434::gw 823 434::j5 434::bs 434::tu []::bp::dA P 830 dR "Disc" 215 [en P "kind" 840 (.int (8) 598),er P "__init__" 850 452,er P "__static_attributes__" 854 453] 6::tu []::fs .none [(i 218),(i 4),(r 451)]::cc "Disc" 830 215 442::dr 444 441 dR::DM 446 841 218 42 1 "__init__" "Disc.__init__" ["self","pre","post","middle"] dR (tu (jT 851 ["middle","post","pre"])::dB P 830 dR 215 ([en P "kind" 840 (.int (8) 598),er P "__init__" 850 452,er P "__static_attributes__" 854 453]++dW P 855 455) 4::dq "Disc" 455 828 836::gd 855 455::gw 857 455::j5 455::bs 455::tu []::bp::dA P 864 dR "Mark" 222 [en P "kind" 874 (.int (9) 599),er P "__init__" 882 473,er P "__static_attributes__" 884 474] 6::tu []::fs .none [(i 225),(i 4),(r 472)]::cc "Mark" 864 222 463::dr 465 462 dR::DM 467 875 225 43 1 "__init__" "Mark.__init__" ["self","tokens"] dR (tu (jT 883 ["tokens"])::dB P 864 dR 222 ([en P "kind" 874 (.int (9) 599),er P "__init__" 882 473,er P "__static_attributes__" 884 474]++dW P 885 476) 4::dq "Mark" 476 862 870::gd 885 476::gw 887 476::j5 476::bs 476::tu []::bp::dA P 894 dR "Insert" 227 [en P "kind" 904 (.int (10) 600),er P "__init__" 917 494,er P "__static_attributes__" 924 495] 6::tu []::fs .none [(i 230),(i 4),(r 493)]::cc "Insert" 894 227 484::dr 486 483 dR::DM 488 905 230 44 1 "__init__" "Insert.__init__" ["self","number","size","depth","top","cost","items"] dR (tu (jT 918 ["cost","depth","items","number","size","top"])::dB P 894 dR 227 ([en P "kind" 904 (.int (10) 600),er P "__init__" 917 494,er P "__static_attributes__" 924 495]++dW P 925 497) 4::dq "Insert" 497 892 900::af)))
def ch6(P:gc)(o3 dp jf:da)(af:List da):List Obj:=gd 925 497::gw 927 497::j5 497::bs 497::tu []::bp::dA P 934 dR "Adjust" 239 [en P "kind" 944 (.int (11) 601),er P "__init__" 952 515,er P "__static_attributes__" 954 516] 6::tu []::fs .none [(i 242),(i 4),(r 514)]::cc "Adjust" 934 239 505::dr 507 504 dR::DM 509 945 242 45 1 "__init__" "Adjust.__init__" ["self","items"] dR (tu (jT 953 ["items"])::dB P 934 dR 239 ([en P "kind" 944 (.int (11) 601),er P "__init__" 952 515,er P "__static_attributes__" 954 516]++dW P 955 518) 4::dq "Adjust" 518 932 940::gd 955 518::gw 957 518::j5 518::bs 518::tu []::bp::dA P 964 dR "MathEdge" 244 [en P "kind" 974 (.int (12) 602),er P "__init__" 983 536,er P "__static_attributes__" 986 537] 6::tu []::fs .none [(i 247),(i 4),(r 535)]::cc "MathEdge" 964 244 526::dr 528 525 dR::DM 530 975 247 46 1 "__init__" "MathEdge.__init__" ["self","is_on","width"] dR (tu (jT 984 ["is_on","width"])::dB P 964 dR 244 ([en P "kind" 974 (.int (12) 602),er P "__init__" 983 536,er P "__static_attributes__" 986 537]++dW P 987 539) 4::dq "MathEdge" 539 962 970::gd 987 539::gw 989 539::j5 539::bs 539::tu []::bp::dA P 996 dR "Special" 250 [en P "kind" 1006 (.int (13) 603),en P "sort" 1007 (.int (0) 640),er P "__init__" 1016 557,er P "__static_attributes__" 1018 558] 7::tu []::fs .none [(i 254),(i 4),(r 556)]::cc "Special" 996 250 547::dr 549 546 dR::DM 551 1008 254 47 2 "__init__" "Special.__init__" ["self","octets","octet"] dR (tu (jT 1017 ["octets"])::dB P 996 dR 250 ([en P "kind" 1006 (.int (13) 603),en P "sort" 1007 (.int (0) 640),er P "__init__" 1016 557,er P "__static_attributes__" 1018 558]++dW P 1019 560) 4::dq "Special" 560 994 1002::af)))
def ch7(P:gc)(o3 dp jf:da)(af:List da):List Obj:=gd 1019 560::gw 1021 560::j5 560::bs 560::tu []::fs .none []::fb [48] "width_of"::pQ "width_of" "width_of" 1026 261 1 3 565 ai 181 [.none,.none,(r 567)] 1029::ff [48] "width_of" .none dR (r 568)::tu []::fs .none []::fb [49] "height_of"::pQ "height_of" "height_of" 1032 274 1 3 570 ai 181 [.none,.none,(r 572)] 1035::ff [49] "height_of" .none dR (r 573)::tu []::fs .none []::fb [50] "depth_of"::pQ "depth_of" "depth_of" 1038 287 1 3 575 ai 181 [.none,.none,(r 577)] 1041::ff [50] "depth_of" .none dR (r 578)::DF 580 1044 300 51 "line_height" ["node"] dR (DF 587 1051 304 52 "line_depth" ["node"] dR (tu (my 1061 [-10000,10000])::ti 2::tu []::si 596::tu (my 1065 [0,1,2,3])::ti 4::tu []::si 600::tu (my 1073 [0,1])::ti 2::tu []::si 604::tu (my 1082 [0,0,0,0,0,0])::tu []::bp::dA P 1091 fV "Shape" 315 [er P "__init__" 1109 620,er P "special" 1116 627,er P "line" 1125 634,er P "__static_attributes__" 1132 635] 7::tu []::fs .none (Af 4 [(317,619),(327,626),(332,633)])::cc "Shape" 1091 315 610::dr 612 609 fV::tu []::tu [(.int (0) 1101),(.int (1) 1102),(r 614),(.int (0) 1103)]::tu []::fs .none []::af))
def ch8(P:gc)(o3 dp jf:da)(af:List da):List Obj:=fb [60,0] "Shape.__init__"::pQ "__init__" "Shape.__init__" 1104 317 6 3 616 ai 181 [.none,.none,(r 618)] 1107::ff [60,0] "Shape.__init__" (r 615) fV (r 619)::DM 621 1110 327 60 1 "special" "Shape.special" ["self"] fV (DM 628 1117 332 60 2 "line" "Shape.line" ["self","number","is_hung"] fV (tu (jT 1126 ["done","hang_after","hang_indent","narrow","rows","width"])::dB P 1091 fV 315 ([er P "__init__" 1109 620,er P "special" 1116 627,er P "line" 1125 634,er P "__static_attributes__" 1132 635]++dW P 1133 637) 4::dq "Shape" 637 1089 1097::gd 1133 637::gw 1135 637::j5 637::bs 637::tu []::bp::dA P 1142 fV "Settings" 341 [er P "__init__" 1158 655,er P "__static_attributes__" 1171 656] 5::tu []::fs .none [(i 343),(i 4),(r 654)]::cc "Settings" 1142 341 645::dr 647 644 fV::DM 649 1152 343 61 0 "__init__" "Settings.__init__" ["self"] fV (tu (jT 1159 ["adjacent","double_hyphen","emergency","ex_hyphen_penalty","final_hyphen","hyphen_penalty","left_skip","line_penalty","looseness","pretolerance","right_skip","tolerance"])::dB P 1142 fV 341 ([er P "__init__" 1158 655,er P "__static_attributes__" 1171 656]++dW P 1172 658) 4::dq "Settings" 658 1140 1148::gd 1172 658::gw 1174 658::j5 658::bs 658::tu []::bp::dA P 1181 fV "Way" 356 [er P "__init__" 1202 676,er P "__static_attributes__" 1208 677] 5::tu []::fs .none [(i 358),(i 4),(r 675)]::cc "Way" 1181 356 666::dr 668 665 fV::DM 670 1191 358 62 0 "__init__" "Way.__init__" ["self","spot","line","fit","demerits","before"] fV (tu (jT 1203 ["before","demerits","fit","line","spot"])::dB P 1181 fV 356 ([er P "__init__" 1202 676,er P "__static_attributes__" 1208 677]++dW P 1209 679) 4::dq "Way" 679 1179 1187::gd 1209 679::gw 1211 679::j5 679::bs 679::tu []::bp::dA P 1218 fV "Trial" 364 [er P "__init__" 1239 697,er P "__static_attributes__" 1246 698] 5::af))))
def ch9(P:gc)(o3 dp jf:da)(af:List da):List Obj:=tu []::fs .none [(i 366),(i 4),(r 696)]::cc "Trial" 1218 364 687::dr 689 686 fV::DM 691 1228 366 63 0 "__init__" "Trial.__init__" ["self","settings","shape","most","ground","is_last"] fV (tu (jT 1240 ["apart","ground","is_last","most","settings","shape"])::dB P 1218 fV 364 ([er P "__init__" 1239 697,er P "__static_attributes__" 1246 698]++dW P 1247 700) 4::dq "Trial" 700 1216 1224::gd 1247 700::gw 1249 700::j5 700::bs 700::DF 705 1254 373 64 "check_settings" ["settings","value"] fV (DF 712 1262 377 65 "is_dropped" ["node"] fV (DF 719 1269 379 66 "legal_breaks" ["items","settings","found","may","is_behind","place","node","kind","penalty","sort"] fV (DF 726 1285 403 67 "start_behind" ["items","place"] fV (DF 733 1293 411 68 "add_glue" ["row","glue"] fV (DF 740 1301 417 69 "wide" ["items","found","node"] fV (DF 747 1310 422 70 "sums_ahead" ["items","row","found","node"] fV (DF 754 1320 434 71 "widened" ["sums","more"] fV (DF 761 1328 436 72 "spots" ["items","settings","sums","found","place","penalty","sort","start","begin","end"] fV (DF 768 1344 447 73 "ground_of" ["settings","extra","row"] fV (tu []::fs .none []::fb [74] "line_totals"::pQ "line_totals" "line_totals" 1353 453 3 3 775 ai 181 [.none,.none,(r 777)] 1356::ff [74] "line_totals" .none fV (r 778)::DF 780 1359 455 75 "fitted" ["width","sums","short","bad"] fV (DF 787 1369 468 76 "line_demerits" ["settings","bad","penalty","cost","found"] fV (DF 794 1380 476 77 "pair_demerits" ["settings","is_twice","is_end","apart","found"] fV (DF 801 1391 483 78 "ways_to" ["trial","spot","active","is_end","place","penalty","sort","end","settings","kept","best","least","number","way","line","sums","bad","fit","is_resort","demerits","is_twice","group","old"] fV (DF 808 1420 512 79 "picked" ["ways","looseness","best","way","found","apart","far","is_nearer"] fV (DF 815 1434 525 80 "places_of" ["way","found"] fV (DF 822 1442 531 81 "choose" ["items","settings","shape","tolerance","extra","is_last","ground","trial","active","spot","found","apart"] fV (tu (my 1462 [0,1])::ti 2::tu []::si 831::tu (my 1466 [0,1,2,3])::ti 4::tu []::si 835::DF 837 1474 547 85 "natural_line" ["items","totals","height","depth","node"] wh (DF 844 1485 558 86 "quotient" ["up","down"] wh (DF 851 1493 560 87 "set_glue" ["totals","excess","order","total","report"] wh (af)))))))))))))))))))))
def aI2(P:gc)(o3 dp jf:da)(af:List da):List Obj:=DF 858 1504 575 88 "moved" ["items","kept","out","node"] wh (DF 865 1514 585 89 "goal_size" ["own","mode","amount"] wh (DF 872 1523 590 90 "set_box" ["box","totals","excess","report"] wh (tu [(.int (1) 1463),(.int (0) 1533),.none]::D 880 1534 593 [91] "hpack" "hpack" ["items","mode","amount","outside","kept","out","totals","height","depth","width","box"] (r 879) wh (tu (my 1551 [0,1,2,3,4,5,6])::ti 7::tu []::si 889::D 891 1567 603 [94] "packed_line" "packed_line" ["line","settings","indent","width","found","outside","box","report"] .none (s "gluepage.paragraph" 1565) (D 898 1581 613 [95] "penalty_behind" "penalty_behind" ["number","many","is_cut","penalties","inter_line","club","widow","broken","found"] .none (s "gluepage.paragraph" 1565) (D 905 1596 625 [96] "make_lines" "make_lines" ["items","places","settings","shape","penalties","found","start","ahead","number","place","is_cut","line","indent","width","box","outside","report"] .none (s "gluepage.paragraph" 1565) (DF 912 1621 641 98 "_law_pool" ["script","whole","cell","part"] j4 (DF 919 1631 649 99 "_law_take" ["pool","many","digit"] j4 (DF 926 1640 656 100 "_law_same" ["one","other","this","that"] j4 (DF 933 1650 663 101 "_law_skip" ["parts"] j4 (DF 940 1657 665 102 "_law_settings" ["pool","is_free","found"] j4 (DF 947 1666 678 103 "_law_shape" ["pool","is_free","size","way","done"] j4 (DF 954 1677 683 104 "_law_add" ["rows","node","stays","least","cost","texts"] j4 (DF 961 1689 685 105 "_law_word" ["pool","rows","room","size","way","sort","kern","of_what","node"] j4 (DF 968 1704 699 106 "_law_glue" ["pool","rows","cost","width","stretch","order","shrink","leader"] j4 (DF 975 1718 703 107 "_law_text" ["pool","way"] j4 (DF 982 1726 710 108 "_law_disc" ["pool","rows","settings","ahead","behind","middle","cost"] j4 (DF 989 1739 714 109 "_law_outside" ["pool","way"] j4 (DF 996 1747 721 110 "_law_gap" ["pool","rows","settings","room","way","value"] j4 (DF 1003 1759 744 111 "_law_rows" ["pool","settings","room","is_short","rows","more","turn","way"] j4 (DF 1010 1773 758 112 "_law_least" ["rows","ground","at","place","first","found","texts","row"] j4 (tu []::fs .none []::fb [113] "_law_lines_right"::pQ "_law_lines_right" "_law_lines_right" 1787 773 3 3 1017 ai 181 [.none,.none,(r 1019)] 1790::ff [113] "_law_lines_right" .none j4 (r 1020)::tu []::fs .none []::fb [114] "_law_part"::pQ "_law_part" "_law_part" 1793 789 3 3 1022 ai 181 [.none,.none,(r 1024)] 1796::ff [114] "_law_part" .none j4 (r 1025)::DF 1027 1799 802 115 "_law_cost" ["told","lines","ends","found","line","alone","place","cost"] j4 (tu []::fs .none []::fb [116] "_law_stretch_right"::pQ "_law_stretch_right" "_law_stretch_right" 1813 812 4 3 1034 ai 181 [.none,.none,(r 1036)] 1816::ff [116] "_law_stretch_right" .none j4 (r 1037)::DF 1039 1819 822 117 "_law_stretches_right" ["told","answer","lines","at","ends","seen","place","line"] j4 (tu []::af))))))))))))))))))))))))
def aI3(P:gc)(o3 dp jf:da)(af:List da):List Obj:=fs .none []::fb [118] "law"::pQ "law" "law" 1833 833 1 3 1046 ai 181 [.none,.none,(r 1048)] 1836::ff [118] "law" .none j4 (r 1049)::af
def objs(P:gc)(o3 dp jf:da):List Obj:=ch0 P o3 dp jf (ch1 P o3 dp jf (ch2 P o3 dp jf (ch3 P o3 dp jf (ch4 P o3 dp jf (ch5 P o3 dp jf (ch6 P o3 dp jf (ch7 P o3 dp jf (ch8 P o3 dp jf (ch9 P o3 dp jf (aI2 P o3 dp jf (aI3 P o3 dp jf ([]))))))))))))
def aI4(P:gc):List DictEntry:=[en P "__doc__" 166 .none,en P "__package__" 167 .none,en P "__loader__" 168 (.builtin "__main__.__loader__#opaque"),en P "__spec__" 169 .none,er P "__annotations__" 170 6,er P "__builtins__" 171 4,en P "__file__" 173 (s "/claim/cut.py" 172),en P "__cached__" 174 .none,er P "_wall" 193 21,er P "PageError" 223 39,er P "BadArgument" 239 52,er P "BadUnit" 255 64,er P "Overflow" 271 76,en P "UNITY" 275 (.int (65536) 274),en P "MAX_DIMEN" 281 (.int (1073741823) 280),en P "MAX_NUMBER" 287 (.int (2147483647) 286),en P "INF_BAD" 289 (.int (10000) 288),en P "NORMAL" 294 (.int (0) 290),en P "FIL" 295 (.int (1) 291),en P "FILL" 296 (.int (2) 292),en P "FILLL" 297 (.int (3) 293),er P "is_whole" 306 89,er P "check_whole" 313 96,er P "check_number" 320 103,er P "check_dimen" 327 110,er P "rounded" 335 117,er P "reading" 343 124,er P "decimal_text" 356 131,er P "times" 365 138,er P "times_scaled" 366 138,er P "over" 376 145,er P "over_scaled" 377 145,er P "badness" 386 152,er P "order_text" 393 159,er P "part_text" 402 166,er P "Glue" 504 234,er P "top_order" 512 245,er P "Totals" 579 297,en P "CHAR" 590 (.int (0) 582),en P "LIGATURE" 591 (.int (1) 583),en P "HBOX" 592 (.int (2) 584),en P "VBOX" 593 (.int (3) 585),en P "RULE" 594 (.int (4) 586),en P "KERN" 595 (.int (5) 587),en P "GLUE" 596 (.int (6) 588),en P "PENALTY" 597 (.int (7) 589),en P "DISC" 605 (.int (8) 598),en P "MARK" 606 (.int (9) 599),en P "INSERT" 607 (.int (10) 600),en P "ADJUST" 608 (.int (11) 601),en P "MATH" 609 (.int (12) 602),en P "SPECIAL" 610 (.int (13) 603),en P "UNSET" 611 (.int (14) 604),en P "NATURAL" 615 (.int (0) 612),en P "STRETCHED" 616 (.int (1) 613),en P "SHRUNK" 617 (.int (2) 614),en P "FONT_KERN" 622 (.int (0) 618),en P "EXPLICIT" 623 (.int (1) 619),en P "ACCENT_KERN" 624 (.int (2) 620),en P "MU_KERN" 625 (.int (3) 621),en P "PLAIN" 633 (.int (0) 626),en P "ALEADERS" 634 (.int (1) 627),en P "CLEADERS" 635 (.int (2) 628),en P "XLEADERS" 636 (.int (3) 629),en P "MU_SKIP" 637 (.int (4) 630),en P "NONSCRIPT" 638 (.int (5) 631),en P "NAMED" 639 (.int (100) 632),en P "FOR_DEVICE" 644 (.int (0) 640),en P "WRITING" 645 (.int (1) 641),en P "OPENING" 646 (.int (2) 642),en P "CLOSING" 647 (.int (3) 643),er P "check_short" 655 332,er P "Box" 696 349,er P "Rule" 731 370,er P "Kern" 763 391,er P "Skip" 797 413,er P "Penalty" 827 434,er P "Disc" 861 455,er P "Mark" 891 476,er P "Insert" 931 497,er P "Adjust" 961 518,er P "MathEdge" 993 539,er P "Special" 1025 560,er P "width_of" 1031 569,er P "height_of" 1037 574,er P "depth_of" 1043 579,er P "line_height" 1050 586,er P "line_depth" 1057 593,en P "EJECT" 1063 (.int (-10000) 1061),en P "FORBID" 1064 (.int (10000) 1062),en P "VERY_LOOSE" 1069 (.int (0) 1065),en P "LOOSE_FIT" 1070 (.int (1) 1066),en P "DECENT_FIT" 1071 (.int (2) 1067),en P "TIGHT_FIT" 1072 (.int (3) 1068),en P "PLAIN_BREAK" 1075 (.int (0) 1073),en P "HYPHEN_BREAK" 1076 (.int (1) 1074),en P "TOO_LONG" 1079 (.int (10001) 1078),en P "WORST_LINE" 1081 (.int (100000000) 1080),er P "NO_SUMS" 1088 606,er P "Shape" 1139 637,er P "Settings" 1178 658,er P "Way" 1215 679,er P "Trial" 1253 700,er P "check_settings" 1261 711,er P "is_dropped" 1268 718,er P "legal_breaks" 1284 725,er P "start_behind" 1292 732,er P "add_glue" 1300 739,er P "wide" 1309 746,er P "sums_ahead" 1319 753,er P "widened" 1327 760,er P "spots" 1343 767,er P "ground_of" 1352 774,er P "line_totals" 1358 779,er P "fitted" 1368 786,er P "line_demerits" 1379 793,er P "pair_demerits" 1390 800,er P "ways_to" 1419 807,er P "picked" 1433 814,er P "places_of" 1441 821,er P "choose" 1459 828,en P "EXACTLY" 1464 (.int (0) 1462),en P "SPREAD" 1465 (.int (1) 1463),en P "FINE" 1470 (.int (0) 1466),en P "LOOSE" 1471 (.int (1) 1467),en P "TIGHT" 1472 (.int (2) 1468),en P "OVERFULL" 1473 (.int (3) 1469),er P "natural_line" 1484 843,er P "quotient" 1492 850,er P "set_glue" 1503 857,er P "moved" 1513 864,er P "goal_size" 1522 871,er P "set_box" 1532 878,er P "hpack" 1550 886,en P "LINE_SKIP" 1558 (.int (0) 1551),en P "BASELINE_SKIP" 1559 (.int (1) 1552),en P "PAR_SKIP" 1560 (.int (2) 1553),en P "ABOVE_DISPLAY_SKIP" 1561 (.int (3) 1554),en P "BELOW_DISPLAY_SKIP" 1562 (.int (4) 1555),en P "LEFT_SKIP" 1563 (.int (5) 1556),en P "RIGHT_SKIP" 1564 (.int (6) 1557),er P "packed_line" 1580 897,er P "penalty_behind" 1595 904,er P "make_lines" 1618 911,er P "_law_pool" 1630 918,er P "_law_take" 1639 925,er P "_law_same" 1649 932,er P "_law_skip" 1656 939,er P "_law_settings" 1665 946,er P "_law_shape" 1676 953,er P "_law_add" 1688 960,er P "_law_word" 1703 967,er P "_law_glue" 1717 974,er P "_law_text" 1725 981,er P "_law_disc" 1738 988,er P "_law_outside" 1746 995,er P "_law_gap" 1758 1002,er P "_law_rows" 1772 1009,er P "_law_least" 1786 1016,er P "_law_lines_right" 1792 1021,er P "_law_part" 1798 1026,er P "_law_cost" 1812 1033,er P "_law_stretch_right" 1818 1038,er P "_law_stretches_right" 1832 1045,er P "law" 1838 1050]
def aI5:List Value:=(Af 0 [(1,20),(5,27),(9,48),(11,60),(13,72),(21,88),(23,95),(27,102),(31,109),(35,116),(41,123),(43,130),(54,137),(57,144),(67,151),(83,158),(85,165),(87,172),(125,244),(130,251),(160,331),(165,338),(179,359),(189,380),(197,401),(210,423),(215,444),(222,465),(227,486),(239,507),(244,528),(250,549),(261,568),(274,573),(287,578),(300,585),(304,592),(315,612),(341,647),(356,668),(364,689),(373,710),(377,717),(379,724),(403,731),(411,738),(417,745),(422,752),(434,759),(436,766),(447,773),(453,778),(455,785),(468,792),(476,799),(483,806),(512,813),(525,820),(531,827),(547,842),(558,849),(560,856),(575,863),(585,870),(590,877),(593,885),(603,896),(613,903),(625,910),(641,917),(649,924),(656,931),(663,938),(665,945),(678,952),(683,959),(685,966),(699,973),(703,980),(710,987),(714,994),(721,1001),(744,1008),(758,1015),(773,1020),(789,1025),(802,1032),(812,1037),(822,1044),(833,1049)])
def aI6(n:Nat):Obj:=⟨(.type "type"),aa,.cls {name:=b0 "PageError",bases:=[(.type "ValueError")],mro:=[(r 39),(.type "ValueError"),(.type "Exception"),(.type "BaseException"),(.type "object")],ns:=38,qualname:=b0 "PageError",hasDict:=ai,slotNames:=[],subclasses:=[(r 52),(r 64),(r 76)].take n,abstract:=ak,collection:=aa,hasDel:=ak},⟨[I (r 22),aa,I (s "PageError" 196),I (s "PageError" 204),I (.builtin "ValueError.__new__"),I (.bool ai)]⟩⟩
noncomputable def HS:List da->List da
 |a::_::l=>a::HS l
 |l=>l
noncomputable def Ag:Nat->List da->BT
 |n+1,o::l=>.node o (Ag n (HS l)) (Ag n (HS l.tail))
 |_,_=>.nil
structure fF where
 n:Nat
 t:Nat
 e:Nat
 ep:Nat
 f:Nat
 sb:Nat
 aH:String
 nt:Nat
def wj(P:gc)(v:fF):List Obj:=objs P (di (en P "__name__" 165 (s v.aH v.nt)::(aI4 P).take v.e) v.ep) (fs .none (aI5.take v.f)) (aI6 v.sb)
def Ah(v:fF)(w:iS)(os:mI):SharedT:=⟨Ag 12 ((wj w.params v).take v.n),v.n,{},⟨[]⟩,{},v.t,os⟩
def wk:Env:={scope:=pw.main.scope,locals:=mainNs,globals:=mainNs,cells:=[],code:=.ref 13,frame:=I 14}
def body:List Stmt:=behindTheImports pw
def cE:Code:=.body body wk
noncomputable def p0:Pos:=⟨0,0,0,0⟩
theorem QO:@segRunT=@PySem.W.Fast.tw10110043849684766642:=PySem.W.Fast.te10110043849684766642
theorem Dq:x3=PySem.W.Fast.tw14364793385576792824:=PySem.W.Fast.te14364793385576792824
abbrev ei(i c n:Nat)(v fg:fF)(p jS:b3)(w:iS)(os:mI):Prop:=PySem.W.Fast.tw10110043849684766642 PySem.W.Fast.tw14364793385576792824 pw w 11 (I (.ref 6)) 1 n (Ah v w os) (piecesOf ((body.drop i).take c) wk cE p [x4 p0])=I (.next,Ah fg w os,cE,jS)
abbrev gP(i c n:Nat)(v fg:fF)(p jS:b3):Prop:=∀(w:iS) (os:mI),ei i c n v fg p jS w os
noncomputable def v0:fF:=⟨15,187,8,9,0,0,"__main__",164⟩
noncomputable def nU:fF:=⟨43,224,10,11,6,0,"gluepage.errors",194⟩
noncomputable def nV:fF:=⟨55,240,11,12,9,1,"gluepage.errors",194⟩
noncomputable def v3:fF:=⟨67,256,12,13,12,2,"gluepage.errors",194⟩
noncomputable def mD:fF:=⟨83,298,21,22,15,3,"gluepage.scaled",272⟩
noncomputable def v5:fF:=⟨167,403,35,36,51,3,"gluepage.scaled",272⟩
noncomputable def Ax:fF:=⟨239,505,36,37,54,3,"gluepage.scaled",272⟩
noncomputable def v7:fF:=⟨246,513,37,38,57,3,"gluepage.scaled",272⟩
noncomputable def v8:fF:=⟨302,582,38,39,60,3,"gluepage.nodes",580⟩
noncomputable def v9:fF:=⟨310,612,53,54,60,3,"gluepage.nodes",580⟩
noncomputable def Dr:fF:=⟨322,640,67,68,60,3,"gluepage.nodes",580⟩
noncomputable def HT:fF:=⟨354,697,73,74,66,3,"gluepage.nodes",580⟩
noncomputable def QP:fF:=⟨375,732,74,75,69,3,"gluepage.nodes",580⟩
noncomputable def QQ:fF:=⟨396,764,75,76,72,3,"gluepage.nodes",580⟩
noncomputable def QR:fF:=⟨418,798,76,77,75,3,"gluepage.nodes",580⟩
noncomputable def QS:fF:=⟨439,828,77,78,78,3,"gluepage.nodes",580⟩
noncomputable def QT:fF:=⟨460,862,78,79,81,3,"gluepage.nodes",580⟩
noncomputable def QU:fF:=⟨481,892,79,80,84,3,"gluepage.nodes",580⟩
noncomputable def QV:fF:=⟨502,932,80,81,87,3,"gluepage.nodes",580⟩
noncomputable def QW:fF:=⟨523,962,81,82,90,3,"gluepage.nodes",580⟩
noncomputable def QX:fF:=⟨544,994,82,83,93,3,"gluepage.nodes",580⟩
noncomputable def HU:fF:=⟨594,1060,88,89,111,3,"gluepage.breaks",1058⟩
noncomputable def HV:fF:=⟨607,1089,99,100,111,3,"gluepage.breaks",1058⟩
noncomputable def QY:fF:=⟨642,1140,100,101,114,3,"gluepage.breaks",1058⟩
noncomputable def QZ:fF:=⟨663,1179,101,102,117,3,"gluepage.breaks",1058⟩
noncomputable def Q0:fF:=⟨684,1216,102,103,120,3,"gluepage.breaks",1058⟩
noncomputable def Q1:fF:=⟨740,1301,108,109,138,3,"gluepage.breaks",1058⟩
noncomputable def HW:fF:=⟨815,1434,119,120,171,3,"gluepage.breaks",1058⟩
noncomputable def Ds:fF:=⟨865,1514,131,132,189,3,"gluepage.packing",1460⟩
noncomputable def HX:fF:=⟨912,1621,144,145,207,3,"law_xm0381_01",1619⟩
noncomputable def Q2:fF:=⟨996,1747,156,157,243,3,"law_xm0381_01",1619⟩
noncomputable def pR:fF:=⟨1051,1839,165,166,270,3,"law_xm0381_01",1619⟩
theorem pc0:gP 0 3 259 v0 nU ⟨0,0,0,0⟩ ⟨5,0,8,28⟩:=by intro w os;unfold ei;kernel_rfl
theorem pc1:gP 3 1 214 nU nV ⟨5,0,8,28⟩ ⟨9,0,10,8⟩:=by intro w os;unfold ei;kernel_rfl
theorem pc2:gP 4 1 214 nV v3 ⟨9,0,10,8⟩ ⟨11,0,12,8⟩:=by intro w os;unfold ei;kernel_rfl
theorem pc3:gP 5 7 384 v3 mD ⟨11,0,12,8⟩ ⟨20,19,20,24⟩:=λw os=>x5 "special-get-raises" (P:=λw=>ei 5 7 384 v3 mD ⟨11,0,12,8⟩ ⟨20,19,20,24⟩ w os) (by intro w;unfold ei;kernel_rfl) (by intro w;unfold ei;kernel_rfl) w
theorem pc4:gP 12 14 388 mD v5 ⟨20,19,20,24⟩ ⟨85,0,86,81⟩:=by intro w os;unfold ei;kernel_rfl
theorem pc5:gP 26 1 466 v5 Ax ⟨85,0,86,81⟩ ⟨87,0,124,20⟩:=by intro w os;unfold ei;kernel_rfl
theorem pc6:gP 27 1 31 Ax v7 ⟨87,0,124,20⟩ ⟨125,0,129,17⟩:=by intro w os;unfold ei;kernel_rfl
theorem pc7:gP 28 2 390 v7 v8 ⟨125,0,129,17⟩ ⟨153,0,153,8⟩:=by intro w os;unfold ei;kernel_rfl
theorem pc8:gP 30 2 329 v8 v9 ⟨153,0,153,8⟩ ⟨155,43,155,48⟩:=λw os=>x5 "special-get-raises" (P:=λw=>ei 30 2 329 v8 v9 ⟨153,0,153,8⟩ ⟨155,43,155,48⟩ w os) (by intro w;unfold ei;kernel_rfl) (by intro w;unfold ei;kernel_rfl) w
theorem pc9:gP 32 3 340 v9 Dr ⟨155,43,155,48⟩ ⟨158,57,158,62⟩:=λw os=>x5 "special-get-raises" (P:=λw=>ei 32 3 340 v9 Dr ⟨155,43,155,48⟩ ⟨158,57,158,62⟩ w os) (by intro w;unfold ei;kernel_rfl) (by intro w;unfold ei;kernel_rfl) w
theorem aI7:gP 35 3 366 Dr HT ⟨158,57,158,62⟩ ⟨165,0,178,27⟩:=λw os=>x5 "special-get-raises" (P:=λw=>ei 35 3 366 Dr HT ⟨158,57,158,62⟩ ⟨165,0,178,27⟩ w os) (by intro w;unfold ei;kernel_rfl) (by intro w;unfold ei;kernel_rfl) w
theorem aI8:gP 38 1 241 HT QP ⟨165,0,178,27⟩ ⟨179,0,188,26⟩:=by intro w os;unfold ei;kernel_rfl
theorem aI9:gP 39 1 238 QP QQ ⟨179,0,188,26⟩ ⟨189,0,196,24⟩:=by intro w os;unfold ei;kernel_rfl
theorem aJ0:gP 40 1 241 QQ QR ⟨189,0,196,24⟩ ⟨197,0,209,28⟩:=by intro w os;unfold ei;kernel_rfl
theorem aJ1:gP 41 1 236 QR QS ⟨197,0,209,28⟩ ⟨210,0,214,40⟩:=by intro w os;unfold ei;kernel_rfl
theorem aJ2:gP 42 1 240 QS QT ⟨210,0,214,40⟩ ⟨215,0,221,41⟩:=by intro w os;unfold ei;kernel_rfl
theorem aJ3:gP 43 1 236 QT QU ⟨215,0,221,41⟩ ⟨222,0,226,35⟩:=by intro w os;unfold ei;kernel_rfl
theorem aJ4:gP 44 1 246 QU QV ⟨222,0,226,35⟩ ⟨227,0,238,26⟩:=by intro w os;unfold ei;kernel_rfl
theorem aJ5:gP 45 1 236 QV QW ⟨227,0,238,26⟩ ⟨239,0,243,26⟩:=by intro w os;unfold ei;kernel_rfl
theorem aJ6:gP 46 1 238 QW QX ⟨239,0,243,26⟩ ⟨244,0,249,39⟩:=by intro w os;unfold ei;kernel_rfl
theorem aJ7:gP 47 7 395 QX HU ⟨244,0,249,39⟩ ⟨308,0,308,8⟩:=by intro w os;unfold ei;kernel_rfl
theorem aJ8:gP 54 6 278 HU HV ⟨308,0,308,8⟩ ⟨314,0,314,7⟩:=λw os=>x5 "special-get-raises" (P:=λw=>ei 54 6 278 HU HV ⟨308,0,308,8⟩ ⟨314,0,314,7⟩ w os) (by intro w;unfold ei;kernel_rfl) (by intro w;unfold ei;kernel_rfl) w
theorem aJ9:gP 60 1 294 HV QY ⟨314,0,314,7⟩ ⟨315,0,340,54⟩:=by intro w os;unfold ei;kernel_rfl
theorem aK0:gP 61 1 233 QY QZ ⟨315,0,340,54⟩ ⟨341,0,355,32⟩:=by intro w os;unfold ei;kernel_rfl
theorem aK1:gP 62 1 231 QZ Q0 ⟨341,0,355,32⟩ ⟨356,0,363,28⟩:=by intro w os;unfold ei;kernel_rfl
theorem aK2:gP 63 6 389 Q0 Q1 ⟨356,0,363,28⟩ ⟨411,0,416,25⟩:=by intro w os;unfold ei;kernel_rfl
theorem aK3:gP 69 11 374 Q1 HW ⟨411,0,416,25⟩ ⟨512,0,524,25⟩:=by intro w os;unfold ei;kernel_rfl
theorem aK4:gP 80 9 374 HW Ds ⟨512,0,524,25⟩ ⟨575,0,584,22⟩:=λw os=>x5 "special-get-raises" (P:=λw=>ei 80 9 374 HW Ds ⟨512,0,524,25⟩ ⟨575,0,584,22⟩ w os) (by intro w;unfold ei;kernel_rfl) (by intro w;unfold ei;kernel_rfl) w
theorem aK5:gP 89 9 398 Ds HX ⟨575,0,584,22⟩ ⟨640,0,640,8⟩:=λw os=>x5 "special-get-raises" (P:=λw=>ei 89 9 398 Ds HX ⟨575,0,584,22⟩ ⟨640,0,640,8⟩ w os) (by intro w;unfold ei;kernel_rfl) (by intro w;unfold ei;kernel_rfl) w
theorem aK6:gP 98 12 391 HX Q2 ⟨640,0,640,8⟩ ⟨714,0,720,87⟩:=by intro w os;unfold ei;kernel_rfl
theorem aK7:gP 110 9 283 Q2 pR ⟨714,0,720,87⟩ ⟨833,0,863,101⟩:=by intro w os;unfold ei;kernel_rfl
abbrev sh(v:fF)(w:iS)(os:mI):Shared:=(Ah v w os).abs
abbrev Ai(N:Nat)(w:iS)(s:bA)(t:Thread):Option Shared:=topRun x3 pw w 11 (I (.ref 6)) N s t
theorem g5{i c n N:Nat}{v fg:fF}{p jS:b3}(h:gP i c n v fg p jS){w:iS}{os:mI}{r:bA}(k:Ai N w (sh fg w os) (restOf (body.drop (i+c)) wk cE jS [x4 p0])=I r):Ai (n+N) w (sh v w os) (restOf (body.drop i) wk cE p [x4 p0])=I r:=by
 have e:body.drop i=(body.drop i).take c++body.drop (i+c):=by rw[<- List.drop_drop,aE9]
 rw[e];exact piece_app (segRun_of (by rw[QO,Dq];exact h w os)) k
theorem aK8:∀(w:iS) (os:mI),topGo x3 pw w 11 (I (.ref 6)) 12 ⟨qP w.params,⟨[]⟩,Dt,Du,os⟩ (topStub pw)=I (sh v0 w os,⟨denote x3 cE,cE,p0,[x4 p0]⟩):=by rw[PySem.W.Fast.te15667345088766844465,PySem.W.Fast.te11892475500146522536,Dq];intro w os;kernel_rfl
theorem aK9:∀(w:iS) (os:mI),segRunT x3 pw w 11 (I (.ref 6)) 1 1 (Ah v0 w os) (blockOf body wk cE p0 [x4 p0])=I (.next,Ah v0 w os,cE,p0):=by rw[QO,Dq];intro w os;kernel_rfl
theorem aL0:body.drop 119=[]:=by kernel_rfl
theorem aL1:∀(w:iS) (os:mI),topRun x3 pw w 11 (I (.ref 6)) 2 (sh pR w os) (restOf [] wk cE ⟨833,0,863,101⟩ [x4 p0])=I (sh pR w os):=by rw[PySem.W.Fast.te14082659384304107361,Dq];intro w os;kernel_rfl
theorem aL2(w:iS)(os:mI):Ai 9188 w ⟨qP w.params,⟨[]⟩,Dt,Du,os⟩ (topStub pw)=I (sh pR w os):=by
 refine go_top (n:=12) (N:=1+9175) (aK8 w os) (piece_block (n:=1) (N:=9175) (segRun_of (aK9 w os)) ?_);have e:Ai 2 w (sh pR w os) (restOf (body.drop 119) wk cE ⟨833,0,863,101⟩ [x4 p0])=I (sh pR w os):=by rw[aL0];exact aL1 w os
 exact g5 pc0 (g5 pc1 (g5 pc2 (g5 pc3 (g5 pc4 (g5 pc5 (g5 pc6 (g5 pc7 (g5 pc8 (g5 pc9 (g5 aI7 (g5 aI8 (g5 aI9 (g5 aJ0 (g5 aJ1 (g5 aJ2 (g5 aJ3 (g5 aJ4 (g5 aJ5 (g5 aJ6 (g5 aJ7 (g5 aJ8 (g5 aJ9 (g5 aK0 (g5 aK1 (g5 aK2 (g5 aK3 (g5 aK4 (g5 aK5 (g5 aK6 (g5 aK7 (e)))))))))))))))))))))))))))))))
def q:Program:=view pw [118]
theorem aL3:opening pw=plainProg pw.main.scope.names:=by kernel_rfl
theorem aL4:∀s,fenceModules? pw s=I s:=by intro s;kernel_rfl
theorem aL5:∀w:iS,(fencedOpening x3 pw w 10000).map (λs=>(s.heap,s.gens,s.drawn,s.toks))=I (qP w.params,Array.mk [],Dt,Du):=boot_open aL3 (by decide) aL4
theorem aL6:∀w:iS,((qP w.params).isNs n7&&(Array.mk ([]:List GenState)).size==0,(qP w.params).objs.size,(qP w.params).nsMap n7 "__annotations__")=(ai,11,I (.ref 6)):=by intro w;kernel_rfl
def HL(P:gc):Heap:=⟨⟨wj P pR⟩,{}⟩
theorem aL7:∀P,absHeap (Ag 12 ((wj P pR).take 1051)) 1051 {}=HL P:=by intro P;kernel_rfl
theorem aL8(w:iS)(os:mI):Ai 9188 w ⟨qP w.params,⟨[]⟩,Dt,Du,os⟩ (topStub pw)=I ⟨HL w.params,⟨[]⟩,{},1839,os⟩:=by rw[aL2];show I (⟨absHeap (Ag 12 ((wj w.params pR).take 1051)) 1051 {},⟨[]⟩,{},1839,os⟩:bA)=_;rw[aL7]
theorem aL9:∀P,staticsOk (HY pw.main.body) (qP P) (HL P)=true:=by intro P;kernel_rfl
theorem aM0:∀P,namesBound pw (HL P)=true:=by intro P;kernel_rfl
theorem aM1:∀P,laidKept (qP P) (HL P)=true:=by intro P;kernel_rfl
def loose:List Str:=pw.boundNames.filter λn=>n !=(Dp "law")
theorem aM2:∀P os,openSeen q loose (HY pw.main.body) (λ_=>ai) ai ⟨HL P,⟨[]⟩,{},1839,os⟩=openGood q loose:=by rw[PySem.W.Fast.te4187177175401517315];intro P os;kernel_rfl
noncomputable abbrev mz:OpenLaw:=aX3
theorem ws0:mz.row.wellSaid=true:=by
 unfold OpenRow.wellSaid OpenRow.partSaid looksOpen
 repeat' (with_reducible refine Bool.and_eq_true_iff.mpr ⟨?_,?_⟩)
 all_goals decide+kernel
theorem ws1:mz.wellSaid=true:=by
 unfold OpenLaw.wellSaid
 repeat' (with_reducible refine Bool.and_eq_true_iff.mpr ⟨?_,?_⟩)
 exact ws0
 all_goals decide+kernel
end H
end
section
open PyProof.Rows PySem.Calls
namespace H
theorem aM3(w:iS):(λos=>((staticsOk (HY pw.main.body) (qP w.params) (HL w.params)&&namesBound pw (HL w.params)&&gensDone ⟨HL w.params,⟨[]⟩,{},1839,os⟩&&laidKept (qP w.params) (HL w.params)),openSeen q loose (HY pw.main.body) (λ_=>ai) ai ⟨HL w.params,⟨[]⟩,{},1839,os⟩,Q3 ⟨HL w.params,⟨[]⟩,{},1839,os⟩))=λ_=>(ai,openGood q loose,HL w.params):=by funext os;rw[aL9,aM0,aM1,aM2];rfl
theorem aM4:LeftO pw q loose (λ_=>ai) Q3 (λw=>HL w.params) 10000:=LeftO.of_pieces (H₀:=qP) (H₁:=HL) (gs₀:=⟨[]⟩) (gs₁:=⟨[]⟩) (d₀:=Dt) (d₁:={}) (k₀:=Du) (k₁:=1839) (m₀:=11) (ann:=I (.ref 6)) (M:=9188) aL5 aL6 aL8 rfl aM3
def pS:DefRec:=match nD pw [118]with
 |.FunctionDef n a b _ _ _ Y _ _ p=>⟨n,a,b,Y,p⟩
 |_=>⟨⟨⟨[]⟩⟩,jJ,[],jJ,⟨0,0,0,0⟩⟩
theorem aM5:defOf q mz.row.name=I (pS,[]):=by kernel_rfl
theorem aM6:mz.row.prog.theDef mz.row.name=I (pS.params,pS.body,pS.scope):=by kernel_rfl
theorem aM7:kwWritten? pS.params.kwonlyargs pS.params.kw_defaults=I []:=by kernel_rfl
theorem aM8:(chainsOk q&&opensWell mz.row.prog&&(frees mz.row.toRowW&&mz.row.within.isEmpty))=true:=by decide+kernel
theorem aM9:mz.row.prog.bare:=⟨rfl,rfl,rfl,rfl,rfl,by decide+kernel⟩
theorem aN0:mz.row.toRowW.promised:=⟨[.list [.int 3,.int 1]],by decide+kernel,by decide+kernel⟩
def HZ(w:iS)(h:gh):Prop:=∀a o,(HL w.params).get? a=I o->h.get? a=I o
theorem aN1(call:WalkO q loose (λ_ _=>True) HZ mz.row.toRowW pS [] λf vs=>l7 f vs):PySem.Challenge.rw_xm0381_01.Holds:=
 holds_law ws1 λb=>holds_open (r:=mz.row) (q:=q) (loose:=loose) (Xt:=λ_=>ai) (XP:=λ_ _=>True) (Yf:=Q3) (Ya:=λw=>HL w.params) (YP:=HZ) (d:=pS) (kwd:=[]) (N:=10000)
  aM4 (λw s e a o h=>by rw[show s.heap=HL w.params from e];exact h) (λw h c y k a o e=>k _ _ (y a o e)) (λ_ _=>trivial) (λ_ _ _ h _=>h) aM5 aM6 aM7 (λs _=>recFacts_of (by rfl)) rfl b aM8 aM9 aN0 call
noncomputable def j6:List Nat:=[606,614]
def get(P:gc)(a:Nat):Option Obj:=(HL P).get? a
def x6(P:gc):Kp:=λa=>if j6.contains a=ai then aa else get P a
def mA(P:gc):Kp:=λa=>if j6.contains a=ai then get P a else aa
def Aj:List Nat:=IR.BM.map (·.1)
noncomputable def aN3(a:Nat):Nat:=a- 1
def kA:List Nat:=Aj++Aj.map aN3++IR.jK.map (·.iq)
def x7(P:gc):Frag:=kA.filterMap λa=>(get P a).map λo=>(a,o)
def X(w:iS)(os:mI)(inj:∀a b,IR.aH a=IR.aH b->a=b):Cx:=⟨w,pw,x7 w.params,IR.aH,inj,IR.a8,Aj,x6 w.params,mA w.params,os,(HL w.params).nsMap n7,(HL w.params).nsMap q7,(HL w.params).nsMap AI,IR.qZ⟩
theorem Q4:∀P,((HL P).isNs n7&&(HL P).isNs q7&&(HL P).isNs AI)=true:=by intro P;kernel_rfl
theorem aN4:∀P,(HL P).nsMap AI "sys.recursionlimit"=none:=by intro P;kernel_rfl
theorem aN5:kA.all (λa=> !j6.contains a)=true:=by kernel_rfl
noncomputable def Q5(K:Frag)(C:Nat):Bool:=a6 (qa K (.ref C) "__getattribute__"=I (I (.builtin "object.__getattribute__")))&&a6 (qa K (.ref C) "__getattr__"=I aa)&&hasDictIn K C&&a6 (qa K (.ref C) "__setattr__"=I (I (.builtin "object.__setattr__")))&&plainOver K C
theorem aN6:∀P,Aj.all (Q5 (x7 P))=true:=by intro P;kernel_rfl
noncomputable def Dv:V->aw->Bool
 |.i i,.int j _=>a6 (i=j)
 |_,_=>ak
def Q6(K:Frag)(C:Nat)(e:Nat×Option V):Bool:=match qa K (.ref C) (IR.aH e.1)with
 |some a=>noGet K a&&a6 (takerIn K C (IR.aH e.1)=I aa)&& !copiedNames.contains (IR.aH e.1)&&(match e.2 with
  |none=>ai
  |some v=>match a with|some u=>Dv v u|none=>ak)
 |none=>ak
theorem aN7:∀P,IR.FN.all (λe=>e.2.all (Q6 (x7 P) e.1))=true:=by intro P;kernel_rfl
def aN8(K:Frag)(C:Nat)(e:Nat×Nat):Bool:=a6 (qa K (.ref C) (IR.aH e.1)=I (I (.ref e.2)))&&a6 (typeIn K (.ref e.2)=I (.type "function"))
theorem aN9:∀P,IR.FO.all (λe=>e.2.all (aN8 (x7 P) e.1))=true:=by intro P;kernel_rfl
def Q7(K:Frag)(e:Nat×Nat):Bool:=wO K (.ref e.1)&&makesIn K e.1&&a6 (qa K (.ref e.1) "__init__"=I (I (.ref e.2)))&&a6 (typeIn K (.ref e.2)=I (.type "function"))&&Aj.contains e.1
theorem aO0:∀P,IR.BM.all (Q7 (x7 P))=true:=by intro P;kernel_rfl
def pT(P:gc)(a:Nat):FuncData:=match get P a with
 |some ⟨_,_,.func f,_⟩=>f
 |_=>jJ
def sy(e:IR.Fn):Stmt:=nD pw e.BL
theorem aO1:∀P,IR.jK.map (λe=>get P e.iq)=IR.jK.map (λe=>I (ob (.type "function") (.func (pT P e.iq)))):=by intro P;kernel_rfl
theorem aO2:∀P,IR.jK.map (λe=>((pT P e.iq).scope,(pT P e.iq).body,(pT P e.iq).globals,(pT P e.iq).builtins,(pT P e.iq).closure,(pT P e.iq).code))=IR.jK.map (λe=>(nE (sy e),.stmts (sT (sy e)),n7,q7,[],.ref (e.iq- 1))):=by intro P;kernel_rfl
def Dw(P:gc)(a:Nat):Array Value:=match get P a with
 |some ⟨_,_,.fields vs,_⟩=>vs
 |_=>⟨[]⟩
noncomputable def aO3(v:Option aw):Nat:=match v with
 |some (.str _ t)=>t
 |_=>0
theorem aO4:∀P,IR.jK.map (λe=>get P (e.iq- 1))=IR.jK.map (λe=>I (ob (.type "code") (.fields (Dw P (e.iq- 1))))):=by intro P;kernel_rfl
theorem aO5:∀P,IR.jK.map (λe=>(Dw P (e.iq- 1))[1]?)=IR.jK.map (λe=>I (.str (pT P e.iq).qualname (aO3 (Dw P (e.iq- 1))[1]?))):=by intro P;kernel_rfl
theorem aO6:IR.jK.map (λe=>((nE (sy e)).kind,(nE (sy e)).isCoroutine,(nE (sy e)).isGenerator))=IR.jK.map (λe=>(.function,ak,ak)):=by kernel_rfl
noncomputable def Q8(Y:bN)(p:bg):Bool:=match Y.names.lookup p with
 |some .local=>ai
 |some .cell=>ai
 |_=>ak
theorem aO7:IR.jK.all (λe=>e.ps.all (Q8 (nE (sy e))))=true:=by kernel_rfl
theorem aO8:∀P,IR.jK.all (λe=>wO (x7 P) (.ref e.iq)&& !j6.contains e.iq&& !j6.contains (e.iq- 1))=true:=by intro P;kernel_rfl
noncomputable def kD:List Nat:=[174,403,615,879]
def KD(P:gc):Frag:=kD.filterMap λa=>(get P a).map λo=>(a,o)
def H0(P:gc)(e:IR.Fn):List Value:=match(pT P e.iq).defaults with
 |.ref T=>(match get P T with
  |some ⟨_,_,.seq xs _,_⟩=>xs.toList.drop (xs.size- e.il.length)
  |_=>[])
 |_=>[]
noncomputable def x8(g:Nat->aw)(n:Nat):List Value:=(rg n).map g
theorem aO9:∀P S g,IR.jK.map (λe=>peek (KD P) S (bindArgs (pT P e.iq) ⟨x8 g (e.ps.length- e.il.length),[]⟩))=IR.jK.map (λe=>I (e.ps.zip (x8 g (e.ps.length- e.il.length)++H0 P e))):=by intro P S g;kernel_rfl
def Dx(e:IR.Fn):Bool:= !((nE (sy e)).names.all λx=>x.2 !=.cell)
theorem aP0:∀P g,(IR.jK.filter Dx).map (λe=>bindArgs (pT P e.iq) ⟨x8 g e.ps.length,[]⟩)=(IR.jK.filter Dx).map (λe=>eJ (e.ps.zip (x8 g e.ps.length))):=by intro P g;kernel_rfl
def H2(P:gc)(xs:List V)(a:Nat):Bool:=j6.contains a&&match get P a with
 |some ⟨c,aa,.seq ⟨l⟩ 0,⟨[]⟩⟩=>a6 (c=.type "tuple")&&a6 (xs.length=l.length)&&a6 (xs.length<100)&&(xs.zip l).all λp=>Dv p.1 p.2
 |_=>ak
def wm(P:gc):V->aw->Bool
 |.i i,u=>Dv (.i i) u
 |.n,u=>a6 (u=.none)
 |.bC b,u=>a6 (u=tN b)
 |.L v,u=>a6 (u=v)&&AH u
 |.aV xs,u=>match u with
  |.ref a=>H2 P xs a
  |_=>ak
 |_,_=>ak
def Q9(P:gc)(vs:List V)(ao:List aw):Bool:=a6 (vs.length=ao.length)&&(vs.zip ao).all λp=>wm P p.1 p.2
def Ra(P:gc)(e:bg×V):Bool:=match(HL P).nsMap n7 e.1 with
 |some u=>wm P e.2 u
 |none=>match(HL P).nsMap q7 e.1 with
  |some u=>wm P e.2 u
  |none=>ak
theorem aP1:∀P,IR.qZ.all (Ra P)=true:=by intro P;kernel_rfl
theorem aP2:∀P,IR.jK.all (λe=>Q9 P e.il (H0 P e))=true:=by intro P;kernel_rfl
theorem aP3:∀P,(wj P pR).all (λo=>a6 (o.cls≠ .type "list"))=true:=by intro P;kernel_rfl
noncomputable def aP4(s:bg):Bool:=match s.cps.toList with
 |[c]=>a6 (c<2000000)
 |_=>ai
theorem aP5:(BO IR.names&&IR.names.all aP4)=true:=by kernel_rfl
theorem aP6:∀P,j6.all (λa=>(get P a).isSome)=true:=by intro P;kernel_rfl
theorem inj:∀a b,IR.aH a=IR.aH b->a=b:=by
 obtain⟨m,r⟩:=Bool.and_eq_true_iff.mp aP5;have aF:=Na m;have f:∀{s n},s∈IR.names->s=⟨#[2000000+n]⟩->False:=λ{s n} u e=>by
  have:=List.all_eq_true.mp r s u;rw[e]at this;have:=of_decide_eq_true (p:=2000000+n<2000000) this;exact(O [] [_] (.i (.U (.p 2000000 .x) 2000000) .o)) this
 intro a b e;unfold IR.aH at e;cases d:IR.names[a]? with
 |some s=>
  rw[d]at e;cases c:IR.names[b]? with
  |some t=>
   rw[c]at e;have e:s=t:=e;subst e;obtain⟨g,h⟩:=List.getElem?_eq_some_iff.mp d;obtain⟨j,k⟩:=List.getElem?_eq_some_iff.mp c;have l:=List.pairwise_iff_getElem.mp aF;rcases Wj a b with q|q|q
   .exact absurd (h.trans k.symm) (l a b g j q)
   .exact q
   .exact absurd (k.trans h.symm) (l b a j g q)
  |none=>rw[c]at e;exact(f (fJ d) e).elim
 |none=>
  rw[d]at e;cases c:IR.names[b]? with
  |some t=>rw[c]at e;exact(f (fJ c) e.symm).elim
  |none=>rw[c]at e;have:=congrArg (λs:bg=>s.cps.toList) e;have:=(jV this).1;exact(O [] [_,_] (.i (.E (.p 2000000 .x) (.p 2000000 .y)) (.E .x .y))) this
abbrev XX(w:iS)(os:mI):Cx:=X w os inj
theorem Dy:∀{l:List Nat},(l.filterMap λa=>(get P a).map λo=>(a,o)).lookup a=I o->a∈l/\get P a=I o
 |b::l,h=>by
  rw[AR]at h;cases e:get P b with
  |none=>rw[e]at h;obtain⟨h1,h2⟩:=Dy h;exact⟨.tail _ h1,h2⟩
  |some ob=>
   rw[e]at h;by_cases q:a=b
   .subst q;have h:List.lookup a ((a,ob)::_)=I o:=h;rw[rB,beq_self_eq_true]at h;cases h;exact⟨.head _,e⟩
   .have h:List.lookup a ((b,ob)::_)=I o:=h;rw[rB,show(a==b)=ak from beq_eq_false_iff_ne.mpr q]at h;obtain⟨h1,h2⟩:=Dy h;exact⟨.tail _ h1,h2⟩
theorem Ak(h:j6.contains a=ak)(e:get P a=I o):x6 P a=I o:=by unfold x6;rw[h];exact e
theorem Dz(h:(!j6.contains a)=ai):j6.contains a=false:=by simpa using h
section
variable{w:iS}{os:mI}
theorem aP7:xs.length=l.length->((xs.zip l).all λp=>Dv p.1 p.2)=ai->bE (XX w os) F xs l:=by
 induction xs generalizing l with
 |nil=>intro h _;cases l with
  |nil=>rfl
  |cons=>cases h
 |cons x xs c=>intro b d;cases l with
  |nil=>cases b
  |cons u l=>
   obtain⟨a,e⟩:=Bool.and_eq_true_iff.mp d;refine⟨u,l,rfl,?_,c (yH b) e⟩;cases x with
   |i i=>cases u with
    |int j t=>cases of_decide_eq_true a;exact⟨t,rfl⟩
    |_=>cases a
   |_=>cases a
set_option tactic.hygienic true in
theorem aP8(h:H2 w.params xs a=ai):bL (XX w os) (mA w.params) (.aV xs) (.ref a):=by
 unfold H2 at h;obtain⟨g,b⟩:=Bool.and_eq_true_iff.mp h;cases e:get w.params a with
 |none=>rw[e]at b;cases b
 |some o=>
  rw[e]at b;obtain⟨i,d,c,f⟩:=o;cases d with|some=>cases b|none=>?_
  cases c with|seq xs m=>?_|_=>cases b
  obtain⟨l⟩:=xs;cases m with|succ=>cases b|zero=>?_
  obtain⟨f⟩:=f;cases f with|cons=>cases b|nil=>?_
  .obtain⟨b,j⟩:=Bool.and_eq_true_iff.mp b;obtain⟨b,k⟩:=Bool.and_eq_true_iff.mp b;obtain⟨n,p⟩:=Bool.and_eq_true_iff.mp b;have q:i=.type "tuple":=of_decide_eq_true n;subst q;refine⟨a,l,0,rfl,?_,aP7 (of_decide_eq_true p) j,hW (A9 (of_decide_eq_true k)) (by decide),rfl⟩;show mA w.params a=_;unfold mA;rw[g,if_pos rfl,e]
theorem DA(h:wm w.params v u=ai):bL (XX w os) (mA w.params) v u:=by
 cases v with
 |i i=>cases u with
  |int j t=>cases of_decide_eq_true (p:=i=j) h;exact⟨t,rfl⟩
  |_=>cases h
 |n=>exact of_decide_eq_true (p:=u=.none) h
 |bC b=>exact of_decide_eq_true (p:=u=tN b) h
 |L v=>obtain⟨h1,h2⟩:=Bool.and_eq_true_iff.mp (show(a6 (u=v)&&AH u)=ai from h);exact⟨of_decide_eq_true h1,h2⟩
 |aV xs=>cases u with
  |ref a=>exact aP8 h
  |_=>cases h
 |_=>cases h
theorem Rb:∀{vs:List V} {ao:List aw},vs.length=ao.length->((vs.zip ao).all λp=>wm w.params p.1 p.2)=ai->bE (XX w os) (mA w.params) vs ao
 |[],[],_,_=>rfl
 |v::vs,u::ao,h1,h2=>by
  obtain⟨h3,h4⟩:=Bool.and_eq_true_iff.mp (show(wm w.params v u&&(vs.zip ao).all λp=>wm w.params p.1 p.2)=ai from h2);exact⟨u,ao,rfl,DA h3,Rb (yH h1) h4⟩
theorem aQ0(h:Q9 w.params vs ao=ai):bE (XX w os) (mA w.params) vs ao:=by obtain⟨a,b⟩:=Bool.and_eq_true_iff.mp h;exact Rb (of_decide_eq_true a) b
theorem Am:∀{l:List (Nat×aK)},IR.qo l n=I a->(n,a)∈l
 |(m,b)::l,h=>by
  unfold IR.qo at h;cases e:ie m n with
  |true=>rw[e]at h;cases h;cases yG e;exact .head _
  |false=>rw[e]at h;exact .tail _ (Am h)
theorem aQ1(h:a∈kA):j6.contains a=false:=Dz (List.all_eq_true.mp aN5 a h)
theorem H3(h:j6.contains a=ak)(e:(HL w.params).isNs a=ai):sg (x6 w.params) a ((HL w.params).nsMap a):=by obtain⟨o,b,c,d,f⟩:=aQ2 e;exact⟨o,b,c,Ak h d,f⟩
set_option tactic.hygienic true in
theorem aQ3:(XX w os).OK:=by
 obtain⟨j,q⟩:=Bool.and_eq_true_iff.mp (Q4 w.params);obtain⟨j,r⟩:=Bool.and_eq_true_iff.mp j;refine⟨λa o e=>?_,H3 (by rfl) j,H3 (by rfl) r,H3 (by rfl) q,aN4 w.params,λC s=>?_,λC n c e=>?_,λC n f e=>?_,λx v t=>?_⟩
 .obtain⟨g,h⟩:=Dy e;exact Ak (aQ1 g) h
 .have:=List.all_eq_true.mp (aN6 w.params) C s;unfold Q5 at this;simp only[lR,decide_eq_true_eq]at this;obtain⟨⟨⟨⟨a,b⟩,c⟩,d⟩,e⟩:=this;exact⟨a,b,c,d,e⟩
 .obtain⟨l,k,m⟩:=Option.bind_eq_some_iff.mp (show(IR.qo IR.FN C).bind (λl=>IR.qo l n)=I c from e);have:=List.all_eq_true.mp (List.all_eq_true.mp (aN7 w.params) (C,l) (Am k)) (n,c) (Am m);unfold Q6 at this;split at this
  .rename_i a y;simp only[lR,decide_eq_true_eq,yK]at this;obtain⟨⟨⟨g,h⟩,z⟩,p⟩:=this;refine⟨a,y,g,h,z,λv A=>?_⟩;subst A;cases a with
   |none=>cases p
   |some u=>
    refine⟨u,rfl,?_⟩;cases v with
    |i i=>exact DA (w:=w) (os:=os) (v:=.i i) p
    |_=>cases p
  .cases this
 .obtain⟨l,k,m⟩:=Option.bind_eq_some_iff.mp (show(IR.qo IR.FO C).bind (λl=>IR.qo l n)=I f from e);have:=List.all_eq_true.mp (List.all_eq_true.mp (aN9 w.params) (C,l) (Am k)) (n,f) (Am m);obtain⟨g,h⟩:=Bool.and_eq_true_iff.mp this;exact⟨of_decide_eq_true g,of_decide_eq_true h⟩
 .have:=List.all_eq_true.mp (aP1 w.params) (x,v) t;unfold Ra at this;dsimp only at this;cases g:(HL w.params).nsMap n7 x with
  |some u=>rw[g]at this;exact⟨u,DA this,.inl g⟩
  |none=>
   rw[g]at this;dsimp only at this;cases h:(HL w.params).nsMap q7 x with
   |some u=>rw[h]at this;exact⟨u,DA this,.inr ⟨g,h⟩⟩
   |none=>rw[h]at this;cases this
end
theorem wq{aK de:Type}{f g:aK->de}{l:List aK}(h:l.map f=l.map g){a:aK}(ha:a∈l):f a=g a:=List.map_inj_left.mp h a ha
theorem Rc(ws:List aw):x8 (λi=>ws[i]?.getD .none) ws.length=ws:=by unfold x8;refine Ul (by simp) λi a b=>?_;simp at a;simp[a]
section
variable{w:iS}{os:mI}
set_option tactic.hygienic true in
theorem aQ4{e:IR.Fn}(ba:e∈IR.jK):Er (XX w os) e.iq e.ps e.il (nE (sy e)) (sT (sy e)):=by
 have hk:=List.all_eq_true.mp (aO8 w.params) e ba;rw[lR,lR]at hk;obtain⟨⟨k1,k2⟩,k3⟩:=hk;have d:=wq (aO2 w.params) ba;simp only[Prod.mk.injEq]at d;obtain⟨d1,d2,d3,d4,d5,aQ5⟩:=d;have kd:=wq aO6 ba;simp only[Prod.mk.injEq]at kd;refine⟨k1,⟨_,pT w.params e.iq,e.iq- 1,_,Dw w.params (e.iq- 1),_,H0 w.params e,Ak (Dz k2) (wq (aO1 w.params) ba),rfl,d1,d2,d3,d4,d5,aQ5,Ak (Dz k3) (wq (aO4 w.params) ba),rfl,wq (aO5 w.params) ba,aQ0 (List.all_eq_true.mp (aP2 w.params) e ba),?_,λs ws hb _ hl=>?_⟩,kd.1,kd.2.1,kd.2.2,λp hp=>?_⟩
 .by_cases hc:((nE (sy e)).names.all λx=>x.2 !=.cell)=ai
  .exact .inl hc
  .refine .inr λws hl=>?_;have ax:e∈IR.jK.filter Dx:=List.mem_filter.mpr ⟨ba,by unfold Dx;simpa using hc⟩;have:=wq (aP0 w.params λi=>ws[i]?.getD .none) ax;rw[<- hl,Rc]at this;exact this
 .have n9:e.ps.length- e.il.length=ws.length:=by exact(O [] [_,_,_] (.i (.E (.p .u .y) .x) (.E (.s .x .y) .u))) hl
  refine kp_binds (K:=KD w.params) (λa o ho=>?_) λS=>?_
  .obtain⟨h1,h2⟩:=Dy ho;have:kD.all (λa=> !j6.contains a)=true:=by rfl
   exact hb _ _ (Ak (Dz (List.all_eq_true.mp this a h1)) h2)
  .have:=wq (aO9 w.params S λi=>ws[i]?.getD .none) ba;rw[n9,Rc]at this;exact this
 .have:=List.all_eq_true.mp (List.all_eq_true.mp aO7 e ba) p hp;unfold Q8 at this;split at this
  .rename_i h;exact .inl h
  .rename_i h;exact .inr h
  .cases this
theorem sU:Top (XX w os) where
 ok:=aQ3
 ck:=rfl
 a8:=rfl
 kX e ba:=aQ4 ba
 cls p hp:=by have:=List.all_eq_true.mp (aO0 w.params) p hp;unfold Q7 at this;simp only[lR,decide_eq_true_eq]at this;obtain⟨⟨⟨⟨a,b⟩,c⟩,d⟩,e⟩:=this;exact⟨a,b,c,d,List.contains_iff_mem.mp e⟩
end
theorem Rf:∀{xs:List WData},Rg [] xs .int=ai->∃is:List Int,xs=is.map .int
 |[],_=>⟨[],rfl⟩
 |x::xs,h=>by
  obtain⟨h1,h2⟩:=Bool.and_eq_true_iff.mp (show(Rh [] x .int&&Rg [] xs .int)=ai from h);obtain⟨is,rfl⟩:=Rf h2;cases x with
  |int i=>exact⟨i::is,rfl⟩
  |_=>cases h1
theorem aQ6(h:mz.row.toRowW.claim.pre args=ai):∃is:List Int,args=[.list (is.map .int)]/\is.length<=63:=by
 obtain⟨a,b⟩:=Bool.and_eq_true_iff.mp (show(WShape.hasAll [] args [.list .int]&&Ri [] mz.row.pre {args:=args})=ai from h)
 match args,a with
 |[x],a=>
  obtain⟨a,_⟩:=Bool.and_eq_true_iff.mp (show(Rh [] x (.list .int)&&ai)=ai from a);cases x with
  |list xs=>
   have d:(Rg [] xs .int||false)=true:=a;rw[Bool.or_false]at d;obtain⟨is,rfl⟩:=Rf d;refine⟨is,rfl,?_⟩;have e:Ri [] mz.row.pre {args:=[.list (is.map .int)]}=(!(a6 ((63:Int)<((is.map Rj).length:Nat)))&&ai):=by unfold Ri;show(match(match(I (Rk (!(a6 ((63:Int)<((is.map Rj).length:Nat))))):Option WData)with|some (.bool ak)=>I (Rk ak)|some (.bool ai)=>I (Rk ai)|_=>aa)with|some (.bool ai)=>ai|_=>ak)=_;cases a6 ((63:Int)<((is.map Rj).length:Nat))<;>rfl
   rw[e,I3,yK,decide_eq_false_iff_not,cm]at b;exact(O [] [_] (.i (.n (.t 63 (.c .x))) (.ag .x 63))) b
  |_=>cases a
 |x::y::r,a=>obtain⟨_,a⟩:=Bool.and_eq_true_iff.mp (show(Rh [] x (.list .int)&&ak)=ai from a);cases a
theorem aQ7:∀P,(HL P).nsMap n7 pS.name=I (.ref 1050):=by intro P;kernel_rfl
theorem Rl{P:gc}{h:gh}{w:iS}{os:mI}{F:Kp}:∀{is:List Int} {vs:List aw},WellAll P h vs (is.map .int)->bE (XX w os) F (is.map .i) vs
 |[],_,.nil=>rfl
 |i::is,_,.cons (v:=v) (vs:=vs) h1 h2=>by
  refine⟨v,vs,rfl,?_,Rl h2⟩;cases h1;exact⟨_,rfl⟩
set_option tactic.hygienic true in
theorem aQ8:WalkO q loose (λ_ _=>True) HZ mz.row.toRowW pS [] λf vs=>l7 f vs:=by
 intro w V c mg mb W n y o Cr UY doc dV X ho aF wW hD z Y args Z as A aX8 aX9 zL aY0;obtain⟨is,rfl,M⟩:=aQ6 A;obtain⟨B,n3⟩:=Bool.and_eq_true_iff.mp (Q4 w.params);obtain⟨B,n2⟩:=Bool.and_eq_true_iff.mp B;obtain⟨o3,es,ep,kc,jE,_,g4⟩:=aQ2 B;obtain⟨aY1,sI,pC,k1,N,_,k4⟩:=W.T.g;have O:=n _ _ kc;rw[k1]at O;cases O;rw[jE]at N;cases N;have D:y=1050:=by have:=(k4 pS.name).symm.trans ((g4 pS.name).trans (aQ7 w.params));rw[z]at this;cases this;rfl
 subst D;cases zL with
 |@cons v vs d il t j=>
 cases j;cases t with
 |@list l E xs H J=>
 have R:∀a ob,get w.params a=I ob->a≠l:=λa ob e q=>by
  subst q;have x:=n _ _ e;rw[H]at x;cases x;have ax:(⟨.type "list",aa,.seq E.toArray 0,#[]⟩:da)∈wj w.params pR:=by
   unfold get Heap.get? HL at e;dsimp only at e;split at e
   .cases e
   .rename_i K;have:=fJ (show(wj w.params pR)[a]?=_ from by rw[<- vf];exact e);exact this
  have:=List.all_eq_true.mp (aP3 w.params) _ ax;exact absurd rfl (of_decide_eq_true this)
 let F:Kp:=λb=>if b=l then I ⟨.type "list",aa,.seq E.toArray 0,#[]⟩else mA w.params b
 let P:Kp:=λb=>if b=l then aa else if j6.contains b=ai then aa else c.heap.get? b
 have S:∀b ob,mA w.params b=I ob->j6.contains b=ai/\get w.params b=I ob:=λb ob e=>by
  unfold mA at e;split at e
  .rename_i h;exact⟨h,e⟩
  .cases e
 have L:∀b ob,x6 w.params b=I ob->¬j6.contains b=ai/\get w.params b=I ob:=λb ob e=>by
  unfold x6 at e;split at e
  .cases e
  .rename_i h;exact⟨h,e⟩
 have lb:(XX w c.os).eZ.le P:=λb ob e=>by
  obtain⟨t,j⟩:=L b ob e;show(if b=l then aa else if j6.contains b=ai then aa else c.heap.get? b)=_;rw[if_neg (R b ob j),if_neg t];exact n _ _ j
 have tU:(XX w c.os).dC.le F:=λb ob e=>by
  obtain⟨t,j⟩:=S b ob e;show(if b=l then _ else mA w.params b)=_;rw[if_neg (R b ob j)];exact e
 have hr:Rel (XX w c.os) P F (λ_=>aa) c:=by
  refine⟨λb ob e=>?_,λb ob e=>?_,λb ob e=>(by cases e),λb m=>⟨?_,rfl⟩,λ_ _=>rfl,rfl,rfl,Y⟩
  .have e:(if b=l then aa else if j6.contains b=ai then aa else c.heap.get? b)=I ob:=e;split at e
   .cases e
   .split at e
    .cases e
    .exact e
  .have e:(if b=l then _ else mA w.params b)=I ob:=e;split at e
   .rename_i q;rw[q];exact H.trans e
   .exact n _ _ (S b ob e).2
  .have m:(if b=l then aa else if j6.contains b=ai then aa else c.heap.get? b)≠none:=m;show(if b=l then _ else mA w.params b)=aa;split at m
   .exact absurd rfl m
   .rename_i q;rw[if_neg q];split at m
    .exact absurd rfl m
    .rename_i h;unfold mA;rw[if_neg h]
 have C:=as2 (k:=0) (G:=λ_=>aa) (Q:=λv _=>v=.b ai) (sU (w:=w) (os:=c.os)) aI0 M rfl;have rv:bE (XX w c.os) F [.l (is.map .i)] [.ref l]:=by refine⟨.ref l,[],rfl,⟨l,E,0,rfl,if_pos rfl,Rl J,?_⟩,rfl⟩;rw[cm];exact hW M (by decide)
 refine wpAny_call (yI (C.DV P F c callerA (.ref 1050) [.ref l] lb tU (by refine⟨rfl,?_,?_⟩<;>decide) hr ⟨rfl,rfl⟩ rv) λr aD af=>?_);obtain⟨u,v,aX,aS,rfl,U,s,r2,rfl⟩:=af;cases r2;refine⟨.inl ⟨.bool ai,.bool ai,[],rfl,λ_=>rfl,.bool ai,?_,λ_=>⟨.nil,λ_ h=>by cases h⟩⟩,.of_keep λb ob e=>?_,s.os,.of_eq s.gens⟩
 .kernel_rfl
 .by_cases q:b=l
  .subst q;rw[H]at e;cases e;exact s.f _ _ (U _ _ (if_pos rfl))
  .by_cases h:j6.contains b=ai
   .obtain⟨aY2,K⟩:=Option.isSome_iff_exists.mp (List.all_eq_true.mp (aP6 w.params) b (List.contains_iff_mem.mp h));have x:=n _ _ K;rw[x]at e;cases e;refine s.f _ _ (U _ _ ?_);show(if b=l then _ else mA w.params b)=_;rw[if_neg q];unfold mA;rw[if_pos h];exact K
   .refine s.p _ _ ?_;show(if b=l then aa else if j6.contains b=ai then aa else c.heap.get? b)=_;rw[if_neg q,if_neg h];exact e
theorem holds:PySem.Challenge.rw_xm0381_01.Holds:=aN1 aQ8
end H
end
end Mine.Tactic
end
theorem PySem.Challenge.cw_xm0381_01_holds : PySem.Challenge.rw_xm0381_01.Holds :=
  Mine.Tactic.H.holds
