import PyProof.Rows.All
import KE.KTab
import KE.KItem
import KE.KRevIter
import KE.KSuper
import KE.KRevSl
import KE.KDictSum
import KE.KSortedM
import KE.KDictOf
import KE.KPar
import PySem.Challenge.RW_nn0431_01
set_option maxHeartbeats 0
set_option maxRecDepth 1000000
set_option linter.all false
set_option tactic.hygienic false
set_option genSizeOf false
set_option genInjectivity false
set_option bootstrap.genMatcherCode false
set_option Elab.async false
open And renaming intro->br
open Array renaming toList->cP
open Bool renaming and_eq_true_iff->dn,noConfusion->bR,or_true->zZ,or_false->Pq,or_eq_true_iff->kR,and_eq_true->vu,false_ne_true->hu,false_and->Pl,eq_iff_iff->qH,and_true->R5,and_false->qt,or_eq_true->ON,or_eq_false_iff->Wy,true->Q,false->u
open Char renaming toNat_inj->H!,toNat->C2
open Classical renaming propDecidable->oi,choose->OE,choose_spec->NS,byContradiction->Cg
open Eq renaming trans->af,symm->a4
open Exists renaming elim->ah,intro->cL
open False renaming elim->b6
open Iff renaming mpr->ak,trans->jG
open Int renaming sub_sub->D8,le_trans->nQ,sub_zero->zB,ofNat_le->jj,not_lt->hB,toNat->cM,natAbs->qP,not_le->x8,natCast_nonneg->cp,ofNat_sub->Hg,max_eq_left->Sq,add_comm->DH,sub_nonneg_of_le->LK,zero_add->LD,ofNat_lt->hl,lt_of_le_of_lt->LU,le_of_eq->Pf,lt_trans->yG,max_comm->XD,zero_sub->GN,toNat_of_nonneg->y8,le_of_lt->nU,ne_of_gt->KB,toNat_natCast->AG,toNat_sub->Tg
open Int.ofNat renaming inj->eG
open Lean.JsonRpc renaming ErrorCode->MG
open Lean.JsonRpc.ErrorCode renaming workerCrashed->kW,parseError->Go,invalidRequest->Fq,requestCancelled->z1,contentModified->DT,methodNotFound->qm,rpcNeedsReconnect->me,unknownErrorCode->pz,workerExited->AX,internalError->wc,invalidParams->xi,serverNotInitialized->BY
open List renaming not_mem_nil->Qc,length->U,getElem?_eq_some_iff->ka,mem_singleton->qp,mem_append->oI,mem_cons->rj,map->R,mem_map->jO,all->cS,all_eq_true->gM,eq_nil_of_length_eq_zero->It,take->aF,isEmpty->uO,replicate->dM,reverse->f3,isPrefixOf->Ew,getLast?->cG,dropLast->kx,set->c2,range->e4,drop->cq,getLast?_eq_getElem?->x6,head?_drop->Dc,drop_drop->B1,length_cons->hS,getElem?_eq_getElem->bK,getElem?_eq_none->iB,getElem?_map->cg,length_range->e9,length_append->a3,contains->b7,length_map->bC,map_append->dv,Nodup->bw,filter->pY,append_nil->dB,getElem?_eq_none_iff->tK,getElem?_range->xd,drop_eq_getElem_cons->Na,mem_of_getElem?->aP,drop_eq_nil_of_le->B3,mem_cons_self->b8,mem_cons_of_mem->cz,length_set->ni,map_reverse->B8,length_replicate->ir,mem_reverse->vZ,contains_cons->BH,contains_iff_mem->gG,mem_append_right->fx,mem_append_left->gE,length_take->dU,append_assoc->dy,Pairwise->mY,pairwise_cons->rY,map_map->jD,mem_map_of_mem->hY,rec->jb,mem_flatMap->y2,head?->lH,take_of_length_le->A8,length_drop->wO,reverse_cons->FO,filterMap->eI,length_filterMap_le->AQ,length_dropLast->T8,dropLast_eq_take->Rz,length_reverse->uw,getElem?_zipIdx->JC,length_zipIdx->MY,find?->Bq,filterMap_cons->xW,cons_eq_cons->Cq,pairwise_singleton->Bb,length_nil->Ll,drop_take->x_,nodup_cons->jc,map_cons->ud,length_eq_zero_iff->R2,toArray->gU
open List.Pairwise renaming nil->h9
open List.Perm renaming nodup_iff->uZ
open List.cons renaming inj->hp
open Nat renaming noConfusion->wu,le_zero->vW,le_of_succ_le_succ->Im,le_trans->ae,add_le_add_left->d6,sub_le_iff_le_add->OR,zero_lt_succ->I!,add_assoc->cx,sub_le_iff_le_add'->Ņ,le_refl->bb,le_of_lt_succ->lD,ble->jB,le_of_ble_eq_true->ht,beq->aE,eq_of_beq_eq_true->d9,add_comm->eU,add_mul_mod_self_right->YK,mod_eq_of_lt->UA,lt_of_le_of_lt->cF,zero_le->cQ,add_right_cancel->G2,succ_pos->kv,add_right_comm->jf,zero_add->eJ,le_antisymm->hL,le_of_not_lt->j3,lt_trans->fe,succ_le_succ->b3,lt_of_lt_of_le->cc,lt_succ_self->g9,le_add_right->dO,le_succ_of_le->hH,le_of_eq->c6,shiftRight_eq_div_pow->Zk,lt_irrefl->kq,not_lt_zero->fC,lt_of_succ_lt_succ->zF,le_of_lt->bU,blt->dI,ble_eq_true_of_le->xD,succ_lt_succ->xn,not_lt->fU,lt_succ_of_lt->rM,min_le_right->oZ,lt_add_of_pos_right->FJ,beq_refl->fK,min_le_left->m4,ne_of_lt->fH,lt_succ_of_le->ig,lt_or_ge->h0,succ_ne_zero->IT,add_le_add_right->fY,min_eq_right->Iz,min_eq_left->gq,le_add_left->lB,sub_le->lT,le_succ->e7,ne_of_beq_eq_false->C3,le_total->Wj,succ_ne_self->Au,succ_add->V0,lt_of_succ_lt->DL
open Nat.succ renaming inj->f7
open Ne renaming symm->l2
open Option renaming map->b4,map_eq_some_iff->oW,bind->ez,isSome->d7,getD->dN,isSome_iff_exists->vx,bind_eq_some_iff->ib,some->J,none->A
open Option.some renaming inj->aC
open Or renaming elim->aO,inr->aw,inl->aL,resolve_left->CC
open Prod renaming fst->Rk,snd->gr,ext->p9
open Prod.mk renaming inj->rG
open PySem renaming CmpOp->yS,PyData->Hn
open PySem.CmpOp renaming Eq->fI,In->uq,Gt->j1,Lt->fD,NotEq->g0,GtE->uN,IsNot->lg,Is->ry,NotIn->xS,LtE->HJ
open PySem.Operator renaming rec->iv
open PySem.PyData renaming eqv->sj,eqvAll->OI,canLay0->Cu,canLayAll0->Nj,depthAll->Ft,list->ZL
open PySem.Sqlite renaming Aff->rA
open PySem.Sqlite.Aff renaming integer->il,text->j8,real->pI,blob->jM,numeric->pG
open PySem.Str renaming ofString->CB,ofString_eq_toList->Hv
open String renaming length->ml,ofList->qa,toList->h8,toList_append->O7
open _root_ renaming List->aa,absurd->ay,Option->bf,Nat->O,congrArg->aq,Int->au,True->bh,trivial->a0,Bool->ba,String->bo,cond->aD,False->bW,rfl->Y,congrFun->p2,if_pos->aJ,if_neg->aS,of_decide_eq_true->ao,Unit->j4,decide_eq_true->eZ,decide_eq_false->gh,beq_self_eq_true->jL,beq_iff_eq->qJ,decide_eq_true_iff->mF
noncomputable section
namespace Zq
section
open PySem PySem.W PyProof.Rows
section
open PySem.W.Fast PySem.Challenge
def sd2:tw8326940854005059898 {strict:=Q,foot:=J<|tw797321630700447069 rw_nn0431_01,writes:=rw_nn0431_01.writes,may:=tw9572597257264208301 rw_nn0431_01} rw_nn0431_01.footing=true:=by kernel_rfl
def sd5:tw12908688711261696721 rw_nn0431_01.prog=true:=by unfold tw12908688711261696721;refine dn.mpr ⟨dn.mpr ⟨?_,?_⟩,?_⟩<;>as_aux_lemma=>kernel_rfl
def sd3:tw17960256430627541270 (tw2368527892694137696 rw_nn0431_01)=true:=by
 unfold tw17960256430627541270 tw2436336058641802641;rw [show tw12908688711261696721 (tw2368527892694137696 rw_nn0431_01).prog=Q from sd5]
 kernel_rfl
def sd4:tw16286561074155671207 rw_nn0431_01=true:=by kernel_rfl
def ű:rw_nn0431_01.wellSaid=true:=by
 rw [te9446332074065402090];unfold tw9446332074065402090;rw [sd2,sd3,sd4]
 kernel_rfl
end
end
section
@[elab_as_elim] theorem W{c:Sort d}{a b}{M:c->Prop}(e:a=b)(p:M b):M a:=e▸p
@[elab_as_elim] theorem ax{c:Sort d}{a b}{M:c->Prop}(e:b=a)(p:M b):M a:=e▸p
def aI{a:Type c}{x:a}{b:Prop}(h:A=J x):b:=nomatch h
def iG{a:Type c}{x:a}{b:Prop}(h:J x=A):b:=nomatch h
def AO{a:Type c}{x}{l:aa a}{b:Prop}(h:[]=x::l):b:=nomatch h
def jI{a:Type c}{x}{l:aa a}{b:Prop}(h:x::l=[]):b:=nomatch h
def wC{a:Prop}(h:0=n+1):a:=wu h
def vX{a:Prop}(h:n+1=0):a:=wu h
def bG{a:Type c}{x}{b:Prop}(h:x∈([]:aa a)):b:=ay h Qc
def lQ{a:Prop}(h:u=Q):a:=bR h
def E8{a:Prop}(h:Q=u):a:=bR h
def dC{G:Prop}(h:a/\b)(f:a->b->G):G:=by obtain⟨c,d⟩:=h;exact f c d
def Af{G:Prop}(h:a/\b/\c)(f:a->b->c->G):G:=by obtain⟨d,e,g⟩:=h;exact f d e g
def ahV{G:Prop}(h:a/\b/\c/\d/\e/\f/\g)(j:a->b->c->d->e->f->g->G):G:=by obtain⟨k,l,m,n,o,p,q⟩:=h;exact j k l m n o p q
def bp{c:Type}{b:c->Prop}{G:Prop}(h:∃a,b a)(f:∀a,b a->G):G:=by obtain⟨a,d⟩:=h;exact f a d
def aA{d:Type}{b c:d->Prop}{G:Prop}(h:∃a,b a/\c a)(f:∀a,b a->c a->G):G:=by obtain⟨a,e,g⟩:=h;exact f a e g
def hv{e:Type}{b c d:e->Prop}{G:Prop}(h:∃a,b a/\c a/\d a)(f:∀a,b a->c a->d a->G):G:=by obtain⟨a,g,j,k⟩:=h;exact f a g j k
def yT{f:Type}{b c d e:f->Prop}{G:Prop}(h:∃a,b a/\c a/\d a/\e a)(g:∀a,b a->c a->d a->e a->G):G:=by obtain⟨a,j,k,l,m⟩:=h;exact g a j k l m
def ald{g:Type}{b c d e f:g->Prop}{G:Prop}(h:∃a,b a/\c a/\d a/\e a/\f a)(j:∀a,b a->c a->d a->e a->f a->G):G:=by obtain⟨a,k,l,m,n,o⟩:=h;exact j a k l m n o
def VC{j:Type}{b c d e f g h:j->Prop}{G:Prop}(k:∃a,b a/\c a/\d a/\e a/\f a/\g a/\h a)(l:∀a,b a->c a->d a->e a->f a->g a->h a->G):G:=by obtain⟨a,m,n,o,p,q,r,s⟩:=k;exact l a m n o p q r s
def DG{d e:Type}{c:d->e->Prop}{G:Prop}(h:∃a b,c a b)(f:∀a b,c a b->G):G:=by obtain⟨a,b,g⟩:=h;exact f a b g
def hs{e f:Type}{c d:e->f->Prop}{G:Prop}(h:∃a b,c a b/\d a b)(g:∀a b,c a b->d a b->G):G:=by obtain⟨a,b,j,k⟩:=h;exact g a b j k
def gv{f g:Type}{c d e:f->g->Prop}{G:Prop}(h:∃a b,c a b/\d a b/\e a b)(j:∀a b,c a b->d a b->e a b->G):G:=by obtain⟨a,b,k,l,m⟩:=h;exact j a b k l m
def rK{g h:Type}{c d e f:g->h->Prop}{G:Prop}(j:∃a b,c a b/\d a b/\e a b/\f a b)(k:∀a b,c a b->d a b->e a b->f a b->G):G:=by obtain⟨a,b,l,m,n,o⟩:=j;exact k a b l m n o
def zm{e f g:Type}{d:e->f->g->Prop}{G:Prop}(h:∃a b c,d a b c)(j:∀a b c,d a b c->G):G:=by obtain⟨a,b,c,k⟩:=h;exact j a b c k
def LI{j k l:Type}{d e f g h:j->k->l->Prop}{G:Prop}(m:∃a b c,d a b c/\e a b c/\f a b c/\g a b c/\h a b c)(n:∀a b c,d a b c->e a b c->f a b c->g a b c->h a b c->G):G:=by obtain⟨a,b,c,o,p,q,r,s⟩:=m;exact n a b c o p q r s
def hI{f g h j:Type}{e:f->g->h->j->Prop}{G:Prop}(k:∃a b c d,e a b c d)(l:∀a b c d,e a b c d->G):G:=by obtain⟨a,b,c,d,m⟩:=k;exact l a b c d m
def Ch{h j k l:Type}{e f g:h->j->k->l->Prop}{G:Prop}(m:∃a b c d,e a b c d/\f a b c d/\g a b c d)(n:∀a b c d,e a b c d->f a b c d->g a b c d->G):G:=by obtain⟨a,b,c,d,o,p,q⟩:=m;exact n a b c d o p q
def Vy{j k l m:Type}{e f g h:j->k->l->m->Prop}{G:Prop}(n:∃a b c d,e a b c d/\f a b c d/\g a b c d/\h a b c d)(o:∀a b c d,e a b c d->f a b c d->g a b c d->h a b c d->G):G:=by obtain⟨a,b,c,d,p,q,r,s⟩:=n;exact o a b c d p q r s
def T5{h j k l m n:Type}{g:h->j->k->l->m->n->Prop}{G:Prop}(o:∃a b c d e f,g a b c d e f)(p:∀a b c d e f,g a b c d e f->G):G:=by obtain⟨a,b,c,d,e,f,q⟩:=o;exact p a b c d e f q
def gl{b:Type}{a}{x:b}(h:a[c]?=J x):c<U a:=(ka.mp h).1
def ms{b:Type}{x a:b}(h:x∈[a]):x=a:=qp.mp h
def hf{a:Type}{x:a}:x∈[x]:= .head _
def ma{a:Type}{x}{s t:aa a}(h:x∈s++t):x∈s\/x∈t:=oI.mp h
def mc{b:Type}{x a}{s:aa b}(h:x∈a::s):x=a\/x∈s:=rj.mp h
def mm{c d:Type}{f}{b:d}{s:aa c}(h:b∈R f s):∃a,a∈s/\f a=b:=jO.mp h
def iO(h:(a&&b)=Q):a=Q/\b=true:=dn.mp h
def oY{a:Type}{p}{s:aa a}(h:cS s p=Q):∀x∈s,p x=true:=gM.mp h
def fA{c d:Type}{f}{o:bf c}{b:d}(h:b4 f o=J b):∃a,o=J a/\f a=b:=oW.mp h
def jQ{a:O->Prop}{b c x d:O}(h:[b,c][d]?=J x)(p:b=x->a 0)(q:c=x->a 1):a d:=by
 cases d with
 |zero=>exact p<|aC h|succ d=>cases d with
  |zero=>exact q<|aC h|succ d=>exact aI h
def vP{b:Type}{a:aa b}(h:U a=1):∃x,a=[x]:=List.length_eq_one_iff.mp h
def O!{b:Type}{a}{x:b}(h:U a=1)(e:a[0]?=J x):a=[x]:=ah (vP h) λy q=>by rw [q] at e⊢;exact aq (λz=>[z])<|aC e
def l1m{f:Type}{a}{c d:f}(h:U a<=1)(b:c∈a)(e:d∈a):c=d:=by
 induction a with
 |nil=>exact bG b|cons x r=>rw [It<|vW.mp<|Im h] at b e;exact af (ms b) (ms e).symm
def ia1{x c:au}{k:O}(h:x<=c-k):x-1<=c-(k+1:O):=D8 c k 1▸Int.sub_le_sub_right h 1
def ia2{x:au}{p q r s:O}(a:x<=p-q)(b:r<=q)(c:p<=s+r):x<=s-(0:O):=nQ a<|zB (s:au)▸Int.sub_right_le_of_le_add (jj.mpr<|ae c<|d6 b s)
def ia4{x:au}(z:x-1<=0)(e:x-1≠0):x<=0:=Int.le_of_sub_one_lt<|Int.lt_iff_le_and_ne.mpr<|br z e
def ia6(z:p+3<=s+q)(l:3*(n-1)<=p)(a:q<=3)(b:s<=m)(c:m<=9):n<=4:=OR.mp<|Nat.le_of_mul_le_mul_left (ae l<|ae (Nat.le_of_add_le_add_right<|ae z<|d6 a s)<|ae b c)<|I! 2
def ia7{a b:O}(h:a+3<=b):¬(b:au)-(a:au)<3:=hB.mpr<|Int.le_sub_left_of_add_le<|jj.mpr h
def ſ:s+q<=s+1+(q-1):=cx .. ▸d6 (Ņ.mp<|bb _) _
def ia9(k:O):¬(0:au)<=-k-1:=by lia
def ajF(k): -(-k-1)-1=k:=by lia
def aeN(a:0<=m)(b:cM m<=16777216):m<=16777216:=Int.toNat_le.mp b
def q!{a:O->Prop}(h:d<2)(b:a 0)(c:a 1):a d:=aO (Nat.le_one_iff_eq_zero_or_eq_one.mp<|lD h) (λe=>e▸b) λe=>e▸c
def bl{a b:O}(h:jB a b=Q):a<=b:=ht h
open PySem.Operator renaming Add->V,Sub->J1,Mult->J2,MatMult->J3,Div->J4,Mod->J5,Pow->J6,LShift->J7,RShift->J8,BitOr->J9,BitXor->JO,BitAnd->FK,FloorDiv->OX
@[reducible] def r?(a)(k):=iv (motive:=λZ=>Prop) a bh bh bh bh bh bh bh bh bh bh bh bh k
@[reducible] def uF(a):=∀k,r? a k
def iC(b:a):uF a:=λk=>iv (motive:=r? a) b a0 a0 a0 a0 a0 a0 a0 a0 a0 a0 a0 a0 k
@[reducible] def JE(a b)(k):=iv (motive:=λZ=>Prop) a b bh bh bh bh bh bh bh bh bh bh bh k
@[reducible] def eY(a b):=∀k,JE a b k
def cj(c:a)(d:b):eY a b:=λk=>iv (motive:=JE a b) c d a0 a0 a0 a0 a0 a0 a0 a0 a0 a0 a0 k
@[reducible] def tj(a b c)(k):=iv (motive:=λZ=>Prop) a b c bh bh bh bh bh bh bh bh bh bh k
@[reducible] def fF(a b c):=∀k,tj a b c k
def bY(d:a)(e:b)(f:c):fF a b c:=λk=>iv (motive:=tj a b c) d e f a0 a0 a0 a0 a0 a0 a0 a0 a0 a0 k
@[reducible] def HM(a b c d)(k):=iv (motive:=λZ=>Prop) a b c d bh bh bh bh bh bh bh bh bh k
@[reducible] def hK(a b c d):=∀k,HM a b c d k
def dS(e:a)(f:b)(g:c)(h:d):hK a b c d:=λk=>iv (motive:=HM a b c d) e f g h a0 a0 a0 a0 a0 a0 a0 a0 a0 k
@[reducible] def u5(a b c d e)(k):=iv (motive:=λZ=>Prop) a b c d e bh bh bh bh bh bh bh bh k
@[reducible] def j6(a b c d e):=∀k,u5 a b c d e k
def ec(f:a)(g:b)(h:c)(j:d)(k:e):j6 a b c d e:=λl=>iv (motive:=u5 a b c d e) f g h j k a0 a0 a0 a0 a0 a0 a0 a0 l
@[reducible] def ZO(a b c d e f)(k):=iv (motive:=λZ=>Prop) a b c d e f bh bh bh bh bh bh bh k
@[reducible] def om(a b c d e f):=∀k,ZO a b c d e f k
def e1(g:a)(h:b)(j:c)(k:d)(l:e)(m:f):om a b c d e f:=λn=>iv (motive:=ZO a b c d e f) g h j k l m a0 a0 a0 a0 a0 a0 a0 n
@[reducible] def Ig(a b c d e f g)(k):=iv (motive:=λZ=>Prop) a b c d e f g bh bh bh bh bh bh k
@[reducible] def t9(a b c d e f g):=∀k,Ig a b c d e f g k
def ke(h:a)(j:b)(k:c)(l:d)(m:e)(n:f)(o:g):t9 a b c d e f g:=λp=>iv (motive:=Ig a b c d e f g) h j k l m n o a0 a0 a0 a0 a0 a0 p
@[reducible] def Pu(a b c d e f g h)(k):=iv (motive:=λZ=>Prop) a b c d e f g h bh bh bh bh bh k
@[reducible] def Hh(a b c d e f g h):=∀k,Pu a b c d e f g h k
def ui(j:a)(k:b)(l:c)(m:d)(n:e)(o:f)(p:g)(q:h):Hh a b c d e f g h:=λr=>iv (motive:=Pu a b c d e f g h) j k l m n o p q a0 a0 a0 a0 a0 r
@[reducible] def d_(a b c d e f g h j)(k):=iv (motive:=λZ=>Prop) a b c d e f g h j bh bh bh bh k
@[reducible] def PC(a b c d e f g h j):=∀k,d_ a b c d e f g h j k
def ĸ(k:a)(l:b)(m:c)(n:d)(o:e)(p:f)(q:g)(r:h)(s:j):PC a b c d e f g h j:=λt=>iv (motive:=d_ a b c d e f g h j) k l m n o p q r s a0 a0 a0 a0 t
@[reducible] def YC(a b c d e f g h j k)(l):=iv (motive:=λZ=>Prop) a b c d e f g h j k bh bh bh l
@[reducible] def GR(a b c d e f g h j k):=∀l,YC a b c d e f g h j k l
def Kx(l:a)(m:b)(n:c)(o:d)(p:e)(q:f)(r:g)(s:h)(t:j)(v:k):GR a b c d e f g h j k:=λx=>iv (motive:=YC a b c d e f g h j k) l m n o p q r s t v a0 a0 a0 x
@[reducible] def G?(a b c d e f g h j k l m n)(o):=iv (motive:=λZ=>Prop) a b c d e f g h j k l m n o
@[reducible] def Hx(a b c d e f g h j k l m n):=∀o,G? a b c d e f g h j k l m n o
def Oj(o:a)(p:b)(q:c)(r:d)(s:e)(t:f)(v:g)(x:h)(y:j)(z:k)(B:l)(C:m)(E:n):Hx a b c d e f g h j k l m n:=λG=>iv (motive:=G? a b c d e f g h j k l m n) o p q r s t v x y z B C E G
end
set_option genCtorIdx false
open PySem.Operator renaming Add->V,Sub->J1,Mult->J2,MatMult->J3,Div->J4,Mod->J5,Pow->J6,LShift->J7,RShift->J8,BitOr->J9,BitXor->JO,BitAnd->FK,FloorDiv->OX
section
mutual
inductive ai where
|none|bool (b:ba)|int (c:au)|str (s:bo)|tup (a:aa ai)|lst (a:aa ai)|oT (d:aa<|ai×ai)|obj (e:O) (f:aW)|ref (g:O)
inductive aW where
|nil|c (x:O) (v:ai) (r:aW)
end
set_option genCtorIdx true in
inductive AD where|neg|len|abs|sum|str|FA|list|tuple|sorted|dict|rev
inductive E where
|lit (v:ai)|var (x:O)|glob (x:O)|and (a b:E)|or (a b:E)|not (a:E)|ite (d a b:E)|CM (f:AD) (a:E)|EE (f:MG) (a b:E)|cmp (f:yS) (a b:E)|Yd (f g:yS) (a b d:E)|slice (a e h:E)|nil|cons (a r:E)|list (c:E)|tup (c:E)|LR|attr (a:E) (n:O)|pop (a:E)|m1 (f:rA) (a b:E)|K_ (a k j:E)|call (f:O) (c:E)|z5 (a:E) (m:O) (c:E)|sup (x f:O) (c:E)|comp (l t:E) (k:rA) (a b d:E) (o:aa<|O×O)
inductive S where
|nil|seq (s r:S)|expr (e:E)|assign (t e:E)|ret (e:E)|ite (c:E) (a b:S)|while (c:E) (b:S)|for (t:E) (k:rA) (a b:E) (s:S)|cont|raise (d:E)|AV (t e:E) (x c:O)|stuck|del (f:aa O)
structure Fn where
e5:aa O
p6:aa ai
gY:S
noncomputable def ai.ctorIdx(e):=ai.casesOn (motive_1:=λZ=>O) e 0 (λZ=>1) (λZ=>2) (λZ=>3) (λZ=>4) (λZ=>5) (λZ=>6) (λZ Z=>7) λZ=>8
noncomputable def E.ctorIdx(e):=E.casesOn (motive:=λZ=>O) e (λZ=>0) (λZ=>1) (λZ=>2) (λZ Z=>3) (λZ Z=>4) (λZ=>5) (λZ Z Z=>6) (λZ Z=>7) (λZ Z Z=>8) (λZ Z Z=>9) (λZ Z Z Z Z=>10) (λZ Z Z=>11) 12 (λZ Z=>13) (λZ=>14) (λZ=>15) 16 (λZ Z=>17) (λZ=>18) (λZ Z Z=>19) (λZ Z Z=>20) (λZ Z=>21) (λZ Z Z=>22) (λZ Z Z=>23) λZ Z Z Z Z Z Z=>24
noncomputable def S.ctorIdx(e):=S.casesOn (motive:=λZ=>O) e 0 (λZ Z=>1) (λZ=>2) (λZ Z=>3) (λZ=>4) (λZ Z Z=>5) (λZ Z=>6) (λZ Z Z Z Z=>7) 8 (λZ=>9) (λZ Z Z Z=>10) 11 λZ=>12
end
open Zq.ai renaming bool->bT,oT->gZ,int->ag,lst->aN,none->bk,obj->od,ref->aj,str->aG,tup->aR
open Zq.E renaming attr->fL,Yd->yq,comp->nj,cons->j2,LR->rq,K_->wJ,lit->kr,m1->hM,nil->s5,CM->tf,EE->hC,pop->vY,sup->ql,tup->oP,var->eb
open Zq.aW renaming nil->ar
open Zq.AD renaming FA->ys,sorted->Dy,str->sm,tuple->q6
open Zq.S renaming assign->nK,expr->uy,nil->ck,raise->Az,ret->v5,seq->fG,stuck->yU
open Zq.Fn renaming mk->a9
section
namespace Q
noncomputable def i(n):=kr<|ag n
noncomputable def s(n):=kr<|aG n
noncomputable def N:=kr bk
noncomputable def T:=kr<|bT Q
noncomputable def a(x n):=fL (eb x) n
def z(n):=a 64 n
noncomputable def x(a b):=hC kW a b
noncomputable def p(a b):=hC Go a b
noncomputable def m(a b):=hC Fq a b
noncomputable def ln(a):=tf .len a
noncomputable def l0:E:= .list s5
noncomputable def k1(a):=j2 a s5
def k2(a b):=j2 a<|k1 b
def k3(a b c):=j2 a<|k2 b c
def k4(a b c d):=j2 a<|k3 b c d
noncomputable def w(m:O)(a:E):E:= .z5 (eb 64) m a
noncomputable def A(x)(e)(r):=fG (nK (eb x) e) r
def B(n)(e)(r):=fG (nK (z n) e) r
noncomputable def C(t e)(r):=fG (nK t e) r
noncomputable def D(o e)(r):=fG (uy<|hM il o e) r
noncomputable def X(e)(r):=fG (uy e) r
noncomputable def R(e):=fG (v5 e) ck
noncomputable def I(c)(a r):=fG (.ite c a ck) r
noncomputable def J(c)(a b r):=fG (.ite c a b) r
noncomputable def K(a)(r):=fG (.del a) r
def F(t e)(b r):=fG (.for t il e N b) r
noncomputable def G(t)(k)(e f)(b r):=fG (.for t k e f b) r
noncomputable def H(c)(b r):=fG (.while c b) r
noncomputable def Ct(r):=fG .cont r
end Q
section
open Zq.Q
open Zq.E renaming nil->e,LR->d0,var->v,glob->gg,EE->o2,CM->o1,cmp->c,and->an,or->oo,not->n,ite->y,list->l,tup->t,cons->k,slice->sl,call->f,z5->h
open Zq.S renaming nil->Z
def b2(a)(b):=x (v a) b
def bz:=i 0
def cD:=i 1
noncomputable def cE:=v 183
def ee(a b):=t<|k2 a b
noncomputable def eM(a)(b)(d):=c a (v b) d
def jy(a)(b)(c)(d)(e):=B a b<|B c d e
noncomputable def dT:=v 61
def eg(a b):=b2 a<|v b
noncomputable def fi:=v 201
def fQ(a):=k1<|v a
def fp(a)(b)(c):=X (w a b) c
noncomputable def hP(a b c d e)(f):=nj a b il c d e f
noncomputable def fX:=v 94
def fN(a)(b c):=f a<|k2 b c
noncomputable def fS:=v 67
def dh(a)(b):=x (z a) b
noncomputable def Ah(a):=o1 .neg a
def hn:=Ah cD
def ie(a)(b)(c)(d e):=I (eM a b c) d e
def b9(a):=K a Z
def fg(a)(b)(c)(d)(e):=A a b<|A c d e
noncomputable def hX:=v 243
noncomputable def h6:=v 115
noncomputable def hk:=v 40
def lu(a)(b)(c)(d)(e)(f)(g)(h)(j):=jy a b c d<|jy e f g h j
noncomputable def jH:=v 130
def gJ(a):=ln<|v a
def gC:=i 2
noncomputable def j5:=v 168
def gO(a)(b):=ee a<|v b
def iH(a):=l<|k1 a
def o8(a b c)(d e):=G a j8 b c d e
def fc(a)(b d)(e f):=I (c a b d) e f
def i9(a)(b c d):=f a<|k3 b c d
def sb:=s "error"
noncomputable def jd:=v 13
def fj(a)(b)(c):=D (v a) b c
noncomputable def l8(a):=o1 .list a
def la(a)(b):=f a<|k1 b
noncomputable def ou:=v 112
def i8(a b)(c):=h (z a) b c
def oC:=z 181
def nC(a b)(c)(d):=C (eg a b) c d
def oa(a):=t<|k1 a
def hT(a):=p a cD
def oK(a b):=f a<|fQ b
noncomputable def pF:=v 52
noncomputable def xh(a):=o1 Dy a
def lZ(a)(b)(c d):=ie fI a b c d
def iT(a)(b c d)(e f):=A a b<|F c d e f
def qb(a)(b c)(d):=C (b2 a b) c d
noncomputable def qD:=v 11
def jA(a):=b2 a bz
def mL(a)(b):=eM fI a b
def B9:=s "endless"
noncomputable def lz:E:=kr<|bT u
def Oo:=a9 [64,38,69,3,140] [bk]<|lu 38 (v 38) 69 (v 69) 3 (v 3) 140 (y (eM uq 140 N) (v 69)<|v 140) Z
def L4:=a9 [64] []<|R<|ee (z 38)<|z 69
def PH:=a9 [47] []<|A 94 l0<|fg 3 bz 40 (v 47)<|K [47]<|H (eM j1 40 bz) (fc fI (o2 z1 hk cD) cD (D fX (v 3) Z)<|fg 40 (o2 DT hk cD) 3 (hT<|v 3) Z)<|R fX
def NT:=a9 [201,104] []<|fg 94 (l8<|v 104) 206 l0<|fg 137 (hP l0 cE fX N T [(2,0),(183,0)]) 119 l0<|K [104]<|F dT (a 201 124) (iT 208 bz cE (a 61 123) (I (n<|b2 94 cE) (A 208 (hT<|v 208)<|D (b2 137 cE) (a 61 168) Z)<|b9 [183])<|fj 206 (v 208)<|b9 [208,61,183])<|K [208,61,183]<|F dT (a 201 124) (I (an (c fI (b2 206<|a 61 168) bz)<|n<|b2 94<|a 61 40) (qb 94 (a 61 40) T<|fj 119 (a 61 40) Z)<|b9 [61])<|A 3 bz<|K [61]<|H (eM fD 3<|gJ 119) (F j5 (b2 137<|eg 119 3) (nC 206 168 (m (eg 206 168) cD)<|A 40 (fL (x (a 201 124) j5) 40)<|I (an (c fI (eg 206 168) bz)<|n<|eg 94 40) (nC 94 40 T<|fj 119 hk Z)<|b9 [40,168])<|A 3 (hT<|v 3)<|b9 [40,168])<|R fX
def RT:=a9 [201] []<|R<|fN 180 fi<|o2 qm (iH lz)<|h fi 303 e
def Ni:=a9 [216,253,161] []<|iT 47 bz cE (v 216) (A 47 (o2 me (v 47)<|b2 161 cE)<|I (n<|b2 253 cE) (R<|ee (v 47) lz)<|b9 [183])<|R<|ee (v 47) T
def KI:=a9 [201] []<|fg 253 (la 239 fi) 161 l0<|o8 cE (h fi 303 e) N (fj 161 (y (h fi 290<|k1 cE) (o2 pz cD cE) bz)<|b9 [183])<|A 233 T<|K [183]<|H (v 233) (iT 233 lz dT (a 201 124) (A 47 (o2 me (b2 161<|a 61 40)<|x (i9 230 (a 61 123) (v 253)<|v 161) bz)<|ie g0 47 (b2 161<|a 61 40) (qb 161 (a 61 40) (v 47)<|A 233 T Z)<|b9 [47,61])<|b9 [47,61])<|R<|v 161
def QG:=a9 [201] []<|fg 253 (la 239 fi) 161 (la 289 fi)<|fg 200 (o2 qm (iH bz)<|h fi 303 e) 233 T<|H (v 233) (iT 233 lz dT (a 201 124) (A 150 (b2 200<|a 61 40)<|G cE pI (a 61 123) N (I (h fi 290<|k1 cE) (A 150 (b2 161 cE)<|K [183]<|Ct Z)<|fc g0 (o2 me (b2 200 cE)<|v 150) (b2 200 cE) (qb 200 cE (o2 me (b2 200 cE)<|v 150)<|A 233 T Z)<|A 150 (y (b2 253 cE) (o2 me (v 150)<|b2 161 cE)<|b2 161 cE)<|b9 [183])<|b9 [150,61,183])<|b9 [150,61,183])<|R<|v 200
def QZ:=a9 [60] []<|A 94 (l8<|v 60)<|K [60]<|o8 (v 167) (ln fX) N (o8 qD (ln fX) N (fc fI (o2 z1 (o2 DT (eg 94 11)<|v 167) cD) cD (nC 94 11 (o2 me (eg 94 11)<|eg 94 167) Z)<|b9 [11])<|b9 [167,11])<|R fX
def KN:=a9 [64,168,163,183] []<|jy 168 j5 163 (v 163)<|lu 183 cE 102 l0 110 d0 277 l0 Z
def OM:=a9 [64,183] []<|R<|wJ (z 110) cE<|gg 20
def MC:=a9 [64,201] []<|B 201 fi<|iT 60 (o2 qm (iH bz)<|h fi 303 e) dT (a 201 124) (fc j1 (ln<|a 61 123) bz (qb 60 (a 61 40) (o2 me (b2 60<|a 61 40)<|o2 pz cD<|x (a 61 123) bz) Z)<|b9 [61])<|B 161 (oK 281 60) Z
def NH:=a9 [64,163] []<|iT 47 bz (v 36) (v 163) (A 183 (i8 201 80<|fQ 36)<|fc uN cE bz (A 47 (o2 me (o2 me (v 47)<|o2 pz cD cE)<|dh 161 cE) Z)<|b9 [36,183])<|R<|v 47
def SF:=a9 [64,163] []<|iT 94 l0 cE (la 24<|w 187<|fQ 163) (F j5 (i8 201 242<|k1 cE) (A 36 (i8 201 36<|k2 j5 bz)<|ie lg 36 (v 163) (D fX (v 36) Z)<|b9 [36,168])<|b9 [36,168,183])<|R<|xh fX
def Oq:=a9 [64,163] []<|R<|p (xh<|v 163)<|w 79<|fQ 163
def Pe:=a9 [201,36] []<|R<|h fi 36<|k2 (h fi 214<|fQ 36)<|hT<|h fi 156<|fQ 36
def N7:=a9 [201,102] []<|iT 94 d0 (v 36) (v 102) (A 183 (h fi 80<|fQ 36)<|fc uN cE bz (fc lg cE fX (qb 94 cE l0 Z)<|D (b2 94 cE) (fN 318 fi<|v 36) Z)<|b9 [36,183])<|A 211 d0<|K [201,36,102,183]<|F cE (xh fX) (qb 211 cE (o1 q6<|xh<|b2 94 cE)<|b9 [183])<|R<|v 211
def NG:=a9 [201,102] []<|iT 94 l0 (v 36) (v 102) (I (an (c fD (h fi 80<|fQ 36) bz)<|c g0 (h fi 214<|fQ 36) bz) (D fX (h fi 214<|fQ 36) Z)<|b9 [36])<|R<|xh fX
def Rg:=a9 [64,201,181] []<|jy 201 fi 181 (v 181) Z
def Pa:=a9 [64,130,183] []<|R<|h (dh 181 jH) 34<|k1 cE
def RC:=a9 [64,201] []<|lu 201 fi 153 (la 143 fi) 181 l0 209 d0 Z
def RG:=a9 [64,163,183] []<|ie lg 163 (z 209) (C (dh 209<|v 163) (ln oC)<|D oC (i9 192 (ln oC) (v 163) cE) Z)<|R<|dh 209<|v 163
def Qj:=a9 [64,130] []<|C (a 130 102) (i8 153 87<|k1<|a 130 163)<|C (a 130 277) (fN 313 (z 201)<|a 130 102)<|iT 150 (fN 316 (z 201)<|a 130 102) cE (v 150) (C (x (a 130 110) cE) (w 254<|k2 (b2 150 cE) cE)<|b9 [183]) Z
def Mx:=a9 [64] []<|fp 254 (k2 (oa<|i8 201 36<|k2 bz bz)<|gg 20)<|A 3 bz<|H (eM fD 3<|ln oC) (fp 157 (k1<|dh 181<|v 3)<|A 3 (hT<|v 3) Z)<|R<|fN 244 (z 201) oC
def Pw:=a9 [201] []<|R<|h (la 188 fi) 85 e
def Qp:=a9 [88,240,109] []<|fg 173 (l8<|v 109) 204 (o2 qm (iH bz)<|v 88)<|fg 28 (hT<|v 88) 57 l0<|K [109]<|o8 (v 129) (v 88) N (fc g0 (eg 204 129) bz (K [95,162,39,129,0,1]<|Ct Z)<|fj 57 (v 129)<|nC 204 129 (gJ 57)<|A 162 (iH<|l<|k3 (v 129) (gJ 57) bz)<|H (v 162) (fg 95 (b2 162 hn) 0 (jA 95)<|fc fD (b2 95 gC) (ln<|eg 240 0) (A 1 (x (eg 240 0)<|b2 95 gC)<|fc fI (eg 204 1) bz (fj 57 (v 1)<|nC 204 1 (gJ 57)<|fj 162 (l<|k3 (v 1) (gJ 57) bz)<|K [95,39,0,1]<|Ct Z)<|qb 95 gC (hT<|b2 95 gC)<|fc fD (eg 204 1) (eg 204 0) (nC 204 0 (eg 204 1) Z)<|nC 173 0 (o2 me (eg 173 0)<|eg 173 1)<|K [95,39,0,1]<|Ct Z)<|X (vY<|v 162)<|fc fI (eg 204 0) (b2 95 cD) (A 39 hn<|K [95,1]<|H (eM g0 39<|v 0) (A 39 (vY<|v 57)<|nC 204 39 (v 28)<|nC 173 39 (eg 173 0) Z) Z)<|b9 [95,39,0,1])<|b9 [95,162,39,129,0,1])<|R<|v 173
def Qx:=a9 [64,249] []<|lu 249 (v 249) 253 (la 239<|a 249 201) 295 l0 100 d0<|fp 325 e<|jy 155 l0 122 l0<|fp 270 e<|B 231 (hP l0 (v 0) (z 295) N T [(2,0),(0,0)])<|jy 136 (hP l0 (v 0) (z 295) N T [(2,0),(0,0)]) 237 d0<|fp 306 e<|A 88 (ln<|z 295)<|B 276 (i9 199 (v 88) (z 122)<|z 155)<|jy 301 (i9 199 (v 88) (z 231)<|z 276) 109 (w 302 e) Z
def MH:=a9 [64] []<|iT 201 (fL (z 249) 201) jH (fL (z 249) 181) (F cE (xh<|a 130 110) (I (n<|h fi 290<|k1 cE) (C (dh 100<|ee (a 130 168) cE) (ln<|z 295)<|D (z 295) (ee (a 130 168) cE) Z)<|b9 [183])<|b9 [130,183]) Z
def QV:=a9 [64] []<|iT 201 (fL (z 249) 201) (ee jH cE) (z 295) (fg 33 (i8 249 34<|k2 jH cE) 47 bz<|fg 14 l0 110 (fL (x (fL (z 249) 181)<|v 33) 110)<|F (v 105) (xh<|v 110) (J (h fi 290<|fQ 105) (A 47 (o2 me (v 47)<|o2 pz cD<|v 105) Z) (I (dh 253<|v 105) (fj 14 (dh 100<|gO (v 33) 105) Z) Z)<|b9 [105])<|D (z 155) (v 47)<|D (z 122) (v 14)<|b9 [33,105,47,110,14,130,183]) Z
def SW:=a9 [64] []<|iT 201 (fL (z 249) 201) jH (fL (z 249) 181) (F dT (a 130 277) (C (dh 237<|ee (a 130 168) dT) l0<|b9 [61])<|b9 [61,130])<|K [61,130]<|o8 (v 0) (ln<|z 295) N (C (ee (v 93) hk) (dh 295<|v 0)<|F dT (h fi 242<|fQ 40) (A 123 (fL (x (a 201 124) dT) 123)<|fg 30 (w 255<|fQ 123) 3 (v 93)<|o8 fS (gJ 123) N (A 183 (eg 123 67)<|I (an (eM uN 67<|v 30)<|n<|h fi 290<|k1 cE) (A 101 (dh 100<|ee (v 3) cE)<|X (fN 224 (dh 231<|v 101)<|v 0)<|lZ 67 bz (X (fN 224 (dh 136<|v 101)<|v 0) Z) Z)<|A 3 (i8 249 34<|k2 (v 3) cE)<|b9 [101,67,183])<|X (fN 224 (dh 237<|ee (v 3) dT)<|v 0)<|b9 [3,30,101,123,61,67,183])<|b9 [3,30,93,101,40,123,61,67,183,0]) Z
def MU:=a9 [64,123] []<|A 67 (gJ 123)<|H (an (eM j1 67 bz)<|dh 253<|b2 123<|m fS cD) (A 67 (m fS cD) Z)<|R<|o2 AX (m fS cD) bz
def R7:=a9 [64] []<|iT 109 d0 (v 55) (z 237) (iT 47 bz (v 0) (dh 237<|v 55) (A 47 (o2 me (v 47)<|dh 301<|v 0)<|b9 [0])<|nC 109 55 (v 47)<|b9 [47,55,0])<|R<|v 109
def R1:=a9 [14,168] []<|ie lg 168 (v 14) (fj 14 j5 Z) Z
def R6:=a9 [249] []<|R<|fL (oK 260 249) 109
def Rv:=a9 [249] []<|fg 200 (la 301<|a 249 201) 109 d0<|F jH (a 249 181) (F dT (a 130 277) (qb 109 (ee (a 130 168) dT) (b2 200<|fL (x (fL (a 249 201) 124) dT) 40)<|b9 [61])<|b9 [61,130])<|R<|v 109
def KV:=a9 [64,112,317,106,207,194] []<|B 112 ou<|jy 317 (v 317) 106 (v 106)<|lu 207 (v 207) 194 (v 194) 227 l0 209 d0<|K [194,106,207]<|o8 j5 (v 317) N (C (dh 209<|eg 112 168) j5<|b9 [168]) Z
def Mt:=a9 [64,52] []<|R<|wJ (z 209) pF<|gg 322
def O8:=a9 [64,61] []<|R<|dh 106 dT
def Qr:=a9 [64,61] []<|R<|dh 207 dT
def NU:=a9 [64,61] []<|R<|dh 194 dT
def Rr:=a9 [64,130] []<|R<|dh 227 jH
def N9:=a9 [64,130,243] []<|A 70 (w 229<|k2 jH hX)<|lZ 70 (gg 142) (R bz)<|lZ 70 bz (R<|Ah<|w 198<|fQ 130)<|R<|v 70
def K2:=a9 [64,130] []<|A 94 l0<|o8 hX (z 317) N (I (an (eM g0 243<|gg 297)<|eM g0 243<|gg 322) (A 70 (w 229<|k2 jH hX)<|I (an (eM g0 70 bz)<|eM g0 70<|gg 142) (D fX hX Z) Z)<|b9 [243,70])<|R fX
def PF:=a9 [64,130] []<|fc fI (w 198<|fQ 130) bz (R lz)<|o8 hX (z 317) N (fc g0 (w 229<|k2 jH hX) bz (R lz)<|b9 [243])<|R T
def O2:=a9 [64,130,243,17,124,152] []<|B 130 jH<|lu 243 hX 17 (v 17) 124 (v 124) 152 (v 152) Z
def NX:=a9 [64,201,60,97,227,250,215,48] []<|A 106 (hP (a 61 40) dT (a 201 124) N T [(2,0),(61,0)])<|fg 207 (hP (ln<|a 61 123) dT (a 201 124) N T [(2,0),(61,0),(9,2)]) 194 (hP (a 61 149) dT (a 201 124) N T [(2,0),(61,0)])<|X (ql 64 382<|k (a 201 112)<|k4 (a 201 317) (v 106) (v 207)<|v 194)<|B 201 fi<|jy 60 (v 60) 97 (v 97)<|lu 227 (v 227) 250 (v 250) 215 (v 215) 48 (v 48) Z
def Qd:=a9 [64,130,243] []<|R<|x (dh 60 jH) hX
def SV:=a9 [64,130,293] []<|R<|wJ (dh 97 jH) (v 293) hn
def Ow:=a9 [201,61,243] []<|fg 12 (hM pI (a 201 165)<|fL (x (a 201 124) dT) 236) 114 (hM pI (a 201 165) hX)<|I (oo (eM uq 12 N)<|eM uq 114 N) (R N)<|fc j1 (jA 12) (jA 114) (R<|s "reduce")<|fc fD (jA 12) (jA 114) (R<|s "shift")<|fc fI (b2 114 cD) (s "left") (R<|s "reduce")<|fc fI (b2 114 cD) (s "right") (R<|s "shift")<|fc fI (b2 114 cD) (s "nonassoc") (R<|s "bar")<|R N
def Ma:=a9 [64,201,130,109] []<|lu 201 fi 168 (a 130 168) 177 d0 97 d0<|F cE (a 130 110) (J (c fI cE<|gg 259) (C (dh 177 cE) (gg 141) Z) (J (c fD cE<|a 201 317) (C (dh 177 cE) (x (a 130 110) cE) Z) (C (dh 97 cE) (x (a 130 110) cE) Z) Z)<|b9 [183])<|B 107 l0<|K [201,183]<|F dT (a 130 277) (D (z 107) (l<|k2 dT<|wJ (v 109) (ee (a 130 168) dT) bz)<|b9 [61])<|jy 148 bz 215 l0 Z
def SS:=a9 [64] []<|F (v 44) (z 107) (F hX (la 24<|b2 44 cD) (A 17 N<|ie ry 243 (z 177) (A 17 (i9 176 (z 201) (jA 44) hX) Z)<|ie xS 17 N (fp 278 (k3 (v 44) hX<|v 17) Z)<|b9 [243,17])<|b9 [44,243,17]) Z
def LN:=a9 [64] []<|A 14 (o2 qm (iH bz)<|fL (z 201) 317)<|G (v 44) pI (z 107) N (F hX (la 24<|b2 44 cD) (nC 14 243 (Ah<|jA 44)<|b9 [243])<|b9 [44,243])<|K [44,243]<|F hX (z 177) (nC 14 243 (dh 177 hX)<|b9 [243])<|K [243]<|F hX (la 24<|z 148) (nC 14 243 (gg 142)<|b9 [243])<|R<|v 14
def MN:=a9 [64,14] []<|A 94 l0<|o8 hX (fL (z 201) 317) N (A 124 (hP (jA 44) (v 44) (z 107) N (o2 z1 (b2 44 cD)<|o2 pz cD hX) [(2,0),(44,0),(243,1)])<|I (an (v 124)<|eM ry 243<|z 177) (D fX (f 219<|k (z 168)<|k4 hX (s "shift/reduce") (o1 q6<|v 124)<|eg 14 243) Z)<|F (v 114) (sl (v 124) cD N) (A 55 (gO (jA 124) 114)<|D fX (f 219<|k (z 168)<|k4 hX (s "reduce/reduce") (v 55)<|eg 14 243)<|b9 [114,55])<|b9 [114,55,124,243])<|R fX
def Ko:=a9 [14] []<|fc j1 (b2 14<|gg 297) bz (R bz)<|iT 154 d0 j5 (v 14) (I (yq fD fD (gg 142) j5 bz) (qb 154 (Ah j5) (hT<|wJ (v 154) (Ah j5) bz) Z)<|b9 [168])<|A 23 bz<|K [168,14]<|F dT (xh<|v 154) (I (oo (mL 23 bz)<|c j1 (b2 154 dT)<|eg 154 23) (A 23 dT Z)<|b9 [61])<|R<|v 23
def SM:=a9 [14,61] []<|R<|hP (y (mL 168<|Ah dT) bz j5) j5 (v 14) N T [(2,0),(168,0),(61,1)]
def NL:=a9 [249,109,311,48] [aG "lalr"]<|A 60 l0<|fg 97 l0 227 l0<|fg 250 l0 215 l0<|F jH (a 249 181) (A 108 (i9 220 (a 249 201) jH<|v 109)<|X (h (v 108) 310 e)<|A 14 (h (v 108) 14 e)<|X (hM j8 (v 250)<|h (v 108) 250<|fQ 14)<|X (hM j8 (v 215)<|a 108 215)<|A 61 bz<|I (v 311) (A 61 (oK 268 14) Z)<|ie g0 61 bz (A 14 (fN 218 (v 14) dT) Z)<|fj 60 (v 14)<|fj 97 (a 108 97)<|fj 227 dT<|b9 [108,14,61,130])<|R<|f 284<|k (a 249 201)<|k (v 60)<|k (v 97)<|k4 (v 227) (v 250) (v 215)<|v 48
def QX:=a9 [201,311] [bT Q]<|A 249 (la 84 fi)<|R<|la 196<|f 32<|k4 (v 249) (oK 273 249) (v 311)<|s "lalr"
def Oh:=a9 [201,311] [bT Q]<|A 249 (la 84 fi)<|R<|la 196<|f 32<|k4 (v 249) (oK 257 249) (v 311)<|s "slr"
def Ri:=a9 [201,48,311] [aG "lalr",bT Q]<|lZ 48 (s "lalr") (R<|fN 291 fi<|v 311)<|lZ 48 (s "slr") (R<|fN 279 fi<|v 311)<|lZ 48 (s "canonical") (R<|fN 323 fi<|v 311)<|fG yU Z
def MD:=a9 [184] []<|A 187 (fL (a 184 201) 158)<|ie xS 187 N (C (gO (v 177) 277) (oK 320 184)<|ie j1 277 bz (fG yU Z)<|ie g0 177 (v 187) (fG yU Z) Z)<|R<|v 184
def OV:=a9 [64,133,130,228,100] [ag<| -1]<|lu 133 (v 133) 130 jH 228 (v 228) 100 (v 100) Z
def Q6:=a9 [64] []<|R<|t<|k3 (fL (z 133) 38) (z 130)<|l8<|z 228
def Sk:=a9 [64,223,138,159,110] []<|lu 223 (v 223) 138 (v 138) 159 (v 159) 110 (v 110) Z
def Q5:=a9 [64,185] []<|jy 185 (v 185) 3 bz Z
def Qa:=a9 [64] []<|fc uN (z 3) (ln<|z 185) (R<|i9 77 (s "$end") (s "") N)<|A 133 (dh 185<|z 3)<|fc g0 (a 133 38) (s "$end") (B 3 (hT<|z 3) Z)<|R<|v 133
def Mr:=a9 [64,184,202,50] [bk,ag 5000]<|lu 184 (v 184) 202 (y (eM uq 202 N) (f 191 e)<|v 202) 50 (v 50) 43 d0<|fp 82 e Z
def Kv:=a9 [64] []<|lu 181 (iH bz) 186 l0 166 N 88 bz<|lu 147 (s "more") 138 N 159 l0 110 l0 Z
def Nn:=a9 [64] []<|R<|f 193<|k4 (c fI (z 147)<|s "accepted") (z 138) (l8<|z 159)<|l8<|z 110
def QY:=a9 [64,185] []<|R<|w 58<|k1<|oK 221 185
def Hm:=a9 [64,179] []<|fp 82 e<|H (c fI (z 147)<|s "more") (I (w 113 e) (fp 44 (k1<|h (v 179) 275 e) Z)<|fp 68 e Z)<|R<|w 212 e
def Rj:=a9 [64] []<|R<|an (c uq (z 166) N)<|c fI (w 252<|k1<|dh 181 hn) bz
def Sv:=a9 [64,133] []<|jy 166 (v 133) 88 (hT<|z 88) Z
def Kf:=a9 [64,130] []<|ie lg 130 (z 43) (C (dh 43 jH) (y (i8 184 307<|fQ 130) (i8 184 198<|fQ 130) bz) Z)<|R<|dh 43 jH
def Ss:=a9 [64,133] []<|A 168 (i8 184 243<|k1<|a 133 38)<|R<|y (mL 168<|gg 296) (gg 321) j5
def QE:=a9 [64,51] []<|fc uN (ln<|z 110) (z 50) (fG (Az<|k2 (p (p (s "more than ")<|o1 sm<|z 50)<|s " moves")<|w 118 e) Z)<|D (z 110) (v 51) Z
def Rf:=a9 [64] []<|R<|y (c uq (z 166) N) N<|fL (z 166) 3
def R4:=a9 [64,147,138] []<|jy 147 (v 147) 138 (v 138) Z
def RZ:=a9 [64] []<|fg 130 (dh 181 hn) 43 (w 252<|fQ 130)<|ie j1 43 bz (fp 172 (fQ 43)<|R N)<|fg 243 (w 294<|k1<|z 166) 146 (i8 184 146<|k2 jH hX)<|J (mL 146<|gg 141) (fp 54 (k1<|oa<|s "accept")<|fp 160 (k2 (s "accepted")<|dh 186 hn) Z) (J (eM j1 146 bz) (fp 126 (fQ 146) Z) (J (an (eM fD 146 bz)<|w 315<|fQ 243) (fp 172 (k1<|m bz<|v 146) Z) (fp 31 (fQ 243) Z) Z) Z) Z
def SU:=a9 [64,33] []<|fp 54 (k1<|gO (s "shift") 33)<|D oC (v 33)<|D (z 186) (i8 202 126<|k1<|z 166)<|B 166 N Z
def RD:=a9 [64,61] []<|fp 54 (k1<|ee (s "reduce") dT)<|fg 164 (i8 184 164<|k1 dT) 93 (m (m (ln<|z 186)<|v 164)<|i8 184 149<|k1 dT)<|fg 138 (w 5<|k2 dT<|sl (z 186) (v 93) N) 37 (m (ln<|z 186)<|v 164)<|jy 186 (sl (z 186) N<|v 37) 181 (sl oC N<|hT<|v 37)<|fp 96 (k2 dT<|v 138) Z
def SJ:=a9 [64,61,138] []<|A 33 (i8 184 34<|k2 (dh 181 hn)<|i8 184 40<|k1 dT)<|ie fD 33 bz (fG (Az<|k2 (p (s "no state behind rule ")<|o1 sm dT)<|w 118 e) Z)<|D oC (v 33)<|D (z 186) (v 138) Z
def Rc:=a9 [64] []<|R<|i8 184 228<|k1<|dh 181 hn
def QS:=a9 [64] []<|A 112 (hP (x (fL (z 184) 112) j5) j5 (w 228 e) N T [(2,0),(168,0),(64,1)])<|D (z 159) (f 75<|k4 (z 166) (dh 181 hn) ou<|m (z 88) cD) Z
def n_:=a9 [64,243] []<|fp 280 e<|fp 160 (k2 (s "aborted") N) Z
def NM:=a9 [64,170] []<|B 170 (v 170) Z
def Ob:=a9 [64,184,202,50,203] [bk,ag 5000,bT u]<|X (ql 64 360<|k3 (v 184) (v 202)<|v 50)<|jy 203 (v 203) 197 (oK 189 64) Z
def RH:=a9 [64] []<|X (ql 64 332 e)<|jy 182 bz 74 (s "") Z
def Sw:=a9 [64,133] []<|X (ql 64 327<|fQ 133)<|B 234 lz Z
def Qs:=a9 [64] []<|B 166 N Z
def Ou:=a9 [64,243] []<|I (an (z 203)<|n<|z 234) (B 234 (f 282<|k4 (z 184) oC hX<|z 50)<|R<|z 234)<|R T
def Mw:=a9 [64,33] []<|X (ql 64 337<|fQ 33)<|fc j1 (z 182) bz (B 182 (m (z 182) cD) Z) Z
def RI:=a9 [64,61,186] []<|R<|i8 202 172<|k3 dT (v 186)<|z 197
def Ms:=a9 [64,61,138] []<|A 74 (z 74)<|B 74 (s "")<|J (mL 74<|s "abort") (fp 160 (k2 (s "aborted") N) Z) (J (mL 74<|s "accept") (fp 54 (k1<|oa<|s "accept")<|fp 160 (k2 (s "accepted")<|v 138) Z) (J (mL 74 sb) (fp 213 e Z) (X (ql 64 333<|k2 dT<|v 138) Z) Z) Z) Z
def Lq:=a9 [64] []<|I (z 203) (R<|i9 314 (z 184) oC<|z 50)<|R<|ql 64 361 e
def JU:=a9 [64,243] []<|fc fI (z 182) bz (fp 280 e Z)<|fc fI (z 182) (gg 76) (lZ 243 (gg 258) (fp 160 (k2 (s "aborted") N)<|R N)<|fp 54 (k1<|ee (s "discard") hX)<|fp 29 e Z)<|fp 213 e Z
def Nh:=a9 [64] []<|jy 182 (gg 76) 234 lz<|H (c fI (w 269 e) bz) (fc fI (ln oC) cD (fp 160 (k2 (s "aborted") N)<|R N)<|fp 54 (k1<|ee (s "pop")<|dh 181 hn)<|jy 181 (sl oC N hn) 186 (sl (z 186) N hn) Z)<|A 33 (w 269 e)<|fp 54 (k1<|gO sb 33)<|D oC (v 33)<|D (z 186) (i8 202 213 e) Z
def S3:=a9 [64] []<|A 146 (i8 184 229<|k2 (dh 181 hn)<|gg 296)<|R<|y (yq fD fD bz (v 146)<|gg 141) (v 146) bz
def KL:=a9 [64,168,40,123,236,146,41,149] [ag<| -1,bk,ag 0,ag 0]<|B 168 j5<|jy 40 hk 123 (v 123)<|lu 236 (v 236) 146 (v 146) 41 (v 41) 149 (v 149) Z
def Qe:=a9 [64,112,317,124,165,158,129] []<|B 112 ou<|lu 317 (v 317) 124 (v 124) 165 (v 165) 158 (v 158)<|lu 129 (v 129) 195 (hP l0 pF (z 112) N T [(2,0),(52,0)]) 210 l0 169 l0<|K [158,165,112,124,129,317]<|F dT (z 124) (D (dh 195<|a 61 40) (a 61 168)<|D (z 210) (ln<|z 169)<|X (hM j8 (z 169)<|o2 qm (iH<|a 61 168)<|hT<|ln<|a 61 123)<|b9 [61])<|B 272 (ln<|z 169) Z
def M8:=a9 [64] []<|R<|ln<|z 112
def L8:=a9 [64,183] []<|R<|c fD cE<|z 317
def N1:=a9 [64,183] []<|R<|l8<|dh 195 cE
def Mv:=a9 [64,61,6] []<|R<|p (dh 210 dT)<|v 6
def Su:=a9 [64,36] []<|R<|dh 169<|v 36
def RO:=a9 [64,36] []<|R<|m (v 36)<|dh 210<|dh 169<|v 36
def Q1:=a9 [64,36] []<|fg 123 (fL (dh 124<|dh 169<|v 36) 123) 6 (m (v 36)<|dh 210<|dh 169<|v 36)<|R<|y (eM fD 6<|gJ 123) (eg 123 6) hn
def KS:=a9 [123,317] []<|iT 94 hn cE (v 123) (fc fD cE (v 317) (A 94 cE Z)<|b9 [183])<|R fX
def Qw:=a9 [115,129] [bk]<|iT 106 l0 (gO hk 117) h6 (I (oo (mL 40 sb)<|c ry (sl hk N cD)<|t<|k3 (s "") (s "$")<|s "'") (fG yU Z)<|ie lg 40 (v 106) (fj 106 hk Z)<|b9 [40,117])<|A 82 (y (oo (eM xS 129 N)<|mL 106 l0) (v 129)<|jA 106)<|ie lg 82 (v 106) (fG yU Z)<|A 112 (l8<|gg 304)<|K [40,117,129]<|F (gO hk 117) h6 (F pF (v 117) (I (an (eM lg 52<|v 106)<|eM lg 52 ou) (fj 112 pF Z)<|b9 [52])<|b9 [40,52,117])<|A 88 (gJ 112)<|fg 112 (p (p ou<|iH<|s "$accept")<|v 106) 124 (iH<|f 21<|k4 bz (v 88) (ee (hM jM ou<|v 82)<|gg 283)<|gg 283)<|K [40,106,52,117]<|F (gO hk 117) h6 (A 123 (o1 q6<|hP (hM jM ou pF) pF (v 117) N T [(2,0),(52,0),(112,1)])<|fj 124 (f 21<|k4 (gJ 124) (hM jM ou hk) (v 123)<|fN 308 (v 123)<|v 88)<|b9 [40,117,123])<|R<|f 190<|k ou<|k (v 88)<|k4 (v 124) d0 N<|hM jM ou<|v 82
def O4:=a9 [64,52,61,226] []<|B 52 pF<|jy 61 dT 226 (l8<|v 226) Z
def Nu:=a9 [64] []<|R lz
def Mm:=a9 [64] []<|iT 28 l0 (v 53) (oK 256 64) (J (h (v 53) 205 e) (fj 28 (h (a 53 133) 70 e) Z) (fg 129 (m (gJ 28)<|ln<|a 53 226) 28 (p (sl (v 28) N<|v 129)<|iH<|p (oa<|a 53 52)<|o1 q6<|sl (v 28) (v 129) N) Z)<|b9 [53,129])<|R<|jA 28
def My:=a9 [64,133] []<|lu 52 (a 133 38) 61 bz 226 l0 133 (v 133) Z
def Lm:=a9 [64] []<|R T
def LF:=a9 [71] []<|fg 94 l0 41 (l<|fQ 71)<|K [71]<|H (eM g0 41 l0) (A 53 (vY<|v 41)<|D fX (v 53)<|F (v 86) (a 53 226) (fj 41 (v 86)<|b9 [86])<|b9 [86,53])<|R<|o1 .rev fX
def Pp:=a9 [64,112] []<|B 112 ou Z
def Ly:=a9 [64,133] []<|R<|oK 19 133
def L1:=a9 [64,61,186,197] []<|A 52 (dh 112 dT)<|I (hM pG pF<|s "$@") (R<|i9 22 pF dT l0)<|R<|i9 22 pF dT<|v 186
def MB:=a9 [64] []<|R<|la 19<|i9 77 sb (s "") N
def PQ:=a9 [184] []<|R<|hP (x (a 184 112) hk) hk (a 184 106) N T [(2,0),(40,0),(184,1)]
def SI:=a9 [13,46] []<|fc j1 (b2 13 gC) bz (A 89 (o2 wc (b2 13 gC)<|v 46)<|qb 13 gC (o2 xi (b2 13 gC)<|v 46)<|R<|v 89)<|A 67 (b2 13 cD)<|qb 13 cD (hT fS)<|ie uN 67 (ln<|jA 13) (R<|o2 wc (o2 xi (o2 qm (o2 qm (p (b2 13<|i 3)<|i 5)<|p fS<|i 3)<|p fS<|i 11)<|i 7)<|v 46)<|A 25 (x (jA 13) fS)<|fc fD (o1 .abs<|v 25) (o2 BY (i 10)<|i 18) (R<|o2 wc (v 25)<|v 46)<|A 98 (p (o2 qm gC<|m (o1 .abs<|v 25)<|o2 BY (i 10)<|i 18)<|y (eM fD 25 bz) cD bz)<|qb 13 gC (o2 xi (v 98)<|v 46)<|R<|o2 wc (v 98)<|v 46
def PU:=a9 [13,139,50] []<|R<|o1 q6<|nj (b2 139<|fN 246 jd<|gJ 139) (v 72) j8 (fN 246 jd<|v 50) N T [(2,0),(72,0),(246,2),(9,2),(13,1),(139,1)]
def LB:=a9 [13] []<|A 17 (fN 246 jd<|i 6)<|ie fD 17 (i 4) (A 115 (l8<|x (gg 286)<|v 17)<|fc fI (fN 246 jd gC) cD (A 40 (x (s "st")<|fN 246 jd gC)<|D h6 (ee hk<|i9 247 jd (t<|k (s "a")<|k (s "b")<|k4 (s "c") sb (s "s")<|s "t")<|i 4) Z)<|R h6)<|C (gO h6 106) (ee l0<|sl (t<|k3 (s "s") (s "t")<|s "u") N<|m (v 17) gC)<|K [40,17]<|F hk (v 106) (D h6 (ee hk<|i9 247 jd (t<|k4 (s "a") (s "b") (s "c") sb)<|i 3)<|o8 (v 72) (p cD<|fN 246 jd gC) N (D h6 (ee hk<|i9 247 jd (p (t<|k4 (s "a") (s "b") (s "c") sb)<|v 106)<|i 4)<|b9 [72])<|b9 [40,72])<|R h6
def GO:=a9 [13,115,52,26] []<|A 174 (hP (v 123) (gO hk 123) h6 N (mL 40 pF) [(2,0),(40,0),(123,0),(52,1)])<|lZ 174 l0 (R<|y (eM g0 52 sb) (l<|fQ 52)<|l8<|x (t<|k (oa<|s "a")<|k4 (t e) (ee (s "c")<|s "c") (oa<|s "q")<|oa<|s "b")<|fN 246 jd<|i 5)<|A 94 l0<|K [52]<|F (v 56) (y (mL 26 bz) (jA 174)<|b2 174<|fN 246 jd<|gJ 174) (A 94 (p fX<|f 305<|k4 jd h6 (v 56)<|m (v 26) cD)<|b9 [56])<|R fX
def MV:=a9 [13,115] []<|A 17 (fN 246 jd<|i 3)<|lZ 17 bz (R<|l8<|i9 247 jd (t<|k (s "a")<|k (s "b")<|k (s "c")<|k4 (s "a") (s "b") (s "c")<|s "q")<|i 10)<|A 103 (sl (f 305<|k4 jd h6 (s "s")<|i 3) N<|i 9)<|I (an (mL 17 gC)<|eM g0 103 l0) (fg 67 (fN 246 jd<|gJ 103) 103 (p (p (sl (v 103) N fS)<|l8<|x (t<|k (t e)<|k4 (oa<|s "a") (oa<|s "b") (oa<|s "c")<|ee (s "q")<|s "q")<|fN 246 jd<|i 5)<|sl (v 103) (hT fS) N) Z)<|R<|sl (v 103) N<|i 9
def Hz:=a9 [45,115,103,50] []<|C (gO ou 14) (ee (sl (a 45 112) N<|a 45 317)<|p (l8<|v 103)<|iH<|s "$end")<|C (t<|k (v 128)<|k (v 134)<|k (v 159)<|k4 (v 110) (v 171) fS<|v 120) (t<|k (iH bz)<|k l0<|k l0<|k4 l0 l0 bz bz)<|K [103]<|H (c HJ (gJ 110)<|v 50) (fg 63 (y (c ry (eg 14 67) ou) (hM jM ou<|eg 14 67) gC) 5 (h (v 45) 229<|k2 (b2 128 hn)<|v 63)<|lZ 5 bz (A 5 (m bz<|h (v 45) 198<|k1<|b2 128 hn) Z)<|lZ 5 (o2 pz cD<|i 20) (fj 110 (oa<|s "accept")<|R<|gO (y (c j1 (gJ 110)<|v 50) (iH B9)<|l<|k4 T (b2 134 hn) (v 159)<|v 110) 171)<|J (eM j1 5 bz) (fj 110 (gO (s "shift") 5)<|fj 128 (v 5)<|fj 134 (ee (eg 14 67)<|p (eg 14 67)<|o1 sm fS)<|C (gO fS 120) (ee (hT fS)<|o2 AX bz<|m (v 120) cD) Z) (J (an (eM fD 5 bz)<|eM g0 5<|m bz<|o2 pz cD<|i 20) (C (gO hk 123) (b2 115<|m (m bz<|v 5) cD)<|fj 110 (ee (s "reduce")<|m bz<|v 5)<|fg 66 (m (gJ 134)<|gJ 123) 53 (p (t<|fQ 40)<|o1 q6<|sl (v 134) (v 66) N)<|C (gO (v 128) 134) (ee (sl (v 128) N<|hT<|v 66)<|p (sl (v 134) N<|v 66)<|l<|fQ 53)<|fj 128 (h (v 45) 34<|k2 (b2 128 hn)<|hM jM (a 45 112) hk) Z) (lZ 120 bz (fg 59 (nj (c lg (h (v 45) 229<|k2 (b2 128 hn) qD)<|ee bz<|m bz<|o2 pz cD<|i 20) qD j8 (gJ 112) N T [(2,0),(11,0),(45,1),(128,1)]) 111 (nj (eg 112 11) qD j8 (gJ 112) N (an (eg 59 11)<|eM lg 11<|ee cD gC) [(2,0),(11,0),(112,1),(59,1)])<|fj 159 (t<|k3 (eg 14 67) (b2 128 hn)<|v 111)<|fj 171 fS Z)<|I (an (mL 120<|i 3)<|c fI (eg 14 67)<|s "$end") (R<|gO (l<|k4 lz N (v 159)<|v 110) 171)<|lZ 120 (i 3) (fj 110 (gO (s "discard") 63)<|A 67 (hT fS) Z)<|A 120 (i 3)<|K [5,111,59,63]<|H (an (c j1 (gJ 128) cD)<|n<|yq fD fD bz (h (v 45) 229<|k2 (b2 128 hn) cD)<|o2 pz cD<|i 20) (fj 110 (ee (s "pop")<|vY<|v 128)<|X (vY<|v 134) Z)<|I (n<|yq fD fD bz (h (v 45) 229<|k2 (b2 128 hn) cD)<|o2 pz cD<|i 20) (R<|gO (y (c j1 (gJ 110)<|v 50) (iH B9)<|l<|k4 lz N (v 159)<|v 110) 171)<|fj 128 (h (v 45) 229<|k2 (b2 128 hn) cD)<|fj 134 (ee sb<|s "")<|fj 110 (ee sb<|b2 128 hn) Z) Z)<|b9 [5,40,111,53,59,123,63,66])<|R<|gO (iH B9) 171
def OD:=a9 [45,103,50] []<|A 14 (nj (i9 77 (v 38) (p (v 38)<|o1 sm fS) N) (gO fS 38) pG (v 103) N T [(2,0),(67,0),(38,0),(77,2),(15,2)])<|C (t<|k3 (v 170) (v 151) fX) (t<|k3 (i9 144 (v 45) (la 285<|oK 274 45)<|v 50) N N)<|fG (.AV fX (h (v 170) 116<|fQ 14) 91 151)<|ie xS 151 N (R<|iH B9)<|A 71 (y (a 94 223) (h (a 94 138) 70 e)<|a 94 138)<|R<|l<|k4 (a 94 223) (v 71) (hP (h (v 92) 70 e) (v 92) (a 94 159) N T [(2,0),(92,0)])<|a 94 110
def FC:=a9 [115,71] []<|I (an (c fI (gJ 71) gC)<|o1 ys<|b2 71 cD) (R<|iH<|b2 71 cD)<|iT 94 (y (c ry (ee (jA 71)<|o1 q6<|hP (jA 86) (v 86) (sl (v 71) cD N) N T [(2,0),(86,0)]) h6) l0<|iH<|s "?") (v 86) (sl (v 71) cD N) (A 94 (p fX<|fN 287 h6<|v 86)<|b9 [86])<|R fX
def Ph:=a9 [115] []<|iT 94 l0 (v 72) h6 (F (gO hk 123) h6 (I (an (eM lg 40 fX)<|c fI (hP pF pF (v 123) N (eM lg 52 fX) [(2,0),(52,0),(94,1)]) l0) (D fX hk Z)<|b9 [40,123])<|b9 [40,123,72])<|R fX
def Km:=a9 [115,103] []<|C (t<|k3 (v 90) (v 65)<|v 125) (t<|k3 (oK 263 115) l0<|iH<|t<|k4 (s "$") (oa<|s "s") bz bz)<|o8 fS (hT<|gJ 103) N (C (t<|k3 (v 41) (v 104)<|v 35) (t<|k3 (l8<|v 125) (o1 .dict<|hP (ee (v 62) T) (v 62) (v 125) N T [(2,0),(62,0)]) bz)<|K [125]<|H (eM fD 35<|gJ 41) (C (t<|k4 hk (v 123) (v 6)<|v 83) (eg 41 35)<|C (gO (v 35) 49) (ee (hT<|v 35) l0)<|J (eM fD 6<|gJ 123) (A 49 (hP (t<|k4 qD (v 114) bz fS) (gO qD 114) h6 N (mL 11<|eg 123 6) [(2,0),(11,0),(114,0),(6,1),(123,1),(67,1)])<|fc ry (eg 123 6) (v 90) (fj 49 (t<|k4 hk (v 123) (hT<|v 6)<|v 83) Z) Z) (ie fD 83 fS (fg 217 (hP qD qD (eg 65 83) N (an (c fD (b2 11 gC)<|ln<|b2 11 cD)<|c fI (x (b2 11 cD)<|b2 11 gC) hk) [(2,0),(11,0),(9,2),(40,1)]) 49 (hP (t<|k4 (jA 11) (b2 11 cD) (hT<|b2 11 gC)<|b2 11<|i 3) qD (v 217) N T [(2,0),(11,0)]) Z) Z)<|K [83,6,40,123,217]<|F qD (v 49) (ie lg 11 (v 104) (nC 104 11 T<|fj 41 qD Z)<|b9 [11])<|b9 [83,6,40,49,11,123,217])<|fj 65 (v 41)<|lZ 67 (gJ 103) (R<|ee fS<|c ry (t<|k4 (s "$") (oa<|s "s") cD bz)<|v 104)<|A 125 (hP (t<|k4 (jA 11) (b2 11 cD) (hT<|b2 11 gC)<|b2 11<|i 3) qD (v 41) N (c fI (sl (b2 11 cD) (b2 11 gC)<|hT<|b2 11 gC)<|oa<|eg 103 67) [(2,0),(11,0),(103,1),(67,1)])<|lZ 125 l0 (R<|ee fS lz)<|b9 [83,6,35,104,40,41,49,11,123,67,217])<|R<|ee bz lz
def zz:=a9 [45,115,103] []<|C (gO (v 7) 171) (f 299<|k4 (v 45) h6 (v 103)<|i 60)<|A 99 (i9 264 (v 45) (v 103)<|i 60)<|ie g0 99 (v 7) (R lz)<|lZ 99 (iH B9) (R T)<|fc g0 (nj fS fS jM cD (gJ 171) (c fD (m (eg 171 67)<|b2 171<|m fS cD)<|i 3) [(2,0),(67,0),(171,1)]) l0 (R lz)<|I (jA 99) (fg 132 (hP (v 69) (v 69) (fN 287 h6<|b2 99 cD) N (eM g0 69<|s "") [(2,0),(69,0)]) 127 (nj fS (gO fS 38) pG (v 103) N (c ry (p (v 38)<|o1 sm fS)<|v 132) [(2,0),(67,0),(38,0),(15,2),(132,1)])<|I (oo (c g0 (hP (p (eg 103 67)<|o1 sm fS) fS (v 127) N T [(2,0),(67,0),(15,2),(103,1)])<|v 132)<|c g0 (x (b2 99 cD) bz)<|s "s") (R lz) Z)<|K [127,132]<|C (gO (v 81) 235) (fN 265 h6<|v 103)<|A 232 (an (jA 99)<|c fI (b2 99 gC) l0)<|fc g0 (a 45 250) l0 (R<|oo (v 235)<|n<|v 232)<|R<|an (mL 232<|v 235)<|oo (v 235)<|c fI (sl (v 171) N cD)<|l<|fQ 81
def Lz:=a9 [175] []<|fg 13 (l<|k4 (l8<|sl (v 175) N<|i 63) bz bz<|o2 wc (o1 .abs<|o1 .sum<|sl (v 175) N<|i 63)<|i 1009) 115 (oK 266 13)<|fg 48 (x (ee (s "lalr")<|s "slr")<|fN 246 jd gC) 45 (i9 292 (fN 309 h6<|s "s") (v 48)<|c fI (fN 246 jd gC) cD)<|K [48,175]<|o8 (v 72) gC N (I (n<|i9 267 (v 45) h6<|fN 248 jd h6) (R lz)<|b9 [72])<|R T
end
def iS:=[
 (376,Oo),(340,L4),(24,PH),(180,NT),(239,RT),(230,Ni),(289,KI),(301,QG),(281,QZ),(390,KN),(352,OM),(377,MC),(359,NH),(347,SF),(348,Oq),(318,Pe),(316,N7),(313,NG),(399,Rg),(369,Pa),(385,RC),(393,RG),(370,Qj),(358,Mx),(84,Pw),(199,Qp),(403,Qx),(417,MH),(412,QV),(416,SW),(407,MU),(415,R7),(224,R1),(273,R6),(257,Rv),(382,KV),(384,Mt),(346,O8),(367,Qr),(366,NU),(375,Rr),(365,N9),(383,K2),(410,PF),(394,O2),(408,NX),(409,Qd),(392,SV),(176,Ow),(396,Ma),(414,SS),(356,LN),(400,MN),(268,Ko),(218,SM),(32,NL),(291,QX),(279,Oh),(292,Ri),(196,MD),(372,OV),(338,Q6),(391,Sk),(397,Q5),(404,Qa),(360,Mr),(332,Kv),(349,Nn),(335,QY),(329,Hm),(334,Rj),(327,Sv),(371,Kf),(387,Ss),(328,QE),(336,Rf),(341,R4),(330,RZ),(337,SU),(342,RD),(333,SJ),(361,Rc),(378,QS),(326,n_),(386,NM),(380,Ob),(353,RH),(345,Sw),(343,Qs),(413,Ou),(355,Mw),(339,RI),(354,Ms),(381,Lq),(344,JU),(374,Nh),(395,S3),(364,KL),(388,Qe),(406,M8),(402,L8),(389,N1),(350,Mv),(379,Su),(373,RO),(362,Q1),(308,KS),(309,Qw),(368,O4),(357,Nu),(331,Mm),(363,My),(351,Lm),(256,LF),(411,Pp),(398,Ly),(401,L1),(405,MB),(274,PQ),(246,SI),(247,PU),(266,LB),(305,GO),(248,MV),(299,Hz),(264,OD),(287,FC),(263,Ph),(265,Km),(267,zz),(8,Lz)]
noncomputable def tN:=[
 (77,376),(192,390),(143,377),(244,399),(188,385),(260,403),(145,382),(219,394),(284,408),(220,396),(75,372),(193,391),(221,397),(18,360),(189,386),(144,380),(21,364),(190,388),(22,368),(19,363),(285,411)]
noncomputable def Ai:=[
 (77,[(70,340)]),(192,[(34,352)]),(143,[(187,359),(79,347),(87,348)]),(244,[(34,369)]),(188,[(254,393),(157,370),(85,358)]),(260,[(325,417),(270,412),(306,416),(255,407),(302,415)]),(145,[(243,384),(40,346),(164,367),(149,366),(198,375),(146,365),(228,383),(307,410)]),(219,[]),(284,[(243,384),(40,346),(164,367),(149,366),(198,375),(146,365),(228,383),(307,410),(229,409),(34,392)]),(220,[(310,414),(14,356),(250,400)]),(75,[(70,338)]),(193,[]),(221,[(275,404)]),(18,[(82,332),(212,349),(116,335),(58,329),(113,334),(44,327),(252,371),(294,387),(54,328),(118,336),(160,341),(68,330),(126,337),(172,342),(96,333),(228,361),(280,378),(31,326)]),(189,[]),(144,[(82,353),(212,349),(116,335),(58,329),(113,334),(44,345),(252,371),(294,387),(54,328),(118,336),(160,341),(68,330),(126,355),(172,342),(96,354),(228,381),(280,378),(31,344),(29,343),(315,413),(5,339),(213,374),(269,395)]),(21,[]),(190,[(303,406),(290,402),(242,389),(36,350),(214,379),(156,373),(80,362)]),(22,[(205,357),(70,331)]),(19,[(205,351),(70,331)]),(285,[(126,398),(172,401),(213,405)])]
noncomputable def ti:=[
 (284,[382]),(144,[360,332,361,333,327,337])]
noncomputable def oN:=[
 (77,[38,69,3,140]),(192,[168,163,183,102,110,277]),(143,[201,161]),(244,[201,181]),(188,[201,153,181,209]),(260,[249,253,295,100,155,122,231,136,237,276,301,109]),(145,[112,317,106,207,194,227,209]),(219,[130,243,17,124,152]),(284,[112,317,106,207,194,227,209,201,60,97,250,215,48]),(220,[201,168,177,97,107,148,215]),(75,[133,130,228,100]),(193,[223,138,159,110]),(221,[185,3]),(18,[184,202,50,43,181,186,166,88,147,138,159,110]),(189,[170]),(144,[184,202,50,43,181,186,166,88,147,138,159,110,203,197,182,74,234]),(21,[168,40,123,236,146,41,149]),(190,[112,317,124,165,158,129,195,210,169,272]),(22,[52,61,226]),(19,[52,61,226,133]),(285,[112])]
noncomputable def Fw:=[
 (20,ag<| -1),(141,ag 1048576),(142,ag<| -1048576),(259,ag 0),(297,ag 1),(322,ag 2),(258,ag 0),(296,ag 1),(321,ag 2),(76,ag 3),(283,ag 0),(304,aR [aG "$end",aG "error",aG "$undefined"]),(286,aR [aR [aR [aG "s",aR []],aR [aG "s",aR [aG "s",aG "t",aG "b"]],aR [aG "s",aR [aG "s",aG "error",aG "b"]],aR [aG "t",aR [aG "a"]],aR [aG "t",aR [aG "t",aG "c",aG "a"]]],aR [aR [aG "s",aR [aG "a"]],aR [aG "s",aR [aG "b",aG "t",aG "c"]],aR [aG "s",aR [aG "b",aG "error",aG "c"]],aR [aG "t",aR []],aR [aG "t",aR [aG "t",aG "s"]]],aR [aR [aG "s",aR [aG "a"]],aR [aG "s",aR [aG "error"]],aR [aG "s",aR [aG "s",aG "c",aG "t"]],aR [aG "t",aR [aG "b"]],aR [aG "t",aR [aG "b",aG "error"]]],aR [aR [aG "s",aR [aG "a"]],aR [aG "s",aR [aG "error",aG "a"]],aR [aG "s",aR [aG "b",aG "s",aG "c"]],aR [aG "s",aR [aG "b",aG "error",aG "b"]],aR [aG "s",aR [aG "t",aG "s"]],aR [aG "t",aR [aG "c"]],aR [aG "t",aR [aG "error",aG "c"]]]])]
noncomputable def ahk:=[
 (376,222),(340,70),(390,222),(352,34),(377,222),(359,187),(347,79),(348,87),(399,222),(369,34),(385,222),(393,254),(370,157),(358,85),(403,222),(417,325),(412,270),(416,306),(407,255),(415,302),(382,222),(384,243),(346,40),(367,164),(366,149),(375,198),(365,146),(383,228),(410,307),(394,222),(408,222),(409,229),(392,34),(396,222),(414,310),(356,14),(400,250),(372,222),(338,70),(391,222),(397,222),(404,275),(360,222),(332,82),(349,212),(335,116),(329,58),(334,113),(327,44),(371,252),(387,294),(328,54),(336,118),(341,160),(330,68),(337,126),(342,172),(333,96),(361,228),(378,280),(326,31),(386,222),(380,222),(353,82),(345,44),(343,29),(413,315),(355,126),(339,5),(354,96),(381,228),(344,31),(374,213),(395,269),(364,222),(388,222),(406,303),(402,290),(389,242),(350,36),(379,214),(373,156),(362,80),(368,222),(357,205),(331,70),(363,222),(351,205),(411,222),(398,126),(401,172),(405,213)]
noncomputable def cm{a:Type}:aa (O×a)->O->bf a
|[],_=>A|(y,v)::r,x=>aD (aE y x) (J v)<|cm r x
def jt(t:aa<|O×aa O)(c f:O):=(cm t c).any λt=>t.any<|aE f
inductive m2 where
|list (a:aa ai)|dict (b:aa<|ai×ai) (n:O)|inst (c:O) (d:aW)
abbrev aT:=O->bf m2
noncomputable def aT.dm(a:aT)(b:O)(o:m2):aT:=λc=>aD (aE c b) (J o)<|a c
noncomputable def cu:=16777216
noncomputable def cW:aW->O->bf ai
|ar,_=>A| .c y v r,x=>aD (aE y x) (J v)<|cW r x
noncomputable def ey:aW->O->ai->aW
|ar,x,v=> .c x v ar| .c y a r,x,v=>aD (aE y x) (.c x v r)<| .c y a<|ey r x v
noncomputable def kY:aW->O->aW
|ar,_=>ar| .c y a r,x=>aD (aE y x) (kY r x)<| .c y a<|kY r x
noncomputable def aW.iW:aW->O
|ar=>0| .c _ _ r=>r.iW+1
noncomputable def D3(a:ai->ai->Prop):aW->aW->Prop
|ar,l=>l=ar| .c x v r,l=>∃b s,l= .c x b s/\a v b/\D3 a r s
noncomputable def q3:aa O->aa ai->aW
|[],_=>ar|_,[]=>ar|x::r,v::s=> .c x v<|q3 r s
def bE{a:Type}(o:bf a)(b:a->Prop):=match o with
|some a=>b a|none=>bW
def dH(t)(a B:Prop):=match t with
|true=>a|false=>B
noncomputable def n7(v):=ai.casesOn (motive_1:=λZ=>bf au) v A (λZ=>A) J (λZ=>A) (λZ=>A) (λZ=>A) (λZ=>A) (λZ Z=>A) λZ=>A
noncomputable def vf(v):=ai.casesOn (motive_1:=λZ=>bf bo) v A (λZ=>A) (λZ=>A) J (λZ=>A) (λZ=>A) (λZ=>A) (λZ Z=>A) λZ=>A
noncomputable def GZ(v):=ai.casesOn (motive_1:=λZ=>bf<|aa ai) v A (λZ=>A) (λZ=>A) (λZ=>A) J (λZ=>A) (λZ=>A) (λZ Z=>A) λZ=>A
noncomputable def Ys(v):=ai.casesOn (motive_1:=λZ=>bf O) v A (λZ=>A) (λZ=>A) (λZ=>A) (λZ=>A) (λZ=>A) (λZ=>A) (λZ Z=>A) J
def qO(v:ai):=aE v.ctorIdx 0
noncomputable def mW(o):=ez o λo=>m2.casesOn (motive:=λZ=>bf<|aa ai) o J (λZ Z=>A) λZ Z=>A
noncomputable def l5(o):=ez o λo=>m2.casesOn (motive:=λZ=>bf<|aa (ai×ai)×O) o (λZ=>A) (λa n=>J (a,n)) λZ Z=>A
noncomputable def L3(o):=ez o λo=>m2.casesOn (motive:=λZ=>bf<|O×aW) o (λZ=>A) (λZ Z=>A) λc a=>J (c,a)
def EV(a:aT)(v):=ai.casesOn (motive_1:=λZ=>bf<|aa ai) v A (λZ=>A) (λZ=>A) (λZ=>A) (λZ=>A) J (λZ=>A) (λZ Z=>A) λb=>mW<|a b
def eQ(a:aT)(v):=ai.casesOn (motive_1:=λZ=>bf<|aa ai) v A (λZ=>A) (λZ=>A) (λZ=>A) J J (λZ=>A) (λZ Z=>A) λb=>mW<|a b
def pP(a:aT)(v):=ai.casesOn (motive_1:=λZ=>bf<|aa<|ai×ai) v A (λZ=>A) (λZ=>A) (λZ=>A) (λZ=>A) (λZ=>A) J (λZ Z=>A) λb=>b4 (·.1)<|l5<|a b
noncomputable def dg(s):=CB s
noncomputable def toPs(f:ai->bf Hn):aa ai->bf (aa Hn)
|[]=>J []|x::r=>ez (f x) λd=>b4 (d::·)<|toPs f r
noncomputable def toP:O->ai->bf Hn
|0,_=>A|n+1,v=>ai.casesOn (motive_1:=λZ=>bf Hn) v (J .none) (λb=>J<| .bool b) (λa=>J<| .int a) (λs=>J<| .str<|dg s) (λc=>(toPs (toP n) c).map .tuple) (λc=>(toPs (toP n) c).map .list) (λZ=>A) (λZ Z=>A) λZ=>A
def xB(n)(a v):=ez (toP n a) λa=>(toP n v).map λb=>sj a b
noncomputable def xw:=200
def qE(a b):=if U a=U b then xB xw (aN a) (aN b) else J u
noncomputable def vJ(n:O)(a:au):=
if 0<=a then(if a<n then J (cM a) else A) else(if 0<=a+n then J (cM<|a+n) else A)
noncomputable def CO(n:O)(v)(d):=ai.casesOn (motive_1:=λZ=>bf O) v (J d) (λZ=>A) (λa=>J (if a<0 then cM (a+n) else min (cM a) n)) (λZ=>A) (λZ=>A) (λZ=>A) (λZ=>A) (λZ Z=>A) λZ=>A
noncomputable def gK{a:Type}(b:aa a)(lo c):=(aF c b).drop lo
noncomputable def Zy(f)(v):=ai.casesOn (motive_1:=λZ=>ba) v u (λZ=>u) (λZ=>Q) (λZ=>Q) f (λZ=>u) (λZ=>u) (λZ Z=>u) λZ=>u
noncomputable def US:O->aa ai->ba
|0,_=>u|n+1,a=>cS a<|Zy<|US n
abbrev kU(n:O):ai->Bool:=Zy<|US n
def gz(v):=kU 3 v
noncomputable def kj(v):=ai.casesOn (motive_1:=λZ=>O) v 0 (λZ=>0) (λZ=>1) (λZ=>2) (λZ=>3) (λZ=>0) (λZ=>0) (λZ Z=>0) λZ=>0
def ip(a:aa<|ai×ai)(k):=gz k=Q/\∀e∈a,kj e.1=kj k
section
open Classical
noncomputable def dV:aa (ai×ai)->ai->bf ai
|[],_=>A|e::r,x=>if e.1=x then J e.2 else dV r x
noncomputable def eW:aa (ai×ai)->ai->ai->aa (ai×ai)
|[],x,v=>[(x,v)]|e::r,x,v=>if e.1=x then(e.1,v)::r else e::eW r x v
def WJ:dV (e::r) x=if e.1=x then J e.2 else dV r x:=Y
def Ro:eW (e::r) x v=if e.1=x then(e.1,v)::r else e::eW r x v:=Y
def nr(x)(a:aa ai):=if gz x=Q/\∀y∈a,gz y=Q then J (@decide (x∈a) (propDecidable _)) else A
end
noncomputable def vQ:aa ai->bf (aa bo)
|[]=>J []|v::r=>ez (vf v) λs=>b4 (s::·)<|vQ r
noncomputable def oj:aa ai->bf (aa au)
|[]=>J []|v::r=>ez (n7 v) λa=>b4 (a::·)<|oj r
noncomputable def tG(x:au):aa au->aa au
|[]=>[x]|y::r=>if x<=y then x::y::r else y::tG x r
def V_:tG x (y::r)=if x<=y then x::y::r else y::tG x r:=Y
noncomputable def Ee:aa au->aa au
|[]=>[]|x::r=>tG x<|Ee r
noncomputable def g7(s:bo):aa bo->bf O
|[]=>A|t::r=>if t=s then J 0 else b4 (·+1)<|g7 s r
def afK:g7 s (t::r)=if t=s then J 0 else b4 (·+1) (g7 s r):=Y
noncomputable def ο:aa ai->bf (ai×ai)
|[]=>A|k::r=>r.casesOn A λv r=>r.casesOn (J (k,v)) λZ Z=>A
noncomputable def yD:aa ai->bf (aa<|ai×ai)
|[]=>J []|x::r=>ez (ez (GZ x) ο) λp=>b4 (p::·)<|yD r
@[irreducible] noncomputable def nx(a j:au):=@decide (a<j) (oi _)
@[irreducible] noncomputable def uT(a j:au):=@decide (a<=j) (oi _)
@[irreducible] noncomputable def eX(a j:au):=@decide (a=j) (oi _)
@[irreducible] noncomputable def ng(a j:bo):=@decide (a=j) (oi _)
def Yc{b:Type}(a:b):∃x,x=a:=cL a rfl
noncomputable def ij(a:b):=OE<|Yc a
def iP(a:b):ij a=a:=NS<|Yc a
abbrev QT:=ai->aT->Prop
def v_(a:aT)(b)(c:QT):=∀n d,a d=A->c (aj d) (a.dm d<| .dict b n)
@[irreducible] def Aw:=ij v_
def Uo:Aw=v_:=by unfold Aw;exact iP _
def Uy(a:aT)(o)(b:QT):=∀c,a c=A->b (aj c) (a.dm c o)
@[irreducible] def iD:=ij Uy
def Y4:iD=Uy:=by unfold iD;exact iP _
def Mn(o)(K):=bE (mW o) K
@[irreducible] def nh:=ij Mn
def ze:nh=Mn:=by unfold nh;exact iP _
def Vt(o)(a:aa (ai×ai)->Prop):=bE (l5 o) λp=>a p.1
@[irreducible] def yu:=ij Vt
def JY:yu=Vt:=by unfold yu;exact iP _
def Zf(o)(a:O->aW->Prop):=bE (L3 o) λp=>a p.1 p.2
@[irreducible] def s3:=ij Zf
def Fc:s3=Zf:=by unfold s3;exact iP _
def dj(a:aT)(v)(K):=ai.casesOn (motive_1:=λZ=>Prop) v bW (λZ=>bW) (λZ=>bW) (λZ=>bW) (λZ=>bW) K (λZ=>bW) (λZ Z=>bW) λb=>nh (a b) K
def kN(a)(v)(K):=ai.casesOn (motive_1:=λZ=>Prop) v (dj a v K) (λZ=>dj a v K) (λZ=>dj a v K) (λZ=>dj a v K) K (λZ=>dj a v K) (λZ=>dj a v K) (λZ Z=>dj a v K) λZ=>dj a v K
def tM(a:aT)(v)(K):=ai.casesOn (motive_1:=λZ=>Prop) v bW (λZ=>bW) (λZ=>bW) (λZ=>bW) (λZ=>bW) (λZ=>bW) K (λZ Z=>bW) λb=>yu (a b) K
def rk(a:aT)(v)(K):=ai.casesOn (motive_1:=λZ=>Prop) v bW (λZ=>bW) (λZ=>bW) (λZ=>bW) (λZ=>bW) (λZ=>bW) (λZ=>bW) K λb=>s3 (a b) K
def wW(a:aT)(v)(b:O->aa ai->Prop):=bE (Ys v) λc=>nh (a c)<|b c
def kE(a:ba->Prop):aa ai->Prop:=λb=>a<| !uO b
def mV(a)(v)(K):=ai.casesOn (motive_1:=λZ=>Prop) v (K u) K (λb=>K<| !eX b 0) (λZ=>kN a v<|kE K) (λZ=>kN a v<|kE K) (λZ=>kN a v<|kE K) (λZ=>kN a v<|kE K) (λZ Z=>kN a v<|kE K) λZ=>kN a v<|kE K
def Qz(a:aa ai)(b:ba->Prop):aa ai->Prop:=λc=>bE (qE a c) b
def kQ1(b:ai)(a:aT)(c:ba->Prop):aa ai->Prop:=λd=>dj a b<|Qz d c
def sJ(a)(b c)(d):=dj a b<|kQ1 c a d
def Ng(c b)(d)(a):=ai.casesOn (motive_1:=λZ=>Prop) c (sJ d c b a) (λe=>bE (xB xw (bT e) b) a) (λe=>bE (n7 b) λj=>a<|eX e j) (λe=>bE (vf b) λj=>a<|ng e j) (λe=>bE (xB xw (aR e) b) a) (λZ=>sJ d c b a) (λZ=>sJ d c b a) (λZ Z=>sJ d c b a) λZ=>sJ d c b a
def inR(a)(b)(o):=Option.casesOn (motive:=λZ=>Prop) o bW λo=>m2.casesOn (motive:=λZ=>Prop) o (λc=>bE (nr a c) b) (λd Z=>ip d a/\b (d7<|dV d a)) λZ Z=>bW
def Mo(a c)(d:aT)(b):=ai.casesOn (motive_1:=λZ=>Prop) c bW (λZ=>bW) (λZ=>bW) (λZ=>bW) (λe=>bE (nr a e) b) (λe=>bE (nr a e) b) (λf=>ip f a/\b (d7<|dV f a)) (λZ Z=>bW) λr=>inR a b<|d r
@[irreducible] def mX:=ij Mo
def q8:mX=Mo:=by unfold mX;exact iP _
def i2(a b)(c:au->au->Prop):=bE (n7 a) λd=>bE (n7 b) λj=>c d j
def VO(a:ba->Prop):ba->Prop:=λr=>a<| !r
def Pr(f)(a b:ai)(d:aT)(c:ba->Prop):=match f with
|fI=>Ng a b d c|g0=>Ng a b d<|VO c|ry=>mX a b d c|lg=>mX a b d<|VO c|uq=>qO b=Q/\c (qO a)|xS=>qO b=Q/\c (!qO a)|fD=>i2 a b λe j=>c<|nx e j|HJ=>i2 a b λe j=>c<|uT e j|j1=>i2 a b λe j=>c<|nx j e|uN=>i2 a b λe j=>c<|uT j e
def adN(a:aa ai)(b:aT)(c:QT):aa ai->Prop:=λd=>U a+U d<=cu/\iD b (.list<|a++d) c
def AY(b:ai)(a:aT)(c:QT):aa ai->Prop:=λd=>dj a b<|adN d a c
def ale(d b)(a)(c):=ai.casesOn (motive_1:=λZ=>Prop) d (dj a d<|AY b a c) (λZ=>dj a d<|AY b a c) (λe=>bE (n7 b) λj=>c (ag<|e+j) a) (λs=>bE (vf b) λt=>ml (s++t)<=4096/\c (aG<|s++t) a) (λf=>bE (GZ b) λg=>U f+U g<=cu/\c (aR<|f++g) a) (λZ=>dj a d<|AY b a c) (λZ=>dj a d<|AY b a c) (λZ Z=>dj a d<|AY b a c) λZ=>dj a d<|AY b a c
def vq(b)(c)(d)(a):=bE (n7 b) λn=>bE (a[0]?) λx=>(U a=1/\0<=n/\cM n<=cu)/\iD c (.list<|dM (cM n) x) d
def ajc(b c)(a)(d):=ai.casesOn (motive_1:=λZ=>Prop) b (dj a b<|vq c a d) (λZ=>dj a b<|vq c a d) (λe=>bE (n7 c) λj=>qP e<4611686018427387904/\d (ag<|e*j) a) (λZ=>dj a b<|vq c a d) (λZ=>dj a b<|vq c a d) (λZ=>dj a b<|vq c a d) (λZ=>dj a b<|vq c a d) (λZ Z=>dj a b<|vq c a d) λZ=>dj a b<|vq c a d
def kI1(a:QT)(k:au)(b:aT):aa ai->Prop:=λc=>bE (vJ (U c) k) λn=>bE (c[n]?) λx=>a x b
def kI2(b:QT)(a:ai)(c:aT):aa (ai×ai)->Prop:=λd=>ip d a/\bE (dV d a) λx=>b x c
def M'(o b)(a)(c):=∀G:Prop,(∀k,b=ag k->kN a o (kI1 c k a)->G)->(tM a o (kI2 c b a)->G)->
(∀s k d,o=aG s->b=ag k->0<=k->k<64->s.toList[cM k]?=J d->c (aG<|qa [d]) a->G)->G
@[irreducible] def ko:=ij M'
def E9:ko=M':=by unfold ko;exact iP _
def S_(a b)(c)(d:QT):=i2 a b λe j=>d (ag<|e-j) c
@[irreducible] def xF:=ij S_
def Mq:xF=S_:=by unfold xF;exact iP _
def ZQ(f)(a b:ai)(c:aT)(d:QT):=match f with
|Go=>ale a b c d|Fq=>xF a b c d|qm=>ajc a b c d|xi=>i2 a b λe j=>0<j/\d (ag<|e/j) c|wc=>i2 a b λe j=>0<j/\d (ag<|e%j) c|pz=>i2 a b λe j=>(e=1/\0<=j/\j<4096)/\d (ag ((2^cM j:O):au)) c|DT=>i2 a b λe j=>(0<=e/\0<=j/\j<4096)/\d (ag ((cM e>>>cM j:O):au)) c|z1=>i2 a b λe j=>(0<=e/\0<=j)/\d (ag ((cM e&&&cM j:O):au)) c|me=>i2 a b λe j=>(0<=e/\0<=j)/\d (ag ((cM e|||cM j:O):au)) c|BY=>i2 a b λe j=>(e=10/\j=18)/\d (ag 1000000000000000000) c|AX=>i2 a b λe j=>d (ag<|max e j) c|kW=>ko a b c d
def Cm(a:aT)(v:ai):bf (aa ai):=match eQ a v with
|some b=>J b|none=>b4 (·.map (·.1))<|pP a v
def akL(v)(a)(b:QT):=bE (n7 v) λc=>(0<=c/\c<=cu)/\b (aG<|toString c) a
def w!(v)(a)(b:QT):=ai.casesOn (motive_1:=λZ=>Prop) v bW (λZ=>bW) (λZ=>bW) (λZ=>b (bT Q) a) (λZ=>b (bT u) a) (λZ=>bW) (λZ=>bW) (λZ Z=>bW) λZ=>bW
def OO(v)(a)(b):=bE (Cm a v) λc=>bE (oj c) λd=>U d<64/\iD a (.list<|R ag<|Ee d) b
@[irreducible] def Fd:=ij OO
def TM:Fd=OO:=by unfold Fd;exact iP _
def SA(a:QT)(b:aT):aa ai->Prop:=λc=>a (ag<|U c) b
def WR(a:QT)(b:aT):aa ai->Prop:=λc=>iD b (.list c) a
def UJ(a:QT)(b:aT):aa ai->Prop:=λc=>a (aR c) b
def kRe(a:QT)(b:aT):aa ai->Prop:=λc=>iD b (.list<|f3 c) a
def P'(a:QT)(b:aT):aa ai->Prop:=λc=>bE (oj c) λd=>a (ag d.sum) b
def RY(f:AD)(v:ai)(a:aT)(b:QT):Prop:=match f with
| .neg=>bE (n7 v) λc=>b (ag<| -c) a| .len=>kN a v<|SA b a| .abs=>bE (n7 v) λc=>b (ag<|qP c) a| .sum=>dj a v<|P' b a|sm=>akL v a b|ys=>w! v a b| .list=>kN a v<|WR b a|q6=>dj a v<|UJ b a|Dy=>Fd v a b| .dict=>dj a v λd=>bE (yD d) λe=>(U e<=cu/\∀g∈e,kj g.1=3/\gz g.1=Q)/\Aw a (e.foldl (λd g=>eW d g.1 g.2) []) b| .rev=>dj a v<|kRe b a
def NR(f)(v:ai)(b:aT)(a:Prop):=match f with
|il=>wW b v λZ Z=>a|j8=>wW b v λZ Z=>a|jM=>dj b v λZ=>a|pI=>tM b v λZ=>a|pG=>bE (vf v) λZ=>a
@[irreducible] def pD:=ij NR
def rF:pD=NR:=by unfold pD;exact iP _
def Yu(f)(v b:ai)(a:aT)(c:QT):=match f with
|il=>wW a v λd e=>U e<cu/\c bk (a.dm d<| .list<|e++[b])|j8=>wW a v λd e=>dj a b λg=>(U e+U g<=cu/\b≠v)/\c bk (a.dm d<| .list<|e++g)|jM=>dj a v λe=>bE (vf b) λs=>bE (vQ e) λh=>bE (g7 s h) λk=>c (ag k) a|pI=>tM a v λj=>ip j b/\c (dN (dV j b) bk) a|pG=>bE (vf v) λs=>bE (vf b) λp=>c (bT<|Ew (h8 p)<|h8 s) a
@[irreducible] def lI:=ij Yu
def pU:lI=Yu:=by unfold lI;exact iP _
def c_(v)(a)(b:QT):=wW a v λc d=>bE (cG d) λx=>b x<|a.dm c<| .list<|kx d
@[irreducible] def AP:=ij c_
def YV:AP=c_:=by unfold AP;exact iP _
def kGe(k d:ai)(a:QT)(b:aT):aa (ai×ai)->Prop:=λc=>ip c k/\a (dN (dV c k) d) b
def Χ(v k d)(a)(b):=tM a v<|kGe k d b a
def AJ(a)(lo b)(c:aa ai->Prop):=bE (CO (U a) lo 0) λd=>bE (CO (U a) b<|U a) λb=>c<|gK a d b
@[irreducible] def mi:=ij AJ
def yE:mi=AJ:=by unfold mi;exact iP _
def y4(lo a:ai)(b:QT)(c:aT):aa ai->Prop:=λd=>mi d lo a<|WR b c
def U'(o lo b)(a)(c):=ai.casesOn (motive_1:=λZ=>Prop) o (dj a o<|y4 lo b c a) (λZ=>dj a o<|y4 lo b c a) (λZ=>dj a o<|y4 lo b c a) (λs=>(qO lo=Q/\b=ag 1)/\c (aG<|qa<|aF 1<|h8 s) a) (λd=>mi d lo b<|UJ c a) (λZ=>dj a o<|y4 lo b c a) (λZ=>dj a o<|y4 lo b c a) (λZ Z=>dj a o<|y4 lo b c a) λZ=>dj a o<|y4 lo b c a
def S8(o b v)(a)(c:aT->Prop):=∀G:Prop,(∀k,b=ag k->0<=k->(wW a o λd e=>k<U e/\c (a.dm d<| .list<|c2 e (cM k) v))->G)->
(∀d f n,o=aj d->a d=J (.dict f n)->ip f b->U f<cu->(∀n,c<|a.dm d<| .dict (eW f b v) n)->G)->G
@[irreducible] def qe:=ij S8
def SG:qe=S8:=by unfold qe;exact iP _
def ZX(o)(n)(v)(a:aT)(b:aT->Prop):=∀G:Prop,(∀c d e,o=aj c->a c=J (.inst d e)->jt oN d n=Q->e.iW<=60->b (a.dm c<| .inst d<|ey e n v)->G)->G
@[irreducible] def Bn:=ij ZX
def e':Bn=ZX:=by unfold Bn;exact iP _
abbrev og:=aT->bf (aa ai)
def w6(a:aT)(v):=ai.casesOn (motive_1:=λZ=>O) v 0 (λZ=>0) (λZ=>0) (λZ=>0) (λZ=>0) (λZ=>0) (λZ=>0) (λZ Z=>0) λb=>dN (b4 (·.2)<|l5<|a b) 0
def qV(b)(v)(a):=if w6 a v=w6 b v then b4 (·.map (·.1)) (pP a v) else A
def tJ(a):= -4611686018427387904<=a/\a<4611686018427387904
noncomputable def m6(lo a):=(e4<|cM<|a-lo).map λ(k:O)=>ag<|lo+(k:au)
noncomputable def qi(a:aa ai):=a.zipIdx.map λp=>aR [ag p.2,p.1]
def Wf(b)(a)(c:og->aa ai->Prop):=∀G:Prop,(kN a b (c λa=>eQ a b)->G)->((tM a b λd=>c (qV a b)<|R (·.1) d)->G)->G
@[irreducible] def w9:=ij Wf
def Kh:w9=Wf:=by unfold w9;exact iP _
def kIr(a:ai)(b:og->aa ai->Prop):aa ai->Prop:=λc=>b (λd=>b4 f3<|eQ d a)<|f3 c
def ť(a:ai)(b:og->aa ai->Prop):aa ai->Prop:=λc=>b (λd=>b4 qi<|EV d a)<|qi c
def Il(k)(a d:ai)(c:aT)(b:og->aa ai->Prop):=match k with
|il=>w9 a c b|j8=>bE (n7 a) λe=>tJ e/\b (λZ=>J<|m6 0 e) (m6 0 e)|jM=>i2 a d λe j=>(tJ e/\tJ j)/\b (λZ=>J<|m6 e j) (m6 e j)|pI=>kN c a<|kIr a b|pG=>dj c a<|ť a b
abbrev PT:=O->aa ai->aT->QT->(aT->Prop)->Prop
abbrev sd:=aW->ai->aT->(aW->aT->Prop)->Prop
noncomputable def E6(c:aW->aT->(ba->aT->Prop)->Prop)(d:aW->aT->QT->Prop)(e:sd)(b:og)(all:aa ai)(l:aW)(a:O):aa ai->aa ai->aT->(aT->Prop)->Prop
|[],_,f,K=>K f|x::r,g,f,K=>e l x f λh f=>c h f λt f=>
 dH t (d h f λv f=>((f a=J (.list g)/\U g<cu)/\b (f.dm a<| .list<|g++[v])=J all)/\E6 c d e b all l a r (g++[v]) (f.dm a<| .list<|g++[v]) K)
  ((f a=J (.list g)/\b f=J all)/\E6 c d e b all l a r g f K)
def j?(c)(d)(e)(b)(all)(l)(a:aT)(f:QT):=
∀g,a g=A->b (a.dm g<| .list [])=J all/\E6 c d e b all l g all [] (a.dm g<| .list []) λa=>f (aj g) a
@[irreducible] def yN:=ij j?
def ZP:yN=j?:=by unfold yN;exact iP _
def kT(a B:Prop):ba->Prop:=λt=>dH t a B
noncomputable def su:aa (O×O)->aW->aW
|[],l=>l|p::r,l=>aD (aE p.2 0) (su r<|kY l p.1)<|su r l
abbrev ET:=aW->aT->QT->Prop
abbrev LT:=aW->aT->Prop
abbrev VT:=aa ai->aT->Prop
abbrev ST:=aW->aT->VT->Prop
def γ(f:ET)(l:aW)(a:QT):QT:=λv b=>mV b v<|kT (f l b a)<|a v b
def kOr(f:ET)(l:aW)(a:QT):QT:=λv b=>mV b v<|kT (a v b)<|f l b a
def kNt(a:QT)(b:aT):ba->Prop:=λt=>a (bT<| !t) b
def ach(a:QT):QT:=λv b=>mV b v<|kNt a b
def ahm(f g:ET)(l:aW)(a:QT):QT:=λv b=>mV b v<|kT (f l b a)<|g l b a
def Zg(o:AD)(a:QT):QT:=λv b=>RY o v b a
def Tv(o:MG)(a:ai)(b:QT):QT:=λv c=>ZQ o a v c b
def kOp(o:MG)(f:ET)(l:aW)(a:QT):QT:=λb c=>f l c<|Tv o b a
def kB(a:QT)(b:aT):ba->Prop:=λr=>a (bT r) b
def R'(o:yS)(a:ai)(b:QT):QT:=λv c=>Pr o a v c<|kB b c
def kCm(o:yS)(f:ET)(l:aW)(a:QT):QT:=λb c=>f l c<|R' o b a
def kD3(o p:yS)(g:ET)(b:ai)(l:aW)(a:QT):QT:=λv c=>Pr o b v c λr=>dH r (g l c<|R' p v a)<|a (bT u) c
def kD2(o p:yS)(f g:ET)(l:aW)(a:QT):QT:=λb c=>f l c<|kD3 o p g b l a
def kS3(o a:ai)(b:QT):QT:=λv c=>U' o a v c b
def kS2(o:ai)(g:ET)(l:aW)(a:QT):QT:=λb c=>g l c<|kS3 o b a
def kS1(f g:ET)(l:aW)(a:QT):QT:=λo b=>f l b<|kS2 o g l a
def aiT(a:QT):VT:=λb c=>iD c (.list b) a
def akz(a:QT):VT:=λb c=>a (aR b) c
def kA(n:O)(a:QT)(b:aT):O->aW->Prop:=λZ c=>bE (cW c n) λd=>a d b
def kAt(n:O)(a:QT):QT:=λv b=>rk b v<|kA n a b
def Xa(a:QT):QT:=λv b=>AP v b a
def kM2(o:rA)(v:ai)(a:QT):QT:=λb c=>lI o v b c a
def ż(o:rA)(f:ET)(l:aW)(a:QT):QT:=λv b=>pD o v b<|f l b<|kM2 o v a
def kG3(v k:ai)(a:QT):QT:=λd b=>Χ v k d b a
def kG2(v:ai)(g:ET)(l:aW)(a:QT):QT:=λk b=>g l b<|kG3 v k a
def kG0(a:Prop):aa (ai×ai)->Prop:=λZ=>a
def kG1(f g:ET)(l:aW)(a:QT):QT:=λv b=>tM b v<|kG0<|f l b<|kG2 v g l a
def afR(a:PT)(b:aT->Prop)(f:O)(c:QT):VT:=λd e=>a f d e c b
def Vp(a:PT)(b:aT->Prop)(f:O)(v:ai)(c:QT):VT:=λd e=>a f (v::d) e c b
def kMf(a:PT)(b:aT->Prop)(g:ST)(m:O)(l:aW)(c:QT)(v:ai)(d:aT):O->aW->Prop:=λe Z=>bE (cm Ai e) λt=>bE (cm t m) λf=>g l d<|Vp a b f v c
def kMe(a:PT)(b:aT->Prop)(g:ST)(m:O)(l:aW)(c:QT):QT:=λv d=>rk d v<|kMf a b g m l c v d
def al5(a:ba->aT->Prop)(b:aT):ba->Prop:=λt=>a t b
def kTs(a:ba->aT->Prop):QT:=λv b=>mV b v<|al5 a b
def H5(f:ET):aW->aT->(ba->aT->Prop)->Prop:=λl a b=>f l a<|kTs b
def X4(c e:ET)(t:sd)(l:aW)(a:aT)(b:QT):og->aa ai->Prop:=λd f=>yN (H5 c) e t d f l a b
def aeI(c e:ET)(t:sd)(k:rA)(a:ai)(l:aW)(b:QT):QT:=λd f=>Il k a d f<|X4 c e t l f b
def kCo(b c e:ET)(t:sd)(k:rA)(a:aa<|O×O)(l:aW)(d:QT):QT:=λf g=>b l g<|aeI c e t k f (su a l) d
def Ť(v:ai)(a:VT):VT:=λb c=>a (v::b) c
def kCn(f:ST)(l:aW)(a:VT):QT:=λv b=>f l b<|Ť v a
def kTa(n:O)(l:aW)(v:ai)(a:LT):QT:=λo b=>Bn o n v b<|a l
def ac4(o:ai)(l:aW)(v:ai)(a:LT):QT:=λk b=>qe o k v b<|a l
def kTi(f:ET)(l:aW)(v:ai)(a:LT):QT:=λo b=>f l b<|ac4 o l v a
def kTt(f:aW->aa ai->aT->LT->Prop)(a:aa ai)(b:LT):LT:=λl c=>f l a c b
mutual
noncomputable def cN(b:PT)(d:aT->Prop):E->aW->aT->QT->Prop
|kr v,_,a,c=>c v a|eb x,l,a,c=>bE (cW l x) λv=>c v a| .glob x,_,a,c=>bE (cm Fw x) λv=>c v a| .and e f,l,a,c=>cN b d e l a<|γ (cN b d f) l c| .or e f,l,a,c=>cN b d e l a<|kOr (cN b d f) l c| .not e,l,a,c=>cN b d e l a<|ach c| .ite m e f,l,a,c=>cN b d m l a<|ahm (cN b d e) (cN b d f) l c|tf h e,l,a,c=>cN b d e l a<|Zg h c|hC h e f,l,a,c=>cN b d e l a<|kOp h (cN b d f) l c| .cmp h e f,l,a,c=>cN b d e l a<|kCm h (cN b d f) l c|yq h o e f m,l,a,c=>cN b d e l a<|kD2 h o (cN b d f) (cN b d m) l c| .slice g e f,l,a,c=>cN b d g l a<|kS1 (cN b d e) (cN b d f) l c|s5,_,_,_=>bW|j2 _ _,_,_,_=>bW| .list k,l,a,c=>w4 b d k l a<|aiT c|oP k,l,a,c=>w4 b d k l a<|akz c|rq,_,a,c=>Aw a [] c|fL g n,l,a,c=>cN b d g l a<|kAt n c|vY g,l,a,c=>cN b d g l a<|Xa c|hM h g e,l,a,c=>cN b d g l a<|ż h (cN b d e) l c|wJ g e f,l,a,c=>cN b d g l a<|kG1 (cN b d e) (cN b d f) l c| .call h k,l,a,c=>w4 b d k l a<|afR b d h c| .z5 g p k,l,a,c=>cN b d g l a<|kMe b d (w4 b d k) p l c|ql x h k,l,a,c=>bE (cW l x) λs=>rk a s λm _=>jt ti m h=Q/\w4 b d k l a (Vp b d h s c)|nj q t y e f m z,l,a,c=>cN b d e l a<|kCo (cN b d f) (cN b (λ_=>bW) m) (cN b (λ_=>bW) q) (mN b (λ_=>bW) t) y z l c
noncomputable def w4(b:PT)(d:aT->Prop):E->aW->aT->(aa ai->aT->Prop)->Prop
|s5,_,a,c=>c [] a|j2 g r,l,a,c=>cN b d g l a<|kCn (w4 b d r) l c|_,_,_,_=>bW
noncomputable def mN(b:PT)(d:aT->Prop):E->sd
|eb x,l,v,a,j=>j (ey l x v) a|fL g n,l,v,a,j=>cN b d g l a<|kTa n l v j|hC kW g B,l,v,a,j=>cN b d g l a<|kTi (cN b d B) l v j|oP C,l,v,a,j=>bE (GZ v) λG=>yk b d C l G a j|_,_,_,_,_=>bW
noncomputable def yk(b:PT)(d:aT->Prop):E->aW->aa ai->aT->(aW->aT->Prop)->Prop
|s5,l,[],a,j=>j l a|j2 t r,l,x::H,a,j=>mN b d t l x a<|kTt (yk b d r) H j|_,_,_,_,_=>bW
end
noncomputable def Gy(a:sd)(b:aW->aT->(aW->aT->Prop)->Prop)(c:og)(all:aa ai)(N:aW->aT->Prop):aa ai->aW->aT->Prop
|[],l,d=>N l d|x::r,l,d=>a l x d λl d=>b l d λl d=>c d=J all/\Gy a b c all N r l d
def H'(a)(b)(c)(all)(l)(d)(N):=Gy a b c all N all l d
@[irreducible] def A9:=ij H'
def XX:A9=H':=by unfold A9;exact iP _
def Z3(b:aW->aT->(ba->aT->Prop)->Prop)(c:aW->aT->(aW->aT->Prop)->Prop)(l)(a)(N:aW->aT->Prop):=
∃I:O->aW->aT->Prop,(∃n,I n l a)/\∀n l a,I n l a->b l a λt a=>dH t (c l a λl a=>∃m,m<n/\I m l a)<|N l a
@[irreducible] def D0:=ij Z3
def UY:D0=Z3:=by unfold D0;exact iP _
abbrev WT:=aW->aT->LT->QT->LT->Prop
def Gg(f:WT)(N:LT)(a:QT)(C:LT):LT:=λl b=>f l b N a C
def G3(l:aW)(N:LT):QT:=λZ a=>N l a
def Sz(t:sd)(l:aW)(N:LT):QT:=λv a=>t l v a N
def Ν(f g:WT)(l:aW)(N:LT)(a:QT)(C:LT):QT:=λv b=>mV b v<|kT (f l b N a C)<|g l b N a C
def QP(f:WT)(a:QT):aW->aT->LT->Prop:=λl b c=>f l b c a c
def B'(f:WT)(t:sd)(l:aW)(N:LT)(a:QT)(b:aT):og->aa ai->Prop:=λc d=>A9 t (QP f a) c d l b N
def akI(f:WT)(t:sd)(k:rA)(a:ai)(l:aW)(N:LT)(b:QT):QT:=λc d=>Il k a c d<|B' f t l N b d
def kFo(b:ET)(f:WT)(t:sd)(k:rA)(l:aW)(N:LT)(a:QT):QT:=λc d=>b l d<|akI f t k c l N a
def Ś(a:aT->Prop):VT:=λZ b=>a b
def kTr(l:aW)(c x:O)(N:LT):aT->Prop:=λa=>∀b,a b=A->N (kY (ey l c<|aj b) x) a
noncomputable def c1(a:PT)(b:aT->Prop):S->aW->aT->(aW->aT->Prop)->QT->(aW->aT->Prop)->Prop
|ck,l,c,N,_,_=>N l c|fG s r,l,c,N,d,C=>c1 a b s l c (Gg (c1 a b r) N d C) d C|uy e,l,c,N,_,_=>cN a b e l c<|G3 l N|nK t e,l,c,N,_,_=>cN a b e l c<|Sz (mN a b t) l N|v5 e,l,c,_,d,_=>cN a b e l c d| .ite f g h,l,c,N,d,C=>cN a b f l c<|Ν (c1 a b g) (c1 a b h) l N d C| .while f h,l,c,N,d,_=>D0 (H5<|cN a b f) (QP (c1 a b h) d) l c N| .for t k g h s,l,c,N,d,_=>cN a b g l c<|kFo (cN a b h) (c1 a (λZ=>bW) s) (mN a (λZ=>bW) t) k l N d| .cont,l,c,_,_,C=>C l c|Az j,l,c,_,_,_=>w4 a b j l c<|Ś b| .AV t e x f,l,c,N,_,_=>cN a (kTr l f x N) e l c<|Sz (mN a (λZ=>bW) t) l N|yU,_,_,_,_,_=>bW| .del m,l,c,N,_,_=>N (m.foldl kY l) c
inductive gA{b c:Type}(a:b->c->Prop):aa b->aa c->Prop
|nil:gA a [] []|cons {d e r s}:a d e->gA a r s->gA a (d::r) (e::s)
noncomputable def kX(p:O->Prop)(a:aT):O->ai->ai->Prop
|0,v,b=>v=b|n+1,v,b=>v=b\/(∃c d,v=aR c/\b=aR d/\gA (kX p a n) c d)\/(∃c d,v=aN c/\b=aN d/\gA (kX p a n) c d)\/
 ∃e,v=aj e/\p e/\((∃c d,a e=J (.list c)/\b=aN d/\gA (kX p a n) c d)\/
  (∃f m g,a e=J (.dict f m)/\b=gZ g/\gA (λh j=>h.1=j.1/\kX p a n h.2 j.2) f g)\/
  ∃c f g,a e=J (.inst c f)/\b=od c g/\D3 (kX p a n) f g)
def VS(b:QT)(v)(a):=∃(n:O) (p:O->Prop) (c:ai) (d:aT),kX p a n v c/\(∀e,(p e/\d e=A)\/(¬p e/\d e=a e))/\b c d
@[irreducible] def eh:=ij VS
def IQ:eh=VS:=by unfold eh;exact iP _
def yX(a)(c b):=
aD (jB (U b) (U a)&&jB (U a) (U b+U c)) (J<|q3 a<|b++cq (U b+U c-U a) c) A
noncomputable def wQ:O->PT
|0,_,_,_,_,_=>bW|n+1,f,a,b,c,d=>match cm iS f with
 |some e=>bE (yX e.e5 e.p6 a) λl=>c1 (wQ n) d e.gY l b (λZ b=>eh c bk b) (eh c) λZ Z=>bW|none=>bE (cm tN f) λg=>∀h,b h=A->wQ n g (aj h::a) (b.dm h<| .inst f ar) (λv b=>qO v=Q/\eh c (aj h) b) d
@[irreducible] def aK:=ij wQ
def zx(n):aK n=wQ n:=by unfold aK;exact p2 (iP _) n
end
open Zq.gA renaming cons->iz,nil->nJ
open Zq.m2 renaming dict->dD,inst->cw,list->az
section
def g5(h:a<j->b)(c:j<=a->B):dH (nx a j) b B:=by
 unfold nx
 by_cases q:a<j
 .exact W (@decide_eq_true _ (oi _) q)<|h q
 .exact W (@decide_eq_false _ (oi _) q)<|c<|hB.mp q
def Jp(h:a<=j->b)(c:j<a->B):dH (uT a j) b B:=by
 unfold uT
 by_cases q:a<=j
 .exact W (@decide_eq_true _ (oi _) q)<|h q
 .exact W (@decide_eq_false _ (oi _) q)<|c<|x8.mp q
def lE(h:a=j->b)(c:a≠j->B):dH (eX a j) b B:=by
 unfold eX
 by_cases q:a=j
 .exact W (@decide_eq_true _ (oi _) q)<|h q
 .exact W (@decide_eq_false _ (oi _) q)<|c q
def QM(h:a=j->b)(c:a≠j->d):dH (eX a j) b (dH (eX a j) C d):=lE h λq=>lE (λz=>ay z q) c
def rW(h:a=j->b)(c:a≠j->B):dH (ng a j) b B:=by
 unfold ng
 by_cases q:a=j
 .exact W (@decide_eq_true _ (oi _) q)<|h q
 .exact W (@decide_eq_false _ (oi _) q)<|c q
def jk(h:dH t B a):dH (!t) a B:=by cases t<;>exact h
def KH(h:a≠j->b)(c:a=j->B):dH (!eX a j) b B:=jk<|lE c h
def Ry(h:a≠j->b)(c:a=j->B):dH (!ng a j) b B:=jk<|rW c h
def ef(h:t=Q->a)(b:t=u->B):dH t a B:=by
 induction t
 .exact b Y
 .exact h Y
def MW(h:a≠[]->b)(c:a=[]->B):dH (!uO a) b B:=by
 induction a
 .exact c Y
 .exact h jI
def xf:nx a j=decide (a<j):=by unfold nx;by_cases q:a<j<;>simp [q]
def B! :uT a j=decide (a<=j):=by unfold uT;by_cases q:a<=j<;>simp [q]
def pA:eX a j=decide (a=j):=by unfold eX;by_cases q:a=j<;>simp [q]
def wh:ng a j=decide (a=j):=by unfold ng;by_cases q:a=j<;>simp [q]
def p'{a:aT}:(a.dm b o) b=J o:=by simp [aT.dm]
def CP{c:aT}(h:b≠a):(c.dm a o) b=c b:=by
 have d:aE b a=false:=by cases q:aE b a with
  |false=>rfl|true=>exact ay (d9 q) h
 unfold aT.dm;exact W d Y
inductive Cs where
|nil|c (a:O) (o:m2) (r:Cs)
noncomputable def Cs.at:Cs->O->bf (O×m2)
| .nil,_=>A| .c a o r,k=>match k with
 |0=>J (a,o)|k+1=>r.at k
noncomputable def Cs.g8:Cs->O->m2->Cs
| .nil,_,_=> .nil| .c a o r,k,b=>match k with
 |0=> .c a b r|k+1=> .c a o<|r.g8 k b
noncomputable def Cs.cA:Cs->O->m2->Cs
| .nil,a,o=> .c a o .nil| .c b p r,a,o=> .c b p<|r.cA a o
noncomputable def Cs.mZ:Cs->Cs->Cs
| .nil,d=>d| .c b p r,d=> .c b p<|r.mZ d
noncomputable def Cs.o5:Cs->O
| .nil=>0| .c _ _ r=>r.o5+1
noncomputable def eD(a b:aT):Cs->Prop
| .nil=>bh| .c c o r=>a c=A/\b c=J o/\(∀k d p,r.at k=J (d,p)->d≠c)/\eD a b r
def Fr(a b)(c):=eY (eD a b c)<|∀d o,a d=J o->b d=J o
def mq(d:eD a b e)(ext:∀c o,a c=J o->b c=J o):Fr a b e:=cj d ext
def eD.get:∀{a} {k b} {o},eD c d a->a.at k=J (b,o)->c b=A/\d b=J o:=by
 intro a;refine @(a.rec (λZ e=>aI e) λx y r f=>?_);intro k b o h e
 induction k with
 |zero=>have q:=rG<|aC e;exact q.1▸q.2▸br h.1 h.2.1|succ k=>exact f h.2.2.2 e
def Gv:∀{a:Cs} {k c b} {o p},(a.cA c o).at k=J (b,p)->a.at k=J (b,p)\/b=c:=by
 intro a
 induction a with
 |nil=>intro k c b o p e;induction k with
  |zero=>exact aw (rG<|aC e).1.symm|succ k=>exact aI e
 |c x y r d=>intro k c b o p e;induction k with
  |zero=>exact aL e|succ k=>exact d e
def eD.add(n:c a=A)(e:d a=A):∀{b},eD d c b->eD d (c.dm a o) (b.cA a o):=by
 intro b;refine b.rec (λZ=>⟨e,p',λZ Z Z f=>aI f,a0⟩) λb p r g=>λh=>?_;have j:b≠a:=λz=>by have k:=h.2.1;rw [z,n] at k;exact aI k
 exact⟨h.1,W (CP j) h.2.1,λk c q f=>aO (Gv f) (h.2.2.1 k c q) λf=>W f j.symm,g h.2.2.2⟩
def agt:∀{a:Cs} {k j b} {o p},(a.g8 j o).at k=J (b,p)->∃q,a.at k=J (b,q):=by
 intro a;refine @(a.rec (λe=>aI e) λx y r c=>?_);intro k j b o p e;cases k with
 |zero=>induction j with
  |zero=>exact cL _<|congrArg (λz=>some (z,y)) (rG<|aC e).1|succ j=>exact cL _ e
 |succ k=>induction j with
  |zero=>exact cL _ e|succ j=>exact c e
def ad7:∀{a},(∀k b p,a.at k=J (b,p)->b≠c)->eD d e a->eD d (e.dm c o) a:=by intro a;exact a.rec (λZ Z=>trivial) λb p r f=>λn h=>⟨h.1,W (CP<|n 0 b p Y) h.2.1,h.2.2.1,f (λk=>n<|k+1) h.2.2.2⟩
def eD.set:∀{a} {k},eD c d a->a.at k=J (b,o)->eD c (d.dm b e) (a.g8 k e):=by
 intro a;refine @(a.rec (λZ e=>aI e) λf p r g=>?_);intro k h e
 induction k with
 |zero=>obtain rfl:f=b:=(rG<|aC e).1;exact⟨h.1,p',h.2.2.1,ad7 h.2.2.1 h.2.2.2⟩|succ k=>exact⟨h.1,W (CP (h.2.2.1 k b o e).symm) h.2.1,λj c q z=>bp (agt z) λl m=>h.2.2.1 j c l m,g h.2.2.2 e⟩
def aek:∀{r:Cs} {k},r.at k=J x->(r.mZ d).at k=J x:=by
 intro r
 induction r with
 |nil=>exactλe=>aI e|c b p s a=>intro k e;induction k with
  |zero=>exact e|succ k=>exact a e
def eD.cut:∀{a},eD b c (a.mZ d)->eD b c a:=by intro a;exact a.rec (λZ=>trivial) λb p r e=>λh=>⟨h.1,h.2.1,λk c q f=>h.2.2.1 k c q<|aek f,e h.2.2.2⟩
def wa{a:Cs}:(a.cA b o).at a.o5=J (b,o):=a.rec Y λb p r c=>c
def Jc:∀{a:Cs} {k} {x},a.at k=J x->(a.cA b o).at k=J x:=by
 intro a
 induction a with
 |nil=>exactλe=>aI e|c b p s c=>intro k x e;induction k with
  |zero=>exact e|succ k=>exact c e
def eD.Mh:∀{a},eD c d (a.cA b o)->eD c d (.c b o a):=by
 intro a;refine a.rec (λh=>h) λe p r f=>λh=>?_;have g:=f h.2.2.2;refine⟨g.1,g.2.1,λk c q e=>?_,h.1,h.2.1,λk c q e=>h.2.2.1 k c q<|Jc e,g.2.2.2⟩
 induction k with
 |zero=>exact(rG<|aC e).1▸(h.2.2.1 r.o5 b o wa).symm|succ k=>exact g.2.2.1 k c q e
def eD.D1:∀{a},eD b c (.c d o a)->eD b c (a.cA d o):=by intro a;exact a.rec (λh=>h) λb p r e=>λh=>⟨h.2.2.2.1,h.2.2.2.2.1,λk c q f=>aO (Gv f) (h.2.2.2.2.2.1 k c q) λz=>W z (h.2.2.1 0 b p Y).symm,e ⟨h.1,h.2.1,λk=>h.2.2.1<|k+1,h.2.2.2.2.2.2⟩⟩
def Fr.bN(h:Fr a b<|c.cA d o):Fr a b (.c d o c):=mq (h V).Mh<|h J1
def Fr.Bv(h:Fr a b<| .c c o d):Fr a b (d.cA c o):=mq (h V).D1<|h J1
def Fr.zT(h:Fr b c<| .c d p<| .c a o e):Fr b c ((e.cA a o).cA d p):=
mq (eD.D1 ⟨(h V).1,(h V).2.1,λk c q e=>aO (Gv e) (λe=>(h V).2.2.1 (k+1) c q e) λe=>W e<|(h V).2.2.1 0 a o Y,eD.D1 (h V).2.2.2⟩)<|h J1
def Fr.EW{a:Cs}(h:Fr b d<|(a.cA c p).cA f q):Fr b d ((a.cA f q).cA c p):=by
 have g:=(h V).Mh;have j:=g.2.2.2.Mh;refine mq (eD.D1 ⟨j.1,j.2.1,λk b o e=>?_,eD.D1 ⟨g.1,g.2.1,λk b o e=>g.2.2.1 k b o<|Jc e,j.2.2.2⟩⟩)<|h J1;rcases Gv e with e|e
 .exact j.2.2.1 k b o e
 .exact W e (g.2.2.1 a.o5 c p wa).symm
def de:Fr a a .nil:=mq a0 λZ Z h=>h
def Fr.c9(h:Fr d a b)(e:b.at k=J (c,o)):a c=J o:=((h V).get e).2
def Fr.hN(h:Fr b c d)(n:c a=A):Fr b (c.dm a o) (d.cA a o):=by
 refine mq ((h V).add n ?_) λe f e=>?_
 .cases z:b a with
  |none=>rfl|some f=>exact iG<|(h J1) _ _ z▸n
 .exact W (CP λz=>by rw [z] at e;exact iG<|(h J1) _ _ e▸n)<|(h J1) _ _ e
def Fr.upd(h:Fr b c a)(e:a.at k=J (d,o))(o'):Fr b (c.dm d o') (a.g8 k o'):=mq ((h V).set e) λb f g=>W (CP λz=>by rw [z,((h V).get e).1] at g;exact aI g)<|(h J1) _ _ g
def Z8(d)(h:Fr a b<|c.mZ d):Fr a b c:=mq (h V).cut<|h J1
def Fr.tl(h:Fr a b<| .c d o c):Fr a b c:=mq (h V).2.2.2<|h J1
def Co(e:cW a n=J b)(h:c b d):kA n c d f a:=by unfold kA;exact W e h
def VU(e:qE a b=J t)(h:K t):Qz a K b:=by unfold Qz;exact W e h
def HQ(e:U a=n)(h:b (ag n) c):SA b c a:=by unfold SA;exact W e h
def bX(h:Fr g a b)(k)(e:b.at k=J (c,az d))(f:K d):nh (a c) K:=W ze<|W (h.c9 e) f
def d'(h:Fr g a b)(k)(e:b.at k=J (c,dD d n))(f:K d):yu (a c) K:=W JY<|W (h.c9 e) f
def aM(h:Fr g a b)(k)(e:b.at k=J (c,cw n d))(f:K n d):s3 (a c) K:=W Fc<|W (h.c9 e) f
def s8(e:eQ a v=J b)(c:K b):kN a v K:=by
 cases v with
 |tup d=>cases e;exact c|lst d=>cases e;exact c|ref f=>show nh (a f) K;refine W ze ?_;unfold Mn;exact W (show mW (a f)=J b from e) c|_=>cases e
def aV(h:Fr c d e)(f:∀a b,Fr c b (e.cA a o)->g (aj a) b):iD d o g:=W Y4 λa n=>f a _ (h.hN n)
def Qg(h:Fr e a f)(g:eQ a v=J b)(j:∀c d,Fr e d (f.cA c<|az b)->k (aj c) d):kN a v λb=>iD a (az b) k:=s8 g<|aV h j
def m8(h:Fr c d e)(f:∀a n b,Fr c b (e.cA a<|dD g n)->j (aj a) b):Aw d g j:=W Uo λm a n=>f a m _ (h.hN n)
def cH(h:Fr f a b)(k)(e:b.at k=J (c,az g))(d:K):pD il (aj c) a K:=by refine W rF ?_;exact bX h k e d
def MZ(h:Fr f a b)(k)(e:b.at k=J (c,az g))(d:K):pD j8 (aj c) a K:=by refine W rF ?_;exact bX h k e d
def dF(h:Fr d f a)(k)(e:a.at k=J (g,az b))(j:U b<cu)
 (l:∀c,Fr d c (a.g8 k<|az<|b++[m])->n bk c):lI il (aj g) m f n:=by refine W pU ?_;exact bX h k e ⟨j,l _ (h.upd e _)⟩
def T6(h:k<n):vJ n (k:au)=J k:=by unfold vJ;exact W (aJ<|cp k)<|W (aJ<|by exact_mod_cast h) Y
def IB{n a b x y:O}(c:b<n)(d:y<n)(h:a*n+b=x*n+y):a=x/\b=y:=by
 have e:=aq (·%n) h;have e:b=y:=by have e:(a*n+b)%n=(x*n+y)%n:=e;rw [eU,YK,eU<|x*n,YK,UA c,UA d] at e;exact e
 exact br (Nat.eq_of_mul_eq_mul_right (cF (cQ _) c)<|G2<|e▸h) e
def AI{n:O}(h:0<n):(n:au)-1=((n-1:O):au):=a4<|Hg h
def a!(s:O):max ((s:au)-1) 0=((s-1:O):au):=by
 induction s with
 |zero=>rfl|succ n=>exact a4 (AI<|kv n)▸Sq (cp n)
def ι(h:0<n):vJ n (-1)=J (n-1):=
af (aS (λz=>nomatch z)) (af (aJ (show 0<=-1+(n:au) from DH (n:au) (-1)▸LK (ak jj h)))<|aq J (show cM (-1+(n:au))=n-1 from DH (n:au) (-1)▸aq cM (AI h)))
def tT(e:o=J a)(c:K a):bE o K:=W e c
def M3(e:pP a v=J b)(c:K b):tM a v K:=by
 cases v with
 |oT d=>cases e;exact c|ref f=>refine ah (oW.mp e) λp h=>?_;show yu (a f) K;exact W JY<|tT h.1<|h.2▸c|_=>cases e
def bJ{k:O}(c:eQ a o=J d)(b:d[k]?=J x)(e:f x a):ko o (ag k) a f:=W E9 λG g Z Z=>g k Y<|s8 c<|tT (T6 (ka.mp b).1)<|tT b e
def tE(d:pP a o=J b)(e:ip b c)(f:dV b c=J x)(g:h x a):ko o c a h:=W E9 λG Z j Z=>j<|M3 d ⟨e,tT f g⟩
def aiA{k:O}(a:k<64)(b:s.toList[k]?=J x)(c:d (aG<|qa [x]) e):ko (aG s) (ag k) e d:=W E9 λG Z Z g=>g s k x Y Y (cp k) (by exact_mod_cast a) b c
def Fr.lt(h:Fr f a c)(k)(e:c.at k=J (b,az d)):eQ a (aj b)=J d:=by show mW (a b)=_;exact aq _ (h.c9 e)
def Fr.ld(h:Fr f a c)(k)(e:c.at k=J (b,dD d n)):pP a (aj b)=J d:=by show b4 (·.1) (l5<|a b)=_;exact W (h.c9 e) Y
def dc(h:Fr m a d)(k){b c:O}(e:d.at k=J (b,az f))(g:f[c]?=J x)(j:l x a):ko (aj b) (ag c) a l:=bJ (h.lt k e) g j
def jT(h:Fr l c d)(k)(e:d.at k=J (f,az a))(b:cG a=J x)(g:j x c):ko (aj f) (ag<| -1) c j:=(by
 have m:0<U a:=by cases a<;>simp at b⊢
 rw [x6] at b;exact W E9 λG n Z Z=>n (-1) Y<|s8 (h.lt k e)<|tT (ι m)<|tT b g)
def Zw(h:Fr n a d)(k)(e:d.at k=J (f,dD b o))(g:ip b c)(j:dV b c=J x)(l:m x a):ko (aj f) c a m:=tE (h.ld k e) g j l
def qC(h:Fr f g b)(k)(e:b.at k=J (j,az c))(l:a<U c)
 (m:∀d,Fr f d (b.g8 k<|az<|c2 c a v)->K d):qe (aj j) (ag a) v g K:=W SG λG g Z=>g a Y (cp a)<|bX h k e ⟨by exact_mod_cast l,m _ (h.upd e _)⟩
def u6(h:Fr g j b)(k)(e:b.at k=J (c,dD a n))(l:ip a d)(m:U a<cu)
 (o:∀n f,Fr g f (b.g8 k<|dD (eW a d v) n)->K f):qe (aj c) d v j K:=W SG λG Z g=>g c a n Y (h.c9 e) l m λm=>o m _ (h.upd e _)
def d3(h:Fr g j b)(k)(e:b.at k=J (d,cw c a))(l:jt oN c n=Q)(m:a.iW<=60)
 (o:∀f,Fr g f (b.g8 k<|cw c<|ey a n v)->K f):Bn (aj d) n v j K:=W e' λG f=>f d c a Y (h.c9 e) l m<|o _ (h.upd e _)
def H4(h:Fr d f a)(k)(e:a.at k=J (g,az b))(j:cG b=J x)
 (l:∀c,Fr d c (a.g8 k<|az<|kx b)->m x c):AP (aj g) f m:=W YV<|bX h k e<|tT j<|l _ (h.upd e _)
def u7(c:a (ag<|b-j) d):xF (ag b) (ag j) d a:=by refine W Mq ?_;exact c
def ph{a j d:O}(e:a=j+d)(c:b (ag d) f):xF (ag a) (ag j) f b:=u7<|W e<|W (ak Int.sub_eq_iff_eq_add' Y:((j+d:O):au)-_=d) c
def cb(e:eQ a b=J c)(d:K (λa=>eQ a b) c):w9 b a K:=W Kh λG g Z=>g<|s8 e d
def aic(I:O->aW->aT->Prop)(f:I 0 l a)
 (g:∀k x l a b,all[k]?=J x->I k l a->(∀l a,c a=J all->I (k+1) l a->b l a)->d l x a λl a=>e l a b)(h:∀l a,I (U all) l a->N l a):A9 d e c all l a N:=by
 have j:∀r k l a,cq k all=r->k+U r=U all->I k l a->Gy d e c all N r l a:=by
  refineλr=>r.rec ?_ λx r m=>?_
  .intro k l a e q n;subst q;exact h l a n
  .intro k l a e q n;have o:all[k]?=J x:=by refine ax (Dc)<|W e ?_;rfl
   have p:cq (k+1) all=r:=by exact ax B1<|W e Y
   exact g k x l a _ o n λl a c s=>br c<|m _ l a p (ax q<|W hS (jf ..)) s
 exact W XX<|j all 0 l a Y (eJ _) f
def n5(g:h->j->O)(L:h->j->aW)(C:h->j->Cs)(f:h->j->Prop)(a)(b)
 (n:Fr k c<|C a b)(o:f a b)
 (p:∀a b c m,f a b->Fr k c (C a b)->(∀d e l,g d e<g a b->f d e->Fr k l (C d e)->m (L d e) l)->q (L a b) c λt c=>dH t (r (L a b) c m)<|N (L a b) c):D0 q r (L a b) c N:=by
 refine W UY<|⟨λs v c=>∃a b,s=g a b/\v=L a b/\f a b/\Fr k c (C a b),⟨_,a,b,Y,Y,o,n⟩,λs v c h=>?_⟩;obtain⟨x,y,rfl,rfl,z,f⟩:=h;exact p x y c _ z f λd e l B G H=>⟨_,B,d,e,Y,Y,G,H⟩
def cv{o:O->H->ai}(n:∀k,all[k]?=b4 (o k) (e[k]?))
 (L:O->p->q->aW)(C:O->p->q->Cs)(h:O->p->q->Prop)(a)(b)
 (r:Fr j c<|C 0 a b)(s:h 0 a b)(t:∀k a b d,Fr j d (C k a b)->v d=J all)
 (y:∀k x a b c m,e[k]?=J x->h k a b->Fr j c (C k a b)->(∀f g d,h (k+1) f g->Fr j d (C (k+1) f g)->m (L (k+1) f g) d)->z (L k a b) (o k x) c λl c=>B l c m)
 (G:∀a b d,h (U e) a b->Fr j d (C (U e) a b)->N (L (U e) a b) d):A9 z B v all (L 0 a b) c N:=by
 have I:U all=U e:=by
  refine hL (j3 λq=>?_)<|j3 λq=>?_
  .have M:=n<|U e;rw [bK q,iB<|bb _] at M;cases M
  .have M:=n<|U all;rw [bK q,iB<|bb _] at M;cases M
 refine aic (λk l c=>∃a b,l=L k a b/\h k a b/\Fr j c (C k a b)) ⟨a,b,Y,s,r⟩ (λk x l c m T Z o=>?_) λl c Z=>?_
 .obtain⟨p,v,rfl,z,B⟩:=Z;rw [n] at T;obtain⟨N,H,rfl⟩:=oW.mp T;exact y k N p v c m H z B λf g d a b=>o _ _ (t _ f g d b) ⟨f,g,Y,a,b⟩
 .obtain⟨p,v,rfl,z,B⟩:=Z;rw [I] at z B⊢;exact G p v c z B
def d5{a:aa b}{g:b->ai}:∀k:O,(R g a)[k]?=b4 g (a[k]?):=λk=>cg ..
def mU{m:O}:∀k:O,(m6 0 m)[k]?=((e4 m)[k]?).map λ(x:O)=>ag x:=λk=>by refine W (cg) ?_;exact aq (λf=>b4 f _[k]?)<|funext λx=>aq _ (LD ..)
def ly(h:(e4 m)[k]?=J x):x=k/\k<m:=by obtain⟨q,e⟩:=ka.mp h;rw [List.getElem_range] at e;rw [e9] at q;exact br (a4 e) q
def VV{a:Cs}:(a.cA b o).g8 a.o5 p=a.cA b p:=a.rec Y λb q r c=>aq _ c
def wq(h:Fr e a j)(I:O->aa ai->Cs->Prop)(l:I 0 [] j)
 (g:∀k b c d z f,Fr e f (c.cA d z)->I k b c->m f=J all)
 (B:∀k x b c d a (n:QT) (o:aT->Prop),all[k]?=J x->I k b c->Fr e a (c.cA d<|az b)->(∀v a c,Fr e a (c.cA d<|az b)->I (k+1) (b++[v]) c->n v a)->
  (∀a c,Fr e a (c.cA d<|az b)->I (k+1) b c->o a)->p q x a λr a=>s r a λC a=>dH C (t r a n)<|o a)
 (G:U all<cu)(H:∀d b c a,Fr e a (c.cA d<|az b)->I (U all) b c->y (aj d) a):yN s t p m all q a y:=by
 refine W ZP λd L=>?_;have M:∀r k b c a,cq k all=r->k+U r=U all->U b<=k->Fr e a (c.cA d<|az b)->I k b c->E6 s t p m all q d r b a λa=>y (aj d) a:=by
  refineλr=>r.rec ?_ λx r N=>?_
  .intro k b c a e q T Z n;subst q;exact H d b c a Z n
  .intro k b c a e q T Z n;have o:all[k]?=J x:=by refine ax (Dc)<|W e ?_;rfl
   have z:cq (k+1) all=r:=by exact ax B1<|W e Y
   rw [hS,<-cx,jf] at q;refine B k x b c d a _ _ o n Z (λv f C I m=>?_) (λf C I m=>?_)
   .have p:=I.upd wa<|az<|b++[v];rw [VV] at p;refine⟨⟨⟨I.c9 wa,cF T<|fe ?_ G⟩,g _ _ _ _ _ _ p m⟩,N _ _ C _ z q (W a3<|b3 T) p m⟩;exact ax q<|cc (g9 k)<|dO _ _
   .exact⟨⟨I.c9 wa,g _ _ _ _ _ _ I m⟩,N _ b C f z q (hH T) I m⟩
 exact⟨g _ _ _ _ _ _ (h.hN L) l,M all 0 [] j _ Y (eJ _) (bb _) (h.hN L) l⟩
def bc(c:b v a):eh b v a:=W IQ<|⟨0,λZ=>bW,v,a,Y,λb=>aw ⟨id,Y⟩,c⟩
abbrev x7(a:aT):O->Prop:=λb=>a b=A
def mK(h:Fr a b g)(n)(f:kX (x7 a) b n v c)(d:e c a):eh e v b:=by
 refine W IQ ?_;exact⟨n,x7 a,c,a,f,λb=>by
  cases q:a b with
  |none=>exact aL ⟨q,Y⟩|some o=>exact aw ⟨λe=>aI<|af (e:a b=A).symm q,a4<|(h J1) b o q⟩,d⟩
def m9(h:Fr a b e)(c:d v a):eh d v b:=mK h 0 Y c
def dQ(n)(v):kX p a n v v:=by
 induction n
 .exact Y
 .exact aL Y
def j7(h:∀a,c a a)(b):gA c b b:=b.rec nJ λa r d=>iz (h a) d
def ams(h:∀a,b a a)(l):D3 b l l:=
aW.rec (motive_1:=λZ=>bh) (motive_2:=λl=>D3 b l l) (motive_3:=λZ=>bh) (motive_4:=λZ=>bh) (motive_5:=λZ=>bh) a0 (λZ=>trivial) (λZ=>trivial) (λZ=>trivial) (λZ Z=>trivial) (λZ Z=>trivial) (λZ Z=>trivial) (λZ Z Z=>trivial) (λZ=>trivial) Y (λZ v r Z c=>⟨v,r,Y,h v,c⟩) a0 (λZ Z Z Z=>trivial) a0 (λZ Z Z Z=>trivial) (λZ Z Z Z=>trivial) l
def Fr.fb(h:Fr a d b)(k)(e:b.at k=J (c,o)):x7 a c:=((h V).get e).1
def jg(h:Fr c d f)(k)(e:f.at k=J (b,az a))(g:j (aN a) c):eh j (aj b) d:=
mK h 1 (aw<|aw<|aw ⟨b,Y,h.fb k e,aL ⟨a,a,h.c9 e,Y,j7 (λZ=>rfl) a⟩⟩) g
def Ks(h:Fr c d f)(k)(e:f.at k=J (b,dD a m))(g:j (gZ a) c):eh j (aj b) d:=
mK h 1 (aw<|aw<|aw ⟨b,Y,h.fb k e,aw<|aL ⟨a,m,a,h.c9 e,Y,j7 (λZ=>⟨Y,Y⟩) a⟩⟩) g
def ES(h:Fr c d f)(k)(e:f.at k=J (b,cw m a))(g:j (od m a) c):eh j (aj b) d:=
mK h 1 (aw<|aw<|aw ⟨b,Y,h.fb k e,aw<|aw ⟨m,a,a,h.c9 e,Y,ams (λZ=>rfl) a⟩⟩) g
def a7(d)(l)(g:cm iS f=J d)(h:yX d.e5 d.p6 j=J l)
 (c:c1 (aK n) b d.gY l a (λZ a=>eh e bk a) (eh e) λZ Z=>bW):aK (n+1) f j a e b:=by
 rw [zx] at c⊢;show(match cm iS f with
  |some d=>bE _ λl=>c1 _ b d.gY l a _ _ _|none=>_)
 refine W g (?_:bE _ _);exact W h c
def jK(e:cm iS f=A)(h:cm tN f=J g)
 (c:∀a,b a=A->aK n g (aj a::j) (b.dm a<|cw f ar) (λv b=>qO v=Q/\eh k (aj a) b) d):aK (n+1) f j b k d:=by
 rw [zx] at c⊢;show(match cm iS f with
  |some l=>_|none=>bE _ λg=>∀a,b a=A->wQ n g _ _ _ d)
 exact W e<|W h c
def ej(h:Fr e a<| .c b (cw n c) r)(d:K n c):s3 (a b) K:=aM h 0 Y d
def hF(h:Fr e a<| .c b (az c) r)(d:K c):nh (a b) K:=bX h 0 Y d
def bP(h:Fr d f<| .c a (cw c b) r)(e:(jt oN c n&&jB b.iW 60)=Q)(k:∀s,Fr d s (.c a (cw c<|ey b n v) r)->K s):Bn (aj a) n v f K:=d3 h 0 Y (dn.mp e).1 (ht (dn.mp e).2) k
end
section
open Bool renaming true_and->UD,eq_false_iff->Ł,false_or->XA,not_or->W0
open Decidable renaming byContradiction->ai0
open Exists renaming choose_spec->Ff
open Iff renaming rfl->E4
open Int renaming neg_inj->p8,neg_neg->LO,neg_zero->Me,neg_nonpos_of_nonneg->ZK,neg_neg_of_pos->Px,neg_eq_zero->Uc
open List renaming length_filter_le->A5,range_succ->Bp,filter_append->I1,nodup_range->z!,mem_filter->rR,mem_range->tV,getD->F,getD_eq_getElem?_getD->cZ,getElem?_set->Ay,mem_or_eq_of_mem_set->ED,mem_iff_getElem?->gs,map_set->CH,map_replicate->G9,mem_replicate->Pc,count->sU,countP_cons->YX,count_cons->TP,count_append->IJ,count_singleton->ZI,getElem?_replicate->tW,replicate_succ'->HA,take_add_one->nX,count_singleton_self->y_,take_length->dJ,getElem?_append_right->hV,cons_append->Sl,flatMap_cons->O1,flatMap->wY,take_sublist->R8,flatMap_append->S',filter_cons_of_neg->T2,length_take_le'->k9,filter_cons_of_pos->Zz,nodup_append->nE,map_congr_left->Od,getElem_inj->Bi,ext_getElem?->Cp,mem_of_mem_take->Ci,filter_eq_nil_iff->S7,getElem?_take->ha,map_inj_right->Nk,getElem?_append_left->hb,contains_eq_mem->NY,pairwise_map->I8,pairwise_flatMap->U?,getElem?_set_self->Ei,getElem?_set_ne->FI,dropLast_concat->w2,getLast?_concat->oV,dropLast_concat_getLast->rt,foldl_append->Iu,length_singleton->Ju,getElem?_drop->FD,getElem_mem->xR,take_append_drop->vE,reverse_append->Ji,filterMap_cons_none->RF,filterMap_cons_some->K8,mem_filterMap->x1,map_take->tq,map_drop->Jq,filterMap_eq_map->Cz,zip->BE,take_left->EN,map_filterMap->N5,drop_left->Py,length_pos_iff->u!,map_snd_zip->Uz,find?_append->v?,filter_cons->zi,map_eq_nil_iff->Pz,mem_of_mem_drop->p!,filterMap_eq_nil_iff->Q!,flatten->hc,flatten_append->vm,take_take->K3,append_right_inj->q?,Sublist->yL,take_append_of_le_length->Ye,sublist_append_left->Zs,isEmpty_iff->i'
open List.Nodup renaming sublist->MP,length_le_of_subset->L9
open List.Pairwise renaming filter->Lb,cons->lJ,imp_of_mem->Rq
open List.Perm renaming eq_of_pairwise->al0
open List.Sublist renaming refl->x!,trans->ae6
open Nat renaming testBit->eH,lt_of_not_le->zW,pow_le_pow_right->B6,and_comm->FN,mod_two_eq_zero_or_one->k_,and_one_is_mod->Vh,zero_testBit->vb,add_sub_cancel'->zj,succ_add_eq_add_succ->Yw,lt_of_le_of_ne->yf,two_pow_pos->vc,add_lt_add_right->Dm,sub_lt_sub_left->xq,add_lt_add_left->tv,testBit_or->xK,pow_lt_pow_right->JQ,testBit_two_pow_self->QO,lt_succ_iff_lt_or_eq->iN,or_self->Ľ,add_le_add->dZ,mul_le_mul_left->kb,sub_self->pR,testBit_two_pow->M9,add_sub_cancel_left->uP,add_zero->ĺ,add_left_cancel->Q8,succ_mul->sq,mul_le_mul_right->ri,le_of_succ_le->uS,one_pos->BW,exists_eq_succ_of_ne_zero->K0,ne_of_gt->ih,le_of_sub_eq_zero->zw,lt_one_iff->BX,lt_of_lt_of_eq->Zo,pos_of_ne_zero->qq,lt_min->Wc,add_lt_add_of_le_of_lt->TQ,not_le->xP,sub_lt->r',testBit_and->T3,sub_add_cancel->As,succ_sub_succ->ID,add_sub_cancel->wt,sub_pos_of_lt->Ww,mul_le_mul->Yn,sub_le_sub_right->ZB,lt_or_eq_of_le->CN,succ->Hw,add_pos_left->h_,not_succ_le_self->L7
open Option renaming toList->xa,isSome_map->K?,not_isSome_iff_eq_none->Y9,isNone_iff_eq_none->WG,map_map->TG
open Or renaming imp_right->Y5,imp_left->LW
open PySem.PyData renaming tuple->OW,strOk->ahr
open PySem.SeqAt renaming eqv_refl->aip
open Relation renaming TransGen->EJ
open _root_ renaming of_decide_eq_false->Eu,beq_false_of_ne->yO,exists_congr->VY,and_congr_right->F9
open Zq.Cs renaming nil->bO
section
noncomputable def iV(a:aa O):=a.map λ(k:O)=>ag k
noncomputable def sV(a:aa bo):=R aG a
structure Ru where
aY:O
aQ:aa O
Tp:au
structure Gr where
cI:aa bo
nT:O
a5:aa Ru
iU:O
def r5(k:O)(r:Ru):=od 21<| .c 168 (ag k)<| .c 40 (ag r.aY)<| .c 123 (aR<|iV r.aQ)<| .c 236 (ag r.Tp)<| .c 146 bk<| .c 41 (ag 0)<| .c 149 (ag 0) ar
noncomputable def nk:O->aa Ru->aa ai
|_,[]=>[]|k,r::t=>r5 k r::nk (k+1) t
noncomputable def uR:O->aa Ru->aa O
|_,[]=>[]|k,r::t=>k::uR (k+(U r.aQ+1)) t
noncomputable def mJ:O->aa Ru->aa O
|_,[]=>[]|k,r::t=>dM (U r.aQ+1) k++mJ (k+1) t
noncomputable def jW(s:O):O->aa Ru->aa O
|_,[]=>[]|k,r::t=>aD (aE r.aY s) (k::jW s (k+1) t)<|jW s (k+1) t
def Gr.pf(G:Gr):=uR 0 G.a5
def Gr.hW(G:Gr):=mJ 0 G.a5
def Gr.jY(G:Gr)(s):=jW s 0 G.a5
noncomputable def Gr.nS(G:Gr):=U G.cI
def I5(G:Gr):=(e4 G.nS).map λs=>aN<|iV<|G.jY s
def Gr.V(G):=od 190<| .c 112 (aN<|sV G.cI)<| .c 317 (ag G.nT)<| .c 124 (aN<|nk 0 G.a5)<| .c 165 (gZ [])<| .c 158 bk<| .c 129 (ag G.iU)
 (.c 195 (aN<|I5 G)<| .c 210 (aN<|iV G.pf)<| .c 169 (aN<|iV G.hW)<| .c 272 (ag<|U G.hW) ar)
def wI(p:bo×aa bo):=aR [aG p.1,aR<|sV p.2]
def gR(a:aa<|bo×aa bo):=aN<|R wI a
abbrev gj:=aa<|bo×aa bo
noncomputable def e3:=["a","b","c","error"]
def uX(a:gj)(l:bo):Bool:=match a.find? λq=>q.1==l with
|some q=>cS q.2<|b7 e3|none=>u
noncomputable def oD(a)(q:bo×aa bo):=aD (b7 a q.1) a<|a++[q.1]
def pE(c b)(m t)(a):=j6 (∀q∈a,q.1∈b/\U q.2<=3/\∀x∈q.2,x∈e3++c) (∀l∈b,uX a l=Q) (a.foldl oD []=b) (U a<=m)<|(R (·.2.length-1) a).sum<=t
def cU(a)(b):=eY (a=["s","t"]\/a=["s","t","u"])<|pE a a 9 15 b
noncomputable def iL:=["a","b","c","q"]
def yK(a):=eY (∀k∈a,k∈iL)<|U a<=9
def Sy(c:O)(f)(x:O):=aD (nx (x:au) (c:au)) (x:au) f
def ZY(c)(a:aa O):=a.foldl (Sy c)<| -1
noncomputable def nN(b a)(x:bo):=aD (b7 b x) a<|aD (b7 a x) a<|a++[x]
def zb(a)(b)(q:bo×aa bo):=q.2.foldl (nN a) b
noncomputable def p7:=["$end","error","$undefined"]
def hh(a)(b:gj):=b.foldl (zb a) p7
def eF(a)(b):=hh a b++["$accept"]++a
def jR(a)(x):=dN (g7 x a) 0
def A2(a:aa bo)(c:O)(q:bo×aa bo):Ru:=⟨jR a q.1,R (jR a) q.2,ZY c<|R (jR a) q.2⟩
def gw(b:aa bo)(a:gj):Gr:=⟨eF b a,U<|hh b a,⟨U<|hh b a,[jR (eF b a) "s",0],0⟩::R (A2 (eF b a)<|U<|hh b a) a,jR (eF b a) "s"⟩
def BR(b)(a:gj):=∀n (c:aT) d (e:aT->Prop) f (s:bo),(s="lalr"\/s="slr")->
(∀v,(∀g h j k l,yK g->k (bT Q) j->aK (h+62) 267 [v,gR a,aN<|sV g] j k l)->d v c)->aK (n+9) 292 [(gw b a).V,aG s,bT f] c d e
noncomputable def lp:aa bo×gj:=@Classical.epsilon _ ⟨([],[])⟩ λp=>¬(cU p.1 p.2->BR p.1 p.2)
def ls:=lp.1
def D:=lp.2
abbrev k8:=cU ls D
def aiI(h:k8->BR ls D):cU l p->BR l p:=Cg λn=>@Classical.epsilon_spec _ (λp=>¬(cU p.1 p.2->BR p.1 p.2)) ⟨(l,p),n⟩ h
def VN:∃G,G=gw ls D:=cL _ rfl
noncomputable def G:=OE VN
def A1:G=gw ls D:=NS VN
def du:U (iV a)=U a:=bC _
def fV{a k:O}(h:b[a]?=J k):(iV b)[a]?=J (ag k):=by unfold iV;simp only [cg,h];rfl
def n9:iV a++[.int k]=iV (a++[k]):=by unfold iV;exact W dv Y
def cf(h:k<=1000):k<cu:=cF h<|ao Y
def hZ{a b:O}(h:a<b->c)(d:b<=a->B):dH (nx (a:au) (b:au)) c B:=g5 (λq=>h<|hl.mp q) λq=>d<|jj.mp q
def xt{a b:O}(h:a<=b->c)(d:b<a->B):dH (uT (a:au) (b:au)) c B:=Jp (λq=>h<|jj.mp q) λq=>d<|hl.mp q
def hj{a b:O}(h:a=b->c)(d:a≠b->B):dH (eX (a:au) (b:au)) c B:=lE (λq=>h<|eG q) λq=>d λz=>q<|z▸Y
def yW{a b:O}(h:a≠b->c)(d:a=b->B):dH (!eX (a:au) (b:au)) c B:=jk<|hj d h
def LP(a:aa O)(m):=∀x,x∈a↔eH m x=Q
def FZ(c:m<2^64)(h:∀a,LP a m->bw a->U a<=64->d (aN<|iV a) b):aK (n+1) 24 [ag m] b d e:=by
 refine a7 PH (.c 47 (ag m) ar) Y Y<|aV de λa b f=>n5 (λg (_:j4)=>m>>>g) (λg Z=> .c 94 (aj a)<| .c 3 (ag (g:O))<| .c 40 (ag (m>>>g:O)) ar) (λg Z=> .c a (az<|iV<|pY (eH m)<|e4 g) bO) (λg Z=>g<=64) 0 () f (ao Y) λg Z s j k f l=>?_;have o:U (pY (eH m)<|e4 g)<=g:=ae (A5 ..)<|c6 e9;refine hZ (a:=0) (λq=>?_) λq=>?_
 .have p:g<64:=by refine zW λr=>?_;rw [Zk,Nat.div_eq_of_lt<|cc c<|B6 (ao Y) r] at q;exact kq 0 q
  have t:=λv=>l (g+1) () v (Nat.div_lt_self q<|ao Y) p;rw [Bp,I1] at t;refine br (⟨cp _,of_decide_eq_true rfl⟩) ?_;have x:eH m g=(1&&&(m>>>g) !=0):=Y;refine hj (a:=(m>>>g)&&&1) (b:=1) (λe=>?_) λe=>?_
  .rw [FN,e] at x;rw [show pY (eH m) [g]=[g] by simp [x],<-n9] at t;exact cH f 0 Y<|dF f 0 Y (W du<|cf<|ae o<|ae k<|ao Y) λs f=>⟨⟨cp _,by decide⟩,t s f⟩
  .have y:eH m g=false:=by
    refine W x<|W (FN ..) ?_;rcases k_ (m>>>g) with z|z<;>rw [<-Vh] at z
    .exact W z Y
    .exact ay z e
   rw [show pY (eH m) [g]=[] by simp [y],dB] at t;exact⟨⟨cp _,by decide⟩,t s f⟩
 .refine jg f 0 Y<|h _ (λx=>?_) (Lb _ z!) (ae o k);rw [rR,tV];exact⟨λz=>z.2,λz=>⟨(by refine zW λr=>?_;have y:eH m (g+(x-g))=false:=ax (Nat.testBit_shiftRight ..)<|W (vW.mp q)<|W (vb ..) Y;rw [zj r,z] at y;exact bR y),z⟩⟩
def acs:∀{b} {k a} {r},b[a]?=J r->(nk k b)[a]?=J (r5 (k+a) r):=by
 intro b
 induction b with
 |nil=>exactλh=>aI h|cons x t c=>intro k a r h;induction a with
  |zero=>exact aC h▸Y|succ a=>exact W (a4 (Yw k a):k+_=k+1+a)<|c h
def Ao(h:b[a]?=J r):(nk 0 b)[a]?=J (r5 a r):=by have c:=acs (k:=0) h;rw [eJ] at c;exact c
def K5:∀{a} {k},U (nk k a)=U a:=by intro a;exact @(a.rec Y λx t b=>aq _ b)
def xA(k):(nk 0 a)[k]?=b4 (r5 k) (a[k]?):=by
 cases q:a[k]? with
 |some r=>exact Ao q|none=>exact iB<|W K5<|tK.mp q
def At(G:Gr)(a r d o)(b):=j6 (G.hW[a]?=J r) (G.pf[r]?=J o) (a=o+d) (G.a5[r]?=J b)<|d<=U b.aQ
def Jj(h:a (ag G.nS) b):aK (n+1) 406 [G.V] b a c:=by refine a7 M8 (.c 64 G.V ar) Y Y<|bc ?_;rw [show G.nS=U (sV G.cI) from a4<|bC _] at h;exact h
def C9{a:QT}(h:a (bT<|decide (s<G.nT)) b):aK (n+1) 402 [G.V,ag s] b a c:=a7 L8 (.c 64 G.V<| .c 183 _ ar) Y Y<|bc<|W xf<|W (ak decide_eq_decide hl:decide _=decide _) h
def Lj{r d o:O}(a:G.pf[r]?=J o)(h:b (ag (o+d:O)) c):aK (n+1) 350 [G.V,ag r,ag d] c b e:=a7 Mv _ Y Y (bJ Y (fV a)<|bc h)
def RB{a r:O}(b:G.hW[a]?=J r)(h:c (ag r) d):aK (n+1) 379 [G.V,ag a] d c e:=a7 Su (.c 64 G.V<| .c 36 _ ar) Y Y<|bJ Y (fV b)<|bc h
def ajR(a:At G b r d o f)(h:c (ag d) e):aK (n+1) 373 [G.V,ag b] e c g:=by refine a7 RO (.c 64 G.V<| .c 36 _ ar) Y Y<|bJ Y (fV<|a V)<|bJ Y (fV<|a J1)<|ph (a J2)<|bc h
def aeA(a:s<G.nS):(I5 G)[s]?=J (aN<|iV<|G.jY s):=by unfold I5;simp only [cg,xd a];rfl
def V2(b:s<G.nS)(h:c (aN<|iV<|G.jY s) a):aK (n+1) 389 [G.V,ag s] a c d:=a7 N1 (.c 64 G.V<| .c 183 _ ar) Y Y<|bJ Y (aeA b)<|aV de λe a f=>jg f 0 Y h
noncomputable def Ů(o:bf O):=match o with
|some s=>(s:au)|none=> -1
def ahE(a:At G c r d o b)(h:e (ag<|Ů b.aQ[d]?) f):aK (n+1) 362 [G.V,ag c] f e g:=by
 refine a7 Q1 (.c 64 G.V<| .c 36 _ ar) Y Y<|bJ Y (fV<|a V)<|bJ Y (Ao<|a J3)<|bJ Y (fV<|a V)<|bJ Y (fV<|a J1) ?_;have j:U (iV b.aQ)=U b.aQ:=du;refine ph (a J2)<|hZ (λq=>?_) λq=>?_
 .rw [j] at q;rw [bK q] at h;exact bJ Y (fV<|bK q)<|bc h
 .rw [j] at q;rw [iB q] at h;exact bc h
noncomputable def bV(a:aa ba):=R bT a
def xk{a:O}(h:b[a]?=J c):(bV b)[a]?=J (bT c):=by unfold bV;simp only [cg,h];rfl
def ik(f:Fr a c d)(h:eQ a v=J b):eQ c v=J b:=by
 cases v with
 |tup _=>exact h|lst _=>exact h|ref e=>
  refine(?_:mW (c e)=J b);have h:mW (a e)=J b:=h;cases q:a e with
  |none=>rw [q] at h;exact aI h|some o=>exact W ((f J1) e o q)<|ax q h
 |_=>exact aI h
def JJ{b:Type}{a:aa b}{x}(h:a[k]?=J x):cq k a=x::cq (k+1) a:=by obtain⟨q,e⟩:=ka.mp h;exact ax e<|Na q
noncomputable def fo(N:aa ba)(a:aa O):aa O->O->O×ba
|[],m=>(m,Q)|y::r,m=>aD (F N y u) (fo N a r<|m|||F a y 0) (m|||F a y 0,u)
def Fb:fo N a (y::r) m=aD (F N y u) (fo N a r<|m|||F a y 0) (m|||F a y 0,u):=Y
def e8{c:Type}{a}{d:c}(h:b<U a):a[b]?=J (F a b d):=by simp only [cZ,bK h];rfl
def ali(f:eQ c d=J (bV N))(g:eQ c e=J (iV a))(j:∀y∈b,y<U N/\y<U a)
 (h:k (aR [ag (fo N a b 0).1,bT (fo N a b 0).2]) c):aK (n+1) 230 [aR<|iV b,d,e] c k l:=by
 refine a7 Ni _ Y Y (cb Y<|cv d5 (λZ m Z=> .c 216 _ (.c 253 d<| .c 161 e<| .c 47 (ag (m:O)) ar)) (λZ Z Z=>bO) (λk m Z=>fo N a b 0=fo N a (cq k b) m) 0 () de Y (λZ Z Z Z Z=>rfl) ?_ ?_)
 .intro k y m _ s o p q r t;have l:=j y<|aP p;rw [JJ p,Fb] at q;refine bJ (ik r g) (fV<|e8 (d:=0) l.2)<|⟨⟨cp _,cp _⟩,bJ (ik r f) (xk<|e8 (d:=u) l.1)<|jk<|ef (λv=>?_) λv=>?_⟩
  .rw [v] at q;exact t _ () s q r
  .rw [v] at q;rw [q] at h;exact m9 r h
 .intro m _ s q r;rw [B3<|bb _] at q;rw [q] at h;exact m9 r h
def oL(h:a<2^e)(k:b<2^e):a|||b<2^e:=Nat.or_lt_two_pow h k
def A!{a b:O}(h:a|||b≠a):a<a|||b:=yf Nat.left_le_or h.symm
def jv(h:∀f∈a,f<2^e)(y):F a y 0<2^e:=by
 refine W (cZ) ?_;cases q:a[y]? with
 |none=>exact vc e|some f=>exact h f<|aP q
def gL{c:Type}{a}{d x:c}(h:b<U a):F (c2 a b x) j d=if b=j then x else F a j d:=by
 refine W (cZ)<|W (cZ)<|W (Ay) ?_
 by_cases q:b=j
 .exact W (aJ q)<|W (aJ q)<|W (aJ h) Y
 .exact W (aS q)<|W (aS q) Y
noncomputable def mO(a:aa O):=(R (2^64-·) a).sum
def y?(c:m<2^64):∀{a} {b},b<U a->F a b 0<m->mO (c2 a b m)<mO a:=by
 intro a
 induction a with
 |nil=>exactλh=>ay h<|fC _|cons f r d=>intro b h k;induction b with
  |zero=>exact Dm (xq (fe k c) k) _|succ b=>exact tv (d (zF h) k) _
def t?(h:∀f∈b,f<2^e):∀{a} {m},m<2^e->(fo N b a m).1<2^e:=by
 intro a;refine @(a.rec (λk=>k) λy r c=>?_);intro m k;refine W Fb ?_;cases F N y u with
 |true=>exact c<|oL k<|jv h y|false=>exact oL k<|jv h y
structure GW(G:Gr):Prop where
nS:G.nS<=12
nT:G.nT<G.nS
t3:3<=G.nT
oX:U G.a5<=10
lt:∀o∈G.a5,(G.nT<=o.aY/\o.aY<G.nS)/\∀z∈o.aQ,z<G.nS
yv:∀o∈G.a5,U o.aQ<=3
abbrev e6:=GW G
def GW.Kj(a:e6)(h:m<2^G.nT):m<2^64:=cc h<|B6 (ao Y)<|ae (bU a.nT)<|ae a.nS<|ao Y
inductive m7(G:Gr):O->Prop
|mk (r:Ru) (h:r∈G.a5) (a:∀y∈r.aQ,m7 G y):m7 G r.aY
def Q7(G)(N):=eY (U N=G.nS)<|∀s,m7 G s->F N s u=Q
def Sb(m k):=∀t,eH m t=Q->eH k t=Q
def Iy(G)(a):=hK (U a=G.nS) (∀f∈a,f<2^G.nT) (∀t<G.nT,eH (F a t 0) t=Q)<|∀r∈G.a5,∀b c d,r.aQ=b++c::d->(∀y∈b,m7 G y)->Sb (F a c 0) (F a r.aY 0)
def Sb.Bm(h:Sb a b):Sb a (b|||c):=λt q=>by exact W (xK ..)<|W (h t q) Y
def Sb.wM(h:Sb a c):Sb a (b|||c):=λt q=>by simp only [xK,h t q,zZ]
def Sb.sG(h:Sb a b)(k:Sb b c):Sb a c:=λt q=>k t<|h t q
def ag7:∀{a} {m},Sb m (fo N b a m).1:=by
 intro a;refine @(a.rec (λZ q=>q) λy r c=>?_);intro m;refine W Fb ?_;cases F N y u with
 |true=>exact Sb.sG (Sb.Bm λZ q=>q) c|false=>exact Sb.Bm λZ q=>q
def ab0:∀{a} {m},(∀y∈a,F N y u=Q)->Sb (F b c 0) (fo N b (a++c::d) m).1:=by
 intro a
 induction a with
 |nil=>
  intro m _;refine W Fb ?_;cases F N c u with
  |true=>exact Sb.sG (Sb.wM λZ q=>q) ag7|false=>exact Sb.wM λZ q=>q
 |cons y r e=>intro m h;exact((W Fb<|W (h y (b8 ..))<|e λz q=>h z<|cz _ q):Sb _ (fo N b (y::_) m).1)
def mR{m:O}(h:m<=1000000):tJ m:=⟨nQ (ao Y)<|cp m,LU (ak jj h)<|ao Y⟩
noncomputable def mQ(G:Gr)(k):=(e4 k).map λs=>aD (dI s G.nT) (2^s) 0
def Yz:U (mQ G k)=k:=by unfold mQ;rw [bC,e9]
def ahW(h:s<k):F (mQ G k) s 0=aD (dI s G.nT) (2^s) 0:=by refine W (cZ) ?_;unfold mQ;simp only [cg,xd h];rfl
def kS:dI a b=decide (a<b):=by
 cases q:dI a b with
 |true=>exact a4<|eZ<|ht q|false=>exact a4 (gh λz=>by have c:=xD z;unfold dI at q;exact bR<|c▸q)
def Ox(G:Gr)(N:aa ba)(a:O)(r:aW):aW:= .c 201 G.V<| .c 253 (aN<|bV N)<| .c 161 (aj a) r
def Fm(G:Gr)(N:aa ba)(a):=fF (U a=G.nS) (∀f∈a,f<2^G.nT)<|∀t<G.nT,eH (F a t 0) t=Q
def Fm.grow(h:Fm G N b)(c:a<G.nS)(d:m<2^G.nT)(e:Sb (F b a 0) m):Fm G N (c2 b a m):=by
 refine bY (W ni<|h V) (λf g=>?_) λt j=>?_
 .rcases ED g with q|q
  .exact(h J1) f q
  .exact W q d
 .refine W (gL<|by rw [h V];exact c) ?_
  by_cases q:a=t
  .exact W (aJ q)<|(q▸e) t<|(h J2) t j
  .exact W (aS q)<|(h J2) t j
def HD(N)(a)(r:Ru):=F a r.aY 0|||(fo N a r.aQ 0).1=F a r.aY 0
def WY(G)(N)(a)(g):=eY (Fm G N a)<|g=u->∀r∈G.a5,HD N a r
def C7(G)(N)(b)(k:O)(a)(g):=hK (Fm G N a) (mO a<=mO b) (g=Q->mO a<mO b)<|g=u->∀c<k,∀r,G.a5[c]?=J r->HD N a r
def R0(c:Fm G N a)(d:mO a<=mO b)(e:g=Q->mO a<mO b)(f:g=u->∀h<k,∀r,G.a5[h]?=J r->HD N a r):C7 G N b k a g:=dS c d e f
def C7.end(h:C7 G N b (U G.a5) a g):WY G N a g:=
cj (h V) λe r c=>bp (gs.mp c) λd f=>(h J3) e d (gl f) r f
def mu(a)(g):=aD g (mO a+1) 0
def C7.mu(h:C7 G N a k b g):mu b g<mu a true:=by
 induction g with
 |true=>exact xn<|(h J2) Y|false=>exact kv _
def Gi:iV (c2 a b m)=c2 (iV a) b (ag m):=CH
abbrev uE:=Q7 G
def ahS(b:e6)(e:∀c (d:QT),(∀N,uE N->d (aN<|bV N) c)->aK (n+2) 239 [G.V] c d f)(h:∀a,Iy G a->d (aN<|iV a) c):aK (n+3) 289 [G.V] c d f:=by
 refine a7 KI (.c 201 G.V ar) Y Y<|e _ _ λN g=>aV de λj s k=>Jj<|⟨mR<|ae b.nS<|ao Y,cv mU (λX (_ _:j4)=>Ox G N j ar) (λl X X=> .c j (az<|iV<|mQ G l) bO) (λX X X=>bh) () () k a0 (λX X X X X=>rfl) ?_ ?_⟩
 .intro l x _ _ s m o _ k p;have o:=ly o;refine W o.1 ?_;have q:=o.2;refine cH k 0 Y<|C9 ?_;have r:U (iV<|mQ G l)<cu:=by rw [du,Yz];exact cf<|ae (bU q)<|ae b.nS<|by decide
  have t:=λv=>p () () v a0;have y:mQ G (l+1)=mQ G l++[aD (dI l G.nT) (2^l) 0]:=by unfold mQ;simp only [Bp,dv];rfl
  rw [y,<-n9,kS] at t;refine ef (λB=>?_) λB=>?_
  .rw [B] at t;exact⟨⟨Y,cp _,ak hl<|cc q<|ae b.nS<|by decide⟩,dF k 0 Y r t⟩
  .rw [B] at t;exact dF k 0 Y r t
 .intro _ _ s _ k;rw [e9] at k;refine n5 mu (λa C=>Ox G N j<| .c 233 (bT C) ar) (λa X=> .c j (az<|iV a) bO) (WY G N) _ Q k (cj ((by
   refine bY Yz (λf H=>?_) λt I=>?_
   .obtain⟨s,L,rfl⟩:=mm H;cases B:dI s G.nT with
    |true=>exact JQ (ao Y)<|ht B|false=>exact vc _
   .refine W (ahW<|fe I b.nT)<|W kS<|W (eZ I) ?_;exact QO)) E8) ?_
  intro a C s m o k p
  induction C with
  |false=>exact jg k 0 Y<|h a<|dS ((o V) V) ((o V) J1) ((o V) J2) (λr M T Z c e d=>by
  have c:=(o J1) Y r M;unfold HD at c;rw [e] at c;exact Sb.sG (ab0 λy n=>(g J1) y<|d y n)<|ax c<|Sb.wM λX B=>B)
  |true=>
   refine cb Y<|cv xA (λX a C=>Ox G N j<| .c 233 (bT C) ar) (λX a X=> .c j (az<|iV a) bO) _ a u k (R0 (o V) (bb _) lQ λX x v=>ay v<|fC x) (λX X X X X=>rfl) ?_ ?_
   .intro l r a C s m M f k p;have t:=b.lt r<|aP M;have gl:=fV<|e8 (d:=0)<|W ((f V) V) t.1.2;refine dc k 0 Y gl<|ali Y (k.lt 0 Y) (λz h=>⟨W (g V)<|t.2 z h,W ((f V) V)<|t.2 z h⟩)<|bJ Y Y<|⟨⟨cp _,cp _⟩,dc k 0 Y gl<|yW (λB=>?_) λB=>?_⟩
    .exact qC k 0 Y (by simp only [du,(f V) V];exact t.1.2) λs k=>p _ Q s ((by have q:=cc (y? (b.Kj<|oL (jv ((f V) J1) _)<|t? ((f V) J1)<|vc _) (W ((f V) V) t.1.2)<|A! B)<|f J1;exact R0 ((f V).grow t.1.2 (oL (jv ((f V) J1) _)<|t? ((f V) J1)<|vc _)<|Sb.Bm λH B=>B) (bU q) (λH=>q) E8)) (W Gi k)
    .exact p a C s (R0 (f V) (f J1) (f J2) (λe x v I L=>by
  rcases iN.mp v with z|z
  .exact(f J3) e x z I L
  .rw [z,M] at L;exact ax (aC L) B)) k
   .exactλT C s n k=>p T C s n.mu n.end k
def LJ:iV (dM m k)=dM m (ag k):=G9
def aeJ{a:aa b}{g:b->ai}(k:O):(R g a).reverse[k]?=b4 g (a.reverse[k]?):=ax B8 (cg ..)
noncomputable def pV(b)(N)(a)(c y):=if y<b then F a y 0 else aD (F N y u) (c|||F a y 0)<|F a y 0
noncomputable def qL(a:O)(N:aa ba)(c b:aa O):aa O->O->Prop
|[],_=>bh|y::r,d=>(a<=y->F b y 0|||d=F b y 0)/\qL a N c b r (pV a N c d y)
def JN(G:Gr)(N:aa ba)(b a:aa O):=eY (U a=G.nS)<|∀f∈a,f<2^G.nT
def KQ(G)(N)(b a)(g):=eY (JN G N b a)<|g=u->∀r∈G.a5,qL G.nT N b a (f3 r.aQ)<|F a r.aY 0
def s'(c:JN G N b a)(d:g=u->∀r∈G.a5,qL G.nT N b a (f3 r.aQ)<|F a r.aY 0):KQ G N b a g:=cj c d
def wG(G)(N)(b c)(k:O)(a)(g):=hK (JN G N b a) (mO a<=mO c) (g=Q->mO a<mO c)<|g=u->∀d<k,∀r,G.a5[d]?=J r->qL G.nT N b a (f3 r.aQ) (F a r.aY 0)
def wH(G)(N)(c d)(e)(r:Ru)(k)(a)(b:ba×O):=fF (wG G N c d e a b.1) (b.2<2^G.nT)<|b.1=u->qL G.nT N c a (cq k<|f3 r.aQ) b.2->qL G.nT N c a (f3 r.aQ) (F a r.aY 0)
def Mc(d:wG G N c e f a b.1)(g:b.2<2^G.nT)(h:b.1=u->qL G.nT N c a (cq k<|f3 r.aQ) b.2->qL G.nT N c a (f3 r.aQ) (F a r.aY 0)):wH G N c e f r k a b:=bY d g h
def wH.next(h:wH G N a f g r k b c)(d:∀j∈a,j<2^G.nT)(l:r.aQ.reverse[k]?=J y)
 (m:G.nT<=y->F b y 0|||c.2=F b y 0):wH G N a f g r (k+1) b (c.1,pV G.nT N a c.2 y):=by
 refine Mc (h V) ?_ λe c=>(h J2) e ?_
 .show pV _ _ _ _ _<_;unfold pV;split
  .exact jv d y
  .cases F N y u with
   |true=>exact oL (h J1)<|jv d y|false=>exact jv d y
 .exact W (JJ l)<|⟨m,c⟩
def wH.end(h:wH G N b c a r (U<|f3 r.aQ) d e)(f:G.a5[a]?=J r):wG G N b c (a+1) d e.1:=
dS ((h V) V) ((h V) J1) ((h V) J2) (λe j g k l=>by refine aO (iN.mp g) (λz=>(h V) J3 e j z k l) λz=>?_;rw [z,f] at l;exact ax (aC l)<|(h J2) e<|by refine W (B3<|bb _) ?_;trivial)
def wG.end(h:wG G N a c (U G.a5) b g):KQ G N a b g:=
s' (h V) λe r d=>bp (gs.mp d) λf j=>(h J3) e f (gl j) r j
def wG.mu(h:wG G N c a k b g):mu b g<mu a true:=by
 induction g with
 |true=>exact xn<|(h J2) Y|false=>exact kv _
def GL(G:Gr)(N:aa ba)(a:aa O)(b:O)(g:ba)(r:aW):aW:= .c 201 G.V<| .c 253 (aN<|bV N)<| .c 161 (aN<|iV a)<| .c 200 (aj b)<| .c 233 (bT g) r
def aax(e:e6)(f:∀n (c:aT) d,(∀N,uE N->d (aN<|bV N) c)->aK (n+2) 239 [G.V] c d g)
 (h:∀N b a,uE N->Iy G b->KQ G N b a u->d (aN<|iV a) c):aK (n+4) 301 [G.V] c d g:=by
 refine a7 QG (.c 201 G.V ar) Y Y<|f _ _ _ λN j=>ahS e (f n) λb k=>aV de λl s m=>Jj<|hF m ⟨⟨Y,cp _,bU<|cf<|ae e.nS<|ao Y⟩,aV m λo s m=>?_⟩;have m:=m.tl;rw [show dM _ (ag 0)=iV _ from a4 LJ] at m;have p:JN G N b (dM G.nS 0):=cj ir λÀ q=>W (Pc.mp q).2<|vc _;refine n5 mu (λX g=>GL G N b o g ar) (λa X=> .c o (az<|iV a) bO) _ _ Q m (s' p E8) λa g s r t m v=>?_
 induction g with
 |false=>exact jg m 0 Y<|h N b a j k t|true=>
  refine cb Y<|cv xA (λX X g=>GL G N b o g ar) (λX a X=> .c o (az<|iV a) bO) (wG G N b a) a u m (dS (t V) (bb _) lQ λX x y=>ay y<|fC x) (λX X X X X=>rfl) ?_ ?_
  .intro x z B g s r C H m v;have I:=e.lt z<|aP C;refine dc m 0 Y (fV<|e8 (d:=0)<|W ((H V) V) I.1.2) ?_;refine cv aeJ (λX X L=>GL G N b o L.1<| .c 61 _ (.c 150 (ag (L.2:O)) ar)) (λX a X=> .c o (az<|iV a) bO) _ B (g,F B z.aY 0) m (Mc H (jv ((H V) J1) _) λX M=>M) (λX X X X X=>rfl) ?_ ?_
   .intro T y Z L s r l H m v;have p:=I.2 y<|vZ.mp<|aP l;refine C9<|ef (λh=>?_) λh=>?_
    .have h:=ao h;refine bJ Y (fV<|e8 (d:=0)<|W (k V) p) ?_;have t:=v Z _ s (H.next (k J1) l λB=>ay h<|ak fU B) m;unfold pV at t;rw [aJ h] at t;exact t
    .have h:=Eu h;have gl:=fV<|e8 (d:=0)<|W ((H V) V V) p;have M:∀I (f:ba) s,wH G N b a x z (T+1) I (f,pV G.nT N b L.2 y)->Fr c s (.c o (az<|iV I) bO)->
      c1 (aK<|n+3) (λX=>bW) (fG (nK (eb 150)<| .ite (hC kW (eb 253)<|eb 183) (hC me (eb 150)<|hC kW (eb 161)<|eb 183)<|hC kW (eb 161)<|eb 183)<|fG (.del [183]) ck)
       (GL G N b o f<| .c 61 (r5 x z)<| .c 150 (ag (L.2:O))<| .c 183 (ag y) ar) s r (eh d) r:=by
      intro I f s H m;have t:=v I _ s H m;unfold pV at t;rw [aS h] at t;refine bJ Y (xk<|e8 (d:=u)<|W (j V) p)<|ef (λh=>?_) λh=>?_
      .rw [h] at t;exact bJ Y (fV<|e8<|W (k V) p) ⟨⟨cp _,cp _⟩,t⟩
      .rw [h] at t;exact bJ Y (fV<|e8<|W (k V) p) t
     refine dc m 0 Y gl ⟨⟨cp _,cp _⟩,dc m 0 Y gl<|yW (λB=>?_) λB=>?_⟩
     .refine dc m 0 Y gl ⟨⟨cp _,cp _⟩,?_⟩;have c:wH G N b a x z T (c2 Z y<|F Z y 0|||L.2) (Q,L.2):=by have d:=oL (jv ((H V) V J1) y)<|H J1;have n:=cc (y? (e.Kj d) (W ((H V) V V) p)<|A! B)<|(H V) J1;exact Mc (dS (cj (W ni<|(H V) V V) λÀ q=>aO (ED q) ((H V) V J1 À) λe=>e▸d) (bU n) (λX=>n) E8) (H J1) E8
      exact qC m 0 Y (by simp only [du,(H V) V V];exact p) λs m=>M _ Q s (c.next (k J1) l λX=>W (gL<|by rw [(H V) V V];exact p)<|W (aJ Y)<|W (Nat.or_assoc ..)<|aq _ (Ľ ..)) (by rw [Gi];exact m)
     .exact M Z L.1 s (H.next (k J1) l λX=>B) m
   .exactλZ L s H m=>v Z L.1 s (H.end C) m
  .exactλj g s l m=>v j g s l.mu l.end m
def ZD:(x>>>m)&&&1=1↔eH x m=true:=by have a:eH x m=(1&&&_ !=0):=Y;refine W a<|W (FN ..) ?_;rcases k_ _ with z|z<;>rw [<-Vh,FN] at z<;>refine W z ?_<;>decide
noncomputable def bt(a)(b c):=eH (F a b 0) c
def Tr(b a)(m):=om (U a=U b) (∀f∈a,f<2^64) (∀c,Sb (F b c 0)<|F a c 0) (∀c d,bt a c d=Q->∃e,(e=c\/bt a c e=Q)/\bt b e d=Q) (∀k<m,∀c d,bt a c k=Q->bt a k d=Q->bt a c d=Q)<|∀c d,bt a c d=Q->EJ (λc d=>bt b c d=Q) c d
def q2(a)(m b):=aD (bt a b m) (F a b 0|||F a m 0)<|F a b 0
def IV(a)(m j)(b):=eY (U b=U a) (∀c,F b c 0=if c<j then q2 a m c else F a c 0)
def akx:q2 a m m=F a m 0:=by
 unfold q2;cases bt a m m with
 |true=>exact Ľ _|false=>rfl
def akF:eH (q2 a m b) c=(bt a b c||(bt a b m&&bt a m c)):=by
 unfold q2;cases q:bt a b m with
 |true=>exact xK ..|false=>exact a4<|Pq _
set_option tactic.hygienic true in
def Tr.next(h:Tr c a m)(k:IV a m (U a) b):Tr c b (m+1):=by
 have d:∀f,F b f 0=q2 a m f:=λf=>by
  refine W (k J1 _) ?_;split
  .rfl
  .rename_i z;have:F a f 0=0:=by refine W (cZ)<|W (iB<|j3 z) ?_;rfl
   unfold q2 bt;exact W this<|W (vb ..) Y
 have g:∀f j,bt b f j=(bt a f j||_):=λf j=>by exact ax akF<|ax (d ..) Y
 refine e1 (af (k V)<|h V) (λl n=>?_) (λf=>?_) (λf j e=>?_) (λc o f j p q=>?_) λf j e=>?_
 .refine bp (gs.mp n) λr s=>?_;have:l=F b r 0:=by refine W (cZ)<|W s ?_;rfl
  refine W this<|W (d ..) ?_;unfold q2;cases bt a r m with
  |true=>exact oL (jv (h J1) _)<|jv (h J1) _|false=>exact jv (h J1) _
 .exact((h J2) f).sG λt q=>W (show eH (F b f 0) t=bt b f t from Y)<|W (g ..)<|W (show bt a f t=Q from q) Y
 .rw [g] at e;rcases kR.mp e with e|e
  .exact aA ((h J3) f j e) λc o r=>⟨c,o.imp_right λz=>by refine W (g ..)<|W z ?_;rfl,r⟩
  .refine dC ((vu ..).mp e) λv x=>aA ((h J3) m j x) λc o r=>⟨c,aw<|W (g ..)<|W v ?_,r⟩;rcases o with rfl|o
   .exact W v Y
   .exact W o<|W (UD ..) (zZ ..)
 .rw [g] at p q⊢;rw [kR,vu] at p q⊢;rcases iN.mp o with o|rfl
  .rcases p with p|p<;>rcases q with q|q
   .exact aL<|(h J4) c o f j p q
   .exact aw ⟨(h J4) c o f m p q.1,q.2⟩
   .exact aw ⟨p.1,(h J4) c o m j p.2 q⟩
   .exact aw ⟨p.1,q.2⟩
  .exact aw ⟨aO p id And.left,aO q id And.right⟩
 .rw [g] at e;rcases kR.mp e with e|e
  .exact(h J5) f j e
  .exact dC ((vu ..).mp e) λv x=>((h J5) f m v).trans<|(h J5) m j x
def ad1(a T):=om (U T=U a) (∀f∈T,f<2^64) (∀b,Sb (F a b 0)<|F T b 0) (∀b c,bt T b c=Q->∃d,(d=b\/bt T b d=Q)/\bt a d c=Q) (∀k b c,bt T b k=Q->bt T k c=Q->bt T b c=Q)<|∀b c,bt T b c=Q->EJ (λb c=>bt a b c=Q) b c
def agw{a}{v}(d:eQ b v=J (iV a))(c:U a<=12)(e:∀f∈a,f<2^64)(h:∀T,ad1 a T->g (aN<|iV T) b):aK (n+1) 281 [v] b g j:=by
 refine a7 QZ (.c 60 v ar) Y Y<|Qg de d λk s l=>?_;have m:∀o s,U o=U a->Fr b s (.c k (az<|iV o) bO)->(∀p,_->nh (s k) p)/\tJ (U (iV o):O):=λo s q l=>⟨λp r=>hF l r,mR<|by rw [du,q];exact ae c<|ao Y⟩
 refine(m a s Y l).1 _ ⟨(m a s Y l).2,cv mU (λX X X=> .c 94 _ ar) (λX o X=> .c k (az<|iV o) bO) (λt o X=>Tr a o t) a () l (e1 Y e (λX X x=>x) (λk b q=>⟨k,aL Y,q⟩) (λr y=>ay y<|fC r) λX X q=> .single q) (λX X X X X=>rfl) ?_ ?_⟩
 .intro t z o _ s p B C l H;have I:=ly B;refine W I.1 ?_;have L:t<U a:=by have M:=I.2;rw [du] at M;exact M
  refine(m o s (C V) l).1 _ ⟨(m o s (C V) l).2,cv mU (λX X X=> .c 94 _ _) (λX o X=> .c k (az<|iV o) bO) (λj N X=>IV o t j N) o () l (cj Y λk=>W (aS<|fC k) Y) (λX X X X X=>rfl) ?_ ?_⟩
  .intro j z N _ s p B Z l H;have v:=ly B;refine W v.1 ?_;have T:j<U o:=by have M:=v.2;rw [du] at M;exact M
   have d:=fV<|e8 (d:=0)<|W (Z V) T;have f:=fV<|e8 (a:=N) (d:=0)<|by simp only [Z V,C V];exact L
   have g:F N j 0=F o j 0:=W ((Z J1) _)<|aS<|kq j;rw [g] at d;have n:F N t 0=F o t 0:=by
    refine W ((Z J1) _) ?_;split
    .exact akx
    .rfl
   rw [n] at f;refine dc l 0 Y d<|⟨⟨cp _,cp _,ak hl<|cc L<|ae c<|by decide⟩,⟨cp _,ao Y⟩,hj (λx=>?_) λx=>?_⟩
   .have x:bt o j t=true:=ZD.mp x;refine dc l 0 Y d<|dc l 0 Y f ⟨⟨cp _,cp _⟩,qC l 0 Y (by simp only [du,Z V];exact T) λs l=>?_⟩;have e:IV o t (j+1) (c2 N j<|q2 o t j):=by
     refine cj (W ni<|Z V) λk=>W (gL<|by rw [Z V];exact T)<|W ((Z J1) _) ?_
     by_cases x:j=k
     .subst x;rw [aJ Y,aJ<|g9 j]
     .rw [aS x]
      by_cases z:k<j
      .rw [aJ z,aJ<|rM z]
      .rw [aS z,aS λy=>aO (iN.mp y) z λq=>x q.symm]
    have a:=e;unfold q2 at a;rw [x] at a;exact H _ () s a (W Gi l)
   .have I (x:bt o j t=u):IV o t (j+1) N:=by
     refine cj (Z V) λk=>W ((Z J1) _) ?_
     by_cases z:k<j
     .exact W (aJ z)<|W (aJ<|rM z) Y
     .refine W (aS z) ?_
      by_cases y:k<j+1
      .refine W (aJ y)<|W (hL (lD y)<|j3 z) ?_;unfold q2;exact W x Y
      .exact W (aS y) Y
    exact H N () s (I<|ak Ł λz=>x<|ak ZD z) l
  .intro N _ s Z l;rw [e9,du] at Z;exact H N () s (C.next Z) l
 .intro o _ s C l;rw [e9,du,<-(C V)] at C;exact jg l 0 Y<|h o<|e1 (C V) (C J1) (C J2) (C J3) (λr k b p x=>by
 by_cases z:r<U o
 .exact(C J4) r z k b p x
 .have M:F o r 0=0:=by refine W (cZ)<|W (iB<|j3 z) ?_;rfl
  unfold bt at x;rw [M,vb] at x;exact bR x)<|C J5
noncomputable def we{a:Type}(g:a->m2):aa O->aa a->Cs
|b::r,x::s=> .c b (g x)<|we g r s|_,_=>bO
def V?:∀{a} {b} {s c},a[s]?=J c->b[s]?=J x->(we g a b).at s=J (c,g x):=by
 intro a
 induction a with
 |nil=>exactλh=>aI h|cons v r d=>intro b s c h k;cases b with
  |nil=>exact aI k|cons y t=>induction s with
   |zero=>exact aC h▸aC k▸Y|succ s=>exact d h k
def afI:∀{a} {b} {s},(we g a b).g8 s (g x)=we g a (c2 b s x):=by
 intro a
 induction a with
 |nil=>exact Y|cons v r c=>intro b s;cases b with
  |nil=>rfl|cons y t=>induction s with
   |zero=>rfl|succ s=>exact aq _ c
def YF:∀{b} {a},U b=U a->(we g b a).cA c (g x)=we g (b++[c]) (a++[x]):=by
 intro b
 induction b with
 |nil=>intro a h;induction a with
  |nil=>rfl|cons y t=>exact wC h
 |cons v r d=>intro a h;induction a with
  |nil=>exact vX h|cons y t=>exact aq _ (d<|f7 h)
def hA:=we λx=>az<|iV x
noncomputable def fP(a:aa O):=R aj a
def rU{s a:O}(h:b[s]?=J a):(fP b)[s]?=J (aj a):=by unfold fP;simp only [cg,h];rfl
def pj(h:a[s]?=J b)(k:c[s]?=J d):(hA a c).at s=J (b,az<|iV d):=V? (g:=λx=>az<|iV x) h k
def Gq:(hA a b).g8 s (az<|iV c)=hA a (c2 b s c):=afI (g:=λx=>az<|iV x)
def BL(h:U a=U b):(hA a b).cA c (az [])=hA (a++[c]) (b++[[]]):=YF (g:=λx=>az<|iV x) (x:=[]) h
def HG:U (bV a)=U a:=bC _
def VR:bV (c2 a b c)=c2 (bV a) b (bT c):=CH
def ago:bV (dM m b)=dM m (bT b):=G9
def Us(G:Gr)(b)(c)(a):=j6 (U a=G.nS) (∀j<b,∀r,G.a5[j]?=J r->∀s<G.nS,sU s r.aQ<=sU j (F a s [])) (∀s<G.nS,sU s c<=sU b (F a s [])) (∀s<G.nS,U (F a s [])<=3*b+U c)<|∀s<G.nS,∀x∈F a s [],x<U G.a5
noncomputable def zV(a:aa au):=R ag a
def Dx{a:O}(h:b[a]?=J k):(zV b)[a]?=J (ag k):=by unfold zV;simp only [cg,h];rfl
def EH:U (zV a)=U a:=bC _
def k! :zV (c2 a b c)=c2 (zV a) b (ag c):=CH
def O':zV a++[ag k]=zV (a++[k]):=by unfold zV;exact W dv Y
noncomputable def lk(a b:aa O):=b.countP λy=> !b7 a y
def adh:lk b a<=lk (b++[s]) a+sU s a:=by
 refine a.rec (bb _) λy r c=>?_;unfold lk at c⊢;refine W YX<|W YX<|W TP<|W List.contains_append ?_;cases b7 b y with
 |true=>exact ae c<|d6 (dO _ _) _|false=>
  cases q:(y==s) with
  |true=>
   have d:b7 [s] y=true:=by exact W BH<|W q Y
   exact W d<|b3 c
  |false=>
   have d:b7 [s] y=false:=by exact W BH<|W q Y
   exact W d<|W (jf ..)<|b3 c
def acE(h:∀y∈a,y∈b):lk b a=0:=ak List.countP_eq_zero λy c=>a4 (ak gG<|h y c)▸hu
def z7(G:Gr)(b c:aa O)(k)(a)(q)(L):=t9 (U a=G.nS) (sU Q a=U q) (∀s∈q,s<G.nS) (∀s,F a s u=Q->s∈q) (U L=U G.a5) (∀d r,G.a5[d]?=J r->F L d 0<=(lk b r.aQ:au)-sU d c)<|∀d r,d<k->G.a5[d]?=J r->F L d 0<=0->F a r.aY u=Q
abbrev oR:=z7 G
def z7.Ov(h:oR a sub k b q L):U q<=G.nS:=by simp only [<-(h J1),<-(h V)];exact List.count_le_length
set_option tactic.hygienic true in
def z7.mark(h:oR d sub k a q L)(b:s<G.nS)(c:F a s u=u):oR d sub k (c2 a s Q) (q++[s]) L:=by
 have ls:=a4 (h V)▸b;refine ke (af ni<|h V) ?_ (λx e=>?_) (λx e=>?_) (h J4) (h J5) λf r g j z=>?_
 .have l:a[s]=false:=by rw [cZ,bK ls] at c;exact c
  exact W (List.count_set ls)<|W l<|W a3<|ax (h J1) Y
 .rcases ma e with e|e
  .exact(h J2) x e
  .exact a4 (ms e)▸b
 .rw [gL ls] at e;split at e
  .rename_i m;exact a4 m▸fx _ hf
  .exact gE _ ((h J3) x e)
 .refine W (gL ls) ?_;split
  .rfl
  .exact(h J6) f r g j z
def z7.step(h:oR b sub k a q L)(c:G.a5[k]?=J r)(z:F L k 0<=0->F a r.aY u=Q):oR b sub (k+1) a q L:=
ke (h V) (h J1) (h J2) (h J3) (h J4) (h J5) (λd e f g=>by refine aO (iN.mp f) (λy=>(h J6) d e y g) λy=>?_;rw [y,c] at g;exact ax (aC g)<|a4 y▸z)
def z7.dec(h:oR d sub (U G.a5) b q L)(c:G.a5[a]?=J r)(z:F L a 0-1<=0->F b r.aY u=Q):
 oR d (sub++[a]) (U G.a5) b q (c2 L a<|F L a 0-1):=by
 have e:a<U L:=W (h J4)<|gl c;refine ke (h V) (h J1) (h J2) (h J3) (W ni<|h J4) (λj f g=>?_) λj f k g=>?_
 .have l:=(h J5) j f g;refine W (gL e)<|W IJ<|W ZI ?_
  by_cases m:a=j
  .refine W (aJ m)<|W m<|W (jL ..)<|W (aJ Y)<|W m<|ia1 l
  .exact W (aS m)<|W (yO m) l
 .refine W (gL e) ?_
  by_cases m:a=j
  .refine W (aJ m) ?_;subst m;rw [c] at g;obtain rfl:=aC g;exact z
  .exact W (aS m)<|(h J6) j f k g
def z7.turn(h:oR b c (U G.a5) d q L)(e:∀a r,G.a5[a]?=J r->sU s r.aQ<=sU a c):oR (b++[s]) [] (U G.a5) d q L:=
ke (h V) (h J1) (h J2) (h J3) (h J4) (λa r f=>by exact W List.count_nil<|ia2 ((h J5) a r f) (e a r f)<|adh (b:=b) (s:=s) (a:=r.aQ))<|h J6
def En(G:Gr)(a b c d:O)(r:aW):aW:= .c 201 G.V<| .c 94 (aj a)<| .c 206 (aj b)<| .c 137 (aj c)<| .c 119 (aj d) r
def uL(b c d e:O)(a:aa O)(f:aa ba)(L:aa au)(q:aa O)(g:aa<|aa O):Cs:= .c e (az<|iV q)<| .c d (az<|fP a)<| .c b (az<|bV f)<| .c c (az<|zV L)<|hA a g
noncomputable def Ie(r:Ru):=(U r.aQ:au)
def sp0:oR [] [] 0 (dM G.nS u) [] (R Ie G.a5):=by
 refine ke ir (ak List.count_eq_zero λz=>bR (Pc.mp z).2) (λZ h=>bG h) (λs a=>?_) (bC _) (λb r c=>?_) λb r d=>ay d<|fC b
 .rw [cZ,tW] at a;split at a<;>exact bR a
 .have e {f:aa O}:lk [] f=U f:=ak List.countP_eq_length λZ Z=>rfl;simp only [cZ,cg,c,e];exact Pf (zB _).symm
set_option tactic.hygienic true in
def aag(a:e6)(c:eQ b v=J (bV<|dM G.nS u))(À:∀N,uE N->d (aN<|bV N) b):aK (n+1) 180 [G.V,v] b d e:=by
 refine a7 NT (.c 201 G.V<| .c 104 v ar) Y Y<|Qg de c λf s g=>aV g λb s g=>cb (g.lt 0 Y) ?_;have Á:=a.nS;refine wq g (λk l m=>∃o,U o=k/\l=fP o/\m= .c f _ (.c b _ (hA o<|dM k []))) ⟨[],Y,Y,Y⟩ (λk l m c p s g q=>by obtain⟨o,_,_,rfl⟩:=q;exact g.lt 0 Y) ?_ ?_ ?_
 .refineλk x l m c s r t y q g B C=>aV g λH s g=>?_
  obtain⟨o,I,rfl,rfl⟩:=q;refine B _ s _ g.EW ⟨o++[H],W a3<|W I Y,?_,W HA<|ax (BL<|W I<|W ir Y) Y⟩;unfold fP;exact W dv Y
 .exact W HG<|W ir<|cf<|ae Á<|by decide
 intro c l m s g q;obtain⟨o,I,rfl,rfl⟩:=q;rw [HG,ir] at I g;have g:=g.bN;refine aV g λd s g=>?_;have g:=g.bN;have L:Us G 0 [] _:=ec ir (λM T=>ay T<|fC M) (λs _=>cQ _) (λs Z=>W (cZ)<|W (tW)<|W (aJ Z)<|bb _) λs Z x y=>by rw [cZ,tW,aJ Z] at y;exact bG y
 refine cb Y<|cv xA (λ_ _ _=>En G f b c d ar) (λk v _=>uL f b c d o _ ((aF k G.a5).map Ie) [] v) (λk v _=>Us G k [] v) _ () g L (λ_ _ _ _ _=>rfl) ?_ ?_
 .intro q r v _ s Â n e g p;have t:=gl n;have C:=a.lt r<|aP n;refine cb Y<|cv d5 (λk _ _=>En G f b c d<| .c 61 _ (.c 208 (ag (k:O)) ar)) (λ_ v _=>uL f b c d o _ _ [] v) (λk v _=>Us G q (aF k r.aQ) v) v () g e (λ_ _ _ _ _=>rfl) ?_ ?_
  .intro k l v _ s Â m e g p;have B:=C.2 l<|aP m;obtain⟨H,L⟩:∃H,o[l]?=some H:=cL _<|bK<|a4 I▸B;have h:=e8 (d:=[])<|a4 (e V)▸B;refine dc g 2 Y (xk<|W (tW)<|aJ B) ?_;refine dc g 1 Y (rU L)<|cH g (l+4) (pj L h)<|dF g (l+4) (pj L h) ?_ λs g=>?_
   .exact W du<|cf<|ae ((e J3) l B)<|W dU<|ae (dZ (kb 3<|bU<|cc t a.oX)<|ae (oZ ..)<|a.yv r<|aP n)<|ao Y
   .refine p (c2 v l<|F v l []++[q]) () s ?_ ?_
    .exact W nX<|W m<|(by
      have j:∀s,F (c2 v l<|F v l []++[q]) s []=if l=s then F v s []++[q] else F v s []:=λs=>by
       refine W (gL<|a4 (e V)▸B) ?_
       by_cases N:l=s
       .exact W (aJ N)<|W (aJ N)<|W N Y
       .exact W (aS N)<|W (aS N) Y
      refine ec (af ni<|e V) (λM T r n s Z=>?_) (λs Z=>?_) (λs Z=>?_) λs Z x y=>?_
      .refine ae ((e J1) M T r n s Z)<|W (j ..) ?_;split
       .exact W IJ<|dO _ _
       .exact bb _
      .refine W (j ..)<|W IJ ?_;split
       .rename_i N;exact W IJ<|W y_<|W N<|W y_<|b3<|(e J2) s Z
       .rename_i N;exact W ZI<|W (yO N)<|(e J2) s Z
      .refine W (j ..)<|W a3 ?_;split
       .exact a4 a3▸b3 ((e J3) s Z)
       .exact hH<|(e J3) s Z
      .rw [j] at y;split at y
       .rcases ma y with y|y
        .exact(e J4) s Z x y
        .exact a4 (ms y)▸t
       .exact(e J4) s Z x y)
    .unfold uL;exact ax Gq<|ax n9 g
  .intro v _ s e g;rw [dJ] at e;refine cH g 3 Y<|dF g 3 Y ?_ λs g=>?_
   .exact W EH<|W (bC ..)<|W dU<|cf<|ae (oZ _ _)<|ae a.oX<|ao Y
   .refine p v () s (ec (e V) (λM T y j s Z=>by
  rcases iN.mp T with z|z
  .exact(e J1) M z y j s Z
  .rw [z,n] at j;refine ax (aC j) ?_;exact a4 z▸(e J2) s Z) (λs Z=>cQ _) (λs Z=>ae ((e J3) s Z)<|d6 (a.yv r<|aP n) _)<|e J4)<|W nX<|W n<|W dv ?_
    unfold uL;exact W (a4 O':zV _=zV _++[ag _]) g
 intro v _ s h g;rw [dJ] at g;refine cb Y<|cv xA (λ_ _ _=>En G f b c d ar) (λ_ M N=>uL f b c d o M _ N v) (λk M N=>oR [] [] k M N _) _ [] g sp0 (λ_ _ _ _ _=>rfl) ?_ ?_
 .intro q r M N s Â n e g p;have C:=(a.lt r<|aP n).1.2;exact dc g 3 Y (Dx<|e8 (a:=R Ie G.a5) (d:=0)<|W (bC ..)<|gl n)<|QM (λT=>dc g 2 Y (xk<|e8 (d:=u)<|a4 (e V)▸C)<|jk<|ef (λz=>p M N s (e.step n λ_=>z) g) λz=>qC g 2 Y (W HG<|W (e V) C) λs g=>cH g 0 Y<|dF g 0 Y (a4 du▸cf (ae e.Ov<|ae Á<|by decide)) λs g=>p _ _ s ((e.mark C z).step n λ_=>W (gL<|a4 (e V)▸C)<|aJ Y) (by unfold uL;exact W VR<|ax n9 g)) λT=>p M N s (e.step n λz=>ay (Int.le_antisymm z<|W (cZ)<|W (cg)<|W n<|cp _) T) g
 intro M N s e g;refine n5 (λ_ x=>G.nS-U x.1) (λ_ x=>En G f b c d<| .c 3 (ag (U x.1:O)) ar) (λM x=>uL f b c d o M x.2.2 (x.1++x.2.1) v)
  (λM x=>oR x.1 [] (U G.a5) M (x.1++x.2.1) x.2.2) M ([],N,R Ie G.a5) g e ?_
 intro M x s Â e g p;obtain⟨y,j,N⟩:=x;refine hF g<|hZ (a:=U y) (b:=U<|iV<|y++j) (λT=>?_) λT=>?_
 .rw [du] at T;obtain⟨l,Ã,rfl⟩:∃l Ã,j=l::Ã:=by
   cases j with
   |nil=>rw [dB] at T;exact ay T<|kq _|cons l Ã=>exact⟨l,Ã,Y⟩
  have B:=(e J2) l<|fx _ (b8 ..);obtain⟨H,L⟩:∃H,o[l]?=some H:=⟨_,bK<|a4 I▸B⟩;have m:=e8 (d:=[])<|a4 (h V)▸B;have H:=e.Ov;rw [a3] at H;refine dc g 0 Y (fV<|by refine W (hV<|bb _)<|W (pR ..) ?_;rfl) ?_;refine dc g 1 Y (rU L)<|cb (g.lt (l+4)<|pj L m) ?_;refine cv d5 (λ_ _ (_:aa O×aa au)=>En G f b c d<| .c 3 (ag (U y:O)) ar) (λ_ M x=>uL f b c d o M x.2 (y++l::x.1) v)
   (λk M x=>oR y (aF k<|F v l []) (U G.a5) M (y++l::x.1) x.2) M (Ã,N) g e (λ_ _ _ s g=>g.lt (l+4)<|pj L m) ?_ ?_
  .intro k q M x s Â t e g p;obtain⟨j,N⟩:=x;have I:=(h J4) l B q<|aP t;have n:=bK I;have C:=(a.lt _ (aP n)).1.2;refine dc g 3 Y (Dx<|e8 (a:=N) (d:=0)<|a4 (e J4)▸I)<|u7<|qC g 3 Y (W EH<|W (e J4) I) λs g=>?_;rw [<-k!] at g;refine bJ Y (Ao n)<|dc g 3 Y (Dx<|W (Ay)<|W (aJ Y)<|aJ<|a4 (e J4)▸I) ?_;have b:=λM j s=>p M (j,c2 N q<|F N q 0-1) s;rw [nX,t] at b;refine QM (λT=>?_) λT=>?_
   .refine dc g 2 Y (xk<|e8 (d:=u)<|a4 (e V)▸C)<|jk<|ef (λz=>?_) λz=>?_
    .exact b M j s (e.dec n λ_=>z) g
    .refine qC g 2 Y (W HG<|W (e V) C) λs g=>cH g 0 Y<|dF g 0 Y ?_ λs g=>?_
     .exact a4 du▸cf (ae e.Ov<|ae Á<|by decide)
     .have k:=e.mark C z;rw [dy,Sl] at k;refine b _ _ s (k.dec n λ_=>W (gL<|a4 (e V)▸C)<|aJ Y) ?_;unfold uL;exact W VR<|ax Sl<|ax (dy ..)<|ax n9 g
   .exact b M j s (e.dec n λz=>(e J6) q _ I n (ia4 z T)) g
  .intro M x s e g;obtain⟨j,N⟩:=x;rw [dJ] at e;have b:=p M (y++[l],j,N) s;have o:U (y++[l])=U y+1:=a3;rw [show U (y++[l],j,N).1=U y+1 from o] at b;refine b (xq ?_<|g9 _) ?_ ?_
   .exact cc (FJ<|kv<|U Ã) H
   .exact W (dy ..)<|e.turn λq r n=>(h J1) q (gl n) r n l B
   .exact W (dy ..) g
 .rw [du,a3] at T;have:j=[]:=It<|vW.mp<|Nat.le_of_add_le_add_left (T:_<=U y+0);subst this;rw [dB] at e;exact jg g 2 Y<|À M<|(by refine cj (e V) λs Z=>Z.rec λr n f c=>?_;obtain⟨q,t⟩:=gs.mp n;refine(e J6) q r (gl t) t<|nQ ((e J5) q r t)<|W (acE λl m=>(e J3) l<|c l m)<|Int.le_refl 0)
def XT(a:e6)(h:∀N,uE N->b (aN<|bV N) c):aK (n+2) 239 [G.V] c b d:=by refine a7 RT (.c 201 G.V ar) Y Y<|aV de λe s f=>Jj<|hF f ⟨⟨Y,cp _,bU<|cf<|ae a.nS<|ao Y⟩,aV f λe s f=>aag a (a4 ago▸f.lt 1 Y) λN g=>m9 f<|h N g⟩
def qz(h:Fr m a d)(k)(e:d.at k=J (f,az<|iV b))(l:c<U b)(g:j (ag (F b c 0:O)) a):ko (aj f) (ag c) a j:=
dc h k e (fV<|e8 l) g
def Hj(l:a<U b)(c:d (ag (F b a 0:O)) e):ko (aN<|iV b) (ag a) e d:=bJ Y (fV<|e8 l) c
def ux(h:Fr e f a)(k)(g:a.at k=J (j,az<|iV b))(l:c<U b)
 (m:∀d,Fr e d (a.g8 k<|az<|iV<|c2 b c n)->K d):qe (aj j) (ag c) (ag n) f K:=qC h k g (W du l)<|Gi▸m
def rg(h:Fr f g a)(k){b m:O}(j:a.at k=J (b,az<|iV c))(l:U c<=1000)
 (d:∀e,Fr f e (a.g8 k<|az<|iV<|c++[m])->n bk e):lI il (aj b) (ag m) g n:=by
 rw [<-n9] at d;exact dF h k j (W du<|cf l) d
def Rw(G:Gr)(k:O)(a):=hK (U a=G.nS) (∀f∈a,f<2^64) (∀b<k,∀r y t,G.a5[b]?=J r->r.aQ=y::t->bt a r.aY y=Q)<|∀c b,bt a c b=Q->∃r t,r∈G.a5/\r.aY=c/\r.aQ=b::t
def qB(G:Gr)(T):=om (U T=G.nS) (∀f∈T,f<2^64) (∀r y t,r∈G.a5->r.aQ=y::t->bt T r.aY y=Q) (∀k a b,bt T a k=Q->bt T k b=Q->bt T a b=Q) (∀a b,bt T a b=Q->∃r t,r∈G.a5/\(r.aY=a\/bt T a r.aY=Q)/\r.aQ=b::t)<|∀a b,bt T a b=Q->EJ (λa b=>∃r t,r∈G.a5/\r.aY=a/\r.aQ=b::t) a b
def Bj(G:Gr)(T):=od 143<| .c 201 G.V<| .c 161 (aN<|iV T) ar
def afq(a:e6)(h:∀T,qB G T->c (Bj G T) b):aK (n+3) 143 [G.V] b c d:=by
 refine jK Y Y λe f=>?_;have g:=de.hN (o:=cw 143 ar) f;refine a7 MC (.c 64 _ (.c 201 G.V ar)) Y Y<|bP g Y λs g=>aV g λj s g=>Jj<|bX g 1 Y ⟨⟨Y,cp _,bU<|cf<|ae a.nS<|ao Y⟩,aV g λc s g=>?_⟩;have g:Fr b s (.c c (az<|iV<|dM G.nS 0)<| .c e _ bO):=W LJ g.EW.bN.tl.bN;refine cb Y ?_;refine cv xA (λX X X=> .c 64 _ _) (λX k X=> .c c (az<|iV k) _) (λl k X=>Rw G l k) _ () g
  (dS ir (λf m=>W (Pc.mp m).2<|vc 64) (λo p=>ay p<|fC o) λe j q=>?_) (λX X X X X=>rfl) ?_ ?_
 .unfold bt at q;rw [cZ,tW] at q;split at q
  .rw [show dN (J 0) 0=0 from Y,vb] at q;exact bR q
  .rw [show dN _ 0=0 from Y,vb] at q;exact bR q
 .intro l r k _ s t v x g y;have B:=a.lt r<|aP v;have C:r.aY<U k:=W (x V) B.1.2;refine hZ (λq=>?_) λq=>?_
  .rw [du] at q;obtain⟨H,t,I⟩:∃H t,r.aQ=H::t:=List.exists_cons_of_length_pos q;have L:H<64:=cc (B.2 H (I▸b8 ..))<|ae a.nS<|by decide
   refine qz g 0 Y C<|bJ Y (by refine W I ?_;rfl) ?_;refine⟨⟨Y,cp _,ak hl<|fe L<|ao Y⟩,⟨cp _,cp _⟩,?_⟩;have M:Rw G (l+1) (c2 k r.aY<|F k r.aY 0|||2^H):=by
    have C:r.aY<U k:=W (x V) B.1.2;have N:∀e j,bt (c2 k r.aY<|F k r.aY 0|||2^H) e j=(bt k e j||(decide (r.aY=e)&&decide (H=j))):=λe j=>by
     unfold bt;refine W (gL C) ?_
     by_cases q:r.aY=e
     .exact W (aJ q)<|W (xK ..)<|W q<|W M9<|W (eZ Y) (UD ..)
     .exact W (aS q)<|W (gh q)<|W (Pl ..)<|W (Pq ..) Y
    refine dS (W ni<|x V) (λf m=>aO (ED m) ((x J1) f) λI=>I▸oL (jv (x J1) _) (JQ (ao Y) L)) (λo p Z n d b B=>?_) λe j q=>?_
    .refine W (N ..) ?_;rcases iN.mp p with z|z
     .exact W ((x J2) o z Z n d b B) Y
     .rw [z,v] at b;cases b;rw [I] at B;cases B;exact W (eZ Y)<|W (eZ Y)<|zZ _
    .rw [N] at q;rcases kR.mp q with q|q
     .exact(x J3) e j q
     .exact dC ((vu ..).mp q) λm L=>⟨r,t,aP v,ao m,ao L▸I⟩
   exact ux g 0 Y C λs g=>y _ () s M g
  .have N (I:r.aQ=[]):Rw G (l+1) k:=by
    refine dS (x V) (x J1) (λo p Z n d b B=>?_)<|x J3;rcases iN.mp p with z|z
    .exact(x J2) o z Z n d b B
    .rw [z,v] at b;obtain rfl:=aC b;rw [I] at B;exact AO B
   exact y k () s (N<|It<|vW.mp<|du▸q) g
 .intro k _ s x g;exact agw (g.lt 0 Y) (W (x V) a.nS) (x J1) λT C=>d3 g 1 Y Y (bl Y) λs g=>(bc ⟨Y,ES g 1 Y<|h T<|(by
   refine e1 (af (C V)<|x V) (C J1) (λr H t v I=>?_) (C J4) (λe j q=>aA ((C J3) e j q) λc M q=>gv ((x J3) c j q) λr t v I f=>⟨r,t,v,I▸M,f⟩) λe j q=>?_
   .exact bp (gs.mp v) λo p=>(C J2) _ _ ((x J2) o (gl p) r H t p I)
   .have m:=(C J5) e j q;clear q;exact m.rec (λI=> .single<|(x J3) _ _ I) λX I L=> .tail L<|(x J3) _ _ I)⟩)
def bH(G:Gr)(a:O):=ez (G.hW[a]?) λr=>ez (G.a5[r]?) λb=>ez (G.pf[r]?) λo=>b.aQ[a-o]?
def At.bH(b:At G c r d o a):bH G c=a.aQ[d]?:=by show(ez (G.hW[c]?) λr=>ez (G.a5[r]?) λa=>ez (G.pf[r]?) λo=>a.aQ[c-o]?)=_;exact W (b V)<|((W (b J3)<|W (b J1)<|W (b J2)<|aq _ (uP ..)):(ez (G.a5[r]?) λa=>ez (G.pf[r]?) λo=>a.aQ[c-o]?)=_)
def Va(G)(a):=∃r d o b,At G a r d o b
def PW(v:Va G a)(d:∀s,bH G a=J s->b (ag (s:O)) c)(e:bH G a=A->b (ag<| -1) c):aK (n+1) 362 [G.V,ag a] c b f:=by
 refine hI v λr g o h j=>ahE j<|ax j.bH ?_;cases k:bH G a with
 |some s=>exact d s k|none=>exact e k
def Fe(G)(T)(a:aa O)(b):=∃c∈a,∃s,bH G c=J s/\(b=s\/bt T s b=Q)
def Wt(G)(T)(a)(m):=eY (m<2^64)<|∀b,eH m b=Q↔Fe G T a b
def acP:Wt G T [] 0:=cj (vc 64) λb=>⟨λz=>ay z<|W (vb ..) hu,λa=>aA a λj c Z=>bG c⟩
def af0(d:e6)(c:qB G T)(e:∀a∈b,Va G a)(f:∀a∈b,∀s,bH G a=J s->s<G.nS)(h:∀m,Wt G T b m->g (ag (m:O)) j):aK (n+2) 359 [Bj G T,aR<|iV b] j g k:=by
 refine a7 NH (.c 64 _ (.c 163 _ ar)) Y Y<|cb Y<|cv d5 (λX m X=> .c 64 _ (.c 163 _ (.c 47 (ag (m:O)) ar))) (λX X X=>bO) (λk m X=>Wt G T (aF k b) m) 0 () de acP (λX X X X X=>rfl) ?_ ?_
 .intro k a m _ s l o p q r;have t:=aP o;have v:aF (k+1) b=aF k b++[a]:=by simp only [nX,o];rfl
  rw [v] at r;refine PW (e a t) (λy e=>?_) λe=>?_
  .refine xt (λX=>?_) λx=>ay x<|fC _;have z:=f a t y e;have B:y<64:=cc z<|ae d.nS<|ao Y;refine⟨⟨Y,cp _,ak hl<|fe B<|ao Y⟩,⟨cp _,cp _⟩,?_⟩;have C:Wt G T ((aF k b)++[a]) (m|||2^(cM ↑y)|||F T (cM ↑y) 0):=by
    refine cj (oL (oL (p V)<|JQ (ao Y) B)<|jv (c J1)<|cM ↑y) λb=>W (xK ..)<|W (xK ..)<|W M9 ?_;rw [kR,kR,p J1]
    constructor
    .rintro ((⟨j,H,I⟩|x)|x)
     .exact⟨j,gE _ H,I⟩
     .exact⟨a,fx _ (hf),cM ↑y,e,aL (ao x).symm⟩
     .exact⟨a,fx _ hf,cM ↑y,e,aw x⟩
    .rintro ⟨j,H,L,M,I⟩
     rcases ma H with H|H
     .exact aL<|aL ⟨j,H,L,M,I⟩
     .rw [ms H,e] at M;exact W (aC M)<|aO I (λN=>aL<|aw<|eZ N.symm) aw
   exact Hj (W (c V) z) ⟨⟨cp _,cp _⟩,r _ () s C q⟩
  .exact Jp (λx=>ay x<|ao Y) λX=>r m () s ((by
    refine cj (p V) λb=>jG ((p J1) b) ⟨λZ=>aA Z λj H I=>⟨j,gE _ H,I⟩,λh=>aA h λj H h=>aA h λL M I=>?_⟩;rcases ma H with H|H
    .exact⟨j,H,L,M,I⟩
    .rw [ms H,e] at M;exact aI M)) q
 .intro m _ s p q;rw [dJ] at p;exact m9 q<|h m p
noncomputable def xO(x:O):aa O->aa O
|[]=>[x]|y::r=>if x<=y then x::y::r else y::xO x r
def L5:xO x (y::r)=if x<=y then x::y::r else y::xO x r:=Y
noncomputable def es:aa O->aa O
|[]=>[]|x::r=>xO x<|es r
def Wq(x)(a):(xO x a).Perm (x::a):=by
 refine a.rec (.refl _) λy r b=>W L5 ?_;split
 .exact .refl _
 .exact(b.cons y).trans (.swap ..)
def sC(a):(es a).Perm a:=a.rec (.refl _) λx r b=>(Wq x _).trans<|b.cons x
set_option tactic.hygienic true in
def afo(x)(a)(h:mY (·<=·) a):mY (·<=·) (xO x a):=by
 induction a with
 |nil=>exact lJ (λ_ h=>bG h) h9|cons y r b=>
  have c:=rY.mp h;refine W L5 ?_;split
  .rename_i q;exact lJ (λz d=>aO (mc d) (λe=>e▸q) λd=>ae q<|c.1 z d) h
  .rename_i q;refine lJ (λz d=>?_)<|b c.2;rcases mc ((Wq x r).mem_iff.mp d) with e|d
   .exact W e<|Nat.le_of_not_le q
   .exact c.1 z d
def p?(a):mY (·<=·) (es a):=a.rec h9 λx r b=>afo x _ b
def iu:x∈es a↔x∈a:=(sC a).mem_iff
def By:U (es a)=U a:=(sC a).length_eq
def akA(x:O)(a):tG x (a.map λ(k:O)=>(k:au))=(xO x a).map λ(k:O)=>(k:au):=by
 refine a.rec Y λy r b=>W L5 ?_;show(if(x:au)<=y then _ else _::tG x _)=_;refine W b ?_
 by_cases q:x<=y
 .exact W (aJ q)<|W (aJ<|ak jj q) Y
 .exact W (aS q)<|W (aS λz=>q<|jj.mp z) Y
def vI(h:Fr e b f)(g:Cm b v=J (iV a))(l:U a<64)(j:∀c d,Fr e d (f.cA c<|az<|iV<|es a)->k (aj c) d):Fd v b k:=by
 refine W TM ?_;unfold OO;refine W g (?_:bE (oj<|iV a) _);have m (n:aa O):oj (iV n)=J (n.map λ(k:O)=>(k:au)):=n.rec Y λx r o=>((aq _ o):b4 _ (oj<|iV r)=_);refine W (m ..)<|⟨W (bC ..) l,?_⟩;have p (n:aa O):Ee (n.map λ(k:O)=>(k:au))=(es n).map λ(k:O)=>(k:au):=by refine n.rec Y λx r o=>(?_:tG x _=_);exact W o<|akA x _
 rw [p,jD];exact aV h j
def QA(h:Fr f b c)(k)(e:c.at k=J (d,az a)):Cm b (aj d)=J a:=by show(match eQ b _ with|some a=>J a|none=>_)=_;exact W (h.lt k e) Y
def F3{d:Type}{g}{x}{c:aa d}(k:∀a,gz (g a)=Q)(e:∀a b,g a=g b->a=b)(f:b=Q↔x∈c):nr (g x) (R g c)=J b:=by unfold nr;exact W (aJ ⟨k x,λy h=>by obtain⟨a,_,rfl⟩:=mm h;exact k a⟩)<|aq J<|ak qH<|jG (@decide_eq_true_iff _ (oi _))<|jG ⟨λh=>aA (mm h) λa m j=>ax (e _ _ j) m,λh=>hY h⟩ f.symm
def NZ{x:O}(a):nr (ag x) (iV a)=J (b7 a x):=
F3 (g:=λk:O=>ag k) (λZ=>rfl) (λa b e=>by injection e with e;exact eG e) gG
def ajM{a:ba->Prop}(e:b=aR (iV c)\/b=aN (iV c))(d:a<|b7 c x):mX (ag x) b f a:=by
 refine W q8 ?_;rcases e with rfl|rfl
 .show bE _ a;exact W (NZ ..) d
 .show bE _ a;exact W (NZ ..) d
def d4(h:a≠b):aE a b=false:=by
 cases q:aE a b with
 |false=>rfl|true=>exact ay (d9 q) h
def aiw(c):∀{k r},r∈jW s k c↔∃a b,r=k+a/\c[a]?=J b/\b.aY=s:=by
 refine @(c.rec ⟨bG,λd=>gv d λa b Z h Z=>aI h⟩ λx t e=>?_);intro k r;have f:(∃a b,r=k+a/\(x::t)[a]?=J b/\b.aY=s)↔(r=k/\x.aY=s)\/∃a b,r=k+1+a/\t[a]?=J b/\b.aY=s:=by
  constructor
  .rintro ⟨a,b,g,h,q⟩
   induction a with
   |zero=>refine W (aC h) ?_;exact aL ⟨g,q⟩|succ a=>exact aw ⟨a,b,W g<|W (cx ..)<|W (eU 1 a) Y,h,q⟩
  .rintro (⟨g,q⟩|⟨a,b,g,h,q⟩)
   .exact⟨0,x,g,Y,q⟩
   .exact⟨a+1,b,W g<|W (cx ..)<|aq _ (eU 1 a),h,q⟩
 rw [f,<-e];show r∈(aD _ _ _:aa O)↔_;cases q:aE x.aY s with
 |true=>exact jG rj<|or_congr ⟨λg=>br g<|d9 q,λg=>g.1⟩ E4|false=>exact⟨aw,λz=>aO z (λg=>ay q<|W g.2<|W (fK ..) bR) id⟩
def uV:r∈G.jY s↔∃a,G.a5[r]?=J a/\a.aY=s:=by refine jG (aiw G.a5) ⟨λb=>hs b λc a e h=>?_,λd=>bp d λa h=>⟨r,a,a4<|eJ r,h⟩⟩;rw [eJ] at e;exact cL a<|e▸h
def Zh(a)(h:bw b):∀k,U (b.flatMap λs=>jW s k a)<=U a:=by
 refine a.rec (λk=>c6<|aq U<|ak List.flatMap_eq_nil_iff λZ Z=>rfl) λx t c=>λk=>?_;have d:∀e:aa O,U (e.flatMap λs=>jW s k<|x::t)=U (e.flatMap λs=>jW s (k+1) t)+sU x.aY e:=by
  refineλe=>e.rec Y λy r c=>?_
  simp only [O1,O1,a3,a3,c,TP];show U (aD _ _ _:aa O)+_=_;have e:aE x.aY y=(y==x.aY):=by
   by_cases q:y=x.aY
   .rw [q,jL];exact fK _
   .exact W (yO q)<|d4<|l2 q
  refine W e ?_;cases y==x.aY with
  |true=>refine W (aJ Y) ?_;refine(?_:_+1+_=_);rw [jf,<-cx,<-cx]|false=>rw [aS hu,ĺ,<-cx];rfl
 exact W (d ..)<|dZ (c _)<|List.nodup_iff_count.mp h x.aY
def jE(G:Gr)(a b:aa O):=(R (F G.pf · 0) b).filter λx=> !b7 a x
def l!(a):∀k,U (uR k a)=U a:=a.rec (λk=>rfl) λr t b k=>aq _ (b _)
def T'(h:bw a):U (jE G b<|wY G.jY a)<=U G.a5:=
ae (A5 ..) (W (bC ..)<|Zh G.a5 h 0)
def b?:jE G a (b++c)=jE G a b++jE G a c:=by unfold jE;simp only [dv,I1]
def Κ(d:e6)(e:qB G T)(g:∀c∈b,Va G c)(f:∀c∈b,∀s,bH G c=J s->s<G.nS)
 (h:∀a m,Wt G T b m->LP a m->bw a->j (aN<|iV<|es<|jE G b<|wY G.jY a) k):aK (n+3) 347 [Bj G T,aR<|iV b] k j l:=by
 refine a7 SF (.c 64 _ (.c 163 _ ar)) Y Y<|aV de λo s p=>af0 d e g f λm q=>FZ (q V) λa r t v=>cb Y ?_;have x:∀k y,U y<=U ((aF k a).flatMap G.jY)->U (jE G b y)<=1000:=λk y z=>ae (A5 ..) (W (bC ..)<|ae z<|ae (Zh G.a5 (MP (R8 ..) t) 0)<|ae d.oX<|ao Y)
 refine cv d5 (λX (_ _:j4)=> .c 64 _ (.c 163 _ _)) (λk X X=> .c o (az<|iV<|jE G b<|(aF k a).flatMap G.jY) bO) (λX X X=>bh) () () p a0 (λX X X X X=>rfl) ?_ ?_
 .intro k y _ _ s B C _ p H;have I:(aF (k+1) a).flatMap G.jY=(aF k a).flatMap G.jY++G.jY y:=by simp only [nX,C,S'];exact aq _ (dB _)
  have L:y<G.nS:=by
   refine aA (((q J1) y).mp<|(r y).mp<|aP C) λc M N=>aA N λs Z z=>?_;rcases z with rfl|z
   .exact f c M y Z
   .exact gv ((e J4) s y z) λT j n X Z=>(d.lt T n).2 y (Z▸b8 ..)
  have l:=x<|k+1;rw [I] at l H;refine V2 L<|cb Y<|cv d5 (λX (_ _:j4)=> .c 64 _ _) (λj X X=> .c o (az<|iV<|jE G b<|(aF k a).flatMap G.jY++aF j (G.jY y)) bO) (λX X X=>bh) () () (by simp only [List.take_zero,dB];exact p) a0 (λX X X X X=>rfl) ?_ ?_
  .refineλj T X X s B n X p H=>aA (uV.mp<|aP n) λg v X=>?_
   refine Lj (e8 (a:=G.pf) (d:=0)<|W (l! .. :U G.pf=_)<|gl v) ?_;have C:=H () () s a0;rw [nX,n,<-dy,b?] at C;refine ajM (aL Y)<|jk<|ef (λz=>?_) λz=>?_
   .rw [show jE G b (xa<|J T)=[] from T2<|W z hu,dB] at C;exact C p
   .refine cH p 0 Y<|rg p 0 Y (l _ ?_) λs p=>?_
    .simp only [a3,a3];exact d6 (k9 ..) _
    .have C:=H () () s a0;rw [nX,n,<-dy,b?] at C;rw [show jE G b (xa<|J T)=[F G.pf T 0] from Zz<|aq _ z] at C;exact C p
  .intro _ _ s _ p;rw [dJ] at p;exact H () () s a0 p
 .intro _ _ s _ p;rw [dJ] at p;exact vI p (QA p 0 Y) (cF (T' t)<|cF d.oX<|ao Y) λb s p=>jg p 1 Y<|h a m q r t
noncomputable def nd(g:a->ai)(b:aa<|O×a):=b.map λp=>(ag p.1,g p.2)
noncomputable def cK{a:Type}(b:aa<|O×a)(s:O):bf a:=jb A (λp Z c=>aD (aE p.1 s) (J p.2) c) b
noncomputable def ot{a:Type}(b:aa<|O×a)(s:O)(v:a):aa (O×a):=jb [(s,v)] (λp r c=>aD (aE p.1 s) ((s,v)::r)<|p::c) b
def ye{a b:O}:(ag a=ag b)↔a=b:=⟨λh=>eG<|by injection h,λh=>h▸Y⟩
open Classical in
def r3{a:aa<|O×b}{s:O}:dV (nd g a) (ag s)=b4 g (cK a s):=by
 refine a.rec Y λp r c=>(?_:(if ag p.1=ag s then J (g p.2) else dV (nd g r) _)=b4 g (aD _ _ (cK r s)))
 by_cases q:p.1=s
 .exact W (aJ<|ak ye q)<|W q<|W (fK ..) Y
 .exact W (aS λz=>q<|ye.mp z)<|W (d4 q)<|W c Y
open Classical in
def Zd{s:O}{v:b}:eW (nd g a) (ag s) (g v)=nd g (ot a s v):=by
 refine a.rec Y λp r c=>(?_:(if ag p.1=ag s then(ag p.1,g v)::nd g r else(ag p.1,g p.2)::eW (nd g r) _ (g v))=nd g (aD _ _ (p::ot r s v)))
 by_cases q:p.1=s
 .exact W (aJ<|ak ye q)<|W q<|W (fK ..) Y
 .exact W (aS λz=>q<|ye.mp z)<|W (d4 q)<|W c Y
def pW{a:Type}{g}{b:aa<|O×a}:ip (nd g b) (ag s):=⟨Y,λe c=>by obtain⟨p,_,rfl⟩:=mm c;rfl⟩
def ya{a:aa<|O×b}:R (·.1) (nd g a)=iV (R (·.1) a):=by unfold nd iV;simp only [jD,jD];rfl
def c'{a:aa<|O×b}:U (nd g a)=U a:=bC _
def lG{a:aa<|O×b}:cK a s=A↔s∉R (·.1) a:=by
 refine a.rec ⟨λZ h=>bG h,λZ=>rfl⟩ λp r c=>(?_:aD _ _ (cK r s)=A↔s∉p.1::R (·.1) r);rw [rj,not_or]
 by_cases q:p.1=s
 .exact W q<|W (fK ..)<|⟨iG,λh=>ay Y h.1⟩
 .exact W (d4 q)<|⟨λh=>⟨l2 q,c.mp h⟩,λh=>ak c h.2⟩
def sQ{v:b}(h:cK a s=A):ot a s v=a++[(s,v)]:=by
 induction a with
 |nil=>rfl|cons p r c=>have d:=lG.mp h;have q:p.1≠s:=λz=>d (z▸b8 ..);refine(?_:aD _ _ _=p::(r++[(s,v)]));simp only [d4 q,<-c (ak lG λz=>d<|cz _ z)];rfl
def I?{v:b}(h:cK a s=A):cK (a++[(s,v)]) s=J v:=by
 induction a with
 |nil=>refine(?_:aD _ _ _=_);exact W (fK ..) Y|cons p r c=>have d:=lG.mp h;have q:p.1≠s:=λz=>d (z▸b8 ..);refine(?_:aD _ _ _=_);exact W (d4 q)<|c<|ak lG λz=>d<|cz _ z
def Em{v:b}(h:cK a s=J v):∃j:O,a[j]?=J (s,v):=by
 induction a with
 |nil=>exact aI h|cons p r c=>
  have h:aD _ _ (cK r s)=J v:=h
  by_cases q:p.1=s
  .rw [q,fK] at h;exact ax (aC h)<|⟨0,by refine ax q ?_;rfl⟩
  .rw [d4 q] at h;exact bp (c h) λj d=>⟨j+1,d⟩
def acr(a:At G b r e o f)(h:c (ag (b+1:O)) d):aK (n+2) 318 [G.V,ag b] d c g:=by refine a7 Pe (.c 201 G.V<| .c 36 _ ar) Y Y<|RB (a V)<|ajR a<|Lj (a J1) ?_;rw [a J2] at h;exact bc h
def fE(G)(a:aa O)(s):=R (·+1)<|a.filter λb=>bH G b==J s
def Sp:fE G (b++[a]) s=fE G b s++aD (bH G a==J s) [a+1] []:=by
 unfold fE;simp only [I1,dv];cases q:bH G a==J s with
 |true=>exact aq (λx=>_++R _ x)<|Zz (p:=λa=>bH G a==J s) q|false=>exact aq (λx=>_++R _ x)<|T2 (p:=λa=>bH G a==J s) λz=>bR<|af q.symm z
def iJ(K):=aR<|iV K
def Kb(G)(b:aa O)(a:aa<|O×O):=eY (bw<|R (·.1) a)<|∀s,s∈R (·.1) a↔∃c∈b,bH G c=J s
def DC(G:Gr)(d e:O)(b:aa O)(a:aa<|O×O):Cs:= .c d (dD (nd aj a) e)<|hA (R (·.2) a)<|a.map λp=>fE G b p.1
def Kb.old{a}{b s}(h:Kb G a c)(e:bH G b=J s)(m:s∈R (·.1) c):Kb G (a++[b]) c:=
cj (h V) λt=>jG ((h J1) t) ⟨λd=>aA d λj f x=>⟨j,gE _ f,x⟩,λg=>aA g λj f x=>aO (ma f) (λf=>⟨j,f,x⟩) λf=>by rw [ms f,e] at x;refine ax (aC x) ?_;exact((h J1) s).mp m⟩
def Kb.add(h:Kb G c a)(e:bH G b=J s)(m:s∉R (·.1) a):Kb G (c++[b]) (a++[(s,d)]):=by
 refine cj ?_ λt=>?_
 .exact W dv<|ak nE ⟨h V,lJ (λZ h=>bG h) h9,λa f g j z=>m<|(af z (ms j):a=s)▸f⟩
 .refine W dv ?_;rw [oI,(h J1) t]
  constructor
  .rintro (⟨k,l,x⟩|j)
   .exact⟨k,gE _ l,x⟩
   .exact W (ms j)<|⟨b,fx _ hf,e⟩
  .rintro ⟨k,l,x⟩
   rcases ma l with l|l
   .exact aL ⟨k,l,x⟩
   .rw [ms l,e] at x;exact W (aC x)<|aw hf
def ś{a:aa<|O×O}(h:∀s∈R (·.1) a,bH G b≠J s):(a.map λp=>fE G (c++[b]) p.1)=a.map λp=>fE G c p.1:=
Od λp d=>W Sp<|W (yO<|h p.1<|hY d)<|dB _
def yg(h:bw a){b j:O}(c:a[b]?=J x)(d:a[j]?=J x):b=j:=by obtain⟨a,p⟩:=ka.mp c;obtain⟨b,q⟩:=ka.mp d;exact(Bi h).mp<|af p q.symm
def ZV(h:Fr e a c)(k)(q:c.at k=J (b,dD d f)):Cm a (aj b)=J (R (·.1) d):=by show(match mW (a b) with|some g=>J g|none=>(b4 Rk<|l5<|a b).map _)=_;exact W (h.c9 q) Y
def TC(h:Fr g b e)(k){c:aa<|O×j}{a:ba->Prop}(q:e.at k=J (d,dD (nd l c) m))(f:a<|d7<|cK c s):mX (ag s) (aj d) b a:=by refine W q8 ((W (h.c9 q)<|⟨pW,?_⟩):inR _ a (b d));simp only [r3,K?];exact f
def Ae(h:Fr l a c)(k){b:aa<|O×m}(q:c.at k=J (d,dD (nd g b) n))(e:cK b s=J v)(f:j (g v) a):ko (aj d) (ag s) a j:=
Zw h k q pW (by simp only [r3,e];rfl) f
def yZ(h:Fr f j a)(k)(g)(v:p)(q:a.at k=J (l,dD (nd g b) e))(m:n=g v)(o:U b<=1000)
 (c:∀e d,Fr f d (a.g8 k<|dD (nd g<|ot b s v) e)->K d):qe (aj l) (ag s) n j K:=by
 rw [<-Zd] at c;exact W m<|u6 h k q pW (W c'<|cf o) c
def qx(h:bw a)(l:∀x∈a,x<m):U a<=m:=by have b:=L9 h λx c=>ak tV<|l x c;rw [e9] at b;exact b
def kbV(G)(a b):=gZ<|nd iJ<|(es b).map λs=>(s,es<|fE G a s)
def Vu:U (fE G a s)<=U a:=W (bC ..) (A5 ..)
def aaj(f:e6)(g:∀b∈a,Va G b)(h:∀b∈a,∀s,bH G b=J s->s<G.nS)(l:U a<64)
 (Ã:∀d,bw d->(∀s,s∈d↔∃b∈a,bH G b=J s)->e (kbV G a d) c):aK (n+3) 316 [G.V,aN<|iV a] c e k:=by
 refine a7 N7 (.c 201 G.V<| .c 102 _ ar) Y Y<|m8 de λd m s o=>cb Y<|cv d5 (λX X X=> .c 201 G.V<| .c 102 _ _) (λk p m=>DC G d m (aF k a) p) (λk p X=>Kb G (aF k a) p) [] m o (cj h9 λs=>⟨bG,λq=>aA q λr t X=>bG t⟩) (λX X X X X=>rfl) ?_ ?_
 .intro k b p m s v x y o z;have B:=aP x;have C:aF (k+1) a=aF k a++[b]:=by exact W nX<|W x Y
  rw [C] at z;refine hI (g b B) λH I L M À=>?_;have Å:∀p (Z r q m:O) s,bw (R (·.1) p)->bH G b=J Z->p[r]?=J (Z,q)->Kb G (aF k a++[b]) p->Fr c s (DC G d m (aF k a) p)->
   c1 (aK<|n+2) (λX=>bW) (fG (uy<|hM il (hC kW (eb 94)<|eb 183)<| .call 318<|j2 (eb 201)<|j2 (eb 36) s5) ck)
    (.c 201 G.V<| .c 102 (aN<|iV a)<| .c 94 (aj d)<| .c 36 (ag b)<| .c 183 (ag Z) ar) s (λl c=>c1 (aK<|n+2) (λX=>bW) (fG (.del [36,183]) ck) l c v (eh e) v) (eh e) v:=by
   intro p Z r q m s nd C t H o;have I:(R (·.2) p)[r]?=J q:=by refine W (cg)<|W t ?_;rfl
   have L:(p.map λM=>fE G (aF k a) M.1)[r]?=J (fE G (aF k a) Z):=by refine W (cg)<|W t ?_;rfl
   have Â:cK p Z=J q:=by
    cases n:cK p Z with
    |none=>exact ay (hY<|aP t)<|lG.mp n|some N=>refine bp (Em n) λÁ e=>?_;have j:=yg nd (by refine W (cg)<|W t ?_;rfl) (by refine W (cg)<|W e ?_;rfl);rw [j,e] at t;cases t;rfl
   refine Ae o 0 Y Â<|cH o (r+1) (pj I L)<|acr À<|rg o (r+1) (pj I L) (ae Vu<|ae (k9 ..)<|ae (bU l)<|ao Y) λs o=>z p m s H ?_;unfold DC;have Ä:(p.map λM=>fE G ((aF k a)++[b]) M.1)=c2 (p.map λM=>fE G (aF k a) M.1) r (fE G (aF k a) Z++[b+1]):=by
    refine Cp λe=>W (Ay)<|W (cg)<|W (bC ..) ?_
    by_cases n:r=e
    .refine W (aJ n)<|ax n<|W t<|W (aJ<|gl t) ?_;show J (fE G _ Z)=_;exact W Sp<|W C<|W (jL ..) Y
    .refine W (aS n)<|W (cg) ?_;cases H:p[e]? with
     |none=>rfl|some M=>refine((W Sp ?_):J (fE G _ M.1)=J _);rw [yO];exact W (rfl:aD u [b+1] []=[])<|aq _ (dB ..);intro e;rw [C] at e;exact n<|yg nd (by refine W (cg)<|W t ?_;rfl)<|W (cg)<|W H e.symm
   exact W Ä<|ax Gq o
  refine PW (g b B) (λZ C=>?_) λC=>?_
  .refine xt (λX=>TC o 0 Y<|jk<|ef (λn=>?_) λn=>?_) λn=>ay n<|fC _
   .exact bp (vx.mp n) λq I=>bp (Em I) λr t=>Å p Z r q m s (y V) C t (y.old C<|hY<|aP t) o
   .have n:=Y9.mp λH=>bR<|af n.symm H;have g:=lG.mp n;refine aV o λq s o=>yZ o 0 aj q Y Y ?_ λm s o=>?_
    .have j:=qx (y V) λB e=>aA (((y J1) B).mp e) λr t T=>h r (Ci t) B T;rw [bC] at j;exact ae j<|ae f.nS<|by decide
    .rw [sQ n] at o;refine Å _ Z (U p) q m s ((y.add C g) V) C (by refine W (hV<|bb _)<|W (pR ..) ?_;rfl) (y.add C g) ?_;have j:fE G (aF k a) Z=[]:=aq _ (ak S7 λr t H=>g<|ak ((y J1) Z) ⟨r,t,eq_of_beq H⟩);unfold DC;exact W dv<|W dv<|((W j<|ax (BL<|by rw [bC,bC]) o):Fr c s<| .c d _ (hA _ ((p.map λM=>fE G _ M.1)++[fE G _ Z])))
  .exact Jp (λn=>ay n<|ao Y) λX=>z p m s (cj (y V) λs=>jG ((y J1) s) ⟨λc=>aA c λr t T=>⟨r,gE _ t,T⟩,λd=>aA d λr t T=>aO (ma t) (λt=>⟨r,t,T⟩) λt=>by
  rw [ms t,C] at T;exact aI T⟩) (by unfold DC;exact W (ś λs X H=>aI<|af C.symm H) o)
 .intro p m s y o;rw [dJ] at y o;have g:=ae (qx (y V) λB e=>aA (((y J1) B).mp e) λr t T=>h r t B T) f.nS;refine m8 o λj m s o=>?_;have o:=o.bN;refine vI o (by rw [ZV o 1 Y,ya]) (cF g<|ao Y) λc s o=>cb (o.bN.lt 0 Y) ?_;refine cv d5 (λX X X=> .c 94 _ (.c 211 _ ar)) (λk m X=> .c c _ (.c j (dD (nd iJ<|((es<|R (·.1) p).take k).map λs=>(s,es<|fE G a s)) m) _))
   (λX X X=>bh) m () o.bN a0 (λX X X s o=>o.lt 0 Y) ?_ ?_
  .intro k Z m _ s v C _ o z;have d:=iu.mp<|aP C;refine aA (mm d) λM f h=>?_;obtain⟨q,I⟩:∃q,cK p Z=some q:=by
    cases n:cK p Z with
    |none=>exact ay d<|lG.mp n|some N=>exact cL N rfl
   refine bp (Em I) λr t=>?_;have T:(R (·.2) p)[r]?=J q:=by rw [cg,t];rfl
   have L:(p.map λM=>fE G a M.1)[r]?=J (fE G a Z):=by rw [cg,t];rfl
   refine Ae o 2 Y I<|vI o (QA o (r+3)<|pj T L) (cF Vu l) λc s o=>hF o.bN ?_;have o:=o.bN.tl;have v:U (aF k<|es _)<=12:=ae (k9 ..)<|W By g;refine yZ o 1 iJ _ Y Y (by rw [bC];exact ae v<|by decide) λm s o=>z m () s a0 ?_;rw [nX,C,dv];rw [sQ] at o
   .exact o
   .refine ak lG λH=>?_;rw [jD] at H;refine aA (mm H) λB e j=>?_;have j:B=Z:=j;refine bp (gs.mp e) λb x=>?_;have f:=gl x;rw [dU] at f;rw [ha,aJ<|cc f<|m4 _ _,j] at x;exact fH (cc f<|m4 _ _)<|yg (ak (uZ<|sC _)<|y V) x C
  .exactλm X s X o=>Ks (dJ▸o) 1 Y<|Ã _ (y V) (y J1)
def cr(G)(a):=aD ((bH G a).isNone&& !(aE (F G.hW a 0) 0)) [F G.hW a 0] []
def w1(G)(a:aa O):=es<|wY (cr G) a
def ZJ(a):U (wY (cr G) a)<=U a:=by
 refine a.rec (bb 0) λx r b=>?_;rw [O1,a3,hS,eU];refine dZ b ?_;unfold cr;cases(bH G x).isNone&& !(aE (F G.hW x 0) 0) with
 |true=>exact bb 1|false=>exact cQ 1
def δ(c:∀a∈b,Va G a)(l:U b<64)(h:d (aN<|iV<|w1 G b) e):aK (n+2) 313 [G.V,aN<|iV b] e d f:=by
 refine a7 NG (.c 201 G.V<| .c 102 (aN<|iV b) ar) Y Y<|aV de λg s j=>cb Y<|cv d5 (λZ (_ _:j4)=> .c 201 G.V<| .c 102 (aN<|iV b)<| .c 94 (aj g) ar) (λk Z Z=> .c g (az<|iV<|(aF k b).flatMap<|cr G) bO) (λZ Z Z=>bh) () () j a0 (λZ Z Z Z Z=>rfl) ?_ ?_
 .intro k a _ _ s m o _ j p;have q:=λr=>p () () r a0;rw [nX,o,S',show wY (cr G) (xa<|J a)=cr G a from dB _] at q;refine hI (c a<|aP o) λr d o t v=>?_;have x:F G.hW a 0=r:=by refine W (cZ)<|W (v V) ?_;rfl
  refine PW ⟨r,d,o,t,v⟩ (λy z=>?_) λz=>?_
  .rw [show cr G a=[] by unfold cr;refine W z ?_;rfl,dB] at q;exact hZ (a:=y) (b:=0) (λB=>ay B<|fC y) λZ=>hZ (a:=y) (b:=0) (λB=>ay B<|fC y) λZ=>q s j
  .refine g5 (λZ=>RB (v V)<|yW (a:=r) (b:=0) (λB=>?_) λB=>?_) λB=>ay B<|ao Y
   .rw [show cr G a=[r] by unfold cr;refine W z<|W x<|W (d4 B) ?_;rfl] at q;exact cH j 0 Y<|RB (v V)<|rg (m:=r) j 0 Y (ae (ZJ _)<|ae (k9 ..)<|ae (bU l)<|ao Y) q
   .rw [show cr G a=[] by unfold cr;refine W z<|W x<|W B ?_;rfl,dB] at q;exact q s j
 .intro _ _ s _ j;rw [dJ] at j;exact vI j (QA j 0 Y) (cF (ZJ _) l) λb s j=>jg j 1 Y h
def rD(G)(a b:aa O):=es a++es (jE G a<|wY G.jY b)
def adG(d:e6)(e:qB G T)(f:∀c∈a,Va G c)(g:∀c∈a,∀s,bH G c=J s->s<G.nS)(l:U a<64)
 (h:∀b m,Wt G T a m->LP b m->bw b->j (aN<|iV<|rD G a b) k):aK (n+4) 348 [Bj G T,aR<|iV a] k j o:=by
 refine a7 Oq (.c 64 (Bj G T)<| .c 163 (aR<|iV a) ar) Y Y<|vI de Y l λp s q=>Κ d e f g λb m r t nd=>hF q ⟨?_,?_⟩
 .simp only [du,du,By,By];exact bU<|cf<|ae (dZ (bU l)<|ae (T' nd) d.oX)<|ao Y
 .exact aV q λv s q=>jg q 1 Y<|W (show iV (es a)++iV (es<|jE G a<|wY G.jY b)=iV (rD G a b) from a4 (dv ..))<|h b m r t nd
structure SC where
p:O
m:O
e:O
sym:au
b5:aa O
vi:ai
vr:ai
mv:aa<|O×O
noncomputable def nI(k:O):=ag k
def SC.i(x:SC)(k:O):=cw 192<| .c 168 (ag k)<| .c 163 (iJ x.b5)<| .c 183 (ag x.sym)<| .c 102 x.vi<| .c 110 (aj x.m)<| .c 277 x.vr ar
def SC.d(x:SC):=dD (nd nI x.mv) x.e
def uU(a:aa SC):O->Cs:=jb (λZ=>bO) (λx Z b k=> .c x.p (x.i k)<| .c x.m x.d<|b<|k+1) a
def k7(a:aa SC):O->aa (ai×ai):=jb (λZ=>[]) (λx Z b k=>(iJ x.b5,ag k)::b (k+1)) a
def ak1:∀{j k} {x},a[j]?=J x->(uU a k).at (2*j)=J (x.p,x.i<|k+j):=by
 refine @(a.rec (λh=>aI h) λy r b=>?_);intro j k x h
 induction j with
 |zero=>exact W (aC h) Y|succ j=>exact ax (cx ..)<|W (jf ..)<|b h
def age:∀{j k} {x},a[j]?=J x->(uU a k).at (2*j+1)=J (x.m,x.d):=by
 refine @(a.rec (λh=>aI h) λy r b=>?_);intro j k x h
 induction j with
 |zero=>exact W (aC h) Y|succ j=>exact b h
def aca:∀{j k} {x y},a[j]?=J x->y.p=x.p->y.m=x.m->y.d=x.d->(uU a k).g8 (2*j) (y.i<|k+j)=uU (c2 a j y) k:=by
 refine @(a.rec (λh=>aI h) λz r b=>?_);intro j k x y h c d e
 induction j with
 |zero=>obtain rfl:=aC h;refine(?_:Cs.c z.p (y.i k) _=Cs.c y.p _ _);simp only [c,d,e]|succ j=>exact ax (cx ..)<|W (jf ..)<|aq (λf=>Cs.c z.p _ (.c z.m z.d f))<|b h c d e
def aib:∀{j k} {x y},a[j]?=J x->y.p=x.p->y.m=x.m->(∀k,y.i k=x.i k)->(uU a k).g8 (2*j+1) y.d=uU (c2 a j y) k:=by
 refine @(a.rec (λh=>aI h) λz r b=>?_);intro j k x y h c d e
 induction j with
 |zero=>obtain rfl:=aC h;refine(?_:Cs.c z.p _ (.c z.m y.d _)=Cs.c y.p _ _);simp only [c,d,e]|succ j=>exact aq (λf=>Cs.c z.p _ (.c z.m z.d f))<|b h c d e
def adX:∀{k},((uU a k).cA x.p<|x.i<|k+U a).cA x.m x.d=uU (a++[x]) k:=by refine @(a.rec Y λy r b=>?_);intro k;exact W hS<|ax (cx ..)<|W (jf ..)<|aq (λc=>Cs.c y.p _ _) b
def Xz(h:iJ K=iJ L):K=L:=by
 have h:iV K=iV L:=by injection h
 exact(Nk λa b e=>ye.mp e).mp h
def LX:∀k,ip (k7 a k) (iJ K):=by
 refineλk=>⟨(by refine ak gM λv b=>?_;obtain⟨k,_,rfl⟩:=mm b;rfl),?_⟩
 induction a generalizing k with
 |nil=>intro e h;cases h|cons x r c=>
  intro e h;rcases mc h with h|h
  .exact W h Y
  .exact c _ e h
open Classical in
def ad4:∀k,(dV (k7 a k) (iJ K)=A/\K∉R (·.b5) a)\/∃j x,a[j]?=J x/\x.b5=K/\dV (k7 a k) (iJ K)=J (ag (k+j:O)):=by
 refine a.rec (λk=>aL ⟨Y,bG⟩) λx r b=>λk=>?_;have e:dV (k7 (x::r) k) _=if iJ x.b5=iJ K then J (ag k) else dV (k7 r _) _:=Y
 by_cases q:x.b5=K
 .exact aw ⟨0,x,Y,q,by refine W e<|W (aJ<|by rw [q]) ?_;rfl⟩
 .rw [e,aS λz=>q<|Xz z];rcases b _ with h|⟨j,y,c,d,h⟩
  .exact aL ⟨h.1,λz=>aO (rj.mp z) (λz=>q z.symm) h.2⟩
  .exact aw ⟨j+1,y,c,d,by rw [h,cx,eU 1 j]⟩
open Classical in
def Xl:∀k,x.b5∉R (·.b5) a->eW (k7 a k) (iJ x.b5) (ag (k+U a:O))=k7 (a++[x]) k:=by
 refine a.rec (λk Z=>rfl) λy r b=>λk h=>?_;have e:eW (k7 (y::r) k) _ (ag (k+U (y::r):O))=if iJ y.b5=iJ x.b5 then _::k7 r _ else _::eW (k7 r _) _ _:=Y
 exact W e<|W (aS λz=>h<|ak rj<|aL (Xz z).symm)<|W hS<|ax (cx ..)<|W (jf ..)<|W (b _ λz=>h<|cz _ z) Y
def aiJ:∀k,U (k7 a k)=U a:=a.rec (λk=>rfl) λx r b k=>aq _ (b _)
open Classical in
def ajg:dV (eW a k v) k=J v:=by
 refine a.rec (by refine(?_:_=_);exact aJ Y) λe r b=>?_;refine(?_:dV (if e.1=k then _::r else e::eW r k v) k=_)
 by_cases q:e.1=k
 .exact W (aJ q) ((aJ q):_=_)
 .exact W (aS q) ((W (aS q) b):(if e.1=k then _ else dV _ k)=_)
def Nz(h:Fr j a e)(k)(q:e.at k=J (b,dD c l))(f:ip c d)(g:K<|d7<|dV c d):mX d (aj b) a K:=by exact W q8 ((W (h.c9 q)<|⟨f,g⟩):inR _ K (a b))
noncomputable def s6(a:aa SC):=a.map λx=>aj x.p
structure BA where
b:O
s:O
d:O
def BA.o(a:BA)(G)(T):=cw 188<| .c 201 G.V<| .c 153 (Bj G T)<| .c 181 (aj a.s)<| .c 209 (aj a.d) ar
def jq(G:Gr)(T:aa O)(a:BA)(e:O)(b:aa SC):Cs:= .c a.b (a.o G T)<| .c a.s (az<|s6 b)<| .c a.d (dD (k7 b 0) e)<|uU b 0
def ab8(a:Fr c d e)(h:∀x:SC,x.b5=K->x.sym=y->x.mv=[]->∀b,Fr c b ((e.cA x.p<|x.i k).cA x.m x.d)->f (aj x.p) b):aK (n+2) 192 [ag k,iJ K,ag y] d f g:=by refine jK Y Y λj l=>?_;have a:=(a.hN (o:=cw 192 ar) l).bN;refine a7 KN (.c 64 _ (.c 168 _ (.c 163 _ (.c 183 _ ar)))) Y Y<|bP a Y λs a=>bP a Y λs a=>bP a Y λs a=>aV a λm s a=>?_;have a:=a.bN.tl;refine bP a Y λs a=>m8 a λo e s a=>?_;have a:=a.bN;refine d3 a 1 Y Y (bl Y) λs a=>aV a λr s a=>?_;have a:=a.bN.tl;exact d3 a 1 Y Y (bl Y) λs a=>bc ⟨Y,bc<|h ⟨j,o,e,y,K,aj m,aj r,[]⟩ Y Y Y s a.zT⟩
def Num(a)(K)(y)(b)(j:O):=eY (b=a\/(K∉R (·.b5) a/\∃x,b=a++[x]/\x.b5=K/\x.mv=[]/\x.sym=y))<|∃x:SC,b[j]?=J x/\x.b5=K
def w_(a:Fr h d<|jq G T f e b)(l:U b<2^20)(m:∀e c j k,Num b K y c j->Fr h k (jq G T f e c)->g (ag (j:O)) k):
 aK (n+3) 393 [aj f.b,iJ K,ag y] d g o:=by
 refine a7 RG (.c 64 _ (.c 163 _ (.c 183 _ ar))) Y Y ?_;have p:∀e c j s,dV (k7 c 0) (iJ K)=J (ag (j:O))->Num b K y c j->Fr h s (jq G T f e c)->
  c1 (aK<|n+2) o (fG (v5<|hC kW (fL (eb 64) 209)<|eb 163) ck) (.c 64 (aj f.b)<| .c 163 (iJ K)<| .c 183 (ag y) ar) s (λZ d=>eh g bk d) (eh g) (λZ Z=>bW):=λe c j s g q a=>aM a 0 Y<|Zw a 2 Y (LX 0) g<|bc<|m e c j s q a
 refine aM a 0 Y<|Nz a 2 Y (LX 0) ?_;rcases ad4 0 with g|⟨j,x,r,t,g⟩
 .refine W g.1<|aM a 0 Y<|bX a 1 Y<|aM a 0 Y<|u6 a 2 Y (LX 0) (W (aiJ ..)<|fe l<|by decide) λe s a=>aM a 0 Y<|cH a 1 Y<|aM a 0 Y<|bX a 1 Y ?_;have v:U (s6 b)=U b:=bC _;rw [v] at a;refine HQ v<|ab8 a λx t z B s a=>dF a 1 Y (W v<|fe l<|by decide) λs a=>p e _ (U b) s ?_ (cj (aw ⟨g.2,x,Y,t,B,z⟩) ⟨x,by refine W (hV<|bb _)<|W (pR ..) ?_;rfl,t⟩) ?_
  .exact ax (Xl 0<|by rw [t];exact g.2)<|W t<|W (eJ ..) ajg
  .unfold jq;rw [<-Xl 0 (by rw [t];exact g.2),<-adX,t,eJ,show s6 (b++[x])=s6 b++[aj x.p] from dv];exact a
 .rw [g];rw [eJ] at g;exact p e b j d g (cj (aL Y) ⟨x,r,t⟩) a
def al7(a):∀{k o r d} {b},a[r]?=J b->d<=U b.aQ->∃p,(uR o a)[r]?=J (o+p)/\(mJ k a)[p+d]?=J (k+r):=by
 refine @(a.rec (λh=>aI h) λx t c=>?_);intro k o r d b h e;have f:mJ k (x::t)=dM _ k++mJ _ t:=Y
 induction r with
 |zero=>obtain rfl:=aC h;refine⟨0,Y,W f<|W (eJ ..)<|W (hb<|by rw [ir];exact ig e)<|W (tW)<|W (aJ<|ig e) ?_⟩;rfl|succ r=>
  refine aA (c (k:=k+1) (o:=o+(U x.aQ+1)) h e) λp g j=>⟨U x.aQ+1+p,?_,?_⟩
  .rw [<-cx];exact g
  .rw [f,hV (by rw [ir,cx];exact dO ..),ir,cx,uP,j];exact aq J (by rw [cx,eU 1 r])
def c8(G:Gr)(r):=F G.pf r 0
def gV(h:G.a5[r]?=J a)(b:d<=U a.aQ):At G (c8 G r+d) r d (c8 G r) a:=by
 refine aA (al7 G.a5 (k:=0) (o:=0) h b) λp c e=>?_;rw [eJ] at c e;have f:c8 G r=p:=by unfold c8;refine W (cZ)<|W (c:G.pf[r]?=J p) ?_;rfl
 exact W f<|ec e c Y h b
def At.c8(a:At G b r d o c):o=c8 G r:=by unfold Zq.c8;rw [cZ,a J1];rfl
def At.uM(a:At G c r d o e)(b:At G c f g j h):r=f/\d=g/\e=h:=by have e:=aC<|af (a V).symm<|b V;obtain rfl:=e;obtain rfl:=aC<|af (a J1).symm<|b J1;exact⟨Y,Q8<|af (a J2).symm<|b J2,aC<|af (a J3).symm<|b J3⟩
def Tt(h:G.a5[r]?=J c)(b:G.a5[a]?=J d)(e:c8 G r=c8 G a):r=a:=
((gV h<|cQ _).uM<|e▸gV b (cQ _)).1
def Va.sym(a:e6)(v:Va G b)(e:bH G b=J s):s<G.nS:=hI v λr d o c f=>(a.lt c<|aP<|f J3).2 s<|aP<|f.bH▸e
def Va.lt(a:e6)(v:Va G b):b<40:=by refine hI v λr d o c e=>cc (gl<|e V) ?_;have f:∀g k,(∀r∈g,U r.aQ<=3)->U (mJ k g)<=U g*4:=λg=>g.rec (λk Z=>bb 0) λx t h=>λk j=>W a3<|W ir<|W hS<|W (sq ..)<|W (eU ..)<|dZ (h _ λr l=>j r<|cz _ l)<|b3<|j x (b8 ..);exact ae (f G.a5 0 a.yv)<|ri 4 a.oX
def v'(c:e6)(nd:bw b)(d:∀a∈b,Va G a):U b<64:=
cF (qx nd λa e=>(d a e).lt c) (ao Y)
def aae(s)(a):∀k,mY (·<·) (jW s k a)/\∀r∈jW s k a,k<=r:=by
 refine a.rec (λk=>br h9 λZ h=>bG h) λx t b=>λk=>?_;have c:=b<|k+1;refine(?_:mY _ (aD _ _ _:aa O)/\∀r∈(aD _ _ _:aa O),k<=r);cases aE x.aY s with
 |true=>exact⟨lJ c.2 c.1,λr d=>aO (mc d) (λe=>c6 e.symm) λd=>uS<|c.2 r d⟩|false=>exact br c.1<|λr d=>uS<|c.2 r d
def Cw(G)(T K a):=eY (bw a)<|∀b,b∈a↔Fe G T K b
def tR:b∈rD G K c↔b∈K\/∃r a,G.a5[r]?=J a/\a.aY∈c/\b=c8 G r:=by
 unfold rD jE;rw [oI,iu,iu,rR,jO]
 constructor
 .rintro (h|⟨⟨r,d,e⟩,_⟩)
  .exact aL h
  .exact aA (y2.mp d) λs f d=>aA (uV.mp d) λa h q=>aw ⟨r,a,h,q▸f,a4 e⟩
 .rintro (h|⟨r,a,h,g,e⟩)
  .exact aL h
  .by_cases q:b∈K
   .exact aL q
   .exact aw ⟨⟨r,ak y2 ⟨_,g,ak uV ⟨a,h,Y⟩⟩,a4 e⟩,W (NY ..)<|W (gh q) Y⟩
def Rb(h:bw K)(k:bw a):bw (rD G K a):=by
 refine ak nE ⟨ak (uZ<|sC _) h,ak (uZ<|sC _)<|Lb _ ?_,λb c d e f=>?_⟩
 .refine ak I8 ?_;have g:bw (wY G.jY a):=by refine ak U? ⟨λs Z=>(aae s G.a5 0).1.imp fH,k.imp λ{s t} q x j y l f=>aA (uV.mp j) λm n o=>aA (uV.mp l) λp r v=>?_⟩;rw [f,r] at n;obtain rfl:=aC n;exact q<|af o.symm v
  exact Rq (λ{x y} j l q f=>aA (y2.mp j) λs Z j=>aA (y2.mp l) λt Z l=>aA (uV.mp j) λm n Z=>aA (uV.mp l) λp o Z=>q<|Tt n o f) g
 .have e:=(rR.mp<|iu.mp e).2;rw [<-f,NY,eZ<|iu.mp c] at e;exact bR e
def Dv(h:∀a∈K,Va G a):∀a∈rD G K b,Va G a:=λa c=>aO (tR.mp c) (h a) λd=>gv d λr e f Z e=>⟨_,_,_,_,e▸gV f (cQ _)⟩
def w5:x∈fE G b s↔∃a∈b,bH G a=J s/\x=a+1:=by unfold fE;rw [jO];exact⟨λc=>aA c λa h e=>⟨a,(rR.mp h).1,eq_of_beq (rR.mp h).2,a4 e⟩,λd=>hv d λa h q e=>⟨a,ak rR ⟨h,ak qJ q⟩,a4 e⟩⟩
def ŏ(h:∀a∈b,Va G a):∀a∈fE G b s,Va G a:=λx c=>hv (w5.mp c) λa d e q=>W q<|(by refine hI (h a d) λr d o f a=>?_;rw [a.bH] at e;have g:=gV (a J3) (d:=d+1)<|gl e;rw [<-a.c8,<-cx,<-(a J2)] at g;exact⟨_,_,_,_,g⟩)
def aei{a b:aa O}(c:mY (·<=·) a)(d:bw a)(e:mY (·<=·) b)(f:bw b)(h:∀x,x∈a↔x∈b):a=b:=al0 (λa b Z Z=>hL) c e<|ak (List.perm_ext_iff_of_nodup d f) h
structure GX(G:Gr):Prop extends GW G where
acc:∀o∈G.a5,G.nT∉o.aQ
st:G.nT<G.iU
l3:G.nS<=G.nT+4
SQ:(G.a5.tail.map λo=>U o.aQ-1).sum<=15
e0:∀z o,G.a5[z+1]?=J o->0∉o.aQ
t6:G.nT<=6
r0:G.a5[0]?=J ⟨G.nT,[G.iU,0],0⟩
rs:∀z o,G.a5[z+1]?=J o->o.aY≠G.nT
inductive Gt(G:Gr)(T a d:aa O):Prop
|mk (b:aa O) (s:O) (e:Cw G T a b) (f:d=es (fE G (rD G a b) s)) (c:O) (g:c∈rD G a b) (h:bH G c=J s)
def lS(G)(T)(a):=hK (bw a) (a[0]?=J [0]) (∀b∈a,b=[0]\/∃c∈a,Gt G T c b)<|∀b∈a,bw b/\∀d∈b,Va G d
def lS.add(h:lS G T a)(n:K∉a)(m:b∈a)(g:Gt G T b K):lS G T (a++[K]):=by
 refine dS (ak nE ⟨h V,lJ (λZ h=>bG h) h9,λa c d e f=>n<|(ms e▸f)▸c⟩) ?_ (λL j=>?_) λL j=>?_
 .exact W (hb<|gl<|h J1)<|h J1
 .rcases ma j with j|j
  .exact((h J2) L j).imp id λk=>aA k λM l q=>⟨M,gE _ l,q⟩
  .exact W (ms j)<|aw ⟨b,gE _ m,g⟩
 .rcases ma j with j|j
  .exact(h J3) L j
  .refine W (ms j) ?_;obtain⟨o,s,c,f,p,r,a⟩:=g;have o:=(h J3) b m;exact W f<|⟨ak (uZ<|sC _)<|ak I8<|(Lb _ (Rb o.1<|c V)).imp λq f=>q<|f7 f,λp r=>ŏ (Dv o.2) p<|iu.mp r⟩
def dt(G)(a):=a-c8 G (F G.hW a 0)
def At.dt(a:At G b r d o c):dt G b=d:=by unfold Zq.dt;rw [show F G.hW b 0=r by rw [cZ,a V];rfl,<-a.c8,a J2];exact uP ..
noncomputable def qG(p:O->ba)(L:aa O):Nat:=jb 0 (λx Z a=>2*a+aD (p x) 1 0) L
def K1:qG p (x::L)=2*qG p L+aD (p x) 1 0:=Y
def WW:2*a+0≠2*b+1:=λh=>Nat.zero_ne_one<|af (Nat.mul_mod_right 2 a).symm<|af (aq (·%2) h)<|Nat.mul_add_mod 2 b 1
def ar3(a:n<=l)(b:l<s)(c:l≠n)(d:s<=n+4):l-(n+1)<3/\n+1+(l-(n+1))=l:=
 have k:=yf a c.symm
 ⟨Nat.sub_lt_left_of_lt_add k<|jf n 1 3▸cc b d,zj k⟩
def ZH(h:2*a+c=2*b+c):a=b:=Nat.eq_of_mul_eq_mul_left (I! 1)<|G2 h
def JB(L):qG p L<2^U L:=by refine L.rec BW λx r a=>?_;have b {c:O} {d:O} {m:O} (h:d<=1) (k:c<m):2*c+d<m*2:=Nat.mul_comm 2 m▸cc (tv (ig h) _) (kb 2 k);exact b (by cases(p x)<;>decide) a
def Xi(h:qG p L=qG q L):∀x∈L,p x=q x:=by
 induction L with
 |nil=>exactλZ h=>bG h|cons y r a=>
  rw [K1,K1] at h;have b:p y=q y/\qG p r=qG q r:=by
   cases c:p y<;>cases d:q y<;>rw [c,d] at h
   .exact br rfl<|ZH h
   .exact ay h WW
   .exact ay h.symm WW
   .exact⟨Y,ZH h⟩
  exactλx e=>aO (mc e) (λe=>e▸b.1)<|a b.2 x
def HW(G:Gr)(a:aa Ru):O->aa Nat:=jb (λZ=>[]) (λr Z b k=>R (c8 G k+2+·) (e4<|U r.aQ-1)++b (k+1)) a
def bg(G):=HW G G.a5.tail 1
def K!(a):∀k,U (HW G a k)=(a.map λr=>U r.aQ-1).sum:=by refine a.rec (λk=>rfl) λr t b=>λk=>(?_:U (R _ (e4 _)++HW G t _)=_);simp only [a3,bC,e9,b];rfl
def acj(a):∀{k r d} {b},a[r]?=J b->d+2<=U b.aQ->c8 G (k+r)+(d+2)∈HW G a k:=by
 refine @(a.rec (λh=>aI h) λx t c=>?_);intro k r d b h e
 induction r with
 |zero=>exact W (aC h)<|gE _ (ak jO ⟨d,ak tV<|Nat.lt_sub_of_add_lt e,by rw [cx,eU 2 d];rfl⟩)|succ r=>have f:=c (k:=k+1) h e;rw [cx,eU 1 r] at f;exact fx _ f
noncomputable def Bz(G:Gr):=R (G.nT+1+·)<|e4 3
def B0(G)(a:aa O)(b)(c:O->ba):=om (b<12) (∀x∈a,2<=dt G x\/∃r d,G.a5[r]?=J d/\c d.aY=Q/\d.aQ[0]?=J b/\x=c8 G r+1) (∀r d,G.a5[r]?=J d->c d.aY=Q->d.aQ[0]?=J b->c8 G r+1∈a) (∀e,c e=Q->e≠G.nT) (∀x∈a,∃f,x=f+1/\bH G f=J b)<|∀x∈a,2<=dt G x->F G.hW x 0≠0
def D7(G)(K):=fF (mY (·<=·) K) (bw K)<|∀a∈K,Va G a
noncomputable def c3(d p a):=if d=0 then 262146+(p*12+a) else 2+(d*8+p)
def QH(a:p<8)(b:d<32768):2+(d*8+p)<262146:=tv (cc (tv a _)<|sq d 8▸ri 8 b) 2
def l'(a:p<8)(b:c<12)(d:e<32768):c3 e p c<262242:=by
 unfold c3;split
 .exact tv (cc (tv b _)<|sq p 12▸ri 12 a) _
 .exact cc (QH a d)<|bl Y
def tu(G)(K):=qG (b7 K)<|bg G
inductive Cd(G:Gr)(T:aa O)(a:aa O):O->Prop
|z (h:a=[0]):Cd G T a 0|o (h:∀x,x∈a↔x=1\/∃r b,G.a5[r]?=J b/\Fe G T [0] b.aY/\b.aQ[0]?=J G.iU/\x=c8 G r+1):Cd G T a 1|e (h:∀x,x∈a↔x=2):Cd G T a 262242|t (c:O) (d:O->ba) (h:B0 G a c d):Cd G T a<|c3 (tu G a) (qG d<|Bz G) c
def Vv(d p a):2<=c3 d p a:=by unfold c3;split<;>exact Nat.le_add_right_of_le<|bl Y
def uB{a:aa O}:b7 a x=Q↔x∈a:=by refine W (NY ..) ?_;rw [mF]
abbrev fm:=GX G
def B0.sub(g:fm)(a:D7 G K)(h:B0 G K b c)(k:B0 G L d e)(f:∀x∈bg G,b7 K x=b7 L x)(j:∀x∈Bz G,c x=e x)(l:b=d):∀x∈K,x∈L:=by
 intro x m;rcases(h J1) x m with q|⟨r,n,o,p,s,e⟩
 .have t (v:Va G x) (y:F G.hW x 0≠0):x∈bg G:=by refine hI v λr d z n B=>?_;rw [show F G.hW x 0=r by refine W (cZ)<|W (B V) ?_;rfl] at y;obtain⟨r,rfl⟩:=K0 y;rw [B.dt] at q;obtain⟨e,rfl⟩:=Nat.exists_eq_add_of_le q;have C:=acj G.a5.tail (k:=1) (W (List.getElem?_tail)<|B J3)<|W (eU ..)<|B J4;rw [eU 1 r,<-B.c8,eU e 2,<-(B J2)] at C;exact C
  exact uB.mp<|af (f x<|t ((a J2) x m)<|(h J5) x m q).symm<|ak uB m
 .refine W e<|(k J2) r n o (af (j n.aY ?_).symm p)<|l▸s;have l:=(g.lt n<|aP o).1;have C:=ar3 l.1 l.2 ((h J3) _ p) g.l3;exact ak jO ⟨n.aY-_,ak tV C.1,C.2⟩
def aj0(b:p<8)(c:a<12)(e:d<32768)(h:c3 d p a=0\/c3 d p a=1\/c3 d p a=262242):False:=by
 rcases h with h|h|h
 .exact ay (h▸Vv d p a)<|ao Y
 .exact ay (h▸Vv d p a) (by decide)
 .exact ay (h▸l' b c e)<|ao Y
def Cd.inj(g:fm)(a:D7 G K)(b:D7 G L)(h:Cd G T K c)(k:Cd G T L c):K=L:=by
 have d:=λf=>JB (p:=f)<|Bz G;have j:∀M,tu G M<32768:=λM=>cc (JB<|bg G)<|B6 (ao Y) (show U (bg G)<=15 by unfold bg;exact W (K! ..) g.SQ);have l:=λ{M m f} (h:B0 G M m f)=>aj0 (d f) (h V)<|j M;refine aei (a V) (a J1) (b V) (b J1) λx=>?_
 induction h with
 |z h=>
  generalize e:0=c at k
  induction k with
  |z k=>rw [h,k]|o k=>cases e|e k=>cases e|t m f k=>exact b6<|l k<|aL e.symm
 |o h=>
  generalize e:1=c at k
  induction k with
  |z k=>cases e|o k=>exact jG (h x) (k x).symm|e k=>cases e|t m f k=>exact b6<|l k<|aw<|aL e.symm
 |e h=>
  generalize e:262242=c at k
  induction k with
  |z k=>cases e|o k=>cases e|e k=>exact jG (h x) (k x).symm|t m f k=>exact b6<|l k<|aw<|aw e.symm
 |t m f h=>
  generalize e:c3 _ _ m=c at k
  induction k with
  |z k=>exact b6<|l h<|aL e|o k=>exact b6<|l h<|aw<|aL e|e k=>exact b6<|l h<|aw<|aw e|t n q k=>
   have r:(tu G K)=(tu G L)/\(Zq.qG f<|Zq.Bz G)=(Zq.qG q<|Zq.Bz G)/\((tu G K)=0->m=n):=by
    unfold c3 at e
    by_cases z:(tu G K)=0
    .rw [aJ z] at e
     by_cases y:(tu G L)=0
     .rw [aJ y] at e;have s:=IB (h V) (k V)<|Q8 e;exact⟨af z y.symm,s.1,λX=>s.2⟩
     .rw [aS y] at e;exact ay (e▸QH (d q) (j L))<|ak fU (dO ..)
    .rw [aS z] at e
     by_cases y:(tu G L)=0
     .rw [aJ y] at e;exact ay (e▸QH (d f) (j K))<|ak fU (dO ..)
     .rw [aS y] at e;have s:=IB (d f) (d q)<|Q8 e;exact⟨s.1,s.2,λq=>ay q z⟩
   refine Af r λv B C=>?_;have H:=Xi v;have I:=Xi B;have N:m=n:=by
    by_cases z:tu G K=0
    .exact C z
    .have Z {p:O->ba} {L:aa O} (h:qG p L≠0):∃x∈L,p x=true:=by
      induction L with
      |nil=>exact ay Y h|cons y r T=>
       cases q:p y with
       |true=>exact⟨y,b8 ..,q⟩|false=>rw [K1,q] at h;exact aA (T λz=>h<|aq _ z) λx M e=>⟨x,cz _ M,e⟩
     refine aA (Z z) λy c q=>aA ((h J4) y<|uB.mp q) λl d f=>aA ((k J4) y<|uB.mp<|af (H y c).symm q) λj s v=>?_;rw [f7<|af d.symm s,v] at f;exact a4<|aC f
   exact⟨h.sub g a k H I N x,k.sub g b h (λy c=>a4<|H y c) (λy c=>a4<|I y c) N.symm x⟩
def Fe.nt(g:fm)(c:qB G T)(v:∀a∈K,Va G a)(h:Fe G T K b):b≠G.nT:=by
 refine aA h λa d z=>aA z λs e q=>?_;intro z;rcases q with q|q
 .exact hI (v a d) λr d o f a=>g.acc f (aP<|a J3)<|z▸q▸aP (a.bH▸e)
 .exact gv ((c J4) s b q) λr t j Z e=>g.acc r j<|W e<|W z (b8 ..)
def u3(g:fm):At G 0 0 0 0 ⟨G.nT,[G.iU,0],0⟩:=by
 have a:=gV g.r0<|cQ _;have e:c8 G 0=0:=by
  have h:=g.r0;unfold c8 Gr.pf;cases e:G.a5 with
  |nil=>rw [e] at h;cases h|cons x t=>rfl
 rw [e] at a;exact a
open Classical in
def q_{d:Type}(b:d->O->Prop){a}(nd:bw a)(h:∀x∈a,∃c,c<N/\b x c)(e:∀x∈a,∀y∈a,∀c,b x c->b y c->x=y):U a<=N:=by
 let f:d->Nat:=λx=>if q:∃c,c<N/\b x c then q.choose else 0
 have g:∀x∈a,f x<N/\b x (f x):=λx j=>by show(dite _ _ _:O)<N/\b x (dite _ _ _);exact W (dif_pos _)<|Ff<|h x j
 have k:bw (R f a):=ak I8<|Rq (λ{x y} j l q m=>q<|e x j y l (f x) (g x j).2<|m▸(g y l).2) nd;have n:=qx k λc o=>by obtain⟨x,j,rfl⟩:=jO.mp o;exact(g x j).1
 rw [bC] at n;exact n
def lS.j!(h:lS G T a)(m:K∈a):D7 G K:=by
 have b (c:mY (·<=·) K):D7 G K:=bY c ((h J3) K m).1<|((h J3) K m).2;refine b ?_;rcases(h J2) K m with e|⟨d,_,f,s,g,e,_,_,_⟩
 .exact W e<|lJ (λZ h=>bG h) h9
 .exact W e<|p? _
def lS.Eg(g:fm)(Ç:qB G T)(h:lS G T a):U a<=262243:=by
 refine q_ (Cd G T) (h V) (λb m=>?_) λb m L e Ç Â q=>Â.inj g (h.j! m) (h.j! e) q;rcases(h J2) b m with f|⟨j,e,q⟩
 .exact⟨0,ao Y, .z f⟩
 .have À (l:∀n∈j,Va G n) (d:j=[0]\/∀n∈j,1<=dt G n) (h:Gt G T j b):∃o,o<262243/\Cd G T b o:=by
   have Á:∀M,tu G M<32768:=λM=>cc (JB<|bg G)<|B6 (ao Y) (show U (bg G)<=15 by unfold bg;rw [K!];exact g.SQ);obtain⟨s,t,v,f,n,x,a⟩:=h;have y:=Dv (b:=s) l;have z:=cc ((y n x).sym g.toGW a) g.nS;have B:∀C,C∈b↔∃n,(n∈j\/∃H I,G.a5[H]?=J I/\I.aY∈s/\n=c8 G H)/\bH G n=J t/\C=n+1:=λC=>by refine W f ?_;rw [iu,w5];exact VY λn=>and_congr_left λX=>tR
   have N:∀H I,G.a5[H]?=J I->(bH G (c8 G H)=J t↔I.aQ[0]?=J t):=λH I Z=>by rw [show bH G (c8 G H)=I.aQ[0]? from (gV Z<|cQ _).bH]
   have Ã:∀m,Va G m->bH G m=J t->F G.hW _ 0=0->2<=dt G _->m=1/\t=0:=λm M q k r=>hI M λH d M I p=>by rw [p.bH] at q;have L:=gV (p J3) (d:=d+1)<|gl q;rw [<-p.c8,<-cx,<-(p J2)] at L;rw [show F G.hW _ 0=H by refine W (cZ)<|W (L V) ?_;rfl] at k;rw [L.dt] at r;subst k;obtain rfl:=aC<|af (p J3).symm g.r0;obtain rfl:=aC<|af ((u3 g) J1).symm<|p J1;have L:=jQ (a:=λd=>2<=d+1->d=1/\t=0) q (λX h=>ay h<|by decide) (λf X=>br rfl f.symm) r;exact br (af (p J2)<|af (eJ _) L.1) L.2
   have L:t≠0->(∀n∈j,bH G n=J t->1<=dt G n)->∃o,o<262243/\Cd G T b o:=λT Å=>by
    refine⟨_,rM<|l' ((λÄ=>JB (p:=Ä)<|Bz G) _) z<|Á b, .t t (b7 s)<|e1 z (λC o=>?_) (λH I Z Æ c=>?_) (λÈ É=>?_) (λC o=>?_) λC o r k=>?_⟩
    .obtain⟨n,h,q,rfl⟩:=(B C).mp o;rcases h with h|⟨H,I,Z,b,rfl⟩
     .refine hI (l n h) λH d M I p=>?_;have z:=Å n h q;rw [p.dt] at z;rw [p.bH] at q;have:=gV (p J3) (d:=d+1)<|gl q;rw [<-p.c8,<-cx,<-(p J2)] at this;exact aL<|W this.dt<|b3 z
     .exact aw ⟨H,I,Z,ak uB b,(N H I Z).mp q,Y⟩
    .exact ak (B _) ⟨_,aw ⟨H,I,Z,uB.mp Æ,Y⟩,ak (N H I Z) c,Y⟩
    .exact(((v J1) È).mp<|uB.mp É).nt g Ç l
    .exact hv ((B C).mp o) λn X q f=>⟨n,f,q⟩
    .rw [f,iu,w5] at o;obtain⟨m,l,q,rfl⟩:=o;exact T (Ã m (y m l) q k r).2
   by_cases T:t=0
   .have z:∀m,Va G m->bH G m=J t->m=1:=λm k q=>hI k λH d M I p=>by
     rw [p.bH,T] at q
     induction H with
     |succ H=>exact ay (aP q)<|g.e0 H I<|p J3|zero=>obtain rfl:=aC<|af (p J3).symm g.r0;obtain rfl:=aC<|af ((u3 g) J1).symm<|p J1;exact af (p J2)<|af (eJ _)<|jQ (a:=(·=1)) q (λf=>ay (f▸g.st:G.nT<0)<|fC _) λX=>rfl
    refine⟨262242,ao Y, .e λC=>?_⟩;rw [f,iu,w5];exact⟨λr=>hv r λm l q k=>by rw [k,z m (y m l) q],λk=>⟨n,x,a,by rw [k,z n (y n x) a]⟩⟩
   have L:=L T;rcases d with rfl|d
   .have a:=(u3 g).bH
    by_cases q:t=G.iU
    .refine⟨1,ao Y, .o λC=>jG (B C) ⟨?_,?_⟩⟩
     .rintro ⟨n,h|⟨H,I,Z,b,rfl⟩,y,rfl⟩
      .exact W (ms h)<|aL Y
      .exact aw ⟨H,I,Z,((v J1) _).mp b,q▸(N H I Z).mp y,Y⟩
     .rintro (rfl|⟨H,I,Z,b,c,rfl⟩)
      .exact⟨0,aL hf,q▸a,Y⟩
      .exact⟨_,aw ⟨H,I,Z,ak ((v J1) _) b,Y⟩,ak (N H I Z)<|q▸c,Y⟩
    .refine L λn x f=>?_;rw [ms x,a] at f;exact ay (aC f).symm q
   .exact L λn x X=>d n x
  exact À ((h J3) j e).2 ((by refine((h J2) j e).imp id λq C o=>aA q λm T q=>?_;obtain⟨s,t,v,f,_,_,_⟩:=q;rw [f] at o;obtain⟨n,x,q,rfl⟩:=w5.mp<|iu.mp o;refine hI (Dv ((h J3) m T).2 n x) λH d M I p=>?_;rw [p.bH] at q;have:=gV (p J3) (d:=d+1)<|gl q;rw [<-p.c8,<-cx,<-(p J2)] at this;exact W this.dt<|b3<|cQ d)) q
def lS.len(g:fm)(c:qB G T)(h:lS G T a):U a<2^20:=cF (h.Eg g c)<|ao Y
def LV(c:K (qV b<|gZ a)<|R (·.1) a):w9 (gZ a) b K:=W Kh λG Z g=>g c
def MO:qV b (gZ a) c=J (R (·.1) a):=aJ Y
noncomputable def SC.wi(x:SC)(v:ai):SC:=⟨x.p,x.m,x.e,x.sym,x.b5,v,x.vr,x.mv⟩
noncomputable def SC.wr(x:SC)(v:ai):SC:=⟨x.p,x.m,x.e,x.sym,x.b5,x.vi,v,x.mv⟩
noncomputable def SC.wm(x:SC)(a:O)(b:aa<|O×O):SC:=⟨x.p,x.m,a,x.sym,x.b5,x.vi,x.vr,b⟩
section
set_option tactic.hygienic true
def V5(h:a[j]?=J x)(e:y.p=x.p):s6 (c2 a j y)=s6 a:=by
 unfold s6;refine W CH<|W e<|Cp λk=>W (Ay)<|W (cg) ?_;split
 .rename_i q;exact ax q<|W h<|W (bC ..)<|W (aJ<|gl h) Y
 .rfl
def He{a:aa SC}(h:a[j]?=J x)(e:y.b5=x.b5):R (·.b5) (c2 a j y)=R (·.b5) a:=by
 refine W CH<|W e<|Cp λk=>W (Ay)<|W (cg) ?_;split
 .rename_i q;exact ax q<|W h<|W (bC ..)<|W (aJ<|gl h) Y
 .rfl
end
def ľ:∀{a} {k},R (·.b5) b=R (·.b5) a->k7 b k=k7 a k:=by
 induction b with
 |nil=>
  intro a k h
  induction a with
  |nil=>rfl|cons x r=>cases h
 |cons y s c=>
  intro a k h
  induction a with
  |nil=>cases h|cons x r=>have h:=hp h;refine(?_:_::k7 s _=_::k7 r _);exact W (c h.2)<|W (show y.b5=x.b5 from h.1) Y
def yA(h:a[j]?=J x):(jq G T b e a).at (2*j+3)=J (x.p,x.i j):=by have c:=ak1 (k:=0) h;rw [eJ] at c;exact c
def Xr(h:a[j]?=J x):(jq G T b e a).at (2*j+1+3)=J (x.m,x.d):=age h
def X1(h:a[j]?=J x)(b:y.p=x.p)(c:y.m=x.m)(d:y.d=x.d)(e:y.b5=x.b5):(jq G T f g a).g8 (2*j+3) (y.i j)=jq G T f g (c2 a j y):=by have k:=aca (k:=0) h b c d;rw [eJ] at k;unfold jq;simp only [V5 h b,ľ<|He h e,<-k];rfl
def aej(h:a[j]?=J x)(b:y.p=x.p)(c:y.m=x.m)(d:∀k,y.i k=x.i k)(e:y.b5=x.b5):(jq G T f g a).g8 (2*j+1+3) y.d=jq G T f g (c2 a j y):=by unfold jq;simp only [V5 h b,ľ<|He h e,<-aib (k:=0) h b c d];rfl
def τ:∀k:O,(R (·.1)<|nd iJ<|(es a).map λs=>(s,es<|fE G b s))[k]?=((es a)[k]?).map λ(s:O)=>ag s:=λk=>by refine W ya ?_;unfold iV;simp only [cg,cg,cg];cases(es a)[k]?<;>rfl
def Ep(G)(x:SC)(a b)(k)(c:aa SC)(y:SC):=t9 (y.p=x.p) (y.m=x.m) (y.b5=x.b5) (y.vi=aN (iV a)) (y.vr=aN (iV<|w1 G a)) (R (·.1) y.mv=aF k (es b))<|∀s t,(s,t)∈y.mv->∃z,c[t]?=J z/\z.b5=es (fE G a s)
def Gw(a b:aa SC)(j):=fF (∀(c:O) d,a[c]?=J d->∃e,b[c]?=J e/\e.b5=d.b5) (∀c,c<U a->c≠j->b[c]?=a[c]?)<|∀c (z:SC),U a<=c->b[c]?=J z->z.mv=[]
def Es(G)(T)(b)(x)(j)(c d)(k)(a)(y):=hK (Gw b a j) (lS G T<|R (·.b5) a) (a[j]?=J y)<|Ep G x c d k a y
def π:Gw a a j:=bY (λb a h=>⟨a,h,Y⟩) (λZ Z Z=>rfl) λb z h e=>ay (gl e)<|ak fU h
def Gw.len(h:Gw b a j):U b<=U a:=by refine j3 λq=>aA ((h V) (U a) _ (bK q)) λb c Z=>?_;exact ay (gl c)<|kq _
def Gw.set(h:Gw a b j)(d:j<U a)(e:b[j]?=J y)(k:c.b5=y.b5):Gw a (c2 b j c) j:=by
 refine bY (λf a g=>?_) (λf g l=>?_) λf z g m=>?_
 .refine aA ((h V) f a g) λb n q=>?_
  by_cases z:j=f
  .rw [<-z,e] at n;obtain rfl:=aC n;exact⟨c,ax z<|Ei<|gl e,af k q⟩
  .exact⟨b,W (FI z) n,q⟩
 .exact W (FI l.symm)<|(h J1) f g l
 .rw [FI<|fH<|cc d g] at m;exact(h J2) f z g m
def Es.next(h:Es G T d x j f g k b y)(m:j<U d)(n:bw g)(l:(es g)[k]?=J s)(o:Gt G T x.b5<|es<|fE G f s)(c:Num b (es<|fE G f s) p a t):
 Es G T d x j f g (k+1) (c2 a j<|y.wm e<|ot y.mv s t) (y.wm e<|ot y.mv s t)/\a[j]?=J y:=by
 have q:x.b5∈R _ b:=ax ((h J3) J2)<|hY<|aP<|h J2;have r:a[j]?=J y:=by
  refine aO (c V) (λe=>?_) λz=>?_
  .exact W e<|h J2
  .refine dC z λX z=>aA z λz e X=>?_;exact W e<|W (hb<|gl<|h J2)<|h J2
 have v:Gw d a j:=by
  refine aO (c V) (λe=>?_) λz=>?_
  .exact W e<|h V
  .refine dC z λX z=>yT z λz e X B X=>?_;exact W e<|(by
    refine bY (λC H I=>?_) (λC I L=>?_) λC M I N=>?_
    .exact aA ((h V) V C H I) λZ f g=>⟨Z,W (hb<|gl f) f,g⟩
    .exact W (hb<|cc I (h V).len)<|(h V) J1 C I L
    .rcases h0 C (U b) with g|g
     .rw [hb g] at N;exact(h V) J2 C M I N
     .rw [hV g] at N;exact W (ms<|aP N) B)
 have k:lS G T (R (·.b5) a):=by
  refine aO (c V) (λe=>?_) λz=>?_
  .exact W e<|h J1
  .refine dC z λp z=>yT z λz e g B X=>?_;simp only [e,dv];show lS G T<|R _ b++[z.b5];exact W g<|(h J1).add p q o
 have x:∀C H,b[C]?=J H->a[C]?=J H:=λC H I=>by
  refine aO (c V) (λe=>?_) λz=>?_
  .exact W e I
  .refine dC z λX z=>aA z λz e X=>?_;exact W e<|W (hb<|gl I) I
 have d:s∉R (·.1) y.mv:=by refine W ((h J3) J5) λg=>bp (gs.mp g) λC I=>?_;have L:=gl I;rw [dU] at L;have L:=cc L<|m4 _ _;rw [ha,aJ L] at I;exact fH L<|yg (ak (uZ<|sC _) n) I l
 have Z:∀C (z:SC),a[C]?=J z->∃M:SC,(c2 a j<|y.wm e<|ot y.mv s t)[C]?=J M/\M.b5=z.b5:=λC z f=>by
  by_cases g:j=C
  .rw [<-g,r] at f;exact ax (aC f) ⟨y.wm e _,ax g<|Ei<|gl r,Y⟩
  .exact⟨z,W (FI g) f,Y⟩
 refine br (dS (v.set m r rfl) ?_ (Ei<|gl r)<|ke (h J3 V) (h J3 J1) (h J3 J2) (h J3 J3) (h J3 J4) ?_ λT o q=>?_) r
 .exact W (He (y:=y.wm e _) r Y) k
 .refine(?_:R (·.1) (ot y.mv s t)=_);simp only [sQ<|ak lG d,dv,(h J3) J5,nX,l];rfl
 .rcases(by rw [sQ<|ak lG d] at q;exact(ma q).imp id ms) with g|g
  .exact aA ((h J3) J6 T o g) λz f B=>aA (Z o z<|x o z f) λM N p=>⟨M,N,af p B⟩
  .cases g;exact aA (c J1) λz f B=>aA (Z t z f) λM N p=>⟨M,N,af p B⟩
def Ed(G)(T)(b:aa SC)(x:SC)(a):=om (x.vi=aN (iV a)) (x.vr=aN (iV<|w1 G a)) (∃c,Cw G T x.b5 c/\a=rD G x.b5 c) (∀s,s∈R (·.1) x.mv↔∃d∈a,bH G d=J s) ((R (·.1) x.mv).Pairwise (·<·))<|∀s t,(s,t)∈x.mv->∃z,b[t]?=J z/\z.b5=es (fE G a s)
def ź(k:fm)(l:qB G T)(a:Fr m q<|jq G T g e f)(n:lS G T<|R (·.b5) f)(c:f[j]?=J x)(o:x.mv=[])
 (h:∀e b y d p,Gw f b j->lS G T (R (·.b5) b)->b[j]?=J y->Ed G T b y d->Fr m p (jq G T g e b)->r bk p):aK (s+5) 370 [aj g.b,aj x.p] q r t:=by
 have v:=k.toGW;have z:x.b5∈R _ f:=hY<|aP c;have B:=(n J3) _ z;have C:=gl c;refine a7 Qj (.c 64 _ (.c 130 _ ar)) Y Y<|aM a 0 Y<|aM a _ (yA c) (adG v l B.2 (λH I s L=>(B.2 H I).sym v L) (v' v B.1 B.2) λM N Z p nd=>?_);have q:=cj nd λr=>jG (p r)<|(Z J1) r;generalize t:rD G x.b5 M=d;have z:=t▸Dv B.2;have N:=v' v (t▸Rb B.1 nd) z;refine d3 a _ (yA c) Y (bl Y) λs a=>?_;have a:=X1 (y:=x.wi<|aN _) c Y Y Y Y▸a;have Z:=Ei (a:=x.wi<|aN<|iV d) C;refine aM a 0 Y<|aM a _ (yA (x:=x.wi<|aN _) Z) (δ z N<|d3 a _ (yA (x:=x.wi<|aN _) Z) Y (bl Y) λs a=>?_);have a:Fr m s (jq G T g e<|c2 f j _):=ax (List.set_set _)<|X1 (y:=(x.wi<|aN _).wr<|aN<|iV _) Z Y Y Y Y▸a;have Z:=Ei (a:=(x.wi<|aN<|iV d).wr<|aN<|iV<|w1 G d) C;refine aM a 0 Y<|aM a _ (yA (x:=(x.wi<|aN _).wr _) Z) (aaj v z (λH I s L=>(z H I).sym v L) N λp r B=>LV ?_);refine cv τ (λX X X=> .c 64 _ (.c 130 _ _)) (λX (e:O) b=>jq G T g e b) (λm X b=>∃y,Es G T f x j d p m b y) e _ a
  ⟨_,dS (π.set C c Y) (W (He (y:=(x.wi<|aN _).wr _) c Y) n) Z (ke Y Y Y Y Y (aq _ o) λs L N=>by have N:=N;exact bG<|o▸N)⟩ (λX X X X X=>MO) ?_ ?_
 .intro m y e b s g f j a c;have n:=aP f;refine aA ((B y).mp<|iu.mp n) λH I o=>?_;have Z:Gt G T x.b5 _:=⟨M,y,q,W t Y,H,W t I,o⟩;have m:U b<2^20:=by refine bp j λX j=>?_;have g:=(j J1).len k l;rw [bC] at g;exact g
  have T {k:Type} {l:O->k} {s:O} (k:aa O) (h:s∈k):cK (k.map λs=>(s,l s)) s=J (l s):=by
   induction k with
   |nil=>cases h|cons x k k=>
    refine(?_:aD (aE x s) (J<|l x) (cK _ s)=_)
    by_cases N:x=s
    .exact W N<|W (fK ..) Y
    .exact W (d4 N)<|k<|aO (mc h) (λx=>ay x.symm N) id
  refine ej a<|tE Y pW (by refine W r3<|W (T _ n) ?_;rfl) ?_;refine w_ a m λe l L s k a=>bp j λx j=>?_;have N:=λe=>j.next (e:=e) C r f Z k
  have lk:U x.mv<=1000:=by have n:=aq U<|(j J3) J5;rw [bC] at n;exact W n<|ae (k9 ..)<|W By<|ae (qx r λL m=>aA ((B L).mp m) λH I o=>(z H I).sym v o)<|ae v.nS<|ao Y
  refine aM a _ ((j J3) V▸yA (N 0).2) ?_;exact yZ a _ nI L (Xr (N 0).2) Y lk λT s a=>c e _ s ⟨_,(N T).1⟩ (aej (y:=x.wm T _) (N 0).2 Y Y (λX=>rfl) Y▸a)
 .refineλe b s j a=>bp j λy j=>?_
  have l:=(j J3) J5;dsimp only [Ig] at l;rw [dJ] at l;have C (h:bw p):mY (·<·) (es p):=by have g:=(p? p).and<|ak (uZ<|sC p) h;exact g.imp λh=>yf h.1 h.2
  refine bc<|h e b y d s (j V) (j J1) (j J2) (e1 ((j J3) J3) ((j J3) J4) ⟨M,(j J3) J2▸q,W ((j J3) J2)<|W t Y⟩ (λs=>W l ?_) (l▸C r)<|(j J3) J6) a;rw [iu];exact B s
structure FS where
b5:aa O
sym:au
it:aa O
mv:aa (O×O)
rd:aa O
def Ex(k:O)(f:FS):=od 192<| .c 168 (ag k)<| .c 163 (iJ f.b5)<| .c 183 (ag f.sym)<| .c 102 (aN<|iV f.it)<| .c 110 (gZ<|nd nI f.mv)<| .c 277 (aN<|iV f.rd) ar
def Ez(a:aa FS):O->aa ai:=jb (λZ=>[]) (λf Z b k=>Ex k f::b (k+1)) a
def q9(G:Gr)(a):=od 244<| .c 201 G.V<| .c 181 (aN<|Ez a 0) ar
def dw(G)(T)(a:aa FS):=GR (qB G T) (∃f,a[0]?=J f/\f.b5=[0]) (U a<2^20) (U a<=262243) (∀f∈a,∃b,Cw G T f.b5 b/\f.it=rD G f.b5 b) (∀f∈a,f.rd=w1 G f.it) (∀f∈a,∀s,s∈R (·.1) f.mv↔∃c∈f.it,bH G c=J s) (∀f∈a,(R (·.1) f.mv).Pairwise (·<·)) (∀f∈a,∀s t,(s,t)∈f.mv->∃d,a[t]?=J d/\d.b5=es (fE G f.it s))<|∀f∈a,bw f.b5/\∀c∈f.b5,Va G c
def Fz(x:SC)(f:FS):=j6 (f.b5=x.b5) (f.sym=x.sym) (x.vi=aN (iV f.it)) (f.mv=x.mv)<|x.vr=aN (iV f.rd)
def ahq{b:d->e->Prop}(h:∀x∈c,∃y,b x y):∃a,gA b c a:=by
 induction c with
 |nil=>exact cL ([]) nJ|cons x r f=>exact bp (h x (b8 ..)) λy g=>bp (f λz j=>h z<|cz _ j) λa k=>⟨y::a,iz g k⟩
def gA.get{b:aa e}{c:aa f}(h:gA d b c):∀(a:O) x,b[a]?=J x->∃y,c[a]?=J y/\d x y:=by
 refine h.rec (λa x h=>aI h) λp Z g=>λa x h=>?_
 induction a with
 |zero=>refine ax (aC h) ?_;exact⟨_,Y,p⟩|succ a=>exact g a x h
def gA.get'{b:aa e}{c:aa f}(h:gA d b c):∀(a:O) y,c[a]?=J y->∃x,b[a]?=J x/\d x y:=by
 refine h.rec (λa x h=>aI h) λp Z g=>λa x h=>?_
 induction a with
 |zero=>refine ax (aC h) ?_;exact⟨_,Y,p⟩|succ a=>exact g a x h
def gA.len{a:aa c}{b:aa d}(h:gA e a b):U b=U a:=h.rec Y λZ Z f=>aq _ f
def gA.imp{a S:d->e->Prop}(h:gA a b c)(k:∀x y,a x y->S x y):gA S b c:=h.rec nJ λp Z f=>iz (k _ _ p) f
def aeO(b:Fr e f c)(h:gA Fz d g):∀k,(∀j (x:SC),d[j]?=J x->(∃a,c.at a=J (x.p,x.i<|k+j))/\∃a,c.at a=J (x.m,x.d))->gA (kX (x7 e) f 2) (s6 d) (Ez g k):=by
 induction h with
 |nil=>exactλZ Z=>nJ|@cons x f r s p _ l=>
  intro k m;refine iz ?_ (l _ λj x n=>by have o:=m (j+1) x n;simp only [cx,eU 1 j];exact o)
  obtain⟨⟨a,q⟩,l,t⟩:=m 0 x Y;exact aw<|aw<|aw ⟨x.p,Y,b.fb a q,aw<|aw ⟨_,_,_,b.c9 q,Y,⟨_,_,Y,dQ 1 _,_,_,Y,W (p V)<|dQ 1 _,_,_,Y,W (p J1)<|dQ 1 _,_,_,Y,W (p J2)<|dQ 1 _,_,_,Y,aw<|aw<|aw ⟨x.m,Y,b.fb l t,aw<|aL ⟨_,_,_,b.c9 t,Y,W (p J3)<|j7 (λZ=>⟨Y,Y⟩) _⟩⟩,_,_,Y,W (p J4)<|dQ 1 _,Y⟩⟩⟩
def BI(G)(T)(k)(a):=hK (lS G T<|R (·.b5) a) (k<=U a) (∀b,b<k->∀x,a[b]?=J x->∃c,Ed G T a x c)<|∀b,k<=b->∀x,a[b]?=J x->x.mv=[]
def Ed.keep(h:Ed G T d x e)(k:∀(a:O) c,d[a]?=J c->∃b,f[a]?=J b/\b.b5=c.b5):Ed G T f x e:=
e1 (h V) (h J1) (h J2) (h J3) (h J4) λs t q=>aA ((h J5) s t q) λz g e=>aA (k t z g) λb j l=>⟨b,j,af l e⟩
def BI.Ž(g:fm)(c:qB G T)(h:BI G T (U a) a):∃b,gA Fz a b/\dw G T b:=by
 have d:∀x∈a,∃f,Fz x f/\Ed G T a x f.it/\f.rd=w1 G f.it:=λx e=>bp (gs.mp e) λj k=>bp ((h J2) j (gl k) x k) λl q=>⟨⟨x.b5,x.sym,l,x.mv,w1 G l⟩,ec Y Y (q V) Y<|q J1,q,Y⟩;refine bp (ahq d) λb m=>?_;have n:∀f∈b,∃x∈a,Fz x f/\Ed G T a x f.it/\f.rd=w1 G f.it:=λf o=>bp (gs.mp o) λj k=>aA (m.get' j f k) λx e q=>⟨x,aP e,q⟩;have l:=(h V).len g c;have p:=(h V).Eg g c;rw [bC] at l p;refine⟨b,m.imp λZ Z r=>r.1,Kx c ?_ (W m.len l) (W m.len p) (λf o=>?_) (λf o=>?_) (λf o=>?_) (λf o=>?_) (λf o s t q=>?_) λf o=>?_⟩
 .exact aA (fA<|cg▸((h V) J1)) λx e v=>aA (m.get 0 x e) λf m q=>⟨f,m,af (q.1 V) v⟩
 .exact yT (n f o) λx Z z q Z=>W (z V)<|q J2
 .exact yT (n f o) λx Z z q v=>v
 .exact yT (n f o) λx Z z q Z=>W (z J3)<|q J3
 .exact yT (n f o) λx Z z q Z=>W (z J3)<|q J4
 .exact yT (n f o) λx Z z k Z=>aA ((k J5) s t<|(z J3)▸q) λy B v=>aA (m.get t y B) λC H r=>⟨C,H,af (r.1 V) v⟩
 .exact hv (n f o) λx m z Z=>W (z V)<|(h V) J3 _ (hY m)
def ajZ(g:fm)(j:qB G T)(a:Fr l m<|jq G T c e [])(h:∀d e b f k,gA Fz b f->dw G T f->Fr l k (.c d (cw 244<| .c 201 G.V<| .c 181 (aj c.s) ar)<|jq G T c e b)->n (aj d) k):
 aK (o+6) 358 [aj c.b] m n p:=by
 have q:=u3 g;refine a7 Mx (.c 64 _ ar) Y Y<|aM a 0 Y<|aM a 0 Y<|Lj (q J1)<|w_ (K:=[0]) a (ao Y) λe b s s t a=>?_;have v:BI G T 0 b:=by
  rcases(t V) with x|⟨_,y,x,z,B,_⟩
  .refine aA (t J1) λy C X=>?_;rw [x] at C;cases C
  .exact W x<|dS ((W z<|dS (lJ (λX h=>bG h) h9) Y (λr H=>aL<|ms H) λr H=>W (ms H)<|⟨lJ (λX h=>bG h) h9,λI L=>W (ms L)<|⟨_,_,_,_,q⟩⟩):lS G T [y.b5]) (cQ _) (λI L=>ay L<|fC I) λI X M N=>W (ms<|aP N) B
 refine n5 (λk X=>2^20-k) (λk X=> .c 64 _ (.c 3 (ag (k:O)) ar)) (λX p=>jq G T c p.1 p.2) (λk p=>BI G T k p.2) 0 (e,b) a v λk p s r Z a H=>?_;have l:U (s6 p.2)=U p.2:=bC _;have m:=(Z V).len g j;rw [bC] at m;refine aM a 0 Y<|bX a 1 Y<|hZ (λx=>?_) λx=>?_
 .rw [l] at x;have C:=bK x;refine aM a 0 Y<|aM a 0 Y<|dc a 1 Y (by unfold s6;simp only [cg,C];rfl) ?_;exact ź g j a (Z V) C ((Z J3) k (bb k) _ C) λe b M n s o t N z a=>H _ (e,b) s (xq (fe x m)<|g9 k) ((by
   refine dS t (ae x o.len) (λI L y C=>?_) λI L y C=>?_
   .rcases iN.mp L with q|q
    .rw [(o J1) I (fe q x)<|fH q] at C;exact bp ((Z J2) I q y C) λn q=>⟨n,q.keep<|o V⟩
    .rw [q,N] at C;exact ax (aC C)<|⟨n,z⟩
   .rcases h0 I (U<|gr p) with q|q
    .rw [(o J1) I q<|ih L] at C;exact(Z J3) I (uS L) y C
    .exact(o J2) I y q C)) a
 .rw [l] at x;have Z:=hL (Z J1) x▸Z;refine aA (Z.Ž g j) λf B T=>aM a 0 Y<|aM a 0 Y<|jK Y Y λc r=>?_;have a:=(a.hN (o:=cw 244 ar) r).bN;exact a7 Rg (.c 64 _ (.c 201 G.V<| .c 181 _ ar)) Y Y<|bP a Y λv a=>bP a Y λv a=>bc ⟨Y,bc<|(λd s a=>bc<|h d p.1 p.2 f s B T a) c v a⟩
def ael(g:fm)(a:Fr d f bO)(h:∀b e T c,qB G T->Fr d c (jq G T b e [])->j (aj b.b) c):aK (n+5) 188 [G.V] f j k:=by refine jK Y Y λb l=>?_;have a:=a.hN (o:=cw 188 ar) l;exact a7 RC (.c 64 _ (.c 201 G.V ar)) Y Y<|bP a Y λs a=>afq g.toGW λT c=>bP a Y λs a=>aV a λt s a=>bP a Y λs a=>m8 a λd e s a=>bP a Y λs a=>bc ⟨Y,bc<|h ⟨b,t,d⟩ e T s c a⟩
def Yp(g:fm)(h:∀T a,dw G T a->b (q9 G a) c):aK (n+7) 84 [G.V] c b d:=by refine a7 Pw (.c 201 G.V ar) Y Y<|ael g de λe f T s c j=>ej j<|ajZ g c j λb f k a s l m j=>mK j 4 ?_<|h T a m;exact aw<|aw<|aw ⟨b,Y,j.fb 0 Y,aw<|aw ⟨_,_,_,j.c9 (k:=0) Y,Y,⟨_,_,Y,dQ 3 _,_,_,Y,aw<|aw<|aw ⟨e.s,Y,j.fb 2 Y,aL ⟨_,_,j.c9 (k:=2) Y,Y,aeO j l 0 λo x p=>⟨⟨2*o+3+1,W (eJ ..)<|yA (T:=T) (b:=e) (e:=f) p⟩,2*o+1+3+1,Xr (T:=T) (b:=e) (e:=f) p⟩⟩⟩,Y⟩⟩⟩
structure DP where
n:O
rel:aa (aa O)
ms:aa O
b:O
noncomputable def DP.r(a:DP)(x):=F a.rel x []
structure HR where
h:O->O
r:O->O
def Sm(S a:HR)(z):=eY (a.h z=S.h z)<|a.r z=S.r z
def Ab(S:HR)(z x):=eY (Sb (S.r z)<|S.r x)<|S.h x<=S.h z
inductive vh(a:DP)(S:HR)(b:aa O)(z y:O):Prop
|d (h:S.h y=a.n+1) (s:Sb (S.r y)<|S.r z)|o (l:O) (h:b[l]?=J y) (s:S.h z<=l+1)
def SE(a)(S)(b)(z)(c:aa O):=∀y∈c,vh a S b z y
structure o9 where
x:O
h:O
i:O
def o9.y(a:DP)(f:o9):=(a.r f.x)[f.i]?
def RV(a)(x)(b:aa o9):=∀f r,b=f::r->f.y a=J x
inductive Sg(S:HR)(q:bf O)(x:O)(a:aa O)(z:O):Prop
|a (h:Ab S z x)|p (y:O) (m:y∈a) (h:q=J y) (b:Ab S z y)
def Ky(a)(S)(q)(f:o9)(b d c):=j6 (b=d++f.x::c) (f.h=U d+1) (∀z∈c,Sg S q f.x b z) (∀z∈c,SE a S b z<|a.r z)<|SE a S b f.x<|aF f.i<|a.r f.x
inductive DS(a:DP)(S:HR):aa o9->bf O->aa O->Prop
|nil {q:bf O}:DS a S [] q []|cons {f:o9} {b:aa o9} {q:bf O} {c:aa O} (d e:aa O) (l:Ky a S q f c d e) (k:RV a f.x b) (g:DS a S b A d):DS a S (f::b) q c
def Dk(a:DP)(S b):=∀y,S.h y=a.n+1->Sm S b y
def Ab.to(a:Ab b z x)(p:Sm b c z)(q:Sm b c x):Ab c z x:=cj (by simp only [p J1,q J1];exact a V)<|by simp only [p V,q V];exact a J1
def vh.to(a:Sm b c z)(e:Dk f b c)(g:vh f b h z y):vh f c h z y:=g.rec (λh s=> .d (af ((e y h) V) h)<|by simp only [(e y h) J1,a J1];exact s) λl h s=> .o l h<|W (a V) s
def DS.to(c:Dk d e f)(h:DS d e g q a):∀{b},(∀z∈a,Sm e f z)->(∀y∈a,q=J y->b=J y)->DS d f g b a:=by
 induction h with
 |nil=>exactλZ Z=> .nil|@cons f g q a j k l m d n=>intro b o p;have r:=(l V)▸fx _ (b8 ..);have ms:∀z∈k,z∈a:=λz s=>(l V)▸fx _ (cz _ s);exact .cons j k (ec (l V) (l J1) (λz s=>((l J2) z s).casesOn (λa=> .a<|a.to (o z<|ms z s)<|o _ r) λy t e b=> .p y t (p y t e)<|b.to (o z<|ms z s)<|o y t) (λz s y v=>((l J3) z s y v).to (o z<|ms z s) c) λy v=>((l J4) y v).to (o _ r) c) m<|n (λz s=>o z<|(l V)▸gE _ s) λZ Z h=>aI h
def Pos(a:DP)(S:HR)(z b):=fF (z<a.n) (0<S.h z)<|S.h z<=b
def DI(a)(k)(S)(b)(c):=Hh (∀z<a.n,S.h z=0\/S.h z=a.n+1\/z∈b) (∀l z,b[l]?=J z->Pos a S z (l+1)) (bw b) (∀z<a.n,Sb (F a.ms z 0)<|S.r z) (∀z<a.n,S.h z=a.n+1->∀y∈a.r z,vh a S [] z y) (∀z<k,0<S.h z) (∀x<a.n,∀y∈a.r x,y<a.n)<|DS a S c (ez (lH c)<|o9.y a) b
def DI.lt(h:DI a k c b d)(z)(m:z∈b):z<a.n:=(h J1) _ z (Ff<|gs.mp m) V
def DI.len(h:DI a k c b d):U b<=a.n:=qx (h J2) h.lt
def DI.Ml(h:DI c k a b d)(m:z∈b):0<a.h z:=(h J1) _ z (Ff<|gs.mp m) J1
def DI.hle(h:DI a k b c d)(m:z∈c):b.h z<=a.n:=bp (gs.mp m) λl e=>ae ((h J1) l z e J2)<|ae (gl e) h.len
def DI.Ug(h:DI a k b c d)(m:z∈c):b.h z≠a.n+1:=fH<|ig<|h.hle m
noncomputable def upd(H:O->O)(y v z):=if y=z then v else H z
def FE:upd H y v y=v:=aJ Y
def DI.push(h:DI c k b a d)(e:RV c y d)(f:y<c.n)(g:b.h y=0):DI c k ⟨upd b.h y<|U a+1,b.r⟩ (a++[y]) (⟨y,U a+1,0⟩::d):=by
 have j:∀z,z≠y->Sm b ⟨upd b.h y<|U a+1,b.r⟩ z:=λz l=>cj (aS<|l2 l) Y;have n:∀z∈a,z≠y:=λz m l=>ih (h.Ml m)<|l▸g;have nd:Dk c b ⟨upd b.h y _,b.r⟩:=λz m=>j z λl=>by rw [l,g] at m;cases m
 have o:bw (y::a):=lJ (λp q=>(n p q).symm)<|h J2;refine ui (λz r=>?_) (λs z t=>?_) ?_ (h J3) (λz r v x B=>?_) (λz r=>?_) (h J6)<| .cons a [] (ec Y Y (λz h=>bG h) (λz h=>bG h) λz h=>bG h) e<|(h J7).to nd (λz m=>j z<|n z m) λz m l=>?_
 .by_cases l:z=y
  .exact aw<|aw<|fx _ (ak qp l)
  .exact W ((j z l) V)<|((h V) z r).imp_right<|Y5<|gE _
 .have C:a[s]?=J z\/z=y/\s=U a:=by
   rcases h0 s (U a) with H|H
   .rw [hb H] at t;exact aL t
   .rw [hV H] at t;exact aw ⟨ms<|aP t,hL (zw<|BX.mp<|gl t) H⟩
  rcases C with l|⟨l,H⟩
  .have I:=(h J1) s z l;have s:=(j z<|n z<|aP l) V;exact bY (I V) (s▸(I J1))<|s▸(I J2)
  .simp only [l,H];exact bY f (Zo (kv _) FE.symm)<|c6 FE
 .exact ak nE ⟨h J2,lJ (λZ h=>bG h) h9,λp q b L=>(ms L)▸n p q⟩
 .have M:z≠y:=λl=>kq _ (cc (ig<|qx o λp q=>aO (mc q) (λl=>l▸f)<|h.lt p)<|c6<|af (l▸v).symm FE);exact((h J4) z r (af ((j z M) V).symm v) x B).to (j z M) nd
 .by_cases l:z=y
  .exact W l<|Zo (kv _) FE.symm
  .exact W ((j z l) V)<|(h J5) z r
 .induction d with
  |nil=>cases l|cons g r=>exact ay (aC<|af (e g r Y).symm l).symm<|n z m
def Mg(S a)(x y):=j6 (0<a.h x) (a.h x<=S.h x) (a.h x<=S.h y) (∀z,z≠x->Sm S a z)<|a.r x=S.r x|||S.r y
def Mg.le(g:Mg a b x y)(z):b.h z<=a.h z:=by
 by_cases e:z=x
 .exact W e<|g J1
 .exact c6<|(g J3) z e V
def Mg.ge(g:Mg a b x y)(z):Sb (a.r z) (b.r z):=by
 by_cases e:z=x
 .exact W e<|W (g J4)<|Sb.Bm λZ q=>q
 .exact W ((g J3) z e J1) λZ q=>q
def Mg.ed(g:Mg b c x y)(nd:Dk d b c)(e:vh d b f z a):vh d c f z a:=e.rec (λh b=> .d (af ((nd a h) V) h)<|W ((nd a h) J1)<|b.sG<|g.ge z) λl h b=> .o l h<|ae (g.le z) b
def VZ(c a b:aa O)(x):=j6 (bw a) (∀z∈b,z≠x) (∀z∈a,z∉x::b) (∀z∈x::b,z∈c)<|c[U a]?=J x
def NO(e:a=c++x::b)(d:bw a):VZ a c b x:=by have n:=d;rw [e] at n;have n:=nE.mp n;have f (g:∀z∈b,z≠x) (h:∀z∈c,z∉x::b) (j:∀z∈x::b,z∈a) (k:a[U c]?=J x):VZ a c b x:=ec n.1 g h j k;exact f (λz l e=>(rY.mp n.2.1).1 z l e.symm) (λz l q=>n.2.2 z l z q Y) (λz l=>e▸fx _ l) (by refine W e<|W (hV<|bb _)<|W (pR ..) ?_;rfl)
def DI.Jw(h:DI c k d e<|⟨x,m,b⟩::f)(a:(c.r x)[b]?=J y)(j:0<d.h y)(g:Mg d l x y):DI c k l e (⟨x,m,b+1⟩::f):=by
 cases(h J7) with|cons n o l p d=>
 have q:=NO (l V)<|h J2;have r:=(q J3) x (b8 ..);have nd:=λz e=>(g J3) z λs=>h.Ug r<|s▸e;refine ui (λz t=>?_) (λl z v=>?_) (h J2) (λz t=>((h J3) z t).sG<|g.ge z) (λz v B C hw=>?_) (λz t=>?_) (h J6)<| .cons n o (ec (l V) (l J1) (λz m=>?_) (λz m y a=>g.ed nd<|(l J3) z m y a) λC hw=>?_) p<|d.to nd (λz m=>(g J3) z λe=>(q J2) z m (e▸b8 ..)) λZ Z s=>s
 .by_cases e:z=x
  .exact aw<|aw<|e▸r
  .exact W ((g J3) z e V)<|(h V) z t
 .have p:=(h J1) l z v;refine bY (p V) ?_<|ae (g.le z)<|p J2
  by_cases e:z=x
  .exact W e<|g V
  .exact W ((g J3) z e V)<|p J1
 .have H:z≠x:=λe=>kq _ (cc (ig<|ae (g J1)<|h.hle r)<|c6 (e▸B).symm);exact((h J4) z v (af ((g J3) z H V).symm B) C hw).to ((g J3) z H) nd
 .by_cases e:z=x
  .exact W e<|g V
  .exact W ((g J3) z e V)<|(h J5) z t
 .have I:=(g J3) z<|(q J1) z m;refine .a ?_;rcases(l J2) z m with L|⟨C,_,e,L⟩
  .exact cj ((I J1)▸(L V).sG (g.ge x))<|(I V)▸ae (g J1) (L J1)
  .obtain rfl:=aC<|af a.symm e;exact cj (by simp only [g J4,I J1];exact(L V).wM)<|(I V)▸ae (g J2) (L J1)
 .rw [nX,show _[b]?=J y from a] at hw;rcases ma hw with hw|hw
  .exact g.ed nd<|(l J4) C hw
  .refine W (ms hw) ?_;rcases(h V) y ((h J6) x (h.lt x r) y<|aP a) with s|s|s
   .exact ay s<|ih j
   .exact .d (af ((nd y s) V) s) (by simp only [(nd y s) J1,g J4];exact Sb.wM λZ s=>s)
   .exact bp (gs.mp s) λl v=> .o l v<|ae (g J2)<|(h J1) l y v J2
def Ky.end(l:Ky a c (f.y a) f e h g)(d:U (a.r f.x)<=f.i)(z)(b:z∈f.x::g):Ab c z f.x/\SE a c e z (a.r z):=by
 rcases mc b with e|b
 .have j:=l J4;dsimp only [u5] at j;rw [A8 d] at j;exact W e<|⟨cj (λZ q=>q)<|bb _,j⟩
 .refine br ?_<|(l J3) z b;rcases(l J2) z b with s|⟨k,_,e,_⟩
  .exact s
  .exact aI<|(af (iB d).symm) e
def DI.fin(h:DI a k b c<|f::d)(e:U (a.r f.x)<=f.i)(g:b.h f.x≠f.h):DI a k b c d:=by
 refine ui (h V) (h J1) (h J2) (h J3) (h J4) (h J5) (h J6) ?_;cases(h J7) with|cons j l l m d=>
 have n:=l.end e;have o:=(NO (l V)<|h J2) J4;cases d with
 |nil=>have p:=(h J1) _ f.x o;exact ay (af (hL (p J2)<|p J1) (l J1).symm) g|@cons g r _ _ q s t v x=>
  have y:∀{l} {z},j[l]?=J z->c[l]?=J z:=λe=>W (l V)<|W (hb<|gl e) e;have B:∀{C z},vh a b j C z->vh a b c C z:=λe=>match e with
   | .d a b=> .d a b| .o l a b=> .o l (y a) b
  refine .cons q _ (ec (by refine W (l V)<|W (t V)<|W (dy ..) ?_;rfl) (t J1) (λC H=>?_) (λC H z I=>?_) λz I=>B<|(t J4) z I) v x
  .rcases ma H with H|H
   .exact((t J2) C H).casesOn .a λZ Z q=>aI q
   .exact .p f.x (aP o) (m g r Y) (n C H).1
  .rcases ma H with H|H
   .exact B<|(t J3) C H z I
   .exact(n C H).2 z I
def YM(b:DP)(S a:HR)(x z):=eY (a.h z=b.n+1)<|a.r z=S.r x
def aan(b)(k)(S)(d)(e)(x)(c a):=eY (d=c++x::a)<|∀f,(∀z∈x::a,YM b S f x z)->(∀z,z∉x::a->Sm S f z)->DI b k f c e
def DI.root(h:DI c k d e<|f::g)(j:U (c.r f.x)<=f.i)(l:d.h f.x=f.h):∃b a,aan c k d e g f.x b a:=by
 cases(h J7) with|cons b a m n d=>
 refine⟨b,a,cj (m V) λo p q=>?_⟩;have r:=m.end j;have s:=NO (m V)<|h J2;have nd:=λz e=>q z λt=>h.Ug ((s J3) z t) e;refine ui (λz v=>?_) (λj z x=>?_) (s V) (λz v=>?_) (λz v y B C=>?_) (λz v=>?_) (h J6)<|d.to nd (λz H=>q z<|(s J2) z H) λZ Z t=>aI t
 .by_cases e:z∈f.x::a
  .exact aw<|aL<|(p z e) V
  .refine W ((q z e) V)<|((h V) z v).imp_right<|Y5 λt=>?_;rw [m V] at t;exact aO (ma t) id λt=>ay t e
 .have I:=(h J1) j z (by rw [m V,hb<|gl x];exact x);have L:=(q z<|(s J2) z<|aP x) V;exact bY (I V) (L▸(I J1))<|L▸(I J2)
 .by_cases e:z∈f.x::a
  .exact W ((p z e) J1)<|((h J3) z v).sG<|(r z e).1 V
  .exact W ((q z e) J1)<|(h J3) z v
 .by_cases e:z∈f.x::a
  .rcases(r z e).2 B C with ⟨M,b⟩|⟨j,M,b⟩
   .exact .d (af ((nd B M) V) M) (by simp only [(p z e) J1,(nd B M) J1];exact b.sG<|(r z e).1 V)
   .rw [m V,hV<|Im<|ae (c6<|af (m J1).symm l.symm)<|ae ((r z e).1 J1) b] at M;have t:=p B<|aP M;exact .d (t V) (by simp only [(p z e) J1,t J1];exactλZ t=>t)
  .exact((h J4) z v (af ((q z e) V).symm y) B C).to (q z e) nd
 .by_cases e:z∈f.x::a
  .exact W ((p z e) V)<|kv _
  .exact W ((q z e) V)<|(h J5) z v
def xG(a)(v)(b:aa<|aa O):=∃c,eQ a v=J c/\∀(k:O) r,b[k]?=J r->∃d,c[k]?=J d/\eQ a d=J (iV r)
def XY{b:DP}(h:xG e v b.rel)(d:Fr e c j)(l:x<U b.rel)(f:∀a,eQ c a=J (iV<|b.r x)->g a c):ko v (ag x) c g:=aA h λk e k=>aA (k x _ (e8 l)) λa m g=>bJ (ik d e) m<|f a<|ik d g
def o3(a:DP)(H:O->O)(L:aa O):Nat:=jb 0 (λz Z b=>aD (aE (H z) 0) (U (a.r z)+2) 0+b) L
def Cj(a:DP)(b:aa o9):Nat:=jb 0 (λf Z c=>U (a.r f.x)-f.i+1+c) b
def u1(a:DP)(H:O->O)(z):=aD (aE (H z) 0) (U (a.r z)+2) 0
def Y1(h:H z≠0->a z≠0):u1 b a z<=u1 b H z:=by
 unfold u1;cases q:aE (a z) 0 with
 |false=>exact cQ _|true=>have c:=d9 q;exact W (ai0 λe=>h e c:H z=0)<|bb _
def Sh(h:∀z,H z≠0->a z≠0)(L):o3 b a L<=o3 b H L:=L.rec (bb 0) λx r c=>dZ (Y1<|h x) c
def af6(h:∀z,H z≠0->b z≠0)(c:H y=0)(d:b y≠0)(L)(m:y∈L):o3 a b L+(U (a.r y)+2)<=o3 a H L:=by
 induction L with
 |nil=>cases m|cons x r e=>
  refine(?_:u1 a b x+o3 a b r+_<=u1 a H x+o3 a H r)
  by_cases f:y=x
  .have g:u1 a b x=0:=by unfold u1;exact ax f<|W (d4 d) Y
   have j:u1 a H x=U (a.r y)+2:=by unfold u1;exact ax f<|W c Y
   exact W g<|W j<|W (eJ ..)<|W (eU ..)<|d6 (Sh h r) _
  .exact W (cx ..)<|dZ (Y1<|h x)<|e<|aO (mc m) (λz=>ay z f) id
def p1(a:aa<|O×o9):Cs:=jb bO (λf Z b=>b.cA f.1<|az<|iV [f.2.x,f.2.h,f.2.i]) a
noncomputable def xo(a:aa<|O×o9):aa ai:=jb [] (λf Z b=>b++[aj f.1]) a
structure DA where
r:O
h:O
p:O
structure DV where
R:aa O
H:aa O
P:aa O
noncomputable def DV.s(d:DV):HR:=⟨λz=>F d.H z 0,λz=>F d.R z 0⟩
def sY(a:DA)(d:DV)(r:Cs):Cs:= .c a.r (az<|iV d.R)<| .c a.h (az<|iV d.H)<| .c a.p (az<|iV d.P) r
noncomputable def Q2(b:DP)(v:ai)(a:DA)(r:aW):aW:= .c 88 (ag b.n)<| .c 240 v<| .c 173 (aj a.r)<| .c 204 (aj a.h)<| .c 28 (ag (b.n+1:O))<| .c 57 (aj a.p) r
def DW(a)(k)(d:DV)(b):=hK (U d.R=a.n) (U d.H=a.n) (∀f∈d.R,f<2^a.b)<|DI a k d.s d.P b
def Ke(a:DP)(b):=hK (U b=a.n) (∀f∈b,f<2^a.b) (∀z<a.n,Sb (F a.ms z 0)<|F b z 0)<|∀z<a.n,∀y∈a.r z,Sb (F b y 0)<|F b z 0
def DI.all{S}(h:DI a k S [] [])(z)(b:z<a.n):S.h z=0\/S.h z=a.n+1:=((h V) z b).imp_right λq=>aO q id λq=>bG q
def DW.nil(h:DW a k d []):d.P=[]:=by have b:=(h J3) J7;dsimp only [Pu] at b;generalize d.P=c at b;cases b;rfl
def DI.up{S}(h:DI a k S b c)(p:0<S.h k):DI a (k+1) S b c:=
ui (h V) (h J1) (h J2) (h J3) (h J4) (λz d=>aO (iN.mp d) ((h J5) z) λe=>e▸p) (h J6)<|h J7
def DW.push(h:DW a k d b)(f:RV a y b)(c:y<a.n)(g:F d.H y 0=0)(e:m=U (iV<|d.P++[y])):DW a k ⟨d.R,c2 d.H y m,d.P++[y]⟩ (⟨y,m,0⟩::b):=by rw [du,a3] at e;refine W e<|dS (h V) (W ni<|h J1) (h J2) ?_;have j:=(h J3).push f c g;unfold DV.s;exact W (funext λz=>gL<|by rw [h J1];exact c) j
def DW.up(h:DW a k d b)(p:0<F d.H k 0):DW a (k+1) d b:=dS (h V) (h J1) (h J2)<|(h J3).up p
def DW.mQ(b:U a.ms=a.n)(c:∀f∈a.ms,f<2^a.b)(d:∀x<a.n,∀y∈a.r x,y<a.n):DW a 0 ⟨a.ms,dM a.n 0,[]⟩ []:=by
 have z:∀x,F (dM a.n 0) x 0=0:=λx=>by simp only [cZ,tW];split<;>rfl
 exact dS b ir c<|ui (λx Z=>aL<|z x) (λZ Z h=>aI h) h9 (λZ Z Z q=>q) (λx Z e=>wC<|(af (z x).symm) e) (λx h=>ay h<|fC x) d .nil
def φ(h:DW a k d f)(b:y<a.n)(c:F d.H y 0=0)(e:m=U (iV<|d.P++[y])):o3 a (λz=>F (c2 d.H y m) z 0) (e4 a.n)+(U (a.r y)+2)<=o3 a (λz=>F d.H z 0) (e4 a.n):=by
 have g:m≠0:=W e<|W du<|W a3<|IT _;have j:y<U d.H:=W (h J1) b;refine af6 (y:=y) (λz l=>?_) c ?_ _ (ak tV b)
 .refine W (gL j) ?_;split
  .exact g
  .exact l
 .exact W (gL j)<|W (aJ Y) g
def DS.aev{S}(h:DS c S a q b):U a<=U b:=by refine h.rec (bb 0) λd e l k d f=>?_;simp only [l V,a3,hS,hS];exact ae (b3 f)<|d6 (b3<|cQ _) _
def X!(a):U (xo a)=U a:=by refine a.rec Y λf r b=>by refine(?_:U (xo r++[_])=_);simp only [a3,b];rfl
def DW.Ol(h:DW a k d c)(b:a.n<cu):U d.P<cu:=cF (h J3).len b
def zQ(h:Fr f g a)(k){b m:O}(j:a.at k=J (b,az<|iV c))(l:U c<cu)
 (d:∀e,Fr f e (a.g8 k<|az<|iV<|c++[m])->n bk e):lI il (aj b) (ag m) g n:=by
 rw [<-n9] at d;exact dF h k j (W du l) d
def YL(h:Fr g j a)(k){b z:O}(e:a.at k=J (b,az<|iV<|c++[z]))(d:∀f,Fr g f (a.g8 k<|az<|iV c)->l (ag z) f):AP (aj b) j l:=by rw [<-n9] at e;rw [<-w2 (l₁:=iV c)] at d;exact H4 h k e oV d
def DW.Jw(h:DW c k d<|⟨x,m,f⟩::g)(j:(c.r x)[f]?=J y)(a:F d.H y 0≠0)(l:U b=c.n)(e:F b x 0=min (F d.H x 0) (F d.H y 0))(n:∀z,z≠x->F b z 0=F d.H z 0):
 DW c k ⟨c2 d.R x<|F d.R x 0|||F d.R y 0,b,d.P⟩ (⟨x,m,f+1⟩::g):=by
 have a:=qq a;have o:x∈d.P:=by cases(h J3) J7 with|cons p q r _ _=>exact(r V)▸fx _ (b8 ..)
 have s:x<U d.R:=W (h V)<|(h J3).lt x o;have t:=(h J3).Ml o;have v {S:HR} {B:HR} (p:0<B.h x) (r:B.h x<=S.h x) (C:B.h x<=S.h y) (H:∀z,z≠x->Sm S B z) (I:B.r x=S.r x|||S.r y):Mg S B x y:=ec p r C H I;refine dS (W ni<|h V) l (λf L=>aO (ED L) ((h J2) f) λM=>M▸oL (jv (h J2) _) (jv (h J2) _))<|(h J3).Jw j a<|v ?_ ?_ ?_ (λz N=>cj (n z N) ?_) ?_
 .show 0<F b x 0;exact W e<|ak Wc ⟨t,a⟩
 .exact ae (c6 e)<|m4 _ _
 .exact ae (c6 e)<|oZ _ _
 .exact((W (gL s)<|W (aS N.symm) Y):F (c2 d.R x _) z 0=_)
 .exact((W (gL s)<|W (aJ Y) Y):F (c2 d.R x _) x 0=_)
def Rt(a)(d:DV)(x)(e s)(b H)(c:au):=j6 (∃t,e=s++t/\(∀z∈t,YM a d.s (DV.s ⟨b,H,[]⟩) x z)/\∀z,z∉t->Sm d.s (DV.s ⟨b,H,[]⟩) z) (U b=a.n) (U H=a.n) (∀f∈b,f<2^a.b)<|c=x/\s=[]\/c≠x/\s≠[]
def Rt.pop(h:Rt c d x (x::a) (s++[z]) b H f)(nd:bw<|x::a)(e:z<c.n):Rt c d x (x::a) s (c2 b z<|F b x 0) (c2 H z<|c.n+1) z:=by
 refine hv (h V) λt g j k=>?_;have l:z<U b:=W (h J1) e;have m:z<U H:=W (h J2) e;have n:F b x 0=F d.R x 0:=by
  by_cases q:x∈t
  .exact(j x q) J1
  .exact(k x q) J1
 refine ec ⟨z::t,by simp only [g,dy];rfl,λo p=>?_,λo p=>?_⟩ (W ni<|h J1) (W ni<|h J2) (λf r=>aO (ED r) ((h J3) f) λg=>g▸jv (h J3) x) ?_
 .by_cases q:z=o
  .exact cj (af (gL m)<|aJ q)<|af (gL l)<|af (aJ q) n
  .have v:=j o<|aO (mc p) (λg=>ay g.symm q) id;exact cj (af (gL m)<|af (aS q)<|v V)<|af (gL l)<|af (aS q)<|v J1
 .have q:z≠o:=λg=>p (g▸b8 ..);have v:=k o λy=>p<|cz _ y;exact cj (af (gL m)<|af (aS q)<|v V)<|af (gL l)<|af (aS q)<|v J1
 .induction s with
  |nil=>have g:=(hp (af g Y:x::a=z::t)).1;exact aL ⟨W g Y,Y⟩|cons B s=>refine aw ⟨λq=>?_,λq=>jI q⟩;exact(rY.mp nd).1 z (W (hp (af g Y:x::a=B::_)).2<|gE _ (fx _ hf)) (eG q).symm
def ai3(h:a+(l+2)<=b):a+(l-0+1+s)<b+s:=cc (ax (cx ..)<|ax (cx ..)<|Dm (g9 _) s)<|fY h s
def E_{v d}(Ã:xG b v a.rel)(l:eQ b d=J (iV a.ms))(c:a.n<cu)(Ä:U a.rel=a.n)(m:U a.ms=a.n)(n:∀f∈a.ms,f<2^a.b)(Å:∀x<a.n,∀y∈a.r x,y<a.n)
 (h:∀k,Ke a k->o (aN<|iV k) b):aK (q+1) 199 [ag a.n,v,d] b o s:=by
 refine a7 Qp (.c 88 (ag a.n)<| .c 240 v<| .c 109 d ar) Y Y<|Qg de l λr s t=>aV t λz s t=>hF t.bN ⟨⟨Y,cp _,bU c⟩,aV t.bN λB s t=>aV t.tl λp s t=>⟨⟨nQ (ao Y)<|cp a.n,yG (ak hl c)<|ao Y⟩,?_⟩⟩;have t:Fr b s (sY ⟨r,B,p⟩ ⟨a.ms,dM a.n 0,[]⟩ bO):=by unfold sY;exact a4 LJ▸t
 refine cv mU (λX (_:DV) _=>Q2 a v ⟨r,B,p⟩ ar) (λX d X=>sY ⟨r,B,p⟩ d bO) (λk d X=>DW a k d []/\d.P=[]) ⟨a.ms,dM a.n 0,[]⟩ () t ⟨.mQ m n Å,Y⟩ (λX X X X X=>rfl) ?_ ?_
 .intro k x d _ s C H I t Ç;have H:=ly H;refine W H.1 ?_;have M:=H.2;have N:=a4 (I.1 J1)▸M;refine qz t 1 Y N<|yW (a:=F d.H k 0) (b:=0) (λq=>?_) λq=>?_
  .exact Ç d () s ⟨I.1.up<|qq q,I.2⟩ t
  .refine cH t 2 Y<|zQ (m:=k) t 2 Y (I.1.Ol c) λs t=>bX t 2 Y<|ux (n:=U<|iV<|d.P++[k]) t 1 Y N λs t=>bX t 2 Y<|aV t λZ s t=>aV t λf s t=>?_;have l:=I.1.push (m:=U<|iV<|d.P++[k]) (λX X o=>AO o) M q Y;have t:Fr b s (sY ⟨r,B,p⟩ ⟨d.R,c2 d.H k<|U<|iV<|d.P++[k],d.P++[k]⟩<| .c f (az<|xo [(Z,⟨k,U<|iV<|d.P++[k],0⟩)])<|p1 [(Z,⟨k,U<|iV<|d.P++[k],0⟩)]):=Fr.EW (a:= .c (Zq.DA.r {r:=r,h:=B,p:=p}) (az<|iV<|Zq.DV.R d)<| .c (Zq.DA.h {r:=r,h:=B,p:=p}) (az<|iV<|c2 (Zq.DV.H d) k<|U<|iV<|Zq.DV.P d++[k])<| .c (Zq.DA.p {r:=r,h:=B,p:=p}) (az<|iV<|Zq.DV.P d++[k]) bO) t;refine n5 (λd (z:aa<|O×o9)=>o3 a (λn=>F d.H n 0) (e4 a.n)+Cj a (R gr z)) (λX X=>Q2 a v ⟨r,B,p⟩<| .c 129 (ag k)<| .c 162 (aj f) ar) (λd z=>sY ⟨r,B,p⟩ d<| .c f (az<|xo z)<|p1 z) (λd (z:aa<|O×o9)=>DW a (k+1) d<|R gr z) _ _ t (l.up ?_) ?_
   .exact(l J3).Ml<|fx _ hf
   .refineλd z s C I t H=>bX t 3 Y<|MW (λq=>?_) λq=>?_
    .cases z with
     |nil=>exact ay Y q|cons À z=>
     obtain⟨Z,x,m,M⟩:=À;have k:(sY ⟨r,B,p⟩ d<| .c f (az<|xo<|(Z,⟨x,m,M⟩)::z)<|p1<|(Z,⟨x,m,M⟩)::z).at ((p1 z).o5+4)=J (Z,az<|iV [x,m,M]):=wa;have C:=(I J3).lt x (by cases(I J3) J7 with|cons Æ Á Â _ _=>exact(Â V)▸fx _ (b8 ..));have e:=a4 (I J1)▸C;have È:=a4 (I V)▸C;refine jT t 3 Y oV ?_;refine dc t ((p1 z).o5+4) k (c:=0) (x:=ag x) Y<|dc t ((p1 z).o5+4) k (c:=2) (x:=ag M) Y<|XY Ã t (a4 Ä▸C) λj N=>s8 N<|hZ (a:=M) (b:=U<|iV<|a.r x) (λq=>?_) λq=>?_
     .rw [du] at q;have L:=bK q;have g:=Å x C _ (aP L);generalize (a.r x)[M]=y at L g;have É:=a4 (I J1)▸g;have Ê:=a4 (I V)▸g;refine XY Ã t (a4 Ä▸C) λj N=>dc t ((p1 z).o5+4) k (c:=2) (x:=ag M) Y<|bJ N (fV L)<|qz t 1 Y É<|hj (a:=F d.H y 0) (b:=0) (λl=>?_) λË=>?_
      .refine cH t 2 Y<|zQ (m:=y) t 2 Y (I.Ol c) λs t=>bX t 2 Y<|ux (n:=U<|iV<|d.P++[y]) t 1 Y É λs t=>cH t 3 Y<|bX t 2 Y<|aV t λÌ s t=>?_;refine dF t 3 Y ((by refine W (X! ..) ?_;have Í:=((I J3) J7).aev;rw [bC] at Í;exact cF Í<|I.Ol c)) λs t=>H ⟨d.R,c2 d.H y<|U<|iV<|d.P++[y],d.P++[y]⟩ ((Ì,⟨y,U<|iV<|d.P++[y],0⟩)::(Z,⟨x,m,M⟩)::z) s ?_ (I.push (λX X o=>by cases o;exact L) g l Y) t
       exact ai3<|φ I g l Y
      .have mu:∀c,(∀n,F d.H n 0≠0->F c n 0≠0)->o3 a (λn=>F c n 0) (e4 a.n)+(U (a.r x)-(M+1)+1+Cj a (R gr z))<o3 a (λn=>F d.H n 0) (e4 a.n)+(U (a.r x)-M+1+Cj a (R gr z)):=λc o=>TQ (Sh o _) (Dm (xn<|xq q<|g9 M) _)
       refine dc t ((p1 z).o5+4) k (c:=2) (x:=ag M) Y<|ux (n:=M+1) t ((p1 z).o5+4) k (bl Y) λs t=>?_;have t:=Eq.mp (aq (λg=>Fr b s<|sY ⟨r,B,p⟩ d<| .c f _ g) VV) t;refine qz t 1 Y É<|qz t 1 Y e<|hZ (λn=>?_) λn=>?_
       .refine qz t 1 Y É<|ux t 1 Y e λs t=>qz t 0 Y È<|qz t 0 Y Ê ⟨⟨cp _,cp _⟩,ux t 0 Y È λs t=>H _ ((Z,⟨x,m,M+1⟩)::z) s (mu _ λj N=>?_) (I.Jw L Ë (af ni<|I J1) ?_ λj N=>W (gL e)<|aS N.symm) t⟩
        .refine W (gL e) ?_;split
         .exact Ë
         .exact N
        .exact W (gL e)<|W (aJ Y)<|W (Iz<|bU n) Y
       .exact qz t 0 Y È<|qz t 0 Y Ê ⟨⟨cp _,cp _⟩,ux t 0 Y È λs t=>H ⟨c2 d.R x _,d.H,d.P⟩ ((Z,⟨x,m,M+1⟩)::z) s (mu _ λX h=>h) (I.Jw L Ë (I J1) (gq n).symm λX X=>rfl) t⟩
     .rw [du] at q;have mu:∀c:aa O,(∀n,F d.H n 0≠0->F c n 0≠0)->o3 a _ (e4 a.n)+Cj a (R gr z)<o3 a _ _+(U (a.r x)-M+1+Cj a _):=λc o=>TQ (Sh o _) (Nat.lt_add_of_pos_left<|kv _)
      refine H4 t 3 Y oV λs t=>?_;have t:Fr b s ((sY ⟨r,B,p⟩ d<| .c f _ (p1 z)).cA Z<|az<|iV [x,m,M]):=w2 (l₁:=xo z)▸t;refine qz t 1 Y e<|dc t ((p1 z).o5+4) k Y<|hj (λn=>?_) λn=>?_
      .have t:=t.bN.tl;refine DG ((I J3).root q n) λÆ Á Z=>?_;have nd:=(nE.mp<|(Z V)▸(I J3) J2).2.1;have t:Fr b s (sY ⟨r,B,p⟩ ⟨d.R,d.H,Æ++(x::Á)⟩<| .c f (az<|xo z)<|p1 z):=(Z V)▸t;refine n5 (λs X=>U s) (λX T=>Q2 a v ⟨r,B,p⟩<| .c 129 _ (.c 162 _ (.c 0 _ (.c 39 (ag T.2) ar)))) (λs T=>sY ⟨r,B,p⟩ ⟨T.1.1,T.1.2,Æ++s⟩ _) (λs T=>Rt a d x _ s T.1.1 T.1.2 T.2) _ ((d.R,d.H),-1) t
        (ec ⟨[],a4<|dB _,λX h=>bG h,λX X=>cj Y Y⟩ (I V) (I J1) (I J2)<|aw ⟨λo=>Int.noConfusion<|o,λo=>jI o⟩) ?_
       rintro M ⟨⟨k,c⟩,T⟩ s e g t Ç
       refine KH (λn=>?_) λn=>?_
       .obtain⟨M,j,rfl⟩:∃x j,M=x++[j]:=⟨_,_,a4<|rt<|aO (g J4) (λo=>ay o.1 n) (·.2)⟩;have f:=(I J3).lt j (by refine aA (g V) λx o X=>?_;simp only [Z V,o];exact fx _ (gE _ (fx _ hf)))
        have t:=dy .. ▸t;exact YL t 2 Y λs t=>ux t 1 Y (a4 (g J2)▸f) λs t=>qz t 0 Y (a4 (g J1)▸C)<|ux t 0 Y (a4 (g J1)▸f) λs t=>Ç M ((_,_),_) s (a4 a3▸g9 _) (g.pop nd f) t
       .have b:=aO (g J4) (·.2) λo=>ay n o.1;refine hv (g V) λx o v B=>?_;rw [b] at o;rw [b,dB] at t;refine H ⟨k,c,Æ⟩ z s (mu _ λj N l=>?_) (dS (g J1) (g J2) (g J3)<|(Z J1) _ (o▸v) (o▸B)) t
        by_cases m:j∈x
        .exact wu<|af ((v j m) V).symm l
        .exact N<|af ((B j m) V).symm l
      .exact H d z s (mu _ λX h=>h) (dS (I V) (I J1) (I J2)<|(I J3).fin q n) t.bN.tl
    .have o:z=[]:=by
      cases z with
      |nil=>rfl|cons À z=>have Í:=aq U q;rw [X!] at Í;cases Í
     rw [o] at I t;exact Ç d () s ⟨I,I.nil⟩<|Z8 _ t
 .intro d _ s I t;rw [e9] at I;have T (h:DW a a.n d []) (o:d.P=[]):Ke a d.R:=by
   have e:=h J3;dsimp only [HM] at e;rw [o] at e;refine dS (h V) (h J2) (e J3) λn C y L=>?_;rcases e.all n C with q|q
   .exact ay q<|ih<|(e J5) n C
   .exact((e J4) n C q y L).casesOn (λX s=>s) λÂ h X=>aI h
  exact jg t 0 Y<|h _ (T I.1 I.2)
def iQ(a:aa FS)(p b:O):=∃f,a[p]?=J f/\b∈f.it
def go(a:aa FS)(p s:O):=ez (a[p]?) λf=>cK f.mv s
def yR(h:a[p]?=J f):go a p s=cK f.mv s:=by show ez (a[p]?) _=_;exact W h Y
def wx(h:go a p s=J q):∃f,a[p]?=J f/\cK f.mv s=J q:=ib.mp h
def qc{v:b}(h:cK a s=J v):(s,v)∈a:=let⟨_,e⟩:=Em h;aP e
def Ax{a:aa<|O×b}(h:s∈R (·.1) a):∃v,cK a s=J v:=by
 cases q:cK a s with
 |none=>exact ay h<|lG.mp q|some v=>exact cL v rfl
def dw.Gb(b:dw G T c)(m:f∈c):∀a∈f.b5,a∈f.it:=λa d=>aA ((b J4) f m) λe Z e=>W e<|ak tR<|aL d
def dw.va(a:dw G T b)(m:f∈b):∀c∈f.it,Va G c:=aA ((a J4) f m) λd Z e=>W e<|Dv ((a J9) f m).2
def dw.Dw(c:dw G T b)(h:go b p s=J q):∃f a,b[p]?=J f/\b[q]?=J a/\(s,q)∈f.mv/\a.b5=es (fE G f.it s):=aA (wx h) λf e h=>aA ((c J8) f (aP e) s q<|qc h) λa d g=>⟨f,a,e,d,qc h,g⟩
def dw.pO(b:dw G T c)(h:iQ c p a)(e:bH G a=J s):∃q,go c p s=J q/\iQ c q (a+1):=by refine aA h λf d g=>bp (Ax<|ak ((b J6) f (aP d) s) ⟨a,g,e⟩) λq j=>?_;have k:=af (yR d) j;refine rK (b.Dw k) λl m n o Z r=>?_;rw [d] at n;obtain rfl:=aC n;exact⟨q,k,m,o,b.Gb (aP o) _ (by refine W r ?_;rw [iu];exact ak w5 ⟨a,g,e,Y⟩)⟩
def dw.Nq(a:dw G T c)(h:iQ c p d)(e:bH G d=J b.aY)(f:G.a5[r]?=J b):iQ c p (c8 G r):=by
 refine aA h λg j k=>aA ((a J4) g<|aP j) λl m n=>⟨g,j,?_⟩;rw [n] at k⊢;refine ak tR<|aw ⟨r,b,f,ak ((m J1) _) ?_,Y⟩;rcases tR.mp k with o|⟨q,s,t,v,rfl⟩
 .exact⟨d,o,_,e,aL Y⟩
 .refine aA (((m J1) _).mp v) λj x z=>aA z λy B C=>?_;rw [show bH G (c8 G q)=s.aQ[0]? from (gV t<|cQ _).bH] at e;have H:bt T s.aY b.aY=true:=by
   obtain⟨I,L,z⟩:∃I L,s.aQ=I::L:=by
    cases M:s.aQ with
    |nil=>exact aI<|M▸e|cons I L=>exact⟨I,L,Y⟩
   rw [z] at e;exact ax (aC e)<|(a V) J2 s _ L (aP t) z
  exact⟨j,x,y,B,aw<|aO C (λC=>C▸H) λC=>(a V) J3 _ _ _ C H⟩
def dw.red(c:dw G T b)(h:iQ b p a)(d:At G a r j o k)(e:bH G a=A)(g:r≠0):∃f,b[p]?=J f/\r∈f.rd:=by refine aA h λf l m=>⟨f,l,W ((c J5) f<|aP l)<|ak iu<|ak y2 ⟨a,m,?_⟩⟩;unfold cr;rw [e,show F G.hW a 0=r by rw [cZ,d V];rfl,d4 g];exact hf
def pv(a)(p)(b:aa O):=b.foldl (λo s=>ez o λp=>go a p s)<|J p
def G6:pv a p (b++[s])=ez (pv a p b) λq=>go a q s:=Iu
def dw.FY(c:dw G T b){p d g r:O}(h:iQ b p d)(f:bH G d=J a.aY)(e:G.a5[r]?=J a):∀k,k<=U a.aQ->∃q,pv b p (aF k a.aQ)=J q/\iQ b q (c8 G r+k):=by
 refineλk=>k.rec (λZ=>⟨p,Y,c.Nq h f e⟩) λk j=>λl=>aA (j<|uS l) λq m n=>?_
 have o:=(gV e<|uS l).bH;rw [bK l] at o;refine aA (c.pO n o) λs t v=>⟨s,?_,v⟩;simp only [nX,bK l];show pv b p (aF k a.aQ++[a.aQ[k]])=_;simp only [G6,m];exact t
def dw.v9(b:dw G T a)(h:go a p s=J q):q<U a:=gv (b.Dw h) λZ Z Z c Z=>gl c
def akE:∀{b} {k a} {f},b[a]?=J f->(Ez b k)[a]?=J (Ex (k+a) f):=by
 intro b;refine @(b.rec (λh=>aI h) λx t c=>?_);intro k a f h
 induction a with
 |zero=>exact W (aC h) Y|succ a=>exact W (a4 (Yw k a):k+_=k+1+a)<|c h
def agn:∀{a} {k},U (Ez a k)=U a:=by intro a;exact @(a.rec Y λx t b=>aq _ b)
def Al(k):(Ez a 0)[k]?=b4 (Ex k) (a[k]?):=by
 cases q:a[k]? with
 |some r=>have b:=akE (k:=0) q;rw [eJ] at b;exact b|none=>exact iB<|W agn<|tK.mp q
def H_(a:go b p s=J q)(h:c (ag q) d):aK (n+2) 369 [q9 G b,ag p,ag s] d c e:=by refine aA (wx a) λf g e=>a7 Pa _ Y Y (bJ Y (by simp only [Al,g];rfl) ?_);refine a7 OM _ Y Y (⟨pW,?_⟩);rw [r3,e];exact bc<|bc h
noncomputable def pK(p:O×O):=aR [ag p.1,ag p.2]
def Xk(h:pK p=pK q):p=q:=by
 have h:[ag p.1,ag p.2]=[ag q.1,ag q.2]:=by injection h
 have h:=hp h;exact p9 (ye.mp h.1)<|ye.mp (hp h.2).1
def zE(a:aa<|O×O):aa ai->aa (ai×ai):=jb (λZ=>[]) (λk Z b c=>match c with
|[]=>[]|v::r=>(pK k,v)::b r) a
def uh:∀{a},ip (zE b a) (pK p):=by
 intro a;refine br rfl ?_
 induction b generalizing a with
 |nil=>exactλZ h=>bG h|cons k r c=>
  induction a with
  |nil=>exactλZ h=>bG h|cons v s=>exactλe h=>aO (mc h) (λq=>by refine W q ?_;rfl)<|c e
open Classical in
def FU(nd:bw b):∀{a} {j:O} {v},b[j]?=J p->a[j]?=J v->dV (zE b a) (pK p)=J v:=by
 induction b with
 |nil=>intro a j v h;exact aI h|cons k r c=>
  intro a j v h d;cases a with
  |nil=>exact aI d|cons e s=>
   refine(?_:(if pK k=pK p then J e else dV (zE r s)<|pK p)=J v)
   induction j with
   |zero=>refine W (aC h) ?_;exact W (aC d)<|aJ Y|succ j=>exact W (aS λe=>(rY.mp nd).1 p (aP h)<|Xk e)<|c (rY.mp nd).2 h d
open Classical in
def IZ(m:p∉b):∀{a},U a=U b->eW (zE b a) (pK p) v=zE (b++[p]) (a++[v]):=by
 induction b with
 |nil=>intro a h;induction a with
  |nil=>rfl|cons _ _=>cases h
 |cons k r c=>
  intro a h
  induction a with
  |nil=>cases h|cons d s=>exact((W (aS λe=>m ((Xk e:k=p)▸b8 ..))<|aq _ (c (λq=>m<|cz _ q)<|f7 h)):(if pK k=pK p then _::zE r s else _::eW (zE r s) (pK p) v)=_::zE _ _)
def JW:∀{a},U a=U b->U (zE b a)=U b:=by
 refine @(b.rec (λZ=>rfl) λk r c=>?_);intro a h
 induction a with
 |nil=>cases h|cons d s=>exact aq _ (c<|f7 h)
def aeV:∀{a},U a=U b->R (·.1) (zE b a)=R pK b:=by
 refine @(b.rec (λZ=>rfl) λk r c=>?_);intro a h
 induction a with
 |nil=>cases h|cons d s=>exact aq _ (c<|f7 h)
def aew(b:Fr g c d)(e:d.at k=J (m,az<|iV a))(n:U a<cu)(h:∀f j,(∀x,x∈f↔x∈a\/x=y)->(bw a->bw f)->Fr g j (d.g8 k<|az<|iV f)->l bk j)(o:y∈a->l bk c):
 aK (p+1) 224 [aj m,ag y] c l q:=by
 have r (h:Fr g c d) {s:O} {x:O} {t:ba->Prop} (q:d.at k=J (s,az<|iV a)) (v:t<|b7 a x):mX (ag x) (aj s) c t:=by refine W q8 ((W (h.c9 q) (?_:bE _ t)):inR _ t (c s));exact W (NZ ..) v
 refine a7 R1 (.c 14 _ (.c 168 _ ar)) Y Y<|r b e<|jk<|ef (λq=>?_) λq=>?_
 .exact bc<|o<|uB.mp q
 .have z:y∉a:=λB=>bR<|af q.symm<|ak uB B;refine cH b k e<|zQ b k e n λC b=>bc<|h _ C (λx=>?_) (λnd=>?_) b
  .rw [oI,qp]
  .exact ak nE ⟨nd,lJ (λZ h=>bG h) h9,λs H b I e=>z<|(ms I▸e)▸H⟩
def eD.ne:∀{b},eD e f b->∀{a j},b.at a=J (c,o)->b.at j=J (d,p)->a≠j->d≠c:=by
 intro b;refine b.rec (λZ a j e=>by cases e) λg q r h=>λk a j e f l=>?_;cases a with
 |zero=>cases e;induction j with
  |zero=>exact ay Y l|succ j=>exact k.2.2.1 j d p f
 |succ a=>induction j with
  |zero=>cases f;exact(k.2.2.1 a c o e).symm|succ j=>exact h k.2.2.2 e f λz=>l<|aq _ z
def Fr.base(h:Fr g c f)(k)(e:f.at k=J (a,o)):∃d,Fr d c (.c a o bO)/\Fr g d bO/\∀j b p,j≠k->f.at j=J (b,p)->d b=J p:=by
 have g:=(h V).get e;have l:∀b,b≠a->(if b=a then A else c b)=c b:=λb q=>aS q;refine⟨λb=>if b=a then A else c b,mq ⟨aJ Y,g.2,λk b p e=>aI e,a0⟩ λb p e=>?_,mq a0 λb p e=>?_,λj b p m q=>af (l b<|(h V).ne e q m.symm)<|h.c9 q⟩
 .by_cases q:b=a
  .rw [aJ q] at e;exact aI e
  .exact af (l b q).symm e
 .have q:b≠a:=λz=>by rw [z,g.1] at e;exact aI e
  exact af (l b q)<|(h J1) b p e
def Fr.Jr(h:Fr b d e)(k:Fr d c a):Fr b c a:=by
 refine mq ?_ λf o e=>(k J1) f o<|(h J1) f o e;have g:∀a,eD d c a->eD b c a:=by
  refineλa=>a.rec (λZ=>trivial) λf p r j=>λz=>⟨?_,z.2.1,z.2.2.1,j z.2.2.2⟩
  cases q:b f with
  |none=>rfl|some o=>exact iG<|(af ((h J1) f o q).symm) z.1
 exact g a<|k V
def sz(a:aa<|O×O):=R pK a
def wN(a):=zE a<|iV<|e4<|U a
def vo:U (sz a)=U a:=bC _
def Zm{a:aa<|O×O}:U (iV<|e4<|U a)=U a:=by simp only [du,e9]
def D?{j:O}(nd:bw a)(h:a[j]?=J p):dV (wN a) (pK p)=J (ag j):=
FU nd h (fV<|xd<|gl h)
def kg(c:O->Prop)(g:FS->aa O)(d:aa FS)(k)(b)(a):=fF (bw a) (∀q s,(q,s)∈a↔c s/\((q<k/\∃f,d[q]?=J f/\s∈g f)\/(q=k/\s∈b)))<|U a<=12*k+U b
def Ij(b:O->Prop)(g:FS->aa O)(c:aa FS)(a:aa<|O×O):=fF (bw a) (∀q s,(q,s)∈a↔b s/\∃f,c[q]?=J f/\s∈g f)<|U a<cu
noncomputable def FS.zR(f:FS):=R (·.1) f.mv
abbrev FV(G:Gr):=Ij (G.nT<=·) FS.zR
def kg.mQ:kg a g b 0 [] []:=bY h9 (λq s=>⟨bG,λz=>aO z.2 (λz=>ay z.1<|fC q) λz=>bG z.2⟩)<|bb 0
def kg.end(c:kg d g a (U a) [] b)(l:U a<2^20):Ij d g a b:=by
 have e (f:∀q s,(q,s)∈b↔d s/\∃h,a[q]?=J h/\s∈g h) (j:U b<cu):Ij d g a b:=bY (c V) f j;refine e (λq s=>jG ((c J1) q s)<|F9 λZ=>⟨?_,λk=>aA k λh m n=>aL ⟨gl m,h,m,n⟩⟩) ?_
 .rintro (z|z)
  .exact z.2
  .exact bG z.2
 .exact cF (c J2)<|cF (kb 12<|bU l)<|ao Y
def kg.lim(h:kg d g e k a b)(c:k<2^20)(l:U a<=12):U b<cu:=
cF (h J2) (cF (dZ (kb 12<|bU c) l)<|ao Y)
def dw.Ak(a:dw G T c)(b:e6)(m:f∈c):bw (R (·.1) f.mv)/\(∀s∈R (·.1) f.mv,s<G.nS)/\U (R (·.1) f.mv)<=12:=by have nd:=((a J7) f m).imp fH;have d:=λs e=>aA (((a J6) f m s).mp e) λg h e=>(a.va m g h).sym b e;exact⟨nd,d,ae (qx nd d) b.nS⟩
def kg.next(h:kg d g a k b j)(c:a[k]?=J f)(e:∀s,s∈b↔s∈g f)(l:U b<=12):kg d g a (k+1) [] j:=by
 refine bY (h V) (λq s=>jG ((h J1) q s)<|and_congr E4 ⟨?_,?_⟩)<|ae (h J2)<|d6 l _
 .rintro (⟨a,b⟩|⟨rfl,b⟩)
  .exact aL ⟨rM a,b⟩
  .exact aL ⟨g9 _,f,c,(e s).mp b⟩
 .rintro (⟨a,g,m,b⟩|⟨_,b⟩)
  .rcases iN.mp a with a|rfl
   .exact aL ⟨a,g,m,b⟩
   .rw [c] at m;obtain rfl:=aC m;exact aw ⟨Y,ak (e s) b⟩
  .exact bG b
def kg.add(h:kg b g d k c a)(e:b s)(m:s∉c):(k,s)∉a/\kg b g d k (c++[s]) (a++[(k,s)]):=by
 have f:(k,s)∉a:=λq=>by
  rcases(((h J1) k s).mp q).2 with z|z
  .exact kq k z.1
  .exact m z.2
 refine br f<|bY (ak nE ⟨h V,lJ (λZ h=>bG h) h9,λa j b l n=>f<|(ms l▸n)▸j⟩) (λq t=>?_) ?_
 .rw [oI,qp,(h J1) q t,oI,qp]
  constructor
  .rintro (⟨a,b⟩|b)
   .exact br a<|b.imp id λb=>br b.1<|aL b.2
   .cases b;exact br e<|aw ⟨rfl,aw rfl⟩
  .rintro ⟨a,b|⟨rfl,b|rfl⟩⟩
   .exact aL ⟨a,aL b⟩
   .exact aL ⟨a,aw ⟨Y,b⟩⟩
   .exact aw Y
 .exact W a3<|W a3<|fY (h J2) 1
def P!(G:Gr)(a:aa FS)(N:aa ba)(t b:O)(r:aW):aW:= .c 249 (q9 G a)<| .c 253 (aN<|bV N)<| .c 295 (aj t)<| .c 100 (aj b) r
def DE(G:Gr)(c:aa FS)(N:aa ba)(s t a e:O)(b:aa<|O×O):Cs:= .c s (cw 260<|P! G c N t a ar)<| .c t (az<|sz b)<| .c a (dD (wN b) e) bO
def fR{b:Type}{a:aa b}{x}(h:a[k]?=J x):aF (k+1) a=aF k a++[x]:=by simp only [nX,h];rfl
def E1{b:Type}{a}(nd:bw a){x:b}(h:a[k]?=J x):x∉aF k a:=λq=>by refine bp (gs.mp q) λc d=>?_;have e:=gl d;rw [dU] at e;have e:=cc e<|m4 _ _;rw [ha,aJ e] at d;exact fH e<|yg nd d h
def aj3(j:e6)(f:dw G T c)(a:Fr k l<|DE G c N d t g e [])(m:∀b e h,FV G c b->Fr k h (DE G c N d t g e b)->n bk h):
 aK (o+2) 417 [aj d] l n p:=by
 refine a7 MH (.c 64 _ ar) Y Y<|ej a<|ej a<|cb Y<|cv Al (λX X X=> .c 64 _ _) (λX b e=>DE G c N d t g e b) (λk b X=>kg (G.nT<=·) FS.zR c k [] b) [] e a .mQ (λX X X X X=>rfl) ?_ ?_
 .intro k q b e s r v x a y;have z:=f.Ak j<|aP v;refine vI a (by refine(?_:J _=_);exact aq _ ya) (cF z.2.2<|ao Y) λB s a=>?_;have C:=ak (uZ<|sC _) z.1;have H:U (es _)<=12:=W By z.2.2;have a:=a.bN;refine cb (a.lt 0 Y) ?_;generalize I:es _=S at a C H;refine cv d5 (λX X X=> .c 64 _ _) (λX b e=> .c B _ (DE G c N d t g e b)) (λj b X=>kg _ FS.zR c k (aF j S) b) b e a x (λX X X s a=>a.lt 0 Y) ?_ ?_
  .intro j L b e s r M x a y;rw [fR M] at y;refine C9<|jk<|ef (λq=>?_) λq=>?_
   .exact y b e s ((by refine bY (x V) (λZ t=>jG ((x J1) Z t)<|F9 λh=>or_congr E4<|F9 λX=>?_)<|ae (x J2)<|d6 (by exact W a3<|dO _ _) _;rw [oI,qp];exact⟨aL,λZ=>aO Z id λe=>ay (e▸h)<|ak xP<|ao q⟩)) a
   .have l:=x.add (j3<|Eu q)<|E1 C M;have n:=x.lim (fe (gl v)<|f J2)<|ae (k9 ..) H;refine aM a 1 Y<|bX a 2 Y<|aM a 1 Y<|u6 a 3 Y (d:=pK (k,L)) uh (W (JW Zm) n) λe s a=>?_;have T:eW (wN b) (pK (k,L)) (ag (U (sz b):O))=wN (b++[(k,L)]):=by unfold wN;simp only [IZ l.1 Zm,vo,a3,Ju,Bp,<-n9]
    rw [T] at a;refine aM a 1 Y<|cH a 2 Y<|dF a 2 Y (W vo n) λs a=>y _ e s l.2 ?_;unfold DE sz;exact W dv a
  .exactλb e s x a=>y b e s ((dJ▸x).next v (λs=>I▸iu) H) a.tl
 .exactλb e s x a=>bc<|m b e s (x.end (f J2)) a
def Ua:∀{b} {a} {c} {x},U b=U a->(hA b a).cA c (az<|iV x)=hA (b++[c]) (a++[x]):=by
 intro b
 induction b with
 |nil=>intro a c x h;induction a with
  |nil=>rfl|cons _ _=>cases h
 |cons v r d=>intro a c x h;induction a with
  |nil=>cases h|cons y t=>exact aq _ (d<|f7 h)
def RN(G:Gr)(N)(c)(g:O)(a)(m)(b):=j6 (m<2^G.nT) (∀t∈a,t<G.nT->eH m t=Q) (∀d∈a,G.nT<=d->F N d u=Q->∀j,c[j]?=J (g,d)->j∈b) (∀x∈b,x<U c)<|U b<=U a
def t'(G)(c)(N)(d)(k)(e a:aa O)(b):=j6 (U e=U b) (U a=k) (U b=k) (∀f∈a,f<2^G.nT)<|∀g<k,∀p h,d[g]?=J (p,h)->∃j f,go c p h=J j/\c[j]?=J f/\RN G N d j (es<|R (·.1) f.mv) (F a g 0) (F b g [])
set_option tactic.hygienic true in
def zc{c:Type}{a}{x d:c}(e:U a=k):F (a++[x]) b d=if b=k then x else F a b d:=by
 rw [cZ,cZ];split
 .rename_i q;simp only [q,<-e,hV<|bb _,pR];rfl
 .rename_i q;rcases h0 b (U a) with z|z
  .exact W (hb z) Y
  .refine W (iB z) ?_;rw [iB];exact W a3<|yf z λy=>q<|af y.symm e
def VX(G)(a)(N)(t b d r)(l):=P! G a N t b<| .c 155 (aj d)<| .c 122 (aj r) l
def EA(G:Gr)(b:aa FS)(N:aa ba)(c t e d r:O)(a f:aa O)(g:aa<|aa O):Cs:= .c c (cw 260<|VX G b N t e d r ar)<| .c d (az<|iV f)<| .c r (az<|fP a)<|hA a g
def Hc:fP a++[aj b]=fP (a++[b]):=by unfold fP;exact W dv Y
def D4:U (fP a)=U a:=bC _
def KY(f:Fr a c d)(h:pP a v=J b):pP c v=J b:=by
 cases v with
 |oT _=>exact h|ref e=>
  refine(?_:b4 (·.1) (l5<|c e)=J b);have h:b4 (·.1) (l5<|a e)=J b:=h;cases q:a e with
  |none=>rw [q] at h;cases h|some o=>exact W ((f J1) e o q)<|ax q h
 |_=>cases h
def Ε(p:e6)(q:dw G T f)(g:FV G f j)(Â:uE N)(b:eQ n (aj t)=J (sz j))(c:pP n (aj e)=J (wN j))(a:Fr n x<|EA G f N k t e o r [] [] [])
 (h:∀d l m s,t' G f N j (U j) d l m->Fr n s (EA G f N k t e o r d l m)->y bk s):aK (z+3) 412 [aj k] x y B:=by
 refine a7 QV (.c 64 _ ar) Y Y<|ej a<|ej a<|cb (ik a b)<|cv d5 (λX X X=> .c 64 _ _) (λX (d:aa O) C=>EA G f N k t e o r d C.1 C.2) (λH d (C:aa O×aa _)=>t' G f N j H d C.1 C.2) [] ([],[]) a (ec Y Y Y (λI h=>bG h) λe c=>ay c<|fC e) (λX X X s a=>ik a b) ?_ ?_
 .intro H L d C s À Z n a x;obtain⟨Ä,T⟩:=L;obtain⟨l,m⟩:=C;refine dC (((g J1) Ä T).mp<|aP Z) λz z=>aA z λB H L=>?_;refine bp (Ax L) λB L=>?_;have L:=af (yR H) L;refine rK (q.Dw L) λX I X H X X=>?_;have M:=q.Ak p<|aP H;have kT:=gl Z;refine ej a<|H_ L<|aV a λq s a=>ej a<|bJ Y (by refine W (Al ..)<|W H ?_;rfl) ?_;refine vI a.bN (by refine(?_:J _=_);exact aq _ ya) (cF M.2.2<|ao Y) λC s a=>?_;have Á:U (es _)<=12:=W By M.2.2;have a:=a.bN;refine cb (a.lt 0 Y) ?_;refine cv d5 (λX v X=> .c 64 _ (.c 201 G.V<| .c 130 (ag Ä)<| .c 183 (ag T)<| .c 33 _ (.c 47 (ag (v:O))<| .c 14 _ _)))
   (λX X T=> .c C _ (.c q (az<|iV T)<|EA G f N k t e o r d l m)) (λf v T=>RN G N j B ((es<|R (·.1) I.mv).take f) v T) 0 [] a (ec (vc _) (λt h=>bG h) (λt h=>bG h) (λt h=>bG h)<|bb 0) (λX X X s a=>a.lt 0 Y) ?_ ?_
  .intro f r v T s À N n a x;rw [fR N] at x;have Ã:=iu.mp<|aP N;have f:=M.2.1 r Ã;have N:r<64:=cc f<|ae p.nS<|ao Y;refine C9<|ef (λM=>?_) λM=>?_
   .refine⟨⟨Y,cp _,ak hl<|fe N<|ao Y⟩,⟨cp _,cp _⟩,?_⟩;exact x _ T s ((by
     refine ec (oL (n V)<|JQ (ao Y)<|ao M) (λt b p=>?_) (λN j p=>?_) (n J3)<|ae (n J4)<|W a3<|dO _ _
     .refine W (xK ..) ?_;rcases ma b with b|b
      .exact W ((n J1) t b p) Y
      .exact W (ms b)<|W QO (zZ ..)
     .rcases ma j with j|j
      .exact(n J2) N j p
      .exact ay (ao M)<|ak fU<|ms j▸p)) a
   .have y:=j3<|Eu M;refine aM a 2 Y<|bJ Y (xk<|e8 (d:=u)<|W (Â V) f)<|ef (λz=>?_) λz=>?_
    .refine bp (gs.mp<|ak ((g J1) B r) ⟨y,I,H,Ã⟩) λo f=>cH a 1 Y<|aM a 2 Y<|tE (KY a c) (uh (p:=(B,r))) (D? (g V) f) ?_;exact zQ a 1 Y (cF (n J4)<|cF (ae (k9 ..) Á)<|ao Y) λs a=>x v _ s ((by
      refine ec (n V) (λt b p=>?_) (λN j p M e c=>?_) (λo r=>?_)<|by simp only [a3,a3];exact fY (n J4) _
      .rcases ma b with b|b
       .exact(n J1) t b p
       .exact ay (ms b▸p)<|ak fU y
      .rcases ma j with j|j
       .exact gE _ ((n J2) N j p M e c)
       .refine fx _ (ak qp ?_);rw [ms j] at c;obtain⟨k,C⟩:=ka.mp c;obtain⟨Å,k⟩:=ka.mp f;exact(Bi<|g V).mp<|af C k.symm
      .rcases ma r with r|r
       .exact(n J3) o r
       .exact W (ms r)<|gl f)) a
    .exact x v T s ((by
      refine ec (n V) (λt b p=>?_) (λN j p M=>?_) (n J3)<|ae (n J4)<|W a3<|dO _ _
      .rcases ma b with b|b
       .exact(n J1) t b p
       .exact ay (ms b▸p)<|ak fU y
      .rcases ma j with j|j
       .exact(n J2) N j p M
       .rw [ms j,z] at M;exact bR M)) a
  .intro v T s b a;rw [dJ] at b;refine aM a 2 Y<|cH a 3 Y<|zQ a 3 Y (W (n J1)<|fe kT<|g J2) λs a=>aM a 2 Y<|cH a 4 Y ?_;refine dF a 4 Y (W D4<|W (n V)<|W (n J2)<|fe kT<|g J2) λs a=>x (d++[q]) (l++[v],m++[T]) s ((by
    refine ec (by simp only [a3,a3,n V];rfl) (by simp only [a3,n J1];rfl) (by simp only [a3,n J2];rfl) (λo r=>?_) λe c t z M=>?_
    .rcases ma r with r|r
     .exact(n J3) o r
     .exact W (ms r)<|b V
    .simp only [zc<|n J1,zc<|n J2];rcases iN.mp c with c|rfl
     .simp only [aS<|fH c,aS _];exact(n J4) e c t z M
     .rw [Z] at M;cases M;rw [aJ Y,aJ Y];exact⟨B,I,L,H,b⟩)) ?_
   have a:=a.tl.Bv;unfold EA;exact ax Hc<|ax (Ua<|n V) a
 .exactλd C s n a=>bc<|h d C.1 C.2 s n a
def UE:∀{a:Cs},(a.mZ b).cA c o=a.mZ (b.cA c o):=by intro a;exact a.rec Y λb p r d=>aq _ d
def aex:∀{b} {a},U b=U a->(hA b a).mZ (hA c d)=hA (b++c) (a++d):=by
 intro b
 induction b with
 |nil=>intro a h;induction a with
  |nil=>rfl|cons _ _=>cases h
 |cons e r f=>intro a h;induction a with
  |nil=>cases h|cons x t=>exact aq _ (f<|f7 h)
def W3(c:Fr g b d)(h:∀o s,Fr g s (d.mZ o)->p s=J all)(q:U all<cu)
 (j:∀e a k,U a=U all->Fr g k (.c e (az<|fP a)<|d.mZ<|hA a<|dM (U all) [])->r (aj e) k):
 yN (λl b f=>cN m n (kr<|bT Q) l b λv b=>mV b v λt=>f t b) (λl b f=>cN m n (.list s5) l b f) (λl v b f=>mN m n (eb x) l v b f) p all l b r:=by
 have y:d=d.mZ bO:=by clear c h j;exact d.rec Y λb p r z=>aq _ z
 refine wq c (λk B C=>∃a,U a=k/\B=fP a/\C=d.mZ (hA a<|dM k [])) ⟨[],Y,Y,y⟩ (λk B C e o s f H=>?_) ?_ q ?_
 .obtain⟨a,_,_,rfl⟩:=H;rw [UE] at f;exact h _ s f
 .refineλk y B C I s L M N H c T Z=>aV c λl s c=>?_
  obtain⟨a,v,rfl,rfl⟩:=H;exact T _ s _ c.EW ⟨a++[l],W a3<|W v Y,Hc,W HA<|ax (BL<|by rw [v,ir]) UE⟩
 .intro e B C s f H;obtain⟨a,v,rfl,rfl⟩:=H;exact j e a s v f.bN
def Nf{a b:O}(h:a<b->c)(d:b<=a->e):dH (nx (a:au) (b:au)) c (dH (nx (a:au) (b:au)) C e):=hZ h λq=>hZ (λz=>ay z<|ak fU q) λZ=>d q
def acL{a b:O}(h:a<=b->c)(d:b<a->e):dH (uT (a:au) (b:au)) c (dH (uT (a:au) (b:au)) C e):=xt h λq=>xt (λz=>ay z<|ak xP q) λZ=>d q
def akG(j:Fr o f k)(e:k.at p=J (c,cw l g))(m:cW g 253=J (aN<|bV N))(d:∀y∈a,y<U N)
 (n:∀e,(∀b,(∀y∈cq (b+1) a,F N y u=Q)->e<=b)->h (ag e) f):aK (q+1) 407 [aj c,aR<|iV a] f h r:=by
 refine a7 MU _ Y Y (n5 (λs Z=>s) (λs Z=> .c 64 _ (.c 123 _ (.c 67 (ag (s:O)) ar))) (λZ Z=>bO) (λs Z=>s<=U a) (U<|iV a) () de (c6 du) λs Z t v x f z=>?_);have B:(s=0\/∃y,a[s-1]?=J y/\F N y u=u)->eh h (ag<|max _ 0) t:=λC=>by
  refine W (a! s)<|m9 f<|n _ λb H=>?_;rcases C with C|⟨y,d,I⟩
  .exact W C<|cQ _
  .refine j3 λq=>?_;have L:y∈cq (b+1) a:=aP (i:=s-1-(b+1)) (by simp only [FD,zj q];exact d);exact bR<|H y L▸I
 have M:∀{v},v l g->s3 (t c) v:=λ{v} C=>W Fc<|W ((f J1) c _ (j.c9 e)) C;refine Nf (λq=>?_) λq=>?_
 .have T:=cc (r' q BW) x;refine M<|Co m<|ph (zj q).symm<|bJ Y (fV<|bK T) ?_;exact bJ Y (xk<|e8 (d:=u)<|d _ (xR T))<|ef (λC=>ph (zj q).symm<|z _ () t (r' q BW) (bU T) f) λC=>u7<|B<|aw ⟨_,bK T,C⟩
 .exact u7<|B<|aL<|vW.mp q
def dw.wd(b:dw G T c)(d:GW G)(m:f∈c):bw f.rd/\(∀r∈f.rd,r≠0/\∃a,G.a5[r]?=J a/\c8 G r+U a.aQ∈f.it)/\U f.rd<=12:=by
 have nd:bw f.rd:=W ((b J5) f m)<|(by
  refine ak (uZ<|sC _)<|ak U? ⟨λe X=>?_,Rq (λ{e j} g h q x k y l n=>?_)<|aA ((b J4) f m) λo p n=>W n<|Rb ((b J9) f m).1<|p V⟩
  .unfold cr;cases(bH G e).isNone&& !(aE _ 0) with
   |true=>exact lJ (λX s=>bG s) h9|false=>exact h9
  .have t:∀e x,x∈cr G e->bH G e=A/\x=F G.hW e 0:=λe x k=>by
    unfold cr at k;cases z:(bH G e).isNone&& !(aE _ 0) with
    |true=>rw [z] at k;exact⟨WG.mp ((vu ..).mp z).1,ms k⟩|false=>rw [z] at k;exact bG k
   refine dC (t e x k) λv B=>dC (t j y l) λC H=>hI ((b.va m) e g) λr I o a L=>hI ((b.va m) j h) λM N Z c jQ=>?_;have T:F G.hW e 0=r:=by refine W (cZ)<|W (L V) ?_;rfl
   have p:F G.hW j 0=M:=by refine W (cZ)<|W (jQ V) ?_;rfl
   obtain rfl:=af T.symm<|af B.symm<|af n<|af H p;obtain rfl:=aC<|af (L J3).symm<|jQ J3;obtain rfl:=aC<|af (L J1).symm<|jQ J1;exact q<|af (L J2)<|af (hL (L J4)<|tK.mp<|L.bH▸v) (hL (jQ J4)<|tK.mp<|jQ.bH▸C).symm▸a4 (jQ J2))
 have x:∀r∈f.rd,r≠0/\∃a,G.a5[r]?=J a/\c8 G r+U a.aQ∈f.it:=λr k=>by
  rw [(b J5) f m] at k;refine aA (y2.mp<|iu.mp k) λe g y=>hI (b.va m e g) λM I o a l=>?_;have T:F G.hW e 0=M:=by refine W (cZ)<|W (l V) ?_;rfl
  unfold cr at y;cases z:(bH G e).isNone&& !(aE _ 0) with
  |false=>exact bG<|z▸y|true=>
   rw [z] at y;have z:=(vu ..).mp z;refine W (ms y)<|W T ?_;have t:=WG.mp z.1;rw [l.bH] at t;refine⟨λn=>?_,a,l J3,?_⟩
   .rw [T,n] at z;exact lQ z.2
   .exact ax (hL (l J4)<|tK.mp t)<|ax l.c8<|ax (l J2) g
 exact⟨nd,x,ae (qx nd λr k=>let⟨_,a,s,_⟩:=x r k;(gl s))<|ae d.oX<|ao Y⟩
abbrev IL:=Ij (λZ=>bh) FS.rd
def FF(m)(a:aa<|aa O):=eY (∀j,bw<|F a j [])<|∀j,∀x∈F a j [],x<m
def my(m)(b a):=fF (U a=U b) (∀j,∀x∈F b j [],x∈F a j [])<|FF m a
def my.EO(a:my m c d)(b:my m d e):my m c e:=bY (af (b V)<|a V) (λj x h=>(b J1) j x<|(a J1) j x h)<|b J2
def my.refl(h:FF m a):my m a a:=bY Y (λZ Z h=>h) h
def CW(G:Gr)(c)(N)(d:aa<|O×O)(e)(k p:O)(a:Ru)(b):=uF<|∀f q,a.aQ[b]?=J f->pv c p (aF b a.aQ)=J q->G.nT<=f->(∀y∈cq (b+1) a.aQ,F N y u=Q)->∃j,d[j]?=J (q,f)/\k∈F e j []
def BD(G)(c)(N)(a e:aa<|O×O)(d)(k p r)(b):=eY (∀f<U b.aQ,CW G c N a d k p b f)<|∀q,pv c p b.aQ=J q->∃j,e[j]?=J (q,r)/\k∈F d (U a+U a+j) []
def Bo(G)(b)(N)(a c)(d)(k):=uF<|∀p e,a[k]?=J (p,e)->∀r∈G.jY e,∀f,G.a5[r]?=J f->BD G b N a c d k p r f
def CW.up(h:CW G a N b c k p d e)(g:my m c f):CW G a N b f k p d e:=
iC λj q a b c d=>((h V) j q a b c d).imp λj e=>br e.1<|(g J1) j k e.2
def BD.up(h:BD G a N b c d k p r e)(g:my m d f):BD G a N b c f k p r e:=
cj (λj l=>((h V) j l).up g) λq e=>((h J1) q e).imp λj e=>br e.1<|(g J1) _ k e.2
def Bo.up(h:Bo G a N b c d k)(g:my m d e):Bo G a N b c e k:=iC λp f e r j l n=>((h V) p f e r j l n).up g
structure IA where
a:O
t:O
i:O
d:O
r:O
b:O
u:O
l:O
def fiL(G)(b)(N)(a:IA)(x):=VX G b N a.t a.i a.d a.r<| .c 231 (aj a.b)<| .c 136 (aj a.u)<| .c 237 (aj a.l) x
def ox(G:Gr)(d:aa FS)(N:aa ba)(a:IA)(b c ls:aa O)(e:aa<|O×O)(f:O)(g:aa<|aa O):Cs:=
.c a.l (dD (zE e<|fP ls) f) (.c a.u (az<|fP c)<| .c a.b (az<|fP b)<| .c a.a (cw 260<|fiL G d N a ar)<|hA (b++(c++ls)) g)
set_option tactic.hygienic true in
def Qn{c:aa<|O×O}{ls}(d:Fr t l<|ox G m N n f g ls o e a)(v:(f++(g++ls))[j]?=J p)(q:j<U a)(b:FF (U c) a)(x:k<U c)(y:U c<cu)
 (r:∀h s,my (U c) a h->k∈F h j []->Fr t s (ox G m N n f g ls o e h)->z bk s):aK (B+1) 224 [aj p,ag k] l z C:=by
 have H:(ox G m N n f g ls o e a).at (j+4)=J (p,az<|iV<|F a j []):=pj v<|e8 q;refine aew d H (cF (qx ((b V) j)<|(b J1) j) y) (λI s m nd d=>?_) λm=>r a l (.refl b) m d;have L:∀M,F (c2 a j I) M []=if j=M then I else F a M []:=λM=>gL q
 refine r (c2 a j I) s (bY (ni ..) (λM T Z=>?_)<|cj (λM=>?_) λM T Z=>?_) ?_ ?_
 .refine W (L ..) ?_;split
  .rename_i q;rw [<-q] at Z;exact ak (m T)<|aL Z
  .exact Z
 .refine W (L ..) ?_;split
  .exact nd<|(b V) j
  .exact(b V) M
 .rw [L] at Z;split at Z
  .exact aO ((m T).mp Z) ((b J1) j T) λe=>e▸x
  .exact(b J1) M T Z
 .exact W (L ..)<|W (aJ Y)<|ak (m k)<|aw Y
 .unfold ox;exact ax Gq d
def sy(G:Gr)(d)(N:aa ba)(a b:aa<|O×O)(e f ls:aa O)(c):=om (U e=U a) (U f=U a) (U ls=U b) (U c=U a+U a+U b) (IL d b)<|FF (U a) c
def sy.v(h:sy G g N c k a d e m)(f:j<U c):∃b,a[j]?=J b/\(a++(d++e))[j]?=J b:=by have q:j<U a:=W (h V) f;exact⟨a[j],bK q,W (hb q)<|bK q⟩
def sy.l(h:sy G k N b d e f a m)(g:j<U d):∃c,a[j]?=J c/\(e++(f++a))[U b+U b+j]?=J c:=by have q:j<U a:=W (h J2) g;refine⟨a[j],bK q,?_⟩;exact W (hV<|by simp only [h V,cx];exact dO _ _)<|W (h V)<|W (cx ..)<|W (uP ..)<|W (hV<|by rw [h J1];exact dO _ _)<|W (h J1)<|W (uP ..)<|bK q
def sy.up(h:sy G b N a c d e f j)(g:my (U a) j k):sy G b N a c d e f k:=e1 (h V) (h J1) (h J2) (af (g V)<|h J3) (h J4)<|g J2
def aiH:(hA (a++(b++c))<|dM (U<|a++(b++c)) []).cA d (az [])=hA (a++(b++(c++[d]))) (dM (U<|a++(b++(c++[d]))) []):=by have e:a++(b++(c++[d]))=(a++(b++c))++[d]:=ax (dy ..)<|ax (dy ..)<|ax (dy ..) Y;exact W (BL<|by exact W ir Y)<|W e<|W (a3 (bs:=[d]))<|W Ju<|W HA Y
def Jl(G)(a)(N)(b f:aa<|O×O)(k p r)(c)(e)(s q)(d):=hK (pv a p (aF s c.aQ)=J q) (iQ a q<|c8 G r+s) (my (U b) e d)<|∀g<s,CW G a N b d k p c g
def Jl.next(h:Jl G a N b m k p r c n s q o)(e:c.aQ[s]?=J y)(t:go a q y=J f)(d:iQ a f<|c8 G r+s+1)(g:my (U b) o j)(v:G.nT<=y->(∀y∈cq (s+1) c.aQ,F N y u=Q)->∃l,b[l]?=J (q,y)/\k∈F j l []):
 Jl G a N b m k p r c n (s+1) f j:=by
 refine dS ?_ d ((h J2).EO g) λx d=>?_
 .simp only [fR e,G6,h V];exact t
 .refine aO (iN.mp d) (λz=>?_) λz=>?_
  .exact((h J3) x z).up g
  .refine W z<|iC λB C a b H d=>?_;rw [e] at a;obtain rfl:=aC a;rw [h V] at b;obtain rfl:=aC b;exact v H d
def ţ(á:GW G)(o:dw G Ã c)(q:FV G c d)(Æ:Q7 G N)(Ê:eQ é (aj l.t)=J (sz d))(n:pP é (aj l.i)=J (wN d))(Ì:U g=U d)(Í:U e=U d)
 (Å:∀p s,G.nT<=s->∀t,c[p]?=J t->s∈t.zR->∃m,iQ c p m/\bH G m=J s)(È:∀r h,G.a5[r]?=J h->G.nT<h.aY->r≠0)
 (Ç:∀p s,(p,s)∈d->G.nT<s)
 (a:Fr é À<|ox G c N l g e [] [] f<|dM (U<|g++(e++[])) [])
 (Î:∀j ls f b I,sy G c N d j g e ls b->(∀k<U d,Bo G c N d j b k)->Fr é I (ox G c N l g e ls j f b)->Á bk I):aK (Â+4) 416 [aj l.a] À Á Ä:=by
 refine a7 SW (.c 64 (aj l.a) ar) Y Y<|aM a 3 Y<|aM a 3 Y<|cb Y<|cv Al (λX X X=> .c 64 (aj l.a)<| .c 201 G.V ar) (λX (I:aa (O×O)×aa O) f=>ox G c N l g e I.2 I.1 f<|dM (U<|g++(e++I.2)) []) (λk I X=>kg (λX=>bh) FS.rd c k [] I.1/\U I.2=U I.1) ([],[]) f a ⟨.mQ,Y⟩ (λX X X X X=>rfl) ?_ ?_
 .intro k t I f s M Ð Z a T;have É:=aP Ð;have B:=o.wd á É;have Ë:=fe (gl Ð)<|o J2;refine cb Y<|cv d5 (λX X X=> .c 64 (aj l.a)<| .c 201 G.V<| .c 130 (Ex k t) ar) (λX (I:aa (O×O)×aa O) f=>ox G c N l g e I.2 I.1 f<|dM (U<|g++(e++I.2)) []) (λC I X=>kg (λX=>bh) FS.rd c k (aF C t.rd) I.1/\U I.2=U I.1) I f a Z (λX X X X X=>rfl) ?_ ?_
  .intro C t I f s M H Z a T;obtain⟨j,ls⟩:=I;have y:=Z.2;rw [fR H] at T;have Ï:=Z.1.add a0<|E1 B.1 H;refine aV a λL s a=>aM a 3 Y<|u6 a 0 Y (d:=pK (k,t)) uh (W (JW<|af D4 y)<|Z.1.lim Ë<|ae (k9 ..) B.2.2) λf s a=>T (j++[(k,t)],ls++[L]) f s ⟨Ï.2,by simp only [a3,a3,y];rfl⟩ ?_;unfold ox;exact ax aiH<|ax Hc<|ax (IZ Ï.1<|af D4 y) a
  .intro I f s Z a;rw [dJ] at Z;exact T I f s ⟨Z.1.next Ð (λX=>E4) B.2.2,Z.2⟩ a
 .intro I f s Z a;obtain⟨j,ls⟩:=I;have I:=Z.1.end (o J2);have y:=Z.2;have Ñ:sy G c N d j g e ls (dM (U<|g++(e++ls)) []):=by
   have z:∀C,F (dM (U<|g++(e++ls)) ([]:aa O)) C []=[]:=λC=>by simp only [cZ,tW];split<;>rfl
   exact e1 Ì Í y (W ir<|W a3<|W a3<|W Ì<|W Í<|W y<|W (cx ..) Y) I<|cj (λC=>W (z ..) h9) λC Ó B=>by rw [z] at B;exact bG B
  refine aM a 3 Y<|s8 (ik a Ê) ?_;have Ò:tJ (U (sz d):O):=a4 vo▸⟨nQ (ao Y)<|cp _,yG (ak hl<|q J2)<|ao Y⟩;refine br Ò<|cv mU (λX X X=> .c 64 _ (.c 201 G.V ar)) (λX b X=>ox G c N l g e ls j f b) (λk b X=>sy G c N d j g e ls b/\∀m<k,Bo G c N d j b m) _ () a ⟨Ñ,λm n=>absurd n<|fC m⟩ (λX X X X X=>rfl) ?_ ?_
  .intro k Ó b _ s M B Z a T;have B:=ly B;refine W B.1 ?_;have Ø:k<U d:=by have Ô:=B.2;exact vo▸Ô
   have Õ:=bK Ø;generalize d[k]=Ö at Õ;obtain⟨p,I⟩:=Ö;have Ù:=aP Õ;refine dC (((q J1) p I).mp Ù) λÚ z=>aA z λÛ Ü Ý=>?_;refine aA (Å p I Ú Û Ü Ý) λÞ ß à=>?_;refine aM a 3 Y<|bJ (ik a Ê) (by unfold sz;simp only [cg,Õ];rfl) ?_;refine V2 ((o.Ak á<|aP Ü).2.1 I Ý)<|cb Y<|cv d5 (λX X X=> .c 64 _ (.c 201 G.V<| .c 0 _ (.c 93 (ag p)<| .c 40 (ag I) ar))) (λX b X=>ox G c N l g e ls j f b) (λC v X=>my (U d) b v/\∀r∈aF C (G.jY I),∀h,G.a5[r]?=J h->BD G c N d j v k p r h) b () a ⟨.refl<|Z.1 J5,λr Î=>bG Î⟩ (λX X X X X=>rfl) ?_ ?_
   .intro C r â _ s M ä ã a T;have T:=λb s=>T b () s;rw [fR ä] at T;refine aA (uV.mp<|aP ä) λh C y=>?_;have å:=Z.1.up ã.1;have æ:bH G Þ=J h.aY:=a4 y▸à;refine bJ Y (Ao C)<|aM a 3 Y<|akG a (p:=3) Y Y (λt H=>a4 (Æ V)▸(á.lt h<|aP C).2 t H) λç è=>?_;refine br (a4 du▸mR (ae (á.yv h<|aP C)<|of_decide_eq_true rfl)) ?_;refine cv mU (λX (x:O) _=> .c 64 _ (.c 201 G.V<| .c 0 _ (.c 93 _ (.c 40 _ (.c 61 _ (.c 123 _ (.c 30 _ (.c 3 (ag x) ar))))))))
     (λX X b=>ox G c N l g e ls j f b) (λs x b=>Jl G c N d j k p r h â s x b) p â a (dS Y (o.Nq ß æ C) (.refl<|å J5) λm n=>ay n<|fC m) (λX X X X X=>rfl) ?_ ?_
    .intro ê Ó x ó s M B N a T;have B:=ly B;refine W B.1 ?_;have ë:ê<U h.aQ:=by have Ô:=B.2;exact ax du Ô
     have H:=bK ë;generalize h.aQ[ê]=t at H;have B:=å.up<|N J2;refine aA (o.pO (N J1)<|af ((gV C<|bU ë).bH) H) λì í î=>bJ Y (fV H) ?_;have ï:∀v s,my (U d) ó v->_->Fr é s _->
      aK (Â+3) 369 [q9 G c,ag x,ag t] s (λc s=>M (.c 64 _ (.c 201 G.V<| .c 0 _ (.c 93 _ (.c 40 _ (.c 61 _ (.c 123 _ (.c 30 _ (.c 3 c ar)))))))) s) (λX=>bW):=
      λv s M ñ a=>H_ í<|T ì v s (N.next H í î M ñ) a
     refine acL (λz=>?_) λz=>?_
     .refine C9<|jk<|ef (λH=>?_) λH=>?_
      .have H:=ao H;exact aM a 3 Y<|ï ó s (.refl<|B J5) (λx=>ay H<|ak fU x) a
      .have ð:=j3<|Eu H;refine aA (wx í) λò ô X=>bp (gs.mp<|ak ((q J1) x t) ⟨ð,ò,ô,hY<|qc<|af (yR ô).symm í⟩) λH l=>?_;have c:=gl l;refine aA (B.v c) λL õ ö=>aM a 3 Y<|tE (KY a n) (uh (p:=(x,t))) (D? (q V) l)<|aM a 3 Y<|dc a 2 Y (rU õ)<|Qn a ö (by simp only [B J3,cx];exact cc c<|dO _ _) (B J5) Ø (q J2) λv s M ø a=>?_;have t:=B.up M;refine hj (λù=>?_) λù=>?_
       .have ú:∃L,e[H]?=J L/\(g++(e++ls))[U d+H]?=J L:=by have x:H<U e:=W (t J1) c;refine⟨e[H],bK x,?_⟩;exact W (hV<|by rw [t V];exact dO _ _)<|W (t V)<|W (uP ..)<|W (hb x)<|bK x
        exact aA ú λd e g=>aM a 3 Y<|dc a 1 Y (rU e)<|Qn a g (a4 (t J3)▸cc (tv c _) (dO _ _)) (t J5) Ø (q J2) λd s t e a=>aM a 3 Y<|ï d s (M.EO t) (λX X=>⟨H,l,(t J1) H k ø⟩) a
       .exact aM a 3 Y<|ï v s M (λX X=>⟨H,l,ø⟩) a
     .exact aM a 3 Y<|ï ó s (.refl<|B J5) (λX ñ=>ay (è ê ñ)<|ak xP z) a
    .intro x ó s N a;rw [e9,du] at N;have B:=å.up<|N J2;have g:=N V;dsimp only [HM] at g;rw [dJ] at g;have k:=gV C<|bb _;refine aA (o.red (N J1) k (af k.bH<|iB<|bb _)<|È r h C<|y▸Ç p I Ù) λò ô d=>?_;refine bp (gs.mp<|ak ((Z.1 J4) J1 x r) ⟨a0,ò,ô,d⟩) λH l=>?_;have c:=gl l;refine aA (B.l c) λL õ ö=>aM a 3 Y<|tE (a.ld 0 Y) (uh (p:=(x,r))) (FU ((Z.1 J4) V) l<|rU õ)<|Qn a ö (a4 (B J3)▸tv c _) (B J5) Ø (q J2) λv s M ø a=>T v s ⟨ã.1.EO<|(N J2).EO M,λt e o y=>?_⟩ a;rcases ma e with e|e
     .exact(ã.2 t e o y).up<|(N J2).EO M
     .rw [ms e] at y⊢;exact ax (aC<|af C.symm y)<|cj (λm n=>((N J3) m n).up M) λI k=>ax (aC<|af g.symm k)<|⟨H,l,ø⟩
   .intro v _ s N a;rw [dJ] at N;refine T v () s ⟨Z.1.up N.1,λm n=>?_⟩ a;rcases iN.mp n with z|z
    .exact(Z.2 m z).up N.1
    .refine W z<|iC λp q L r ä h C=>?_;cases af Õ.symm L;exact N.2 r ä h C
  .intro b _ s Z a;rw [e9,vo] at Z;exact bc<|Î j ls f b s Z.1 Z.2 a
def aa7(h:a l=J (dD b e))(c:K (qV a<|aj l)<|R (·.1) b):w9 (aj l) a K:=W Kh λG Z g=>g<|M3 (show b4 (·.1) (l5<|a l)=_ by rw [h];rfl) c
def adT(h:b l=J (dD c e))(d:a l=J (dD c e)):qV b (aj l) a=J (R (·.1) c):=by
 have f:∀s,s l=J (dD c e)->w6 s (aj l)=e:=λs h=>by show dN (b4 (·.2)<|l5<|s l) 0=e;exact W h Y
 refine(?_:(if w6 a _=w6 b _ then b4 _ (pP a _) else A)=_);simp only [f b h,f a d,aJ Y];show(b4 (·.1)<|l5<|a l).map _=_;exact W d Y
def alc(h:U b=U a):∀k:O,(R (·.1)<|zE a b)[k]?=b4 pK (a[k]?):=λk=>W (aeV h) (cg ..)
def Jm(b)(a)(c)(k)(M):=fF (U M=k) (∀f∈M,f<2^b)<|∀j<k,∀x∈F c j [],Sb (F a x 0)<|F M j 0
def acz(a:Fr o g<| .c k (cw p q) bO)(t:cW q 237=J (aj l))(Ã:cW q 301=J (aN<|iV d))(n:o l=J (dD (zE c<|fP r) L))
 (s:IL N c)(y:U r=U c)(T:U e=U c)(Ä:∀j<U c,∃m,r[j]?=J m/\o m=J (az<|iV<|F e j []))(Á:∀j,∀x∈F e j [],x<U d)(Å:∀f∈d,f<2^b)
 (h:∀M,Jm b d e (U c) M->I (gZ<|zE c<|iV M) g):aK (Z+1) 415 [aj k] g I À:=by
 have ext:∀{I} {L},Fr g I L->I k=J _/\∀b N,o b=J N->I b=J N:=λf=>⟨(f J1) k _ (a.c9 (k:=0) Y),λb N Z=>(f J1) b N<|(a J1) b N Z⟩;have o:∀{I} {L} {N},Fr g I L->N p q->s3 (I k) N:=λf z=>W Fc<|W (ext f).1 z;refine a7 R7 (.c 64 _ ar) Y Y<|m8 de λq C I a=>o a<|Co t<|aa7 ((ext a).2 l _ n) ?_;have Â:U (fP r)=U c:=W D4 y;refine cv (alc Â) (λX X X=> .c 64 _ _) (λT M C=> .c q (dD (zE (aF T c)<|iV M) C) bO) (λT M X=>Jm b d e T M) [] C a (bY Y (λX h=>bG h) λj r=>ay r<|fC j) (λX X X y y=>adT ((ext a).2 l _ n)<|(ext y).2 l _ n) ?_ ?_
 .intro T y M C I N v B a H;have Æ:=gl v;refine aA (Ä T Æ) λm Ç È=>o a<|Co t<|tE (by refine(?_:b4 (·.1) (l5<|I l)=_);refine W ((ext a).2 l _ n) ?_;rfl) uh (FU (s V) v<|rU Ç) ?_;have l:∀{I} {L},Fr g I L->eQ I (aj m)=J (iV _):=λf=>by show mW _=_;exact aq _ ((ext f).2 m _ È)
  refine cb (l a)<|cv d5 (λX (x:O) _=> .c 64 _ (.c 109 _ (.c 55 (pK y)<| .c 47 (ag (x:O)) ar))) (λX X X=> .c q _ bO) (λj x X=>x<2^b/\∀n∈aF j (F e T []),Sb (F d n 0) x) 0 () a ⟨vc b,λn h=>bG h⟩ (λX X X I a=>l a) ?_ ?_
  .refineλj n x X I N t g a H=>o a<|Co Ã<|Hj (Á T n<|aP t) ⟨⟨cp _,cp _⟩,H _ () I ⟨oL g.1<|jv Å n,λm hw=>?_⟩ a⟩
   rw [fR t] at hw;rcases ma hw with hw|hw
   .exact(g.2 m hw).Bm
   .exact W (ms hw)<|Sb.wM λX Z=>Z
  .intro x _ I g a;rw [dJ] at g;have L:y∉aF T c:=λZ=>by refine bp (gs.mp Z) λN l=>?_;have o:=gl l;rw [dU] at o;have o:=cc o<|m4 _ _;rw [ha,aJ o] at l;obtain⟨k,b⟩:=ka.mp l;obtain⟨n,t⟩:=ka.mp v;exact fH o<|(Bi<|s V).mp<|af b t.symm
   have m:U (iV M)=U (aF T c):=W du<|W (B V)<|W dU<|W (gq<|bU Æ) Y;have Z {y:aa O} {q:O} (h:Jm b d e T M) (N:q<2^b) (g:F e T []=y) (p:∀x∈y,Sb (F d x 0) q):Jm b d e (T+1) (M++[q]):=by
    refine bY (by refine W a3<|W (h V) ?_;rfl) (λf k=>?_) λj r x l=>?_
    .rcases ma k with k|k
     .exact(h J1) f k
     .exact W (ms k) N
    .refine W (zc<|h V) ?_;rcases iN.mp r with z|z
     .exact W (aS<|fH z)<|(h J2) j z x l
     .refine W (aJ z) ?_;rw [z,g] at l;exact p x l
   exact u6 a 0 Y uh (W (JW m)<|cF (k9 ..)<|s J2) λC I a=>H _ C I (Z B g.1 Y g.2) (W (fR v)<|ax n9<|ax (IZ L m) a)
 .exactλM C I B a=>Ks (dJ▸a) 0 Y<|h M B
def Bl(G)(b)(N)(a c)(e)(f d)(g h M):=Hh (Q7 G N) (FV G b a) (IL b c) (∀j<U a,∀p k,a[j]?=J (p,k)->∃l m,go b p k=J l/\b[l]?=J m/\RN G N a l (es<|R (·.1) m.mv) (F e j 0) (F f j [])) (∀k<U a,Bo G b N a c d k) (Ke ⟨U a,f,e,G.nT⟩ g) (Ke ⟨U a,aF (U a) d,g,G.nT⟩ h)<|Jm G.nT h (cq (U a+U a) d) (U c) M
def dw.lM(d:dw G T b)(c:b[p]?=J f)(m:s∈f.zR):∃a,iQ b p a/\bH G a=J s:=aA (((d J6) f (aP c) s).mp m) λa e g=>⟨a,⟨f,c,e⟩,g⟩
def dw.key_ne(a:dw G T b)(g:fm){p s:O}(c:b[p]?=J f)(m:s∈f.zR):s≠G.nT:=by obtain⟨d,⟨e,h,j⟩,k⟩:=a.lM c m;exact hI (a.va (aP h) d j) λr d o l n=>λz=>g.acc l (aP<|n J3)<|z▸aP (n.bH▸k)
def UL{b:Type}{a}{d:b}(h:j<m):F (aF m a) j d=F a j d:=by simp only [cZ,cZ,ha,aJ h]
def PZ{b:Type}{a}{d:b}:F (cq m a) j d=F a (m+j) d:=by simp only [cZ,cZ,FD]
def al2(Ô:fm)(d:dw G T k)(Á:∀e m n N a f g c b h Ë M,Bl G k N a f g c b h Ë M->cW m 109=J (gZ<|zE f<|iV M)->Fr p n (.c e (cw 260 m) bO)->q (aj e) n):
 aK (r+6) 260 [q9 G k] p q s:=by
 have t:=Ô.toGW;refine jK Y Y λe v=>?_;have x:=de.hN (o:=cw 260 ar) v;refine a7 Qx (.c 64 _ (.c 249 _ ar)) Y Y<|bP x Y λs x=>XT t λN Ü=>bP x Y λs x=>aV x λÉ s x=>bP x Y λs x=>m8 x λB C s x=>bP x Y λs x=>ej x<|aj3 t d x λa C s H x=>hv (x.base 0 Y) λI x Ã Z=>?_;have m:eQ I (aj É)=J (sz a):=by show mW _=_;exact aq _ (Z 1 _ _ (by decide) Y)
 have n:pP I (aj B)=J (wN a):=by show b4 _ (l5 _)=_;exact W (Z 2 _ _ (by decide) Y) Y
 refine aV x λÄ s x=>bP x Y λs x=>aV x λÇ s x=>bP x Y λs x=>ej x<|Ε t d H Ü m n x λÂ g c s T x=>hv (x.base 0 Y) λv x I Z=>?_;have m:=ik I m;have n:=KY I n;have À:eQ v (aj Ä)=J (iV g):=by show mW _=_;exact W (Z 1 _ _ (by decide) Y) Y
 have o:xG v (aj Ç) c:=by refine⟨fP Â,by show mW _=_;exact aq _ (Z 2 _ _ (by decide) Y),λq L p=>?_⟩;have Å:=e8 (d:=0)<|W (T V)<|gl p;exact⟨_,rU Å,by show mW _=_;exact aq _ (Z (q+3) _ _ vX (pj Å p))⟩
 have Æ:=Ã.Jr I;refine ej x<|cb (ik x m) ?_;have Ê:U (sz a)<cu:=W vo<|H J2;refine W3 x (λÓ s r=>ik r m) Ê λÈ z s I x=>d3 x 1 Y Y (bl Y) λs x=>aM x 1 Y<|cb (ik x m)<|W3 x (λÓ s r=>ik r m) Ê λl Ì s Í x=>d3 x 2 Y Y (bl Y) λs x=>m8 x λÎ C s x=>?_;have x:=x.bN;refine d3 x 3 Y Y (bl Y) λs x=>aM x 3 Y ?_;have x:Fr v s (ox G k N ⟨e,É,B,Ä,Ç,È,l,Î⟩ z Ì [] [] C<|dM (U<|z++(Ì++[])) []):=by unfold ox;exact W (dB ..)<|W a3<|W I<|W Í<|ax List.replicate_append_replicate<|ax (aex<|by rw [ir,I]) x
 rw [vo] at I Í;refine ţ t d H Ü m n I Í (λk s X r v I=>d.lM v I) (λÏ Ð Ñ Ò Z=>?_) (λk s I=>?_) x λf ls C b s j Õ x=>?_
 .rw [Z,Ô.r0] at Ñ;obtain rfl:=aC Ñ;exact kq _ Ò
 .refine dC (((H J1) k s).mp I) λI Z=>aA Z λr v Ö=>?_;exact yf I λZ=>d.key_ne Ô v Ö Z.symm
 refine hv (x.base 3 Y) λd x v Z=>?_;have Ø:xG d (aj È) (aF (U a) b):=by refine⟨fP z,by show mW _=_;rw [Z 2 _ _ (ao Y) Y];rfl,λq L p=>?_⟩;have I:=gl p;rw [dU] at I;have I:=cc I<|m4 _ _;rw [ha,aJ I] at p;exact aA (j.v I) λI Ù Ú=>⟨_,rU Ù,by show mW _=_;rw [Z (q+4) _ _ (ih<|lB 4 q) (pj Ú p)];rfl⟩
 have Û:∀y<U f,∃l,ls[y]?=J l/\d l=J (az<|iV<|F (cq _ b) y []):=λy l=>by refine aA (j.l l) λI Ù Ú=>⟨I,Ù,Z (U a+U a+y+4) _ _ (ih<|lB 4 _) (pj Ú ?_)⟩;rw [PZ];exact e8 (by rw [j J3];exact tv l _)
 have o:xG d _ c:=aA o λz l q=>⟨z,ik v l,λy L p=>(q y L p).imp λt C=>br C.1<|ik v C.2⟩;refine ej x<|s8 (ik x<|ik v m)<|HQ vo<|ej x<|ej x ?_;have m:∀{I} {b} {s} {Ó},xG d I b->Fr d s Ó->xG s I b:=λd r=>aA d λz l q=>⟨z,ik r l,λy L p=>(q y L p).imp λt C=>br C.1<|ik r C.2⟩;have I:∀B<U a,∃k t,a[B]?=J (k,t):=λB n=>⟨_,_,bK n⟩;refine E_ (a:=⟨U a,c,g,G.nT⟩) (m o x) (ik x<|ik v À) (H J2) (T J2) (T J1) (T J3) (λL p q r=>?_) λh z=>?_
 .exact DG (I L p) λk t C=>gv ((T J4) L p k t C) λX X X X Ï=>(Ï J3) q r
 refine bP x Y λs x=>ej x<|ej x<|E_ (a:=⟨U a,aF (U a) b,h,G.nT⟩) (m Ø x) Y (H J2) (by rw [dU,j J3,cx,gq<|dO _ _]) (z V) (z J1) (λL p q r=>?_) λË l=>?_
 .have r:q∈F (aF (U a) b) L []:=r;rw [UL p] at r;exact(j J5) J1 L q r
 refine bP x Y λs x=>ej x<|acz x Y Y (Z 0 _ _ (ao Y) Y) (j J4) (j J2) (by rw [wO,j J3,uP]) Û (λy L p=>?_) (l J1) λM d=>?_
 .exact W (l V)<|(j J5) J1 _ L (PZ▸p)
 exact bP x Y λs x=>bc ⟨Y,bc<|Á e _ s N a f g c b h Ë M (ui Ü H (j J4) (T J4) Õ z l d) Y ((Æ.Jr v).Jr x)⟩
inductive FT(G:Gr):O->O->Prop
|t {t:O} (h:t<G.nT):FT G t t|r {a:Ru} {t:O} (b:aa O) (c:O) (d:aa O) (h:a∈G.a5) (e:a.aQ=b++c::d) (n:∀y∈b,m7 G y) (f:FT G c t):FT G a.aY t
inductive Fs(G:Gr)(c:aa O)(t:O):Prop
|mk (a:aa O) (b:O) (d:aa O) (e:c=a++b::d) (n:∀y∈a,m7 G y) (f:FT G b t)
def Rat(G:Gr)(b:aa FS)(p r:O)(a:Ru):Prop:=fF (∃c,iQ b p c/\bH G c=J a.aY) (G.a5[r]?=J a)<|a.aY≠G.nT
def Gn(G:Gr)(b:aa FS)(p r:O)(a:Ru)(c d q:O):Prop:=hK (Rat G b p r a) (a.aQ[c]?=J d) (G.nT<=d)<|pv b p (aF c a.aQ)=J q
def EL(G)(b)(c a:O->O->O->Prop):=hK (∀p r d e f q,Gn G b p r d e f q->∀t,Fs G (cq (e+1) d.aQ) t->a q f t) (∀p r d e f q,Gn G b p r d e f q->(∀y∈cq (e+1) d.aQ,m7 G y)->∀t,a p d.aY t->a q f t) (∀p r d q t,Rat G b p r d->pv b p d.aQ=J q->a p d.aY t->c q r t)<|a 0 G.iU 0
def CS(a:aa<|O×O)(M)(q r t):=∃j,a[j]?=J (q,r)/\eH (F M j 0) t=Q
def A0(G)(b)(a)(M):=hK (IL b a) (U M=U a) (∀f∈M,f<2^G.nT)<|∃c,EL G b (CS a M) c
def FT.bit(h:Iy G c){a b}(f:FT G a b):eH (F c a 0) b=true:=f.rec (λd=>(h J2) _ d) λe a g j k n f l=>(h J3) _ j e a g k n _ l
def ahy:Sb (F a y 0) (pV b N a c y):=by
 unfold pV;split
 .exactλZ q=>q
 .cases F N y u with
  |true=>exact Sb.wM λZ q=>q|false=>exactλZ q=>q
def m7.ge(a:e6)(h:m7 G y):G.nT<=y:=by induction h with|mk r b _=>exact(a.lt r b).1.1
def akV(a:e6)(b:uE N)(h:m7 G y):Sb c (pV G.nT N d c y):=by unfold pV;exact W (aS<|ak fU<|h.ge a)<|W ((b J1) y h)<|Sb.Bm λZ q=>q
def El(a:O)(N:aa ba)(b:aa O)(c:O)(d:aa O):Nat:=jb c (λy Z e=>pV a N b e y) d
def Y7(b:e6)(c:uE N)(h:∀y∈a,m7 G y):Sb (El G.nT N d e f) (El G.nT N d e<|a++f):=by
 induction a with
 |nil=>exactλZ q=>q|cons y r g=>exact(g λz j=>h z<|cz _ j).sG<|akV b c<|h y (b8 ..)
def T4(a:e6)(b:uE N)(c:Iy G d)(h:Fs G e t):eH (El G.nT N d f e) t=true:=by
 induction h with|mk g j k e n f=>
 exact W e<|Y7 a b n t<|ahy t<|f.bit c
def ŝ:∀{a} {c} {b},qL d N e f (f3 b++a) c->qL d N e f a (El d N e c b):=by
 intro a c b
 induction b generalizing a with
 |nil=>exact id|cons y r g=>intro h;rw [FO,dy] at h;exact(g h).2
def y'{b:Ru}(e:qL G.nT N f d (f3 b.aQ)<|F d b.aY 0)(g:b.aQ[a]?=J c)(h:G.nT<=c):Sb (El G.nT N f (F d b.aY 0)<|cq (a+1) b.aQ) (F d c 0):=by
 have j {k:aa O} (l:k[a]?=J c):f3 k=f3 (cq (a+1) k)++c::f3 (aF a k):=by
  have m:k=aF a k++c::cq (a+1) k:=by simp only [<-JJ l,vE]
  have n:=aq f3 m;rw [Ji,FO,dy] at n;exact n
 rw [j g] at e;exact ax ((ŝ e).1 h)<|Sb.wM λZ q=>q
def dw.end_(c:dw G T a)(g:fm)(h:Rat G a p r b)(d:pv a p b.aQ=J q):∃f,a[q]?=J f/\r∈f.rd:=by refine aA (h V) λe j e=>aA (c.FY (g:=b.aY) j e (h J1) (U b.aQ)<|bb _) λk l m=>?_;rw [dJ,d] at l;refine W (aC l) ?_;have n:=gV (h J1)<|bb _;refine c.red m n (W n.bH<|iB<|bb _) λz=>(h J2) ?_;have o:G.a5[r]?=_:=h J1;rw [z,g.r0] at o;exact ax (aC o) Y
inductive FR(G:Gr)(a:aa FS):O->O->Prop
|t {g t:O} (h:t<G.nT) (k:∃q,go a g t=J q):FR G a g t|c {g t:O} (C b:O) (h:go a g C=J b) (n:m7 G C) (f:FR G a b t):FR G a g t
def dw.h'(f:dw G T b)(h:G.a5[r]?=J c)(j:∀g e,iQ b g e->bH G e=J k->FR G b g t):∀a (g d:O),iQ b g (c8 G r+d)->cq d c.aQ=a++k::l->(∀y∈a,m7 G y)->FR G b g t:=by
 intro a;have m:∀{d y} {n},cq d c.aQ=y::n->bH G _=J y/\cq (d+1) c.aQ=n:=λ{d y n} e=>by
  have o:c.aQ[d]?=J y:=by refine ax (Dc)<|W e ?_;rfl
  exact⟨W (gV h<|bU<|gl o).bH o,by refine ax B1<|W e ?_;rfl⟩
 refine a.rec (λg d h e Z=>j g _ h (m e).1) λy a p=>λg d h e n=>?_;have q:=m e;exact aA (f.pO h q.1) λs v x=> .c y s v (n y (b8 ..))<|p s _ x q.2 λz B=>n z<|cz _ B
def dw.fr(b:dw G T c)(f:FT G d t):∀g a,iQ c g a->bH G a=J d->FR G c g t:=f.rec (λh=>λg a e j=> .t h<|(b.pO e j).imp λq h=>h.1) λk d l m j n f o=>λg a e p=>bp (gs.mp m) λr m=>b.h' m o k g 0 (b.Nq e p m) j n
def Bl.tr(l:Bl G c N b e f g h k m M)(d:go c p a=J o)(n:G.nT<=a):∃j,b[j]?=J (p,a)/\j<U b:=aA (wx d) λf q e=>bp (gs.mp<|ak ((l J1) J1 p a) ⟨n,f,q,hY<|qc e⟩) λj r=>⟨j,r,gl r⟩
def Bl.rd1(b:e6)(l:Bl G c N d h k m n e o M)(f:FR G c g t):∀j p a,d[j]?=J (p,a)->go c p a=J g->eH (F e j 0) t=true:=by
 induction f with
 |t h k=>intro j p a q r;have s:=gl q;refine gv ((l J3) j s p a q) λv f x y z=>?_;obtain rfl:=aC<|af r.symm x;exact bp k λB C=>(l J5) J2 j s _ ((z J1) _ (ak iu<|hY<|qc<|af (yR y).symm C) h)|c C v h n f H=>intro j p a q r;have s:=gl q;refine gv ((l J3) j s p a q) λI f x y z=>?_;obtain rfl:=aC<|af r.symm x;exact aA (l.tr h<|n.ge b) λL T Z=>(l J5) J3 j s L ((z J2) C (ak iu<|hY<|qc<|af (yR y).symm h) (n.ge b) ((l V) J1 C n) L T) _ (H L _ C T h)
def ahd(g:fm)(a:dw G T b)(l:Bl G b N c e m n d h f M):EL G b (CS e M) λp k t=>∃j,c[j]?=J (p,k)/\eH (F f j 0) t=true:=by
 have o:=g.toGW;have q:∀{r s v t},go b r s=J v->G.nT<=s->FR G b v t->∃j,c[j]?=J (r,s)/\eH (F f j 0) t=true:=λx n f=>aA (l.tr x n) λj y z=>⟨j,y,(l J6) J2 j z _ (l.rd1 o f j _ _ y x)⟩;have B:∀{p C H},Rat G b p C H->∀{I},c[I]?=J _->BD G b N c e d I p C H:=@λp C H L I Z=>(l J4) I (gl Z) V _ _ Z _ (ak uV ⟨_,L J1,Y⟩) _ (L J1)
 refine dS (λp C H M s r L t T=>?_) (λp C H M s r L m t T=>?_) (λp C H r t L e T=>?_) ?_
 .have N:=gl<|L J1;refine aA (L V V) λp t C=>aA (a.FY (g:=H.aY) t C (L V J1) M<|bU N) λk H t=>ax (aC<|af H.symm<|L J3)<|aA (a.pO t<|W (gV (L V J1)<|bU N).bH<|L J1) λv x C=>q x (L J2) ?_
  induction T with|mk k N H t n f=>
  exact a.h' (L V J1) (a.fr f) k v _ C t n
 .refine aA T λI Z N=>aA ((B (L V) Z) V M (gl<|L J1) V s r (L J1) (L J3) (L J2) λH v=>(l V) J1 H<|m H v) λj y m=>?_;have z:=gl y;have m:I∈DP.r ⟨U c,aF (U c) d,h,G.nT⟩ j:=by show I∈F (aF (U c) d) j [];exact W (UL z) m
  exact⟨j,y,(l J6) J3 j z I m _ N⟩
 .exact aA T λI Z N=>aA ((B L Z) J1 r e) λj y m=>⟨j,y,(l J7) J2 j (gl y) I (W PZ m) _ N⟩
 .refine aA (a J1) λn f C=>?_;have k:=u3 g;have p:iQ b 0 0:=⟨n,f,a.Gb (aP f) 0<|W C hf⟩;refine aA (a.pO p k.bH) λt x s=>q x (bU g.st)<| .t (cc (ao Y) o.t3) ?_;have M:=(gV g.r0 (d:=1)<|bl Y).bH;rw [<-k.c8] at M;exact(a.pO s M).imp λr L=>L.1
def ae4(g:fm)(b:dw G T c)(h:∀a M,A0 G c a M->d (gZ<|zE a<|iV M) e):aK (n+7) 273 [q9 G c] e d f:=
(by exact a7 R6 (.c 249 _ ar) Y Y<|al2 g b λj k s l m o p q r t v x y z B=>ej B<|Co z<|m9 B<|(λN C a H I L Z c M d=>h a M<|dS (d J2) ((d J7) V) ((d J7) J1) ⟨_,ahd g b d⟩) l m o p q r t v x y)
def Aj(G:Gr)(b)(a:aa<|O×O)(M):=fF (U M=U a) (∀f∈M,f<2^G.nT)<|∀j q r,a[j]?=J (q,r)->∀c,G.a5[r]?=J c->F M j 0=F b c.aY 0
def Aj.add(h:Aj G b a M)(e:G.a5[r]?=J c)(d:F b c.aY 0<2^G.nT):Aj G b (a++[(k,r)]) (M++[F b c.aY 0]):=by
 have f {a:aa<|O×O} {M:aa O} (g:U M=U a) (d:∀j∈M,j<2^G.nT) (l:∀m q r,a[m]?=J (q,r)->∀c,G.a5[r]?=J c->F M m 0=F b c.aY 0):Aj G b a M:=bY g d l;refine f (by simp only [a3,a3,h V];rfl) (λj n=>?_) λm q o p s t=>?_
 .rcases ma n with n|n
  .exact(h J1) j n
  .exact W (ms n) d
 .refine W (zc<|h V) ?_;rcases h0 m (U a) with z|z
  .exact W (aS<|fH z)<|(h J2) m q o (hb z▸p) s t
  .rw [hV z] at p;have m:=ms<|aP p;cases m;cases af e.symm t;exact aJ<|hL (zw<|BX.mp<|gl p) z
def aco(g:fm)(c:dw G T a)(h:∀b M,A0 G a b M->d (gZ<|zE b<|iV M) e):aK (n+5) 257 [q9 G a] e d f:=by
 have j:=g.toGW;refine a7 Rv (.c 249 _ ar) Y Y<|aax j (λn e d k=>XT j k) λN l m o p fo=>m8 de λq e s r=>cb Y<|cv Al (λX X X=> .c 249 _ _) (λX (t:aa _×aa O) e=> .c q (dD (zE t.1<|iV t.2) e) bO) (λv t X=>kg (λX=>bh) FS.rd a v [] t.1/\Aj G m t.1 t.2) ([],[]) e r ⟨.mQ,bY Y (λX h=>bG h) λX X X h=>aI h⟩ (λX X X X X=>rfl) ?_ ?_
 .intro v f t e s x y z r B;have C:=c.wd j<|aP y;refine cb Y<|cv d5 (λX X X=> .c 249 _ _) (λX (t:aa _×aa O) e=> .c q (dD (zE t.1<|iV t.2) e) bO) (λH t X=>kg _ FS.rd a v (aF H f.rd) t.1/\Aj G m t.1 t.2) t e r z (λX X X X X=>rfl) ?_ ?_
  .intro H I t e s x L z r B;obtain⟨b,M⟩:=t;rw [fR L] at B;have Z:=z.1.add a0<|E1 C.1 L;refine dC (C.2.1 I<|aP L) λX T=>aA T λd n X=>?_;have N:d.aY<U m:=W ((fo V) V) (j.lt d<|aP n).1.2;have x:U (iV M)=U b:=W du<|z.2 V;exact bJ Y (Ao n)<|Hj N<|u6 r 0 Y (d:=pK (v,I)) uh (W (JW x)<|z.1.lim (fe (gl y)<|c J2)<|ae (k9 ..) C.2.2) λe s r=>B (b++[(v,I)],M++[F m d.aY 0]) e s ⟨Z.2,z.2.add n<|jv ((fo V) J1) _⟩<|ax n9<|ax (IZ Z.1 x) r
  .intro t e s z r;rw [dJ] at z;exact B t e s ⟨z.1.next y (λX=>E4) C.2.2,z.2⟩ r
 .intro t e s z r;have T:=z.1.end (c J2);have N:EL G a (CS (Rk t)<|gr t) λX b M=>eH (F m b 0) M=true:=by
   have j:=g.toGW;have e:=λ{s v d L B C} (h:Gn G a s v d L B C)=>y' ((fo J1) Y d<|aP<|h V J1) (h J1)<|h J2;refine dS (λs v d L B C h M Z=>e h M<|T4 j o p Z) (λs v d L B C h k M Z=>e h M ?_) (λs v d C M h n Z=>?_) ?_
   .have x:=Y7 j (d:=l) (f:=[]) o k M Z;rw [dB] at x;exact x
   .exact aA (c.end_ g h n) λf y q=>bp (gs.mp<|ak ((T J1) C v) ⟨a0,f,y,q⟩) λH m=>⟨H,m,W ((z.2 J2) H C v m d<|h J1) Z⟩
   .exact y' ((fo J1) Y _ (aP g.r0)) (a:=0) Y (bU g.st) 0<|T4 j o p ⟨[],0,[],Y,λI h=>bG h, .t<|cc (ao Y) j.t3⟩
  exact Ks r 0 Y<|h t.1 t.2<|dS T (z.2 V) (z.2 J1) ⟨_,N⟩
noncomputable def sN(a)(p:O×O):=aD (dI p.1 a) (J (p.1,aD (aE p.1 0) 1048576 p.2)) A
noncomputable def t4(a)(p:O×O):=aD (dI p.1 a) A<|J p
def pg(a)(b:aa<|O×O):=eI (sN a) b
def uI(a)(b:aa<|O×O):=eI (t4 a) b
def zg{b c:Type}{g:b->bf c}{a}{x}:eI g (a++[x])=eI g a++xa (g x):=by
 refine W List.filterMap_append ?_;cases h:g x with
 |none=>exact aq _ (RF h)|some y=>exact aq _ (K8 h)
def ag3(h:s∈R (·.1) (pg a b)):s∈R (·.1) b:=by
 obtain⟨p,c,rfl⟩:=mm h;refine aA (x1.mp c) λq d e=>ak jO ⟨q,d,?_⟩;unfold sN at e;cases z:dI q.1 a with
 |true=>rw [z] at e;exact ax (aC e) Y|false=>rw [z] at e;exact aI e
def adn(h:s∈R (·.1) (uI a b)):s∈R (·.1) b:=by
 obtain⟨p,c,rfl⟩:=mm h;refine aA (x1.mp c) λq d e=>ak jO ⟨q,d,?_⟩;unfold t4 at e;cases z:dI q.1 a with
 |true=>rw [z] at e;exact aI e|false=>rw [z] at e;exact aq _ (aC e)
noncomputable def I3(p:O×O):=[p.1,p.2]
def Hq(a:aa<|O×O):=a.map λp=>aN<|iV<|I3 p
def An(G:Gr)(k:O)(a b):=od 220<| .c 201 G.V<| .c 168 (ag k)<| .c 177 (gZ<|nd nI<|pg G.nT a)<| .c 97 (gZ<|nd nI<|uI G.nT a)<| .c 107 (aN<|Hq b)<| .c 148 (ag 0)<| .c 215 (aN []) ar
def Wr(G:Gr)(k a go:O)(r:aW):aW:= .c 201 G.V<| .c 168 (ag k)<| .c 177 (aj a)<| .c 97 (aj go) r
def Zi(c:Fr d e f)(m)(b):∀a,U b=U a->(∀k x,(hA b a).at k=J x->∃j,f.at j=J x)->gA (kX (x7 d) e<|m+1) (fP b) (a.map λx=>aN<|iV x):=by
 induction b with
 |nil=>intro a h _;induction a with
  |nil=>exact nJ|cons _ _=>cases h
 |cons g r l=>intro a h n;induction a with
  |nil=>cases h|cons x t=>exact bp (n 0 _ Y) λj o=>iz (aw<|aw<|aw ⟨g,Y,c.fb j o,aL ⟨_,_,c.c9 o,Y,j7 (λZ=>dQ m _) _⟩⟩)<|l t (f7 h) λk x e=>n (k+1) x e
def LL(b:aa<|O×O)(M)(k)(c)(a:aa<|O×O):=eY (R (·.1) a=c)<|∀p∈a,∃j,b[j]?=J (k,p.1)/\p.2=F M j 0
def afY(b:e6)(e:dw G T g)(c:A0 G g d M)(j:g[k]?=J f)(h:∀a,LL d M k f.rd a->l (An G k f.mv a) m):aK (n+2) 220 [G.V,Ex k f,gZ<|zE d<|iV M] m l o:=by
 have p:=aP j;have q:=e.Ak b p;refine jK Y Y λr s=>?_;have t:=de.hN (o:=cw 220 ar) s;refine a7 Ma (.c 64 _ (.c 201 G.V<| .c 130 _ (.c 109 _ ar))) Y Y<|bP t Y λs t=>bP t Y λs t=>m8 t λv x s t=>bP t Y λs t=>m8 t λgo y s t=>bP t Y λs t=>LV ?_;refine cv (e:=f.mv) (o:=λX z=>ag z.1) (λk=>by refine W ya ?_;unfold iV;simp only [cg,cg,TG];rfl) (λX X X=> .c 64 _ _)
  (λB x y=> .c r (cw 220<|Wr G k v go ar)<| .c v (dD (nd nI<|pg G.nT<|aF B f.mv) x)<| .c go (dD (nd nI<|uI G.nT<|aF B f.mv) y) bO) (λX X X=>bh) x y t a0 (λX X X X X=>MO) ?_ ?_
 .intro B z x y s C H _ t I;have I:=λx y s=>I x y s a0;rw [fR H] at I;unfold pg uI at I;rw [zg,zg] at I;have L:(R (·.1) f.mv)[B]?=J z.1:=by simp only [cg,H];rfl
  have N:z.1∉(aF B f.mv).map (·.1):=W tq<|E1 q.1 L;have Z:cK f.mv z.1=J z.2:=by refine bp (Ax<|aP L) λl m=>bp (Em m) λT n=>?_;have:=yg q.1 L (j:=T) (by simp only [cg,n];rfl);rw [this,n] at H;exact W m<|aq (λo=>J o.2)<|aC H
  have l:∀(g:O×O->bf (O×O)),U ((aF B f.mv).filterMap g)<=1000:=λg=>ae (AQ ..)<|ae (k9 ..) (by have:=q.2.2;rw [bC] at this;exact ae this<|by decide)
  have L:=ak lG λm=>N<|ag3 (a:=G.nT) m;refine hj (λm=>?_) λm=>?_
  .refine ej t<|yZ t 1 nI 1048576 Y Y (l _) λx s t=>?_;have T:dI z.1 G.nT=true:=by rw [m,kS];exact eZ<|cc (ao Y) b.t3
   rw [show sN G.nT z=J (z.1,1048576) by unfold sN;refine W T<|W m ?_;rfl,show t4 G.nT z=A by unfold t4;refine W T ?_;rfl,show xa (A:bf _)=[] from Y,dB] at I;exact I x y s<|sQ L▸t
  .refine hZ (λT=>?_) λT=>?_
   .refine tE Y pW (by simp only [r3,Z];rfl)<|ej t<|yZ t 1 nI z.2 Y Y (l _) λx s t=>?_;have T:dI z.1 G.nT=true:=W kS<|eZ T;rw [show sN G.nT z=J _ by unfold sN;rw [T,d4 m];rfl,show t4 G.nT z=A by unfold t4;refine W T ?_;rfl,show xa (A:bf _)=[] from Y,dB] at I;exact I x y s<|sQ L▸t
   .refine tE Y pW (by simp only [r3,Z];rfl)<|ej t<|yZ t 2 nI z.2 Y Y (l _) λy s t=>?_;have T:dI z.1 G.nT=false:=W kS<|gh<|ak fU T;rw [show sN G.nT z=A by unfold sN;refine W T ?_;rfl,show t4 G.nT z=J _ by unfold t4;refine W T ?_;rfl,show xa (A:bf _)=[] from Y,dB] at I;exact I x y s<|sQ (ak lG λm=>N<|adn m)▸t
 .intro x y s _ t;rw [dJ] at t;refine aV t λT s t=>bP t Y λs t=>cb Y ?_;refine cv d5 (λX X X=> .c 64 _ (.c 130 _ (.c 109 _ ar))) (λX (n:aa O) a=> .c r (cw 220<|Wr G k v go _)<| .c v _ (.c go _ (.c T (az<|fP n)<|hA n<|R I3 a)))
   (λB n a=>LL d M k (aF B f.rd) a/\U n=U (R I3 a)) [] [] t ⟨cj Y λz h=>bG h,Y⟩ (λX X X X X=>rfl) ?_ ?_
  .intro B o n a s C q H t I;rw [fR q] at I;refine bp (gs.mp<|ak ((c V) J1 k o) ⟨a0,f,j,aP q⟩) λg y=>?_;have N:g<U M:=W (c J1)<|gl y;have Z:U a<=12:=by have:=aq U<|H.1 V;rw [bC] at this;exact W this<|ae (k9 ..) (e.wd b p).2.2
   refine ej t<|cH t 3 Y<|⟨uh (p:=(k,o)),W (FU ((c V) V) y (fV<|e8 N):dV _ _=J (ag (F M g 0:O)))<|aV t λl s t=>dF t 3 Y (by simp only [D4,H.2,bC];exact cf<|ae Z<|by decide) λs t=>I (n++[l]) (a++[(o,F M g 0)]) s ⟨cj (by simp only [dv,H.1 V];rfl) λz L=>?_,by simp only [dv,a3,a3,H.2];rfl⟩ ?_⟩
   .exact aO (ma L) (λL=>(H.1 J1) z L) λL=>W (ms L)<|⟨g,y,Y⟩
   .rw [dv,<-Hc];exact ax (Ua H.2) t
  .intro n a s H t;rw [dJ] at H;refine bP t Y λs t=>aV t λm s t=>?_;have t:=t.bN;refine d3 t 1 Y Y (bl Y) λs t=>bc ⟨Y,mK t 4 (aw<|aw<|aw ⟨r,Y,t.fb 1 Y,aw<|aw ⟨_,_,_,t.c9 (k:=1) Y,Y,⟨_,_,Y,dQ 3 _,_,_,Y,dQ 3 _,_,_,Y,?_,_,_,Y,?_,_,_,Y,?_,_,_,Y,dQ 3 _,_,_,Y,?_,Y⟩⟩⟩)<|h a H.1⟩
   .exact aw<|aw<|aw ⟨v,Y,t.fb 2 Y,aw<|aL ⟨_,_,_,t.c9 (k:=2) Y,Y,j7 (λX=>⟨Y,dQ 2 _⟩) _⟩⟩
   .exact aw<|aw<|aw ⟨go,Y,t.fb 3 Y,aw<|aL ⟨_,_,_,t.c9 (k:=3) Y,Y,j7 (λX=>⟨Y,dQ 2 _⟩) _⟩⟩
   .refine aw<|aw<|aw ⟨T,Y,t.fb 4 Y,aL ⟨_,_,t.c9 (k:=4) Y,Y,?_⟩⟩;have:=Zi t 1 n _ H.2 λk d x=>cL (k+5) x;rw [jD] at this;exact this
   .exact aw<|aw<|aw ⟨m,Y,t.fb 0 Y,aL ⟨_,_,t.c9 (k:=0) Y,Y,nJ⟩⟩
def ahA{r t:O}(c:G.a5[r]?=J d)(h:b bk a):aK (n+1) 176 [G.V,ag r,ag t] a b e:=by
 refine a7 Ow _ Y Y ?_;have f:∀g,ip [] (ag g):=λg=>br rfl<|λe h=>bG h;have j:∀Z (b:QT) a,b bk a->lI pI (gZ []) _ a b:=λg b a h=>by refine W pU ?_;exact br (f g) h
 have k:∀a (l:Prop),l->pD pI (gZ []) a l:=λa l h=>by refine W rF ?_;exact h
 refine k _ _ (bJ Y (Ao c)<|j _ _ _ (k _ _ (j _ _ _ ⟨Y,bc h⟩)))
def YT{a:aa<|O×d}{b:ba->Prop}(c:b<|d7<|cK a s):mX (ag s) (gZ<|nd g a) e b:=by refine W q8<|⟨pW,?_⟩;simp only [r3,K?];exact c
def U7(j:O):(Hq a)[j]?=(a[j]?).map λp=>aN (iV<|I3 p):=cg ..
def IC(G:Gr)(a:aa<|O×O):=hK (∀p∈a,0<p.1/\p.1<U G.a5) (∀p∈a,p.2<2^G.nT) (bw<|R (·.1) a)<|U a<=9
def air(r:∀p∈a,0<p.1/\p.1<U G.a5)(m:∀p∈a,p.2<2^G.nT)(nd:bw<|R (·.1) a)(l:U a<=9):IC G a:=dS r m nd l
def ad9(a:e6)(l:IC G b)(h:c bk d):aK (n+2) 414 [An G k e b] d c f:=by refine a7 SS (.c 64 _ ar) Y Y<|cb Y<|cv U7 (λZ Z Z=> .c 64 _ ar) (λZ Z Z=>bO) (λZ Z Z=>bh) () () de a0 (λZ Z Z Z Z=>rfl) (λj p Z Z s g m Z o q=>?_) λZ Z s Z o=>m9 o h;have r:=aP m;exact bJ Y Y<|FZ (a.Kj<|(l J1) p r) λt Z Z Z=>cb Y<|cv d5 (λZ Z Z=> .c 64 _ _) (λZ Z Z=>bO) (λZ Z Z=>bh) () () o a0 (λZ Z Z Z Z=>rfl) (λv t Z Z s g x Z o q=>YT<|ef (λZ=>bJ Y Y<|ahA (bK ((l V) p r).2) ⟨Y,q () () s a0 o⟩) λZ=>br rfl<|q () () s trivial o) λZ Z s Z o=>q () () s trivial o
def Yj(h:Fr e f a)(k)(g:a.at k=J (j,az<|zV b))(l:c<U b)
 (m:∀d,Fr e d (a.g8 k<|az<|zV<|c2 b c n)->K d):qe (aj j) (ag c) (ag n) f K:=qC h k g (W EH l)<|k!▸m
def R3(l:a<U b)(c:d (ag<|F b a 0) e):ko (aN<|zV b) (ag a) e d:=bJ Y (Dx<|e8 l) c
def G'(b)(c:aa<|O×O)(a):=eY (U a=b)<|∀t<b,(∃p∈c,eH p.2 t=Q/\F a t 0= -(p.1:au))\/(F a t 0=0/\∀p∈c,eH p.2 t=u)
def a'(a)(c d:aa<|O×O)(b:aa au):=fF (U b=a) (∀t<a,∀v,cK (pg a c) t=J v->F b t 0=(v:O))<|∀t<a,cK (pg a c) t=A->(∃p∈d,eH p.2 t=Q/\F b t 0= -(p.1:au))\/(F b t 0=0/\∀p∈d,eH p.2 t=u)
def BM(b)(v:O->au)(c:aa O)(a):=fF (U a=U b) (∀t∈c,F a t 0=v t)<|∀t,t∉c->F a t 0=F b t 0
set_option tactic.hygienic true in
def BM.add(h:BM b v c a)(l:t<U b):BM b v (c++[t]) (c2 a t<|v t):=by
 have g:∀s,F (c2 a t<|v t) s 0=if t=s then v t else F a s 0:=λs=>gL<|W (h V) l
 refine bY (W ni<|h V) (λs d=>?_) λs d=>?_
 .refine W (g ..) ?_;split
  .rename_i e;exact aq _ e
  .rename_i e;exact(h J1) s<|aO (ma d) id λz=>ay (ms z).symm e
 .exact W (g ..)<|W (aS λe=>d<|fx _ (ak qp e.symm))<|(h J2) s λz=>d<|gE _ z
def ad8(c:e6)(l:IC G d)(f:∀t∈R (·.1) (pg G.nT b),t<G.nT)(h:∀a,a' G.nT b d a->g (aN<|zV a) e):aK (n+2) 356 [An G k b d] e g j:=by
 refine a7 LN (.c 64 _ ar) Y Y<|aV de λm s o=>hF o ⟨⟨Y,cp _,bU<|cf<|ae (bU c.nT)<|ae c.nS<|ao Y⟩,aV o λp s o=>?_⟩;have o:Fr e s (.c p (az<|zV _) bO):=W (show zV _=dM G.nT _ from G9) o.tl;have q:G' G.nT [] (dM G.nT 0):=cj ir λt r=>aw ⟨by refine W (cZ)<|W (tW)<|W (aJ r) ?_;rfl,λv h=>bG h⟩;refine cv (λk=>by exact ax B8 (cg ..)) (λX X X=> .c 64 _ _) (λX a X=> .c p (az<|zV a) bO) (λj a X=>G' G.nT (aF j<|f3 d) a) _ () o q (λX X X X X=>rfl) ?_ ?_
 .intro j v a _ s x y z o B;have C:=vZ.mp<|aP y;refine bJ Y Y<|FZ (c.Kj<|(l J1) v C) λH I X X=>cb Y<|cv d5 (λX X X=> .c 64 _ _) (λX a X=> .c p (az<|zV a) bO) (λL M X=>BM a (λX=> -(v.1:au)) (aF L H) M) a () o (bY Y (λt h=>bG h) λX X=>rfl) (λX X X X X=>rfl) ?_ ?_
  .intro L t M _ s x r N o B;have T:t<U a:=W (z V)<|zW λq=>bR<|Nat.testBit_lt_two_pow (cc ((l J1) v C)<|B6 (ao Y) q)▸(I t).mp (aP r);exact bJ Y Y<|Yj o 0 Y (W (N V) T) λs o=>B _ () s (W (fR r)<|N.add T) o
  .intro M _ s N o;rw [dJ] at N;refine B M () s ?_ o;exact W (fR y)<|(by
    refine cj (af (N V)<|z V) λt r=>?_;cases e:eH v.2 t with
    |true=>exact aL ⟨v,fx _ hf,e,(N J1) t<|ak (I t) e⟩|false=>
     refine W ((N J2) t λZ=>bR<|af e.symm<|(I t).mp Z)<|((z J1) t r).imp (λg=>aA g λq n m=>⟨q,gE _ n,m⟩) λd=>dC d λm y=>br m<|λq n=>?_;rcases ma n with n|n
     .exact y q n
     .exact W (ms n) e)
 .intro a _ s z o;rw [dJ] at z;refine LV<|cv (λk=>by refine W ya ?_;exact cg ..) (λX X X=> .c 64 _ (.c 14 _ ar)) (λX a X=> .c p (az<|zV a) bO) (λL M X=>BM a (λt=>((dN (cK (pg G.nT b) t) 0:O):au)) ((R (·.1)<|pg G.nT b).take L) M) a () o (bY Y (λt h=>bG h) λX X=>rfl) (λX X X X X=>MO) ?_ ?_
  .intro L t M _ s x r N o B;have c:=aP r;have T:t<U a:=W (z V)<|f t c;refine bp (Ax c) λv l=>tE Y pW (by refine W r3<|W l ?_;rfl) ?_;refine Yj o 0 Y (W (N V) T) λs o=>B _ () s ?_ o;have C:=N.add T;refine W (fR r) ?_;simp only [l,Option.getD_some] at C;exact C
  .intro M _ s N o;rw [dJ] at N;refine FZ (ao Y) λH I X X=>?_;refine W (ak List.eq_nil_iff_forall_not_mem λm Z=>bR<|af ((I m).mp Z).symm<|vb m)<|cb Y<|cv d5 (λX X X=> .c 64 _ _) (λX X X=> .c p _ bO) (λX (_ _:j4)=>bh) () () o a0 (λX X X X X=>rfl) (λj m X X X X h=>aI h) λX X s X o=>jg o 0 Y<|h M<|bY (af (N V)<|z V) (λt r v l=>?_) λt r g=>?_
   .have:=(N J1) t<|hY<|qc l;refine W this ?_;show((dN (cK _ t) 0:O):au)=_;exact W l Y
   .exact W ((N J2) t<|lG.mp g)<|((z J1) t r).imp (λd=>aA d λq n m=>⟨q,vZ.mp n,m⟩) λb=>dC b λm y=>br m<|λq n=>y q<|ak vZ n
def χ(h:eH m t=Q->a)(b:eH m t=u->B):dH (!eX ((m&&&2^t:O):au) ((0:O):au)) a B:=by
 have e:m&&&2^t=0↔eH m t=false:=by
  refine⟨λz=>?_,λz=>Nat.eq_of_testBit_eq λc=>?_⟩
  .have d:=aq (λx=>eH x t) z;rw [T3,QO,R5,vb] at d;exact d
  .simp only [T3,M9,vb]
   by_cases q:t=c
   .rw [<-q,z];rfl
   .simp only [gh q,qt]
 refine yW (λq=>?_) λq=>b<|e.mp q;cases z:eH m t with
 |true=>exact h z|false=>exact ay (ak e z) q
def N'(h:∀v,a v b):aK (n+2) 219 [c,d,e,f,g] b a j:=by refine jK Y Y λk l=>?_;have m:=de.hN (o:=cw 219 ar) l;exact a7 O2 _ Y Y (bP m Y λs m=>bP m Y λs m=>bP m Y λs m=>bP m Y λs m=>bP m Y λs m=>bc ⟨Y,ES m 0 Y<|h _⟩)
noncomputable def Ad(t)(p:O×O):=aD (eH p.2 t) (J p.1) A
def rl(a:aa<|O×O)(t):=eI (Ad t) a
def B?(b)(c a)(t):=eY (rl a t=[]\/cK (pg b c) t=A)<|U (rl a t)<=1
def Tu(b)(c d)(k)(a:aa ai):=eY (a=[]->∀t<k,B? b c d t)<|U a<=k*9
def CZ(h:a++b=[]):a=[]/\b=[]:=List.append_eq_nil_iff.mp h
def ab3(b:c<=d+j)(e:d<=f+(r-g))(h:j<=r-1)(k:f<=54)(a:r<=9):c<=1000:=by have l:r-g<=9:=ae (lT ..) a;exact ae b<|ae (dZ (ae e<|dZ k l)<|ae h<|ae (lT ..) a)<|ao Y
def ag0(m:e6)(e:G.nT<=6)(l:IC G b)(j:U f=G.nT)(h:∀a,Tu G.nT d b G.nT a->g (aN a) c):aK (n+3) 400 [An G k d b,aN<|zV f] c g o:=by
 refine a7 MN (.c 64 _ (.c 14 _ ar)) Y Y<|aV de λp s q=>⟨mR<|ae e<|ao Y,cv mU (λX X X=> .c 64 _ (.c 14 _ _)) (λX a X=> .c p (az a) bO) (λk a X=>Tu G.nT d b k a) [] () q (cj (λX t r=>ay r<|fC t)<|bb 0) (λX X X X X=>rfl) ?_ ?_⟩
 .intro t x a _ s v y z q B;have y:=ly y;refine W y.1 ?_;have C:=y.2;have H:t<U f:=W j C;have I:=ae (z J1)<|ri 9<|ae (bU C) e;refine cb Y<|wq q (λj L M=>M= .c p _ bO/\L=iV (rl (aF j b) t)) ⟨Y,Y⟩ (λX X X X X X X X=>rfl) ?_ ?_ ?_
  .intro j N L M T s Z m o y q Á À;rw [U7] at o;obtain⟨m,Z,rfl⟩:=fA o;have r:=fR Z;refine bJ Y Y<|⟨⟨Y,cp _,ak hl<|fe C<|cF e<|ao Y⟩,⟨cp _,cp _⟩,χ (m:=m.2) (t:=t) (λo=>?_) λo=>?_⟩
   .refine bJ Y Y<|Á _ s M q ⟨y.1,?_⟩;simp only [y.2,r];unfold rl;exact W zg<|W (show Ad t m=J m.1 by unfold Ad;rw [o];rfl) n9
   .refine À s M q ⟨y.1,?_⟩;simp only [y.2,r];unfold rl;rw [zg,show Ad t m=A by unfold Ad;rw [o];rfl];exact a4<|aq iV<|dB _
  .exact cf (by unfold Hq;rw [bC];exact ae (l J3)<|ao Y)
  .intro T L M s q y;obtain⟨rfl,rfl⟩:=y;rw [show U (Hq b)=U b from bC _,dJ] at q;have e:U (rl b t)<=U b:=AQ ..;have r:=ae e<|l J3;generalize C:rl b t=L at q r;have M:∀y s,Fr c s (.c p (az y)<| .c T (az<|iV L) bO)->(y=[]->a=[]/\(L=[]\/cK (pg G.nT d) t=A))->U y<=U a+(U L-U (cq 1 L))->
    dj s (aj T) λm=>mi m (ag 1) bk λe=>iD s (az e) λN s=>w9 N s λe m=>
     A9 (λl N c v=>mN (aK<|n+2) (λX=>bW) (eb 114) l N c v) (λl c v=>c1 (aK<|n+2) (λX=>bW) (fG (nK (eb 55)<|oP<|j2 (hC kW (eb 124)<|kr<|ag 0)<|j2 (eb 114) s5)
      (fG (uy<|hM il (eb 94)<| .call 219<|j2 (fL (eb 64) 168)<|j2 (eb 243)<|j2 (kr<|aG "reduce/reduce")<|j2 (eb 55)<|j2 (hC kW (eb 14)<|eb 243) s5)
      (fG (.del [114,55]) ck))) l c v (eh g) v) e m (.c 64 (An G k d b)<| .c 14 (aN<|zV f)<| .c 94 (aj p)<| .c 243 (ag t)<| .c 124 (aj T) ar) s λl c=>v ([114,55,124,243].foldl kY l) c:=by
    intro y s q b l;have c {m:aa ai} {v:aa ai->Prop} (h:v<|cq 1 m):mi m (ag 1) bk v:=by
     refine W yE (?_:bE (J _) _);refine W (aS<|ao Y) ((W dJ ?_):v<|(aF (U m) m).drop _)
     induction m with
     |nil=>exact h|cons x f=>exact h
    refine bX q 1 Y<|c ?_;rw [show cq 1 (iV L)=iV _ from a4 (Jq ..)];refine aV q λk s q=>cb (q.lt 2 Y)<|cv d5 (λX X X=> .c 64 _ _) (λX g X=> .c p (az g)<| .c T _ _) (λj g X=>(g=[]->y=[]/\j=0)/\U g<=U y+j) y () q ⟨λo=>br o rfl,bb _⟩ (λX X X s q=>q.lt 2 rfl) ?_ ?_
    .intro j y g _ s v n Z q B;have e:=gl n;rw [wO] at e;have x:∃f,L[0]?=J f:=by
      induction L with
      |nil=>exact ay e<|fC _|cons f _=>exact cL f rfl
     exact bp x λf m=>dc q 1 Y (fV m)<|cH q 0 Y<|R3 H<|N' λN=>dF q 0 Y (cf<|ab3 Z.2 l (bU e) I r) λs q=>B _ () s ⟨λo=>ay (CZ o).2 jI,by rw [a3];exact b3 Z.2⟩ q
    .refineλg X s Z q=>B g () s (cj (λo=>?_) ?_)<|Z8 _ q
     .refine dC (Z.1 o) λc k=>dC (b c) λp j=>λv n=>?_;rcases iN.mp n with x|x
      .exact(z V) p v x
      .exact W x<|cj (C▸j)<|C▸zw (wO▸k)
     .have B:=Z.2;rw [wO] at B l;have g {T:O} {e:O} {m:O} {f:O} (b:T<=e+(f-1)) (c:e<=m+(f-(f-1))) (n:m<=t*9) (C:f<=9):T<=(t+1)*9:=by have e:(f-(f-1))+_=f:=As (lT ..);have:T<=m+f:=ax e<|ax (cx ..)<|ae b<|fY c _;exact W (sq ..)<|ae this<|dZ n C
      exact g B l (z J1) r
   have k:L≠[]->∀t,cK (pg G.nT d) t=A\/d7 (cK _ t)=true:=λX t=>by
    cases cK _ t with
    |none=>exact aL Y|some N=>exact aw Y
   refine bX q 1 Y<|MW (λx=>?_) λx=>?_
   .have p:L≠[]:=λo=>x (by rw [o];rfl);have j:U L-U (cq 1 L)=1:=by
     induction L with
     |nil=>exact ay Y p|cons f t=>exact uP ..
    exact YT<|ef (λo=>cH q 0 Y<|bX q 1 Y<|R3 H<|N' λN=>dF q 0 Y (cf<|ae I<|ao Y) λs q=>M _ s q (λo=>ay (CZ o).2 jI) (by simp only [j,a3];exact bb _)) λo=>M a s q (λy=>br y<|aw<|aO (k p t) id λy=>bR<|af y.symm o)<|dO _ _
   .have p:L=[]:=by
     cases L with
     |nil=>rfl|cons f t=>cases x
    exact bX q 1 Y<|MW (λo=>ay x o) λX=>M a s q (λy=>br y<|aL p)<|dO _ _
 .intro a _ s z q;rw [e9] at z;exact jg q 0 Y<|h a z
def DcI(a:aa au)(k:O)(b:aa<|O×O):Prop:=eY (∀m:O,m∈R (·.1) b->0<m/\∃t<U a,F a t 0= -(m:au))<|U b<=k
def acb{s v:O}:U (ot a s v)<=U a+1:=by
 refine a.rec (bb 1) λp r b=>(?_:U (aD _ _ (p::ot r s v))<=_);cases aE p.1 s with
 |true=>exact e7 _|false=>exact b3 b
def aij{s v m:O}(h:m∈R (·.1) (ot a s v)):m∈R (·.1) a\/m=s:=by
 induction a with
 |nil=>exact aw<|ms h|cons p r b=>
  have h:m∈R (·.1) (aD _ _ (p::ot r s v)):=h;cases q:aE p.1 s with
  |true=>rw [q] at h;exact aO (mc h) aw λh=>aL<|cz _ h|false=>rw [q] at h;exact aO (mc h) (λe=>aL (e▸b8 ..)) λh=>LW (cz _)<|b h
def YR(k:O):(zV a)[k]?=b4 ag (a[k]?):=cg ..
def abo(c:1<U a)(b:U a<=6)(h:∀d:O,(d=0\/∃t<U a,F a t 0= -(d:au))->e (ag d) f):aK (n+1) 268 [aN<|zV a] f e g:=by
 refine a7 Ko (.c 14 _ ar) Y Y<|bJ Y (Dx<|e8 (d:=0) c)<|g5 (λX=>bc<|h 0<|aL Y) λX=>m8 de λj e s k=>cb Y<|cv YR (λX X X=> .c 14 _ _) (λX l e=> .c j (dD (nd nI l) e) bO) (λm l X=>DcI a m l) [] e k (cj (λX h=>bG h)<|bb 0) (λX X X X X=>rfl) ?_ ?_
 .intro t o l e s p q r k v;have x:=gl q;have y:F a t 0=o:=by refine W (cZ)<|W q ?_;rfl
  have skip:=λs k=>v l e s (cj (r V)<|hH<|r J1) k;refine g5 (λX=>g5 (λq=>?_) λX=>skip s k) λX=>skip s k
  induction o with
  |ofNat m=>exact ay q<|ak hB<|cp m|negSucc m=>
  have z:∀B,qe _ _ _ s _:=λB=>yZ k 0 nI B Y Y (ae (r J1)<|ae (bU x)<|ae b<|by decide) λe s k=>v _ e s (cj (λC H=>aO (aij H) ((r V) C) λI=>W I<|⟨kv m,t,x,y⟩)<|ae acb<|b3<|r J1) k;refine d' k 0 Y<|d' k 0 Y ⟨pW,W (r3:dV _ _=b4 nI (cK l _)) ?_⟩;cases cK l _ with
  |none=>exact z 1|some B=>exact z _
 .refineλl e s r k=>vI k (W (ZV k 0 Y)<|aq _ ya) (W (bC ..)<|cF (r J1)<|cF b<|by decide) λb s k=>cb (k.lt 1 Y)<|cv d5 (λX (d:O) _=> .c 154 _ (.c 23 (ag d) ar)) (λX X X=> .c j _ _) (λX d X=>d=0\/d∈R (·.1) l) 0 () k (aL Y) (λX X X s k=>k.lt 1 Y) ?_ ?_
  .intro L M d _ s p N T k v;have Z:=iu.mp<|aP N;have c {j:O} {b:O} {f:Prop} {n:Prop} {C:Prop} (h:j=b->f) (g:j≠b->C):dH (eX (j:au) (b:au)) (dH (eX (j:au) (b:au)) f n) C:=hj (λq=>hj h λI=>ay q I) g;exact bp (Ax Z) λB a=>c (λX=>v M () s (aw Z) k) λq=>bp (Ax<|CC T q) λo H=>Ae k 0 Y a<|Ae k 0 Y H<|g5 (λX=>v M () s (aw Z) k) λX=>v d () s T k
  .refineλd X s T k=>m9 k<|h d<|T.imp_right λm=>((r V) d m).2
def wo(d:O)(a):=aD (eX a<| -(d:au)) 0 a
def aaQ{d:O}(b:U a<=6)(h:c (aN<|zV<|R (wo d) a) e):aK (n+1) 218 [aN<|zV a,ag d] e c f:=by
 refine a7 SM (.c 14 _ (.c 61 _ ar)) Y Y<|cb Y<|wq de (λj g k=>k=bO/\g=zV ((aF j a).map<|wo d)) ⟨Y,Y⟩ (λZ Z Z Z Z Z Z Z=>rfl) ?_ (W EH<|cf<|ae b<|ao Y) ?_
 .intro j v g k c s l m o p q r t;rw [YR] at o;obtain⟨x,y,rfl⟩:=fA o;have z:=λv B=>r v s k q ⟨p.1,B⟩;rw [fR y,dv,show R (wo d) [x]=[wo d x] from Y,<-O',<-p.2] at z;unfold wo at z;refine(?_:dH _ (l _ s) (l _ s));cases B:eX x _ with
  |true=>exact z _ (by refine W B ?_;rfl)|false=>exact z _ (by refine W B ?_;rfl)
 .intro c g k s q p;obtain⟨rfl,rfl⟩:=p;rw [EH,dJ] at q;exact jg q 0 Y h
def i3{n:Type}{c}{l:O->n->ai}(j:∀k,all[k]?=b4 (l k) (c[k]?))(o)(q:Fr e a d)
 (r:∀b o f,Fr e f (d.cA b o)->s f=J all)(t:U c<cu)
 (y:∀k x b p a (g:QT) (h:aT->Prop),c[k]?=J x->Fr e a (d.cA b p)->(∀v a,o x=J v->Fr e a (d.cA b p)->g v a)->(∀a,o x=A->Fr e a (d.cA b p)->h a)->
  z B (l k x) a λm a=>C m a λH a=>dH H (I m a g)<|h a)
 (L:∀b a,Fr e a (d.cA b<|az<|eI o c)->M (aj b) a):yN C I z s all B a M:=by
 have N:U all=U c:=by
  refine hL (j3 λT=>?_)<|j3 λT=>?_
  .have Z:=j<|U c;rw [bK T,iB<|bb _] at Z;cases Z
  .have Z:=j<|U all;rw [bK T,iB<|bb _] at Z;cases Z
 refine wq q (λk e l=>l=d/\e=(aF k c).filterMap o) ⟨Y,Y⟩ (λk e l b p f m n=>by obtain⟨rfl,_⟩:=n;exact r b p f m) ?_ (N▸t) ?_
 .rintro k s e l b a g h z ⟨rfl,rfl⟩ m B C
  rw [j] at z;obtain⟨x,H,rfl⟩:=fA z;refine y k x b _ a g h H m (λv a I m=>B v a l m ⟨Y,?_⟩) λa I m=>C a l m ⟨Y,?_⟩
  .simp only [fR H,zg,I];rfl
  .simp only [fR H,zg,I];exact a4<|dB _
 .rintro b e l a m ⟨rfl,rfl⟩
  rw [N,dJ] at m;exact L b a m
def zL{a:aa b}{g:b->ai}:eI (λx=>J<|g x) a=R g a:=p2 Cz a
def K'(h:Fr g j c)(k){d}{a b}(e:c.at k=J (d,az a))(l:U a+U b<=cu)(m:∀f,Fr g f (c.g8 k<|az<|a++b)->n bk f):lI j8 (aj d) (aN b) j n:=W pU<|bX h k e ⟨⟨l,λz=>nomatch z⟩,m _ (h.upd e _)⟩
noncomputable def sE(a:aa bo):O->aa (ai×ai):=jb (λZ=>[]) (λs Z b k=>(aG s,ag k)::b (k+1)) a
def Ui:∀{k},ip (sE a k) (aG s):=by
 intro k;refine br rfl ?_
 induction a generalizing k with
 |nil=>exactλZ h=>bG h|cons t r b=>exactλe h=>aO (mc h) (λq=>by refine W q ?_;rfl)<|b e
def Yt(h:aG s=aG t):s=t:=by injection h
open Classical in
def afc:∀{k},dV (sE b k) (aG s)=(g7 s b).map λa=>ag ((k+a:O):au):=by
 refine @(b.rec Y λt r c=>?_);intro k;refine(?_:(if aG t=aG s then J (ag k) else dV (sE r _) _)=b4 _ (if t=s then J 0 else b4 _ (g7 s r)))
 by_cases q:t=s
 .exact W (aJ<|aq aG q)<|W (aJ q) Y
 .exact W (aS λz=>q<|Yt z)<|W (aS q)<|W c<|W (TG ..)<|aq (λf=>b4 f _)<|funext λa=>W (cx ..)<|W (eU 1 a) Y
open Classical in
def aeH(m:s∉a):∀{k},eW (sE a k) (aG s) (ag ((k+U a:O):au))=sE (a++[s]) k:=by
 induction a with
 |nil=>intro k;rfl|cons t r b=>intro k;refine(?_:(if aG t=aG s then _::sE r _ else _::eW (sE r _) _ _)=_::sE _ _);exact W (aS λz=>m<|ak rj<|aL (Yt z).symm)<|W hS<|ax (cx ..)<|W (jf ..)<|aq _ (b λz=>m<|cz _ z)
def afj:∀{k},U (sE a k)=U a:=@(a.rec Y λt r b=>aq _ b)
structure Tb where
te:aa (aa au)
nO:aa (aa<|O×O)
rf:aa O
n1:aa ai
md:ai
def NK(G:Gr)(a b c d e:ai)(r:aW):aW:= .c 112 (aN<|sV G.cI)<| .c 317 (ag G.nT)<| .c 106 a<| .c 207 b<| .c 194 c<| .c 227 d<| .c 209 e r
def C!(G)(a b c d e f g h j m):=NK G a b c d e<| .c 201 G.V<| .c 60 f<| .c 97 g<| .c 250 h<| .c 215 j<| .c 48 m ar
def Jk(a:aa<|aa au):=a.map λr=>aN<|zV r
def IM(a:aa<|aa<|O×O):=a.map λg=>gZ<|nd nI g
noncomputable def Oi(G:Gr):=R (·.aY) G.a5
noncomputable def e_(G:Gr):=R (·.aQ.length) G.a5
noncomputable def ZT(G:Gr):=G.a5.map λZ=>0
def h7(G)(B:Tb):=od 284<|C! G (aN<|iV<|Oi G) (aN<|iV<|e_ G) (aN<|iV<|ZT G) (aN<|iV B.rf) (gZ<|sE (aF G.nT G.cI) 0) (aN<|Jk B.te) (aN<|IM B.nO) (aN B.n1) (aN []) B.md
def ku{a:O}(h:b[a]?=J s):(sV b)[a]?=J (aG s):=by unfold sV;simp only [cg,h];rfl
def Fr.comb(h:Fr d e a)(k:Fr e f b):Fr d f (a.mZ b):=by
 refine mq ?_ λg o j=>(k J1) g o<|(h J1) g o j;have l:∀m g p,b.at m=J (g,p)->e g=none:=λm g p j=>((k V).get j).1;have n:∀a,eD d e a->eD d f (a.mZ b):=by
  refineλa=>a.rec (λZ=>(h.Jr k) V) λg p r q=>λz=>⟨z.1,(k J1) g p z.2.1,λm c s j=>?_,q z.2.2.2⟩
  have n:∀(r:Cs) m,(r.mZ b).at m=J (c,s)->(∃t,r.at t=J (c,s))\/∃t,b.at t=J (c,s):=by
   intro r
   induction r with
   |nil=>exactλm j=>aw ⟨m,j⟩|c x y v q=>
    intro m j;cases m with
    |zero=>exact aL ⟨0,j⟩|succ m=>exact(q m j).imp_left λB=>bp B λt h=>cL (t+1) h
  rcases n r m j with ⟨t,h⟩|⟨t,h⟩
  .exact z.2.2.1 t c s h
  .exactλy=>aI<|(af (l t g s<|y▸h).symm) z.2.1
 exact n a<|h V
def ac6(nd:bw G.cI)(k:G.nT<U G.cI)(h:G.nT<=6)(a:Fr l n<| .c b (cw 284 ar) o)(p:∀c m e j,Fr l j (.c b (cw 284<|NK G d f g (aj c) (aj m) ar)<|(o.cA c<|az []).cA m<|dD (sE (aF G.nT G.cI) 0) e)->q bk j):
 aK (r+1) 382 [aj b,aN<|sV G.cI,ag G.nT,d,f,g] n q s:=by
 refine a7 KV (.c 64 _ (.c 112 _ (.c 317 _ (.c 106 d<| .c 207 f<| .c 194 g ar)))) Y Y<|bP a Y λs a=>bP a Y λs a=>bP a Y λs a=>bP a Y λs a=>bP a Y λs a=>aV a λc s a=>bP a Y λs a=>m8 a λm e s a=>bP a Y λs a=>⟨mR<|ae h<|ao Y,?_⟩;have a:=Fr.bN (c:= .c b _ _) a;refine cv mU (λX X X=> .c 64 _ (.c 112 _ (.c 317 _ ar))) (λt (e:O) _=> .c m (dD (sE (aF t G.cI) 0) e)<| .c b (cw 284<|NK G d f g _ _ ar) _) (λX X X=>bh) e () a a0 (λX X X X X=>rfl) ?_ ?_
 .intro t x e _ s v y _ a z;have y:=ly y;refine W y.1 ?_;have B:=fe y.2 k;have C:=bK B;refine aM a 1 Y<|bJ Y (ku C) ?_;have H:G.cI[t]∉aF t G.cI:=λq=>by refine bp (gs.mp q) λI L=>?_;have M:=gl L;rw [dU] at M;have M:=cc M<|m4 _ _;rw [ha,aJ M] at L;obtain⟨b,N⟩:=ka.mp L;exact fH M<|(Bi nd).mp N
  have T:U (aF t G.cI)=t:=by simp only [dU,gq<|bU B]
  refine u6 a 0 Y Ui (by simp only [afj,T];exact cf<|ae (bU y.2)<|ae h<|by decide) λe s a=>z e () s a0 ?_;have Z:=aeH H (k:=0);rw [T,eJ] at Z;simp only [fR C,<-Z];exact a
 .exactλe X s X a=>bc<|p c m e s<|Fr.Bv<|e9▸a
def OJ(f:e6)(g:Fr h a j)(m:∀k r s (b:QT),G.a5[k]?=J r->b (ag<|n r) s->cN d e o (ey l x<|r5 k r) s b)
 (p:∀c s,Fr h s (j.cA c<|az<|iV<|R n G.a5)->q (aj c) s):
 yN (λl a b=>cN d e (kr<|bT Q) l a λv a=>mV a v λt=>b t a) (λl a b=>cN d e o l a b) (λl v a b=>mN d e (eb x) l v a b) (λZ=>J<|nk 0 G.a5) (nk 0 G.a5) l a q:=by
 refine i3 xA _ g (λZ Z Z Z=>rfl) (cf<|ae f.oX<|bl Y) (λk r c y s z B C f H Z=>m k r s z C<|H _ s Y f) λc s f=>p c s ?_;rw [zL] at f;unfold iV;exact W jD f
def ahc(a:e6)(nd:bw G.cI)(j:G.nT<=6)(k:∀b d c e f z g h,Fr l h (.c b (cw 284<|C! G (aj d) (aj c) (aj e) m (aj z) n o p q r)<| .c d (az<|iV<|Oi G)<| .c c (az<|iV<|e_ G)<| .c e (az<|iV<|ZT G)<| .c f (az [])<| .c z (dD (sE (aF G.nT G.cI) 0) g) bO)->s (aj b) h):
 aK (t+3) 284 [G.V,n,o,m,p,q,r] l s v:=by
 refine jK Y Y λb x=>?_;have y:=de.hN (o:=cw 284 ar) x;refine a7 NX _ Y Y (cb Y<|OJ a y (λB r s C H c=>c) λd s y=>cb Y<|OJ (n:=(·.aQ.length)) a y (λB r s C H c=>?_) λc s y=>?_)
 .rw [<-du] at c;exact c
 exact cb Y<|OJ a y (λB r s C H c=>c) λe s y=>ej y ⟨Y,ac6 nd a.nT j y λf z g s y=>bP y Y λs y=>bP y Y λs y=>bP y Y λs y=>bP y Y λs y=>bP y Y λs y=>bP y Y λs y=>bP y Y λs y=>bc ⟨Y,bc<|k b d c e f z g s y⟩⟩
inductive p_(a:aa au)(d:O)(b:aa au):Prop
|z (h:d=0) (e:b=a)|d (h:d≠0) (m:∃t<U a,F a t 0= -(d:au)) (e:b=R (wo d) a)
def XU(G:Gr)(a)(M)(q)(f:FS)(g)(d)(b)(c:Prop):=eY (g=uI G.nT f.mv)<|∃e h,LL a M q f.rd e/\a' G.nT f.mv e h/\p_ h d b/\(c->∀t<G.nT,B? G.nT f.mv e t)
def Bt(G)(a:aa FS)(b)(M)(k)(B:Tb):=j6 (U B.te=k) (U B.nO=k) (U B.rf=k) (U B.n1<=k*54)<|∀q f,a[q]?=J f->q<k->XU G b M q f (F B.nO q []) (F B.rf q 0) (F B.te q []) (B.n1=[])
def I4(a b c d e:O)(B:Tb):Cs:= .c a (az<|Jk B.te)<| .c b (az<|IM B.nO)<| .c c (az<|iV B.rf)<| .c d (az B.n1)<| .c e (az []) bO
def UM(g:fm)(nd:bw G.cI)(d:dw G T a)(Ä:A0 G a b M)(h:∀B,Bt G a b M (U a) B->k (h7 G B) È):aK (n+4) 32 [q9 G a,gZ<|zE b<|iV M,bT e,c] È k l:=by
 have m:=g.toGW;refine a7 NL (.c 249 (q9 G a)<| .c 109 (gZ<|zE b<|iV M)<| .c 311 (bT e)<| .c 48 c ar) Y Y<|aV de λo s p=>aV p λq s p=>aV p λr s p=>aV p λt s p=>aV p λv s p=>cb Y ?_;refine cv Al (λX X X=> .c 249 (q9 G a)<| .c 109 (gZ<|zE b<|iV M)<| .c 311 (bT e)<| .c 48 c<| .c 60 (aj o)<| .c 97 (aj q)<| .c 227 (aj r)<| .c 250 (aj t)<| .c 215 (aj v) ar) (λX B (_:j4)=>I4 o q r t v B) (λk B X=>Bt G a b M k B/\B.md=c) ⟨[],[],[],[],c⟩ () p
  ⟨ec Y Y Y (bb 0) λx y X h=>ay h<|fC x,Y⟩ (λX X X X X=>rfl) ?_ ?_
 .intro k y B _ s Á H I p Â;have Ã:=gl H;have Z:k<cu:=cc (fe Ã<|d J2)<|ao Y;refine afY m d Ä H λT lk=>?_;have n:=(by
   have m:=g.toGW;have l:=d.wd m<|aP H;have À:∀C∈T,C.1∈y.rd:=λC I=>(lk V)▸hY I;have L:∀N∈y.rd,0<N/\N<U G.a5:=λN f=>by refine dC (l.2.1 N f) λÅ z=>aA z λÆ Ç X=>?_;exact br (qq Å)<|gl Ç
   refine air (λC I=>L _ (À C I)) (λC I=>?_) ((lk V)▸l.1) ?_
   .exact aA ((lk J1) C I) λj X v=>W v<|jv (Ä J2) j
   .have É:bw (0::y.rd):=lJ (λN f=>fH (L N f).1) l.1;have l:=qx É λN f=>aO (mc f) (λv=>by refine W v ?_;decide) λf=>cc (L N f).2 m.oX;have v:=aq U<|lk V;rw [bC] at v;exact W v<|Im l)
  refine ad9 m n<|ad8 m n (λL N=>?_) λf l=>?_
  .obtain⟨C,I,rfl⟩:=mm N;refine aA (x1.mp I) λx Ì v=>?_;unfold sN at v;cases z:dI x.1 G.nT with
   |true=>rw [z] at v;exact ax (aC v)<|ht z|false=>rw [z] at v;exact aI v
  refine MZ p 3 Y<|ag0 m g.t6 n (l V) λN Ë=>?_;have Ê:=ae (Ë J1)<|ri 9 g.t6;refine K' p 3 Y (ae (dZ (I.1 J3) Ê) ?_) λs p=>?_
  .exact ax (sq ..)<|ae (ri 54<|ae Ã<|d J3)<|ao Y
  refine MZ p 4 Y<|K' p 4 Y (cQ _) λs p=>?_;have d:∀n (C:aa au) s,p_ f n C->Fr È s (I4 o q r t v ⟨B.te,B.nO,B.rf,B.n1++N,B.md⟩)->
   pD il (aj o) s (lI il (aj o) (aN<|zV C) s λX s=>pD il (aj q) s<|rk s (An G k y.mv T) λX Í=>bE (cW Í 97) λm=>lI il (aj q) m s λX s=>pD il (aj r) s<|lI il (aj r) (ag n) s λX s=>Á (.c 249 (q9 G a)<| .c 109 (gZ<|zE b<|iV M)<| .c 311 (bT e)<| .c 48 c<| .c 60 (aj o)<| .c 97 (aj q)<| .c 227 (aj r)<| .c 250 (aj t)<| .c 215 (aj v) ar) s):=by
   refineλn C s c p=>cH p 0 Y<|dF p 0 Y (by unfold Jk;simp only [bC,I.1 V];exact Z) λs p=>cH p 1 Y<|dF p 1 Y (by unfold IM;simp only [bC,I.1 J1];exact Z) λs p=>cH p 2 Y<|zQ (m:=n) p 2 Y (W (I.1 J2) Z) λs p=>?_
   have Z {f:aa au} {t:O} (h:Bt G a b M k B) (s:XU G b M k y (uI G.nT y.mv) t f<|N=[]) (Î:U N<=54):Bt G a b M (k+1) ⟨B.te++[f],B.nO++[uI G.nT y.mv],B.rf++[t],B.n1++N,B.md⟩:=by
    refine ec (by simp only [a3,h V];rfl) (by simp only [a3,h J1];rfl) (by simp only [a3,h J2];rfl) ?_ λx a b Ì=>?_
    .simp only [a3,sq];exact dZ (h J3) Î
    .simp only [zc<|h J1,zc<|h J2,zc<|h V];rcases iN.mp Ì with z|z
     .simp only [aS<|fH z,aS _,aS _];have M:=(h J4) x a b z;exact rK (M J1) λT C o q r t=>cj (M V) ⟨T,C,o,q,r,λv=>t (CZ v).1⟩
     .simp only [aJ z,aJ z,aJ z];rw [z,H] at b;obtain rfl:=aC b;exact W z<|rK (s J1) λT C o q r t=>cj (s V) ⟨T,C,o,q,r,λv=>t (CZ v).2⟩
   refine Â ⟨B.te++[C],B.nO++[uI G.nT y.mv],B.rf++[n],B.n1++N,B.md⟩ () s ⟨Z I.1 (cj Y ⟨T,f,lk,l,c,Ë V⟩) Ê,I.2⟩ ?_;unfold I4 Jk IM;simp only [dv,dv];exact p
  have c:1<U f:=W (l V)<|cc (ao Y) m.t3;have y:U f<=6:=W (l V) g.t6
  induction e with
  |false=>exact yW (a:=0) (b:=0) (λz=>ay Y z) λX=>d 0 f s (.z Y Y) p|true=>exact abo c y λn H=>yW (a:=n) (b:=0) (λz=>aaQ y<|d n _ s (.d z (CC H z) Y) p) λz=>d n f s (.z z Y) p
 .refineλB X s I p=>ahc m nd g.t6 λL T N C Z z a M b=>?_
  have p:=p.comb b;have e:∀{j l c},(I4 o q r t v B|>.mZ _).at j=J (l,az c)->kX _ M 3 _ _:=λx=>aw (aw<|aw ⟨_,Y,p.fb _ x,aL ⟨_,_,p.c9 x,Y,j7 (λX=>dQ 2 _) _⟩⟩)
  refine mK p 4 ?_<|h B I.1;exact aw<|aw<|aw ⟨L,Y,p.fb 5 Y,aw<|aw ⟨_,_,_,p.c9 (k:=5) Y,Y,⟨_,_,Y,dQ 3 _,_,_,Y,dQ 3 _,_,_,Y,e (j:=6) Y,_,_,Y,e (j:=7) Y,_,_,Y,e (j:=8) Y,_,_,Y,e (j:=2) Y,_,_,Y,aw<|aw<|aw ⟨z,Y,p.fb 10 Y,aw<|aL ⟨_,_,_,p.c9 (k:=10) Y,Y,j7 (λX=>⟨Y,dQ 2 _⟩) _⟩⟩,_,_,Y,dQ 3 _,_,_,Y,e (j:=0) Y,_,_,Y,e (j:=1) Y,_,_,Y,e (j:=3) Y,_,_,Y,e (j:=4) Y,_,_,Y,W I.2<|dQ 3 _,Y⟩⟩⟩
def afU(G)(B):=uF<|∃T a b M,dw G T a/\A0 G a b M/\Bt G a b M (U a) B
def YU(h:a (h7 G B) b):aK (n+1) 196 [h7 G B] b a c:=a7 MD (.c 184 _ ar) Y Y<|⟨Y,bc h⟩
def alR(g:fm)(nd:bw G.cI)(a:s="lalr"\/s="slr")(h:∀B,afU G B->b (h7 G B) c):aK (n+9) 292 [G.V,aG s,bT d] c b e:=a7 Ri (.c 201 G.V<| .c 48 _ (.c 311 _ ar)) Y Y<|rW (λZ=>a7 QX (.c 201 G.V<| .c 311 _ ar) Y Y<|Yp g λT f j=>ae4 g j λk M l=>UM g nd j l λB m=>YU<|bc<|bc<|h B<|iC ⟨T,f,k,M,j,l,m⟩) λz=>rW (λZ=>a7 Oh (.c 201 G.V<| .c 311 _ ar) Y Y<|Yp g λT f j=>aco g j λk M l=>UM g nd j l λB m=>YU<|bc<|bc<|h B<|iC ⟨T,f,k,M,j,l,m⟩) λo=>ay (CC a z) o
def Md(G)(T)(a)(b)(M)(B):=hK (GX G) (dw G T a) (A0 G a b M)<|Bt G a b M (U a) B
noncomputable def xp(B:Tb)(q t):=F (F B.te q []) t 0
noncomputable def df(B:Tb)(q):=F B.rf q 0
def el(B)(q t):=aD (eX (xp B q t) 0) (-(df B q:au))<|xp B q t
def Ej(h:xp B q t≠0):el B q t=xp B q t:=by unfold el;exact W pA<|W (gh h) Y
def EG(h:xp B q t=0):el B q t= -(df B q:au):=by unfold el;exact W pA<|W (eZ h) Y
def Q'{c s:O}{h:O->O->bf O}(b:∀p,g p=b4 (p.1,·) (h p.1 p.2)):∀{a},bw (R (·.1) a)->cK (eI g a) s=ez (cK a s) (h s):=by
 intro a;refine a.rec (λZ=>rfl) λp r d=>λnd=>?_;have nd:=rY.mp nd;have e:cK (p::r) s=aD _ _ (cK r s):=Y;refine W e ?_
 by_cases q:p.1=s
 .refine W q<|W (fK ..) (?_:_=h s p.2);cases z:h s p.2 with
  |none=>refine W (RF<|by rw [b,q,z];rfl)<|W (d nd.2) ?_;have f:cK r s=none:=ak lG λm=>nd.1 s m q;rw [f];rfl|some v=>rw [K8<|by rw [b,q,z];rfl];show aD _ _ _=_;rw [fK];rfl
 .rw [d4 q];show _=ez (cK r s) (h s);rw [<-d nd.2];cases z:h p.1 p.2 with
  |none=>rw [RF<|by rw [b,z];rfl]|some v=>rw [K8<|by rw [b,z];rfl];show aD _ _ _=_;rw [d4 q];rfl
def JM{d:O}(h:a≠-(d:au)):wo d a=a:=by unfold wo;exact W pA<|W (gh h) Y
def WE{d:O}(h:a= -(d:au)):wo d a=0:=by unfold wo;exact W pA<|W (eZ h) Y
def WU{e f:Type}{g}{a:aa e}{b}{c:f}(h:g b=c):F (R g a) d c=g (F a d b):=by
 simp only [cZ,cZ,cg];cases a[d]? with
 |none=>exact a4 h|some x=>rfl
def mD{a b:O}(h:0<b):(a:au)≠-(b:au):=by lia
def dw.Jt(a:dw G T b)(h:go b p s=J q):q≠0:=by refine rK (a.Dw h) λf c d e Z g=>aA (a J1) λj z k=>λl=>?_;rw [l,z] at e;obtain rfl:=aC e;rw [k] at g;exact hv (w5.mp<|iu.mp<|g▸hf) λm Z Z z=>wC z
inductive Sa(a:aa FS)(f:FS)(q t:O)(x:au):Prop
|s (b:O) (h:go a q t=J b) (e:x=(aD (aE t 0) 1048576 b:O))|r (h:go a q t=A) (r:O) (m:r∈f.rd) (e:x= -(r:au))|z (h:go a q t=A) (e:x=0)
def Md.La(m:Md G T b d M B)(c:b[q]?=J f)(a:t<G.nT):Sa b f q t (xp B q t)/\(df B q=0\/df B q∈f.rd):=by
 refine rK ((m J3) J4 q f c (gl c) J1) λe g lk h j X=>?_;have k:∀p∈e,p.1∈f.rd:=λp l=>(lk V)▸hY l;have n:∀t<G.nT,Sa b f q t _:=λt a=>by
  have o {r:O} {s:aa<|O×O} (nd:(R (·.1) s).Nodup) (v:t<r):cK (pg r s) t=(cK s t).map λx=>aD (aE t 0) 1048576 x:=by
   have y:dI t r=true:=W kS<|eZ v;refine(Q' (c:=r) (h:=λz x=>aD (dI z r) (J<|aD (aE z 0) 1048576 x) A) (λp=>?_) nd).trans ?_
   .unfold sN;cases dI p.1 r<;>rfl
   .refine W y ?_;cases cK s t<;>rfl
  have C:=o (((m J1).Ak ((m V).toGW)<|aP c).1) a;rw [<-yR c] at C;cases z:go b q t with
  |some H=>rw [z] at C;exact .s H z<|(h J1) t a _ C|none=>
   rw [z] at C;rcases(h J2) t a C with ⟨p,l,_,e⟩|⟨e,_⟩
   .exact .r z p.1 (k p l) e
   .exact .z z e
 have I:∀d:O,d≠0->(∃t<g.length,g.getD t 0= -(d:au))->d∈f.rd:=λd L N=>aA N λt Z e=>by
  rw [h V] at Z;rcases n t Z with ⟨H,v,x⟩|⟨v,r,k,x⟩|⟨v,x⟩
  .exact ay (x.symm.trans e)<|mD<|qq L
  .rw [e] at x;exact W (eG<|p8.mp x) k
  .exact ay (eG<|p8.mp<|e▸x) L
 rcases j with ⟨L,T⟩|⟨L,M,T⟩
 .exact⟨by unfold xp;exact W T<|n t a, .inl L⟩
 .refine br ?_<| .inr<|I _ L M;unfold xp;refine W T<|W (WU<|JM<|mD<|qq L) ?_
  by_cases e:g.getD t 0= -(B.rf.getD q 0:au)
  .refine W (WE e) ?_;rcases n t a with ⟨H,v,x⟩|⟨v,r,k,x⟩|⟨v,x⟩
   .exact ay (x.symm.trans e)<|mD<|qq L
   .exact .z v Y
   .exact .z v Y
  .exact W (JM e)<|n t a
def Md.qs(m:Md G T a e M B)(b:a[q]?=J f)(c:t<G.nT):Sa a f q t (el B q t):=by
 refine dC (m.La b c) λe d=>?_
 by_cases z:xp B q t=0
 .refine W (EG z) ?_;have n:go a q t=none:=by
   rcases e with ⟨g,h,x⟩|⟨h,r,j,x⟩|⟨h,x⟩
   .rw [x] at z;have z:=eG z;cases b:aE t 0 with
    |true=>rw [b] at z;exact vX z|false=>rw [b] at z;exact ay z<|(m J1).Jt h
   .exact h
   .exact h
  rcases d with d|d
  .exact .z n (by refine W d ?_;rfl)
  .exact .r n _ d Y
 .exact W (Ej z) e
structure Y6 where
T:aa O
i:aa FS
X:aa (O×O)
M:aa O
B:Tb
Qi:aa bo
def HU(y:Y6):=k8->Md G y.T y.i y.X y.M y.B->yK y.Qi->∀n (a:aT) b (c:aT->Prop),b (bT Q) a->aK (n+62) 267 [h7 G y.B,gR D,aN<|sV y.Qi] a b c
noncomputable def y6:=@Classical.epsilon _ ⟨⟨[],[],[],[],⟨[],[],[],[],bk⟩,[]⟩⟩ λy=>¬HU y
noncomputable def T:=y6.T
def i:=y6.i
def X:=y6.X
def M:=y6.M
def B:=y6.B
def P:=y6.Qi
def akk(h:HU ⟨T,i,X,M,B,P⟩)(y):HU y:=Cg λn=>@Classical.epsilon_spec _ (λy=>¬HU y) ⟨y,n⟩ h
def l6(i)(st a):=fF (U st=U a+1) (st[0]?=J 0)<|∀b s,a[b]?=J s->∃p q,st[b]?=J p/\st[b+1]?=J q/\go i p s=J q
abbrev g4:=l6 i
def Bk:g4 [0] []:=bY Y Y λZ Z h=>aI h
def l6.tF(h:g4 st a)(b:st[U a]?=J p)(c:Zq.go i p s=J q):g4 (st++[q]) (a++[s]):=by
 have d:0<U st:=W (h V)<|kv _;refine bY (by refine W a3<|W a3<|W (h V) ?_;rfl) (W (hb d)<|h J1) λe f g=>?_;rcases h0 e (U a) with z|z
 .rw [hb z] at g;exact gv ((h J2) e f g) λa j k l m=>⟨a,j,W (hb<|gl k) k,W (hb<|gl l) l,m⟩
 .rw [hV z] at g;exact W (hL (zw<|BX.mp<|gl g) z)<|W (ms<|aP g) ⟨p,q,W (hb<|gl b) b,by refine ax (h V)<|W (hV<|bb _)<|W (pR ..) ?_;rfl,c⟩
def l6.cut(h:g4 st b)(a:k<=U b):g4 (aF (k+1) st) (aF k b):=by refine bY (W dU<|W dU<|W (h V)<|W (gq<|b3 a)<|W (gq a) Y) (W (ha)<|W (aJ<|kv _)<|h J1) λc s d=>?_;have l:=gl d;rw [dU,gq a] at l;rw [ha,aJ l] at d;exact gv ((h J2) c s d) λa b e f g=>⟨a,b,W (ha)<|W (aJ<|rM l) e,W (ha)<|W (aJ<|xn l) f,g⟩
def l6.top(h:g4 st a):∃p,st[U a]?=J p:=cL _<|bK<|W (h V)<|g9 _
abbrev x3:=iQ i
abbrev qy:=dw G T i
def dw.Wi(a:qy)(h:Zq.go i p s=J q)(b:i[q]?=J f)(m:c∈f.b5):∃j,c=j+1/\x3 p j/\bH G j=J s:=by refine rK (a.Dw h) λd e g k Z e=>?_;rw [b] at k;obtain rfl:=aC k;exact hv (w5.mp<|iu.mp<|e▸m) λj l n z=>⟨j,z,⟨d,g,l⟩,n⟩
def iQ.va(b:qy)(h:x3 p a):Va G a:=aA h λf c m=>b.va (aP c) a m
def HX(a:At G b r d o c)(e:bH G b=J s):At G (b+1) r (d+1) (c8 G r) c/\c.aQ[d]?=J s:=by rw [a.bH] at e;have f:=gV (a J3) (d:=d+1)<|gl e;rw [<-a.c8,<-cx,<-(a J2),a.c8] at f;exact br f e
def l6.b5(h:g4 st d)(n:fm)(e:qy)(a:st[k]?=J p)(f:i[p]?=J l)(m:g∈l.b5):(k=0/\g=0)\/∃c b s j,k=c+1/\st[c]?=J b/\d[c]?=J s/\g=j+1/\x3 b j/\bH G j=J s:=by
 induction k with
 |zero=>rw [h J1] at a;obtain rfl:=aC a;refine aA (e J1) λo z q=>?_;rw [f] at z;obtain rfl:=aC z;exact aL ⟨Y,ms<|q▸m⟩|succ k=>
  have r:k<U d:=by have t:=gl a;rw [h V] at t;exact zF t
  refine gv ((h J2) k _ (bK r)) λb q v x y=>?_;rw [a] at x;obtain rfl:=aC x;exact hv (e.Wi y f m) λj e C H=>aw ⟨k,b,_,j,Y,v,bK r,e,C,H⟩
def Bck(i)(G)(st a:aa O)(k r d:O)(b:Ru):=fF (d<=k) (∃p,st[k-d]?=J p/\iQ i p (c8 G r))<|∀j<d,a[k-d+j]?=b.aQ[j]?
def l6.back(h:g4 st c)(g:fm)(a:qy){r}{b}(e:G.a5[r]?=J b):∀d k p,d<=U b.aQ->st[k]?=J p->x3 p (c8 G r+d)->Bck i G st c k r d b:=by
 refineλd=>d.rec (λk p Y f j=>bY (cQ _) ⟨p,f,j⟩ λj l=>ay l<|fC j) λd m=>?_
 intro k p n f q;refine aA q λo s t=>?_;have v:=gV e n;refine aA ((a J4) o<|aP s) λx Y e=>?_;rw [e] at t;rcases tR.mp t with y|⟨C,H,I,_,L⟩
 .rcases h.b5 g a f s y with ⟨_,z⟩|⟨N,Z,s,j,rfl,b,c,d,l,p⟩
  .have k:At G (c8 G r+_) 0 0 0 ⟨G.nT,[G.iU,0],0⟩:=W z<|u3 g;exact vX<|(v.uM k).2.1
  .refine hI (l.va a) λq o x t jQ=>dC (HX jQ p) λe h=>?_;rw [<-d] at e;refine Af (v.uM e) λf y H=>?_;obtain rfl:=f7 y;obtain rfl:=H;have s:=m N Z (uS n) b (by rw [<-f7 d] at l;exact l);refine bY (b3<|s V) (W (ID ..)<|s J1) λj l=>W (ID ..) ?_;rcases iN.mp l with z|z
   .exact(s J2) j z
   .simp only [z,As<|s V,c];exact a4 h
 .have jQ:=gV I<|cQ _;rw [show c8 G C+0=c8 G r+_ from a4 L] at jQ;exact vX<|(v.uM jQ).2.1
def l6.WB(h:g4 st j)(g:fm)(a:qy){r k p}(d:G.a5[r]?=J e)(f:st[k]?=J p)(c:x3 p<|c8 G r):(k=0/\r=0)\/(e.aY≠G.nT/\∃b,x3 p b/\bH G b=J e.aY):=by
 refine aA c λl m n=>?_;have o:=aP m;refine aA ((a J4) l o) λq s e=>?_;have t:=gV d<|cQ _;rw [e] at n;rcases tR.mp n with v|⟨x,y,z,C,H⟩
 .rcases h.b5 g a f m v with ⟨I,L⟩|⟨N,Z,p,j,rfl,k,q,n,h,f⟩
  .have v:At G (c8 G r+0) 0 0 0 ⟨G.nT,[G.iU,0],0⟩:=W (L:c8 G r+0=0)<|u3 g;exact aL ⟨I,(t.uM v).1⟩
  .refine hI (h.va a) λx y N Z jQ=>dC (HX jQ f) λj X=>?_;rw [<-n] at j;exact wC<|(t.uM j).2.1
 .obtain rfl:=Tt d z H;obtain rfl:=aC<|af d.symm z;have k:=((s J1) _).mp C;refine aw ⟨k.nt g (a V) ((a J9) l o).2,?_⟩;refine aA k λb c L=>aA L λp q r=>?_;rcases r with r|r
  .exact⟨b,⟨l,m,a.Gb o b c⟩,r▸q⟩
  .exact gv ((a V) J4 p _ r) λx t I h v=>bp (gs.mp I) λy N=>⟨c8 G y,⟨l,m,W e<|ak tR<|aw ⟨y,x,N,ak ((s J1) _) ⟨b,c,p,q,h⟩,Y⟩⟩,W ((gV N<|cQ _).bH:bH G _=x.aQ[0]?)<|W v Y⟩
def Rdc(G)(i)(st b:aa O)(r:O)(a)(p q):=t9 (G.a5[r]?=J a) (U a.aQ<=U b) (cq (U b-U a.aQ) b=a.aQ) (st[U b-U a.aQ]?=J p) (∃c,iQ i p c/\bH G c=J a.aY) (a.aY≠G.nT)<|Zq.go i p a.aY=J q
def l6.red(h:g4 st d)(g:fm)(a:qy)(j:st[U d]?=J p)(e:i[p]?=J f)(m:r∈f.rd):∃b c q,Rdc G i st d r b c q:=by
 refine dC ((a.wd g.toGW<|aP e).2.1 r m) λk z=>aA z λb l n=>?_;have o:=h.back g a l _ _ _ (bb _) j ⟨f,e,n⟩;refine aA (o J1) λc s t=>?_;refine aO (h.WB g a l s t) (λz=>?_) λz=>?_
 .exact ay z.2 k
 .refine dC z λn z=>aA z λv x y=>?_;refine aA (a.pO x y) λq C Z=>⟨b,c,q,ke l (o V) (Cp λj=>W (FD) ?_) s ⟨v,x,y⟩ n C⟩;rcases h0 j (U b.aQ) with z|z
  .exact(o J2) j z
  .refine W (iB z) ?_;refine iB ?_;exact ax (eU j ..)<|ae (c6 (As<|o V).symm)<|W (eU ..)<|fY z _
def l6.acc(h:g4 st b)(g:fm)(a:qy)(c:st[U b]?=J p)(d:Zq.go i p 0=J q):b=[G.iU]:=by
 refine aA (wx d) λf e j=>?_;obtain⟨k,⟨l,m,n⟩,o⟩:=a.lM e<|hY<|qc j;rw [e] at m;obtain rfl:=aC m;refine hI (a.va (aP e) k n) λr d s t v=>dC (HX v o) λZ x=>?_;have y:r=0:=by
  induction r with
  |zero=>rfl|succ r=>exact ay (aP x)<|g.e0 r t<|v J3
 subst y;obtain rfl:=aC<|af (v J3).symm g.r0;have z:d=1:=jQ (a:=(·=1)) x (λj=>ay ((show G.iU=0 from j)▸g.st:G.nT<0)<|fC _) λZ=>rfl;subst z;rw [v J2,v.c8] at n;have C:=h.back g a g.r0 1 _ _ (bl Y) c ⟨f,e,n⟩;refine aA (C J1) λH I L=>?_;rcases h.WB g a g.r0 I L with z|⟨n,_⟩
 .have l:=hL (zw z.1)<|C V;have N:=(C J2) 0<|ao Y;exact O! l (by rw [l] at N;exact N)
 .exact ay Y n
structure tD where
k:bo
q:O
ns:aa bo
structure Cf where
st:aa O
ts:aa ai
fl:aa tD
mv:aa ai
pl:aa O
sp:O
qu:O
noncomputable def n6(a):=aR [aG a]
noncomputable def dz(a)(b:O):=aR [aG a,ag b]
noncomputable def xm(k)(a:O):=aR [aG k,aG<|k++toString (a:au)]
noncomputable def vd:=aR [aG "error",aG ""]
noncomputable def lY(l)(a):=aR<|aG l::a
def tn(G:Gr)(k):=dN (g7 k<|aF G.nT G.cI) 2
noncomputable def fB(a):=a++["$end"]
def r4(B)(q t):= !eX (xp B q t) 0&& !eX (xp B q t) (-1048576)
def yB(G:Gr)(B)(q t):=aD (r4 B q t&&(!aE t 1&& !aE t 2)) (J<|F G.cI t "") A
def p4(G)(B)(q):=eI (yB G B q)<|e4 G.nT
def h5(B)(q):=0<xp B q 1/\xp B q 1<1048576
inductive gI(B:Tb):aa O->aa ai->aa ai->aa O->aa ai->aa ai->Prop
|ok {st a b q} (h:cG st=J q) (o:h5 B q):gI B st a b st a b|one {q a b}:gI B [q] a b [q] a b|pop {st a b c d e q v} (n:st≠[]) (o:¬h5 B q) (r:gI B st a (b++[dz "pop" q]) c d e):gI B (st++[q]) (a++[v]) b c d e
def eK(G)(B)(c:Cf)(k)(q):=aD (aE c.qu 0) (c.fl++[⟨k,q,p4 G B q⟩]) c.fl
noncomputable def eE(c:Cf):=aD (aE c.qu 0) (c.pl++[c.sp]) c.pl
def gD(c:Cf)(t):=aD (aE c.qu 3) (c.mv++[dz "discard" t]) c.mv
noncomputable def fy(c:Cf):=aD (aE c.qu 3) (c.sp+1) c.sp
inductive gB(G:Gr)(B:Tb)(b:aa bo)(c:Cf)(k:bo)(q:O):bf ba->Cf->Prop
|acc (h:el B q (tn G k)=1048576):gB G B b c k q (J Q) ⟨c.st,c.ts,c.fl,c.mv++[n6 "accept"],c.pl,c.sp,c.qu⟩|nc (a:O) (h:el B q (tn G k)=a) (p:0<a) (n:a<1048576):gB G B b c k q A ⟨c.st++[a],c.ts++[xm k c.sp],c.fl,c.mv++[dz "shift" a],c.pl,c.sp+1,c.qu-1⟩|red (r:O) (f:Ru) (p j:O) (m:O) (h:el B q (tn G k)= -(r:au)) (s:0<r) (t:G.a5[r]?=J f) (g:U c.ts=m+U f.aQ) (l:c.st[m]?=J p) (v:cK (F B.nO p []) f.aY=J j):
 gB G B b c k q A ⟨aF (m+1) c.st++[j],aF m c.ts++[lY (F G.cI f.aY "")<|cq m c.ts],c.fl,c.mv++[dz "reduce" r],c.pl,c.sp,c.qu⟩
|rp (h:el B q (tn G k)=0) (g:c.qu=3) (x:k="$end"):gB G B b c k q (J u) c|oh {st d e} (h:el B q (tn G k)=0) (g:c.qu=3->k≠"$end") (D:gI B c.st c.ts (gD c<|tn G k) st d e) (p:O) (l:cG st=J p) (o:¬h5 B p):gB G B b c k q (J u) ⟨st,d,eK G B c k q,e,eE c,fy c,3⟩|mI {st d e} (h:el B q (tn G k)=0) (g:c.qu=3->k≠"$end") (D:gI B c.st c.ts (gD c<|tn G k) st d e) (p:O) (l:cG st=J p) (a:O) (o:h5 B p) (y:xp B p 1=a):gB G B b c k q A ⟨st++[a],d++[vd],eK G B c k q,e++[dz "error" a],eE c,fy c,3⟩
inductive nM(G:Gr)(B:Tb)(a:aa bo):Cf->bf (ba×Cf)->Prop
|ov {c} (h:60<U c.mv):nM G B a c A|st {c b k q o} (h:U c.mv<=60) (e:(fB a)[c.sp]?=J k) (f:cG c.st=J q) (s:gB G B a c k q A b) (r:nM G B a b o):nM G B a c o|en {c b k q d} (h:U c.mv<=60) (e:(fB a)[c.sp]?=J k) (f:cG c.st=J q) (s:gB G B a c k q (J d) b) (l:U b.mv<=60):nM G B a c<|J (d,b)|eo {c b k q d} (h:U c.mv<=60) (e:(fB a)[c.sp]?=J k) (f:cG c.st=J q) (s:gB G B a c k q (J d) b) (l:60<U b.mv):nM G B a c A
abbrev fJ:=Md G T i X M B
def tQ(m:fJ)(a:q<U i)(b:t<G.nT)(h:c (ag<|xp B q t) d):aK (n+1) 409 [h7 G B,ag q,ag t] d c e:=by
 have f:q<U B.te/\U (F B.te q [])=G.nT:=by
  refine rK ((m J3) J4 q _ (bK a) a J1) λg j Z k l Z=>?_;refine br (W ((m J3) V) a) ?_;rcases l with ⟨_,e⟩|⟨_,_,e⟩
  .exact W e<|k V
  .rw [e,bC];exact k V
 have rl:=f;refine a7 Qd _ Y Y (bJ Y (by refine W (cg)<|W (e8 (d:=[]) rl.1) ?_;rfl) ?_);exact R3 (W rl.2 b)<|bc h
def F8(m:fJ)(a:q<U i)(h:b (ag<|df B q) c):aK (n+1) 375 [h7 G B,ag q] c b d:=a7 Rr (.c 64 _ (.c 130 _ ar)) Y Y<|Hj (W ((m J3) J2) a)<|bc h
def XG(a:cK (F B.nO p []) b=J q)(h:c (ag q) d):aK (n+1) 392 [h7 G B,ag p,ag b] d c e:=by
 refine a7 SV _ Y Y ?_;have f:=zW λz=>by rw [cZ,iB z] at a;exact aI a
 refine bJ Y (by refine W (cg)<|W (e8 (d:=[]) f) ?_;rfl) ?_;exact br pW<|W r3<|W a<|bc h
def adx(h:a (ag<|tn G k) b):aK (n+1) 384 [h7 G B,aG k] b a c:=by
 refine a7 Mt (.c 64 _ (.c 52 _ ar)) Y Y<|⟨Ui,W afc ?_⟩;unfold tn at h;cases e:g7 k _ with
 |none=>rw [e] at h;exact bc h|some d=>rw [e] at h;refine(?_:eh a (ag _) b);exact W (eJ ..)<|bc h
def Ba{a d:Type}{b:aa a}{g:a->d}{c:O}{x}(h:b[c]?=J x):(R g b)[c]?=J (g x):=by simp only [cg,h];rfl
def agu{r:O}(a:G.a5[r]?=J b)(h:c (ag (U b.aQ:O)) d):aK (n+1) 367 [h7 G B,ag r] d c e:=a7 Qr (.c 64 _ (.c 61 _ ar)) Y Y<|bJ Y (fV<|Ba a)<|bc h
def aeW{r:O}(a:G.a5[r]?=J b)(h:c (ag b.aY) d):aK (n+1) 346 [h7 G B,ag r] d c e:=a7 O8 (.c 64 _ (.c 61 _ ar)) Y Y<|bJ Y (fV<|Ba a)<|bc h
def acV{r:O}(a:G.a5[r]?=J d)(h:b (ag 0) c):aK (n+1) 366 [h7 G B,ag r] c b e:=a7 NU (.c 64 _ (.c 61 _ ar)) Y Y<|bJ Y (fV<|Ba a)<|bc h
def Md.vK(m:fJ)(a:f∈i)(h:r∈f.rd):0<r/\r<10:=by refine dC (((m J1).wd (m V).toGW a).2.1 r h) λb z=>aA z λc d Z=>?_;exact⟨qq b,cc (gl d) (m V).oX⟩
def abB(m:fJ)(a:q<U i)(b:t<G.nT)(h:c (ag<|el B q t) d):aK (n+2) 365 [h7 G B,ag q,ag t] d c e:=by
 refine a7 N9 _ Y Y (tQ m a b ?_);refine lE (λz=>ay z<|(by
  have f:=bK a;rcases(m.La f b).1 with ⟨g,h,x⟩|⟨h,r,j,x⟩|⟨h,x⟩
  .exact W x<|mD<|ao Y
  .refine W x λe=>?_;have k:=(m.vK (aP f) j).2;exact ay (eG (p8.mp e)▸k)<|ao Y
  .refine W x ?_;decide)) λZ=>lE (λz=>?_) λz=>?_
 .refine F8 m a ?_;rw [EG z] at h;exact bc h
 .rw [Ej z] at h;exact bc h
def pN(B)(q t):=aD (r4 B q t&&(!aE t 1&& !aE t 2)) (J t) A
def Gj(G:Gr)(B)(q):=eI (pN B q)<|e4 G.nT
def Ha{a b:O}:eX (a:au) (b:au)=aE a b:=by
 refine W pA ?_
 by_cases q:a=b
 .exact W q<|W (fK ..)<|eZ Y
 .exact W (d4 q)<|gh λz=>q<|eG z
def TK{a B}(h:t=Q->dH b a B)(c:t=u->B):dH t (dH b a B) (dH t a B):=by
 induction t
 .exact c Y
 .exact h Y
def alg(m:fJ)(a:q<U i)(h:b (aN<|iV<|Gj G B q) c):aK (n+2) 383 [h7 G B,ag q] c b d:=by
 refine a7 K2 (.c 64 _ (.c 130 _ ar)) Y Y<|aV de λe s f=>⟨mR<|ae (m V).t6<|ao Y,cv mU (λZ Z Z=> .c 64 _ (.c 130 _ _)) (λk (_ _:j4)=> .c e (az<|iV<|eI (pN B q)<|e4 k) bO) (λZ Z Z=>bh) () () f a0 (λZ Z Z Z Z=>rfl) ?_ ?_⟩
 .intro t x _ _ s g j _ f l;have j:=ly j;refine W j.1 ?_;have o:=λs=>l () () s a0;rw [Bp,zg] at o;have skip:pN B q t=A->g _ s:=λe=>o s<|W e<|W (rfl:xa (A:bf O)=[])<|W (dB ..) f;have p:U (eI (pN B q)<|e4 t)<=1000:=ae (AQ ..)<|W e9<|ae (bU j.2)<|ae (m V).t6<|by decide
  have r:eX _ 1=aE t 1:=Ha;have v:eX _ 2=aE t 2:=Ha;exact TK (λy=>ef (λz=>tQ m a j.2<|TK (λC=>ef (λH=>cH f 0 Y<|rg f 0 Y p λs f=>o s<|W (show pN B q t=J t by unfold pN r4;simp only [C,H,<-r,y,<-v,z];rfl) f) λH=>skip (by unfold pN r4;simp only [H,qt];rfl)) λC=>skip (by unfold pN r4;rw [C];rfl)) λz=>skip (by unfold pN;simp only [<-v,z,qt,qt];rfl)) λy=>skip (by unfold pN;simp only [<-r,y,Pl,qt];rfl)
 .exactλZ Z s Z f=>jg (e9▸f) 0 Y h
def GY(G:Gr)(B)(q v):=v=0\/(v=df B q/\∀t<G.nT,xp B q t=0)
def acR(m:fJ)(a:q<U i)(h:∀b,(b=Q->∀t<G.nT,xp B q t=0)->c (bT b) d):aK (n+2) 410 [h7 G B,ag q] d c e:=by
 refine a7 PF (.c 64 _ (.c 130 _ ar)) Y Y ?_;have f:=h u lQ;refine F8 m a<|lE (λZ=>bc f) λZ=>⟨mR<|ae (m V).t6<|ao Y,cv mU (λZ Z Z=> .c 64 _ _) (λZ Z Z=>bO) (λk (_ _:j4)=>∀t<k,xp B q t=0) () () de (λt g=>ay g<|fC t) (λZ Z Z Z Z=>rfl) ?_ ?_⟩
 .intro t x _ _ s j l o p r;have l:=ly l;refine W l.1<|tQ m a l.2<|KH (λZ=>m9 p f) λz=>r () () s (λv y=>?_) p;rcases iN.mp y with y|y
  .exact o v y
  .exact W y z
 .intro _ _ s o p;rw [e9] at o;exact m9 p<|h Q λZ=>o
noncomputable def sF(s):=S.casesOn (motive:=λZ=>S) s ck (λs Z=>s) (λZ=>ck) (λZ Z=>ck) (λZ=>ck) (λZ Z Z=>ck) (λZ Z=>ck) (λZ Z Z Z Z=>ck) ck (λZ=>ck) (λZ Z Z Z=>ck) ck λZ=>ck
noncomputable def sR(s):=S.casesOn (motive:=λZ=>S) s ck (λZ r=>r) (λZ=>ck) (λZ Z=>ck) (λZ=>ck) (λZ Z Z=>ck) (λZ Z=>ck) (λZ Z Z Z Z=>ck) ck (λZ=>ck) (λZ Z Z Z=>ck) ck λZ=>ck
noncomputable def sA(s):=S.casesOn (motive:=λZ=>S) s ck (λZ Z=>ck) (λZ=>ck) (λZ Z=>ck) (λZ=>ck) (λZ a Z=>a) (λZ Z=>ck) (λZ Z Z Z Z=>ck) ck (λZ=>ck) (λZ Z Z Z=>ck) ck λZ=>ck
noncomputable def sB(s):=S.casesOn (motive:=λZ=>S) s ck (λZ Z=>ck) (λZ=>ck) (λZ Z=>ck) (λZ=>ck) (λZ Z b=>b) (λZ Z=>ck) (λZ Z Z Z Z=>ck) ck (λZ=>ck) (λZ Z Z Z=>ck) ck λZ=>ck
noncomputable def sW(s):=S.casesOn (motive:=λZ=>S) s ck (λZ Z=>ck) (λZ=>ck) (λZ Z=>ck) (λZ=>ck) (λZ Z Z=>ck) (λZ b=>b) (λZ Z Z Z b=>b) ck (λZ=>ck) (λZ Z Z Z=>ck) ck λZ=>ck
noncomputable def Cs.drop:O->Cs->Cs
|0,d=>d|_+1,bO=>bO|n+1, .c _ _ r=>r.drop n
noncomputable def Cs.pk(a t:Cs):aa O->Cs
|[]=>t|j::r=>match a.at j with
 |some x=> .c x.1 x.2<|a.pk t r|none=>a.pk t r
def aeT:∀{a:Cs} {k},(a.drop m).at k=a.at (m+k):=by
 induction m with
 |zero=>intro a k;exact W (eJ ..) Y|succ m b=>
  intro a k
  induction a with
  |nil=>rfl|c a o r=>exact W (jf ..) b
def eD.drop:∀{a},eD b c a->eD b c (a.drop m):=by
 induction m with
 |zero=>exactλh=>h|succ m d=>intro a h;induction a with
  |nil=>exact h|c a o r=>exact d h.2.2.2
def abO{a t:Cs}{c}{p}:∀d {k:O},(a.pk t d).at k=J (c,p)->(∃j∈d,a.at j=J (c,p))\/∃b,t.at b=J (c,p):=by
 refine jb (λh=>aw ⟨_,h⟩) λj r e=>?_;intro k h;have h:(match a.at j with|some x=>Cs.c x.1 x.2 _|none=>a.pk t r).at k=J (c,p):=h;cases q:a.at j with
 |none=>exact(e<|q▸h).imp_left λf=>aA f λb g l=>⟨b,cz _ g,l⟩|some x=>
  rw [q] at h
  induction k with
  |zero=>cases h;exact aL ⟨j,b8 ..,q⟩|succ k=>exact(e h).imp_left λm=>aA m λb g l=>⟨b,cz _ g,l⟩
def Fr.pk(h:Fr c d a)(b)(m)(nd:bw b)(e:∀j∈b,j<m):Fr c d (a.pk (a.drop m) b):=by
 refine mq ?_<|h J1
 induction b with
 |nil=>exact(h V).drop|cons j r f=>
  have nd:=rY.mp nd;have g:=f nd.2 λx k=>e x<|cz _ k;refine(?_:eD c d (match a.at j with|some x=>Cs.c x.1 x.2 _|none=>a.pk _ r));cases q:a.at j with
  |none=>exact g|some x=>
   have l:=(h V).get q;refine⟨l.1,l.2,λk b p n=>?_,g⟩;rcases abO r n with ⟨g,o,n⟩|⟨g,n⟩
   .exact(h V).ne q n<|nd.1 g o
   .exact(h V).ne q (aeT▸n)<|fH<|cc (e j (b8 ..))<|dO _ _
def zP(e:c-j=k)(d:a (ag k) b):xF (ag c) (ag j) b a:=by refine W Mq (?_:a _ b);exact W e d
def M7(a):nr (aG s) (sV a)=J (b7 a s):=
F3 (λZ=>rfl) (λa b e=>by injection e) gG
def vT(h:Fr f a c)(k)(q:c.at k=J (b,az<|sV d))(e:K<|b7 d s):mX (aG s) (aj b) a K:=by refine W q8 ((W (h.c9 q) (?_:bE _ K)):inR _ K (a b));exact W (M7 ..) e
def Uw(a):vQ (sV a)=J a:=a.rec Y λs r b=>by refine((aq _ b):b4 _ (vQ<|sV r)=_)
def Jy:b7 b s=Q↔∃a,g7 s b=J a:=by
 refine b.rec ⟨lQ,λc=>bp c λZ h=>aI h⟩ λt r d=>(?_:_↔∃a,(if t=s then J 0 else b4 _ (g7 s r))=J a);refine W BH ?_
 by_cases q:t=s
 .exact W (aJ q)<|W q<|W (jL ..)<|⟨λZ=>cL 0 rfl,λZ=>rfl⟩
 .refine W (aS q)<|W (yO λz=>q z.symm)<|W (XA ..) ?_;rw [d];exact⟨λe=>bp e λa f=>⟨a+1,aq _ f⟩,λg=>bp g λa f=>aA (fA f) λj f Z=>cL j f⟩
def BC:∀{a},g7 s b=J a->b[a]?=J s:=by
 refine @(b.rec (λh=>aI h) λt r c=>?_);intro a h;have h:(if t=s then J 0 else b4 _ (g7 s r))=J a:=h
 by_cases q:t=s
 .rw [aJ q] at h;exact ax (aC h)<|aq _ q
 .rw [aS q] at h;obtain⟨j,e,rfl⟩:=fA h;exact c e
def Of(nd:bw a)(h:a[b]?=J s):g7 s a=J b:=by refine bp (Jy.mp<|ak gG<|aP h) λj c=>?_;obtain⟨a,p⟩:=ka.mp h;obtain⟨b,q⟩:=ka.mp<|BC c;simp only [c,(Bi nd).mp<|af p q.symm]
def afV(h:g7 s a=J b)(c:v=aN (sV a))(d:e (ag b) f):lI jM v (aG s) f e:=by refine W c<|W pU (?_:bE _ _);exact W (Uw ..) ((W h d):bE (g7 s a) _)
def Eb(f:Fr m a c)(k)(e:c.at k=J (d,az<|sV b))(h:g7 s b=J g)(j:l (ag g) a):lI jM (aj d) (aG s) a l:=W pU<|bX f k e<|W (Uw ..) ((W h j):bE (g7 s b) _)
def tc(a:e6)(k):tn G k<G.nT:=by
 unfold tn;cases h:g7 k _ with
 |none=>exact cc (ao Y) a.t3|some b=>have c:=gl<|BC h;exact cc (dU▸c)<|m4 _ _
def lX(h:cG a=J q):cG (iV a)=J (ag q):=by unfold iV;simp only [List.getLast?_map,h];rfl
def GP(D)(G:Gr):=t9 (U G.a5=U D+1) (∀k l a,D[k]?=J (l,a)->∃b,G.a5[k+1]?=J b/\G.cI[b.aY]?=J l/\a=R (F G.cI · "") b.aQ) (G.cI[G.iU]?=J "s") (G.cI[0]?=J "$end") (G.cI[1]?=J "error") (G.cI[2]?=J "$undefined")<|bw G.cI
structure MA where
mv:O
fa:O
pl:O
nm:O
rw:O
noncomputable def xN:aa O->aa tD->aa ai:=λa b=>List.zipWith (λc (f:tD)=>aR [aG f.k,ag f.q,aj c]) a b
def Gs(a)(b:aa tD):=(BE a b).foldr (λp c=> .c p.1 (az<|sV p.2.ns) c) bO
noncomputable def A7(G:Gr):=aF G.nT G.cI
def fv(G:Gr)(d:aa bo)(a:MA)(e f:O)(b:aa O)(c:Cf):Cs:=
.c e (az<|iV c.st) (.c f (az c.ts)<| .c a.mv (az c.mv)<| .c a.fa (az<|xN b c.fl)<| .c a.pl (az<|iV c.pl)<| .c a.nm (az<|sV<|A7 G)<| .c a.rw (az<|sV<|fB d)<|Gs b c.fl)
def gW(G:Gr)(B:Tb)(D:aa<|bo×aa bo)(a:MA)(b c d e:O)(r:aW):aW:=
.c 45 (h7 G B) (.c 115 (gR D)<| .c 50 (ag 60)<| .c 112 (aj a.nm)<| .c 14 (aj a.rw)<| .c 128 (aj b)<| .c 134 (aj c)<| .c 159 (aj a.fa)<| .c 110 (aj a.mv)<| .c 171 (aj a.pl)<| .c 67 (ag d)<| .c 120 (ag e) r)
def mB:=sW<|sF<|sR<|sR<|sR Hz.gY
def V9:=sF<|sR<|sR<|sR<|sR mB
def L':=sF<|sB V9
def AZ:=sB L'
def Bd(c:Cf):=j6 (U c.mv<=60) (U c.st<=U c.mv+1) (U c.ts<=U c.mv) (U c.fl<=U c.mv)<|U c.pl<=U c.mv
def jh(h:k<=200):k<cu:=cF h<|ao Y
def adp(a:Fr l m<|fv G P b d e n c)(f:Bd c)(h:(fB P)[c.sp]?=J k)(o:ml (k++toString (c.sp:au))<=4096)(p:c.sp<=1000)
 (q:∀j,Fr l j (fv G P b d e n ⟨c.st++[g],c.ts++[xm k c.sp],c.fl,c.mv++[dz "shift" g],c.pl,c.sp+1,c.qu-1⟩)->N (gW G B D b d e (c.sp+1) (c.qu-1)<| .c 63 (ag t)<| .c 5 (ag g) ar) j):
 c1 r s (sA V9) (gW G B D b d e c.sp c.qu<| .c 63 (ag t)<| .c 5 (ag g) ar) m N v C:=by
 have m:=f V;dsimp only [u5] at m;refine cH a 2 Y<|dF a 2 Y (jh<|ae m<|by decide) λx a=>cH a 0 Y<|rg a 0 Y (ae (f J1)<|ae (b3 m)<|ao Y) λy a=>cH a 1 Y<|dc a 6 Y (ku h)<|dc a 6 Y (ku h)<|⟨⟨cp _,ak jj<|bU<|cf p⟩,o,dF a 1 Y (jh<|ae (f J2)<|ae m<|by decide) λz a=>u7 ?_⟩;have e:max (0:au) ((c.qu:au)-1)=((c.qu-1:O):au):=af (XD ..)<|a! _;have H:=q z a;unfold gW at H;rw [<-e] at H;exact H
abbrev fW:=GP D G
def GP.rule(b:fW)(d:0<r)(c:G.a5[r]?=J a):∃k,r=k+1/\D[k]?=J (F G.cI a.aY "",R (F G.cI · "") a.aQ)/\G.cI[a.aY]?=J (F G.cI a.aY ""):=by
 obtain⟨k,rfl⟩:=K0<|ih d;have e:k<U D:=by have:=gl c;rw [b V] at this;exact zF this
 have f:=bK e;refine hv ((b J1) k _ _ f) λg h j l=>?_;rw [show G.a5[k+1]?=J a from c] at h;obtain rfl:=aC h;have e:F G.cI a.aY ""=D[k].1:=by rw [cZ,j];rfl
 exact⟨k,Y,by simp only [f,e,<-l];rfl,W e j⟩
def aeX(c:K):pD jM (aN a) b K:=by refine W rF ?_;exact c
def We{k m:O}:CO m (ag k) 0=J (min k m):=by show J _=_;exact aq _ (aS<|ak hB<|cp k)
def Nt{k m d:O}:CO m (ag k) d=J (min k m):=by show J _=_;exact aq _ (aS<|ak hB<|cp k)
def AL(l:k<=U a)(h:K<|cq k a):mi a (ag k) bk K:=by refine W yE ?_;unfold AJ;refine W We (?_:K<|(aF (U a) a).drop _);simp only [dJ,gq l];exact h
def th(l:k<=U a)(h:K<|aF k a):mi a bk (ag k) K:=by refine W yE ?_;unfold AJ;exact W Nt<|W (gq l) h
def ŉ(j:fW)(a:Fr k t<|fv G P d e f l c)(g:Bd c)(v:0<r)(x:G.a5[r]?=J b)(h:U c.ts=m+U b.aQ)(n:m+1<=U c.st)(y:c.st[m]?=J p)(z:cK (F B.nO p []) b.aY=J o)
 (C:∀e f q s,Fr k q (fv G P d e f l ⟨aF (m+1) c.st++[o],aF m c.ts++[lY (F G.cI b.aY "")<|cq m c.ts],c.fl,c.mv++[dz "reduce" r],c.pl,c.sp,c.qu⟩)->[5,40,111,53,59,123,63,66].foldl kY s=gW G B D d e f c.sp c.qu ar->N s q):
 c1 (aK<|H+1) I (sA L') (gW G B D d e f c.sp c.qu<| .c 63 (ag L)<| .c 5 (ag<| -(r:au)) ar) t N Z À:=by
 obtain⟨e,rfl,f,r⟩:=j.rule v x;have q:(0:au)- -((e+1:O):au)=((e+1:O):au):=by simp only [GN,LO]
 have s:=g V;have t:=g J2;refine zP q<|ph (a:=e+1) (j:=1) (d:=e) (eU e 1)<|bJ Y (Ba (g:=wI) f)<|cH a 2 Y<|zP q<|dF a 2 Y (jh<|ae s<|ao Y) λH a=>bX a 1 Y ?_;have I:U (sV<|R (F G.cI · "") b.aQ)=U b.aQ:=by unfold sV;simp only [bC,bC]
 refine ph (a:=U c.ts) (j:=U<|sV<|R (F G.cI · "") b.aQ) (d:=m) (W I<|W h (eU ..))<|bX a 1 Y<|AL (h▸dO _ _)<|aV a λN L a=>?_;have a:=a.bN;refine hF a<|⟨bU<|jh ?_,?_⟩
 .exact W wO<|ae (d6 (lT ..) 1)<|ae (d6 (ae t s) 1)<|ao Y
 have a:=a.tl;refine bX a 0 Y<|th (k:=m+1) (W du n)<|aV a λZ v a=>?_;have a:=a.bN;refine bX a 2 Y<|th (h▸dO _ _)<|aV a λx f a=>?_;have a:=a.bN;refine aV a λq H a=>?_;have a:=a.bN;refine bX a 1 Y<|hF a<|⟨?_,?_⟩
 .exact W dU<|bU<|jh<|ae (dZ (oZ _ _)<|bb 1)<|ae (fY (ae t s) 1)<|by decide
 refine aV a λN I a=>?_;have a:=a.bN;have a:Fr k I (fv G P d Z N l ⟨aF (m+1) c.st,aF m c.ts++[lY (F G.cI b.aY "")<|cq m c.ts],c.fl,c.mv++[dz "reduce"<|e+1],c.pl,c.sp,c.qu⟩):=by have a:=a.pk [3,0,6,7,8,9,10] 11 (ao Y)<|ao Y;unfold fv;exact W (show iV (aF (m+1) c.st)=aF (m+1) (iV c.st) from tq ..) a
 refine cH a 0 Y<|jT a 0 Y (lX (q:=p) ?_) ?_
 .simp only [x6,dU,gq n,wt,ha,aJ<|g9 m];exact y
 exact aeX<|afV (Of (j J6) r) Y<|XG z<|rg (m:=o) a 0 Y (W dU<|ae (oZ _ _)<|ae (g J1)<|ae (b3 s)<|ao Y) λL a=>C Z N L _ a Y
def l6.lt(c:qy)(h:g4 st d){a p:O}(b:st[a]?=J p):p<U i:=by
 induction a with
 |zero=>rw [h J1] at b;exact ax (aC b)<|aA (c J1) λf e Z=>gl e|succ a=>have l:=gl b;rw [h V] at l;refine gv ((h J2) a _ (bK<|zF l)) λg q Z j k=>?_;rw [b] at j;exact W (aC j)<|c.v9 k
def l6.jx(h:g4 st a):cG st=st[U a]?:=by simp only [x6,h V,wt]
def l6.pop(h:g4 (st++[q]) a)(n:st≠[]):∃b s,a=b++[s]/\g4 st b:=by
 have l:=h V;dsimp only [tj] at l;rw [a3,Ju] at l;have l:=f7 l;have c:a≠[]:=λz=>n<|It<|by rw [l,z];rfl
 have e:=a4<|rt c;have d:U a=U (kx a)+1:=by have f:=aq U e;rw [a3] at f;exact f
 refine⟨kx a,a.getLast c,e,?_⟩;have c:=h.cut<|W d<|e7 _;rw [<-d,<-l,EN] at c;rw [show aF (U<|kx a) a=kx a by exact W T8 (Rz ..).symm] at c;exact c
def SN:=sF<|sR<|sR<|sR<|sR<|sR AZ
def GH(B)(i)(c:Cf)(st)(a b):=fF (∀x y z,gI B st a b x y z->gI B c.st c.ts c.mv x y z) (∃d,l6 i st d/\U a=U d)<|U b+U st<=U c.mv+U c.st
def afe{a d e}(j:fJ)(n:GH B i c a d e)(o:U c.mv+U c.st<=130)(b:Fr q r<|fv G P f g h k ⟨a,d,c.fl,e,c.pl,c.sp,c.qu⟩)
 (l:∀a d e p m,GH B i c a d e->cG a=J p->(h5 B p\/U a=1)->Fr q m (fv G P f g h k ⟨a,d,c.fl,e,c.pl,c.sp,c.qu⟩)->N (gW G B D f g h c.sp c.qu ar) m):
 c1 (aK<|s+1) t SN (gW G B D f g h c.sp c.qu ar) r N v C:=by
 refine n5 (λx X=>U x.1) (λX X=>gW G B D f g h c.sp c.qu ar) (λx y=>fv G P f g h k ⟨x.1,x.2,c.fl,y,c.pl,c.sp,c.qu⟩) (λx y=>GH B i c x.1 x.2 y) (a,d) e b n ?_;intro⟨a,d⟩ e z H I b L;refine aA (I J1) λZ m q=>bp m.top λp r=>?_;have N:=af m.jx r;refine bX b 0 Y<|Nf (b:=U<|iV a) (λC=>?_) λC=>?_
 .refine jT b 0 Y (lX N)<|tQ j (m.lt (j J1) r) (cc (ao Y) (j V).toGW.t3) ?_;have k:¬h5 B p->c1 (aK<|s+1) t (sW SN) (gW G B D f g h c.sp c.qu ar) z H v H:=λn=>by
   obtain⟨a,Z,rfl⟩:∃j Z,a=j++[Z]:=⟨_,_,a4<|rt λr=>aI<|r▸N⟩;have c:=aC<|oV▸N;subst c;have f:a≠[]:=λr=>kq _ (r▸C);refine hs (m.pop f) λg h s t=>?_;obtain⟨d,v,rfl⟩:∃H v,d=H++[v]:=⟨_,_,a4<|rt (λr=>by rw [s,r,a3] at q;exact wC q)⟩
   have Z:=I J2;dsimp only [tj] at Z;rw [a3] at Z;refine cH b 2 Y<|YL b 0 Y λz b=>dF b 2 Y (jh<|ae (ae (dO _ _) Z)<|ae o<|ao Y) λz b=>H4 b 1 Y oV λz b=>?_;refine L (a,d) _ z (W a3<|g9 _) (bY (λj c r h=>(I V) j c r<| .pop f n h) ⟨g,t,?_⟩<|W a3<|ae (c6 (cx ..))<|ae (c6<|aq _ (eU ..)) Z) ?_
   .rw [s,a3,a3] at q;exact f7 q
   .rw [w2] at b;exact b
  exact g5 (λx=>⟨⟨Y,ao Y,ao Y⟩,jk<|g5 (λy=>l a d e p z I N (aL ⟨x,y⟩) b) λy=>k λr=>ay r.2<|ak hB y⟩) λx=>k λr=>ay r.1<|ak hB x
 .rw [du] at C;refine l a d e p z I N (aw ?_) b;have v:=m V;exact hL C<|W v<|kv _
def akQ:∀{b} {a},U b=U a->(Gs b a).cA c (az<|sV f.ns)=Gs (b++[c]) (a++[f]):=by
 intro b
 induction b with
 |nil=>intro a h;induction a with
  |nil=>rfl|cons _ _=>cases h
 |cons v r d=>intro a h;induction a with
  |nil=>cases h|cons g t=>exact aq _ (d<|f7 h)
def G!(c:K<|eX x a||eX x b):mX (ag x) (aR [ag a,ag b]) d K:=by
 refine W q8 (?_:bE (nr (ag x)<|R ag [a,b]) K);rw [F3 (λZ=>rfl) λZ Z e=>by injection e]
 .exact c
 .refine W pA<|W pA<|W (ON ..) ?_;rw [mF,mF,rj,qp]
def aj5(h:t=Q->a)(b:t=u->c):dH t a (dH t d c):=by
 induction t
 .exact b Y
 .exact h Y
def aaz(e:Md G T i X M B)(a:Fr p s<|fv G P f g j b c)(k:Bd c)(d:U b=U c.fl)(v:(fB P)[c.sp]?=J l)(m:cG c.st=J q)(x:q<U i)
 (h:∀n r y o,U n=U (c.fl++[tD.mk l q<|p4 G B q])->Fr p o (fv G P f g j n ⟨c.st,c.ts,c.fl++[⟨l,q,p4 G B q⟩],c.mv,c.pl++[c.sp],c.sp,c.qu⟩)->N (gW G B D f g j c.sp c.qu<| .c 63 (ag t)<| .c 5 (ag z)<| .c 59 r<| .c 111 y ar) o):
 c1 (aK<|C+1) H (sA<|sF AZ) (gW G B D f g j c.sp c.qu<| .c 63 (ag t)<| .c 5 (ag z) ar) s N I L:=by
 have Z:=(e V).toGW;have f:U (sV<|A7 G)=G.nT:=by unfold sV A7;simp only [bC,dU];exact gq<|bU Z.nT
 have g:=f;have j:=k V;have l:U (sV _)<=6:=W g (e V).t6;refine bX a 5 Y<|br (mR<|ae l<|by decide)<|i3 mU (λt=>some<|bT<|r4 B q t) a (λR R R R=>rfl) (W e9<|jh<|ae l<|by decide) (λn o r p s y N z a C R=>?_) λr s a=>?_
 .have z:=ly z;rw [z.1] at C⊢;refine jT a 0 Y (lX m)<|tQ e x (g▸z.2)<|⟨⟨Y,ao Y,ao Y⟩,?_⟩;have H {o:au} {t:O} (h:xp B q t=o):(!(eX o 0||eX o (-1048576)))=r4 B q t:=by unfold r4;refine W h ?_;cases eX o 0<;>cases eX o _<;>rfl
  exact zP Y<|G! <|C _ s (ax (H Y) Y) a
 rw [zL] at a;refine bX a 5 Y ⟨mR<|ae l<|by decide,?_⟩;have a:=a.bN;refine i3 mU (λt=>b4 aG<|yB G B q t) a (λR R R R=>rfl) (W e9<|jh<|ae l<|by decide) (λn o I p s y N z a C L=>?_) λI s a=>?_
 .have z:=ly z;rw [z.1] at C L⊢;have f:eX _ 1=aE n 1:=Ha;have e:eX _ 2=aE n 2:=Ha;refine dc a 0 Y (by simp only [cg,xd z.2];rfl) ?_;refine aj5 (λr=>?_) λr=>?_
  .refine G! <|ef (λy=>?_) λy=>?_
   .refine dc a 6 Y (ku (s:=F G.cI n "") ?_) ?_
    .unfold A7;rw [ha,aJ<|g▸z.2];exact e8<|fe (g▸z.2) Z.nT
    .refine C _ s ?_ a;unfold yB;simp only [r,<-f,<-e,<-W0,y];rfl
   .refine L s ?_ a;unfold yB;simp only [r,<-f,<-e,<-W0,y];rfl
  .refine L s ?_ a;unfold yB;exact W r Y
 have x:(e4<|U<|sV<|A7 G).filterMap (λt=>b4 aG<|yB G B q t)=sV (p4 G B q):=by refine W g ?_;unfold sV p4;exact W N5 Y
 rw [x] at a;have a:=a.tl;refine cH a 3 Y<|dc a 6 Y (ku v)<|jT a 0 Y (lX m) ?_;have l:U (xN b<|Zq.Cf.fl c)=U (Zq.Cf.fl c):=by unfold xN;simp only [List.length_zipWith,d,Nat.min_self]
 refine dF a 3 Y (W l<|jh<|ae (k J3)<|ae j<|ao Y) λs a=>cH a 4 Y<|rg a 4 Y (ae (k J4)<|ae j<|by decide) λs a=>h (b++[I]) _ _ s (by simp only [a3,a3,d];rfl) ?_;unfold fv;have o {I:O} {f:tD} {H:aa tD} (h:U b=U H):xN b H++[aR [aG f.k,ag f.q,aj I]]=xN (b++[I]) (H++[f]):=by unfold xN;exact W (List.zipWith_append h) Y
 simp only [<-akQ d,<-o d];exact a
noncomputable def nA(a:MA)(b)(v)(c:aa ai):=aD (dI 60<|U c) [aG "endless"] [bT b,v,aj a.fa,aj a.mv]
def X7(j:Md G T i X M B)(x:∃n,g4 c.st n/\U c.ts=U n)(q:U c.mv+U c.st<=130)(y:([5,111,59,63].foldl kY<|ey z 120<|ag (3:O))=gW G B D e k l c.sp 3 ar)(a:Fr s t<|fv G P e k l v c)
 (C:∀d f b p (g:O) h,gI B c.st c.ts c.mv d f b->cG d=J p->h5 B p->xp B p 1=g->Fr s h (fv G P e k l v ⟨d++[g],f++[vd],c.fl,b++[dz "error" g],c.pl,c.sp,3⟩)->N (gW G B D e k l c.sp 3 ar) h)
 (H:∀d f b p r h,gI B c.st c.ts c.mv d f b->cG d=J p->¬h5 B p->Fr s h (.c r (az<|nA e u bk b)<|fv G P e k l v ⟨d,f,c.fl,b,c.pl,c.sp,3⟩)->m (aR [aj r,aj e.pl]) h):
 c1 (aK<|Z+1) I (sR<|sR<|sR AZ) z t N m L:=by
 show c1 _ I SN _ t _ m L;refine W y<|afe (c:=⟨c.st,c.ts,c.fl,c.mv,c.pl,c.sp,3⟩) j (bY (λR R R k=>k) x<|bb _) q a λd f b p s l t v a=>aA (l J1) λn y z=>?_;have N:=ae (l J2) q;have I:gI B c.st c.ts c.mv d f b:=by
  refine(l V) d f b ?_;rcases v with o|o
  .exact .ok t o
  .exact ah (vP o) λx L=>W L .one
 have Z:=y.lt (j J1)<|y.jx▸t;have k:U d<=1000:=ae (lB _ _)<|ae N<|by decide
 have n:¬h5 B p->dH (nx (60:O) (U b:O)) (iD s (az [aG "endless"]) λv s=>m (aR [v,aj e.pl]) s) (iD s (az [bT u,bk,aj e.fa,aj e.mv]) λv s=>m (aR [v,aj e.pl]) s):=λo=>by
  have q:=λr h=>H d f b p r h I t o;refine hZ (λc=>aV a λr s a=>q r s ?_) λc=>aV a λr s a=>q r s ?_
  .have L:dI 60 (U b)=true:=W kS<|eZ c;unfold nA;exact W L a.bN
  .have L:dI 60 (U b)=false:=W kS<|gh<|ak fU c;unfold nA;exact W L a.bN
 have l:1<G.nT:=cc (ao Y) (j V).toGW.t3;refine jT a 0 Y (lX t)<|tQ j Z l<|g5 (λg=>br (⟨rfl,of_decide_eq_true rfl,of_decide_eq_true rfl⟩) ?_) λg=>?_
 .refine jk<|g5 (λx=>?_) λx=>bX a 2 Y<|n λe=>ay e.2<|ak hB x;obtain⟨m,v⟩:∃m:Nat,xp B p 1=m:=⟨cM<|xp B p 1,a4<|y8<|nU g⟩;refine cH a 0 Y<|jT a 0 Y (lX t)<|tQ j Z l<|W v<|rg a 0 Y k λs a=>cH a 1 Y<|dF a 1 Y ?_ λs a=>?_
  .exact jh<|ae (W z<|ae (e7 _)<|ae (c6 (y V).symm)<|lB _ _)<|ae N<|by decide
  refine cH a 2 Y<|jT a 0 Y (lX oV) ?_;exact dF a 2 Y (jh<|ae (dO _ _)<|ae N<|by decide) λs a=>C d f b p m s I t ⟨g,x⟩ v a
 .exact bX a 2 Y<|n λe=>ay e.1<|ak hB g
def acn(s:fJ)(t:∃v,g4 c.st v/\U c.ts=U v)(x:U c.mv+U c.st<=129)(y:U c.mv<=60)(I:(fB P)[c.sp]?=J k)
 (z:∀C,([5,111,59,63].foldl kY<|ey (gW G B D e h j C c.qu<| .c 63 (ag<|tn G k)<| .c 5 L r) 120<|ag (3:O))=gW G B D e h j C 3 ar)(f:Fr o N<|fv G P e h j q c)
 (m:∀a d b p (l:O) g,(c.qu=3->k≠"$end")->gI B c.st c.ts (gD c<|tn G k) a d b->cG a=J p->h5 B p->xp B p 1=l->Fr o g (fv G P e h j q ⟨a++[l],d++[vd],c.fl,b++[dz "error" l],c.pl,fy c,3⟩)->Z (gW G B D e h j (fy c) 3 ar) g)
 (n:∀a d b p r g,(c.qu=3->k≠"$end")->gI B c.st c.ts (gD c<|tn G k) a d b->cG a=J p->¬h5 B p->Fr o g (.c r (az<|nA e u bk b)<|fv G P e h j q ⟨a,d,c.fl,b,c.pl,fy c,3⟩)->H (aR [aj r,aj e.pl]) g)
 (À:∀r g,c.qu=3->k="$end"->Fr o g (.c r (az<|nA e u bk c.mv)<|fv G P e h j q c)->H (aR [aj r,aj e.pl]) g):
 c1 (aK<|Á+1) Â (sR AZ) (gW G B D e h j c.sp c.qu<| .c 63 (ag<|tn G k)<| .c 5 L r) N Z H Ã:=by
 by_cases e:c.qu=3
 .have g:aE c.qu 3=true:=by exact W e Y
  refine hj (λX=>dc f 6 Y (ku I)<|rW (λh=>?_) λh=>?_) λh=>ay e h
  .refine aV f λr j f=>À r j e h ?_;have o:dI 60 (U c.mv)=false:=W kS<|gh<|ak fU y;unfold nA;exact W o f.bN
  .refine hj (λX=>cH f 2 Y<|dF f 2 Y (jh<|ae y<|ao Y) λj f=>?_) λh=>ay e h;have q:gD c (tn G k)=c.mv++[dz "discard"<|tn G k]:=by unfold gD;exact W g Y
   have v:fy c=c.sp+1:=by unfold fy;exact W g Y
   rw [q,v] at m n;refine X7 (c:=⟨c.st,c.ts,c.fl,c.mv++[dz "discard" _],c.pl,c.sp+1,3⟩) s t ?_ (z _) f (λa d b p l j C=>m a d b p l j (λX=>h) C) λa d b p r j C=>n a d b p r j (λX=>h) C;simp only [a3,Ju,jf];exact b3 x
 .have g:=d4 e;have q:gD c (tn G k)=c.mv:=by unfold gD;exact W g Y
  have v:fy c=c.sp:=by unfold fy;exact W g Y
  rw [q,v] at m n;exact hj (λh=>ay h e) λX=>hj (λh=>ay h e) λX=>hj (λh=>ay h e) λX=>X7 s t (hH x) (z c.sp) f (λa d b p l j C=>m a d b p l j (λh=>ay h e) C) λa d b p r j C=>n a d b p r j (λh=>ay h e) C
abbrev lW:=gB G B P
def agg(n:fJ)(H:∃m,g4 c.st m/\U c.ts=U m)(j:Bd c)(s:U t=U c.fl)(v:(fB P)[c.sp]?=J k)(x:cG c.st=J q)(o:el B q (tn G k)=0)(b:Fr p y<|fv G P d f g t c)
 (Ã:∀a e l,U a=U e.fl->lW c k q A e->Fr p l (fv G P d f g a e)->N (gW G B D d f g e.sp e.qu ar) l)
 (z:∀a e r l,U a=U e.fl->lW c k q (J u) e->Fr p l (.c r (az<|nA d u bk e.mv)<|fv G P d f g a e)->C (aR [aj r,aj d.pl]) l):
 c1 (aK<|L+1) Á AZ (gW G B D d f g c.sp c.qu<| .c 63 (ag<|tn G k)<| .c 5 (ag h) ar) y N C À:=by
 have Â:U c.mv+U c.st<=129:=ae (dZ (j V)<|ae (j J1)<|b3<|j V)<|ao Y;refine aA H λm l H=>?_;have go:∀a (Z:Cf) r e,U a=U Z.fl->Z=⟨c.st,c.ts,eK G B c k q,c.mv,eE c,c.sp,c.qu⟩->Fr p e (fv G P d f g a Z)->
  (∀p,([5,111,59,63].foldl kY<|ey (gW G B D d f g p c.qu<| .c 63 (ag<|tn G k)<| .c 5 (ag h) r) 120<|ag (3:O))=gW G B D d f g p 3 ar)->
  c1 (aK<|L+1) Á (sR AZ) (gW G B D d f g c.sp c.qu<| .c 63 (ag<|tn G k)<| .c 5 (ag h) r) e N C À:=by
  intro a Z r e d f b g;subst f;refine acn (c:=⟨c.st,c.ts,eK G B c k q,c.mv,eE c,c.sp,c.qu⟩) n ⟨m,l,H⟩ Â (j V) v g b (λN C L p h e Z m H f Ä b=>?_) (λN C L p r e Z m H f b=>z a ⟨N,C,eK G B c k q,L,eE c,fy c,3⟩ r e d (gB.oh o Z m p H f) b) λr e I g b=>?_
  .exact Ã a ⟨N++[h],C++[vd],eK G B c k q,L++[dz "error" h],eE c,fy c,3⟩ e d (gB.mI (c:=c) o Z m p H h f Ä) b
  .have h:aE c.qu 0=false:=by exact W I Y
   have N:eK G B c k q=c.fl:=by unfold eK;exact W h Y
   have C:eE c=c.pl:=by unfold eE;exact W h Y
   rw [N,C] at b;exact z a c r e (N▸d) (.rp o I g) b
 by_cases I:c.qu=0
 .have h:aE c.qu 0=true:=by exact W I Y
  have N:eK G B c k q=c.fl++[⟨k,q,p4 G B q⟩]:=by unfold eK;exact W h Y
  have C:eE c=c.pl++[c.sp]:=by unfold eE;exact W h Y
  exact hj (λX=>aaz n b j s v x (l.lt (n J1)<|l.jx▸x) λa r L e d b=>go a _ _ e d (W N<|W C Y) b λX=>rfl) λg=>ay I g
 .have h:=d4 I;have N:eK G B c k q=c.fl:=by unfold eK;exact W h Y
  have C:eE c=c.pl:=by unfold eE;exact W h Y
  exact hj (λg=>ay g I) λX=>go t c ar y s (W N<|W C Y) b λX=>rfl
def gI.len(h:gI B a f b c g e):U b<=U e/\U e+U c=U b+U a/\∃d,U c+d=U a/\U g=U f-d:=by
 induction h with
 |ok h o=>exact⟨bb _,Y,0,Y,Y⟩|one=>exact⟨bb _,Y,0,Y,Y⟩|@pop a f b c g e q v n o r j=>
  refine Af j λk l z=>aA z λd e f=>?_;rw [a3] at k l;refine⟨uS k,?_,d+1,?_,?_⟩
  .simp only [a3,l];show U b+1+U a=U b+(U a+1);simp only [cx,eU 1]
  .simp only [a3,<-e];rfl
  .simp only [a3,f];exact W (ID ..) Y
def gI.wk(h:gI B c d g e f j):∀{a},g4 c a->U d=U a->∃b,g4 e b/\U f=U b:=by
 induction h with
 |ok h o=>exactλk l=>⟨_,k,l⟩|one=>exactλk l=>⟨_,k,l⟩|@pop c d g e f j q v n o r m=>intro a k l;refine hs (k.pop n) λb s e h=>?_;rw [e,a3,a3] at l;exact m h<|f7 l
def Wb(i)(a:aa bo)(c:Cf):=om (U c.st<=U c.mv+1) (U c.ts<=U c.mv) (U c.fl<=U c.mv) (U c.pl<=U c.mv) (∃b,l6 i c.st b/\U c.ts=U b)<|c.sp<=U a
def xu(h:(fB P)[a]?=J k)(l:a<=U P)(n:k≠"$end"):a+1<=U P:=by refine yf l λe=>n ?_;unfold fB at h;rw [hV<|c6 e.symm,e,pR] at h;exact a4<|aC h
def Ca(a:fW)(b:e6):tn G "$end"=0:=by
 unfold tn;rw [Of<|MP (R8 ..)<|a J6]
 .rfl
 .exact W (ha)<|W (aJ<|cc (ao Y) b.t3)<|a J3
def Md.zk(a:fJ)(n:G.nT<=b)(c:p<U i):cK (F B.nO p []) b=J q↔go i p b=J q:=by
 have d:=bK c;have e {f:O} {t:O} {g:aa<|O×O} (nd:bw<|R (·.1) g) (h:f<=t):cK (uI f g) t=cK g t:=by
  have b:dI t f=false:=W kS<|gh<|ak fU h;refine af (Q' (c:=f) (h:=λs v=>aD (dI s f) A<|J v) (λp=>?_) nd) ?_
  .unfold t4;cases dI p.1 f<;>rfl
  .refine W b ?_;cases cK g t<;>rfl
 simp only [(a J3) J4 p _ d c V,e ((a J1).Ak (a V).toGW<|aP d).1 n,yR d]
def Md.QJ(b:fJ){q t a:O}(c:q<U i)(d:t<G.nT)(h:el B q t=a)(p:0<a)(l:a<1048576):go i q t=J a/\t≠0:=by
 rcases b.qs (bK c) d with ⟨e,g,x⟩|⟨g,r,f,x⟩|⟨g,x⟩
 .have e:=eG<|af h.symm x;cases z:aE t 0 with
  |true=>rw [z] at e;exact ay l<|ak fU<|c6 e.symm|false=>rw [z] at e;exact⟨W e g,λy=>by rw [y] at z;exact bR z⟩
 .exact ay (af h.symm x)<|mD (b.vK (aP<|bK c) f).1
 .exact ay (eG<|af h.symm x)<|ih p
def Md.Yg(a:fJ){p b:O}(c:p<U i)(o:h5 B p)(h:xp B p 1=b):go i p 1=J b:=by
 have d:1<G.nT:=cc (ao Y) (a V).toGW.t3;have e:0<b:=by have f:=o.1;exact hl.mp<|h▸f
 rcases(a.La (bK c) d).1 with ⟨g,j,x⟩|⟨j,r,k,x⟩|⟨j,x⟩
 .exact W (eG<|af h.symm x) j
 .exact ay (af h.symm x)<|mD (a.vK (aP<|bK c) k).1
 .exact ay (eG<|af h.symm x)<|ih e
def bL:U (a++[x])=U a+1:=a3
def gB.wb(b:fJ)(Å:fW)(a:Wb i P c)(d:(fB P)[c.sp]?=J k)(Ì:cG c.st=J q)(s:lW c k q A e):Wb i P e/\U c.mv<U e.mv:=by
 refine aA (a J4) λh j l=>?_;have m:=j.jx▸Ì;have n:=j.lt (b J1) m;have o:=tc (b V).toGW k;generalize p:(A:bf ba)=r at s
 induction s with
 |acc t=>exact aI p|rp t v x=>exact aI p|oh t v y z C r=>exact aI p|nc Â t z I=>
  refine dC (b.QJ n o t z I) λL N=>?_;have Z:k≠"$end":=λx=>N<|W x<|Ca Å (b V).toGW;refine⟨e1 ?_ ?_ ?_ ?_ ⟨_,j.tF m L,?_⟩<|xu d (a J5) Z,?_⟩<;>try dsimp only
  .simp only [bL,bL];exact b3<|a V
  .simp only [bL,bL];exact b3<|a J1
  .exact W bL<|hH<|a J2
  .exact W bL<|hH<|a J3
  .simp only [bL,bL,l]
  .exact W bL<|g9 _
 |red Á N z À Z t I H v C Ã=>
  rcases b.qs (bK n) o with ⟨Ä,L,f⟩|⟨L,Æ,Ç,f⟩|⟨L,f⟩
  .exact ay (af f.symm t)<|mD I
  .have È:=eG<|p8.mp<|af t.symm f;subst È;refine zm (j.red (b V) (b J1) m (bK n) Ç) λÉ Ê Ë g=>?_;obtain rfl:=aC<|af H.symm<|g V;have L:Z=U h-U N.aQ:=by simp only [<-l,v,wt]
   have Í:c.st[Z]?=J Ê:=W L<|g J3;refine W (aC<|af C.symm Í) ?_;have g:Z<=U h:=W L (lT ..);have L:U (aF Z h)=Z:=by simp only [dU,gq g]
   have Î:U (aF (Z+1) c.st)=Z+1:=by simp only [dU,j V,gq<|b3 g]
   refine⟨e1 ?_ ?_ ?_ ?_ ⟨_,(j.cut g).tF ?_<|(b.zk ((b V).toGW.lt N<|aP H).1.1<|j.lt (b J1) C).mp Ã,?_⟩<|a J5,?_⟩<;>try dsimp only
   .simp only [bL,bL,Î];exact b3<|b3<|ae g<|l▸(a J1)
   .simp only [bL,bL,dU];exact b3<|ae (oZ _ _)<|a J1
   .exact W bL<|hH<|a J2
   .exact W bL<|hH<|a J3
   .rw [L,ha,aJ<|g9 Z];exact C
   .simp only [bL,bL,L,dU,l,gq g]
   .exact W bL<|g9 _
  .exact ay (eG<|p8.mp<|af t.symm<|af f (af Me.symm Y:_= -((0:O):au)))<|ih I
 |@mI Ð Ô Ï t v y z C Â r H=>
  refine aA (y.wk j l) λÓ L I=>?_;refine Af y.len λN Ñ x=>aA x λÒ f Z=>?_;have Õ:U c.mv<=U (gD c<|tn G k):=by
   unfold gD;cases aE c.qu 3 with
   |true=>exact W (rfl:aD Q _ c.mv=c.mv++[dz "discard" _])<|W bL<|e7 _|false=>exact bb _
  have g:=ae Õ N;have Ö:U (eK G B c k q)<=U c.fl+1:=by
   unfold eK;cases aE c.qu 0 with
   |true=>exact c6 bL|false=>exact e7 _
  have Ø:U (eE c)<=U c.pl+1:=by
   unfold eE;cases aE c.qu 0 with
   |true=>exact c6 bL|false=>exact e7 _
  refine br (e1 ?_ ?_ ?_ ?_ ⟨_,L.tF (L.jx▸C)<|b.Yg (L.lt (b J1)<|L.jx▸C) r H,?_⟩ ?_) ?_
  .simp only [bL,bL];exact b3<|ae (f▸dO _ _)<|ae (a V)<|b3 g
  .simp only [bL,bL,Z];exact b3<|ae (lT ..)<|ae (a J1) g
  .exact W bL<|ae Ö<|b3<|ae (a J2) g
  .exact W bL<|ae Ø<|b3<|ae (a J3) g
  .simp only [bL,bL,I]
  .show fy c<=U P;unfold fy;cases x:aE c.qu 3 with
   |true=>exact xu d (a J5)<|v<|d9 x|false=>exact a J5
  .exact W bL<|ig g
def qA(f:tD):=aR [aG f.k,ag f.q,aN<|sV f.ns]
noncomputable def Y2:=aN [aG "endless"]
def DD(b)(v)(c:Cf):=aN [bT b,v,aN<|R qA c.fl,aN c.mv]
def Pj:bf (ba×Cf)->ai
|none=>Y2|some (b,c)=>DD b (aD b (dN (cG c.ts) bk) bk) c
def ah8(c:Fr d e f)(m):∀b (a:aa tD),U b=U a->(∀k x,(Gs b a).at k=J x->∃j,f.at j=J x)->gA (kX (x7 d) e<|m+3) (xN b a) (R qA a):=by
 intro b
 induction b with
 |nil=>intro a h _;induction a with
  |nil=>exact nJ|cons _ _=>cases h
 |cons g r l=>intro a h n;induction a with
  |nil=>cases h|cons o t=>exact bp (n 0 _ Y) λj p=>iz (aw<|aL ⟨_,_,Y,Y,iz (dQ _ _)<|iz (dQ _ _)<|iz (aw<|aw<|aw ⟨g,Y,c.fb j p,aL ⟨_,_,c.c9 p,Y,j7 (λZ=>dQ (m+1) _) _⟩⟩) nJ⟩)<|l t (f7 h) λk x e=>n (k+1) x e
def VM(e:U d=U c.fl)(a:Fr f g<| .c r (az<|nA b h v c.mv)<|fv G P b l m d c)
 (j:k (aR [aD (dI 60<|U c.mv) Y2<|DD h v c,aN<|iV c.pl]) f):eh k (aR [aj r,aj b.pl]) g:=by
 refine mK a 7 (aw<|aL ⟨_,_,Y,Y,iz ?_<|iz ?_ nJ⟩) j
 .have g:=a.c9 (k:=0) Y;have n:=a.fb (c:=r) 0 Y;unfold nA at g;cases z:dI 60 (U c.mv) with
  |true=>rw [z] at g;exact aw<|aw<|aw ⟨r,Y,n,aL ⟨_,_,g,Y,j7 (λZ=>dQ 5 _) _⟩⟩|false=>rw [z] at g;exact aw<|aw<|aw ⟨r,Y,n,aL ⟨_,_,g,Y,iz (dQ _ _)<|iz (dQ _ _)<|iz (aw<|aw<|aw ⟨b.fa,Y,a.fb 4 Y,aL ⟨_,_,a.c9 (k:=4) Y,Y,ah8 a 1 d c.fl e λk x o=>cL (k+8) o⟩⟩)<|iz (aw<|aw<|aw ⟨b.mv,rfl,a.fb 3 rfl,aL ⟨_,_,a.c9 (k:=3) rfl,rfl,j7 (λZ=>dQ 4 _) _⟩⟩) nJ⟩⟩
 .exact aw<|aw<|aw ⟨b.pl,Y,a.fb 5 Y,aL ⟨_,_,a.c9 (k:=5) Y,Y,j7 (λZ=>dQ 5 _) _⟩⟩
def EB(h:Fr f a b)(k)(e:b.at k=J (c,az g))(d:K):pD jM (aj c) a K:=by refine W rF ?_;unfold NR;exact bX h k e d
def acX(b:Md G T i X M B)(Å:GP D G)(À:U P<=9)(Á:ml (k++toString (c.sp:au))<=4096)(l:Wb i P c)(Î:U c.mv<=60)(n:U o=U c.fl)(Ê:(fB P)[c.sp]?=J k)(Í:cG c.st=J q)(h:el B q (tn G k)=x)
 (a:Fr C H<|fv G P j f g o c)
 (Ô:∀e d f g m,U e=U d.fl->gB G B P c k q A d->Fr C m (fv G P j f g e d)->Ð (gW G B D j f g d.sp d.qu ar) m)
 (É:∀e d r v Ñ m,U e=U d.fl->gB G B P c k q (J Ñ) d->v=aD Ñ (dN (cG d.ts) bk) bk->Fr C m (.c r (az<|nA j Ñ v d.mv)<|fv G P j f g e d)->Æ (aR [aj r,aj j.pl]) m):
 c1 (aK<|Â+1) Ã (sR<|sR<|sR mB) (gW G B D j f g c.sp c.qu<| .c 63 (ag<|tn G k)<| .c 5 (ag x) ar) H Ð Æ Ä:=by
 refine aA (l J4) λm C Z=>?_;have Ø:=C.jx▸Í;have Ç:=C.lt (b J1) Ø;have È:=tc (b V).toGW k;have Ó:Bd c:=ec Î (l V) (l J1) (l J2)<|l J3;have y:=bK Ç;refine br (⟨rfl,by decide,by decide⟩) ?_;have Ë:x≠((2^cM (20:au):O):au)->c1 (aK<|Â+1) Ã (sR<|sR<|sR<|sR mB) (gW G B D j f g c.sp c.qu<| .c 63 (ag<|tn G k)<| .c 5 (ag x) ar) H Ð Æ Ä:=λÌ=>by
  rcases b.qs y È with ⟨H,j,z⟩|⟨j,r,t,z⟩|⟨j,z⟩
  .have Ï:=(b J1).Jt j;have N:H<1048576:=fe ((b J1).v9 j)<|(b J1) J2;have s:x=(H:au):=by
    simp only [<-h,z];cases x:aE (tn G k) 0 with
    |true=>rw [x] at z;exact ay (af h.symm z) Ì|false=>rfl
   subst s;exact hZ (a:=0) (b:=H) (λÒ=>adp a Ó Ê Á (ae (l J5)<|ae À<|ao Y) λl a=>Ô o ⟨c.st++[H],c.ts++[xm k c.sp],c.fl,c.mv++[dz "shift" H],c.pl,c.sp+1,c.qu-1⟩ f g l n (.nc H h Ò N) a) λÒ=>ay (vW.mp Ò) Ï
  .have I:=b.vK (aP y) t;have s:=af h.symm z;subst s;refine zm (C.red (b V) (b J1) Ø y t) λp Õ Ö L=>?_;have Ù:U c.ts=(U m-U p.aQ)+U p.aQ:=by simp only [Z,As<|L J1]
   have Ú:=ak (b.zk ((b V).toGW.lt p<|aP<|L V).1.1<|C.lt (b J1)<|L J3)<|L J6;have Û:U m-U p.aQ+1<=U c.st:=gl<|L J3;refine g5 (λx=>ay x<|ak hB<|ZK<|cp r) λR=>g5 (λx=>⟨⟨Y,by decide,by decide⟩,zP (k:= -1048576) Y<|KH (λR=>?_) λx=>?_⟩) λx=>ay x<|ak x8<|Px<|ak hl I.1
   .refine ŉ Å a Ó I.1 (L V) Ù Û (L J3) Ú λÜ Ý l Þ a ß=>?_;show Ð ([5,40,111,53,59,123,63,66].foldl kY Þ) l;exact W ß<|Ô o ⟨aF (U m-U p.aQ+1) c.st++[Ö],aF (U m-U p.aQ) c.ts++[lY (F G.cI p.aY "")<|cq (U m-U p.aQ) c.ts],c.fl,c.mv++[dz "reduce" r],c.pl,c.sp,c.qu⟩ Ü Ý l n (.red r p Õ Ö _ h I.1 (L V) Ù (L J3) Ú) a
   .have x:=eG<|p8.mp x;rw [x] at I;exact ay I.2<|ao Y
  .have s:=af h.symm z;subst s;exact g5 (λx=>ay x<|by decide) λR=>g5 (λx=>ay x<|by decide) λR=>g5 (λx=>ay x<|by decide) λR=>agg b ⟨m,C,Z⟩ Ó n Ê Í z a (λe d l m s a=>Ô e d f g l m s a) λe d r l m s a=>É e d r bk u l m s Y a
 refine lE (λx=>?_) Ë;have I:el B q (tn G k)=1048576:=af h x;refine cH a 2 Y<|dF a 2 Y (jh<|ae Î<|ao Y) λl a=>?_;have p:=λr l=>É o ⟨c.st,c.ts,c.fl,c.mv++[n6 "accept"],c.pl,c.sp,c.qu⟩ r (dN (cG c.ts) bk) Q l n (.acc I) Y;refine bX a 2 Y<|hZ (a:=60) (λL=>aV a λr l a=>p r l ?_) λL=>?_
 .have z:dI 60 (U<|c.mv++[n6 "accept"])=true:=W kS<|eZ L;unfold nA;exact W z a.bN
 .have d:∃v,cG c.ts=J v:=by
   have j:∃H,go i q (tn G k)=J H/\tn G k=0:=by
    rcases b.qs y È with ⟨H,j,z⟩|⟨j,r,t,z⟩|⟨j,z⟩
    .cases x:aE (tn G k) 0 with
     |true=>exact⟨H,j,d9 x⟩|false=>rw [x] at z;have N:=fe ((b J1).v9 j)<|(b J1) J2;have:=eG<|af I.symm z;rw [show aD u 1048576 H=H from Y] at this;rw [<-this] at N;exact ay N<|ao Y
    .exact ay (af I.symm z)<|mD (b.vK (aP y) t).1
    .exact ay (af I.symm z)<|ao Y
   refine aA j λH j e=>?_;rw [C.acc (b V) (b J1) Ø<|e▸j] at Z;exact bp (vP Z) λv h=>cL v<|W h rfl
  refine bp d λv f=>?_;rw [f] at p;refine jT a 1 Y f<|aV a λr l a=>p r l ?_;have z:dI 60 (U<|c.mv++[n6 "accept"])=false:=W kS<|gh<|ak fU L;unfold nA;exact W z a.bN
noncomputable def c0:Cf:=⟨[0],[],[],[],[],0,0⟩
abbrev ju:=nM G B P
def ai6(d:fJ)(Î:fW)(g:U P<=9)(Á:∀k∈fB P,∀e≤9,ml (k++toString ((e:O):au))<=4096)
 (h:∀o a,ju c0 o->(∀b c,o=J (b,c)->a=c.pl)->Ã (aR [Pj o,aN<|iV a]) f):aK (n+2) 299 [h7 G B,gR D,aN<|sV P,ag 60] f Ã Ç:=by
 have q:=(d V).toGW;refine a7 Hz (.c 45 _ (.c 115 _ (.c 103 _ (.c 50 _ ar)))) Y Y<|th (W (bC ..)<|bU q.nT)<|aV de λr s t=>aV t λv s t=>aV t λx s t=>bX t 1 Y<|bX t 2 Y ⟨?_,?_⟩
 .exact W (bC ..)<|bU<|jh<|ae (fY g 1)<|ao Y
 refine aV t λy s t=>aV t λz s t=>aV t λC s t=>aV t λH s t=>aV t λI s t=>aV t λa s t=>?_;have t:Fr f s (fv G P ⟨I,H,a,r,y⟩ z C [] c0):=by have t:=t.pk [4,5,7,6,8,0,3] 9 (ao Y)<|ao Y;unfold fv fB A7 sV;simp only [dv,tq];exact t
 refine n5 (λc X=>61-U c.mv) (λc b=>gW G B D ⟨I,H,a,r,y⟩ b.1 b.2.1 c.sp c.qu ar) (λc b=>fv G P ⟨I,H,a,r,y⟩ b.1 b.2.1 b.2.2 c)
  (λc b=>Wb i P c/\U b.2.2=U c.fl/\∀o,ju c o->ju c0 o) c0 (z,C,[]) t ⟨e1 (bb 1) (bb 0) (bb 0) (bb 0) ⟨[],Bk,Y⟩<|cQ _,Y,λX h=>h⟩ ?_
 intro c ⟨z,C,L⟩ s N Z t À;refine Af Z λx Z v=>bX t 2 Y<|xt (λp=>?_) λp=>?_
 .refine aA (x J4) λÂ l Ä=>bp l.top λÅ Æ=>?_;have m:=af l.jx Æ;have È:=l.lt (d J1) Æ;have rl:c.sp<U (fB P):=W bL<|ig<|x J5;obtain⟨k,l⟩:∃k,_[c.sp]?=some k:=cL _<|bK rl;have É:∀s,Fr f s (fv G P ⟨I,H,a,r,y⟩ z C L c)->c1 (aK<|n+1) Ç (sR mB) (gW G B D ⟨I,H,a,r,y⟩ z C c.sp c.qu<| .c 63 _ ar) s N _ N:=λs t=>by
   refine jT t 0 Y (lX m)<|tQ d È (tc q k) ?_;have Í:∀Ê s,el B Å _=Ê->Fr f s (fv G P ⟨I,H,a,r,y⟩ z C L c)->c1 (aK<|n+1) Ç _ _ s N (eh Ã) N:=λÊ s n t=>by
    refine acX d Î g (Á k (aP l) c.sp<|ae (x J5) g) x p Z l m n t (λN g Ì Ë s n q t=>?_) λN g j Ï b s n q Ð t=>VM n t ?_
    .have Ñ:=q.wb d Î x l m;exact À g (Ì,Ë,N) s (xq (ig p) Ñ.2) ⟨Ñ.1,n,λo j=>v o<| .st p l m q j⟩ t
    .cases o:dI 60 (U g.mv) with
     |true=>exact h A g.pl (v A<| .eo p l m q<|ht o) λb c o=>aI o|false=>have x:U g.mv<=60:=j3<|Eu<|kS▸o;refine W Ð ?_;exact h _ g.pl (v _ (.en p l m q x)) λb c o=>by cases o;rfl
   exact lE (λN=>jT t 0 Y (lX m)<|F8 d È<|zP (k:=el B Å _) (W (EG N) (GN ..))<|Í _ s Y t) λN=>Í _ s (Ej N) t
  refine dc t 6 Y (ku l)<|vT t 5 Y<|ef (λN=>?_) λN=>?_
  .refine bp (Jy.mp N) λe n=>EB t 5 Y<|dc t 6 Y (ku l) ?_;have g:tn G k=e:=by unfold tn;exact W (n:g7 k _=J e) Y
   exact Eb t 5 Y (g▸n)<|É s t
  .have g:tn G k=2:=by
    unfold tn;cases o:g7 k _ with
    |none=>rfl|some e=>exact bR<|af N.symm<|ak Jy ⟨e,o⟩
   have m:=É s t;rw [g] at m;exact m
 .refine aV t λj s t=>?_;have o:dI 60 (U c.mv)=true:=W kS<|eZ p;have t:Fr f s (.c j (az<|nA ⟨I,H,a,r,y⟩ Q bk c.mv)<|fv G P ⟨I,H,a,r,y⟩ z C L c):=by unfold nA;exact W o t.bN
  exact VM Z t<|W o<|h A c.pl (v A<| .ov p) λb c o=>aI o
noncomputable def jN(k a):=od 77<| .c 38 (aG k)<| .c 69 (aG a)<| .c 3 bk<| .c 140 (aG a) ar
def rr(k a):=od 19<| .c 52 (aG k)<| .c 61 (ag 0)<| .c 226 (aN [])<| .c 133 (jN k a) ar
noncomputable def u0(l)(r:O)(a):=od 22<| .c 52 (aG l)<| .c 61 (ag r)<| .c 226 (aN a) ar
noncomputable def uY(k a):=aR [aG k,aG a]
inductive Tl:aa ai->aa ai->aa ai->Prop
|nil:Tl [] [] []|lf {k c a b e} (r:Tl a b e):Tl (rr k c::a) (uY k c::b)<|rr k c::e|nd {l r d f a b g h} (j:Tl d f g) (m:Tl a b h):Tl (u0 l r d::a) (lY l f::b)<|g++u0 l r d::h
def Tl.len{a b c}(h:Tl a b c):U b=U a:=h.rec Y (λZ d=>aq (·+1) d) λZ Z Z d=>aq (·+1) d
def Tl.app{a b c d e f}(h:Tl a b c)(k:Tl d e f):Tl (a++d) (b++e) (c++f):=h.rec k (λZ g=> .lf g) λa Z Z g=>W (dy ..)<| .nd a g
def Tl.cut{b c e}(h:Tl b c e):∀k,∃d a,Tl (aF k b) (aF k c) d/\Tl (cq k b) (cq k c) a/\e=d++a:=by
 induction h with
 |nil=>exactλk=>⟨[],[],by cases k<;>exact .nil,by cases k<;>exact .nil,Y⟩|@lf f g b c e r j=>
  intro k
  induction k with
  |zero=>exact⟨[],_, .nil, .lf r,Y⟩|succ k=>exact gv (j k) λd a l m e=>⟨_::d,a, .lf l,m,aq _ e⟩
 |@nd n o p q b c s t l m _ j=>
  intro k
  induction k with
  |zero=>exact⟨[],_, .nil, .nd l m,Y⟩|succ k=>exact gv (j k) λd a c d e=>⟨_,a, .nd l c,d,by simp only [e,dy];rfl⟩
def Tl.snoc{c d e x}(h:Tl (c++[x]) d e):∃f t a b,d=f++[t]/\e=a++b/\Tl c f a/\Tl [x] [t] b:=by refine gv (h.cut<|U c) λa b g j e=>?_;rw [EN] at g;rw [Py] at j;refine bp (vP j.len) λt k=>?_;exact⟨_,t,a,b,ax k<|W (vE ..) Y,e,g,k▸j⟩
def Tl.cnt{a c b}(h:Tl a c b):U a<=U b:=by refine h.rec (bb 0) (λZ d=>b3 d) λZ Z Z d=>?_;simp only [a3,hS,hS];exact ae (b3 d)<|lB _ _
inductive Rn:aa ai->aa ai->aa ai->Prop
|nil {d}:Rn d [] d|lf {k e d a b} (r:Rn (d++[uY k e]) a b):Rn d (rr k e::a) b|td {l r f c d a b} (g:U c=U f) (h:Rn (d++[lY l c]) a b):Rn (d++c) (u0 l r f::a) b
def Tl.rn{f c e}(h:Tl f c e):∀{d a b},Rn (d++c) a b->Rn d (e++a) b:=by
 induction h with
 |nil=>intro d a b k;rw [dB] at k;exact k|lf _ g=>intro d a b k;exact .lf<|g<|W (dy ..) k|nd j _ l m=>intro d a b k;exact W (dy ..)<|l<| .td j.len<|m<|W (dy ..) k
def ado(h:a (uY k b) c):aK (n+1) 340 [jN k b] c a d:=a7 L4 (.c 64 _ ar) Y Y<|bc h
def PR(h:a (jN k b) c):aK (n+2) 77 [aG k,aG b,bk] c a d:=by refine jK Y Y λa e=>?_;have f:=de.hN (o:=cw 77 ar) e;exact a7 Oo _ Y Y (bP f Y λs f=>bP f Y λs f=>bP f Y λs f=>⟨Y,bP f Y λs f=>bc ⟨Y,ES f 0 Y h⟩⟩)
def o_(h:a (rr k b) c):aK (n+2) 19 [jN k b] c a d:=by refine jK Y Y λa e=>?_;have f:=de.hN (o:=cw 19 ar) e;refine a7 My (.c 64 _ (.c 133 _ ar)) Y Y<|bP f Y λs f=>bP f Y λs f=>aV f λb s f=>bP f Y λs f=>bP f Y λs f=>bc ⟨Y,mK f 2 ?_ h⟩;exact aw<|aw<|aw ⟨a,Y,f.fb 0 Y,aw<|aw ⟨_,_,_,f.c9 (k:=0) Y,Y,⟨_,_,Y,dQ 1 _,_,_,Y,dQ 1 _,_,_,Y,aw<|aw<|aw ⟨b,Y,f.fb 1 Y,aL ⟨_,_,f.c9 (k:=1) Y,Y,nJ⟩⟩,_,_,Y,dQ 1 _,Y⟩⟩⟩
def υ{a:QT}(c:eQ b v=J d)(h:a (u0 l r d) b):aK (n+2) 22 [aG l,ag r,v] b a e:=by refine jK Y Y λa f=>?_;have g:=de.hN (o:=cw 22 ar) f;exact a7 O4 (.c 64 _ (.c 52 _ (.c 61 _ (.c 226 v ar)))) Y Y<|bP g Y λs g=>bP g Y λs g=>s8 (ik g c)<|aV g λb s g=>bP g Y λs g=>bc ⟨Y,mK g 2 (aw<|aw<|aw ⟨a,Y,g.fb 0 Y,aw<|aw ⟨_,_,_,g.c9 (k:=0) Y,Y,⟨_,_,Y,dQ 1 _,_,_,Y,dQ 1 _,_,_,Y,aw<|aw<|aw ⟨b,Y,g.fb 1 Y,aL ⟨_,_,g.c9 (k:=1) Y,Y,j7 (λZ=>rfl) _⟩⟩,Y⟩⟩⟩) h⟩
def Xn(h:Fr p d b)(c j)(e:b.at c=J (f,az a))(g:b.at j=J (k,az []))(l:a≠[]->m)(n:a=[]->o):sJ d (aj f) (aj k) λr=>dH (!r) m o:=by
 refine bX h c e<|bX h j g ?_
 induction a with
 |nil=>exact n Y|cons x r=>exact l jI
def Tl.nl{a c b}(h:Tl a c b)(e:a=[]):b=[]:=by
 induction h with
 |nil=>rfl|lf r=>exact jI e|nd a b=>exact jI e
def Tl.in1{a:Prop}(h:Tl [y] [t] e)(g:∀k b,y=rr k b->t=uY k b->e=[rr k b]->a)(j:∀l r c d f,y=u0 l r c->t=lY l d->e=f++[u0 l r c]->Tl c d f->a):a:=by
 generalize m:[y]=n at h;generalize o:[t]=d at h
 induction h with
 |nil=>exact jI m|lf r=>exact g _ _ (hp m).1 (hp o).1 (aq _ (r.nl (hp m).2.symm))|nd a b=>exact j _ _ _ _ _ (hp m).1 (hp o).1 (aq (_++_::·)<|b.nl (hp m).2.symm) a
def ajv(Ê:Tl [x] [Ë] a)(l:U a<=900)(h:È (aN a) b):aK (Ã+1) 256 [x] b È Â:=by
 refine a7 LF (.c 71 x ar) Y Y<|aV de λf s g=>aV g λj s g=>n5 (λm X=>U m) (λX X=> .c 94 _ (.c 41 _ ar)) (λX p=> .c f (az p.2.2)<| .c j (az p.1) bO) (λm p=>Tl p.1 p.2.1 m/\p.2.2++f3 m=f3 a) a ([x],[Ë],[]) g ⟨Ê,Y⟩ λm p s Ç o g q=>aV g λÆ s g=>Xn g 1 2 Y Y (λr=>?_) λr=>?_
 .have g:=g.bN.tl;have v:=o.1;have y:=o.2;rw [<-rt r] at v;have C:=aq U y;rw [a3,uw,uw] at C;have É:U p.2.2<=1000:=ae (dO _ _)<|ae (c6 C)<|ae l<|bl Y;refine H4 g 1 Y (List.getLast?_eq_some_getLast r) λs g=>?_;generalize p.1.getLast r=Å at v;refine cH g 0 Y<|dF g 0 Y (cf É) λs g=>Vy v.snoc λL Ä Z À Á e n Í=>?_;rw [e,Ji,<-dy] at y;refine Í.in1 (λI Î k X d=>?_) λH c t Ì N k X d z=>?_
  .obtain rfl:=k;rw [d] at y;exact cb Y<|cv (d5 (a:=([]:aa O)) (g:=λX=>bk)) (λX X X=> .c 94 _ _) (λX X X=> .c f _ _) (λX (_ _:j4)=>bh) () () g a0 (λX X X X X=>rfl) (λX X X X X X h=>aI h) λX X s X g=>q Z (kx p.1,L,p.2.2++[rr I Î]) s (W e<|W d<|a4 a3▸g9 _) ⟨n,y⟩ g
  .obtain rfl:=k;rw [d,Ji] at y;have Ï:U (Z++N)<U m:=by rw [e,d,<-dy,a3 (as:=Z++N)];exact g9 _
   have Ð:U (kx p.1++t)<=1000:=ae (n.app z).cnt<|ae (bU Ï)<|ae (lB _ _)<|ae (c6 C)<|ae l<|bl Y;have g:Fr b s (.c f (az<|p.2.2++[u0 H c t])<| .c j (az<|kx p.1++aF 0 t) bO):=a4 (dB _)▸g;refine cb Y<|cv (λI=>by cases t[I]?<;>rfl) (λX X X=> .c 94 _ _) (λI X X=> .c f _ (.c j (az<|kx p.1++aF I t) bO)) (λX (_ _:j4)=>bh) () () g a0 (λX X X X X=>rfl) ?_ ?_
   .refineλI Ñ X X s Ç Ò X g q=>cH g 1 Y<|dF g 1 Y (cf<|ae ?_ Ð) λs g=>?_
    .rw [a3,a3,dU];exact d6 (oZ _ _) _
    .refine q () () s a0 ?_;rw [fR Ò,<-dy];exact g
   .intro _ _ s _ g;rw [dJ] at g;refine q _ (kx p.1++t,L++Ì,p.2.2++[u0 H c t]) s Ï ⟨n.app z,?_⟩ g;rw [<-y,Ji];simp only [dy];rfl
 .have y:=o.2;rw [o.1.nl r] at y;have y:=y▸a4 (dB _);refine hF g<|aV g λc s g=>jg g 3 Y ?_;rw [y,List.reverse_reverse];exact h
def aeg(b:Tl [x] [t] a)(l:U a<=900)(h:c t d):aK (n+2) 331 [x] d c e:=by
 refine a7 Mm (.c 64 x ar) Y Y<|aV de λf s g=>ajv b l<|cb Y ?_;have j:Rn [] a [t]:=by have k:=b.rn (d:=[]) .nil;rw [dB] at k;exact k
 refine cv (λk=>by cases a[k]?<;>rfl) (λX f X=> .c 64 x<| .c 28 (aj f) ar) (λX f d=> .c f (az d) bO) (λk X d=>Rn d (cq k a) [t]/\U d<=k) f [] g ⟨j,bb 0⟩ (λX X X X X=>rfl) ?_ ?_
 .intro k v f d s m o p g q;have r:=ae (bU<|gl o) l;obtain⟨y,z⟩:=p;rw [JJ o] at y;cases y with
  |@lf C H _ _ _ y=>exact a7 Lm (.c 64 _ ar) Y Y<|bc<|cH g 0 Y<|ado<|dF g 0 Y (cf<|ae z<|ae r<|ao Y) λs g=>q f _ s ⟨y,W a3<|b3 z⟩ g|@td I L N Z c _ _ e y=>rw [a3] at z;refine a7 Nu (.c 64 _ ar) Y Y<|bc<|hF g<|ph (W a3<|W e (eU ..))<|hF g<|th (W a3<|dO _ _)<|aV g λb s g=>hF g<|AL (W a3<|dO _ _)<|aV g λn s g=>bX g 2 Y<|W Py<|⟨bU<|cf<|ae (d6 (ae (ae (lB (U Z)<|U c) z) r) 1)<|ao Y,aV g λe s g=>bX g 1 Y<|bX g 3 Y ?_⟩;rw [EN] at g⊢;exact⟨bU<|cf<|ae (fY (ae (ae (dO (U c)<|U Z) z) r) 1)<|by decide,aV g λa s g=>q a _ s ⟨y,W a3<|b3<|ae (dO _ _) z⟩ (g.pk [4] 5 (ao Y)<|ao Y)⟩
 .intro f d s p g;obtain⟨y,_⟩:=p;rw [B3<|bb _] at y;cases y;exact dc g 0 Y Y<|m9 g h
structure PA where
p:O
mv:O
fa:O
ln:O
sr:O
rw:O
ct:O
structure FP where
f:tD
tx:bo
ix:au
structure Ps where
sa:O
va:O
kc:aa ai
lk:ai
cn:au
an:bo
vl:ai
fu:aa (O×O)
ft:aa FP
jZ:O
lo:aa (O×O)
le:O
tr:aW
def F2(G):=R (F G.cI · "")<|Oi G
def QN(G):=od 285<| .c 112 (aN<|sV<|F2 G) ar
def Wu(G:Gr)(B:Tb)(b:PA)(a:Ps)(c:O)(r:aW):aW:=
.c 184 (h7 G B) (.c 202 (QN G)<| .c 50 (ag 60)<| .c 43 (aj b.ln)<| .c 181 (aj a.sa)<| .c 186 (aj a.va)<| .c 166 a.lk<| .c 88 (ag a.cn)<| .c 147 (aG a.an)<| .c 138 a.vl<| .c 159 (aj b.fa)<| .c 110 (aj b.mv)<| .c 182 (ag c)<| .c 74 (aG "") r)
def Eh(G)(B)(a)(b)(c):=Wu G B a b c<| .c 203 (bT u)<| .c 197 (aj a.ct) b.tr
def Ic(p:FP)(a:O×O):=cw 75<| .c 133 (jN p.f.k p.tx)<| .c 130 (ag p.f.q)<| .c 228 (aj a.2)<| .c 100 (ag p.ix) ar
def yn(a)(b):=(BE a b).foldr (λp c=> .c p.1.2 (az<|sV p.2.f.ns)<| .c p.1.1 (Ic p.2 p.1) c) bO
def zN(a:aa bo):=a.zipIdx.map λp=>jN p.1<|p.1++toString (p.2:au)
def fh(G:Gr)(B:Tb)(d:aa bo)(a:PA)(b:Ps)(c:Cf):Cs:=
.c a.p (cw 144<|Eh G B a b c.qu) (.c b.sa (az<|iV c.st)<| .c b.va (az b.kc)<| .c a.mv (az c.mv)<| .c a.fa (az<|b.fu.map λe=>aj e.1)<| .c a.ln (dD (nd nI b.lo) b.le)<| .c a.sr (cw 221<| .c 185 (aj a.rw)<| .c 3 (ag b.jZ) ar)<| .c a.rw (az<|zN d)<| .c a.ct (cw 189<| .c 170 (aj a.p) ar)<|yn b.fu b.ft)
noncomputable def qd(b:aa bo)(a)(k):=aD (dI a<|U b) (k++toString (a:au)) ""
inductive Lk(b:aa bo)(a:O):ai->O->Prop
|n:Lk b a bk a|t (k:bo) (h:(fB b)[a]?=J k):Lk b a (jN k<|qd b a k)<|min (a+1) (U b)
def Bh(G)(B)(i:aa FS)(a:aa<|O×O):=fF (bw<|R (·.1) a) (∀q∈R (·.1) a,q<U i)<|∀p∈a,GY G B p.1 p.2
noncomputable def Cf.wmv(c:Cf)(a:aa ai):Cf:=⟨c.st,c.ts,c.fl,a,c.pl,c.sp,c.qu⟩
def Lk.inv{lk}(e:Lk P b lk c):lk=bk\/∃k a,lk=jN k a:=e.rec (aL Y) λk h=>aw ⟨k,_,Y⟩
def al8(a:Fr g b<|fh G B P d c j)(e:Lk P k c.lk l)(h:∀v,f v b):aK (n+1) 336 [aj d.p] b f m:=by
 refine a7 Rf (.c 64 _ ar) Y Y ?_;obtain⟨_,_,_,lk,_,_,_,_,_,_,_,_,_⟩:=c;refine aM a 0 Y ?_;rcases e.inv with o|⟨k,p,o⟩
 .have o:lk=_:=o;exact W o<|⟨Y,bc<|h _⟩
 .subst o;exact br rfl<|aM a 0 rfl<|bc<|h _
def z8(a:Fr g b<|fh G B P d e c)(h:Lk P o e.lk p)(l:U c.mv<=60)(j:U c.mv<60->∀f,Fr g f (fh G B P d e<|c.wmv<|c.mv++[v])->k bk f)(m:U c.mv=60->n b):
aK (q+2) 328 [aj d.p,v] b k n:=a7 QE (.c 64 _ (.c 51 v ar)) Y Y<|aM a 0 Y<|bX a 3 Y<|aM a 0 Y<|xt (λq=>aM a 0 Y<|⟨⟨ao Y,ao Y⟩,⟨ao Y,by decide,aM a 0 Y<|al8 a h λZ=>m<|hL l q⟩⟩) λq=>aM a 0 Y<|cH a 3 Y<|dF a 3 Y (jh<|ae l<|ao Y) λs a=>bc<|j q s a
def Sf(b:Fr g h<|fh G B P c a e)(j:∀f,Fr g f (fh G B P c ⟨a.sa,a.va,a.kc,a.lk,a.cn,k,v,a.fu,a.ft,a.jZ,a.lo,a.le,a.tr⟩ e)->l bk f)(d:a.tr.iW<=4):
 aK (n+1) 341 [aj c.p,aG k,v] h l m:=by
 have o:∀l:aW,l.iW<=4->(Eh G B c a e.qu).iW<=60:=λZ Z=>ae (fY d 16)<|ao Y;exact a7 R4 (.c 64 _ (.c 147 _ (.c 138 v ar))) Y Y<|d3 b 0 Y Y (o _ d) λs b=>d3 b 0 Y Y (o _ d) λs b=>bc<|j s b
def œ(h:Fr f j a)(k)(g)(v:p)(q:a.at k=J (l,dD (nd g b) e))(m:n=g v)(o:U b<cu)
 (c:∀e d,Fr f d (a.g8 k<|dD (nd g<|ot b s v) e)->K d):qe (aj l) (ag s) n j K:=by
 rw [<-Zd] at c;exact W m<|u6 h k q pW (W c' o) c
noncomputable def Ps.DB(a:Ps)(b:aa<|O×O)(c:O):Ps:=⟨a.sa,a.va,a.kc,a.lk,a.cn,a.an,a.vl,a.fu,a.ft,a.jZ,b,c,a.tr⟩
def r_(f:Md G T i X M B)(b:Bh G B i c.lo)(g:q<U i)(a:Fr n d<|fh G B P j c o)(h:∀v k p m,GY G B q v->Bh G B i k->cK k q=J v->(∀e,cK c.lo q=J e->e=v)->Fr n m (fh G B P j (c.DB k p) o)->l (ag (v:O)) m):
 aK (r+3) 371 [aj j.p,ag q] d l s:=by
 refine a7 Kf (.c 64 _ (.c 130 _ ar)) Y Y<|aM a 0 Y<|TC a 5 Y<|jk<|ef (λz=>?_) λz=>?_
 .exact bp (vx.mp z) λv t=>aM a 0 Y<|Ae a 5 Y t<|bc<|h v c.lo c.le d ((b J2) _ (qc t)) b t (λe x=>aC<|af x.symm t) a
 .have y:=Y9.mp λC=>bR<|af z.symm C;have H:U c.lo<cu:=by have I:=qx (b V)<|b J1;rw [bC] at I;exact cF I<|fe ((f J1) J2)<|ao Y
  have L:∀v,GY G B q v->s3 _ λR i=>bE (cW i 43) λN=>qe N (ag q) _ d λZ=>c1 (aK<|r+2) s (sR Kf.gY) (.c 64 (aj j.p)<| .c 130 (ag q) ar) Z (λR d=>eh l bk d) (eh l) (λR R=>bW):=λv k=>by
   refine aM a 0 Y<|œ a 5 nI v Y Y H λm Z a=>aM a 0 Y<|Ae (v:=v) a 5 Y ?_<|bc ?_
   .exact W (sQ y)<|I? y
   .have n {b:aa<|O×O} (h:Bh G B i b) (o:cK b q=A) (t:GY G B q v):Bh G B i (ot b q v):=by
     refine W (sQ o)<|bY ?_ (λp z=>?_) λC c=>?_
     .exact W dv<|ak nE ⟨h V,lJ (λR h=>bG h) h9,λI N d j m=>lG.mp o<|(af m (ms j):I=q)▸N⟩
     .rw [dv] at z;exact aO (ma z) ((h J1) p) λm=>(ms m:p=q)▸g
     .exact aO (ma c) ((h J2) C) λm=>W (ms m) t
    exact h v _ m Z k (n b y k) (W (sQ y)<|I? y) (λe x=>aI<|af y.symm x) a
  refine aM a 0 Y<|acR f g λd j=>?_
  induction d with
  |false=>exact L 0<|aL Y|true=>exact aM a 0 Y<|F8 f g<|L _ (aw ⟨Y,j Y⟩)
def R?(c:fJ)(f:cG g.st=J q)(h:q<U i)(a:Fr l b<|fh G B P j m g)(k:h5 B q->d (ag<|xp B q 1) b)(e:¬h5 B q->d (ag 0) b):
aK (n+2) 395 [aj j.p] b d o:=a7 S3 (.c 64 _ ar) Y Y<|aM a 0 Y<|aM a 0 Y<|jT a 1 Y (lX f)<|tQ c h (cc (ao Y) (c V).toGW.t3)<|g5 (λa=>g5 (λb=>bc<|k ⟨a,b⟩) λb=>bc<|e λz=>ay z.2<|ak hB b) λa=>bc<|e λz=>ay z.1<|ak hB a
noncomputable def r9:aW:= .c 234 (bT u) ar
def ra(t):=t=ar\/t=r9
def ra.q4(h:ra t):(t.iW+16<=60):=by rcases h with rfl|rfl<;>exact ht Y
def ra.set(h:ra t):ey t 234 (bT u)=r9:=by rcases h with rfl|rfl<;>rfl
def ra.l4(h:ra t):t.iW<=4:=by rcases h with rfl|rfl<;>exact ht Y
noncomputable def Ps.lV(a:Ps)(b c:O)(d:aa ai)(e:aW):Ps:=⟨b,c,d,a.lk,a.cn,a.an,a.vl,a.fu,a.ft,a.jZ,a.lo,a.le,e⟩
noncomputable def Ps.FX(a:Ps)(b:bo)(v:ai):Ps:=⟨a.sa,a.va,a.kc,a.lk,a.cn,b,v,a.fu,a.ft,a.jZ,a.lo,a.le,a.tr⟩
noncomputable def Cf.lV(c:Cf)(a:aa O)(b d:aa ai)(e:O):Cf:=⟨a,b,c.fl,d,c.pl,c.sp,e⟩
def G_(n:a≠[])(h:K<|kx a):mi a bk (ag<| -1) K:=by refine W yE ((W (?_:(aF (cM<| -1+(U a:au)) a).drop 0=kx a) h):K<|(aF (cM<| -1+(U a:au)) a).drop 0);rw [DH,Rz];exact aq (λk=>aF (cM k) a)<|AI<|ak u! n
def VI(a b)(c):=uF<|∃d,Tl a b d/\U d<=c
def VI.pop(h:VI a b c)(n:a≠[]):VI (kx a) (kx b) c:=by refine aA (h V) λd t l=>?_;rw [a4<|rt n] at t;refine Vy t.snoc λe f g j k m a Z=>?_;rw [k,w2];rw [m,a3] at l;exact iC ⟨g,a,ae (dO _ _) l⟩
def VI.len(h:VI a b c):U b=U a:=let⟨_,t,_⟩:=h V;t.len
def VI.push(h:VI a b c):VI (a++[rr k d]) (b++[uY k d]) (c+1):=aA (h V) λe t l=>iC ⟨_,t.app<| .lf .nil,W bL<|b3 l⟩
def RcI(B)(i)(c)(d)(st)(e a b):=fF (GH B i c st a b) (VI e a d)<|U b<=60
def ZR:∀b (a c:aa ai),U b=U a+1->∃d f e p,gI B b a c d f e/\cG d=J p/\U c<=U e:=by
 intro b;generalize g:U b=m
 induction m generalizing b with
 |zero=>intro a c l;cases l|succ m h=>
  intro a c l;have n:b≠[]:=λz=>by rw [z] at g;cases g
  obtain⟨b,q,rfl⟩:∃s q,b=s++[q]:=⟨_,_,a4<|rt n⟩
  by_cases o:h5 B q
  .exact⟨_,a,c,q, .ok oV o,oV,bb _⟩
  .cases b with
   |nil=>exact⟨_,a,c,q, .one,Y,bb _⟩|cons j r=>
    rw [bL] at g;have g:=f7 g;have l:=f7 l;have tn:a≠[]:=λz=>by rw [z] at l;rw [l] at g;cases g
    obtain⟨a,v,rfl⟩:∃s q,a=s++[q]:=⟨_,_,a4<|rt tn⟩;rw [bL] at l;refine Ch (h _ g a (c++[dz "pop" q]) l) λd f e p k t x=>?_;rw [bL] at x;exact⟨d,f,e,p, .pop jI o k,t,uS x⟩
def ajB(Ú:Md G T i X M B)(Ç:∃ã,g4 c.st ã/\U c.ts=U ã)(Ê:VI f.kc c.ts j)(É:U c.mv<=60)(Î:U c.mv+U c.st<=130)(lk:Lk P c.sp f.lk À)(to:ra f.tr)(a:Fr o Ë<|fh G B P l f c)
 (Æ:∀b d e p (g:O) m n h k,gI B c.st c.ts c.mv b d e->cG b=J p->h5 B p->xp B p 1=g->U e<60->VI h d j->Fr o k (fh G B P l (f.lV m n (h++[rr "error" ""]) r9)<|c.lV (b++[g]) (d++[vd]) (e++[dz "error" g]) 3)->Ì bk k)
 (Å:∀b d e p m n h k,gI B c.st c.ts c.mv b d e->cG b=J p->¬h5 B p->U e<=60->VI h d j->Fr o k (fh G B P l ((f.lV m n h r9).FX "aborted" bk)<|c.lV b d e 3)->Ì bk k)
 (Ð:∀b d e p Â Ä k,gI B c.st c.ts c.mv b d e->cG b=J p->(60<U e\/U e=60/\h5 B p)->Fr o k (fh G B P l Â Ä)->Ã k):
 aK (Á+4) 374 [aj l.p] Ë Ì Ã:=by
 refine a7 Nh (.c 64 _ ar) Y Y<|d3 a 0 Y Y to.q4 λL a=>d3 a 0 Y Y to.q4 λL a=>?_;have a:Fr o L (fh G B P l (f.lV f.sa f.va f.kc r9)<|c.lV c.st c.ts c.mv 3):=ax to.set a;have Ò:(Eh G B l (f.lV f.sa f.va f.kc r9) 3).iW<=60:=ht Y;refine n5 (λg R=>U g.1) (λR R=> .c 64 _ ar) (λg j=>fh G B P l (f.lV j.2.2.1 j.2.2.2 j.2.1 r9)<|c.lV g.1 g.2 j.1 3) (λg N=>RcI B i c j g.1 N.2.1 g.2 N.1) (c.st,c.ts) (c.mv,f.kc,f.sa,f.va) a (bY (bY (λR R R Ö=>Ö) Ç<|bb _) Ê É) ?_;intro⟨b,d⟩ ⟨e,h,m,n⟩ L Ô Ù a È;have z:=Ù V;dsimp only [tj] at z;have y:=Ù J1;dsimp only [tj] at y;have C:=Ù J2;dsimp only [tj] at C;refine aA (z J1) λã t Í=>bp t.top λs Ï=>?_;have v:=af t.jx Ï;have Ñ:=t.lt (Ú J1) Ï;refine aM a 0 Y<|R? Ú v Ñ a (λZ=>?_) λZ=>?_
 .have Ó:=Z.1;refine lE (λH=>ay H<|KB Ó) λR=>?_;obtain⟨g,Õ⟩:∃g:Nat,xp B s 1=g:=⟨cM<|xp B s 1,a4<|y8<|nU Ó⟩;have I:=(z V) _ _ _ (.ok v Z);refine aM a 0 Y<|R? Ú v Ñ a (λR=>W Õ<|aM a 0 Y<|z8 (c:=c.lV b d e 3) a lk C (λØ L a=>aM a 0 Y<|cH a 1 Y ?_) λx=>Ð b d e s _ _ L I v (aw ⟨x,Z⟩) a) λH=>ay Z H;have q:=z J2;refine rg a 1 Y (ae (ae (lB _ _) q)<|ae Î<|ao Y) λL a=>aM a 0 Y<|cH a 2 Y<|aM a 0 Y<|a7 MB (.c 64 _ ar) Y Y<|PR<|o_<|bc ?_;have Û:=t V;refine dF a 2 Y (jh ?_) λL a=>?_
  .show U h<=200;simp only [<-y.len,Í];exact ae (ae (e7 _)<|c6 Û.symm)<|ae (ae (lB _ _) q)<|ae Î<|by decide
  exact bc<|Æ b d e s g m n h L I v Z Õ Ø y a
 .refine lE (λR=>aM a 0 Y<|bX a 1 Y<|hj (a:=U<|iV b) (λH=>?_) λH=>?_) λH=>ay Y H
  .have I:gI B c.st c.ts c.mv b d e:=(z V) _ _ _ (ah (vP<|af du.symm H) λN x=>by rw [x];exact .one);exact aM a 0 Y<|Sf a (λL a=>bc<|Å b d e s m n h L I v Z C y a)<|ra.l4<|aw Y
  .have Ü:b≠[]:=λI=>by rw [I] at v;cases v
   obtain⟨b,Ý,rfl⟩:∃L s,b=L++[s]:=⟨_,_,a4<|rt Ü⟩;have Þ:=aC<|oV▸v;subst Þ;have ß:b≠[]:=λI=>H (by refine W I ?_;rfl);refine hs (t.pop ß) λà á Û â=>?_;have r:U d=U à+1:=by simp only [Í,Û,bL]
   have tn:d≠[]:=λI=>by rw [I] at r;cases r
   have ä:h≠[]:=λI=>by have å:=y.len;rw [I,r] at å;cases å
   obtain⟨d,æ,rfl⟩:∃L s,d=L++[s]:=⟨_,_,a4<|rt tn⟩;rw [bL] at r;have ç:=f7 r;have è:=y.pop ä;rw [w2] at è;have q:=z J2;dsimp only [tj] at q;rw [bL] at q;refine aM a 0 Y<|aM a 0 Y<|jT a 1 Y (lX v)<|z8 (c:=c.lV (b++[Ý]) (d++[æ]) e 3) a lk C (λØ L a=>?_) λx=>?_
   .have é {ê:aa O} {H:O} {Ô:aa ai->Prop} (Ö:Ô<|iV ê):mi (iV<|ê++[H]) bk (ag<| -1) Ô:=G_ (ax n9 λH=>jI<|(CZ H).2)<|ax n9<|W w2 Ö;refine aM a 0 Y<|bX a 1 Y<|é<|aV a λë L a=>?_;have a:=a.bN;refine d3 a 1 Y Y Ò λL a=>aM a 1 Y<|bX a 3 Y<|G_ ä<|aV a λì L a=>?_;have a:=a.bN;refine d3 a 2 Y Y Ò λL a=>È (b,d) (e++[dz "pop" Ý],kx h,ë,ì) L (W bL<|g9 _) (bY (bY (λN I H í=>(z V) N I H<| .pop ß Z í) ⟨à,â,ç⟩ ?_) è<|W bL Ø)<|a.pk [2,1,0,5] 6 (ao Y)<|ao Y;rw [bL,jf];exact q
   .refine Ch (ZR b d (e++[dz "pop" Ý])<|W (â V)<|W ç Y) λò î ï p ð ñ q=>?_;rw [bL] at q;have ó:U e=60:=x;exact Ð ò î ï p _ _ L ((z V) _ _ _ (.pop ß Z ð)) ñ (aL<|ó▸q) a
noncomputable def Ps.VH(a:Ps)(b:aa<|O×O)(c:aa FP):Ps:=⟨a.sa,a.va,a.kc,a.lk,a.cn,a.an,a.vl,b,c,a.jZ,a.lo,a.le,a.tr⟩
noncomputable def Ps.wlk(a:Ps)(lk:ai):Ps:=⟨a.sa,a.va,a.kc,lk,a.cn,a.an,a.vl,a.fu,a.ft,a.jZ,a.lo,a.le,a.tr⟩
def aa9:∀{b} {a},U b=U a->((yn b a).cA c.2<|az<|sV p.f.ns).cA c.1 (Ic p c)=yn (b++[c]) (a++[p]):=by
 intro b
 induction b with
 |nil=>intro a h;induction a with
  |nil=>rfl|cons _ _=>cases h
 |cons v r d=>intro a h;induction a with
  |nil=>cases h|cons g t=>exact aq (λc=>Cs.c v.2 _ _)<|d<|f7 h
def agZ(f:Md G T i X M B)(g:cG h.st=J q)(o:q<U i)(p:c.lk=jN k j)(l:U c.fu=U c.ft)(r:U c.ft<=100)(a:Fr m s<|fh G B P b c h)
 (t:∀d e v n,Fr m n (fh G B P b (c.VH (c.fu++[(d,e)])<|c.ft++[⟨⟨k,q,p4 G B q⟩,j,v⟩]) h)->x bk n):aK (y+5) 378 [aj b.p] s x z:=by
 obtain⟨C,H,I,lk,L,N,Z,h,n,s,v,x,y⟩:=c;subst p;refine a7 QS (.c 64 _ ar) Y Y<|aM a 0 Y<|a7 Lq (.c 64 _ ar) Y Y<|aM a 0 Y<|aM a 0 Y ⟨Y,a7 Rc (.c 64 _ ar) Y Y<|aM a 0 Y<|aM a 0 Y<|jT a 1 Y (lX g)<|alg f o<|bc<|bc<|cb Y ?_⟩;have z:U (Gj G B q)<cu:=cF (AQ ..)<|W e9<|jh<|ae (f V).t6<|ao Y;refine i3 d5 (λc=>J<|aG<|F G.cI c "") a (λR R R R=>rfl) z (λo c p p s I N Z a v R=>?_) λe s a=>?_
 .have x:c<U G.cI:=by
   refine aA (x1.mp<|aP Z) λy z o=>?_;unfold pN at o;cases p:(r4 B q y&&_) with
   |true=>rw [p] at o;obtain rfl:=aC o;exact fe (tV.mp z) (f V).toGW.nT|false=>rw [p] at o;exact aI o
  exact aM a 0 Y<|bJ Y (ku<|e8 x)<|v _ s Y a
 have I:eI (λc=>J<|aG<|F G.cI c "") (Gj G B q)=sV (p4 G B q):=by unfold Gj p4 sV;simp only [List.filterMap_filterMap,N5];refine aq (λf=>eI f _)<|funext λy=>?_;unfold pN yB;cases(r4 B q y&&_)<;>rfl
 rw [I] at a;refine aM a 0 Y<|cH a 4 Y<|aM a 0 Y<|aM a 0 Y<|jT a 1 Y (lX g)<|aM a 0 Y<|u7<|jK Y Y λd N=>?_;have a:=(a.hN (o:=cw 75 ar) N).bN;refine a7 OV _ Y Y (bP a Y λs a=>bP a Y λs a=>bP a Y λs a=>bP a Y λs a=>bc ⟨Y,bc ?_⟩);have a:=a.Bv;refine dF a 4 Y (W (bC ..)<|jh<|ae (c6 l)<|ae r<|ao Y) λs a=>bc<|t d e (L-1) s (?_:Fr m s<| .c b.p _ (.c C _ (.c H _ (.c b.mv _ (.c b.fa (az<|(h++[(d,e)]).map λZ=>aj Z.1)<| .c b.ln _ (.c b.sr _ (.c b.rw _ (.c b.ct _ (yn (h++[(d,e)])<|n++[FP.mk ⟨k,q,p4 G B q⟩ j _])))))))));simp only [dv,<-aa9 l];exact a
def pX(G)(B)(i)(b)(c:Cf)(a:Ps):=t9 (VI a.kc c.ts<|U c.mv) (Lk b c.sp a.lk a.jZ) (ra a.tr) (Bh G B i a.lo) (U a.fu=U a.ft) (R (·.f) a.ft=c.fl)<|a.an="more"
def F6(G:Gr)(c:Cf)(a:Ps)(b):=j6 (U c.mv<=60) (U a.fu=U a.ft) (R (·.f) a.ft=c.fl) (a.an=aD b "accepted" "aborted")<|aD b (∃v t,a.vl=v/\cG c.ts=J t/\VI [v] [t] 62)<|a.vl=bk
def VI.up(h:VI a b c)(l:c<=d):VI a b d:=let⟨e,t,f⟩:=h V;(iC ⟨e,t,ae f l⟩)
def v3(a):=eY (U a<=9)<|∀k∈a,k≠"$end"/\k≠"error"
def v3.row{a:O}(h:v3 P)(b:(fB P)[a]?=J k):k≠"error":=by
 rcases ma (aP b) with m|m
 .exact((h J1) k m).2
 .refine W (ms m) ?_;decide
def aiD(a:fW)(b:e6)(h:k≠"error"):tn G k≠1:=λe=>by
 unfold tn at e;cases z:g7 k _ with
 |none=>rw [z] at e;cases e|some c=>rw [z] at e;have e:c=1:=e;have d:=BC z;rw [e,ha,aJ<|cc (ao Y) b.t3,a J4] at d;exact h (aC d).symm
def I6(a:fW)(b:e6):tn G k=0↔k="$end":=by
 refine⟨λe=>?_,λe=>e▸Ca a b⟩;unfold tn at e;cases z:g7 k _ with
 |none=>rw [z] at e;cases e|some c=>rw [z] at e;have e:c=0:=e;have d:=BC z;rw [e,ha,aJ<|cc (ao Y) b.t3,a J3] at d;exact a4<|aC d
def CQ(G)(B)(i)(a)(b)(c)(d)(k)(q)(e:QT)(f:aT->Prop):=fF (∀g h j,gB G B a d k q A g->U g.mv<=60->pX G B i a g h->Fr c j (fh G B a b h g)->e bk j) (∀l g h j,gB G B a d k q (J l) g->F6 G g h l->Fr c j (fh G B a b h g)->e bk j)<|∀o g h m j,gB G B a d k q o g->60<U g.mv->Fr c j (fh G B a b h m)->f j
def ajI(l:Md G T i X M B)(Å:fW)(z:v3 P)(m:Wb i P c)(g:U c.mv<=60)(d:pX G B i P c b)(Â:(fB P)[c.sp]?=J k)(Æ:cG c.st=J q)(h:el B q (tn G k)=0)(e:b.lk=jN k (qd P c.sp k))(Á:b.jZ=min (c.sp+1) (U P))
 (a:Fr p j<|fh G B P f b c)(o:CQ G B i P f p c k q n r):aK (É+6) 344 [aj f.p,ag<|tn G k] j n r:=by
 refine aA (m J4) λÃ H È=>?_;have L:U c.mv+U c.st<=129:=ae (dZ g<|ae (m V)<|b3 g)<|ao Y;refine a7 JU (.c 64 (aj f.p)<| .c 243 (ag<|tn G k) ar) Y Y<|aM a 0 Y ?_;have Ñ:∀Z z,Z.kc=b.kc->Z.lk=b.lk->Z.jZ=b.jZ->Z.tr=b.tr->Z.lo=b.lo->Z.an=b.an->U Z.fu=U Z.ft->R (·.f) Z.ft=eK G B c k q->Fr p z (fh G B P f Z c)->
  c1 (aK<|É+5) r (sR JU.gY) (.c 64 (aj f.p)<| .c 243 (ag<|tn G k) ar) z (λQ j=>eh n bk j) (eh n) (λQ Q=>bW):=by
  intro Z z Ò À Ó x Ô Ä Û t a;have Ç:∀I v z,I=⟨c.st,c.ts,eK G B c k q,gD c<|tn G k,eE c,fy c,c.qu⟩->(c.qu=3->k≠"$end")->U (gD c<|tn G k)<=60->Lk P I.sp v.lk v.jZ->v.kc=b.kc->v.tr=b.tr->v.lo=b.lo->v.an=b.an->U v.fu=U v.ft->R (·.f) v.ft=I.fl->Fr p z (fh G B P f v I)->
   aK (É+5) 374 [aj f.p] z (λQ j=>eh n bk j) r:=by
   intro I v z Í p r lk Î Ê Ë Ì Õ Ö a;subst Í;have Ï:U c.mv<=U (gD c<|tn G k):=by
    unfold gD;cases aE c.qu 3 with
    |true=>exact ae (e7 _)<|c6 bL.symm|false=>exact bb _
   have Ð:U (gD c<|tn G k)+U c.st<=130:=ae (dZ r<|ae (m V)<|b3 g) (by decide);refine ajB (j:=U c.mv) (c:=⟨c.st,c.ts,eK G B c k q,gD c<|tn G k,eE c,fy c,c.qu⟩) l ⟨Ã,H,È⟩ (Î▸(d V)) r Ð lk (Ê▸(d J2)) a (λr N L y C Ù I Ø z n e Ú s Ü Ý a=>?_) (λr N L y Ù I Ø z n e Ú Þ Ý a=>?_) λr N L y ß à z n e á a=>?_
   .have â:U c.mv<=U L:=ae Ï n.len.1;refine bc<|(o V) ⟨r++[C],N++[vd],eK G B c k q,L++[dz "error" C],eE c,fy c,3⟩ (v.lV Ù I (Ø++[rr "error" ""]) r9) z (gB.mI (c:=c) h p n y e C Ú s) ?_ (ke ?_ lk (aw Y) (Ë▸(d J3)) Õ Ö<|af Ì<|d J6) a
    .show U (L++[dz "error" C])<=60;exact W bL Ü
    .exact(Ý.push (k:="error") (d:="")).up (by show U c.mv+1<=U (L++[dz "error" C]);exact W bL<|b3 â)
   .exact bc<|(o J1) u ⟨r,N,eK G B c k q,L,eE c,fy c,3⟩ ((v.lV Ù I Ø r9).FX "aborted" bk) z (gB.oh (c:=c) h p n y e Ú) (ec Þ Õ Ö Y Y) a
   .by_cases v:h5 B y
    .obtain⟨C,s⟩:∃C:Nat,xp B y 1=C:=⟨cM<|xp B y 1,a4<|y8<|nU v.1⟩;refine(o J2) A ⟨r++[C],N++[vd],eK G B c k q,L++[dz "error" C],eE c,fy c,3⟩ ß à z (gB.mI (c:=c) h p n y e C v s) ?_ a;show 60<U (L++[dz "error" C]);exact W bL<|aO á (λI=>rM I) λI=>ig<|c6 I.1.symm
    .exact(o J2) (J u) ⟨r,N,eK G B c k q,L,eE c,fy c,3⟩ ß à z (gB.oh (c:=c) h p n y e v) (á.resolve_right λI=>v I.2) a
  have å:Lk P c.sp Z.lk Z.jZ:=by simp only [À,Ó];exact d J1
  have ä:Z.tr.iW<=4:=(x▸(d J2)).l4;refine aM a 0 Y ?_
  by_cases I:c.qu=3
  .have N:aE c.qu 3=true:=by exact W I Y
   have L:aE c.qu 0=false:=by exact W I Y
   have æ:eK G B c k q=c.fl:=by unfold eK;exact W L Y
   have ã:eE c=c.pl:=by unfold eE;exact W L Y
   have r:gD c (tn G k)=c.mv++[dz "discard"<|tn G k]:=by unfold gD;exact W N Y
   have ç:fy c=c.sp+1:=by unfold fy;exact W N Y
   refine hj (a:=c.qu) (b:=3) (λQ=>hj (a:=tn G k) (b:=0) (λn=>?_) λn=>?_) λn=>ay I n
   .have p:=(I6 Å (l V).toGW).mp n;exact aM a 0 Y<|Sf a (λz a=>bc<|(o J1) u c (Z.FX "aborted" bk) z (.rp h I p) (ec g Û (af t æ) Y Y) a) ä
   .have p:k≠"$end":=λè=>n<|ak (I6 Å (l V).toGW) è;refine aM a 0 Y<|z8 a å g (λÜ z a=>?_) λé=>?_
    .refine aM a 0 Y<|a7 Qs (.c 64 (aj f.p) ar) Y Y<|d3 a 0 Y Y (x▸(d J2)).q4 λz a=>bc<|aM a 0 Y ?_;have f:Z.jZ=c.sp+1:=by simp only [Ó,Á,gq<|xu Â (m J5) p]
     exact Ç ⟨c.st,c.ts,c.fl,c.mv++[dz "discard"<|tn G k],c.pl,c.sp+1,c.qu⟩ (Z.wlk bk) z (W æ<|W ã<|W r<|W ç Y) (λQ=>p) (by simp only [r,bL];exact Ü) (by show Lk P (c.sp+1) bk Z.jZ;exact W f .n) Ò x Ô Ä Û (af t æ) a
    .refine Ch (ZR c.st c.ts (gD c<|tn G k)<|W (H V)<|W È Y) λë ê f y ì í î=>?_;have ï:60<U f:=by rw [r,bL,é] at î;exact î
     by_cases v:h5 B y
     .obtain⟨C,s⟩:∃C:Nat,xp B y 1=C:=⟨cM<|xp B y 1,a4<|y8<|nU v.1⟩;refine(o J2) A ⟨ë++[C],ê++[vd],eK G B c k q,f++[dz "error" C],eE c,fy c,3⟩ _ _ z (gB.mI (c:=c) h (λQ=>p) ì y í C v s) ?_ a;show 60<U (f++[dz "error" C]);exact W bL<|rM ï
     .exact(o J2) (J u) ⟨ë,ê,eK G B c k q,f,eE c,fy c,3⟩ _ _ z (gB.oh (c:=c) h (λQ=>p) ì y í v) ï a
  .have N:aE c.qu 3=false:=d4 I;have r:gD c (tn G k)=c.mv:=by unfold gD;exact W N Y
   have ç:fy c=c.sp:=by unfold fy;exact W N Y
   exact hj (a:=c.qu) (b:=3) (λn=>ay n I) λQ=>aM a 0 Y<|Ç ⟨c.st,c.ts,eK G B c k q,c.mv,eE c,c.sp,c.qu⟩ Z z (W r<|W ç Y) (λn=>ay n I) (r▸g) å Ò x Ô Ä Û t a
 by_cases I:c.qu=0
 .have L:aE c.qu 0=true:=by exact W I Y
  refine hj (a:=c.qu) (b:=0) (λQ=>aM a 0 Y ?_) λn=>ay I n;have h:U b.ft<=100:=by have o:=aq U<|d J5;rw [bC] at o;exact W o<|ae (m J2)<|ae g<|ao Y
  refine agZ l Æ (H.lt (l J1)<|H.jx▸Æ) e (d J4) h a λZ x t z a=>Ñ (b.VH (b.fu++[(Z,x)])<|b.ft++[FP.mk ⟨k,q,p4 G B q⟩ (qd P c.sp k) t]) z Y Y Y Y Y Y ?_ ?_ a
  .show U (b.fu++[(Z,x)])=U (b.ft++[_]);simp only [bL,bL,d J4]
  .show R (·.f) (b.ft++[FP.mk ⟨k,q,p4 G B q⟩ _ t])=_;simp only [dv,d J5];unfold eK;exact W L Y
 .have L:aE c.qu 0=false:=d4 I;refine hj (a:=c.qu) (b:=0) (λn=>ay n I) λQ=>Ñ b j Y Y Y Y Y Y (d J4) (W (d J5) ?_) a;unfold eK;exact W L Y
def VI.red(h:VI a b c):VI (aF m a++[u0 l r<|cq m a]) (aF m b++[lY l<|cq m b]) (c+1):=by refine aA (h V) λd t e=>gv (t.cut m) λf g a d j=>iC ⟨_,a.app<| .nd d .nil,?_⟩;rw [j,a3] at e;exact W a3<|W a3<|ax (cx ..)<|b3 e
def Tq{k:O}(h:0<k->a)(b:k=0->c):dH (nx 0 (k:au)) a c:=hZ h λz=>b<|vW.mp z
def ň{q b:O}(z:fJ)(C:fW)(f:Wb i P c)(g:U c.mv<=60)(d:pX G B i P c e)(m:(fB P)[c.sp]?=J k)(h:e.lk=jN k (qd P c.sp k))(n:e.jZ=min (c.sp+1) (U P))(p:k≠"$end")(r:el B q (tn G k)=b)(s:0<b)(t:b<1048576)
 (a:Fr v j<|fh G B P l e c)(o:CQ G B i P l v c k q x y):aK (H+6) 355 [aj l.p,ag b] j x y:=by
 have I:=xu m (f J5) p;have L:qd P c.sp k=k++toString (c.sp:au):=by unfold qd;exact W kS<|W (eZ<|Nat.lt_of_succ_le I) Y
 rw [L] at h;obtain⟨N,Z,l,lk,v,À,y,z,C,H,m,p,x⟩:=e;subst h;refine a7 Mw (.c 64 _ (.c 33 _ ar)) Y Y<|aM a 0 Y ⟨Y,a7 SU (.c 64 _ (.c 33 _ ar)) Y Y<|aM a 0 Y ?_⟩;have e:lW c k q A ⟨c.st++[b],c.ts++[xm k c.sp],c.fl,c.mv++[dz "shift" b],c.pl,c.sp+1,c.qu-1⟩:= .nc b r s t;refine z8 a (d J1) g (λh s a=>?_) λq=>(o J2) A _ _ _ j e (by refine W bL<|W q ?_;decide) a;refine aM a 0 Y<|cH a 1 Y<|rg a 1 Y (ae (f V)<|ae (b3 g)<|ao Y) λs a=>aM a 0 Y<|cH a 2 Y<|aM a 0 Y<|aM a 0 Y<|a7 Ly _ Y Y (o_<|bc<|dF a 2 Y (jh<|ae (c6 (d V).len.symm)<|ae (f J1)<|ae g<|ao Y) λs a=>?_);have to:ra x:=d J2;refine d3 a 0 Y Y to.q4 λs a=>bc ?_;have r:H=c.sp+1:=by have t:H=min _ (U P):=n;exact W t<|gq I
 have f:pX G B i P ⟨c.st++[b],c.ts++[xm k c.sp],c.fl,c.mv++[dz "shift" b],c.pl,c.sp+1,c.qu-1⟩ ⟨N,Z,l++[rr k _],bk,v,À,y,z,C,H,m,p,x⟩:=
  ke (by have t:=(d V).push (k:=k) (d:=k++toString (c.sp:au));exact t.up<|c6 bL.symm) (W r .n) to (d J3) (d J4) (d J5)<|d J6
 have g:U (c.mv++[dz "shift" b])<=60:=W bL h;refine aM a 0 Y<|Tq (λz=>?_) λz=>?_
 .exact aM a 0 Y<|ph (zj z).symm<|d3 a 0 Y Y to.q4 λs a=>bc<|(o V) _ _ s e g f a
 .have q:c.qu-1=c.qu:=W z Y;rw [q] at e f;exact bc<|(o V) _ _ s e g f a
def AS(G:Gr):=∀(r:O) a,G.a5[r]?=J a->("$@".toList.isPrefixOf<|h8<|F G.cI a.aY "")=u
def Th{q r:O}(d:fJ)(À:AS G)(h:Wb i P c)(j:U c.mv<=60)(b:pX G B i P c e)(x:(fB P)[c.sp]?=J k)(t:cG c.st=J q)(g:el B q (tn G k)= -(r:au))(l:0<r)
 (a:Fr n o<|fh G B P m e c)(p:CQ G B i P m n c k q f v):aK (y+6) 342 [aj m.p,ag r] o f v:=by
 refine aA (h J4) λz C H=>?_;have I:=C.jx▸t;have L:=C.lt (d J1) I;have N:=bK L;have Z:r∈i[q].rd:=by
  rcases d.qs N (tc (d V).toGW k) with ⟨v,x,y⟩|⟨x,t,Z,y⟩|⟨x,y⟩
  .exact ay (af y.symm g)<|mD l
  .exact W (eG<|p8.mp<|af g.symm y) Z
  .exact ay (af y.symm g)<|mD l
 refine zm (C.red (d V) (d J1) I N Z) λL v I N=>?_;have Z:=(b V).len;obtain⟨x,t⟩:∃x,x=U z-U L.aQ:=cL _ rfl;have z:U c.ts=x+U L.aQ:=by simp only [H,t,As<|N J1]
 have H:=Z▸z;have s:c.st[x]?=J v:=t▸(N J3);have t:=ak (d.zk ((d V).toGW.lt L<|aP<|N V).1.1<|C.lt (d J1) s)<|N J6;have d:x+1<=U c.st:=gl s;have C:lW c k q A ⟨aF _ c.st++[I],aF x c.ts++[lY _ _],c.fl,c.mv++[dz "reduce" r],c.pl,c.sp,c.qu⟩:= .red r L v I x g l (N V) z s t;have to:=b J2;refine a7 RD (.c 64 _ (.c 61 _ ar)) Y Y<|aM a 0 Y<|z8 a (b J1) j (λÁ g a=>aM a 0 Y<|agu (N V)<|aM a 0 Y<|bX a 2 Y<|ph (W H (eU ..))<|aM a 0 Y<|acV (N V)<|ph (eJ x).symm<|aM a 0 Y<|aM a 0 Y<|bX a 2 Y<|AL (H▸dO _ _)<|aV a λl g a=>?_) λy=>(p J2) A _ _ _ o C (by simp only [bL,y];decide) a;have a:=a.bN;refine a7 RI _ Y Y (aM a 1 Y<|aM a 1 Y<|a7 L1 _ Y Y (bJ Y (ku<|Ba<|Ba<|N V) ?_));have z:∀g (o:bo) y,y->pD pG (aG o) g y:=λg o y l=>by refine W rF ?_;exact l
 have y:∀g (k o:bo) (f:QT),f _ g->lI pG (aG k) (aG o) g f:=λg k o f l=>by refine W pU ?_;exact l
 refine z _ _ _ (y _ _ _ _ (ef (λz=>bR<|af (À r L<|N V).symm z) λX=>υ (a.lt 0 Y)<|bc<|bc ?_));have a:=a.tl;refine aM a 0 Y<|bX a 2 Y<|ph (W H (eU ..))<|aM a 0 Y<|bX a 2 Y<|th (H▸dO _ _)<|aV a λf g a=>?_;have a:=a.bN;refine d3 a 1 Y Y to.q4 λg a=>aM a 1 Y<|bX a 2 Y<|th (W du d)<|aV a λo g a=>?_;have a:=a.bN;refine d3 a 2 Y Y to.q4 λg a=>?_;have a:Fr n g (fh G B P m (e.lV o f (aF x e.kc) e.tr) ⟨aF (x+1) c.st,c.ts,c.fl,c.mv++[dz "reduce" r],c.pl,c.sp,c.qu⟩):=by have a:=a.pk [2,0,1,5] 6 (ao Y)<|ao Y;unfold fh;exact W (show iV _=aF _ (iV c.st) from tq ..) a
 refine aM a 0 Y<|a7 Ms (.c 64 _ (.c 61 _ (.c 138 _ ar))) Y Y<|aM a 0 Y<|d3 a 0 Y Y to.q4 λg a=>rW (λz=>ay z<|ao Y) λX=>rW (λz=>ay z<|by decide) λX=>rW (λz=>ay z<|by decide) λX=>aM a 0 Y ⟨Y,a7 SJ (.c 64 _ (.c 61 _ (.c 138 _ ar))) Y Y<|aM a 0 Y<|aM a 0 Y<|jT a 1 Y (lX (q:=v) ?_) ?_⟩
 .simp only [x6,dU,gq d,wt,ha,aJ<|g9 x];exact s
 refine aM a 0 Y<|aeW (N V)<|XG t<|hZ (λz=>ay z<|fC _) λX=>aM a 0 Y<|cH a 1 Y<|rg a 1 Y (W dU<|ae (oZ _ _)<|ae (h V)<|ae (b3 j)<|ao Y) λg a=>aM a 0 Y<|cH a 2 Y<|dF a 2 Y (jh<|W dU<|ae (oZ _ _)<|ae (Z▸ae (h J1) j)<|ao Y) λg a=>bc<|bc<|bc ?_;exact(p V) ⟨aF _ c.st++[I],aF x c.ts++[lY _ _],c.fl,c.mv++[dz "reduce" r],c.pl,c.sp,c.qu⟩ (e.lV o f _ e.tr) g C (W bL Á)
  (ke ((b V).red.up<|c6 bL.symm) (b J1) to (b J3) (b J4) (b J5)<|b J6) a
def aj1(h:VI a b c)(n:a≠[]):∃v t,cG a=J v/\cG b=J t/\VI [v] [t] c:=by refine aA (h V) λd e l=>?_;obtain⟨a,v,rfl⟩:∃s q,a=s++[q]:=⟨_,_,a4<|rt n⟩;obtain⟨f,t,g,j,rfl,rfl,_,k⟩:=e.snoc;exact⟨v,t,oV,oV,iC ⟨j,k,ae (lB _ _)<|a3▸l⟩⟩
def pX.TZ(a:pX G B i P c b)(h:Bh G B i lo):pX G B i P c (b.DB lo e):=ke (a V) (a J1) (a J2) h (a J4) (a J5)<|a J6
def adr{a:O}(h:P[a]?=J k):(zN P)[a]?=J (jN k<|k++toString (a:au)):=by unfold zN;simp only [cg,JC,h];exact W (eJ ..) Y
def UU:U (zN P)=U P:=by unfold zN;simp only [bC,MY]
noncomputable def Ps.wat(a:Ps)(b:O):Ps:=⟨a.sa,a.va,a.kc,a.lk,a.cn,a.an,a.vl,a.fu,a.ft,b,a.lo,a.le,a.tr⟩
def abZ(g:v3 P)(j:c.sp<=U P)(l:b.jZ=c.sp)(a:Fr m d<|fh G B P e b c)(h:∀k f,(fB P)[c.sp]?=J k->Fr m f (fh G B P e (b.wat<|min (c.sp+1) (U P)) c)->n (jN k<|qd P c.sp k) f):
 aK (o+3) 404 [aj e.sr] d n p:=by
 obtain⟨q,r,s,lk,t,v,x,y,z,C,H,I,L⟩:=b;subst l;refine a7 Qa (.c 64 _ ar) Y Y<|aM a 6 Y<|aM a 6 Y<|bX a 7 Y<|xt (b:=c.sp) (λq=>?_) λq=>?_
 .rw [UU] at q;have e:=hL j q;refine PR<|bc ?_;have N:(fB P)[c.sp]?=J "$end":=by refine W e<|W (hV<|bb _)<|W (pR ..) ?_;rfl
  have Z:qd P c.sp "$end"="":=by unfold qd;exact W kS<|W (gh<|ak fU q) Y
  have f:=h "$end" d N;rw [Z] at f;exact f<|W (Iz<|hH q)<|ax e a
 .rw [UU] at q;have m:=bK q;generalize P[c.sp]=k at m;have N:(fB P)[c.sp]?=J k:=W (hb q) m;have Z:qd P c.sp k=k++toString (c.sp:au):=by unfold qd;exact W kS<|W (eZ q) Y
  refine aM a 6 Y<|aM a 6 Y<|dc a 7 Y (adr m)<|Ry (λX=>aM a 6 Y<|d3 a 6 Y Y (bl Y) λs a=>bc ?_) λz=>ay z ((g J1) k<|aP m).1;have f:=h k s N;rw [Z] at f;exact f<|W (gq q) a
def xg(c:Cf)(a:Ps):=aD (ng a.an "more") (62-U c.mv) 0
def V3:=sF<|sR Hm.gY
inductive PSt(G:Gr)(B:Tb)(i:aa FS)(a:aa bo)(c:Cf)(b:Ps):Prop
|r (e:Wb i a c) (m:U c.mv<=60) (p:pX G B i a c b) (h:∀o,nM G B a c o->nM G B a c0 o)|e (d:ba) (p:F6 G c b d) (h:nM G B a c0<|J (d,c))
def aiv(b:fJ)(Í:fW)(Å:AS G)(Æ:v3 P)(h:PSt G B i P c k)(a:Fr Ñ x<|fh G B P d k c)
 (Á:ju c0 A->∀f g p,Fr Ñ p (fh G B P d f g)->l p)(À:∀j g f p,F6 G g f j->ju c0 (J (j,g))->Fr Ñ p (fh G B P d f g)->N (.c 64 (aj d.p)<| .c 179 (aj d.sr) ar) p):
 c1 (aK<|n+8) l V3 (.c 64 (aj d.p)<| .c 179 (aj d.sr) ar) x N È C:=by
 refine n5 xg (λX X=> .c 64 _ _) (λc k=>fh G B P d k c) _ c k a h (λc k H I h a Ã=>aM a 0 Y<|rW (λZ=>?_) λZ=>?_)
 .induction h with
  |e j Ç x=>have:=Ç J3;dsimp only [u5] at this;rw [Z] at this;cases j<;>exact ay this<|ao Y|r N C z É=>
  refine aA (N J4) λÂ ó Ä=>bp ó.top λô Î=>?_;have p:=af ó.jx Î;have rl:c.sp<U (fB P):=W bL<|ig<|N J5;obtain⟨q,y⟩:∃q,_[c.sp]?=some q:=cL _<|bK rl;have mu:xg c k=62-U c.mv:=by unfold xg;exact W wh<|W Z Y
  have Ê:∀{g f},U c.mv<U g.mv->xg g f<xg c k:=λ{g f} Ë=>by
   refine W mu ?_;unfold xg;cases ng f.an "more" with
   |true=>exact xq (cF C<|by decide) Ë|false=>exact Ww<|cF C<|by decide
  have Ì:∀m H,pX G B i P c m->((m.lk=jN q (qd P c.sp q)/\m.jZ=min (c.sp+1) (U P))\/∃Ö,cK m.lo ô=J Ö/\Ö≠0)->Fr Ñ H (fh G B P d m c)->
   c1 (aK<|n+8) l (sR<|sW V3) (.c 64 (aj d.p)<| .c 179 (aj d.sr) ar) H I È I:=by
   intro m H z Ï a;have Ð (o:CQ G B i P d Ñ c q ô (G3 (aW.c 64 (aj<|PA.p d)<|aW.c 179 (aj<|PA.sr d) aW.nil)<|Gg (c1 (aK<|n+8) l ck) I È I) l):aK ((n+1)+7) 330 [aj d.p] H (G3 (aW.c 64 (aj<|PA.p d)<|aW.c 179 (aj<|PA.sr d) aW.nil)<|Gg (c1 (aK<|n+8) l ck) I È I) l:=by
    refine aA (N J4) λÂ ó Ä=>?_;have Î:=ó.jx▸p;have Ò:=ó.lt (b J1) Î;have Ó:=tc (b V).toGW q;have Ô:∀{Õ},(∀s,(G3 (aW.c 64 (aj<|PA.p d)<|aW.c 179 (aj<|PA.sr d) aW.nil)<|Gg (c1 (aK<|n+8) l ck) I È I) bk s->Õ bk s)->CQ G B i P d Ñ c q ô Õ l:=λx=>bY (λg f s d j l e=>x s<|(o V) g f s d j l e) (λj g f s d l e=>x s<|(o J1) j g f s d l e)<|o J2;refine a7 RZ (.c 64 _ ar) Y Y<|aM a 0 Y<|jT a 1 Y (lX p)<|aM a 0 Y<|r_ b (z J3) Ò a λÖ ç d s Ø Ü Ù Ú a=>?_;have z:pX G B i P c (m.DB ç d):=z.TZ Ü;refine Tq (λZ=>?_) λZ=>?_
    .have Û:el B ô (tn G q)= -(Ö:au):=by
      rcases Ø with l|⟨l,Ý⟩
      .exact ay l<|ih Z
      .exact W (EG<|Ý _ Ó)<|W l Y
     exact aM a 0 Y<|Th b Å N C z y p Û Z a<|Ô λs x=>bc x
    .have Ï:=Ï.resolve_right λÞ=>aA Þ λß à á=>á<|af (Ú ß à) Z;have â:=Ï.1;refine dC Ï λã ä=>?_;obtain⟨å,æ,I,lk,è,é,ê,ë,ì,í,î,ï,ð⟩:=m;subst ã;refine aM a 0 Y<|aM a 0 Y<|a7 Ss (.c 64 _ (.c 133 (jN q _) ar)) Y Y<|aM a 0 Y<|adx<|hj (λl=>ay l<|aiD Í (b V).toGW<|Æ.row y) λX=>bc<|aM a 0 Y<|abB b Ò Ó ?_;have ñ:=bK Ò;generalize m:el B ô _=ò;refine lE (λl=>?_) λl=>?_
     .have m:=af m l;have h:lW c q ô _ ⟨c.st,c.ts,c.fl,c.mv++[n6 "accept"],c.pl,c.sp,c.qu⟩:= .acc m;have L:∃v,go i ô 0=J v:=by
       rcases b.qs ñ Ó with ⟨v,L,e⟩|⟨L,r,õ,e⟩|⟨L,e⟩
       .cases Z:aE _ 0 with
        |true=>exact cL v<|d9 Z▸L|false=>rw [Z] at e;have ö:=fe ((b J1).v9 L)<|(b J1) J2;have:=eG<|af m.symm e;rw [show aD u 1048576 v=v from Y] at this;rw [<-this] at ö;exact ay ö<|ao Y
       .exact ay (af m.symm e)<|mD (b.vK (aP ñ) õ).1
       .exact ay (af m.symm e)<|ao Y
      refine bp L λv L=>?_;have ø:I≠[]:=λZ=>by have:=(z V).len;rw [Ä,ó.acc (b V) (b J1) Î L,show(Ps.DB ⟨å,æ,I,jN q _,è,é,ê,ë,ì,í,î,ï,ð⟩ ç d).kc=I from Y,Z] at this;exact vX this
      refine gv (aj1 ((z V):VI I c.ts<|U c.mv) ø) λù t ú û ü=>aM a 0 Y<|z8 a (z J1) C (λý s a=>?_) λe=>(o J2) _ _ _ _ s h (by refine W bL<|W e ?_;decide) a;exact aM a 0 Y<|aM a 0 Y<|jT a 2 Y ú<|Sf a (λs a=>bc<|(o J1) Q _ ((Ps.DB ⟨å,æ,I,jN q _,è,é,ê,ë,ì,í,î,ï,ð⟩ ç d).FX "accepted" ù) s h (ec (W bL ý) (z J4) (z J5) Y ⟨ù,t,Y,û,ü.up<|ae C<|ao Y⟩) a) (z J2).l4
     .rcases b.qs ñ Ó with ⟨v,L,e⟩|⟨L,r,õ,e⟩|⟨L,e⟩
      .have þ:=(b J1).Jt L;have ö:=fe ((b J1).v9 L)<|(b J1) J2;have L:tn G q≠0:=λZ=>by rw [m,Z] at e;exact l e
       have d:ò=(v:au):=by exact ax m<|W e<|W (d4 L) Y
       subst d;exact hZ (λl=>aM a 0 Y<|ň b Í N C z y â ä (λZ=>L<|ak (I6 Í (b V).toGW) Z) m l ö a<|Ô λs x=>bc x) λl=>ay (vW.mp l) þ
      .have v:=b.vK (aP ñ) õ;have d:=af m.symm e;subst d;exact g5 (λZ=>ay Z<|ak hB<|ZK<|cp r) λX=>g5 (λZ=>aM a 0 Y<|a7 Ou (.c 64 _ (.c 243 _ ar)) Y Y<|aM a 0 Y<|bc<|aM a 0 Y<|zP (W (GN ..) (LO ..))<|Th b Å N C z y p e v.1 a<|Ô λs x=>bc x) λZ=>ay Z<|ak x8<|Px<|ak hl v.1
      .have d:=af m.symm e;subst d;exact g5 (λZ=>ay Z<|by decide) λX=>g5 (λZ=>ay Z<|by decide) λX=>g5 (λZ=>ay Z<|by decide) λX=>aM a 0 Y<|ajI b Í Æ N C z y p e â ä a<|Ô λs x=>bc x
   refine aM a 0 Y<|Ð<|bY (λg f H h m z a=>?_) (λj g f H h L a=>?_) λo g f l H h m a=>?_
   .have s:=h.wb b Í N y p;exact Ã g f H (Ê s.2) (.r s.1 m z λo r=>É o<| .st C y p h r) a
   .refine Ã g f H ?_ (.e j L<|É _ (.en C y p h<|L V)) a;have e:xg g f=0:=by unfold xg;refine W wh<|W (L J3) ?_;cases j<;>rfl
    exact W e<|W mu<|Ww<|cF C<|by decide
   .refine Á (É A ?_) f l H a
    induction o with
    |none=>exact .st C y p h<| .ov m|some j=>exact .eo C y p h m
  refine aM a 0 Y<|a7 Rj (.c 64 _ ar) Y Y ?_;obtain⟨å,æ,I,lk,è,é,ê,ë,ì,í,î,ï,ð⟩:=k;refine aM a 0 Y ?_;have v:Lk P c.sp lk í:=z J1;generalize f:lk=g at v;generalize o:í=m at v
  induction v with
  |t L l=>subst f o;cases af y.symm l;exact br rfl<|bc<|Ì _ H z (aL ⟨rfl,rfl⟩) a|n=>
   subst f o;refine br rfl<|aM a 0 rfl<|aM a 0 rfl<|jT a 1 rfl (lX p)<|r_ b (z J3) (ó.lt (b J1) Î) a λÖ ç d H Ø Ü Ù Ú a=>bc<|hj (λs=>?_) λs=>?_
   .refine aM a 0 Y<|aM a 6 Y<|abZ Æ (N J5) Y a λL H l a=>?_;cases af y.symm l;refine a7 Sw (.c 64 _ (.c 133 _ ar)) Y Y<|aM a 0 Y ⟨Y,a7 Sv (.c 64 _ (.c 133 _ ar)) Y Y ?_⟩;have to:ra ð:=z J2;exact d3 a 0 Y Y to.q4 λH a=>aM a 0 Y<|d3 a 0 Y Y to.q4 λH a=>bc<|d3 a 0 Y Y to.q4 λH a=>bc<|Ì ⟨å,æ,I,jN q _,è+1,é,ê,ë,ì,min _ (U P),ç,d,r9⟩ H (ke (z V) (.t q y) (aw Y) Ü (z J4) (z J5)<|z J6) (aL ⟨Y,Y⟩)<|ax to.set a
   .exact Ì _ H (z.TZ Ü) (aw ⟨Ö,Ù,s⟩) a
 .exact h.rec (λN C z É=>ay (z J6) Z) λj Ç x=>À j c k H Ç x a
theorem YI(l){x}{v}:(ey l x v).iW<=l.iW+1:=by
 match l with
 |ar=>exact bb 1| .c y a r=>
  refine(?_:(aD _ (aW.c x v r) _).iW<=r.iW+1+1);cases aE y x with
  |true=>exact e7 _|false=>exact b3<|YI r
def bgF(a)(b c d e):=ey (ey (ey (ey (ey (ey (ey (ey (ey (ey a 181<|aj b) 186<|aj c) 166 bk) 88<|ag 0) 147<|aG "more") 138 bk) 159<|aj d) 110<|aj e) 182<|ag 0) 74<|aG ""
def Ļ(l:f.iW<=40)(a:Fr k m<| .c g (cw 144 f) n)(h:∀b c d e j,Fr k j (.c g (cw 144<|bgF f b c d e)<|(((n.cA b<|az [ag 0]).cA c<|az []).cA d<|az []).cA e<|az [])->o bk j):
 aK (p+2) 353 [aj g] m o q:=by
 have r:∀{m} {k} {x} {v},k.iW<=m->(ey k x v).iW<=m+1:=λh=>ae (YI _)<|b3 h;have s:∀{m} {k:aW},k.iW<=m->m<=60->k.iW<=60:=ae;refine a7 RH (.c 64 _ ar) Y Y<|ej a ⟨Y,a7 Kv (.c 64 _ ar) Y Y<|aV a λb t a=>d3 a 0 Y Y (s l<|ao Y) λt a=>?_⟩;have l:=r (x:=181) (v:=aj b) l;refine aV a λc t a=>d3 a 0 Y Y (s l<|by decide) λt a=>?_;have l:=r (x:=186) (v:=aj c) l;refine d3 a 0 Y Y (s l<|by decide) λt a=>?_;have l:=r (x:=166) (v:=bk) l;refine d3 a 0 Y Y (s l<|by decide) λt a=>?_;have l:=r (x:=88) (v:=ag 0) l;refine d3 a 0 Y Y (s l<|by decide) λt a=>?_;have l:=r (x:=147) (v:=aG "more") l;refine d3 a 0 Y Y (s l<|by decide) λt a=>?_;have l:=r (x:=138) (v:=bk) l;refine aV a λd t a=>d3 a 0 Y Y (s l<|by decide) λt a=>?_;have l:=r (x:=159) (v:=aj d) l;refine aV a λe t a=>d3 a 0 Y Y (s l<|by decide) λt a=>?_;have l:=r (x:=110) (v:=aj e) l;exact bc<|d3 a 0 Y Y (s l<|by decide) λt a=>d3 a 0 Y Y (s (r l)<|ao Y) λt a=>bc<|h b c d e t a
def Hl(h:Fr a b<|c.cA d o):Fr a b c:=h.bN.tl
noncomputable def P0(a b:O)(c:aW)(d e:O):Ps:=⟨a,b,[],bk,0,"more",bk,[],[],0,[],e,c⟩
def acM(a:Fr f j g)(k:∀(b:PA) c d l m e h,Fr f h (.c b.p (cw 144<|Eh G B ⟨b.p,m,l,b.ln,b.sr,b.rw,b.ct⟩ (P0 c d ar b.ln e) 0)<| .c b.ln (dD [] e)<| .c b.ct (cw 189<| .c 170 (aj b.p) ar) g)->n (aj b.p) h):
 aK (o+5) 144 [h7 G B,QN G,ag 60] j n p:=by
 refine jK Y Y λp q=>?_;have a:=(a.hN (o:=cw 144 ar) q).bN;refine a7 Ob (.c 64 _ (.c 184 _ (.c 202 _ (.c 50 _ (.c 203 _ ar))))) Y Y<|ej a ⟨Y,a7 Mr (.c 64 _ (.c 184 _ (.c 202 _ (.c 50 _ ar)))) Y Y<|bP a Y λs a=>⟨Y,bP a Y λs a=>bP a Y λs a=>m8 a λr e s a=>?_⟩⟩;have a:=a.bN;refine d3 a 1 Y Y (bl Y) λs a=>?_;have a:=a.pk [1,0] 2 (ao Y)<|ao Y;refine ej a<|Ļ (bl Y) a λc d t v s a=>?_;have a:Fr f s (.c p (cw 144<|Wu G B ⟨p,v,t,r,0,0,0⟩ (P0 c d ar r e) 0 ar)<| .c r (dD [] e)<|(((g.cA c _).cA d _).cA t _).cA v _):=a;refine bc<|bP a Y λs a=>jK Y Y λx y=>?_;have a:=(a.hN (o:=cw 189 ar) y).bN;exact a7 NM (.c 64 _ (.c 170 _ ar)) Y Y<|bP a Y λs a=>bc ⟨Y,bc<|d3 a 1 Y Y (bl Y) λs a=>bc ⟨Y,bc<|k ⟨p,v,t,r,0,0,x⟩ c d t v e s<|Hl<|Hl<|Hl<|Hl<|a.pk [1,2,0] 3 (ao Y)<|by decide⟩⟩
noncomputable def ouL(b:ba)(v:ai)(a c:O):aW:= .c 223 (bT b)<| .c 138 v<| .c 159 (aj a)<| .c 110 (aj c) ar
def II(a:Ps)(d:Cf)(e:ba)(f b c:O):Cs:= .c f (cw 193<|ouL e a.vl b c)<| .c b (az<|a.fu.map λg=>aj g.1)<| .c c (az d.mv)<|yn a.fu a.ft
def ş(t:fJ)(v:fW)(x:AS G)(y:v3 P)(a:Fr h z<| .c p (cw 144<|Eh G B ⟨p,o,q,e,0,0,r⟩ (P0 j k ar e l) 0)<| .c e (dD [] l)<| .c r (cw 189<| .c 170 (aj p) ar)<| .c s (az<|zN P) bO)
 (C:ju c0 A->∀H f,Fr h f H->I f)(L:∀b c d g m n f,F6 G c d b->ju c0 (J (b,c))->Fr h f (II d c b g m n)->N (aj g) f):aK (Z+10) 335 [aj p,aj s] z N I:=by
 refine a7 QY (.c 64 _ (.c 185 _ ar)) Y Y<|ej a<|jK Y Y λf z=>?_;have a:=(a.hN (o:=cw 221 ar) z).bN;refine a7 Q5 _ Y Y (bP a Y λH a=>bP a Y λH a=>bc ⟨Y,bc<|a7 Hm (.c 64 _ (.c 179 _ ar)) Y Y<|aM a 1 Y ?_⟩);have a:=a.pk [1,0] 2 (ao Y)<|ao Y;refine Ļ (bl Y) a λj k q o H a=>?_;have a:Fr h H (fh G B P ⟨p,o,q,e,f,s,r⟩ (P0 j k ar e l) c0):=a.pk [0,5,6,8,7,2,1,4,3] 9 (ao Y) (by decide);have I:Wb i P c0:=e1 (bb 1) (bb 0) (bb 0) (bb 0) ⟨[],Bk,Y⟩<|cQ _;have N:pX G B i P c0 (P0 j k ar e l):=ke (iC ⟨[], .nil,bb 0⟩) .n (aL Y) (bY h9 (λX h=>bG h) λX h=>bG h) Y Y Y;refine aiv (C:=λX X=>bW) t v x y (.r I (cQ _) N λX h=>h) a (λr d c H a=>C r _ H a) λb c d H Z r a=>aM a 0 Y<|a7 Nn (.c 64 (aj p) ar) Y Y ?_;have z:ng d.an "accepted"=b:=by refine W (Z J3)<|W wh ?_;cases b<;>rfl
 refine aM a 0 Y<|aM a 0 Y<|aM a 0 Y<|bX a 4 Y<|aV a λm H a=>?_;have a:=a.bN;refine aM a 1 Y<|bX a 4 Y<|aV a λn H a=>?_;have a:=a.bN;refine jK Y Y λg o=>?_;have a:=(a.hN (o:=cw 193 ar) o).bN;exact a7 Sk _ Y Y (bP a Y λH a=>bP a Y λH a=>bP a Y λH a=>bP a Y λH a=>bc ⟨Y,bc<|bc<|bc<|bc<|L b c d g m n H Z r<|ax z<|a.pk [0,2,1] 12 (ao Y)<|by decide⟩)
def ahT(a:e6)(h:b (aN<|sV<|F2 G) c):aK (n+1) 274 [h7 G B] c b d:=by
 refine a7 PQ (.c 184 _ ar) Y Y<|cb Y<|i3 d5 (λe=>J<|aG<|F G.cI e "") de (λZ Z Z Z=>rfl) (W (bC ..)<|cf<|ae a.oX<|ao Y) (λj e r p s f g k l m Z=>?_) λo s l=>?_
 .obtain⟨q,t,rfl⟩:=mm<|aP k;exact bJ Y (ku<|e8 (a.lt q t).1.2)<|m _ s Y l
 .rw [zL] at l;refine jg l 0 Y ?_;unfold F2 sV at h;rw [jD] at h;exact h
def afS(h:a (QN G) b):aK (n+2) 285 [aN<|sV<|F2 G] b a c:=by refine jK Y Y λa d=>?_;have e:=de.hN (o:=cw 285 ar) d;exact a7 Pp (.c 64 _ (.c 112 _ ar)) Y Y<|bP e Y λs e=>bc ⟨Y,ES e 0 Y h⟩
def agS(k:O):(qi<|sV a)[k]?=(a.zipIdx[k]?).map λp=>aR [ag p.2,aG p.1]:=by unfold qi sV;simp only [List.zipIdx_map,jD,cg];rfl
def m_:∀{a} {b} {j} {c} {p},a[j]?=J c->b[j]?=J p->(yn a b).at (2*j)=J (c.2,az<|sV p.f.ns)/\(yn a b).at (2*j+1)=J (c.1,Ic p c):=by
 intro a;refine @(a.rec (λh=>aI h) λv r d=>?_);intro b j c p h k;cases b with
 |nil=>exact aI k|cons g t=>
  induction j with
  |zero=>refine W (aC h) ?_;exact W (aC k)<|⟨Y,Y⟩|succ j=>exact d h k
def Vk(a:Fr g e b)(c:b.at (k+1)=J (d.1,Ic p d))(h:b.at k=J (d.2,az<|sV p.f.ns))(j:∀f,Fr g f b->l (qA p.f) f):aK (n+1) 338 [aj d.1] e l m:=a7 Q6 (.c 64 _ ar) Y Y<|aM a _ c (aM a _ c (aM a _ c (bX a k h<|aV de λd s f=>mK f 3 (aw<|aL ⟨_,_,Y,Y,iz (dQ _ _)<|iz (dQ _ _)<|iz (aw<|aw<|aw ⟨d,Y,f.fb 0 Y,aL ⟨_,_,f.c9 (k:=0) Y,Y,j7 (λZ=>dQ 1 _) _⟩⟩) nJ⟩)<|j e a)))
def gB.Iw(h:lW c k q o a)(l:U c.fl<=U c.mv):U a.fl<=U a.mv+1/\(o=A->U a.fl<=U a.mv):=by
 have b:∀m,U c.fl<=U (c.mv++[m]):=λm=>W a3<|hH l;have d:U (eK G B c k q)<=U c.mv+1:=by
  unfold eK;cases aE c.qu 0 with
  |true=>exact ae (c6 a3)<|b3 l|false=>exact hH l
 have e:∀t,U c.mv<=U (gD c t):=λt=>by
  unfold gD;cases aE c.qu 3 with
  |true=>exact W a3<|e7 _|false=>exact bb _
 induction h with
 |acc h=>exact⟨hH<|b _,λz=>iG z⟩|nc a h p l=>exact⟨hH<|b _,λZ=>b _⟩|red r f p g m h j n s v x=>exact⟨hH<|b _,λZ=>b _⟩|rp h s y=>exact⟨hH l,λz=>iG z⟩|oh h s D p v o=>exact⟨ae d<|b3<|ae (e _) D.len.1,λz=>iG z⟩|mI h s D p v a o C=>
  have z:=ae d (b3<|ae (e _) D.len.1)
  replace z:=ae z<|c6 (a3 (bs:=[dz "error" a])).symm
  exact⟨hH z,λZ=>z⟩
def nM.Iw(h:ju c o):U c.fl<=U c.mv->∀b a,o=J (b,a)->U a.fl<=U a.mv+1:=by
 induction h with
 |ov h=>exactλZ Z Z e=>aI e|st h d f s r g=>exactλl b a e=>g ((s.Iw l).2 Y) b a e|en h d f s j=>intro l b a e;cases e;exact(s.Iw l).1|eo=>exactλZ Z Z e=>aI e
def Ym:∀{a:aa<|O×O} {b:aa FP},U a=U b->∀k:O,(a.map λc=>aj c.1)[k]?=((BE a b)[k]?).map λp=>aj p.1.1:=by
 intro a;refine @(a.rec (λZ k=>rfl) λc r d=>?_);intro b h k;cases b with
 |nil=>cases h|cons g t=>induction k with
  |zero=>rfl|succ k=>exact d (f7 h) k
def ł{b:aa<|O×O}{a:aa FP}(h:U b=U a):R (λp=>qA p.2.f) (BE b a)=(R (·.f) a).map qA:=W jD<|ax (Uz<|c6 h.symm)<|W jD<|W (Uz<|c6 h.symm) Y
def UN{j:O}{x:(O×O)×FP}(h:(BE a b)[j]?=J x):a[j]?=J x.1/\b[j]?=J x.2:=by rw [List.getElem?_zip_eq_some] at h;exact h
def ų(a:Tl [v] [t] d)(h:b 331):rk e v λc Z=>bE (cm Ai c) λt=>bE (cm t 70) b:=by
 cases a with
 |lf r=>exact h|nd a b=>exact h
def z?(a:Fr k l<| .c e (az [bT b,v,aj d,aj c])<|(II g f b h j c).cA d<|az m):kX (x7 k) l 7 (aj e) (aN [bT b,v,aN m,aN f.mv]):=by have n:(Cs.c e (az [bT b,v,aj d,aj c])<|(II g f b h j c).cA d<|az m).at ((II g f b h j c).o5+1)=J _:=wa;exact aw<|aw<|aw ⟨e,Y,a.fb 0 Y,aL ⟨_,_,a.c9 (k:=0) Y,Y,iz (dQ _ _)<|iz (dQ _ _)<|iz (aw<|aw<|aw ⟨d,Y,a.fb _ n,aL ⟨_,_,a.c9 n,Y,j7 (λZ=>dQ 5 _) _⟩⟩)<|iz (aw<|aw<|aw ⟨c,Y,a.fb 3 Y,aL ⟨_,_,a.c9 (k:=3) Y,Y,j7 (λZ=>dQ 5 _) _⟩⟩) nJ⟩⟩
def ajN(b:fJ)(e:fW)(f:AS G)(a:v3 P)(g:∀k∈P,∀c≤9,ml (k++toString ((c:O):au))<=4096)(h:∀o,ju c0 o->j (Pj o) d):
 aK (n+12) 264 [h7 G B,aN<|sV P,ag 60] d j l:=by
 refine a7 OD (.c 45 _ (.c 103 _ (.c 50 _ ar))) Y Y<|i3 agS (λp=>J<|jN p.1<|p.1++toString (p.2:au)) de (λX X X X=>rfl) (W MY<|cf<|ae (a V)<|by decide) (λj p r o s m q t v x X=>?_) λy s v=>?_
 .obtain⟨k,c⟩:=p;rw [JC] at t;refine aA (fA t) λz C H=>?_;cases H;have I:0+j<=9:=W (eJ ..)<|ae (bU<|gl C)<|a V;exact⟨⟨cp _,ak jj<|bU<|cf<|ae I<|by decide⟩,g k (aP C) _ I,PR<|x _ s Y v⟩
 rw [zL] at v;refine ahT (b V).toGW<|afS<|acM v λL N Z n l H s v=>?_;have o:∀c t,Fr d t c->ju c0 A->iD t _ _:=λc t v r=>aV v λy s v=>by have v:=v.bN;exact jg v 0 Y<|h A r
 refine ej v<|ş b e f a v (λr c s v=>?_) λb c z g C I s L r v=>?_
 .exactλa N=>br rfl<|o _ _ v r
 .refine br rfl ?_;have Z:=h _ r;have n:U (BE z.fu z.ft)<cu:=by have l:=r.Iw (bb 0) _ _ Y;refine cf<|ae (W List.length_zip<|oZ _ _) ?_;exact ax (bC (f:=(·.f)))<|W (L J2)<|ae l<|b3<|ae (L V)<|ao Y
  refine ej v<|ef (λH=>?_) λH=>?_
  .subst H;refine gv (L J4) λd t e b g=>aA (g V) λC I l=>?_;subst e;refine ej v<|ų I<|aeg I (ae l<|ao Y)<|ej v<|ej v<|cb (v.lt 1 Y)<|i3 (Ym<|L J1) (λp=>J<|qA p.2.f) v (λX X X v=>v.lt 1 Y) n (λj a r p s m q o v x X=>?_) λy s v=>?_
   .refine dC (UN o) λN h=>?_;have z:=m_ N h;exact aM v.bN (2*j+5) z.2<|Vk (k:=2*j+4) v.bN z.2 z.1 λs f=>x _ s Y f.Bv
   refine ej v ?_;rw [zL,ł<|L J1,L J2] at v;refine aV v λd s v=>?_;have v:=v.bN;have g:Pj (J (Q,c))=aN [bT Q,t,aN<|R qA c.fl,aN c.mv]:=by show DD Q _ c=_;exact W b Y
   exact mK v 7 (z? v)<|ax g Z
  .subst H;refine ej v<|ej v<|ej v<|cb (v.lt 1 Y)<|i3 (Ym<|L J1) (λp=>J<|qA p.2.f) v (λX X X v=>v.lt 1 Y) n (λj a r p s m q o v x X=>?_) λy s v=>?_
   .refine dC (UN o) λN h=>?_;have z:=m_ N h;exact aM v.bN (2*j+5) z.2<|Vk (k:=2*j+4) v.bN z.2 z.1 λs f=>x _ s Y f.Bv
   refine ej v ?_;rw [zL,ł<|L J1,L J2] at v;refine aV v λd s v=>?_;have v:=v.bN;exact mK v 7 (z? v)<|W (L J4) Z
structure Pn where
a:O
b:O
ce:aa au
p3:O
l3:p3<1009
noncomputable def f5(p:Pn)(t q:O)(r:Cs):Cs:= .c p.a (az [aj p.b,ag t,ag q,ag p.p3])<| .c p.b (az<|R ag p.ce) r
def acm{m:O}(h:0<m):∃d:O,a%(m:au)=d/\d<m:=
 have e:=a4 (y8<|Int.emod_nonneg a<|ak Int.ofNat_ne_zero<|ih h)
 ⟨_,e,hl.mp<|e▸Int.emod_lt_of_pos a (ak hl h)⟩
def alv{m:O}(h:0<=a):∃d:O,a/(m:au)=d:=cL _<|a4<|y8<|Int.ediv_nonneg h<|cp m
def agy{a t:O}(h:a<1009)(k:t<=1000):qP (((a:au)+5)*((t:au)+3))<4611686018427387904:=
cF (show(a+5)*(t+3)<=1014*1003 from Yn (bU<|Dm h 5)<|fY k 3) (bl Y)
def ag6{a:O}(h:a<1009):qP ((a:au)+5)<4611686018427387904:=fe (Dm h 5:a+5<1014)<|bl Y
def agG{c:au}(h:(1000000000000000000:au)<=(qP c:au)):∃g:O,(2:au)*((qP c:au)-1000000000000000000)=g:=⟨2*(qP c-1000000000000000000),aq (2*·) (Hg<|jj.mp h).symm⟩
def AH{a:QT}(h:0<m)(k:∀d:O,d<m->a (ag d) b):0<(m:au)/\a (ag<|c%(m:au)) b:=aA (acm h) λd e l=>W e<|⟨ak hl h,k d l⟩
def S0{a:QT}{b m:O}(h:0<m)(k:∀d:O,a (ag d) c):0<(m:au)/\a (ag<|(b:au)/(m:au)) c:=bp (alv<|cp b) λd e=>W e<|⟨ak hl h,k d⟩
def agD{a:QT}{c:au}(h:(1000000000000000000:au)<=(qP c:au))(k:∀g:O,a (ag g) b):qP (2:au)<4611686018427387904/\a (ag<|2*((qP c:au)-1000000000000000000)) b:=bp (agG h) λg e=>W e<|⟨ao Y,k g⟩
def oE{t q m:O}(a:Fr g j<|f5 p t q r)(k:t<=1000)(c:0<m)(h:∀d e b f,d<m->e<=t+1->Fr g f (f5 p e b r)->l (ag d) f):aK (n+1) 246 [aj p.a,ag m] j l o:=by
 refine a7 SI (.c 13 _ (.c 46 _ ar)) Y Y<|dc a 0 Y Y<|g5 (λZ=>?_) λZ=>?_
 .exact dc a 0 Y Y<|AH c λd s=>dc a 0 Y Y<|S0 c λb=>qC a 0 Y (bl Y) λv a=>bc<|h d t b v s (e7 t) a
 .refine dc a 0 Y Y<|qC a 0 Y (bl Y) λv a=>?_;have x:=λd b v s a=>bc<|h d _ b v s (bb _) a;refine dc a 0 Y Y<|bX a 1 Y<|Jp (λZ=>?_) λy=>?_
  .exact dc a 0 Y Y<|⟨ag6 p.l3,⟨agy p.l3 k,⟨(by decide:(0:au)<7),AH c λd s=>x d q v s a⟩⟩⟩
  .have y:t<U p.ce:=by rw [bC] at y;exact hl.mp y
   refine dc a 0 Y Y<|dc a 1 Y (by simp only [cg,bK y];rfl) ?_;generalize p.ce[t]=z;exact⟨⟨Y,Y⟩,g5 (λZ=>AH c λd s=>x d q v s a) λC=>⟨⟨Y,Y⟩,u7<|agD C λg=>g5 (λZ=>S0 c λb=>qC a 0 (a:=2) Y (bl Y) λv a=>AH c λd s=>x d b v s a) λZ=>S0 c λb=>qC a 0 (a:=2) Y (bl Y) λv a=>AH c λd s=>x d b v s a⟩⟩
def Qf(p)(a:aa bo)(t)(r)(k)(b)(c):=uF<|∃d e f,b=sV d/\U d=k/\(∀x∈d,x∈a)/\e<=t+k/\c=f5 p e f r
def Qf.snoc{t k a c e:O}(f:U b=k)(g:∀x∈b,x∈d)(h:a<=t+k+1)(j:d[e]?=J x):Qf p d t r (k+1) (sV b++[aG x]) (f5 p a c r):=
iC ⟨b++[x],a,c,by unfold sV;refine W dv ?_;rfl,by refine W a3<|W f ?_;rfl,λy l=>aO (ma l) (g y) λz=>W (ms z)<|aP j,h,Y⟩
def SD{d:O}:U (m6 0 (d:au))=d:=W (bC ..)<|W e9<|W (zB ..) Y
def HY(a:Fr j k<|f5 p t s r)(f:t<=900)(l:0<m)(n:m<=10)(o:0<U b)
 (h:∀c d e g,U c<m->(∀x∈c,x∈b)->d<=t+10->Fr j g (f5 p d e r)->q (aR<|sV c) g):aK (v+2) 247 [aj p.a,aR<|sV b,ag m] k q y:=by
 refine a7 PU (.c 13 _ (.c 139 _ (.c 50 _ ar))) Y Y<|oE a (ae f<|ao Y) l λz C H s I L a=>?_;have N:=lD<|cc I n;refine⟨mR<|ae N<|ao Y,wq a (Qf p b C r) (iC ⟨[],C,H,Y,Y,λX h=>bG h,bb _,Y⟩) (λX X X X X X X X=>rfl) (λk x Z m g s j l q v a y X=>?_) (W SD<|cf<|ae N<|by decide) λg Z m s a v=>?_⟩
 .refine LI (v V) λc d e z n x C H=>?_;have k:=(by have Z:=gl q;rw [SD] at Z;exact Z)
  subst z H;have ls:U (sV b)=U b:=bC ..;show aK _ _ [aj p.a,ag<|U<|sV b] _ _ _;refine W ls ?_;have m:d<=1000:=ae C<|ae (dZ (ae L<|b3 f)<|ae (bU k) N)<|ao Y;refine oE a m o λg j l s b q a=>bJ Y (ku<|bK b) ?_;exact y _ s (f5 p j l r) a (.snoc n x (ae q<|b3 C)<|bK b)
 .refine LI (v V) λc d e z n x C H=>?_;subst z H;rw [SD] at n C;exact bX a _ wa (bc<|h c d e s (n▸I) x (ae C (dZ L N:_<=t+1+9))<|Fr.tl a.bN)
noncomputable def qh(a:aT)(b c:O):aT:=λx=>aD (aE x b||aE x c) A<|a x
noncomputable def BU(a b:aT)(c d:O):aT:=λx=>aD (aE x c||aE x d) (b x)<|a x
def zy(x a b:O):((aE x a||aE x b)=Q/\(x=a\/x=b))\/((aE x a||aE x b)=u/\x≠a/\x≠b):=by
 cases h:(aE x a||aE x b) with
 |true=>exact aL ⟨Y,(ON _ _▸h).imp d9 d9⟩|false=>rw [Wy] at h;exact aw ⟨Y,C3 h.1,C3 h.2⟩
def Lg(h:x=a\/x=b):qh c a b x=none:=by
 refine aO (zy x a b) (λz=>?_) λz=>?_
 .refine dC z λe Z=>?_;unfold qh;exact W e Y
 .refine dC z λZ z=>dC z λn m=>?_;exact b6<|aO h n m
def Ho(n:x≠a)(m:x≠b):qh c a b x=c x:=by
 rcases zy x a b with ⟨_,h⟩|⟨e,_⟩
 .exact b6<|aO h n m
 .unfold qh;exact W e Y
def N8(h:x=a\/x=b):BU d c a b x=c x:=by
 rcases zy x a b with ⟨e,_⟩|⟨_,n,m⟩
 .unfold BU;exact W e Y
 .exact b6<|aO h n m
def Fu(n:x≠a)(m:x≠b):BU c d a b x=c x:=by
 rcases zy x a b with ⟨_,h⟩|⟨e,_⟩
 .exact b6<|aO h n m
 .unfold BU;exact W e Y
def afg:∀{r},(∀k c o,r.at k=J (c,o)->a c=b c)->eD d b r->eD d a r:=by intro r;exact r.rec (λZ h=>h) λa o r e=>λg h=>⟨h.1,af (g 0 a o Y) h.2.1,h.2.2.1,e (λk=>g<|k+1) h.2.2.2⟩
def FQ(a:Fr c b<|f5 p t q r):Fr (qh b p.a p.b) b (f5 p t q bO):=
mq ⟨Lg<|aL Y,(a V).2.1,(λk c o e=>match k with|0=>(a V).2.2.1 0 c o e|_+1=>aI e),Lg<|aw Y,(a V).2.2.2.2.1,λZ Z Z e=>aI e,a0⟩ (λx o e=>by
 rcases zy x p.a p.b with ⟨_,z⟩|⟨_,n,m⟩
 .rw [Lg z] at e;exact aI e
 .rw [Ho n m] at e;exact e)
def xy(k)(a:Fr l e<|f5 p o s r)(b:Fr (qh e p.a p.b) f<|f5 p t q m)(g:m.at k=J (c,az d))
 (n:∀h,Fr l h (f5 p t q r)->j (aN d) h):eh j (aj c) f:=by
 have v (x:kX (λy=>qh e p.a p.b y=A/\y≠p.a/\y≠p.b) f 1 (aj c)<|aN d):eh j (aj c) f:=by
  refine W IQ<|⟨1,_,aN d,BU e f p.a p.b,x,λy=>?_,n _ (mq ⟨(a V).1,af (N8<|aL Y) (b V).2.1,λk z o C=>?_,(a V).2.2.2.1,af (N8<|aw Y) (b V).2.2.2.2.1,(a V).2.2.2.2.2.1,?_⟩ λy o C=>?_)⟩
  .refine aO (zy y p.a p.b) (λH=>?_) λH=>?_
   .obtain⟨_,H⟩:=H;exact aw ⟨λI=>aO H I.2.1 I.2.2,N8 H⟩
   .obtain⟨_,n,k⟩:=H;cases C:e y with
    |none=>exact aL ⟨⟨af (Ho n k) C,n,k⟩,af (Fu n k) C⟩|some o=>exact aw ⟨(λI=>by have L:=af (Ho n k).symm I.1;exact iG<|C▸L),af (Fu n k)<|af C ((b J1) y o<|af (Ho n k) C).symm⟩
  .induction k with
   |zero=>cases C;exact(a V).2.2.1 0 p.b _ Y|succ k=>exact(a V).2.2.1 _ z o C
  .exact afg (λk z o C=>Fu ((a V).2.2.1 (k+1) z o C)<|(a V).2.2.2.2.2.1 k z o C) (a V).2.2.2.2.2.2
  .exact af (Fu (λH=>by have L:=(a V).1;rw [<-H,C] at L;exact iG L) (λH=>by have L:=(a V).2.2.2.1;rw [<-H,C] at L;exact iG L))<|(a J1) y o C
 refine v<|aw<|aw<|aw ⟨c,Y,⟨b.fb (k+2) g,(b V).2.2.1 (k+1) c _ g,(b V).2.2.2.2.2.1 k c _ g⟩,aL ⟨d,d,b.c9 (k:=k+2) g,Y,j7 (λZ=>dQ 0 _) _⟩⟩
noncomputable def CJ:aa gj:=[[("s",[]),("s",["s","t","b"]),("s",["s","error","b"]),("t",["a"]),("t",["t","c","a"])],[("s",["a"]),("s",["b","t","c"]),("s",["b","error","c"]),("t",[]),("t",["t","s"])],[("s",["a"]),("s",["error"]),("s",["s","c","t"]),("t",["b"]),("t",["b","error"])],[("s",["a"]),("s",["error","a"]),("s",["b","s","c"]),("s",["b","error","b"]),("s",["t","s"]),("t",["c"]),("t",["error","c"])]]
def b_{D a}(h:uX D l=Q):uX (D++a) l=true:=by
 unfold uX at h⊢;refine W (v?) ?_;cases e:Bq _ D with
 |none=>exact bR<|e▸h|some q=>rw [e] at h;exact h
def afm:∀D∈CJ,pE ["s","t"] ["s","t"] 8 13 D:=by
 have a:∀D∈CJ,(∀q∈D,q.1∈["s","t"]/\U q.2<=3/\∀x∈q.2,x∈e3++["s","t"])/\(∀l∈["s","t"],uX D l=Q)/\D.foldl oD []=["s","t"]/\U D<=8/\(R (·.2.length-1) D).sum<=13:=by decide+kernel
 exactλD h=>ec (a D h).1 (a D h).2.1 (a D h).2.2.1 (a D h).2.2.2.1 (a D h).2.2.2.2
def pE.up{ls a}{D}(h:pE ls a m t D)(b:m<=c)(d:t<=e):pE ls a c e D:=ec (h V) (h J1) (h J2) (ae (h J3) b)<|ae (h J4) d
def Ŷ(h:l∉a):oD a (l,r)=a++[l]:=by
 unfold oD;cases e:b7 a l with
 |true=>exact ay (gG.mp e) h|false=>rfl
def TN{y:O}:(a++[y]).sum=a.sum+y:=by simp only [List.sum_append,List.sum_singleton]
def pE.add{ls a}{D}(h:pE ls a m t D)(b:l∈a)(c:U r<4)(d:∀x∈r,x∈e3++ls):pE ls a (m+1) (t+2) (D++[(l,r)]):=by
 refine ec (λq e=>aO (ma e) ((h V) q) λz=>?_) (λf g=>b_<|(h J1) f g) ?_ ?_ ?_
 .exact W (ms z)<|⟨b,lD c,d⟩
 .have j:oD a (l,r)=a:=by unfold oD;exact W (ak gG b) Y
  exact W Iu<|W (h J2) j
 .exact W a3<|b3<|h J3
 .exact W dv<|ae (c6 TN)<|dZ (h J4)<|ZB (lD c) 1
def pE.nil{ls}:pE ls [] 0 0 []:=ec (λZ h=>bG h) (λZ h=>bG h) Y (bb _)<|bb _
def tX(D:gj):=R wI D
def Ot{D}:tX D++[aR [aG l,aR<|sV a]]=tX (D++[(l,a)]):=by unfold tX;exact W dv Y
def Lh{D}:U (tX D)=U D:=bC ..
noncomputable def mo1:=["a","b","c","error","s","t"]
def xV(p)(a t q)(D):=f5 p t q<| .c a (az<|tX D) bO
def WZ(p:Pn)(a:O)(ls:aa bo)(r:aW):aW:= .c 13 (aj p.a)<| .c 115 (aj a)<| .c 106 (aR<|sV ls) r
def u?(ls a)(m t T)(s:gj×O):=eY (pE ls a m t s.1)<|s.2<=T
def l1{a b c k m:O}(h:a<=b+k)(g:b<=c+m):a<=c+(m+k):=ae h<|cx c m k▸fY g k
def oG{n:O}(h:a<=b+k)(g:b<=m)(e:jB (m+k) n=Q):a<=n:=ae h<|ae (fY g k)<|ht e
def wL{n:O}(h:a<=b+k)(g:b<=c+m)(e:jB (m+k) n=Q):a<=c+n:=ae (l1 h g)<|d6 (ht e) c
def alW(a:Fr j É<|f5 p t q r)(c:t<=600)(h:∀ls D b d f,cU ls D->b<=t+200->Fr j f (f5 p b d r)->g (gR D) f):aK (n+3) 266 [aj p.a] É g k:=by
 have Ç:=a;have a:=FQ a;refine a7 LB (.c 13 _ ar) Y Y<|oE a (ae c<|bl Y) (bl Y) λm o Ã v Â y a=>hZ (λz=>?_) λz=>?_
 .have Ï:=bK (l:=CJ) z;have I:=afm _ (aP Ï);generalize CJ[m]=D at Ï I;have L:(CJ.map λf=>aR<|tX f)[m]?=J (aR<|tX D):=by simp only [cg,Ï];rfl
  refine bJ Y L<|aV a λN v a=>?_;have Æ:∀D b d v,cU ["s","t"] D->b<=o+20->Fr _ v (xV p N b d D)->eh g _ v:=λD b d v g H a=>xy 0 Ç a Y (h _ D b d · g (wL H y Y));refine oE a (oG y c Y) (bl Y) λÁ Å Ë v L f a=>lE (λX=>?_) λX=>?_
  .have À {g:O} {d:Prop} (h:g<2) (j:∀x,"st".toList[g]?=J x->qa [x]∈["s","t"]->d):d:=by exact q! (a:=λg=>(∀x,"st".toList[g]?=J x->qa [x]∈["s","t"]->d)->d) h (λj=>j 's' Y<|ao Y) (λj=>j 't' Y<|ao Y) j
   refine oE a (oG (l1 f y) c Y) (bl Y) λg g g v g s a=>À g λx Ä È=>aiA (fe g<|bl Y) Ä ?_;generalize qa [x]=H at È;refine cH a 2 Y<|HY (b:=mo1) a (oG (l1 s<|l1 f y) c Y) (bl Y) (bl Y) (bl Y) λx g Z v l n e a=>dF a 2 Y (a4 Lh▸cf (ae (I J3)<|bl Y)) λv a=>Æ _ g Z v (cj (aL Y)<|I.add È l n) (wL e (l1 s f) Y) ?_;unfold xV;exact ax Ot a
  .exact Æ D Å Ë v (cj (aL Y)<|I.up (bl Y)<|bl Y) (wL f (dO o 0) Y) a
 .refine aV a λN v a=>?_;have f:∃j,m=2+j/\(j=2\/j=3):=aO (CN<|lD Â) (λh=>⟨2,hL (lD h) z,aL Y⟩) λh=>⟨3,h,aw Y⟩;obtain⟨j,rfl,m⟩:=f;have z {d:aa ai->Prop} (h:∀ls,(ls=["s","t"]\/ls=["s","t","u"])->d (sV ls)):mi [aG "s",aG "t",aG "u"] bk (ag j) d:=by
   rcases m with rfl|rfl
   .exact th (ao Y)<|h _ (aL Y)
   .exact th (by decide)<|h _ (aw Y)
  refine ph Y<|z λls Ê=>cb Y ?_;have s:U ls<=3:=by rcases Ê with rfl|rfl<;>exact ht Y
  refine cv d5 (λj X X=>WZ p N ls ar) (λj (v:gj×O) q=>xV p N v.2 q v.1) (λj v X=>u? ls (aF j ls) (3*j) (5*j) (o+40*j) v) ([],o) Ã a (cj .nil<|bb _) (λX X X X X=>rfl) (λm H z Ë v d f k a Ì=>?_) λz Ë v k a=>?_
  .obtain⟨D,b⟩:=z;have I:=k V;dsimp only [JE] at I;have Í:b<=o+40*m:=k J1;have Î:=lD<|cc (gl f) s;have C:=ae Í<|d6 (kb 40 Î) _;have Ð:=kb 3 Î;have Ñ:=E1 (by rcases Ê with rfl|rfl<;>decide) f;rw [fR f] at Ì;refine cH a 2 Y<|HY (b:=e3) a (oG (l1 C y) c Y) (bl Y) (bl Y) (bl Y) λx g Z v l n e a=>dF a 2 Y (a4 Lh▸cf (ae (I J3)<|ae Ð<|bl Y)) λv a=>?_;have a:Fr (qh É p.a p.b) v (xV p N g Z<|D++[(H,x)]):=by unfold xV;exact ax Ot a
   have Ò {Ó:aa bo} {Ô:O} {t:O} {r:aa bo} (h:pE ls Ó Ô t D) (f:H∉Ó) (Õ:U r<3) (l:∀Ö∈r,Ö∈e3):pE ls (Ó++[H]) (Ô+1) (t+1) (D++[(H,r)]):=by
    have t:Bq (λq=>q.1==H) D=none:=ak List.find?_eq_none λq r Ï=>f (by have Ø:=((h V) q r).1;exact eq_of_beq Ï▸Ø);refine ec (λq r=>aO (ma r) (λr=>⟨gE _ ((h V) q r).1,((h V) q r).2⟩) λr=>?_) (λÙ Ú=>aO (ma Ú) (λr=>b_<|(h J1) Ù r) λr=>?_) ?_ ?_ ?_
    .exact W (ms r)<|⟨fx _ hf,ae (bU Õ)<|bb 3,λÖ h=>gE _ (l Ö h)⟩
    .refine W (ms r) ?_;unfold uX;rw [v?,t]
     simpa using l
    .rw [Iu,h J2];exact Ŷ f
    .exact W a3<|b3<|h J3
    .exact W dv<|ae (c6 TN)<|dZ (h J4)<|ZB (lD Õ) 1
   have I:=Ò I Ñ l n;refine oE a (oG (l1 e<|l1 C y) c Y) (bl Y) λÁ f Ý v L Û a=>?_;have L:=d6 (lD L) 1;refine⟨mR<|ae L<|bl Y,cv mU (λX X X=>WZ p N ls _) (λj (v:gj×O) q=>xV p N v.2 q v.1) (λr v X=>u? ls _ (3*m+1+r) (5*m+1+2*r) (o+40*m+11+10*r) v) (D++[(H,x)],f) Ý a (cj I<|l1 Û<|l1 e Í) (λX X X X X=>rfl) (λr Ü z t v d Þ k a Ì=>?_) λz t v k a=>?_⟩
   .obtain⟨D,b⟩:=z;have I:=k V;have q:=lD<|cc (ly Þ).2 L;have Í:b<=o+40*m+11+10*r:=k J1;have C:=ae Í<|dZ (fY (d6 (kb 40 Î) o) 11)<|kb 10 q;have C:b<=o+101:=C;refine cH a 2 Y<|⟨bU<|cf<|ae (d6 (ae (c6 (bC ..)) s) 4)<|bl Y,HY (b:=e3++ls) a (oG (l1 C y) c Y) (bl Y) (bl Y) (a4 a3▸cc (ht Y:0<U e3) (dO _ _)) λx g Z v l n e a=>dF a 2 Y (a4 Lh▸cf (ae (I J3)<|ae (dZ (fY Ð 1) q)<|bl Y)) λv a=>Ì (D++[(H,x)],g) Z v (cj (I.add (fx _ hf) l n)<|ae e<|fY Í 10) ?_⟩;unfold xV;exact ax Ot a
   .rw [e9] at k;exact Ì z t v (cj ((k V).up (d6 L _)<|d6 (kb 2 L) _)<|ae (k J1)<|ae (d6 (kb 10 L) _)<|d6 (ht Y:31<=40) _) a
  .rw [dJ] at k;exact xy 0 Ç a Y (h ls _ _ _ · (cj Ê<|(k V).up (kb 3 s)<|kb 5 s) (wL (ae (k J1)<|d6 (kb 40 s) _) y Y))
noncomputable def IE:=[["a"],[],["c","c"],["q"],["b"]]
def ad6:∀X∈IE,(∀k∈X,k∈iL)/\U X<=2:=by decide+kernel
noncomputable def qU(D:gj)(a):=R (·.2)<|D.filter λx=>decide (x.1=a)
def vH(a)(x:bo×aa bo):=aD (ng x.1 a) (J<|aR<|sV x.2) A
def Vw:eI (vH a) b=(qU b a).map λr=>aR (sV r):=by
 unfold qU vH;refine b.rec Y λx r c=>W xW<|W zi<|W wh ?_
 by_cases h:x.1=a
 .exact W (eZ h)<|aq _ c
 .exact W (gh h) c
def afy(g:cU c a)(h:b∈e3):qU a b=[]:=by unfold qU;rw [ak S7];exact List.map_nil;intro x d e;have f:=((g J1) V x d).1;rw [ao e] at f;revert h f;rcases(g V) with rfl|rfl<;>(unfold e3;simp;rintro (rfl|rfl|rfl|rfl)<;>decide)
def Fv(h:Fr p d b)(c j)(e:b.at c=J (f,az a))(g:b.at j=J (k,az []))(l:a=[]->m)(n:a≠[]->o):sJ d (aj f) (aj k) λr=>dH r m o:=by
 refine bX h c e<|bX h j g ?_
 induction a with
 |nil=>exact l Y|cons x r=>exact n λz=>jI<|z
def ajW(g:cU v f)(c:b∈e3)(a:Fr j l<|f5 p t q r)(m:t<=990)(h:∀X d o e,(∀k∈X,k∈iL)->U X<=2->d<=t+1->Fr j e (f5 p d o r)->s (aN<|sV X) e):
 aK (n+2) 305 [aj p.a,gR f,aG b,ag x] l s y:=by
 have z:=a;have a:=FQ a;refine a7 GO (.c 13 _ (.c 115 _ (.c 52 _ (.c 26 _ ar)))) Y Y<|cb Y<|i3 d5 (vH b) a (λV V V V=>rfl) (cf<|ae ((g J1) J3)<|ao Y) (λj x C o s H I L a N Z=>?_) λC s a=>?_
 .refine ef (λe=>N _ s (by unfold vH;refine W e ?_;rfl) a) λe=>Z s (by unfold vH;refine W e ?_;rfl) a
 rw [Vw,afy g c] at a;refine aV a λv s a=>Fv a 2 3 Y Y (λV=>Ry (λp=>?_) λe=>?_) λd=>ay Y d
 .have f {x:bo} (h:x∈e3) (n:x≠"error"):x∈iL:=by
   unfold e3 at h;unfold iL;simp at h⊢;rcases h with h|h|h|h
   .exact aL h
   .exact aw<|aL h
   .exact aw<|aw<|aL h
   .exact ay h n
  exact aV a λl s a=>xy 2 z a Y (h [b] t q · (λk r=>W (ms r)<|f c p) (e7 1) (e7 t))
 .refine oE a (ae m<|ao Y) (ao Y) λd y j s o H a=>?_;have e:=bK (l:=IE) o;have I:=ad6 _ (aP e);generalize IE[d]=X at e I;have L:(IE.map λf=>aR<|sV f)[d]?=J (aR<|sV X):=by simp only [cg,e];rfl
  exact bJ Y L<|aV a λl s a=>xy 2 z a Y (h X y j · I.1 I.2 H)
def xb(p)(D:gj)(n)(b:bo->Prop)(c)(a L):=uF<|∀d,b d->∀e f (g:QT) h (t q:O) r,Fr e f (f5 p t q r)->t+a<=990->
(∀X j k l,(∀m∈X,m∈iL)->U X<=L->j<=t+a->Fr e l (f5 p j k r)->g (aN<|sV X) l)->aK n 305 [aj p.a,gR D,aG d,ag c] f g h
def h!(g:cU c a)(b):xb p a (n+2) (·∈e3) b 1 2:=
iC λd e f h j k t q r l m h=>ajW g e l (ae (dO _ _) m) h
def Ŋ{e:bo->Prop}(a:Fr l c<|f5 p t q<| .c d (az<|b.map λr=>aR<|sV r) r)(m:t<=990)(n:b≠[])
 (o:g=0->∀r,lH b=J r->∀x∈r,e x)(s:g≠0->∀r∈b,∀x∈r,e x)
 (h:∀f j v k,f∈b->(∀x∈f,e x)->j<=t+1->Fr l k (f5 p j v<| .c d (az<|b.map λr=>aR<|sV r) r)->K (aR<|sV f) k):
 dH (eX g 0) (ko (aj d) (ag 0) c K) (nh (c d) λy=>aK (z+1) 246 [aj p.a,ag<|U y] c (Tv kW (aj d) K) C):=by
 have H:=ak u! n;refine lE (λe=>?_) λe=>?_
 .refine dc a 2 Y (by simp only [cg,bK H];rfl) ?_;exact h _ t q c (xR H) (o e _ (W (List.head?_eq_getElem?)<|bK H)) (e7 t) a
 .refine bX a 2 Y<|W (bC ..)<|oE a (ae m<|ao Y) H λd I L N Z r a=>dc a 2 Y (by simp only [cg,bK Z];rfl) ?_;exact h _ I L N (xR Z) (s e _ (xR Z)) r a
def WQ(h:k<3):k*a+a<=3*a:=ax (sq ..)<|ri _ h
def YZ(h:r∈qU a b):(b,r)∈a:=by obtain⟨x,c,rfl⟩:=mm h;have d:=rR.mp c;exact ax (ao d.2) d.1
def xb.up(h:xb p b N c d e L)(a:e<=f)(g:L<=j):xb p b N c d f j:=
iC λk l m n o q t r s v x y=>(h V) k l m n o q t r s v (ae (d6 a t) x) λX z C H I Z p=>y X z C H I (ae Z g)<|ae p<|d6 a t
def G8(g:cU j a)(S:xb p a (n+2) e (c-1) b L)(Ä:L<=300)(d:1<=1+3*b)(l:2<=3*L)(f:c=0->∀x∈e3,e x)(h:c≠0->∀x∈e3++j,e x):xb p a (n+3) (·∈e3++j) c (1+3*b) (3*L):=by
 refine iC λm o q r s t v y z C H I=>aO (ma o) (λo=>?_) λo=>?_
 .exact(h! g c).up d l V m o q r s t v y z C H I
 .have À (Z:qU a m≠[]) (f:c=0->∀z,lH (qU a m)=J z->∀x∈z,e x) (h:c≠0->∀z∈qU a m,∀x∈z,e x) (j:∀z∈qU a m,U z<=3):aK ((n+1)+2) 305 [aj p.a,gR a,aG m,ag c] r s t:=by
   have Â:=C;have C:=FQ C;refine a7 GO (.c 13 (aj p.a)<| .c 115 (gR a)<| .c 52 (aG m)<| .c 26 (ag c) ar) Y Y<|cb Y<|i3 d5 (vH m) C (λT T T T=>rfl) (cf<|ae ((g J1) J3)<|ao Y) (λq x e n s t q n C t q=>?_) λe s C=>?_
   .refine ef (λN=>t _ s (by unfold vH;refine W N ?_;rfl) C) λN=>q s (by unfold vH;refine W N ?_;rfl) C
   rw [Vw] at C;refine aV C λt s C=>Fv C 2 3 Y Y (λq=>ay (Pz.mp q) Z) λT=>aV C λd s C=>?_;have C:Fr (qh r p.a p.b) s (f5 p v y<| .c e (az<|(qU a m).map λz=>aR<|sV z)<| .c t (az [])<| .c d (az []) bO):=C;refine Ŋ C (ae (dO v _)<|ae H<|bl Y) Z f h λright v Z s t Á Å C=>?_;have C:Fr (qh r p.a p.b) s (f5 p v Z<| .c d (az<|sV []) bO):=C.pk [0,1,4] 5 (ao Y)<|ao Y;have r:=j right t;refine cb Y<|cv d5 (λT (j:O) _=> .c 13 (aj p.a)<| .c 115 (gR a)<| .c 26 (ag c)<| .c 174 (aj e)<| .c 94 (aj j) ar) (λT j (c:aa bo×O×O)=>f5 p c.2.1 c.2.2<| .c j (az<|sV c.1) bO) (λe T c=>(∀x∈c.1,x∈iL)/\U c.1<=e*L/\c.2.1<=v+e*b) d ([],v,Z) C ⟨λT I=>bG I,cQ _,dO _ _⟩ (λT T T T T=>rfl) (λe x j c s p n d C Ã=>?_) λj c s d C=>?_
   .obtain⟨p,j,Æ⟩:=c;obtain⟨k,l,Z⟩:=d;have Ç:e<3:=cc (gl n) r;have È:e*b+b<=3*b:=WQ Ç;have É:e*L+L<=3*L:=WQ Ç;have l:U p<=e*L:=l;have Z:j<=v+e*b:=Z;refine u7<|(S V) x (Á x<|aP n) _ _ _ _ _ _ _ C (ae (fY Z b)<|ae (c6 (cx ..))<|ae (dZ Å È)<|ae (c6 (cx ..)) H) λX L H s Ê lk e C=>?_;have e:L<=j+b:=e;refine bX C 2 Y ⟨by unfold sV;simp only [bC,bC];exact bU<|cf<|ae (dZ l lk)<|ae É<|ae (kb 3 Ä)<|bl Y,aV C λË s C=>Ã Ë (p++X,L,H) s ⟨λx n=>aO (ma n) (k x)<|Ê x,?_,W (sq ..)<|ae e<|ae (fY Z b)<|c6 (cx ..)⟩ ?_⟩
    .simp only [a3,sq];exact dZ l lk
    .unfold sV;exact W dv<|C.pk [0,1,3] 4 (ao Y)<|by decide
   .obtain⟨p,j,Æ⟩:=c;refine Af d λk l Z=>?_;have s:U right*b<=3*b:=ri _ r;have Z:j<=v+U right*b:=Z;exact xy 0 Â C Y (I p j Æ · k (ae l<|ri _ r) (ae Z<|ae (dZ Å s)<|c6 (cx ..)))
  have c (I:uX a m=Q):∃z,lH (qU a m)=J z/\∀x∈z,x∈e3:=by
   unfold uX at I;refine W (List.head?_map)<|W (List.head?_filter) ?_;refine W (funext λx=>rfl:(λx:bo×aa bo=>decide _)=λy=>y.1==m) ?_;cases N:Bq _ a with
   |none=>exact bR<|N▸I|some y=>rw [N] at I;exact⟨y.2,Y,λx n=>gG.mp<|oY I x n⟩
  refine aA (c<|(g J1) J1 m o) λd L H=>À (λq=>by rw [q] at L;cases L) (λq z t x n=>?_) (λq z t x n=>h q x<|((g J1) V _ (YZ t)).2.2 x n) λz t=>((g J1) V _ (YZ t)).2.1;rw [L] at t;obtain rfl:=aC t;exact f q x<|H x n
def alJ(g:cU b a):xb p a (n+6) (·∈e3++b) 3 121 162:=by have c:xb p a (n+3) _ 0 4 6:=G8 g (h! g _) (ao Y) (ao Y) (by decide) (λZ x h=>h) λz=>ay Y z;exact G8 g (c:=3) (G8 g (c:=2) (G8 g (c:=1) c (ao Y) (by decide) (ao Y) (λz=>nomatch z) λZ x h=>h) (ao Y) (by decide) (by decide) (λz=>nomatch z) λZ x h=>h) (ao Y) (by decide) (by decide) (λz=>nomatch z) λZ x h=>h
def D2{k:O}(h:K<|aF k a):mi a bk (ag k) K:=by
 rcases Wj k (U a) with l|l
 .exact th l h
 .rw [A8 l] at h;refine W yE ?_;unfold AJ;refine W Nt (?_:K<|(aF _ a).drop 0);exact W (Iz l)<|W dJ h
def yK.ok{X}(h:yK X):v3 X:=cj (h J1) (λk a=>by
 have b:=(h V) k a
 constructor<;>(rintro rfl;revert b;decide))
noncomputable def Ya:=["a","b","c","a","b","c","q"]
def aaL:∀x∈Ya,x∈iL:=by decide+kernel
noncomputable def Dp:=[[],["a"],["b"],["c"],["q","q"]]
def ahv:∀X∈Dp,(∀k∈X,k∈iL)/\U X<=2:=by decide+kernel
def O9:aF k (sV a)=sV (aF k a):=by unfold sV;exact W tq Y
def af8:cq k (sV a)=sV (cq k a):=by unfold sV;exact W Jq Y
def tH:sV a++sV b=sV (a++b):=by unfold sV;exact W dv Y
def gm:U (sV a)=U a:=bC ..
def Wk{a:aa bo}{k:O}(h:∀x∈a,x∈iL):yK (aF 9 a):=cj (λx b=>h x<|Ci b)<|W dU<|m4 _ _
def aby(g:cU m d)(a:Fr k c<|f5 p t q r)(b:t<=800)(h:∀X e l f,yK X->e<=t+130->Fr k f (f5 p e l r)->j (aN<|sV X) f):aK (n+7) 248 [aj p.a,gR d] c j o:=by
 have s:=a;have a:=FQ a;refine a7 MV (.c 13 (aj p.a)<| .c 115 (gR d) ar) Y Y<|oE a (ae b<|ao Y) (ao Y) λv x y z C H a=>lE (λT=>?_) λT=>?_
 .exact HY (b:=Ya) a (oG H b Y) (ao Y) (ao Y) (by decide) λI L N z Z e f a=>aV a λk z a=>xy 0 s a Y (h I L N · (cj (λl Z=>aaL l<|e l Z)<|lD Z) (wL f H Y))
 .refine(alJ (n:=n) g) V "s" (fx _ (by rcases(g V) with rfl|rfl<;>decide)) _ _ _ _ _ _ _ a (ae (fY (oG H b Y:x<=801) 121)<|bl Y) λX L N z m lk f a=>D2<|W O9<|aV a λk z a=>?_;have q:=Wk (k:=9) m;generalize aF 9 X=X at q a;have o:∀v (X:aa bo) (d:Cs) y g z,(∀l∈X,l∈iL)->y<=t+130->Fr (qh c p.a p.b) z (f5 p y g<| .c v (az<|sV X) bO)->nh (z v) λI=>mi I bk (ag 9) λn=>iD z (az n) (eh j):=λv X d y g z m x a=>by refine bX a 2 Y<|D2<|aV a λe z a=>?_;rw [O9] at a;exact xy 1 s a Y (h _ y g · (Wk (k:=9) m) x)
  refine QM (λT=>?_) λT=>?_
  .refine aV a λv z a=>Xn a 2 3 Y Y (λt=>?_) λT=>?_
   .refine bX a 2 Y ?_;have j:0<U X:=by
     induction X with
     |nil=>exact ay Y t|cons _ _=>exact kv _
    refine HQ gm ?_;have a:Fr (qh c p.a p.b) z (f5 p L N<| .c k (az<|sV X) bO):=a.pk [0,1,2] 4 (by decide) (by decide);refine oE a (oG (l1 f H) b Y) j λn y g z h x a=>bX a 2 Y<|th (W gm<|bU h)<|W O9<|aV a λs z a=>oE (r:= .c k (az<|sV X)<| .c s (az<|sV<|aF n X) bO) a (oG (l1 x<|l1 f H) b Y) (ao Y) λd m v z C e a=>?_;have p:=bK (l:=Dp) (i:=d) C;have c:=ahv _ (aP p);generalize Dp[d]=to at p c;have t:(Dp.map λj=>aR<|sV j)[d]?=J (aR<|sV to):=by simp only [cg,p];rfl
    refine bJ (d:=Dp.map λj=>aR<|sV j) Y t<|aV a λy z a=>bX a 3 Y<|bX a 4 Y ?_;have g:U (aF n X)<=9:=W dU<|ae (oZ _ _)<|q J1;refine⟨by simp only [gm,gm];exact bU<|cf<|ae (dZ g c.2)<|ao Y,W tH<|aV a λb z a=>bX a 2 Y<|AL (k:=n+1) (W gm h)<|W af8<|aV a λr z a=>bX a 5 Y<|bX a 6 Y ?_⟩;have s:U (cq (n+1) X)<=9:=W wO<|ae (lT _ _)<|q J1;refine⟨by simp only [gm,gm,a3];exact bU<|cf<|ae (dZ (dZ g c.2) s)<|ao Y,W tH<|aV a λC z a=>o C _ bO m v z (λl Z=>?_) (wL e (l1 x<|l1 f H) Y) (a.pk [0,1,7] 8 (ao Y)<|by decide)⟩;rcases ma Z with Z|Z
    .rcases ma Z with Z|Z
     .exact(q V) l<|Ci Z
     .exact c.1 l Z
    .exact(q V) l<|p! Z
   .exact o k X bO L N z (q V) (wL f H Y)<|a.pk [0,1,2] 4 (by decide)<|by decide
  .exact o k X bO L N z (q V) (wL f H Y) a
noncomputable def ji(a)(x:bo×aa bo):=aD (b7 a x.1) a<|aD (cS x.2<|b7 a) (a++[x.1]) a
def qo(D:gj)(a):=D.foldl ji a
noncomputable def iw(D:gj):O->aa bo
|0=>[]|k+1=>qo D<|iw D k
noncomputable def DM(a)(x):=aD (b7 a x) A<|J<|aG x
def w?:eI (DM a) b=[]↔cS b (b7 a)=true:=by rw [Q!,gM];refine forall_congr' λx=>forall_congr' λZ=>?_;unfold DM;cases b7 a x<;>simp
def zH{c d:Type}{f}{b:d}{a:aa c}{x}(h:a[k]?=J x):(aF (k+1) a).foldl f b=f ((aF k a).foldl f b) x:=by simp only [fR h,Iu];rfl
def alw:U (ji a x)<=U a+1:=by
 unfold ji;cases b7 a x.1 with
 |true=>exact e7 _|false=>cases cS x.2 (b7 a) with
  |true=>exact c6 a3|false=>exact e7 _
def k?:∀{D},U (qo D a)<=U a+U D:=by
 intro D
 induction D generalizing a with
 |nil=>exact bb _|cons x r b=>exact ae b<|W hS<|ax (cx ..)<|W (jf ..)<|fY alw _
def afd:∀k,U (iw a k)<=k*U a:=λk=>k.rec (cQ _) λk b=>W (sq ..)<|ae k?<|fY b _
def q'(h:t=Q->a)(b:t=u->c):dH (!t) c (dH (!t) C a):=by
 induction t
 .exact b Y
 .exact h Y
def acN{D:gj}(l:U D<=9)(a:∀x∈D,U x.2<=3)(h:b (aN<|sV<|iw D<|U D) c):aK (n+1) 263 [gR D] c b d:=by
 refine a7 Ph (.c 115 _ ar) Y Y<|aV de λe s f=>cb Y<|cv d5 (λX X X=> .c 115 _ _) (λk X X=> .c e (az<|sV<|iw D k) bO) (λk X X=>bh) () () f a0 (λX X X X X=>rfl) (λk x X X s g j X f m=>?_) λX X s X f=>jg f 0 Y h;refine cb Y<|cv d5 (λX X X=> .c 115 _ (.c 94 _ _)) (λo X X=> .c e (az<|sV<|(aF o D).foldl ji _) bO) (λk X X=>bh) () () f a0 (λX X X X X=>rfl) (λo y X X s g p X f m=>?_) λX X s X f=>?_
 .have m:=m () ();rw [zH p] at m;have q:U ((aF o D).foldl ji _)<=90:=ae k?<|dZ (ae (afd k)<|Yn (bU<|cc (gl j) l) l)<|ae (k9 ..) l;generalize (aF o D).foldl ji _=r at f m q;refine vT f 0 Y<|q' (λe=>m s a0<|by unfold ji;exact W e f) λe=>cb Y<|i3 d5 (DM r) f (λX X X X=>rfl) (cf<|ae (a y<|aP p)<|ao Y) (λt z v o s C H I f L N=>?_) λv s f=>?_
  .exact vT f 0 Y<|jk<|ef (λe=>N s (by unfold DM;refine W e ?_;rfl) f) λe=>L _ s (by unfold DM;refine W e ?_;rfl) f
  refine aV f λZ s f=>Fv f 1 2 Y Y (λz=>?_) λz=>?_
  .have z:=w?.mp z;refine cH f 0 Y<|dF f 0 Y (W gm<|cf<|ae q<|ao Y) λs f=>m s a0 ?_;unfold ji;exact W e<|W z<|ax tH<|f.pk [0] 3 (by decide)<|by decide
  .have z:cS y.2 (b7 r)=false:=by
    cases q:cS y.2 (b7 r) with
    |true=>exact ay (ak w? q) z|false=>rfl
   refine m s a0 ?_;unfold ji;exact W e<|W z<|f.pk [0] 3 (by decide)<|by decide
 .rw [dJ] at f;exact m () () s a0 f
inductive Lw(D:gj):O->aa ai->aa bo->aa (aa bo)->Prop
|nil {d}:Lw D d [] [] []|lf {d k e a b c} (r:Lw D d a b c):Lw D d (uY k e::a) (k::b)<|[e]::c|nd {d l f g h a b c} (j:Lw D d f g h) (m:(l,g)∈D) (n:Lw D (d+1) a b c):Lw D (d+1) (lY l f::a) (l::b)<|hc h::c
def Lw.in0(l:Lw c m a d n):∀{t g y o p q} {b:Prop},a=t::o->d=g::p->n=y::q->(∀e,t=uY g e->y=[e]->b)->(∀f h j k,m=f+1->t=lY g h->y=hc k->Lw c f h j k->(g,j)∈c->b)->b:=by
 induction l with
 |nil=>exactλe Z Z Z Z=>AO e|lf r=>exactλs v x z Z=>z _ ((hp v).1▸a4 (hp s).1) (hp x).1.symm|nd a m d=>exactλs v x Z C=>C _ _ _ _ Y ((hp v).1▸a4 (hp s).1) (hp x).1.symm a ((hp v).1▸m)
def Lw.inv{a:Prop}(j:Lw b k (t::n) (g::o)<|y::p)(l:∀c,t=uY g c->y=[c]->a)(m:∀d e f h,k=d+1->t=lY g e->y=hc h->Lw b d e f h->(g,f)∈b->a):a:=j.in0 Y Y Y l m
def Lw.at_(h:Lw b d c e f):∀(k:O) a,c[k]?=J a->∃g y,e[k]?=J g/\f[k]?=J y/\Lw b d [a] [g] [y]:=by
 induction h with
 |nil=>intro k a e;exact aI e|lf r j=>intro k a e;induction k with
  |zero=>refine ax (aC e) ?_;exact⟨_,_,Y,Y, .lf .nil⟩|succ k=>exact j k a e
 |nd l m b _ j=>intro k a e;induction k with
  |zero=>refine ax (aC e) ?_;exact⟨_,_,Y,Y, .nd l m .nil⟩|succ k=>exact j k a e
def Lw.len(h:Lw d e a b c):U b=U a/\U c=U a:=h.rec ⟨Y,Y⟩ (λr f=>⟨aq Hw f.1,aq Hw f.2⟩) λa m b Z f=>⟨aq Hw f.1,aq Hw f.2⟩
def B5(h:dg s=dg t):s=t:=by
 unfold dg at h;rw [Hv,Hv] at h;injection h with h
 exact String.toList_inj.mp<|Nk (λa b h=>H!.mp h)|>.mp (aq cP h)
def toPs_sV:∀{a},toPs (toP<|n+1) (sV a)=J (a.map λs=> .str<|dg s):=by intro a;exact a.rec Y λx r b=>aq (b4 _) b
def Xw:sj (.str<|dg x) (.str<|dg y)=decide (x=y):=by show(dg x==dg y)=_;rw [qH,mF,qJ];exact⟨B5,aq _⟩
def akg:∀{b a:aa bo},OI (b.map λs=> .str<|dg s) (a.map λs=> .str<|dg s)=decide (b=a):=by
 intro b
 induction b with
 |nil=>intro a;cases a<;>rfl|cons x r c=>intro a;induction a with
  |nil=>rfl|cons y s=>refine((W c<|W Xw ?_):(sj _ _&&OI _ _)=_);rw [qH];refine W (vu ..) ?_;rw [mF,mF,mF,Cq]
def XB(h:sV a=sV b):a=b:=Nk (λa b e=>by cases e;rfl)|>.mp h
def ac8(h:wI x=wI y):x=y:=by
 injection h with h
 injection h with a h
 injection h with b _
 injection a with a
 injection b with b
 exact p9 a<|XB b
def adZ:nr (wI x) (tX a)=J (decide (x∈a)):=by
 have b {x:bo×aa bo}:gz (wI x)=true:=by show(Q&&cS (sV x.2) _&&Q:ba)=Q;exact W (ak gM λv c=>by obtain⟨s,_,rfl⟩:=mm c;rfl:cS (sV x.2) _=Q) Y
 exact F3 (λZ=>b) (λZ Z=>ac8) mF
end
open Zq.Lw renaming nil->qM
section
def Lw.FA(h:Lw e f [a] [g] [y])(c:b (bT u) d):w! a d b:=h.inv (λZ e Z=>W e c) λZ Z Z Z Z e Z Z Z=>W e c
def Lw.hd(h:Lw e f [a] [g] [y])(c:b (aG g) d):ko a (ag 0) d b:=h.inv (λZ e Z=>W e<|bJ Y Y c) λZ Z Z Z Z e Z Z Z=>W e<|bJ Y Y c
def W9{D:gj}(h:a (aN<|sV [b]) c):aK (n+1) 287 [gR D,uY k b] c a d:=a7 FC (.c 115 _ (.c 71 _ ar)) Y Y<|lE (λZ=>bJ Y Y<|bJ Y Y<|aV de λe s f=>jg f 0 Y h) λz=>ay Y z
def aiL(f:Lw e o a h b)(p:(l,h)∈e)(q:U h<=3)(m:U (hc b)<=100)
 (r:∀c g y d (j:QT) n,Lw e o [c] [g] [y]->U y<=100->j (aN<|sV y) d->aK s 287 [gR e,c] d j n)
 (k:j (aN<|sV<|hc b) d):aK (s+1) 287 [gR e,lY l a] d j n:=by
 have t {v:QT} (k:∀x,x=u->v (bT x) d):dH (eX (U (aG l::a):O) 2) (ko (lY l a) (ag 1) d<|Zg ys v) (v (bT<|eX (U (aG l::a):O) 2) d):=by
  refine lE (λz=>?_) λz=>k _ (W pA<|gh z)
  induction a with
  |nil=>exact ay (eG z) (by show¬0+1=2;decide)|cons c C=>exact gv (f.at_ 0 c Y) λg y H I L=>bJ Y Y<|L.FA<|k _ Y
 refine a7 FC (.c 115 _ (.c 71 _ ar)) Y Y<|t λx N=>ef (λz=>bR<|N▸z) λX=>bJ Y Y<|AL (lB 1 _)<|cb (c:=a) Y ?_;have j:=f.len;refine wq de (λn o s=>s=bO/\o=sV (aF n h)) ⟨Y,Y⟩ (λX X X X X X X X=>rfl) (λn x o d C s t z N t z À X=>?_) (cf<|ae (j.1▸q)<|ao Y) λC o d s z t=>?_
 .refine gv (f.at_ n x N) λg y H I L=>?_;obtain⟨rfl,rfl⟩:=t;exact L.hd<|À _ s bO z ⟨Y,by refine W (fR H)<|ax tH ?_;rfl⟩
 obtain⟨rfl,rfl⟩:=t;rw [<-j.1,dJ] at z;have q {v:ba->Prop} (o:v Q):mX (wI (l,h)) (gR e) s v:=by refine W q8 (?_:bE (nr _ (tX e)) v);simp only [adZ,eZ p];exact o
 refine hF z<|q<|aV z λx s z=>AL (lB 1 _) ?_;have z:=z.pk [1] 2 (by decide) (by decide);refine cb Y<|cv (λn=>(show a[n]?=b4 id (a[n]?) by refine W Option.map_id ?_;rfl)) (λX (x:O) _=> .c 115 _ (.c 71 _ (.c 94 (aj x) ar))) (λX x (Z:aa bo)=> .c x (az<|sV Z) bO) (λn X Z=>Z=hc (aF n b)) x [] z Y (λX X X X X=>rfl) (λn c x Z s v N d z C=>?_) λx Z s d z=>?_
 .refine gv (f.at_ n c N) λg y H I L=>?_;have t:hc b=hc (aF (n+1) b)++hc (cq _ b):=ax vm<|W (vE ..) Y;have i:hc (aF _ b)=Z++y:=W (fR I)<|W vm<|W d<|aq _ (dB _);rw [t,i,a3,a3] at m;exact r c g y s _ _ L (ae (ae (lB _ _)<|dO _ _) m) (hF z<|⟨W gm<|W gm<|bU<|cf<|ae (ae (dO _ _) m)<|ao Y,aV z λe s z=>C e _ s i.symm ((tH▸z).pk [1] 2 (by decide)<|by decide)⟩)
 .rw [<-j.2,dJ] at d;subst d;exact jg z 0 Y k
def aiF(f:∀x∈c,U x.2<=3):∀d {t:ai} {g} {y} {a} {b} {e},Lw c d [t] [g] [y]->U y<=100->b (aN<|sV y) a->aK (n+d+1) 287 [gR c,t] a b e:=Nat.rec (λh l j=>h.inv (λk m o=>W m<|W9<|o▸j) λZ Z Z Z z Z Z Z Z=>wC z) λd p=>λh l j=>h.inv (λk m o=>W m<|W9<|o▸j) λq r s v z m o C H=>W m<|aiL (f7 z▸C) H (f _ H) (o▸l) (λI g y a b e L k q=>p L k q)<|o▸j
def XQ{b:QT}(h:b (r5 k a) c):aK (n+2) 21 [ag k,ag a.aY,aR<|iV a.aQ,ag a.Tp] c b d:=by refine jK Y Y λa e=>?_;have f:=de.hN (o:=cw 21 ar) e;exact a7 KL (.c 64 _ (.c 168 _ (.c 40 _ (.c 123 _ (.c 236 _ (.c 146 bk _)))))) Y Y<|bP f Y λs f=>bP f Y λs f=>bP f Y λs f=>bP f Y λs f=>bP f Y λs f=>bP f Y λs f=>bP f Y λs f=>bc ⟨Y,ES f 0 Y h⟩
def alr{a:QT}(h:a (ag<|ZY c b) d):aK (n+1) 308 [aR<|iV b,ag c] d a e:=by
 refine a7 KS (.c 123 _ (.c 317 _ ar)) Y Y<|cb Y<|cv d5 (λk Z Z=> .c 123 _ (.c 317 _ (.c 94 (ag<|(aF k b).foldl (Sy c)<| -1) ar))) (λZ Z Z=>bO) (λZ Z Z=>bh) () () de a0 (λZ Z Z Z Z=>rfl) (λk x Z Z s f g Z j l=>?_) λZ Z s Z j=>?_
 .have l:=l () () s a0 j;rw [zH g] at l;unfold Sy at l;refine ef (λe=>?_) λe=>?_
  .rw [e] at l;exact l
  .rw [e] at l;exact l
 .exact W dJ<|mK j 0 Y h
def ain:∀{a} {k},mJ k (a++[x])=mJ k a++dM (U x.aQ+1) (k+U a):=by intro a;refine @(a.rec (dB _) λy t b=>?_);intro k;refine(?_:dM _ k++mJ _ (t++[x])=dM _ k++mJ _ t++_);simp only [b,dy,hS,cx,eU 1]
def ahi:∀{a} {o k},uR o (a++[x])=uR o a++[o+U (mJ k a)]:=by intro a;refine @(a.rec Y λy t b=>?_);intro o k;refine(?_:o::uR _ (t++[x])=o::uR _ t++[o+U (dM _ k++mJ _ t)]);simp only [b (k:=k+1),a3,ir,cx o];rfl
def acF:∀{a} {k},jW s k (a++[x])=jW s k a++aD (aE x.aY s) [k+U a] []:=by intro a;refine @(a.rec Y λy t b=>?_);intro k;refine(?_:aD _ (k::jW s _ (t++[x])) (jW s _ (t++[x]))=aD _ _ _++_);simp only [b,hS,cx,eU 1];cases aE y.aY s<;>rfl
def t7(m)(a):=(e4 m).map λs=>jW s 0 a
structure GA where
g:O
nm:O
rl:O
lv:O
bl:O
WK:O
ow:O
noncomputable def Wv(G:Gr)(a:GA)(r:aW):aW:= .c 112 (aj a.nm)<| .c 317 (ag G.nT)<| .c 124 (aj a.rl)<| .c 165 (aj a.lv)<| .c 158 bk<| .c 129 (ag G.iU) r
def z2(G:Gr)(a:GA)(c:aa O)(e:O)(b:aa Ru)(r:aW):Cs:= .c a.g (cw 190<|Wv G a<| .c 195 (aj a.bl)<| .c 210 (aj a.WK)<| .c 169 (aj a.ow) r)
 (.c a.nm (az<|sV G.cI)<| .c a.rl (az<|nk 0 G.a5)<| .c a.lv (dD [] e)<| .c a.bl (az<|fP c)<| .c a.WK (az<|iV<|uR 0 b)<| .c a.ow (az<|iV<|mJ 0 b)<|hA c<|t7 G.nS b)
def afD:t7 m []=dM m []:=af (List.map_const' ..)<|W e9 Y
def aas(h:Fr l m a)(k j)(e:a.at k=J (b,az c))(n:a.at j=J (d,az f))(o:d≠b)(p:U c+U f<=cu)(q:∀g,Fr l g (a.g8 k<|az<|c++f)->r bk g):lI j8 (aj b) (aj d) m r:=W pU<|bX h k e<|bX h j n ⟨⟨p,λz=>o<|by cases z;rfl⟩,q _ (h.upd e _)⟩
def Sn:iV a++iV b=iV (a++b):=by unfold iV;exact W dv Y
def ahb:∀{a} {k},U (jW s k a)<=U a:=by
 intro a;refine @(a.rec (bb _) λy t b=>?_);intro k;refine(?_:U (aD _ (k::jW s _ t) _)<=_);cases aE y.aY s with
 |true=>exact b3 b|false=>exact hH b
def abR:∀{a} {k},(∀r∈a,U r.aQ<=3)->U (mJ k a)<=4*U a:=by intro a;refine @(a.rec (λZ=>bb _) λy t b=>?_);intro k h;exact W a3<|W ir<|W (Nat.mul_succ ..)<|W (eU ..)<|dZ (b λr c=>h r<|cz _ c)<|b3<|h y b8
def ad0{m:O}{x:O}:dM (cM<|(m:au)+1) (ag x)=iV (dM (m+1) x):=by unfold iV;exact W G9 Y
def agB{d rl f e}(g:GW b)(a:Fr j m<| .c d (az<|sV b.cI)<| .c rl (az<|nk 0 b.a5)<| .c f (dD [] e) bO)
 (h:∀k c l,U c=b.nS->Fr j l (z2 b k c e b.a5<| .c 272 (ag<|U b.hW) ar)->n (aj k.g) l):
 aK (o+2) 190 [aj d,ag b.nT,aj rl,aj f,bk,ag b.iU] m n p:=by
 refine jK Y Y λq r=>?_;have a:=(a.hN (o:=cw 190 ar) r).bN;refine a7 Qe (.c 64 _ (.c 112 _ (.c 317 _ (.c 124 _ (.c 165 _ (.c 158 bk<| .c 129 _ ar)))))) Y Y<|bP a Y λs a=>bP a Y λs a=>bP a Y λs a=>bP a Y λs a=>bP a Y λs a=>bP a Y λs a=>ej a<|cb (a.lt 1 Y)<|wq a (λk t v=>∃c,U c=k/\t=fP c/\v= .c q (cw 190<|Wv b ⟨q,d,rl,f,0,0,0⟩ ar) (.c d _ (.c rl _ (.c f _ (hA c<|dM k []))))) ⟨[],Y,Y,Y⟩ (λk t v x o s a y=>by obtain⟨c,_,_,rfl⟩:=y;exact a.lt 1 Y) ?_ ?_ ?_
 .refineλk z t v x s C H I y a L N=>aV a λZ s a=>?_
  obtain⟨c,l,rfl,rfl⟩:=y;refine L _ s _ a.EW ⟨c++[Z],?_,?_,W HA<|ax (BL<|by rw [l,ir]) Y⟩
  .rw [a3,l];rfl
  .unfold fP;exact W dv Y
 .exact W gm<|cf<|ae g.nS<|ao Y
 intro x t v s a y;obtain⟨c,l,rfl,rfl⟩:=y;rw [gm] at l a;have a:=a.bN;refine d3 a 1 Y Y (bl Y) λs a=>aV a λo s a=>?_;have a:=a.bN;refine d3 a 2 Y Y (bl Y) λs a=>aV a λv s a=>?_;have a:=a.bN;refine d3 a 3 Y Y (bl Y) λs a=>?_;have m:dM b.nS []=t7 b.nS []:=a4 afD;have a:=a.pk [3,4,5,6,2,1,0] 7 (ao Y)<|ao Y;have a:Fr j s (z2 b ⟨q,d,rl,f,x,o,v⟩ c e [] ar):=by unfold z2;exact ax m a
 refine ej a<|cb (a.lt 2 Y)<|cv xA (λX X X=> .c 64 _ ar) (λk X X=>z2 b ⟨q,d,rl,f,x,o,v⟩ c e (aF k b.a5) ar) (λX X X=>bh) () () a a0 (λX X X X a=>a.lt 2 Y) (λk n X X s p r X a C=>?_) λX X s X a=>?_
 .have C:=λs=>C () () s a0;rw [fR r] at C;have H:=ae (bU<|gl r) g.oX;have rl:=g.lt n<|aP r;have I:U (aF k b.a5)=k:=W dU<|gq<|bU<|gl r;have N:=g.yv n<|aP r;have t:U (mJ 0 _)<=40:=ae (abR λL r=>g.yv L<|Ci r)<|W I<|kb 4 H;generalize aF k b.a5=j at a C I t;have m:∃Z,c[n.aY]?=J Z:=cL _<|bK<|l▸rl.1.2;obtain⟨Z,m⟩:=m;have p:(t7 b.nS j)[n.aY]?=J (jW n.aY 0 j):=by unfold t7;simp only [cg,xd rl.1.2];rfl
  refine aM a 0 Y<|dc a 4 Y (rU m)<|cH a (n.aY+7) (pj m p)<|dF a (n.aY+7) (pj m p) (by rw [du];exact cf<|ae ahb<|by rw [I];exact ae H<|by decide) λs a=>aM a 0 Y<|cH a 5 Y<|aM a 0 Y<|bX a 6 Y<|dF a 5 Y (by simp only [du,l!,I];exact cf<|ae H<|by decide) λs a=>aM a 0 Y<|MZ a 6 Y<|aV a λg s a=>?_;have a:=a.bN;refine hF a<|⟨⟨Y,Int.le_add_one<|cp _,by rw [du];exact bU<|cf<|ae (b3 N)<|ao Y⟩,?_⟩;simp only [du,ad0];refine aV a.tl λr s a=>?_;have a:=a.bN;refine aas a 7 0 Y Y ((a V).2.2.1 6 _ _ Y).symm (by simp only [du,du,ir];exact bU<|cf<|ae (dZ t<|b3 N)<|ao Y) λs a=>C s ?_;have a:=a.tl;unfold z2;have L {m:O} {z:Ru} {j:aa Ru} (h:z.aY<m):t7 m (j++[z])=c2 (t7 m j) z.aY (jW z.aY 0 j++[U j]):=by
   refine Cp λy=>W (Ay)<|W (bC ..)<|W e9<|W (cg)<|W (cg) ?_
   by_cases Z:y<m
   .refine W (xd Z) ?_;show J (jW y 0 _)=_;refine W acF<|W (eJ ..) ?_
    by_cases e:z.aY=y
    .exact ax e<|W (aJ Y)<|W (aJ h)<|W (fK ..) Y
    .exact W (aS e)<|W (ak Ł λg=>e (d9 g):aE z.aY y=u)<|aq J<|dB _
   .refine W (iB<|by rw [e9];exact j3 Z)<|W (aS λe:z.aY=y=>Z<|e▸h) ?_;rfl
  simp only [L rl.1.2,ahi (k:=0),ain,<-Gq,<-Sn,<-Sn,<-Sn,eJ,eJ,I];rw [du] at a;exact a
 .rw [dJ] at a;exact aM a 0 Y<|bX a 6 Y<|d3 a 0 Y Y (bl Y) λs a=>bc ⟨Y,bc<|h ⟨q,d,rl,f,x,o,v⟩ c s l<|du▸a⟩
def xI(a):=fF (bw a) (∀x∈a,x∈p7++["a","b","c"])<|∃r,a=p7++r
def T1(h:x∈e3):x∈p7++["a","b","c"]:=by
 have a:∀x∈e3,x∈p7++["a","b","c"]:=by decide+kernel
 exact a x h
def SO(g:a=["s","t"]\/a=["s","t","u"])(h:x∈p7++["a","b","c"]):x∉a:=by
 have b:∀x∈p7++["a","b","c"],x∉["s","t"]/\x∉["s","t","u"]:=by decide+kernel
 rcases g with rfl|rfl
 .exact(b x h).1
 .exact(b x h).2
def ŭ{q:aa bo}:∀{a},xI a->(∀x∈q,x∈e3++b)->xI (q.foldl (nN b) a)/\(∀x∈a,x∈q.foldl (nN b) a)/\∀x∈q,x∈q.foldl (nN b) a\/x∈b:=by
 refine @(q.rec (λt Z=>⟨t,λZ h=>h,λZ h=>bG h⟩) λx r c=>?_);intro a t h;have d (h:x∈e3++b):xI (nN b a x)/\(x∈nN b a x\/x∈b):=by
  unfold nN;cases e:b7 b x with
  |true=>exact br t<|aw<|gG.mp e|false=>
   cases f:b7 a x with
   |true=>exact br t<|aL<|gG.mp f|false=>
    have g:x∉b:=λz=>by rw [ak gG z] at e;exact bR e
    have j:x∉a:=λz=>by rw [ak gG z] at f;exact bR f
    refine⟨bY (ak nE ⟨t V,Bb _ _,λy k z l e=>j ?_⟩) (λy k=>aO (ma k) ((t J1) y) λz=>W (ms z)<|T1<|aO (ma h) id λz=>ay z g) ?_,aL<|fx _ hf⟩
    .simp only [<-ms l,<-e];exact k
    .obtain⟨r,rfl⟩:=t J2;exact⟨r++[x],dy ..⟩
 have s:=d<|h x b8;have m:=c s.1 λy k=>h y<|cz _ k;refine⟨m.1,λy k=>m.2.1 y<|(by
  unfold nN;cases b7 b x with
  |true=>exact k|false=>cases b7 a x with
   |true=>exact k|false=>exact gE _ k),λy k=>?_⟩
 rcases mc k with rfl|k
 .exact LW (m.2.1 y) s.2
 .exact m.2.2 y k
def agV{ls}{D:gj}:∀{a},xI a->(∀q∈D,∀x∈q.2,x∈e3++ls)->xI (D.foldl (zb ls) a)/\(∀x∈a,x∈D.foldl (zb ls) a)/\∀q∈D,∀x∈q.2,x∈D.foldl (zb ls) a\/x∈ls:=by
 refine @(D.rec (λt Z=>⟨t,λZ h=>h,λZ h=>bG h⟩) λq r b=>?_);intro a t h;have s:=ŭ t<|h q b8;have c:=b s.1 λy d=>h y<|cz _ d;refine⟨c.1,λy d=>c.2.1 y<|s.2.1 y d,λy d x e=>?_⟩;rcases mc d with rfl|d
 .exact LW (c.2.1 x)<|s.2.2 x e
 .exact c.2.2 y d x e
def afl:xI p7:=bY (by decide+kernel) (λx h=>gE _ h) ⟨[],Y⟩
def cU.tm(g:cU a b):xI (hh a b)/\∀q∈b,∀x∈q.2,x∈hh a b\/x∈a:=
 have c:=agV afl λq d=>((g J1) V q d).2.2
 ⟨c.1,c.2.2⟩
def cU.uJ(g:cU a b):bw a/\U a<=3/\"s"∈a/\"$accept"∉a:=by rcases(g V) with rfl|rfl<;>decide+kernel
def cU.Un(g:cU a b):bw (eF a b):=by
 have t:=g.tm.1;have l:=g.uJ;refine ak nE ⟨ak nE ⟨t V,Bb _ _,λy c z d e=>?_⟩,l.1,λy c z d e=>?_⟩
 .have f:=(t J1) y c;rw [e,ms d] at f;revert f;decide+kernel
 .subst e;rcases ma c with h|h
  .exact SO (g V) ((t J1) y h) d
  .exact l.2.2.2<|ms h▸d
def cU.t6(g:cU a b):U (hh a b)<=6:=L9 (g.tm.1 V)<|g.tm.1 J1
def cU.t3(g:cU a b):3<=U (hh a b):=by refine bp (g.tm.1 J2) λr e=>?_;simp only [e,a3];exact dO 3 _
def Jb:U (eF a b)=U (hh a b)+1+U a:=by unfold eF;simp only [a3,a3];rfl
def pq(h:x∈a):g7 x a=J (jR a x)/\a[jR a x]?=J x:=by refine bp (Jy.mp<|ak gG h) λb e=>?_;unfold jR;exact W e<|⟨Y,BC e⟩
def cU.wg(g:cU b a)(h:q∈a):q.1∈eF b a/\∀x∈q.2,x∈eF b a:=
⟨fx _ ((g J1) V q h).1,λx c=>aO (g.tm.2 q h x c) (λz=>gE _ (gE _ z)) λz=>fx _ z⟩
def cU.AB(g:cU a b):"s"∈eF a b:=fx _ g.uJ.2.2.1
def L6:(eF a b)[U<|hh a b]?=J "$accept":=by unfold eF;refine W (dy ..)<|W (hV<|bb _)<|W (pR ..) ?_;rfl
def L0(g:cU a b)(h:(eF a b)[d]?=J l)(c:l∈a):U (hh a b)<d:=by
 refine zW λq=>?_;rcases CN q with q|rfl
 .unfold eF at h;rw [dy,hb q] at h;exact SO (g V) ((g.tm.1 J1) l<|aP h) c
 .rw [L6] at h;exact g.uJ.2.2.2<|W (aC h) c
def De(g:cU b c){a:O}(h:p7[a]?=J x):(eF b c)[a]?=J x:=by refine bp (g.tm.1 J2) λr e=>?_;unfold eF;exact W e<|W (dy ..)<|W (dy ..)<|W (hb<|gl h) h
def Mf(h:x∈a):jR a x<U a:=gl (pq h).2
def cU.sym(g:cU b a)(h:q∈a)(c:y∈R (jR<|eF b a) q.2):y<U (eF b a)/\y≠0/\y≠U (hh b a):=by
 obtain⟨x,d,rfl⟩:=mm c;have e:=pq<|(g.wg h).2 x d;have f:∀y∈e3++["s","t","u"],y≠"$end"/\y≠"$accept":=by decide+kernel
 have j:=f x (by
  rcases ma (((g J1) V q h).2.2 x d) with z|z
  .exact gE _ z
  .refine fx _ (aO (g V) (λk=>?_) λk=>?_)
   .rw [k] at z;exact gE ["u"] z
   .rw [k] at z;exact z)
 refine⟨Mf<|(g.wg h).2 x d,λk=>?_,λk=>?_⟩
 .rw [k,De g Y] at e;exact j.1 (aC e.2).symm
 .rw [k,L6] at e;exact j.2 (aC e.2).symm
def Pg(h:(gw b a).a5[k+1]?=J r):∃q∈a,a[k]?=J q/\r=A2 (eF b a) (U<|hh b a) q:=by have h:(R _ a)[k]?=J r:=h;rw [cg] at h;obtain⟨q,e,rfl⟩:=fA h;exact⟨q,aP e,e,Y⟩
def cU.left(g:cU b a)(h:q∈a):U (hh b a)<jR (eF b a) q.1/\jR (eF b a) q.1<U (eF b a):=
⟨L0 g (pq (g.wg h).1).2 ((g J1) V q h).1,Mf (g.wg h).1⟩
def cU.gx(g:cU b a):GX (gw b a) where
 nS:=by show U (eF b a)<=12;exact W Jb (ae (dZ (b3 g.t6) g.uJ.2.1)<|ao Y)
 nT:=by show U (hh b a)<U (eF b a);simp only [Jb,cx];exact FJ (h_ BW _)
 t3:=g.t3
 oX:=by show U (_::R _ a)<=10;simp only [hS,bC];exact b3 ((g J1) J3)
 lt:=λr c=>by
  rcases mc c with rfl|c
  .refine⟨⟨bb _,?_⟩,λy d=>?_⟩
   .show U (hh b a)<U (eF b a);simp only [Jb,cx];exact FJ<|h_ BW _
   .rcases mc d with rfl|d
    .exact Mf g.AB
    .exact W (ms d)<|gl<|De g Y
  .obtain⟨q,e,rfl⟩:=mm c;exact⟨⟨bU (g.left e).1,(g.left e).2⟩,λy d=>(g.sym e d).1⟩
 yv:=λr c=>by
  rcases mc c with rfl|c
  .exact e7 2
  .obtain⟨q,e,rfl⟩:=mm c;exact W (bC ..) (((g J1) V q e).2.1)
 acc:=λr c z=>by
  rcases mc c with rfl|c
  .rcases mc z with z|z
   .exact fH (L0 g (pq g.AB).2 g.uJ.2.2.1) z
   .exact ih (cc (ao Y) g.t3)<|ms z
  .obtain⟨q,e,rfl⟩:=mm c;exact(g.sym e z).2.2 Y
 st:=L0 g (pq g.AB).2 g.uJ.2.2.1
 l3:=by show U (eF b a)<=U (hh b a)+4;simp only [Jb,cx];exact d6 (d6 g.uJ.2.1 1) _
 SQ:=W jD (ae (c6<|aq List.sum<|Od λq Z=>((W (bC ..) Y):U (R _ q.2)-1=_))<|(g J1) J4)
 e0:=λk r h z=>by obtain⟨q,e,_,rfl⟩:=Pg h;exact(g.sym e z).2.1 Y
 t6:=g.t6
 r0:=Y
 rs:=λk r h z=>by obtain⟨q,e,_,rfl⟩:=Pg h;exact ih (g.left e).1 z
def cU.gp(g:cU b a):GP a (gw b a):=have c (d:∀k l e,a[k]?=J (l,e)->∃f,(Zq.gw b a).a5[k+1]?=J f/\(Zq.gw b a).cI[f.aY]?=J l/\e=R (F (Zq.gw b a).cI · "") f.aQ) (h:(Zq.gw b a).cI[(Zq.gw b a).iU]?=J "s") (j:(Zq.gw b a).cI[0]?=J "$end") (m:(Zq.gw b a).cI[1]?=J "error") (n:(Zq.gw b a).cI[2]?=J "$undefined") (nd:bw (Zq.gw b a).cI):GP a (Zq.gw b a):=ke (aq _ (bC ..)) d h j m n nd;c
 (λk l e h=>by
  have o:=aP h;have p:(R (jR<|eF b a)<|gr (l,e)).map (F (eF b a) · "")=(gr (l,e)):=by refine W jD<|af (Od λx q=>?_)<|List.map_id _;refine((W (cZ)<|W (pq<|(g.wg o).2 x q).2 ?_):F (eF b a) _ ""=x);rfl
  refine⟨A2 _ (U<|hh b a) _,?_,(pq (g.wg o).1).2,a4 p⟩;show(R _ a)[k]?=_;simp only [cg,h];rfl)
 (pq g.AB).2 (De g Y) (De g Y) (De g Y) g.Un
def cU.pre(g:cU a b):AS (gw a b):=λk c h=>by
 have e:F (gw a b).cI c.aY ""="$accept"\/F (gw a b).cI c.aY ""∈["s","t","u"]:=by
  induction k with
  |zero=>refine ax (aC h)<|aL<|W (cZ)<|W L6 ?_;rfl|succ k=>
   obtain⟨q,d,_,rfl⟩:=Pg h;refine aw<|W (cZ)<|W (pq (g.wg d).1).2 ?_;have f:=((g J1) V q d).1;refine aO (g V) (λe=>?_) λe=>?_
   .rw [e] at f;exact gE ["u"] f
   .rw [e] at f;exact f
 rcases e with e|e
 .refine W e ?_;decide+kernel
 .have f:∀x∈["s","t","u"],("$@".toList.isPrefixOf<|h8 x)=false:=by decide+kernel
  exact f _ e
def acO:∀{a} {k},nk k (a++[r])=nk k a++[r5 (k+U a) r]:=by intro a;refine @(a.rec Y λy t b=>?_);intro k;refine(?_:r5 k y::nk _ (t++[r])=r5 k y::(nk _ t++_));simp only [b,hS,cx,eU 1]
def aai{b a:aa bo}:eI (λx=>J<|ag<|jR b x) a=iV (R (jR b) a):=by unfold iV;exact W jD<|p2 Cz a
def aa5(c:p a)(h:d a=J (az b)):kX p d (m+1) (aj a) (aN b):=
aw (aw<|aw ⟨a,Y,c,aL ⟨b,b,h,Y,j7 (λZ=>dQ m _) _⟩⟩)
def Tz:∀(D:gj) {a},U (D.foldl oD a)<=U a+U D:=by
 refine jb (bb _) λx r b=>?_;intro a;refine ae b<|W hS<|ax (cx ..)<|W (jf ..)<|fY ?_ _;unfold oD;cases b7 a x.1 with
 |true=>exact e7 _|false=>exact c6 a3
def Za:∀{a},U (b.foldl (nN c) a)<=U a+U b:=by
 refine @(b.rec (bb _) λx r d=>?_);intro a;refine ae d<|W hS<|ax (cx ..)<|W (jf ..)<|fY ?_ _;unfold nN;cases b7 c x with
 |true=>exact e7 _|false=>cases b7 a x with
  |true=>exact e7 _|false=>exact c6 a3
def ĳ{ls}{D:gj}:∀{a},(∀q∈D,U q.2<=3)->U (D.foldl (zb ls) a)<=U a+3*U D:=by refine @(D.rec (λZ=>bb _) λx r b=>?_);intro a h;refine ae (b λq c=>h q<|cz _ c) ?_;exact ae (fY (ae Za<|d6 (h x b8) _) _)<|c6 (jf _ 3 (3*U r):_=_+3*U r+3)
def ak9(a:l="s"\/l="t"\/l="u")(c:K u):mX (aG<|qa<|aF 1<|h8 l) (aR [aG "",aG "$",aG "'"]) b K:=by refine W q8 ?_;unfold Mo;refine((W (M7 ..) ?_):bE (nr _ (sV ["","$","'"])) K);rcases a with rfl|rfl|rfl<;>exact c
section
variable{c:O}{a:aT}{b:QT}{d:aT->Prop}{ls:aa bo}{D:gj}
def akD(g:cU ls D)(h:b (gw ls D).V a):aK (c+5) 309 [gR D,aG "s"] a b d:=by
 refine a7 Qw (.c 115 _ (.c 129 _ ar)) Y Y<|aV de λe s f=>cb Y<|cv d5 (λX X X=> .c 115 _ _) (λk X X=> .c e (az<|sV<|(aF k D).foldl oD []) bO) (λk X X=>bh) () () f a0 (λX X X X X=>rfl) (λk q X X s j l X f m=>?_) λX X s X f=>?_
 .have m:=λs=>m () () s a0;rw [zH l] at m;have n (h:q∈D):q.1="s"\/q.1="t"\/q.1="u":=by
   have o:=((g J1) V q h).1;rcases(g V) with rfl|rfl<;>simp at o
   .rcases o with h|h
    .exact aL h
    .exact aw<|aL h
   .exact o
  have p:=n<|aP l;obtain⟨r,t⟩:=q;have v:U ((aF k D).foldl oD [])<=9:=ae (Tz _) (by simp only [Ll,eJ];exact ae (k9 ..)<|(g J1) J3);generalize (aF k D).foldl oD []=x at f m v;refine rW (λe=>?_) λX=>?_
  .exact ay p (by refine W (e:(r,t).1="error") ?_;decide)
  .refine⟨⟨Y,Y⟩,ak9 p<|vT f 0 Y<|jk<|ef (λe=>m s ?_) λe=>?_⟩
   .unfold oD;exact W e f
   .refine cH f 0 Y<|dF f 0 Y (W gm<|cf<|ae v<|ao Y) λs f=>m s ?_;unfold oD;exact W e<|ax tH f
 .rw [dJ,(g J1) J2] at f;have y:b7 ls "s"=true:=by rcases(g V) with rfl|rfl<;>rfl
  refine br rfl<|vT f 0 rfl<|W y<|aV f λz s f=>?_;have f:=f.bN;refine cb Y<|cv d5 (λX X X=> .c 115 _ (.c 106 _ (.c 82 _ (.c 112 _ ar)))) (λk X X=> .c z (az<|sV<|(aF k D).foldl (zb ls) p7) _) (λk X X=>bh) () () f a0 (λX X X X X=>rfl) (λk q X X s j l X f m=>?_) λX X s X f=>?_
  .have m:=λs=>m () () s a0;rw [zH l] at m;obtain⟨r,t⟩:=q;have v:U ((aF k D).foldl (zb ls) p7)<=30:=ae (ĳ λq l=>((g J1) V q<|Ci l).2.1)<|d6 (kb 3<|ae (k9 ..)<|(g J1) J3) 3;generalize (aF k D).foldl _ p7=x at f m v;refine cb Y<|cv d5 (λX X X=> .c 115 _ _) (λC X X=> .c z (az<|sV<|(aF C t).foldl (nN ls) x) _) (λk X X=>bh) () () f a0 (λX X X X X=>rfl) (λC H X X s j I X f m=>?_) λX X s X f=>?_
   .have m:=λs=>m () () s a0;rw [zH I] at m;have v:=ae (Za (c:=ls) (b:=aF C t))<|dZ v<|ae (k9 ..)<|((g J1) V _ (aP l)).2.1;generalize (aF C t).foldl _ x=x at f m v;refine vT f 1 Y<|q' (λe=>m s<|by unfold nN;exact W e f) λe=>vT f 0 Y<|jk<|ef (λL=>m s<|by unfold nN;simp only [e,L];exact f) λL=>cH f 0 Y<|dF f 0 Y (W gm<|cf<|ae v<|by decide) λs f=>m s ?_;unfold nN;simp only [e,L];exact ax tH f
   .rw [dJ] at f;exact m s f
  .rw [dJ] at f;have N:U (hh ls D)<=30:=ae (ĳ λq l=>((g J1) V q l).2.1)<|d6 (kb 3<|(g J1) J3) 3;refine hF f<|HQ gm<|aV f λZ s f=>hF f<|bX f 2 Y ⟨W gm<|bU<|cf<|ae (fY N _)<|ao Y,aV f λo s f=>bX f 3 Y<|bX f 1 Y ⟨by simp only [a3,gm,gm];exact bU<|cf<|ae (dZ (fY N _) g.uJ.2.1)<|ao Y,aV f λn s f=>?_⟩⟩;have f:Fr a s (.c n (az<|sV<|eF ls D) bO):=by have f:=f.pk [4] 5 (ao Y)<|ao Y;unfold eF;rw [<-tH,<-tH];exact f
   refine EB f 0 Y<|Eb f 0 Y (pq g.AB).1<|XQ (a:=⟨U<|hh ls D,[jR _ "s",0],0⟩)<|aV f λrl s f=>?_;have f:=f.bN;refine cb Y<|cv d5 (λX X X=> .c 115 _ (.c 82 _ (.c 112 _ (.c 88 (ag<|U<|hh ls D)<| .c 124 _ ar)))) (λk X X=> .c rl (az<|nk 0<|⟨U<|hh ls D,[jR _ "s",0],0⟩::(aF k D).map (A2 (eF ls D)<|U<|hh ls D)) _) (λk X X=>bh) () () f a0 (λX X X X X=>rfl) (λk q X X s j l X f m=>?_) λX X s X f=>?_
   .have m:=λs=>m () () s a0;rw [fR l,dv,List.map_singleton,<-Sl,acO] at m;have p:=g.wg<|aP l;have y:U ((⟨U<|hh ls D,[jR (eF ls D) "s",0],0⟩:Ru)::(aF k D).map (A2 (eF ls D)<|U<|hh ls D))<=10:=by simp only [hS,bC];exact b3<|ae (k9 ..)<|(g J1) J3
    generalize _::(aF k D).map _=r at f m y;refine cb Y<|i3 d5 (λH=>J<|ag<|jR (eF ls D) H) f (λX X X X=>rfl) (cf<|ae (((g J1) V _ (aP l)).2.1)<|ao Y) (λC H X X s z x I f v L=>?_) λZ s f=>?_
    .exact EB f 1 Y<|Eb f 1 Y (pq<|p.2 H<|aP I).1<|v _ s Y f
    .rw [aai] at f;have f:=f.bN;exact hF f<|cH f 1 Y<|bX f 1 Y<|EB f 2 Y<|Eb f 2 Y (pq p.1).1<|alr<|W K5<|XQ (a:=A2 _ (U<|hh ls D) _)<|dF f 1 Y (W K5<|cf<|ae y<|ao Y) λs f=>m s<|W (eJ ..) f.tl
   .rw [dJ] at f;refine m8 f λq e s f=>EB f 1 Y<|Eb f 1 Y (pq g.AB).1 ?_;have f:=f.pk [1,0,2] 3 (ao Y) (by decide);exact agB g.gx.toGW f λj N s o f=>(by
     have n:I5 (Zq.gw ls D)=(t7 (Zq.gw ls D).nS (Zq.gw ls D).a5).map λH=>aN (iV H):=W jD Y;have L:∀{l} {t} k,(z2 (Zq.gw ls D) j N e (Zq.gw ls D).a5 _).at k=J (l,az t)->kX _ s 2 _ _:=λk h=>aa5 (f.fb k h)<|f.c9 h;refine mK f 3 (aw<|aw<|aw ⟨j.g,Y,f.fb 0 Y,aw<|aw ⟨_,_,_,f.c9 (k:=0) Y,Y,⟨_,_,Y,L 1 Y,_,_,Y,dQ _ _,_,_,Y,L 2 Y,_,_,Y,?_,_,_,Y,dQ _ _,_,_,Y,dQ _ _,_,_,Y,?_,_,_,Y,L 5 Y,_,_,Y,L 6 Y,_,_,Y,dQ _ _,Y⟩⟩⟩) h
     .exact aw<|aw<|aw ⟨j.lv,Y,f.fb 3 Y,aw<|aL ⟨_,_,_,f.c9 (k:=3) Y,Y,nJ⟩⟩
     .refine aw<|aw<|aw ⟨j.bl,Y,f.fb 4 Y,aL ⟨_,_,f.c9 (k:=4) Y,Y,W n<|Zi f 0 N _ ?_ λk H e=>cL (k+7) e⟩⟩;unfold t7;simp only [bC,e9];exact o)
end
abbrev fk:=bo×aa bo×O×O
def fw(x:fk):=aR [aG x.1,aR<|sV x.2.1,ag x.2.2.1,ag x.2.2.2]
noncomputable def iA(x:fk):fk:=(x.1,x.2.1,x.2.2.1+1,x.2.2.2)
noncomputable def f6(x:fk):=x.2.1[x.2.2.1]?
noncomputable def t5:fk:=("$",["s"],0,0)
inductive Ea(D:gj)(em b:aa bo):O->fk->Prop
|st:Ea D em b 0 t5|pr {a x y o} (c:Ea D em b a x) (e:f6 x=J y) (m:(y,o)∈D):Ea D em b a (y,o,0,a)|sk {a x y} (c:Ea D em b a x) (e:f6 x=J y) (m:y∈em):Ea D em b a<|iA x|co {a x d} (c:Ea D em b a x) (e:U x.2.1<=x.2.2.1) (l:x.2.2.2<a) (f:Ea D em b x.2.2.2 d) (g:f6 d=J x.1):Ea D em b a<|iA d|sc {a x y} (c:Ea D em b a x) (e:f6 x=J y) (k:b[a]?=J y):Ea D em b (a+1)<|iA x
inductive Sd(D:gj)(em a:aa bo):O->fk->Prop
|st:Sd D em a 0 t5|sc {b x y} (c:Ea D em a b x) (e:f6 x=J y) (k:a[b]?=J y):Sd D em a (b+1)<|iA x
abbrev ki:=Ea D
def Sd.ea(s:Sd D em a b x):ki em a b x:=s.rec .st λa e k=> .sc a e k
def U4(D:gj)(a)(x:fk):=fF ((x.1,x.2.1)∈("$",["s"])::D) (x.2.2.1<=U x.2.1)<|x.2.2.2<=a
def FH(e:f6 x=J y):x.2.2.1<U x.2.1:=gl e
def Ea.u(a:ki em c b x):U4 D b x:=by
 induction a with
 |st=>exact bY b8 (cQ _)<|cQ _|pr a e m _=>exact bY (cz _ m) (cQ _)<|bb _|sk a e m d=>exact bY (d V) (FH e)<|d J2|co a e l b f _ d=>exact bY (d V) (FH f)<|ae (d J2)<|bU l|sc a e k d=>exact bY (d V) (FH e)<|hH<|d J2
def Qy(c:U D<=9)(d:∀q∈D,U q.2<=3)(b:e<=9)(nd:bw L)(a:∀x∈L,U4 D e x):U L<=400:=by
 have f:∀q∈("$",["s"])::D,U q.2<=3:=λq h=>by
  rcases mc h with rfl|h
  .exact lB 1 2
  .exact d q h
 refine q_ (λx g=>∃k,(("$",["s"])::D)[k]?=J (x.1,x.2.1)/\g=(k*4+x.2.2.1)*10+x.2.2.2) nd (λx j=>?_) λx j y l g q p=>aA q λk m e=>aA p λn o r=>?_
 .refine bp (gs.mp<|(a x j) V) λk m=>?_;exact⟨_,ig<|dZ (ri 10<|dZ (ri 4<|ae (lD<|gl m) c)<|ae ((a x j) J1)<|f _ ((a x j) V))<|ae ((a x j) J2) b,k,m,Y⟩
 .have s:=IB (ig<|ae ((a x j) J2) b) (ig<|ae ((a y l) J2) b)<|af e.symm r;have b:=IB (ig<|ae ((a x j) J1)<|f _ ((a x j) V)) (ig<|ae ((a y l) J1)<|f _ ((a y l) V)) s.1;rw [b.1] at m;rw [m] at o;have t:=aC o;exact p9 (rG t).1<|p9 (rG t).2<|p9 b.2 s.2
def tI(y:bo)(a:O)(q:bo×aa bo):bf fk:=aD (ng q.1 y) (J (q.1,q.2,0,a)) A
def rH(y)(a):=decide (f6 a=J y)
def lr(D:gj)(b:aa bo)(c:aa<|aa fk)(a:O)(x:fk):aa fk:=match f6 x with
|some y=>eI (tI y a) D++aD (b7 b y) [iA x] []|none=>aD (dI x.2.2.2 a) ((pY (rH x.1)<|F c x.2.2.2 []).map iA) []
noncomputable def gc(L)(x:fk):=aD (b7 L x) L<|L++[x]
def akK:y∈gc L x↔y∈L\/y=x:=by
 unfold gc;cases e:b7 L x with
 |true=>exact⟨aL,λh=>aO h id λz=>W z<|gG.mp e⟩|false=>exact jG oI<|or_congr_right qp
def afX(h:bw L):bw (gc L x):=by
 unfold gc;cases e:b7 L x with
 |true=>exact h|false=>exact ak nE ⟨h,Bb _ _,λy a z b q=>bR<|ak gG ((ms b▸q)▸a)▸e⟩
def acB:∃r,gc L x=L++r:=by
 unfold gc;cases b7 L x with
 |true=>exact⟨[],a4<|dB _⟩|false=>exact cL ([x]) rfl
def Bg(D)(em a)(b:aa<|aa fk):=uF<|∀c L,b[c]?=J L->(∀x,x∈L↔Ea D em a c x)/\bw L
def Yy:z∈eI (tI y a) D↔∃o,(y,o)∈D/\z=(y,o,0,a):=by
 rw [x1];refine⟨λb=>aA b λq c e=>?_,λd=>aA d λo c e=>⟨_,c,?_⟩⟩
 .unfold tI at e;rw [wh] at e
  by_cases h:q.1=y
  .rw [eZ h] at e;exact ax h<|⟨q.2,c,a4<|aC e⟩
  .rw [gh h] at e;exact aI e
 .unfold tI;simp only [wh,eZ Y,e];rfl
def K4(D)(em b)(c)(S:aa fk)(a h)(L):=j6 (∀x∈S,x∈L) (bw L) (∀x∈L,Ea D em b a x) (∀j x,j<h->L[j]?=J x->∀z∈lr D em c a x,z∈L)<|h<=U L
def K4.step{S L}(k:K4 D em c b S a h L)(o:Bg D em c b)(e:U b=a)(d:L[h]?=J x):K4 D em c b S a (h+1) ((lr D em b a x).foldl gc L):=by
 have f {M:aa fk}:∀{L},(∀y,y∈M.foldl gc L↔y∈L\/y∈M)/\(bw L->bw (M.foldl gc L))/\∃r,M.foldl gc L=L++r:=by refine @(M.rec (λ{L}=>⟨λy=>⟨aL,λh=>aO h id λz=>bG z⟩,id,[],a4<|dB _⟩) λx t g=>?_);intro L;have a:=g (L:=gc L x);refine⟨λy=>jG (a.1 y) ?_,λh=>a.2.1<|afX h,bp a.2.2 λr j=>bp acB λs l=>⟨s++r,ax (dy ..)<|ax l j⟩⟩;rw [akK,rj,or_assoc]
 obtain⟨m,nd,r,j⟩:=f;have n:=gl d;have p {z:fk} (q:ki em c a x) (h:z∈lr D em b a x):ki em c a z:=by
  unfold lr at h;cases j:f6 x with
  |some y=>
   rw [j] at h;rcases ma h with h|h
   .obtain⟨o,m,rfl⟩:=Yy.mp h;exact .pr q j m
   .cases v:b7 em y with
    |true=>rw [v] at h;exact W (ms h)<| .sk q j<|gG.mp v|false=>rw [v] at h;cases h
  |none=>
   rw [j] at h;cases v:dI x.2.2.2 a with
   |false=>rw [v] at h;cases h|true=>rw [v] at h;have v:=ht v;obtain⟨C,H,rfl⟩:=mm h;refine dC (rR.mp H) λH l=>?_;have g:=bK<|e▸v;rw [cZ,g] at H;exact .co q (tK.mp j) v ((((o V) _ _ g).1 C).mp H)<|ao l
 refine ec (λy I=>ak (m y)<|aL<|(k V) y I) (nd<|k J1) (λy I=>aO ((m y).mp I) ((k J2) y) λz=>p ((k J2) x<|aP d) z) (λN y Z I z t=>ak (m z) ?_) ?_
 .rw [j,hb<|cc Z n] at I;rcases CN (lD Z) with v|rfl
  .exact aL<|(k J3) N y v I z t
  .rw [d] at I;exact W (aC I)<|aw t
 .simp only [j,a3];exact ae n<|dO _ _
def K4.fin{S L}(k:K4 D em b c S a h L)(o:Bg D em b c)(e:U c=a)(f:U L<=h)(d:∀x,Sd D em b a x->x∈S):∀x,x∈L↔ki em b a x:=by
 have g:=λx j z l=>bp (gs.mp j) λj m=>(k J3) j x (cc (gl m) f) m z l
 refineλx=>⟨(k J2) x,λn=>?_⟩
 have go:∀j x,ki em b j x->j=a->x∈L:=by
  intro j x n
  induction n with
  |st=>intro p;subst p;exact(k V) _ (d _ .st)|@pr j x y o n p m q=>intro r;subst r;refine g x (q Y) _ ?_;unfold lr;exact W p<|gE _ (ak Yy ⟨_,m,Y⟩)|@sk j x y n p m q=>intro r;subst r;refine g x (q Y) _ ?_;unfold lr;exact W p<|fx _ (W (ak gG m) hf)|@co j x s n p l b f q _=>intro r;subst r;refine g x (q Y) _ ?_;unfold lr;refine W (show f6 x=A from iB p) ?_;refine W (show dI x.2.2.2 j=Q from xD l)<|ak jO ⟨s,ak rR ⟨?_,eZ f⟩,Y⟩;have g:=bK<|e▸l;refine W (cZ)<|W g ?_;exact ak (((o V) _ _ g).1 s) b|@sc j x y t p v _=>intro r;subst r;exact(k V) _ (d _ (.sc t p v))
 exact go a x n Y
def RR(D)(em a)(b)(c):=fF (b<=U a) (∀j<b,∃x y,Ea D em a j x/\f6 x=J y/\a[j]?=J y)<|(b=U a/\(c=Q↔Ea D em a b (iA t5)))\/b<U a/\c=u/\∀x y,Ea D em a b x->f6 x=J y->a[b]?≠J y
section
open Classical
def afQ:dV (eW a k v) x=if k=x then J v else dV a x:=by
 refine a.rec Y λe t b=>(?_:dV (if e.1=k then _::t else e::eW t k v) x=if k=x then J v else if e.1=x then J e.2 else dV t x)
 by_cases q:e.1=k
 .refine W (aJ q) (?_:(if e.1=x then J v else dV t x)=_);refine W q ?_
  by_cases z:k=x
  .exact W (aJ z)<|W (aJ z) Y
  .exact W (aS z)<|W (aS z)<|W (aS z) Y
 .refine W (aS q) ((W b ?_):(if e.1=x then J e.2 else dV _ x)=_)
  by_cases z:k=x
  .exact W (aJ z)<|W (aS λc=>q<|af c z.symm) (aJ z).symm
  .exact W (aS z)<|W (aS z) Y
def Qm:U (eW a k v)<=U a+1:=by
 refine a.rec (bb 1) λe t b=>(?_:U (if e.1=k then _::t else e::eW t k v)<=_)
 by_cases q:e.1=k
 .exact W (aJ q)<|e7 _
 .exact W (aS q)<|b3 b
def Jv{a:ai->Prop}(c:a k)(h:∀e∈b,a e.1):∀e∈eW b k v,a e.1:=by
 induction b with
 |nil=>intro e d;exact W (qp.mp d) c|cons e t f=>
  refine(?_:∀z∈(if e.1=k then _::t else e::eW t k v),a z.1)
  by_cases q:e.1=k
  .refine W (aJ q) λz g=>?_;rcases rj.mp g with rfl|g
   .exact h e b8
   .exact h z<|cz _ g
  .refine W (aS q) λz g=>?_;rcases rj.mp g with rfl|g
   .exact h z b8
   .exact f (λj l=>h j<|cz _ l) z g
end
def Yr:gz (fw x)=true:=by show((Q&&cS (sV x.2.1) _&&(Q&&(Q&&Q))):ba)=Q;exact W (ak gM λv a=>by obtain⟨s,_,rfl⟩:=mm a;rfl:cS (sV x.2.1) _=Q) Y
def KD(a)(L):=fF (∀x,d7 (dV a<|fw x)=b7 L x) (∀e∈a,kj e.1=3)<|U a<=U L
def KD.ok(d:KD a L)(x):ip a (fw x):=br Yr<|d J1
def ahl:KD [] []:=bY (λZ=>rfl) (λZ h=>bG h)<|bb 0
def KD.snoc(d:KD a L)(x):KD (eW a (fw x) v) (L++[x]):=by
 refine bY (λy=>?_) (Jv (a:=λk=>kj k=3) Y<|d J1) ?_
 .refine W afQ ?_
  by_cases e:fw x=fw y
  .have b:x=y:=by
    injection e with e
    injection e with a e
    injection e with c e
    injection e with f e
    injection e with d e
    injection a with a
    injection c with c
    injection f with f
    injection d with d
    exact p9 a<|p9 (XB c)<|p9 (eG f)<|eG d
   exact W (aJ e)<|W b (ak gG<|fx _ hf).symm
  .refine W (aS e)<|W (d V _) ?_;rw [qH,gG,gG,oI];exact⟨aL,λz=>aO z id λz=>ay (W (ms z) Y) e⟩
 .exact W a3<|ae Qm<|b3<|d J2
def akp{M}:∀{a} {L},KD a L->KD ((M.map λx=>(fw x,bT Q)).foldl (λd e=>eW d e.1 e.2) a) (L++M):=by
 induction M with
 |nil=>intro a L d;exact W (dB ..) d|cons x t b=>intro a L d;have c:=b<|d.snoc (v:=bT Q) x;rw [dy] at c;exact c
def w3:aa O->aa (aa fk)->Cs:=we λx=>az<|R fw x
def GV(h:a[s]?=J b)(k:c[s]?=J d):(w3 a c).at s=J (b,az<|R fw d):=V? (g:=λ(x:aa fk)=>az<|R fw x) h k
def adS(h:U a=U b):(w3 a b).cA c (az<|R fw x)=w3 (a++[c]) (b++[x]):=YF (g:=λ(x:aa fk)=>az<|R fw x) h
def OP:=sW<|sF<|sR Km.gY
def IS:=sW<|sF<|sR<|sR OP
structure KA where
se:O
li:O
kn:O
def pQ(D:gj)(b c:aa bo)(a:KA)(d h:O)(r:aW):aW:= .c 115 (gR D)<| .c 103 (aN<|sV b)<| .c 90 (aN<|sV c)<| .c 65 (aj a.se)<| .c 67 (ag d)<| .c 41 (aj a.li)<| .c 104 (aj a.kn)<| .c 35 (ag h) r
def oq(a:KA)(e:O)(L:aa fk)(c:aa<|ai×ai)(b:aa O)(d:aa<|aa fk):Cs:= .c a.li (az<|R fw L)<| .c a.kn (dD c e)<| .c a.se (az<|fP b)<|w3 b d
def Ek{M:aa fk}(k:O):(R fw M)[k]?=b4 fw (M[k]?):=cg ..
def F5{M}(a:Fr l n<| .c m (az<|R fw M)<|oq d e L b f g)(c:KD b L)(o:U L+U M<=900)
 (p:∀b e s,KD b (M.foldl gc L)->Fr l s (oq d e (M.foldl gc L) b f g)->N (pQ D h em d j k ar) s):c1 q r (sR<|sR<|sR<|sR IS) (pQ D h em d j k<| .c 49 (aj m) ar) n N t C:=by
 refine cb (a.lt 0 Y)<|cv Ek (λX X X=>pQ D h em d j k _) (λk X (v:aa _×O)=> .c m _ (oq d v.2 ((aF k M).foldl gc L) v.1 f g)) (λk X v=>KD v.1 ((aF k M).foldl gc L)/\U ((aF k M).foldl gc L)<=U L+k) () (b,e) a ⟨c,bb _⟩ (λX X X X a=>a.lt 0 Y) (λk x X v s y z H a I=>?_) λX v s H a=>?_
 .obtain⟨b,e⟩:=v;have I:=λb e s=>I () (b,e) s;rw [zH z] at I;refine dC H λc Z=>?_;generalize (aF k M).foldl gc L=h at a I c Z;have j:=ae Z<|bU<|cc (tv (gl z) _) o;have l:U (gc h x)<=U h+1:=by
   unfold gc;cases b7 h x with
   |true=>exact e7 _|false=>exact c6 a3
  refine Nz a 2 Y (c.ok x)<|W (c V _)<|jk<|ef (λz=>?_) λz=>?_
  .have n:gc h x=h:=by unfold gc;exact W z Y
   rw [n] at I;exact I b e s ⟨c,hH Z⟩ a
  .have n:gc h x=h++[x]:=by unfold gc;exact W z Y
   rw [n] at I l;refine u6 a 2 Y (c.ok x) (cf<|ae (c J2)<|ae j<|by decide) λN s a=>cH a 1 Y<|dF a 1 Y (W (bC ..)<|cf<|ae j<|by decide) λs a=>I _ N s ⟨c.snoc (v:=bT Q) x,ae l<|b3 Z⟩ ?_;unfold oq;exact W dv a
 .rw [dJ] at H a;exact p v.1 v.2 s H.1 a.tl
def afh(c:K<|b7 a s):mX (aG s) (aN<|sV a) b K:=by refine W q8 (?_:bE _ K);exact W (M7 ..) c
def Wm(D)(a em)(b)(c h m)(x:fk):=pQ D a em b c h<| .c 40 (aG x.1)<| .c 123 (aR<|sV x.2.1)<| .c 6 (ag x.2.2.1)<| .c 83 (ag x.2.2.2)<| .c 49 (aj m) ar
def NJ{a:aa b}:a.filterMap (λq=>b4 fw<|f q)=(eI f a).map fw:=a4 (N5 ..)
def ajK(d:f6 x=J y)(j:U D<=9)(k:U L<=400)(a:Fr m n<| .c o (az [])<|oq h e L f p g)(l:KD f L)
 (c:∀f e s,KD f ((lr D em g b x).foldl gc L)->Fr m s (oq h e ((lr D em g b x).foldl gc L) f p g)->N (pQ D q em h b r ar) s):c1 t v (sR<|sR IS) (Wm D q em h b r o x) n N z C:=by
 refine hZ (λX=>cb Y<|i3 d5 (λq=>b4 fw<|tI y b q) a (λX X X X=>rfl) (cf<|ae j<|by decide) (λH q I o s Z L f a h m=>?_) λI s a=>?_) λz=>ay (FH d)<|ak fU<|gm▸z
 .refine bJ Y (ku d)<|ef (λz=>h _ s (by unfold tI;refine W z ?_;rfl) a) λz=>m s (by unfold tI;refine W z ?_;rfl) a
 rw [NJ] at a;have a:=a.bN;refine bJ Y (ku d)<|afh ?_;have n:U (eI (tI y b) D)<=9:=ae (AQ ..) j;have p:lr D em g b x=eI (tI y b) D++aD (b7 em y) [iA x] []:=by unfold lr;exact W d Y
 rw [p] at c;refine ef (λz=>?_) λz=>?_
 .rw [z] at c;exact cH a 0 Y<|dF a 0 Y (W (bC ..)<|cf<|ae n<|by decide) λs a=>F5 (e:=e) (W dv<|a.pk [0,2,3,4] 5 (by decide)<|by decide) l (W a3<|ae (dZ k<|b3 n)<|ao Y) c
 .rw [z] at c;refine F5 (e:=e) ?_ l ?_ c
  .exact W (dB ..)<|a.pk [0,2,3,4] 5 (by decide)<|by decide
  .exact W (dB ..)<|ae (dZ k n)<|ao Y
def AA(y)(a):=aD (rH y a) (J a) A
def acJ{M:aa fk}:eI (AA y) M=pY (rH y) M:=by refine M.rec Y λa t b=>?_;rw [xW,zi,b];unfold AA;cases rH y a<;>rfl
def akj(n:U h=c)(o:U d=c)(k:f6 x=A)(p:∀(q:O) M,d[q]?=J M->U M<=400/\∀b∈M,b.2.2.1<=U b.2.1)(l:U L<=400)(a:Fr r t<| .c v (az [])<|oq j e L g h d)(m:KD g L)
 (f:∀g e s,KD g ((lr D em d c x).foldl gc L)->Fr r s (oq j e ((lr D em d c x).foldl gc L) g h d)->N (pQ D y em j c z ar) s):c1 C H (sR<|sR IS) (Wm D y em j c z v x) t N I Z:=by
 refine hZ (λz=>ay (tK.mp k)<|ak xP<|gm▸z) λX=>?_;have L:lr D em d c x=aD (dI x.2.2.2 c) ((pY (rH x.1)<|F d x.2.2.2 []).map iA) []:=by unfold lr;exact W k Y
 rw [L] at f;refine hZ (λz=>?_) λz=>?_
 .rw [show dI x.2.2.2 c=Q from xD z] at f;refine bp (show∃M,d[x.2.2.2]?=J M from cL _ (bK<|o▸z)) λM g=>bp (show∃j,h[x.2.2.2]?=some j from cL _ (bK<|n▸z)) λj q=>?_;rw [show F d x.2.2.2 []=M from aq (dN · []) g] at f;have r:=p _ _ g;refine dc a 3 Y (rU q)<|cb (a.lt (x.2.2.2+4)<|GV q g)<|i3 Ek (λb=>b4 fw<|AA x.1 b) a (λt o v a=>a.lt (x.2.2.2+4)<|Jc<|GV q g) (cf<|ae r.1<|by decide) (λj b N o s y C H a I Z=>?_) λb s a=>?_
  .refine bJ Y Y<|bJ Y Y<|Nf (λz=>?_) λz=>Z s ?_ a
   .rw [gm] at z;have k:=bK z;generalize b.2.1[b.2.2.1]=L at k;refine bJ Y Y<|bJ Y Y<|bJ Y (ku k)<|rW (λe=>I _ s ?_ a) λe=>Z s ?_ a
    .unfold AA rH f6;simp only [k,e,eZ Y];rfl
    .unfold AA rH f6;simp only [k,gh λz=>e<|aC z];rfl
   .rw [gm] at z;unfold AA rH f6;refine W (iB z) ?_;rfl
  rw [NJ,acJ] at a;have a:=a.bN;have h:U (pY (rH x.1) M)<=400:=ae (A5 ..) r.1;refine cb (a.lt 0 Y)<|i3 Ek (λb=>J<|fw<|iA b) a (λt o v a=>a.lt 0 Y) (cf<|ae h<|by decide) (λj b N o s y C H a I Z=>?_) λN s a=>?_
  .exact bJ Y Y<|bJ Y Y<|bJ Y Y<|bJ Y Y<|I _ s Y a
  have a:=a.bN;refine F5 (e:=e) ?_ m ?_ f
  .have n:(pY (rH x.1) M).filterMap _=((pY _ M).map iA).map fw:=W jD<|p2 Cz _;exact ax n<|a.pk [0,3,4,5] 6 (ao Y)<|ao Y
  .exact W (bC ..)<|ae (dZ l h)<|ao Y
 .rw [show dI x.2.2.2 c=u from W kS<|gh<|ak fU z] at f;exact F5 a m (ae l<|ao Y) f
def ail(n:L[h]?=J x)(o:U f=b)(p:U c=b)(q:U D<=9)(r:∀(t:O) M,c[t]?=J M->U M<=400/\∀g∈M,g.2.2.1<=U g.2.1)(j:U L<=400)(a:Fr v y<|oq e k L d f c)(l:KD d L)
 (m:∀d k s,KD d ((lr D em c b x).foldl gc L)->Fr v s (oq e k ((lr D em c b x).foldl gc L) d f c)->N (pQ D z em e b (h+1) ar) s):c1 C H IS (pQ D z em e b h ar) y N I Z:=by
 refine dc a 0 Y (by simp only [cg,n];rfl) ?_;refine aV a λL s a=>?_;have a:=a.bN;cases b:f6 x with
 |some y=>exact ajK b q j a l m|none=>exact akj o p b r j a l m
def asP{S:aa fk}:yD (S.map λx=>aR [fw x,bT Q])=J (S.map λx=>(fw x,bT Q)):=S.rec Y λx t a=>by refine((aq _ a):b4 _ (yD _)=_)
def alL(l:U D<=9)(n:∀r∈D,U r.2<=3)(p:a<=9)(t:U m=a)(o:Bg D em b c)(j:U c=a)(v:K4 D em b c q a 0 L)(k:KD d L)(y:∀x,Sd D em b a x->x∈q)(e:Fr z C<|oq f g L d m c)
 (H:∀L d g h s,bw L->(∀x,x∈L↔ki em b a x)->KD d L->U L<=400->Fr z s (oq f g L d m c)->N (pQ D b em f a h ar) s):c1 I Z (sF<|sR<|sR OP) (pQ D b em f a 0 ar) C N À Á:=by
 refine n5 (λh Y=>400-h) (λh Y=>pQ D b em f a h ar) (λY r=>oq f r.2.2 r.1 r.2.1 m c) (λh r=>K4 D em b c q a h r.1/\KD r.2.1 r.1) 0 (L,d,g) e ⟨v,k⟩ λh r s z C e N=>?_;obtain⟨L,d,g⟩:=r;obtain⟨I,k⟩:=C;have Z:=Qy l n p (I J1) λx a=>((I J2) x a).u;refine hF e<|hZ (λz=>?_) λz=>?_
 .rw [bC] at z;have a:=bK z;have b:∀r (M:aa fk),c[r]?=J M->U M<=400/\∀f∈M,f.2.2.1<=U f.2.1:=λr M m=>by have q:=(o V) r M m;exact⟨Qy l n (ae (bU<|j▸(gl m)) p) q.2 λx a=>((q.1 x).mp a).u,λf v=>((q.1 f).mp v).u J1⟩
  exact ail a t j l b Z e k λC c s r e=>N _ (_,C,c) s (xq (cc z Z)<|g9 h) ⟨I.step o j a,r⟩ e
 .rw [bC] at z;exact H L d g h s (I J1) (I.fin o j z y) k Z e
def Te{r:aa bo}:gK r d (d+1)=[k]↔r[d]?=J k:=by
 unfold gK;refine W x_<|W (uP ..)<|ax (Dc) ?_;cases cq d r with
 |nil=>exact⟨AO,λh=>aI h⟩|cons x t=>exact⟨λh=>by cases h;rfl,λh=>by cases h;rfl⟩
def aly(c:K<|decide (a=[k])):bE (xB xw (aR<|sV a)<|aR [aG k]) K:=by
 rw [show xB xw _ _=J _ from ?_]
 .exact c
 .show ez (b4 OW _) (λa=>b4 _ (b4 OW<|toPs (toP 199)<|sV [k]))=_;rw [toPs_sV,toPs_sV];exact aq J akg
def si(k)(x):=aD (decide (gK x.2.1 x.2.2.1 (x.2.2.1+1)=[k])) (J<|iA x) A
def F_{L:aa fk}:z∈eI (si k) L↔∃x∈L,f6 x=J k/\z=iA x:=by
 rw [x1];refine VY λx=>F9 λZ=>?_;unfold si
 by_cases h:gK x.2.1 x.2.2.1 (x.2.2.1+1)=[k]
 .exact W (eZ h)<|⟨λe=>⟨Te.mp h,a4<|aC e⟩,λe=>aq J e.2.symm⟩
 .exact W (gh h)<|⟨aI,λe=>ay (ak Te e.1) h⟩
def Ψ(h:iA x=iA y):x=y:=by obtain⟨a,b,c,d⟩:=x;cases h;rfl
def aii(È:U c<=9)(m:b<=U c)(Þ:U h=b)(p:Bg D em c g)(Ý:U g=b)(nd:bw L)(k:∀x,x∈L↔ki em c b x)(Ð:KD Õ L)(Ç:U L<=400)
 (n:∀j<b,∃x y,ki em c j x/\f6 x=J y/\c[j]?=J y)(a:Fr t É<|oq f e L Õ h g)
 (Ê:∀d s Æ,RR D em c b d->Fr t s Æ->À (aR [ag b,bT d]) s)
 (Á:∀Ô (S:aa fk) s,b<U c->bw S->(∀x,Sd D em c (b+1) x↔x∈S)->Bg D em c (g++[L])->(∀j<b+1,∃x y,ki em c j x/\f6 x=J y/\c[j]?=J y)->
  Fr t s (.c Ô (az<|R fw S)<| .c f.se (az<|fP<|h++[f.li])<|w3 (h++[f.li])<|g++[L])->Â (.c 115 (gR D)<| .c 103 (aN<|sV c)<| .c 90 (aN<|sV em)<| .c 65 (aj f.se)<| .c 125 (aj Ô) ar) s):c1 Ã Ä (sR<|sR<|sR OP) (pQ D c em f b l ar) É Â À Å:=by
 refine cH a 2 Y<|dF a 2 Y (by unfold fP;exact W (bC ..)<|W Þ<|cf<|ae m<|ae È<|ao Y) λs a=>?_;have a:Fr t s (.c f.kn (dD Õ e)<| .c f.se (az<|fP<|h++[f.li])<|w3 (h++[f.li])<|g++[L]):=by have a:=a.Bv;unfold fP;exact W dv<|ax (adS<|af Þ Ý.symm) a
 refine hj (a:=b) (b:=U<|sV c) (λI=>?_) λI=>?_
 .rw [gm] at I;refine Nz a 0 Y (Ð.ok<|iA t5)<|Ê _ s _ (bY m n<|aL ⟨I,?_⟩) a;show d7 (dV Õ<|fw<|iA t5)=Q↔_;refine W (Ð V _) ?_;rw [gG];exact k _
 .rw [gm] at I;have H:b<U c:=yf m I;have N:=bK H;generalize c[b]=z at N;have Ë:(h++[f.li])[b]?=J f.li:=by refine ax Þ<|W (hV<|bb _)<|W (pR ..) ?_;rfl
  have gl:(g++[L])[b]?=J L:=by refine ax Ý<|W (hV<|bb _)<|W (pR ..) ?_;rfl
  refine cb (a.lt (b+2)<|GV Ë gl)<|i3 Ek (λd=>b4 fw<|si z d) a (λn p Ì a=>a.lt (b+2)<|Jc<|GV Ë gl) (cf<|ae Ç<|ao Y) (λj d Í p s Î Ï v a Ñ Ò=>?_) λd s a=>?_
  .refine bJ (k:=1) (x:=aR<|sV d.2.1) Y Y<|bJ (k:=2) (x:=ag d.2.2.1) Y Y<|bJ (k:=2) (x:=ag d.2.2.1) Y Y ?_;have Ó {C:aa bo} {r:O} {Ö:aa ai->Prop} (l:r<=U C) (Ø:Ö<|sV<|gK C r<|r+1):mi (sV C) (ag r) (ag<|(r:au)+1) Ö:=by
    refine W yE ?_;unfold AJ;refine W We<|W Nt (?_:Ö _);refine W gm<|W (gq l) ?_;have e:gK (sV C) r (min (r+1) (U C))=sV (gK C r<|r+1):=by unfold gK;refine ax gm<|ax List.take_eq_take_min ?_;unfold sV;exact W Jq<|W tq Y
    exact W e Ø
   refine Ó (((k d).mp<|aP v).u J1)<|bJ Y (ku N)<|aly<|ef (λe=>?_) λe=>Ò s (by unfold si;refine W e ?_;rfl) a;exact bJ (k:=0) (x:=aG d.1) Y Y<|bJ (k:=1) (x:=aR<|sV d.2.1) Y Y<|bJ (k:=2) (x:=ag d.2.2.1) Y Y<|bJ (k:=3) (x:=ag d.2.2.2) Y Y<|Ñ _ s (by unfold si;refine W e ?_;rfl) a
  rw [NJ] at a;have a:=a.bN;refine aV a λÍ s a=>?_;have a:=a.bN;have Ü:∀x,Sd D em c (b+1) x↔x∈eI (si z) L:=λx=>by
   rw [F_];refine⟨λl=>?_,λÙ=>hv Ù λy á e Ú=>Ú▸ .sc ((k y).mp á) e N⟩;cases l with
   |@sc _ y _ Z e Û=>rw [N] at Û;exact W (aC Û) ⟨y,ak (k y) Z,e,Y⟩
  refine Fv a 1 0 Y Y (λC=>?_) λC=>?_
  .refine Ê u s _ (bY m n<|aw ⟨H,Y,λx y Z e q=>?_⟩) a;have o:=(Ü<|iA x).mp<| .sc Z e q;rw [Pz.mp C] at o;exact bG o
  .have ß {z:bo} (l:bw L):bw (eI (si z) L):=by
    refine ak List.pairwise_filterMap<|l.imp λ{x y} à I r d v e=>?_;unfold si at r v;cases q:decide (gK x.2.1 x.2.2.1 _=[z]) with
    |false=>exact aI<|q▸r|true=>
     cases â:decide (gK y.2.1 y.2.2.1 _=[z]) with
     |false=>exact aI<|â▸v|true=>rw [q] at r;rw [â] at v;obtain rfl:=aC r;obtain rfl:=aC v;exact à<|Ψ e
   refine Á d _ s H (ß nd) Ü ((by
    refine iC λZ r e=>?_
    by_cases q:Z<U g
    .rw [hb q] at e;exact(p V) Z r e
    .rw [hV<|j3 q] at e;have I:=BX.mp (ka.mp e).1;rw [I] at e;have o:Z=U g:=hL (zw I)<|j3 q;exact ax (aC e)<|W o<|⟨Ý▸k,nd⟩)) (λj o=>?_) (a.pk [1,3] 4 (ao Y)<|ao Y)
   rcases CN (lD o) with q|rfl
   .exact n j q
   .cases q:eI (si z) L with
    |nil=>rw [q] at C;exact ay Y C|cons x r=>exact hv (F_.mp (q▸b8:x∈eI (si z) L)) λy á e X=>⟨y,z,(k y).mp á,e,N⟩
def akR(d:U D<=9)(e:∀q∈D,U q.2<=3)(c:U a<=9)(h:∀f b,RR D (iw D<|U D) a f b->j (aR [ag f,bT b]) g):aK (n+2) 265 [gR D,aN<|sV a] g j k:=by
 refine a7 Km (.c 115 (gR D)<| .c 103 (aN<|sV a) ar) Y Y<|acN d e ?_;generalize iw D (U D)=l at h;refine aV de λm s o=>aV o λp s o=>?_;have o:=o.bN;refine br (mR (m:=U (sV a)+1)<|W gm<|ae (b3 c)<|of_decide_eq_true rfl) ?_;have o:Fr g s (.c p (az<|R fw [t5])<| .c m (az<|fP [])<|w3 [] []):=o;refine cv (mU (m:=U (sV a)+1)) (λX (r:O) _=> .c 115 (gR D)<| .c 103 (aN<|sV a)<| .c 90 (aN<|sV l)<| .c 65 (aj m)<| .c 125 (aj r) ar) (λX r (t:aa O×aa (aa fk)×aa fk)=> .c r (az<|R fw t.2.2)<| .c m (az<|fP t.1)<|w3 t.1 t.2.1)
  (λk r t=>k<=U a/\U t.1=k/\Bg D l a t.2.1/\U t.2.1=k/\bw t.2.2/\(∀x,Sd D l a k x↔x∈t.2.2)/\∀j<k,∃x y,ki l a j x/\f6 x=J y/\a[j]?=J y) p ([],[],[t5]) o
  ⟨cQ _,Y,iC λX X v=>aI v,Y,Bb _ _,λx=>⟨λh=>by cases h;exact hf,λh=>W (ms h) .st⟩,λX h=>ay h<|fC _⟩ (λX X X X X=>rfl) (λk x r t s z C H o I=>?_) λr t s H o=>?_
 .obtain⟨L,N,S⟩:=t;obtain⟨rfl,Z⟩:=ly C;refine ahV H λf q n g a l p=>?_;have y:U S<=400:=Qy d e (ae f c) a λx C=>(ak (l x) C).ea.u;refine hF o<|aV o λk s o=>?_;have o:=o.bN;refine cb (o.lt 1 Y)<|i3 Ek (λx=>J<|aR [fw x,bT Q]) o (λr t Z o=>o.lt 1 Y) (cf<|ae y<|by decide) (λj b r t s j Z t o r j=>r _ s Y o) λb s o=>?_;have o:=o.bN;have Z:eI (λx=>J<|aR [fw x,bT Q]) S=S.map λx=>aR [fw x,bT Q]:=p2 (Cz (f:=λx=>aR [fw x,bT Q])) _;rw [Z] at o;refine hF o<|W asP<|⟨⟨W (bC ..)<|bU<|cf<|ae y<|by decide,λv t=>?_⟩,?_⟩
  .obtain⟨x,_,rfl⟩:=mm t;exact br rfl Yr
  refine m8 o λr v s o=>?_;have o:=o.bN;exact alL (f:=⟨m,k,r⟩) (Á:=z) (L:=S) (q:=S) d e (ae f c) q n g (ec (λX h=>h) a (λx C=>(ak (l x) C).ea) (λX X h=>ay h<|fC _)<|cQ _) (akp ahl) (λx=>(l x).mp) (o.pk [2,0,4] 5 (ao Y)<|ao Y) λj Z v y s nd t m z o=>aii c f q n g nd t m z p o (λb s r d o=>m9 o<|h _ b d) λe x s C a l v Z o=>I e (L++[k],N++[j],x) s ⟨C,by simp only [a3,q];rfl,v,by simp only [a3,g];rfl,a,l,Z⟩ o
 .have y:=H.1;rw [e9,gm] at y;exact ay y<|L7 _
inductive Dn(D:gj):aa bo->aa bo->Prop
|nil:Dn D [] []|tm {k r a} (h:k∈e3) (c:Dn D r a):Dn D (k::r)<|k::a|nt {l o r b a} (m:(l,o)∈D) (c:Dn D o b) (d:Dn D r a):Dn D (l::r)<|b++a
abbrev km:=Dn D
def Dn.app(a:km x b)(c:km y v):km (x++y) (b++v):=a.rec c (λh Z d=> .tm h d) λm a Z Z d=>W (dy ..)<| .nt m a d
def Dn.one(m:(l,o)∈D)(a:km o b):km [l] b:=by have c:=Dn.nt m a .nil;rw [dB] at c;exact c
def Dn.self(h:∀k∈x,k∈e3):km x x:=by
 induction x with
 |nil=>exact .nil|cons k r a=>exact .tm (h k b8)<|a λk b=>h k<|cz _ b
def cU.adR(g:k8)(h:x∈e3++ls):∃v,km [x] v:=by
 rcases ma h with h|h
 .exact⟨[x], .tm h .nil⟩
 .have f:=(g J1) J1 x h;unfold uX at f;cases e:Bq _ D with
  |none=>exact bR<|e▸f|some q=>rw [e] at f;have a:=List.find?_some e;exact ax (eq_of_beq a)<|⟨q.2, .one (List.mem_of_find?_eq_some e)<| .self λk b=>gG.mp<|(oY f) k b⟩
def BP:ji a x=a\/(x.1∉a/\(∀y∈x.2,y∈a)/\ji a x=a++[x.1]):=by
 unfold ji;cases e:b7 a x.1 with
 |true=>exact aL Y|false=>
  cases b:cS x.2 (b7 a) with
  |false=>exact aL Y|true=>exact aw ⟨λz=>bR<|ak gG z▸e,λy c=>gG.mp<|oY b y c,Y⟩
def alS(m:x∈D)(h:∀y∈a,km [y] []):∀y∈ji a x,km [y] []:=by
 rcases BP with e|⟨_,b,e⟩
 .exact W e h
 .refine W e λy c=>?_;rcases ma c with z|z
  .exact h y z
  .refine W (ms z)<| .one m ?_;have d:∀f,(∀y∈f,y∈a)->km f []:=λf=>f.rec (λZ=> .nil) λz r g=>λk=>(h z<|k z b8).app<|g λj l=>k j<|cz _ l;exact d _ b
def š{b:aa bo->Prop}{c}(d:∀q∈c,q∈D)(e:∀a,∀x∈D,b a->b (ji a x)):∀{a},b a->b (qo c a):=by
 induction c with
 |nil=>exactλh=>h|cons x r f=>exactλ{a} h=>f (λq g=>d q<|cz _ g)<|e a x (d x b8) h
def Y3{a:aa bo->Prop}(c:a [])(d:∀b,∀x∈D,a b->a (ji b x)):∀k,a (iw D k):=λk=>k.rec c λk e=>š (λZ h=>h) d e
def aa0:∀{b},U (qo b a)<=U a->(∀x∈b,ji a x=a)/\qo b a=a:=by
 have c:∀b (a:aa bo),U a<=U (qo b a):=by
  refineλb=>b.rec (λZ=>bb _) λx r d=>λa=>ae ?_<|d _
  rcases BP with e|⟨_,_,e⟩
  .exact W e<|bb _
  .simp only [e,a3];exact dO _ _
 refineλb=>b.rec (λZ=>br (λZ h=>bG h) rfl) λx r d=>λh=>?_
 have f:ji a x=a:=by
  rcases BP with e|⟨_,_,e⟩
  .exact e
  .have g:=ae (c r _) h;rw [e,a3] at g;exact ay g<|L7 _
 have j:qo (x::r) a=qo r a:=by show qo r _=_;exact aq _ f
 rw [j] at h⊢;have k:=d h;exact⟨λy l=>aO (mc l) (λe=>e▸f)<|k.1 y,k.2⟩
def acu:∀{a},(∀x∈a,ji b x=b)->qo a b=b:=by intro a;refine a.rec (λZ=>rfl) λx r c h=>by refine(?_:qo r _=b);exact W (h x b8)<|c λy d=>h y<|cz _ d
def amn:∀k,(∀x∈D,ji (iw D k) x=iw D k)\/k<=U (iw D k):=by
 refineλk=>k.rec (aw<|cQ _) λk a=>?_
 have e:iw D (k+1)=qo D _:=Y;rcases a with c|l
 .exact W e<|W (acu c)<|aL c
 .rcases h0 (U<|iw D k) (U<|iw D _) with q|q
  .exact aw<|ae (b3 l) q
  .have f:=aa0 q;exact W e<|W f.2<|aL f.1
def cU.agU(g:cU ls D)(m:(l,o)∈D)(h:∀x∈o,x∈iw D (U D)):l∈iw D (U D):=by
 have nd:=Y3 (a:=λa=>bw a/\∀y∈a,y∈ls) ⟨h9,λZ h=>bG h⟩ (λa x b d=>dC d λn s=>by
  rcases BP with e|⟨a,_,e⟩
  .exact W e<|⟨n,s⟩
  .refine W e<|⟨ak nE ⟨n,Bb _ _,λy f z j q=>a ?_⟩,λy f=>aO (ma f) (s y) λz=>?_⟩
   .simp only [<-ms j,<-q];exact f
   .exact W (ms z) ((g J1) V x b).1)<|U D
 rcases amn (U D) with c|c
 .rcases BP with e|⟨_,_,e⟩
  .unfold ji at e;cases q:b7 (iw D<|U D) l with
   |true=>exact gG.mp q|false=>rw [show(l,o).1=l from Y,q] at e;rw [show(l,o).2=o from Y,ak gM λx k=>ak gG<|h x k] at e;have:=aq U e;rw [show U (aD u (iw D<|U D) _)=U (iw D<|U D)+1 from a3] at this;exact ay this<|Au _
  .rw [c _ m] at e;have:=aq U e;rw [a3] at this;exact ay this.symm<|Au _
 .refine Cg λn=>?_;have p:U ls<=U D:=by have:=Tz D (a:=[]);rw [(g J1) J2,Ll,eJ] at this;exact this
  have:=L9 (ak jc ⟨n,nd.1⟩) λx k=>aO (mc k) (λe=>e▸((g J1) V _ m).1)<|nd.2 x;exact ay (ae this<|ae p c)<|L7 _
def Z1:gK b a a=[]:=B3<|W dU (m4 ..)
def Ag(h:b<=a):aF b c++gK c b a=aF a c:=by have d:=vE b<|aF a c;rw [K3,gq h] at d;exact d
def Um{ls}{D}(g:cU ls D)(h:k∈iL):k∉ls:=by
 have a:∀k∈iL,k∉["s","t"]/\k∉["s","t","u"]:=by decide+kernel
 rcases(g V) with rfl|rfl
 .exact(a k h).1
 .exact(a k h).2
def U4.ok(g:k8)(a:U4 D b x):∀y∈x.2.1,y∈e3++ls:=by
 rcases mc (a V) with e|m
 .exact W (aq (·.2) e:x.2.1=["s"]) λy c=>W (ms c)<|fx _ g.uJ.2.2.1
 .exact((g J1) V _ m).2.2
def I9(e:f6 x=J y):aF (x.2.2.1+1) x.2.1=aF x.2.2.1 x.2.1++[y]/\aF x.2.2.1 x.2.1++y::cq (x.2.2.1+1) x.2.1=x.2.1:=by refine br (fR e) ?_;have a:=vE (x.2.2.1+1) x.2.1;rw [fR e,dy] at a;exact a
def PV(D)(a)(b)(x:fk):=eY (Dn D (aF x.2.2.1 x.2.1)<|gK a x.2.2.2 b)<|∀v,Dn D x.2.1 v->∃c,Dn D ["s"]<|aF x.2.2.2 a++v++c
def PV.k'(g:k8)(s:PV D P d x)(a:U4 D d x)(e:f6 x=J y)(b:km [y] v):∃c,km ["s"] (aF d P++v++c):=by
 have f {h:aa bo} (j:∀x∈h,x∈e3++ls):∃v,km h v:=by
  induction h with
  |nil=>exact cL ([]) .nil|cons x r k=>exact bp (g.adR<|j x b8) λa b=>bp (k λy l=>j y<|cz _ l) λv m=>⟨a++v,b.app m⟩
 refine bp (f λz n=>a.ok g z<|p! n (i:=x.2.2.1+1)) λo m=>?_;have p:=(s V).app<|b.app m;rw [List.singleton_append,(I9 e).2] at p;refine bp ((s J1) _ p) λc d=>⟨o++c,?_⟩;rw [<-dy,<-dy,Ag<|a J2] at d;rw [dy,dy] at d;exact W (dy ..) d
def Ea.s(g:k8)(c:∀k∈P,k∈iL)(a:ki (iw D<|U D) P b x):PV D P b x:=by
 induction a with
 |st=>exact cj (W Z1 .nil) λv h=>⟨[],W (dB ..) h⟩|pr a e m d=>exact cj (W Z1 .nil) λv h=>d.k' g a.u e<| .one m h|sk a e m d=>refine cj ?_<|d J1;have f {k:O} {y:bo} (h:y∈iw D k):km [y] []:=Y3 (a:=λj=>∀y∈j,km [y] []) (λZ h=>bG h) (λZ Z m h=>alS m h) k y h;have l:=(d V).app<|f m;rw [dB,<-(I9 e).1] at l;exact l|@co b x n a e o p f q r=>
  refine cj ?_<|r J1;have m:(x.1,x.2.1)∈D:=by
   rcases mc (a.u V) with z|m
   .have l:x.1="$":=aq (·.1) z;exact ay (p.u.ok g _ (aP f))<|l▸(by rcases(g V) with e|e<;>rw [e]<;>decide+kernel)
   .exact m
  have t:=q V;dsimp only [JE] at t;rw [A8 e] at t;have l:=(r V).app<| .one m t;have C:gK P (gr<|gr<|gr n) (gr<|gr<|gr x)++gK P (gr<|gr<|gr x) b=gK P (gr<|gr<|gr n) b:=(q? _).mp<|ax (dy ..)<|W (Ag<|p.u J2)<|W (Ag<|bU o)<|W (Ag<|ae (p.u J2)<|bU o) Y;rw [<-(I9 f).1,C] at l;exact l
 |@sc b x y a e k d=>refine cj ?_<|d J1;have l:=(d V).app<| .tm (aO (ma<|a.u.ok g y<|aP e) id λz=>ay z<|Um g<|c y<|aP k) .nil;have H:gK P (gr<|gr<|gr x) (b+1)=gK P (gr<|gr<|gr x) b++[y]:=(q? _).mp<|ax (dy ..)<|W (Ag<|a.u J2)<|W (Ag<|hH<|a.u J2)<|fR k;rw [<-(I9 e).1,<-H] at l;exact l
def ah1(g:k8)(c:∀k∈P,k∈iL)(a:ki (iw D<|U D) P d x)(e:f6 x=J y)(k:P[d]?=J y):∃b,km ["s"] (aF (d+1) P++b):=by obtain⟨b,d⟩:=(a.s g c).k' g a.u e<| .tm (aO (ma<|a.u.ok g y<|aP e) id λz=>ay z<|Um g<|c y<|aP k) .nil;exact W (fR k)<|⟨b,d⟩
noncomputable def nm(G:Gr)(s):=F G.cI s ""
def lM(G:Gr)(r:O)(a:Ru)(d b:O):fk:=aD (aE r 0) ("$",["s"],d,b) (nm G a.aY,R (nm G) a.aQ,d,b)
def Pb(a:fW):nm G G.iU="s":=by unfold nm;refine W (cZ)<|W (a J2) ?_;rfl
def IX(c:fm)(f:fW)(b:G.a5[r]?=J a)(e:a.aQ[d]?=J s)(g:s≠0):f6 (lM G r a d h)=J (nm G s):=by
 induction r with
 |zero=>rw [c.r0] at b;obtain rfl:=aC b;refine jQ (a:=λd=>f6 (lM G 0 ⟨G.nT,[G.iU,0],_⟩ d h)=_) e (λe=>?_) λe=>ay e.symm g;refine(?_:J "s"=J _);simp only [<-e,Pb f]|succ r=>refine(?_:(R (nm G) a.aQ)[d]?=_);simp only [cg,e];rfl
def ais:iA (lM G r a d b)=lM G r a (d+1) b:=by cases r<;>rfl
def GP.mem(b:fW)(c:r≠0)(d:G.a5[r]?=J a):(nm G a.aY,R (nm G) a.aQ)∈D:=hv (b.rule (qq c) d) λk Z h Z=>aP h
def z4(D)(em b)(G)(j a):=∀o,(nm G a,o)∈D->Ea D em b j (nm G a,o,0,j)
def QL(a:ki em b j x)(e:f6 x=J (nm G s)):z4 D em b G j s:=λo m=> .pr a e m
def ŗ(e:fm)(f:fW)(t:EJ (λa b=>∃r t,r∈G.a5/\r.aY=a/\r.aQ=b::t) a b)(c:a≠G.nT)(h:z4 D em d G j a):z4 D em d G j b/\b≠G.nT:=by
 have g:∀{a b},(∃r t,r∈G.a5/\r.aY=a/\r.aQ=b::t)->a≠G.nT->z4 D em d G j a->z4 D em d G j b/\b≠G.nT:=by
  intro a b k c h;refine gv k λr t l m n=>bp (gs.mp l) λo p=>?_;have q:o≠0:=λz=>by rw [z,e.r0] at p;obtain rfl:=aC p;exact c m.symm
  have s:=f.mem q p;rw [m] at s;exact⟨QL (h _ s)<|W n Y,λz=>e.acc r l<|W n<|W z b8⟩
 exact t.rec (λe=>g e c h) λZ e v=>g e v.2 v.1
def NN(D)(em a)(G)(b:aa O)(k j c):=∀r d o e,At G c r d o e->d<=k/\∃f,b[k-d]?=J f/\Ea D em a j (lM G r e d f)
def ace(c:e6)(t:EJ (λa b=>∃r t,r∈G.a5/\r.aY=a/\r.aQ=b::t) a b):G.nT<=a:=by refine t.rec (λe=>by refine gv e λr t d e Z=>?_;exact e▸(c.lt r d).1.1) λZ Z f=>f
def P_(a:fm)(d:fW)(c:qy)(e:f∈i)(m:g[k]?=J j)(h:∀b∈f.b5,NN D em l G g k j b):∀b∈f.it,NN D em l G g k j b:=by
 refineλb n=>aA ((c J4) f e) λo p q=>?_
 rw [q] at n;rcases tR.mp n with r|⟨s,t,v,x,rfl⟩
 .exact h b r
 intro y z o C H;obtain⟨rfl,rfl,rfl⟩:=(gV v<|cQ _).uM H;refine⟨cQ _,j,m,?_⟩;have I:=((p J1) _).mp x;have L:s≠0:=λz=>by rw [z,a.r0] at v;obtain rfl:=aC v;exact(I.nt a (c V) ((c J9) f e).2) Y
 suffices r:z4 D em l G j t.aY by have:=r _ (d.mem L v);unfold lM;exact W (d4 L) this
 refine aA I λb n z=>aA z λs N q=>?_;refine hI (((c J9) f e).2 b n) λZ g k y o=>?_;refine dC (h b n Z g k y o) λX z=>aA z λb X C=>?_;rw [o.bH] at N;have m:s≠G.nT:=λz=>a.acc y (aP<|o J3)<|z▸(aP N);have H:0<G.nT:=cc (ao Y) a.t3;rcases q with q|q
 .exact W q<|QL C<|IX a d (o J3) N λz=>ay (ae (a.lt t<|aP v).1.1<|c6<|af q z)<|ak xP H
 .have t:=(c V) J5 s _ q;exact(ŗ a d t m<|QL C<|IX a d (o J3) N λz=>ay (z▸ace a.toGW t)<|ak xP H).1
def qZ(D)(em c)(G)(i)(st b a)(d):=om (l6 i st b) (U a=U st) (a[0]?=J 0) (a[U b]?=J d) (∀k p j,st[k]?=J p->a[k]?=J j->∀e,iQ i p e->NN D em c G a k j e)<|∀k s f g,b[k]?=J s->a[k]?=J f->a[k+1]?=J g->f<=g/\(f=g->nm G s∈em)
def qZ.zero(a:fm)(c:fW)(b:qy):qZ D em d G i [0] [] [0] 0:=by refine e1 Bk Y Y Y (λk p j e f g h=>?_) λZ Z Z Z l=>aI l;have m:=BX.mp<|gl e;subst m;obtain rfl:=aC e;refine ax (aC f)<|aA (b J1) λn o q=>aA h λf r h=>?_;rw [r] at o;obtain rfl:=aC o;refine P_ a c b (aP r) Y (λg h=>?_) g h;rw [q] at h;refine W (ms h) λr d o s t=>?_;obtain⟨rfl,rfl,rfl⟩:=(u3 a).uM t;exact⟨bb _,0,Y, .st⟩
def rz{c:Type}{a d:aa c}(h:b<U a):(a++d)[b]?=a[b]?:=hb h
def vF{b:Type}{a}{y:b}(h:c=U a):(a++[y])[c]?=J y:=by simp only [h,hV<|bb _,pR];rfl
def AK{c:Type}{a}{y z:c}(h:(a++[y])[b]?=J z):(b<U a/\a[b]?=J z)\/(b=U a/\z=y):=by
 rcases h0 b (U a) with q|q
 .exact aL ⟨q,by rw [hb q] at h;exact h⟩
 .have l:=gl h;rw [a3] at l;have e:=hL (lD l) q;rw [vF e] at h;exact aw ⟨e,a4<|aC h⟩
def qZ.pl(c:qZ D em d G i st a b j):U b=U a+1:=af (c J1)<|(c V) V
def qZ.push(f:fm)(g:fW)(b:qy){p q s a}(c:qZ D em d G i st e h j)(l:st[U e]?=J p)(m:go i p s=J q)(Å:s≠0)(Ã:j<=a)(Á:j=a->nm G s∈em)
 (À:∀x,ki em d j x->f6 x=J (nm G s)->ki em d a (iA x)):qZ D em d G i (st++[q]) (e++[s]) (h++[a]) a:=by
 have v:=c.pl;have y:U (e++[s])=U h:=by simp only [a3,v];rfl
 refine e1 ((c V).tF l m) (by simp only [a3,a3,c J1];rfl) (W (rz<|by rw [v];exact kv _)<|c J2) (vF y) (λk z Â H I L N=>?_) λk Ä a d x q s=>?_
 .rcases AK H with ⟨e,H⟩|⟨h,y⟩
  .rw [rz<|(c J1)▸e] at I;intro t r C o a;refine dC ((c J4) k z Â H I L N t r C o a) λz H=>aA H λd s Z=>?_;exact⟨z,d,by rw [rz<|cF (lT ..)<|(c J1)▸e];exact s,Z⟩
  .subst y;have n:=af h (c J1).symm;rw [vF n] at I;obtain rfl:=aC I;refine aA N λI I N=>P_ f g b (aP I) (vF n) (λL N=>?_) L N;obtain⟨Æ,rfl,L,Ç⟩:=b.Wi m I N;refine hI (L.va b) λb È N I m=>?_;refine dC ((c J4) _ p j l (c J3) Æ L b È N I m) λz H=>aA H λd s Z=>?_;refine dC (HX m Ç) λj p=>λt r C o a=>?_;obtain⟨rfl,rfl,rfl⟩:=j.uM a;refine⟨by simp only [n,v];exact b3 z,d,?_,ax ais<|À _ Z (IX f g (m J3) p Å)⟩;rw [n,v,ID,rz<|by rw [v];exact ig (lT ..)];exact s
 .rcases AK x with ⟨e,x⟩|⟨h,y⟩
  .rw [rz<|by rw [v];exact rM e] at q;rw [rz<|by rw [v];exact xn e] at s;exact(c J5) k Ä a d x q s
  .subst h;subst y;rw [rz<|by rw [v];exact g9 _,c J3] at q;rw [vF v.symm] at s;exact ax (aC q)<|ax (aC s)<|⟨Ã,Á⟩
set_option tactic.hygienic true in
def qZ.cut(c:qZ D em g G i st d e j)(f:m<=U d)(a:e[m]?=J b):qZ D em g G i (aF (m+1) st) (aF m d) (aF (m+1) e) b:=by
 have h:∀{k} {l n} {x:O},_[l]?=J x->l<n/\k[l]?=J x:=λ{k l n x} o=>by
  rw [ha] at o;split at o
  .rename_i q;exact br q o
  .exact aI o
 have p:∀{k:aa O} {l n},l<n->_[l]?=k[l]?:=λ{k l n} o=>W (ha)<|aJ o;refine e1 ((c V).cut f) (W dU<|W dU<|aq _ (c J1)) (W (p<|kv _)<|c J2) ?_ (λk r j s t l v=>?_) λk y b z C a H=>?_
 .exact W dU<|W (gq f)<|W (p<|g9 _) a
 .intro I d o L N;refine dC ((c J4) k r j (h s).2 (h t).2 l v I d o L N) λZ m=>aA m λz H e=>?_;exact⟨Z,z,W (p<|cF (lT ..) (h s).1) H,e⟩
 .exact(c J5) k y b z (h C).2 (h a).2 (h H).2
def no2(c:k8)(a:fm)(d:fW){r:O}(b:G.a5[r]?=J f):2∉f.aQ:=λh=>by
 induction r with
 |zero=>
  rw [a.r0] at b;obtain rfl:=aC b;rcases mc h with e|e
  .exact ay (cF a.t3<|e▸a.st)<|ao Y
  .exact vX<|ms e
 |succ r=>
  have m:=((c J1) V _ (d.mem (IT r) b)).2.2 _ (hY h);have e:nm G 2="$undefined":=by unfold nm;refine W (cZ)<|W (d J5) ?_;rfl
  rw [e] at m;revert m;rcases(c V) with e|e<;>(rw [e];decide+kernel)
def XR(a:k8)(b:fm)(c:fW){r:O}(d:G.a5[r]?=J e)(h:tn G k∈e.aQ):nm G (tn G k)=k:=by
 unfold tn at h⊢;cases e:g7 k _ with
 |none=>rw [e] at h;exact ay h<|no2 a b c d|some f=>
  have g:=BC e;rw [ha] at g;split at g
  .unfold nm;refine W (cZ)<|W g ?_;rfl
  .exact aI g
abbrev vv(D):=iw D<|U D
def HK(D)(a)(j):=∃x y,Ea D (vv D) a j x/\f6 x=J y/\a[j]?=J y
def Cl(D)(a)(G)(i)(c:Cf):=om (∃b d,qZ D (vv D) a G i c.st b d c.sp/\U c.ts=U b) (c.fl=[]) (c.pl=[]) (c.qu=0) (c.sp<=U a)<|∀j<c.sp,HK D a j
def Cl.zero(a:fm)(b:fW)(c:qy):Cl D P G i c0:=e1 ⟨[],[0], .zero a b c,Y⟩ Y Y Y (cQ _) λZ h=>ay h<|fC _
def W!{a:O}(h:(fB P)[a]?=J k)(n:k≠"$end"):P[a]?=J k:=by
 rcases AK h with ⟨_,h⟩|⟨_,e⟩
 .exact h
 .exact ay e n
def Cl.step(Å:k8)(d:fW)(a:fJ)(b:Cl D P G i c)(Æ:(fB P)[c.sp]?=J k)(Á:cG c.st=J å)(Ä:el B å (tn G k)≠0)(s:lW c k å A À):Cl D P G i À:=by
 refine hs (b V) λl Ë n Ð=>?_;have p:=n V;have r:=p.jx▸Á;have t:=p.lt (a J1) r;have Í:=tc (a V).toGW k;generalize Ï:(A:bf ba)=Ó at s
 induction s with
 |acc C=>exact aI Ï|rp C H I=>exact aI Ï|oh C H L Ô Ú Ó=>exact aI Ï|mI C=>exact ay C Ä|nc I C Ô Â=>
  refine dC (a.QJ t Í C Ô Â) λj Õ=>?_;have Ç:k≠"$end":=λz=>Õ<|W z<|Ca d (a V).toGW;have Ã:∃h e f L,G.a5[h]?=J f/\f.aQ[e]?=J (Zq.tn G k)/\ki (Zq.vv D) P (Zq.Cf.sp c) (lM G h f e L):=by exact aA (wx j) λÈ É H=>aA ((a J1).lM É<|hY<|qc H) λÊ Ø Ì=>hI (Ø.va<|a J1) λh e Ó f Î=>dC ((n J4) _ å (Zq.Cf.sp c) r (n J3) Ê Ø h e Ó f Î) λX z=>aA z λL X v=>⟨h,e,f,L,Î J3,ax Î.bH Ì,v⟩
  refine Ch Ã λh e f L x o v=>?_;have Ñ:=XR Å (a V) d x<|aP o;have Ò:=W! Æ Ç;have y:=IX (a V) d (h:=L) x o Õ;refine e1 ⟨_,_,n.push (a V) d (a J1) r j Õ (e7 _) (λz=>ay z (Au _).symm) λN Ö y=> .sc Ö y<|W Ñ Ò,?_⟩ (b J1) (b J2) (W (b J3) Y) (xu Æ (b J4) Ç) λg m=>?_
  .simp only [bL,bL,Ð]
  .rcases iN.mp m with z|rfl
   .exact(b J5) g z
   .exact⟨_,k,v,W y<|aq _ Ñ,Ò⟩
 |red h f Ô Ù Z C Û x H Ú Ü=>
  rcases a.qs (bK t) Í with ⟨Ý,j,N⟩|⟨j,Þ,ß,N⟩|⟨j,N⟩
  .exact ay (af N.symm C)<|mD Û
  .have à:=eG<|p8.mp<|af C.symm N;subst à;refine zm (p.red (a V) (a J1) r (bK t) ß) λá â ã ä=>?_;obtain rfl:=aC<|af x.symm<|ä V;have q:Z=U l-U f.aQ:=by simp only [<-Ð,H,wt]
   have æ:c.st[Z]?=J â:=W q<|ä J3;refine W (aC<|af Ú.symm æ) ?_;have rl:=(a V).toGW.lt f<|aP x;have ç:Z<=U l:=W q (lT ..);have è:U (aF Z l)=Z:=by simp only [dU,gq ç]
   have é:=ih Û;refine dC (((a J1).wd (a V).toGW<|xR t).2.1 h ß) λX z=>aA z λê ë Ø=>?_;obtain rfl:=aC<|af x.symm ë;refine dC ((n J4) _ å c.sp r (n J3) _ ⟨_,bK t,Ø⟩ h _ _ f (gV x<|bb _)) λX z=>aA z λL ì v=>?_;rw [<-q] at ì;have í:lM G h f (U f.aQ) L=(nm G f.aY,R (nm G) f.aQ,U f.aQ,L):=by unfold lM;exact W (d4 é) Y
   rw [í] at v;have î:∀e,e+Z<=U l->∀I,Ë[Z+e]?=J I->L<=I/\(I=L->∀g<e,∀s,l[Z+g]?=J s->nm G s∈vv D):=by
    refineλe=>e.rec (by exactλX I ï=>by rw [ĺ,ì] at ï;exact W (aC ï)<|⟨bb _,λX g m=>ay m<|fC g⟩) λe ð=>λo I ï=>?_
    have ñ:e+Z<U l:=by rw [V0] at o;exact o
    rw [eU] at ñ;obtain⟨ò,ó⟩:∃ò,Ë[Z+e]?=some ò:=cL _<|bK<|W n.pl<|rM ñ;have ô:=ð (W (eU ..)<|bU ñ) ò ó;have õ:=(n J5) _ _ ò I (bK ñ) ó ï;refine⟨ae ô.1 õ.1,λz g m s p=>?_⟩;have ö:=hL (z▸õ.1) ô.1;rcases iN.mp m with ø|rfl
    .exact ô.2 ö g ø s p
    .rw [bK ñ] at p;exact ax (aC p)<|õ.2<|af ö z.symm
   have ù:Z+U f.aQ=U l:=W q<|As<|ä J1;have o:=î (U f.aQ) (by simp only [eU,ù];exact bb _) c.sp<|W ù<|n J3;have ú:L=c.sp->nm G f.aY∈vv D:=λz=>by refine Å.agU (d.mem é x) λN û=>?_;obtain⟨s,p,rfl⟩:=mm û;refine bp (gs.mp p) λg m=>o.2 z.symm g (gl m) s ?_;have ü:=aq (·[g]?)<|ä J2;rw [FD,<-q,m] at ü;exact ü
   have m:f.aY≠0:=λz=>ay (z▸rl.1.1)<|ak xP<|cc (ao Y) (a V).t3;refine e1 ⟨_,_,(n.cut ç ì).push (a V) d (a J1) ?_ ((a.zk rl.1.1<|p.lt (a J1) Ú).mp Ü) m o.1 ú λN Ö y=>?_,?_⟩ (b J1) (b J2) (b J3) (b J4)<|b J5
   .rw [è,ha,aJ<|g9 Z];exact Ú
   .rcases CN o.1 with z|z
    .exact .co v (c6<|bC _) z Ö y
    .subst z;exact .sk Ö y<|ú Y
   .simp only [bL,bL,è,dU,Ð,gq ç]
  .exact ay (eG<|p8.mp<|af C.symm<|af N (af Me.symm Y:_= -((0:O):au)))<|ih Û
def m'(a:fJ)(c:q<U i)(d:t<G.nT)(h:el B q t=1048576):t=0/\∃b,go i q 0=J b:=by
 rcases a.qs (bK c) d with ⟨b,g,x⟩|⟨g,r,e,x⟩|⟨g,x⟩
 .cases z:aE t 0 with
  |true=>have z:=d9 z;exact ax z<|⟨Y,b,g⟩|false=>exact ay ((a J1).v9 g)<|ak fU<|ae (bU<|(a J1) J2)<|c6 (z▸(eG<|af x.symm h)).symm
 .exact ay (af h.symm x)<|mD (a.vK (aP<|bK c) e).1
 .exact ay (eG<|af h.symm x)<|ao Y
inductive Dr(G:Gr):aa O->aa O->Prop
|nil:Dr G [] []|tm {t r a} (h:t<G.nT) (d:Dr G r a):Dr G (t::r)<|t::a|nt {k:O} {b:Ru} {r c a:aa O} (e:G.a5[k]?=J b) (n:b.aY≠G.nT) (d:Dr G b.aQ c) (f:Dr G r a):Dr G (b.aY::r)<|c++a
inductive iR(G:Gr)(B:Tb)(Z:aa O):aa O->O->Prop
|acc {st a q t} (d:cG st=J q) (e:(Z++[0])[a]?=J t) (h:el B q t=1048576):iR G B Z st a|nc {st a q t} (b:O) (d:cG st=J q) (e:(Z++[0])[a]?=J t) (h:el B q t=b) (p:0<b) (l:b<1048576) (r:iR G B Z (st++[b])<|a+1):iR G B Z st a|red {st a q t} (r:O) (c:Ru) (p f m:O) (d:cG st=J q) (e:(Z++[0])[a]?=J t) (h:el B q t= -(r:au)) (g:0<r) (j:G.a5[r]?=J c) (k:U st=m+1+U c.aQ) (n:st[m]?=J p) (o:cK (F B.nO p []) c.aY=J f)
 (s:iR G B Z (aF (m+1) st++[f]) a):iR G B Z st a
def L_(a:fJ)(o:B.n1=[])(q:EL G i (CS X M) s){f}(j:g4 st g)(b:st[g.length]?=J p)(e:Rat G i p r c)(v:s p c.aY t)(k:g4 f<|g++c.aQ)(x:f[(g++c.aQ).length]?=J d)(y:pv i p c.aQ=J d)
 (l:aF st.length f=st)(m:t<G.nT)(z:(Z++[0])[n]?=J t)(Â:∀h,go i p c.aY=J h->iR G B Z (st++[h]) n):iR G B Z f n:=by
 refine aA (e V) λH I L=>aA ((a J1).pO I L) λh N U=>?_;have Z:0<r:=qq λn=>by have s:G.a5[r]?=_:=e J1;rw [n,(a V).r0] at s;obtain rfl:=aC s;exact(e J2) Y
 have H:=(j V).symm;refine .red r c p h g.length (k.jx▸x) z ((by
  refine aA ((q J2) p r c d t e y v) λI L Ä=>?_;refine dC (((a J2) V J1 d r).mp<|aP L) λU n=>aA n λv x y=>?_;refine rK ((a J3) J4 d v x (gl x) J1) λz I lk Å À Á=>?_;have Z:=qq (((a J1).wd (a V).toGW<|aP x).2.1 r y).1;have x:=Á o t m;refine aA (mm ((lk V)▸y:r∈R (·.1) z)) λo b y=>?_;have C:o.2.testBit t=true:=by refine aA ((lk J1) o b) λÃ q v=>?_;rw [y] at q;obtain⟨Æ,Ç⟩:=ka.mp L;obtain⟨È,L⟩:=ka.mp q;rw [v,<-(Bi<|(a J2) V V).mp (Ç.trans L.symm)];exact Ä
  have q:∀o∈z,o.2.testBit t=Q->o.1∈rl z t:=λo b v=>x1.mpr ⟨o,b,by unfold Ad;refine W v ?_;rfl⟩;have L:=(x V).resolve_left λn=>by have s:=q o b C;exact bG<|n▸s
  have z:I.getD t 0= -(r:au):=by
   rcases(Å J2) t m L with ⟨m,L,É,v⟩|⟨_,n⟩
   .have Æ:=q o b C;simp only [v,l1m (x J1) (q m L É) Æ,y]
   .exact bR<|(n o b).symm.trans C
  have x:=λn=>ih Z<|eG<|Uc.mp n;rcases À with ⟨o,y⟩|⟨o,C,y⟩
  .have q:xp B d t= -(r:au):=by unfold xp;exact W y z
   simp only [Ej<|q▸x,q]
  .have q:xp B d t=wo (B.rf.getD d 0) (I.getD t 0):=by unfold xp;rw [y,WU (b:=(0:au))<|JM<|mD<|qq o]
   by_cases v:I.getD t 0= -(B.rf.getD d 0:au)
   .rw [WE v] at q;simp only [EG q,<-z,v];rfl
   .rw [JM v,z] at q;simp only [Ej<|q▸x,q])) Z (e J1) ?_ ?_ ((a.zk ((a V).toGW.lt c<|aP<|e J1).1.1<|j.lt (a J1) b).mpr N) ?_
 .simp only [k V,a3,jf]
 .have s:(aF st.length f)[g.length]?=J p:=W l b;rw [ha,aJ<|ax H<|g9 _] at s;exact s
 .rw [H,l];exact Â h N
def zu{a b:aa d}(h:cq c a=x::b):a[c]?=J x/\cq (c+1) a=b:=⟨by refine ax (Dc)<|W h ?_;rfl,by refine ax B1<|W h ?_;rfl⟩
def cpl(b:fJ)(À:B.n1=[])(Ä:EL G i (CS X M) Â)(v:∀t∈Ò,t<G.nT)(Ã:Dr G l e):∀{c d} {h p r g f t} {a} {j},g4 c d->c[U d]?=J p->pv i h (aF g a.aQ)=J p->Rat G i h r a->cq g a.aQ=l->Â h a.aY t->cq f (Ò++[0])=e++t::j->
 (∀k q,g4 k (d++l)->k[U<|d++l]?=J q->pv i h a.aQ=J q->aF (U c) k=c->iR G B Ò k (f+U e))->iR G B Ò c f:=by
 have Á:∀{f t},(Ò++[0])[f]?=J t->t<G.nT:=λ{f t} y=>by
  rcases AK y with ⟨_,y⟩|⟨_,z⟩
  .exact v t<|aP y
  .exact W z<|cc (ao Y) (b V).t3
 induction Ã with
 |nil=>
  refineλc d h p r g f t a j C H I L N Û s x=>x c p (W (dB ..) C) (W (dB ..) H) ?_ dJ
  have o:=vE g a.aQ;rw [N,dB] at o;exact ax o I
 |@tm È ñ e Å Æ Ç=>
  intro c d h p r g f t a j C H I L N Û s x;have n:=zu N;have É:=zu s;refine aA (L V) λÊ Ë Ì=>?_;have Í:=gl n.1;refine aA ((b J1).FY (g:=a.aY) Ë Ì (L J1) g<|bU Í) λÎ Ï Ð=>?_;cases af Ï.symm I;refine aA ((b J1).pO Ð<|W (gV (L J1)<|bU Í).bH n.1) λÑ Z T=>?_;have Ó:=C.lt (b J1) H;have Ô:r≠0:=λÕ=>by have o:G.a5[r]?=_:=L J1;rw [Õ,(b V).r0] at o;cases o;exact(L J2) Y
  have Ö:È≠0:=λÕ=>by obtain⟨Ø,rfl⟩:=K0 Ô;exact(b V).e0 Ø a (L J1)<|Õ▸aP n.1
  have Ù:el B p È=(Ñ:O):=by
   rcases b.qs (bK Ó) Å with ⟨Ú,v,Ü⟩|⟨v,_,_,_⟩|⟨v,_⟩
   .rw [d4 Ö] at Ü;rw [Z] at v;exact W (aC v) Ü
   .exact iG<|Z▸v
   .exact iG<|Z▸v
  refine .nc Ñ (C.jx▸H) É.1 Ù (qq<|(b J1).Jt Z) (fe ((b J1).v9 Z)<|(b J1) J2)<|Ç (C.tF H Z) (p:=Ñ) ?_ ?_ L n.2 Û É.2 λk q â Ý Þ ß=>?_
  .simp only [bL,<-(C V)];exact vF Y
  .simp only [fR n.1,G6,I];exact Z
  .have à:d++[È]++ñ=d++È::ñ:=dy ..;rw [à] at â Ý;have o:=x k q â Ý Þ ?_
   .rw [hS,eU<|U e,<-cx] at o;exact o
   .have o:=aq (·.take (U c)) ß;rw [K3,bL,gq<|e7 _,EN] at o;exact o
 |@nt á v ñ ã ä å æ Æ ç è é=>
  intro c d h p r g f t a j C H I L N Û s x;have n:=zu N;refine aA (L V) λÊ Ë Ì=>?_;have Í:=gl n.1;refine aA ((b J1).FY (g:=a.aY) Ë Ì (L J1) g<|bU Í) λÎ Ï Ð=>?_;cases af Ï.symm I;have ê:bH G _=J v.aY:=W (gV (L J1)<|bU Í).bH n.1;have ì:Rat G i p á v:=bY ⟨_,Ð,ê⟩ å æ;have ë:Gn G i h r a g v.aY p:=dS L n.1 (((b V).toGW.lt v<|aP å).1.1) I;obtain⟨h,ð,í,î⟩:∃h ð,ä++t::j=h::ð/\Â p v.aY h:=by
   have ï {l:aa O} {e:aa O} (Ã:Dr G l e):(e=[]/\∀N∈l,m7 G N)\/∃t m,e=t::m/\Fs G l t:=by
    induction Ã with
    |nil=>exact aL ⟨Y,λT y=>bG y⟩|tm y _ _=>exact aw ⟨_,_,Y,[],_,_,Y,λT y=>bG y, .t y⟩|@nt x a r j e ó ò Æ ç è é=>
     have ô:=aP ó;rcases è with ⟨rfl,Ï⟩|⟨t,m,rfl,⟨l,õ,ö,z,ø,ù⟩⟩
     .have ú:m7 G a.aY:= .mk a ô Ï;rcases é with ⟨rfl,Ð⟩|⟨t,m,rfl,⟨l,õ,ö,z,ø,ù⟩⟩
      .exact aL ⟨Y,λN û=>aO (mc û) (λz=>z▸ú)<|Ð N⟩
      .exact aw ⟨t,m,Y,a.aY::l,õ,ö,aq _ z,λN û=>aO (mc û) (λz=>z▸ú)<|ø N,ù⟩
     .exact aw ⟨t,m++e,Y,[],a.aY,r,Y,λT y=>bG y, .r l õ ö ô z ø ù⟩
   rcases ï ç with ⟨rfl,a⟩|⟨h,m,rfl,e⟩
   .exact⟨t,j,Y,(Ä J1) _ _ _ _ _ _ ë (n.2▸a) t Û⟩
   .exact⟨h,m++t::j,Y,(Ä V) _ _ _ _ _ _ ë h (n.2▸e)⟩
  rw [dy,í] at s;refine è C H (g:=0) Y ì Y î s λr y z N l t=>?_;have g:cq (f+U ã) (Ò++[0])=h::ð:=by rw [<-B1,s,Py]
  refine L_ b À Ä C H ì î z N l t (Á (zu g).1) (zu g).1 λÑ Z=>é (C.tF H Z) (p:=Ñ) ?_ ?_ L n.2 Û (af g í.symm) λk q â Ý Þ ß=>?_
  .simp only [bL,<-(C V)];exact vF Y
  .simp only [fR n.1,G6,I];exact Z
  .have à:d++[v.aY]++ñ=d++v.aY::ñ:=dy ..;rw [à] at â Ý;have o:=x k q â Ý Þ ?_
   .rw [a3,<-cx] at o;exact o
   .have o:=aq (·.take (U c)) ß;rw [K3,bL,gq<|e7 _,EN] at o;exact o
def aj9(a:fJ)(b:B.n1=[])(c:∀t∈Z,t<G.nT)(d:Dr G [G.iU] Z):iR G B Z [0] 0:=by
 refine bp ((a J2) J3) λe f=>?_;generalize g:[G.iU]=h at d
 induction d with
 |nil=>cases g|tm h j=>cases g;exact ay h<|ak fU<|bU (a V).st|@nt k l r m n o n j p=>
  have q:=a4 (hp g).1;have s:=a4 (hp g).2;subst s;cases p;refine aA ((a J1) J1) λv x y=>?_;have z:=u3<|a V;have C:x3 0 0:=⟨v,x,(a J1).Gb (aP x) 0<|W y hf⟩;have H:Rat G i 0 k l:=bY ⟨0,C,W q z.bH⟩ o n;have I:e 0 l.aY 0:=W q<|f J3;have L:0<G.nT:=cc (ao Y) (a V).t3;rw [dB] at c⊢;refine cpl a b f c j Bk Y (g:=0) Y H Y I Y λN Z t h r g=>W (eJ ..) ?_;have p:_[U m]?=J 0:=vF Y;refine L_ a b f Bk Y H I t h r g L p λs v=>?_;rw [q] at v;refine aA ((a J1).pO C z.bH) λx y k=>?_;cases af v.symm y;have o:=(gV (a V).r0 (d:=1)<|bl Y).bH;rw [<-z.c8] at o;refine aA ((a J1).pO k o) λn e X=> .acc (q:=s) Y p ?_;rcases a.qs (bK<|(a J1).v9 v) L with ⟨l,g,x⟩|⟨g,_,_,_⟩|⟨g,_⟩
  .exact x
  .exact iG<|af e.symm g
  .exact iG<|af e.symm g
def RJ{G}(h:z<G.nS):G.cI[z]?=J (nm G z):=by unfold nm;refine W (cZ)<|W (bK h) ?_;rfl
def Dn.dr(b:fW)(c:fm)(d:∀z<G.nS,nm G z∈e3->z<G.nT)(e:km f g):∀{a},(∀z∈a,z<G.nS)->R (nm G) a=f->Dr G a (R (tn G) g):=by
 refine @(e.rec (λZ e=>a4 (Pz.mp e)▸ .nil) (λh j k=>?_) λm j l n o=>?_)
 .intro a l e
  induction a with
  |nil=>cases e|cons z r=>
   have e:=hp e;have p:=d z (l z b8)<|e.1▸h;have q:tn G (nm G z)=z:=by
    unfold tn;rw [Of<|MP (R8 ..)<|b J6]
    .rfl
    .exact W (ha)<|W (aJ p)<|RJ<|fe p c.toGW.nT
   simp only [ud,<-e.1,q];exact .tm p<|k (λy s=>l y<|cz _ s) e.2
 .intro a l e
  induction a with
  |nil=>cases e|cons z r=>have e:=hp e;refine bp (gs.mp m) λk t=>hv ((b J1) k _ _ t) λv x C H=>?_;exact W (yg (b J6) (RJ<|l z b8)<|e.1▸C)<|W dv<| .nt x (c.rs k v x) (n (λy s=>(c.lt v<|aP x).2 y s) H.symm)<|o (λy s=>l y<|cz _ s) e.2
def Yf(a:fW)(b:fJ)(c:B.n1=[])(d:∀z<G.nS,nm G z∈e3->z<G.nT)(e:km ["s"] f):iR G B (R (tn G) f) [0] 0:=by
 refine aj9 b c (λt g=>?_)<|e.dr a (b V) d (λz h=>a4 (ms h)▸(gl<|a J2)) ?_
 .obtain⟨k,_,rfl⟩:=mm g;exact tc (b V).toGW k
 .rw [ud,Pb a];rfl
def i!(c:fW)(d:e6){b:O}(e:(a++["$end"])[b]?=J k):(R (tn G) a++[0])[b]?=J (tn G k):=by
 have f:R (tn G) a++[0]=R (tn G) (a++["$end"]):=by simp only [dv,ud,Ca c d];rfl
 simp only [f,cg,e];rfl
def LC{r:O}(a:0<r): -(r:au)≠0:=λz=>ih a<|eG<|Uc.mp z
def QB{a r:O}(b:0<r):(a:au)≠-(r:au):=by lia
def iR.inv{b:Prop}(g:iR G B Z st d)(e:cG st=J q)(f:(Z++[0])[d]?=J t)(h:el B q t=1048576->b)
 (j:∀x:O,el B q t=x->0<x->x<1048576->iR G B Z (st++[x]) (d+1)->b)
 (k:∀(r:O) a p c m,el B q t= -(r:au)->0<r->G.a5[r]?=J a->U st=m+1+U a.aQ->st[m]?=J p->cK (F B.nO p []) a.aY=J c->iR G B Z (aF (m+1) st++[c]) d->b):b:=by
 induction g with
 |acc l n o=>exact h<|W (aC<|af e.symm l)<|W (aC<|af f.symm n) o|nc x l n o p s r=>exact j x (W (aC<|af e.symm l)<|W (aC<|af f.symm n) o) p s r|red r a p c m l n o v y z C H I=>exact k r a p c m (W (aC<|af e.symm l)<|W (aC<|af f.symm n) o) v y z C H I
def iR.na{c:Cf}(a:iR G B Z c.st c.sp)(b:cG c.st=J q)(d:(Z++[0])[c.sp]?=J (tn G k)):el B q (tn G k)≠0:=λz=>a.inv b d (λh=>ay (af z.symm h)<|ao Y) (λx h p X X=>ih p<|eG<|af h.symm z) λr X X X X h e X X X X X=>LC e<|af h.symm z
def iR.step(a:iR G B Z c.st c.sp)(f:U c.st=U c.ts+1)(b:cG c.st=J q)(d:(Z++[0])[c.sp]?=J (tn G k))(s:lW c k q A e):iR G B Z e.st e.sp:=by
 generalize g:(A:bf ba)=o at s
 induction s with
 |acc h=>exact aI g|rp h e j=>exact aI g|oh h e l p m o=>exact aI g|mI h=>exact ay h<|a.na b d|nc x h p l=>exact a.inv b d (λn=>ay l<|ak fU<|c6 (eG<|af h.symm n).symm) (λy n Y Y r=>(eG<|af h.symm n)▸r) λr t p v z n C Y Y Y Y Y=>ay (af h.symm n)<|QB C|red r t p v z h C H e m I=>refine a.inv b d (λn=>ay (af n.symm h)<|QB C) (λy n Y Y Y=>ay (af n.symm h)<|QB C) λL N c Z q n Y k s j g o=>?_;have x:r=L:=eG<|p8.mp<|af h.symm n;have l:t=N:=aC<|af H.symm<|x▸k;have a:z=q:=G2 (m:=U t.aQ)<|af e.symm<|f7<|af f.symm<|af (l▸s:_=q+1+t.aQ.length) (jf ..);have b:p=c:=aC<|af m.symm<|a▸j;have d:v=Z:=aC<|af I.symm<|b▸l▸g;exact a▸d▸o
def gB.pre(s:lW c k q o a):(∃r,a.fl=c.fl++r)/\∃r,a.pl=c.pl++r:=by
 have z:∀{b} (d:aa b),∃r,d=d++r:=λd=>⟨[],a4<|dB _⟩;have e:(∃r,eK G B c k q=c.fl++r)/\∃r,eE c=c.pl++r:=by
  delta eK eE;cases aE c.qu 0 with
  |true=>exact⟨⟨_,Y⟩,_,Y⟩|false=>exact⟨z _,z _⟩
 induction s with
 |oh=>exact e|mI=>exact e|_=>exact⟨z _,z _⟩
def nM.pre(r:ju c o):∀{b} {a},o=J (b,a)->(∃r,a.fl=c.fl++r)/\∃r,a.pl=c.pl++r:=by
 induction r with
 |ov h=>exact aI|eo=>exact aI|en h d e s l=>intro b a f;cases f;exact s.pre|st h d e s r g=>intro b a f;obtain⟨⟨j,k⟩,m,n⟩:=s.pre;obtain⟨⟨p,q⟩,t,v⟩:=g f;exact⟨⟨j++p,W q<|W k (dy ..)⟩,m++t,W v<|W n (dy ..)⟩
inductive S!(D:gj)(a:aa bo)(G:Gr)(B:Tb)(c:Cf)(f:ba)(b:Cf):Prop
|ok (k:f=Q) (g:b.fl=[]) (l:Ea D (vv D) a (U a)<|iA t5) (h:∀j<U a,HK D a j)|jE (p:O) (m:c.sp<=p) (lp:p<=U a) (g:b.fl≠[]) (n:lH b.pl=J p) (h:∀j<p,HK D a j) (o:∀d:aa bo,(∀e≤p,(d++["$end"])[e]?=(fB a)[e]?)->¬iR G B (R (tn G) d) c.st c.sp)
def aeG(Ã:k8)(e:fW)(a:fJ)(Ä:"$end"∉P)(r:ju c o):Cl D P G i c->∀{d} {b},o=J (d,b)->S! D P G B c d b:=by
 have h:∀{c b} {k} {q},Cl D P G i c->(fB P)[c.sp]?=J k->cG c.st=J q->el B q (tn G k)=0->(∃r,b.fl=eK G B c k q++r)->(∃r,b.pl=eE c++r)->∀{d},S! D P G B c d b:=by intro c b k q j l m n r s d;refine bp r λp t=>bp s λv x=>?_;unfold eK at t;unfold eE at x;rw [j J3] at t x;exact .jE c.sp (bb _) (j J4) (W t<|W (j J1) jI) (W x<|W (j J2) Y) (j J5) λv y z=>z.na m (i! e (a V).toGW<|af (y _ (bb _)) l) n
 have C:∀{H} (I:aa H),∃r,I=I++r:=λI=>⟨[],a4<|dB _⟩
 induction r with
 |ov n=>exactλX X X L=>aI L|eo=>exactλX X X L=>aI L|@en c b k q d n l m s Ç=>
  intro j Z Â L;cases L;generalize eo:J d=o at s
  induction s with
  |acc n=>
   have Á:c.sp=U P/\ki (vv D) P (U P) (iA t5):=by
    refine hs (j V) λË À I H=>?_;have f:=I V;have g:=f.jx▸m;obtain⟨Å,Æ,Ï⟩:=m' a (f.lt (a J1) g) (tc (a V).toGW k) n;have L:c.sp=U P:=by
     rcases AK l with ⟨_,n⟩|⟨L,_⟩
     .exact ay ((I6 e (a V).toGW).mp Å▸aP n) Ä
     .exact L
    refine br L<|ax L<|aA (wx Ï) λÈ É x=>aA ((a J1).lM É<|hY<|qc x) λÊ x Z=>hI (x.va<|a J1) λp Ì Í Î N=>?_;obtain⟨_,Ð,Ñ,Ò⟩:=(I J4) _ q c.sp g (I J3) Ê x p Ì Í Î N;rw [N.bH] at Z;have x:p=0:=by
     induction p with
     |zero=>rfl|succ r=>exact ay (aP Z)<|(a V).e0 r Î<|N J3
    subst x;obtain rfl:=aC<|af (N J3).symm (a V).r0;have p:Ì=1:=jQ (a:=(·=1)) Z (λL=>ay ((show G.iU=0 from L)▸(a V).st:G.nT<0)<|fC _) λX=>rfl;subst p;rw [f.acc (a V) (a J1) g Ï] at Ñ;have N:Ð=0:=by have x:=af Ñ.symm<|I J2;exact aC x
    subst N;exact Ò
   refine dC Á λt f=>?_;cases eo;exact .ok Y (j J1) f λg Z=>(j J5) g<|t▸Z
  |rp n L p=>exact wC<|af (j J3).symm L|oh n=>exact h j l m n (C _)<|C _|nc=>cases eo|red=>cases eo|mI=>cases eo
 |@st c b k q o n l m s r N=>
  intro j d Â L
  by_cases x:el B q (tn G k)=0
  .have f:=r.pre L;generalize eo:(A:bf ba)=t at s
   induction s with
   |acc n=>cases eo|rp=>cases eo|oh=>cases eo|mI n=>exact h j l m x f.1 f.2|nc z n p Ç=>rw [x] at n;exact ay (eG n)<|fH p|red r g p Æ Z n o=>rw [x] at n;exact ay n.symm<|LC o
  .have C:=j.step Ã e a l m x s;have d:c.sp<=b.sp:=by cases s with
    |nc=>exact e7 _|red=>exact bb _|mI n=>exact ay n x
   refine hs (j V) λË À I H=>?_;have k:U c.st=U c.ts+1:=W ((I V) V)<|W H Y;cases N C L with
   |ok L q z h=>exact .ok L q z h|jE p f lp q t h r=>exact .jE p (ae d f) lp q t h λv y z=>r v y<|z.step k m (i! e (a V).toGW<|af (y _ (ae d f)) l) s
def Zj(f:k8)(d:fW)(a:fJ)(j:∀z<G.nS,nm G z∈e3->z<G.nT)(g:∀l∈P,l∈iL)(r:ju c0<|J (k,h))(b:RR D (vv D) P c e):
 (k=Q->h.fl=[]->e=Q)/\(B.n1=[]->(e=Q->k=Q/\h.fl=[])/\(e=u->lH h.pl=J c)):=by
 have m:∀p≤U P,(∀n<p,HK D P n)->p<=c:=λp o q=>by
  refine j3 λs=>gv (q c s) λx y t v C=>?_;rcases(b J2) with ⟨z,_⟩|⟨_,_,H⟩
  .exact ay (z▸s)<|ak fU o
  .exact H x y t v C
 cases aeG f d a ((λh=>by
 have I:=g _ h;revert I;decide+kernel)) r (.zero (a V) d<|a J1) Y with
 |ok v L N q=>
  have Z:=hL (b V)<|m _ (bb _) q;have k:e=true:=by
   rcases(b J2) with ⟨_,z⟩|⟨z,_⟩
   .exact ak z<|Z▸N
   .exact ay (Z▸z)<|kq _
  exact⟨λX X=>k,λX=>⟨λX=>br v L,λz=>by rw [k] at z;exact bR z⟩⟩
 |jE p l lp L n q o=>
  refine⟨λX z=>ay z L,λs=>⟨λk=>?_,λX=>?_⟩⟩
  .rcases(b J2) with ⟨v,z⟩|⟨_,z,_⟩
   .have N:=z.mp k;exact ay (Yf d a s j<|(by have I:=(v▸N).s f g V;unfold gK at I;rw [dJ] at I;exact I))<|o P λX X=>rfl
   .rw [k] at z;exact bR z
  .refine W n<|aq J<|hL (m p lp q)<|j3 λH=>gv ((b J1) p H) λx y t v C=>bp (ah1 f g t v C) λv r=>o _ (λc Z=>?_) (Yf d a s j r);have h:=gl C;have e:c<U (aF _ P):=W dU<|ak Wc ⟨ig Z,cF Z h⟩;unfold fB;simp only [dy,rz e,rz<|cF Z h,ha,aJ<|ig Z]
def ug(x):=aD (eX x 0) 0<|aD (nx x 0) 1<|aD (nx x 1048576) 2 3
def Se(h:x=0):ug x=0:=by unfold ug;exact W pA<|W (eZ h) Y
def ů{r:O}(h:x= -(r:au))(a:0<r):ug x=1:=by unfold ug;exact W h<|W pA<|W (gh<|LC a)<|W xf<|W (eZ<|Px<|ak hl a) Y
def ah6{x:au}{a:O}(h:x=a)(p:0<a)(l:a<1048576):ug x=2:=by unfold ug;exact W h<|W pA<|W (gh λz=>ih p<|eG z)<|W xf<|W (gh<|ak hB<|cp a)<|W xf<|W (eZ<|ak hl l) Y
def agP(h:x=1048576):ug x=3:=by unfold ug;exact W h<|W pA<|W xf<|W xf Y
def C_(G:Gr)(B:Tb)(c:Cf)(r:O)(a:Ru)(m p:O):Cf:=⟨aF (m+1) c.st++[dN (cK (F B.nO p []) a.aY) 0],aF m c.ts++[lY (F G.cI a.aY "")<|cq m c.ts],c.fl,c.mv++[dz "reduce" r],c.pl,c.sp,c.qu⟩
def Sr(G)(B)(c)(r)(a)(m):=C_ G B c r a m<|F c.st m 0
def Γ(G)(B)(c)(r)(a):=Sr G B c r a<|U c.ts-U a.aQ
def Td(G)(B)(c)(r):=Γ G B c r<|dN G.a5[r]? ⟨0,[],0⟩
open Classical in
noncomputable def LY(B:Tb):O->aa O->aa ai->aa ai->aa O×aa ai×aa ai
|0,a,b,c=>(a,b,c)|n+1,a,b,c=>if h5 B (dN (cG a) 0) then(a,b,c) else LY B n (kx a) (kx b)<|c++[dz "pop"<|dN (cG a) 0]
def Lc(B)(st)(a b):=LY B (U st-1) st a b
def gI.fn{a b c d e f}(h:gI B a b c d e f):Lc B a b c=(d,e,f):=by
 induction h with
 |@ok a b c q h o=>unfold Lc;cases U a-1 with
  |zero=>rfl|succ n=>exact aJ<|a4 h▸o
 |one=>rfl|@pop a b c d e f q v n o r g=>
  induction a with
  |nil=>exact ay Y n|cons x t=>refine af ?_ g;show LY B _ _ _ _=_;refine W a3 ?_;have l:cG (x::t++[q])=J q:=oV;refine af (aS<|a4 l▸o)<|W l<|W w2<|W w2 Y
open Classical in
def GF(G:Gr)(B:Tb)(c:Cf)(k:bo)(q:O)(x:aa O×aa ai×aa ai):bf ba×Cf:=if h5 B (dN (cG x.1) 0) then(A,⟨x.1++[cM<|xp B (dN (cG x.1) 0) 1],x.2.1++[vd],eK G B c k q,x.2.2++[dz "error"<|cM<|xp B (dN (cG x.1) 0) 1],eE c,fy c,3⟩) else(J u,⟨x.1,x.2.1,eK G B c k q,x.2.2,eE c,fy c,3⟩)
def VB(c:Cf)(k:bo)(a:O):Cf:=⟨c.st++[a],c.ts++[xm k c.sp],c.fl,c.mv++[dz "shift" a],c.pl,c.sp+1,c.qu-1⟩
open Classical in
def İ(G)(B)(c)(k)(q):=if c.qu=3/\k="$end" then(J u,c) else GF G B c k q<|Lc B c.st c.ts<|gD c<|tn G k
def aez(G:Gr)(B:Tb)(c:Cf)(k:bo)(q:O):O->bf ba×Cf
|0=>İ G B c k q|1=>(A,Td G B c<|cM<| -el B q (tn G k))|2=>(A,VB c k<|cM<|el B q<|tn G k)|_=>(J Q,⟨c.st,c.ts,c.fl,c.mv++[n6 "accept"],c.pl,c.sp,c.qu⟩)
def akq{x:au}{a:O}(h:x=a):cM x=a:=W h<|AG _
def aki{r:O}(h:x= -(r:au)):cM (-x)=r:=W h<|W (LO _)<|AG _
def ZF(e:c.qu=3->k≠"$end")(a:gI B c.st c.ts (gD c<|tn G k) st b d):İ G B c k q=GF G B c k q (st,b,d):=af (aS λz=>e z.1 z.2)<|aq _ a.fn
def gB.fn(s:lW c k q o a):(o,a)=aez G B c k q (ug<|el B q<|tn G k):=by
 induction s with
 |acc h=>exact W (agP h) Y|nc a h p l=>exact W (ah6 h p l) (aq (λa=>(A,VB c k a))<|akq h).symm|red r b p d m h e f g j n=>exact W (ů h e) (aq _ (af (aq _ (aki h))<|(by have t:U c.ts-U b.aQ=m:=W g (wt ..);have v:F c.st m 0=p:=W (cZ ..)<|W j Y;unfold Td;refine W f (?_:Sr _ _ _ _ b _=_);refine W t ?_;unfold Sr;refine W v ?_;unfold C_;exact W n Y))).symm|rp h g x=>exact W (Se h) (aJ ⟨g,x⟩).symm|oh h g y p j z=>exact W (Se h) (af (ZF g y)<|(by unfold GF;exact W j<|aS z)).symm|mI h g y p j a z C=>exact W (Se h) (af (ZF g y)<|(by unfold GF;rw [j,aJ (show h5 B (dN (J p) 0) from z),show xp B (dN (J p) 0) 1=a from C,AG])).symm
def gB.QU(s:lW c k q o d)(e:f=J k)(g:v=J q)(h:f=J j)(l:v=J m)(t:lW c j m a b):a=o/\b=d:=
rG<|af (W (aC<|af e.symm h) (W (aC<|af g.symm l) t):lW c k q a b).fn s.fn.symm
def nM.over(t:ju c y)(h:60<U c.mv):y=none:=by
 induction t with
 |ov=>rfl|st a=>exact ay h<|ak fU a|en a=>exact ay h<|ak fU a|eo a=>rfl
noncomputable def alb(c:Cf)(b:ba):=if 60<U c.mv then A else J (b,c)
def nM.step(t:ju c y)(h:U c.mv<=60)(a:(fB P)[c.sp]?=J k)(d:cG c.st=J q)(s:lW c k q o e):(o=A->ju e y)/\∀b,o=J b->alb e b=y:=by
 induction t with
 |ov f=>exact ay f<|ak fU h|st f g j l m=>have z:=s.QU a d g j l;exact⟨λZ=>ax z.2 m,λb e=>iG<|af e.symm z.1.symm⟩|en f g j l n=>have z:=s.QU a d g j l;exact⟨λe=>iG<|af z.1 e,λb e=>ax z.2<|ax (aC<|af z.1 e)<|aS<|ak fU n⟩|eo f g j l n=>have z:=s.QU a d g j l;exact⟨λe=>iG<|af z.1 e,λb e=>ax z.2<|aJ n⟩
def nM.det(r:ju c x):∀{y},ju c y->x=y:=r.rec (λh=>λt=>a4<|t.over h) (λh a b s r d=>λt=>d<|(t.step h a b s).1 Y) (λh a b s l=>λt=>af (aS<|ak fU l).symm<|(t.step h a b s).2 _ Y) λh a b s l=>λt=>af (aJ l).symm<|(t.step h a b s).2 _ Y
abbrev nD:=Lw D
def Lw.up(h:nD d a b c):nD (d+1) a b c:=h.rec qM (λr e=> .lf e) λa m b f g=> .nd f m g
def Lw.app(h:nD d a b c)(k:nD d e f g):nD d (a++e) (b++f) (c++g):=by
 induction h with
 |nil=>exact k|lf r j=>exact .lf<|j k|nd a m b _ j=>exact .nd a m<|j k
def Lw.cut(h:nD d a b c):∀m,nD d (aF m a) (aF m b) (aF m c)/\nD d (cq m a) (cq m b) (cq m c):=by
 induction h with
 |nil=>intro m;cases m<;>exact br qM qM|lf r e=>
  intro m
  induction m with
  |zero=>exact br qM<| .lf r|succ m=>exact⟨.lf (e m).1,(e m).2⟩
 |nd a f b _ e=>
  intro m
  induction m with
  |zero=>exact br qM<| .nd a f b|succ m=>exact⟨.nd a f (e m).1,(e m).2⟩
noncomputable def ll(a)(j):=F a j ""++toString (j:au)
def sL(a)(n):=R (ll a)<|e4 n
def ky(y:aa bo):=y.filter λx=> !ng x ""
def TJ:ky (x++y)=ky x++ky y:=I1 ..
def OZ(D)(d)(G)(i)(c:Cf)(a)(b):=j6 (l6 i c.st a) (U c.ts=U a) (Lw D (U c.mv) c.ts (R (nm G) a) b) (yL (ky<|hc b)<|sL d c.sp)<|U (hc b)<=U c.mv
def qg(D)(a)(G)(i)(c):=om (∃b d,OZ D a G i c b d) (∀e f b,c.pl[e]?=J f->c.pl[e+1]?=J b->f+3<=b) (∀p,cG c.pl=J p->p+3<=c.sp+c.qu) (c.qu<=3) (c.sp<=U a)<|∀m∈c.mv,(∃g,m=n6 g)\/∃g f,m=dz g f
def qg.zero:qg D P G i c0:=e1 ⟨[],[],ec Bk Y qM (List.nil_sublist _)<|bb _⟩ (λZ Z Z h=>aI h) (λZ h=>aI h) (cQ _) (cQ _) λZ h=>bG h
def Lw.ups(h:nD d a b c)(l:d<=e):nD e a b c:=l.rec h λZ f=>f.up
def gI.tk(h:gI B c a d g j f):U a+1=U c->∃n,n<=U a/\g=aF (n+1) c/\j=aF n a/\U d<=U f/\((∀m∈d,(∃b,m=n6 b)\/∃b e,m=dz b e)->∀m∈f,(∃b,m=n6 b)\/∃b e,m=dz b e):=by
 induction h with
 |@ok c a d q h o=>exactλl=>⟨U a,bb _,W l<|W dJ Y,W dJ Y,bb _,id⟩|@one q a d=>exactλl=>⟨0,cQ _,Y,R2.mp<|f7 l,bb _,id⟩|@pop c a d k p r q v n o r s=>
  intro l;rw [bL,bL] at l;refine ald (s<|f7 l) λn t x y C H=>?_;have I:n+1<=U c:=ax (f7 l)<|b3 t;refine⟨n,W bL<|hH t,W (Ye I) x,W (Ye t) y,?_,λL=>H λm N=>?_⟩
  .rw [bL] at C;exact uS C
  .rcases ma N with z|z
   .exact L m z
   .exact aw ⟨"pop",q,ms z⟩
def OZ.err(t:OZ D P G i c b a)(h:gI B c.st c.ts e st f d)(g:U c.mv<=U e):∃n,n<=U b/\g4 st (aF n b)/\U f=U (aF n b)/\nD (U d) f ((aF n b).map<|nm G) (aF n a)/\yL (ky<|hc<|aF n a) (sL P c.sp)/\U (hc<|aF n a)<=U d/\U e<=U d:=by
 obtain⟨n,j,rfl,rfl,k,_⟩:=h.tk<|(t J1)▸a4 ((t V) V);have j:=(t J1)▸j;have mm:=ae g k;have l:yL (hc<|aF n a) (hc a):=by have m:=aq hc<|vE n a;rw [vm] at m;exact ax m (Zs ..)
 exact⟨n,j,(t V).cut j,W dU<|W dU<|aq _ (t J1),W tq<|((t J2).cut n).1.ups mm,(l.filter _).trans<|t J3,ae l.length_le<|ae (t J4) mm,k⟩
def Qt:c.sp<=fy c/\U c.mv<=U (gD c<|tn G k)/\((∀m∈c.mv,(∃a,m=n6 a)\/∃a b,m=dz a b)->∀m∈gD c (tn G k),(∃a,m=n6 a)\/∃a b,m=dz a b):=by
 unfold fy gD;cases aE c.qu 3 with
 |true=>
  refine⟨e7 _,W bL<|e7 _,λh m d=>?_⟩;rcases ma d with z|z
  .exact h m z
  .exact aw ⟨"discard",tn G k,ms z⟩
 |false=>exact⟨bb _,bb _,id⟩
def Ts(a:c.sp<=U P)(b:(fB P)[c.sp]?=J k)(e:c.qu=3->k≠"$end"):fy c<=U P:=by
 unfold fy;cases z:aE c.qu 3 with
 |true=>exact xu b a<|e<|d9 z|false=>exact a
def Nc(h:a<=b):yL (sL P a) (sL P b):=by
 induction h with
 |refl=>exact x! _|step _ c=>exact c.trans (by unfold sL;simp only [Bp,dv];exact Zs ..)
def qg.eE(t:qg D P G i c):(∀a b d,(eE c)[a]?=J b->(eE c)[a+1]?=J d->b+3<=d)/\∀p,cG (eE c)=J p->p+3<=fy c+3:=by
 have e:=(Qt (k:="") (c:=c)).1;unfold Zq.eE;cases z:aE c.qu 0 with
 |false=>exact br (t J1)<|λp f=>ae ((t J2) p f)<|dZ e<|t J3|true=>
  refine(⟨λa b d g h=>?_,λp f=>?_⟩:(∀a b d,(c.pl++[c.sp])[a]?=J b->(c.pl++[c.sp])[a+1]?=J d->b+3<=d)/\∀p,cG (c.pl++[c.sp])=J p->p+3<=fy c+3)
  .rcases AK h with ⟨l,h⟩|⟨j,rfl⟩
   .exact(t J1) a b d (rz (DL l)▸g) h
   .rw [rz<|ax j<|g9 a] at g;have k:=(t J2) b (by rw [x6,<-j,wt];exact g);rw [d9 z] at k;exact k
  .rw [oV] at f;exact ax (aC f)<|fY e 3
def IG(h:∀m∈c,(∃a,m=n6 a)\/∃a b,m=dz a b)(k:(∃a,x=n6 a)\/∃a b,x=dz a b):∀m∈c++[x],(∃a,m=n6 a)\/∃a b,m=dz a b:=λm d=>aO (ma d) (h m) λz=>ms z▸k
def qg.step(e:k8)(b:fW)(a:fJ)(d:(fB P)[c.sp]?=J k)(f:cG c.st=J q)(t:qg D P G i c)(s:lW c k q o g):qg D P G i g:=by
 refine DG (t V) λh j l=>?_;have m:=l V;have n:=m.jx▸f;have p:=m.lt (a J1) n;have r:=tc (a V).toGW k
 induction s with
 |acc v=>exact e1 ⟨h,j,ec m (l J1) ((l J2).ups<|W bL<|e7 _) (l J3)<|W bL<|hH<|l J4⟩ (t J1) (t J2) (t J3) (t J4)<|IG (t J5)<|aL ⟨_,Y⟩|rp v x y=>exact t|nc z v C H=>
  refine dC (a.QJ p r v C H) λg I=>?_;have L:k≠"$end":=λN=>I<|W N<|Ca b (a V).toGW;refine hs ((by refine aA (wx g) λf Z x=>aA ((a J1).lM Z<|hY<|qc x) λq s y=>?_;exact hI (s.va<|a J1) λH I o N f=>⟨H,N,f J3,aP<|f.bH▸y⟩)) λH N Z q=>?_
  have s:k++toString (c.sp:au)=ll P c.sp:=by unfold ll;rw [cZ,W! d L];rfl
  refine e1 ⟨h++[tn G k],j++[[ll P c.sp]],ec (m.tF n g) (W bL<|W bL<|aq _ (l J1)) ?_ ?_ ?_⟩ (t J1) (λC o=>ae ((t J2) C o) ſ) (ae (lT ..)<|t J3) (xu d (t J4) L)<|IG (t J5)<|aw ⟨_,_,Y⟩
  .simp only [bL,dv,ud,XR e (a V) b Z q];unfold xm;exact W s<|(l J2).up.app<| .lf qM
  .simp only [vm,TJ];refine ae6 ((l J3).append List.filter_sublist) ?_;unfold sL;simp only [Bp,dv];exact x! _
  .simp only [bL,vm,a3];exact b3<|l J4
 |red H N C I y v f Z x o e=>
  rcases a.qs (bK p) r with ⟨L,g,H⟩|⟨g,q,s,H⟩|⟨g,H⟩
  .exact ay (af H.symm v)<|mD f
  .have I:=eG<|p8.mp<|af v.symm H;subst I;refine zm (m.red (a V) (a J1) n (bK p) s) λr L g q=>?_;obtain rfl:=aC<|af Z.symm<|q V;have n:y=U h-U N.aQ:=by simp only [<-(l J1),x,wt]
   have p:c.st[y]?=J L:=W n<|q J3;refine W (aC<|af o.symm p) ?_;have s:y<=U h:=W n (lT ..);have I:U (aF y h)=y:=by simp only [dU,gq s]
   have r:hc (aF y j++[hc<|cq y j])=hc j:=W vm<|W (show hc [hc<|cq y j]=hc (cq y j) from dB _)<|ax vm<|aq _ (vE ..);have g:=((l J2).cut y).2;rw [<-Jq,n,q J2,<-n] at g;refine e1 ⟨aF y h++[N.aY],aF y j++[hc<|cq y j],ec ((m.cut s).tF (by rw [I,ha,aJ<|g9 y];exact o)<|(a.zk ((a V).toGW.lt N<|aP Z).1.1<|m.lt (a J1) o).mp e) ?_ ?_ (W r<|l J3)<|by simp only [r,bL];exact hH<|l J4⟩ (t J1) (t J2) (t J3) (t J4)<|IG (t J5)<|aw ⟨_,_,Y⟩
   .simp only [bL,bL,dU,dU,l J1]
   .simp only [bL,dv,tq];exact((l J2).cut y).1.up.app<| .nd g (b.mem (ih f) Z) qM
  .exact ay (eG<|p8.mp<|af v.symm<|af H (af Me.symm Y:_= -((0:O):au)))<|ih f
 |oh v x L C o p=>have h:=Qt (k:=k) (c:=c);refine VC (l.err L h.2.1) λn N Z y f e H X=>?_;have q:=t.eE;exact e1 ⟨_,aF n j,ec Z y f (e.trans<|Nc h.1) H⟩ q.1 q.2 (bb _) (Ts (t J4) d x)<|(Ff<|L.tk<|(l J1)▸a4 (m V)).2.2.2.2<|h.2.2<|t J5|mI v x L C o z p s=>
  have h:=Qt (k:=k) (c:=c);refine VC (l.err L h.2.1) λn N Z y f e H I=>?_;have q:=t.eE;have r:=Z.jx▸o;have g:nm G 1="error":=by unfold nm;rw [cZ,b J4];rfl
  refine e1 ⟨_++[1],aF n j++[[""]],ec (Z.tF r<|a.Yg (Z.lt (a J1) r) p s) ?_ ?_ ?_ ?_⟩ q.1 q.2 (bb _) (Ts (t J4) d x)<|IG ((Ff<|L.tk<|(l J1)▸a4 (m V)).2.2.2.2<|h.2.2<|t J5)<|aw ⟨_,_,Y⟩
  .simp only [bL,bL,y]
  .simp only [bL,dv,ud,g];exact f.up.app<| .lf qM
  .simp only [vm,TJ];have:ky (hc [[""]])=[]:=by unfold ky;simp only [zi,wh,eZ Y];rfl
   simp only [this,dB];exact e.trans<|Nc h.1
  .simp only [bL,vm,a3];exact b3 H
def ab4(b:k8)(c:fW)(d:fJ)(r:ju f x):qg D P G i f->∀{e} {a},x=J (e,a)->qg D P G i a/\U a.mv<=60:=by
 induction r with
 |ov h=>exactλZ Z Z g=>aI g|eo=>exactλZ Z Z g=>aI g|en h j k s l=>intro t e a g;cases g;exact br (t.step b c d j k s) l|st h j k s r m=>exactλt Z Z g=>m (t.step b c d j k s) g
def toP_ok:∀{n} {a} {d},toP n a=J d->Cu d=Q/\d.depth<=n:=by
 intro n;have b:∀s,ahr (dg s)=true:=λs=>by
  unfold dg;refine W (Hv ..) ?_;show(gU<|R C2<|h8 s).all _=Q;refine W List.all_toArray<|W List.all_map ?_;rw [gM]
  exactλc Z=>eZ<|aO c.valid (λh=>fe h<|ao Y) (·.2)
 refine n.rec (λa d h=>aI h) λn e=>?_;have go:∀{f} {g},toPs (toP n) f=J g->Nj g=Q/\Ft g<=n:=by intro f;refine @(f.rec (λh=>ax (aC h)<|⟨Y,cQ _⟩) λx r j=>?_);intro g h;exact aA (ib.mp h) λd k h=>aA (fA h) λl m h=>ax h<|⟨ak dn ⟨(e k).1,(j m).1⟩,ak Nat.max_le ⟨(e k).2,(j m).2⟩⟩
 intro a d h;cases a with
 |none=>refine ax (aC h) ?_;exact br rfl<|cQ _|bool=>refine ax (aC h) ?_;exact⟨Y,cQ _⟩|int=>refine ax (aC h) ?_;exact⟨Y,cQ _⟩|str s=>refine ax (aC h) ?_;exact⟨b s,cQ _⟩|tup f=>refine aA (fA h) λg k h=>?_;exact ax h<|⟨(go k).1,b3 (go k).2⟩|lst f=>refine aA (fA h) λg k h=>?_;exact ax h<|⟨(go k).1,b3 (go k).2⟩|_=>exact aI h
def Pd(n)(a):=∃d,toP n a=J d
def Rd(h:∀x∈b,Pd n x):∃a,toPs (toP n) b=J a:=by
 induction b with
 |nil=>exact cL _ rfl|cons x r c=>exact bp (h x b8) λd e=>bp (c λy f=>h y<|cz _ f) λa g=>⟨d::a,by show ez (toP n x) _=_;simp only [e,g];rfl⟩
def z9(h:∀x∈a,Pd n x):Pd (n+1) (aR a):=ah (Rd h) λb e=>⟨.tuple b,aq (b4 OW) e⟩
def zq(h:∀x∈a,Pd n x):Pd (n+1) (aN a):=ah (Rd h) λb e=>⟨.list b,aq (b4 ZL) e⟩
def sT:Pd (n+1) (aG s):=cL _ rfl
def EY:Pd (n+1) (ag a):=cL _ rfl
def w':Pd (n+2) (aN<|sV a):=zq λx b=>by obtain⟨s,_,rfl⟩:=mm b;exact sT
def Pd.eq(h:Pd xw<|aN a):qE a a=J true:=by refine bp h λd e=>?_;unfold qE xB;exact W (aJ Y)<|W e<|aq J<|aip d (toP_ok e).1
def gQ{b:Type}{a:b->Prop}{x}{r}(h:a x)(k:∀y∈r,a y):∀y∈x::r,a y:=λy c=>aO (mc c) (λe=>e▸h)<|k y
def lC{a:b->Prop}:∀y∈([]:aa b),a y:=λZ h=>bG h
def Lw.py(h:nD d a c e):∀n,∀b∈a,Pd (n+d+2) b:=h.rec (λZ=>lC) (λr f=>λn=>gQ (z9<|gQ sT<|gQ sT lC)<|f n) λa m b g j=>λn=>gQ (z9<|gQ sT<|g n)<|j n
def Ÿ(t:qg D P G i c)(l:U c.mv<=60):Pd xw (aN [bT b,aD b (dN (cG c.ts) bk) bk,aN<|R qA c.fl,aN c.mv]):=by
 refine zq<|gQ ⟨_,Y⟩<|gQ ?_<|gQ (zq λx a=>?_)<|gQ (zq λx a=>?_) lC
 .refine b.rec ⟨_,Y⟩ ?_;cases e:cG c.ts with
  |none=>exact cL _ rfl|some d=>exact DG (t V) λf g h=>((h J2).ups l).py 137 d<|List.mem_of_getLast? e
 .obtain⟨f,_,rfl⟩:=mm a;exact z9<|gQ sT<|gQ EY<|gQ w' lC
 .rcases(t J5) x a with ⟨j,rfl⟩|⟨j,a,rfl⟩
  .exact z9<|gQ sT lC
  .exact z9<|gQ sT<|gQ EY lC
def afO(t:qg D P G i c)(l:U c.mv<=60):qE [bT b,aD b (dN (cG c.ts) bk) bk,aN<|R qA c.fl,aN c.mv] [bT b,aD b (dN (cG c.ts) bk) bk,aN<|R qA c.fl,aN c.mv]=J true:=(Ÿ t l).eq
def aa6(e:k8)(c:fW)(a:fJ){x}(r:ju d x):qg D P G i d->∀{b},x=J (Q,b)->∃t y,cG b.ts=J t/\nD 60 [t] ["s"] [y]/\yL (ky y) (sL P<|U P)/\U y<=60:=by
 induction r with
 |ov h=>exactλX X f=>aI f|eo=>exactλX X f=>aI f|st h g j s r k=>exactλt X f=>k (t.step e c a g j s) f|@en d l k q m h g j s l=>
  intro t b f;cases f;generalize eo:J Q=o at s
  induction s with
  |rp=>cases eo|oh=>cases eo|mI=>cases eo|nc=>cases eo|red=>cases eo|acc n=>refine DG (t V) λp v z=>?_;have C:=(z V).jx▸j;obtain⟨_,H,I⟩:=m' a ((z V).lt (a J1) C) (tc (a V).toGW k) n;have L:=z J2;dsimp only [u5] at L;have N:=z J1;dsimp only [u5] at N;have s:=z J3;dsimp only [u5] at s;have n:=z J4;dsimp only [u5] at n;rw [(z V).acc (a V) (a J1) C I] at L N;refine bp (vP N) λZ x=>?_;rw [x,show R (nm G) [G.iU]=["s"] from by refine W ud<|W (Pb c) ?_;rfl] at L;refine bp (vP L.len.2) λy f=>?_;rw [f] at L s n;rw [show hc [y]=y from dB _] at s n;exact⟨Z,y,W x Y,L.ups h,s.trans<|Nc<|t J4,ae n h⟩
def ajS{a b:aa bo}(h:yL a b)(nd:bw b):pY (b7 a) b=a:=by
 induction h with
 |slnil=>rfl|@cons a b c s d=>
  have nd:=jc.mp nd;have e:b7 a c=false:=by
   cases q:b7 a c with
   |false=>rfl|true=>exact ay (s.subset<|gG.mp q) nd.1
  exact W zi<|W e<|d nd.2
 |@cons_cons a b c s d=>have nd:=jc.mp nd;exact W zi<|W (ak gG b8)<|aq (c::·)<|af (List.filter_congr λx f=>W BH<|W (yO λe=>nd.1<|by rw [<-e];exact f) (XA ..))<|d nd.2
def aef(b:∀k∈P,k∈iL)(a:U P<=9):bw (sL P<|U P):=by
 refine ak I8<|z!.imp_of_mem λ{c j} d e f g=>f ?_;have h (d:c<U P) (e:j<U P) (l:ll P c=ll P j):c=j:=by
  have m:∀k∈iL,U (h8 k)=1:=by decide+kernel
  have n:∀c:O,c<9->∀j:O,j<9->h8 (toString (c:au))=h8 (toString (j:au))->c=j:=by decide+kernel
  have o:∀c<U P,U (h8<|F P c "")=1:=λc d=>by refine W (cZ)<|W (bK d) ?_;exact m _ (b _ (xR d))
  have l:=aq h8 l;unfold ll at l;rw [O7,O7] at l;exact n c (cc d a) j (cc e a) (List.append_inj l<|af (o c d) (o j e).symm).2
 exact h (tV.mp d) (tV.mp e) g
variable{l h t:aT}{j p:QT}{o:aT->Prop}{m b:Cs}{r:PT}{q s:aW->aT->Prop}{a:Cf}{g:O}{f d:ba}
def cU.tz{ls}{D}(b:cU ls D):∀a<(gw ls D).nS,nm (gw ls D) a∈e3->a<(gw ls D).nT:=λa d f=>by
 refine zW λg=>?_;have h:(eF ls D)[a]?=J _:=RJ d;generalize nm _ a=j at f h;unfold eF at h;rw [dy,hV g] at h;have l:=aP h;rcases ma l with m|m
 .rw [ms m] at f;revert f;decide+kernel
 .exact SO (b V) (T1 f) m
def cU.Ĺ(a:cU ls D):GX G:=A1▸a.gx
def cU.cgp(a:cU ls D):GP D G:=A1▸a.gp
def cU.ags(a:cU ls D):AS G:=A1▸a.pre
def cU.ctz(b:cU ls D):∀a<G.nS,nm G a∈e3->a<G.nT:=A1▸b.tz
def cU.cnd(a:cU ls D):bw G.cI:=A1▸a.Un
def Jg(b:Fr l h m)(k)(d:m.at k=J (c,az e))(f:qE n e=J v)(a:K v):sJ h (aN n) (aj c) K:=bX b k d<|VU f a
def Oe(b:Fr l h m)(k c)(d:m.at k=J (e,az n))(f:m.at c=J (v,az x))(g:qE n x=J y)(a:K y):sJ h (aj e) (aj v) K:=bX b k d<|bX b c f<|VU g a
def KM:qE c []=J (uO c):=by
 induction c with
 |nil=>rfl|cons a b=>exact aS<|IT _
def abt{a:e->k}:uO (R a c)=uO c:=by cases c<;>rfl
def Fy(G:Gr)(B:Tb)(D:gj)(g:aa bo)(a:Cf)(f:ba)(d:ai)(b:aW):aW:= .c 45 (h7 G B)<| .c 115 (gR D)<| .c 103 (aN<|sV g)<| .c 7 (DD f d a)<| .c 171 (aN<|iV a.pl)<| .c 99 (DD f d a) b
def O3:=sR<|sR<|sR<|sR<|sR<|sR zz.gY
def YH(g:Fr l h m)(c:e=Q->d=Q)(k:B.n1=[]->e=d/\(d=u->lH a.pl=J n))(t:∀j m,Fr l j m->p (bT Q) j):
 c1 r o (sR<|sR<|sR O3) (Fy G B D P a f v<| .c 81 (ag n)<| .c 235 (bT d)<| .c 232 (bT e) ar) h q p s:=by
 refine aV g λx j g=>?_;have g:=g.bN;refine Jg g 0 Y KM<|jk<|ef (λz=>?_) λZ=>?_
 .refine dC (k<|i'.mp z) λy C=>?_;subst y
  induction e with
  |true=>exact t j _ g|false=>
  have H:=C Y;refine D2<|aV g λI j g=>?_;have g:=g.bN;refine aV g λL j g=>?_;have g:=g.bN;refine Oe g 1 0 Y Y ?_<|t j _ g;refine bp (List.head?_eq_some_iff.mp H) λb e=>?_;exact W e<|Pd.eq<|zq<|gQ EY lC
 .refine ef (λz=>W z<|t j _ g) λz=>?_;have N:e=false:=by
   induction e with
   |false=>rfl|true=>exact bR<|c Y▸z
  exact W N<|t j _ g
def ahP(b:Fr l h m)(t:f=Q->a.fl=[]->d=Q)(g:B.n1=[]->(d=Q->f=Q/\a.fl=[])/\(d=u->lH a.pl=J e))(c:∀j m,Fr l j m->p (bT Q) j):
 c1 r o (sR<|sR O3) (Fy G B D P a f v<| .c 81 (ag e)<| .c 235 (bT d) ar) h q p s:=by
 refine bJ Y Y<|ef (λz=>?_) λz=>?_
 .refine bJ Y Y<|aV b λk j b=>?_;have b:=b.bN;refine Jg b 0 Y KM<|W abt<|YH b (λj=>t z<|i'.mp j) (λn=>br ?_<|(g n).2) c
  induction d with
  |true=>exact aq _ ((g n).1 Y).2|false=>
   cases x:a.fl with
   |nil=>exact bR<|t z x|cons _ _=>rfl
 .refine YH b (λj=>bR<|z▸j) (λn=>⟨W z ?_,(g n).2⟩) c
  induction d with
  |true=>exact bR<|((g n).1 Y).1▸z|false=>rfl
end
section
def CF(x):=aD (ng x "") A<|J<|aG x
def ai1:eI CF y=sV (ky y):=by refine y.rec Y λx r a=>?_;unfold ky;rw [xW,zi,a];unfold CF;cases ng x ""<;>rfl
def ajm(k:O):(qi<|sV P)[k]?=((e4 P.length)[k]?).map λj=> .tup [.int j, .str<|P.getD j ""]:=by
 refine W (cg)<|W (JC) ?_;rcases h0 k P.length with h|h
 .refine W (ku<|bK h)<|W (xd h) ?_;refine(?_:J _=J (ai.tup [.int k, .str _]));refine W (eJ ..)<|W (cZ)<|W (bK h) ?_;rfl
 .refine W (iB<|by rw [gm];exact h)<|W (iB<|by rw [e9];exact h) ?_;rfl
def Ce(a T)(j):=aD (b7 T<|ll a j) (J<|ag j) A
def Vq(a:∀k∈P,∀b≤9,ml (k++toString ((b:O):au))<=4096)(c:U P<=9)(h:j<U P):P[j]?=J (F P j "")/\ml (F P j ""++toString (j:au))<=4096:=by
 have e:=bK h;have d:F P j ""=P[j]:=by refine W (cZ)<|W e ?_;rfl
 exact W d<|⟨e,a _ (xR h) j (ae (bU h) c)⟩
def rg5:=sR<|sR<|sR<|sR<|sR zz.gY
def aeC(g:∀q∈D,U q.2<=3)(b:U P<=9)(h:∀k∈P,k∈iL)(d:∀k∈P,∀j≤9,ml (k++toString ((j:O):au))<=4096)(a:Fr l e c)
 (m:f=Q->∃y,nD 60 [v] ["s"] [y]/\yL (ky y) (sL P<|U P)/\U y<=60)
 (k:∀s c,Fr l s c->c1 (aK<|n+61) o (sR O3) (Fy G B D P p f v ar) s N r C):c1 (aK<|n+61) o rg5 (Fy G B D P p f v ar) e N r C:=by
 refine bJ Y Y<|ef (λz=>hv (m z) λy t x H=>bJ Y Y<|aiF g 60 t (ae H<|ao Y)<|cb Y<|i3 d5 CF a (λX X X X=>rfl) (cf<|ae H<|by decide) (λj I L o s Z f v a l n=>?_) λp s a=>?_) λz=>k e c a
 .exact jk<|ef (λe=>n s (by unfold CF;refine W e ?_;rfl) a) λe=>l _ s (by unfold CF;refine W e ?_;rfl) a
 rw [ai1] at a;have a:=a.bN;have N:R (ll P) ((e4<|U P).filter λj=>b7 (Zq.ky y)<|ll P j)=(Zq.ky y):=by have r:=ajS x<|aef h b;unfold sL at r;rw [List.filter_map] at r;exact r
 have C:=N;refine i3 ajm (Ce P<|ky y) a (λX X X X=>rfl) (W e9<|cf<|ae b<|by decide) (λj I L o s Z f v a l n=>?_) λm s a=>?_
 .obtain⟨rfl,g⟩:=ly v;exact⟨⟨cp _,ak jj<|bU<|cf<|ae (bU g)<|ae b<|by decide⟩,(Vq d b g).2,vT a 0 Y<|ef (λe=>l _ s (by unfold Ce ll;refine W e ?_;rfl) a) λe=>n s (by unfold Ce ll;refine W e ?_;rfl) a⟩
 have H {T:aa bo} {c:aa O}:eI (Ce P T) c=iV (c.filter λj=>b7 T<|ll P j):=by refine c.rec Y λI r z=>?_;rw [xW,zi,z];unfold Ce;cases b7 T _<;>rfl
 rw [H] at a;have a:=a.bN;have p:U ((e4<|U P).filter λj=>b7 (ky y)<|ll P j)<=9:=ae (A5 ..)<|W e9 b;have h:∀j∈(e4<|U P).filter λj=>b7 (ky y)<|ll P j,j<U P:=λj x=>tV.mp (rR.mp x).1;generalize ((e4<|U P).filter λj=>b7 (ky y) _)=N at a C p h;refine cb (a.lt 0 Y)<|i3 d5 (λj=>J<|aG<|ll P j) a (λX X X a=>a.lt 0 Y) (cf<|ae p<|by decide) (λj I L o s Z f v a l n=>?_) λm s a=>?_
 .have g:=h I<|aP v;have e:=Vq d b g;exact bJ Y (ku e.1)<|⟨⟨cp _,ak jj<|bU<|cf<|ae (bU g)<|ae b<|by decide⟩,e.2,l _ s Y a⟩
 have a:=a.bN;have c:eI (λj=>J<|aG<|ll P j) N=sV (ky y):=by refine ax C ?_;unfold sV;exact W jD<|p2 Cz N
 rw [c] at a;exact Oe a 0 2 Y Y (Pd.eq w')<|bJ Y Y<|t.hd<|Ry (λq=>ay Y q) λX=>k s _ a
def aaA{m:O}(k:O):(m6 1 (m:au))[k]?=((e4<|m-1)[k]?).map λx=>ag ((x+1:O):au):=by refine W (cg)<|W (Tg m 1:cM ((m:au)-1)=m-1) ?_;exact aq (λf=>b4 f _[k]?)<|funext λx=>aq ag (DH ..)
def aif(b:∀k∈P,k∈iL):∀k∈fB P,∀a≤9,ml (k++toString ((a:O):au))<=4096:=by
 have c:∀k∈"$end"::iL,∀a,a<10->ml (k++toString ((a:O):au))<=4096:=by decide+kernel
 refineλk h a d=>c k ?_ a<|ig d
 rcases ma h with z|z
 .exact cz _ (b k z)
 .exact W (ms z) b8
def agp{c:Cf}:qE [bT b,v,aN<|R qA c.fl,aN c.mv] [aG "endless"]=J false:=aS (show¬(4=1) by decide)
def t_:=sR<|sR zz.gY
def XN(b:qE a a=J Q)(h:c1 c d (sR t_) (.c 45 m<| .c 115 p<| .c 103 k<| .c 7 (aN a)<| .c 171 e<| .c 99 (aN a) ar) f N g C):
 c1 c d t_ (.c 45 m<| .c 115 p<| .c 103 k<| .c 7 (aN a)<| .c 171 e<| .c 99 (aN a) ar) f N g C:=by
 show bE _ _;exact W b h
def ψ(a:k8)(c:fJ)(b:yK P)(h:d (bT Q) e):aK (n+62) 267 [h7 G B,gR D,aN<|sV P] e d f:=by
 have g:=a.cgp;have j:=aif<|b V;have k:=λl (m:l∈P)=>j l<|gE _ m;have o:=λq (p:q∈D)=>((a J1) V q p).2.1;refine a7 zz (.c 45 _ (.c 115 _ (.c 103 _ ar))) Y Y<|ai6 c g (b J1) j λr s t v=>ajN c g a.ags b.ok k λx y=>?_;obtain rfl:=(t.det y)
 match r,t,v with
 |none,t,v=>have z:qE [aG "endless"] [aG "endless"]=J true:=Pd.eq<|zq<|gQ sT lC;exact XN z<|aV de λC s H=>Jg H 0 Y z<|m9 H h|some (I,L),t,v=>
  obtain rfl:=v I L Y;have N:=ab4 a g c t .zero Y;refine XN (afO N.1 N.2)<|aV de λC s H=>Jg H 0 Y agp ?_;have Z (d:U P<=9):U L.pl<=4:=by
   have e:∀n C,L.pl[n]?=J C->3*n<=C:=by
    refineλn=>n.rec (λX X=>cQ _) λn f=>λC l=>?_
    have m:=bK<|DL<|gl l;exact ae (fY (f _ m) 3)<|(N.1 J1) n _ C m l
   cases q:cG L.pl with
   |none=>exact W (List.getLast?_eq_none_iff.mp q)<|cQ _|some p=>have z:=(N.1 J2) p q;rw [x6] at q;have l:=e _ p q;exact ia6 z l (N.1 J3) (N.1 J4) d
  have bl:U L.pl<=1000:=ae (Z<|b J1)<|ao Y;refine⟨⟨mR<|ao Y,mR<|W du<|ae bl<|ao Y⟩,W du<|i3 aaA (λX=>A) H (λX X X X=>rfl) (W e9<|cf<|ae (lT ..) bl) (λj x y r s v I C H f Z=>?_) λz s H=>?_⟩
  .obtain⟨rfl,d⟩:=ly C;have e:x+1<U L.pl:=Nat.add_lt_of_lt_sub d;have p:=bK e;have l:=bK<|DL e;exact bJ Y (fV p)<|ph (eU ..)<|bJ Y (fV l)<|u7<|g5 (λq=>ay q<|ia7<|(N.1 J1) x _ _ l p) λX=>Z s Y H
  rw [ak Q! λX X=>rfl] at H;refine aV H λr s H=>Oe H 1 2 Y Y KM<|aeC o (b J1) (b V) k H (λm=>?_) λs z H=>?_
  .subst m;exact rK (aa6 a g c t .zero Y) λj y v I f C=>⟨y,W v I,f,C⟩
  .refine akR (ae ((a J1) J3)<|ao Y) o (b J1) λL d q=>ahP H ((λn N x=>Zj a g c a.ctz (b V) t x) L d q).1 ((λn N x=>Zj a g c a.ctz (b V) t x) L d q).2 λs z H=>m9 H h
def aa2:oj (R ag a)=J a:=by refine a.rec Y λx r b=>by refine(?_:(ez (J x) λc=>b4 _ (oj _))=_);exact W b Y
def alz(c:Fr h a d)(k){b:aa au}(e:d.at k=J (f,az<|R ag b))(g:K (ag b.sum) a):RY .sum (aj f) a K:=bX c k e (by unfold P';exact W aa2 g)
def agO(a:k8):BR ls D:=λn b c d e s f h=>by rw [<-A1];exact alR a.Ĺ a.cnd f λB g=>Ch (g V) λT i X M j k l=>h _ λm o p q r t v=>akk (λa x t n b c d h=>ψ a x t h) ⟨_,_,_,_,_,_⟩ a (dS a.Ĺ j k l) t o p q r v
def adO{a:aa au}(h:c (bT Q) b):aK (n+63) 8 [aN<|R ag a] b c d:=by
 refine a7 Lz (.c 175 (aN<|R ag a) ar) Y Y<|D2 (k:=63)<|ax tq ?_;generalize aF 63 a=e;refine aV de λf s g=>hF g<|aV g λj s g=>D2 (k:=63)<|ax tq ?_;generalize aF 63 a=l;refine aV g λm s g=>alz g 2 Y<|AH (m:=1009) (ao Y) λd o=>aV g λp s g=>?_;have g:Fr b s (f5 ⟨p,j,e,d,o⟩ 0 0 bO):=g.pk [3,1] 4 (ao Y)<|ao Y;refine alW g (cQ _) λls D q r s t v g=>oE g (ae v<|ao Y) (by decide) λm x y s z C g=>?_;have H {d:O} (h:d<2):∃s,([aG "lalr",aG "slr"]:aa ai)[d]?=J (aG s)/\(s="lalr"\/s="slr"):=by exact q! (a:=λd=>∃s,([aG "lalr",aG "slr"]:aa ai)[d]?=J (aG s)/\(s="lalr"\/s="slr")) h ⟨_,Y,aL Y⟩ ⟨_,Y,aw Y⟩
 refine aA (H z) λI L N=>bJ Y L<|akD t<|oE g (oG C v Y) (by decide) λZ c n s f a g=>aiI agO t _ _ _ _ _ _ N λl b=>?_;have q:c<=202:=oG a (oG C v Y:x<=201) Y;refine⟨mR (m:=2)<|ao Y,cv (mU (m:=2)) (λX X X=> .c 13 (aj p)<| .c 115 (gR D)<| .c 45 l ar) (λX r y=>f5 ⟨p,j,e,d,o⟩ r y bO) (λk r X=>r<=202+130*k) c n g q (λX X X X X=>rfl) (λk x r y s z H I g L=>?_) λX X s X g=>m9 g h⟩;have I:r<=202+130*k:=I;exact aby t g (ae I<|ae (d6 (kb 130<|lD<|(ly H).2) 202)<|bl Y) λZ f N s v C g=>b _ _ _ _ _ v (L f N s (ae C<|fY I 130) g)
end
end
open Array renaming size->d8,length_toList->uc,toList_inj->Gf,toList_append->HO,isEmpty->yp,isEmpty_iff_size_eq_zero->RP,toList_push->Ja,forIn_toList->Z2,mem_toList_iff->Gp,getElem?_toList->tb,getElem?_eq_getElem->M!,any_toList->Vs,getElem?_eq_some_iff->xr,getElem?_setIfInBounds->LH,getElem?_eq_none->B2,getElem?_push->VE
open Bool renaming not_true->Xh,not_eq_true'->Tw,false_eq_true->D'
open Classical renaming em->akh
open Eq renaming refl->Gm
open ForInStep renaming yield->uQ
open Int renaming eq_ofNat_of_zero_le->vD,fdiv_eq_ediv_of_nonneg->X5,min_eq_left->Gd,max_eq_right->GQ,toNat_of_nonpos->Wo,natCast_add->Np,lt_of_lt_of_le->X2,sub_self->ZZ,natCast_zero->O0
open Lean.JsonRpc.ErrorCode.workerCrashed renaming elim->ami
open List renaming lookup->b1,take_nil->Yb,drop_nil->A',foldl->v!,replicate_succ->UR,forIn_cons->Mu,any_cons->UZ,drop_zero->UQ,size_toArray->LA,any_eq_false->Ii,nodup_nil->xC,zip_eq_zipWith->g',drop_length->TA,lookup_cons->qT,range'->eu,map_inj_left->nB,mem_range'_1->Gz,any_eq_true->Ny
open Nat renaming log2_lt->M_,casesOn->Wh,sub_succ_lt_self->ļ,exists_eq_add_of_lt->ZC
open Option renaming elim->jV,noConfusion->Js,map_some->U2,any_eq_true->TB
open Pure renaming pure->Tx
open PyProof.Rows renaming mul_int->Ş,eq_str->acZ,ne_str->acD,lt_int->aaU,gt_int->ζ,slot_tuple_getitem->ad2,getItem_tuple->aeU,getItem_str->alm,len_tuple->acA,neg_int->alQ,floordiv_int->ahY,Fr->ahL,subscriptTail->Q9,tail_any->wy,slicePart_none->Vj,Subscript_->Mp,IntsAre->xZ,seqObj->z0,isTrue_and->TX
open PyProof.Rows.KTD renaming kt_isStr->aiO
open PySem renaming Pos->lq,Flow->Fl,callWith_type->Jd,typeLookup->j_,Fin->AU,Addr->cC,Obj->fO,Heap->iq,World->lb,Str->bj,hashStr->F7,Value->a6,DictEntry->gy,Program->zA,Env->jX,Shared->cR,mainGlobals->i1,builtinsNs->pS,bootBuiltins->tP,codeAny->uo,model->bM,BindsTo->JZ,cStatics->tL,FuncData->PO,NameKind->yx,Expr->cX,Stmt->fZ,ExceptHandler->VJ,foldedForSure->m?,constantsAlone->Zp,recursionLimit->mx,cLine->k6,callEnv->jU,Around->vs,wpAny->a8,exec->yY,execs->v7,rawInt->pd,eval->bB,wpAny_pure->bq,wpAny_mkInt->Nw,wpAny_mkText->Qv,wpAny_Name->MF,wpAny_loadName_local->JI,wpAny_loadName_free->X_,Sem->lP,binaryOp->oO,sizeLine->tY,sizeLine_eq->Hf,typeIs_int->V',call_meets->K7,Reads->o6,compareOp->m3,wpAny_bind->aB,wpAny_pyHash_int->UX,wpAny_pyHash_str->V6,wpAny_tupleItemsOf->J?,eqIsQuiet_byValue->UW,wpAny_specialOf->H2,wpAny_isInstance->Jz,wpAny_seqItems->e!,dictGet->Di,wpAny_holding->hR,wpAny_dictEntries->KO,wpAny_rule->CY,sysModules->YJ,slot_dict_contains->Y!,wpAny_call_entry->qR,wpAny_truthy_bool->zC,wpAny_mono->lh,truthy->QC,seqIndex?->Qq,getItem->HN,wpAny_getItem_slot->Uk,typeIs_str->Iq,IsPart->so,wpAny_field->ob,wpAny_getItem_list_slice->ZN,wpAny_typeOf->F0,wpAny_newObj_type->AW,slicePicked->Ta,Builtin->agH,getMethod->So,nsPutIn->zr,wpAny_loadPart->E2,wpAny_askSetting->Ux,aRefKeyMayBeTheName_at->Ĵ,wpAny_updatePart->WA,wpAny_lookBehind->Uh,pastItsLine_dict->W4,spliced->OA,backTo->ro,starEach->oM,attributeBase->KR,entryFor->JS,table->Hi,argsOk->Kr,wpAny_Call_method->Mk,wpAny_missed_other->Zx,isTrue->Fj,behindInMarks->JD,callWith->N6,call_list_seq->L!,wpAny_UnaryOp->Zn,wpAny_execs_nil->xY,interactive->RE,swapsWith->mG,wpAny_Expr_any->XH,storeName->Si,wpAny_storeName_local->Y',wpAny_assign_Name->BB,assign_Attribute->WS,wpAny_standAt->rT,wpAny_callSpecial?_slot->K9,slot_dict_setitem->i?,wpAny_notOrdered_dict->RQ,assignEach->DU,assignInOrder->Lo,wpAny_assign_Tuple->Xd,swappedStores->rV,wpAny_Assign_stores->GG,cameBackBy->X3,wpAny_setField->um,pyIter->mH,pyNext->rN,letOwnedTupleGo->yC,foldedSetIterable->EM,wpAny_pyNext_list_item->H?,wpAny_pyNext_list_end->WO,wpAny_dictEpoch->C?,wpAny_pyIter_slot->PK,wpAny_of_eq->yd,wpAny_typeNameOfWhole_keyiter->OC,wpAny_isOneOf_keyiter->ZU,wpAny_attempt->Ln,isSubtype_stop->XO,wpAny_pyIter_revIter->E',typeLookup_type->Gh,builtinLookup_eq_fast->Iv,isSubtype_type->H7,entryFor_of_tree->XJ,signature?_of->U8,wpAny_pyIter_enum->X0,wpAny_pyIter_list->Ĳ,closureFor->NQ,compEnvC->gS,Result->CI,wpAny_newFunctionEnv->f_,wpAny_comprehension_free->Xy,InCallC->Pm,cellsFrom->yP,codeAny_call_function->VW,codeAny_func->l_,wpAny_call->Bw,methodCall->M0,methodCallForm->ZS,methodCallPos->U9,wpAny_Slice->Xj,wpAny_evalPart_none->Jo,wpAny_collect_seq->Xt,codeAny_builtin->ŀ,checkBuiltinCall->Ge,wpAny_loadPart_at->uD,wpAny_isSubtype_exc->BV,wpAny_madeBy_exc->Vx,stack->DZ,isInstance->YQ,codeAny_call_builtin->V7,wpAny_execs_cons->Aa,cellOf->KT,Code->wF,OsState->B7,Thread->qX,denote->Sj,treeTable->wU,Params->gF,fenceModules?->Uu,bltViewBooted->Q_,table_eq_tree->Tf,callerA->Ld,classAt->Gx
open PySem.AfterImport renaming of_importEnds->Ż,unique->abr
open PySem.Arguments renaming posonlyargs->Og
open PySem.Around renaming frames->nW,handled->ub,depth->iY,units->gP,in1->Φ,deeper->ta,frames_deeper->wV,under_plainId->s_
open PySem.AutoListH renaming list___mul___list_int_3->aiS
open PySem.AutoSeq1 renaming list_extend_list_list_0->alI
open PySem.Bind renaming check->ajy
open PySem.Builtin renaming bitAnd->Yq,bitNot->QF,bitOr->aal,pylongFrames->akX
open PySem.Builtin.Dict renaming showsAll->Xg
open PySem.Builtin.Int renaming intBits->als
open PySem.Builtin.List renaming listFitsIndex->aah,listTooLong->b!
open PySem.Builtin.Range renaming rangeSize->aiM
open PySem.Builtin.Slice renaming slicePartIndex->ako,sliceApplied->aet,sliceAdjust->Ul,slicePlaces->YG
open PySem.Builtin.SmallTypes renaming newRecord->aga
open PySem.Builtin.Str renaming strSliceIndices->alx,subAt->Ρ
open PySem.Builtin.Tuple renaming tupleHashOf->afv,tupleItemsOf->X?
open PySem.Calls renaming call_len_list->acC,call_function_entry->acv,callWith_builtin->ajn,evalArgs_plain->ŕ,spliced_cons->TR,spliced_nil->ab5,Name_function_global->WM,loadGlobal_builtin->J!
open PySem.Code renaming func->sg,builtin->tA,quiet_builtin->GK,cUnits->ag1
open PySem.Data renaming seq->oB,dict->qv,fields->eV,cell->qQ
open PySem.Data.fields renaming elim->aln
open PySem.Data.seq renaming elim->aaW
open PySem.DictEntry renaming mk->aeF,refKey->ve
open PySem.Env renaming frame->qf,cells->gf,kindOf->c5,locals->jz,blockKind->ŧ
open PySem.ExcName renaming means->ake
open PySem.ExceptHandler renaming ExceptHandler->F4
open PySem.Expr renaming Call->d2,Attribute->fz,Name->cB,casesOn->abU,UnaryOp->u2,Subscript->tp,Slice->x5,Constant->CK,BoolOp->zp,Compare->ym,Tuple->gi,ListComp->tZ
open PySem.Expr.Name renaming elim->abf
open PySem.F renaming slot_tuple_add->alq,entry_tuple_add->aht,args_tuple_add_2->abC,fills_int_mul->amt,slot_int_rmul->U5,slot_int_index->ahB,entry_int_rmul->adQ,args_int_rmul_2->aiX,slot_list_mul->abn,entry_list_mul->afE,args_list_mul_2->afi,slot_tuple_hash->afG,entry_tuple_hash->ajJ,args_tuple_hash_1->agi,slot_tuple_eq->ajO,slot_list_getitem->KZ,slot_dict_getitem->ac5,slot_str_getitem->S5,slot_tuple_getitem->Fg,entry_tuple_getitem->Ζ,args_tuple_getitem_2->ac1,plainAttrs_list->Ip,slot_list_append->ab9,type_list_append->ae5,entry_list_append->akd,args_list_append_2->amw,slot_list_extend->ai7,type_list_extend->aaT,entry_list_extend->aj8,args_list_extend_2->afM,slot_list_index->ũ,type_list_index->aaV,entry_list_index->agx,args_list_index_2->alD,plainAttrs_str->aeE,slot_str_startswith->alj,type_str_startswith->aaf,entry_str_startswith->ajb,args_str_startswith_2->abc,plainAttrs_dict->W8,slot_dict_get->LQ,type_dict_get->W2,entry_dict_get->ń,args_dict_get_2->alV,args_dict_get_3->aiE,slot_dict_iter->YW,entry_dict_iter->aeK,slot_dict_keyiterator_next->HZ,args_dict_iter_1->aab,entry_dict_keyiterator_next->ahh,args_dict_keyiterator_next_1->alk,slot_dict_keyiterator_iter->Yi,entry_dict_keyiterator_iter->ah2,args_dict_keyiterator_iter_1->Λ,mro_reversed->ame,made_reversed->ak0,plain_reversed_new->acK,sub_reversed_self->ac7,typeCall_reversed_1->ama,newCall_reversed_1->agC,entry_reversed_new->abY,entry_object_init->aj4,args_object_init_2->adF,slot_list_pop->aep,type_list_pop->ajr,slot_list_getattribute->R9,args_list_getattribute_2->afr,kt_called_dict->aeb,kt_typeCall_dict_1->ad3,entry_dict_init->aju,args_dict_init_2->ak6,excBase_Exception->Cb,store_object->ahn
open PySem.Fin renaming done->YP
open PySem.Flow renaming ret->jF,next->qn
open PySem.FuncBody renaming stmts->aiQ
open PySem.FuncData renaming globals->yH,builtins->zd,scope->dX,qualname->xE,closure->uK
open PySem.Heap renaming get?->aH,lt_size->ic,SameBut->uj,push->di,get?_push_of_some->i4,get?_push_size->iI,update->rh,get?_update_self->mw,IsSliceOf->BQ,get?_update_other->MI,ExtBut->Dz,size_push->o?,isNs->l7,nsKeys->ahs,nsMap->mh,accountedOkI->G0,bltView->afp,nsPairs->alK,of_bltView->Pk,accountedI_of_ok->alH
open PySem.Heap.IsSliceOf renaming new->Z!
open PySem.Heap.SameBut renaming update->oc
open PySem.IntMulOk renaming of_left->Ź
open PySem.IsRange renaming new->U3
open PySem.IsiPair renaming str_str->aeo,tuple_str->ahJ
open PySem.Manifest renaming owners->adL,sig_reversed->aec
open PySem.MeetsIn renaming of_wp->alp
open PySem.MeetsSeq renaming EqGives->ah0,list_index->ajp
open PySem.NameKind renaming«local»->wD,globalImplicit->qk,free->kt,cell->ho,noConfusion->akY
open PySem.Obj renaming data->hJ,mapSeq->GB,isFreed_of_dict->ZG,data_mapDictKeys->aml,data_mapDict->aea,putName->PI,mapFields->Ac,isFreed_of_fields->yQ,data_mapFields->pa,cls_mapFields->Kw
open PySem.P renaming add_list->ajD,truthy_int->ahu,str_of_int->amm,len_tuple->afB,getItem_tuple->Β,pop_list->agA
open PySem.Params renaming strHash->abJ
open PySem.Pin renaming globalOf_eq->Lx,keysAreStrs_of->ajU,builtinOf_eq->aed
open PySem.Pos renaming endLine->n8,line->lL
open PySem.PyData renaming depth->TV,keyHash->ae1
open PySem.PylongRoom renaming of->ω
open PySem.Scope renaming kind->mj,isCoroutine->xM,isGenerator->y5,names->dp
open PySem.ScopeKind renaming function->jo
open PySem.SeerAt renaming of->afu
open PySem.Sem renaming wp_release->I_,ctorIdx->w7
open PySem.Sem.alloc renaming elim->Vb
open PySem.Sem.load renaming elim->Ut
open PySem.Sem.loadIfAlive renaming elim->t!
open PySem.Sem.update renaming elim->X9
open PySem.SeqAt renaming str_beq->akU
open PySem.SeqAt.EqAt renaming int_int->ε,int_str->agr,str_int->Μ,str_str->ad5
open PySem.SeqAt.RcAt renaming lists_lengths->aio
open PySem.SeqAt.RcNeAt renaming lists_lengths->aen
open PySem.SeqRoads2.EqGives renaming str->agq
open PySem.Shared renaming toks->gu,TypeIs->jl,heap->QQ,asleep_of_life->n',rest_eq->ahM
open PySem.Slot renaming lookup->kV
open PySem.Stmt renaming Assign->i7,casesOn->agX
open PySem.Stmt.Assign renaming elim->ac2
open PySem.Stmt.ClassDef renaming elim->adY
open PySem.Stmt.FunctionDef renaming elim->abH
open PySem.Str renaming empty->SY,mk->Ū,cps->Yo
open PySem.Str.mk renaming inj->aid
open PySem.StrLaws renaming subAt_eq->ajT
open PySem.Txt renaming startswith->WI
open PySem.UnaryOp renaming Invert->Du,Not->Z4,USub->Nd,UAdd->ab6,casesOn->acW
open PySem.Value renaming type->cJ,ref->w,str->gT,int->ew,none->bQ,bool->eR,builtin->ei,isInt_shape->N_,noConfusion->af4,isStrByCps_eq->ř,isInt->N3
open PySem.Value.ref renaming elim->aiZ
open PySem.Value.str renaming elim->ahN
open PySem.Value.type renaming elim->ag9
open PySem.W renaming ownOf->B_,hasW_int->Θ,findIn->hy,plainOver->K6,clsIn->oJ,typeIn->oH,mroIn->IW,ks_superIn->Bs,takerIn->uk,keepIn->wz,makesIn->Oc,set_plain->LG,looks_clsIn->Cy,callWith_of->Je,keeps_K->OS,looks_findIn->Rh,emptyDict->MM,looks_mroIn->I',methodObj->NA,any_some->Mz,alive->sv,stepOk->Kc,segRun->HH,boot_o_1->D6,boot_drawn->y0,topFrame->Et,topRun->O5,boot_heap->qj,staticsOk->Gu,namesBound->HE,laidKept->JH,opening->RU,layAllW->G1
open PySem.W.ClaimW renaming callFrom_of_specG->aav
open PySem.W.Fast renaming tw8437177126325714943->κ,tw11892475500146522536->abl,tw14364793385576792824->abG,tw6613529449190102663->akB,te8437177126325714943->acU,te11892475500146522536->agl,te14364793385576792824->adl,te6613529449190102663->abW
open PySem.W.WData renaming layableAll->adD
open PySem.W.WShape renaming has->afa
open PySem.World renaming params->bx
open String renaming length_toList->w8,toList_ofList->KG
open _root_ renaming Array->hi,bne_iff_ne->OK,Decidable->EZ,beq_eq_false_iff_ne->kZ,heq_of_eq->Hp,bne_self_eq_false->Hk
open PySem PySem.W PySem.Calls PyProof.Rows PySem.SeqAt PySem.SeqRoads2
section
open Zq.Cs renaming nil->bO
open Zq.Lw renaming nil->qM
section
abbrev PM:=cC->bf fO
def Dj(a B:PM):=∀b o,a b=J o->B b=A
def cO(a:PM)(h):=∀b o,a b=J o->aH h b=J o
def lj(a:PM)(h):=∀b o,a b=J o->∃c,aH h b=J {o with slots:=c}
def Le(a B:PM):=∀b o,a b=J o->B b=J o
noncomputable def nf(o:fO):=dI o.data.ctorIdx 9
def NF(a:PM):=∀b o,a b=J o->nf o=Q
structure Wd(À o z Z:PM)(Á:iq):Prop where
sI:cO À Á
sH:cO o Á
sF:lj z Á
sP:lj Z Á
IH:Dj À o
IF:Dj À z
IP:Dj À Z
HF:Dj o z
HP:Dj o Z
FP:Dj z Z
nH:NF o
nF:NF z
nP:NF Z
structure kf where
w:lb
nm:O->bj
ca:O->bf cC
mutual
noncomputable def pC(a:lb):ai->au
|ag b=>hashInt b|aG s=>F7 a<|dg s|aR c=>reduceHash<|afv<|RK a c|_=>0
noncomputable def RK(a:lb):aa ai->aa au
|[]=>[]|x::r=>pC a x::RK a r
end
def s4(a:aa<|ai×ai)(c):=fF (bw<|R (·.1) a) (∀e∈a,kj e.1=c)<|∀e∈a,gz e.1=Q
abbrev lO(T:bo)(a:hi a6)(n:O):fO:={cls:=cJ T,data:=oB a n}
noncomputable abbrev uW:=cJ "dict"
abbrev hx(a:hi gy)(n:O):fO:={cls:=uW,data:=qv a n}
abbrev JX(a d:cC):fO:={cls:=w a,dict:=J d}
noncomputable def uC(c:O):aW->ba
|ar=>Q| .c n _ r=>jt oN c n&&uC c r
inductive iZ(T:bo)(I:PM)(c:aa a6->Prop)(k:O)(x:a6):Prop
|mk (a:cC) (b:hi a6) (n:O) (e:x=w a) (g:I a=J (lO T b n)) (r:c<|cP b) (d:k<=cu)
inductive kh(I:PM)(d:aa gy->Prop)(b:aa<|ai×ai)(N:O->Prop)(x:a6):Prop
|mk (a:cC) (c:hi gy) (n e:O) (f:x=w a) (g:I a=J (hx c n)) (r:d<|cP c) (h:s4 b e) (l:U b<=cu) (j:a≠1) (z:N n)
inductive nz(S:kf)(I:PM)(c:O)(e:aa gy->Prop)(i:aW)(N:cC->Prop)(x:a6):Prop
|mk (d a:cC) (b:hi gy) (n:O) (f:x=w (d+1)) (k:S.ca c=J a) (g:I (d+1)=J (JX a d)) (h:I d=J (hx b n)) (r:e<|cP b) (j:uC c i=Q) (z:N d)
inductive tw{a:Type}(b:a->Prop)(B:aa a->Prop)(l:aa a):Prop
|mk (x:a) (s:aa a) (e:l=x::s) (c:b x) (d:B s)
def uz(h)(a B:a6->Prop)(e:gy):=fF (e.hash=h) (a e.key)<|B e.val
inductive HS(s:bj)(x:a6):Prop
|mk (t:Tok) (e:x=gT s t)
inductive IsI(a:au)(x:a6):Prop
|mk (t:Tok) (e:x=ew a t)
mutual
noncomputable def bD(S:kf)(I:PM):ai->a6->Prop
|bk=>λx=>x=bQ|bT c=>λx=>x=eR c|ag d=>IsI d|aG s=>HS<|dg s|aj e=>λx=>x=w e|aR a=>iZ "tuple" I (bS S I a)<|U a|aN a=>iZ "list" I (bS S I a)<|U a|gZ b=>kh I (er S I b) b λ_=>bh|od f i=>nz S I f (hO S I i) i λ_=>bh
noncomputable def bS(S:kf)(I:PM):aa ai->aa a6->Prop
|[]=>λl=>l=[]|v::r=>tw (bD S I v)<|bS S I r
noncomputable def er(S:kf)(I:PM):aa (ai×ai)->aa gy->Prop
|[]=>λl=>l=[]|(k,v)::r=>tw (uz (pC S.w k) (bD S I k)<|bD S I v)<|er S I r
noncomputable def hO(S:kf)(I:PM):aW->aa gy->Prop
|ar=>λl=>l=[]| .c n v r=>tw (uz (F7 S.w<|S.nm n) (HS<|S.nm n)<|bD S I v)<|hO S I r
end
structure Cx where
S:kf
dK:zA
I0:PM
K:Frag
fa:O->bf cC
mg:bj->bf a6
mb:bj->bf a6
pe:a6
noncomputable abbrev Cx.w(C:Cx):=C.S.w
def CU(C:Cx)(I H:PM)(b:aT)(a:O):m2->Prop
|az c=>iZ "list" H (bS C.S I c) (U c)<|w a|dD d n=>kh H (er C.S I d) d (·=n)<|w a|cw c i=>nz C.S H c (hO C.S I i) i (λd=>b d=A)<|w a
def sO(C)(I H)(a):=∀b o,a b=J o->CU C I H a b o
def Er(a:PM)(l:aa jX):=∀b∈l,mj b.scope≠ .module/\∃L o,qf b=J L/\a L=J o/\∀c,hJ o≠eV c
structure Z where
I:PM
H:PM
σ:aT
s:cR
def Ok(C)(a b)(z:Z):=eY (Wd z.I z.H a b z.s.heap)<|sO C z.I z.H z.σ
def Nx(z y:Z):=eY (Le z.I y.I)<|y.s={z.s with heap:=y.s.heap,toks:=gu y.s}
abbrev VP:=a6->cR->Prop
def PE(C)(a b)(z)(c:QT)(d:VP):=∀v x y,Nx z y->Ok C a b y->bD C.S y.I v x->c v y.σ->d x y.s
abbrev EF:=PM->a6->iq->Prop
def PX(C)(a b)(z)(c:EF)(d:aT->Prop)(E:VP):=∀e y,Nx z y->Ok C a b y->c y.I e y.s.heap->d y.σ->E e y.s
def UT(v:ai):=jB v.ctorIdx 3
def S9:ai->Const
|bk=> .none|bT b=> .bool b|ag a=> .int a|aG s=> .str<|dg s|_=> .none
noncomputable abbrev pn:=J<|cJ "function"
def Gl(C:Cx)(c)(a):=t9 (hy C.K (w a) "__getattribute__"=J (J<|ei "object.__getattribute__")) (hy C.K (w a) "__getattr__"=J A) (hy C.K (w a) "__setattr__"=J (J<|ei "object.__setattr__")) (K6 C.K a=Q) (∃b,oJ C.K a=J b/\b.hasDict=Q) (∀n,jt oN c n=Q->hy C.K (w a) (C.S.nm n)=J A)<|∀t m f,cm Ai c=J t->cm t m=J f->jt oN c m=u/\∃d,C.fa f=J d/\oH C.K (w d)=pn/\hy C.K (w a) (C.S.nm m)=J (J<|w d)
def wj(C:Cx):Prop:=GR (∀a o,b1 a C.K=J o->C.I0 a=J o) (∀a b,C.S.nm a=C.S.nm b->a=b) (∀a,C.S.nm a≠"__class__") (∀h,cO C.I0 h->h.NoLimit) (∀h,cO C.I0 h->h.NoSeer) (C.dK.given.tree=A) (∀h,cO C.I0 h->h.Ns i1 C.mg) (∀h,cO C.I0 h->h.Ns pS C.mb) (∀x:bj,x≠"__name__"->C.mb x=tP x)<|∀c d,C.S.ca c=J d->Gl C c d
inductive Ar(I:PM)(h:iq)(e:cC)(f g j:a6):Prop
|mk (a:fO) (b:hi a6) (T:cC) (c:fO) (d:hi a6) (k:aH h e=J a) (l:a.cls=f/\b[0]?=J g) (m:hJ a=eV b) (n:b[1]?=J (w T)) (o:I T=A) (p:T≠e) (q:aH h T=J c) (r:hJ c=eV d) (s:d[3]?=J j)
noncomputable def kP:PM:=λZ=>A
def rb(C:Cx)(I)(e)(h):=∃a,e=w a/\I a=A/\∃b,Ar I h a C.pe b bQ
def uv(C)(b:PT)(a)(f)(c):=
∀d (z:Z) e (g:aa a6) h (j:aT->Prop) k,Ok C kP d z->Le C.I0 z.I->(∀i,nW a=J i->Er d i)->bS C.S z.I e g->b f e z.σ h j->PE C kP d z h (λv s=>k (.ok<|jF v) s)->PX C kP d z (rb C) j (λe s=>k (.error e) s)->
 uo (bM C.dK C.w) a (.call (w c) ⟨g,[]⟩) k z.s
noncomputable def n4(nm:O->bj)(D:aa O)(a:aa a6):=(R nm D).zip a
def Bu(C:Cx)(d:Fn)(b)(c)(e)(a)(f)(g):=GR (C.I0 b=J ⟨c,e, .func a,f⟩) (a.body= .stmts g) (yH a=i1) (zd a=pS) (mj (dX a)=jo) (xM (dX a)=u) (y5 (dX a)=u) (∀h,cO C.I0 h->h.CodeRec a.code (xE a)) (bw d.e5)<|∀s (I:PM) j (k:aa a6) l,cO I s.heap->Le C.I0 I->bS C.S I j k->yX d.e5 d.p6 j=J l->
∃m n,l=q3 d.e5 m/\U m=U d.e5/\bS C.S I m n/\JZ s a ⟨k,[]⟩ (n4 C.S.nm d.e5 n)
def Yh(C:Cx)(c)(f d m:O)(b)(e)(g)(h)(a)(j):=hK (b1 ("__class__":bj) (gf c)=J b) (C.I0 b=J ⟨e,g,qQ<|J<|w a,h⟩) (oJ C.K a=J j)<|∀c k,jt ti c f=Q->C.S.ca c=J k->IW C.K k (w a)=J Q/\Bs C.K k a (C.S.nm m)=J (J<|w d)
def g?(C:Cx)(d:jX)(e)(b)(f)(g)(a)(h)(c):=hK (d.func=J b) (C.I0 b=J ⟨f,g, .func a,h⟩) (lH (Og a.params++a.params.args)=J c)<|c.arg=C.S.nm e
def PL(C:Cx)(d:jX)(a)(e)(f)(b)(g)(c)(h):=hK (d.code=w a) (C.I0 a=J ⟨e,f,eV b,g⟩) (b[2]?=J (gT c h))<|((C.dK.main.file:bj)==c)=Q
noncomputable abbrev dW:=J wD
def vG(C)(a)(c f b m):=Hx (c5 a "super"=J qk) (c5 a "__class__"=J kt) (c5 a (C.S.nm c)=dW) (∃d e g h j k,Yh C a f b m d e g h j k) (∃l e g n h o,g? C a c l e g n h o) (∃p e g q h r s,PL C a p e g q h r s) (d7 (b1 ("super":bj)<|dp C.dK.main.scope)=u) (C.mg "super"=A) (tP "super"=J (cJ "super")) ((C.S.nm m==("__class__":bj))=u) (nsIn C.K tL "thirdparty.any"=J A) (oH C.K (w b)=pn)<|fnIn C.K b=Q
structure EC where
nm:bj
q:bj
N:cC
T:cC
bs:aa a6
aaF:ba
sn:aa bj
sub:aa a6
ab:ba
col:bf ba
dd:bf cC
k0:bf a6
k1:bf a6
k2:bf a6
k3:bf a6
k5:bf a6
noncomputable abbrev e2:=cJ "object"
noncomputable abbrev jr:=cJ "Exception"
noncomputable abbrev qF:=cJ "BaseException"
noncomputable abbrev rJ(T):=[w T,jr,qF,e2]
abbrev xT(a)(c:EC):=excClassObj c.nm c.q a c.N c.bs (rJ c.T) c.aaF c.sn c.sub c.ab c.col c.dd c.k0 c.k1 c.k2 c.k3 c.k5 "Exception.__new__"
noncomputable def S2(v):=dite (v.ctorIdx=10) (λh=>aiZ (motive:=λZ=>bf O) v h J) λZ=>A
noncomputable def Q0(v:a6):=aE v.ctorIdx 10
noncomputable def Lf(v):=dite (v.ctorIdx=8) (λh=>ag9 (motive:=λZ=>bf bo) v h J) λZ=>A
noncomputable def Fi:aa a6->ba
|[]=>u|v::r=>aD (Q0 v) (Fi r)<|R Lf (v::r)==[J "Exception",J "BaseException",J "object"]
def F1(K)(C):=(oJ K C).any λa=>Fi a.mro
def ae2(c:PO)(d a e f b g h j k l m n c3 o):=eY ((n8 a==lL b)=Q)<|c.body= .stmts [.Expr (d2 (fz (cB "Exception" d) "__init__" a) [cB "self" e,cB "what" f] [] b) g,i7 [fz (cB "self" h) "what" j] (cB "what" k) l,i7 [fz (cB "self" m) "at" n] (cB "at" c3) o]
def ue(C:Cx)(b c:cC)(a:PO):Prop:=eY (Hx (C.pe=w b) (∃d,C.I0 b=J (xT b d)) (∃e,oJ C.K b=J e/\e.hasDict=Q) (hy C.K (w b) "__init__"=J (J<|w c)) (oH C.K (w c)=pn) (hy C.K (w b) "__setattr__"=J (J<|ei "object.__setattr__")) (F1 C.K b=Q) (uk C.K b "what"=J A) (uk C.K b "at"=J A) (∃f g h,C.I0 c=J ⟨f,g, .func a,h⟩) (findCls C.K (jr) (cJ "type") "__init__"=J (.val<|ei "Exception.__init__")) (C.mg "Exception"=A)<|yH a=i1)<|Hx (zd a=pS) (xM (dX a)=u) (y5 (dX a)=u) (mj (dX a)=jo) (∀h,cO C.I0 h->h.CodeRec a.code (xE a)) (∀x∈dp (dX a),x.2≠ho) (b1 ("self":bj) (dp<|dX a)=dW) (b1 ("what":bj) (dp<|dX a)=dW) (b1 ("at":bj) (dp<|dX a)=dW) (b1 ("Exception":bj) (dp<|dX a)=J qk) (∀s j b c,cO C.I0 s.heap->JZ s a ⟨[j,b,c],[]⟩ [("self",j),("what",b),("at",c)]) (∃k l m n o p q r t v y z c3 H,ae2 a k l m n o p q r t v y z c3 H) bh
noncomputable def xX:O->yx
|0=>wD|1=>kt|2=>qk|3=>ho|_=>kt
def yI(nm:O->bj)(p:O×O):bj×yx:=aD (aE p.2 4) ("__class__",kt) (nm p.1,xX p.2)
noncomputable def nZ(nm:O->bj):aa (O×O)->aa (bj×yx)
|[]=>[]|p::r=>yI nm p::nZ nm r
noncomputable def i6:aa (O×O)->O->bf O
|[],_=>A|p::r,x=>aD (aE p.2 4) (i6 r x)<|aD (aE p.1 x) (J p.2)<|i6 r x
def dq(X:aa<|O×O)(x k:O):Bool:=match i6 X x with
|some j=>aE j k|none=>u
noncomputable def E3:aa O->ba
|[]=>Q|x::r=>cS r (λy=> !aE x y)&&E3 r
def E7(X a:aa<|O×O):=cS a (λp=>(aE p.2 0||aE p.2 2)||(aE p.2 1&&dq X p.1 3))&&E3 (R (·.1) a)
noncomputable def p0:lq:=⟨0,0,0,0⟩
def dE:=cB SY p0
def BF:bf cX->cX
|some x=>x|none=>dE
structure XP where
l:aa cX
k:O
g:aa Comprehension
s:Scope
noncomputable def IY:Scope:=⟨jo,[],u,u,[]⟩
def xl(l:aa cX):XP:=⟨l,0,[],IY⟩
def HT(x):=abU (motive_1:=λZ=>XP) x (λZ a Z=>xl a) (λZ Z Z=>xl []) (λb Z c Z=>xl [b,c]) (λZ b Z=>xl [b]) (λZ Z Z Z=>xl []) (λb c d Z=>xl [b,c,d]) (λZ Z Z=>xl []) (λZ Z Z=>xl []) (λb g s Z=>⟨[b],0,g,s⟩) (λZ Z Z Z=>xl []) (λZ Z Z Z Z=>xl []) (λZ Z Z Z=>xl []) (λZ Z=>xl []) (λZ Z=>xl []) (λZ Z=>xl []) (λb Z a Z=>xl<|b::a) (λf a Z Z=>xl<|f::a) (λZ Z Z Z=>xl []) (λZ Z=>xl []) (λZ k Z=>⟨[],k,[],IY⟩) (λb Z Z=>xl [b]) (λb c Z=>xl [b,c]) (λZ Z=>xl []) (λZ Z=>xl []) (λa Z=>xl a) (λa k Z=>⟨a,k,[],IY⟩) λb c d Z=>xl [BF b,BF c,BF d]
def pt(x):=(HT x).l
def NP(x):=(HT x).k
def KP(x):=(HT x).s
def hE(l):=dN (lH l) dE
def mC(x):=dN (lH (HT x).g) ⟨dE,dE,[],0⟩
def h1(x):=hE<|pt x
def h2(x):=hE (pt x).tail
def h3(x):=hE (pt x).tail.tail
noncomputable def xv:yS->CmpOp
|fI=> .Eq|g0=> .NotEq|fD=> .Lt|HJ=> .LtE|j1=> .Gt|uN=> .GtE|ry=> .In|lg=> .NotIn|uq=> .Is|xS=> .IsNot
noncomputable def YA:rA->bj
|il=>"append"|j8=>"extend"|jM=>"index"|pI=>"get"|pG=>"startswith"
structure EP where
v:ai
n:O
e:E
r:E
k:bf<|aa<|O×O
noncomputable def jC:EP:=⟨aj 0,0,rq,rq,A⟩
def ep(e):=E.casesOn (motive:=λZ=>EP) e (λv=>⟨v,0,rq,rq,A⟩) (λn=>⟨aj 0,n,rq,rq,A⟩) (λZ=>jC) (λZ Z=>jC) (λZ Z=>jC) (λZ=>jC) (λZ Z Z=>jC) (λZ Z=>jC) (λZ Z Z=>jC) (λZ Z Z=>jC) (λZ Z Z Z Z=>jC) (λZ Z Z=>jC) (jC) (λa r=>⟨aj 0,0,a,r,A⟩) (λZ=>jC) (λb=>⟨aj 0,0,b,rq,A⟩) (jC) (λZ Z=>jC) (λZ=>jC) (λZ Z Z=>jC) (λZ Z Z=>jC) (λZ b=>⟨aj 0,0,b,rq,A⟩) (λZ Z Z=>jC) (λZ Z Z=>jC) λZ Z Z Z Z Z c=>⟨aj 0,0,rq,rq,J c⟩
def kQ(e):=qO (ep e).v
def tB(e):=ai.casesOn (motive_1:=λZ=>ba) (ep e).v u id (λZ=>u) (λZ=>u) (λZ=>u) (λZ=>u) (λZ=>u) (λZ Z=>u) λZ=>u
def rC(n)(a:cX->cX)(x):=d2 (cB n (h1 x).pos) [a<|h2 x] [] x.pos
def GD(n)(a b:cX->cX)(x):=d2 (cB n (h1 x).pos) [a<|h2 x,b<|h3 x] [] x.pos
def r1(f:AD)(a:cX->cX)(x:cX):=match f with
| .neg=>u2 .USub (a<|h1 x) x.pos| .rev=>tp (a<|h1 x) (x5 A A (J<|u2 .USub (CK (.int 1) (NP<|h1<|h3<|h2 x) (h1<|h3<|h2 x).pos) (h3<|h2 x).pos) (h2 x).pos) x.pos|ys=>GD "isinstance" a (λy=>cB "str" y.pos) x| .len=>rC "len" a x| .abs=>rC "abs" a x| .sum=>rC "sum" a x|sm=>rC "str" a x| .list=>rC "list" a x|q6=>rC "tuple" a x|Dy=>rC "sorted" a x| .dict=>rC "dict" a x
def rB(o:Operator)(a b:cX->cX)(x:cX):cX:= .BinOp (a<|h1 x) o (b<|h2 x) x.pos
def r2(f)(a b:cX->cX)(x:cX):=match f with
|AX=>GD "max" a b x|kW=>tp (a<|h1 x) (b<|h2 x) x.pos|Go=>rB .Add a b x|Fq=>rB .Sub a b x|qm=>rB .Mult a b x|xi=>rB .FloorDiv a b x|wc=>rB .Mod a b x|BY=>rB .Pow a b x|pz=>rB .LShift a b x|DT=>rB .RShift a b x|z1=>rB .BitAnd a b x|me=>rB .BitOr a b x
def rI(k)(a b:cX->cX)(x:cX):=match k with
|il=>a x|j8=>rC "range" a x|jM=>GD "range" a b x|pI=>rC "reversed" a x|pG=>rC "enumerate" a x
def rO(e)(a:cX):=aD (kQ e) A<|J a
abbrev RX:=(cX->cX)×(aa cX->aa cX)
noncomputable def rx(f:cX->cX):RX:=(f,λZ=>[])
def rX(nm)(a:O->O)(e):=E.rec (motive:=λZ=>RX)
 (λv=>rx λx=>CK (S9 v) (NP x) x.pos) (λn=>rx λx=>cB (nm n) x.pos) (λn=>rx λx=>cB (nm n) x.pos)
 (λZ Z b c=>rx λx=>zp .And [b.1<|h1 x,c.1<|h2 x] x.pos) (λZ Z b c=>rx λx=>zp .Or [b.1<|h1 x,c.1<|h2 x] x.pos) (λZ b=>rx λx=>u2 .Not (b.1<|h1 x) x.pos)
 (λZ Z Z d b c=>rx λx=> .IfExp (d.1<|h1 x) (b.1<|h2 x) (c.1<|h3 x) x.pos) (λf Z b=>rx<|r1 f b.1) (λf Z Z b c=>rx<|r2 f b.1 c.1)
 (λf Z Z b c=>rx λx=>ym (b.1<|h1 x) [xv f] [c.1<|h2 x] x.pos) (λf g Z Z Z b c d=>rx λx=>ym (b.1<|h1 x) [xv f,xv g] [c.1<|h2 x,d.1<|h3 x] x.pos)
 (λZ h j e b c=>rx λx=>tp (e.1<|h1 x) (x5 (rO h<|b.1<|h1<|h2 x) (rO j<|c.1<|h2<|h2 x) A (h2 x).pos) x.pos)
 (λx=>cB SY x.pos,λZ=>[]) (λZ Z b r=>(λx=>cB SY x.pos,λk=>b.1 (hE k)::r.2 k.tail))
 (λZ l=>rx λx=> .List (l.2<|pt x) x.pos) (λZ l=>rx λx=>gi (l.2<|pt x) (NP x) x.pos) (rx λx=> .Dict [] [] x.pos)
 (λZ n e=>rx λx=>fz (e.1<|h1 x) (nm n) x.pos) (λZ e=>rx λx=>d2 (fz (e.1<|h1<|h1 x) "pop" (h1 x).pos) [] [] x.pos)
 (λf Z Z e b=>rx λx=>d2 (fz (e.1<|h1<|h1 x) (YA f) (h1 x).pos) [b.1<|h2 x] [] x.pos) (λZ Z Z e b c=>rx λx=>d2 (fz (e.1<|h1<|h1 x) "get" (h1 x).pos) [b.1<|h2 x,c.1<|h3 x] [] x.pos)
 (λf Z l=>rx λx=>d2 (cB (nm f) (h1 x).pos) (l.2 (pt x).tail) [] x.pos) (λZ m Z e l=>rx λx=>d2 (fz (e.1<|h1<|h1 x) (nm m) (h1 x).pos) (l.2 (pt x).tail) [] x.pos)
 (λZ f Z l=>rx λx=>d2 (fz (d2 (cB "super" (h1<|h1<|h1 x).pos) [] [] (h1<|h1 x).pos) (nm<|a f) (h1 x).pos) (l.2 (pt x).tail) [] x.pos)
 (λZ Z k Z Z c0 X o t b c d=>rx λx=>tZ (o.1<|h1 x) [⟨t.1 (mC x).target,rI k b.1 c.1 (mC x).iter,aD (tB c0) [] [d.1<|hE (mC x).ifs],0⟩] {KP x with kind:=jo,names:=nZ nm X} x.pos) e
abbrev rE(nm)(a)(e):=(rX nm a e).1
abbrev hz(nm)(a)(e):=(rX nm a e).2
structure SP where
p:lq
l:aa cX
b:aa fZ
c:aa fZ
h:aa VJ
r:ba
def j0:SP:=⟨p0,[],[],[],[],u⟩
def y1(x):=agX (motive_2:=λZ=>SP) x (λZ Z b Z Z Z s Z Z p=>⟨p,[],b,[],[],u⟩) (λZ Z Z Z Z Z Z Z Z Z=>j0) (λZ Z Z Z Z Z Z Z Z Z Z=>j0) (λv p=>⟨p,[BF v],[],[],[],v.isNone⟩) (λZ Z=>j0) (λa v p=>⟨p,[v,hE a],[],[],[],u⟩) (λZ Z Z Z Z Z Z=>j0) (λZ Z Z Z=>j0) (λZ Z Z Z Z=>j0) (λt c b Z p=>⟨p,[c,t],b,[],[],u⟩) (λZ Z Z Z Z=>j0) (λt b Z p=>⟨p,[t],b,[],[],u⟩) (λt b c p=>⟨p,[t],b,c,[],u⟩) (λZ Z Z=>j0) (λZ Z Z=>j0) (λZ Z Z=>j0) (λv Z p=>⟨p,[BF v],[],[],[],u⟩) (λb h Z Z p=>⟨p,[],b,[],h,u⟩) (λZ Z Z Z Z=>j0) (λZ Z Z=>j0) (λZ Z=>j0) (λZ Z Z Z=>j0) (λZ Z=>j0) (λZ Z=>j0) (λv p=>⟨p,[v],[],[],[],u⟩) (λZ=>j0) (λZ=>j0) λp=>⟨p,[],[],[],[],u⟩
def mz(x):=(y1 x).p
def dP(x):=hE (y1 x).l
def kl(x):=hE (y1 x).l.tail
def j9(x):=(y1 x).b
def E0(x):=(y1 x).c
def jP(l:aa fZ):=dN (lH l)<| .Pass p0
def vp(x):=(y1 x).r
def DN(x):=dN (lH (y1 x).h)<|F4 A A [] p0
noncomputable def Ck:VJ->bf cX×aa fZ×lq
|F4 t _ b p=>(t,b,p)
def s7(s:S):=aE s.ctorIdx 12
abbrev RS:=(fZ->fZ)×(aa fZ->aa fZ)
noncomputable def rs(f:fZ->fZ):RS:=(f,λZ=>[])
def Ti(nm)(a)(s):=S.rec (motive:=λZ=>RS)
 (rs id) (λb Z s r=>(id,λc=>aD (s7 b) (r.2 c)<|s.1 (jP c)::r.2 c.tail))
 (λe=>rs λx=> .Expr (rE nm a e<|dP x)<|mz x) (λt e=>rs λx=>i7 [rE nm a t<|kl x] (rE nm a e<|dP x)<|mz x)
 (λe=>rs λx=> .Return (aD (vp x&&kQ e) A<|J<|rE nm a e<|dP x)<|mz x)
 (λc Z Z d b=>rs λx=> .If (rE nm a c<|dP x) (d.2<|j9 x) (b.2<|E0 x)<|mz x) (λc Z b=>rs λx=> .While (rE nm a c<|dP x) (b.2<|j9 x) []<|mz x)
 (λt k d b Z s=>rs λx=> .For (rE nm a t<|kl x) (rI k (rE nm a d) (rE nm a b)<|dP x) (s.2<|j9 x) []<|mz x) (rs λx=> .Continue<|mz x)
 (λf=>rs λx=> .Raise (J<|d2 (cB "ParseError" (h1<|dP x).pos) (hz nm a f (pt<|dP x).tail) [] (dP x).pos) A<|mz x)
 (λt e n c=>rs λx=> .Try [i7 [rE nm a t<|kl<|jP<|j9 x] (rE nm a e<|dP<|jP<|j9 x)<|mz<|jP<|j9 x] [F4 (J<|cB "ParseError" (BF (Ck<|DN x).1).pos) (J<|nm n) [i7 [cB (nm c) (kl<|jP (Ck<|DN x).2.1).pos] (cB (nm n) (dP<|jP (Ck<|DN x).2.1).pos)<|mz<|jP (Ck<|DN x).2.1] (Ck<|DN x).2.2] [] []<|mz x)
 (rs id) (λZ=>rs id) s
abbrev yw(nm)(a)(s):=(Ti nm a s).2
noncomputable def Be:aa (O×bj):=[(9,"len"),(4,"abs"),(16,"sum"),(15,"str"),(271,"isinstance"),(42,"list"),(135,"tuple"),(178,"sorted"),(27,"dict"),(10,"max"),(121,"range"),(241,"reversed"),(251,"enumerate")]
def U1(X)(x):=dq X x 0||(dq X x 1||dq X x 3)
def u9(X)(x):=dq X x 0||dq X x 3
def tC(x):=aE (n8 (h1 x).pos) x.pos.line
noncomputable def eL(e):=E.rec (motive:=λZ=>aa E) (λZ=>[]) (λZ=>[]) (λZ=>[]) (λZ Z Z Z=>[]) (λZ Z Z Z=>[]) (λZ Z=>[]) (λZ Z Z Z Z Z=>[]) (λZ Z Z=>[]) (λZ Z Z Z Z=>[]) (λZ Z Z Z Z=>[]) (λZ Z Z Z Z Z Z Z=>[]) (λZ Z Z Z Z Z=>[]) ([]) (λa Z Z r=>a::r) (λZ Z=>[]) (λZ Z=>[]) ([]) (λZ Z Z=>[]) (λZ Z=>[]) (λZ Z Z Z Z=>[]) (λZ Z Z Z Z Z=>[]) (λZ Z Z=>[]) (λZ Z Z Z Z=>[]) (λZ Z Z Z=>[]) (λZ Z Z Z Z Z Z Z Z Z Z Z=>[]) e
def mf(e):=U<|eL e
def o7(e):=aE e.ctorIdx 21&&aE (mf (ep e).e) 0
noncomputable def NI(e):=E.rec (motive:=λZ=>ba) (λZ=>u) (λZ=>u) (λZ=>u) (λZ Z Z Z=>u) (λZ Z Z Z=>u) (λZ Z=>u) (λZ Z Z Z Z Z=>u) (λZ Z Z=>u) (λZ Z Z Z Z=>u) (λZ Z Z Z Z=>u) (λZ Z Z Z Z Z Z Z=>u) (λZ Z Z Z Z Z=>u) (Q) (λZ Z Z r=>r) (λZ Z=>u) (λZ Z=>u) (u) (λZ Z Z=>u) (λZ Z=>u) (λZ Z Z Z Z=>u) (λZ Z Z Z Z Z=>u) (λZ Z Z=>u) (λZ Z Z Z Z=>u) (λZ Z Z Z=>u) (λZ Z Z Z Z Z Z Z Z Z Z Z=>u) e
def GI(f:O->ba)(e):=aE e.ctorIdx 1&&f (ep e).n
def xx(f)(e):=NI e&&cS (eL e) (GI f)
def vj(e:E):=aE e.ctorIdx 15
def HB(f)(e):=GI f e||(vj e&&xx f (ep e).e)
noncomputable def eOp(e):=E.casesOn (motive:=λZ=>O) e (λZ=>0) (λZ=>0) (λZ=>0) (λZ Z=>0) (λZ Z=>0) (λZ=>0) (λZ Z Z=>0) (λZ Z=>0) (λf Z Z=>f.ctorIdx) (λZ Z Z=>0) (λZ Z Z Z Z=>0) (λZ Z Z=>0) 0 (λZ Z=>0) (λZ=>0) (λZ=>0) 0 (λZ Z=>0) (λZ=>0) (λZ Z Z=>0) (λZ Z Z=>0) (λZ Z=>0) (λZ Z Z=>0) (λZ Z Z=>0) λZ Z Z Z Z Z Z=>0
def H9(e):=aE e.ctorIdx 8&&aE (eOp e) 11
def s1(X)(f:AD)(a:cX->ba)(x:cX):=match f with
| .neg=>a<|h1 x| .rev=>a<|h1 x|ys=>dq X 271 2&&dq X 15 2&&a (h2 x)| .len=>dq X 9 2&&a (h2 x)| .abs=>dq X 4 2&&a (h2 x)| .sum=>dq X 16 2&&a (h2 x)|sm=>dq X 15 2&&a (h2 x)| .list=>dq X 42 2&&a (h2 x)|q6=>dq X 135 2&&a (h2 x)|Dy=>dq X 178 2&&a (h2 x)| .dict=>dq X 27 2&&a (h2 x)
def s2(X)(d)(f)(a b:cX->ba)(x:cX):=match f with
|AX=>dq X 10 2&&(a (h2 x)&&b (h3 x))|xi=>d&&(a (h1 x)&&b (h2 x))|_=>a (h1 x)&&b (h2 x)
def sI(X)(k)(t b:E)(a c:cX->ba)(x:cX):=match k with
|il=>kQ b&&a x|j8=>kQ b&&(dq X 121 2&&a (h2 x))|jM=>dq X 121 2&&(a (h2 x)&&c (h3 x))|pI=>kQ b&&(dq X 241 2&&a (h2 x))|pG=>kQ b&&(vj t&&(dq X 251 2&&a (h2 x)))
abbrev SX:=(ba->aa (O×O)->ba->cX->ba)×(aa (O×O)->ba->aa cX->ba)
noncomputable def sx(f:ba->aa (O×O)->ba->cX->ba):SX:=(f,λZ Z Z=>u)
def sX(a:O->ba)(e):=E.rec (motive:=λZ=>SX)
 (λv=>sx λZ Z Z Z=>UT v) (λn=>sx λZ X Z Z=>U1 X n) (λn=>sx λZ X Z Z=>dq X n 2)
 (λZ Z b c=>sx λt X d x=>b.1 t X d (h1 x)&&c.1 t X d (h2 x)) (λZ Z b c=>sx λt X d x=>b.1 t X d (h1 x)&&c.1 t X d (h2 x)) (λZ b=>sx λt X d x=>b.1 t X d<|h1 x)
 (λZ Z Z f b c=>sx λt X d x=> !t&&(f.1 Q X d (h1 x)&&(b.1 u X d (h2 x)&&c.1 u X d (h3 x)))) (λg Z b=>sx λZ X d x=>s1 X g (b.1 u X d) x) (λg Z Z b c=>sx λZ X d x=>s2 X d g (b.1 u X d) (c.1 u X d) x)
 (λZ Z Z b c=>sx λZ X d x=>b.1 u X d (h1 x)&&c.1 u X d (h2 x)) (λZ Z Z Z Z b c f=>sx λt X d x=>t&&(b.1 u X d (h1 x)&&(c.1 u X d (h2 x)&&f.1 u X d (h3 x))))
 (λZ h j e b c=>sx λZ X d x=>e.1 u X d (h1 x)&&((kQ h||b.1 u X d (h1<|h2 x))&&(kQ j||c.1 u X d (h2<|h2 x))))
 (λZ Z Z Z=>u,λZ Z Z=>Q) (λZ Z b r=>(λZ Z Z Z=>u,λX d k=>b.1 u X d (hE k)&&r.2 X d k.tail))
 (λl m=>sx λZ X d x=>jB (mf l) 1000&&m.2 X d (pt x)) (λl m=>sx λZ X d x=>jB (mf l) 1000&&m.2 X d (pt x)) (sx λZ Z Z Z=>Q)
 (λl Z e=>sx λZ X d x=> !o7 l&&e.1 u X d (h1 x)) (λl e=>sx λZ X d x=>(!o7 l&&tC x)&&e.1 u X d (h1<|h1 x))
 (λZ l Z e b=>sx λZ X d x=>(!o7 l&&tC x)&&(e.1 u X d (h1<|h1 x)&&b.1 u X d (h2 x))) (λl Z Z e b c=>sx λZ X d x=>(!o7 l&&tC x)&&(e.1 u X d (h1<|h1 x)&&(b.1 u X d (h2 x)&&c.1 u X d (h3 x))))
 (λg Z m=>sx λZ X d x=>(dq X g 2&&a g)&&m.2 X d (pt x).tail) (λl Z o e m=>sx λZ X d x=>(!o7 l&&tC x)&&(jB (mf o) 20&&(e.1 u X d (h1<|h1 x)&&m.2 X d (pt x).tail)))
 (λZ Z Z Z=>sx λZ Z Z Z=>u)
 (λZ p k Z j c0 q s Z b c f=>sx λZ X d x=>(E7 X q&&HB (λz=>dq q z 0) p)&&(sI X k p j (b.1 u X d) (c.1 u X d) (mC x).iter&&(s.1 u q u (h1 x)&&(tB c0||f.1 Q q u (hE (mC x).ifs))))) e
abbrev pL(a)(e):=(sX a e).1
abbrev sf(a)(e):=(sX a e).2
def DY(a)(X)(d)(e)(x):=(GI (u9 X) e||(vj e&&xx (u9 X) (ep e).e))||((aE e.ctorIdx 17||H9 e)&&pL a e u X d x)
noncomputable def zv(l:O):aa cX->ba
|[]=>Q|x::r=>aE x.pos.line l&&zv l r
def Tc(e):=(eL e).map λe=>(ep e).n
def Ku(X)(z)(e)(x):=jV (ep e).k Du λa=>aD (dq X z 0&&(aE (kl x).pos.line (dP x).pos.line&&cS a (λp=> !(aE p.1 z&&aE p.2 0)))) Z4<|aD (dq X z 3) Du Nd
def FG(nm)(b)(X)(a c)(x):=aD ((aE (mf a) 2||aE (mf a) 3)&&(aE (mf c) (mf a)&&xx (λz=>dq X z 0) a))
 (aD ((E3 (Tc a)&&zv (hE<|hz nm b a<|pt<|kl x).pos.line (hz nm b a<|pt<|kl x))&&(!(cS (hz nm b c<|pt<|dP x)<|m? 8)&& !(cS (hz nm b c<|pt<|dP x)<|Zp 8))) ab6 Nd) Du
def asK(nm)(a)(X)(t e)(x):=aD (aE t.ctorIdx 1) (Ku X (ep t).n e x)<|aD (vj t&&vj e) (FG nm a X (ep t).e (ep e).e x) Du
noncomputable def zU(k):=acW (motive:=λZ=>ba) k Q Q Q u
def OT(e):=d7 (ep e).k
abbrev TS:=(fZ->ba)×(aa fZ->ba)
noncomputable def ia(f:fZ->ba):TS:=(f,λZ=>u)
def sS(a)(nm)(b)(X)(s):=S.rec (motive:=λZ=>TS)
 (λZ=>u,λZ=>Q) (λc Z s r=>(λZ=>u,λd=>aD (s7 c) (r.2 d)<|s.1 (jP d)&&r.2 d.tail))
 (λe=>ia λx=> !OT e&&pL a e u X Q (dP x)) (λt e=>ia λx=>zU (asK nm b X t e x)&&(DY a X Q t (kl x)&&pL a e u X Q (dP x)))
 (λe=>ia λx=>(vp x&&kQ e)||pL a e u X Q (dP x))
 (λc Z Z f b=>ia λx=>pL a c Q X Q (dP x)&&(f.2 (j9 x)&&b.2 (E0 x))) (λc Z b=>ia λx=>pL a c Q X Q (dP x)&&b.2 (j9 x))
 (λt k f b Z s=>ia λx=>DY a X Q t (kl x)&&(sI X k t b (pL a f u X Q) (pL a b u X Q) (dP x)&&s.2 (j9 x))) (ia λZ=>Q)
 (λg=>ia λx=>aE (mf g) 2&&(dq X 261 2&&sf a g X Q (pt<|dP x).tail))
 (λt e n c=>ia λx=>(dq X n 0&&dq X c 0)&&(dq X 261 2&&(!OT e&&(DY a X Q t (kl<|jP<|j9 x)&&(aE t.ctorIdx 1&&pL a e u X Q (dP<|jP<|j9 x))))))
 (ia λZ=>Q) (λZ=>ia λZ=>u) s
abbrev qI(a)(nm)(b)(X)(s):=(sS a nm b X s).1
abbrev u4(a)(nm)(b)(X)(s):=(sS a nm b X s).2
def vz(C)(a:O->ba):=PC (wj C) (∀x,(C.S.nm x==("__debug__":bj))=u) (∀x,(C.S.nm x==("__classdict__":bj))=u) (∀(b:O) p,Be[b]?=J p->C.S.nm p.1=p.2/\C.mg p.2=A) (C.S.nm 261="ParseError") (∀x v,cm Fw x=J v->∃y,C.mg (C.S.nm x)=J y/\bD C.S C.I0 v y) (∀f,a f=Q->∃c,C.fa f=J c/\C.mg (C.S.nm f)=J (w c)) (∀f c,C.fa f=J c->wz C.K (w c)=Q)<|∃d e g,ue C d e g/\C.mg "ParseError"=J (w d)/\wz C.K (w d)=Q
def BZ(a b:O->ba)(sx:O)(X)(e)(x):=E.casesOn (motive:=λZ=>ba) e (λZ=>u) (λZ=>u) (λZ=>u) (λZ Z=>u) (λZ Z=>u) (λZ=>u) (λZ Z Z=>u) (λZ Z=>u) (λZ Z Z=>u) (λZ Z Z=>u) (λZ Z Z Z Z=>u) (λZ Z Z=>u) u (λZ Z=>u) (λZ=>u) (λZ=>u) u (λZ Z=>u) (λZ=>u) (λZ Z Z=>u) (λZ Z Z=>u) (λZ Z=>u) (λZ Z Z=>u)
 (λy f c=>(aE y sx&&b f)&&(tC x&&(jB (mf c) 20&&sf a c X Q (pt x).tail))) (λZ Z Z Z Z Z Z=>u)
def vM(e:Zq.E):=aE e.ctorIdx 23
def aX(a c)(sx)(nm)(b)(X)(s):=S.rec (motive:=λZ=>TS)
 (λZ=>u,λZ=>Q) (λd Z s r=>(λZ=>u,λe=>aD (s7 d) (r.2 e)<|s.1 (jP e)&&r.2 e.tail))
 (λe=>ia λx=>aD (vM e) (BZ a c sx X e<|dP x)<|qI a nm b X (uy e) x) (λt e=>ia<|qI a nm b X<|nK t e)
 (λe=>ia λx=>aD (vM e) (!vp x&&BZ a c sx X e (dP x))<|qI a nm b X (v5 e) x)
 (λc Z Z f g=>ia λx=>pL a c Q X Q (dP x)&&(f.2 (j9 x)&&g.2 (E0 x))) (λc g Z=>ia<|qI a nm b X<| .while c g)
 (λt k f g s Z=>ia<|qI a nm b X<| .for t k f g s) (ia λZ=>Q)
 (λh=>ia<|qI a nm b X<|Az h) (λt e n c=>ia<|qI a nm b X<| .AV t e n c) (ia λZ=>Q) (λZ=>ia λZ=>u) s
def AN(n)(a):=hK (ub a=A) (∃i,nW a=J i) (iY a+3*n+310<mx)<|gP a+20*n+310<k6
def alf(C:Cx)(b:O->ba)(a:O->O)(f c:O)(d:Prop):Prop:=∀e g h j k l X,(cm iS f=J e)->(Bu C e c g h j k l)->(uK j=[])->(dp (dX j)=nZ C.S.nm X)->(cS e.e5 (u9 X)=Q)->(yw C.S.nm a e.gY l=l)->(u4 b C.S.nm a X e.gY l=Q)->d
def amh(C:Cx)(c:O->ba)(a:O->O)(sx f b:O)(d:Prop):Prop:=∀(e:O->ba),∀g h j k l m X,∀(n:cC),(cm iS f=J g)->(Bu C g b h j k l m)->(uK k=[(("__class__":bj),n)])->(dp (dX k)=nZ C.S.nm X)->(cS X (λp=> !aE p.2 3)=Q)->(cS g.e5 (λx=>dq X x 0)=Q)->(yw C.S.nm a g.gY m=m)->((aX c e sx C.S.nm a X g.gY).2 m=Q)->(∀L g,e g=Q->∃o,C.fa g=J o/\vG C (jU k L b) sx g o (a g))->d
def ah3(C:Cx)(f a:O)(b:Prop):Prop:=∀(g c:O),(cm iS f=A)->(cm tN f=J g)->(C.S.ca f=J a)->(Oc C.K a=Q)->(hy C.K (w a) "__init__"=J (J<|w c))->(oH C.K (w c)=pn)->(C.fa g=J c)->b
def ah9(f:O)(a:Prop):Prop:=(cm iS f=A)->(cm tN f=A)->a
def y7(C:Cx)(b:O->ba)(c:O->O)(sx f a:O):Prop:=∀d:Prop,alf C b c f a d->amh C b c sx f a d->ah3 C f a d->ah9 f d->d
def DX(C)(a)(b):=∀sx,vz C a->(∀f c,C.fa f=J c->y7 C a b sx f c)->∀n (d:vs),AN n d->∀f c,C.fa f=J c->uv C (aK n) d f c
structure C4 where
C:Cx
fT:O->ba
mn:O->O
noncomputable def c40:C4:=⟨⟨⟨⟨λZ Z=>0,{strHash:=λZ=>0,shareClass:=λZ=>0,mergeTok:=λZ=>0,idOf:=λZ=>0,idOfShared:=λZ Z=>0,followText:=λZ=>u,idOfImm:=λZ=>0}⟩,λZ=> .ofString "",λZ=>A⟩,default,λZ=>A,[],λZ=>A,λZ=>A,λZ=>A,bQ⟩,λZ=>u,λZ=>0⟩
def WH:∃c:C4,(∃d:C4,¬DX d.C d.fT d.mn)->¬DX c.C c.fT c.mn:=aO (akh<|∃d,¬DX d.C d.fT d.mn) (λh=>ah h λd h=>cL d<|λZ=>h) λh=>cL c40<|λx=>absurd x h
noncomputable def c4:=OE WH
noncomputable def C:=c4.C
def fT:=c4.fT
def mn:=c4.mn
def afC(h:DX C fT mn){a b m}:DX a b m:=Cg λn=>NS WH ⟨⟨a,b,m⟩,n⟩ h
inductive nR(b:PM)(L:cC)(m:bj->bf a6):Prop
|mk (o:fO) (a:hi gy) (ep:O) (f:b L=J o) (d:hJ o=qv a ep) (k:StrKeys a) (n:∀n,nsFind a n=m n)
def t8(a)(n):=c5 a n=J ho\/c5 a n=J kt
inductive GU(S:kf)(I a:PM)(b:jX)(n:bj)(v:ai):Prop
|mk (c:cC) (y:a6) (o:fO) (l:b1 n (gf b)=J c) (f:a c=J o) (d:hJ o=qQ (J y)) (r:bD S I v y)
def Fo(C:Cx)(I b)(a)(m)(l):=om (nR b (jz a) m) (∀x v,cW l x=J v->c5 a (C.S.nm x)=dW->∃y,m (C.S.nm x)=J y/\bD C.S I v y) (∀x v,cW l x=J v->t8 a (C.S.nm x)->GU C.S I b a (C.S.nm x) v) (∀n c,b1 n (gf a)=J c->n≠"__class__"->∃o v,b c=J o/\hJ o=qQ v) (∀n d c,b1 n (gf a)=J c->b1 d (gf a)=J c->n=d)<|∃L o,qf a=J L/\b L=J o
def g6(C)(I a)(b)(l):=∃m,Fo C I a b m l
def hr(a:jX):=fF (mj a.scope=jo) (a.globals=i1)<|a.builtins=pS
def Up(C:Cx)(a)(I b):=eY (Le C.I0 I)<|∀i,nW a=J i->Er b i.tail
def C5(a):=eY (gP a+300<k6)<|iY a+300<mx
def PS(C)(a)(b)(z)(N:LT)(d:QT)(e:LT)(c:Fl->cR->Prop):=fF (∀l f y,Nx z y->Ok C f b y->g6 C y.I f a l->N l y.σ->c qn y.s) (∀l f y,Nx z y->Ok C f b y->g6 C y.I f a l->e l y.σ->c .cont y.s)<|∀v x l f y,Nx z y->Ok C f b y->g6 C y.I f a l->bD C.S y.I v x->d v y.σ->c (jF x) y.s
def qN(C)(a)(b)(z)(c:EF)(d:aT->Prop)(E:VP):=∀e l f y,Nx z y->Ok C f b y->g6 C y.I f a l->c y.I e y.s.heap->d y.σ->E e y.s
def Nv(C)(c)(b)(d)(s)(a)(t):=
∀e f (z:Z) l (N:LT) g (h:LT) j (k:Fl->cR->Prop) E,Ok C e f z->Up C b z.I f->g6 C z.I e a l->c1 c j s l z.σ N g h->PS C a f z N g h k->qN C a f z d j E->a8 (bM C.dK C.w) b t k E z.s
abbrev Zq(C)(b)(c)(d)(s)(a)(st):=Nv C b c d s a<|yY st a
abbrev Nr(C)(b)(c)(d)(s)(a)(st):=Nv C b c d s a<|v7 st a
def aiK(I:PM)(h)(e)(a):=∃b c d,aH h e=J b/\b.cls=a/\hJ b=eV d/\d[0]?=J c/\d[1]?=J bQ
def eO(C:Cx)(a)(I)(e)(h):=∃b,e=w b/\I b=A/\(aiK I h b C.pe\/∃c d,Ar I h b C.pe c d/\(d=bQ\/∃L,qf a=J L/\d=pd L))
def px(b)(a)(c):=fF (nW b=J (a::c)) (qf a=J (jz a))<|mj a.scope=jo
def AF(a)(b):=uF<|∃c d,nW a=J (c::d)/\qf c=qf b/\mj c.scope≠ .module
def yt(C)(a:EF):=∀I e h,rb C I e h->a I e h
def Ht(C)(c)(b)(d)(e)(s)(a)(t):=
∀f g (z:Z) l (N:LT) h (j:LT) k (m:Fl->cR->Prop) E,Ok C f g z->Up C b z.I g->g6 C z.I f a l->c1 c k s l z.σ N h j->PS C a g z N h j m->qN C a g z d k E->_root_.PySem.wpAt (bM C.dK C.w) b e t m E z.s
def VD(b)(a):=hK (hr a) (∃l,nW b=J (a::l)) (y5 a.scope=u)<|xM a.scope=u
def Df(C:Cx)(a)(X):=hK (∀x,i6 X x=J 0->c5 a (C.S.nm x)=dW) (∀x,i6 X x=J 1->c5 a (C.S.nm x)=J ho\/c5 a (C.S.nm x)=J kt) (∀x,i6 X x=J 2->c5 a (C.S.nm x)=J qk)<|∀x,i6 X x=J 3->c5 a (C.S.nm x)=J ho/\∃b,b1 (C.S.nm x) (gf a)=J b
abbrev rS(nm)(mn)(s):=(Ti nm mn s).1
def wR(C)(c)(a)(d)(X)(e)(b):=Hh (hr b) (C5 a) (ub a=A) (Df C b X) (yt C d) (AF a b) (e=Q->VD a b)<|∀f g,C.fa f=J g->uv C c a f g
def MS(C)(b)(c)(fT)(mn)(X)(a)(s):=∀x,qI fT C.S.nm mn X s x=Q->Zq C b c (eO C a) s a (rS C.S.nm mn s x)
def Z5(C)(b)(c)(fT)(mn)(X)(a)(s):=∀d,u4 fT C.S.nm mn X s d=Q->Nr C b c (eO C a) s a (yw C.S.nm mn s d)
def MQ(C)(b)(c)(fT d)(sx)(mn)(X)(a)(e)(s):=∀x,(aX fT d sx C.S.nm mn X s).1 x=Q->Ht C b c (eO C a) e s a (yY (rS C.S.nm mn s x) a)
def Om(C)(b)(c)(fT d)(sx)(mn)(X)(a)(e)(s):=∀f,(aX fT d sx C.S.nm mn X s).2 f=Q->Ht C b c (eO C a) e s a (v7 (yw C.S.nm mn s f) a)
abbrev lR:=vz C fT
def Ds(b)(a):=lR->∀c (X:aa<|O×O) d,wR C b a (eO C c) X Q c->px a c d->iY a+5<mx->(∀s,MS C b a fT mn X c s/\Z5 C b a fT mn X c s)/\
∀e (sx:O) f,(∀g,e g=Q->∃h,C.fa g=J h/\vG C c sx g h (mn g))->∀s,MQ C b a fT e sx mn X c (sg f c) s/\Om C b a fT e sx mn X c (sg f c) s
noncomputable def da:PT×vs:=@Classical.epsilon _ ⟨(λZ Z Z Z Z=>bW,{})⟩ λp=>¬Ds p.1 p.2
def Dq:=da.1
def Aq:=da.2
def W'(h:Ds Dq Aq){E B}:Ds E B:=Cg λn=>@Classical.epsilon_spec _ (λp=>¬Ds p.1 p.2) ⟨(E,B),n⟩ h
noncomputable def PM.dG(a:PM)(b:cC)(o:fO):PM:=λc=>aD (aE c b) (J o)<|a c
def t2(a):Le a a:=λZ Z h=>h
def Le.xJ{a B C}(x:Le a B)(y:Le B C):Le a C:=λZ Z h=>y _ _ (x _ _ h)
def iK(b:PM)(a)(o):b.dG a o a=J o:=by unfold PM.dG;exact W (fK ..) Y
def lN{a:PM}(h:b≠c):a.dG c o b=a b:=by unfold PM.dG;exact W (d4 h) Y
def za{c:PM}(h:c.dG a o b=J x):(b=a/\x=o)\/(b≠a/\c b=J x):=by
 by_cases e:b=a
 .rw [e,iK] at h;exact aL ⟨e,a4<|aC h⟩
 .rw [lN e] at h;exact aw ⟨e,h⟩
def R_{a:PM}(e:a b=J o)(n:a c=A):b≠c:=λz=>by rw [z,n] at e;exact aI e
def xH(h:a b=A)(o):Le a (a.dG b o):=λb c e=>W (lN<|R_ e h) e
def nf.ne(h:nf o=Q):∀a,hJ o≠eV a:=λa e=>by unfold nf at h;exact bR<|e▸h
def NF.put(x:NF a)(h:nf o=Q):NF (a.dG b o):=λb c e=>by
 rcases za e with ⟨_,e⟩|⟨_,e⟩
 .exact W e h
 .exact x _ _ e
section
def cO.pB(x:cO I h):lj I h:=λa o e=>cL o.slots<|x a o e
def lj.no(x:lj I h)(e:aH h a=A):I a=none:=by
 cases q:I a with
 |none=>rfl|some o=>refine bp (x _ _ q) λb z=>?_;rw [z] at e;cases e
def mP(h):aH h h.objs.size=none:=by
 cases q:aH h h.objs.size with
 |none=>rfl|some o=>exact ay (ic q)<|kq _
def Dj.hq{a B}(d:Dj a B):Dj B a:=λb o e=>by
 cases q:a b with
 |none=>rfl|some x=>rw [d b x q] at e;cases e
def Dj.sh{a B}(d:Dj a B)(e:B b=A):Dj (a.dG b o) B:=λb x p=>by
 rcases za p with ⟨z,_⟩|⟨_,p⟩
 .exact W z e
 .exact d _ _ p
def Dj.uu{a B}(d:Dj a B)(e:a b=A):Dj a (B.dG b o):=(d.hq.sh e).hq
def Kp(n:cC->Prop)(h a):=∀b o,¬n b->aH h b=J o->aH a b=J o
def cO.kp(s:cO I h)(k:Kp n h b)(e:∀a,n a->I a=A):cO I b:=λb o q=>k b o (λz=>by rw [e b z] at q;cases q)<|s b o q
def lj.kp(s:lj I h)(k:Kp n h b)(e:∀a,n a->I a=A):lj I b:=λb o q=>let⟨c,z⟩:=s b o q;⟨c,k b _ (λz=>by rw [e b z] at q;cases q) z⟩
def Wd.qY(a:Wd I H c d h)(e:aH h b=A):I b=A/\H b=A/\c b=A/\d b=none:=⟨a.sI.pB.no e,a.sH.pB.no e,a.sF.no e,a.sP.no e⟩
def Wd.kp(b:Wd I H c d h)(k:Kp n h f)(e:∀a,n a->I a=A/\H a=A/\c a=A/\d a=A):Wd I H c d f:=
{b with sI:=b.sI.kp k λa z=>(e a z).1,sH:=b.sH.kp k λa z=>(e a z).2.1,sF:=b.sF.kp k λa z=>(e a z).2.2.1,sP:=b.sP.kp k λa z=>(e a z).2.2.2}
def Wd.tS(a:Wd I H c d h)(k:∀b o,aH h b=J o->aH e b=J o):Wd I H c d e:=a.kp (n:=λZ=>bW) (λb o Z=>k b o) λZ z=>b6 z
def cO.put(s:cO I h)(e:aH h a=J o):cO (I.dG a o) h:=λb x q=>by
 rcases za q with ⟨z,y⟩|⟨_,q⟩
 .simp only [z,y];exact e
 .exact s _ _ q
def lj.put(s:lj I h)(e:aH h a=J o):lj (I.dG a o) h:=λb x q=>by
 rcases za q with ⟨z,y⟩|⟨_,q⟩
 .exact W z<|W y<|⟨_,e⟩
 .exact s _ _ q
def Wd.toI(a:Wd I H c d h)(g:aH h b=J o)(n:H b=A/\c b=A/\d b=A):Wd (I.dG b o) H c d h:=
{a with sI:=a.sI.put g,IH:=a.IH.sh n.1,IF:=a.IF.sh n.2.1,IP:=a.IP.sh n.2.2}
def Wd.toH(a:Wd I H c d h)(g:aH h b=J o)(n:I b=A/\c b=A/\d b=A)(f:nf o=Q):Wd I (H.dG b o) c d h:=
{a with sH:=a.sH.put g,IH:=a.IH.uu n.1,HF:=a.HF.sh n.2.1,HP:=a.HP.sh n.2.2,nH:=a.nH.put f}
def Wd.toF(a:Wd I H d c h)(g:aH h b=J o)(n:I b=A/\H b=A/\c b=A)(f:nf o=Q):Wd I H (d.dG b o) c h:=
{a with sF:=a.sF.put g,IF:=a.IF.uu n.1,HF:=a.HF.uu n.2.1,FP:=a.FP.sh n.2.2,nF:=a.nF.put f}
def wA(b:uj a h c):Kp (·=a) h c:=λc o n e=>W (b.2 c n) e
def Wd.ZW(a:Wd I H g h j)(e:H b=J o)(c:uj b j d)(k:aH d b=J f)(l:nf f=Q):Wd I (H.dG b f) g h d:=by
 have m:=a.IH.hq _ _ e;have g:=a.HF _ _ e;have p:=a.HP _ _ e;have n:=wA c;exact⟨a.sI.kp n λZ z=>z▸m,(λq x r=>by
 rcases za r with ⟨z,y⟩|⟨s,r⟩
 .rw [z,y];exact k
 .exact W (c.2 _ s)<|a.sH _ _ r),a.sF.kp n λZ z=>z▸g,a.sP.kp n λZ z=>z▸p,a.IH.uu m,a.IF,a.IP,a.HF.sh g,a.HP.sh p,a.FP,a.nH.put l,a.nF,a.nP⟩
def Wd.Ib(a:Wd I H c h j)(e:c b=J o)(d:uj b j f)(k:aH f b=J g)(l:nf g=Q):Wd I H (c.dG b g) h f:=by
 have m:=a.IF.hq _ _ e;have g:=a.HF.hq _ _ e;have p:=a.FP _ _ e;have n:=wA d;exact⟨a.sI.kp n λZ z=>z▸m,a.sH.kp n λZ z=>z▸g,(λc x q=>by
 rcases za q with ⟨z,y⟩|⟨r,q⟩
 .exact W z<|W y<|⟨_,k⟩
 .exact bp (a.sF _ _ q) λs z=>⟨s,W (d.2 _ r) z⟩),a.sP.kp n λZ z=>z▸p,a.IH,a.IF.uu m,a.IP,a.HF.uu g,a.HP,a.FP.sh p,a.nH,a.nF.put l,a.nP⟩
end
section
def iZ.map{T}(h:iZ T I b k x)(f:∀a o,I a=J o->nf o=Q->c a=J o)(g:∀l,b l->d l):iZ T c d k x:=by induction h with|mk a e n j m r p=>exact⟨a,e,n,j,f _ _ m Y,g _ r,p⟩
def kh.map(h:kh I b c N x)(f:∀a o,I a=J o->nf o=Q->d a=J o)(g:∀l,b l->e l):kh d e c N x:=by induction h with|mk a j n c e k r m l p z=>exact⟨a,j,n,c,e,f _ _ k Y,g _ r,m,l,p,z⟩
def nz.map{i}(h:nz b I c d i N x)(f:∀a o,I a=J o->nf o=Q->e a=J o)(g:∀l,d l->j l):nz b e c j i N x:=by induction h with|mk d k m n e p q r s t z=>exact⟨d,k,m,n,e,p,f _ _ q Y,f _ _ r Y,g _ s,t,z⟩
def tw.rQ{B a}(h:tw b B l)(f:∀x,b x->c x)(g:∀l,B l->a l):tw c a l:=by induction h with|mk x s e a b=>exact⟨x,s,e,f _ a,g _ b⟩
def uz.map{a b B c}(h:uz k a B e)(f:∀x,a x->b x)(g:∀x,B x->c x):uz k b c e:=bY (h V) (f _ (h J1))<|g _ (h J2)
def ur(k:∀a o,I a=J o->nf o=Q->c a=J o):(∀v (x:a6),bD b I v x->bD b c v x):=λv=>
ai.rec
 (motive_5:=λp=>_/\∀x,bD b I p.2 x->bD b c p.2 x) (λZ=>id) (λZ Z=>id) (λZ Z=>id) (λZ Z=>id)
 (λZ d Z h=>h.map k d) (λZ d Z h=>h.map k d) (λZ d Z h=>h.map k d) (λZ Z d Z h=>h.map k d) (λZ Z=>id) (λZ=>id)
 (λZ Z Z e i2 Z h=>h.rQ (λZ g=>g.map (λZ=>id) e) i2) (λZ=>id) (λZ Z e i2 Z h=>h.rQ e i2) (λZ=>id) (λp Z e i2 Z h=>h.rQ (λZ g=>g.map e.1 e.2) i2) (λZ Z a b=>br a b) v
def WN(k:∀a o,I a=J o->nf o=Q->b a=J o)(v):∀x,bS c I v x->bS c b v x:=
jb (λZ=>id) (λv Z d Z h=>h.rQ (ur k v) d) v
def u'(k:∀a o,I a=J o->nf o=Q->b a=J o)(v):∀x,er c I v x->er c b v x:=
jb (λZ=>id) (λp Z d Z h=>h.rQ (λZ g=>g.map (ur k p.1)<|ur k p.2) d) v
noncomputable def pH{M:aW->Prop}(a)(h1:∀x v r,M r->M (.c x v r)):=λl=>
aW.rec (motive_1:=λZ=>bh) (motive_2:=M) (motive_3:=λZ=>bh) (motive_4:=λZ=>bh) (motive_5:=λZ=>bh) a0 (λZ=>trivial) (λZ=>trivial) (λZ=>trivial) (λZ Z=>trivial) (λZ Z=>trivial) (λZ Z=>trivial) (λZ Z Z=>trivial) (λZ=>trivial)
 a (λx v r Z b=>h1 x v r b) a0 (λZ Z Z Z=>trivial) a0 (λZ Z Z Z=>trivial) (λZ Z Z Z=>trivial) l
def Zb(k:∀b o,I b=J o->nf o=Q->c b=J o)(l):∀x,hO a I l x->hO a c l x:=
pH (M:=λl=>∀x,hO a I l x->hO a c l x) (λZ=>id) (λZ v Z d Z h=>h.rQ (λZ g=>g.map (λZ=>id)<|ur k v) d) l
def oe(k:Le I b):∀a o,I a=J o->nf o=Q->b a=J o:=λa o e Z=>k a o e
def bD.ek(r:bD a I v x)(k:Le I b):bD a b v x:=ur (oe k) v x r
def bS.E5(r:bS a I v x)(k:Le I b):bS a b v x:=WN (oe k) v x r
def er.mono(r:er a I v x)(k:Le I b):er a b v x:=u' (oe k) v x r
def hO.mono(r:hO a I v x)(k:Le I b):hO a b v x:=Zb (oe k) v x r
def bS.vg:∀{l},bS b I a l->U a=U l:=@(a.rec (@λl h=>W (h:l=[]) Y) λv r c l h=>by induction h with|mk x s e a g=>exact W e<|aq _ (c g))
def bS.yy(g:bS a I c m):∀{l},bS a I b l->bS a I (b++c) (l++m):=@(b.rec (@λl h=>W (h:l=[]) g) λv r d l h=>by induction h with|mk x s e a b=>exact W e<|⟨x,_,Y,a,d b⟩)
def bS.get:∀{l} (n:O) {v},bS b I a l->a[n]?=J v->∃x,l[n]?=J x/\bD b I v x:=by
 refine @(a.rec (λn v h e=>aI e) λa r c=>?_);intro l n v h z
 induction h with|mk x s e d g=>
 refine W e ?_
 induction n with
 |zero=>refine ax (aC z) ?_;exact⟨x,Y,d⟩|succ n=>exact c n g z
def bS.take:∀{l} n,bS b I a l->bS b I (aF n a) (aF n l):=by
 refine @(a.rec (@λl n h=>W (h:l=[])<|W Yb<|W Yb Y) λa r c=>?_);intro l n h
 induction h with|mk x s e d g=>
 refine W e ?_
 induction n with
 |zero=>rfl|succ n=>exact⟨x,_,Y,d,c n g⟩
def bS.drop:∀{l} n,bS b I a l->bS b I (cq n a) (cq n l):=by
 refine @(a.rec (@λl n h=>W (h:l=[])<|W A'<|W A' Y) λa r c=>?_);intro l n h
 induction n with
 |zero=>exact h|succ n=>induction h with|mk x s e d g=>exact W e<|c n g
def bS.single(r:bD a I v x):bS a I [v] [x]:=⟨x,[],Y,r,Y⟩
def bS.W?:∀{l},bS b I a l->bS b I (f3 a) (f3 l):=@(a.rec (@λl h=>aq _ (h:l=[])) λa r c l h=>by induction h with|mk x s e d g=>simp only [e,FO,FO];exact bS.yy (.single d)<|c g)
def bS.one(r:bS a I [v] b):∃y,b=[y]/\bD a I v y:=by induction r with|mk y s e h z=>exact⟨y,W e<|aq _ (z:s=[]),h⟩
end
abbrev pb:=sO C
def sO.map(b:pb I H c)(k:∀a o,I a=J o->nf o=Q->d a=J o):pb d H c:=λa o e=>by
 have f:=b a o e
 induction o with
 |list g=>exact iZ.map f (λZ Z h Z=>h)<|WN k g|dict j n=>exact kh.map f (λZ Z h Z=>h)<|u' k j|inst c i=>exact nz.map f (λZ Z h Z=>h)<|Zb k i
def nR.ns(x:nR a L m)(s:lj a h):h.Ns L m:=by
 induction x with|mk o b ep a c d e=>
 exact bp (s _ _ a) λZ z=>⟨_,b,ep,z,c,d,e⟩
def Qu{b:PM}(h:∃L o,qf c=J L/\b L=J o):∃L a,qf c=J L/\(b.dG d o) L=J a:=by
 refine hs h λL a e g=>?_
 by_cases q:L=d
 .exact⟨L,o,e,W q (iK ..)⟩
 .exact⟨L,a,e,W (lN q) g⟩
def Fo.map(x:Fo C I b c m l)(k:∀a o,I a=J o->nf o=Q->d a=J o):Fo C d b c m l:=e1 (x V) (λz v e a=>(x J1 z v e a).imp λy h=>br h.1<|ur k v y h.2) (λz v e a=>by cases x J2 z v e a with|mk c y o l f d r=>exact⟨c,y,o,l,f,d,ur k v y r⟩) (x J3) (x J4)<|x J5
abbrev gn:=g6 C
def g6.map(x:gn I b c l)(k:∀a o,I a=J o->nf o=Q->d a=J o):gn d b c l:=x.imp λZ h=>h.map k
def g6.c7(x:gn I a b l)(k:Le I c):gn c a b l:=x.map<|oe k
def gH{C}(a:Wd z.I z.H b c z.s.heap)(r:sO C z.I z.H z.σ):Ok C b c z:=cj a r
abbrev mM:=Up C
def Up.on(k:mM a I b)(h:Le I c):mM a c b:=cj ((k V).xJ h)<|k J1
def i5(a:Le z.I y.I)(s:y.s={z.s with heap:=y.s.heap,toks:=gu y.s}):Nx z y:=cj a s
def rv(z):Nx z z:=i5 (t2 _) Y
def Nx.bI(a:Nx x y)(b:Nx y z):Nx x z:=i5 ((a V).xJ<|b V)<|W (b J1)<|W (a J1) Y
def PE.on{C a b z y c d}(p:PE C a b z c d)(k:Nx z y):PE C a b y c d:=λv x t a=>p v x t<|k.bI a
def PX.on{C a b z y c d E}(p:PX C a b z c d E)(k:Nx z y):PX C a b y c d E:=λe t a=>p e t<|k.bI a
def vk(C)(b)(a)(c)(e)(d)(t):=
∀f g (z:Z) l (h:QT) j (k E:VP),Ok C f g z->Up C a z.I g->g6 C z.I f d l->cN b j e l z.σ h->PE C f g z h k->PX C f g z c j E->a8 (bM C.dK C.w) a t k E z.s
noncomputable def zh(z:Z)(h)(t):={z with s:={z.s with heap:=h,toks:=t}}
abbrev js(h a):=∀b o,aH h b=J o->aH a b=J o
def xj(h):js h h:=λZ Z e=>e
abbrev bZ:=Ok C
def Ok.lK(a:bZ b c z)(k:js z.s.heap h):bZ b c (zh z h t):=gH ((a V).tS k)<|a J1
def Nx.h{a}:Nx z (zh z a t):=i5 (t2 _) Y
abbrev jS:=PE C
abbrev dk:=bD C.S
def PE.HV(p:jS a b z c d)(e:bZ a b z)(k:js z.s.heap h)(r:dk z.I v x)(q:c v z.σ):d x {z.s with heap:=h,toks:=t}:=p v x _ .h (e.lK k) r q
def PE.fq(p:jS a b z c d)(e:bZ a b z)(r:dk z.I v x)(q:c v z.σ):d x {z.s with toks:=t}:=p.HV e (xj _) r q
def PE.n2(p:jS a b z c d)(e:bZ a b z)(r:dk z.I v x)(q:c v z.σ):d x z.s:=p v x z (rv z) e r q
def m5(a)(t):bD b I (ag a) (ew a t):=⟨t,Y⟩
def Cv(s)(t):bD a I (aG s) (gT (dg s) t):=⟨t,Y⟩
abbrev cd:=vk C Dq Aq
def Vi(a:UT v=Q):cd c (kr v) b (bB (CK (S9 v) k p) b):=by
 refineλd e z l f g h E j m n o q Z=>W (eval_Constant ..) ?_
 cases v with
 |none=>exact bq<|q.n2 j (v:=bk) Y o|bool b=>exact bq<|q.n2 j (v:=bT b) Y o|int r=>exact Nw<|q.fq j (m5 _ _) o|str s=>exact Qv<|q.fq j (Cv _ _) o|_=>exact bR a
def et{K}(h:bE o K):∃a,o=J a/\K a:=by
 induction o with
 |none=>exact b6 h|some a=>exact⟨a,Y,h⟩
abbrev bu:=C.S.nm
def aiy(c:hr b)(d:c5 b (bu x)=dW\/t8 b (bu x))(e:(bu x==("__debug__":bj))=u)(f:(bu x==("__classdict__":bj))=u):cd g (eb x) b (bB (cB (bu x) p) b):=by
 refineλh j z l k m n E o q r s t Z=>aA (et s) λv y s=>bp r λm H=>MF ?_ e
 rcases d with a|a
 .exact aA ((H J1) x v y a) λI b L=>JI (c V) a ((H V).ns (o V).sF) b<|t.n2 o L s
 .cases(H J2) x v y a with|mk L I N b d e g=>
  have p:z.s.heap.IsCell L _:=let⟨_,q⟩:=(o V).sF _ _ d;⟨_,q,e⟩;rcases a with a|a
  .exact wpAny_loadName_cell (c V) a b p<|t.n2 o g s
  .exact X_ (hn:=f) (c V) a b p<|t.n2 o g s
inductive ai2(b:au->au->Prop)(x y:a6):Prop
|mk (a j:au) (t c:Tok) (e:x=ew a t) (d:y=ew j c) (k:b a j)
def OU(h:n7 v=J a):v=ag a:=ai.casesOn v aI (λZ h=>aI h) (λZ h=>aq ag<|aC h) (λZ h=>aI h) (λZ h=>aI h) (λZ h=>aI h) (λZ h=>aI h) (λZ Z h=>aI h) (λZ h=>aI h) h
def TI(h:vf v=J a):v=aG a:=ai.casesOn v aI (λZ h=>aI h) (λZ h=>aI h) (λZ h=>aq aG<|aC h) (λZ h=>aI h) (λZ h=>aI h) (λZ h=>aI h) (λZ Z h=>aI h) (λZ h=>aI h) h
def JF(h:GZ v=J a):v=aR a:=ai.casesOn v aI (λZ h=>aI h) (λZ h=>aI h) (λZ h=>aI h) (λZ h=>aq aR<|aC h) (λZ h=>aI h) (λZ h=>aI h) (λZ Z h=>aI h) (λZ h=>aI h) h
def Ec(h:qO v=Q):v=bk:=ai.casesOn v (λZ=>rfl) (λZ h=>lQ h) (λZ h=>lQ h) (λZ h=>lQ h) (λZ h=>lQ h) (λZ h=>lQ h) (λZ h=>lQ h) (λZ Z h=>lQ h) (λZ h=>lQ h) h
def tg{K}(r:bD b I v x)(h:bE (n7 v) K):∃a t,x=ew a t/\K a:=by
 refine aA (et h) λa e h=>?_;rw [OU e] at r
 induction r with|mk t e=>exact⟨a,t,e,h⟩
def zJ{K}(r:bD b I v x)(h:bE (vf v) K):∃a t,x=gT (dg a) t/\K a:=by
 refine aA (et h) λa e h=>?_;rw [TI e] at r
 induction r with|mk t e=>exact⟨a,t,e,h⟩
def oz{K}(r1:bD a I b x)(r2:bD a I v y)(h:i2 b v K):ai2 K x y:=hs (tg r1 h) λc t e h=>hs (tg r2 h) λj d f h=>⟨c,j,t,d,e,f,h⟩
def aiW(C)(a)(b)(t:a6->a6->lP a6):=∀{c d} {z} {e v} {x y} {f} {g E:VP},Ok C c d z->Le C.I0 z.I->bD C.S z.I e x->bD C.S z.I v y->
ZQ b e v z.σ f->PE C c d z f g->a8 (bM C.dK C.w) a (t x y) g E z.s
abbrev p5:=aiW C Aq
def aff:p5 Fq (oO .Sub):=λa Z r1 r2 b c=>by have b:xF _ _ _ _:=b;rw [Mq] at b;cases oz r1 r2 b with|mk d j t e e f k=>simp only [e,f];exact sub_int<|c.fq a (m5 _ _) k
def adj:p5 z1 (oO .BitAnd):=λa Z r1 r2 b c=>by
 cases oz r1 r2 b with|mk d j t e e f k=>
 obtain⟨m,rfl⟩:=vD k.1.1;obtain⟨n,rfl⟩:=vD k.1.2;refine W e<|W f<|and_int<|c.fq a ?_ k.2;exact⟨_,aq (ew · _)<|by simp [Yq]⟩
def ae9:p5 me (oO .BitOr):=λa Z r1 r2 b c=>by
 cases oz r1 r2 b with|mk d j t e e f k=>
 obtain⟨m,rfl⟩:=vD k.1.1;obtain⟨n,rfl⟩:=vD k.1.2;refine W e<|W f<|or_int<|c.fq a ?_ k.2;exact⟨_,aq (ew · _)<|(by have a:∀k:O,¬(0:au)<=QF (k:au):=ia9;have b:∀k,QF (QF k)=k:=ajF;simp only [aal,Yq,gh<|a m,gh<|a n,b,AG])⟩
def abK:p5 pz (oO .LShift):=λa Z r1 r2 b c=>by
 cases oz r1 r2 b with|mk d j t e e f k=>
 simp only [e,f,k.1.1];refine lshift_int_small k.1.2.1 (nU<|yG k.1.2.2<|ao Y) (ao Y)<|c.fq a ?_ k.2;exact⟨_,aq (ew · _)<|by simp⟩
def ž:p5 DT (oO .RShift):=λa Z r1 r2 b c=>by
 cases oz r1 r2 b with|mk d j t e e f k=>
 obtain⟨m,rfl⟩:=vD k.1.1;refine W e<|W f ?_;have g (m:O) (k:O):(m:au).fdiv (2^k)=((m>>>k:O):au):=by
  refine W (Zk ..) (W (X5 _ (Int.pow_nonneg<|ao Y)) ?_)
  norm_cast
 exact rshift_int k.1.2.1 (c.fq a (v:=ag _) ⟨_,aq (ew · _) (g ..)⟩ k.2)
def alu:p5 wc (oO .Mod):=λa Z r1 r2 b c=>by
 cases oz r1 r2 b with|mk d j t e e f k=>
 exact W e<|W f<|mod_int' (KB k.1) (c.fq a (v:=ag _) ⟨_,aq (ew · _)<|Int.fmod_eq_emod_of_nonneg _ (nU k.1)⟩ k.2)
def aj6:p5 BY (oO .Pow):=λa Z r1 r2 b c=>by
 cases oz r1 r2 b with|mk d j t e e f k=>
 simp only [e,f,k.1.1,k.1.2];exact pow_int_small (ao Y) (ao Y) (by decide)<|c.fq a (v:=ag 1000000000000000000) ⟨_,aq _ Y⟩ k.2
inductive IU(C:Cx)(z:Z)(T:bo)(d:aa ai->Prop)(x:a6):Prop
|mk (a:aa ai) (b:cC) (c:hi a6) (n:O) (e:x=w b) (g:aH z.s.heap b=J (lO T c n)) (r:bS C.S z.I a<|cP c) (f:U a<=cu) (k:d a)
variable{b:cC}
def Zv{K}(h:nh o K):∃b,o=J (az b)/\K b:=by
 rw [ze] at h;refine aA (et (h:bE _ K)) λb e k=>⟨b,?_,k⟩
 induction o with
 |none=>cases e|some o=>cases o<;>first|(cases e;rfl)|cases e
abbrev kK:=bS C.S
def OY{T}{K}(r:iZ T c (kK z.I a) (U a) x)(s:cO c z.s.heap)(k:K a):IU C z T K x:=by induction r with|mk b d n e g r f=>exact⟨a,b,d,n,e,s _ _ g,r,f,k⟩
def hU{K}(a:bZ c d z)(r:dk z.I v x)(h:dj z.σ v K):IU C z "list" K x:=by
 cases v with
 |lst e=>exact OY r (a V).sI h|ref b=>exact aA (Zv h) λf e k=>W (r:x=w b)<|OY ((a J1) b _ e) (a V).sH k|_=>exact b6 h
def C1{K}(a:bZ c d z)(r:dk z.I v x)(h:kN z.σ v K):IU C z "list" K x\/IU C z "tuple" K x:=by
 cases v with
 |tup e=>exact aw<|OY r (a V).sI h|lst e=>exact aL<|hU a r h|ref b=>exact aL<|hU a r h|_=>exact b6 h
abbrev lU:=lO "list"
inductive RfR(C:Cx)(z:Z)(d:O->aa ai->Prop)(v:ai)(x:a6):Prop
|mk (b:cC) (a:aa ai) (c:hi a6) (n:O) (e:v=aj b) (f:x=w b) (s:z.σ b=J (az a)) (h:z.H b=J (lU c n)) (r:bS C.S z.I a<|cP c) (g:U a<=cu) (k:d b a)
def Q?(c:bZ d f z)(e:z.σ b=J (az a)):iZ "list" z.H (kK z.I a) (U a) (w b):=(c J1) b _ e
def Cr{K}(a:bZ c d z)(r:dk z.I v x)(h:wW z.σ v K):RfR C z K v x:=by refine aA (et h) λb e h=>aA (Zv h) λf s k=>?_;have g (h:Ys v=J b):v=aj b:=ai.casesOn v aI (λZ h=>aI h) (λZ h=>aI h) (λZ h=>aI h) (λZ h=>aI h) (λZ h=>aI h) (λZ h=>aI h) (λZ Z h=>aI h) (λZ h=>aq aj<|aC h) h;have e:=g e;subst e;cases Q? a s with|mk j l n e g m o=>cases e;exact⟨b,f,l,n,Y,r,s,g,m,o,k⟩
def iX(g:aH h b=J (lU a n)):h.IsList b a:=⟨_,g,Y,n,Y⟩
def pM(g:aH h b=J (lO "tuple" a n)):h.IsTuple b a:=⟨_,g,Y,n,Y⟩
def bS.eP(b:bS d I a<|cP c):U a=d8 c:=af b.vg uc
def yb:cu=tY:=Hf
def ajV:(cu:au)<2^63:=ao Y
def Ir(b:n<=cu):(n:au)<2^63:=LU (ak jj b) ajV
def bS.q5(b:bS e I a<|cP c)(d:U a<=cu):d8 c<=tY:=ax b.eP<|ax yb d
def bS.AE(b:bS e I a<|cP c)(d:U a<=cu):(d8 c:au)<2^63:=ax b.eP<|Ir d
def sO.H8{i}(c:pb I H a)(b:a (d+1)=J (cw e i)):a d=A/\∃o,H d=J o:=by
 cases(c _ _ b:nz C.S H e _ i _ _) with|mk f g h n b k g j r l q=>
 cases b;exact⟨q,_,j⟩
def sO.at_(a:pb I H c)(e:c b=J o):∃d,H b=J d:=by
 have r:=a b o e
 induction o with
 |list f=>cases(r:iZ _ _ _ _ _) with|mk g h n e j=>cases e;exact cL _ j
 |dict k n=>cases(r:kh _ _ _ _ _) with|mk g h n c e j=>cases e;exact⟨_,j⟩
 |inst c i=>cases(r:nz _ _ _ _ _ _ _) with|mk d l h n e k j=>cases e;exact⟨_,j⟩
def sO.no(c:pb I H a)(e:H b=A):a b=none:=by
 cases q:a b with
 |none=>rfl|some o=>refine bp (c.at_ q) λd z=>?_;rw [z] at e;cases e
def Ka{a:aT}(n:c≠b):(a.dm b o) c=a c:=by unfold aT.dm;exact W (d4 n) Y
def ak3{a:aT}:(a.dm b o) b=J o:=by unfold aT.dm;exact W (fK ..) Y
def sO.Zl(g:pb I H f)(h:∀a c,f a=J c->a≠b->a≠q)(nd:∀d e i,f (d+1)=J (cw e i)->d+1≠b->d≠q/\d≠b)(j:CU C I (H.dG q k) (f.dm b o) b o):pb I (H.dG q k) (f.dm b o):=λa c l=>by
 by_cases n:a=b
 .subst n;rw [ak3] at l;obtain rfl:=aC l;exact j
 .rw [Ka n] at l;have r:=g a c l;have m:=h a c l n;cases c with
  |list p=>cases(r:iZ _ _ _ _ _) with|mk s t v x g r y=>cases x;exact⟨a,t,v,Y,af (lN m) g,r,y⟩
  |dict z k=>cases(r:kh _ _ _ _ _) with|mk s t v e x g r y L N z=>cases x;exact⟨a,t,v,e,Y,af (lN m) g,r,y,L,N,z⟩
  |inst e i=>cases(r:nz _ _ _ _ _ _ _) with|mk d f t v x k g q r y z=>cases x;have I:=nd d e i l n;exact⟨d,f,t,v,Y,k,af (lN m) g,af (lN I.1) q,r,y,af (Ka I.2) z⟩
def sO.put(d:pb I H a)(nd:∀c i,a (b+1)≠J (cw c i))(e:CU C I (H.dG b f) (a.dm b o) b o):pb I (H.dG b f) (a.dm b o):=
d.Zl (λZ Z Z n=>n) (λd c i g Z=>have n:d≠b:=λz=>nd c i<|z▸g;⟨n,n⟩) e
def sO.Ud(a:pb I H d)(e:H b=A):∀c i,d (b+1)≠J (cw c i):=λc i q=>by obtain⟨_,o,g⟩:=a.H8 q;rw [e] at g;cases g
def Ok.new(a:bZ e f z)(k:js z.s.heap d)(n:aH z.s.heap b=A)(g:aH d b=J c)(h:nf c=Q)(j:CU C z.I (z.H.dG b c) (z.σ.dm b o) b o):bZ e f ⟨z.I,z.H.dG b c,z.σ.dm b o,{z.s with heap:=d,toks:=t}⟩:=
 have l:=(a V).qY n
 (gH (((a V).tS k).toH g ⟨l.1,l.2.2⟩ h)<|(a J1).put ((a J1).Ud l.2.1) j)
def PE.lst(p:jS f g z h j)(a:bZ f g z)(k:js z.s.heap c)(n:aH z.s.heap b=A)(l:aH c b=J (lU e m))(r:kK z.I d<|cP e)(o:U d<=cu)(q:iD z.σ (az d) h):j (w b) {z.s with heap:=c,toks:=t}:=p (aj b) _ ⟨z.I,z.H.dG b _,z.σ.dm b<|az d,{z.s with heap:=c,toks:=t}⟩ (i5 (t2 _) Y) (a.new k n l Y ⟨b,e,m,Y,iK ..,r,o⟩) Y ((Y4▸q) b<|(a J1).no ((a V).qY n).2.1)
def jm(h)(o):js h (di h o):=λZ Z b=>i4 _ b
def PE.DJ(b:jS c d z e f)(g:bZ c d z)(r:kK z.I a<|cP h)(l:U a<=cu)(j:iD z.σ (az a) e):f (w z.s.heap.objs.size) {z.s with heap:=di z.s.heap<|lO "list" h 0,toks:=t}:=
b.lst g (jm _ _) (mP _) (iI _ Y) r l j
def PE.oT(p:jS g h z j k)(c:bZ g h z)(l:js z.s.heap d)(e:aH z.s.heap b=A)(m:aH d b=J (hx f n))(r:er C.S z.I a<|cP f)(o:s4 a q)(s:U a<=cu)(t:b≠1)(v:Aw z.σ a j):k (w b) {z.s with heap:=d,toks:=x}:=p (aj b) _ ⟨z.I,z.H.dG b _,z.σ.dm b<|dD a n,{z.s with heap:=d,toks:=x}⟩ (i5 (t2 _) Y) (c.new l e m Y ⟨b,f,n,q,Y,iK ..,r,o,s,t,Y⟩) Y ((Uo▸v) n b<|(c J1).no ((c V).qY e).2.1)
def PE.tup(p:jS g h z j k)(a:bZ g h z)(l:js z.s.heap c)(n:aH z.s.heap b=A)(m:aH c b=J (lO "tuple" d f))(r:kK z.I e<|cP d)(o:U e<=cu)(q:j (aR e) z.σ):k (w b) {z.s with heap:=c,toks:=t}:=by have s:=(a V).qY n;have v:Le z.I (z.I.dG b<|lO "tuple" d f):=xH s.1 _;exact p (aR e) _ ⟨z.I.dG b _,z.H,z.σ,{z.s with heap:=c,toks:=t}⟩ (i5 v Y) (gH (((a V).tS l).toI m s.2)<|(a J1).map<|oe v) ⟨b,d,f,Y,iK ..,r.E5 v,o⟩ q
def PE.Oa(b:jS c d z e f)(g:bZ c d z)(r:kK z.I a<|cP h)(l:U a<=cu)(j:e (aR a) z.σ):f (w z.s.heap.objs.size) {z.s with heap:=di z.s.heap<|lO "tuple" h 0,toks:=t}:=
b.tup g (jm _ _) (mP _) (iI _ Y) r l j
def Ok.upd(a:bZ e f z)(s:z.σ b=J o)(g:z.H b=J m)(h:uj b z.s.heap d)(j:aH d b=J c)(k:nf c=Q)(l:CU C z.I (z.H.dG b c) (z.σ.dm b o') b o'):bZ e f ⟨z.I,z.H.dG b c,z.σ.dm b o',{z.s with heap:=d,toks:=t}⟩:=
gH ((a V).ZW g h j k)<|(a J1).put (λc i q=>aI<|((a J1).H8 q).1▸s) l
def PE.upd(p:jS g h z j k)(c:bZ g h z)(s:z.σ b=J (az o))(e:z.H b=J (lU l v))(q:kK z.I a<|cP<|f l)(m:U a<=cu)(r:dk z.I d x)(n:j d<|z.σ.dm b<|az a):
 k x {z.s with heap:=rh z.s.heap b<|GB f,toks:=t}:=by
 exact p d x ⟨z.I,z.H.dG b _,z.σ.dm b<|az a,{z.s with heap:=rh z.s.heap b _,toks:=t}⟩ (i5 (t2 _) Y) (c.upd s e (oc ..) (mw (GB f) ((c V).sH _ _ e) Y) Y ⟨b,_,_,Y,iK ..,q,m⟩) r n
end
section
def rZ(s):cP (dg s).cps=R C2 (h8 s):=by unfold dg;exact W (Hv ..) Y
def uH(s):(dg s).length=ml s:=by show d8 (dg s).cps=_;exact ax uc<|W (rZ ..)<|W (bC ..) w8
def Lu{a b:bj}(h:cP a.cps=cP b.cps):a=b:=by cases a;cases b;exact aq Ū<|Gf.mp h
def aeu{f:Prop}{g:aa ai->aa ai->Prop}(h:bZ q r z)(r1:dk z.I k x)(r2:dk z.I l y)(o:dj z.σ k λa=>dj z.σ l λb=>g a b)(p:∀a b c d e j n m,aH z.s.heap c=J (lU e n)->aH z.s.heap d=J (lU j m)->kK z.I a (cP e)->kK z.I b (cP j)->g a b->x=w c->y=w d->f):f:=by
 cases hU h r1 o with|mk a c e n s g r k k=>
 cases hU h r2 k with|mk b d j m t v H I k=>exact p a b c d e j n m g v r H k s t
abbrev v8:=bM C.dK C.w
abbrev dx{a:Type}:=@wpAny a (v8) Aq
def aeQ:p5 Go (oO .Add):=λ{a b z c v x y d e E} f k r1 r2 g h=>by
 have lst:(dj z.σ c λj=>dj z.σ v λl=>U j+U l<=cu/\iD z.σ (az _) d)->dx (oO .Add x y) e E z.s:=λg=>by refine aeu (f:=a8 _ Aq _ e E z.s) f r1 r2 g λj l a b m n o p q r s t k H I=>?_;simp only [H,I];refine ajD q r (h.DJ f (W HO<|bS.yy t s) (W a3 k.1) k.2) ?_;simp only [<-s.eP,<-t.eP];exact k.1
 cases c with
 |int m=>
  induction r1 with|mk t H=>
  refine hs (tg r2 g) λn L I g=>?_;simp only [H,I];exact add_int<|h.fq f (m5 _ _) g
 |str s=>
  induction r1 with|mk t H=>
  refine hs (zJ r2 g) λN L I g=>?_;simp only [H,I];refine add_str (λL z=>?_) ?_
  .have x (s:bo) (t:bo):dg (s++t)=dg s++dg t:=by apply Lu;exact W (rZ ..)<|W O7<|W dv<|ax (rZ ..)<|ax (rZ ..)<|W HO Y
   exact ax (x ..)<|h.fq f (Cv _ _) g.2
  .have y:=g.1;rw [String.length_append] at y;simp only [uH,uH,Hf];exact ae y<|ao Y
 |tup j=>
  refine hv (et g) λl H y p=>?_;have H:v=aR l:=by cases v<;>first|(cases H;rfl)|cases H
  subst H;have c:=r1;have k:=r2
  induction r1 with|mk a m o H q r n=>
  induction r2 with|mk b L N I z t s=>
  have x:=(f V).sI _ _ q;have v:=(f V).sI _ _ z;have l:=r.eP;have n:=t.eP;subst H;subst I;have s:=λq=>concat_meets (S:=q) (prog:=C.dK) (w:=C.w) (A:=Aq) (E:=E) (Q:=e) (a:=w a) (b:=w b) ⟨_,x,Y⟩ ⟨_,v,Y⟩ noFill_tuple_add seq_tuple_add alq aht<|abC _ _
  by_cases z:yp m=Q
  .refine s _ (tuple_addW0 a b m L o N A A #[] #[] z) ⟨x,v,?_⟩;have H:=R2.mp<|af l<|RP.mp z;subst H;exact h.n2 f k p
  .by_cases I:yp L=Q
   .refine s _ (tuple_addW1 a b m L o N A A #[] #[] z I) ⟨x,v,?_⟩;have H:=R2.mp<|af n<|RP.mp I;subst H;rw [dB] at p;exact h.n2 f c p
   .refine s _ (tuple_addW2 a b m L o N A A #[] #[] z I ?_) ⟨x,v,h.Oa f (W HO<|bS.yy t r) (W a3 y) p⟩;simp only [<-l,<-n];exact y
 |lst j=>exact lst g|ref a=>exact lst g|_=>exact b6 g
def ņ(x):∀n (a:hi a6),v! (λb c=>b++c) a (dM n #[x])=a++gU (dM n x):=by
 refineλn=>n.rec (by simp) λn d=>λa=>?_
 simp only [UR,List.foldl_cons,d,UR];apply Gf.mp;simp
def acY(r:bD a I v x)(n):bS a I (dM n v) (dM n x):=n.rec Y λn b=>⟨x,_,Y,r,b⟩
set_option tactic.hygienic true in
def ajf:p5 qm (oO .Mult):=λ{a b z c v x y d e E} f k r1 r2 g h=>by
 have lst:(dj z.σ c λj=>bE (n7 v) λn=>bE (j[0]?) λx=>(U j=1/\0<=n/\cM n<=cu)/\iD z.σ (az<|dM (cM n) x) d)->dx (oO .Mult x y) e E z.s:=λg=>by
  cases hU f r1 g with|mk j l m n e o q p g=>
  refine hs (tg r2 g) λr s t g=>hv (et g) λH I L N=>?_;have a:j=[H]:=by exact O! L.1 I
  subst a;refine aA q.one λb k v=>?_;have x:=Gf.mp k;subst x;simp only [e,t];have y:=o;have h1:=L.2.2;have d:=aeN L.2.1 h1;refine wpAny_binaryOp_repeat_ref Y ⟨_,y,Y⟩ (λp=>V' p r s) noFill_list_mul amt U5 repeat_list (kV ahB)
   (K7 U5 (V' _ r s) adQ (aiX _ _) (int___rmul___int_list r s l #[b] n)
    ⟨y,Y,⟨_,y,Y⟩,K7 abn ⟨_,y,Y⟩ afE (afi _ _)
     (aiS l #[b] n r s (by simp [aah];exact⟨nQ (ao Y) L.2.1,LU d<|ao Y⟩) (by simp;exact nQ d<|ao Y) (by simp [b!,tY];exact d))
     ⟨y,?_⟩⟩)
  have q:(v! (λH I=>H++I) #[] (dM (if yp (#[b]:hi a6)=Q then 0 else cM r) #[b]))=gU (dM (cM r) b):=by refine W (aS<|by simp)<|W (ņ ..) ?_;simp
  have a:=h.DJ (t:=gu z.s) (h:=gU<|dM (cM r) b) f (acY v<|cM r) (W ir h1) N;rw [<-q] at a;exact a
 cases c with
 |int x=>
  induction r1 with|mk k e=>
  refine bp (tg r2 g) λo z=>hv z λs t h1 g=>?_;simp only [e,t];refine Ş (h.fq f (m5 _ _) g)<|Ź ?_;unfold als;split
  .exact cQ _
  .rename_i n;have l:qP x≠0:=λz=>n (by simpa using z);exact ae (ak (M_ l)<|W (rfl:_^62=4611686018427387904) h1)<|ao Y
 |lst j=>exact lst g|ref a=>exact lst g|_=>exact b6 g
def toPs_cons(e:toPs f (b::c)=J g){G:Prop}(k:∀d a,f b=J d->toPs f c=J a->g=d::a->G):G:=
ah (ib.mp e) λd h=>ah (fA h.2) λa g=>k d a h.1 g.1 g.2.symm
def Ki(f:∀e d x,g e=J d->bD h j e x->∃a,o6 k x d a):∀{b} {c} {l},toPs g b=J c->bS h j b l->∃a,ReadsAll k l c a:=by
 intro b;refine @(b.rec (@λc l e q=>ax (aC e)<|W (q:l=[])<|⟨_, .nil⟩) λx r m=>?_);intro c l e q;refine toPs_cons e λd n o p s=>?_
 induction q with|mk y t v z H=>
 exact W s<|W v<|ah (f _ _ _ o z) λa I=>ah (m p H) λL N=>cL _<| .cons I N
def s9(e:cO c h):∀n (b:ai) d (x:a6),toP n b=J d->bD f c b x->∃a,o6 h x d a:=by
 refineλn=>n.rec (λb d x g=>aI g) λn j=>?_
 have k:∀{T} {l} {m} {x} {d},toPs _ l=J m->iZ T c _ (U l) x->(∀{o p q a},aH h o=J (lO T p q)->ReadsAll h (cP p) m a->∃r,o6 h _ d r)->∃a,o6 h x d a:=λg r s=>by
  induction r with|mk o t q v y q _=>
  exact W v<|ah (Ki j g q) λa z=>s (e _ _ y) z
 intro b d x g r;cases b with
 |none=>refine ax (aC g) ?_;exact W (r:x=bQ)<|⟨_, .none⟩|bool=>refine ax (aC g) ?_;exact W (r:x=eR _)<|⟨_, .bool _⟩|int=>refine ax (aC g) ?_;induction r with|mk t g=>exact W g<|⟨_, .int _ _⟩
 |str s=>refine ax (aC g) ?_;induction r with|mk t g=>exact W g<|⟨_, .str _ _⟩
 |tup l=>exact ah (fA g) λm h=>h.2▸k h.1 r λy z=>cL _<| .tuple y rfl rfl z|lst l=>exact ah (fA g) λm h=>h.2▸k h.1 r λy z=>cL _<| .list y rfl rfl z|_=>exact aI g
def TY(b:cO c h)(e:toP (n+1) (aN d)=J f)(g:aH h j=J (lU k m))(q:bS l c d<|cP k):∃a,o6 h (w j) f a:=
ah (fA e) λo k=>ah (Ki (s9 b n) k.1 q) λa p=>k.2▸⟨_, .list g Y Y p⟩
def Zt(a j):eX a j=(a==j):=by refine W pA ?_;rw [qH,mF,qJ]
def XM(b)(c)(a)(t:a6->a6->lP a6)(f:ba->ba):=hK (∀{d j} {p q} {e E:VP} {s},e (eR<|f<|d==j) s->a8 (bM b c) a (t (ew d p)<|ew j q) e E s) (∀{d j} {p q} {e E:VP} {s},e (eR<|f<|d==j) s->a8 (bM b c) a (t (gT d p)<|gT j q) e E s) (∀{x y} {g h} {k l} {e E:VP} {s},o6 s.heap x g k->o6 s.heap y h l->Cu g=Q->Cu h=Q->gP a+min g.depth h.depth<k6->e (eR<|f<|sj g h) s->a8 (bM b c) a (t x y) e E s)<|∀{g h} {d j} {e E:VP} {s:cR},s.heap.IsList g d->s.heap.IsList h j->(d8 d !=d8 j)=Q->e (eR<|f u) s->a8 (bM b c) a (t (w g)<|w h) e E s
def ac9(C)(a)(b)(t:a6->a6->lP a6):=∀{c d} {z} {e v} {x y} {K} {f E:VP},Ok C c d z->bD C.S z.I e x->bD C.S z.I v y->
Pr b e v z.σ K->(∀b g,K b->f (eR b) {z.s with toks:=g})->a8 (bM C.dK C.w) a (t x y) f E z.s
abbrev lF:=C5 Aq
def TF(a:lF)(h:d<=200):gP Aq+min d e<k6:=cF (d6 (ae (m4 ..)<|ae h (by decide:200<=300)) _)<|a V
def Xc{a:VP}{E:VP}{K}(e:lF)(m:n<=200)(f:XM C.dK C.w Aq t g)(c:cO d s.heap)(r1:dk d h x)(r2:dk d v y)(j:bE (xB n h v) K)(k:∀b,K b->a (eR<|g b) s):dx (t x y) a E s:=
ah (et j) λb l=>ah (ib.mp l.1) λd o=>ah (fA o.2) λp q=>ah (s9 c _ _ _ _ o.1 r1) λr z=>ah (s9 c _ _ _ _ q.1 r2) λH I=>(f J2) z I (toP_ok o.1).1 (toP_ok q.1).1 (TF e<|ae (toP_ok o.1).2 m) (k _ (q.2▸l.2))
def Y8{e:VP}{E:VP}{K}(f:lF)(b:XM C.dK C.w Aq t j)(c:bZ k l z)(r1:dk z.I g x)(r2:dk z.I v y)(a:Ng g v z.σ K)(d:∀h,K h->e (eR<|j h) z.s):dx (t x y) e E z.s:=by
 have m:sJ z.σ g v K->a8 _ Aq (t x y) e E z.s:=λa=>by
  cases hU c r1 a with|mk n o p q e r q l k=>
  cases hU c r2 k with|mk s H j I L N z x k=>
  refine aA (et k) λh v k=>?_;simp only [e,L];unfold qE at v
  by_cases y:U n=U s
  .rw [aJ y] at v;exact ah (ib.mp v) λo l=>ah (fA l.2) λH I=>ah (TY (c V).sI l.1 r q) λh x=>ah (TY (c V).sI I.1 N z) λn s=>(b J2) x s (toP_ok l.1).1 (toP_ok I.1).1 (TF f (toP_ok l.1).2) (d _ (I.2▸k))
  .rw [aS y] at v;obtain rfl:=aC v;exact(b J3) (iX r) (iX N) (ak OK λo=>y<|af q.eP<|af o z.eP.symm)<|d _ k
 cases g with
 |int p=>
  refine hs (tg r2 a) λj H L a=>?_
  induction r1 with|mk t e=>simp only [e,L];exact(b V)<|Zt p j▸d _ a
 |str p=>
  refine hs (zJ r2 a) λj H L a=>?_;have h:ng p j=(dg p==dg j):=by refine W wh ?_;rw [qH,mF,qJ];exact⟨λe=>e▸Y,B5⟩
  induction r1 with|mk t e=>simp only [e,L];exact(b J1)<|h▸d _ a
 |bool p=>exact Xc f (bb _) b (c V).sI r1 r2 a d|tup p=>exact Xc f (bb _) b (c V).sI r1 r2 a d|_=>exact m a
abbrev nq:=ac9 C Aq
def agY(a:lF):nq fI (m3 .Eq):=λb r1 r2 c d=>Y8 a (dS eq_int acZ compareEq_reads λe f n h=>aio e f n (cF (dO _ 300)<|a V) _ _ _ _ h) b r1 r2 c λb k=>d b _ k
def abh(a:lF):nq g0 (m3 .NotEq):=λ{b c z d v x y K e E} f r1 r2 g h=>Y8 (K:=λr=>K<| !r) a (dS ne_int acD compareNe_reads λj k n l=>aen j k n (cF (dO _ 300)<|a V) _ _ _ _ l) f r1 r2 g λb k=>h _ _ k
def agT(n)(v)(G:Prop):=(∀a,v=ag a->G)->(∀a,v=aG a->G)->(∀m b,n=m+1->v=aR b->(∀x∈b,kU m x=Q)->G)->G
def xe{G}(h:kU n v=Q):agT n v G:=
ai.casesOn v bR (λZ=>bR) (λa Z k Z Z=>k a Y) (λa Z Z k Z=>k a Y)
 (λb=>Wh n bR λm h Z Z k=>k m b Y Y<|oY h) (λZ=>bR) (λZ=>bR) (λZ Z=>bR) (λZ=>bR) h
def Bc:∀n (v:ai),kU n v=Q->Pd (n+1) v:=λn=>n.rec (λv h=>xe h (λa e=>e▸EY) (λa e=>e▸sT) λm b e=>wu e) λn c=>by exactλv h=>xe h (λa e=>e▸EY) (λa e=>e▸sT) λm b e d k=>by cases e;exact W d<|z9 λx f=>c x<|k x f
def Jn(f:ai->bf PyData)(a v):=∀d e,f a=J d->f v=J e->(sj d e=Q↔a=v)
def agc:∀{b a} {c d},(∀x∈b,∀y∈a,Jn f x y)->toPs f b=J c->toPs f a=J d->(OI c d=Q↔b=a):=by
 intro b
 induction b with
 |nil=>
  intro a c d _ h g;refine ax (aC h) ?_
  induction a with
  |nil=>refine ax (aC g) ?_;exact⟨λZ=>rfl,λZ=>rfl⟩|cons y a=>exact toPs_cons g λe j Z Z k=>W k<|⟨bR,λz=>AO z⟩
 |cons x b l=>
  intro a c d m h g;refine toPs_cons h λd n h1 h2 h3=>W h3 ?_
  induction a with
  |nil=>refine ax (aC g) ?_;exact⟨bR,λz=>jI z⟩|cons y a=>refine toPs_cons g λe j o p q=>W q<|W (vu ..) ?_;rw [m x b8 y b8 d e h1 o,l (λx r y s=>m x (cz _ r) y<|cz _ s) h2 p,Cq]
def JT{G:Prop}(h:kU n v=Q)(e:toP (n+1) v=J d)(f:∀a,v=ag a->d= .int a->G)(g:∀a,v=aG a->d= .str (dg a)->G)
 (j:∀m b c,n=m+1->v=aR b->d= .tuple c->(∀x∈b,kU m x=Q)->toPs (toP<|m+1) b=J c->G):G:=
 xe h (λa z=>by subst z;obtain rfl:=aC e;exact f a Y Y) (λa z=>by subst z;obtain rfl:=aC e;exact g a Y Y) λm b k z l=>by subst k;subst z;exact ah (fA e) λc g=>j m b c Y Y g.2.symm l g.1
def yi(h:a->bW)(g:b->bW):a↔b:=⟨λx=>b6<|h x,λx=>b6<|g x⟩
def TH(c:∀m,n=m+1->∀a v,kU m a=Q->kU m v=Q->Jn (toP<|m+1) a v)(d:kU n a=Q)(b:kU n v=Q):Jn (toP<|n+1) a v:=by
 refineλe e h g=>JT d h (λf j k=>?_) (λf j k=>?_) λm l o p j k q r=>?_
 .refine JT b g (λs t x=>?_) (λs t x=>?_) λm y z p t x H I=>?_<;>simp only [j,k,t,x]
  .exact jG qJ ⟨λL=>L▸Y,λL=>by injection L⟩
  .exact yi bR ai.noConfusion
  .exact yi bR ai.noConfusion
 .refine JT b g (λs t x=>?_) (λs t x=>?_) λm y z p t x H I=>?_<;>simp only [j,k,t,x]
  .exact yi bR ai.noConfusion
  .exact W Xw<|jG mF ⟨λL=>L▸Y,λL=>by injection L⟩
  .exact yi bR ai.noConfusion
 .refine JT b g (λs t x=>?_) (λs t x=>?_) λN y z a t x H I=>?_<;>simp only [j,k,t,x]
  .exact yi bR ai.noConfusion
  .exact yi bR ai.noConfusion
  .cases af p.symm a;exact jG (agc (λx v y n=>c m p x y (q x v)<|H y n) r I) ⟨λL=>L▸Y,λL=>by injection L⟩
def OL:∀n (a v:ai),kU n a=Q->kU n v=Q->Jn (toP<|n+1) a v:=λn=>n.rec (λa v=>TH λm z=>wu z) λn b=>by exactλa v=>TH λm z=>by cases z;exact b
noncomputable def qr(h:iq):PM:=λa=>aH h a
def Kk(h):cO (qr h) h:=λZ Z e=>e
def ab2(b:gz a=Q)(c:gz v=Q)(r1:bD d (qr h) a x)(r2:bD d (qr h) v x):a=v:=
ah (Bc 3 a b) λd e=>ah (Bc 3 v c) λf g=>ah (s9 (Kk h) _ _ _ _ e r1) λj k=>ah (s9 (Kk h) _ _ _ _ g r2) λl m=>(OL 3 a v b c d f e g).mp ((Reads.unique d f x j l (toP_ok e).1 k m)▸eqv_refl d (toP_ok e).1)
def abT(e:gP b+100<k6)(c:gz a=Q)(d:gz v=Q)(r1:bD f (qr s.heap) a x)(r2:bD f (qr s.heap) v y)[EZ<|a=v]:EqAt b s x y (decide (a=v)):=
ah (Bc 3 a c) λg h=>ah (Bc 3 v d) λj k=>ah (s9 (Kk _) _ _ _ _ h r1) λl m=>ah (s9 (Kk _) _ _ _ _ k r2) λn o=>W (show decide _=sj g j by rw [qH,mF,OL 3 a v c d g j h k]) (eqAt_reads g j b s x y l n m o (toP_ok h).1 (toP_ok k).1<|cF (d6 (ae (m4 ..)<|ae (toP_ok h).2<|ao Y) _) e)
mutual
noncomputable def ua:ai->O
|aR a=>GS a+1|_=>1
noncomputable def GS:aa ai->O
|[]=>0|x::r=>ua x+GS r
end
noncomputable def tk(s:cR)(n):={s with toks:=gu s+n}
def Lv(a)(S)(n)(v):=∀x (b:vs) s (c:au->cR->Prop) (E:VP),bD S (qr s.heap) v x->gP b+n<k6->c (pC S.w v) (tk s<|ua v)->a8 (bM a S.w) b (pyHash x) c E s
def adk:∀a (l:aa a6) b (s:cR) c (d:hi au->cR->Prop) (E:VP),(∀x∈a,Lv g f n x)->bS f (qr s.heap) a l->gP b+n<k6->
 (∀e,cP e=cP c++RK f.w a->d e (tk s<|GS a))->
 a8 (bM g f.w) b (forIn l c λx r=>do let h<-pyHash x;pure PUnit.unit;pure (uQ<|r.push h)) d E s:=by
 refineλa=>a.rec (λl b s c d E Z q Z h=>W (q:l=[])<|bq<|h c (dB _).symm) λk a j=>λl b s c d E m q o h=>?_
 induction q with|mk y p t v z=>
 refine W t<|W (Mu ..)<|aB<|aB<|m k b8 y b s _ E v o (aB<|bq<|bq ?_);refine j p b _ _ d E (λx H=>m x<|cz _ H) z o λe I=>?_;have z:=h e (by refine W I<|W Ja<|W (dy ..) ?_;rfl);exact W (show tk _ _=tk s (ua k+GS a) by unfold tk;rw [cx]) z
def RA:∀n (v:ai),kU n v=Q->Lv a b n v:=by
 have c:∀{n} {v},kU n v=Q->_->Lv a b n v:=λh k=>xe h (λd e=>by refine W e ?_;exactλx f s g E r Z h=>by induction r with|mk t e=>exact W e<|UX h) (λd e=>by refine W e ?_;exactλx f s g E r Z h=>by induction r with|mk t e=>exact W e<|V6 h) k
 refineλn=>n.rec (λv h=>c h λm j e=>wu e) λn l=>λv h=>c h λm j e o k=>W o ?_
 cases e;intro x f s g E r p h
 induction r with|mk a d m e g q _=>
 refine W e<|pyHash_slot ⟨_,g,Y⟩ afG ajJ (agi _) (beq_builtin_none _) (aw<|cF (dO ..) p) (?_:a8 _ _ (X? _>>=_) _ _ s);refine aB<|J? g Y<|aB<|ax Z2<|adk j (cP d) f.in1 s #[] _ E (λx y=>l x<|k x y) q ?_ λb e=>?_
 .rw [cx,eU 1];exact p
 .show a8 _ _ (retInt _) _ _ _;exact W e<|aB<|Nw<|bq ⟨_,_,Y,h⟩
def bS.mem{G:Prop}:∀{a} {l},bS b I a l->x∈l->(∀y,y∈a->bD b I y x->G)->G:=by
 intro a
 induction a with
 |nil=>intro l q m;rw [show l=[] from q] at m;exact bG m|cons y c d=>
  intro l q m k
  induction q with|mk e f e g h=>
  rw [e] at m;exact aO (mc m) (λe=>k y b8<|e▸g) λm=>d h m λy g=>k y<|cz _ g
def afn{E:VP}{M}:∀{l:aa a6},(∀x,x∈l->∀a:ForInStep d->cR->Prop,a (.yield b) s->a8 M c (f x b) a E s)->a b s->a8 M c (forIn l b f) a E s:=by intro l;exact l.rec (λZ h=>bq h) λx l e=>λg h=>W (Mu ..)<|aB<|g x b8 _ (e (λy j=>g y<|cz _ j) h)
def Tj(a)(S)(n)(v):=∀d (x:a6) b (s:cR) c (E:VP),n<=d->bD S (qr s.heap) v x->c Q s->a8 (bM a S.w) b (eqIsQuiet d x) c E s
def abp:∀n (v:ai),kU n v=Q->Tj a b n v:=by
 have c:∀{n} {v},kU n v=Q->_->Tj a b n v:=λh k=>xe h (λd e=>by refine W e ?_;exactλf x g s j E Z r h=>by cases r with|mk t e=>exact W e<|W (UW _ Y)<|bq h) (λd e=>by refine W e ?_;exactλf x g s j E Z r h=>by cases r with|mk t e=>exact W e<|W (UW _ Y)<|bq h) k
 refineλn=>n.rec (λv h=>c h λm l e=>wu e) λn o=>λv h=>c h λm l e p k=>W p ?_
 cases e;intro f x g s j E q r h
 induction r with|mk a y m e g z _=>
 refine W e ?_;have H:jl s (w a) "tuple":=⟨_,g,Y⟩
 induction f with
 |zero=>exact b6<|Nat.not_succ_le_zero _ q|succ f=>
 unfold eqIsQuiet;exact aB<|H2 H (kV ajO)<|aB<|Jz H isSubtype_tuple_tuple<|W Xh<|W (aS hu)<|aB<|e! g Y<|aB<|ax Z2<|afn (λx I j L=>z.mem I λy N b=>aB<|o y (k y N) f _ _ s _ _ (Im q) b (W Xh<|W (aS hu)<|bq L))<|bq h
def aaP{a ep}(b:aH h d=J o)(c:hJ o=qv a ep)(e:uj d h f):∀n (v:ai),kU n v=Q->∀x,bD g (qr h) v x->bD g (qr f) v x:=by
 refineλn=>n.rec (λv j=>xe j (λk l=>by refine W l ?_;exactλx r=>r) (λk l=>by refine W l ?_;exactλx r=>r) λm p l=>wu l) λn q=>?_
 refineλv j=>xe j (λk l=>by refine W l ?_;exactλx r=>r) (λk l=>by refine W l ?_;exactλx r=>r) λm p l s t=>?_
 subst s;cases l;intro x r
 induction r with|mk a k m l g y z=>
 refine⟨a,k,m,l,af (e.2 a λl=>?_) g,?_,z⟩
 .subst l;cases af g.symm b;cases c
 .clear g z l j;revert t y;generalize cP k=l;intro t
  induction p generalizing l with
  |nil=>exactλy=>y|cons H I L=>exactλy=>y.rQ (q H<|t H b8) λl=>L (l:=l) λz N=>t z<|cz _ N
noncomputable def zf:DecidableEq ai:=λa b=>oi<|a=b
def W_(S)(a):=
@HeapKind.mk a S.w ai zf (λh k a=>gz k=Q/\bD S (qr h) k (w a)) (pC S.w) ua (λb=>gP b+100<k6) (λc d=>ab2 c.1 d.1 c.2 d.2)
 (λc e f g=>br c.1<|aaP e f g 3 _ c.1 _ c.2) (λj c h=>RA 3 _ c.1 _ _ _ _ _ c.2 (cF (d6 (of_decide_eq_true rfl) _) j) h)
 (λj c d h=>@abT _ _ _ _ _ _ _ j c.1 d.1 c.2 d.2 (zf _ _) _ _ _ _ h) (λc h=>abp 3 _ c.1 8 _ _ _ _ _ (ao Y) c.2 h)
def r7(v):=ai.casesOn (motive_1:=λZ=>a6->ba) v (λZ=>u) (λZ Z=>u) (λa v=>v.isInt a) (λa v=>v.isStr<|dg a) (λZ Z=>u) (λZ Z=>u) (λZ Z=>u) (λZ Z Z=>u) λZ Z=>u
def IvC(k)(x)(G:Prop):=(∀a t,k=ag a->x=ew a t->G)->(∀a t,k=aG a->x=gT (dg a) t->G)->G
def uG{G}(h:r7 k x=Q):IvC k x G:=
ai.casesOn k bR (λZ=>bR) (λa h f Z=>ah (N_ h) λt e=>f a t Y e) (λa h Z f=>ah (aiO h) λt e=>f a t Y e)
 (λZ=>bR) (λZ=>bR) (λZ=>bR) (λZ Z=>bR) (λZ=>bR) h
def D_(x)(a v)(c:r7 a x=Q)(b:r7 v x=Q):a=v:=
uG c (λd t e f=>uG b (λj g h k=>by simp only [e,h];rw [f] at k;injection k with l;exact aq _ l) λj g Z k=>by rw [f] at k;cases k)
 λd t e f=>uG b (λj g Z k=>by rw [f] at k;cases k) λj g h k=>by simp only [e,h];rw [f] at k;injection k with l;exact aq _ (B5 l)
def θ{y}(c:r7 a x=Q)(b:r7 v y=Q)[EZ<|a=v]:EqAt d s x y (decide (a=v)):=
 uG c (λe t f g=>uG b (λj h k l=>W g<|W l<|W (show decide _=_ by rw [qH,mF,qJ,f,k];exact⟨λz=>by injection z,aq _⟩)<|ε _ _ _ _)
  λj h k l=>by rw [g,l,gh (show¬a=v by rw [f,k];exact ai.noConfusion)];exact agr _ _ _ _)
 λe t f g=>uG b (λj h k l=>by rw [g,l,gh (show¬a=v by rw [f,k];exact ai.noConfusion)];exact Μ _ _ _ _) λj h k l=>by rw [g,l,show decide _=(dg e==dg j) by rw [qH,mF,qJ,f,k];exact⟨λz=>by injection z with z;rw [z],λz=>by rw [B5 z]⟩];exact ad5 _ _ _ _
def acy(S:kf)(a):=
@KeyKind.mk a S.w ai zf r7 (pC S.w) D_ (λk v h=>uG h (λb t Z e=>by refine W e ?_;rfl) λb t Z e=>by refine W e ?_;rfl)
 (λc h=>uG c (λb t d f=>by rw [d] at h;exact W f<|UX h) λb t d f=>by rw [d] at h;exact W f<|V6 h)
 (λc g h=>@θ _ _ _ _ _ _ c g (zf _ _) _ _ _ _ h) λk x t v h=>uG h (λb t Z e=>af4<|e) λb t d f=>by injection f with f _;exact W d<|W f Y
def nn{G:Prop}(d:aE m n=u)(h:m=n):G:=b6<|C3 d h
def yV{m n k:O}{G:Prop}(d:aE m n=u)(a:aE m k=u)(h:m=n\/m=k):G:=aO h (nn d)<|nn a
def G4(h:kj k=1\/kj k=2):bD a I k x->r7 k x=Q:=
ai.casesOn k (yV Y Y) (λZ=>yV Y Y) (λZ Z r=>by induction r with|mk t e=>exact W e<|eZ Y) (λZ Z r=>by induction r with|mk t e=>exact W e<|jL _)
 (λZ=>yV Y Y) (λZ=>yV Y Y) (λZ=>yV Y Y) (λZ Z=>yV Y Y) (λZ=>yV Y Y) h
def Vl(h:kj k=3):bD b I k x->∃a,x=w a:=
ai.casesOn k (nn Y) (λZ=>nn Y) (λZ=>nn Y) (λZ=>nn Y) (λZ Z r=>by induction r with|mk a c m e g q d=>exact cL a e)
 (λZ=>nn Y) (λZ=>nn Y) (λZ Z=>nn Y) (λZ=>nn Y) h
def Ŧ(h:gz k=Q):(kj k=1\/kj k=2)\/kj k=3:=xe h (λa e=>W e<|aL<|aL Y) (λa e=>W e<|aL<|aw Y) λm b Z e Z=>W e<|aw Y
def er.mem{G:Prop}:∀{a} {l},er b I a l->e∈l->(∀p,p∈a->uz (pC b.w p.1) (bD b I p.1) (bD b I p.2) e->G)->G:=by
 intro a
 induction a with
 |nil=>intro l q m;rw [show l=[] from q] at m;exact bG m|cons y c d=>
  intro l q m k
  induction q with|mk f g h j n=>
  rw [h] at m;exact aO (mc m) (λe=>k y b8<|e▸j) λm=>d n m λy j=>k y<|cz _ j
def er.Jx:∀{a} {l},er b I a l->U a=U l:=by
 intro a
 induction a with
 |nil=>intro l q;exact W (q:l=[]) Y|cons y c d=>intro l q;induction q with|mk e f g h j=>exact W g<|aq _ (d j)
def er.at{G:Prop}:∀{a} {l} {j:O},er b I a l->l[j]?=J e->(∀p,a[j]?=J p->uz (pC b.w p.1) (bD b I p.1) (bD b I p.2) e->G)->G:=by
 intro a
 induction a with
 |nil=>intro l j q m;rw [show l=[] from q] at m;exact aI m|cons y c d=>
  intro l j q m k
  induction q with|mk f g h n o=>
  rw [h] at m
  induction j with
  |zero=>obtain rfl:=aC m;exact k y Y n|succ j=>exact d o m k
def akl(d:cO I h):∀{a} {l},er b I a l->(∀e∈a,kj e.1=3)->(∀e∈a,gz e.1=Q)->∃c:aa<|ai×cC×a6,l=R (@entryOfKey f b.w ai zf<|W_ b f) c/\R (·.1) c=R (·.1) a/\∀x∈c,gz x.1=Q/\bD b (qr h) x.1 (w x.2.1):=by
 intro a;refine @(a.rec (@λl q Z Z=>W (q:l=[])<|⟨[],Y,Y,lC⟩) λy g j=>?_);intro l q h3 k
 induction q with|mk m n o p r=>
 refine ah (Vl (h3 y b8)<|p J1) λa s=>ah (j r (λe t=>h3 e<|cz _ t) λe t=>k e<|cz _ t) λc v=>⟨(y.1,a,m.val)::c,?_,aq _ v.2.1,gQ ⟨k y b8,s▸(p J1).ek d⟩ v.2.2⟩;simp only [o,v.1];refine aq (·::_) ?_;cases m with|mk z H L=>
 refine(?_:_=aeF (pC b.w y.1) (w a) L);simp only [<-show H=w a from s,<-show z=pC b.w y.1 from p V]
def DK(S)(I)(h)(a)(b)(n)(d)(k)(x):=t9 (cO I h) (aH h d=J (hx b n)) (er S I a<|cP b) (bw<|R (·.1) a) (∀e∈a,gz e.1=Q) (ip a k)<|bD S I k x
def N0(d:cO I h)(g:aH h e=J (hx b n))(q:er c I a<|cP b)(nd:bw<|R (·.1) a)(f:∀j∈a,gz j.1=Q)(l:ip a k)(r:bD c I k x):DK c I h a b n e k x:=ke d g q nd f l r
def af1{a:aa<|ai×ai}{c:Type}{b:aa<|ai×c}{j:O}(e:R (·.1) b=R (·.1) a)(h:a[j]?=J (k,v)):∃p,b[j]?=J (k,p):=by have z:=aq (λl=>l[j]?) e;rw [show(R (·.1) a)[j]?=J k by refine W (cg)<|W h ?_;rfl] at z;rw [show _[j]?=b4 (·.1) (b[j]?) from cg] at z;exact ah (fA z) λp d=>cL p.2<|W d.1<|ax d.2 rfl
def er.to{G:Prop}{p}:∀{a} {l} {j:O},er b I a l->a[j]?=J p->(∀e,l[j]?=J e->uz (pC b.w p.1) (bD b I p.1) (bD b I p.2) e->G)->G:=by
 intro a;refine @(a.rec (λq m=>by cases m) λy c d=>?_);intro l j q m k
 induction q with|mk f g h n o=>
 rw [h] at k
 induction j with
 |zero=>cases m;exact k _ Y n|succ j=>exact d o m k
def Ue{E:VP}{S}(m:gP e+100<k6)(b:DK S I s.heap f a n g k x)(h:(∀(j:O) v,f[j]?≠J (k,v))->c A s)(l:∀j (v:ai),f[j]?=J (k,v)->c (J j) s):a8 (bM d S.w) e (dictFind g x<|pC S.w k) c E s:=by
 refine aO (Ŧ (b J5).1) (λo=>?_) λo=>?_
 .have p:∀q∈a,∃r,r7 r q.key=Q/\q.hash=pC S.w r:=λq t=>(b J2).mem (ak Gp t) λy z r=>⟨y.1,G4 ((b J5).2 y z▸o)<|r J1,r V⟩;refine @wpAny_dictFind_of d S.w ai zf (acy S d) e E s g _ a n k x c (G4 o<|b J6) (b J1) Y p (?_:c (a.findIdx? λq=>r7 k q.key) s);cases q:a.findIdx? λq=>r7 k q.key with
  |none=>refine h λj v H=>(b J2).to H λL t r=>?_;exact bR<|G4 o (r J1)▸(Array.findIdx?_eq_none_iff.mp q L<|Gp.mp<|aP t)|some j=>refine ah (Array.findIdx?_eq_some_iff_getElem.mp q) λN I=>?_;refine(b J2).at (af tb<|M! N) λy z r=>l j y.2 ?_;exact W z<|W (D_ _ _ _ I.1 (G4 ((b J5).2 y (aP z)▸o)<|r J1)) Y
 .refine ah (Vl o<|b J6) λx p=>ah (akl (f:=d) (b V) (b J2) (λq t=>af ((b J5).2 q t) o)<|b J4) λL N=>?_;have r:=b J6;dsimp only [Ig] at r;rw [p] at r⊢;exact @wpAny_dictFind_heap d S.w ai zf (W_ S d) e E s g x _ a n L k c m ⟨(b J5).1,r.ek<|b V⟩ (b J1) Y N.1 N.2.2 (N.2.1▸(b J3)) (λI=>h λj v H=>ah (af1 N.2.1 H) λy=>I j y) λj y H=>(by have o:=aq (λq=>q[j]?) N.2.1;rw [show _[j]?=J k by simp only [cg,H];rfl] at o;rw [show _[j]?=b4 (·.1) (f[j]?) from cg] at o;exact ah (fA o.symm) λy z=>(λv=>l j v) y.2<|W z.1<|ax z.2 Y)
def ı{a:aa<|ai×ai}{j:O}{e:ai×ai}(n:e.1∉R (·.1) a)(h:a[j]?=J (k,v)):¬e.1=k:=λz=>n<|z▸hY (aP h)
def aaX:∀{a} {j:O},bw (R (·.1) a)->a[j]?=J (k,v)->dV a k=J v:=by
 intro a;refine @(a.rec (λZ h=>aI h) λe r b=>?_);intro j nd h;have nd:=jc.mp nd
 induction j with
 |zero=>refine W (aC h) ?_;exact aJ Y|succ j=>exact af (aS<|ı nd.1 h)<|b nd.2 h
def WX:∀{a},(∀(j:O) v,a[j]?≠J (k,v))->dV a k=none:=by intro a;exact a.rec (λZ=>rfl) λe r b h=>W WJ<|W (aS λz=>h 0 e.2<|by rw [<-z];rfl)<|b λj v=>h (j+1) v
def DK.tk(b:DK a I s.heap c d n e k x)(m):DK a I (tk s m).heap c d n e k x:=b
def DK.get{E:VP}{S}(a:gP e+100<k6)(b:DK S I s.heap c f n g k x)(h:dV c k=A->d A (Zq.tk s<|ua k))(j:∀v y,dV c k=J v->bD S I v y->d (J y) (Zq.tk s<|ua k)):a8 (bM l S.w) e (Di g x) d E s:=by
 refine hR<|aB<|RA 3 k (b J5).1 _ _ _ _ _ ((b J6).ek<|b V) (cF (d6 (ao Y) _) a) (aB<|Ue a (b.tk _) (λm=>?_) λo v p=>?_)
 .exact bq<|h<|WX m
 .refine aB<|KO (b J1) Y<|bq<|(b J2).to p λe q r=>W (show f[o]?=J e by rw [<-tb];exact q) ?_;exact j v e.val (aaX (b J3) p)<|r J2
def er.set(d:∀e,f e={e with val:=y})(g:bD b I v y):∀{a} {l} {j} {c},er b I a l->bw (R (·.1) a)->a[j]?=J (k,c)->er b I (eW a k v) (l.modify j f):=by
 intro a;refine @(a.rec (λZ Z h=>aI h) λe r m=>?_);intro l j c q nd h;have nd:=jc.mp nd
 induction q with|mk n o p s t=>
 refine W p<|W Ro ?_
 induction j with
 |zero=>obtain rfl:=aC h;exact W (aJ Y)<|W (List.modify_zero_cons ..)<|W (d ..)<|⟨_,_,Y,bY (s V) (s J1) g,t⟩|succ j=>exact W (aS<|ı nd.1 h)<|W (List.modify_succ_cons ..)<|⟨_,_,Y,s,m t nd.2 h⟩
def er.push(c:uz (pC b.w k) (bD b I k) (bD b I v) e):∀{a} {l},er b I a l->dV a k=A->er b I (eW a k v) (l++[e]):=by
 intro a;refine @(a.rec (@λl q Z=>W (q:l=[])<|⟨_,_,Y,c,Y⟩) λy d f=>?_);intro l q h
 induction q with|mk g j m n o=>
 refine W m ?_;have h:=af WJ.symm h;refine W Ro ?_
 by_cases z:y.1=k
 .rw [aJ z] at h;exact iG h
 .rw [aS z] at h⊢;exact⟨_,_,Y,n,f o h⟩
def DK.set{E:VP}{S}(c:gP j+100<k6)(b:DK S I s.heap e p n d k x)(l:U e<cu)(f:bD S I v y)
 (g:∀a h m,aH a d=J (hx h m)->uj d s.heap a->er S I (eW e k v) (cP h)->o () {s with heap:=a,toks:=gu s+ua k}):a8 (bM q S.w) j (dictSet d x y) o E s:=by
 refine hR<|aB<|RA 3 k (b J5).1 _ _ _ _ _ ((b J6).ek<|b V) (cF (d6 (ao Y) _) c) (hR<|aB<|Ue c (b.tk _) (λr=>?_) λj t z=>?_)
 .refine aB<|CY<|wpAny_updateDictKeys (hz:=?_) (b J1) Y<|g _ _ _ (af (mw _ (b J1) (ZG<|aml Y _)) Y) (oc ..) ?_
  .exact W Ja<|(b J2).push (bY Y (b J6) f)<|WX r
  .exact ax uc<|ax (b J2).Jx<|ax yb<|bU l
 .refine aB<|CY<|aB<|wpAny_updateDict (b J1) Y<|wpAny_point<|g _ _ n (af (mw _ (b J1) (ZG<|aea Y _)) Y) (oc ..) ?_;exact W Array.toList_modify<|(b J2).set (λZ=>rfl) f (b J3) z
def ads{d}(e:gz c=Q)(f:toP 4 c=J d){g:EZ<|c∈a}:∀{b},(∀y∈a,gz y=Q)->toPs (toP 4) a=J b->(b.any λy=>sj y d)=decide (c∈a):=by
 have go:∀{a} {b},(∀y∈a,gz y=Q)->toPs (toP 4) a=J b->((b.any λy=>sj y d)=Q↔c∈a):=by intro a;refine @(a.rec (λZ h=>ax (aC h)<|yi bR bG) λx r j=>?_);intro b k h;refine toPs_cons h λl m n o p=>?_;simp only [p,UZ,ON,OL 3 x c (k x b8) e l d n f,j (λy q=>k y<|cz _ q) o,rj];exact or_congr_left eq_comm
 intro b k h;rw [qH,mF];exact go k h
open Classical in
def ν{K}{G:Prop}(h:bE (nr a b) K)(g:gz a=Q->(∀y∈b,gz y=Q)->K (@decide (a∈b) (propDecidable _))->G):G:=by
 unfold nr at h
 by_cases q:gz a=Q/\∀y∈b,gz y=Q
 .rw [aJ q] at h;exact g q.1 q.2 h
 .rw [aS q] at h;exact b6 h
def UH(b)(c)(a)(t:a6->a6->lP a6)(f:ba->ba):=fF (∀{d x} {e} {g} {h j} {k E:VP} {s},o6 s.heap d (.list e) h->o6 s.heap x g j->Nj e=Q->Cu g=Q->gP a+1+min (Ft e) g.depth<k6->k (eR<|f<|e.any λy=>sj y g) s->a8 (bM b c) a (t x d) k E s) (∀{d x} {e} {g:PyData} {h j} {k E:VP} {s:cR},o6 s.heap d (.tuple e) h->o6 s.heap x g j->Nj e=Q->Cu g=Q->gP a+1+min (Ft e) g.depth<k6->k (eR<|f<|e.any λy=>sj y g) s->a8 (bM b c) a (t x d) k E s)<|∀{d x:a6} {k E:VP} {s},a8 (bM b c) a (contains d x) (λl s=>k (eR<|f l) s) E s->a8 (bM b c) a (t x d) k E s
def DO(a:lF):gP Aq.in1+100<k6:=cF (show gP Aq+1+100<=gP Aq+300 by exact W (cx ..)<|d6 (ao Y) _)<|a V
def W5{c:VP}{E:VP}{K}(j:lF)(nf:UH C.dK C.w Aq t k)(l:cO m s.heap)(r:dk m d x)(h:bE (nr d e) K)(n:∀a,toPs (toP 4) e=J a->(∃b,o6 s.heap f (.list a) b)\/∃b,o6 s.heap f (.tuple a) b)
 (o:∀g,K g->c (eR<|k g) s):dx (t x f) c E s:=
 ν h λp q k=>ah (Bc 3 d p) λv y=>ah (Rd λx m=>Bc 3 x<|q x m) λa z=>ah (s9 l _ _ _ _ y r) λH I=>by have L:=toP_ok y;have N:=toP_ok (n:=5) (a:=aN e)<|aq (b4 ZL) z;have s (h:(TV v)<=200):gP Aq+1+min (Ft a) (TV v)<k6:=cF (W (cx ..)<|d6 (ae (d6 (ae (oZ ..) h) 1) (by decide:1+200<=300)) _)<|j V;have c:=s<|ae L.2<|ao Y;have f:=(ads p y q z)▸o _ k;exact aO (n a z) (λz=>ah z λb g=>(nf V) g I N.1 L.1 c f) λz=>ah z λb g=>(nf J1) g I N.1 L.1 c f
def Io(h:a≠1):(a==YJ)=false:=ak kZ h
def Ik{G:Prop}(r:kh c (er e I a) a N f)(g:cO c h)(sI:cO I h)(j:ip a k)(l:bD e I k x)(m:∀d b n,f=w d->c d=J (hx b n)->DK e I h a b n d k x->d≠1->U a<=cu->N n->G):G:=by induction r with|mk d b n _ e o q p s t z=>exact m d b n e o (N0 sI (g _ _ o) q (p V) (p J2) j l) t s z
def DK.has{E:VP}{S}(b:DK S I s.heap a g n d k x)(c:lF)(e:d≠1)(h:f (d7<|dV a k)<|Zq.tk s<|ua k):a8 (bM j S.w) Aq (contains (w d) x) f E s:=by
 have l:jl s (w d) "dict":=⟨_,b J1,Y⟩;refine wpAny_contains_slot l Y! <|qR Y! l entry_dict_contains (?_:a8 _ _ (Di d x>>=_) _ _ s)<|args_dict_contains _ _;refine aB (b.get (DO c) (λm=>?_) λv y m Z=>?_)<;>rw [m] at h
 .exact aB<|wpAny_pendingKey_other (Io e)<|bq ⟨_,Y,zC h⟩
 .exact bq ⟨_,Y,zC h⟩
def Wa{e:VP}{E:VP}{K}(g:C5 Aq)(nf:UH C.dK C.w Aq t j)(b:Ok C k l z)(r1:bD C.S z.I f x)(r2:bD C.S z.I v d)(a:mX f v z.σ K)(h:∀c tk,K c->e (.bool<|j c) {z.s with toks:=tk}):a8 (bM C.dK C.w) Aq (t x d) e E z.s:=by
 rw [q8] at a;have lst:∀{m} {n},iZ "list" m (bS C.S z.I n) n.length d->cO m z.s.heap->bE _ K->a8 _ Aq (t x d) e E z.s:=λr o p=>by cases r with|mk Á s y H I L l=>exact W5 g nf (b V).sI r1 p (λN j=> .inl<|H▸(Ki (s9 (b V).sI 4) j L).elim λk t=>cL _<| .list (o _ _ I) rfl rfl t) λc x=>h c _ x
 have oT:∀{m} {À} {q},kh m _ q À d->cO m z.s.heap->(ip q f/\K (dV q f).isSome)->a8 _ Aq _ e E z.s:=λr o p=>Ik r o (b V).sI p.1 r1 λe m y H Z c o Z Z=>(nf J2)<|H▸c.has g o (h _ _ p.2)
 cases v with
 |tup n=>induction r2 with|mk Á s y H I L l=>exact W5 g nf (b V).sI r1 a (λN j=> .inr<|H▸(Ki (s9 (b V).sI 4) j L).elim λk t=>cL _<| .tuple ((b V).sI _ _ I) rfl rfl t) λc x=>h c _ x
 |lst n=>exact lst r2 (b V).sI a|oT q=>exact oT r2 (b V).sI a|ref r=>
  have a:inR f K (z.σ r):=a;have e:=(b J1) r;obtain rfl:=(r2:d= .ref r);cases H:z.σ r with
  |none=>exact(H▸a).elim|some o=>
   rw [H] at a
   induction o with
   |list n=>exact lst (e _ H) (b V).sH a|dict q y=>exact oT (e _ H) (b V).sH a|inst=>exact a.elim
 |_=>exact a.elim
def adg(a:lF):nq ry (m3 .In):=λb r1 r2 c d=>Wa a (bY in_list_reads in_tuple_reads λh=>aB<|lh h (λZ Z k=>bq k) λZ Z e=>e) b r1 r2 c d
def ajk(a:lF):nq lg (m3 .NotIn):=λ{b c z d v x y K e E} f r1 r2 g h=>Wa a (bY notIn_list_reads notIn_tuple_reads λj=>aB<|lh j (λZ Z k=>bq k) λZ Z e=>e) f r1 r2 g λb Z k=>h _ _ k
def ajt:nq fD (m3 .Lt):=λa r1 r2 b c=>by cases oz r1 r2 b with|mk d j t e e f k=>rw [e,f];exact aaU<|xf▸c _ _ k
def acS:nq j1 (m3 .Gt):=λa r1 r2 b c=>by cases oz r1 r2 b with|mk d j t e e f k=>rw [e,f];exact ζ<|xf▸c _ _ k
def abM:nq HJ (m3 .LtE):=λa r1 r2 b c=>by cases oz r1 r2 b with|mk d j t e e f k=>rw [e,f];exact le_int<|B!▸c _ _ k
def afL:nq uN (m3 .GtE):=λa r1 r2 b c=>by cases oz r1 r2 b with|mk d j t e e f k=>rw [e,f];exact ge_int<|B!▸c _ _ k
def Z_:bD a I v x->qO v=(x==bQ):=
ai.casesOn v (λr=>by refine W (r:x=bQ) ?_;rfl) (λZ r=>by refine W (r:x=eR _) ?_;rfl) (λZ r=>by induction r with|mk t e=>refine W e ?_;rfl) (λZ r=>by induction r with|mk t e=>refine W e ?_;rfl)
 (λZ r=>by induction r with|mk a b m e=>refine W e ?_;rfl) (λZ r=>by induction r with|mk a b m e=>refine W e ?_;rfl) (λZ r=>by induction r with|mk a b m c e=>refine W e ?_;rfl) (λZ Z r=>by induction r with|mk a b m c e=>refine W e ?_;rfl) (λZ r=>by refine W (r:x=w _) ?_;rfl)
def acw:nq uq (m3 .Is):=λa r1 r2 b c=>by rw [Ec b.1] at r2;exact W (r2:_=bQ)<|is_none<|Z_ r1▸c _ _ b.2
def agN:nq xS (m3 .IsNot):=λa r1 r2 b c=>by rw [Ec b.1] at r2;exact W (r2:_=bQ)<|isNot_none<|Z_ r1▸c _ _ b.2
def JV{E:VP}{K}(e:Ok C f g z)(r:bD C.S z.I v x)(a:mV z.σ v K)(b:∀c tk,K c->d c {z.s with toks:=tk}):a8 (bM C.dK C.w) Aq (QC x) d E z.s:=by
 have h:_->a8 (bM C.dK C.w) Aq (QC x) d E z.s:=λa=>by
  have j:∀{k} {l},bS C.S z.I k (cP l)->uO k=yp l:=λq=>by rw [qH,List.isEmpty_iff_length_eq_zero,RP,q.eP]
  rcases C1 e r a with q|q
  .cases q with|mk k m l n e g q o p=>rw [e];exact wpAny_truthy_list (iX g) (q.AE o)<|b _ _ (j q▸p)
  .cases q with|mk k m l n e g q o p=>rw [e];exact truthy_tuple (pM g) (q.AE o)<|b _ _ (j q▸p)
 cases v with
 |none=>exact W (show x=bQ from r)<|truthy_none<|b _ _ a|bool c=>exact W (show x=eR c from r)<|zC<|b _ _ a|int l=>induction r with|mk t e=>exact W e<|ahu (Zt l 0▸b _ _ a:d (!(l==0)) _)
 |_=>exact h a
def RM(e:l5 o=J p):o=J (dD p.1 p.2):=by
 induction o with
 |none=>exact aI e|some o=>exact m2.casesOn o (λZ e=>Js Y<|Hp e) (λa n e=>by refine ax (aC e) ?_;rfl) (λZ Z e=>Js Y<|Hp e) e
def zo{K}{G:Prop}(a:bZ d e z)(r:dk z.I v x)(h:tM z.σ v K)(g:∀c N b,cO c z.s.heap->kh c (er C.S z.I b) b N x->K b->G):G:=by
 cases v with
 |oT f=>exact g _ _ _ (a V).sI r h|ref j=>obtain rfl:=(r:x=w j);refine ah (et (?_:bE _ λp=>K p.1)) λp e=>g _ _ _ (a V).sH ((a J1) j _ (RM e.1)) e.2;have h:yu _ K:=h;rw [JY] at h;exact h|_=>exact b6 h
def Y_(h:0<=k+n): -n<=k:=by have:=LK h;exact Int.le_of_sub_nonneg<|W (Int.sub_neg ..) h
def PY{G:Prop}(h:vJ n k=J j)(a:0<=k->k<n->j=cM k->G)(b:k<0->0<=k+n->j=cM (k+n)->G):G:=by
 unfold vJ at h
 by_cases c:0<=k
 .rw [aJ c] at h
  by_cases d:k<n
  .rw [aJ d] at h;exact a c d (aC h).symm
  .rw [aS d] at h;exact aI h
 .rw [aS c] at h
  by_cases d:0<=k+n
  .rw [aJ d] at h;exact b (x8.mp c) d (aC h).symm
  .rw [aS d] at h;exact aI h
def Po[EZ a][EZ b](h:a)(g:b):(decide a&&decide b)=true:=by rw [eZ h,eZ g];rfl
def Yl(h:vJ n k=J j):Qq k n=J j:=by unfold Qq;exact PY h (λa b e=>W (aS<|ak hB a)<|W e<|aJ<|Po a b) λa b e=>W (aJ a)<|W e<|aJ<|Po b (by have c:=Int.add_lt_add_right a (n:au);rw [LD] at c;exact c)
def H6(a:n<=cu)(h:vJ n k=J j): -(2^63)<=k/\k<2^63:=
PY h (λb c e=>⟨nQ (ao Y) b,yG c<|Ir a⟩) λb c e=>⟨nQ (Int.neg_le_neg<|nU<|Ir a)<|Y_ c,yG b<|ao Y⟩
def yz{j:O}(q:bS a I b<|cP c)(e:b[j]?=J v):∃y,c[j]?=J y/\bD a I v y:=aA (q.get j e) λy g r=>⟨y,af tb.symm g,r⟩
def ahU{m:O}(e:s.toList[m]?=J c):Qq (m:au) (dg s).length=J m/\(dg s).cps[m]?=J c.toNat:=by
 constructor
 .exact W (uH ..)<|ax w8<|aJ<|Po (cp _)<|ak hl<|gl e
 .refine ax (tb)<|W (rZ ..)<|W (cg)<|W e ?_;rfl
def ag4(c):(⟨#[c.toNat]⟩:bj)=dg (qa [c]):=by apply Lu;simp only [rZ,KG];rfl
def UK(a):=∀x y,subscripted a u x y=operate [x,y] (HN x y)
def Ō{E:VP}(À:lF)(c:UK f)(a:bZ g h z)(r1:dk z.I j x)(r2:dk z.I v y)(d:ko j v z.σ k)(b:jS g h z k l):dx (Q9 m f x y) l E z.s:=by
 rw [E9] at d;refine d _ (λk n h=>?_) (λh=>?_) λs k o p n q r Á H=>?_
 .subst n
  induction r2 with|mk I L=>
  refine W L<|aO (C1 a r1 h) (λg=>?_) λg=>?_
  .cases g with|mk N d f m j g v l H=>
   exact W j<|ah (et H) λs h=>ah (et h.2) λx o=>ah (yz v o.1) λy e=>wy (iX g).typeIs (kV KZ) (PY (v.eP▸h.1) (λt H z=>wpAny_getItem_list (iX g) t (H6 (v.eP▸l)<|v.eP▸h.1).2 (z▸e.1)<|b.n2 a e.2 o.2) λt H z=>wpAny_getItem_list_neg (iX g) t (Y_ H) (H6 (v.eP▸l)<|v.eP▸h.1).1 (z▸e.1)<|b.n2 a e.2 o.2)<|c _ _
  .cases g with|mk N d f m j g v l H=>
   exact W j<|ah (et H) λs h=>ah (et h.2) λx o=>ah (yz v o.1) λy e=>wy (pM g).typeIs (kV ad2) (aeU (pM g) (H6 l h.1).1 (H6 l h.1).2 (Yl<|v.eP▸h.1) e.1<|b.n2 a e.2 o.2)<|c _ _
 .exact zo a r1 h λh N p g v k=>Ik v g (a V).sI k.1 r2 λf j l e X d s X X=>ah (et k.2) λx H=>W e<|wy ⟨_,d J1,Y⟩ (kV ac5) ((by
   have o:jl (Z.s z) (w f) "dict":=⟨_,d J1,Y⟩;refine Uk o Y slot_dict_getitem<|qR slot_dict_getitem o entry_dict_getitem ((aB<|d.get (DO À) (λt=>?_) λh N t v=>?_):a8 _ _ (Di f y>>=_) _ _ (Z.s z))<|args_dict_getitem _ _
   .rw [H.1] at t;exact iG t
   .rw [H.1] at t;obtain rfl:=aC t;exact bq ⟨N,Y,(λy g=>b.fq a g H.2) N v⟩))<|c _ _
 .subst p;subst n
  induction r1 with|mk I L=>
  induction r2 with|mk j l=>
  refine W L<|W l ?_;exact wy (Iq _ _ _) (kV S5) ((by obtain⟨m,rfl⟩:=vD q;have x:=ahU Á;refine alm (W (gh<|ak hB<|nQ (ao Y) q)<|W (gh<|ak x8<|yG r<|ao Y) Y) (W x.1 x.2) ?_;exact W (ag4 ..)<|b.fq a (Cv _ _) H))<|c _ _
def d?{n:O}{a:au}(h:a<0):a+n<=n:=nQ (Int.add_le_add_right (nU h) _)<|Pf<|LD _
def ū:clipAt n a=if a<0 then cM (a+n) else min (cM a) n:=by
 unfold clipAt
 by_cases h:a<0
 .refine W (aJ h)<|W (aJ h)<|W (Gd<|d? h) ?_;exact aO (Int.le_total 0 _) (λg=>W (GQ g) Y) λg=>by exact W (Sq g)<|W (Wo g) Y
 .refine W (aS h)<|W (aS h) ?_;obtain⟨m,rfl⟩:=vD<|hB.mp h;have b (m:O) (n:O):min (m:au) n=((min m n:O):au):=aO (Wj m n) (λh=>W (gq h)<|Gd<|ak jj h) λh=>W (Iz h)<|Int.min_eq_right<|ak jj h;exact W (b ..)<|W (GQ<|cp _) Y
def Yk{G:Prop}(e:CO n v d=J k)(r:bD a I v y)(g:∀p,so y p->k=jV p d (clipAt n)->G):G:=by
 cases v with
 |none=>rw [show y=bQ from r] at g;exact g _ .none (aC e).symm|int b=>induction r with|mk t c=>exact(c▸g) _ (.int b t) (af (aC e).symm ū.symm)
 |_=>cases e
def n!{K}{G:Prop}(h:mi a b c K)(r1:bD d I b e)(r2:bD d I c f)
 (g:∀p q,so e p->so f q->K (gK a (jV p 0<|clipAt<|U a)<|jV q (U a)<|clipAt<|U a)->G):G:=by
 rw [yE] at h;exact ah (et h) λa h=>ah (et h.2) λb j=>Yk h.1 r1 λp k e=>Yk j.1 r2 λq l m=>g p q k l (by simp only [<-e,<-m];exact j.2)
def bS.cut(q:bS c I d l)(a b):bS c I (Zq.gK d a b) ((cq a l).take<|b-a):=ax x_<|(q.take b).drop a
def T9{a:cC}(h:U b<=n):U (Zq.gK b a c)<=n:=W wO<|W dU<|ae (lT ..)<|ae (oZ ..) h
def Wg{E:VP}{S:kf}{y}{a}(b:so y p)(h:a p s):a8 (bM c S.w) d (ako y) a E s:=by
 induction b with
 |none=>exact Vj h|int e t=>exact slicePart_int h
def ahD{E:VP}{S:kf}{c:au×au×O->cR->Prop}(f:BQ s.heap g d e bQ)(j:so d a)(i2:so e b)
 (h:c (((jV a 0 (clipAt n):O):au),1,jV b n (clipAt n)-jV a 0 (clipAt n)) s):a8 (bM k S.w) l (aet (w g)<|pure (n:au)) c E s:=
 ah f λm o=>by
  refine aB<|aB<|ob o.1 o.2.2 (x:=d) Y<|aB<|ob o.1 o.2.2 (x:=e) Y<|aB<|ob o.1 o.2.2 (x:=bQ) Y<|bq<|aB<|Vj<|W (aS<|ao Y)<|aB<|Wg j<|aB<|Wg i2<|aB<|bq ?_;have p (a:bf au) (b:bf au) (n:O):Ul a b 1 (n:au)=(((jV a 0 (clipAt n):O):au),((jV b n (clipAt n):O):au)):=by
   have c:∀v,(if v<0 then max _ 0 else min v _)=(clipAt n v:au):=λv=>by
    refine W (clipAt_cast ..) ?_
    by_cases h:v<0
    .exact W (aJ h)<|W (aJ h)<|W (Gd<|d? h) (XD ..)
    .refine W (aS h)<|W (aS h) ?_;rw [GQ];exact ak Int.le_min ⟨hB.mp h,cp _⟩
   unfold Ul;have h1:¬(1:au)<0:=ao Y;simp only [h1,if_false];cases a<;>cases b<;>simp only [jV,c]<;>rfl
  refine W (p ..) (?_:a8 _ _ (pure _) _ _ s);have q (a:O) (b:O):YG (a:au) (b:au) 1=b-a:=by
   unfold YG;refine W (aJ (show(1:au)>0 by decide))<|W (Int.ediv_one ..)<|W (Int.sub_add_cancel ..) ?_
   by_cases h:(a:au)<b
   .exact W (aJ h)<|Tg b a
   .exact W (aS h)<|W (Nat.sub_eq_zero_of_le<|jj.mp<|hB.mp h) Y
  exact W (q ..)<|bq h
def adP{E:VP}(b:bZ c d z)(e:BQ z.s.heap f g h bQ)(j:aH z.s.heap k=J (lU m y))(r:kK z.I a<|cP m)(l:U a<=cu)(n:so g p)(o:so h q)
 (s:iD z.σ (az<|gK a (jV p 0<|clipAt<|U a)<|jV q (U a)<|clipAt<|U a) t)(v:jS c d z t x):dx (HN (w k)<|w f) x E z.s:=ZN (iX j) e n o .none aI (v.DJ b (W (slicePick_plain ..)<|ax r.eP<|r.cut _ _) (T9 l) s)<|r.q5 l
def acQ{E:VP}(e:bZ k m z)(f:BQ z.s.heap g n o bQ)(h:z.I b=J (lO "tuple" c s))(r:kK z.I a<|cP c)(l:U a<=cu)(t:so n p)(v:so o q)
 (d:x (aR<|gK a (jV p 0<|clipAt<|U a)<|jV q (U a)<|clipAt<|U a) z.σ)(j:jS k m z x y):dx (HN (w b)<|w g) y E z.s:=by
 have H:=(e V).sI _ _ h;have I:=pM H;have L:jl z.s (w g) "slice":=ah f λN o=>⟨N,o.1,o.2.1⟩;refine Uk I.typeIs Y Fg<|qR Fg I.typeIs Ζ (?_:a8 _ _ (X? _>>=_) _ _ _)<|ac1 _ _;refine aB<|J? H Y<|aB<|F0 L<|W (aJ<|ao Y)<|aB<|ahD f t v ?_;rw [r.eP] at d;generalize jV p 0 _=k at d⊢;generalize jV q c.size _=m at d⊢;refine(?_:a8 _ _ (if((k:au)==0&&(1:au)==1&&_==d8 c)=Q then _ else _) _ _ _);have n (a:hi a6) (b:O) (m:O):gU ((e4<|m-b).filterMap λ(x:O)=>a[cM<|(b:au)+(x:au)*1]?)=gU ((cq b<|cP a).take<|m-b):=by have r:=pick_run a b<|m-b;rw [List.filterMap_map] at r;exact ax r<|aq (λf=>gU<|eI f _)<|funext λx=>W (Int.mul_one ..)<|ax (Np ..)<|aq _ (AG ..)
 refine W (n ..) ?_;have y:=r.cut k m;have z:U (gK a k m)<=cu:=T9 l
 by_cases g:((k:au)==0&&(1:au)==1&&(m-k)==d8 c)=Q
 .refine W (aJ g) ?_;have h1:=iO g;have p:=eG<|beq_iff_eq.mp (iO h1.1).1;subst p;have t:gK a 0 m=a:=by unfold gK;refine W UQ ?_;rw [A8];exact W r.eP<|ax (beq_iff_eq.mp h1.2)<|bb _
  rw [t] at d;exact aB<|aB<|F0 I.typeIs<|bq<|W (aJ Y)<|aB<|CY<|bq ⟨_,Y,j.n2 e (v:=aR a) ⟨b,c,s,Y,h,r,l⟩ d⟩
 .exact W (aS g)<|aB<|AW (bq ⟨_,Y,j.Oa e y z d⟩) (show d8 (gU<|(cq k<|cP c).take _)<=tY by exact W LA<|ax y.vg<|ax yb z)
def abV{c:VP}{E:VP}{S:kf}{t:O}(b:BQ s.heap e bQ (ew 1 d) bQ)(h:∀f n,c (gT (dg<|qa<|aF 1<|h8 a) f) {s with toks:=n}):a8 (bM g S.w) Aq (HN (gT (dg a) t)<|w e) c E s:=by
 refine wpAny_getItem_str_slice (l:=A) (u:=J (1,d)) (st:=A) b Y ?_;have j:Ta (dg a) A (J (1,d)) A=e4 (min 1 (ml a)):=by
  unfold Ta alx sliceRange;refine W (uH ..) ?_;generalize ml a=m
  induction m with
  |zero=>rfl|succ m=>have k:(max 0 (min (if(1:au)<0 then 1+((m+1:O):au) else 1) (m+1:O):au))=1:=W (aS<|ao Y)<|W (Gd (ak jj (b3<|cQ m):_<=_)) Y;refine W (gq<|b3<|cQ m) ?_;simp only [Option.map_none,U2,Option.getD_none,show((1:au)>0)=bh from eq_true<|ao Y,if_true,k];decide
 unfold sliceMade;refine W j<|W (uH ..)<|W e9 ?_
 by_cases g:(dN (b4 (·.1) (A:bf<|au×Tok)) 1==1&&min 1 (ml a)==ml a)=Q
 .refine W (aJ g) ?_;have k:qa (aF 1<|h8 a)=a:=W (A8 (by rw [w8,<-(beq_iff_eq.mp (iO g).2)];exact m4 ..)) String.ofList_toList;have h:=h t s.toks;exact k▸h
 .have l:(⟨gU<|eI ((dg a).cps[·]?)<|e4<|min 1 (ml a)⟩:bj)=dg (qa<|aF 1<|h8 a):=by
   apply Lu;simp only [rZ,KG,<-w8];have o:(dg a).cps[0]?=b4 C2 (a.toList[0]?):=by rw [<-tb,rZ,cg]
   cases b:h8 a with
   |nil=>rfl|cons c r=>rw [b] at o;refine(?_:(eI _ [0])=_);rw [xW,o];rfl
  rw [aS g,l];refine br ?_<|h _ _;rw [uH,<-w8,KG,dU,<-yb];exact ae (m4 ..)<|ao Y
noncomputable def FW(e:cX):= !aE e.ctorIdx 26
def aka{E:VP}{lo f}(b:bZ m n z)(c:BQ z.s.heap o g q bQ)(r:dk z.I d x)(r1:dk z.I h g)(r2:dk z.I j q)(a:U' d h j z.σ k)(e:jS m n z k l):
 dx (Q9 s (x5 lo f A p) x<|w o) l E z.s:=by
 have t:(dj z.σ d λv=>mi v h j λy=>iD z.σ _ k)->a8 _ Aq (Q9 s (x5 lo f A p) x _) l E z.s:=λa=>by
  cases hU b r a with|mk v H I n L N q l k=>
  exact W L<|n! k r1 r2 λp m o h a=>wy (iX N).typeIs (kV KZ) (adP b c N q l o h a e) Y
 cases d with
 |tup v=>
  induction r with|mk H I n L N q l=>
  exact W L<|n! a r1 r2 λp m o h a=>wy (pM<|(b V).sI _ _ N).typeIs (kV Fg) (acQ b c N q l o h a e) Y
 |str s=>
  have h2:=a.1.2;rw [Ec a.1.1] at r1;rw [h2] at r2
  induction r with|mk j L=>
  induction r2 with|mk z f=>
  refine W L ?_;rw [show g=bQ from r1,f] at c;exact wy (Iq _ _ _) (kV S5) (abV c λx n=>e.fq b (Cv _ _) a.2) Y
 |_=>exact t a
def ő{b c T}(g:cd d h e b)(j:cd d k e c)
 (l:∀{a E s},dx b (λf m=>dx c (λv n=>dx (t f v) a E n) E m) E s->dx T a E s)(o:p5 p t):cd d (hC p h k) e T:=λq r z x y H a E I L N b c d=>l<|g q r z x _ H _ E I L N b (λf e s h k r1 m=>j q r s x _ H _ E k (L.on<|h V) (N.c7<|h V) m (λv y n t p r2 a=>o p ((L.on<|h V).on (t V) V) (r1.ek<|t V) r2 a<|c.on<|h.bI t) (d.on h)) d
def aau(h:FW e=Q):UK e:=by
 cases e with
 |Slice=>exact bR h|_=>exactλZ Z=>rfl
def ae8(d:lF)(e:FW b=Q)(f:cd c g a<|bB o a)(h:cd c j a<|bB b a):cd c (hC kW g j) a (bB (tp o b k) a):=
ő f h Mp λl Z r1 r2 m n=>Ō d (aau e) l r1 r2 m n
open Builtin Builtin.ObjectAttr
def amo{C}(e:hy C.K (w a) "__getattribute__"=J (J<|ei "object.__getattribute__"))(g:hy C.K (w a) "__getattr__"=J A)(h:hy C.K (w a) "__setattr__"=J (J<|ei "object.__setattr__"))(j:K6 C.K a=Q)(b:∃b,oJ C.K a=J b/\b.hasDict=Q)(k:∀n,jt oN c n=Q->hy C.K (w a) (C.S.nm n)=J A)(l:∀t m f,cm Ai c=J t->cm t m=J f->jt oN c m=u/\∃d,C.fa f=J d/\oH C.K (w d)=pn/\hy C.K (w a) (C.S.nm m)=J (J<|w d)):Gl C c a:=ke e g h j b k l
def aiP{C:Cx}(e:∀a o,b1 a C.K=J o->C.I0 a=J o)(nm:∀a b,C.S.nm a=C.S.nm b->a=b)(jI:∀a,C.S.nm a≠"__class__")(f:∀h,cO C.I0 h->h.NoLimit)(g:∀h,cO C.I0 h->h.NoSeer)(j:C.dK.given.tree=A)(k:∀h,cO C.I0 h->h.Ns i1 C.mg)(b:∀h,cO C.I0 h->h.Ns pS C.mb)(l:∀x:bj,x≠"__name__"->C.mb x=tP x)(m:∀c d,C.S.ca c=J d->Gl C c d):wj C:=Kx e nm jI f g j k b l m
abbrev eT:=wj C
def wj.In(k:eT)(a:Wd I b c d h)(l:Le C.I0 I):C.K.In h:=λe o e=>a.sI _ _ (l _ _ ((k V) _ _ e))
def U0{e:gy}(h:HS n e.key):e.key.isStr n=true:=by induction h with|mk t e=>exact W e<|jL _
def VL{S:kf}(c:∀a b,S.nm a=S.nm b->a=b)(q:m≠n){e:gy}(h:HS (S.nm m) e.key):e.key.isStr (S.nm n)=false:=by induction h with|mk t e=>exact W e<|ak kZ λz=>q<|c _ _ z
def xc(q:y≠n):cW (.c y v r) n=cW r n:=by show aD _ _ _=_;exact W (d4 q) Y
def JL:cW (.c n v r) n=J v:=by show aD _ _ _=_;exact W (fK ..) Y
def hO.find(d:∀a c,b.nm a=b.nm c->a=c):∀i {l:aa gy},hO b f i l->(cW i n=A->Bq (·.key.isStr (b.nm n)) l=A)/\∀v,cW i n=J v->∃e,Bq (·.key.isStr (b.nm n)) l=J e/\bD b f v e.val:=
pH
 (λh=>W (h:_=[])<|⟨λZ=>rfl,λv e=>aI e⟩) λm g r j l h=>by
 induction h with|mk e s k a c=>
 refine W k<|W (List.find?_cons) ?_
 by_cases q:m=n
 .exact ax q<|W JL<|W (U0<|a J1)<|⟨λz=>iG z,λv z=>by refine ax (aC z) ?_;exact⟨e,Y,a J2⟩⟩
 .exact W (xc q)<|W (VL d q<|a J1)<|j c
def hO.keys:∀i {l:aa gy},hO a b i l->l.any (·.refKey)=u:=
pH (λh=>by refine W (h:_=[]) ?_;rfl) λm c r d l h=>by
 induction h with|mk e s f a b=>
 simp only [f,UZ,d b,Pq];cases(a J1) with|mk t g=>unfold ve;exact W g Y
def hO.len:∀i {l:aa gy},hO a b i l->i.iW=U l:=
pH (λh=>by refine W (h:_=[]) ?_;rfl) λm c r d l h=>by induction h with|mk e s f a b=>exact W f<|aq _ (d b)
def A?:∀i,uC c i=Q->cW i n=J v->jt oN c n=Q:=
pH (λZ e=>by cases e) λm a r b h e=>by
 have h:=iO h
 by_cases q:m=n
 .exact q▸h.1
 .exact b h.2<|af (xc q).symm e
inductive UC(C:Cx)(z:Z)(e:O->aW->Prop)(x:a6):Prop
|mk (c:O) (i:aW) (d a:cC) (b:hi gy) (n:O) (f:x=w (d+1)) (g:C.S.ca c=J a) (h:InstAt z.s.heap (d+1) (JX a d) a<|J<|hx b n) (q:hO C.S z.I i<|cP b) (j:uC c i=Q) (k:e c i)
def T7{K}(r:nz C.S d c (hO C.S z.I a) a N x)(b:cO d z.s.heap)(k:K c a):UC C z K x:=by induction r with|mk d e f n g h j l q m _=>exact⟨c,a,d,e,f,n,g,h,⟨b _ _ j,Y,Y,b _ _ l⟩,q,m,k⟩
def Ŵ(e:L3 o=J p):o=J (cw p.1 p.2):=by
 induction o with
 |none=>exact aI e|some o=>exact m2.casesOn o (λZ e=>Js Y<|Hp e) (λZ Z e=>Js Y<|Hp e) (λa n e=>by refine ax (aC e) ?_;rfl) e
def Hb{K}(a:bZ b c z)(r:dk z.I v x)(h:rk z.σ v K):UC C z K x:=by
 cases v with
 |obj c i=>exact T7 r (a V).sI h|ref d=>refine W (r:x=w d)<|ah (et (?_:bE _ λp=>K p.1 p.2)) λp e=>T7 ((a J1) d _ (Ŵ e.1)) (a V).sH e.2;have h:s3 _ K:=h;rw [Fc] at h;exact h|_=>exact b6 h
def aaG:bD a I v x->handedIn x=Q:=
ai.casesOn v (λr=>by refine W (r:x=bQ) ?_;rfl) (λZ r=>by refine W (r:x=eR _) ?_;rfl) (λZ r=>by induction r with|mk t e=>refine W e ?_;rfl) (λZ r=>by induction r with|mk t e=>refine W e ?_;rfl)
 (λZ r=>by induction r with|mk a b m e=>refine W e ?_;rfl) (λZ r=>by induction r with|mk a b m e=>refine W e ?_;rfl) (λZ r=>by induction r with|mk a b m c e=>refine W e ?_;rfl) (λZ Z r=>by induction r with|mk a b m c e=>refine W e ?_;rfl) (λZ r=>by refine W (r:x=w _) ?_;rfl)
def aa4{E:VP}(k:eT)(a:bZ d e z)(l:Le C.I0 z.I)(r:dk z.I b x)(c:rk z.σ b λZ i=>bE (cW i n) λf=>g f z.σ)(h:jS d e z g j):dx (getAttr x (bu n) m) j E z.s:=by
 cases Hb a r c with|mk o i d p q m e s t q b c=>
 refine W e ?_;have v:=(k J9) o p s;refine ah (et c) λy H=>ah ((q.find<|k J1).2 y H.1) λI L=>ah (v J4) λN z=>get_value (k.In (a V) l) t (v V) ?_ (aaG L.2)<|h.fq a L.2 H.2;unfold findObj;rw [z.1,(v J5) n<|A? i b H.1];show ez (B_ _ _ _) _=_;unfold B_;rw [z.2,aJ Y];unfold lookIn;simp only [L.1];rfl
def agL{E:VP}(k:eT)(d:bZ n o z)(l:Le C.I0 z.I)(r:dk z.I b x)(a:rk z.σ b λc Z=>cm Ai c=J t/\cm t m=J f)(g:C.fa f=J h)(e:j (w h,[x]) z.s):
 dx (So x (C.S.nm m) p) j E z.s:=by
 cases Hb d r a with|mk c i q s v n y H I q b a=>
 rw [y] at e⊢;have L:=(k J9) c s H;have N:=(L J6) t m f a.1 a.2;refine ah N.2 λz x=>?_;obtain rfl:=aC<|af g.symm x.1;refine method_fn (k.In (d V) l) I (L V) (L J1) x.2.2 x.2.1 ?_ e;cases g:cW i m with
 |none=>unfold shadowIn lookIn;simp only [(q.find<|k J1).1 g,q.keys];rfl|some v=>have r:=A? i b g;exact bR<|N.1▸r
section
variable{d:PM}{e:Z}{S:kf}{g:ai}{j:ai}{a:cC}{h:O}{b:O}{f:iq}{k:cR}{c:aa gy}{i:aW}
def agW(p:∀a l,S.nm a=S.nm l->a=l){e}(o:bD S d g e)(q:∀m,n (J m)={m with val:=e})(r:n A=⟨F7 S.w<|S.nm b,gT (S.nm b) h,e⟩):∀i {c:aa gy},hO S d i c->hO S d (ey i b g) (zr (S.nm b).cps.size (cP (S.nm b).cps) n c).1/\U (zr (S.nm b).cps.size (cP (S.nm b).cps) n c).1<=U c+1:=
pH
 (λf=>W (f:_=[])<|⟨⟨_,_,Y,by rw [r];exact bY Y ⟨h,Y⟩ o,Y⟩,bb _⟩) λs j r t c f=>by
 induction f with|mk m k v a l=>
 refine W v ?_;unfold zr;refine W (ř ..) ?_;show hO S d (aD _ _ _) _/\_
 by_cases x:s=b
 .exact ax x<|W (fK ..)<|W (aJ<|U0<|a J1)<|W (q ..)<|⟨⟨_,_,Y,bY (a V) (a J1) o,l⟩,e7 _⟩
 .exact W (d4 x)<|W (aS<|by rw [VL p x<|a J1];exact hu)<|⟨⟨_,_,Y,a,(t l).1⟩,b3 (t l).2⟩
end
def amr(e:jt oN c n=Q):∀i,uC c i=Q->uC c (ey i n v)=Q:=
pH (λZ=>ak dn ⟨e,Y⟩) λm a r b h=>by
 have h:=iO h;refine(?_:uC c (aD _ _ _)=Q)
 by_cases q:m=n
 .exact ax q<|W (fK ..)<|ak dn h
 .exact W (d4 q)<|ak dn ⟨h.1,b h.2⟩
def ady{nm}{G:Prop}(g:∀f a,(∀e,f (J e)={e with val:=y})->f A=⟨b,c,y⟩->PI nm b c y (hx d m)=hx (gU (zr nm.cps.size (cP nm.cps) f<|cP d).1) a->G):G:=by
 have h:∀p:aa gy×ba,∃a,(match p with|(j,u)=>hx (gU j) m|(j,Q)=>hx (gU j) _)=hx (gU p.1) a:=λp=>by induction p with|mk k l=>cases l;exact cL m rfl;exact cL (m+1) rfl
 exact ah (h _) λa e=>g (λo=>match o with|some e=>{e with val:=y}|none=>⟨b,c,y⟩) a (λZ=>rfl) Y e
def aaC{E:VP}(k:eT)(a:bZ À Á z)(É:Le C.I0 z.I)(r1:dk z.I c x)(r2:dk z.I Ë y){K}(d:Bn c n Ë z.σ K)
 (È:∀b,Nx z b->bZ À Á b->K b.σ->Â () b.s):dx (setAttr x (C.S.nm n) y) Â E z.s:=by
 rw [e'] at d;refine d _ λj m i Ä p q Ç Å=>?_;subst Ä;refine W (r1:x=w j) ?_;cases((a J1) j _ p:nz C.S z.H m _ i _ _) with|mk t H Ã Ê N e f h I c o=>
 cases N;have s:=(k J9) m H e;refine ah (s J4) λÆ r=>?_;have g:=k.In (a V) É;have l:=(a V).sH _ _ f;have L:=(a V).sH _ _ h;have v:InstAt z.s.heap _ _ H (J _):=⟨l,Y,Y,L⟩;have tn:uk C.K H (C.S.nm n)=J none:=by unfold uk;exact W ((s J5) n q) Y
 refine LG g v (s J2)<|osa_open g v (s J3) tn λÌ=>aB<|bq<|aB<|aB<|E2 l<|aB<|(Cy (show C.K.In ({z.s with toks:=gu z.s+1}:cR).heap from g) r.1).here<|W r.2<|bq<|aB<|bq<|aB<|aB<|aB<|Ux<|bq<|aB<|Qv<|aB<|E2 L ?_;dsimp only;rw [Ĵ,<-Vs (p:=λx=>ve x),I.keys,qt];refine WA L<|ady (nm:=C.S.nm n) (b:=F7 C.S.w<|C.S.nm n) (c:=gT (C.S.nm n)<|gu z.s+1) (y:=y) (m:=Ê) (d:=Ã) λÍ Î Ï Ð Ñ=>?_;have Ò:=agW (k J1) r2 Ï Ð i I;have Ó:=af (mw _ L (aq _ Ñ))<|aq J Ñ;refine aB<|Uh Ó (W4 ?_)<|bq ?_
 .simp only [LA,Hf];exact ae Ò.2<|ax I.len<|ae (b3 Ç)<|ao Y
 .refine È ⟨z.I,z.H.dG t _,z.σ.dm _ _,_⟩ (i5 (t2 _) Y) (gH ((a V).ZW h (oc ..) Ó Y)<|(a J1).Zl (λÌ Ô N Z z=>?_) (λÕ Ö Ø Ù n=>⟨λz=>n<|z▸Y,λz=>?_⟩) ?_) Å
  .rw [z,o] at N;cases N
  .have:=((a J1).H8 Ù).1;rw [z,p] at this;cases this
  .exact⟨t,H,_,Î,Y,e,af (lN<|Au t) f,iK ..,Ò.1,amr q i c,af (Ka λz=>Au t z.symm) o⟩
end
section
def ō(C)(a b)(z)(n)(c:aa ai->aT->Prop)(d:aa a6->cR->Prop):=∀v x y,Nx z y->Ok C a b y->bS C.S y.I v x->U v=n->c v y.σ->d x y.s
def d!(C)(d)(a)(e)(f)(b)(c):=
∀g h (z:Z) l (j:lq) k (m:aT->Prop) n (E:VP),Ok C g h z->Up C a z.I h->g6 C z.I g b l->w4 d m f l z.σ k->ō C g h z (U c) k n->PX C g h z e m E->a8 (bM C.dK C.w) a (OA<|ro j<|oM c b) n E z.s
noncomputable def gb(e:cX):= !aE e.ctorIdx 22
def zO(h:gb e=Q):oM (e::b) a=(u,bB e a)::oM b a:=by
 cases e with
 |Starred=>exact bR h|_=>rfl
abbrev CR:=d! C Dq Aq
def acg(a:U b<=cu)(d:CR e f c b):cd e (oP f) c (bB (gi b n g) c):=λh j z l k m o E p q r s t v=>wpAny_Tuple_spliced<|d h j z l g _ m _ E p q r s (λx y H I L r1 n N=>⟨ax r1.vg<|W n<|ax yb a,(t.on I).Oa L r1 (n▸a) N⟩) v
def qK(a):=cS a gb
def qS:∀{a},qK a=Q->(ro b<|oM a c).any (·.1)=false:=by intro a;refine a.rec (λZ=>rfl) λx r d=>λh=>?_;have h:=iO h;exact W (zO h.1)<|d h.2
def rP{E:VP}{M}{a}(d:qK a=Q)(h:a8 M Aq (OA<|ro e<|oM a f) (λb c=>g ⟨b,[]⟩ c) E s):a8 M Aq (evalArgs j Q (ro e<|oM a f) []) g E s:=by
 induction a with
 |nil=>exact aB<|lh h (λb c k=>aB<|bq<|hR<|aB<|bq<|aB<|bq<|bq k) λZ Z x=>x|cons x r=>rw [zO (iO d).1] at h⊢;exact evalArgs_plain h
def NB(o):=∀n a b,KR o n a b=b
def C0(d:qK a=Q)(e:U a<30):(cS (ro b<|oM a c) (λx=> !x.1)&&cS (backToKw b<|keywordEach [] c) (λx=>d7 x.1)&&decide (U a+U ([]:aa Keyword)+(if uO ([]:aa Keyword) then 0 else 1)<30))=true:=by
 have f:cS (ro b<|oM a c) (λx=> !x.1)=true:=by have g:=qS (c:=c) (b:=b) d;rw [Ii] at g;exact ak gM λx h=>Tw _▸(Bool.not_eq_true _▸g x h)
 exact W f<|ak dn ⟨Y,eZ e⟩
def Ga(a:gb x=Q):ro c (oM [x] b)=[(u,bB x b)]:=aq _ (zO a)
def zT(b:gb x=Q)(c:gb y=Q):ro d (oM [x,y] a)=[(u,bB x a),(u,bB y a)]:=by exact W (zO b)<|W (zO c) Y
def CV(s)(x)(T):=jl s x T/\∀b,x=w b->∃a,aH s.heap b=J a/\a.dict=A
def Kq(h:aH s.heap a=J (lU b n)):CV s (w a) "list":=⟨⟨_,h,Y⟩,λb e=>by cases e;exact⟨_,h,Y⟩⟩
def V1(h:aH s.heap a=J (hx b n)):CV s (w a) "dict":=⟨⟨_,h,Y⟩,λb e=>by cases e;exact⟨_,h,Y⟩⟩
def abm(T)(a)(id)(B):=hK (PlainAttrs T) (Slot T a id) (typeOf (ei id)=pure (cJ "method_descriptor"))<|JS Hi id=J B
def aak(C:Cx)(a)(T id)(B:agH)(x)(l)(b E:VP)(s):=jl s x T/\Kr id ⟨x::l,[]⟩/\∃S,MeetsIn C.dK C.w (B ⟨x::l,[]⟩) S/\S a (wants b E) s
def BN{T id}{B}(c:abm T l id B)(m:∀{a b z v x K},bZ a b z->dk z.I v x->pD h v z.σ K->CV z.s x T/\K)
 (n:∀{a b z v e x y f g E},bZ a b z->dk z.I v x->dk z.I e y->lI h v e z.σ f->jS a b z f g->aak C Aq T id B x [y] g E z.s)
 (p:cd j q d<|bB o d)(r:cd j s d<|bB x d)(t:NB o)(k:gb x=Q)(H:(n8 I==lL L)=Q):cd j (hM h q s) d (bB (d2 (fz o l I) [x] [] L) d):=by
 refineλa b z l f N g E x d h j o q=>Mk (t _ _ _) (C0 (ak dn ⟨k,Y⟩) (show 1<30 by decide)) H (c V) (c J1) (c J2)<|p a b z l _ N _ E x d h j (λv y s I L r1 f=>?_) q
 have t:=m L r1 f;exact⟨t.1.1,t.1.2,W (Ga k)<|method1_meetsIn (c J1) (c J3)<|r a b s l _ N _ E L (d.on<|I V) (h.c7<|I V) t.2 (λg e z v y r2 p=>n y (r1.ek<|v V) r2 p<|o.on<|I.bI v) (q.on I)⟩
def Xu{K}(a:bZ b c z)(r:dk z.I v x)(h:wW z.σ v λZ Z=>K):CV z.s x "list"/\K:=by cases Cr a r h with|mk d e f n g e s g q j k=>exact a4 e▸br (Kq<|(a V).sH _ _ g) k
def adA:∀{b c} {o x} {d e},cd f b a (bB o a)->cd f c a (bB x a)->NB o->gb x=Q->(n8 d==lL e)=Q->cd f (hM il b c) a (bB (d2 (fz o "append" d) [x] [] e) a):=
BN (dS Ip ab9 ae5 akd) (λg r h=>by rw [rF] at h;exact Xu g r h) λg r1 r2 j k=>by
 rw [pU] at j;cases Cr g r1 j with|mk a l m n p e s q t v y=>
 refine W e ?_;have z:=(g V).sH _ _ q;exact⟨⟨_,z,Y⟩,amw _ _,_,(PySem.list_append a m n _ (t.q5 v)).inModel _ _,z,k.upd g s q (d:=bk) (W Ja<|bS.yy (.single r2) t) (W a3 y.1) Y y.2⟩
def agM:∀{c b} {o x} {d e},cd f c a (bB o a)->cd f b a (bB x a)->NB o->gb x=Q->(n8 d==lL e)=Q->cd f (hM j8 c b) a (bB (d2 (fz o "extend" d) [x] [] e) a):=
BN (dS Ip ai7 aaT aj8) (λg r h=>by rw [rF] at h;exact Xu g r h) λg r1 r2 j k=>by
 rw [pU] at j;cases Cr g r1 j with|mk a l m n p e s q t v y=>
 cases hU g r2 y with|mk z H j I b L N o y=>
 refine W e<|W b ?_;have x:=(g V).sH _ _ q;have c:d8 m+d8 j<=tY:=ax t.eP<|ax N.eP<|ax yb y.1.1;exact⟨⟨_,x,Y⟩,afM _ _,_,(alI a m n H j I (W (show b! _=u from gh<|ak fU c)<|W (qt ..) hu) (t.q5 v)<|hH c).inModel _ _,x,L,k.upd g s q (d:=bk) (W HO<|bS.yy N t) (W a3 y.1.1) Y y.2⟩
def QI(s)(x:a6):=x.isStr<|dg s
def Vc{G:Prop}(e:vQ (v::a)=J b)(g:∀s r,v=aG s->vQ a=J r->b=s::r->G):G:=
ah (ib.mp e) λs h=>ah (fA h.2) λr c=>g s r (TI h.1) c.1 c.2.symm
section
variable{h:PM}{e:Z}{c:Z}{S:kf}{j:ai}{k:a6}{f:O}{d:iq}{b:aa ai}{g:cR}{a:aa gy}
def Ţ{c}:∀{b} {l} {a},bS S h b a->vQ b=J l->c∈a->ah0 c (gT (dg m) f) (QI m c):=by
 intro b
 induction b with
 |nil=>intro l a d _ n;rw [show a=[] from d] at n;exact bG n|cons j r o=>
  intro l a d p n;refine Vc p λg q s t Z=>?_;subst s
  induction d with|mk k v x h1 h2=>
  rw [x] at n;refine aO (mc n) (λe=>?_) λn=>o h2 t n
  induction h1 with|mk y z=>
  refine W e<|W z ?_;have:=agq (dg g) (dg m) y f;rw [akU] at this;exact this
end
def aiC:∀{b} {c} {l} {j},bS f I b l->vQ b=J c->g7 d c=J j->∃a,QI d l[j]=Q/\∀m (e:m<U l),m<j->QI d l[m]=false:=by
 intro b;refine @(b.rec (λZ g h=>by obtain rfl:=aC g;exact aI h) λv r k=>?_);intro c l j h g a;refine Vc g λs n o p q=>?_;subst o;subst q
 induction h with|mk x t y h1 h2=>
 subst y
 induction h1 with|mk z H=>
 refine W H ?_;have a:=af afK.symm a
 by_cases q:s=d
 .rw [aJ q] at a;exact ax (aC a)<|⟨kv _,ak qJ<|aq dg q,λm Z e=>b6<|fC _ e⟩
 .rw [aS q] at a;refine ah (fA a) λL h=>ax h.2<|ah (k h2 p h.1) λN k=>⟨xn N,k.1,λm e b=>?_⟩
  induction m with
  |zero=>exact ak kZ λz=>q<|B5 z|succ m=>exact k.2 m _ (zF b)
def aks:∀{c b} {o x} {d e},cd f c a (bB o a)->cd f b a (bB x a)->NB o->gb x=Q->(n8 d==lL e)=Q->cd f (hM jM c b) a (bB (d2 (fz o "index" d) [x] [] e) a):=
BN (dS Ip ũ aaV agx) (λg r h=>by rw [rF] at h;cases hU g r h with|mk j k j m b l n p k=>exact a4 b▸br (Kq l) k) λg r1 r2 q s=>by
 rw [pU] at q;cases hU g r1 q with|mk t a v n e y q z k=>
 refine hs (zJ r2 k) λH t I k=>aA (et k) λL N k=>aA (et k) λj o k=>?_;obtain⟨x,h1,h2⟩:=aiC q N o;refine W e<|W I ?_;have c:=uc▸x;exact⟨⟨_,y,Y⟩,alD _ _,_,(ajp a v n _ _ (λd f=>Ţ q N<|ak Gp f) j c (X2 (ak hl c)<|nQ (ak jj<|q.eP▸z)<|ao Y) h1 (λm r h=>h2 m _ h)).inModel _ _,y,s.fq g (m5 _ _) k⟩
def ahQ(p):∀s,((R C2 s).take (U p)==R C2 p)=Ew p s:=by
 refine p.rec (λs=>rfl) λc r a=>λs=>?_
 induction s with
 |nil=>rfl|cons d s=>simp only [ud,ud,hS,List.take_succ_cons,List.isPrefixOf_cons_cons,List.cons_beq_cons,a s];refine aq (·&&_) ?_;rw [qH,qJ,qJ,H!];exact eq_comm
def akn:∀{b c} {o x} {d e},cd f b a (bB o a)->cd f c a (bB x a)->NB o->gb x=Q->(n8 d==lL e)=Q->cd f (hM pG b c) a (bB (d2 (fz o "startswith" d) [x] [] e) a):=
BN (dS aeE alj aaf ajb) (λg r h=>by rw [rF] at h;refine hs (zJ r h) λs t e k=>?_;exact a4 e▸br (⟨Iq _ _ _,λj e=>by cases e⟩) k) λg r1 r2 l m=>by
 rw [pU] at l;refine hs (zJ r1 l) λs t e k=>hs (zJ r2 k) λp n q k=>W e<|W q ?_;have v:WI (dg s) (dg p)=Ew (h8 p) (h8 s):=by
  have b:Ρ (dg s) (dg p) 0=Ew (h8 p) (h8 s):=by simp only [ajT,rZ,rZ,uH,<-w8,UQ];exact ahQ _ _
  unfold WI;refine W b ?_;cases e:Ew (h8 p) (h8 s) with
  |false=>exact qt _|true=>simp only [uH,uH,<-w8,<-w8,R5];exact eZ<|W (eJ ..) (List.isPrefixOf_iff_prefix.mp e).length_le
 exact⟨Iq _ _ _,abc _ _,_,(gives_str_startswith _ _ _ _).meets.inModel _ _,m.n2 g (v:=bT _) (aq eR v) k⟩
def aix(g:C5 Aq):∀{b c} {o x} {d e},vk C Dq Aq f b a (bB o a)->vk C Dq Aq f c a (bB x a)->NB o->gb x=Q->(n8 d==lL e)=Q->vk C Dq Aq f (hM pI b c) a (bB (d2 (fz o "get" d) [x] [] e) a):=
BN (dS W8 LQ W2 ń) (λh r j=>zo h r (rF▸j) λk N l m r n=>by induction r with|mk d p q c e s=>exact a4 e▸br (V1<|m _ _ s) n) λh r1 r2 t v=>zo h r1 (pU▸t) λk N l m r n=>Ik r m (h V).sI n.1 r2 λd p q e Z b y Z Z=>by
 refine W e<|⟨⟨_,b J1,Y⟩,alV _ _,λAq z s=>a8 _ Aq.in1 _ _ _ s,λAq z s j=>j,?_⟩;show a8 _ _ (Di d _>>=_) _ _ _;refine aB (b.get (DO g) (λe=>?_) λH I e r=>?_)<;>have n:=n.2<;>rw [e] at n
 .exact aB<|Zx (Io y)<|bq<|v.fq h (v:=bk) Y n
 .exact bq<|v.fq h r n
def η(e:C5 Aq){o x y}(f:vk C Dq Aq b g a<|bB o a)(h:vk C Dq Aq b j a<|bB x a)(k:vk C Dq Aq b l a<|bB y a)(m:NB o)(c:gb x=Q)(d:gb y=Q)
 (n:(n8 p==lL q)=Q):vk C Dq Aq b (wJ g j l) a (bB (d2 (fz o "get" p) [x,y] [] q) a):=by
 refineλr s z l t v H E I L N a o x=>Mk (m _ _ _) (C0 (ak dn ⟨c,ak dn ⟨d,Y⟩⟩) (show 2<30 by decide)) n W8 LQ W2<|f r s z l _ v _ E I L N a (λb g j p q r1 t=>zo q r1 t λÃ È n z I t=>?_) x
 have a:CV j.s g "dict":=by induction I with|mk g À Á Â f Ä=>exact a4 f▸V1 (z _ _ Ä)
 refine⟨a.1,a.2,W (zT c d)<|method2_meetsIn LQ ń<|h r s j l _ v _ E q (L.on<|p V) (N.c7<|p V) t (λÅ Æ Ç m É r2 Ê=>?_) (x.on p)⟩;have c:=p.bI m;refine k r s Ç l _ v _ E É (L.on<|c V) (N.c7<|c V) Ê (λd h j q t a k=>?_) (x.on c);exact zo t (r1.ek<|(m.bI q) V) k λÃ È n z I r=>Ik I z (t V).sI r.1 (r2.ek<|q V) λg À Á f Z s l Z Z=>by
  refine W f<|⟨⟨_,s J1,Y⟩,aiE _ _ _,λAq H v=>a8 _ Aq.in1 _ _ _ v,λAq H v h=>h,?_⟩;show a8 _ _ (Di g _>>=_) _ _ _;have o:=o.on<|c.bI q;refine aB (s.get (DO e) (λf=>?_) λb y f I=>?_)<;>have r:=r.2<;>rw [f] at r
  .exact aB<|Zx (Io l)<|bq<|o.fq t a r
  .exact bq<|o.fq t I r
def I7(a)(v)(t):=∀b,mV a v b->b t
def TD(a)(v):=mV a v λZ=>bh
def Jh{K}(h:kN b v K):∃a,eQ b v=J a/\K a:=by
 cases v with
 |tup a=>exact⟨a,Y,h⟩|lst a=>exact⟨a,Y,h⟩|ref a=>have h:nh (b a) K:=h;rw [ze] at h;exact et h|_=>exact b6 h
def WD{K L}(h:mV a v K)(f:∀t,K t->I7 a v t->L t):mV a v L:=by
 have go:kN a v _->(∀t,K t->(∀M:ba->Prop,kN a v (λb=>M<| !uO b)->M t)->L t)->kN a v _:=λh f=>ah (Jh h) λb e=>s8 e.1 (f _ e.2 λM m=>ah (Jh m) λc g=>by refine W (aC<|af e.1.symm g.1) ?_;exact g.2)
 cases v with
 |none=>exact f _ h λZ k=>k|bool b=>exact f _ h λZ k=>k|int d=>exact f _ h λZ k=>k|_=>exact go h f
def TD.tr(h:TD a v):mV a v (I7 a v):=WD h λt Z m=>m
def vO{K}(h:mV a v K):TD a v:=WD h λZ Z Z=>trivial
def Ih:I7 a (bT b) b:=λZ k=>k
def PB(C)(a b)(z)(c:QT)(d:ba->cR->Prop):=∀t v y,Nx z y->Ok C a b y->I7 y.σ v t->c v y.σ->d t y.s
def e?(C)(c)(b)(d)(e)(a)(x):=
∀f g (z:Z) l (h:QT) j (k:ba->cR->Prop) E,Ok C f g z->Up C b z.I g->g6 C z.I f a l->cN c j e l z.σ h->(∀v m,h v m->TD m v)->PB C f g z h k->PX C f g z d j E->a8 (bM C.dK C.w) b (Fj x a<|bB x a) k E z.s
def PlT(x):=∀a b,Fj x a b=(do let v<-b;standAt x.pos;holding [v] (QC v))
abbrev zX:=e? C Dq Aq
def alU(c:zX b d a t)(e:cd b f a<|bB x a)(g:cd b h a<|bB y a):cd b (.ite d f h) a (bB (.IfExp t x y j) a):=by
 refineλk l z m n o p E q r s v H I=>wpAny_IfExp<|c k l z m _ o _ E q r s v (λv L h=>vO h) (λt v N a b d f=>?_) I
 have f:=d _ f
 induction t with
 |true=>exact e k l N m _ o _ E b (r.on<|a V) (s.c7<|a V) f (H.on a) (I.on a)|false=>exact g k l N m _ o _ E b (r.on<|a V) (s.c7<|a V) f (H.on a) (I.on a)
def ai5(c:nq d<|m3 o)(e:cd b f a<|bB x a)(g:cd b h a<|bB y a)(j:JD o y=u):cd b (.cmp d f h) a (bB (ym x [o] [y] k) a):=λl m z n p q r E s t v H I L=>wpAny_Compare1 (e l m z n _ q _ E s t v H (λN a o b y r1 d=>g l m o n _ q _ E y (t.on<|b V) (v.c7<|b V) d (λf x h k p r2 r=>c p (r1.ek<|k V) r2 r λt n e=>(I.on<|b.bI k).fq p (v:=bT t) Y e) (L.on b)) L) j
def aaJ(c:nq d<|m3 o)(e:cd b f a<|bB x a)(g:cd b h a<|bB y a)(j:JD o y=u):zX b (.cmp d f h) a (ym x [o] [y] k):=λl m z n p q r E s t v H I p L=>wpAny_isTrue_Compare1 (e l m z n _ q _ E s t v H (λN a o b y r1 d=>g l m o n _ q _ E y (t.on<|b V) (v.c7<|b V) d (λf x h k r r2 I=>c r (r1.ek<|k V) r2 I λt n e=>zC<|p t _ _ ((b.bI k).bI .h) (r.lK<|xj _) Ih e) (L.on b)) L) j
def agb(C:Cx)(a)(n)(v):=∀{b} {c E:VP} {s} {p},cO C.I0 s.heap->c v s->a8 (bM C.dK C.w) b (bB (cB n p) a) c E s
abbrev nG:=agb C
def Qo(c:eT)(a:hr b)(d:c5 b n=J qk)(e:(n==("__debug__":bj))=u)(f:C.mg n=J v):nG b n v:=λg h=>WM (a V) d (loadGlobal_global (W (a J1)<|(c J6) _ g) f h) e
def W6(a:eT)(b:hr c)(d:c5 c n=J qk)(e:(n==("__debug__":bj))=u)(f:C.mg n=A)(g:n≠"__name__")(h:tP n=J v):nG c n v:=λj k=>WM (b V) d (J! (W (b J1)<|(a J6) _ j) f (W (b J2)<|(a J7) _ j) (af ((a J8) n g) h) k) e
def Ok.i0(a:bZ d b z)(c:mM Aq z.I b):cO C.I0 z.s.heap:=λe o e=>(a V).sI _ _ ((c V) _ _ e)
def Kd(f):=∀{M} {a} {b E:VP} {s} {c} {d},d.any (·.1)=u->a8 M a (evalArgs f Q d []) (λe g=>a8 M a (call f ([]++e.pos) e.kw) b E g) E s->a8 M a (N6 c f [] d []) b E s
def I2{id}:Kd (ei id):=callWith_builtin
def GJ{id}:Kd (cJ id):=Jd
def agF(C)(a)(f)(b):=∀{c d} {z} {v} {y} {e} {g E:VP},Ok C c d z->Le C.I0 z.I->bD C.S z.I v y->RY f v z.σ e->PE C c d z e g->a8 (bM C.dK C.w) a (call b [y]) g E z.s
abbrev sZ:=agF C Aq
def afH(g:nG a n b)(d:Kd b)(c:gb x=Q)(e:cd f h a<|bB x a)(j:sZ k b):cd f (tf k h) a (bB (d2 (cB n p) [x] [] l) a):=by
 refineλm o z l q r s E t v y H I L=>aB<|g (t.i0 v) ?_
 have N:=ak dn ⟨c,Y⟩;exact d (qS N)<|rP N<|W (Ga c)<|spliced_cons<|e m o z l _ r _ E t v y H (λa y b x n r1 f=>spliced_nil<|j n ((v.on<|x V) V) r1 f<|I.on x) L
def al1:sZ .len (ei "len"):=λa Z r b c=>by
 rcases C1 a r b with q|q
 .cases q with|mk d e f n g h q l k=>exact W g<|acC (iX h) (q.AE l)<|c.fq a (m5 _ _)<|q.eP▸k
 .cases q with|mk d e f n g h q l k=>exact W g<|acA (pM h) (q.AE l)<|c.fq a (m5 _ _)<|q.eP▸k
noncomputable abbrev nu:=cJ "tuple"
def ada:sZ q6 (nu):=λa Z r b c=>by
 cases hU a r b with|mk d e f n e g q l k=>
 refine W e ?_;exact call_tuple_list (iX g) (λh j=>c.tup a (λb o e=>i4 _ (j b o e)) (by
  cases q:aH _ h.objs.size with
  |none=>rfl|some o=>exact ay (ic<|j _ _ q)<|kq _) (iI _ Y) q l k)<|q.q5 l
def ajQ:sZ .list (cJ "list"):=λa Z r b c=>by
 rcases C1 a r b with q|q
 .cases q with|mk d e f n g h q l k=>exact W g<|L! e (aL Y) h Y Y (λj m o h=>c.lst a o (mP _) h q l k)<|q.q5 l
 .cases q with|mk d e f n g h q l k=>exact W g<|L! e (aw Y) h Y Y (λj m o h=>c.lst a o (mP _) h q l k)<|q.q5 l
def ajC:∀{a} {l} {b},bS c I a l->oj a=J b->∃D:aa<|au×Tok,l=R (λp=>ew p.1 p.2) D/\R (·.1) D=b:=by
 intro a;refine @(a.rec (@λl b h e=>W (h:l=[])<|ax (aC e) ⟨[],Y,Y⟩) λa r d=>?_);intro l b h e
 induction h with|mk x s f h1 h2=>
 refine ah (ib.mp e) λg j=>ah (fA j.2) λk m=>ah (d h2 m.1) λD p=>?_;rw [OU j.1] at h1
 induction h1 with|mk t n=>exact⟨(g,t)::D,by simp only [f,p.1,n];rfl,by simp only [<-m.2,<-p.2];rfl⟩
abbrev iy:=ub Aq
def abE(a:iy=A):sZ .sum (ei "sum"):=λb Z r c d=>by
 cases hU b r c with|mk e f g n e h q l k=>
 refine ah (et k) λj m=>ah (ajC q m.1) λD o=>W e ?_;have p:g=intItems (gU D):=by apply Gf.mp;exact W o.1<|W Array.toList_map Y
 subst p;exact sum_intListG a (iX h) λs t v x=>W (preSum_eq ..)<|W List.toList_toArray<|W (A8<|by simp only [bC,LA];exact bb _)<|W o.2<|d.HV b x (m5 _ _) m.2
def ab7:sZ .abs (ei "abs"):=λa Z r b c=>by
 refine hs (tg r b) λd t e k=>W e<|call_abs_int λf g=>?_;exact W (show(if d<0 then-d else d)=_ by
  by_cases h:d<0
  .exact W (aJ h) (Int.ofNat_natAbs_of_nonpos<|nU h).symm
  .exact W (aS h) (Int.natAbs_of_nonneg<|hB.mp h).symm)<|c.fq a (m5 _ _) k
def Vd(b:cd c d a<|bB x a):cd c (tf .neg d) a (bB (u2 .USub x e) a):=λf g z l h j k E m n o p q r=>Zn<|b f g z l _ j _ E m n o p (λv y s t H r1 I=>hs (tg r1 I) λL N e k=>W e<|alQ<|(q.on t).fq H (m5 _ _) k) r
def aaS(e:iy=A)(g:nG a n<|ei "max")(b:gb x=Q)(c:gb y=Q)(f:cd d h a<|bB x a)(j:cd d k a<|bB y a):cd d (hC AX h k) a (bB (d2 (cB n p) [x,y] [] l) a):=by
 refineλm o z l q r s E t v H I L N=>aB<|g (t.i0 v) ?_
 have a:=ak dn ⟨b,ak dn ⟨c,Y⟩⟩;refine callWith_builtin (qS a)<|rP a<|W (zT b c)<|spliced_cons<|f m o z l _ r _ E t v H I (λx y d n h r1 k=>spliced_cons<|j m o d l _ r _ E h (v.on<|n V) (H.c7<|n V) k (λp q s b c r2 f=>?_) (N.on n)) N;cases oz (r1.ek<|b V) r2 f with|mk z j t I a y k=>
 refine W a<|W y<|spliced_nil<|max_two_ints e λx m o=>?_;have L:=L.on<|n.bI b
 by_cases g:z<j
 .exact W (aJ g)<|L.HV c o (by rw [GQ<|nU g];exact m5 _ _) k
 .exact W (aS g)<|L.HV c o (by rw [Sq<|hB.mp g];exact m5 _ _) k
def c!(a:eT)(b:cO C.I0 h):d8 h.objs≠1:=λq=>ah ((a J6) h b) λo g=>ah g λc g=>ah g λep g=>by exact ay (q▸(ic g.1))<|ao Y
def acq(h1:nq e<|m3 c)(h2:nq f<|m3 d)(g:cd b h a<|bB x a)(j:cd b k a<|bB y a)(l:cd b m a<|bB t a)
 (n:lastMarks [c,d] [y,t]=u):zX b (yq e f h k m) a (ym x [c,d] [y,t] o):=by
 refineλp q z r s v H E I L N a b c d=>isTrue_chain (g p q z r _ v _ E I L N a (λy e f h x r1 k=>test_link<|j p q f r _ v _ E x (L.on<|h V) (N.c7<|h V) k (λm o s H b r2 g=>h1 b (r1.ek<|H V) r2 g λt z I=>zC ?_) (d.on h)) d) n
 have k:=(h.bI H).bI<|Nx.h (a:=s.s.heap) (t:=z);have a:bZ p q (zh s s.s.heap z):=b.lK<|xj _
 induction t with
 |false=>exact c u _ _ k a Ih I|true=>exact test_last<|l p q _ r _ v _ E a (L.on<|k V) (N.c7<|k V) I (λy e j f x m o=>h2 x (r2.ek<|f V) m o λt z I=>zC<|c t _ _ ((k.bI f).bI .h) (x.lK<|xj _) Ih I) (d.on k)
def acp:sZ sm (cJ "str"):=λ{a b z v y c d E} e _ r f g=>hs (tg r (f:bE _ _)) λh t j k=>W j<|amm ((by
 obtain⟨m,rfl⟩:=vD k.1.1
 induction m with
 |zero=>decide|succ m=>exact fe (ak (M_ (k:=25)<|IT m)<|cF (jj.mp k.1.2)<|ao Y)<|ao Y))<|g.fq e (Cv _ _) k.2
def ai8(g:nG a f<|ei "isinstance")(d:nG a t<|cJ "str")(b:gb x=Q)(e:cd h c a<|bB x a):cd h (tf ys c) a (bB (d2 (cB f p) [x,cB t j] [] k) a):=by
 refineλl m z n o q r E s v y H I L=>aB<|g (s.i0 v) ?_
 have N:=ak dn ⟨b,Y⟩;refine callWith_builtin (qS N)<|rP N<|W (zT b Y)<|spliced_cons<|e l m z n _ q _ E s v y H (λa y x f t r1 h=>spliced_cons<|d (t.i0<|v.on<|f V)<|spliced_nil ?_) L;cases a with
 |str s=>induction r1 with|mk p e=>exact W e<|aeo<|(I.on f).fq t (v:=bT Q) Y h
 |tup j=>induction r1 with|mk c k n e g q _=>exact W e<|ahJ ((t V).sI _ _ g) Y<|(I.on f).fq t (v:=bT u) Y h
 |_=>exact b6 h
def BG{C}(n:∀l a y,Nx z y->Ok C a b y->g6 C y.I a c l->N l y.σ->d qn y.s)(e:∀l a y,Nx z y->Ok C a b y->g6 C y.I a c l->f l y.σ->d .cont y.s)(r:∀v x l a y,Nx z y->Ok C a b y->g6 C y.I a c l->bD C.S y.I v x->g v y.σ->d (jF x) y.s):PS C c b z N g f d:=bY n e r
def PS.on(p:PS C a b z N c d e)(k:Nx z y):PS C a b y N c d e:=BG (λl f t a=>(p V) l f t<|k.bI a) (λl f t a=>(p J1) l f t<|k.bI a) λv x l f t a=>(p J2) v x l f t<|k.bI a
def qN.on(p:qN C a b z c d e)(k:Nx z y):qN C a b y c d e:=λe l f t a=>p e l f t<|k.bI a
def qN.at(p:qN C b c z d e f)(g:gn z.I a b l):PX C a c z d e f:=λe y h j k x=>p e l a y h j (g.c7<|h V) k x
abbrev Dl:=Nr C Dq Aq
def WV:Dl a ck b []:=λc d z l N e f g h E j k m n o p=>xY<|(o V) l c z (rv z) j m n
def NW(n):∀l,cW (kY l n) x=J v->cW l x=J v:=
pH id λy a r b h=>by
 have h:cW (aD _ _ _) x=J v:=h;refine(?_:aD _ _ _=J v)
 by_cases q:y=n
 .subst q;rw [fK] at h
  by_cases c:y=x
  .subst c;have d:=pH (M:=λl=>cW (kY l y) y=A) Y λe a r b=>by
    refine(?_:cW (aD _ _ _) y=A)
    by_cases q:e=y
    .subst q;exact W (fK ..) b
    .exact W (d4 q)<|af (xc q) b
   exact ay (af (d r).symm h) aI
  .exact W (d4 c)<|b h
 .rw [d4 q] at h;have h:aD _ _ _=J v:=h
  by_cases c:y=x
  .subst c;rw [fK] at h⊢;exact h
  .rw [d4 c] at h⊢;exact b h
def g6.less(a:gn I b c l)(h:∀x v,cW d x=J v->cW l x=J v):gn I b c d:=ah a λm q=>cL m<|e1 (q V) (λx v e=>q J1 x v<|h x v e) (λx v e=>q J2 x v<|h x v e) (q J3) (q J4)<|q J5
def g6.del{a:aa O}:∀{l},gn I b c l->gn I b c (a.foldl kY l):=@(a.rec (λh=>h) λn r d=>λh=>d<|h.less λx v=>NW n _)
abbrev ja:=Zq C Dq Aq
def al6(b:cd c d a<|bB x a)(e:RE a=u)(f:mG x A g.line a=pure u):ja c (uy d) a (.Expr x g):=λh j z l N k m n o E p q r s t v=>XH (b h j z l _ n _ E p q r s (λy y H I L r1 a=>(t V) l h H I L (r.c7<|I V) a) (v.at r)) e f
def YD:ja a .cont b (.Continue c):=λd e z l N f g h j E k m n o p q=>wpAny_Continue<|(p J1) l d z (rv z) k n o
def Vm:ja a yU b c:=λd e z l N f g h j E k m n o p q=>b6 o
def Ř(c:zX a d b x)(e:Dl a s b f)(g:Dl a r b h):ja a (.ite d s r) b (.If x f h j):=by
 refineλk l z m N n o p q E t v y H I L=>wpAny_If<|c k l z m _ p _ E t v y H (λa b h=>vO h) (λt a d x s f r=>?_) (L.at y)
 have r:=f _ r
 induction t with
 |true=>exact e k l d m N n o p q E s (v.on<|x V) (y.c7<|x V) r (I.on x)<|L.on x|false=>exact g k l d m N n o p q E s (v.on<|x V) (y.c7<|x V) r (I.on x)<|L.on x
def Fh:∀l,cW (ey l n v) n=J v:=
pH JL λy a r b=>by
 refine(?_:cW (aD _ _ _) n=J v)
 by_cases q:y=n
 .exact W q<|W (fK ..) JL
 .exact W (d4 q)<|af (xc q) b
def wB(h:m≠n):∀l,cW (ey l n v) m=cW l m:=
pH (xc<|l2 h) λy a r b=>by
 refine(?_:cW (aD _ _ _) m=aD _ _ _)
 by_cases q:y=n
 .exact W q<|W (fK ..)<|W (d4<|l2 h)<|xc<|l2 h
 .exact W (d4 q)<|aq _ b
def tU(C)(a)(b)(z)(c:LT)(d:j4->cR->Prop):=∀l e y,Nx z y->Ok C e b y->g6 C y.I e a l->c l y.σ->d () y.s
def tU.on(p:tU C a b z c d)(k:Nx z y):tU C a b y c d:=λl e t a=>p l e t<|k.bI a
def nR.EU(h:nR a L m)(g:a c=J o)(d:hJ o=qQ v):c≠L:=λq=>by induction h with|mk b e ep f j _ _=>rw [q,f] at g;obtain rfl:=aC g;exact nomatch (j▸d)
def GU.put(h:GU e I b d n v)(f:∀c,b1 n (gf d)=J c->∀a y,b c=J a->hJ a=qQ (J y)->c≠q):GU e I (b.dG q o) d n v:=by induction h with|mk c y a l g d r=>exact⟨c,y,a,l,af (lN<|f c l a y g d) g,d,r⟩
def ķ(g:eT)(q:Fo C I h b m l)(e:c5 b (bu n)=dW){c}{f}(j:hJ c=qv d f)(k:StrKeys d)(o:∀a,nsFind d a=if a=bu n then J y else m a)(r:dk I v y):
gn I (h.dG (jz b) c) b (ey l n v):=
⟨_,e1 ⟨c,d,f,iK ..,j,k,o⟩ (λa p s t=>by
 by_cases x:a=n
 .subst x;rw [Fh] at s;obtain rfl:=aC s;exact⟨y,aJ Y,r⟩
 .rw [wB x] at s;exact((q J1) a p s t).imp λz h=>br (af (if_neg λH=>x<|(g J1) _ _ H) h.1) h.2) (λa p s t=>by
 by_cases x:a=n
 .subst x;exact aO t (λt=>by rw [e] at t;exact nomatch t) λt=>by rw [e] at t;exact nomatch t
 .rw [wB x] at s;exact((q J2) a p s t).put λL Z N y b I=>(q V).EU b I) (λa L s m=>((q J3) a L s m).imp λl h=>h.imp λv h=>br (af (lN<|(q V).EU h.1 h.2) h.1) h.2) (q J4)<|Qu<|q J5⟩
noncomputable def yl(a)(n):=c5 a n==dW||(c5 a n==J ho&&d7 (b1 n<|gf a))
abbrev y9{a:Type}:=@wpAny a<|v8
def AR{E:VP}{K}{Ru}(d:eT)(e:hr b)(c:yl b (C.S.nm n)=Q)(a:bZ h j z)(k:gn z.I h b l)(r:dk z.I v y)(f:K (ey l n v) z.σ)(g:tU C b j z K Ru):y9 m (Si b (C.S.nm n) y) Ru E z.s:=by
 refine ah k λm q=>?_
 by_cases o:c5 b (C.S.nm n)=dW
 .refine Y' o ((q V).ns (a V).sF) (λp s t=>?_) (by refine W (e V) ?_;rfl);exact ah s λx s=>ah s λH s=>ah s λI L=>by
   cases(q V) with|mk N h ep j k l b=>
   exact g _ _ _ .h (gH ((a V).Ib j t L.1<|by unfold nf;exact W L.2.1 Y)<|a J1) (ķ d q o L.2.1 L.2.2.1 L.2.2.2 r) f
 .have c:=iO<|CC (kR.mp c) λz=>o<|beq_iff_eq.mp z;refine ah (vx.mp c.2) λs H=>ah ((q J3) _ _ H ((d J2) n)) λI k=>ah k λl L=>?_;have j:z.s.heap.IsCell s l:=ah ((a V).sF _ _ L.1) λb z=>⟨_,z,L.2⟩;exact wpAny_storeName_cell (e V) (beq_iff_eq.mp c.1) H j λp I t=>ah I λx l=>
   g _ _ _ .h (gH ((a V).Ib L.1 t l.1<|by unfold nf;exact W l.2 Y)<|a J1) ((⟨m,e1 (by cases(q V) with|mk N h ep z c Á n=>exact⟨N,h,ep,af (lN<|l2<|(q V).EU L.1 L.2) z,c,Á,n⟩) (λp j b a=>by
   by_cases I:p=n
   .subst I;exact ay a o
   .rw [wB I] at b;exact(q J1) p j b a) (λp j b a=>by
   by_cases I:p=n
   .subst I;rw [Fh] at b;obtain rfl:=aC b;exact⟨s,y,x,H,iK ..,l.2,r⟩
   .rw [wB I] at b;exact((q J2) p j b a).put λg t À y z c e=>I<|(d J1) _ _ ((q J4) _ _ s (e▸t) H)) (λp g b Â=>by
   by_cases e:g=s
   .exact W e<|⟨x,_,iK ..,l.2⟩
   .exact((q J3) p g b Â).imp λÃ k=>k.imp λv k=>br (af (lN e) k.1) k.2) (q J4)<|Qu<|q J5⟩)) f
def aaN(C)(c)(b)(d)(t)(a)(x):=
∀e f (z:Z) l (v:ai) y (g:LT) h (j:j4->cR->Prop) E,Ok C e f z->Up C b z.I f->g6 C z.I e a l->bD C.S z.I v y->mN c h t l v z.σ g->tU C a f z g j->PX C e f z d h E->a8 (bM C.dK C.w) b (assign x a y) j E z.s
abbrev q0:=aaN C Dq Aq
def x?(b:eT)(c:hr a)(d:yl a (bu n)=Q):q0 e (eb n) a (cB (bu n) p):=λf g z l v y h j k E m o q r s t x=>BB<|AR b c d m q r s t
def Vz{E:VP}{M}(h:a () s):a8 M Aq (release b c) a E s:=λd p e=>W (I_ ..) h
def aeY(b:eT)(c:cd d e a<|bB x a):q0 d (fL e n) a (fz x (bu n) f):=λg h z l v y j k m E o p q r s t H=>W (WS ..)<|aB<|hR<|c g h z l _ k _ E o p q s (λI L N a d r1 e=>aB<|rT<|aB<|hR<|aaC b d ((p.on<|a V) V) r1 (r.ek<|a V) e λx n f v=>Vz<|t l g x (a.bI n) f (q.c7<|(a.bI n) V) v) H
def ahO(r:bD b I v y):∀{a} {l} n,bS b I a l->bS b I (c2 a n v) (c2 l n y):=by
 intro a;refine @(a.rec (@λl n h=>W (h:l=[]) Y) λc t d=>?_);intro l n h
 induction h with|mk x s e h1 h2=>
 refine W e ?_
 induction n with
 |zero=>exact⟨y,s,Y,r,h2⟩|succ n=>exact⟨x,_,Y,h1,d n h2⟩
def ag5:∀{a},bw (R (·.1) a)->bw (R (·.1)<|eW a k v):=by
 intro a;refine a.rec (λZ=>ak jc ⟨bG,xC⟩) λe r b=>λh=>?_;have h:=jc.mp h;refine W Ro ?_
 by_cases q:e.1=k
 .exact W (aJ q)<|ak jc h
 .exact W (aS q)<|ak jc ⟨λm=>ah (mm m) λp c=>(Jv (a:=λd=>d≠e.1) (l2 q) (λf g z=>h.1<|ak jO ⟨f,g,z⟩) p c.1) c.2,b h.2⟩
def s4.eW(a:s4 b d)(c:ip b k):s4 (eW b k v) (kj k):=bY (ag5<|a V) (Jv (a:=λa=>kj a=kj k) Y c.2)<|Jv (a:=λa=>gz a=Q) c.1<|a J2
def alG{E:VP}{Ru}{K}(È:lF)(a:bZ Å Ç z)(r1:dk z.I o c)(r2:dk z.I d e)(f:dk z.I v y)(g:qe o d v z.σ K)
 (h:∀b,Nx z b->bZ Å Ç b->K b.σ->Ru () b.s):dx (setItem c e y) Ru E z.s:=by
 rw [SG] at g;refine g _ (λÒ É p q=>?_) λr Ñ t Í H I L N=>?_
 .subst É
  induction r2 with|mk À Á=>
  cases Cr a r1 q with|mk r Â Ã t Ä k Æ l N j q=>
  refine W k<|W Á ?_;have n:=(a V).sH _ _ l;refine ki_setAt n p (X2 q.1<|nU<|Ir j) (N.eP▸q.1) ?_;exact h ⟨z.I,z.H.dG r _,z.σ.dm r _,{z.s with heap:=rh z.s.heap r _}⟩ (i5 (t2 _) Y) (a.upd (o':=az _) Æ l (oc ..) (mw (GB (·.setIfInBounds (cM Ò) y)) n Y) Y ⟨r,_,_,Y,iK ..,W Array.toList_setIfInBounds<|ahO f _ N,W ni j⟩) q.2
 .subst Í;refine W (r1:c=w r) ?_;cases((a J1) r _ H:kh z.H _ Ñ _ _) with|mk Ë Ê n Ì k l x j Î Ï Ð=>
  cases k;have s:=N0 (a V).sI ((a V).sH _ _ l) x (j V) (j J2) I r2;have m:jl (Z.s z) (w r) "dict":=⟨_,s J1,Y⟩;refine hR<|aB<|wpAny_sequenceKey m Y<|aB<|K9 m i?<|qR i? m entry_dict_setitem ?_<|args_dict_setitem _ _ _;refine aB<|RQ m (?_:a8 _ _ (dictSet r e y>>=_) _ _ (Z.s z));exact aB<|s.set (DO È) L f λs Ø n Ó Ô x=>bq ⟨bQ,Y,bq<|(λÕ Ö m Ù Ú Û=>h ⟨z.I,z.H.dG r _,z.σ.dm r _,{z.s with heap:=Õ,toks:=gu z.s+ua d}⟩ (i5 (t2 _) Y) (a.upd (o':=dD _ m) H l Ú Ù Y ⟨r,Ö,m,_,Y,iK ..,Û,j.eW I,ae Qm L,Ï,Y⟩)<|N m) s Ø n Ó Ô x⟩
def ak7(c:lF)(d:cd b e a<|bB x a)(f:cd b g a<|bB h a):q0 b (hC kW e g) a (tp x h j):=by
 refineλk l z m v y n o p E q r s t H I L=>W (assign_Subscript ..)<|aB<|hR<|d k l z m _ o _ E q r s H (λN a b e x r1 g=>aB<|hR<|f k l b m _ o _ E x (r.on<|e V) (s.c7<|e V) g (λh j v y n r2 p=>?_) (L.on e)) L
 have d:=e.bI y;exact aB<|rT<|aB<|hR<|alG c n (r1.ek<|y V) r2 (t.ek<|d V) p λz q H N=>Vz<|I m k z (d.bI q) H (s.c7<|(d.bI q) V) N
noncomputable def q7:aa (O×lq)->Zq.E
|[]=>s5|q::r=>j2 (eb q.1)<|q7 r
noncomputable def je(C:Cx)(a:aa<|O×lq):=a.map λq=>cB (C.S.nm q.1) q.2
def PN(C:Cx)(a)(b:aa<|O×lq):=∀q∈b,yl a (C.S.nm q.1)=Q
section
variable{b:aT}{c:ai}{d:LT}{e:aT->Prop}{a:aW}{f:Zq.S}
def Rp:∀{h} {a} {g},yk Dq e (q7 h) a g b d->U g=U h:=by
 intro h
 induction h with
 |nil=>intro a g h;induction g with
  |nil=>rfl|cons _ _=>exact b6 h
 |cons q f j=>intro a g h;induction g with
  |nil=>exact b6 h|cons c g=>exact aq _ (j h)
end
def Tn:∀{a},U (DU (je C a) b)=U a/\(DU (je C a) b).findIdx? (·.1)=none:=by intro a;refine a.rec ⟨Y,Y⟩ λq r c=>⟨aq _ c.1,W (List.findIdx?_cons)<|W c.2 ?_⟩;rfl
section
variable{f:jX}{d:PM}{h:PM}{b:Z}{E:VP}{j:aT}{m:ai}{e:LT}{k:aT->Prop}{c:aW}{n:Zq.S}{g:Zq.S}{Ru:j4->cR->Prop}{o:a6}{l:bj->bf a6}
def Ι(r:eT)(s:hr f):∀{p} {a} {q} {c} {d} {b} {e:LT},PN C f p->bZ d h b->gn b.I d f c->kK b.I a q->yk Dq k (q7 p) c a b.σ e->tU C f h b e Ru->dx (Lo (R (·.2)<|DU (je C p) f) q) Ru E b.s:=by
 intro p
 induction p with
 |nil=>intro a q c d b e _ t v g x y;induction a with
  |nil=>exact bq<|y c d b (rv b) t v x|cons _ _=>exact b6 x
 |cons z p H=>
  intro a q c d b e I t v g x y
  induction a with
  |nil=>exact b6 x|cons m a=>
   induction g with|mk o n L r1 r2=>
   exact W L<|aB<|hR<|BB<|AR (K:=λc j=>yk Dq k _ c a j e) r s (I z b8) t v r1 x λN p q a r s t=>H (λv l=>I v<|cz _ l) r s (r2.E5<|a V) t<|y.on a
end
def al9(c:eT)(d:hr a)(e:iy=A){f}(g:PN C a b):q0 h (oP<|q7 b) a (gi (je C b) f j):=by
 refineλk l z l v y m n o E p q r s t x H=>ah (et t) λI L=>?_
 rw [JF L.1] at s
 induction s with|mk N f n h j q k=>
 refine W h ?_;have z:=Tn (b:=a) (a:=b);exact Xd e (pM<|(p V).sI _ _ j) (af z.1<|af (Rp L.2).symm q.eP) z.2 λl v=>Ι c d g (p.lK λb o L=>v b o (fH<|ic L) L) r q L.2<|x.on .h
def U6(a:gb x=Q):R (·.2) (DU [x] b)=[assign x b]:=by
 cases x with
 |Starred=>exact bR a|_=>rfl
def Ap(c:q0 b t a x)(d:cd b e a<|bB y a)(f:gb x=Q)(g:mG y (J x) h.line a=pure u)(j:rV [x] y a=pure A):ja b (nK t e) a (i7 [x] y h):=λk l z m N n o p q E r s v H I L=>GG (d k l z m _ p _ E r s v H (λa x y b t r1 e=>W (U6 f)<|c k l y m a x _ p _ E t (s.on<|b V) (v.c7<|b V) r1 e (λh N n o q d z=>(I V) h N n (b.bI o) q d z) ((L.at v).on b)) (L.at v)) g j
def yj(l)(D:aa<|O×ai):=D.foldl (λl p=>ey l p.1 p.2) l
def Q3:∀{D} {l},(∀p∈D,p.1≠n)->cW (yj l D) n=cW l n:=by intro D;exact @(D.rec (λZ=>rfl) λp r a=>λh=>af (a λq b=>h q<|cz _ b)<|wB (l2<|h p b8) _)
def UI:∀{D} {l},(R (·.1) D).Nodup->(n,v)∈D->cW (yj l D) n=J v:=by intro D;refine @(D.rec (λZ h=>bG h) λp r a=>?_);intro l nd h;have nd:=jc.mp nd;refine(mc h).elim (λe=>?_) λh=>a nd.2 h;subst e;exact(Q3 λq b e=>nd.1<|jO.mpr ⟨q,b,e⟩).trans<|Fh _
def akP(nd:bw<|R (·.1) a)(n):cW (yj l a) n=cW (yj l<|f3 a) n:=by
 by_cases h:n∈R (·.1) a
 .exact ah (mm h) λp b=>ax b.2<|W (UI nd b.1)<|W (UI (by rw [B8];exact ak List.pairwise_reverse<|nd.imp l2)<|ak vZ b.1) Y
 .rw [Q3 λp b e=>h<|ak jO ⟨p,b,e⟩,Q3 λp b e=>h<|ak jO ⟨p,vZ.mp b,e⟩]
section
variable{b:aT}{d:ai}{c:LT}{e:aT->Prop}{a:aW}{f:Zq.S}
def ab1:∀{h} {a} {g},yk Dq e (q7 h) a g b c->c (yj a<|(R (·.1) h).zip g) b:=by
 intro h
 induction h with
 |nil=>intro a g h;induction g with
  |nil=>exact h|cons _ _=>exact b6 h
 |cons q f j=>intro a g h;induction g with
  |nil=>exact b6 h|cons d g=>exact j h
end
section
variable{e:jX}{c:PM}{j:PM}{b:Z}{E:VP}{m:ai}{g:cX}{f:LT}{d:aW}{n:Zq.S}{h:Zq.S}{Ru:j4->cR->Prop}{o:a6}{k:O}{l:bj->bf a6}
def ahg(r:eT)(s:hr e):∀{a} {p} {q} {d} {c} {b} {f},(∀g∈a,yl e (bu g)=Q)->U p=U a->bZ c j b->gn b.I c e d->kK b.I p q->f (yj d<|a.zip p) b.σ->tU C e j b f Ru->
 dx (Lo (a.map λg=>bindName e<|bu g) q) Ru E b.s:=by
 intro a;refine @(a.rec (@λp q d c b f Z Z t v h x y=>bq<|y d c b (rv b) t v x) λk a z=>?_);intro p q d c b f H I t v h x y
 induction p with
 |nil=>cases I|cons m p=>
  induction h with|mk o n L r1 r2=>
  exact W L<|aB<|hR<|wpAny_bindName<|AR r s (H k b8) t v r1 x λN a q p r s t=>z (λv l=>H v<|cz _ l) (f7 I) r s (r2.E5<|p V) t<|y.on p
end
def agh(f:eT)(g:hr b)(h:iy=A){c}(j:cd k d b<|bB x b)(nd:bw<|R (·.1) a)(l:PN C b a)(m:mG x (J<|gi (je C a) c e) n.line b=pure u)
 (o:rV [gi (je C a) c e] x b=pure (J<|(R (·.1) a).map C.S.nm)):ja k (nK (oP<|q7 a) d) b (i7 [gi (je C a) c e] x n):=by
 refineλp q z r N s t v y E H I L b c e=>Assign_Tuple_swapped (j p q z r _ v _ E H I L b (λv k n s y r1 j=>ah (et j) λp q=>?_) (e.at L)) m o
 rw [JF q.1] at r1
 induction r1 with|mk d z n H I b k=>
 have j:=af (Rp q.2) (bC (f:=λb=>b.1)).symm;refine W H<|W (show U ((R (·.1) a).map C.S.nm)=d8 z by rw [bC,<-j,b.eP])<|unpackItems_tuple h (pM<|(y V).sI _ _ I) λd m=>?_;rw [<-B8,jD];have o:bw (((R (·.1) a).zip p).map (·.1)):=W (List.map_fst_zip<|c6 j.symm) nd;refine ahg (f:=λn k=>n=yj r (f3<|(R (·.1) a).zip p)/\N _ k) f g (λx e=>?_) ?_ (y.lK λh z q=>m h z (fH<|ic q) q) (L.c7<|s V) (bS.W? b) ⟨?_,ab1 q.2⟩ ?_
 .exact ah (mm<|vZ.mp e) λb H=>H.2▸l b H.1
 .simp only [uw,uw];exact j
 .refine aq _ ?_;simp only [g',g',List.reverse_zipWith j.symm]
 .exactλI d t a f g r=>(c V) _ d t (s.bI<|Nx.bI .h a) f (g.less λx v q=>by rw [r.1];exact af (akP o x).symm q) r.2
noncomputable def pZ(I H:PM)(h:iq):={h with objs:=h.objs.mapIdx λa o=>if d7 (I a)||d7 (H a) then o else{cls:=bQ,data:= .freed}}
def IK:aH (pZ I H h) a=if d7 (I a)||d7 (H a) then aH h a else none:=by
 unfold pZ aH;refine W (Array.getElem?_mapIdx) ?_;cases e:h.objs[a]? with
 |none=>exact a4<|ite_self A|some o=>
  refine W (U2 ..) ?_
  by_cases b:(d7 (I a)||d7 (H a))=Q
  .exact W (aJ b)<|W (aJ b) Y
  .exact W (aS b)<|W (aS b) Y
def S?:(pZ I H h).StaysIn h:=λb o e=>by
 rw [IK] at e
 by_cases a:(d7 (I b)||d7 (H b))=Q
 .rw [aJ a] at e;exact e
 .rw [aS a] at e;exact aI e
def CD(h1:I a=A)(h2:H a=A):aH (pZ I H h) a=none:=W IK<|W h1<|W h2 Y
def Wn(a:Wd I H c d h)(e:I b=J o):aH (pZ I H h) b=J o:=W IK<|W e<|a.sI _ _ e
def Dj.no{a B}(d:Dj a B)(e:B b=J o):a b=none:=d.hq _ _ e
def Wd.F'(a:Wd I H d e h)(c:(pZ I H h).StaysIn b)(f:h.UpToSlots b):Wd I H d e b:=by have g:∀{j},lj j h->NF j->lj j b:=λs n k o e=>ah (s k o e) λl z=>ah (f _ _ z (nf.ne<|n k o e)) λm p=>cL m p;exact{a with sI:=λk o e=>c _ _ (Wn a e),sH:=λk o e=>c _ _ (W IK<|W e<|W (aJ (zZ _:_=Q))<|a.sH _ _ e),sF:=g a.sF a.nF,sP:=g a.sP a.nP}
def NF.no(n:NF H)(s:lj H h)(e:aH h a=J o)(d:hJ o=eV b):H a=none:=by
 cases q:H a with
 |none=>rfl|some c=>refine ah (s _ _ q) λf z=>?_;rw [e] at z;obtain rfl:=aC z;exact ay d<|nf.ne (n _ _ q) b
section
def Ar.to(a:Wd I H f g h)(x:Ar I h e b c d):h.TracedAtW (pZ I H h) e b c d:=by induction x with|mk j k T l m n b c d o g p q r=>exact⟨j,k,T,l,m,n,b,c,d,CD o<|a.nH.no a.sH.pB p q,g,p,q,r⟩
def g_(a:Wd I H g j h)(x:b.TracedAtW (pZ I H h) e c d f):Ar I b e c d f:=by
 obtain⟨k,l,T,m,n,o,b,c,d,p,g,q,r,s⟩:=x;exact⟨k,l,T,m,n,o,b,c,d,(by
  cases t:I T with
  |none=>rfl|some v=>exact iG<|Wn a t▸p),g,q,r,s⟩
end
def A6(C:Cx)(a)(I)(e)(h):=∃b c L,e=w b/\I b=A/\qf a=J L/\Ar I h b C.pe c (pd L)
def A6.fl(x:A6 C a I e h):eO C a I e h:=ah x λa x=>ah x λb x=>ah x λL x=>⟨a,x.1,x.2.1,aw ⟨b,_,x.2.2.2,aw ⟨L,x.2.2.1,Y⟩⟩⟩
def agQ(a:Wd I H c b h):∀{l},Er b l->h.FunFrames (pZ I H h) l:=by intro l;refine l.rec (λZ=>trivial) λd r e=>λf=>?_;have k:=f d b8;exact⟨k.1,ah k.2 λL k=>ah k λo k=>ah (a.sP _ _ k.2.1) λg z=>⟨L,_,k.1,CD (a.IP.no k.2.1)<|a.HP.no k.2.1,z,k.2.2⟩,e λx j=>f x<|cz _ j⟩
def Qb{E:VP}{M}(a:bZ g h z)(l:mM j z.I h)(b:px j d m)(n:nR g (jz d) p)(c:eO C d z.I k z.s.heap)(f:∀e,Wd z.I z.H g h e->A6 C d z.I k e->o () {z.s with heap:=e}):a8 M j (noteFrame k d) o E z.s:=by
 have q:(QQ<|Z.s z).FunFrames (pZ (Zq.Z.I z) (Zq.Z.H z)<|QQ<|Z.s z) (d::m):=by
  cases n with|mk o r ep s t _ _=>
  refine⟨by refine W (b J2) ?_;decide,?_,agQ (a V)<|(l J1) _ (b V)⟩;exact ah ((a V).sF _ _ s) λv x=>⟨jz d,_,b J1,CD ((a V).IF.no s)<|(a V).HF.no s,x,λy H=>by rw [show hJ ({o with slots:=v}:fO)=hJ o from Y,t] at H;exact nomatch H⟩
 have I:=q;refine ah c λL c=>?_;rw [c.1] at f⊢;refine aO c.2.2 (λN=>?_) λN=>?_
 .refine LI N λg h y j k t p m=>?_;have n:aH (pZ z.I z.H z.s.heap) L=none:=CD c.2.1<|(a V).nH.no (a V).sH.pB j t;unfold noteFrame;refine W (b J1)<|aB<|ob j t m<|W (aS<|ao Y)<|wpAny_entryW (b V) I (b J1) j S? n t (xr.mp m).1 p λe r=>?_;exact f e ((a V).F' r.1 r.2.2.2) ⟨L,h,jz d,Y,c.2.1,b J1,ax k<|g_ (a V) r.2.2.1⟩
 .refine ah N λh N=>ah N λl N=>?_;have n:aH (pZ z.I z.H z.s.heap) L=none:=by cases N.1 with|mk g y T o s j v t=>exact CD c.2.1<|(a V).nH.no (a V).sH.pB j t
  exact aO N.2 (λH=>wpAny_looks_onW (b V) (b J1) ⟨S?,n,I,(H▸N).1.to<|a V⟩ λe x q=>f e ((a V).F' x.1 q) ⟨L,h,jz d,Y,c.2.1,b J1,g_ (a V) x.2.2.2⟩) λH=>ah H λp H=>wpAny_noteFrame_againW H.1 ((H.2▸N).1.to<|a V)<|f _ (a V) ⟨L,h,p,Y,c.2.1,H.1,(H.2▸N).1⟩
def Ls{T}(a:Wd I H b c h)(e:I T=A)(g:aH h T=J f)(d:hJ f=eV j):Wd I H b c (rh h T<|Ac (·.setIfInBounds 3 v)):=
a.kp (wA<|oc h T _) λk l=>l▸⟨e,a.nH.no a.sH.pB g d,a.nF.no a.sF g d,a.nP.no a.sP g d⟩
def aeM(d:bZ f g z)(h:A6 C b z.I e z.s.heap)(c:∀a,Wd z.I z.H f g a->A6 C b z.I e a->j e {z.s with heap:=a}):X3 k Aq b j e z.s:=by
 refine ah h λa x=>ah x λl x=>ah x λL x=>?_;rw [x.1] at c⊢;cases x.2.2.2 with|mk m n T o p g q r s t v y H I=>
 refine aB<|ob g r s<|W (aS (hu:¬_))<|aB<|ob g r s<|W (aJ (rfl:_=Q))<|W x.2.2.1 ?_;have N:=(xr.mp I).1;exact um y H N<|c _ (Ls (d V) t y H) ⟨a,l,L,Y,x.2.1,x.2.2.1,m,n,T,_,_,af (MI _ _ v) g,q,r,s,t,v,mw _ y (yQ<|pa H _),pa H _,by refine W (LH)<|W (aJ Y)<|W (aJ N) ?_;rfl⟩
def Ok.r8(c:bZ a b z)(d:Wd z.I z.H a b e):bZ a b (zh z e t):=gH d<|c J1
def qN.own(c:px Aq a g)(d:mM Aq z.I b)(p:qN C a b z (eO C a) e f):qN C a b z (eO C a) e (notedBy (v8) Aq a<|X3 (v8) Aq a f):=λe l h y k j m n x=>ah m λo q=>Qb j (d.on<|k V) c (q V) n λr s t=>aeM (j.r8 s) t λh2 v H=>p e l h _ (k.bI .h) (j.r8 v) m H.fl x
noncomputable def PM.oQ(I:PM)(a:aa cC)(h:iq):PM:=λb=>if b∈a then aH h b else I b
noncomputable def PM.l9(I:PM)(a:aa cC):PM:=λb=>if b∈a then A else I b
def C6(h)(a:aa cC):=∀b∈a,∃o c,aH h b=J o/\hJ o=eV c
def QK{I:PM}(m:b∈a):I.l9 a b=none:=aJ m
def H0{I:PM}(e:I.l9 b a=J o):I a=J o:=by
 by_cases m:a∈b
 .exact aI<|QK m▸e
 .exact af (aS m:I.l9 b a=I a).symm e
def Xf{I:PM}(m:b∈a):I.oQ a h b=aH h b:=aJ m
def M6{I:PM}(m:b∉a):I.oQ a h b=I b:=aS m
def Wd.less(a:Wd I H b c h)(d):Wd (I.l9 d) H b c h:=
{a with sI:=λe o f=>a.sI _ _ (H0 f),IH:=λe o x=>a.IH _ _ (H0 x),IF:=λe o x=>a.IF _ _ (H0 x),IP:=λe o x=>a.IP _ _ (H0 x)}
def Wd.with(a:Wd I H c d h)(e:C6 h b):Wd (I.oQ b h) H c d h:=by
 have f:∀{g},NF g->lj g h->Dj I g->Dj (I.oQ b h) g:=λn s d j o x=>by
  by_cases m:j∈b
  .exact ah (e j m) λk q=>ah q λl g=>n.no s g.1 g.2
  .rw [M6 m] at x;exact d _ _ x
 refine{a with sI:=λj o e=>?_,IH:=f a.nH a.sH.pB a.IH,IF:=f a.nF a.sF a.IF,IP:=f a.nP a.sP a.IP}
 by_cases m:j∈b
 .rw [Xf m] at e;exact e
 .rw [M6 m] at e;exact a.sI _ _ e
def KC(n:∀b∈a,I b=A):Le I (I.oQ a h):=λc o e=>by
 by_cases m:c∈a
 .rw [n c m] at e;cases e
 .exact W (M6 m) e
def HI(I a:PM)(b)(h c):=fF (Le I<|a.l9 b) (∀d o,a d=J o->Zq.nf o=Q->a.l9 b d=J o)<|∀e∈b,aH c e=aH h e
def Qk(n:∀b∈a,I b=A)(e:C6 h a)(k:Le (I.oQ a h) c)(f:Wd c H g j d):HI I c a h d:=by
 have l:∀b∈a,∃o m,aH h b=J o/\hJ o=eV m/\c b=J o:=λb p=>ah (e b p) λo q=>ah q λm g=>⟨o,m,g.1,g.2,k b o<|af (Xf p) g.1⟩;have r (s:Le I<|c.l9 a) (nf:∀t o,c t=J o->Zq.nf o=Q->c.l9 a t=J o) (v:∀b∈a,aH d b=aH h b):HI I c a h d:=bY s nf v;refine r (λt o e=>?_) (λt o e x=>?_) λb p=>ah (l b p) λo q=>ah q λm g=>af (f.sI _ _ g.2.2) g.1.symm
 .by_cases p:t∈a
  .exact aI<|n t p▸e
  .exact af (aS p:c.l9 a t=c t)<|k _ _ (KC n _ _ e)
 .by_cases p:t∈a
  .exact ah (l t p) λy q=>ah q λm g=>by obtain rfl:=aC<|af e.symm g.2.2;exact ay g.2.1<|Zq.nf.ne x m
  .exact af (aS p:c.l9 a t=c t) e
noncomputable def zI(z:Z)(I):={z with I:=I}
def HI.ok(c:HI I z.I a h z.s.heap)(b:bZ d e z):bZ d e (zI z<|z.I.l9 a):=gH ((b V).less a)<|(b J1).map<|c J1
def rm(C)(d)(g)(e)(b)(c)(f:og)(all)(a:O->iq->Prop):=j6 (∀h j k,a h j->(∀l∈b,aH k l=aH j l)->a h k) (∀h j,a h j->C6 j b) (∀h (s:cR) (m E:VP),a h s.heap->m (w c) s->a8 (bM C.dK C.w) d (mH<|w c) m E s) (∀h v (n o:PM) z (m E p:VP),Ok C n o z->Le e z.I->(∀l∈b,z.I l=A)->a h z.s.heap->f z.σ=J all->all[h]?=J v->
(∀x y,Nx z y->y.σ=z.σ->Ok C n o y->(∀l∈b,y.I l=A)->bD C.S y.I v x->a (h+1) y.s.heap->m x y.s)->
a8 (bM C.dK C.w) d (rN<|w c) (λr q=>∃x,r=J x/\a8 (bM C.dK C.w) d (yC g (w c) x) (λY t=>m x t) p q) E z.s)<|∀h (n o:PM) (z:Z) m (E:VP),Ok C n o z->Le e z.I->(∀l∈b,z.I l=A)->a h z.s.heap->f z.σ=J all->h=U all->
(∀k t,Wd z.I z.H n o k->m A {z.s with heap:=k,toks:=t})->a8 (bM C.dK C.w) d (rN<|w c) m E z.s
def Nb{C}{St}(m:∀a h d,St a h->(∀b∈e,aH d b=aH h b)->St a d)(n:∀a h,St a h->C6 h e)(o:∀a (s:cR) (c E:VP),St a s.heap->c (w f) s->a8 (bM C.dK C.w) Aq (mH<|w f) c E s)(p:∀a v (g j:PM) z (c E q:VP),Ok C g j z->Le k z.I->(∀b∈e,z.I b=A)->St a z.s.heap->l z.σ=J all->all[a]?=J v->
(∀x y,Nx z y->y.σ=z.σ->Ok C g j y->(∀b∈e,y.I b=A)->bD C.S y.I v x->St (a+1) y.s.heap->c x y.s)->
a8 (bM C.dK C.w) Aq (rN<|w f) (λr t=>∃x,r=J x/\a8 (bM C.dK C.w) Aq (yC H (w f) x) (λY I=>c x I) q t) E z.s)(L:∀a (g j:PM) (z:Z) c (E:VP),Ok C g j z->Le k z.I->(∀b∈e,z.I b=A)->St a z.s.heap->l z.σ=J all->a=U all->
(∀d N,Wd z.I z.H g j d->c A {z.s with heap:=d,toks:=N})->a8 (bM C.dK C.w) Aq (rN<|w f) c E z.s):rm C Aq H k e f l all St:=ec m n o p L
def Rx(C)(a)(b)(c d)(z)(e:aT->og->aa ai->Prop)(f:VP):=∀g all y h j k,Nx z y->Ok C c d y->e y.σ g all->g y.σ=J all->rm C a b y.I h j g all k->(∀b∈h,y.I b=A)->k 0 y.s.heap->f (w j) y.s
def aiY(C)(b)(a)(d)(e)(k)(f g)(c)(x):=
∀h j (z:Z) l (m:aT->og->aa ai->Prop) n (o E:VP),Ok C h j z->Up C a z.I j->g6 C z.I h c l->(cN b n f l z.σ λp q=>cN b n g l q λr q=>Il k p r q<|m q)->Rx C a e h j z m o->PX C h j z d n E->
 a8 (bM C.dK C.w) a (bB x c) (λv s=>a8 (bM C.dK C.w) a (mH v) o E s) E z.s
def Sx:PX C a b z c (λZ=>bW) d:=λZ Z Z Z Z x=>b6 x
inductive Xo(C:Cx)(c:jX)(d:PM)(y:Z)(e:aa cC)(f:O->iq->Prop)(g:og)(all:aa ai)(G:aa ai->aW->aT->Prop)(n:O)(s:cR):Prop
|mk (a:O) (l:aW) (b:PM) (z:Z) (j:s=z.s) (k:Nx y z) (m:Ok C b d z) (o:g6 C z.I b c l) (p:∀h∈e,z.I h=A) (q:f a z.s.heap) (r:g z.σ=J all) (t:a<=U all) (v:n=U all-a) (x:G (cq a all) l z.σ)
abbrev vt:=aiY C Dq Aq
def alC(b:vt c x k e Ë a y)(Ç:q0 c t a x)(Æ:Dl c s a h)(j:∀v,EM y a v=pure v):ja c (.for t k e Ë s) a (.For x y h [] l):=by
 refineλm n Ý l Á Ä p q r E H I L c Ó k=>wpAny_For (b m n Ý l _ q _ E H I L c (λe all h p r Ê H c r À N Â Ã=>?_) (k.at L)) j
 unfold B' at r;rw [XX] at r;refine codeAny_forLoop_any (Xo C a n h p Ê e all _) (λj s k=>?_) (U all) ⟨0,l,m,h,Y,rv h,c,L.c7<|H V,Â,Ã,À,cQ _,Y,r⟩
 induction k with|mk j m l L Å r k Ô c g f È É q=>
 subst Å;subst É;have d:=H.bI r;cases H:all[j]? with
 |none=>have b:=hL È<|tK.mp H;refine(N J4) j l n L _ _ k (r V) c g f b λh3 Ì Í=>xY ?_;rw [b,TA] at q;exact(Ó V) m l _ (d.bI .h) (k.r8 Í) Ô q|some v=>
  have b:=ka.mp H;refine lh ((N J3) j v l n L _ _ _ k (r V) c g f H λk c g Î Õ f Ï Ð=>?_) (λÑ Ò y=>ah y λk y=>y.1▸y.2) λZ Z y=>y;rw [Na b.1,b.2] at q;have y:=(N J1) _ _ Ð;have o:Le c.I (c.I.oQ p c.s.heap):=KC f;have H:Nx L (zI c<|c.I.oQ p c.s.heap):=i5 ((g V).xJ o)<|g J1;refine Ç l n (zI c<|c.I.oQ p c.s.heap) m v k _ _ _ _ (gH ((Õ V).with y)<|(Õ J1).map<|oe o) (I.on<|(d.bI H) V) (Ô.c7<|H V) (Ï.ek o) (Î▸q:mN _ _ t m v c.σ _) (λÙ Ö L q Û Ú Ø=>?_) Sx;have Ü:∀o m c,Nx L c->bZ m n c->gn c.I m a o->(e c.σ=J all/\Gy (mN Dq (λZ=>bW) t) (QP (c1 Dq (λZ=>bW) s) Ä) e all Á _ o c.σ)->∃t,t<U all-j/\Xo C a n h p Ê e all _ t c.s:=λo m c s a e k=>by have l:=Qk f y ((q.bI s) V)<|a V;have z:Nx h (zI c<|c.I.l9 p):=i5 (((r.bI g) V).xJ<|l V)<|(r.bI H).bI (q.bI s) J1;exact⟨U all-_,ļ _ _ b.1,j+1,o,m,zI c<|c.I.l9 p,Y,z,l.ok a,e.map<|l J1,λË t=>QK t,(N V) _ _ _ Ð (l J2),k.1,b.1,Y,k.2⟩
  refine Æ Ö n L Ù _ _ _ _ _ _ Û (I.on<|(d.bI H).bI q V) Ú Ø (BG Ü Ü λv x o m c s a e n k=>?_) (λZ Z Z Z Z Z Z Z x=>b6 x);have l:=Qk f y ((q.bI s) V)<|a V;have z:Nx Ý (zI c<|c.I.l9 p):=i5 (((d.bI g) V).xJ<|l V)<|(d.bI H).bI (q.bI s) J1;exact(Ó J2) v x o m (zI c<|c.I.l9 p) z (l.ok a) (e.map<|l J1) (ur (l J1) v x n) k
noncomputable def PD:=["enumerate","zip","dict_itemiterator","dict_reverseitemiterator","odict_iterator","itertools.zip_longest","itertools.pairwise"]
def f9(h)(a)(nm)(b):=∃o,aH h a=J o/\o.cls=cJ nm/\hJ o=eV b
def UP{E:VP}{M}(g:f9 s.heap a n e)(c:b7 PD n=u)(h:b () s):a8 M Aq (yC d (w a) v) b E s:=by
 have ref:∀f,a8 M Aq (yC (gi [] default default) (w a)<|w f) b E s:=λf=>ah g λo g=>aB<|wpAny_load g.1<|W g.2.1<|W g.2.2 ((W c<|W (Pl ..)<|W (aS hu)<|bq h):a8 _ _ (if(b7 PD n&&_)=Q then _ else _) _ _ _);have j:a8 M Aq (yC (gi [] default default) (w a) v) b E s:=by
  induction v with
  |ref f=>exact ref f|_=>exact bq h
 cases d with
 |Tuple=>exact j|List=>exact j|_=>exact bq h
def Kt(b:Dz a h c):Kp (·=a) h c:=λc o n e=>b c o n e
def f9.kp{nm}(g:f9 h b nm j)(a:Wd I H c d h)(e:I b=A)(k:Kp (·=b) h f):Wd I H c d f:=a.kp k λl m=>ah g λo g=>m▸⟨e,a.nH.no a.sH.pB g.1 g.2.2,a.nF.no a.sF g.1 g.2.2,a.nP.no a.sP g.1 g.2.2⟩
def f9.qW{nm}(g:f9 s.heap a nm b):jl s (w a) nm:=ah g λo g=>⟨o,g.1,g.2.1⟩
def DR{nm}{g:O->hi a6}(l:b7 PD nm=u)(m:∀b (s:cR) (c E:VP),f9 s.heap a nm (g b)->c (w a) s->a8 (bM C.dK C.w) Aq (mH<|w a) c E s)
 (n:∀b v (e f:PM) z (c:bf a6->cR->Prop) (E:VP),Ok C e f z->Le j z.I->f9 z.s.heap a nm (g b)->k z.σ=J all->all[b]?=J v->(∀x d t,bD C.S z.I v x->f9 d a nm (g<|b+1)->uj a z.s.heap d->c (J x) {z.s with heap:=d,toks:=t})->a8 (bM C.dK C.w) Aq (rN<|w a) c E z.s)
 (o:∀e f (z:Z) c (E:VP),Ok C e f z->Le j z.I->f9 z.s.heap a nm (g<|U all)->k z.σ=J all->(∀d,Dz a z.s.heap d->c A {z.s with heap:=d})->a8 (bM C.dK C.w) Aq (rN<|w a) c E z.s):
 rm C Aq p j [a] a k all λb h=>f9 h a nm (g b):=
 Nb (λb h d x k=>ah x λq g=>⟨q,af (k a hf) g.1,g.2⟩) (λb h x r y=>W (ms y)<|ah x λq g=>⟨q,_,g.1,g.2.2⟩) m (λb v e f z c E H I k L x N s j=>n b v e f z _ _ I k x N s λy d t r g p=>⟨y,Y,UP g l<|j y _ .h Y (I.r8<|x.kp (I V) (L a hf)<|wA p) L r g⟩) λb e f z c E I k L x N h j=>o e f z c E I k (h▸x) N λd m=>j d z.s.toks<|x.kp (I V) (L a hf)<|Kt m
def EI(c:∀a,v≠aR a)(h:eQ b v=J a):dj b v (·=a):=by
 cases v with
 |tup d=>exact ay Y<|c d|lst d=>cases h;rfl|ref a=>show nh (b a) _;exact W ze<|tT h Y|_=>cases h
def aci(d:iy=A)(r:dk e v<|w l)(b:∀f,v≠aR f):rm C Aq j e [c] c (λg=>eQ g v) all λa h=>f9 h c "list_iterator" #[w l,ew a 0]:=
DR Y (λa s k E x h=>wpAny_pyIter_listiter x h)
 (λa m n o z k E p q x t y H=>by
  cases hU p (r.ek q) (EI b t) with|mk I L N m e g v c l=>
  cases e;subst l;exact ah (yz v y) λy h=>H? x (iX g) h.1 λf j s=>H y f z.s.toks h.2 j s)
 λn o z k E p q x t H=>by
  cases hU p (r.ek q) (EI b t) with|mk I L N m e g v c l=>
  cases e;subst l;exact WO d x (iX g) (W v.eP<|B2<|bb _) H
def ahH(c:iy=A)(r:dk d (aR all)<|w l):rm C Aq f d [b] b (λe=>eQ e<|aR all) all λa h=>f9 h b "tuple_iterator" #[w l,ew a 0]:=
DR Y (λa s g E x h=>wpAny_pyIter_tupleiter x h)
 (λa j k m z g E n o x p q t=>by
  cases(r.ek o:iZ _ _ _ _ _) with|mk b v y e H I L=>
  cases e;exact ah (yz I q) λN h=>wpAny_pyNext_tuple_item x (pM<|(n V).sI _ _ H) h.1 λd l f=>t N d z.s.toks h.2 l f)
 λk m z g E n o x p t=>by
  cases(r.ek o:iZ _ _ _ _ _) with|mk b v y e H I L=>
  cases e;exact wpAny_pyNext_tuple_end c x (pM<|(n V).sI _ _ H) (W I.eP<|B2<|bb _) t
def Br{nm}(h):aH h a=J {cls:=cJ nm,data:=eV b}->f9 h a nm b:=λg=>⟨_,g,Y,Y⟩
def aky(e:iy=A){a b}:rm C Aq f g [d] d (λZ=>J<|m6 a b) (m6 a b) λc h=>IsRangeIter h d (a+(c:au)) (cM (b-a)-(c:au)) 1:=
Nb (λc h j x k=>af (k d hf) x) (λc h x b m=>W (ms m)<|⟨_,_,x,Y⟩) (λc s l E x h=>wpAny_pyIter_rangeiter x h) (λc n o p z l E q r k t x v y H=>by
 have I:n=ag (a+(c:au))/\c<cM (b-a):=by
  have L:c<cM (b-a):=by
   have N:=gl y;unfold m6 at N
   rwa [bC,e9] at N
  unfold m6 at y;rw [cg,xd L] at y;exact ax (aC y)<|⟨Y,L⟩
 have g:=I;rw [g.1] at H;refine wpAny_pyNext_range_item x (Int.sub_pos_of_lt<|ak hl g.2) λj f m=>⟨_,Y,UP (Br _ f) Y<|H _ _ .h Y (r.r8<|(Br _ x).kp (r V) (t d hf)<|wA m) t (m5 _ _) ?_⟩;rw [show a+_=a+_+1 by simp only [Np,Int.add_assoc];rfl,show(cM (b-a):au)-_=_-_-1 by simp only [Np,D8];rfl];exact f) (λc o p z l E r k t x v s H=>by
 have h (a:au) (b:au):U (m6 a b)=cM (b-a):=by unfold m6;simp only [bC,e9]
 rw [h] at s;exact wpAny_pyNext_range_end e x (by rw [s];exact Pf<|ZZ _) λj q=>H j z.s.toks<|(Br _ x).kp (r V) (t d hf)<|Kt q)
noncomputable abbrev CE(d)(n ep a:O):=#[w d,ew a 0,ew n 0,ew ep 0]
def ag8{E:VP}{ep}{a:VP}(c:(d==YJ)=u)(g:aH s.heap d=J (hx b ep))(e:a (w s.heap.objs.size) {s with heap:=di s.heap {cls:=cJ "dict_keyiterator",data:=eV<|CE d b.size ep 0}}):a8 (bM f h) Aq (mH<|w d) a E s:=
 have j (k:(λl m=>∃v,l=YP (jF v)/\∃n r,jl m v n/\j_ (cJ n) (CB "__next__")=Tx (J r)/\a v m) (.done (jF<|w s.heap.objs.size)) {s with heap:=di s.heap {cls:=cJ "dict_keyiterator",data:=eV<|CE d b.size ep 0}}):a8 (bM f h) (Φ Aq) (Builtin.«dict.__iter__» ⟨[w d],[]⟩) (λl m=>∃v,l=YP (jF v)/\∃n r,jl m v n/\j_ (cJ n) (CB "__next__")=Tx (J r)/\a v m) E s:=by have o:jl s (w d) "dict":=⟨_,g,Y⟩;refine aB<|aB<|RQ o<|bq (a:=w d) (?_:a8 _ _ (Xg d>>=_) _ _ s);unfold Xg;exact W (aS<|by rw [c];exact hu)<|aB<|bq<|aB<|KO g Y<|aB<|C? g Y<|aB<|AW<|bq k
 have o:=⟨_,g,Y⟩
 PK o YW (qR YW o aeK (j ⟨_,Y,"dict_keyiterator",_,⟨_,iI _ Y,Y⟩,kV HZ,e⟩)<|aab _)
def i_{E:VP}{T}(c:ub d=A)(h:∀a x,(∀b o,aH s.heap b=J o->aH a b=J o)->jl {s with heap:=a} (w x) "StopIteration"->E (w x) {s with heap:=a}):
 a8 (bM f g) d (newExc (cJ "StopIteration") []>>=λe=>(raiseNew e:lP j)) T E s:=by
 refine aB<|aB<|AW (aB<|yd (a:=bQ) Y<|AW ?_ ?_) ?_
 .exact aB<|wpAny_handled<|W c<|aB<|bq<|wpAny_throw<|h _ _ (λb o e=>i4 _ (i4 _ e)) ⟨_,iI _ Y,Y⟩
 .size_fits
 .size_fits
def adC{E:VP}{ep}{T}{a}(f:ub h=A)(r:f9 s.heap d "dict_keyiterator"<|CE j b.size ep a)(g:aH s.heap j=J (hx b ep))
 (h1:∀e,b[a]?=J e->T (.done (jF e.key)) {s with heap:=rh s.heap d<|Ac (·.setIfInBounds 1 (pd<|(a:au)+1))})
 (k:b[a]?=A->∀c x,Dz d s.heap c->jl {s with heap:=c} (w x) "StopIteration"->E (w x) {s with heap:=c}):a8 (bM l m) h (Builtin.«dict_keyiterator.__next__» ⟨[w d],[]⟩) T E s:=by
 have n:=r.qW;refine ah r λo p=>aB<|bq<|aB<|aB<|aB<|OC n<|bq<|aB<|wpAny_fieldsOf p.1 p.2.2<|aB<|bq<|aB<|KO g Y ?_;rw [aS<|by rw [Hk];exact hu];refine aB<|bq<|aB<|C? g Y ?_;rw [aS<|by rw [Hk];exact hu];refine bq (?_:a8 _ _ (match(if(a:au)<0 then A else b[cM (a:au)]?) with|some e=>_|none=>_) T E s);rw [aS<|ak hB<|cp a,AG];cases e:b[a]? with
 |some q=>refine aB<|aB<|OC n<|bq<|aB<|ZU n<|aB<|um p.1 p.2.2 (bl Y)<|aB<|hR<|aB<|ZU ⟨_,mw _ p.1 (yQ<|pa p.2.2 _),af (Kw ..) p.2.1⟩ ?_;exact bq<|bq<|h1 q e|none=>exact aB<|aB<|OC n<|bq<|aB<|um p.1 p.2.2 (bl Y)<|i_ f λc x t v=>k e c x (λb o n g=>t b o<|af ((oc ..).2 b n) g) v
def Vo{E:VP}{ep}(g:iy=A)(r:f9 s.heap b "dict_keyiterator"<|CE h c.size ep d)(j:aH s.heap h=J (hx c ep))
 (h1:∀e,c[d]?=J e->f (J e.key) {s with heap:=rh s.heap b<|Ac (·.setIfInBounds 1 (pd<|(d:au)+1))})(k:c[d]?=A->∀a,Dz b s.heap a->f A {s with heap:=a}):a8 (bM l m) Aq (rN<|w b) f E s:=by
 refine aB<|Ln<|K9 r.qW HZ
  (qR HZ r.qW ahh (adC g r j (λe n=>⟨_,Y,bq<|h1 e n⟩) λe a x o p=>?_)<|alk _)
 exact aB<|Jz p XO<|bq<|k e a o
def er.key:∀{a} {l},er b I a l->∀{e} {j:O},l[j]?=J e->(R (·.1) a)[j]?=J v->bD b I v e.key:=λq e j h k=>q.at h λp c r=>by rw [cg,c] at k;exact ax (aC k)<|r J1
inductive alF(C:Cx)(z:Z)(d:cC)(n:O)(all:aa ai):Prop
|mk (a:aa<|ai×ai) (b:hi gy) (e:all=R (·.1) a) (g:aH z.s.heap d=J (hx b n)) (q:er C.S z.I a<|cP b)
def Q4(a:PM)(b)(v)(d)(n):=(∀c,v=gZ c->∃e,a d=J (hx e n))/\((∀c,v≠gZ c)->w6 b v=n)
def r!(b:bZ g h z)(k:Le c z.I)(r:dk c v<|w d)(e:Q4 c f v d n)(a:qV f v z.σ=J all):alF C z d n all:=by
 unfold qV at a
 by_cases j:w6 z.σ v=w6 f v
 .rw [aJ j] at a;refine ah (fA a) λl m=>?_;cases v with
  |oT o=>
   have p:=m.1;cases p;refine ah (e.1 _ Y) λq g=>?_;cases(r.ek k:kh _ _ _ _ _) with|mk s t x c p y H=>
   cases p;cases af (k _ _ g).symm y;exact⟨_,_,a4 m.2,(b V).sI _ _ y,H⟩
  |ref s=>
   cases(show w d=w s from r);refine ah (fA m.1) λI L=>?_;have N:=RM L.1;cases((b J1) d _ N:kh _ _ _ _ _) with|mk h q x c p g H f l v t=>
   cases p;have k:I.2=n:=by simp only [<-e.2 (λo z=>by cases z),<-j];show _=dN (b4 (·.2)<|l5 _) 0;exact W L.1 Y
   exact⟨I.1,q,W L.2 m.2.symm,(b V).sH _ _ (af t k▸g),H⟩
  |_=>exact ay m.1 (λz=>by cases z)
 .rw [aS j] at a;cases a
def abD(b:iy=A)(r:dk c v<|w d)(e:Q4 c g v d n):rm C Aq j c [f] f (qV g v) all λa h=>f9 h f "dict_keyiterator" (CE d (U all) n a):=
DR Y (λa s k E x h=>PK x.qW Yi<|qR Yi x.qW ah2 (by
 exact bq ⟨_,Y,"dict_keyiterator",_,x.qW,kV HZ,h⟩)<|Λ _)
 (λa l m o z k E p q x t y H=>by
  cases r! p q r e t with|mk I L N g c=>
  have v:U all=d8 L:=by simp only [N,bC,c.Jx,uc]
  rw [v] at x H;refine Vo b x g (λd f=>?_) λn=>?_
  .exact ah x λj s=>H _ _ z.s.toks (c.key (af tb f)<|N▸y) ⟨_,mw _ s.1 (yQ<|pa s.2.2 _),af (Kw ..) s.2.1,pa s.2.2 _⟩ (oc ..)
  .rw [M! <|v▸(gl y)] at n;cases n)
 λm o z k E p q x t H=>by
  cases r! p q r e t with|mk I L N g c=>
  have v:U all=d8 L:=by simp only [N,bC,c.Jx,uc]
  exact Vo b (v▸x) g (λd f=>by rw [B2<|bb _] at f;cases f) λZ=>H
noncomputable abbrev qw(l)(n a:O):=#[w l,pd<|(n:au)-1-(a:au)]
def JK{n:O}(h:a<n):(n:au)-1-(a:au)=((n-1-a:O):au):=by simp only [Hg<|Nat.le_sub_one_of_lt h,Hg<|cF (cQ _) h];rfl
def Z7(n:O):(n:au)-1-(n:au)= -1:=W (D8 ..)<|W (DH ..)<|ax (D8 ..)<|W (ZZ ..) (GN ..)
def S6(n a:O):(n:au)-1-(a:au)-1=(n:au)-1-((a+1:O):au):=(D8 _ _ ..)
def X6(q:bS c I a l)(h:a.reverse[b]?=J d):b<U a/\∃y,l[U a-1-b]?=J y/\bD c I d y:=by have e:=gl h;rw [uw] at e;exact br e<|q.get _ (List.getElem?_reverse e▸h)
def ack(d:iy=A)(r:dk e v<|w l)(f:∀b,v≠aR b):rm C Aq j e [c] c (λg=>b4 f3<|eQ g v) all λa h=>f9 h c "list_reverseiterator" (qw l (U all) a):=
DR Y (λa s k E x h=>E' x h)
 (λa m n o z k E p q x t y H=>ah (fA t) λb I=>by
  cases hU p (r.ek q) (EI f I.1) with|mk L b N m e g v c j=>
  cases e;subst j;rw [<-I.2] at y x H;have s:=X6 v y;rw [uw] at x H;refine ah s.2 λy h=>?_;rw [show qw l (U L) a=#[w l,pd _] by unfold qw;exact W (JK s.1) Y] at x;exact wpAny_pyNext_rev_item x (iX g) (af tb.symm h.1) λr f b=>H y r z.s.toks h.2 (by rw [<-JK s.1,S6] at f;exact f) b)
 λn o z k E p q x t H=>by rw [show qw l (U all) (U all)=#[w l,pd<| -1] by unfold qw;exact W (Z7 ..) Y] at x;exact wpAny_pyNext_rev_end d x H
def aaK:Slot "reversed" "__init__" "object.__init__":=
.of (owner:="object") (n:="__init__") (by refine W (Gh ..)<|W Iv ?_;kernel_rfl) (by decide+kernel) (by decide+kernel) (by decide+kernel)
 (by first|exact aL (by decide+kernel)|exact .inr _) (by refine W (H7 ..) ?_;kernel_rfl)
def L2:TypeCalled "reversed" "reversed.__new__" "object.__init__":=
⟨by decide+kernel,by decide+kernel,⟨_,_,ame⟩,ak0,acK,ac7,aaK⟩
def Ze:b1 (qa<|f3 ['d','e','s','r','e','v','e','r']) adL=J aec:=by kernel_rfl
def SR:Slot "reversed" "__next__" "reversed.__next__":=
.of (owner:="reversed") (n:="__next__") (by refine W (Gh ..)<|W Iv ?_;kernel_rfl) (by decide+kernel) (by decide+kernel) (by decide+kernel)
 (by first|exact aL (by decide+kernel)|exact .inr _) (by refine W (H7 ..) ?_;kernel_rfl)
def ait:JS Hi "reversed.__next__"=J Builtin.«reversed.__next__»:=XJ (by kernel_rfl)
def z':Slot "reversed" "__iter__" "reversed.__iter__":=
.of (owner:="reversed") (n:="__iter__") (by refine W (Gh ..)<|W Iv ?_;kernel_rfl) (by decide+kernel) (by decide+kernel) (by decide+kernel)
 (by first|exact aL (by decide+kernel)|exact .inr _) (by refine W (H7 ..) ?_;kernel_rfl)
def aer:JS Hi "reversed.__iter__"=J Builtin.«dict_keyiterator.__iter__»:=
entryFor_alias (id':="dict_keyiterator.__iter__") (by kernel_rfl) (by first|rfl|decide+kernel|(simp+decide [String.splitOnAux])) (by decide+kernel) (by kernel_rfl)
def aaa:isSubtype (nu) (uW)=pure false:=by refine W (H7 ..) ?_;kernel_rfl
def alO:typeLookup (nu) "__reversed__"=pure none:=by refine W (Gh ..)<|W Iv ?_;kernel_rfl
noncomputable abbrev f'(l:cC)(n:O):fO:={cls:=cJ "reversed",data:=eV #[w l,pd<|(n:au)-1]}
def agf{E:VP}(b:aH s.heap l=J (lO "tuple" c n))(d:(d8 c:au)<2^63){a:VP}(h:∀tk,a (w s.heap.objs.size) {s with heap:=di s.heap<|f' l c.size,toks:=tk}):a8 (bM e f) g (call (cJ "reversed") [w l]) a E s:=by
 have j:jl s (w l) "tuple":=⟨_,b,Y⟩;refine callType_meetsIn (Q₁:=λk m=>jl m k "reversed"/\a k m) (S:=λZ o p=>p=s/\∀tk,o (.ok<|jF<|w s.heap.objs.size) {s with heap:=di s.heap _,toks:=tk})
  L2 (ama _) (agC _) abY aj4 ?_ ⟨Y,λtk=>⟨⟨_,iI _ Y,Y⟩,h tk⟩⟩ λk m q=>⟨q.1,adF _ _,_,object_init_meets (kV L2.init) L2.made Y,q.1,Y,q.2⟩
 intro r o p q;refine W q.1<|alp (S:=λZ o p=>p=s/\∀tk,o _ {s with heap:=di s.heap _,toks:=tk}) (λr o p q=>W q.1<|aB<|yd (newClass_reversed _)<|aB<|yd Y<|aB<|yd Y<|aB<|H2 j alO<|aB<|aB<|Jz j aaa<|W (aS hu)<|aB<|H2 j (kV Fg)<|bq<|W (aS<|ao Y)<|aB<|afB b (ak x8 d)<|aB<|yd (a:=J _) Y<|aB ?_) r o s ⟨Y,q.2⟩;unfold aga;exact AW<|bq ⟨_,Y,q.2 _⟩
def amb{E:VP}{T}(b:aH s.heap l=J (lO "tuple" c n))(f:(d8 c:au)<2^63){a:O}(d:c[a]?=J x)(r:f9 s.heap e "reversed" #[w l,pd (a:au)])
 (h:∀tk,T (.done (jF x)) {s with heap:=rh s.heap e<|Ac (·.setIfInBounds 1 (pd<|(a:au)-1)),toks:=tk}):a8 (bM g j) k (Builtin.«reversed.__next__» ⟨[w e],[]⟩) T E s:=by
 have m:jl s (w l) "tuple":=⟨_,b,Y⟩;have o:=(xr.mp d).1;refine ah r λp g=>aB<|yd Y<|aB<|ob g.1 g.2.2 (x:=w l) Y<|aB<|ob g.1 g.2.2 Y ((W (aS<|ak hB<|cp a)<|aB<|H2 m (kV Fg)<|W (aS lQ) ?_):a8 _ _ (if(a:au)<0 then _ else _) _ _ s);exact aB<|Nw<|aB<|Ln<|Β b (nQ (ao Y)<|cp a) (yG (ak hl o) f) (Yl<|T6 o) d<|aB<|ob g.1 g.2.2 Y<|aB<|um g.1 g.2.2 (bl Y)<|bq<|h _
def aao{E:VP}{T}(c:ub d=A)(r:f9 s.heap b "reversed" #[w l,pd<| -1])
 (e:∀a x,Dz b s.heap a->jl {s with heap:=a} (w x) "StopIteration"->E (w x) {s with heap:=a}):a8 (bM f g) d (Builtin.«reversed.__next__» ⟨[w b],[]⟩) T E s:=by
 refine ah r λo g=>aB<|yd Y<|aB<|ob g.1 g.2.2 (x:=w l) Y<|aB<|ob g.1 g.2.2 Y ((W (aJ<|ao Y)<|aB<|CY<|aB<|aB<|um g.1 g.2.2 (bl Y)<|um (mw _ g.1 (yQ<|pa g.2.2 _)) (pa g.2.2 _) (bl Y) ?_):a8 _ _ (if(-1:au)<0 then _ else _) _ _ s);exact aB<|i_ c λa x k h=>e a x (λb o n q=>k b o<|af ((oc ..).2 b n)<|af ((oc ..).2 b n) q) h
def O?{E:VP}(r:f9 s.heap c "reversed" j)
 (h:∀{T} {d:VP},(∀x b,e (J x) b->T (.done (jF x)) b)->(∀a x,jl {s with heap:=a} (w x) "StopIteration"->e A {s with heap:=a}->d (w x) {s with heap:=a})->a8 (bM f g) Aq.in1 (Builtin.«reversed.__next__» ⟨[w c],[]⟩) T d s):a8 (bM f g) Aq (rN<|w c) e E s:=by
 refine aB<|Ln<|K9 r.qW SR<|qR SR r.qW ait (h (λx b q=>⟨_,Y,bq q⟩) λa x k q=>?_)<|by unfold Kr;refine W (U8 (n:=['_','_','t','x','e','n','_','_']) (by kernel_rfl) Ze) ?_;kernel_rfl
 exact aB<|Jz k XO<|bq q
def Wz{E:VP}{a:VP}(x:f9 s.heap b "reversed" c)(h:a (w b) s):a8 (bM d e) Aq (mH<|w b) a E s:=
PK x.qW z' (qR z' x.qW aer (by exact bq ⟨_,Y,"reversed",_,x.qW,kV SR,h⟩)<|by unfold Kr;refine W (U8 (n:=['_','_','r','e','t','i','_','_']) (by kernel_rfl) Ze) ?_;kernel_rfl)
def ac0{a:O}(h:(qi c)[a]?=J v){G:Prop}(g:∀b,c[a]?=J b->v=aR [ag a,b]->G):G:=by
 unfold qi at h;rw [cg,JC] at h;cases e:c[a]? with
 |none=>exact aI<|e▸h|some b=>rw [e] at h;obtain rfl:=aC h;exact g b e<|W (eJ ..) Y
def QW{K}(h:EV a v=J b)(k:K b):dj a v K:=by
 cases v with
 |lst c=>cases h;exact k|ref d=>show nh (a d) _;exact W ze<|tT h k|_=>cases h
def f9.nn{nm}(g:f9 h b nm e)(a:Wd I H c d h):H b=A/\c b=A/\d b=none:=ah g λo g=>⟨a.nH.no a.sH.pB g.1 g.2.2,a.nF.no a.sF g.1 g.2.2,a.nP.no a.sP g.1 g.2.2⟩
def f9.lt{nm}(g:f9 h a nm b):a≠d8 h.objs:=ah g λo g=>fH<|ic g.1
def ajl(e a l)(b:O)(h):=(∃c,IsEnum h e a (b:au) c)/\h.IsListIter a l b
def adt(Á:iy=A)(Ã:e≠a)(È:dk d v<|w l):rm C Aq (gi g h j) d [e,a] e (λf=>b4 qi<|EV f v) all (ajl e a l):=by
 have k:e∈[e,a]:=b8;have m:a∈[e,a]:=cz _ b8;refine Nb (λn h o x p=>⟨x.1.imp λq g=>af (p e k) g,x.2.imp λs g=>br (af (p a m) g.1) g.2⟩) (λn h x t y=>?_) (λn z H E x h=>ah x.1 λq g=>X0 g h) (λn I L N z H E d v p l x f j h=>?_) λn L N z H E v p l x f Æ h=>?_
 .exact aO (mc y) (λd=>W d<|ah x.1 λq g=>⟨_,_,g,Y⟩) λd=>W (ms d)<|ah x.2 λs g=>⟨s,_,g.1,g.2.2⟩
 .refine ah (fA f) λH L=>?_;cases hU v (È.ek p) (QW (K:=(·=H)) L.1 Y) with|mk N t À y c g d Â b=>
  cases c;subst b;rw [<-L.2] at j;refine ac0 j λj j Ä=>?_;rw [Ä] at h;refine ah (yz d j) λÏ Å=>ah x.1 λq I=>?_;have Ç:=Br _ I;have r:f9 z.s.heap a "list_iterator" _:=x.2;refine wpAny_pyNext_enum_item I x.2 (iX g) Å.1 Ã λo É Ê Ë Ì Í=>?_;have Î:=(v V).qY<|mP z.s.heap;have j:Le z.I (z.I.dG z.s.heap.objs.size<|lO "tuple" #[ew n z.s.toks,Ï] 0):=xH Î.1 _;have nn:∀t∈[e,a],(z.I.dG z.s.heap.objs.size<|lO "tuple" #[ew n z.s.toks,Ï] 0) t=none:=λt n=>af (lN<|aO (mc n) (λd=>d▸Ç.lt) λd=>(ms d)▸r.lt)<|l t n;refine⟨_,Y,wpAny_letOwnedTupleGo_enum É λh2 Ð n=>?_⟩;exact h _ ⟨_,z.H,z.σ,{z.s with heap:=h2,toks:=gu z.s+1}⟩ (i5 j Y) Y (gH ((Br _ É).kp (((v V).kp (n:=λt=>t=e\/t=a) (λt s Ñ d=>Í t s (λz=>Ñ<|aL z) (λz=>Ñ<|aw z) d) λt d=>aO d (λd=>d▸⟨l e k,Ç.nn<|v V⟩) λd=>d▸⟨l a m,r.nn<|v V⟩).toI Ë Î.2) (nn e k)<|wA n)<|(v J1).map<|oe j) nn ⟨_,_,0,Y,iK ..,⟨_,_,Y,m5 _ _,_,_,Y,Å.2.ek j,Y⟩,(by decide:2<=cu)⟩ ⟨⟨_,Ð⟩,Ê.imp λs g=>br (af (n.2 _ (l2 Ã)) g.1) g.2⟩
 .refine ah (fA f) λH L=>?_;cases hU v (È.ek p) (QW (K:=(·=H)) L.1 Y) with|mk N t À y c g d Â b=>
  cases c;subst b;have e:U (qi N)=U N:=by unfold qi;simp only [bC,MY]
  rw [<-L.2,e] at Æ;have r:f9 z.s.heap a "list_iterator" _:=x.2;exact ah x.1 λq I=>wpAny_pyNext_enum_end Á I x.2 (iX g) (W Æ<|W d.eP<|B2<|bb _) λo k=>h o z.s.toks<|r.kp (v V) (l a m)<|Kt k
def yJ(a:Wd I H c d h):∀b∈[d8 h.objs],I b=none:=λb m=>W (ms m)<|a.sI.pB.no<|mP h
def uA(C)(a)(b)(e f:PM)(z:Z)(c:og->aa ai->Prop)(d:VP):=∀g all h t j k l,js z.s.heap h->c g all->g z.σ=J all->rm C a b z.I j k g all l->(∀b∈j,z.I b=A)->l 0 h->d (w k) {z.s with heap:=h,toks:=t}
def Rx.r{K}(p:Rx C Aq c a b z K d)(k:Nx z y)(e:bZ a b y):uA C Aq c a b y (K y.σ) d:=λf all g t h j l g m n o q s=>p f all _ h j l (k.bI .h) (e.lK g) m n o q s
def Mi{nm}:f9 (di h {cls:=cJ nm,data:=eV a}) h.objs.size nm a:=Br _ (iI _ Y)
def ahG{E:VP}{K}(c:iy=A)(a:bZ h j z)(r:dk z.I v d)(b:eQ z.σ v=J k)(e:K (λl=>eQ l v) k)(f:uA C Aq m h j z K g):dx (mH d) g E z.s:=by
 have n:_->dx (mH d) g E z.s:=λo=>by
  cases hU a r (EI o b) with|mk p q s m t g x y H=>
  subst t;exact Ĳ (iX g)<|f _ _ _ z.s.toks _ _ _ (jm _ _) e b (aci c r o) (yJ<|a V) Mi
 cases v with
 |tup p=>
  cases b;cases(id r:iZ _ _ _ _ _) with|mk q s m t g x y=>
  subst t;exact wpAny_pyIter_tuple (pM<|(a V).sI _ _ g)<|f _ _ _ z.s.toks _ _ _ (jm _ _) e Y (ahH c r) (yJ<|a V) Mi
 |_=>exact n λp t=>by cases t
def alY{E:VP}{K}{b}(e:iy=A)(c:bZ f g z)(r:dk z.I v b)(h:tM z.σ v λa=>K (qV z.σ v)<|R (·.1) a)(j:uA C Aq k f g z K d):dx (mH b) d E z.s:=by
 have go:∀{l} {N} {a},cO l z.s.heap->kh l (er C.S z.I a) a N b->pP z.σ v=J a->K (qV z.σ v) (R (·.1) a)->(∀m n o,b=w m->l m=J _->N o->Q4 z.I z.σ v m o)->dx (mH b) d E z.s:=λp q s t x=>by
  induction q with|mk m n o y H g q I l L f=>
  have k:=x m n o H g f;subst H;have d:=af (bC (f:=λx=>x.1))<|af q.Jx uc;exact ag8 (Io L) (p _ _ g)<|j _ _ _ z.s.toks _ _ _ (jm _ _) t (by unfold qV;refine W (aJ Y)<|W s ?_;rfl) (abD e r k) (yJ<|c V) (W d Mi)
 cases v with
 |oT a=>exact go (c V).sI r Y h λm n o H g Z=>⟨λN Z=>cL n g,λq=>absurd rfl<|q a⟩|ref a=>obtain rfl:=(r:b=w a);have h:yu _ _:=h;rw [JY] at h;exact ah (et (h:bE _ _)) λp y=>(go (c V).sH ((c J1) a _ (RM y.1)) (show b4 (·.1) (l5 _)=_ by exact aq _ y.1) y.2 λm n o H g f=>⟨λN z=>(nomatch z),λZ=>by show dN (b4 (·.2)<|l5 _) 0=o;exact W y.1 f.symm⟩)|_=>exact b6 h
def b'{E:VP}{K}(b:iy=A)(c:bZ d e z)(g:IsRange z.s.heap l a j 1 t o p)(f:tJ a)(h:tJ j)(k:K (λZ=>J<|m6 a j)<|m6 a j)(m:uA C Aq q d e z K n):dx (mH<|w l) n E z.s:=
wpAny_pyIter_range g ((by
 unfold tJ at f h;exact small_one (by lia) (by lia) (by lia)<|by lia)) (m _ _ _ z.s.toks _ _ _ (jm _ _) k Y (aky b) (yJ<|c V) (by
 refine(?_:aH _ _=_);have r (a:au) (b:au):aiM a b 1=(cM (b-a):au):=by
  refine W (rangeSize_one ..) ?_
  by_cases h:a<b
  .exact W (aJ h) (y8<|LK<|nU h).symm
  .exact W (aS h)<|W (Wo<|Int.sub_nonpos_of_le<|hB.mp h) Y
 exact W (iI _ Y)<|W (r ..)<|W O0<|W (Int.add_zero ..)<|W (zB ..) Y))
def uA.grow(p:uA C Aq a b c z d e)(g:js z.s.heap f):uA C Aq a b c (zh z f t) d e:=λh all h2 t j k l m n o q r s=>p h all h2 t j k l (λb v e=>m b v<|g b v e) n o q r s
def afs(c:iy=A)(g:nG a f<|cJ "range")(b:gb x=Q)(d:cd e h a<|bB x a):vt e j j8 h (kr bk) a (d2 (cB f p) [x] [] k):=by
 refineλl m z n o q r E s t v y H I=>aB<|g (s.i0 t) ?_
 have L:=ak dn ⟨b,Y⟩;exact Jd (qS L)<|rP L<|W (Ga b)<|spliced_cons<|d l m z n _ q _ E s t v y (λv y N a x r1 f=>spliced_nil<|hs (tg r1 f) λe t e k=>W e<|call_range_1<|b' (z:=zh N _ _) c (x.lK<|jm _ _) (U3 ..) ⟨ao Y,ao Y⟩ k.1 k.2<|(H.r a x).grow<|jm _ _) I
def agk(e:iy=A)(g:nG a f<|cJ "range")(b:gb x=Q)(c:gb y=Q)(h:cd d j a<|bB x a)(k:cd d l a<|bB y a):vt d m jM j l a (d2 (cB f p) [x,y] [] n):=by
 refineλo q z l r s t E v H I L N a=>aB<|g (v.i0 H) ?_
 have x:=ak dn ⟨b,ak dn ⟨c,Y⟩⟩;refine Jd (qS x)<|rP x<|W (zT b c)<|spliced_cons<|h o q z l _ s _ E v H I L (λv y d f j r1 m=>spliced_cons<|k o q d l _ s _ E j (H.on<|f V) (I.c7<|f V) m (λp n r t g r2 b=>spliced_nil ?_) (a.on f)) a;cases oz (r1.ek<|t V) r2 b with|mk c j h L x v k=>
 simp only [x,v];exact call_range_2<|b' (z:=zh r _ _) e (g.lK<|jm _ _) (U3 ..) k.1.1 k.1.2 k.2<|(N.r (f.bI t) g).grow<|jm _ _
def aji{E:VP}{K}(g:iy=A)(a:bZ c d z)(r:dk z.I v h)(e:eQ z.σ v=J b)(j:K (λn=>b4 f3<|eQ n v)<|f3 b)(k:uA C Aq l c d z K m):dx (call (cJ "reversed") [h]) (λv f=>dx (mH v) m E f) E z.s:=by
 have o:_->dx (call (cJ "reversed") [h]) (λv f=>dx (mH v) m E f) E z.s:=λp=>by
  cases hU a r (EI p e) with|mk q s t m x y H I L=>
  subst x;subst L;refine call_reversed_list (iX y)<|E' ⟨_,iI _ Y,Y,by refine W H.eP ?_;rfl⟩ ?_;exact k _ _ _ z.s.toks _ _ _ (jm _ _) j (aq _ e) (ack g r p) (yJ<|a V) ⟨_,iI _ Y,Y,by refine W uw<|W H.eP ?_;unfold qw;refine W O0<|W (zB ..) ?_;rfl⟩
 cases v with
 |tup q=>
  cases e;cases(id r:iZ _ _ _ _ _) with|mk s t m x y H I=>
  subst x;have N:∀{h},f9 (di h<|f' s t.size) h.objs.size "reversed" (qw s (U b) 0):=⟨_,iI _ Y,Y,by refine W H.eP ?_;unfold qw;exact W O0<|W (zB ..) Y⟩;exact agf ((a V).sI _ _ y) (H.AE I) λtk=>Wz N<|k _ _ _ tk _ _ _ (jm _ _) j Y ((DR Y (λt n f E v h=>Wz v h)
  (λt e c d z f E a k v p L j=>by
   cases(r.ek k:iZ _ _ _ _ _) with|mk n h m x y H I=>
   cases x;have e:=X6 H L;refine ah e.2 λr n=>?_;have m:=v;rw [show qw s (U b) t=#[w s,pd _] by unfold qw;exact W (JK e.1) Y] at m;refine O? v λh1 Z=>amb ((a V).sI _ _ y) (H.AE I) (af tb.symm n.1) m λtk=>h1 _ _ (j r _ tk n.2 ?_ (oc ..));refine ah v λh L=>⟨_,mw _ L.1 (yQ<|pa L.2.2 _),af (Kw ..) L.2.1,af (pa L.2.2 _) ?_⟩;refine ax (JK e.1)<|W (S6 ..) ?_;rfl)
  λc d z f E a k v p j=>by have m:=v;rw [uw,show qw s (U b) (U b)=#[w s,pd<| -1] by unfold qw;exact W (Z7 ..) Y] at m;exact O? v λZ t=>aao g m λy v H l=>t y v l<|j y H)) (yJ<|a V) N
 |_=>exact o λq x=>by cases x
def Z0{T}(h:nG c j<|cJ T)(f:gb x=Q)(k:cd l m c<|bB x c)(go:∀{a b z v g} {d} {e E},bZ a b z->dk z.I v g->Il n v bk z.σ d->uA C Aq o a b z d e->dx (call (cJ T) [g]) (λv p=>dx (mH v) e E p) E z.s):
 vt l o n m (kr bk) c (d2 (cB j q) [x] [] r):=by
 refineλa b z l d s e E t y H I L N=>aB<|h (t.i0 y) ?_
 have c:=ak dn ⟨f,Y⟩;exact Jd (qS c)<|rP c<|W (Ga f)<|spliced_cons<|k a b z l _ s _ E t y H I (λv y x g j r1 m=>spliced_nil<|go j r1 m<|L.r g j) N
def adV(c:iy=A)(g:nG a f<|cJ "enumerate")(d:gb x=Q)(e:cd h b a<|bB x a):vt h (gi j k l) pG b (kr bk) a (d2 (cB f p) [x] [] m):=
Z0 g d e λ{n o z v q K r E} s r h t=>by
 have y:∃H,EV z.σ v=J H/\K (λI=>b4 qi<|EV I v) (qi H):=by
  cases v with
  |lst H=>exact⟨H,Y,h⟩|ref b=>have h:nh _ _:=h;rw [ze] at h;exact et (h:bE _ _)|_=>exact b6 h
 refine ah y λH y=>?_;cases hU s r (QW y.1 Y) with|mk L b N m e g q a x=>
 subst e;refine call_enumerate_list (iX g) λf d j k l=>X0 d<|t _ _ f z.s.toks [d8 z.s.heap.objs+1,d8 z.s.heap.objs] _ _ l y.2 (aq _ y.1) (adt c (Au _) r) (λb p=>aO (mc p) (λq=>W q ?_) λq=>yJ (s V) b q) ⟨⟨_,d⟩,j⟩;cases q:z.I _ with
 |none=>rfl|some o=>exact ay (ic<|(s V).sI _ _ q)<|ak fU<|e7 _
def iM(a:PM)(L)(b:PM):=∀c,c≠L->b c=a c
def Hd:iM a L a:=λZ Z=>rfl
def iM.put(x:iM a L b):iM a L (b.dG L o):=λb n=>af (lN n)<|x b n
def iM.Lp(x:iM a L b)(y:iM b L c):iM a L c:=λb n=>af (y b n)<|x b n
def iM.of(x:iM a L c)(n:a L=A)(e:a b=J o):c b=J o:=af (x b<|R_ e n) e
def iM.sub(x:iM b L c)(n:b L=A)(a:Wd I H c d h):Wd I H b d h:=
 have e:∀{f o},b f=J o->c f=J o:=λg=>x.of n g
 {a with sF:=λf o g=>a.sF f o<|e g,IF:=Dj.hq λj o g=>a.IF.hq j o<|e g,HF:=Dj.hq λj o g=>a.HF.hq j o<|e g,FP:=λj o g=>a.FP j o<|e g,nF:=λf o g=>a.nF f o<|e g}
def iM.drop(x:iM b L c)(n:b L=A)(g:c L=J o)(a:Wd I H c d h)(e:uj L h f):Wd I H b d f:=
(x.sub n a).kp (wA e) λj e=>e▸⟨a.IF.no g,a.HF.no g,n,a.FP _ _ g⟩
def ĵ{E:VP}{Ru}(g:eT)(h:hr a)(f:c5 a (bu n)=dW)(d:bZ e j z)(k:gn z.I e a l)(r:dk z.I v y)(m:∀b c t,bZ (e.dG (jz a) b) j (zh z c t)->gn z.I (e.dG (jz a) b) a (ey l n v)->Ru () {z.s with heap:=c,toks:=t}):
dx (Si a (bu n) y) Ru E z.s:=
ah k λo q=>Y' f ((q V).ns (d V).sF) (λc p s=>ah p λb p=>ah p λx p=>ah p λH I=>by
 cases(q V) with|mk L N ep a z e n=>
 exact m b c _ (gH ((d V).Ib a s I.1<|by unfold nf;exact W I.2.1 Y)<|d J1) (ķ g q f I.2.1 I.2.2.1 I.2.2.2 r)) (by refine W (h V) ?_;rfl)
def a_(C)(a)(b c)(z)(d:LT)(e:j4->cR->Prop):=∀l G y,Nx z y->Ok C G c y->g6 C y.I G a l->iM b (jz a) G->d l y.σ->e () y.s
def ŷ(C)(b)(c)(t)(a)(x):=
∀d e (z:Z) l (v:ai) y (f:LT) g (h:j4->cR->Prop) (E:VP),Ok C d e z->g6 C z.I d a l->bD C.S z.I v y->mN b g t l v z.σ f->a_ C a d e z f h->a8 (bM C.dK C.w) c (assign x a y) h E z.s
section
variable{e:jX}{c:PM}{h:PM}{G:PM}{b:Z}{E:VP}{m:Zq.E}{j:cX}{g:cX}{f:LT}{n:aT->Prop}{d:aW}{o:iq}{k:rA}{Ru:j4->cR->Prop}{p:ai}{l:bj->bf a6}
def abv(t:eT)(v:hr e):∀{q} {a} {r} {d} {c} {b} {f:LT},(∀s∈q,c5 e (bu s.1)=dW)->bZ c h b->gn b.I c e d->kK b.I a r->yk Dq n (q7 q) d a b.σ f->a_ C e c h b f Ru->dx (Lo (R (·.2)<|DU (je C q) e) r) Ru E b.s:=by
 intro q
 induction q with
 |nil=>intro a r d c b f _ x y z H I;induction a with
  |nil=>exact bq<|I d c b (rv b) x y Hd H|cons _ _=>exact b6 H
 |cons s q L=>
  intro a r d c b f N x y z H I
  induction a with
  |nil=>exact b6 H|cons p a=>
   induction z with|mk g q r r1 r2=>
   exact W r<|aB<|hR<|BB<|ĵ t v (N s b8) x y r1 λa o m z q=>L (λs l=>N s<|cz _ l) z q r2 H λt G g k v x j y=>I t G g (Nx.bI .h k) v x (Hd.put.Lp j) y
end
abbrev zl:=ŷ C Dq Aq
def afZ(c:eT)(d:hr a)(e:iy=A)(f:∀q∈b,c5 a (bu q.1)=dW):zl (oP<|q7 b) a (gi (je C b) g h):=by
 refineλj k z l v y m n o E p r s t x=>ah (et t) λH I=>?_
 rw [JF I.1] at s
 induction s with|mk L N n g h q j=>
 refine W g ?_;have k:=Tn (b:=a) (a:=b);exact Xd e (pM<|(p V).sI _ _ h) (af k.1<|af (Rp I.2).symm q.eP) k.2 λz l=>abv c d f (p.lK λb o I=>l b o (fH<|ic I) I) r q I.2 λv G y k=>x v G y<|Nx.bI .h k
section
def oA:VP:=λZ Z=>bW
theorem Ο(d:O->cR->Prop)
 (q:∀n s,d n s->a8 (bM a b) Aq (rN h) (λr c=>match r with
  |none=>t (.ok qn) c|some v=>a8 (bM a b) Aq (yC j h v) (λZ c=>a8 (bM a b) Aq (assign j f v) (λZ k=>
   a8 (bM a b) Aq (forIn y Q λl r=>if r=Q then do let e<-Fj l f (bB l f);pure (uQ e) else pure<|uQ r) (λe g=>
    if e=Q then a8 (bM a b) Aq (bB z f) (λx o=>a8 (bM a b) Aq (call (ei "list.append") [H,x]) (λZ p=>∃m,m<n/\d m p) oA o) oA g
    else∃m,m<n/\d m g) oA k) oA c) oA c) oA s)
 (n)(I:d n s):uo (bM a b) Aq (.compLoop (tZ z [⟨j,iter,y,0⟩] L N) 0 h H f) t s:=by
 refine codeAny_loop Y d (λn s a=>?_) n I;show a8 _ Aq _ _ _ s;refine wpAny_noted<|W (compTurn_list ..)<|aB<|rT<|aB<|lh (q n s a) (λr c b=>?_) λZ Z d=>b6 d
 induction r with
 |none=>exact bq b|some v=>
  refine aB<|lh b (λZ c b=>aB<|lh b (λZ k m=>aB<|lh m (λe g f=>?_) λZ Z d=>b6 d) λZ Z d=>b6 d) λZ Z d=>b6 d
  induction e with
  |false=>exact bq ⟨Y,f⟩|true=>exact aB<|aB<|lh f (λx o h=>aB<|lh h (λZ p j=>bq<|bq ⟨Y,j⟩) λZ Z d=>b6 d) λZ Z d=>b6 d
def Ű{E:VP}{b:VP}(g:aH s.heap a=J (lU c n))(e:d8 c<=tY)
 (d:b bQ {s with heap:=rh s.heap a<|GB (·.push x)}):a8 (bM f h) Aq (call (ei "list.append") [w a,x]) b E s:=qR slot_list_append ⟨_,g,Y⟩ entry_list_append ((aB<|wpAny_updateSeq g Y<|bq ⟨bQ,Y,d⟩):a8 _ _ (updateSeq a _>>=λZ=>ret bQ) _ _ s)<|args_list_append _ _
end
def zY(C:Cx)(b)(a)(c)(X):=t9 (mj a=jo) (∀x∈dp a,x.2≠ho) (∀x∈dp a,x.2=wD->b1 x.1 (dp a)=dW) (NQ a b=pure c) (∀n d,b1 n c=J d->b1 n (gf b)=J d) (∀e n,t8 (gS a c e b) n->t8 b n/\∀d,b1 n (gf b)=J d->b1 n c=J d)<|∀e x,c5 (gS a c e b) (C.S.nm x)=dW->∀l,cW (su X l) x=A
def Vg:∀{X} {l} {x} {v},cW (su X l) x=J v->cW l x=J v:=by
 intro X;refine @(X.rec (λh=>h) λp r a=>?_);intro l x v h;have h:cW (aD _ _ _) x=J v:=h;cases e:aE p.2 0 with
 |true=>rw [e] at h;exact NW p.1 l<|a h|false=>rw [e] at h;exact a h
def aiq(a:zY C d g h j)(k:gn I e d l)(c:e b=A)(x:iM e b f)(m:nR f b n):gn I f (gS g h b d) (su j l):=
ah k λo q=>⟨n,e1 m (λp v e r=>by rw [(a J6) b p r l] at e;exact aI e) (λp v e r=>by have k:=(a J5) b _ r;cases(q J2) p v (Vg e) k.1 with|mk s y t z H L N=>exact⟨s,y,t,k.2 s z,x.of c H,L,N⟩) (λd s e f=>((q J3) d s ((a J4) d s e) f).imp λt h=>h.imp λv h=>br (x.of c h.1) h.2) (λd g s e j=>(q J4) d g s ((a J4) d s e)<|(a J4) g s j)<|(q J5).imp λI h=>h.imp λo h=>br h.1<|x.of c h.2⟩
def alX(C)(d)(b)(c)(a)(e:aa cX):=
∀G f (z:Z) l (g:ba->aT->Prop) h,Ok C G f z->Up C b z.I f->g6 C z.I G a l->H5 (cN d (λY=>bW) c) l z.σ g->(∀t y,Nx z y->Ok C G f y->g t y.σ->h t y.s)->
 a8 (bM C.dK C.w) b (forIn e Q λc r=>if r=Q then do let j<-Fj c a (bB c a);pure (uQ j) else pure<|uQ r) h oA z.s
abbrev B4:=alX C Dq Aq
def agR(h:zX b c a x):B4 c a [x]:=λG d z l e f g j k m n=>wpAny_tests_one (h G d z l _ _ f _ g j k m (λv o h=>vO h) (λt v y k p m q=>n t y k p<|m _ q) Sx)
inductive Hr(C:Cx)(c d:PM)(b:cC)(y:Z)(e:aa cC)(f:O->iq->Prop)(h:og)(all:aa ai)(g:aa ai->aa ai->aT->Prop)(n:O)(s:cR):Prop
|mk (a:O) (j:aa ai) (G:PM) (m:bj->bf a6) (z:Z) (l:s=z.s) (o:Nx y z) (p:Ok C G d z) (x:iM c b G) (q:nR G b m) (r:∀k∈e,z.I k=A) (t:f a z.s.heap) (v:h z.σ=J all) (H:a<=U all) (I:n=U all-a) (g:g (cq a all) j z.σ)
def z_(q:∀h j,f (b+1) h->(∀d∈e,aH j d=aH h d)->f (b+1) j)(r:∀d∈e,c.I d=A)(s:C6 c.s.heap e)(t:f (b+1) c.s.heap)(k:Nx y c)(l:Nx (zI c<|c.I.oQ e c.s.heap) a)(n:bZ g v a)(x:iM z o g)(H:nR g o m)(I:L a.σ=J all)(p:b<U all)(h:N (cq (b+1) all) À a.σ):
 ∃m,m<U all-b/\Hr C z v o y e f L all N m a.s:=
 have c:=Qk r s (l V) (n V)
 ⟨U all-_,ļ _ _ p,b+1,À,g,m,zI a<|a.I.l9 e,Y,i5 ((k V).xJ<|c V)<|af (l J1)<|aq (λs=>{s with heap:=a.s.heap,toks:=gu a.s})<|k J1,c.ok n,x,H,λd m=>QK m,q _ _ t (c J2),I,p,Y,h⟩
def acI{G}{b:cC}{e:cR->Prop}{E:VP}(d:bZ G g a)(r:dk a.I v x)(h:(a.σ b=J (az f)/\U f<cu))(j:∀c,Nx a c->bZ G g c->c.σ=a.σ.dm b (az<|f++[v])->e c.s):
 dx (call (ei "list.append") [w b,x]) (λZ s=>e s) E a.s:=by
 cases Q? d h.1 with|mk k l nn e m q n=>
 cases e;exact Ű ((d V).sH _ _ m) (q.q5 n)<|PE.upd (j:=λZ o=>o=a.σ.dm b _) (d:=bk) (λZ Z y k p Z e=>j y k p e) d h.1 m (W Ja<|bS.yy (.single r) q) (W a3 h.2) Y Y
theorem aeR{l:cC}{X}{St}{x H}{I}{L:CI->cR->Prop}(Ä:zY C d f g X)(n:rm C Aq x y.I j N o all St)(Å:zl t (gS f g a d) x)(Æ:B4 s (gS f g a d) I)(Ç:cd Ó È (gS f g a d)<|bB H<|gS f g a d)
 (É:mM Aq y.I e)(Ê:gn y.I p d Ë)(Ì:p a=A)
 (Í:∀{v r c b},k (v::r) c b->mN Dq (λZ=>bW) t (su X Ë) v b λÀ b=>H5 (cN Dq (λZ=>bW) s) À b λt b=>dH t (cN Dq (λZ=>bW) È À b λv b=>((b l=J (az c)/\U c<cu)/\o (b.dm l<|az<|c++[v])=J all)/\k r (c++[v]) (b.dm l<|az<|c++[v]))<|(b l=J (az c)/\o b=J all)/\k r c b)
 (Î:∀G m c z,Nx y z->bZ G e z->iM p a G->nR G a m->k [] c z.σ->L (.ok qn) z.s){Á}(Ï:Hr C p e a y j St o all k Â Á):
 dx (rN<|w N) (λr q=>match r with
  |none=>L (.ok qn) q|some v=>dx (yC x (w N) v) (λZ q=>dx (assign x (gS f g a d) v) (λZ Ð=>
   dx (forIn I Q λs r=>if r=Q then do let h<-Fj s (gS f g a d) (bB s<|gS f g a d);pure (uQ h) else pure<|uQ r) (λh Ã=>
    if h=Q then dx (bB H<|gS f g a d) (λx Ñ=>dx (call (ei "list.append") [w l,x]) (λZ Ò=>∃m,m<Â/\Hr C p e a y j St o all k m Ò) oA Ñ) oA Ã
    else∃m,m<Â/\Hr C p e a y j St o all k m Ã) oA Ð) oA q) oA q) oA Á:=by
 induction Ï with|mk a c G m z b k h x d f g y l o p=>
 refine W b<|W o ?_;cases s:all[a]? with
 |none=>have H:=hL l<|tK.mp s;refine(n J4) a G e z _ _ h (k V) f g y H λI L N=>?_;rw [H,TA] at p;exact Î G m c _ (k.bI .h) (h.r8 N) x d p|some v=>
  have b:=ka.mp s;refine lh ((n J3) a v G e z _ _ _ h (k V) f g y s λo l I L c m H N=>?_) (λr q h=>ah h λo h=>h.1▸h.2) λZ Z h=>h;rw [Na b.1,b.2] at p;have a:=(n J1) _ _ N;have f:Le l.I (l.I.oQ j l.s.heap):=KC m;have g:Nx z (zI l<|l.I.oQ j l.s.heap):=i5 ((I V).xJ f)<|I J1;refine Å G e (zI l<|l.I.oQ j l.s.heap) _ v o _ _ _ _ (gH ((c V).with a)<|(c J1).map<|oe f) (aiq Ä (Ê.c7<|(k.bI g) V) Ì x d) (H.ek f) (L▸Í p:mN _ _ t _ v l.σ _) λy s r q h v z j=>ah v λt d=>?_;have p:=É.on<|(k.bI g).bI q V;refine Æ s e r y _ _ h p v j λo l L c H=>?_
  induction o with
  |false=>exact W (aS hu)<|z_ ((n V) _) m a N (k.bI I) (q.bI L) c (x.Lp z) (d V) H.1.2 b.1 H.2|true=>exact W (aJ Y)<|Ç s e l y _ _ _ _ c (p.on<|L V) (v.c7<|L V) H (λf t g r h j e=>acI h j e.1.1 λy s v p=>z_ ((n V) _) m a N (k.bI I) (((q.bI L).bI r).bI s) v (x.Lp z) (d V) (p▸e.1.2) b.1<|p▸e.2) Sx
def V!{X}{E}{n:a6->cC->CI->cR->Prop}(h:zY C a scope e X)(N:vt À x k o f a j)(Á:∀b,zl Â (gS scope e b a) x)(Ã:∀b,B4 Ä (gS scope e b a) p)(Å:∀b,cd Ð Æ (gS scope e b a)<|bB q<|gS scope e b a)
 (l:bZ c d z)(r:mM Aq z.I d)(s:gn z.I c a t)(Ç:cN Dq H (nj Æ Â k o f Ä X) t z.σ I)(È:PX C c d z À H E)
 (É:∀v g b G m y,Nx z y->bZ G d y->c b=A->iM c b G->nR G b m->dk y.I v g->I v y.σ->n g b (.ok qn) y.s):
 dx (bB j a) (λv Ê=>dx (mH v) (λË Ì=>dx (newList []) (λg Í=>dx (newFunctionEnv scope a.globals e [] a.qual A bQ<|J a) (λL Î=>uo (v8) Aq (.compStart (tZ q [⟨x,j,p,0⟩] scope Ï) 0 Ë g {L with scope:=relabel scope a}) (n g<|jz L) Î) E Í) E Ì) E Ê) E z.s:=by
 refine N c d z t _ H _ E l r s Ç (λÓ all b z o e g v n t H L N=>?_) È;unfold X4 at n;rw [ZP] at n;have o:=n b.s.heap.objs.size<|(v J1).no ((v V).qY<|mP b.s.heap).2.1;have z:bZ c d ⟨b.I,b.H.dG b.s.heap.objs.size _,b.σ.dm b.s.heap.objs.size<|az [],{b.s with heap:=di b.s.heap _,toks:=gu b.s}⟩:=
  v.new (jm _ _) (mP _) (iI _ Y) Y ⟨_,#[],0,Y,iK ..,Y,cQ _⟩
 refine AW<|f_ (h J1) (λy e=>bG e) (λh3 t n=>?_)<|h V;generalize Õ:di b.s.heap _=h2 at z t n;have v:=(z V).qY<|mP h2;refine ah t λe t=>ah t λÑ t=>ah t λÒ t=>?_;have a:js h2 h3:=λf Ô c=>af (n.2 f<|fH<|ic c)<|i4 _ c;have n:bZ _ d ⟨b.I,b.H.dG b.s.heap.objs.size _,b.σ.dm b.s.heap.objs.size _,{b.s with heap:=h3,toks:=gu b.s}⟩:=
  gH (((z V).tS a).toF t.1 ⟨v.1,v.2.1,v.2.2.2⟩<|by unfold nf;exact W t.2.1 Y)<|z J1
 have c:=(H V) 0 _ h3 N λf m=>ah ((H J1) _ _ N f m) λÔ d=>ah d λz d=>af (a _ _ ((Õ▸jm _ _) _ _ d.1)) d.1.symm;have f:uo _ Aq (.compLoop (tZ q [⟨x,j,p,0⟩] scope Ï) 0 _ _ _) _ {b.s with heap:=h3}:=
  Ο _ (λN a t=>aeR (k:=λz j p=>E6 _ _ _ Ó all _ b.s.heap.objs.size z j p λp=>I _ p) h H (Á _) (Ã _) (Å _) (r.on<|g V) (s.c7<|g V) v.2.2.1 (λh=>h)
   (λG m j y k l x q h=>É (aj b.s.heap.objs.size) _ _ G m y (g.bI k) l v.2.2.1 x q Y h) t) (U all) ⟨0,[],_,_,⟨b.I,_,_,{b.s with heap:=h3,toks:=gu b.s}⟩,Y,i5 (t2 _) Y,n,Hd.put,⟨e,Ñ,Ò,iK ..,t.2.1,t.2.2.1,t.2.2.2⟩,L,c,o.1,cQ _,Y,o.2⟩
 exact codeAny_compStart_list f<|(H J2) 0 _ _ _ c f
def Wd.ahF(x:iM c b d)(n:c b=A)(g:d b=J o)(a:Wd I H d e h):Wd I H c (e.dG b o) h:=
 ah (a.sF _ _ g) λf z=>
 have j:=x.sub n a
 {j with sP:=λb x q=>aO (za q) (λe=>e.1▸e.2▸cL f z) λe=>j.sP _ _ e.2,IP:=j.IP.uu<|a.IF.no g,HP:=j.HP.uu<|a.HF.no g,FP:=j.FP.uu n,nP:=j.nP.put<|a.nF _ _ g}
def afN(m:eT)(o:hr a)(p:yl a (C.S.nm n)=Q)(f:zY C a e g q)(r:vt s x k c d a h)(t:∀b,zl y (gS e g b a) x)(z:∀b,B4 H (gS e g b a) j)(I:∀b,cd Ä L (gS e g b a)<|bB l<|gS e g b a)
 (N:∀v,EM h a v=pure v)(À:mG (tZ l [⟨x,h,j,0⟩] e Á) (J<|cB (C.S.nm n) Â) Ã.line a=pure Q):ja s (nK (eb n)<|nj L y k c d H q) a (i7 [cB (C.S.nm n) Â] (tZ l [⟨x,h,j,0⟩] e Á) Ã):=by
 refineλa e g l n x h j q E s y H L a g=>W (exec_Assign_Name_used _ _ _ _ À)<|aB<|rT<|aB<|aB<|lh (Xy Y N (f J3) (f V) (f J2)<|V! f r t z I s y H L (g.at H) λv l b G n y k x h j q r f=>?_) (λZ Z v=>bq<|bq v) λZ Z v=>v
 induction q with|mk t z ep I N s nn=>
 have L:=(x V).FP _ _ I;refine BB<|AR m o p (gH ((x V).ahF j h I)<|x J1) (H.c7<|k V) r f λg l y q v m o=>?_;exact ah ((v V).sP b t (iK ..)) λp H=>⟨n,⟨_,z,ep,H,N,s,nn⟩,λx h=>(a V) g l _ ((k.bI q).bI .h) (gH ((have j:∀{d r},e d=J r->(e.dG b t) d=J r:=λf=>xH L t _ _ f
 have I:=iK ..
 ({(v V) with sP:=λd t f=>(v V).sP d t<|j f,IP:=Dj.hq λc t f=>(v V).IP.hq c t<|j f,HP:=Dj.hq λc t f=>(v V).HP.hq c t<|j f,FP:=Dj.hq λc t f=>(v V).FP.hq c t<|j f,nP:=λd t f=>(v V).nP d t<|j f}).kp (wA h) λc f=>f▸⟨(v V).IP.no I,(v V).HP.no I,(v V).FP.no I,L⟩))<|v J1) m o⟩
variable{a:PM}
noncomputable def PM.or(a B:PM):PM:=λb=>(a b).or<|B b
open Classical in
noncomputable def PM.on(a:PM)(p:cC->Prop):PM:=λb=>if p b then a b else A
def Kl{G:Prop}(a:kP b=J o):G:=by cases a
def GC(e:a b=J o):a.or c b=J o:=by unfold PM.or;exact W e Y
def Dh(e:a b=A):a.or c b=c b:=by unfold PM.or;exact W e Y
def Fa{G:Prop}(e:a.or c b=J o)(f:a b=J o->G)(g:c b=J o->G):G:=by
 cases q:a b with
 |none=>exact g<|af (Dh q).symm e|some x=>exact f<|af q<|af (GC q).symm e
def C8{b:cC}{p:O->Prop}(q:p b)(e:a b=J o):a.on p b=J o:=af (aJ q) e
def r6{p:O->Prop}(e:a.on p b=J o):a b=J o/\p b:=by
 unfold PM.on at e
 by_cases q:p b
 .rw [aJ q] at e;exact br e q
 .rw [aS q] at e;exact aI e
def Z9:Dj a kP:=λZ Z Z=>rfl
def Dj.or(x:Dj I a)(y:Dj I b):Dj I (a.or b):=λc o e=>af (Dh<|x c o e)<|y c o e
def Wd.Nl(b:Wd I H a c h):Wd I H kP c h:={b with sF:=λZ Z e=>Kl e,IF:=Z9,HF:=Z9,FP:=λZ Z e=>Kl e,nF:=λZ Z e=>Kl e}
def Wd.merge(b:Wd I H a c h):Wd I H kP (a.or c) h:={b.Nl with sP:=λd o e=>Fa e (b.sF d o)<|b.sP d o,IP:=b.IF.or b.IP,HP:=b.HF.or b.HP,FP:=λZ Z e=>Kl e,nP:=λd o e=>Fa e (b.nF d o)<|b.nP d o}
def Wd.P?(d:Wd I H a c h)(b:Wd e f kP (a.or c) g):Wd e f a c g:=
 have l:∀{j o},a j=J o->a.or c j=J o:=GC;have r:∀{j o},c j=J o->a.or c j=J o:=λe=>af (Dh<|d.FP.hq _ _ e) e;have k:∀{m},Dj m (a.or c)->Dj m a/\Dj m c:=λk=>⟨Dj.hq λj o e=>k.hq j o<|l e,Dj.hq λj o e=>k.hq j o<|r e⟩
 ⟨b.sI,b.sH,λj o e=>b.sP j o<|l e,λj o e=>b.sP j o<|r e,b.IH,(k b.IP).1,(k b.IP).2,(k b.HP).1,(k b.HP).2,d.FP,b.nH,d.nF,d.nP⟩
def rb.fl(a:rb C I e h):eO C b I e h:=a.imp λc a=>⟨a.1,a.2.1,aw<|a.2.2.imp λd t=>⟨_,t,aL Y⟩⟩
def Yx{E:VP}{M}(d:bZ a f z)(g:A6 C j z.I e z.s.heap)(c:∀b,Wd z.I z.H a f b->rb C z.I e b->h () {z.s with heap:=b}):a8 M k (setFlight e A) h E z.s:=by
 refine ah g λl x=>ah x λm x=>ah x λL x=>?_;rw [x.1] at c⊢;cases x.2.2.2 with|mk n o T p q g r s t v y H I N=>
 refine aB<|ob g s t<|W (aJ (rfl:_=Q)) ?_;have z:=(xr.mp N).1;exact um H I z<|c _ (Ls (d V) v H I) ⟨l,Y,x.2.1,m,n,o,T,_,_,af (MI _ _ y) g,r,s,t,v,y,mw _ H (yQ<|pa I _),pa I _,by refine W (LH)<|W (aJ Y)<|W (aJ z) ?_;rfl⟩
def aia{E:VP}{M}(d:bZ a e z)(k:mM f z.I e)(h:px f c o)(j:nR a (jz c) p)(l:eO C c z.I g z.s.heap)(m:∀b,Wd z.I z.H a e b->rb C z.I g b->n () {z.s with heap:=b}):a8 M f (leaving c g) n E z.s:=aB<|Qb d k h j l λb q r=>Yx (d.r8 q) r λh2 s t=>m h2 s t
def zK(p:O->Prop)(b:aT)(a:cC):=(p a/\d7 (b a)=Q)\/(p (a+1)/\∃c i,b (a+1)=J (cw c i))
def Wd.frz{p:O->Prop}(c:Wd I H a d h):Wd (I.or<|H.on p) (H.on λb=>¬p b) a d h:=
 have e:∀{f},Dj I f->Dj H f->Dj _ f:=λd g b o j=>Fa j (d b o) λj=>g b o (r6 j).1
 {c with sI:=λb o j=>Fa j (c.sI b o) λj=>c.sH b o (r6 j).1,sH:=λb o j=>c.sH b o (r6 j).1,IH:=λb o j=>Fa j (λj=>by unfold PM.on;exact W (c.IH b o j) (ite_self ..)) λj=>aS λq=>q (r6 j).2,IF:=e c.IF c.HF,IP:=e c.IP c.HP,HF:=λb o j=>c.HF b o (r6 j).1,HP:=λb o j=>c.HP b o (r6 j).1,nH:=λb o j=>c.nH b o (r6 j).1}
section
def Oz{a:ai->ai->Prop}(h:gA a b c):U b=U c:=h.rec Y λZ Z a=>aq (·+1) a
def LM(f:∀v c a,d v c->bD b I v a->bD b e c a)(h:gA d g j):∀l,bS b I g l->bS b e j l:=h.rec (λl r=>r) λr Z k=>λl q=>tw.rQ q (λa q=>f _ _ a r q) k
def abL{S}{i}{b:ai->ai->Prop}(f:∀v c a,b v c->bD S I v a->bD S d c a)(k:∀v a,bD S I v a->bD S d v a)(h:gA (λe f=>e.1=f.1/\b e.2 f.2) g i):R (·.1) g=R (·.1) i/\∀l,er S I g l->er S d i l:=by
 induction h with
 |nil=>exact br rfl<|λl r=>r|@cons j b _ _ r _ m=>refine⟨af (aq (λk=>k::_) r.1)<|aq _ m.1,λl q=>?_⟩;have q:tw _ _ l:=q;rw [r.1] at q;exact tw.rQ q (λa q=>q.map (k _) λa q=>f _ _ a r.2 q) m.2
def adm(f:∀v d a,e v d->bD b I v a->bD b g d a):∀c i,D3 e c i->(uC h c=Q->uC h i=Q)/\∀l,hO b I c l->hO b g i l:=
pH (λi e=>W (e:i=ar)<|⟨id,λZ=>id⟩) λa v r j i e=>by refine ah e λk e=>ah e λs e=>W e.1 ?_;have m:=j s e.2.2;exact⟨λq=>have q:=iO q;ak dn ⟨q.1,m.1 q.2⟩,λl q=>tw.rQ q (λa q=>q.map (λZ=>id) λa q=>f _ _ a e.2.1 q) m.2⟩
end
def s4.keys(b:s4 c d)(a:R (·.1) c=R (·.1) e):s4 e d:=
 have go:∀{q:ai->Prop},(∀a∈c,q a.1)->∀a∈e,q a.1:=λh f m=>by have m:=a▸hY m;exact ah (mm m) λg k=>k.2▸h g k.1
 (bY (a▸(b V)) (go (q:=λa=>kj a=d)<|b J1)<|go (q:=λa=>gz a=Q)<|b J2)
def ahj(c:pb I H d)(k:Le I e)(f:∀a o,zK p d a->H a=J o->e a=J o):∀n v b x,kX p d n v b->dk I v x->dk e b x:=by
 refineλn=>n.rec (λv b x g r=>ax (g:v=b)<|r.ek k) λn h=>λv b x g r=>aO g (λg=>g▸r.ek k) λg=>aO g (λg=>ah g λj g=>ah g λl g=>?_) λg=>aO g (λg=>ah g λj g=>ah g λl g=>?_) λg=>ah g λa g=>?_
 .rw [g.1] at r;refine W g.2.1 ?_
  induction r with|mk a m q s t y z=>exact⟨a,m,q,s,k _ _ t,LM h g.2.2 _ y,Oz g.2.2▸z⟩
 .rw [g.1] at r;refine W g.2.1 ?_
  induction r with|mk a m q s t y z=>exact⟨a,m,q,s,k _ _ t,LM h g.2.2 _ y,Oz g.2.2▸z⟩
 .rw [g.1] at r;refine W (r:x=w a) ?_;have L:∀{o N},d a=J o->H a=J N->e a=J N:=λI t=>f a _ (aL ⟨g.2.1,aq _ I⟩) t;refine aO g.2.2 (λg=>ah g λj g=>ah g λl g=>?_) λp=>aO p (λg=>ah g λn g=>ah g λq g=>ah g λi g=>?_) λI=>ah I λv I=>ah I λn I=>ah I λi I=>?_
  .refine W g.2.1 ?_;cases(c a _ g.1:iZ _ _ _ _ _) with|mk b m q s t y z=>cases s;exact⟨a,m,q,Y,L g.1 t,LM h g.2.2 _ y,Oz g.2.2▸z⟩
  .refine W g.2.1 ?_;have r:=abL h (ur<|oe k) g.2.2;cases(c a _ g.1:kh _ _ _ _ _) with|mk b m q v s t y z l o d=>cases s;exact⟨a,m,q,v,Y,L g.1 t,r.2 _ y,z.keys r.1,(bC (f:=λx:ai×ai=>x.1)▸af (aq U r.1) (bC ..))▸l,o,a0⟩
  .refine W I.2.1 ?_;have e:=adm (h:=v) h n i I.2.2;cases(c a _ I.1:nz _ _ _ _ _ _ _) with|mk a H m q s N t j y z d=>cases s;exact⟨a,H,m,q,Y,N,L I.1 t,f a _ (aw ⟨g.2.1,v,n,I.1⟩) j,e.2 _ y,e.1 z,a0⟩
def Ql(b:bZ a À z)(Æ:dk z.I v y)(Ê:eh Á v z.σ)(Å:jS kP À z Á Ä):Ä y z.s:=by
 rw [IQ] at Ê;refine ah Ê λn h=>ah h λp h=>ah h λj h=>ah h λk h=>?_;have Ç:=h.2.1;have m:Le z.I (z.I.or<|z.H.on<|zK p z.σ):=λo q s=>GC s;refine Å j y ⟨_,_,k,z.s⟩ (i5 m Y) (gH (b V).frz.Nl λt q s=>?_) (ahj (b J1) m (λo q x s=>af (Dh<|(b V).IH.hq _ _ s)<|C8 x s) n v j y h.1 Æ) h.2.2;have s:k t=J q:=s;have H:=aO (Ç t) (λx=>aI<|x.2▸s) id;rw [H.2] at s;have I:¬zK p z.σ t:=λx=>aO x (λx=>H.1 x.1) λx=>ah x.2 λL x=>ah x λi x=>aI<|((b J1).H8 x).1▸s;have N:∀{x} {d},¬zK p z.σ x->z.H x=J d->(z.H.on λo=>¬zK p z.σ o) x=J d:=λn s=>C8 n s;have e:=(b J1) t q s
 induction q with
 |list Â=>cases(e:iZ _ _ _ _ _) with|mk Ã g f r l x j=>cases r;exact⟨t,g,f,Y,N I l,x.E5 m,j⟩
 |dict Â n=>cases(e:kh _ _ _ _ _) with|mk Ã g f L r l x j È É z=>cases r;exact⟨t,g,f,L,Y,N I l,x.mono m,j,È,É,z⟩
 |inst L i=>cases(e:nz _ _ _ _ _ _ _) with|mk c Ë g f r Ì l Í x j Î=>cases r;have nd:¬zK p z.σ c:=λx=>aO x (λx=>by rw [Î] at x;cases x.2) λx=>H.1 x.1;exact⟨c,Ë,g,f,Y,Ì,N I l,N nd Í,x.mono m,j,aO (Ç c) (λx=>x.2) λx=>af x.2 Î⟩
end
section
def ER(h:iq)(L)(a:aa<|bj×cC):=PM.on h.get? λb=>b=L\/∃n,b1 n a=J b
def Ķ(a:Wd I H kP d s.heap)(x:Pm s L m c e b):Wd I H (ER b.heap L c) d b.heap:=
 have f:∀{g},_->aH s.heap g=none:=λ{g} q=>by
  cases e:aH s.heap g with
  |none=>rfl|some o=>have h:=cc (ic e) x.toInCall.fresh;exact aO q (λq=>ay h<|q▸kq _) λq=>ah q λn q=>ay (x.above n g<|mem_of_lookup q)<|Nat.lt_asymm h
 have j:∀{k},lj k s.heap->Dj k (ER b.heap L c):=λsx=>Dj.hq λg o e=>sx.no<|f (r6 e).2;have l:=a.tS x.toInCall.keep
 have p:=λg o e=>by
  have e:=r6 e;refine aO e.2 (λq=>ah x.toInCall.ns λr t=>ah t λv t=>ah t λep y=>?_) λq=>ah q λn q=>ah (x.cell n g q) λr y=>?_
  .rw [<-q,e.1] at y;refine W (aC y.1) ?_;unfold nf;exact W y.2.1 Y
  .rw [e.1] at y;refine W (aC y.1) ?_;unfold nf;exact W y.2 Y
 {l with sF:=λg o e=>cL o.slots<|(r6 e).1,IF:=j a.sI.pB,HF:=j a.sH.pB,FP:=(j a.sP).hq,nF:=p}
def Zc(h:a∉b::l):a≠b/\a∉l:=⟨λe=>h<|e▸b8,λm=>h<|cz _ m⟩
def ahI:∀{a} {m},k∉R (·.1) a->bindL b a m k=m k:=by
 intro a;refine @(a.rec (λZ=>rfl) λq r c=>?_);intro m h;have h:=Zc h;refine af (c h.2) ?_
 by_cases e:b q.1=dW
 .exact W (aJ e)<|aS h.1
 .exact W (aS e) Y
def alB(b:c k=J .local):∀{a} {m},(R (·.1) a).Nodup->(k,x)∈a->bindL c a m k=J x:=by intro a;refine @(a.rec (λZ h=>bG h) λq r d=>?_);intro m nd h;have nd:=jc.mp nd;refine(mc h).elim (λe=>?_)<|d nd.2;subst e;exact(ahI nd.1).trans<|W (aJ b)<|aJ Y
def afx:∀{a} {m},k∉R (·.1) a->bindC b a m k=m k:=by
 intro a;refine @(a.rec (λZ=>rfl) λq r c=>?_);intro m h;have h:=Zc h;refine af (c h.2) ?_
 by_cases e:b q.1=dW
 .exact W (aJ e) Y
 .exact W (aS e)<|aS h.1
def ajG(b:c k≠J .local):∀{a} {m},(R (·.1) a).Nodup->(k,x)∈a->bindC c a m k=J x:=by intro a;refine @(a.rec (λZ h=>bG h) λq r d=>?_);intro m nd h;have nd:=jc.mp nd;refine(mc h).elim (λe=>?_)<|d nd.2;subst e;exact(afx nd.1).trans<|W (aS b)<|aJ Y
def M4:∀{D} {a} {c},bS d I a c->cW (q3 D a) b=J v->b∈D/\∃y,(e b,y)∈n4 e D c/\bD d I v y:=by
 intro D;refine @(D.rec (λZ h=>aI h) λp r f=>?_);intro a c q h;cases a with
 |nil=>exact aI h|cons g a=>
  induction q with|mk y s e j k=>
  refine W e ?_
  by_cases l:p=b
  .subst l;rw [show cW (q3 (p::r)<|g::a) p=J g from JL] at h;exact ax (aC h)<|⟨b8,y,b8,j⟩
  .rw [show cW (q3 (p::r)<|g::a) b=cW _ b from xc l] at h;have t:=f k h;exact⟨cz _ t.1,t.2.imp λy t=>br (cz _ t.1) t.2⟩
def Lr:∀{D} {a},U D=U a->R (·.1) (n4 b D a)=R b D:=by
 intro D
 induction D with
 |nil=>exactλZ=>rfl|cons p r c=>intro a h;induction a with
  |nil=>cases h|cons z s=>exact aq _ (c<|f7 h)
section
variable{c:Z}{a:iq}{b:cC}{D:aa O}{nm:O->bj}
def Nm(e:∀b d,nm b=nm d->b=d):∀{D},bw D->bw (R nm D):=by intro D;refine D.rec (λZ=>xC) λp r f=>λa=>?_;have a:=jc.mp a;exact ak jc ⟨λq=>ah (mm q) λc g=>a.1<|e _ _ g.2▸g.1,f a.2⟩
end
section
variable{b:jX}{q:PM}{G:PM}{e:iq}{h:cC}{l:ai}{g:O}{n:bj->bf a6}{r:aa ai}{o:aa a6}{D:aa O}{nm:O->bj}
def YS(m:qf b=J (jz b))(f:kK q r o)(j:nR G (jz b) n)(p:∀a∈D,∀y,(bu a,y)∈n4 bu D o->c5 b (bu a)=dW->n (bu a)=J y)
 (s:∀a∈D,∀y,(bu a,y)∈n4 bu D o->t8 b (bu a)->∃c d,b1 (bu a) (gf b)=J c/\G c=J d/\hJ d=qQ (J y))
 (t:∀g c,b1 g (gf b)=J c->g≠"__class__"->∃d l,G c=J d/\hJ d=qQ l)(v:∀g k c,b1 g (gf b)=J c->b1 k (gf b)=J c->g=k):gn q G b (q3 D r):=
 ⟨n,e1 j (λa l x h=>(M4 f x).2.imp λy e=>br (p a (M4 (e:=bu) f x).1 y e.1 h) e.2) (λa l x h=>by have z:=M4 (e:=bu) f x;exact ah z.2 λy e=>ah (s a z.1 y e.1 h) λc H=>ah H λd H=>⟨c,y,d,H.1,H.2.1,H.2.2,e.2⟩) t v<|by induction j with|mk d I ep L=>exact⟨_,d,m,L⟩⟩
end
def QR(h:t8 a k):c5 a k≠dW:=λq=>aO h (λh=>nomatch (af q.symm h)) λh=>nomatch (af q.symm h)
def Δ(f:qf a=J (jz a))(g:eT)(nd:bw b)(h:U d=U b)(q:kK I d c)(j:∀x∈b,c5 a (bu x)=dW\/(c5 a (bu x)=J ho/\d7 (b1 (bu x)<|gf a)=Q))
 (x:Pm s (jz a) (bindL (c5 a) (n4 bu b c) λZ=>A) (gf a) (bindC (c5 a) (n4 bu b c) λZ=>A) e):gn I (ER e.heap (jz a)<|gf a) a (q3 b d):=by
 have k:bw (R (·.1)<|n4 bu b c):=W (Lr<|af h.symm q.vg)<|Nm (g J1) nd;have l:∀{n c},b1 n (gf a)=J c->∃o,ER e.heap (jz a) (gf a) c=J o/\hJ o=qQ _:=λ{n c} e=>(x.cell n c e).imp λo g=>br (C8 (aw ⟨n,e⟩) g.1) g.2;exact ah x.toInCall.ns λo g=>ah g λm g=>ah g λep g=>YS f q ⟨o,m,ep,C8 (aL Y) g.1,g.2.1,g.2.2.1,g.2.2.2⟩ (λp Z y h a=>alB a k h) (λp r y h a=>(vx.mp (CC (j p r)<|QR a).2).imp λc t=>(l t).imp λo g=>⟨t,g.1,af g.2<|aq qQ<|ajG (QR a) k h⟩) (λn c e Z=>(l e).imp λo g=>cL _ g) λn v c e z=>name_of_addr x.apart (mem_of_lookup e)<|mem_of_lookup z
def abe{C}(g:C.I0 j=J ⟨k,m, .func a,n⟩)(o:a.body= .stmts p)(q:yH a=i1)(r:zd a=pS)(t:mj (dX a)=jo)(v:xM (dX a)=u)(x:y5 (dX a)=u)(y:∀h,cO C.I0 h->h.CodeRec a.code (xE a))(z:bw d.e5)(H:∀s (I:PM) c (e:aa a6) l,cO I s.heap->Le C.I0 I->bS C.S I c e->yX d.e5 d.p6 c=J l->
∃b f,l=q3 d.e5 b/\U b=U d.e5/\bS C.S I b f/\JZ s a ⟨e,[]⟩ (n4 C.S.nm d.e5 f)):Bu C d j k m a n p:=Kx g o q r t v x y z H
noncomputable def x4(a)(L b):=newEnv (dX a) L (yH a) (yP (L+1) (dp<|dX a) []) (xE a++".<locals>.") (J b) a.code A<|zd a
def Yv(g:cm iS f=J d)(a:aK (n+1) f h b e c):∃l,yX d.e5 d.p6 h=J l/\c1 (aK n) c d.gY l b (λZ b=>eh e bk b) (eh e) (λZ Z=>bW):=by
 rw [zx] at a⊢;have a:(match cm iS f with
  |some d=>bE _ λl=>c1 _ c d.gY l b _ _ _|none=>bE _ λj=>∀k,b k=A->wQ n j _ _ _ c):=a
 rw [g] at a;exact et a
def Ub{q:bj->Prop}(b:U a=U c)(d:∀x∈a,q<|e x)(m:f∈n4 e a c):q f.1:=by have m:=hY (f:=Rk) m;rw [Lr b] at m;exact ah (mm m) λz h=>h.2▸d z h.1
def Xe{a:CI->cR->Prop}(b:jS kP d z c λv s=>a (.ok<|jF v) s):PS C g d z (λZ e=>eh c bk e) (eh c) (λZ Z=>bW) λf s=>a (.ok<|jF (match f with|jF v=>v|_=>bQ)) s:=
BG (λl h y k j m q=>Ql j (v:=bk) Y q<|b.on k) (λl h y k j m q=>b6 q) λv x l h y k j m r q=>Ql j r q<|b.on k
def UG{a:CI->cR->Prop}{i}(g:px d b i)(h:mM d z.I f)(j:PX C kP f z (rb C) k λe s=>a (.error e) s){M}:qN C b f z (eO C b) k (λe l=>a8 M d (leaving b e) (λZ c=>a (.error e) c) (λm c=>a (.error m) c) l):=
λe l n y k o p q x=>ah p λm r=>aia o (h.on<|k V) g (r V) q λt v f=>j e _ (k.bI .h) (gH v.Nl<|o J1) f x
def ZM{i}(a:nW b=J i)(c:Le C.I0 I)(d:∀i,nW b=J i->Er e i):mM (ta b f) I e:=cj c λg e=>by rw [wV a] at e;refine ax (aC e) ?_;exact d _ a
def abQ{c:O}(f:eT)(h:cm iS j=J e)(b:Bu C e c q r a s k)(l:uK a=[])(m:iY d<mx)(n:∃i,nW d=J i)
 (g:∀L,∀x∈e.e5,b1 (C.S.nm x) (dp<|dX a)=dW\/(b1 (C.S.nm x) (dp<|dX a)=J ho/\d7 (b1 (C.S.nm x)<|yP L (dp<|dX a) [])=Q))
 (o:∀L,Nr C (aK p) (ta d<|x4 a L c) (eO C<|x4 a L c) e.gY (x4 a L c) k):uv C (aK<|p+1) d j c:=by
 refineλt z v y H I N L e j r k p q=>ah (Yv h k) λs H=>ah ((b J9) z.s z.I v y s (L V).sI e r H.1) λN h=>ah h λk h=>ah n λi v=>?_
 refine VW m ((L V).sI _ _ (e _ _ (b V))) Y (b J5) (b J6) (b J1) ((b J7) _ λy r s=>(L V).sI _ _ (e _ _ s))<|h.2.2.2 _ _ _ _ (W l<|wpAny_newFunctionEnv_cells (b J4) (λx q=>Ub (q:=λk=>b1 k (dp<|dX a)=dW\/(b1 k (dp<|dX a)=J ho/\d7 (b1 k<|yP _ (dp<|dX a) [])=Q)) (af h.2.1.symm h.2.2.1.vg) (g _) q) λN n m x=>⟨((f J3) _ λy r s=>(L V).sI _ _ (e _ _ s)).keeps x.toInCall.keep,l_ ?_⟩);subst n;have l:=Ķ (L V) x;have k:=Δ (a:=x4 a z.s.heap.objs.size c) Y f (b J8) h.2.1 h.2.2.1 (λy r=>g _ y r) x;refine ah x.done λh2 g=>ah g λs g=>?_;rw [g.1] at l k⊢;have n:mM (ta d<|x4 a z.s.heap.objs.size c) z.I t:=ZM v e j;have m:px (ta d<|x4 a z.s.heap.objs.size c) _ i:=bY (wV v) Y<|b J4;exact o _ _ t (zh z h2 s) _ _ _ _ I _ _ (gH l<|L J1) n k (h.1▸H.2) (Xe<|p.on .h) (UG m n<|q.on .h)
def adu(a:Wd I H b c h)(k:mM Aq I c)(d:gn I b e l)(f:AF Aq e):∀i,nW Aq=J i->Er (b.or c) i:=λi e=>ah (f V) λg q=>ah q λj q=>by rw [q.1] at e;exact ax (aC e) λm n=>aO (mc n) (λz=>ah d λo t=>ah (t J5) λL g=>ah g λo g=>⟨z▸q.2.2,L,o,af (z▸q.2.1) g.1,GC g.2,nf.ne<|a.nF _ _ g.2⟩) λn=>((k J1) _ q.1 m n).imp id λb=>b.imp λL b=>b.imp λo b=>⟨b.1,af (Dh<|a.FP.hq _ _ b.2.1) b.2.1,b.2.2⟩
def aik:yt C (eO C a):=λZ Z Z h=>h.fl
abbrev Dd:=uv C Dq Aq
def Xm{d:O}{f E}(fo:yt C m)(n:AF Aq o)(p:Dd q d)(a:bZ b c z)(k:mM Aq z.I c)(t:gn z.I b o I)(r:kK z.I g h)(x:Dq q g z.σ j l)(y:jS b c z j f)(H:PX C b c z m l E):uo (v8) Aq (.call (w d) ⟨h,[]⟩) (λr s=>match r with| .ok (jF v)=>f v s| .ok _=>bW| .error e=>E e s) z.s:=
p _ z g h j l _ (gH (a V).merge<|a J1) (k V) (adu (a V) k t n) r x (λv x L k N r q=>y v x L k (gH ((a V).P?<|N V)<|N J1) r q) λe L k N z x=>H e L k (gH ((a V).P?<|N V)<|N J1) (fo _ _ _ z) x
def L?{c:O}{d E}(fo:yt C e)(f:AF Aq g)(h:Dd j c)(k:bZ a b z)(l:mM Aq z.I b)(m:gn z.I a g x)(r:kK z.I n o)(p:Dq j n z.σ q s)(t:jS a b z q d)(v:PX C a b z e s E):dx (call (w c) o) d E z.s:=
Bw (Xm fo f h k l m r p t v)
def afP{b:O}(f:eT)(fo:yt C c)(g:AF Aq a)(h:nG a k<|w b)(j:wz C.K (w b)=Q)(d:qK e=Q)(l:CR c m a e)(n:Dd o b):cd c (.call o m) a (bB (d2 (cB k q) e [] p) a):=by
 refineλr s z t v x y E H I L N a b=>aB<|h (H.i0 I)<|Je (by refine W (qS d) ?_;rfl) (OS j)<|rP d<|l r s z t p _ x _ E H I L N (λc e k m o r1 Z q=>?_) b
 exact⟨f.In (o V)<|(I.on<|m V) V,L? fo g n o (I.on<|m V) (L.c7<|m V) r1 q (a.on m)<|b.on m⟩
def T_{f E:VP}(n:NB o)(p:qK g=Q)(q:U g<30)(r:(n8 h==lL a)=Q)
 (t:a8 b c (bB o d) (λe l=>∀v,a8 b c (So e k v) (λj m=>a8 b c (N6 a j.1 j.2 (ro a<|oM g d) []) f E m) E l) E s):a8 b c (bB (d2 (fz o k h) g [] a) d) f E s:=by
 show a8 b c (do
  let e<-KR o k d _
  standAt h.atName
  M0 o k h a d e _ _ _) f E s
 refine W (n ..)<|aB<|lh t (λe l x=>aB<|rT ?_) λZ Z y=>y;unfold M0;refine W (show ZS _ _ _=Q from C0 p q) ?_;unfold calleeOf U9;exact W (aJ Y)<|aB<|hR<|lh (x _) (λj m z=>W r<|aB<|bq z) λZ Z y=>y
def ajL{K}(h:rk a v K):∃c i,K c i/\∀M,M c i->rk a v M:=by
 cases v with
 |obj c i=>exact⟨c,i,h,λZ k=>k⟩|ref b=>
  have e:∀M,rk a (aj b) M=bE (L3<|a b) λp=>M p.1 p.2:=λM=>by show s3 (a b) M=_;exact W Fc Y
  rw [e] at h;exact ah (et h) λp q=>⟨p.1,p.2,q.2,λM k=>W (e ..)<|W q.1 k⟩
 |_=>exact b6 h
def afk(e:eT)(fo:yt C g)(À:AF Aq b)(k:NB o)(h:qK c=Q)(l:U c<30)(n:(n8 p==lL d)=Q)(Ä:∀f a,C.fa f=J a->wz C.K (w a)=Q)(r:cd g s b<|bB o b)(t:CR g v b c)(Ã:∀f a,C.fa f=J a->Dd f a):
 cd g (.z5 s m v) b (bB (d2 (fz o (bu m) p) c [] d) b):=by
 refineλy z H I L N g E o p s v Ò j=>T_ k h l n<|r y z H I _ N _ E o p s v (λv k l n r r1 H o=>ah (ajL H) λÂ o=>ah o λi o=>ah (et o.1) λÁ H=>ah (et H.2) λf x=>?_) j
 cases Hb r r1 (o.2 (λq X=>q=Â) Y) with|mk q Å Æ Ç È É Ê Ë Ì Í Î Ï=>
 subst Ï;refine ah ((e J9) q Ç Ë J6 Á m f H.1 x.1).2 λa m=>?_;have q:=p.on<|n V;have Ñ (Ð:dx (OA<|ro d<|oM c b) (λp L=>C.K.In L.heap/\dx (call (w a)<|(gr (w a,[k]))++p) g E L) E<|Z.s l):dx (N6 d (w a) (gr (w a,[k])) (ro d<|oM c b) []) g E (Z.s l):=Je (by refine W (qS h) ?_;rfl) (OS<|Ä f a m.1)<|rP h Ð;exact agL e r (q V) r1 (o.2 _ ⟨H.1,x.1⟩) m.1<|Ñ<|t y z l I d _ N _ E r q (s.c7<|n V) x.2 (λb p c d h r2 X t=>⟨e.In (h V)<|(q.on<|d V) V,L? fo À (Ã f a m.1) h (q.on<|d V) ((s.c7<|n V).c7<|d V) (n:=v::b) ⟨k,p,Y,r1.ek<|d V,r2⟩ t (Ò.on<|n.bI d)<|j.on<|n.bI d⟩) (j.on n)
def UB{a}:nW (a.under<|tA "type.__call__" ⟨w b::c,[]⟩)=nW a:=by
 induction a with|mk d d e f g=>
 exact W (rfl:(tA "type.__call__" ⟨w b::c,[]⟩).envs=[]) Y
def Η(e:cm iS f=A)(h:cm tN f=J g)(a:aK (n+1) f j b k d):∀c,b c=A->aK n g (aj c::j) (b.dm c<|cw f ar) (λv b=>qO v=Q/\eh k (aj c) b) d:=by
 rw [zx] at a⊢;have a:(match cm iS f with
  |some l=>bE _ λm=>c1 _ d l.gY m b _ _ _|none=>bE _ λg=>∀c,b c=A->wQ n g _ _ _ d):=a
 rw [e] at a;rw [h] at a;exact a
def aey(d:eT)(e:cm iS f=A)(g:cm tN f=J h)(j:C.S.ca f=J a)(k:Oc C.K a=Q)(l:hy C.K (w a) "__init__"=J (J<|w c))(m:oH C.K (w c)=pn)
 (o:∀b,uv C (aK n) (p.under<|tA "type.__call__" ⟨w a::b,[]⟩) h c):uv C (aK<|n+1) p f a:=by
 intro q z r b s t v x y H I L N c;have h:=d.In (x V) y;refine make_core (h:=z.s.heap) (makes_of h k) (Rh h l) (λp=>bind_fn h p m) (aL Y) ?_;have s:=(x V).qY<|mP z.s.heap;have v:=((x V).tS<|jm _ MM).toH (iI z.s.heap Y) ⟨s.1,s.2.2⟩ Y;have d:=v.qY<|mP _;have k:=(v.tS<|jm _ (instObj a z.s.heap.objs.size)).toH (iI _ Y) ⟨d.1,d.2.2⟩ Y;rw [o?] at d k;have l:pb z.I (z.H.dG z.s.heap.objs.size MM) z.σ:=(λm h p=>by
 have I:=(x J1) m h p
 induction h with
 |list v=>exact iZ.map I (oe<|xH s.2.1 _) λm=>id|dict h n=>exact kh.map I (oe<|xH s.2.1 _) λm=>id|inst v i=>exact nz.map I (oe<|xH s.2.1 _) λm=>id)
 have n:d8 z.s.heap.objs≠d8 z.s.heap.objs+1:=fH<|g9 _;have h:pb z.I _ (z.σ.dm _ (cw f ar)):=
  l.put (l.Ud d.2.1) ⟨d8 z.s.heap.objs,a,#[],0,Y,j,iK ..,af (lN n) (iK ..),Y,Y,af (Ka n)<|(x J1).no s.2.1⟩
 refine o b q ⟨z.I,_,_,{z.s with heap:=di (di z.s.heap MM) _}⟩ (aj _::r) _ _ t _ (gH k h) y (W UB H) ⟨_,b,Y,Y,I⟩ (Η e g L _ (l.no d.2.1)) (λv x y k m r1 q=>?_) λp y k m a x=>?_
 .rw [Ec q.1] at r1;exact W (r1:x=bQ)<|⟨Y,Ql (v:=aj _) m Y q.2 λv x f b=>N v x f<|Nx.bI (i5 (k V)<|k J1) b⟩
 .exact c p y (i5 (k V)<|k J1) m a x
def G5(C)(b)(a)(c)(d)(e)(f)(t):=
∀g h (z:Z) l (j:QT) k (m E:VP),Ok C g h z->Up C a z.I h->g6 C z.I g f l->cN b k e l z.σ j->PE C g h z j m->PX C g h z c k E->_root_.PySem.wpAt (bM C.dK C.w) a d t m E z.s
abbrev wZ:=Ht C Dq Aq
def sD(h:Nv C Dq Aq a s b t):wZ a c s b t:=λd e z l N f g j k E m n o p q r=> _root_.PySem.wpAt_of_wpAny<|h d e z l N f g j k E m n o p q r
def aj7(d:zX b e a x)(f:wZ b c s a<|v7 g a)(h:wZ b c r a<|v7 j a):wZ b c (.ite e s r) a (yY (.If x g j k) a):=by
 refineλl m z n N o p q t E v y H I L a=>ks_wpAt_If<| _root_.PySem.wpAt_of_wpAny<|d l m z n _ q _ E v y H I (λv b c=>vO c) (λe v x s g r j=>?_) (a.at H)
 have j:=r _ j
 induction e with
 |true=>exact f l m x n N o p q t E g (y.on<|s V) (H.c7<|s V) j (L.on s)<|a.on s|false=>exact h l m x n N o p q t E g (y.on<|s V) (H.c7<|s V) j (L.on s)<|a.on s
def aiz(b:G5 C Dq Aq c d e a<|bB x a):wZ c d (v5 e) a (yY (.Return (J x) f) a):=λg h z l N j k m n E o p q r s t=>ks_wpAt_Return_some (b g h z l _ m _ E o p q r (λv y H I L r1 a=>(s J2) v y l g H I L (q.c7<|I V) r1 a) (t.at q))
def aaw{C}{sx f e m}(X:c5 a "super"=J qk)(g:c5 a "__class__"=J kt)(h:c5 a (C.S.nm sx)=dW)(j:∃k b c d l n,Yh C a f e m k b c d l n)(o:∃p b c q d r,g? C a sx p b c q d r)(s:∃t b c v d x y,PL C a t b c v d x y)(z:d7 (b1 ("super":bj)<|dp C.dK.main.scope)=u)(H:C.mg "super"=A)(I:tP "super"=J (cJ "super"))(nm:(C.S.nm m==("__class__":bj))=u)(L:nsIn C.K tL "thirdparty.any"=J A)(N:oH C.K (w e)=pn)(À:fnIn C.K e=Q):vG C a sx f e m:=Oj X g h j o s z H I nm L N À
def ahX{l h e:O}{mm}{p0 r}{m E:VP}(f:eT)(c:hr g)(a:vG C g l s t n)(j:bZ v I z)(p:Le C.I0 z.I)(x:nR v (jz g) mm)(y:mm (C.S.nm l)=J (w<|e+1))
 (k:InstAt z.s.heap (e+1) (JX d e) d L)(D:jt ti h s=Q)(H:C.S.ca h=J d)
 (go:∀b h1,aH h1 z.s.heap.objs.size=J {cls:=cJ "super",dict:=A,data:=eV #[w b,w<|e+1,w d],slots:=#[]}->(∀q o,aH z.s.heap q=J o->aH h1 q=J o)->Bs C.K d b (C.S.nm n)=J (J<|w t)->m (w z.s.heap.objs.size) {z.s with heap:=h1}):
 _root_.PySem.wpAt (v8) Aq (sg N g) (KR (d2 (cB "super" p0) [] [] r) (C.S.nm n) g À) m E z.s:=by
 refine T5 (a J3) λe g l m b n q=>T5 (a J4) λr s t v I L N=>?_;obtain⟨e,g,l,m,r,s,t,v⟩:=a J5;have I:∀{L o},C.I0 L=J o->aH z.s.heap L=J o:=λe=>(j V).sI _ _ (p _ _ e);have g:=f.In (j V) p;have c4:=(q J3) h d D H;have l (e:oJ C.K b=J n):∃o,aH (QQ<|Z.s z) b=J o/\hJ o= .cls n:=by
  unfold oJ at e;cases m:C.K.lookup b with
  |none=>rw [m] at e;exact aI e|some o=>
   rw [m] at e;obtain⟨_,_,r,_⟩:=o;cases r with
   |cls=>exact⟨_,g _ _ m,aq _ (aC e)⟩|_=>exact aI e
 refine bp (l<|q J2) λs t=>ks_wpAt_super_base (a V) (a J1) (a J9) (N V) (I<|N J1) Y (N J2) (v V) (I<|v J1) Y (v J2) (v J3) (a J6) ?_;refine ks_loadName_global (c V) (a V)<|J! ((c J1)▸(f J6) _ λL o e=>I e) (a J7) ((c J2)▸(f J7) _ λL o e=>I e) (af ((f J8) "super"<|by decide+kernel)<|a J8) ⟨Y,X_ (c V) (a J1) (q V) ⟨_,I<|q J1,Y⟩<|W (N J3)<|JI (c V) (a J2) (x.ns (j V).sF) y<|ks_wpAny_isType_cls t.1 t.2 ⟨Y,ks_wpAny_call_super t.1 t.2 k.at_ k.cls (λd e=>?_) (I' g c4.1) λh1 h p=>go b h1 h p c4.2⟩⟩;have n:=k.no;unfold notCls at n;exact bR<|e▸n
def aaD{E:VP}{s:cR}{h1}(d:vG C q r t e m)(j:C.K.In s.heap)(k:InstAt s.heap (f+1) (JX b f) b v)(c:C.K.In h1)
 (l:aH h1 n=J {cls:=cJ "super",dict:=A,data:=eV #[w o,w<|f+1,w b],slots:=#[]})(a:Bs C.K b o (bu m)=J (J<|w e))
 (p:g (w h1.objs.size,[]) {s with heap:=di h1<|NA (w e)<|w<|f+1,toks:=gu s+1}):y9 h (So (w n) (bu m) x) g E {s with heap:=h1}:=by
 unfold Bs at a;cases y:oJ C.K b with
 |none=>rw [y] at a;cases a|some z=>rw [y] at a;have H:∃o,aH h1 e=J o/\o.cls=(cJ "function"):=(fA<|d FK).imp λo q=>br (c _ _ q.1) q.2;exact bp H λI L=>ks_wpAny_getMethod_super l (looks_opaque c<|d JO) (λh g E s N q=>aB<|(Cy c y) h _ E s N (bq q)) Y c a L.1 L.2 (ks_ne j k y) (d J9) p
def acd(d:eT)(l:hr a)(fo:yt C g)(Å:AF Aq a){p0 n}(b:vG C a h j c o)(e:qK f=Q)(p:U f<30)(q:(n8 r==lL k)=Q)
 (s:CR g t a f)(v:Dd j c):G5 C Dq Aq g (sg x a) (ql h j t) a (bB (d2 (fz (d2 (cB "super" p0) [] [] n) (bu o) r) f [] k) a):=by
 refineλÀ Ã H I L Ä a E f g j n o r=>ah (et n) λt x=>ah j λmm L=>ah ((L J1) h t x.1<|b J2) λa n=>?_
 cases Hb f n.2 x.2 with|mk h i a x h x h x y Á Â z=>
 have N:=n.1;rw [h] at N;have m:=n.2;rw [h] at m;refine _root_.PySem.wpAt_bind<|ahX d l b f (g V) (L V) N y z.1 x λl h1 L n h=> _root_.PySem.wpAt_of_wpAny<|aB<|rT ?_;unfold M0;refine W (show ZS _ _ _=Q from C0 e p) ?_;unfold calleeOf U9;refine W (aJ Y) ?_;have x:=d.In (f V)<|g V;have N:C.K.In h1:=λl p l=>n _ _ (x _ _ l);have p:=(f V).tS n;refine aB<|hR<|aaD b x y N L h<|W q<|aB<|bq ?_;have l:=p.qY<|mP h1;have q:Le H.I (H.I.dG h1.objs.size<|NA (w c)<|w<|a+1):=xH l.1 _;have y:Nx H ⟨_,H.H,H.σ,{H.s with heap:=di h1<|NA (w c)<|w<|a+1,toks:=gu H.s+1}⟩:=i5 q Y;refine Je (P:=MethP C.K h1.objs.size c<|w<|a+1) (by refine W (qS e) ?_;rfl) (keeps_M<|b OX)<|rP e<|s À Ã ⟨_,H.H,H.σ,{H.s with heap:=di h1 _,toks:=gu H.s+1}⟩ I k _ Ä _ E (gH ((p.tS<|jm _ _).toI (iI h1 Y) l.2)<|(f J1).map<|oe q) (g.on q) (j.c7 q) z.2 (λL n h x N b Z c=>?_) (r.on y);have e:=(N V).sI _ _ ((x V) _ _ (iK H.I h1.objs.size _));refine⟨⟨e,d.In (N V)<|(g.on q).on (x V) V⟩,Bw<|method_call e ?_⟩;have k:=y.bI x;exact Xm fo Å v N (g.on<|k V) (j.c7<|k V) (g:=t::L) ⟨_,n,Y,m.ek<|k V,b⟩ c (o.on k)<|r.on k
def agI(c:cd d e b<|bB o b)(f:NB o)(a:(n8 g==lL h)=Q):cd d (vY e) b (bB (d2 (fz o "pop" g) [] [] h) b):=by
 refineλj k z l m n p E q r s t v x=>Mk (f _ _ _) (C0 Y (show 0<30 by decide)) a Ip aep ajr<|c j k z l _ n _ E q r s t (λy H I L N r1 b=>?_) x
 rw [show Xa m y I.σ=AP y I.σ m from Y,YV] at b;cases Cr N r1 b with|mk o d g n h e s g q p k=>
 refine W e<|ah (et k) λc h=>?_;have x:=h.1;rw [x6] at x;refine ah (yz q x) λH f=>?_;have a:=(N V).sH _ _ g;have t:=Kq a;refine⟨t.1,t.2,?_⟩;rw [q.eP] at f;refine agA a f.1 ((v.on L).upd N s g ?_ (W T8<|ae (lT _ _) p) f.2 h.2)<|q.q5 p;rw [Array.eraseIdxIfInBounds];refine W (dif_pos (xr.mp f.1).1)<|W Array.toList_eraseIdx<|W (List.eraseIdx_eq_take_drop_succ ..)<|W (List.drop_of_length_le<|by rw [uc];exact Nat.le_add_of_sub_le<|bb _)<|W (dB ..)<|W Rz<|W q.eP ?_;exact q.take _
def abj(b:eT)(c:NB o)(d:cd e f a<|bB o a):cd e (fL f n) a (bB (fz o (bu n) g) a):=λh j z l k m p E q r s t v x=>W (arm_eval_Attribute ..)<|W (c ..)<|aB<|d h j z l _ m _ E q r s t (λy y H I L r1 N=>aB<|rT<|aB<|hR<|aa4 b L ((r.on<|I V) V) r1 N λa o e f n r2 g=>aB<|wpAny_letTemporaryGo<|bq<|v a o e (I.bI f) n r2 g) x
def agJ(c:lF)(b:eT)(a:VD Aq d):p5 xi (oO .FloorDiv):=λ{e f z g v x y h j E} k l r1 r2 m n=>by
 cases oz r1 r2 m with|mk o j t p e q r=>
 refine W e<|W q<|ah (a J1) λs H=>?_;have I:cO C.I0 z.s.heap:=λc o e=>(k V).sI _ _ (l _ _ e);exact ahY (KB r.1) (n.fq k (v:=ag _) ⟨_,aq (ew · _)<|X5 _ (nU r.1)⟩ r.2)<|aw<|ω ((b J3) _ I) (cF (d6 (show akX<=300 by decide) _)<|c J1)<|afu ((b J4) _ I) (b J5) H (a J2) (a J3) ((a V) J2)<|(a V) J1
def aaM{a}(c:cd d e b<|bB o b):cd d (tf .rev e) b (bB (tp o (x5 A A (J<|u2 .USub (CK (.int 1) a f) g) p) h) b):=by
 refineλj k z l m n q E r s t v x y=>Mp<|c j k z l _ n _ E r s t v (λv H I a L r1 N=>Xj<|Jo<|Jo<|Vd (Vi (v:=ag 1) Y) j k I l (λv b=>v=ag (-1)/\b=I.σ) n _ E L (s.on<|a V) (t.c7<|a V) ⟨Y,Y⟩ (λd o f g p h m=>?_) (y.on a)) y
 rw [m.1] at h
 induction h with|mk t q=>
 refine W q ?_;rw [<-m.2] at N;have c:=p.lK (t:=gu f.s)<|jm _ {cls:=cJ "slice",data:=eV #[bQ,bQ,ew (-1) t]};cases hU c (r1.ek<|g V) N with|mk r H j n e k q l s=>
 refine W e<|wy (iX k).typeIs (kV KZ) (ZN (iX k) (Z! ..) .none .none (.int (-1) t) (λz=>nomatch z) ((x.on<|(a.bI g).bI .h).DJ c ?_ (W uw l) s)<|q.q5 l) Y;have v (I:hi a6):cP (slicePick I A A<|J<| -1)=f3 (cP I):=aq cP<|krv_pick I;exact W (v ..) q.W?
def ajz(h:xZ a b):U a=U b:=by
 induction h with
 |nil=>rfl|cons _ _ _ c=>exact aq _ c
def NV{E:VP}
 (k:∀{h},(∀a e b,js s.heap a->xZ b j->h b {s with heap:=a,toks:=e})->a8 (bM l m) Aq.in1 (collect<|w r) h E s)
 (n:U j<64)(o:∀a e f (c:hi a6) d g,js s.heap a->aH s.heap f=A->aH a f=J (lU c g)->xZ (cP c) d->d.Perm j->mY (·<=·) d->p (w f) {s with heap:=a,toks:=e}):
 a8 (bM l m) Aq (call (ei "sorted") [w r]) p E s:=by
 refine acv kind_sorted plain_sorted entry_sorted (args_sorted1 _)<|aB<|bq<|aB<|k λa e b k q=>aB<|wpAny_newList ?_;have t:aH (di a<|z0 "list" (gU b) 0) a.objs.size=J _:=iI _ Y;refine aB<|hR<|qR slot_list_sort ⟨_,t,Y⟩ entry_list_sort (list_sort_tree t q (ajz q▸n) λc d v x y=>⟨_,Y,ah (sortedHeap_at (out:=c) t) λg z=>?_⟩)<|args_list_sort _;have H:aH s.heap a.objs.size=none:=by
  cases q:aH s.heap a.objs.size with
  |none=>rfl|some I=>exact ay (ic<|k _ _ q)<|kq _
 refine bq ⟨_,Y,o _ _ _ c d g (λL I N=>?_) H z v x y⟩;have e:=i4 (z0 "list" (gU b) 0)<|k _ _ N;exact af (sortedHeap_old (fH<|ic<|k _ _ N)<|ic e) e
def Ws(x):∀l,(tG x l).Perm (x::l):=by
 refineλl=>l.rec (.refl _) λy r a=>W V_ ?_;split
 .exact .refl _
 .exact(a.cons y).trans (.swap ..)
def A_:∀l,(Ee l).Perm l:=λl=>l.rec (.refl _) λx r a=>(Ws x _).trans<|a.cons x
set_option tactic.hygienic true in
def af3:∀{l},mY (·<=·) l->mY (·<=·) (tG x l):=by
 intro l;refine l.rec (λ_=>Bb _ _) λy r a=>λh=>?_;have c:=rY.mp h;refine W V_ ?_;split
 .rename_i e;exact ak rY ⟨λz b=>aO (mc b) (λq=>q▸e) λb=>nQ e<|c.1 z b,h⟩
 .rename_i e;exact ak rY ⟨λz b=>aO (mc<|(Ws x r).mem_iff.mp b) (λq=>q▸nU (x8.mp e)) λb=>c.1 z b,a c.2⟩
def aem:∀l,mY (·<=·) (Ee l):=λl=>l.rec h9 λx r a=>af3 a
def Mj{G:Prop}(e:oj (v::r)=J c)(g:∀a b,v=ag a->oj r=J b->c=a::b->G):G:=
ah (ib.mp e) λa h=>ah (fA h.2) λb d=>g a b (OU h.1) d.1 d.2.symm
def VK:∀{b} {c} {a},oj b=J c->bS d I b a->xZ a c:=by
 intro b;refine @(b.rec (@λc a e r=>ax (aC e)<|W (r:a=[]) .nil) λv t f=>?_);intro c a e r;refine Mj e λg h j k l=>?_;subst j
 induction r with|mk y s m h1 h2=>
 induction h1 with|mk tk n=>simp only [m,l,n];exact .cons _ _ (f k h2)
def akb(h:xZ a b):bS c I (R ag b) a:=by
 induction h with
 |nil=>rfl|cons n t _ d=>exact⟨_,_,Y,m5 _ _,d⟩
def aac:∀{a} {b} {l},oj (R (·.1) a)=J b->er d I a l->∃c,PySem.Pairs (intKind f g) l c/\R (·.1) c=b/\∀e∈l,∃k,N3 k e.key=Q/\e.hash=hashInt k:=by
 intro a;refine @(a.rec (@λb l e r=>ax (aC e)<|W (r:l=[])<|⟨[], .nil,Y,lC⟩) λp t h=>?_);intro b l e r;refine Mj e λj m n o q=>?_
 induction r with|mk s v x h1 h2=>
 have y:=h1 J1;dsimp only [tj] at y;have z:=h1 V;dsimp only [tj] at z;have n:p.1=ag j:=n;rw [n] at y z
 induction y with|mk tk H=>
 have L:N3 j s.key=true:=W H<|jL _;exact ah (h o h2) λc N=>⟨(j,s.val)::c,W x<| .cons L Y N.1,W q<|aq _ N.2.1,W x<|gQ ⟨j,L,z⟩ N.2.2⟩
def abA:∀{a:aa<|ai×ai} {b},oj (R (·.1) a)=J b->bw (R (·.1) a)->bw b/\∀c∈b,ag c∈R (·.1) a:=by intro a;refine @(a.rec (λe Z=>ax (aC e)<|⟨xC,lC⟩) λp t d=>?_);intro b e nd;refine Mj e λc f g h j=>?_;have nd:=jc.mp nd;have k:=d h nd.2;exact W j<|⟨ak jc ⟨λm=>nd.1<|g▸k.2 c m,k.1⟩,gQ (g▸b8) λj m=>cz _ (k.2 j m)⟩
def ajA:∀{b} {a:aa<|au×a6},U b=U a->(∀(j:O) v,b[j]?=J v->∃k x,a[j]?=J (k,x)/\N3 k v=Q)->xZ b (R (·.1) a):=by
 intro b
 induction b with
 |nil=>intro a c h;induction a with
  |nil=>exact .nil|cons _ _=>exact wC c
 |cons d r e=>
  intro a c h
  induction a with
  |nil=>exact vX c|cons p q=>exact ah (h 0 d Y) λk f=>ah f λx f=>W (aC f.1)<|ah (N_ f.2) λt g=>g▸ .cons _ _ (e (f7 c) λj v l=>h (j+1) v l)
def ac3(a:iy=A):sZ Dy (ei "sorted"):=λ{b c z v y d e E} f _ r g h=>by
 have g:Fd v z.σ d:=g;rw [TM] at g;refine ah (et g) λj k=>ah (et k.2) λl m=>?_;have n:∀o p q (s:hi a6) t x,js z.s.heap o->aH z.s.heap q=A->aH o q=J (lU s x)->xZ (cP s) t->t.Perm l->mY _ t->e _ {z.s with heap:=o,toks:=p}:=λo p q s t x H I g L N b=>h.lst f H I g (akb<|(ksm_same (N.trans (A_ l).symm) b<|aem l)▸L) (by rw [bC,(A_ l).length_eq];exact ae (bU m.2.1)<|ao Y) m.2.2;have c:=k.1;unfold Cm at c;cases y:eQ z.σ v with
 |some d=>
  rw [y] at c;cases c;rcases C1 f r (s8 y Y) with j|j
  .cases j with|mk e q s t x g j l H=>
   subst H;exact W x<|NV (λ{h} I=>Xt q (aL Y) g Y Y (λo L=>I o _ _ L (VK m.1 j))<|j.q5 l) m.2.1 n
  .cases j with|mk e q s t x g j l H=>
   subst H;exact W x<|NV (λ{h} I=>Xt q (aw Y) g Y Y (λo L=>I o _ _ L (VK m.1 j))<|j.q5 l) m.2.1 n
 |none=>
  rw [y] at c;refine ah (fA c) λb k=>zo f r (M3 k.1 Y) λd q i H c y=>?_;subst y
  induction c with|mk d e t c x g j s l b f=>
  refine W x ?_;have r:=m.1;rw [<-k.2] at r;refine ah (aac (f:=C.dK) (g:=C.w) r j) λq N=>?_;have y:z.s.heap.DictAt _ d q t:=⟨_,e,H _ _ g,⟨Y,Y,Y⟩,Y,λx c=>N.2.2 x<|ak Gp c,N.1,N.2.1▸(abA r<|s V).1⟩;have l:U q<=tY:=by have f:=aq U N.2.1;rw [bC] at f;exact W f<|ae (bU m.2.1)<|by decide
  refine NV (λ{h} I=>kdu_collect (kdl_dict (prog:=C.dK)<|ak kZ b) a y l λo p j L k=>I o p _ L ?_) m.2.1 n;exact ax N.2.1<|ajA (W uc k.1) λj v z=>k.2 j v<|ax (tb) z
def Ų:typeLookup (cJ "list") "keys"=pure none:=am_miss_of_fast (by kernel_rfl)
def afw{E:VP}(c:aH s.heap a=J {cls:=cJ "list",data:=oB d k})(e:ub f=A)
 (h:∀b tk,js s.heap b->g A {s with heap:=b,toks:=tk}):a8 (bM j l) f (getAttr? (w a) "keys") g E s:=by
 obtain⟨m,g,n,tk,o⟩:=s;have p:∀q,jl (⟨m,g,n,q,o⟩:cR) (w a) "list":=λZ=>⟨_,c,Y⟩;have r:=sub_AttributeError;have t:=kV R9;have v:=R9.bind<|w a;have x:=am_list_getattr_none
 repeat (any_goals (first|assumption|exact p _|(with_reducible refine(?_:a8 _ _ (call _ _ _) _ _ _));refine K7 R9 (p _) am_entry_list_getattribute (afr _ _) (meets_getattribute_miss_list a d k #[] "keys" _ Ų (by decide+kernel) (by decide+kernel)) ⟨c,e,λb q y z=>?_⟩|wp_step))
 refine ah z.there λH q=>ah q λI L=>(?_:a8 _ _ _ _ _ _)
 repeat (any_goals (first|assumption|wp_step))
 exact h _ _ z.keeps
def YN:JS Hi "dict.update.loop"=J Builtin.«dict.update.loop»:=XJ (by kernel_rfl)
def XK:plainId "dict.update.loop"=true:=by decide+kernel
inductive ρ(S:kf)(I:PM)(k v:ai)(y:a6):Prop
|mk (a:cC) (b c:a6) (n:O) (e:y=w a) (g:I a=J (lO "tuple" #[b,c] n)) (r1:bD S I k b) (r2:bD S I v c)
def adq{G:Prop}(e:yD (v::r)=J b)(g:∀k x a,v=aR [k,x]->yD r=J a->b=(k,x)::a->G):G:=ah (ib.mp e) λp h=>ah (ib.mp h.1) λl q=>ah (fA h.2) λa c=>by
 cases l with
 |nil=>exact aI q.2|cons k l=>cases l with
  |nil=>exact aI q.2|cons d l=>induction l with
   |nil=>obtain rfl:=aC q.2;exact g k d a (JF q.1) c.1 c.2.symm|cons _ _=>exact aI q.2
def ULc(S)(I)(a)(d b l e:O)(c)(all):=om (cO I a) (aH a l=J (lU c e)) (bS S I all<|cP c) (aH a d=A) (aH a b=A)<|d≠b
def ULs(S)(I)(c)(d e l:O)(a)(f)(h)(b)(n):=j6 (js c h) (h.IsListIter e l f) (aH h d=J (hx b n)) (er S I a<|cP b)<|s4 a 3
def Kz(n:aH a b=A)(g:aH a c=J o):c≠b:=λz=>by rw [z,n] at g;exact aI g
def aiN(Ã:ub k=A)(Ä:gP k+200<k6)(c:ULc C.S È Ò d m o Æ j all){p:cR}
 (Â:∀h tk a n,js Ò h->aH h d=J (hx a n)->er C.S È É (cP a)->s4 É 3->U É<=cu->Á (.ok<|jF bQ) {p with heap:=h,toks:=tk}):
 ∀r (f b:aa<|ai×ai) g (t:Tok) h (tk:O) a (n:O),yD r=J f->r=cq g all->ULs C.S È Ò d m o b g h a n->(∀e∈f,kj e.1=3/\gz e.1=Q)->U b+U f<=cu->f.foldl (λd e=>eW d e.1 e.2) b=É->
  uo (v8) k (tA "dict.update.loop" ⟨[w d,w m,ew g t,bQ],[]⟩) Á {p with heap:=h,toks:=tk}:=by
 refine jb ?_ λÀ r Å=>?_
 .intro f b g t h tk a n N H z y v Ö;obtain rfl:=aC N;subst Ö;have L:h.IsList o j:=⟨_,(z V) _ _ (c J1),Y,Æ,Y⟩;refine ŀ YN<|W (s_ XK _)<|aB<|WO Ã (z J1) L (B2<|(c J2).eP▸List.drop_eq_nil_iff.mp H.symm) λs Ç=>?_;exact aB<|bq<|bq<|Â s tk a n (λI q e=>Ç I q (Kz (c J4) e)<|(z V) _ _ e) (Ç _ _ (c J5) (z J2)) (z J3) (z J4) v
 .refineλf b g t h tk a n N H z y v Ö=>adq N λÊ Ë Ì Í Î Ï=>?_
  subst Í Ï;have L:h.IsList o j:=⟨_,(z V) _ _ (c J1),Y,Æ,Y⟩;have Ð:=zu H.symm;refine ah (yz (c J2) Ð.1) λÑ l=>?_;have Ó:ρ (Cx.S C) È Ê Ë Ñ:=by
   cases l.2 with|mk Ô j n e Õ x Ø=>
   induction x with|mk Ù Ú Û r1 x=>
   induction x with|mk Ü s2 Ý r2 x=>
   exact⟨Ô,Ù,Ü,n,e,ax (show j=#[Ù,Ü] by exact ax (Array.toArray_toList (xs:=j))<|W Û<|W Ý<|W (x:s2=[]) Y) Õ,r1,r2⟩
  induction Ó with|mk Ô Ù Ü Þ ß à r1 r2=>
  have l:=l.1;rw [ß] at l;refine ŀ YN<|W (s_ XK _)<|aB<|H? (z J1) L l λs á â=>?_;have ã:js Ò s:=λI q e=>af (â.2 I<|Kz (c J4) e)<|(z V) _ _ e;have à:=(c V) _ _ à;have ä:=ã _ _ à;have å:=af (â.2 d<|c J5)<|z J2;refine aB<|hR<|aB<|wpAny_tryCatch<|aB<|F0 (s:={p with heap:=s,toks:=tk}) ⟨_,ä,Y⟩<|W (aJ<|by decide+kernel)<|aB<|e! ä Y<|bq ?_;have s:=y _ b8;have æ:ip b Ê:=br s.2<|λe ç=>af ((z J4) J1 e ç) s.1.symm;have I:=N0 (λÔ q e=>ã _ _ ((c V) _ _ e)) å (z J3) ((z J4) V) ((z J4) J2) æ r1;have è:U b+U Ì<cu:=v;refine hR<|DK.set (fe (show gP k+1+100<gP k+200 by lia) Ä) I (cF (dO _ _) è) r2 λh2 é ê ë ì í=>bq ⟨GK _ (by decide+kernel),Å Ì _ (g+1) 0 h2 _ é ê Î Ð.2.symm (ec (λI q e=>af (ì.2 I<|Kz (c J3) e)<|ã _ _ e) ?_ ë í<|s.1▸(z J4).eW æ) (λe ç=>y e<|cz _ ç) ?_ Ö⟩
  .exact á.imp λq x=>br (af (ì.2 m (c J5).symm) x.1) x.2
  .exact ae (fY Qm _)<|ae (c6 (V0 ..)) v
def amq(b:eT)(c:lF)(a:iy=A):sZ .dict (uW):=λ{d e z v y f g E} h j r k l=>by
 cases hU h r k with|mk m n o p e g q s k=>
 refine W e<|ah (et k) λt ep=>?_;have gl:=g;refine callType_codes (Q₁:=λx H=>x=w z.s.heap.objs.size/\H={z.s with heap:=di z.s.heap {cls:=uW,data:=qv #[]}}) aeb (ad3 _) aju (kt_code_dict_new _ ⟨Y,Y⟩) λx H I=>W I.1<|W I.2 ?_;have L:aH (di z.s.heap {cls:=uW,data:=qv #[]}) z.s.heap.objs.size=J {cls:=uW,data:=qv #[]}:=iI _ Y;refine⟨⟨_,L,Y⟩,ak6 _ _,aB<|aB<|RQ ⟨_,L,Y⟩<|bq ?_⟩;have N:=i4 {cls:=uW,data:=qv #[]} gl;refine aB<|F0 ⟨_,N,Y⟩<|W (aJ<|by decide+kernel)<|aB<|afw N a λh1 d v=>aB<|CY<|aB<|Ĳ (s:={z.s with heap:=h1,toks:=d}) ⟨_,v _ _ N,Y,p,Y⟩<|bq ⟨GK _ (by decide+kernel),?_⟩;have y:=v _ _ L;have f:js z.s.heap h1:=λr o e=>v _ _ (i4 _ e);have s:aH z.s.heap h1.objs.size=none:=by
  cases q:aH z.s.heap h1.objs.size with
  |none=>rfl|some o=>exact ay (ic<|f _ _ q)<|kq _
 refine aiN (k:=Aq.in1) a ?_ (e1 (h V).sI gl q (mP _) s<|fH<|ic y) (λh2 k g x H I p N L=>br rfl<|l.oT h H (mP _) I p N L (c! b λn o e=>(h V).sI _ _ (j _ _ e)) ep.2.2) m t [] 0 0 _ d #[] 0 ep.1 rfl (ec (λr o e=>i4 _ (f _ _ e)) ⟨{cls:=cJ "list_iterator",data:=eV #[w n,ew 0 0]},iI _ rfl,rfl,rfl⟩ (i4 _ y) rfl<|bY xC lC lC) ep.2.1.2 ?_ rfl
 .exact cF (show gP Aq+1+200<=gP Aq+300 by lia)<|c V
 .exact W Ll<|W (eJ ..) ep.2.1.1
section
def AM{b:EC}(a):b7 (w c::rJ b.T) (cJ a)=b7 ([jr,qF,e2]:aa a6) (cJ a):=by rw [BH,BH];rfl
def Ŗ{M}(a:aH h b=J (xT b c))
 (d:e () ⟨h,g,f,t,j⟩):a8 M k (Ge "Exception.__new__" ⟨w b::l,[]⟩) e m ⟨h,g,f,t,j⟩:=by
 have n:=Cb;have o:b7 (w b::rJ c.T) (jr)=true:=by simp only [AM,n.hasB]
 have p:=n.noStar;unfold Ge;rw [n.newKind,n.newSplit,n.newRow];dsimp only
 repeat (first|refine uD a ?_|(refine BV a ?_;refine W o ?_)|refine q a ?_|refine Vx a ?_|wp_step|simp only [Hk,D',if_false])
 exact d
def Τ(c:aH h a=J (xT a d))(p:e.In h)
 (q:hy e (w a) "__init__"=J (J<|w l))(r:oH e (w l)=pn)
 (f:a8 (bM m n) o (call (w l)<|w (d8 h.objs+1)::b) (λv s=>v=bQ/\x (.done (jF<|w<|d8 h.objs+1)) s) y ⟨di (di h {cls:=nu,data:=oB<|gU b})
  {cls:=w a,data:=eV #[w h.objs.size,bQ,bQ,bQ,eR u,bQ]},g,j,t,k⟩)(z:U b<=tY):
 a8 (bM m n) o (Builtin.«type.__call__» ⟨w a::b,[]⟩) x y ⟨h,g,j,t,k⟩:=by
 repeat (first|with_reducible refine uD c ?_|with_reducible refine Vx c ?_|wp_step)
 refine codeAny_call_builtin_code (GK _ Cb.quiet)<|Ŗ c ?_;have H {I:CI->cR->Prop} (f:I (.ok<|jF<|w<|d8 h.objs+1) ⟨di (di h {cls:=nu,data:=oB<|gU b})
  {cls:=w a,data:=eV #[w h.objs.size,bQ,bQ,bQ,eR u,bQ]},g,j,t,k⟩):uo (bM m n) o (tA "Exception.__new__" ⟨w a::b,[]⟩) I ⟨h,g,j,t,k⟩:=by
  have L:=Cb;have N:=L.ends;have l:b7 (w a::rJ d.T) (jr)=true:=by simp only [AM,L.hasB]
  have x:b7 (w a::rJ d.T) (cJ "AttributeError")=false:=by simp only [AM,L.noAttr]
  have y:b7 (w a::rJ d.T) (cJ "NameError")=false:=by simp only [AM,L.noName]
  refine codeAny_builtinAt L.entry ?_;unfold Builtin.«BaseException.__new__»;refine _root_.PySem.wpAt_bind ?_;show _root_.PySem.wpAt _ _ _ (DZ>>=_) _ _ _;refine _root_.PySem.wpAt_bind (_root_.PySem.wpAt_stack λz g=> _root_.PySem.wpAt_of_wpAny ?_)
  wp_walk
  refine _root_.PySem.wpAt_of_wpAny (W L.owner ?_)
  repeat (first|with_reducible refine j L.canon c ?_|with_reducible refine uD c ?_|(with_reducible refine BV c ?_;first|refine W l ?_|rw [x]|rw [y])|wp_step)
  show I _ _;exact W (o? ..) f
 refine H ?_;show a8 _ _ _ _ _ _;have t:∀k o,aH h k=J o->aH (di (di h {cls:=nu,data:=oB<|gU b}) {cls:=w a,data:=eV #[w h.objs.size,bQ,bQ,bQ,eR u,bQ]}) k=J o:=
  λk o m=>i4 _ (i4 _ m)
 have n:e.In (di (di h {cls:=nu,data:=oB<|gU b}) {cls:=w a,data:=eV #[w h.objs.size,bQ,bQ,bQ,eR u,bQ]}):=λN o m=>t _ _ (p _ _ m);have z:aH (di (di h {cls:=nu,data:=oB<|gU b})
  {cls:=w a,data:=eV #[w h.objs.size,bQ,bQ,bQ,eR u,bQ]}) (d8 h.objs+1)=J
  {cls:=w a,data:=eV #[w h.objs.size,bQ,bQ,bQ,eR u,bQ]}:=by heap_get
 have g:b7 (w a::rJ d.T) (w a)=true:=by simp
 unfold YQ
 repeat (first|with_reducible refine uD z ?_|(with_reducible refine BV (t _ _ c) ?_;refine W g ?_)|wp_step)
 show a8 _ _ (typeLookup (w a) _) _ _ _;refine(Rh n q).here ?_;refine hR<|aB<|(bind_fn n _ r).here<|aB<|lh f (λv s z=>?_) λZ Z z=>z;exact W z.1<|bq<|bq z.2
def Ŭ(b:aH h a=J (xT a y))(k:d.In h)
 (l:hy d (w a) "__init__"=J (J<|w e))(m:oH d (w e)=pn)
 (n:a8 (bM o p) (Aq.under<|tA "type.__call__" ⟨w a::c,[]⟩) (call (w e)<|w (d8 h.objs+1)::c) (λv s=>v=bQ/\q (w<|d8 h.objs+1) s) r ⟨di (di h {cls:=nu,data:=oB<|gU c})
  {cls:=w a,data:=eV #[w h.objs.size,bQ,bQ,bQ,eR u,bQ]},g,f,t,j⟩)(x:U c<=tY):
 a8 (bM o p) Aq (call (w a) c) q r ⟨h,g,f,t,j⟩:=by
 have z:=tc_lookup;have H:=tc_bind<|w a;have I:jl (⟨h,g,f,t,j⟩:cR) (w a) "type":=⟨_,b,Y⟩;refine Bw<|codeAny_of_tree ?_;show a8 _ _ (callAny (w a) _) _ _ _
 repeat (any_goals (first|assumption|with_reducible refine uD b ?_|wp_step))
 exact br rfl<|codeAny_call_builtin_at (GK _ (by decide+kernel)) entry_typeCall<|wpAny_check_type_call_sub b<|Τ b k l m n x
end
def ŋ(h:Lf v=J a):v=cJ a:=by
 induction v with
 |type b=>exact aq _ (aC h)|_=>exact aI h
def af2:∀{l} {a:aa bo},R Lf l=R J a->l=R cJ a:=by
 intro l
 induction l with
 |nil=>intro a h;induction a with
  |nil=>rfl|cons _ _=>exact AO h
 |cons v r b=>intro a h;induction a with
  |nil=>exact jI h|cons c a=>exact ak Cq ⟨ŋ (Cq.mp h).1,b (Cq.mp h).2⟩
def aiu(h:Q0 v=Q):∃a,v=w a:=by
 induction v with
 |ref a=>exact cL a rfl|_=>exact lQ h
def Y0(h:Fi l=Q):∃r:aa cC,l=R w r++[jr,qF,e2]:=by
 induction l with
 |nil=>exact bR h|cons v r a=>
  have h:aD _ _ _=true:=h;cases e:Q0 v with
  |true=>rw [e] at h;exact ah (aiu e) λb q=>ah (a h) λc z=>⟨b::c,q▸z▸Y⟩|false=>rw [e] at h;exact⟨[],af2 (a:=["Exception","BaseException","object"])<|eq_of_beq h⟩
def aes(h:Fi l=Q):refuseLoop a "__setattr__" l=pure ():=by refine bp (Y0 h) λr e=>W e ?_;clear e h;exact r.rec (by kernel_rfl) λb r c=>af (refuseLoop_ref a _ b _) c
def ae0(h:Fi l=Q):b7 l (e2)=true:=bp (Y0 h) λr e=>W e<|ak gG<|fx _ (.tail _ (.tail _ (.head _)))
open Builtin Builtin.ObjectAttr Builtin.Getset_descriptor in
def Ń{K}{x C}{s:cR}{tk}{r}(c:K.In s.heap)(I:InstAt s.heap x t C y)(l:F1 K C=Q)(m:uk K C d=J r)
 (n:∀f,a8 (bM a b) h.in1 (match r with|some j=>setByDescriptor j (w x) v|none=>storeInOwnDict (w x) (w C) (gT d tk) d v f)
  (λo e=>match o with| .done p=>g (.ok p) e| .again k=>k.quiet=Q/\uo (bM a b) h k g e) (λq e=>g (.error q) e) s):
 uo (bM a b) h (.call (ei "object.__setattr__") ⟨[w x,gT d tk,v],[]⟩) g s:=by
 have z:=ahn;refine aA (Mz l) λH L N=>?_;have x:uO H.mro=false:=by cases q:H.mro with|nil=>rw [q] at N;cases N|cons _ _=>rfl
 have e:Looks (bM a b) s.heap (YQ _ _) true:=I.type.andThen<|I' c<|by unfold IW;exact W L<|W (Option.bind_some ..)<|W (aS<|by refine W x ?_;decide)<|aq _ (ae0 N)
 refine V7 z.slot.plain z.entry<|@check_slot _ _ _ s "object.__setattr__" "object" "__setattr__" _ [gT d tk,v] [] _ z.kind z.split e (z.args _ _ v) (aA (ib.mp m) λg h k=>?_);have o:Looks (bM a b) s.heap (mroOf<|w C) H.mro:=(Cy c L).andThen .now;have p:Looks (bM a b) s.heap (storeTaker? g) r:=by
  induction g with
  |none=>cases k;exact .now|some j=>obtain⟨f,t,rfl⟩:=oW.mp k;refine(looks_takesIn c t).andThen ?_;cases f<;>exact .now
 rw [osa_eq,refuse_eq];exact aB<|aB<|I.type.here<|aB<|o.here<|W (aes N)<|bq<|aB<|I.type.here<|aB<|(Rh c h).here<|aB<|p.here<|n _
abbrev w0(a:cC)(b:bf cC)(t:cC):fO:={cls:=w a,dict:=b,data:=eV #[w t,bQ,bQ,bQ,eR u,bQ]}
abbrev BK:fO:={cls:=uW,data:=qv #[]}
inductive QD(h:iq)(k:O)(d:cC):Prop
|mk (a:hi gy) (n:O) (g:aH h d=J (hx a n)) (r:∀b∈cP a,ve b=u) (l:d8 a<=k)
def EXd(a h)(e)(k)(d):=fF (aH a d=A) (d≠e)<|QD h k d
inductive EX(a h:iq)(f e:cC)(k:O):Prop
|mk (c:bf cC) (t:cC) (g:∀b o,b≠e->aH a b=J o->aH h b=J o) (j:aH h e=J (w0 f c t)) (l:∀d,c=J d->EXd a h e k d)
def Ő(b:ve (f A)=u)(h1:∀e,ve (f<|J e)=ve e):∀{a},zr k l f a=r->(∀e∈a,ve e=u)->(∀e∈r.1,ve e=u)/\U r.1<=U a+1:=by
 intro a c;subst c;refine a.rec (λZ=>⟨gQ b lC,bb _⟩) λx r d=>λh=>?_;have g:=λe m=>h e<|cz _ m;unfold zr;split
 .exact⟨gQ (af (h1 x)<|h x b8) g,e7 _⟩
 .exact⟨gQ (h x b8) (d g).1,b3 (d g).2⟩
section
set_option tactic.hygienic true in
def N?{E:VP}{c:cR}{tk}{d:O}(x:QD h k d)(e:k<60)
 (f:∀b g,uj d h b->QD b (k+1) d->j (.done (jF bQ)) {c with heap:=b,toks:=g}):
 a8 (bM m l) n (do nsSet d a v;lookBehind d (J<|gT a t);ret bQ) j E {c with heap:=h,toks:=tk}:=by
 induction x with|mk o n p q r=>
 refine aB<|aB<|aB<|Ux<|bq<|aB<|Qv<|aB<|E2 p ?_;dsimp only;have s:(!o.any (·.key.isStr a)&&o.any (·.refKey))=false:=by
  have y:o.any (·.refKey)=false:=by
   refine ax Vs ?_;rw [Ii]
   exactλx z=>a4 (q x z)▸hu
  exact W y (qt ..)
 refine W (Ĵ ..)<|W s ?_;have H:∃I L,PI a (if yp (Yo a)=Bool.true then 0 else PySem.reduceHash<|abJ (bx l)<|Yo a) (gT a tk) v (hx o n)=hx I L/\(∀N∈cP I,ve N=u)/\d8 I<=k+1:=by
  unfold PI;dsimp only;split<;>
  .rename_i b c;have g:=Ő Y (λ_=>rfl) c q;exact⟨_,_,Y,g.1,ae g.2<|b3 r⟩
 refine WA p<|ah H λb j=>ah j λL j=>?_;have m:=mw _ p (aq _ j.1);rw [j.1] at m;exact aB<|Uh m (W4<|a4 Hf▸ae j.2.2 (ae e<|by decide))<|bq<|f _ _ (oc h d _) ⟨b,L,m,j.2.1,j.2.2⟩
def EX.In{a:Frag}(x:EX b h f e k)(c:a.In b)(d:b1 e a=A):a.In h:=by induction x with|mk g t j l m=>exactλa o q=>j _ _ (λz=>by subst z;rw [d] at q;cases q) (c _ _ q)
def ajE{E:VP}{d:cR}{K}{tk}(x:EX f h a e k)(g:k<60)(q:K.In f)(r:K.lookup e=A)(j:oJ K a=J s)(l:s.hasDict=Q)
 (m:hy K (w a) "__setattr__"=J (J<|ei "object.__setattr__"))(n:F1 K a=Q)(o:uk K a t=J A)
 (Á:∀b c,EX f b a e (k+1)->v () {d with heap:=b,toks:=c}):a8 (bM y z) H (setAttr (w e) t I) v E {d with heap:=h,toks:=tk}:=by
 have L:=x.In q r
 induction x with|mk N t s v y=>
 induction N with
 |none=>
  have z:InstAt h e _ a none:=⟨v,Y,Y,a0⟩;refine LG L z m<|Ń (s:={d with heap:=h,toks:=tk+1}) L z n o λH=>aB<|bq<|aB<|aB<|E2 v<|aB<|(Cy L j).here<|W l<|aB<|wpAny_alloc ?_;have I:aH (di h BK) e=J _:=i4 _ v;refine aB<|wpAny_update I<|aB<|bq ?_;have x:aH (di h BK) h.objs.size=J BK:=iI _ Y;have AI:=oc (di h BK) e λq=>{q with dict:=J h.objs.size};have nd:=(fH<|ic v).symm;have r:aH (rh (di h BK) e λq=>{q with dict:=J h.objs.size}) e=J _:=mw _ I Y;have N:aH f h.objs.size=none:=by
   cases I:aH f h.objs.size with
   |none=>rfl|some q=>exact ay (ic<|s _ _ nd I)<|kq _
  exact bq<|aB<|bq<|N? ⟨#[],0,af (AI.2 _ nd) x,lC,cQ k⟩ g λb c f k=>Á b c ⟨J h.objs.size,t,λH q x I=>af (f.2 H<|fH<|ic<|s _ _ x I)<|af (AI.2 H x)<|i4 _ (s _ _ x I),af (f.2 e nd.symm) r,λÀ I=>ax (aC I)<|bY N nd k⟩
 |some r=>
  have N:=y r Y;have z:∀y p,aH h r=J (hx y p)->InstAt h e _ a (J _):=λy p a=>⟨v,Y,Y,a⟩;cases(N J2) with|mk y p a Â Ã=>
  exact LG L (z _ _ a) m<|Ń (s:={d with heap:=h,toks:=tk+1}) L (z _ _ a) n o λH=>aB<|bq<|aB<|aB<|E2 v<|aB<|(Cy L j).here<|W l<|bq<|aB<|bq<|N? ⟨y,p,a,Â,Ã⟩ g λb c f k=>Á b c ⟨J r,t,λH q x I=>af (f.2 H λz=>by subst z;rw [N V] at I;exact aI I)<|s _ _ x I,af (f.2 e (N J1).symm) v,λÀ I=>ax (aC I)<|bY (N V) (N J1) k⟩
def ahx{E:VP}{b:cR}{tk}{M}
 (c:aH h a=J (xT a d))(f:aH h e=J g)(j:g.cls=w a)(k:l () {b with heap:=h,toks:=tk}):
 a8 M n (Ge "Exception.__init__" ⟨w e::m,[]⟩) l E {b with heap:=h,toks:=tk}:=by
 have o:=Cb;have p:b7 (w a::rJ d.T) (jr)=true:=W (AM ..)<|W o.hasB Y;have q:=o.noStar;simp only [Ge,o.initKind,o.initSplit,o.initRow]
 repeat (first|(with_reducible refine uD f ?_;refine W j ?_)|with_reducible refine uD c ?_|(with_reducible refine BV c ?_;refine W p ?_)|wp_step)
 refine wpAny_onRaise ?_;rw [show∀a b (n:O),ajy ⟨.positional,"*","Exception", .self,[⟨"args", .varPos,u⟩]⟩ a b n (R (λx=>x.fst) ({pos:=w e::m}:Args).kw)=pure () from
  λa b n=>check_star_args _ _ _ _ _ _]
 exact bq k
def Ŕ{E:VP}{b:cR}{tk}(x:EX c h a e k)(f:a≠e)(g:aH c a=J (xT a n))
 (j:∀d l,EX c d a e k->m bQ {b with heap:=d,toks:=l}):a8 (bM o p) q (call (ei "Exception.__init__") [w e,y]) m E {b with heap:=h,toks:=tk}:=by
 have r:=Cb
 induction x with|mk s t v z H=>
 refine Bw<|V7 r.init.plain r.initEntry<|ahx (v _ _ f g) z Y<|aB<|wpAny_newTuple ?_;have I:aH (di h<|z0 "tuple" #[y] 0) e=J (w0 a s t):=i4 _ z;refine aB<|aB<|ob (s:={b with heap:=di h<|z0 "tuple" #[y] 0,toks:=tk}) I Y Y<|aB<|um (s:={b with heap:=di h<|z0 "tuple" #[y] 0,toks:=tk}) I Y (kv _)<|wpAny_letGo<|bq ?_;have L:=oc (di h<|z0 "tuple" #[y] 0) e<|Ac (·.setIfInBounds 0 (w h.objs.size));refine j _ tk ⟨s,d8 h.objs,λb o N q=>af (L.2 b N)<|i4 _ (v _ _ N q),mw (Ac (·.setIfInBounds 0 (w h.objs.size))) I Y,λd q=>?_⟩;have c:=H d q;cases(c J2) with|mk k n l m p=>exact bY (c V) (c J1) ⟨k,n,af (L.2 d<|c J1)<|i4 _ l,m,p⟩
end
def ND(h:mj a.scope=jo):RE a=false:=by unfold RE;exact W h Y
noncomputable def Hy(e:cC)(y z:a6):bj->bf a6:=λx=>b1 x<|f3 ([(("self":bj),w e),("what",y),("at",z)]:aa<|bj×a6)
def H3{s:cR}{E:VP}(c:ue C d f a)(g:h.Ns L<|Hy e y z)(j:L≠e)(k:EX h b d e r)(l:b1 x (dp<|dX a)=dW)(m:Hy e y z x=J v)(n:(x==("__debug__":bj))=u)(o:p v {s with heap:=b,toks:=q}):
 y9 t (bB (cB x H)<|jU a L f) p E {s with heap:=b,toks:=q}:=by
 refine ah g λI q=>ah q λN q=>ah q λe q=>?_
 induction k with|mk x t s a L=>exact MF (JI (c J1 J3) l ⟨I,N,e,s _ _ j q.1,q.2⟩ m o) n
def j'{s:cR}{E:VP}(À:eT)(a:ue C b j f)(g:c.Ns L<|Hy e y z)(h:L≠e)(l:C.K.In c)(m:b1 e C.K=A)(d:EX c n b e k)(o:k<60)(p:b1 x (dp<|dX f)=dW)(q:Hy e y z x=J v)(r:(x==("__debug__":bj))=u)(t:uk C.K b x=J A)
 (H:∀h2 I,EX c h2 b e (k+1)->N qn {s with heap:=h2,toks:=I}):y9 Á (yY (i7 [fz (cB "self" Â) x Ã] (cB x Ä) Å)<|jU f L j) N E {s with heap:=n,toks:=Æ}:=by
 refine ah (a V J2) λe x=>GG (H3 a g h d p q r ?_) Y Y;refine((W (WS ..)<|aB<|hR<|H3 a g h d (a J1 J6) Y Y<|aB<|rT<|aB<|hR<|ajE d o l m x.1 x.2 (a V J5) (a V J6) t λh3 b c=>?_):a8 _ _ (assign _ _ v) _ _ _)
 exactλs p f=>W (I_ ..)<|H h3 b c
def ahR{E:VP}{z}(b:eT)(a:ue C d f k)(l:iY m<mx)(c:cO C.I0 s.heap)(g:C.I0 e=A)(h:aH s.heap e=J (w0 d A n))
 (o:∀j p,EX s.heap j d e 2->q bQ {s with heap:=j,toks:=p}):y9 m (call (w f) [w e,y,z]) q E s:=by
 refine bp (a V J1) λr t=>zm (a V J9) λv x H I=>?_;obtain⟨Â,N,j,m,p,q,r,v,x,H,À,Á,c3,c4,L⟩:=a J1 FK;have N:C.K.In s.heap:=λj m q=>c _ _ ((b V) _ _ q);have p:b1 e C.K=none:=by
  cases z:b1 e C.K with
  |none=>rfl|some m=>have r:=(b V) _ _ z;rw [g] at r;cases r
 have v:d≠e:=λz=>by subst z;rw [g] at t;cases t
 refine Bw<|VW l (c _ _ I) Y (a J1 J1) (a J1 J2) (L J1) ((a J1 J4) _ c)<|(a J1 JO) _ _ _ _ c _ _ _ _ (f_ (a J1 J5) (gQ (a J1 J6)<|gQ (a J1 J7)<|gQ (a J1 J8) lC) (λx H r=>⟨((b J3) _ c).fresh _ r,l_ ?_⟩)<|a J1 J3);have g:=λl m e=>r.extBut l m (fH<|ic e)<|i4 _ e;have I:cO C.I0 x:=λj m q=>g _ _ (c _ _ q);have r:C.K.In x:=λj m q=>g _ _ (N _ _ q);have c:ahL s.heap s.heap.objs.size x _:=⟨H,g,bb _⟩;have j:=(fH<|ic h).symm;have Ã:hr (jU k s.heap.objs.size f):=bY (a J1 J3) (a V OX)<|a J1 V;refine Aa<|XH (T_ (λZ Z Z=>rfl) Y (show 2<30 by decide) (L V)<|W6 (n:="Exception") b Ã (a J1 J9) Y (a V FK) (by decide+kernel) excClass_Exception.boot I λk=>method_type c N (by kernel_rfl) (by decide+kernel) (a V JO) (by decide+kernel) ?_) (ND<|a J1 J3) Y;have L:EX x x d e 0:=⟨A,n,λl m Z q=>q,g _ _ h,λd q=>aI q⟩;refine ajn Y<|ŕ<|TR<|H3 a H j L (a J1 J6) (v:=w e) Y Y<|TR<|H3 a H j L (a J1 J7) (v:=y) Y Y<|ab5<|Ŕ L v (I _ _ t) λh2 N c=>Aa<|j' b a H j r p c (ao Y) (a J1 J7) Y Y (a V J7) λh3 k x=>Aa<|j' b a H j r p x (ao Y) (a J1 J8) Y Y (a V J8) λe h n=>xY ?_
 induction n with|mk y t v I L=>
 refine o e h ⟨y,t,λl m N q=>v _ _ N (g _ _ q),I,λd q=>?_⟩;have f:=L d q;refine bY ?_ (f J1)<|f J2;cases z:aH s.heap d with
 |none=>rfl|some m=>simp only [<-(f V),g _ _ z]
def aa1{E:VP}(g:wj C)(c:ue C a q r)(j:iY Aq+5<mx)(k:Ok C m n z)(l:Le C.I0 z.I)
 (o:∀e b d f t,z.I e=A->Ok C m n (zh z b d)->aH b e=J (w0 a f t)->p (w e) {z.s with heap:=b,toks:=d}):a8 (bM C.dK C.w) Aq (call (w a) [y,h]) p E z.s:=by
 refine bp (c V J1) λs v=>?_;have x:cO C.I0 z.s.heap:=λH I e=>(k V).sI _ _ (l _ _ e);have L:js z.s.heap (di (di z.s.heap {cls:=nu,data:=oB #[y,h]})<|w0 a A z.s.heap.objs.size):=λN I e=>i4 _ (i4 _ e);have m:aH (di (di z.s.heap {cls:=nu,data:=oB #[y,h]})<|w0 a A z.s.heap.objs.size) (d8 z.s.heap.objs+1)=J (w0 a A z.s.heap.objs.size):=by heap_get
 have n:aH z.s.heap (d8 z.s.heap.objs+1)=none:=by
  cases z:aH z.s.heap _ with
  |none=>rfl|some I=>exact ay (ic z)<|ak fU<|e7 _
 have p:=(k V).qY n;refine Ŭ (x _ _ v) (λH I q=>x _ _ ((g V) _ _ q)) (c V J3) (c V J4) ?_ (by size_fits);refine ahR g c (fe (show iY Aq+1<iY Aq+5 by lia) j) (λH I q=>L _ _ (x _ _ q)) (by
  cases q:C.I0 _ with
  |none=>rfl|some I=>exact ax p.1<|W (l _ _ q) Y) m λb d x=>br rfl ?_
 induction x with|mk f t r g _=>exact o _ b d f t p.1 (k.lK λN I q=>r _ _ (λz=>by subst z;rw [n] at q;exact aI q) (L _ _ q)) g
section
def ah4{E:VP}{M}(d:iy=A)
 (h:a8 M Aq x (λv a=>∃e t c,v=w e/\aH a.heap b=J (xT b f)/\aH a.heap e=J (w0 b c t)/\E (w e) a) E s):
 a8 M Aq (raiseStmt g (J x) A) j E s:=by
 have k:b7 (w b::rJ f.T) (qF)=true:=(AM ..);refine aB<|lh h (λv a l=>ah l λe l=>ah l λt l=>ah l λc l=>W l.1 ?_) λZ Z x=>x;have m:=l.2.1;have n:=l.2.2.1
 repeat (first|with_reducible refine uD n ?_|with_reducible refine uD m ?_|(with_reducible refine BV m ?_;refine W k ?_)|wp_step)
 exact wpAny_raiseNew_none d l.2.2.2
end
def Eg{c:Type}{l:aa c}{G:Prop}(h:U l=2)(g:∀a b,l=[a,b]->G):G:=by
 cases l with
 |nil=>cases h|cons a l=>exact bp (vP<|f7 h) λb e=>g a b<|aq _ e
def aay{E:VP}{M}(c:bZ d f z)(g:rb C z.I e z.s.heap)(b:∀a,Wd z.I z.H d f a->rb C z.I e a->h () {z.s with heap:=a}):a8 M j (setFlight e A) h E z.s:=by
 refine ah g λa x=>?_;rw [x.1] at b⊢;refine ah x.2.2 λk t=>?_
 induction t with|mk l m T n o g p d q r s v y H=>
 refine aB<|ob g d q<|W (aJ (rfl:_=Q)) ?_;have I:=(xr.mp H).1;exact um v y I<|b _ (Ls (c V) r v y) ⟨a,Y,x.2.1,k,l,m,T,_,_,af (MI _ _ s) g,p,d,q,r,s,mw _ v (yQ<|pa y _),pa y _,by refine W (LH)<|W (aJ Y)<|W (aJ I) ?_;rfl⟩
def Z':∀l,cW (kY l n) n=none:=pH Y λy a r b=>by
 refine(?_:cW (aD _ _ _) n=A)
 by_cases q:y=n
 .exact W q<|W (fK ..) b
 .exact W (d4 q)<|af (xc q) b
def rb.un(c:bZ h j z)(e:rb C z.I f z.s.heap){G:Prop}(g:∀a b d,f=w a->z.σ a=A->aH z.s.heap a=J b->b.cls=C.pe->hJ b=eV d->G):G:=by
 refine ah e λa x=>ah x.2.2 λk t=>?_
 induction t with|mk b d T l m n o p q r s v y H=>exact g a b d x.1 ((c J1).no<|(c V).nH.no (c V).sH.pB n p) n o.1 p
def agd{p0}(n:q0 (eO C a) t a c)(o:cd (eO C a) g a<|bB e a)(p:gb c=Q)(q:mG e (J c) p0.line a=pure u)(r:rV [c] e a=pure A)
 (h:bZ d b z)(j:mM Aq z.I b)(k:gn z.I d a l)(s:cN Dq m g l z.σ<|Sz (mN Dq (λZ=>bW) t) l N)(v:tU C a b z N λZ x=>y qn x)(H:PX C d b z (eO C a) m f):dx (v7 [i7 [c] e p0] a) y f z.s:=Aa<|GG (o d b z l _ m _ f h j k s (λI L a z c r1 e=>W (U6 p)<|n d b a l I L N _ _ f c (j.on<|z V) (k.c7<|z V) r1 e (λm t o s x y b=>xY<|v m t o (z.bI s) x y b) λg y k h d x=>b6 x) H) q r
def abd(f:eT)(c:hr a)(d:c5 a (bu x)=dW)(g:c5 a (bu e)=dW)(h:(bu x==("__debug__":bj))=u)(j:bZ k m z)(n:gn z.I k a l)
 (o:tU C a m z (λp q=>p=ey (ey l x<|aj b) e (aj b)/\q=z.σ) λZ=>r qn):y9 t (Si a (bu x)<|w b) (λZ s=>y9 v (v7 [i7 [cB (bu e) y] (cB (bu x) H) I] a) r L s) N z.s:=by
 have sx:∀{k},c5 a (bu k)=dW->yl a _=true:=λm=>ak kR<|aL<|by refine W m ?_;rfl
 refine AR f c (v:=aj b) (K:=λp q=>p=ey l x _/\q=z.σ) (sx d) j n Y ⟨Y,Y⟩ λr s t v y H I=>Aa<|GG (ah H λm L=>ah ((L J1) x _ (W I.1<|Fh l) d) λN a=>MF (JI (c V) d ((L V).ns (y V).sF) a.1 ?_) h) Y Y;exact W (a.2:N=w b)<|BB<|AR f c (v:=aj b) (K:=λp q=>p=ey _ e _/\q=z.σ) (sx g) y H Y ⟨W I.1 Y,I.2⟩ λp k j n r s t=>xY<|o p k j (v.bI n) r s t
def Kn(h:cW (kY (ey l c<|aj b) x) a=J d):a≠x/\cW (ey (ey l x<|aj b) c<|aj b) a=J d:=by
 have e:a≠x:=λq=>by subst q;rw [Z'] at h;cases h
 have h:=NW x _ h;refine br e ?_
 by_cases f:a=c
 .subst f;rw [Fh] at h⊢;exact h
 .rw [wB f] at h;exact W (wB f ..)<|W (wB e ..) h
def aiU(đ:eT)(g:hr a)(Å:px Aq a Á)(h:ue C Ä Â Ã){p0 è é ê ñ ý ÿ}(Þ:q0 (eO C a) ā a b)(Ï:cd (eO C a) e a<|bB d a)(ß:gb b=Q)(Ñ:mG d (J b) p0.line a=pure u)(Ý:rV [b] d a=pure A)
 (j:c5 a (bu x)=dW)(â:c5 a (bu c)=dW)(Î:nG a ç<|w Ä)(À:(bu x==("__debug__":bj))=u):
 ja (eO C a) (.AV ā e x c) a (.Try [i7 [b] d p0] [F4 (J<|cB ç è) (J<|bu x) [i7 [cB (bu c) é] (cB (bu x) ê) ñ] ý] [] [] ÿ):=by
 intro ć Đ Æ Ç È É Ê Ë Ì E Í L v Ð z Ò;obtain⟨Ó,Ô⟩:=h V J1;refine wpAny_Try_except<|agd Þ Ï ß Ñ Ý Í L v Ð (λÕ Ö Ø Ù Ú Û Ü=>xY<|(z V) Õ Ö Ø Ù Ú Û Ü) λe H s y à á=>?_;have I:=v.c7<|s V;refine ah I λã ä=>Qb y (L.on<|s V) Å (ä V) à λh2 å æ=>Yx (y.r8 å) æ λh3 N m=>?_;have n:bZ ć Đ (zh H h3 H.s.toks):=y.r8 N;refine m.un n λo ë ì í î ï ð ĕ=>?_;subst í;refine wpAny_handleBy_cons (codeAny_handlers_test<|Î (λo ò e=>N.sI _ _ ((L.on<|s V) V _ _ e))<|wpAny_excMatches_sub_self (N.sI _ _ ((L.on<|s V) V _ _ Ô)) ï (af ð<|h V V) (show b7 (rJ Ó.T) _=Q by rfl)<|codeAny_handlers_suite_as<|aay n m λó ô õ=>?_) (λö=>by cases ö);have ø:bZ ć Đ (zh H ó H.s.toks):=y.r8 ô;refine abd đ g j â À ø I λù ú û ü q þ r=>ah þ λĀ t=>wpAny_nameGoes_keeps j ((t V).ns (q V).sF) (by refine W (g V) ?_;rfl) λĂ ă Ą ą=>ah Ą λĆ l=>ah l λĈ l=>ah l λĉ l=>?_;cases id (t V) with|mk Ċ ċ ep Č č Ď ď=>
 rw [r.1] at t;exact(z V) _ _ _ (((s.bI .h).bI ü).bI .h) (gH ((q V).Ib Č ą l.1<|by unfold nf;exact W l.2.1 Y)<|q J1) (⟨_,e1 ⟨Ć,Ĉ,ĉ,iK ..,l.2.1,l.2.2.1,l.2.2.2⟩ (λk f e o=>((t J1) k f ((λĒ ē=>Kn) k f e).2 o).imp λĔ p=>br (af (if_neg λĖ=>((λĒ ē=>Kn) k f e).1<|(đ J1) _ _ Ė) p.1) p.2) (λk f e o=>((t J2) k f ((λĒ ē=>Kn) k f e).2 o).put λc Z ė Ĕ Ę ĕ=>(t V).EU Ę ĕ) (λk c e ę=>((t J3) k c e ę).imp λò p=>p.imp λĚ p=>br (af (lN<|(t V).EU p.1 p.2) p.1) p.2) (t J4)<|Qu<|t J5⟩) (W r.2<|á o î)
def ade:∀{l:aa<|bj×a6},bw (R (·.1) l)->(k,v)∈l->b1 k l=J v:=by
 intro l;refine l.rec (λZ h=>bG h) λq r a=>λnd h=>?_;have nd:=jc.mp nd
 induction q with|mk j b=>
 exact W qT<|aO (mc h) (λe=>by cases e;exact W (jL ..) Y) λh=>W (ak kZ λz=>nd.1 (ak jO ⟨_,h,z⟩):_=u)<|a nd.2 h
def Mb(a:uK b=[(("__class__":bj),c)])(e:b1 n (uK b)=J d):n="__class__"/\d=c:=by
 rw [a,qT] at e
 by_cases q:n="__class__"
 .subst q;exact br rfl<|a4<|aC e
 .rw [show _=u from ak kZ q] at e;exact aI e
def afA{b:O}(g:wj C)(k:cm iS l=J d)(c:Bu C d b r s a t h)(f:uK a=[(("__class__":bj),v)])(m:iY e<mx)(o:∃i,nW e=J i)(p:∀x∈dp (dX a),x.2≠ho)(j:∀x∈d.e5,b1 (C.S.nm x) (dp<|dX a)=dW)
 (q:∀L,Ht C (aK n) (ta e<|jU a L b) (eO C<|jU a L b) (sg h<|jU a L b) d.gY (jU a L b)<|v7 h<|jU a L b):uv C (aK<|n+1) e l b:=by
 refineλy z H I N À h l r Á t v N h=>ah (Yv k v) λk v=>ah ((c J9) z.s z.I H I k (l V).sI r t v.1) λH I=>ah I λt I=>ah o λi k=>?_
 have o:=af I.2.1.symm I.2.2.1.vg;refine ks_codeAny_call_defAt m ((l V).sI _ _ (r _ _ (c V))) Y ((g J3) _ λm L s=>(l V).sI _ _ (r _ _ s)) ((c J7) _ λm L s=>(l V).sI _ _ (r _ _ s)) (c J1) I.2.2.2 p (λx h=>Ub (q:=λp=>b1 p (dp<|dX a)=dW) o j h) (λh1 p Â=>?_) (c J5) (c J6)<|c J4;have x:Pm z.s z.s.heap.objs.size _ [] (λZ=>A) {z.s with heap:=h1,toks:=gu z.s+U (n4 C.S.nm d.e5 t)}:=
  ⟨⟨⟨h1,_,Y⟩,p,Â,bb _⟩,λZ Z s=>aI s,h9,λZ Z s=>bG s⟩
 have Ã:bw (R (·.1)<|n4 C.S.nm d.e5 t):=W (Lr o)<|Nm (g J1)<|c J8;have g:g6 C z.I (ER h1 z.s.heap.objs.size []) (jU a z.s.heap.objs.size b) (q3 d.e5 H):=by refine ah p λL t=>ah t λo t=>ah t λep t=>YS Y I.2.2.1 ⟨L,o,ep,C8 (aL Y) t.1,t.2.1,t.2.2.1,t.2.2.2⟩ (λd Z H p m=>ade (W B8<|ak (uZ<|List.reverse_perm _) Ã)<|ak vZ p) (λd L H p m=>ay (j d L)<|QR m) (λn t s o=>ay (Mb f s).1 o) λn j t s m=>af (Mb f s).1 (Mb f m).1.symm
 have d:Up C (ta e<|jU a z.s.heap.objs.size b) z.I y:=ZM k r Á;have H:px (ta e<|jU a z.s.heap.objs.size b) _ i:=bY (wV k) Y<|c J4;exact q _ _ y (zh z h1 _) _ _ _ _ À _ _ (gH (Ķ (l V) x)<|l J1) d g (I.1▸v.2) (Xe<|N.on .h) (UG H d<|h.on .h)
def jJ(h:dq a x k=Q):i6 a x=J k:=by
 unfold dq at h;cases e:i6 a x with
 |none=>exact bR<|e▸h|some j=>rw [e] at h;exact aq J<|d9 h
def U_{G:Prop}(h:i6 (p::r) x=J j)(a:p.1=x->p.2=j->p.2≠4->G)(b:(p.2≠4->p.1≠x)->i6 r x=J j->G):G:=by
 have h:aD _ _ _=J j:=h
 by_cases q:p.2=4
 .rw [q] at h;exact b (λz=>b6<|z q) h
 .rw [d4 q] at h
  by_cases c:p.1=x
  .rw [c,fK] at h;exact a c (aC h) q
  .rw [d4 c] at h;exact b (λZ=>c) h
def DF(h:p.2≠4):yI a p=(a p.1,xX p.2):=by unfold yI;exact W (d4 h) Y
def Ŀ(h:p.2=4):yI a p=(("__class__":bj),kt):=by unfold yI;exact W h Y
section
variable{nm:O->bj}{X:aa<|O×O}{a:O}{c:O}
def Bf(e:∀b d,nm b=nm d->b=d)(jI:∀b,nm b≠"__class__"):∀{X},i6 X a=J c->b1 (nm a) (nZ nm X)=J (xX c):=by
 intro X;refine X.rec (λh=>by cases h) λp r f=>λh=>((U_ h (λg j k=>?_) λl h=>?_):b1 (nm a) (yI nm p::nZ nm r)=_)
 .simp only [DF k,qT,g,jL,j]
 .rw [qT,show _=u from ak kZ λq=>?_]
  .exact f h
  .by_cases m:p.2=4
   .rw [Ŀ m] at q;exact jI a q
   .rw [DF m] at q;exact l m (e _ _ q).symm
end
def Pt:∀{X},(n,k)∈nZ a X->∃p∈X,yI a p=(n,k):=by intro X;exact X.rec bG λp r b=>λh=>aO (mc h) (λe=>⟨p,b8,a4 e⟩) λh=>(b h).imp λq h=>br (cz _ h.1) h.2
def Z6:∀{a},i6 a x=J j->(x,j)∈a:=by intro a;refine a.rec (λh=>by cases h) λp r b=>λh=>U_ h (λc d Z=>by refine ax c ?_;refine ax d ?_;exact b8) λZ h=>cz _ (b h)
abbrev sM:=Df C
def Z?(c:eT)(d:dp a.scope=nZ bu b)(e:∀x,i6 b x=J 3->∃f,b1 (bu x) (gf a)=J f):sM a b:=
 have go:∀{x j},i6 b x=J j->c5 a _=J (xX j):=λ{x j} h=>by show b1 _ (dp a.scope)=_;exact W d (Bf (c J1) (c J2) h)
 (dS (λx h=>go h) (λx h=>aw<|go h) (λx h=>go h) λx h=>⟨go h,e x h⟩)
def OF{a:Type}{b}:∀{l:aa<|bj×a},b1 n l=J b->(n,b)∈l:=λh=>PySem.mem_of_lookup_some h
noncomputable def vR(a:jX):aa (bj×yx)->aa (bj×cC)->aa (bj×cC)
|[],b=>b|p::r,b=>vR a r (if p.2==kt then(match b1 p.1 (gf a) with|some a=>(p.1,a)::b|none=>b) else b)
def aho{n:bj}{G:Prop}(h:b1 n (p::r)=J b)(f:n=p.1->p.2=b->G)(g:n≠p.1->b1 n r=J b->G):G:=by
 induction p with|mk m c=>
 rw [qT] at h
 by_cases q:n=m
 .rw [q,jL] at h;exact f q<|aC h
 .rw [show _=u from ak kZ q] at h;exact g q h
def Jf{a:Type}{b}{r:aa<|bj×a}:b1 n ((n,b)::r)=J b:=by simp only [qT,jL]
section
set_option tactic.hygienic true
def aat:∀{a} {b},(∀n c,b1 n b=J c->b1 n (gf d)=J c)->∀n c,b1 n (vR d a b)=J c->b1 n (gf d)=J c:=by
 intro a;refine @(a.rec (λh=>h) λp r e=>?_);intro b h;refine e λf g j=>?_;split at j
 .split at j
  .rename_i a k;exact aho j (λq z=>by simp only [q,<-z];exact k) λ_ z=>h _ _ z
  .exact h _ _ j
 .exact h _ _ j
def akc(c:b1 n (gf e)=J d):∀{a} {b},(n,kt)∈a\/b1 n b=J d->b1 n (vR e a b)=J d:=by
 intro a;refine @(a.rec (λh=>aO h bG id) λp r f=>?_);intro b h;refine f<|aO h (λh=>aO (mc h) (λe=>?_) aL) λh=>aw ?_
 .exact ax e<|aw<|W (aJ (rfl:_=Q))<|W c Jf
 .split
  .split
   .rename_i a g
    by_cases q:n=p.1
    .subst q;rw [c] at g;obtain rfl:=aC g;exact Jf
    .exact W qT<|W (ak kZ q:_=u) h
   .exact h
  .exact h
end
def Xs:∀{l},E3 l=Q->bw l:=by intro l;refine l.rec (λZ=>xC) λx r a=>λh=>?_;have h:=iO h;refine ak jc ⟨λm=>?_,a h.2⟩;have b:=oY h.1 x m;rw [fK] at b;exact bR b
def HL(X)(x j):=(j=0\/j=2)\/(j=1/\i6 X x=J 3)
def MT(h:E7 a b=Q)(m:(x,j)∈b):HL a x j:=
aO (kR.mp<|oY (iO h).1 _ m) (λh=>aL<|aO (kR.mp h) (λh=>aL<|d9 h) λh=>aw<|d9 h) λh=>aw ⟨d9 (iO h).1,jJ (iO h).2⟩
def HL.lt(h:HL a x j):j≠4:=aO h (λh=>aO h (λe=>by refine W e ?_;decide) λe=>by refine W e ?_;decide) λh=>by refine W h.1 ?_;decide
def N! :∀{a},j≠4->bw (R (·.1) a)->(x,j)∈a->i6 a x=J j:=by
 intro a b;refine a.rec (λZ h=>bG h) λp r c=>λnd h=>?_;have nd:=jc.mp nd;refine(aO (mc h) (λe=>?_) λh=>?_:aD _ _ _=J j)
 .exact ax e<|W (d4 b)<|W (fK ..) Y
 .refine W (c nd.2 h) ?_;cases aE p.2 4 with
  |true=>rfl|false=>exact W (d4 λq=>nd.1<|ak jO ⟨_,h,a4 q⟩) Y
def aad:∀{a},(x,0)∈a->∀l,cW (su a l) x=none:=by
 intro a;refine a.rec bG λp r b=>λh l=>(?_:cW (aD _ _ _) x=A);refine aO (mc h) (λe=>?_) λh=>by cases aE p.2 0<;>exact b h _
 refine ax e (?_:cW (su r<|kY l x) x=A);cases z:cW _ x with
 |none=>rfl|some v=>exact a4<|af (Z' l).symm<|Vg z
noncomputable def Cc(a)(n)(k):=if(k==kt&&mj a.scope==jo&&c5 a n==J ho)=Q then ho else k
def E! :c5 (gS b (vR a (dp b) []) c a) n=(b1 n<|dp b).map (Cc a n):=by
 show(R _ (dp b)).lookup n=_;generalize dp b=d;refine d.rec Y λp r e=>?_
 induction p with|mk m j=>
 refine W ud ?_;have f:(if(j==kt&&mj a.scope==jo&&c5 a m==J ho)=Q then(m,ho) else(m,j))=(m,Cc a m j):=by unfold Cc;split<;>rfl
 refine W (qT:b1 n ((m,j)::r)=_)<|((W f<|W qT ?_):((if _=Q then _ else(m,j))::R _ r).lookup n=_)
 by_cases q:n=m
 .exact W q<|W (jL ..) Y
 .exact W (ak kZ q:_=u) e
def g!(Ñ:eT)(m:hr a)(Ê:sM a g)(h:E7 g d=Q)(É:mj c=jo)(l:dp c=nZ bu d):∃f,zY C a c f d/\∀b,sM (gS c f b a) d:=by
 have nd:=Xs (iO h).2;have o:∀{p q},(p,q)∈dp c->∃x r,p=bu x/\q=xX r/\(x,r)∈d/\HL g x r:=λ{p q} s=>by rw [l] at s;refine ah (Pt s) λt v=>?_;have y:=MT h v.1;have e:=v.2;rw [DF y.lt] at e;cases e;exact⟨t.1,t.2,Y,Y,v.1,y⟩
 have H:∀{x r},i6 d x=J r->b1 _ (dp c)=J _:=λI=>W l<|Bf (Ñ J1) (Ñ J2) I;have À:∀p,(p,kt)∈dp c->d7 (b1 p<|gf a)=true:=λp s=>ah (o s) λx N=>ah N λr N=>by
  rcases N.2.2.2 with (I|I)|I
  .rw [I] at N;cases N.2.1
  .rw [I] at N;cases N.2.1
  .exact ah ((Ê J3) x I.2).2 λv l=>by rw [N.1,l];rfl
 have Ì:∀{p q} b,c5 (gS c _ b a) p=J q->∃x,p=bu x/\((q=wD/\(x,0)∈d)\/(q=qk/\(x,2)∈d)\/(q=ho/\(x,1)∈d/\i6 g x=J 3)):=λ{p q} b I=>by
  rw [E!] at I;refine ah (fA I) λÁ I=>ah (o<|OF I.1) λx N=>ah N λr N=>⟨x,N.1,?_⟩;rw [<-I.2,N.2.1];rcases N.2.2.2 with (e|e)|e
  .rw [e] at N⊢;exact aL ⟨Y,N.2.2.1⟩
  .rw [e] at N⊢;exact aw<|aL ⟨Y,N.2.2.1⟩
  .rw [e.1] at N⊢;refine aw<|aw ⟨?_,N.2.2.1,e.2⟩;unfold Cc;simp only [N.1,((Ê J3) x e.2).1,m V];rfl
 have m:∀{x r} b,i6 d x=J r->c5 (gS c (vR a (dp c) []) b a) (bu x)=J _:=λb I=>by simp only [E!,H I];rfl
 have Â {f:aa<|bj×cC} {g:aa<|O×O} (d:mj c=jo) (Ã:∀x∈dp c,x.2≠ho) (Ä:∀x∈dp c,x.2=wD->b1 x.1 (dp c)=dW) (Å:NQ c a=pure f) (Æ:∀p y,b1 p f=J y->b1 p (gf a)=J y) (Ç:∀b p,t8 (gS c f b a) p->t8 a p/\∀y,b1 p (gf a)=J y->b1 p f=J y) (È:∀b x,c5 (gS c f b a) (bu x)=dW->∀n,cW (su g n) x=A):zY C a c f g:=ke d Ã Ä Å Æ Ç È;refine⟨vR a (dp c) [],Â É (λx f e=>?_) (λx f e=>?_) ((by
  rw [NQ];have go:∀g (k:aa _),(∀p,(p,kt)∈g->d7 (b1 p<|gf a)=Q)->
   (forIn (m:=lP) g k λx L=>(match x with|(Í,d)=>if(d==kt)=Q then do let v<-KT a Í;pure (uQ<|(Í,v)::L) else pure<|uQ L))=pure (vR a g k):=by
   refine jb (λk Z=>rfl) λt L Î=>λk Ï=>?_;have Ð:=λË s=>Ï Ë<|cz _ s
   induction t with|mk p q=>
   refine W (Mu ..) ?_;show _=pure (vR a L (if q==kt then _ else k))
   by_cases e:q=kt
   .subst e;refine ah (vx.mp<|Ï p b8) λv l=>?_;have j:KT a p=pure v:=by unfold KT;exact W l Y
    simp only [j,l,pure_bind];exact Î _ Ð
   .have j:_=false:=ak kZ e;simp only [j,D',if_false,pure_bind];exact Î _ Ð
  have j:=go (dp c) [] À
  simpa using j)) (λp y e=>aat (λZ Z e=>by cases e) p y e) (λb p I=>?_) λb x I n=>?_,λb=>dS (λx I=>m b I) (λx I=>?_) (λx I=>m b I) λx I=>?_⟩
 .refine ah (o f) λa N=>ah N λr N=>?_;rw [N.2.1] at e;rcases N.2.2.2 with (z|z)|z
  .rw [z] at e;cases e
  .rw [z] at e;cases e
  .rw [z.1] at e;cases e
 .refine ah (o f) λa N=>ah N λr N=>?_;rw [N.2.1] at e;rcases N.2.2.2 with (z|z)|z
  .simp only [N.1,H<|N! N.2.2.2.lt nd N.2.2.1,e]
  .rw [z] at e;cases e
  .rw [z.1] at e;cases e
 .refine aO I (λI=>?_) λI=>?_
  .refine ah (Ì b I) λx N=>?_;rcases N.2 with e|e|e
   .cases e.1
   .cases e.1
   .exact W N.1<|⟨aL ((Ê J3) x e.2.2).1,λy h=>akc h<|aL<|OF<|H<|N! (ao Y) nd e.2.1⟩
  .refine ah (Ì b I) λx N=>?_;rcases N.2 with e|e|e<;>cases e.1
 .refine ah (Ì b I) λy N=>?_;rcases N.2 with e|e|e
  .exact W ((Ñ J1) _ _ N.1)<|aad e.2 n
  .cases e.1
  .cases e.1
 .refine W (m b I) ?_;unfold Cc;split
  .exact aL Y
  .exact aw Y
 .rcases MT h (Z6 I) with (e|e)|e
  .cases e
  .cases e
  .cases e.1
def abx{C}{fT}(c:wj C)(nd:∀x,(C.S.nm x==("__debug__":bj))=u)(d:∀x,(C.S.nm x==("__classdict__":bj))=u)(e:∀(g:O) p,Be[g]?=J p->C.S.nm p.1=p.2/\C.mg p.2=A)(h:C.S.nm 261="ParseError")(j:∀x v,cm Fw x=J v->∃y,C.mg (C.S.nm x)=J y/\bD C.S C.I0 v y)(k:∀f,fT f=Q->∃a,C.fa f=J a/\C.mg (C.S.nm f)=J (w a))(l:∀f a,C.fa f=J a->wz C.K (w a)=Q)(m:∃b n o,ue C b n o/\C.mg "ParseError"=J (w b)/\wz C.K (w b)=Q):vz C fT:=ĸ c nd d e h j k l m
def aU(h:(a&&b)=Q):a=Q/\b=true:=iO h
def oF{G:Prop}(h:(a||b)=Q)(f:a=Q->G)(g:b=Q->G):G:=aO (kR.mp h) f g
def nY(h:(!a)=Q):a=false:=by cases a;rfl;cases h
def Df.gk(a:sM b c)(h:dq c n 2=Q):c5 b (C.S.nm n)=J qk:=(a J2) n<|jJ h
def Df.vis(a:sM b c)(h:U1 c n=Q):c5 b (bu n)=dW\/t8 b (bu n):=
oF h (λh=>aL<|(a V) n<|jJ h) λh=>aw<|oF h (λh=>(a J1) n<|jJ h) λh=>aL ((a J3) n<|jJ h).1
def Df.Cn(a:sM b c)(h:u9 c n=Q):yl b (bu n)=Q:=
oF h (λh=>ak kR<|aL<|by refine W ((a V) n<|jJ h) ?_;rfl) λh=>ak kR<|aw (by have c:=(a J3) n<|jJ h;exact ah c.2 λa d=>by refine W c.1<|W d ?_;rfl)
abbrev jw:=wR C Dq Aq
def vz.bi(g:lR)(a:jw l c m d)(b:O){id}(e:Be[b]?=J (id,s))(f:dq c id 2=Q)(h:(s==("__debug__":bj))=u)(j:s≠"__name__")(k:tP s=J v):nG d s v:=by
 have n:=(g J3) b _ e;have o:=(a J3).gk f;rw [n.1] at o
 exactλ{_ _ _ _ _} p q=>W6 (g V) (a V) o h n.2 j k p q
def dR{G:Prop}(h:u=Q):G:=b6<|hu h
noncomputable def Œ(n:O):=[0,2,3,5,6,8,15,16,19,20,21,23,24,25].any<|aE n
def OG(c a)(x):=PC (gb x=Q) (FW x=Q) (∀o,JD o x=u) (∀b v,EM x b v=pure v) (c=u->∀t l b,mG x t l b=pure u) (∀d n p l b,mG x (J<|fz d n p) l b=pure u) (∀d e p l b,mG x (J<|tp d e p) l b=pure u) (∀v k p l b,mG x (J<|gi v k p) l b=pure u)<|a=u->∀v k p b,rV [gi v k p] x b=pure A
def ny(c:gb x=Q)(d:FW x=Q)(e:∀o,JD o x=u)(f:∀a v,EM x a v=pure v)(g:h=u->∀t l a,mG x t l a=pure u)(j:∀b n p l a,mG x (J<|fz b n p) l a=pure u)(m:∀b q p l a,mG x (J<|tp b q p) l a=pure u)(r:∀v k p l a,mG x (J<|gi v k p) l a=pure u)(s:y=u->∀v k p a,rV [gi v k p] x a=pure A):OG h y x:=ĸ c d e f g j m r s
def tt:Q=true:=Y
def ff:u=false:=Y
def cV:(pure u:lP ba)=pure false:=Y
def pJ:(pure A:lP<|bf<|aa bj)=pure none:=Y
def n3(v):(pure v:lP a6)=pure v:=Y
def CT(a:Zq.E->Prop)(k:O):=aD (aE k 1) (∀b,a<|eb b)<|aD (aE k 8) (∀b c d,a<|hC b c d)<|aD (aE k 15) (∀b,a<|oP b)<|aD (aE k 17) (∀b c,a<|fL b c)<|aD (aE k 23) (∀b c d,a<|ql b c d)<|aD (aE k 24) (∀b c d e f g h,a<|nj b c d e f g h) bW
def Bx{k:O}(e)(h:aE e.ctorIdx k=Q)(q:CT a k):a e:=
E.casesOn (motive:=λe=>CT a e.ctorIdx->a e) e (λZ q=>b6 q) (λa q=>q a) (λZ q=>b6 q) (λZ Z q=>b6 q) (λZ Z q=>b6 q) (λZ q=>b6 q) (λZ Z Z q=>b6 q) (λZ Z q=>b6 q) (λa b c q=>q a b c) (λZ Z Z q=>b6 q) (λZ Z Z Z Z q=>b6 q) (λZ Z Z q=>b6 q) (λq=>b6 q) (λZ Z q=>b6 q) (λZ q=>b6 q) (λa q=>q a) (λq=>b6 q) (λa b q=>q a b) (λZ q=>b6 q) (λZ Z Z q=>b6 q) (λZ Z Z q=>b6 q) (λZ Z q=>b6 q) (λZ Z Z q=>b6 q) (λa b c q=>q a b c) (λa b c d e f g q=>q a b c d e f g) (d9 h▸q)
def ag2(h:(Œ x.ctorIdx&&((c|| !aE x.ctorIdx 8)&&(a|| !aE x.ctorIdx 25)))=Q):OG c a x:=by
 have h1:=(aU h).1;have h2:=(aU (aU h).2).1;have h3:=(aU (aU h).2).2;clear h;cases x with
 |BoolOp=>exact ny tt tt (λZ=>ff) (λZ=>n3) (λZ Z Z Z=>cV) (λZ Z Z Z Z=>cV) (λZ Z Z Z Z=>cV) (λZ Z Z Z Z=>cV) λZ Z Z Z Z=>pJ|BinOp=>exact ny tt tt (λZ=>ff) (λZ=>n3) (λZ Z Z Z=>cV) (λZ Z Z Z Z=>cV) (λZ Z Z Z Z=>cV) (λZ Z Z Z Z=>cV) λZ Z Z Z Z=>pJ|UnaryOp=>exact ny tt tt (λZ=>ff) (λZ=>n3) (λZ Z Z Z=>cV) (λZ Z Z Z Z=>cV) (λZ Z Z Z Z=>cV) (λZ Z Z Z Z=>cV) λZ Z Z Z Z=>pJ|IfExp=>exact ny tt tt (λZ=>ff) (λZ=>n3) (λZ Z Z Z=>cV) (λZ Z Z Z Z=>cV) (λZ Z Z Z Z=>cV) (λZ Z Z Z Z=>cV) λZ Z Z Z Z=>pJ|Dict=>exact ny tt tt (λZ=>ff) (λZ=>n3) (λZ Z Z Z=>cV) (λZ Z Z Z Z=>cV) (λZ Z Z Z Z=>cV) (λZ Z Z Z Z=>cV) λZ Z Z Z Z=>pJ|ListComp=>exact ny tt tt (λZ=>ff) (λZ=>n3) (λh=>by rw [h] at h2;exact dR h2) (λZ Z Z Z Z=>cV) (λZ Z Z Z Z=>cV) (λZ Z Z Z Z=>cV) λZ Z Z Z Z=>pJ|Compare=>exact ny tt tt (λZ=>ff) (λZ=>n3) (λZ Z Z Z=>cV) (λZ Z Z Z Z=>cV) (λZ Z Z Z Z=>cV) (λZ Z Z Z Z=>cV) λZ Z Z Z Z=>pJ|Call=>exact ny tt tt (λZ=>ff) (λZ=>n3) (λZ Z Z Z=>cV) (λZ Z Z Z Z=>cV) (λZ Z Z Z Z=>cV) (λZ Z Z Z Z=>cV) λZ Z Z Z Z=>pJ|Constant=>exact ny tt tt (λZ=>ff) (λZ=>n3) (λZ Z Z Z=>cV) (λZ Z Z Z Z=>cV) (λZ Z Z Z Z=>cV) (λZ Z Z Z Z=>cV) λZ Z Z Z Z=>pJ|Attribute=>exact ny tt tt (λZ=>ff) (λZ=>n3) (λZ Z Z Z=>cV) (λZ Z Z Z Z=>cV) (λZ Z Z Z Z=>cV) (λZ Z Z Z Z=>cV) λZ Z Z Z Z=>pJ|Subscript=>exact ny tt tt (λZ=>ff) (λZ=>n3) (λZ Z Z Z=>cV) (λZ Z Z Z Z=>cV) (λZ Z Z Z Z=>cV) (λZ Z Z Z Z=>cV) λZ Z Z Z Z=>pJ|Name=>exact ny tt tt (λZ=>ff) (λZ=>n3) (λZ Z Z Z=>cV) (λZ Z Z Z Z=>cV) (λZ Z Z Z Z=>cV) (λZ Z Z Z Z=>cV) λZ Z Z Z Z=>pJ|List=>exact ny tt tt (λZ=>ff) (λZ=>n3) (λZ Z Z Z=>cV) (λZ Z Z Z Z=>cV) (λZ Z Z Z Z=>cV) (λZ Z Z Z Z=>cV) λZ Z Z Z Z=>pJ|Tuple=>exact ny tt tt (λZ=>ff) (λZ=>n3) (λZ Z Z Z=>cV) (λZ Z Z Z Z=>cV) (λZ Z Z Z Z=>cV) (λZ Z Z Z Z=>cV) (λh=>by rw [h] at h3;exact dR h3)|_=>exact dR h1
def gX(e)(x):OG (OT e) (vj e) (rE a mn e x):=ag2 (by
 induction e with
 |CM f a=>cases f<;>exact tt|EE f a b=>cases f<;>exact tt|_=>exact tt)
def uf(e):∀a,U (hz b mn e a)=mf e:=by
 induction e with
 |cons c r _ d=>exactλa=>aq _ (d a.tail)|_=>exactλZ=>rfl
def D5(e):∀a,qK (hz b mn e a)=true:=by
 induction e with
 |cons c r _ d=>exactλa=>ak dn ⟨(gX c _) V,d a.tail⟩|_=>exactλZ=>rfl
def adi{x:cX}(h:U l≠0):NB (d2 (cB f p) l [] x.pos):=by
 induction l with
 |nil=>exact ay Y h|cons _ _=>exactλZ Z a=>Gm a
def Dg(h:(!o7 e)=Q)(x):NB (rE a mn e x):=by
 induction e with
 |CM f b=>cases f<;>exactλZ Z c=>Gm c|EE f b b=>cases f<;>exactλZ Z c=>Gm c|call f d=>exact adi (l:=hz a mn d (pt x).tail) (by rw [uf];exactλq=>by rw [show o7 _=aE (mf d) 0 from Y,q] at h;exact bR h)|_=>exactλZ Z c=>Gm c
def BS(h:tC x=Q):(n8 (h1 x).pos==lL x.pos)=true:=ak qJ<|d9 h
def Av(h:kQ e=Q):e=kr bk:=by
 induction e with
 |lit v=>exact aq kr<|Ec h|_=>exact dR h
def aaI(h:tB e=Q):e=kr (bT Q):=by
 induction e with
 |lit v=>exact aq kr<|(by
  cases v with
  |bool b=>exact aq bT h|_=>exact dR h)
 |_=>exact dR h
def YY{f:O->ba}(h:aE e.ctorIdx 1=Q)(a:f (ep e).n=Q):∃n,e=eb n/\f n=Q:=
Bx (a:=λe=>f (ep e).n=Q->∃n,e=eb n/\f n=Q) e h (λn a=>⟨n,Y,a⟩) a
def JA(h:GI f e=Q):∃n,e=eb n/\f n=true:=YY (aU h).1 (aU h).2
def SK(e):xx f e=Q->∀b,∃a,e=q7 a/\hz bu mn e b=je C a/\(∀q∈a,f q.1=Q)/\Tc e=R (·.1) a:=by
 induction e with
 |nil=>exactλZ b=>⟨[],Y,Y,lC,Y⟩|cons c r _ d=>intro h b;have h:=aU h;have h2:=aU h.2;exact ah (d (ak dn ⟨h.1,h2.2⟩) b.tail) λa q=>ah (JA h2.1) λn v=>W v.1<|⟨(n,(hE b).pos)::a,aq _ q.1,aq _ q.2.1,gQ v.2 q.2.2.1,aq _ q.2.2.2⟩|_=>exactλh=>dR (aU h).1
variable{s:PT}{n:vs}{o:EF}{c:jX}{X r:aa<|O×O}{h j:ba}{a p t d g k:Zq.E}{b m:cX}{q:aa cX}{f:O}{l:lq}
def VG(C)(s)(n)(o)(j)(a)(c)(b):=aD j (e? C s n o a c b)<|vk C s n o a c<|bB b c
abbrev fM:=VG C Dq Aq
def iE(g:PlT b)(d:cd o a c<|bB b c):fM o j a c b:=by
 induction j
 .exact d
 .exactλh k n p q r s E t q s e v l x=>isTrue_plain (d h k n p _ r _ E t q s e (λd m h k n r1 p=>JV n r1 (v _ _ p).tr λj f r=>l j d ⟨h.I,h.H,h.σ,{h.s with toks:=f}⟩ (k.bI Nx.h) (n.lK<|xj _) r p) x)<|g _ _
def abw(a:fM o j d c b)(h:fM o j g c m):fM o j (.and d g) c (zp .And [b,m] l):=by
 induction j
 .refineλk n p q Â s À E e v x y z H=>wpAny_And2<|a k n p q _ s _ E e v x y (λI L N L t r1 Á=>JV t r1 Á λj f r=>?_) H
  induction j with
  |true=>exact h k n _ q _ s _ E (t.lK<|xj _) (v.on<|L V) (x.c7<|L V) r (z.on<|L.bI .h) (H.on<|L.bI .h)|false=>exact(z.on L).fq t r1 r
 .refineλk n p q Â s À E e v x y z l H=>TX<|a k n p q _ s _ E e v x y (λI a p=>vO p) (λj I N L t a r=>?_) H
  have r:=a _ r
  induction j with
  |false=>exact l u I N L t a r|true=>
   refine TX<|h k n N q Â s _ E t (v.on<|L V) (x.c7<|L V) r z (λj I p h k a r=>?_) (H.on L);have n:=l j I p (L.bI h) k a r
   induction j with
   |true=>exact isTrue_and_nil n|false=>exact n
def aaY(a:fM o j d c b)(h:fM o j g c m):fM o j (.or d g) c (zp .Or [b,m] l):=by
 induction j
 .refineλk n p q Â s À E e v x y z H=>wpAny_Or2<|a k n p q _ s _ E e v x y (λI L N L t r1 Á=>JV t r1 Á λj f r=>?_) H
  induction j with
  |false=>exact h k n _ q _ s _ E (t.lK<|xj _) (v.on<|L V) (x.c7<|L V) r (z.on<|L.bI .h) (H.on<|L.bI .h)|true=>exact(z.on L).fq t r1 r
 .refineλk n p q Â s À E e v x y z l H=>isTrue_or<|a k n p q _ s _ E e v x y (λI a p=>vO p) (λj I N L t a r=>?_) H
  have r:=a _ r
  induction j with
  |true=>exact l Q I N L t a r|false=>
   refine isTrue_or<|h k n N q Â s _ E t (v.on<|L V) (x.c7<|L V) r z (λj I p h k a r=>?_) (H.on L);have n:=l j I p (L.bI h) k a r
   induction j with
   |false=>exact isTrue_or_nil n|true=>exact n
def abN(a:fM o j d c b):fM o j (.not d) c (u2 .Not b l):=by
 induction j
 .exactλg h k n p q r E s t e v x y=>Zn<|a g h k n _ q _ E s t e v (λz m H I L r1 N=>not_of<|JV L r1 N λj f H=>(x.on I).fq L (v:=bT !j) Y H) y
 .exactλg h k n p q r E s t e v p l y=>isTrue_not<|a g h k n _ q _ E s t e v (λz r a=>vO a) (λj z m I L g H=>l _ _ m I L Ih (g _ H)) y
def JR(a:lF)(e):nq e (m3<|xv e):=by
 induction e with
 |Eq=>exact agY a|NotEq=>exact abh a|Lt=>exact ajt|LtE=>exact abM|Gt=>exact acS|GtE=>exact afL|Is=>exact adg a|IsNot=>exact ajk a|In=>exact acw|NotIn=>exact agN
def ξ(b:lR)(d:hr c)(g:c5 c (bu f)=J qk):cd o (.glob f) c (bB (cB (bu f) l) c):=λh j k n p q r E s t h j k n=>ah (et j) λp a=>ah ((b J5) f p a.1) λm q=>Qo (b V) d g ((b J1) f) q.1 (s.i0 t)<|k.n2 s (q.2.ek<|t V) a.2
def MX(C)(s)(n)(fT)(mn)(a):=∀{o X h c},wR C s n o X h c->∀j b,pL fT a j X h b=Q->VG C s n o j a c (rE C.S.nm mn a b)
def ML(C)(s)(n)(fT)(mn)(a):=∀{o X h c},wR C s n o X h c->∀q,sf fT a X h q=Q->d! C s n o a c (hz C.S.nm mn a q)
abbrev ME(C)(s)(n)(fT)(mn)(a):=MX C s n fT mn a/\ML C s n fT mn a
abbrev cT:=pL fT
abbrev cy:=rE bu mn
abbrev d1:=MX C Dq Aq fT mn
def vV{id}(k:lR)(a:jw o X h c)(l:d1 d)(f:O)(m:Be[f]?=J (id,e))(n:(e==("__debug__":bj))=u)(p:e≠"__name__")(q:tP e=J v)(r:Kd v)(s:sZ x v)(g:(dq X id 2&&cT d u X h (h2 b))=Q):
fM o j (tf x d) c (rC e (cy d) b):=iE (λZ Z=>rfl)<|afH (k.bi a f m (aU g).1 n p q) r ((gX d _) V) (l a u _ (aU g).2) s
def ae7(a:jw o X h c)(f:d1 d)(g:cT d u X h (h1 b)=Q):fM o j (tf .neg d) c (u2 .USub (cy d<|h1 b) l):=iE (λZ Z=>rfl)<|Vd<|f a u _ g
def aaZ(a:jw o X h c)(f:d1 d)(g:cT d u X h (h1 b)=Q):fM o j (tf .rev d) c (tp (cy d<|h1 b) (x5 A A (J<|u2 .USub (CK (.int 1) e v) x) y) l):=iE (λZ Z=>rfl)<|aaM<|f a u _ g
def abb(f:lR)(a:jw o X h c)(g:d1 d)(k:(dq X 271 2&&dq X 15 2&&cT d u X h (h2 b))=Q):fM o j (tf ys d) c (GD "isinstance" (cy d) (λm=>cB "str" m.pos) b):=by have s1:=aU k;have s2:=aU s1.1;exact iE (λZ Z=>rfl)<|ai8 (f.bi a 4 Y s2.1 Y (by decide+kernel)<|by kernel_rfl) (f.bi a 3 Y s2.2 Y (by decide+kernel)<|by kernel_rfl) ((gX d _) V)<|g a u _ s1.2
def rL(a:jw o X h c)(k:d1 d)(l:d1 g)(n:p5 e<|oO v)(f:(cT d u X h (h1 b)&&cT g u X h (h2 b))=Q):fM o j (hC e d g) c (rB v (cy d) (cy g) b):=
iE (λZ Z=>rfl) ((by
 refineλp q r s t t x E y z H I L N=>wpAny_BinOp<|(k a u _ (aU f).1) p q r s _ t _ E y z H I (λk b r k e r1 v=>(l a u _ (aU f).2) p q r s _ t _ E e (z.on<|k V) (H.c7<|k V) v (λa m f l p r2 q=>?_) (N.on k)) N
 exact n p ((z.on<|k V).on (l V) V) (r1.ek<|l V) r2 q<|L.on<|k.bI l))
def amd(m:lR)(a:jw o X h c)(k:d1 d)(l:d1 g)(e)(f:s2 X h e (cT d u X h) (cT g u X h) b=Q):fM o j (hC e d g) c (r2 e (cy d) (cy g) b):=by
 induction e with
 |workerExited=>exact(by have s1:=aU f;have s2:=aU s1.2;exact iE (λZ Z=>rfl)<|aaS (a J2) (m.bi a 9 Y s1.1 Y (by decide+kernel)<|by kernel_rfl) ((gX d _) V) ((gX g _) V) (k a u _ s2.1)<|l a u _ s2.2)|workerCrashed=>exact iE (λZ Z=>rfl)<|ae8 (a J1) ((gX g _) J1) (k a u _ (aU f).1)<|l a u _ (aU f).2|parseError=>exact rL a k l aeQ f|invalidRequest=>exact rL a k l aff f|methodNotFound=>exact rL a k l ajf f|invalidParams=>exact rL a k l (agJ (a J1) (m V)<|(a J6) (aU f).1) (aU f).2|internalError=>exact rL a k l alu f|serverNotInitialized=>exact rL a k l aj6 f|unknownErrorCode=>exact rL a k l abK f|contentModified=>exact rL a k l ž f|requestCancelled=>exact rL a k l adj f|rpcNeedsReconnect=>exact rL a k l ae9 f
def o!(a:jw o X h c)(g:d1 d)(f:(kQ d||cT d u X h b)=Q):cd o d c (evalPart (rO d<|cy d b) c):=by
 unfold rO;cases e:kQ d with
 |true=>exact W (Av e) λj k l m n p q E a r s t j k=>Jo<|j.n2 a (v:=bk) Y t|false=>rw [e] at f;exact g a u _ f
def EK(b:vj a=Q):∃p,a=oP p:=Bx (a:=λa=>∃p,a=oP p) a b λp=>cL p rfl
def OH(k:lR)(f:jw o X h c)(l:d1 d)(n:d1 g)(e)(j:sI X e t g (cT d u X h) (cT g u X h) b=Q):vt o (cy t m) e d g c (rI e (cy d) (cy g) b):=by
 induction e with
 |integer=>exact W (Av (aU j).1)<|(by
  refineλr s z v x y H E I L N e x H=>(l f u _ (aU j).2) r s z v _ y _ E I L N e (λr m s z v r1 y=>?_) H
  have y:w9 r s.σ _:=y;exact(Kh▸y) _ (λr=>ah (Jh r) λq k=>ahG (f J2) v r1 k.1 k.2<|x.r z v) λr=>alY (f J2) v r1 r<|x.r z v)
 |text=>have s1:=aU (aU j).2;exact W (Av (aU j).1)<|afs (f J2) (k.bi f 10 Y s1.1 Y (by decide+kernel)<|by kernel_rfl) ((gX d _) V)<|l f u _ s1.2|blob=>have s1:=aU (aU j).2;exact agk (f J2) (k.bi f 10 Y (aU j).1 Y (by decide+kernel)<|by kernel_rfl) ((gX d _) V) ((gX g _) V) (l f u _ s1.1)<|n f u _ s1.2|real=>have s1:=aU (aU j).2;exact W (Av (aU j).1)<|Z0 (k.bi f 11 Y s1.1 Y (by decide+kernel)<|by kernel_rfl) ((gX d _) V) (l f u _ s1.2) λI s r x=>ah (Jh r) λq n=>aji (f J2) I s n.1 n.2 x|numeric=>have s1:=aU (aU j).2;have s2:=aU s1.2;exact W (Av (aU j).1)<|ah (EK s1.1) λp a=>W a<|adV (f J2) (k.bi f 12 Y s2.1 Y (by decide+kernel)<|by kernel_rfl) ((gX d _) V)<|l f u _ s2.2
def J_(g:lR)(d:jw o r h c)(a:HB (λk=>dq r k 0) t=Q)(b):zl t c (cy t b):=
oF a (λa=>ah (JA a) λf l=>W l.1<|λn q k s n m k q s E n k q s e=>BB<|ĵ (g V) (d V) ((d J3) V f<|jJ l.2) n k q λn k j q n=>e _ _ _ .h q n Hd.put s) λa=>ah (EK (aU a).1) λp l=>by have s2:=(aU a).2;rw [l] at s2⊢;exact ah (SK p s2<|pt b) λk a=>by refine(?_:zl _ c (gi (hz bu mn p<|pt b) _ b.pos));exact W a.2.1<|W a.1<|afZ (g V) (d V) (d J2) λl s=>(d J3) V _ (jJ<|a.2.2.1 l s)
def s?(a:jw o r h c)(f:d1 k)(d:(tB k||cT k Q r h b)=Q):B4 k c (aD (tB k) [] [cy k b]):=by
 cases e:tB k with
 |true=>exact W (aaI e) λG g j l m n a p q s t=>wpAny_tests_nil<|t Q j (rv j) a s|false=>rw [e] at d;exact agR<|f a Q _ d
def zM(a:jw o X h c)(b:mj e=jo)(d:sM (gS e v x c) r):jw (λZ Z Z=>bh) r u (gS e v x c):=
ui (bY b ((a V) J1)<|(a V) J2) (a J1) (a J2) d (λZ Z Z Z=>trivial) (iC (a J5) V) lQ<|a J7
end
section
variable{s:PT}{t:vs}{k:EF}{h:jX}{X o:aa<|O×O}{e d:ba}{l f p b c g:Zq.E}{a r:cX}{n:aa cX}{j q:O}{m:lq}
def h4(a:d1 l)(b:∀X e n,sf fT l X e n=u):ME C Dq Aq fT mn l:=br a<|λc n d=>dR<|af (b _ _ n).symm d
section
variable(o:vz C fT)(n:wR C Dq Aq k X e h)
include n
def μ(g:d1 b)(j:d1 c)(f:(cT b d X e (h1 a)&&cT c d X e (h2 a))=Q):fM k d (.and b c) h (zp .And [cy b<|h1 a,cy c<|h2 a] m):=abw (g n d _ (aU f).1)<|j n d _ (aU f).2
def aaH(g:d1 b)(j:d1 c)(f:(cT b d X e (h1 a)&&cT c d X e (h2 a))=Q):fM k d (.or b c) h (zp .Or [cy b<|h1 a,cy c<|h2 a] m):=aaY (g n d _ (aU f).1)<|j n d _ (aU f).2
def alh(c:d1 b)(f:cT b d X e (h1 a)=Q):fM k d (.not b) h (u2 .Not (cy b<|h1 a) m):=abN<|c n d _ f
def aeB(f:d1 g)(j:d1 b)(l:d1 c)(o:(!d&&(cT g Q X e (h1 a)&&(cT b u X e (h2 a)&&cT c u X e (h3 a))))=Q):fM k d (.ite g b c) h (.IfExp (cy g<|h1 a) (cy b<|h2 a) (cy c<|h3 a) m):=by have s1:=aU o;have s2:=aU s1.2;have p:=aU s2.2;exact W (nY s1.1)<|alU (f n Q _ s2.1) (j n u _ p.1)<|l n u _ p.2
def aaq(g:d1 b)(j:d1 c)(f:(cT b u X e (h1 a)&&cT c u X e (h2 a))=Q):fM k d (.cmp v b c) h (ym (cy b<|h1 a) [xv v] [cy c<|h2 a] m):=(by
 induction d
 .exact ai5 (JR (n J1) v) (g n u _ (aU f).1) (j n u _ (aU f).2)<|(gX c _) J2 _
 .exact aaJ (JR (n J1) v) (g n u _ (aU f).1) (j n u _ (aU f).2)<|(gX c _) J2 _)
def akv(f:d1 b)(j:d1 c)(l:d1 g)(o:(d&&(cT b u X e (h1 a)&&(cT c u X e (h2 a)&&cT g u X e (h3 a))))=Q):fM k d (yq v x b c g) h (ym (cy b<|h1 a) [xv v,xv x] [cy c<|h2 a,cy g<|h3 a] m):=by have s1:=aU o;have s2:=aU s1.2;have p:=aU s2.2;exact W s1.1<|acq (JR (n J1) v) (JR (n J1) x) (f n u _ s2.1) (j n u _ p.1) (l n u _ p.2)<|(gX g _) J2 _
def alo(f:d1 l)(g:d1 b)(j:d1 c)(o:(cT l u X e (h1 a)&&((kQ b||cT b u X e (h1<|h2 a))&&(kQ c||cT c u X e (h2<|h2 a))))=Q):fM k d (.slice l b c) h (tp (cy l<|h1 a) (x5 (rO b<|cy b<|h1<|h2 a) (rO c<|cy c<|h2<|h2 a) A v) m):=by
 have s1:=aU o;have s2:=aU s1.2;exact iE (λZ Z=>rfl)<|(by
  refineλp q s t o o x E y z H I L N=>Mp<|(f n u _ s1.1) p q s t _ o _ E y z H I (λf a s f v r1 x=>Xj<|(o! n g s2.1) p q s t _ o _ E v (z.on<|f V) (H.c7<|f V) x (λg r s g y r2 I=>?_) (N.on f)) N
  have v:=f.bI g;refine(o! n j s2.2) p q s t _ o _ E y (z.on<|v V) (H.c7<|v V) I (λj p q t o f s=>?_) (N.on v);exact Jo<|aka (o.lK<|jm _ _) (Z! ..) (r1.ek<|(g.bI t) V) (r2.ek<|t V) f s<|L.on<|(v.bI t).bI .h)
abbrev BJ:=ML C Dq Aq fT mn
def amc(c:BJ f)(b:(jB (mf f) 1000&&sf fT f X e (pt a))=Q):fM k d (.list f) h (.List (hz C.S.nm mn f<|pt a) m):=iE (λZ Z=>rfl) λg l o p q r s E t q s v x y=>wpAny_List_spliced<|(c n _ (aU b).2) g l o p m _ r _ E t q s v (λc g l o p r1 j r=>⟨ax r1.vg<|W j<|ax yb<|W (uf ..)<|ae (ht (aU b).1)<|by decide,(x.on o).DJ p r1 (j▸(W (uf ..)<|ae (ht (aU b).1)<|by decide)) r⟩) y
def abI(c:BJ f)(b:(jB (mf f) 1000&&sf fT f X e (pt a))=Q):fM k d (oP f) h (gi (hz bu mn f<|pt a) v m):=iE (λZ Z=>rfl)<|acg (W (uf ..)<|ae (ht (aU b).1)<|ao Y)<|c n _ (aU b).2
def akN(c:d1 b)(f:((!o7 b&&tC a)&&cT b u X e (h1<|h1 a))=Q):fM k d (vY b) h (d2 (fz (cy b<|h1<|h1 a) "pop" (h1 a).pos) [] [] a.pos):=by have s1:=aU f;have s2:=aU s1.1;exact iE (λZ Z=>rfl)<|agI (c n u _ s1.2) (Dg s2.1 _)<|BS s2.2
def adB(f:d1 b)(g:d1 c)(j:((!o7 b&&tC a)&&(cT b u X e (h1<|h1 a)&&cT c u X e (h2 a)))=Q):fM k d (hM v b c) h (d2 (fz (cy b<|h1<|h1 a) (YA v) (h1 a).pos) [cy c<|h2 a] [] a.pos):=by
 have s1:=aU j;have s2:=aU s1.1;have l:=aU s1.2;have m:=f n u _ l.1;have o:=g n u _ l.2;have p:=Dg (a:=bu) s2.1<|h1<|h1 a;have q:=(gX (a:=bu) c<|h2 a) V;have r:=BS s2.2;refine iE (λZ Z=>rfl) ?_
 induction v with
 |integer=>exact adA m o p q r|text=>exact agM m o p q r|blob=>exact aks m o p q r|real=>exact aix (n J1) m o p q r|numeric=>exact akn m o p q r
def amu(f:d1 b)(j:d1 c)(l:d1 g)(m:((!o7 b&&tC a)&&(cT b u X e (h1<|h1 a)&&(cT c u X e (h2 a)&&cT g u X e (h3 a))))=Q):fM k d (wJ b c g) h (d2 (fz (cy b<|h1<|h1 a) "get" (h1 a).pos) [cy c<|h2 a,cy g<|h3 a] [] a.pos):=by have s1:=aU m;have s2:=aU s1.1;have p:=aU s1.2;have q:=aU p.2;exact iE (λZ Z=>rfl) (η (n J1) (f n u _ p.1) (j n u _ q.1) (l n u _ q.2) (Dg s2.1 _) ((gX c _) V) ((gX g _) V)<|BS s2.2)
include o
def Ũ(f:d1 b)(c:(!o7 b&&cT b u X e (h1 a))=Q):fM k d (fL b j) h (fz (cy b<|h1 a) (bu j) m):=iE (λZ Z=>rfl)<|abj (o V) (Dg (aU c).1 _)<|f n u _ (aU c).2
def aa3(b:BJ f)(c:((dq X j 2&&fT j)&&sf fT f X e (pt a).tail)=Q):fM k d (.call j f) h (d2 (cB (bu j) (h1 a).pos) (hz bu mn f (pt a).tail) [] m):=by have s1:=aU c;have s2:=aU s1.1;exact ah ((o J6) j s2.2) λg l=>iE (λZ Z=>rfl)<|afP (o V) (n J4) (n J5) (Qo (o V) (n V) ((n J3).gk s2.1) ((o J1) j) l.2) ((o J7) j g l.1) (D5 f _) (b n _ s1.2)<|(n J7) j g l.1
def adf(c:d1 b)(g:BJ f)(j:((!o7 b&&tC a)&&(jB (mf f) 20&&(cT b u X e (h1<|h1 a)&&sf fT f X e (pt a).tail)))=Q):fM k d (.z5 b q f) h (d2 (fz (cy b<|h1<|h1 a) (bu q) (h1 a).pos) (hz bu mn f (pt a).tail) [] a.pos):=by have s1:=aU j;have s2:=aU s1.1;have l:=aU s1.2;have m:=aU l.2;exact iE (λZ Z=>rfl)<|afk (o V) (n J4) (n J5) (Dg s2.1 _) (D5 f _) (W (uf ..)<|cF (ht l.1)<|ao Y) (BS s2.2) (o J7) (c n u _ m.1) (g n _ m.2)<|n J7
end
def aeS(a:jw k X e h)(d:d1 b)(g:BJ f)(c:(cT b u X e (hE n)&&sf fT f X e n.tail)=Q):CR k (j2 b f) h (cy b (hE n)::hz bu mn f n.tail):=(by
 refineλl m o p q s t s E s v x y z H=>W (zO<|(gX b _) V)<|spliced_cons<|(d a u _ (aU c).1) l m o p _ t _ E s v x y (λd r o s I r1 L=>?_) H
 exact(g a _ (aU c).2) l m o p q _ t _ E I (v.on<|s V) (x.c7<|s V) L (λa c g l m r2 j p=>z (d::a) _ g (s.bI l) m ⟨r,c,Y,r1.ek<|l V,r2⟩ (aq _ j) p) (H.on s))
def PJ(x)(b c)(a)(v):EM (rI x (cy b) (cy c) a) h v=pure v:=by
 induction x with
 |integer=>exact(gX b a) J3 h v|_=>rfl
def afW(s:lR)(n:jw k X e h)(x:d1 l)(y:d1 b)(z:d1 c)(H:d1 g)(I:((E7 X o&&HB (λt=>dq o t 0) p)&&(sI X v p c (cT b u X e) (cT c u X e) (mC a).iter&&(cT l u o u (h1 a)&&(tB g||cT g Q o u (hE (mC a).ifs)))))=Q):
 fM k d (nj l p v b c g o) h (tZ (cy l<|h1 a) [⟨cy p (mC a).target,rI v (cy b) (cy c) (mC a).iter,aD (tB g) [] [cy g<|hE (mC a).ifs],0⟩] {KP a with kind:=jo,names:=nZ bu o} m):=by
 have s1:=aU I;have s2:=aU s1.1;have L:=aU s1.2;have N:=aU L.2;exact ah (g! (s V) (n V) (n J3) s2.1 Y Y) λI I=>iE (λZ Z=>rfl)<|(by
  refineλÀ Á t t t t t E t Â Ã Ä Å Æ=>W (eval_ListComp ..)<|Xy Y (λÇ=>PJ v _ _ _ Ç) (I.1 J3) (I.1 V) (I.1 J2)<|V! I.1 (OH s n y z v L.1) (λy=>J_ s (zM n Y<|I.2 y) s2.2 _) (λy=>s? (zM n Y<|I.2 y) H N.2) (λy=>x (zM n Y<|I.2 y) u _ N.1) t Â Ã Ä Æ λn s t G q r v t z L x H N=>⟨q,x.ns (t V).sF,λh2 I=>?_⟩
  cases id x with|mk y f ep x e y j=>exact Å n s _ (v.bI .h) (gH (L.drop z x (t V) I)<|t J1) H N)
def mE(e:lR)(l):ME C Dq Aq fT mn l:=by
 induction l with
 |lit h=>exact h4 (λk d a m=>iE (λZ Z=>rfl)<|Vi m) λZ Z Z=>ff|var j=>exact h4 (λk d a m=>iE (λZ Z=>rfl)<|aiy (k V) ((k J3).vis m) ((e J1) j)<|(e J2) j) λZ Z Z=>ff|glob j=>exact h4 (λk d a m=>iE (λZ Z=>rfl)<|ξ e (k V)<|(k J3).gk m) λZ Z Z=>ff|and b c r s=>exact h4 (λk d a m=>μ k r.1 s.1 m) λZ Z Z=>ff|or b c r s=>exact h4 (λk d a m=>aaH k r.1 s.1 m) λZ Z Z=>ff|not b r=>exact h4 (λk d a m=>alh k r.1 m) λZ Z Z=>ff|ite g b c t r s=>exact h4 (λk d a m=>aeB k t.1 r.1 s.1 m) λZ Z Z=>ff|CM h b r=>exact h4 (λk d a m=>(by
  induction h with
  |neg=>exact ae7 k r.1 m|rev=>exact aaZ k r.1 m|FA=>exact abb e k r.1 m|len=>exact vV e k r.1 0 Y Y (by decide+kernel) (by kernel_rfl) I2 al1 m|abs=>exact vV e k r.1 1 Y Y (by decide+kernel) (by kernel_rfl) I2 ab7 m|sum=>exact vV e k r.1 2 Y Y (by decide+kernel) (by kernel_rfl) I2 (abE<|k J2) m|str=>exact vV e k r.1 3 Y Y (by decide+kernel) (by kernel_rfl) GJ acp m|list=>exact vV e k r.1 5 Y Y (by decide+kernel) (by kernel_rfl) GJ ajQ m|tuple=>exact vV e k r.1 6 Y Y (by decide+kernel) (by kernel_rfl) GJ ada m|sorted=>exact vV e k r.1 7 Y Y (by decide+kernel) (by kernel_rfl) I2 (ac3<|k J2) m|dict=>exact vV e k r.1 8 Y Y (by decide+kernel) (by kernel_rfl) GJ (amq (e V) (k J1)<|k J2) m)) λZ Z Z=>ff
 |EE h b c r s=>exact h4 (λk d a m=>amd e k r.1 s.1 h m) λZ Z Z=>ff|cmp h b c r s=>exact h4 (λk d a m=>aaq k r.1 s.1 m) λZ Z Z=>ff|Yd h v b c g r s t=>exact h4 (λk d a m=>akv k r.1 s.1 t.1 m) λZ Z Z=>ff|slice l b c x r s=>exact h4 (λk d a m=>alo k x.1 r.1 s.1 m) λZ Z Z=>ff|nil=>exact⟨λk d a m=>dR m,λk n m=>λÂ Ä H I À Å É Á E k y Ã z N Æ=>bq<|N [] [] H (rv H) k Y Y z⟩|cons b Ç r È=>exact⟨λk d a m=>dR m,λk n m=>aeS k r.1 È.2 m⟩|list f L=>exact h4 (λk d a m=>amc k L.2 m) λZ Z Z=>ff|tup f L=>exact h4 (λk d a m=>abI k L.2 m) λZ Z Z=>ff|LR=>exact h4 (λk d a m=>iE (λZ Z=>rfl)<|λÂ Ä H I Å É Á E k y Ã z N Æ=>wpAny_Dict_empty<|N.oT k (jm _ _) (mP _) (iI _ Y) (q:=0) (a:=[]) Y (bY xC (λZ v=>bG v) λZ v=>bG v) (cQ _) (c! (e V)<|k.i0 y) z) λZ Z Z=>ff|attr b j r=>exact h4 (λk d a m=>Ũ e k r.1 m) λZ Z Z=>ff|pop b r=>exact h4 (λk d a m=>akN k r.1 m) λZ Z Z=>ff|m1 h b c r s=>exact h4 (λk d a m=>adB k r.1 s.1 m) λZ Z Z=>ff|K_ b c g r s t=>exact h4 (λk d a m=>amu k r.1 s.1 t.1 m) λZ Z Z=>ff|call h f L=>exact h4 (λk d a m=>aa3 e k L.2 m) λZ Z Z=>ff|z5 b q f r L=>exact h4 (λk d a m=>adf e k r.1 L.2 m) λZ Z Z=>ff|sup H h f L=>exact h4 (λk d a m=>dR m) λZ Z Z=>ff|comp h p h b c g o x h r s t=>exact h4 (λk d a m=>afW e k x.1 r.1 s.1 t.1 m) λZ Z Z=>ff
end
section
def Xx(a:hr b):b.blockKind=jo:=by unfold ŧ;exact W (a V) Y
def X'(h:aE e.ctorIdx 17=Q):∃a n,e=fL a n:=Bx (a:=λe=>∃a n,e=fL a n) e h λa n=>⟨a,n,Y⟩
def f?(h:H9 e=Q):∃a b,e=hC kW a b:=by exact Bx (a:=λe=>H9 e=Q->∃a b,e=hC kW a b) e (iO h).1 (λf a b h=>ami (motive:=λf=>∃c d,hC f a b=hC kW c d) f (d9 (iO h).2) ⟨a,b,Y⟩) h
def ae3(e):d7 (ep e).k=aE e.ctorIdx 24:=by cases e<;>rfl
def mT(g:lR)(a:jw c b d e)(s:DY fT b d f x=Q):q0 c f e (cy f x):=
oF s (λs=>oF s (λs=>ah (JA s) λn h=>W h.1<|x? (g V) (a V)<|(a J3).Cn h.2) λs=>ah (EK (aU s).1) λj h=>by
 have s2:=(aU s).2;rw [h] at s2⊢;exact ah (SK j s2<|pt x) λk q=>by refine(?_:q0 c _ e (gi (hz bu mn j<|pt x) _ x.pos));exact W q.2.1<|W q.1<|al9 (g V) (a V) (a J2) λl m=>(a J3).Cn<|q.2.2.1 l m)
 λs=>oF (aU s).1 (λh=>ah (X' h) λo h=>ah h λn h=>by
  have s2:=(aU s).2;rw [h] at s2⊢;have s2:(!o7 o&&cT o u b d (h1 x))=true:=s2;exact aeY (g V)<|(mE g o).1 a u _ (aU s2).2) λh=>ah (f? h) λo h=>ah h λp h=>by
  have s2:=(aU s).2;rw [h] at s2⊢;have s2:(cT o u b d (h1 x)&&cT p u b d (h2 x))=true:=s2;exact ak7 (a J1) ((mE g o).1 a u _ (aU s2).1)<|(mE g p).1 a u _ (aU s2).2
def WL(h:(a.blockKind==jo&&c5 a (bu z)==dW&&lL p==lL q&& !((dp b).any λ(n,k)=>n==bu z&&(k==wD||k==ho)))=c):mG (tZ d e b q) (J<|cB (bu z) p) f a=pure c:=ax h Y
def ς{a b:O}(h:a<b):(a !=b)=true:=ak OK<|fH h
def YB(h:(!(U a==2||U a==3)||U b !=U a)=Q):rV [gi a c p] (gi b k q) d=pure none:=aJ (by rw [h];rfl)
def T?(h:qK a=Q)(b:∀x,gb x=Q->f x=u):a.any f=u:=
ak Ii λx m q=>hu<|af (b x<|oY h x m).symm q
def adI{b c:Type}{f:b->bf c}{a}(e:f a=A):∀{l},a∈l->U (eI f l)<U l:=by
 intro l;refine l.rec bG λx r d=>λh=>W xW<|aO (mc h) (λq=>ax q<|W e<|ig<|AQ f r) λh=>?_;cases f x with
  |none=>exact rM<|d h|some y=>exact xn<|d h
def akT:∀{l:aa bj},bw l->U l.eraseDups=U l:=by intro l;refine l.rec (λZ=>rfl) λx r a=>λh=>?_;have h:=jc.mp h;exact W List.eraseDups_cons<|W (ak List.filter_eq_self λb m=>by rw [show(b==x)=u from ak kZ λq=>h.1<|q▸m];rfl:pY _ r=r)<|W hS<|W hS<|aq _ (a h.2)
section
variable{h:jX}{k:O}{d:O}{e:lq}{a:lq}{c:fZ}{b:aa<|O×lq}
def Xp(g:∀{id e},f (cB id e)=if(c5 h id==dW&&lL e==d)=Q then J id else A):∀{b},(∀a∈b,c5 h (bu a.1)=dW)->zv d (je C b)=Q->eI f (je C b)=b.map λa=>bu a.1:=by intro b;refine b.rec (λZ Z=>rfl) λa r j=>λl c=>?_;have c:(aE a.2.line d&&zv d _)=true:=c;exact W xW<|W (j (λm k=>l m<|cz _ k) (aU c).2)<|W (show f _=J _ by simp only [g,l a b8,d9 (aU c).1,jL,jL];rfl) Y
end
def aba(h:eT)(j:hr c)(k:qK b=Q)(h1:∀q∈a,c5 c (C.S.nm q.1)=dW)(d:U a=2\/U a=3)(l:U b=U a)(m:bw<|R (·.1) a)(f:zv (hE<|je C a).pos.line (je C a)=Q)(n:cS b (m? 8)=u)(o:cS b (Zp 8)=u):rV [gi (je C a) g p] (gi b r s) c=pure (J<|(R (·.1) a).map C.S.nm):=by
 have t:U (je C a)=U a:=bC ..
 induction a with
 |nil=>rcases d with q|q<;>cases q
 |cons q r=>
  have nd:bw ((q::r).map λq=>C.S.nm q.1):=by have v:=Nm (h J1) m;exact jD▸v
  have x:U ((q::r).map λq=>C.S.nm q.1)=U (je C _):=W t (bC ..);refine af (aS λy=>?_)<|af (aS λy=>hu<|af (T? k<|by intro z g;cases z<;>first|rfl|exact dR g).symm y)<|af (aS λy=>?_) ?_
  .rw [t,l,Xx j] at y;rcases d with e|e<;>rw [e] at y<;>exact ay y<|ao Y
  .refine hu<|af (?_:_=u).symm y;refine W (Xp (λ{_ _}=>rfl) h1 f) ?_;rw [akT nd,x,Hk];rfl
  .exact W n<|W o<|aq (λz=>(pure _:lP _))<|af (Xp (λ{_ _}=>rfl) h1 f) jD.symm
def Uq{G:Prop}(h:zU Nd=Q):G:=dR h
def adw(g:lR)(a:jw m f Q n)(o:u9 f z=Q)(q:(dq f z 0&&(aE r.line s.line&&cS b (λp=> !(aE p.1 z&&aE p.2 0))))=Q)
 (t:((E7 f b&&HB (λz=>dq b z 0) j)&&(sI f d j h (cT k u f Q) (cT h u f Q) (mC e).iter&&(cT l u b u (h1 e)&&(tB c||cT c Q b u (hE (mC e).ifs)))))=Q):
 ja m (nK (eb z)<|nj l j d k h c b) n (i7 [cB (bu z) r] (tZ (cy l<|h1 e) [⟨cy j (mC e).target,rI d (cy k) (cy h) (mC e).iter,aD (tB c) [] [cy c<|hE (mC e).ifs],0⟩] {KP e with kind:=jo,names:=nZ bu b} s) v):=by
 have s1:=aU t;have s2:=aU s1.1;have x:=aU s1.2;have y:=aU x.2;have H:=aU q;have I:=aU H.2;have L:((nZ (kf.nm<|Cx.S C) b).any λN=>N.1==(kf.nm<|Cx.S C) z&&(N.2==wD||N.2==ho))=false:=by
  rw [Ii]
  refineλd e=>ah (Pt e) λj f=>?_
  have c:=MT s2.1 f.1;have e:=f.2;rw [DF c.lt] at e;have p:d.1=(kf.nm<|Cx.S C) j.1:=a4<|aq (·.1) e;have m:d.2=xX j.2:=a4<|aq (·.2) e;refine W p<|W m ?_;rcases c with (c|c)|c
  .have h2:=nY<|oY I.2 _ f.1;rw [c,fK,R5] at h2;exact W (ak kZ λq=>by rw [(g V) J1 _ _ q,fK] at h2;exact bR h2:_=u) hu
  .exact W c<|W (rfl:_=u)<|W (qt ..) hu
  .exact W c.1<|W (rfl:_=u)<|W (qt ..) hu
 exact ah (g! (g V) (a V) (a J3) s2.1 Y Y) λn q=>afN (g V) (a V) ((a J3).Cn o) q.1 (OH g a (mE g k).1 (mE g h).1 d x.1) (λr=>J_ g (zM a Y<|q.2 r) s2.2 _) (λr=>s? (zM a Y<|q.2 r) (mE g c).1 y.2) (λr=>(mE g l).1 (zM a Y<|q.2 r) u _ y.1) (λv=>PJ d _ _ _ v)
  (WL<|by simp only [Xx<|a V,(a J3) V z<|jJ H.1,d9 I.1,L,jL,jL,jL];rfl)
def ahe(g:lR)(c:jw f b Q j)(h:u9 b z=Q)(a:zU (Ku b z e x)=Q)(d:cT e u b Q (dP x)=Q):ja f (nK (eb z) e) j (i7 [cB (C.S.nm z) (kl x).pos] (cy e<|dP x) k):=by
 have l:=(mE g e).1 c u _ d;have m:=x? (e:=f) (p:=(kl x).pos) (g V) (c V)<|(c J3).Cn h;unfold Ku at a;cases n:(ep e).k with
 |none=>exact Ap m l Y ((gX e _) J4 (aq _ n) _ _ _) Y|some o=>
  rw [n] at a;have a:zU (aD _ Z4 _)=true:=a;have p (h:(ep e).k=J o):∃q t k a r s,e=nj q t k a r s o:=Bx (a:=λe=>(ep e).k=J o->∃q t k a r s,e=nj q t k a r s o) e (af (ae3 e).symm<|aq d7 h) (λq t k a r s b h=>⟨q,t,k,a,r,s,aC h▸Y⟩) h;refine ah (p n) λq r=>ah r λv r=>ah r λy r=>ah r λH r=>ah r λI r=>ah r λs L=>?_;rw [L] at d l⊢;cases N:(dq b z 0&&_) with
  |true=>exact adw g c h N d|false=>
   rw [N] at a;cases h3:dq b z 3 with
   |true=>exact Ap m l Y (WL<|by simp only [((c J3) J3 z<|jJ h3).1,show(J ho==J wD)=u from Y,qt];rfl) Y|false=>rw [h3] at a;exact Uq a
def ajx:∀{a},xx f (q7 a)=cS a λq=>f q.1:=by intro a;refine a.rec Y λq r b=>?_;unfold xx at b⊢;refine((ax b ?_):(NI (q7 r)&&(f q.1&&cS (eL _) _))=(f q.1&&cS r λq=>f q.1));cases NI _<;>cases f q.1<;>rfl
def aee(f:jw k c Q g)(j:qK b=Q)(h:∀q∈a,u9 c q.1=Q)(d:((aE (U a) 2||aE (U a) 3)&&(aE (U b) (U a)&&cS a λq=>dq c q.1 0))=u):rV [gi (je C a) e l] (gi b m n) g=pure none:=by
 have o:U (je C a)=U a:=bC ..;have p:∀{r s:O},aE r s=u->_=false:=λh=>ak kZ<|C3 h;cases t:(aE (U a) 2||aE (U a) 3) with
 |false=>have t:=Wy.mp t;exact YB (by refine W o<|W (p t.1)<|W (p t.2) ?_;rfl)|true=>
  cases v:aE (U b) (U a) with
  |false=>exact YB<|W o<|W (ak OK (C3 v):_=Q) (zZ ..)|true=>
   rw [t,v] at d;refine ah (List.all_eq_false.mp d) λq m=>(by
    unfold rV;dsimp only;split
    .rfl
    .refine af (aS λx=>hu<|af (T? j<|by intro y e;cases y<;>first|rfl|exact dR e).symm x)<|af (aJ<|ak kR<|aL<|ς ?_) Y;exact adI (by refine(?_:(if(_&&_)=Q then J _ else A)=A);exact W (((f J3) J3 q.1<|jJ<|oF (h q m.1) (λz=>ay z m.2) id).1) Y)<|hY m.1)
def acT(k:lR)(c:jw f g Q d)(j:q0 f (oP b) d<|gi (hz bu mn b<|pt<|kl x) l m)(h:xx (u9 g) b=Q)(a:zU (aD (vj e) (FG bu mn g b (ep e).e x) Du)=Q)(n:cT e u g Q (dP x)=Q):
 ja f (nK (oP b) e) d (i7 [gi (hz bu mn b<|pt<|kl x) l m] (cy e<|dP x) o):=by
 have p:=(mE k e).1 c u _ n;cases q:vj e with
 |false=>exact Ap j p Y ((gX e _) J7 _ _ _ _ _)<|(gX e _) J8 q _ _ _ _|true=>
  refine ah (EK q) λr s=>?_;subst s;have a:zU (FG bu mn g b r x)=true:=a;have p:cd f _ d (bB (gi (hz bu mn r<|pt _) _ (dP x).pos) d):=p;refine(?_:ja f _ d (i7 [gi _ l m] (gi (hz bu mn r<|pt _) _ (dP x).pos) o));have t:=D5 (b:=bu) r<|pt<|dP x;unfold FG at a;refine ah (SK b h<|pt<|kl x) λv q=>?_;have y:=uf (b:=bu) b<|pt<|kl x;rw [q.2.2.2] at a;rw [q.2.1] at a y j⊢;rw [q.1,ajx] at a;rw [q.1] at j⊢;rw [<-q.1,<-y,<-(uf r<|pt _),show U (je C v)=U v from bC ..] at a;generalize hz bu mn r (pt _)=z at a p t⊢;cases H:(aE (U v) 2||aE (U v) 3)&&_ with
  |false=>exact Ap j p Y Y<|aee c t q.2.2.1 H|true=>
   rw [H] at a;cases c4:(E3 _&&zv (hE _).pos.line _)&&_ with
   |false=>rw [c4] at a;exact Uq a|true=>have I:=aU c4;have L:=aU I.1;have N:=aU I.2;have n:=aU H;have e:=aU n.2;have nd:=Xs L.1;exact agh (k V) (c V) (c J2) p nd (λd m=>(c J3).Cn<|q.2.2.1 d m) Y<|aba (k V) (c V) t (λd m=>(c J3) V _ (jJ<|oY e.2 d m)) (oF n.1 (λh=>aL<|d9 h) λh=>aw<|d9 h) (d9 e.1) nd L.2 (nY N.1)<|nY N.2
variable{r:PT}{s:vs}{f:jX}{X:aa<|O×O}{q:aa jX}{a:fZ}{g j:Zq.S}{b p n d h k:Zq.E}{l:aa fZ}{o m:O}
def VA(b:s7 g=Q):∃a,g= .del a:=by
 induction g with
 |del a=>exact cL a rfl|_=>exact dR b
section
variable(e:vz C fT)(c:wR C Dq Aq (eO C f) X Q f)
abbrev vL:=yw C.S.nm mn
abbrev A3:=Z5 C Dq Aq fT mn
def akW(h:MS C Dq Aq fT mn X f g)(d:A3 X f j)(a:aD (s7 g) (u4 fT C.S.nm mn X j l) (qI fT C.S.nm mn X g (jP l)&&u4 fT C.S.nm mn X j l.tail)=Q):Dl (eO C f) (fG g j) f (aD (s7 g) (vL j l)<|rS C.S.nm mn g (jP l)::vL j l.tail):=by
 cases t:s7 g with
 |true=>rw [t] at a;exact ah (VA t) λk b=>by refine W b ?_;exactλm n o p q r s k v E c x y z H I=>(d l a) m n o _ q r s k v E c x y.del z H I|false=>exact(λm n o p q r s k v E c x y z H I=>Aa<|(h _ (aU<|t▸a).1) m n o p _ r s k _ E c x y z (BG (λh m o p L N y=>(d _ (aU<|t▸a).2) m n o h q r s k v E L (x.on<|p V) N y (H.on p)<|I.on p) (H J1)<|H J2) I)
include e c
def agz(d:((vp a&&kQ b)||cT b u X Q (dP a))=Q):ja (eO C f) (v5 b) f (.Return (aD (vp a&&kQ b) A<|J<|cy b<|dP a) t):=by
 cases v:(vp a&&kQ b) with
 |true=>exact W (Av (aU v).2) λg h j k l m n o p E c q r s x y=>wpAny_Return_none<|(x J2) bk bQ k g j (rv j) c r Y s|false=>rw [v] at d;exactλg h j k l m n o p E l q r s x y=>wpAny_Return_some<|(mE e b).1 c u _ d g h j k _ o _ E l q r s (λm n p d h r1 j=>(x J2) m n k g p d h (r.c7<|d V) r1 j) (y.at r)
def alP(d:A3 X f g)(h:A3 X f j)(b:(cT k Q X Q (dP a)&&(u4 fT bu mn X g (j9 a)&&u4 fT bu mn X j (E0 a)))=Q):ja (eO C f) (.ite k g j) f (.If (cy k<|dP a) (vL g<|j9 a) (vL j<|E0 a) t):=
Ř ((mE e k).1 c Q _ (aU b).1) (d _ (aU (aU b).2).1) (h _ (aU (aU b).2).2)
def ajw(d:px Aq f q)(h:A3 X f g)(b:(cT k Q X Q (dP a)&&u4 fT bu mn X g (j9 a))=Q):ja (eO C f) (.while k g) f (.While (cy k<|dP a) (vL g<|j9 a) [] t):=(by
 intro j l p r s v x y z E H I L N t Á;have N:D0 _ _ r p.σ s:=N;rw [UY] at N;refine ah N λs N=>ah N.1 λo x=>(wpAny_While<|codeAny_whileLoop (λo g=>∃r j z,g=Z.s z/\Nx p z/\bZ j l z/\gn z.I j f r/\s o r z.σ) ?_ o ⟨r,j,p,Y,rv p,H,L,x⟩)
 rintro o g ⟨H,L,x,rfl,z,À,v,Â⟩
 have j:=(Á.on z).own d<|I.on<|z V;refine(mE e k).1 c Q _ (aU b).1 L l x H _ y _ _ À (I.on<|z V) v (N.2 o H x.σ Â) (λp r s=>vO s) (λn p d r p m N=>?_) (j.at v);have N:=m _ N;have x:=z.bI r
 induction n with
 |false=>exact xY<|(t V) H L d x p (v.c7<|r V) N|true=>exact(h _ (aU b).2) L l d H _ _ _ y _ _ p (I.on<|x V) (v.c7<|r V) N (BG (λb h l d p y s=>ah s λm s=>⟨m,s.1,b,h,l,Y,x.bI d,p,y,s.2⟩) (λb h l d p y s=>ah s λm s=>⟨m,s.1,b,h,l,Y,x.bI d,p,y,s.2⟩)<|(t.on x) J2) (j.on r))
def af9(b:A3 X f g)(j:(DY fT X Q n (kl a)&&(sI X t n h (cT d u X Q) (cT h u X Q) (dP a)&&u4 fT bu mn X g (j9 a)))=Q):ja (eO C f) (.for n t d h g) f (.For (cy n<|kl a) (rI t (cy d) (cy h)<|dP a) (vL g<|j9 a) [] v):=by have h1:=aU j;have h2:=aU h1.2;exact alC (OH e c (mE e d).1 (mE e h).1 t h2.1) (mT e c h1.1) (b _ h2.2) λk=>PJ t _ _ _ k
def Zr(b:dq X 261 2=Q):∃a d g,ue C a d g/\wz C.K (w a)=Q/\nG f "ParseError" (w a):=by have h:=(c J3).gk b;exact ah (e J8) λa j=>ah j λd j=>ah j λg j=>⟨a,d,g,j.1,j.2.2,λ{_ _ _ _ _} t b=>Qo (e V) (c V) ((e J4)▸h) Y j.2.1 t b⟩
def aiV(a:iY Aq+5<mx)(g:(aE (mf p) 2&&(dq X 261 2&&sf fT p X Q (pt y).tail))=Q):ja (eO C f) (Az p) f (.Raise (J<|d2 (cB "ParseError" v) (hz bu mn p (pt y).tail) [] t) A x):=by
 have h1:=aU g;have h2:=aU h1.2;have j:=(mE e p).2 c _ h2.2;have k:=D5 (b:=bu) p (pt y).tail;refine ah (Zr e c h2.1) λl m=>ah m λo m=>ah m λq m=>Eg (l:=hz bu mn p (pt y).tail) (W (uf ..)<|d9 h1.1) λs g b=>?_;rw [b] at j k⊢;have o:ja (eO C f) (Az p) f (.Raise (J<|d2 (cB (CB "ParseError") v) [s,g] [] t) A x):=by
  refineλq s g r N z H I L E y v x N z H=>bp (m.1 V J1) λL z=>W (arm_exec_Raise ..)<|aB<|rT<|ah4 (b:=l) (f:=L) (c J2)<|aB<|aB<|m.2.2 (y.i0 v)<|Je (by refine W (qS k) ?_;rfl) (OS m.2.1)<|rP k<|j q s g r t _ I _ E y v x N (λj k l s g r1 j k=>?_) (H.at x)
  exact⟨(e V).In (g V)<|(v.on<|s V) V,Eg (af r1.vg.symm j) λd h b=>W b<|aa1 (e V) m.1 a g ((v.on<|s V) V) λl h2 t I n y N L=>aB<|rT<|bq ⟨l,n,I,Y,(N V).sI _ _ ((v.on<|s V) V _ _ z),L,H _ r q _ (s.bI .h) N (x.c7<|s V) ⟨l,Y,y,aL ⟨_,_,_,L,a4<|m.1 V V,Y,Y,Y⟩⟩ k⟩⟩
 exact o
def mS(m:px Aq f q)(r:iY Aq+5<mx)(g):MS C Dq Aq fT mn X f g/\A3 X f g:=by
 induction g with
 |nil=>exact⟨λa s=>dR s,λl s=>WV⟩|seq g j t v=>exact⟨λa s=>dR s,λl s=>akW t.1 v.2 s⟩|expr b=>exact⟨λa s=>al6 ((mE e b).1 c u _ (aU s).2) (ND<|(c V) V)<|(gX b _) J4 (nY (aU s).1) _ _ _,λl s=>dR s⟩|assign n b=>exact⟨λa s=>(by
  have s1:=aU s;have s2:=aU s1.2;have x:=mT e c s2.1;have d:=s1.1;have y:=s2.2;have z:(aE n.ctorIdx 17||H9 n)=Q->ja (Zq.eO C f) (nK n b) f (i7 [cy n _] _ (Zq.mz a)):=λH=>by have I:=(mE e b).1 c u _ y;exact oF H (λH=>ah (X' H) λh H=>ah H λo H=>by subst H;exact Ap x I Y ((gX b _) J5 _ _ _ _ _) Y) λH=>ah (f? H) λh H=>ah H λk H=>by subst H;exact Ap x I Y ((gX b _) J6 _ _ _ _ _) Y
  exact oF s2.1 (λH=>oF H (λH=>ah (JA H) λL H=>by
   have N:=H.1;subst N;exact ahe e c H.2 d y) λH=>ah (EK (aU H).1) λv N=>by
   subst N;exact acT e c x (aU H).2 d y) λH=>z (aU H).1),λl s=>dR s⟩
 |ret b=>exact⟨λa s=>agz e c s,λl s=>dR s⟩|ite k d h y z=>exact⟨λa s=>alP e c y.2 z.2 s,λl s=>dR s⟩|«while» k h z=>exact⟨λa s=>ajw e c m z.2 s,λl s=>dR s⟩|«for» n H d h g t=>exact⟨λa s=>af9 e c t.2 s,λl s=>dR s⟩|cont=>exact⟨λa s=>YD,λl s=>dR s⟩|raise p=>exact⟨λa s=>aiV e c r s,λl s=>dR s⟩|AV n b o k=>exact⟨λa s=>(by have h1:=aU s;have h2:=aU h1.2;have h3:=aU h2.2;have r:=aU h3.2;have I:=aU r.2;have x:=mT e c r.1;refine ah (YY (f:=λZ=>Q) I.1 Y) λL N=>?_;rw [N.1] at x⊢;exact ah (Zr e c h2.1) λv y=>ah y λz y=>ah y λt y=>aiU (e V) (c V) m y.1 x ((mE e b).1 c u _ I.2) Y ((gX b _) J4 (nY h3.1) _ _ _) Y ((c J3) V o<|jJ (aU h1.1).1) ((c J3) V k<|jJ (aU h1.1).2) y.2.2<|(e J1) o),λl s=>dR s⟩|stuck=>exact⟨λa s=>Vm,λl s=>dR s⟩|del l=>exact⟨λa s=>dR s,λl s=>dR s⟩
end
end
section
variable{o:PT}{p:vs}{b:jX}{h:O->ba}{sx n q:O}{X:aa<|O×O}{l:aa jX}{a:fZ}{f e:Zq.S}{c g k:Zq.E}{d:aa fZ}{j:aa fZ}{m:wF}
def y!(d:vM c=Q):∃a b g,c=ql a b g:=Bx (a:=λc=>∃a b g,c=ql a b g) c d λa b g=>⟨a,b,g,Y⟩
def aa8(j:MQ C Dq Aq fT h sx mn X b m f)(g:Om C Dq Aq fT h sx mn X b m e)(a:aD (s7 f) ((aX fT h sx C.S.nm mn X e).2 d) ((aX fT h sx C.S.nm mn X f).1 (jP d)&&(aX fT h sx C.S.nm mn X e).2 d.tail)=Q):wZ (eO C b) m (fG f e) b (v7 (aD (s7 f) (vL e d)<|rS C.S.nm mn f (jP d)::vL e d.tail) b):=by
 cases r:s7 f with
 |true=>rw [r] at a;exact ah (VA r) λk c=>by refine W c ?_;exactλl n o p q k s t v E x y z H I L=>(g d a) l n o _ q k s t v E x y z.del H I L|false=>exactλl n o p q k s t v E x y z H I L=>ks_wpAt_execs_cons<|(j _ (aU<|r▸a).1) l n o p _ k s t _ E x y z H (BG (λj l o p N x z=>(g _ (aU<|r▸a).2) l n o j q k s t v E N (y.on<|p V) x z (I.on p)<|L.on p) (I J1)<|I J2) L
section
variable(o:vz C fT)(m:wR C Dq Aq (eO C b) X Q b)(q:∀p,h p=Q->∃r,C.fa p=J r/\vG C b sx p r (mn p))
include o m q
def J'(a:vM c=Q)(d:BZ fT h sx X c y=Q):G5 C Dq Aq (eO C b) (sg j b) c b (bB (cy c y) b):=by refine ah (y! a) λf e=>ah e λp e=>ah e λg k=>?_;subst k;have l:=aU d;have n:=aU l.1;have f:=aU l.2;have k:=aU f.2;exact W (d9 n.1)<|ah (q p n.2) λr a=>((acd (o V) (m V) (m J4) (m J5) a.2 (D5 g _) (W (uf ..)<|cF (ht k.1)<|ao Y) (BS f.1) ((mE o g).2 m _ k.2)<|(m J7) p r a.1):G5 C Dq Aq _ _ _ b (bB (d2 _ (hz bu mn g (pt y).tail) [] y.pos) b))
def adE(f:px Aq b l)(k:iY Aq+5<mx){n:lq}(d:aD (vM c) (BZ fT h sx X c<|dP a) (qI fT bu mn X (uy c) a)=Q):wZ (eO C b) (sg j b) (uy c) b (yY (.Expr (cy c<|dP a)<|mz a) b):=by
 cases s:vM c with
 |true=>
  rw [s] at d
  exactλr n t v N x y z H E I L N x y H=>ks_wpAt_Expr_any ((J' o m q s d) r n t v _ z _ E I L N x (λn n n t z r1 I=>(y V) v r n t z (N.c7<|t V) I) (H.at N)) (ND<|(m V) V)<|(gX c _) J4 (ah (y! s) λr e=>ah e λp e=>ah e λg n=>aq _ n) _ _ _
 |false=>rw [s] at d;exact sD<|(mS o m f k _).1 a d
def ahZ(e:px Aq b l)(f:iY Aq+5<mx)(d:aD (vM c) (!vp a&&BZ fT h sx X c (dP a)) (qI fT bu mn X (v5 c) a)=Q):wZ (eO C b) (sg j b) (v5 c) b (yY (.Return (aD (vp a&&kQ c) A<|J<|cy c<|dP a)<|mz a) b):=by
 cases s:vM c with
 |true=>rw [s] at d;have h1:=aU d;exact W (nY h1.1)<|aiz<|J' o m q s h1.2|false=>rw [s] at d;exact sD<|(mS o m e f _).1 a d
def mA(p:px Aq b l)(r:iY Aq+5<mx)(f):MQ C Dq Aq fT h sx mn X b (sg j b) f/\Om C Dq Aq fT h sx mn X b (sg j b) f:=by
 induction f with
 |nil=>exact⟨λa s=>dR s,λd s=>sD WV⟩|seq f e t v=>exact⟨λa s=>dR s,λd s=>aa8 t.1 v.2 s⟩|expr c=>exact⟨λa s=>adE o m q p r (n:=mz a) s,λd s=>dR s⟩|assign x c=>exact⟨λa s=>sD<|(mS o m p r _).1 a s,λd s=>dR s⟩|ret c=>exact⟨λa s=>ahZ o m q p r s,λd s=>dR s⟩|ite k y z H I=>exact⟨λa s=>aj7 ((mE o k).1 m Q _ (aU s).1) (H.2 _ (aU (aU s).2).1)<|I.2 _ (aU (aU s).2).2,λd s=>dR s⟩|«while» k z I=>exact⟨λa s=>sD<|(mS o m p r _).1 a s,λd s=>dR s⟩|«for» x L y z f t=>exact⟨λa s=>sD<|(mS o m p r _).1 a s,λd s=>dR s⟩|cont=>exact⟨λa s=>sD YD,λd s=>dR s⟩|raise g=>exact⟨λa s=>sD<|(mS o m p r _).1 a s,λd s=>dR s⟩|AV x c n k=>exact⟨λa s=>sD<|(mS o m p r _).1 a s,λd s=>dR s⟩|stuck=>exact⟨λa s=>sD Vm,λd s=>dR s⟩|del d=>exact⟨λa s=>dR s,λd s=>dR s⟩
end
end
section
def S1(b:ub a=A)(c:∃i,nW a=J i)(d:iY a+3*n+310<mx)(e:gP a+20*n+310<k6):AN n a:=dS b c d e
def AN.OB(b:AN (n+1) a):AN n (ta a c):=S1 (b V) (ah (b J1) λi f=>cL _<|wV f) (cF (show iY a+1+3*n+310<=iY a+3*_+310 by lia)<|b J2)<|cF (show gP a+3+20*n+310<=gP a+20*_+310 by lia)<|b J3
def AN.new(b:AN (n+1) a):AN n (a.under<|tA "type.__call__" ⟨w c::d,[]⟩):=by
 have e:(tA "type.__call__" ⟨w c::d,[]⟩).cUnits<=10:=by have f:(tA "type.__call__" ⟨w c::d,[]⟩).frames=0:=Y;simp only [ag1,f];decide
 refine S1 (b V) (ah (b J1) λi f=>cL i<|af UB f) (cF (show iY a+1+3*n+310<=iY a+3*_+310 by lia)<|b J2)<|cF (show gP a+(tA "type.__call__" ⟨w c::d,[]⟩).cUnits+20*n+310<=gP a+20*_+310 by lia)<|b J3
def akC:∀{a} {L} {b},(k,ho)∈a\/d7 (b1 k b)=Q->d7 (b1 k<|yP L a b)=true:=by
 intro a;refine @(a.rec (λh=>aO h bG id) λp r c=>?_);intro L b h
 induction p with|mk m j=>
 refine(?_:d7 (b1 k (if(j==ho)=Q then yP _ r _ else yP L r b))=Q)
 by_cases e:j=ho
 .refine W e<|W (aJ (rfl:_=Q))<|c<|aO h (λh=>aO (mc h) (λq=>aw ?_) aL) λh=>aw ?_
  .cases q;exact aq _ Jf
  .by_cases q:k=m
   .exact W q<|W Jf Y
   .simp only [qT,show _=u from ak kZ q];exact h
 .exact W (aS λd=>e<|beq_iff_eq.mp d)<|c<|h.imp (λh=>aO (mc h) (λq=>by cases q;exact ay Y e) id) id
def no3(h:cS a (λp=> !aE p.2 3)=Q):∀x∈nZ b a,x.2≠ho:=λx c e=>ah (Pt c) λp d=>by
 have h3:=nY<|oY h _ d.1;have q:=aq (·.2) d.2
 by_cases f:p.2=4
 .rw [Ŀ f] at q;rw [<-q] at e;exact akY<|e
 .rw [DF f] at q;have q:xX p.2=x.2:=q;rw [e] at q;revert q h3;rcases p.2 with _|_|_|_|_<;>intro h3 q<;>first|(cases q;done)|(cases h3;done)
def afF(d:cm iS f=A)(e:cm tN f=A)(a:aK (n+1) f g b h c):False:=by
 rw [zx] at a;have a:(match cm iS f with
  |some j=>bE _ λl=>c1 _ c j.gY l b _ _ _|none=>bE _ λg=>∀k,b k=A->wQ n g _ _ _ c):=a
 rw [d,e] at a;exact a
def V8(m:lR)(c:AN (n+1) d)(g:∀f e,C.fa f=J e->uv C (aK n) (ta d a) f e)(b:hr a)(h:sM a j)(o:qf a=J (jz a))(k:y5 a.scope=u)(l:xM a.scope=u):wR C (aK n) (ta d a) (eO C a) j Q a:=
 have p:=c.OB
 (c J1).elim λi q=>ui b (cj (cF (by lia)<|p J3)<|cF (by lia)<|p J2) (p V) h aik (iC ⟨a,i,wV q,Y,by refine W (b V) ?_;decide⟩) (λZ=>dS b ⟨i,wV q⟩ k l) g
def XW:Ds Dq Aq:=λg a X b c d e=>⟨λs=>mS g c d e s,λf sx h j s=>mA g c j d e s⟩
def ai4(g:lR)(H:∀f a,C.fa f=J a->y7 C fT mn c f a):∀n (b:vs),AN n b->∀f a,C.fa f=J a->uv C (aK n) b f a:=by
 intro n
 induction n with
 |zero=>exactλb Z f a Z À z e h Á Ã Â m o p r q s t=>by rw [zx] at q;exact b6 q|succ n v=>
  intro b x f a y;have I:iY b<mx:=cF (by lia)<|x J2;have L:iY b+1+5<mx:=cF (by lia)<|x J2;refine H f a y _ (λN c n f b H X h1 y d j s l k=>?_) (λÄ N c n f b H X c h1 y d j h3 s l k n=>?_) (λc b h1 h2 h3 Å Æ Ç È=>aey (g V) h1 h2 h3 Å Æ Ç λh=>v _ x.new c b È) λh1 h2 À z e h Á Ã Â m o p r q s t=>b6<|afF h1 h2 q
  .have z:∀e h,i6 X h=J 3->∃m,b1 (C.S.nm h) (yP e (dp<|dX f) [])=J m:=λe h o=>vx.mp<|akC<|aL<|W j<|OF<|Bf ((g V) J1) ((g V) J2) o;refine abQ (g V) h1 y d I (x J1) (λe h t=>oF (oY s h t) (λo=>aL<|W j<|Bf ((g V) J1) ((g V) J2)<|jJ o) λo=>aw ⟨W j<|Bf ((g V) J1) ((g V) J2)<|jJ o,ah (z e h<|jJ o) λm p=>aq _ p⟩) λe=>?_;have r:sM (x4 f e a) X:=Z? (g V) j λh o=>z _ h o;have m:=ah (x J1) λi q=>((W' XW g _ _ _ (V8 g x (v _ x.OB) (bY (y J4) (y J2)<|y J3) r Y (y J6)<|y J5) (bY (wV q) Y<|y J4) L).1 N.gY).2 H k;exact l▸m
  .refine afA (g V) h1 y d I (x J1) (W j<|no3 h3) (λh t=>W j<|Bf ((g V) J1) ((g V) J2)<|jJ<|oY s h t) λe=>?_;have r:sM (jU f e a) X:=Z? (g V) j λh o=>by have c:=nY<|oY h3 _ (Z6 o);exact bR c
   have m:=ah (x J1) λi q=>((W' XW g _ _ _ (V8 g x (v _ x.OB) (bY (y J4) (y J2)<|y J3) r Y (y J6)<|y J5) (bY (wV q) Y<|y J4) L).2 Ä _ H (n e) N.gY).2 H k;rw [l] at m;exact m
end
end
open Zq.Cs renaming nil->bO
open Zq.Lw renaming nil->qM
section
noncomputable def MJ{a:Type}(d:a):aa a->O->a
|[],_=>d|a::l,n=>Wh n a<|MJ d l
noncomputable def nmT:=[["x","y",".0","at","abs","act","dot","due","law","len","max","one","own","pen","row","str","sum","way","Core","Leaf"],["NONE","Rule","Tree","best","bits","cell","deep","dict","done","drop","ends","fail","fill","goal","goto","here","item","kept","kind","last"],["left","line","list","lone","look","made","many","mask","mode","more","most","move","name","node","note","pair","part","pile","pull","rest"],["rows","rule","seed","seen","self","sets","size","spot","step","text","told","tree","turn","what","wish","Fault","QUIET","Token","_wall","added"],["after","ahead","begin","begun","build","built","child","close","count","digit","empty","error","fault","first","found","frame","go_on","gotos","great","heard"],["index","inner","items","kinds","known","later","lefts","looks","maker","masks","moves","named","names","needs","other","pairs","parse","parts","place","queue"],["quiet","range","reads","right","rules","seeds","shift","spots","stack","start","state","super","texts","token","trees","tuple","turns","users","value","words"],["worth","ACCEPT","BARRED","Closer","Parser","Tables","action","answer","barred","before","behind","caught","chosen","closer","counts","direct","dot_of","expand","expect","faults"],["finish","firsts","frames","kernel","length","levels","looked","middle","number","owners","parser","places","reduce","result","rights","script","settle","shifts","sorted","source"],["spread","states","status","symbol","tables","tokens","values","wanted","Builder","Control","Grammar","Handler","LrState","Outcome","befores","by_left","checked","control","default","digraph"],["follows","grammar","handler","has_lac","heights","is_leaf","lacking","lengths","missing","numbers","offsets","ordered","outcome","recover","rule_of","settled","symbols","waiting","without","Conflict"],["RowMaker","TokenRow","__init__","accepted","add_once","advanced","children","defaults","expected","explicit","first_of","includes","is_clean","is_grown","is_tried","is_whole","level_of","lookback","masks_of","nullable"],["relation","reversed","rules_of","terminal","Automaton","ToolError","_law_draw","_law_some","_law_text","automaton","conflicts","enumerate","lone_rule","nullables","number_of","open_ends","postorder","slr_masks","END_driver","END_tables"],["Lookaheads","ParseError","TableError","_law_empty","_law_heard","_law_known","_law_pairs","_law_right","default_of","error_goal","find_reads","isinstance","item_count","lalr_masks","left_names","next_token","read_masks","reductions","settle_one","slr_tables"],["tell_fault","transitive","would_take","END_grammar","ParseTables","TreeHandler","_law_frames","_law_leaves","closure_one","first_masks","is_terminal","lalr_tables","make_tables","nonterminal","terminal_of","transitions","ERROR_driver","ERROR_tables","GrammarError","_law_machine"],["first_kernel","follow_masks","joined_masks","symbol_count","OWN_TERMINALS","_law_sentence","find_includes","is_consistent","last_terminal","plain_grammar","settle_levels","with_defaults","CanonicalState","complete_rules","exact_expected","is_established","kernels_behind","terminal_count","advanced_lrzero","build_canonical"],["conflict_counts","UNDEFINED_driver","UNDEFINED_tables","canonical_tables","CanonicalAutomaton","number_transitions"]]
def kk(a):=CB<|MJ "" (MJ [] nmT<|a/20)<|a%20
noncomputable def af7:=326
def gN(a):=aD (dI a af7) (kk a) ⟨#[a+5000000]⟩
def oS(f):=dN (cm ahk f) 0
def aZ(a):=jP<|cq a Challenge.pw_nn0431_01.main.body
noncomputable def Kg{a:Type}(x)(d)(f:bj->Arguments->aa fZ->Scope->a):=dite (x.ctorIdx=0) (λh=>abH (motive_2:=λZ=>a) x h λn a b Z Z Z s Z Z Z=>f n a b s) λZ=>d
noncomputable def Xv{a:Type}(x)(d)(f:bj->aa fZ->a):=dite (x.ctorIdx=2) (λh=>adY (motive_2:=λZ=>a) x h λn Z Z b Z Z Z Z Z Z Z=>f n b) λZ=>d
def bF(j)(x):=Xv x x λZ b=>jP<|cq j b
def q1(x):=Kg x [] λZ Z b Z=>b
def Ξ(x):=Kg x IY λZ Z Z s=>s
noncomputable def KU:=[244,188,143,219,189,75,190,298,191,19,260,192,193,261,284,144,220,21,262,77,221,22,285,246,263,264,265,287,299,266,267,305,247,248,224,318,24,84,323,196,313,320,268,199,314,32,289,230,301,316,273,291,308,8,274,292,239,309,256,176,257,279,180,281,218,282]
def wX(f:O):=KU.any<|aE f
abbrev iF:=aa<|O×fO
noncomputable def cY:iF->O->bf fO
|[],_=>A|p::r,a=>aD (aE p.1 a) (J p.2)<|cY r a
noncomputable def NC:iF->O->(fO->fO)->iF
|[],_,_=>[]|p::r,a,f=>aD (aE p.1 a) ((p.1,f p.2)::r)<|p::NC r a f
structure LS where
L:iF
n:O
yo:hi GenState
x9:Drawn
yh:O
os:B7
abbrev O_:=(wF->lP AU)->zA->lb->cR->qX->Step
noncomputable def z3(x:lP AU):=aE (w7 x) 6||(aE (w7 x) 7||(aE (w7 x) 8||aE (w7 x) 9))
noncomputable def N4(a:O_)(b:wF->lP AU)(p:zA)(c:lb)(s:LS)(t:qX):bf (LS×qX):=match a b p c ⟨{},s.yo,s.x9,s.yh,s.os⟩ t with
| .go d e=>J ({s with yo:=d.gens,x9:=d.drawn,yh:=gu d,os:=d.os},e)
| .halt _ _=>A
def LZ(s)(t:qX)(x):=
dite (w7 x=6) (λh=>Ut (motive:=λZ=>bf<|LS×qX) x h λa Z k=>ez (cY s.L a) λo=>(sv o).map λb=>(s,{t with cur:=k b})) λZ=>
dite (w7 x=7) (λh=>X9 (motive:=λZ=>bf<|LS×qX) x h λa Z f k=>ez (cY s.L a) λo=>(sv o).map λZ=>({s with L:=NC s.L a f},{t with cur:=k ()})) λZ=>
dite (w7 x=8) (λh=>Vb (motive:=λZ=>bf<|LS×qX) x h λo k=>J ({s with L:=(s.n,o)::s.L,n:=s.n+1},{t with cur:=k s.n})) λZ=>
dite (w7 x=9) (λh=>t! (motive:=λZ=>bf<|LS×qX) x h λa k=>(cY s.L a).map λo=>(s,{t with cur:=k<|sv o})) λZ=>A
def TU(st)(a)(p)(b)(s)(t):=aD (z3 t.cur) (LZ s t t.cur)<|N4 st a p b s t
def RL(a:LS)(s):=om (∀b o,cY a.L b=J o->s.heap.objs[b]?=J o) (d8 s.heap.objs=a.n) (s.gens=a.yo) (s.drawn=a.x9) (gu s=a.yh)<|s.os=a.os
def yc(L:∀b o,cY a.L b=J o->s.heap.objs[b]?=J o)(n:d8 s.heap.objs=a.n)(g:s.gens=a.yo)(d:s.drawn=a.x9)(t:gu s=a.yh)(o:s.os=a.os):RL a s:=e1 L n g d t o
def FL(a b:LS)(s c:cR):=eY (a.n<=b.n)<|∀d,d<a.n->cY a.L d=A->cY b.L d=A/\c.heap.objs[d]?=s.heap.objs[d]?
def Ey(n:a.n<=c.n)(d:∀b,b<a.n->cY a.L b=A->cY c.L b=A/\e.heap.objs[b]?=s.heap.objs[b]?):FL a c s e:=cj n d
variable{h:wF->lP AU}{e:zA}{g:lb}{b f l:LS}{a d k:cR}{c j:qX}
def FL.refl:FL b b a a:=Ey (bb _) λc Z d=>br d rfl
def FL.trans(c:FL b f a d)(e:FL f l d k):FL b l a k:=Ey (ae (c V)<|e V) (λg h j=>
 have m:=(c J1) g h j;have j:=(e J1) g (cc h<|c V) m.1
 ⟨j.1,af j.2 m.2⟩)
def yF{a b:O}(c:a≠b):aE a b=false:=by
 cases q:aE a b with
 |false=>rfl|true=>exact ay (d9 q) c
def Y?:∀{L} m,cY (NC L n o) m=if m=n then b4 o (cY L n) else cY L m:=by
 intro L
 induction L with
 |nil=>intro m;split<;>rfl|cons a b c=>
  refineλm=>(?_:cY (aD _ _ _) m=if m=n then b4 o (aD _ (J a.2) _) else aD _ _ _)
  by_cases d:a.1=n
  .refine W d<|W (fK ..)<|(?_:aD (aE n m) _ _=_)
   by_cases e:m=n
   .exact W e<|W (fK ..)<|W (aJ Y) Y
   .exact W (aS e)<|W (yF<|l2 e) Y
  .refine W (yF d) (?_:aD _ _ _=_);refine W (c m) ?_
   by_cases e:m=n
   .rw [e,yF d,aJ Y,aJ Y];rfl
   .exact W (aS e)<|W (aS e) Y
def Ia{a:O}{o}(b:m.objs[a]?=J o):aH m a=sv o:=by unfold aH;refine W b ?_;obtain⟨c,d,dt,e⟩:=o;cases dt<;>rfl
def akm{code}{DZ}(c:RL b a)(k:z3 m=u)
 (l:N4 step h e g b ⟨m,code,n,DZ⟩=J (f,j)):∃d,step h e g a ⟨m,code,n,DZ⟩= .go d j/\RL f d/\FL b f a d:=by
 have h1:∀o q p,m≠ .load o q p:=λo q p r=>bR<|r▸k;have h2:∀o q s p,m≠ .update o q s p:=λo q s p r=>bR<|r▸k;have h3:∀t p,m≠ .alloc t p:=λt p r=>bR<|r▸k;have v:∀o p,m≠ .loadIfAlive o p:=λo p r=>by rw [r] at k;exact bR k
 unfold N4 at l;cases q:step h e g ⟨{},b.yo,b.x9,b.yh,b.os⟩ ⟨m,code,n,DZ⟩ with
 |halt t a=>rw [q] at l;exact aI l|go k x=>rw [q] at l;cases l;refine⟨⟨a.heap,k.gens,k.drawn,gu k,k.os⟩,?_,yc (c V) (c J1) Y Y Y Y,Ey (bb _) λl Z r=>br r rfl⟩;have k:=step_heap (H:=a.heap) h1 h2 h3 v q;rw [<-(c J2),<-(c J3),<-(c J4),<-(c J5)] at k;exact k
def aeL{b:lP AU->Prop}(c:z3 x=Q)(g:∀d e a,b<| .load d e a)(h:∀d e j a,b<| .update d e j a)(f:∀f a,b<| .alloc f a)(k:∀d a,b<| .loadIfAlive d a):b x:=
aO (kR.mp c) (λl=>Ut x (d9 l) g) λc=>aO (kR.mp c) (λl=>X9 x (d9 l) h) λc=>aO (kR.mp c) (λl=>Vb x (d9 l) f) λl=>t! x (d9 l) k
def SH(h)(e)(g)(b f)(a)(c j)(x):=LZ b c x=J (f,j)->∃d,step h e g a {c with cur:=x}= .go d j/\RL f d/\FL b f a d
def alZ(d:RL b a)(x)(k:z3 x=Q):SH h e g b f a c j x:=by
 obtain⟨l,m,n,tk,o⟩:=a;refine aeL k (λp k q r=>?_) (λp k s q r=>?_) (λt q r=>?_) λp q r=>?_
 .refine aA (ib.mp r) λt v r=>aA (oW.mp r) λy z r=>?_;cases r;exact⟨⟨l,m,n,tk,o⟩,by rw [step];exact W (af (Ia<|(d V) _ _ v) z:aH l p=J y) Y,d, .refl⟩
 .refine aA (ib.mp r) λt v r=>aA (oW.mp r) λy z r=>?_;cases r;have H:∀I,(rh l p s).objs[I]?=if p=I then b4 s (l.objs[I]?) else l.objs[I]?:=λI=>Array.getElem?_modify
  refine⟨⟨rh l p s,m,n,tk,o⟩,?_,yc (λI x L=>?_) ?_ (d J2) (d J3) (d J4)<|d J5,Ey (bb _) λI Z N=>?_⟩
  .simp only [step];exact W (af (Ia<|(d V) _ _ v) z:aH l p=J y) Y
  .rw [Y?] at L;refine W (H I) ?_
   by_cases z:I=p
   .rw [aJ z,v] at L;exact W (aJ z.symm)<|W z<|W ((d V) _ _ v:l.objs[p]?=J t) L
   .rw [aS z] at L;exact W (aS<|l2 z)<|(d V) _ _ L
  .exact W Array.size_modify<|d J1
  .have z:I≠p:=λz=>by rw [z,v] at N;cases N
   exact⟨W (Y? ..)<|W (aS z) N,W (H I)<|aS<|l2 z⟩
 .cases r;have q:d8 l.objs=b.n:=d J1;refine⟨⟨di l t,m,n,tk,o⟩,?_,yc (λI x L=>?_) ?_ (d J2) (d J3) (d J4)<|d J5,Ey (e7 _) λI s N=>?_⟩
  .simp only [step];exact W (q:d8 l.objs=b.n) Y
  .have L:aD (aE b.n I) (J t) _=J x:=L;refine W (VE) ?_
   by_cases z:b.n=I
   .rw [z,fK] at L;exact W (aJ<|af z.symm q.symm) L
   .rw [yF z] at L;exact W (aS λk=>z<|af q.symm k.symm)<|(d V) _ _ L
  .exact W (Array.size_push ..)<|aq _ q
  .have z:=(fH s).symm;refine br ?_ ?_
   .show aD _ (J t) _=A;exact W (yF z) N
   .exact W (VE)<|aS λk=>z<|af q.symm k.symm
 .refine aA (oW.mp r) λt v r=>?_;cases r;exact⟨⟨l,m,n,tk,o⟩,by simp only [step];exact W (Ia ((d V) _ _ v):aH l p=sv t) Y,d, .refl⟩
def ahf(l:RL b a)(k:TU step h e g b c=J (f,j)):∃d,step h e g a c= .go d j/\RL f d/\FL b f a d:=by
 have k:aD (z3 c.cur) (LZ b c c.cur) _=_:=k;cases q:z3 c.cur with
 |false=>rw [q] at k;exact akm l q k|true=>rw [q] at k;exact alZ l _ q k
noncomputable def JG(b:O_)(h:wF->lP AU)(d:O->bf a6->qX->ba)(e:zA)(g:lb)(f:O)(j:bf a6)(k:O):O->LS->qX->bf (Fl×LS×wF×lq)
|0,_,_=>A|n+1,a,c=>jV (endAt k c) (aD (d f j c) (ez (TU b h e g a c) λl=>JG b h d e g f j k n l.1 l.2) A) λb=>J (b,a,c.code,c.pos)
def ajj:∀{n} {b} {a} {c},RL b a->JG step (Sj q) Kc e g m o p n b c=J (r,f,s,t)->∃d,HH q e g m o p n a c=J (r,d,s,t)/\RL f d/\FL b f a d:=by
 intro n;refine @(n.rec (λZ h=>aI h) λn j=>?_);intro b a c l h;have h:jV (endAt p c) _ _=_:=h;unfold HH;cases v:endAt p c with
 |some x=>rw [v] at h;have h:=rG<|aC h;have h2:=rG h.2;exact⟨a,aq J<|p9 h.1<|p9 Y h2.2,h2.1▸l,h2.1▸ .refl⟩|none=>
  rw [v] at h;have h:aD (Kc m o c) _ _=_:=h;cases y:Kc m o c with
  |false=>rw [y] at h;exact aI h|true=>rw [y] at h;exact aA (ib.mp h) λr2 z h=>hv (ahf (f:=r2.1) (j:=r2.2) l z) λl l r1 H=>hv (j r1 h) λk h j I=>⟨k,W l h,j,H.trans I⟩
abbrev To:=JG κ (abl abG) akB
def agj:To=JG step (Sj wU) Kc:=W acU<|W agl<|W adl<|W abW Y
end
section
noncomputable def dl:O->O->aa O->aa O
|0,_,r=>r|f+1,n,r=>aD (aE n 0) r<|dl f (n/256)<|n%256::r
noncomputable def N(n:O):bj:=⟨⟨dl 60 n []⟩⟩
noncomputable abbrev o:a6:=bQ
noncomputable abbrev r(a:O):a6:=w a
noncomputable abbrev I(a:au)(t:O):a6:=ew a t
noncomputable def s(n t:O):a6:=gT (N n) t
noncomputable def S4(a:gF)(n:bj)(t:O)(v:a6):gy:={hash:=ae1 a n,key:=gT n t,val:=v}
def en(a:gF)(n:O):O->a6->gy:=S4 a<|N n
noncomputable def gx(n:O)(a:aa gy):fO:={cls:=uW,data:=qv ⟨a⟩ n}
def gd(a:aa gy):fO:=gx (U a) a
noncomputable def tO(l:aa a6):fO:={cls:=nu,data:=oB ⟨l⟩ 0}
noncomputable def Vf(v:a6):fO:={cls:=cJ "cell",data:=qQ<|J v}
def ZE(x:fZ):Arguments:=Kg x default λZ a Z Z=>a
noncomputable def C'{a:Type}(x:fZ)(d:a)(f:cX->a):a:=dite (x.ctorIdx=5) (λh=>ac2 (motive_2:=λZ=>a) x h λt Z Z=>jV (lH t) d f) λZ=>d
def KW(x:fZ):bj:=Kg x (Xv x (C' x default λt=>dite (t.ctorIdx=23) (λh=>abf (motive_1:=λZ=>bj) t h λn Z=>n) λZ=>default) λn Z=>n) λn Z Z Z=>n
def htp(x:fZ):lq:=C' x x.pos λt=>t.pos
def hQ(a:O):bj:=KW<|aZ a
noncomputable def nth(l:aa O)(a:O):Nat:=dN (l[a]?) 0
def Uj(t:O):a6:=s 0x2f636c61696d2f6375742e7079 t
def MR(a:O):a6:=dN ([s 0x5f5f6d61696e5f5f 164,s 0x6772616d6d61726d696c6c2e736f75726365 194,s 0x6772616d6d61726d696c6c2e616e616c79736973 341,s 0x6772616d6d61726d696c6c2e6c727a65726f 404,s 0x6772616d6d61726d696c6c2e6c6f6f6b6168656164 694,s 0x6772616d6d61726d696c6c2e63616e6f6e6963616c 850,s 0x6772616d6d61726d696c6c2e7461626c6573 1016,s 0x6772616d6d61726d696c6c2e647269766572 1474,s 0x6772616d6d61726d696c6c2e6772616d6d6172 2094,s 0x6772616d6d61726d696c6c2e6e6f646573 2273,s 0x6c61775f6e6e303433315f3031 2472])[a]? o
def XZ(n:O):a6:=aD (aE n 0) o<|r n
def vn(c a j t d m df b:O)(e:aa<|bj×cC)(f:a6):iF:=
 let x:=aD (aE j 0) (aZ a)<|bF (j-1)<|aZ a;let n:=KW x;let q:=aD (aE j 0) n<|hQ a++N 46++n;let l:a6:=ew x.pos.line 0;let z:a6:=ew 0 0;let h (k:O):a6:=r<|c-k;let y (a:a6):a6:=aD (aE b 0) a o
 [(c,{cls:=cJ "code",data:=eV ⟨[gT n t,gT q<|t+1,Uj<|t+2,l,ew (U (ZE x).args) 0,z,z,ew 3 0,h<|aD (aE b 0) 5 3,eR Q,ew 181 0,h<|aD (aE b 0) 4 2,o,y<|h 3,y<|h 2,h 1,ew d 0,l,Uj<|d+1]⟩}),(c+1,{cls:=cJ "function",data:= .func {name:=n,qualname:=q,params:=ZE x,body:= .stmts<|q1 x,scope:=Ξ x,globals:=3,closure:=e,defaults:=XZ df,kwdefaults:=bQ,pyModule:=MR m,code:=w c,closureTuple:=f}})]
def hfz(c a j t b m df d:O):iF:=vn c a j t b m df d [] o
def hfx:aa bj:=[N 0x5f5f6d6f64756c655f5f,N 0x5f5f66697273746c696e656e6f5f5f,N 0x5f5f7374617469635f617474726962757465735f5f,N 0x5f5f646963745f5f,N 0x5f5f7765616b7265665f5f,N 0x5f5f646f635f5f]
noncomputable def V4(a:gF)(x:fZ):aa O->aa gy
|k::t::v::l=>S4 a (aD (dI k 100) (KW<|bF k x)<|dN hfx[k-100]? default) t (aD (aE k 100) (MR v)<|aD (aE k 101) (ew x.pos.line<|t-1)<|XZ v)::V4 a x l|_=>[]
def KJ(a:gF)(b n:O)(l:aa O):fO:=gx n<|V4 a (aZ b) l
noncomputable def kO(n:bj)(b m:aa a6)(ns:O)(a:aa a6)(c:bf a6)(t d:O)(e:a6):fO:={cls:=cJ "type",data:= .cls {name:=n,bases:=b,mro:=m,ns:=ns,qualname:=n,subclasses:=a},slots:=#[c,A,J<|gT n t,J<|gT n d,J e,J<|eR Q]}
noncomputable abbrev b0:=boot_o_0
noncomputable abbrev PG:=Challenge.pw_nn0431_01
def yM:aa fZ:=behindTheImports PG
def zt:jX:={scope:=PG.main.scope,locals:=3,globals:=3,cells:=[],code:=w 13,frame:=J 14}
def y3:wF:= .body yM zt
noncomputable def o4:fO:={cls:=cJ "module",dict:=J 0}
def Xb:fO:={cls:=cJ "code",data:=eV ⟨[s 0x3c6d6f64756c653e 182,s 0x3c6d6f64756c653e 183,s 0x2f636c61696d2f6375742e7079 184,I 1 0,I 0 0,I 0 0,I 0 0,I 0 0,r 11,eR u,I 181 0,r 12,o,o,o,o,I 185 0,I 1 0,s 0x2f636c61696d2f6375742e7079 186]⟩}
def x2(a:gF):fO:=let e:=en a;{cls:=bQ,data:=qv ⟨[e 0x747970652e5f5f737562636c61737365735f5f2e457863657074696f6e2e30 230<|I 46 0,e 0x747970652e5f5f737562636c61737365735f5f2e457863657074696f6e2e6e 231<|I 1 0]⟩ 2}
noncomputable def VQ(a:gF)(b:a6):aa a6->aa O->aa gy
|c,d::t::v::l=>let(y,e):=(match v,c with|0,f::e=>(f,e)|2,_=>(b,c)|v,_=>(r v,c));S4 a (hQ d) t y::VQ a b e l
|_,_=>[]
def ge(a:gF)(b c:a6):aa gy:=let e:=en a;[e 0x5f5f6e616d655f5f 165 b,e 0x5f5f646f635f5f 166 o,e 0x5f5f7061636b6167655f5f 167 o,e 0x5f5f6c6f616465725f5f 168<|ei "__main__.__loader__#opaque",e 0x5f5f737065635f5f 169 o,e 0x5f5f616e6e6f746174696f6e735f5f 170<|r 6,e 0x5f5f6275696c74696e735f5f 171<|r 4,e 0x5f5f66696c655f5f 173<|s 0x2f636c61696d2f6375742e7079 172,e 0x5f5f6361636865645f5f 174 o]++VQ a c [I (-1) 407,I 1048576 1020,I (-1048576) 1025,I 0 1027,I 1 1029,I 2 1031,I 0 1476,I 1 1478,I 2 1480,I 3 1482,I 0 2096] [0,193,21,2,233,46,3,249,59,4,265,71,5,281,83,6,330,117,7,340,128,9,348,133,10,355,140,11,366,147,12,379,154,13,393,161,14,403,168,16,408,0,17,459,199,18,522,241,19,530,2,20,531,252,21,543,259,22,553,266,23,627,318,24,686,360,25,693,371,27,714,378,28,823,435,29,831,446,30,838,453,31,849,460,33,896,482,34,953,524,35,973,535,37,980,540,38,987,547,39,1005,555,40,1015,562,42,1021,0,43,1026,0,44,1028,0,45,1030,0,46,1032,0,47,1167,656,48,1211,684,49,1267,726,50,1278,735,51,1354,778,52,1365,789,53,1371,794,54,1391,802,55,1400,810,56,1409,818,57,1418,826,58,1428,834,59,1437,841,60,1447,848,61,1462,855,62,1473,862,64,1477,0,65,1479,0,66,1481,0,67,1483,0,68,1528,893,69,1579,929,70,1621,957,71,1659,985,72,1875,1152,73,1962,1229,74,2093,1335,76,2097,0,77,2101,1338,78,2146,1356,79,2256,1438,80,2266,1449,81,2272,1455,83,2357,1517,84,2399,1552,85,2410,1561,86,2465,1599,87,2471,1608,89,2537,1657,90,2549,1664,91,2555,1669,92,2567,1676,93,2573,1681,94,2584,1688,95,2590,1693,96,2596,1698,97,2602,1703,98,2608,1708,99,2614,1713,100,2620,1718,101,2632,1725]
noncomputable def l?:aa O->aa a6
|a::b::l=>I a 0::I 0 0::r b::l? l|_=>[]
def c12:aa a6:=l? [1,20,5,27,16,55,18,67,20,79,22,91,35,127,46,132,72,139,74,146,81,153,95,160,113,167,122,174,139,209,168,251,171,258,183,265,189,272,214,328,242,370,245,377,279,384,360,445,363,452,365,459,373,466,393,492,411,534,433,539,442,546,444,554,464,561,476,568,537,666,548,695,571,734,587,741,650,788,662,793,664,801,685,809,688,817,691,825,694,833,702,840,708,847,717,854,732,861,743,868,753,903,766,939,776,967,789,995,910,1162,948,1240,1031,1344,1041,1366,1087,1448,1093,1454,1116,1461,1150,1527,1163,1560,1172,1567,1188,1607,1192,1663,1207,1668,1209,1675,1223,1680,1231,1687,1240,1692,1284,1697,1295,1702,1302,1707,1309,1712,1334,1717,1353,1724]
structure Dt where
n:O
k:O
p:lq
nv:a6
av:a6
c:O
j:O
y:ba
m:iF
def nw(a:gF)(d:Dt):iF:=(3,gd<|(ge a d.nv d.av).take d.c)::(12,{cls:=bQ,data:=eV ⟨c12.take d.j⟩})::(4,o4)::(13,Xb)::(0,b0 a)::(2,aD d.y (x2 a) {cls:=bQ,data:=qv #[] 0})::d.m
def kz(c:gF)(a b k d v:O)(l:aa O):iF:=[(a-1,KJ c b k l),(a,kO (hQ b) [e2] [r a,e2] (a-1) [] A d v<|ei "object.__new__")]
def mr(a:gF)(l:aa O):iF:=let g:=nth l;aD (jB (U l) 8) (hfz (g 0) (g 1) (g 2) (g 3) (g 4) (g 5) (g 6)<|g 7) (kz a (g 0) (g 1) (g 2) (g 3) (g 4)<|l.drop 5)
noncomputable abbrev vy:=ei "Exception.__new__"
def mo(a:gF):iF:=let b:=KJ a;[(29,tO [o])]++([[35,2,1,208,214,1,29]].flatMap (mr a)++([(45,b 2 3 [100,203,1,101,207,0,0,216,36,1,223,43,102,226,44,104,228,47,105,229,0]),(46,kO (hQ 2) [jr] [r 46,jr,qF,e2] 45 [r 59,r 71,r 83] (J<|r 22) 196 204<|vy),(58,b 3 2 [100,241,1,101,245,0,102,246,57,105,247,0]),(59,kO (hQ 3) [r 46] [r 59,r 46,jr,qF,e2] 58 [] (J<|r 50) 234 242<|vy),(70,b 4 2 [100,257,1,101,261,0,102,262,69,105,263,0]),(71,kO (hQ 4) [r 46] [r 71,r 46,jr,qF,e2] 70 [] (J<|r 62) 250 258<|vy),(82,b 5 2 [100,273,1,101,277,0,102,278,81,105,279,0]),(83,kO (hQ 5) [r 46] [r 83,r 46,jr,qF,e2] 82 [] (J<|r 74) 266 274<|vy),(93,tO [o])]++([[99,6,1,294,302,1,93],[106,6,2,305,309,1],[117,6,4,282,290,100,289,1,101,293,0,0,304,100,1,311,107,2,318,114,102,323,115,103,325,118,104,327,119,105,328,0],[127,7,0,331,338,1],[132,9,0,343,346,2,0,1],[139,10,0,349,353,2],[146,11,0,356,364,2],[153,12,0,367,377,2],[160,13,0,380,391,2],[167,14,0,394,401,2],[181,17,1,421,428,3],[188,17,2,431,436,3],[199,17,4,409,417,100,416,3,101,420,0,0,430,182,1,438,189,2,445,196,102,452,197,103,454,200,104,456,201,105,457,0],[216,18,1,472,479,3],[223,18,2,482,490,3],[230,18,3,493,502,3],[237,18,4,505,510,3],[241,18,4,460,468,100,467,3,101,471,0,0,481,217,1,492,224,2,504,231,3,512,238,102,515,239,103,517,242,104,519,243,105,520,0],[251,19,0,523,528,3],[258,21,0,532,541,3],[265,22,0,544,551,3],[279,23,1,566,572,3],[286,23,2,575,581,3],[318,23,4,554,562,100,561,3,101,565,0,0,574,280,1,583,287,2,594,294,3,603,301,4,610,308,5,617,315,102,620,316,103,622,319,104,624,320,105,625,0],[335,24,1,640,645,3],[342,24,2,648,654,3],[349,24,3,657,664,3],[356,24,4,667,672,3],[360,24,4,628,636,100,635,3,101,639,0,0,647,336,1,656,343,2,666,350,3,674,357,102,679,358,103,681,361,104,683,362,105,684,0],[370,25,0,687,691,3],[377,27,0,696,712,4],[389,28,1,727,730,4,0,1],[396,28,2,733,740,4],[403,28,3,743,755,4],[410,28,4,758,774,4],[417,28,5,777,783,4],[424,28,6,786,794,4],[435,28,4,715,723,100,722,4,101,726,0,0,732,390,1,742,397,2,757,404,3,776,411,4,785,418,5,796,425,6,803,432,102,816,433,103,818,436,104,820,437,105,821,0],[445,29,0,824,829,4],[452,30,0,832,836,4],[459,31,0,839,847,4],[482,33,4,852,860,100,859,5,101,863,0,0,869,472,1,880,479,102,889,480,103,891,483,104,893,484,105,894,0],[524,34,4,897,905,100,904,5,101,908,0,0,917,500,1,924,507,2,933,514,3,943,521,102,946,522,103,948,525,104,950,526,105,951,0],[575,47,1,1045,1055,6],[582,47,2,1058,1063,6],[589,47,3,1066,1071,6],[596,47,4,1074,1079,6],[603,47,5,1082,1087,6],[624,47,8,1106,1111,6],[638,47,10,1123,1130,6],[645,47,11,1133,1141,6],[652,47,12,1144,1150,6]].flatMap (mr a)++([(655,b 47 4 [100,1040,6,101,1044,0,0,1057,576,1,1065,583,2,1073,590,3,1081,597,4,1089,604,5,1096,611,6,1105,618,7,1113,625,8,1122,632,9,1132,639,10,1143,646,11,1152,653,102,1160,654,103,1162,657,104,1164,658,105,1165,0]),(656,kO (hQ 47) [e2] [r 656,e2] 655 [r 726] A 1033 1041<|ei "object.__new__")]++([[673,48,1,1180,1189,6],[684,48,4,1168,1176,100,1175,6,101,1179,0,0,1191,674,1,1198,681,102,1204,682,103,1206,685,104,1208,686,105,1209,0]].flatMap (mr a)++([(692,Vf<|r 726)]++(vn 701 49 1 1224 1228 6 0 1 [(N 0x5f5f636c6173735f5f,692)] (r 697)++([[715,49,3,1238,1244,6],[722,49,4,1247,1253,6]].flatMap (mr a)++([(725,b 49 3 [100,1219,6,101,1223,0,0,1230,702,1,1237,709,2,1246,716,3,1255,723,102,1263,724,105,1265,0]),(726,kO (hQ 49) [r 656] [r 726,r 656,e2] 725 [] (J<|r 689) 1212 1220<|ei "object.__new__")]++([[734,50,0,1268,1276,6],[748,51,1,1291,1300,6],[755,51,2,1303,1310,6],[769,51,4,1324,1331,6],[774,51,5,1334,1337,6,0,1],[778,51,4,1279,1287,100,1286,6,101,1290,0,0,1302,749,1,1312,756,2,1323,763,3,1333,770,4,1339,775,102,1347,776,103,1349,779,104,1351,780,105,1352,0],[788,52,0,1355,1363,6],[793,53,0,1366,1369,6,0,1]].flatMap (mr a)++([(795,tO [s 0x6c616c72 1372])]++([[801,54,0,1373,1389,6,795]].flatMap (mr a)++([(803,tO [eR Q])]++([[809,55,0,1392,1398,6,803]].flatMap (mr a)++([(811,tO [eR Q])]++([[817,56,0,1401,1407,6,811]].flatMap (mr a)++([(819,tO [eR Q])]++([[825,57,0,1410,1416,6,819]].flatMap (mr a)++([(827,tO [s 0x6c616c72 1419,eR Q])]++([[833,58,0,1420,1426,6,827],[840,59,0,1429,1435,6],[847,60,0,1438,1445,6],[854,61,0,1448,1460,6],[861,62,0,1463,1471,6],[893,68,4,1484,1492,100,1491,7,101,1495,0,0,1503,876,1,1513,883,2,1520,890,102,1521,891,103,1523,894,104,1525,895,105,1526,0]].flatMap (mr a)++([(905,tO [I (-1) 1542])]++([[911,69,1,1543,1551,7,905],[918,69,2,1554,1558,7],[929,69,4,1529,1537,100,1536,7,101,1540,0,0,1553,912,1,1560,919,2,1567,926,102,1572,927,103,1574,930,104,1576,931,105,1577,0],[946,70,1,1592,1600,7],[957,70,4,1580,1588,100,1587,7,101,1591,0,0,1602,947,1,1609,954,102,1614,955,103,1616,958,104,1618,959,105,1619,0],[974,71,1,1634,1639,7],[981,71,2,1642,1647,7],[985,71,4,1622,1630,100,1629,7,101,1633,0,0,1641,975,1,1649,982,102,1652,983,103,1654,986,104,1656,987,105,1657,0]].flatMap (mr a)++([(997,tO [o,I 5000 1672])]++([[1003,72,1,1673,1680,7,997],[1010,72,2,1683,1687,7],[1017,72,3,1690,1694,7],[1024,72,4,1697,1702,7],[1031,72,5,1705,1710,7],[1045,72,7,1721,1725,7],[1052,72,8,1728,1733,7],[1059,72,9,1736,1741,7],[1066,72,10,1744,1750,7],[1073,72,11,1753,1758,7],[1080,72,12,1761,1765,7],[1087,72,13,1768,1774,7],[1094,72,14,1777,1785,7],[1108,72,16,1796,1801,7],[1115,72,17,1804,1813,7],[1129,72,19,1825,1832,7],[1136,72,20,1835,1839,7],[1141,72,21,1842,1845,7,0,1],[1148,72,22,1848,1853,7]].flatMap (mr a)++([(1151,b 72 4 [100,1667,7,101,1671,0,0,1682,1004,1,1689,1011,2,1696,1018,3,1704,1025,4,1712,1032,5,1720,1039,6,1727,1046,7,1735,1053,8,1743,1060,9,1752,1067,10,1760,1074,11,1767,1081,12,1776,1088,13,1787,1095,14,1795,1102,15,1803,1109,16,1815,1116,17,1824,1123,18,1834,1130,19,1841,1137,20,1847,1142,21,1855,1149,102,1868,1150,103,1870,1153,104,1872,1154,105,1873,0]),(1152,kO (hQ 72) [e2] [r 1152,e2] 1151 [r 1335] A 1660 1668<|ei "object.__new__")]++([[1169,73,1,1888,1893,7],[1229,73,4,1876,1884,100,1883,7,101,1887,0,0,1895,1170,1,1902,1177,2,1909,1184,3,1916,1191,4,1923,1198,5,1930,1205,6,1937,1212,7,1945,1219,8,1953,1226,102,1955,1227,103,1957,1230,104,1959,1231,105,1960,0]].flatMap (mr a)++([(1237,Vf<|r 1335),(1242,tO [o,I 5000 1975,eR u])]++(vn 1249 74 1 1976 1985 7 1242 0 [(N 0x5f5f636c6173735f5f,1237)] (r 1243)++(vn 1257 74 2 1988 1993 7 0 0 [(N 0x5f5f636c6173735f5f,1237)] (r 1251)++(vn 1265 74 3 1996 2002 7 0 0 [(N 0x5f5f636c6173735f5f,1237)] (r 1259)++([[1272,74,4,2005,2009,7],[1279,74,5,2012,2017,7]].flatMap (mr a)++(vn 1287 74 6 2020 2026 7 0 0 [(N 0x5f5f636c6173735f5f,1237)] (r 1281)++([[1294,74,7,2029,2035,7]].flatMap (mr a)++(vn 1302 74 8 2038 2046 7 0 0 [(N 0x5f5f636c6173735f5f,1237)] (r 1296)++(vn 1310 74 9 2049 2054 7 0 0 [(N 0x5f5f636c6173735f5f,1237)] (r 1304)++([[1317,74,10,2057,2062,7],[1324,74,11,2065,2070,7],[1331,74,12,2073,2078,7]].flatMap (mr a)++([(1334,b 74 3 [100,1970,7,101,1974,0,0,1987,1250,1,1995,1258,2,2004,1266,3,2011,1273,4,2019,1280,5,2028,1288,6,2037,1295,7,2048,1303,8,2056,1311,9,2064,1318,10,2072,1325,11,2080,1332,102,2089,1333,105,2091,0]),(1335,kO (hQ 74) [r 1152] [r 1335,r 1152,e2] 1334 [] (J<|r 1234) 1963 1971<|ei "object.__new__"),(1338,tO [s 0x24656e64 2098,s 0x6572726f72 2099,s 0x24756e646566696e6564 2100]),(1346,tO [I (-1) 2115,o,I 0 2116,I 0 2117])]++([[1352,78,1,2118,2129,8,1346],[1356,78,4,2102,2110,100,2109,8,101,2113,0,0,2131,1353,102,2139,1354,103,2141,1357,104,2143,1358,105,2144,0],[1371,79,1,2159,2162,8,0,1],[1378,79,2,2165,2169,8],[1385,79,3,2172,2177,8],[1406,79,6,2196,2201,8],[1413,79,7,2204,2210,8],[1420,79,8,2213,2218,8],[1427,79,9,2221,2226,8],[1434,79,10,2229,2236,8],[1438,79,4,2147,2155,100,2154,8,101,2158,0,0,2164,1372,1,2171,1379,2,2179,1386,3,2187,1393,4,2195,1400,5,2203,1407,6,2212,1414,7,2220,1421,8,2228,1428,9,2238,1435,102,2249,1436,103,2251,1439,104,2253,1440,105,2254,0],[1448,80,0,2257,2264,8]].flatMap (mr a)++([(1450,tO [o])]++([[1454,81,0,2267,2270,8,1450,1],[1468,83,1,2287,2294,9],[1475,83,2,2297,2301,9],[1489,83,4,2311,2318,9]].flatMap (mr a)++([(1516,b 83 4 [100,2282,9,101,2286,0,0,2296,1469,1,2303,1476,2,2310,1483,3,2320,1490,4,2326,1495,5,2332,1500,6,2339,1507,7,2346,1514,102,2350,1515,103,2352,1518,104,2354,1519,105,2355,0]),(1517,kO (hQ 83) [e2] [r 1517,e2] 1516 [r 1552] A 2275 2283<|ei "object.__new__")]++([[1534,84,1,2370,2375,9],[1541,84,2,2378,2382,9]].flatMap (mr a)++([(1551,b 84 2 [100,2365,9,101,2369,0,0,2377,1535,1,2384,1542,2,2391,1549,102,2396,1550,105,2397,0]),(1552,kO (hQ 84) [r 1517] [r 1552,r 1517,e2] 1551 [] (J<|r 1522) 2358 2366<|ei "object.__new__")]++([[1560,85,0,2400,2408,9],[1574,86,1,2423,2428,9],[1581,86,2,2431,2436,9],[1588,86,3,2439,2447,9],[1595,86,4,2450,2454,9],[1599,86,4,2411,2419,100,2418,9,101,2422,0,0,2430,1575,1,2438,1582,2,2449,1589,3,2456,1596,102,2458,1597,103,2460,1600,104,2462,1601,105,2463,0],[1607,87,0,2466,2469,9,0,1]].flatMap (mr a)++([(1609,tO []),(1610,tO [s 0x73 2474,r 1609]),(1611,tO [s 0x73 2476,s 0x74 2477,s 0x62 2478]),(1612,tO [s 0x73 2475,r 1611]),(1613,tO [s 0x73 2480,s 0x6572726f72 2481,s 0x62 2482]),(1614,tO [s 0x73 2479,r 1613]),(1615,tO [s 0x61 2484]),(1616,tO [s 0x74 2483,r 1615]),(1617,tO [s 0x74 2486,s 0x63 2487,s 0x61 2488]),(1618,tO [s 0x74 2485,r 1617]),(1619,tO [r 1610,r 1612,r 1614,r 1616,r 1618]),(1620,tO [s 0x61 2490]),(1621,tO [s 0x73 2489,r 1620]),(1622,tO [s 0x62 2492,s 0x74 2493,s 0x63 2494]),(1623,tO [s 0x73 2491,r 1622]),(1624,tO [s 0x62 2496,s 0x6572726f72 2497,s 0x63 2498]),(1625,tO [s 0x73 2495,r 1624]),(1626,tO []),(1627,tO [s 0x74 2499,r 1626]),(1628,tO [s 0x74 2501,s 0x73 2502]),(1629,tO [s 0x74 2500,r 1628]),(1630,tO [r 1621,r 1623,r 1625,r 1627,r 1629]),(1631,tO [s 0x61 2504]),(1632,tO [s 0x73 2503,r 1631]),(1633,tO [s 0x6572726f72 2506]),(1634,tO [s 0x73 2505,r 1633]),(1635,tO [s 0x73 2508,s 0x63 2509,s 0x74 2510]),(1636,tO [s 0x73 2507,r 1635]),(1637,tO [s 0x62 2512]),(1638,tO [s 0x74 2511,r 1637]),(1639,tO [s 0x62 2514,s 0x6572726f72 2515]),(1640,tO [s 0x74 2513,r 1639]),(1641,tO [r 1632,r 1634,r 1636,r 1638,r 1640]),(1642,tO [s 0x61 2517]),(1643,tO [s 0x73 2516,r 1642]),(1644,tO [s 0x6572726f72 2519,s 0x61 2520]),(1645,tO [s 0x73 2518,r 1644]),(1646,tO [s 0x62 2522,s 0x73 2523,s 0x63 2524]),(1647,tO [s 0x73 2521,r 1646]),(1648,tO [s 0x62 2526,s 0x6572726f72 2527,s 0x62 2528]),(1649,tO [s 0x73 2525,r 1648]),(1650,tO [s 0x74 2530,s 0x73 2531]),(1651,tO [s 0x73 2529,r 1650]),(1652,tO [s 0x63 2533]),(1653,tO [s 0x74 2532,r 1652]),(1654,tO [s 0x6572726f72 2535,s 0x63 2536]),(1655,tO [s 0x74 2534,r 1654]),(1656,tO [r 1643,r 1645,r 1647,r 1649,r 1651,r 1653,r 1655]),(1657,tO [r 1619,r 1630,r 1641,r 1656])]++([[1663,90,0,2538,2547,10],[1668,91,0,2550,2553,10,0,1],[1675,92,0,2556,2565,10],[1680,93,0,2568,2571,10,0,1],[1687,94,0,2574,2582,10],[1692,95,0,2585,2588,10,0,1],[1697,96,0,2591,2594,10,0,1],[1702,97,0,2597,2600,10,0,1],[1707,98,0,2603,2606,10,0,1],[1712,99,0,2609,2612,10,0,1],[1717,100,0,2615,2618,10,0,1],[1724,101,0,2621,2630,10]].flatMap<|mr a))))))))))))))))))))))))))))))))))))))))))))))
def sl(a:gF)(k n:O):iF:=((mo a).drop k).take n
def aja(b:gF)(a:O):iF:=let c:=KJ b;aD (aE a 0) [(1,D6 b)] (aD (aE a 3) [(46,kO (hQ 2) [jr] [r 46,jr,qF,e2] 45 [] (J<|r 22) 196 204<|vy)]<|aD (aE a 4) [(46,kO (hQ 2) [jr] [r 46,jr,qF,e2] 45 [r 59] (J<|r 22) 196 204<|vy),(45,c 2 3 [100,203,1,101,207,0,0,216,36,1,223,43,102,226,44,104,228,47,105,229,0])]<|aD (aE a 5) [(46,kO (hQ 2) [jr] [r 46,jr,qF,e2] 45 [r 59,r 71] (J<|r 22) 196 204<|vy),(45,c 2 3 [100,203,1,101,207,0,0,216,36,1,223,43,102,226,44,104,228,47,105,229,0])]<|aD (aE a 6) [(46,kO (hQ 2) [jr] [r 46,jr,qF,e2] 45 [r 59,r 71,r 83] (J<|r 22) 196 204<|vy),(45,c 2 3 [100,203,1,101,207,0,0,216,36,1,223,43,102,226,44,104,228,47,105,229,0])]<|aD (aE a 48) [(656,kO (hQ 47) [e2] [r 656,e2] 655 [] A 1033 1041<|ei "object.__new__")]<|aD (aE a 50) [(656,kO (hQ 47) [e2] [r 656,e2] 655 [r 726] A 1033 1041<|ei "object.__new__"),(655,c 47 4 [100,1040,6,101,1044,0,0,1057,576,1,1065,583,2,1073,590,3,1081,597,4,1089,604,5,1096,611,6,1105,618,7,1113,625,8,1122,632,9,1132,639,10,1143,646,11,1152,653,102,1160,654,103,1162,657,104,1164,658,105,1165,0])]<|aD (aE a 73) [(1152,kO (hQ 72) [e2] [r 1152,e2] 1151 [] A 1660 1668<|ei "object.__new__")]<|aD (aE a 75) [(1152,kO (hQ 72) [e2] [r 1152,e2] 1151 [r 1335] A 1660 1668<|ei "object.__new__"),(1151,c 72 4 [100,1667,7,101,1671,0,0,1682,1004,1,1689,1011,2,1696,1018,3,1704,1025,4,1712,1032,5,1720,1039,6,1727,1046,7,1735,1053,8,1743,1060,9,1752,1067,10,1760,1074,11,1767,1081,12,1776,1088,13,1787,1095,14,1795,1102,15,1803,1109,16,1815,1116,17,1824,1123,18,1834,1130,19,1841,1137,20,1847,1142,21,1855,1149,102,1868,1150,103,1870,1153,104,1872,1154,105,1873,0])]<|aD (aE a 84) [(1517,kO (hQ 83) [e2] [r 1517,e2] 1516 [] A 2275 2283<|ei "object.__new__")]<|aD (aE a 85) [(1517,kO (hQ 83) [e2] [r 1517,e2] 1516 [r 1552] A 2275 2283<|ei "object.__new__"),(1516,c 83 4 [100,2282,9,101,2286,0,0,2296,1469,1,2303,1476,2,2310,1483,3,2320,1490,4,2326,1495,5,2332,1500,6,2339,1507,7,2346,1514,102,2350,1515,103,2352,1518,104,2354,1519,105,2355,0])]<|[])
noncomputable def XV(a:gF):O->aa O->aa Dt
|b,n::k::m::c::d::j::y::e::f::l=>⟨n,k,aD (aE b 0) ⟨0,0,0,0⟩<|htp<|aZ<|b-1,MR m,r c,d,j,aE y 1,aja a b++sl a e f⟩::XV a (b+1) l|_,_=>[]
def dd(a:gF):aa Dt:=XV a 0 [15,187,0,0,9,0,0,0,0,22,194,0,0,10,3,0,0,0,22,196,1,0,10,3,0,0,0,50,234,1,0,11,6,1,0,4,62,250,1,0,12,9,1,5,2,74,266,1,0,13,12,1,7,2,86,282,1,0,14,15,1,9,2,122,331,1,0,15,18,1,11,7,129,341,1,0,16,21,1,18,2,129,343,2,0,16,21,1,0,0,134,349,2,0,17,24,1,20,2,141,356,2,0,18,27,1,22,2,148,367,2,0,19,30,1,24,2,155,380,2,0,20,33,1,26,2,162,394,2,0,21,36,1,28,2,169,404,2,0,22,39,1,30,2,169,406,3,0,22,39,1,0,0,169,409,3,0,23,39,1,0,0,204,460,3,0,24,42,1,32,6,246,523,3,0,25,45,1,38,10,253,531,3,252,26,48,1,48,2,253,532,3,252,27,48,1,0,0,260,544,3,252,28,51,1,50,2,267,554,3,252,29,54,1,52,2,323,628,3,252,30,57,1,54,6,365,687,3,252,31,60,1,60,10,372,694,3,252,32,63,1,70,2,372,696,4,252,32,63,1,0,0,379,715,4,252,33,66,1,72,2,440,824,4,252,34,69,1,74,14,447,832,4,252,35,72,1,88,2,454,839,4,252,36,75,1,90,2,461,850,4,252,37,78,1,92,2,461,852,5,252,37,78,1,0,0,487,897,5,252,38,81,1,94,2,529,954,5,252,39,84,1,96,2,536,974,5,252,40,87,1,0,0,541,980,5,540,40,90,1,0,0,541,981,5,540,41,90,1,0,0,548,988,5,540,42,93,1,0,0,556,1006,5,540,43,96,1,0,0,563,1016,5,540,44,99,1,0,0,563,1018,6,540,44,99,1,0,0,563,1022,6,540,45,99,1,0,0,563,1027,6,540,46,99,1,0,0,563,1029,6,540,47,99,1,0,0,563,1031,6,540,48,99,1,0,0,563,1033,6,540,49,99,1,0,0,661,1168,6,540,50,102,1,98,19,689,1212,6,540,51,105,1,118,4,729,1268,6,540,52,108,1,122,9,736,1279,6,540,53,111,1,131,2,783,1355,6,540,54,114,1,133,10,790,1366,6,540,55,117,1,143,2,795,1372,6,540,56,120,1,145,2,803,1392,6,540,57,123,1,147,3,811,1401,6,540,58,126,1,150,3,819,1410,6,540,59,129,1,153,3,827,1419,6,540,60,132,1,156,3,835,1429,6,540,61,135,1,159,3,842,1438,6,540,62,138,1,162,2,849,1448,6,540,63,141,1,164,2,856,1463,6,540,64,144,1,166,2,863,1474,6,540,65,147,1,168,2,863,1476,7,540,65,147,1,0,0,863,1478,7,540,66,147,1,0,0,863,1480,7,540,67,147,1,0,0,863,1482,7,540,68,147,1,0,0,863,1484,7,540,69,147,1,0,0,898,1529,7,540,70,150,1,170,2,934,1580,7,540,71,153,1,172,7,962,1622,7,540,72,156,1,179,4,990,1660,7,540,73,159,1,183,6,1157,1876,7,540,74,162,1,189,40,1234,1963,7,540,75,165,1,230,4,1338,2094,7,540,76,168,1,234,28,1338,2096,8,540,76,168,1,0,0,1338,2098,8,540,77,168,1,0,0,1339,2102,8,540,78,168,1,262,1,1361,2147,8,540,79,171,1,263,5,1443,2257,8,540,80,174,1,268,18,1450,2267,8,540,81,177,1,286,2,1456,2273,8,540,82,180,1,288,3,1456,2275,9,540,82,180,1,0,0,1522,2358,9,540,83,183,1,291,7,1555,2400,9,540,84,186,1,299,6,1562,2411,9,540,85,189,1,305,2,1604,2466,9,540,86,192,1,307,10,1609,2472,9,540,87,195,1,317,2,1609,2474,10,540,87,195,1,0,0,1658,2538,10,540,88,195,1,319,49,1665,2550,10,540,89,198,1,368,2,1670,2556,10,540,90,201,1,370,2,1677,2568,10,540,91,204,1,372,2,1682,2574,10,540,92,207,1,374,2,1689,2585,10,540,93,210,1,376,2,1694,2591,10,540,94,213,1,378,2,1699,2597,10,540,95,216,1,380,2,1704,2603,10,540,96,219,1,382,2,1709,2609,10,540,97,222,1,384,2,1714,2615,10,540,98,225,1,386,2,1719,2621,10,540,99,228,1,388,2,1726,2633,10,540,100,231,1,390,2]
structure ru where
f:O
d:Fn
X:aa (O×O)
x:fZ
a:O
noncomputable def kd(l:aa O):aa (O×O):=l.map λn=>(n/5,n%5)
def nL:aa ru:=[⟨376,Oo,kd [320,190,345,15,700],bF 0<|aZ 6,100⟩,⟨340,L4,kd [320],bF 1<|aZ 6,107⟩,⟨24,PH,kd [235,470,15,200],aZ 7,128⟩,⟨180,NT,kd [1005,520,470,1030,915,685,595,305,1040,15,840,200,212,47],aZ 9,133⟩,⟨239,RT,kd [1005,902],aZ 10,140⟩,⟨230,Ni,kd [1080,1265,805,235,915],aZ 11,147⟩,⟨289,KI,kd [1005,1265,805,915,1165,305,235,1197,607,1152],aZ 12,154⟩,⟨301,QG,kd [1005,1265,805,1000,1165,305,750,915,1197,1447,1207],aZ 13,161⟩,⟨281,QZ,kd [300,470,835,55,212,607,47],aZ 14,168⟩,⟨390,KN,kd [320,840,815,915],bF 0<|aZ 17,182⟩,⟨352,OM,kd [320,915,102],bF 1<|aZ 17,189⟩,⟨377,MC,kd [320,1005,300,305,47,1407],bF 0<|aZ 18,217⟩,⟨359,NH,kd [320,815,235,180,915],bF 1<|aZ 18,224⟩,⟨347,SF,kd [320,815,470,915,840,180,122,892],bF 2<|aZ 18,231⟩,⟨348,Oq,kd [320,815,892],bF 3<|aZ 18,238⟩,⟨318,Pe,kd [1005,180],aZ 19,252⟩,⟨316,N7,kd [1005,510,470,180,915,1055,1592,892,677],aZ 21,259⟩,⟨313,NG,kd [1005,510,470,180,892],aZ 22,266⟩,⟨399,Rg,kd [320,1005,905],bF 0<|aZ 23,280⟩,⟨369,Pa,kd [320,650,915],bF 1<|aZ 23,287⟩,⟨385,RC,kd [320,1005,717],bF 0<|aZ 24,336⟩,⟨393,RG,kd [320,815,915,47,962],bF 1<|aZ 24,343⟩,⟨370,Qj,kd [320,650,750,915,1567,1582],bF 2<|aZ 24,350⟩,⟨358,Mx,kd [320,15,102,47,1222],bF 3<|aZ 24,357⟩,⟨84,Pw,kd [1005,942],aZ 25,371⟩,⟨199,Qp,kd [440,1200,545,865,1020,140,285,645,810,475,0,5,195,212,607,47],aZ 27,378⟩,⟨403,Qx,kd [320,1245,440,1197,47,997],bF 0<|aZ 28,390⟩,⟨417,MH,kd [320,1005,650,915,892,47],bF 1<|aZ 28,397⟩,⟨412,QV,kd [320,1005,650,915,165,235,70,550,525,892],bF 2<|aZ 28,404⟩,⟨416,SW,kd [320,1005,650,305,0,465,200,615,150,15,335,915,505,607,47,1122],bF 3<|aZ 28,411⟩,⟨407,MU,kd [320,615,335,47,52],bF 4<|aZ 28,418⟩,⟨415,R7,kd [320,545,275,235,0],bF 5<|aZ 28,425⟩,⟨224,R1,kd [70,840],aZ 29,446⟩,⟨273,R6,kd [1245,1302],aZ 30,453⟩,⟨257,Rv,kd [1245,1000,545,650,305,1507],aZ 31,460⟩,⟨382,KV,kd [320,560,1585,530,1035,970,840,607],bF 0<|aZ 47,576⟩,⟨384,Mt,kd [320,260,1612],bF 1<|aZ 47,583⟩,⟨346,O8,kd [320,305],bF 2<|aZ 47,590⟩,⟨367,Qr,kd [320,305],bF 3<|aZ 47,597⟩,⟨366,NU,kd [320,305],bF 4<|aZ 47,604⟩,⟨375,Rr,kd [320,650],bF 7<|aZ 47,625⟩,⟨365,N9,kd [320,650,1215,350,712],bF 9<|aZ 47,639⟩,⟨383,K2,kd [320,650,470,1215,350,607,1487,1612,712],bF 10<|aZ 47,646⟩,⟨410,PF,kd [320,650,1215,607],bF 11<|aZ 47,653⟩,⟨394,O2,kd [320,650,1215,85,620,760],bF 0<|aZ 48,674⟩,⟨409,Qd,kd [320,650,1215],bF 2<|aZ 49,716⟩,⟨392,SV,kd [320,650,1465],bF 3<|aZ 49,723⟩,⟨176,Ow,kd [1005,305,1215,60,570],aZ 50,735⟩,⟨396,Ma,kd [320,1005,650,545,915,305,1297,707],bF 0<|aZ 51,749⟩,⟨414,SS,kd [320,220,1215,85,122,882],bF 1<|aZ 51,756⟩,⟨356,LN,kd [320,70,220,1215,1207,122,712],bF 3<|aZ 51,770⟩,⟨400,MN,kd [320,70,470,1218,620,570,275,607,1097,677],bF 4<|aZ 51,775⟩,⟨268,Ko,kd [70,770,840,115,305,1487,712,892],aZ 52,789⟩,⟨218,SM,kd [70,308],aZ 53,794⟩,⟨32,NL,kd [1245,545,1555,240,300,485,1135,1250,1075,650,540,70,305,1102,1342,1092,1422],aZ 54,802⟩,⟨291,QX,kd [1005,1555,1245,422,982,162,1367],aZ 55,810⟩,⟨279,Oh,kd [1005,1555,1245,422,982,162,1287],aZ 56,818⟩,⟨292,Ri,kd [1005,240,1555,1457,1397,1617,1312,77],aZ 58,834⟩,⟨196,MD,kd [920,935,885,1385,1602,1492,77],aZ 60,848⟩,⟨372,OV,kd [320,665,650,1140,500],bF 0<|aZ 69,912⟩,⟨338,Q6,kd [320,212],bF 1<|aZ 69,919⟩,⟨391,Sk,kd [320,1115,690,795,550],bF 0<|aZ 70,947⟩,⟨397,Q5,kd [320,925],bF 0<|aZ 71,975⟩,⟨404,Qa,kd [320,665,47,387],bF 1<|aZ 71,982⟩,⟨360,Mr,kd [320,920,1010,250,957],bF 0<|aZ 72,1004⟩,⟨332,Kv,kd [320],bF 1<|aZ 72,1011⟩,⟨349,Nn,kd [320,967,212],bF 2<|aZ 72,1018⟩,⟨335,QY,kd [320,925,1107],bF 3<|aZ 72,1025⟩,⟨329,Hm,kd [320,895],bF 4<|aZ 72,1032⟩,⟨334,Rj,kd [320],bF 6<|aZ 72,1046⟩,⟨327,Sv,kd [320,665],bF 7<|aZ 72,1053⟩,⟨371,Kf,kd [320,650],bF 8<|aZ 72,1060⟩,⟨387,Ss,kd [320,665,840,1482,1607],bF 9<|aZ 72,1067⟩,⟨328,QE,kd [320,255,47,1307,77],bF 10<|aZ 72,1074⟩,⟨336,Rf,kd [320],bF 11<|aZ 72,1081⟩,⟨341,R4,kd [320,735,690],bF 12<|aZ 72,1088⟩,⟨330,RZ,kd [320,650,215,1215,730,707],bF 13<|aZ 72,1095⟩,⟨337,SU,kd [320,165],bF 15<|aZ 72,1109⟩,⟨342,RD,kd [320,305,820,465,690,185,47],bF 16<|aZ 72,1116⟩,⟨333,SJ,kd [320,305,690,165,1307,77],bF 18<|aZ 72,1130⟩,⟨361,Rc,kd [320],bF 19<|aZ 72,1137⟩,⟨378,QS,kd [323,560,377],bF 20<|aZ 72,1142⟩,⟨326,n_,kd [320,1215],bF 21<|aZ 72,1149⟩,⟨386,NM,kd [320,850],bF 0<|aZ 73,1170⟩,⟨343,Qs,kd [320],bF 3<|aZ 74,1273⟩,⟨413,Ou,kd [320,1215,1412],bF 4<|aZ 74,1280⟩,⟨339,RI,kd [320,305,930],bF 6<|aZ 74,1295⟩,⟨344,JU,kd [320,1215,382,1292],bF 9<|aZ 74,1318⟩,⟨374,Nh,kd [320,165,382,47],bF 10<|aZ 74,1325⟩,⟨395,S3,kd [320,730,1482,707],bF 11<|aZ 74,1332⟩,⟨364,KL,kd [320,840,200,615,1180,730,205,745],bF 0<|aZ 78,1353⟩,⟨388,Qe,kd [320,560,1585,620,825,790,645,305,47],bF 0<|aZ 79,1372⟩,⟨406,M8,kd [320,47],bF 1<|aZ 79,1379⟩,⟨402,L8,kd [320,915],bF 2<|aZ 79,1386⟩,⟨389,N1,kd [320,915,212],bF 5<|aZ 79,1407⟩,⟨350,Mv,kd [320,305,30],bF 6<|aZ 79,1414⟩,⟨379,Su,kd [320,180],bF 7<|aZ 79,1421⟩,⟨373,RO,kd [320,180],bF 8<|aZ 79,1428⟩,⟨362,Q1,kd [320,180,615,30,47],bF 9<|aZ 79,1435⟩,⟨308,KS,kd [615,1585,470,915],aZ 80,1449⟩,⟨309,Qw,kd [575,645,530,200,585,410,563,260,440,620,615,1492,212,1522,47,107,1417,677,1542,952],aZ 81,1455⟩,⟨368,O4,kd [320,260,305,1130,212],bF 0<|aZ 83,1469⟩,⟨357,Nu,kd [320],bF 1<|aZ 83,1476⟩,⟨331,Mm,kd [320,140,265,645,1282,47,677],bF 3<|aZ 83,1490⟩,⟨363,My,kd [320,665],bF 0<|aZ 84,1535⟩,⟨351,Lm,kd [320],bF 1<|aZ 84,1542⟩,⟨256,LF,kd [355,470,205,265,430],aZ 85,1561⟩,⟨411,Pp,kd [320,560],bF 0<|aZ 86,1575⟩,⟨398,Ly,kd [320,665,97],bF 1<|aZ 86,1582⟩,⟨401,L1,kd [320,305,930,985,260,112],bF 2<|aZ 86,1589⟩,⟨405,MB,kd [320,97,387],bF 3<|aZ 86,1596⟩,⟨274,PQ,kd [923],aZ 87,1608⟩,⟨246,SI,kd [65,230,445,335,125,490,47,22],aZ 90,1664⟩,⟨247,PU,kd [68,698,250,677,607,1232],aZ 91,1669⟩,⟨266,LB,kd [65,85,575,200,530,360,1232,212,1432,1237,607],aZ 92,1676⟩,⟨305,GO,kd [65,575,263,130,870,470,280,212,1232,47,1527],aZ 93,1681⟩,⟨248,MV,kd [65,575,85,515,335,1232,212,1237,1527,47],aZ 94,1688⟩,⟨299,Hz,kd [228,575,515,250,563,70,643,670,795,550,855,335,600,315,25,200,615,330,265,298,555,212,47,77,52,677,607],aZ 95,1693⟩,⟨264,OD,kd [225,515,250,70,850,755,470,455,355,1257,722,1427,1372,1307],aZ 96,1698⟩,⟨287,FC,kd [575,355,430,470,47,1357,77,677,1437],aZ 97,1703⟩,⟨263,Ph,kd [575,473,360,200,615],aZ 98,1708⟩,⟨265,Km,kd [575,518,450,325,625,338,205,520,175,203,618,33,415,245,55,1085,1317,607,47,212,137],aZ 99,1713⟩,⟨267,zz,kd [225,575,518,35,858,495,663,635,405,1175,1160,1497,1322,607,47,1437,1257,1327],aZ 100,1718⟩,⟨8,Lz,kd [875,65,575,240,225,360,212,22,82,1332,1232,1462,1547,607,1337,1242],aZ 101,1725⟩]
def n0:aa ru:=[⟨408,NX,kd [320,1005,300,485,1135,1250,1075,240,530,1035,970,4,657],bF 0<|aZ 49,702⟩,⟨380,Ob,kd [320,920,1010,250,1015,4,657,947],bF 0<|aZ 74,1250⟩,⟨353,RH,kd [320,4,657],bF 1<|aZ 74,1258⟩,⟨345,Sw,kd [320,665,4,657],bF 2<|aZ 74,1266⟩,⟨355,Mw,kd [320,165,4,657],bF 5<|aZ 74,1288⟩,⟨354,Ms,kd [320,305,690,370,4,657],bF 7<|aZ 74,1303⟩,⟨381,Lq,kd [320,4,1572,657],bF 8<|aZ 74,1311⟩]
noncomputable def oU:aa (O×O×O×O):=[(77,117,376,100),(192,199,390,182),(143,241,377,217),(244,318,399,280),(188,360,385,336),(260,435,403,390),(145,656,382,576),(219,684,394,674),(284,726,408,702),(220,778,396,749),(75,929,372,912),(193,957,391,947),(221,985,397,975),(18,1152,360,1004),(189,1229,386,1170),(144,1335,380,1250),(21,1356,364,1353),(190,1438,388,1372),(22,1517,368,1469),(19,1552,363,1535),(285,1599,411,1575)]
noncomputable def HC:aa (O×O):=[(298,59),(191,893),(261,83),(262,71),(323,826),(320,841),(314,862),(282,855)]
noncomputable def bs:aa (aa O):=(e4 102).map λa=>aD (aE a 3) [45,46]<|aD (aE a 4) [45,46]<|aD (aE a 5) [45,46]<|aD (aE a 49) [655,656]<|aD (aE a 74) [1151,1152]<|aD (aE a 84) [1516,1517]<|[]
def hD:aa Dt->Dt
|d::_=>d|[]=>⟨0,0,⟨0,0,0,0⟩,o,o,0,0,u,[]⟩
def dA(a)(b):=hD<|(dd a).drop b
noncomputable def Ef(a:gF):O->iF
|0=>nw a<|dA a 0|b+1=>nw a (dA a<|b+1)++Ef a b
noncomputable def pk(E:iF):aa O->iF
|[]=>[]|a::r=>match cY E a with
 |some x=>(a,x)::pk E r|none=>pk E r
def bA(a:O):aa Nat:=match bs.drop a with
|b::_=>b|[]=>[]
def lsA(b:lb)(c:B7)(a:O):LS:=⟨pk (Ef (bx b) a)<|3::12::4::13::0::2::bA a,(dA (bx b) a).n,#[],y0,(dA (bx b) a).k,c⟩
def YE(b)(a):=pieceOf (jP<|yM.drop a) zt y3 (dA (bx b) a).p [Et ⟨0,0,0,0⟩]
def vw(a:iF)(r:Fl×LS×wF×lq):=(r.1,r.2.1.n,r.2.1.yo,r.2.1.x9,r.2.1.yh,r.2.1.os,r.2.2,a.map λe=>cY r.2.1.L e.1)
def lA(a)(os)(b):=(To PG a 11 (J<|w 6) 1 1000 (lsA a os b)<|YE a b).map<|vw<|nw (bx a)<|dA (bx a)<|b+1
def lx(a)(c:B7)(b):=J (qn,(dA (bx a)<|b+1).n,(#[]:hi GenState),y0,(dA (bx a)<|b+1).k,c,(y3,(dA (bx a)<|b+1).p),(nw (bx a)<|dA (bx a)<|b+1).map λe=>J e.2)
variable(a:lb)(b:B7)
def M5:(eu 0 6).map (lA a b)=(eu 0 6).map (lx a b):=by kernel_rfl
def hg6:(eu 6 11).map (lA a b)=(eu 6 11).map (lx a b):=by kernel_rfl
def afb:(eu 17 6).map (lA a b)=(eu 17 6).map (lx a b):=by kernel_rfl
def abk:(eu 23 5).map (lA a b)=(eu 23 5).map (lx a b):=by kernel_rfl
def aie:(eu 28 5).map (lA a b)=(eu 28 5).map (lx a b):=by kernel_rfl
def akf:(eu 33 14).map (lA a b)=(eu 33 14).map (lx a b):=by kernel_rfl
def aiG:(eu 47 3).map (lA a b)=(eu 47 3).map (lx a b):=by kernel_rfl
def agm:(eu 50 18).map (lA a b)=(eu 50 18).map (lx a b):=by kernel_rfl
def amj:(eu 68 4).map (lA a b)=(eu 68 4).map (lx a b):=by kernel_rfl
def aeD:(eu 72 2).map (lA a b)=(eu 72 2).map (lx a b):=by kernel_rfl
def aku:(eu 74 4).map (lA a b)=(eu 74 4).map (lx a b):=by kernel_rfl
def akw:(eu 78 5).map (lA a b)=(eu 78 5).map (lx a b):=by kernel_rfl
def ŵ:(eu 83 9).map (lA a b)=(eu 83 9).map (lx a b):=by kernel_rfl
def aeh:(eu 92 10).map (lA a b)=(eu 92 10).map (lx a b):=by kernel_rfl
end
section
def oy(h:(eu b n).map (lA c d)=(eu b n).map (lx c d))(l:b<=a)(e:a<b+n):lA c d a=lx c d a:=nB.mp h a<|ak Gz ⟨l,e⟩
def hg(b)(os)(a)(h:a<102):lA b os a=lx b os a:=
aO (h0 a 92) (λh=>aO (h0 a 83) (λh=>aO (h0 a 78) (λh=>aO (h0 a 74) (λh=>aO (h0 a 72) (λh=>aO (h0 a 68) (λh=>aO (h0 a 50) (λh=>aO (h0 a 47) (λh=>aO (h0 a 33) (λh=>aO (h0 a 28) (λh=>aO (h0 a 23) (λh=>aO (h0 a 17) (λh=>aO (h0 a 6) (λh=>oy (M5 b os) (cQ a) h) λl=>oy (hg6 b os) l h) λl=>oy (afb b os) l h) λl=>oy (abk b os) l h) λl=>oy (aie b os) l h) λl=>oy (akf b os) l h) λl=>oy (aiG b os) l h) λl=>oy (agm b os) l h) λl=>oy (amj b os) l h) λl=>oy (aeD b os) l h) λl=>oy (aku b os) l h) λl=>oy (akw b os) l h) λl=>oy (ŵ b os) l h) λl=>oy (aeh b os) l h
def ajs:∀{a B},cY (a++B) b=match cY a b with|some x=>J x|none=>cY B b:=by
 intro a B;refine a.rec Y λq r c=>?_;refine(?_:aD _ _ _=match aD _ (J q.2) _ with|some x=>J x|none=>cY B b);cases h:aE q.1 b with
 |true=>rfl|false=>exact c
def aeP:∀{a},a.map (λe=>cY L e.1)=a.map (λe=>J e.2)->cY a b=J x->cY L b=J x:=by
 intro a;refine a.rec (λZ e=>aI e) λq r c=>λh e=>?_;have h:=hp h;have e:aD _ _ _=J x:=e;cases d:aE q.1 b with
 |true=>rw [d] at e;obtain rfl:=aC e;exact ax (d9 d) h.1|false=>rw [d] at e;exact c h.2 e
def XF:pk a (b::c)=match cY a b with|some x=>(b,x)::pk a c|none=>pk a c:=Y
def adK:cY (pk a c) b=J x->cY a b=J x:=by
 refine c.rec (λe=>aI e) λd r f=>λe=>?_;rw [XF] at e;cases h:cY a d with
 |none=>rw [h] at e;exact f e|some y=>
  rw [h] at e;have e:aD _ (J y) _=J x:=e;cases g:aE d b with
  |true=>rw [g] at e;obtain rfl:=aC e;exact ax (d9 g) h|false=>rw [g] at e;exact f e
def adz:a∉b->cY (pk c b) a=none:=by
 refine b.rec (λZ=>rfl) λb r d=>λn=>?_;have n:a≠b/\a∉r:=⟨λe=>n<|e▸b8,λm=>n<|cz _ m⟩;refine W XF ?_;cases h:cY c b with
 |none=>exact d n.2|some y=>refine(?_:aD _ _ _=A);exact W (yF<|l2 n.1)<|d n.2
def agv{n g d k os}(r:RL ⟨a,n,g,d,k,os⟩ b):RL ⟨pk a c,n,g,d,k,os⟩ b:=yc (λa o e=>(r V) a o<|adK e) (r J1) (r J2) (r J3) (r J4)<|r J5
def al4{n g h k os a f}(r:RL ⟨j,n,g,h,k,os⟩ l)(c:RL a f)(m:FL ⟨pk j p,n,g,h,k,os⟩ a l f)(q:d.map (λe=>cY a.L e.1)=d.map (λe=>J e.2))
 (t:∀b∈p,cY d b≠A):RL ⟨d++j,a.n,a.yo,a.x9,a.yh,a.os⟩ f:=yc (λb o e=>by
 rw [ajs] at e;cases h:cY d b with
 |some y=>rw [h] at e;obtain rfl:=aC e;exact(c V) b _ (aeP q h)|none=>
  rw [h] at e;have g:=(r V) b o e;have l:b<n:=by have v:=(xr.mp g).1;rw [r J1] at v;exact v
  exact af ((m J1) b l<|adz λm=>t b m h).2 g) (c J1) (c J2) (c J3) (c J4)<|c J5
def vU(a:lb)(c:B7)(b:O):LS:=⟨Ef (bx a) b,(dA (bx a) b).n,#[],y0,(dA (bx a) b).k,c⟩
def akr:∀{l} {a},a<U l->l.drop a=jP (l.drop a)::l.drop (a+1):=by
 intro l;refine @(l.rec (λh=>by cases h) λb r c=>?_);intro a h;cases a with
 |zero=>rfl|succ a=>exact c<|zF h
def XS:U yM=102:=by kernel_rfl
def ajq(a):cS (eu 0 102) (λb=>cS (3::12::4::13::0::2::bA b) λc=>d7<|cY (nw (bx a)<|dA (bx a)<|b+1) c)=true:=by kernel_rfl
def akO(h:a<102)(r:RL (vU b d a) e):∃c,HH wU PG b 11 (J<|w 6) 1 1000 e (YE b a)=J (qn,c,y3,(dA (bx b)<|a+1).p)/\RL (vU b d<|a+1) c:=by
 have e:=hg b d a h;refine aA (oW.mp e) λx e v=>?_;rw [agj] at e;refine hv (ajj (f:=x.2.1) (agv r) e) λc f g j=>?_;have k:=al4 r g j (aq (·.2.2.2.2.2.2.2) v) λk m z=>bR (af (aq d7 z).symm<|gM.mp (gM.mp (ajq b) a<|ak Gz ⟨cQ a,a4 (eJ 102)▸h⟩) k m)
 exact⟨c,af f<|aq J<|p9 (aq (·.1) v)<|p9 Y<|aq (·.2.2.2.2.2.2.1) v,yc (k V) (af (k J1)<|aq (·.2.1) v) (af (k J2)<|aq (·.2.2.1) v) (af (k J3)<|aq (·.2.2.2.1) v) (af (k J4)<|aq (·.2.2.2.2.1) v)<|af (k J5)<|aq (·.2.2.2.2.2.1) v⟩
def amf:O5 wU PG b 11 (J<|w 6) 10 a (restOf [] zt c q [Et ⟨0,0,0,0⟩])=J a:=by kernel_rfl
def aar:∀k a,a+k=102->∀s,RL (vU c d a) s->∃N b,O5 wU PG c 11 (J<|w 6) N s (restOf (yM.drop a) zt y3 (dA (bx c) a).p [Et ⟨0,0,0,0⟩])=J b/\RL (vU c d 102) b:=by
 intro k
 induction k with
 |zero=>intro a e s r;obtain rfl:=(e:a=102);exact⟨10,s,W (B3 (c6 XS):yM.drop 102=[]) amf,r⟩|succ k f=>intro a e s r;have l:a<102:=e▸FJ (kv k);exact aA (akO l r) λb g r1=>hs (f _ (af (jf a 1 k) e) b r1) λN h j r2=>⟨1000+N,h,W (akr<|XS▸l)<|piece_cons g j,r2⟩
def Zu{c:O->bf fO}:∀{a},a.map (λe=>c e.1)=a.map (λe=>J e.2)->cY a b=J x->c b=J x:=by
 intro a;refine a.rec (λZ e=>aI<|e) λq r d=>λh e=>?_;have h:=hp h;have e:aD (aE q.1 b) (J q.2) (cY r b)=J x:=e;cases f:aE q.1 b with
 |true=>rw [f] at e;obtain rfl:=aC e;exact ax (d9 f) h.1|false=>rw [f] at e;exact d h.2 e
def Rl(a:gF):iq:=⟨⟨[boot_o_0 a,D6 a,boot_o_2 a,boot_o_3 a,boot_o_4 a,boot_o_5 a,boot_o_6 a,boot_o_7 a,boot_o_8 a,boot_o_9 a,boot_o_10 a,tO [],{cls:=bQ,data:=eV #[]},Xb,{cls:=cJ "frame",slots:=#[J<|r 13,J<|r 3,J<|r 3,A,J<|s 0x5f5f6d61696e5f5f 164,A,J<|r 0]}]⟩,(qj a).life⟩
def abF(a)(os):topGo wU PG a 11 (J<|w 6) 12 ⟨qj<|bx a,#[],y0,boot_toks,os⟩ (topStub PG)=
J (⟨Rl<|bx a,#[],y0,187,os⟩,⟨Sj wU<| .body yM zt,y3,⟨0,0,0,0⟩,[Et ⟨0,0,0,0⟩]⟩):=by kernel_rfl
def adU(a):(nw a<|dA a 0).map (λe=>(Rl a).objs[e.1]?)=(nw a<|dA a 0).map (λe=>J e.2):=by kernel_rfl
def ajX:HH wU PG b 11 (J<|w 6) 1 1 a (blockOf yM zt y3 ⟨0,0,0,0⟩ [Et ⟨0,0,0,0⟩])=J (qn,a,y3,⟨0,0,0,0⟩):=by kernel_rfl
def alE(a)(os):∃N b,O5 wU PG a 11 (J<|w 6) N ⟨qj<|bx a,#[],y0,boot_toks,os⟩ (topStub PG)=J b/\RL (vU a os 102) b:=by obtain⟨N,b,e,r⟩:=aar (c:=a) (d:=os) 102 0 Y ⟨Rl<|bx a,#[],y0,187,os⟩<|yc (λc o e=>Zu (adU<|bx a) e) (by kernel_rfl) Y Y (by kernel_rfl) Y;exact⟨12+(1+N),b,go_top (abF a os)<|piece_block ajX e,r⟩
def Hs(a:gF):iq:=⟨⟨[b0 a,D6 a,x2 a,gd<|ge a (dA a 102).nv (dA a 102).av,o4]⟩,(qj a).life⟩
variable{a d e:iq}{b:O}{f:zA}
def z6(e:aH a b=aH d b):l7 a b=l7 d b:=by unfold l7;rw [e]
def M1(e:aH a b=aH d b):a.nsKeys b=d.nsKeys b:=by unfold ahs;rw [e]
def JP(e:aH a b=aH d b):mh a b=mh d b:=by funext x;unfold mh;rw [e]
def akJ(b:aH a 2=aH d 2):Gu m e a=Gu m e d:=by unfold Gu;rw [z6 (b:=tL) b,M1 (b:=tL) b,JP (b:=tL) b]
def abX(b:aH a 3=aH d 3):HE f a=HE f d:=by unfold HE;rw [z6 (b:=i1) b,M1 (b:=i1) b]
def ajP(b:aH a 3=aH d 3):JH e a=JH e d:=by unfold JH;rw [z6 (b:=i1) b,JP (b:=i1) b]
def amv(b:aH a 2=aH d 2):G0 a m=G0 d m:=by unfold G0;rw [z6 (b:=tL) b,M1 (b:=tL) b,JP (b:=tL) b]
def adW(b:aH a 0=aH d 0):a.bltView=d.bltView:=by unfold afp alK;rw [show aH a pS=aH d pS from b]
variable(c:gF)
def Š:RU PG=plainProg (dp PG.main.scope):=by kernel_rfl
def ahz(s):Uu PG s=J s:=by kernel_rfl
def aaB:l7 (qj c) i1=true:=by kernel_rfl
def afJ:d8 (qj c).objs=11:=by kernel_rfl
def aaR:mh (qj c) i1 "__annotations__"=J (w 6):=by kernel_rfl
def adJ:Gu [] (qj c) (Hs c)=true:=by kernel_rfl
def afT:HE PG (Hs c)=true:=by kernel_rfl
def ahC:JH (qj c) (Hs c)=true:=by kernel_rfl
def af5:G0 (Hs c) []=true:=by kernel_rfl
def acH:l7 (Hs c) i1=true:=by kernel_rfl
def ak5:l7 (Hs c) pS=true:=by kernel_rfl
def ajY:(Hs c).bltView=Q_:=by kernel_rfl
def akt:mh (Hs c) i1 "__builtins__"=J (w 4):=by kernel_rfl
def alA(c):[0,2,3,4].map (λb=>cY (Ef c 102) b)=[0,2,3,4].map λb=>aH (Hs c) b:=by kernel_rfl
def aj2(c):(cS [0,2,3,4] λb=>(aH (Hs c) b).any λo=>d7<|sv o)=true:=by kernel_rfl
def ala{o g}(a:sv o=J g):g=o:=by obtain⟨b,c,dt,sl⟩:=o;cases dt<;>first|(cases a;rfl)|cases a
def TO{ls}{s}{o}(r:RL ls s)(c:cY ls.L b=J o)(a:d7 (sv o)=Q):aH s.heap b=J o:=by
 rw [Ia<|(r V) b o c];cases q:sv o with
 |none=>rw [q] at a;cases a|some d=>rw [ala q]
def ajH{os}{s}(r:RL (vU g os 102) s):∀b∈[0,2,3,4],aH s.heap b=aH (Hs<|bx g) b:=λb a=>by
 have c:=nB.mp (alA<|bx g) b a;have d:=gM.mp (aj2<|bx g) b a;cases q:aH (Hs<|bx g) b with
 |none=>rw [q] at d;cases d|some o=>rw [q] at d c;exact TO r c d
def E?(g):(∃s,AfterRun (RU PG) g s)/\∀s,AfterRun (RU PG) g s->∃d,Uu PG s=J d/\d.gens=#[]/\∃a,TopRan PG g d a/\a.asleep/\l7 a.heap i1=Q/\∃c,RL (vU g c 102) a:=by
 obtain⟨⟨e,G,f,d,c⟩,h2,v⟩:=oW.mp<|boot_open (N:=600) Š Y ahz g;obtain⟨s,h,j⟩:=ib.mp h2;have k:=Ż<|Tf▸h;have l:e=_:=aq (·.1) v;have e:G=_:=aq (·.2.1) v;have m:f=_:=aq (·.2.2.1) v;have f:d=_:=aq (·.2.2.2) v;refine⟨⟨s,k⟩,λd n=>?_⟩;cases abr n k;refine⟨_,j,e,?_⟩;have d:=n' (fence_lifeW j) k.life;rw [l,e,m,f] at d⊢;obtain⟨N,a,e,r⟩:=alE g c;rw [<-Tf] at e;obtain⟨b,f,o,p⟩:=topRun_spec _ _ _ _ d e;have e:=ajH r;have q:=e 2<|ao Y;have t:=e 3<|ao Y;have x:=e 0<|ao Y;have hg:=af (z6 t)<|acH _;have y:=af (z6 x)<|ak5 _;refine⟨a,⟨b,f,ahM o,λz o y H=>p z o ?_ (λL=>H<|aL L) (λL=>H<|aw<|aL L) (λL=>H<|aw<|aw<|af (Lx (aaB _) _)<|af (aaR _) L) y,?_,?_,ajU hg,λh v=>af (aed y h)<|Pk y (af (adW x)<|ajY _) h v,⟨4,o4,?_,e 4<|ao Y,Y,Y⟩,?_,names_of_bound<|af (abX t)<|afT _,laid_of_kept<|af (ajP t)<|ahC _⟩,n' f d,hg,c,r⟩
 .exact(afJ<|bx g)▸ic y
 .exact alH<|af (amv q)<|af5 _
 .exact statics_of_ok<|af (akJ q)<|adJ _
 .exact af (Lx hg _)<|af (p2 (JP t) _)<|akt _
 .rw [show a.gens=#[] from r J2]
  exactλa c=>ay c<|Array.not_mem_empty a
end
section
def KX(a):=gd<|ge a (s 0x6c61775f6e6e303433315f3031 2472)<|r 540
def KK(a:gF):iF:=(3,KX a)::(0,b0 a)::(2,x2 a)::(4,o4)::(1,D6 a)::mo a
def dY(a:gF)(b:O):PO:=match cY (KK a) b with
|some ⟨_,_, .func c,_⟩=>c|_=>default
noncomputable def Ve(d):=dite (d.ctorIdx=9) (λh=>aln (motive:=λZ=>bf<|hi a6) d h J) λZ=>A
noncomputable def Uv(v):=dite (v.ctorIdx=6) (λh=>ahN (motive:=λZ=>bf<|bj×Tok) v h λq t=>J (q,t)) λZ=>A
def X8(h:S2 v=J a):v=w a:=by
 cases v with
 |ref b=>exact aq _ (aC h)|_=>exact aI h
def acG(h:Uv v=J q):v=gT q.1 q.2:=by
 cases v with
 |str b t=>exact(aC h)▸Y|_=>exact aI h
def ah5(h:Ve d=J a):d=eV a:=by
 cases d with
 |fields b=>exact aq _ (aC h)|_=>exact aI h
def Rm(a)(b:O)(v):=ez (S2 v) λc=>ez (cY (KK a) c) λo=>ez (Ve o.data) λd=>ez (d.toList[b]?) Uv
def x'(h:Rm b d v=J q):∃c e f a sl,v=w c/\cY (KK b) c=J ⟨e,f,eV a,sl⟩/\a[d]?=J (gT q.1 q.2):=
aA (ib.mp h) λc e h=>aA (ib.mp h) λo g h=>aA (ib.mp h) λa d h=>aA (ib.mp h) λZ x h=>⟨c,o.cls,o.dict,a,o.slots,X8 e,af g<|aq (λd=>J (⟨o.cls,o.dict,d,o.slots⟩:fO))<|ah5 d,ax tb<|af x<|aq J<|acG h⟩
def O6(a)(v):=(Rm a 1 v).map (·.1)
def pw:=nL.map (λt=>(t.f,t.a))++(n0.map (λt=>(t.f,t.a))++(oU.map (λt=>(t.1,t.2.1))++HC))
def xQ(a:gF):bj->bf a6:=mh ⟨⟨[default,default,default,KX a]⟩,qj a|>.life⟩ i1
def OQ(a:gF):bj->bf a6:=mh ⟨⟨[b0 a]⟩,qj a|>.life⟩ pS
def CX(a:lb):Cx:={S:=⟨a,gN,λc=>(cm oU c).map (·.1)⟩,dK:=PG,I0:=cY<|KK<|bx a,K:=KK<|bx a,fa:=cm pw,mg:=xQ<|bx a,mb:=OQ<|bx a,pe:=w 83}
def vA(a)(t:ru):=(cm iS t.f,cY (KK a) t.a,(dY a t.a).body,yH<|dY a t.a,zd<|dY a t.a,mj<|dX<|dY a t.a,xM<|dX<|dY a t.a,y5<|dX<|dY a t.a,dp<|dX<|dY a t.a,O6 a (dY a t.a).code,decide (bw t.d.e5))
def eA(a)(t:ru):=(J t.d,J (⟨cJ "function",A, .func<|dY a t.a,#[]⟩:fO),aiQ<|q1 t.x,(3:O),(0:O),jo,u,u,nZ gN t.X,J<|xE<|dY a t.a,Q)
def Wx(a):nL.map (vA a)=nL.map (eA a):=by kernel_rfl
def Xq(a):n0.map (vA a)=n0.map (eA a):=by kernel_rfl
def vB(a)(t:ru):=(uK<|dY a t.a,cS t.d.e5<|u9 t.X,yw gN oS t.d.gY<|q1 t.x,u4 wX gN oS t.X t.d.gY<|q1 t.x)
def eB(t:ru):aa (bj×cC)×ba×aa fZ×Bool:=([],Q,q1 t.x,Q)
def kB1(a):nL.map (vB a)=nL.map eB:=by kernel_rfl
noncomputable def M?(x):=match x with
|ew _ t=>t|gT _ t=>t|_=>0
def n?(v)(x:a6):=match v with
|bk=>x==bQ|bT b=>x==eR b|ag a=>x==ew a (M? x)|aG q=>x==gT (dg q) (M? x)|_=>u
noncomputable def F!(d):=dite (d.ctorIdx=2) (λh=>aaW (motive:=λZ=>bf<|hi a6×O) d h λx n=>J (x,n)) λZ=>A
def ahw(h:F! d=J q):d=oB q.1 q.2:=by
 cases d with
 |seq b n=>exact(aC h)▸Y|_=>exact aI h
def Eo(K)(x):=ez (S2 x) λa=>ez (cY K a) λo=>ez (F! o.data) λq=>aD (o.cls==nu&&(o.dict==A&&(yp o.slots&&aE q.2 0))) (J q.1) A
noncomputable def D9(f:ai->a6->ba):aa ai->aa a6->ba
|[],[]=>Q|v::r,x::s=>f v x&&D9 f r s|_,_=>u
noncomputable def Gk(a:iF):O->ai->a6->ba
|0,_,_=>u|n+1,v,x=>match v with
 |aR b=>match Eo a x with
  |some c=>jB (U b) cu&&D9 (Gk a n) b (cP c)|none=>u
 |v=>n? v x
def abg(h:n? v x=Q):bD a (cY b) v x:=by
 cases v with
 |none=>exact eq_of_beq h|bool b=>exact eq_of_beq h|int c=>exact .mk _ (eq_of_beq h)|str q=>exact .mk _ (eq_of_beq h)|_=>exact dR h
def aiR(h:Eo b x=J c):∃a,x=w a/\cY b a=J (lO "tuple" c 0):=by
 refine aA (ib.mp h) λa e h=>aA (ib.mp h) λo g h=>aA (ib.mp h) λq d f=>⟨a,X8 e,af g<|aq J ?_⟩;clear h;cases c:(o.cls==nu&&(o.dict==A&&(yp o.slots&&aE q.2 0))) with
 |false=>rw [c] at f;exact aI f|true=>rw [c] at f;have j:=iO (iO c).2;have c3:=iO j.2;obtain⟨k,l,dt,sl⟩:=o;obtain rfl:k=_:=eq_of_beq (iO c).1;obtain rfl:l=_:=eq_of_beq j.1;obtain rfl:sl=_:=Array.isEmpty_iff.mp c3.1;obtain rfl:dt=_:=ahw d;exact aC f▸d9 c3.2▸Y
def XE(h:∀v x,f v x=Q->bD c (cY d) v x):∀{b} {a},D9 f b a=Q->bS c (cY d) b a:=by
 intro b
 induction b with
 |nil=>intro a e;cases a with|nil=>rfl|cons=>cases e
 |cons v r g=>
  intro a e;cases a with
  |nil=>cases e|cons x s=>have e:=dn.mp (e:_=Q);exact .mk x s Y (h _ _ e.1)<|g e.2
def UO:∀{n} {v} {x},Gk a n v x=Q->bD b (cY a) v x:=by
 intro n;refine @(n.rec (λh=>by cases h) λn c=>?_);intro v x h;cases v with
 |tup d=>
  have h:(match Eo a x with|some e=>jB (U d) cu&&D9 _ d (cP e)|none=>u)=true:=h;cases q:Eo a x with
  |none=>rw [q] at h;cases h|some e=>rw [q] at h;have h:=dn.mp h;obtain⟨a,f,g⟩:=aiR q;exact .mk a e 0 f g (XE (λv x=>c) h.2)<|ht h.1
 |_=>exact abg h
def WC(a)(b):=cP<|dN (Eo (KK a) (dY a b).defaults) #[]
noncomputable def al(l:aa ru):=l.flatMap λt=>(eu (U t.d.e5-U t.d.p6)<|U t.d.p6+1).map λn=>(t,n)
def Wl(a)(p:ru×O)(y)(S):=peek (KK a) S<|bindArgs (dY a p.1.a) ⟨(eu 0 p.2).map y,[]⟩
def U!(a)(p:ru×O)(y)(S:Setting):=J<|n4 gN p.1.d.e5<|(eu 0 p.2).map y++(WC a p.1.a).drop (p.2+U p.1.d.p6-U p.1.d.e5)
def kC(a):(al<|nL++n0).map (Wl a)=(al<|nL++n0).map (U! a):=by kernel_rfl
def kD(a):(cS (nL++n0) λt=>D9 (Gk (KK a) 9) t.d.p6<|WC a t.a)=true:=by kernel_rfl
def kGl(a):(cS Fw λp=>match xQ a (gN p.1) with|some y=>Gk (KK a) 9 p.2 y|none=>u)=true:=by kernel_rfl
def T!(a):∀b:iF,b1 a b=cY b a:=by
 refineλb=>b.rec Y λp r c=>?_
 cases p with|mk b o=>
 refine W qT ?_;show _=aD (aE b a) (J o) _
 by_cases e:a=b
 .exact W e<|W (fK ..)<|W (jL ..) Y
 .exact W (yF<|l2 e)<|W (ak kZ e:_=u) c
def u_(a)(s:cO (CX a).I0 h):(CX a).K.In h:=λa o e=>s a o<|af (T! a _).symm e
def Α(m:t∈nL++n0):vA a t=eA a t:=aO (oI.mp m) (nB.mp (Wx a) t)<|nB.mp (Xq a) t
def YO(e:O6 (bx a) v=J q)(s:cO (CX a).I0 h):h.CodeRec v q:=
aA (oW.mp e) λr h e=>ah (x' h) λc x=>ah x λb x=>ah x λd x=>ah x λf x=>ah x λsl x=>⟨c,_,f,r.2,x.1,s _ _ x.2.1,Y,ax e x.2.2⟩
def ahK(a):(eu 0<|U a).map (λb=>dN (a[b]?) bQ)=a:=by refine List.ext_getElem (by rw [bC,List.length_range']) λb h1 h2=>?_;rw [List.getElem_map,List.getElem_range',eJ,Nat.one_mul,bK h2];rfl
def Ŝ(m:t∈l)(h1:n<=U t.d.e5)(h2:U t.d.e5<=n+U t.d.p6):(t,n)∈al l:=
ak y2 ⟨t,m,ak jO ⟨n,ak Gz ⟨ak OR h2,ig<|ae h1<|OR.mp<|bb _⟩,Y⟩⟩
def aiB(m:t∈nL++n0)(s)(I)(c)(b)(l)(h:cO I s.heap)(f:Le (CX a).I0 I)(q:bS (CX a).S I c b)(e:yX t.d.e5 t.d.p6 c=J l):
 ∃d g,l=q3 t.d.e5 d/\U d=U t.d.e5/\bS (CX a).S I d g/\JZ s (dY (bx a) t.a) ⟨b,[]⟩ (n4 (CX a).S.nm t.d.e5 g):=by
 unfold yX at e;cases j:(jB (U c) (U t.d.e5)&&jB (U t.d.e5) _) with
 |false=>rw [j] at e;exact aI e|true=>
  rw [j] at e;obtain rfl:=aC e;have j:=dn.mp j;have k:=ht j.1;have n:=ht j.2;have p:bS (CX a).S (CX a).I0 t.d.p6 _:=XE (λZ Z=>UO)<|gM.mp (kD<|bx a) t m;have v:=q.vg;have x:=p2<|p2 (nB.mp (kC<|bx a) _ (Ŝ m k n)) λy=>dN (b[y]?) bQ;refine⟨_,_,Y,?_,(bS.E5 p f).drop _|>.yy q,?_⟩
  .refine W a3<|W wO ?_;exact(Nat.add_sub_assoc (Ņ.mpr<|fY k _) _).symm.trans<|Nat.sub_sub_self n
  .refine kp_binds (u_ a λa o e=>h a o<|f a o e) λS=>?_;have x:=x S;unfold Wl U! at x;dsimp only at x;rw [v,ahK b,<-v] at x;exact x
def N2(a)(m:t∈nL++n0):Bu (CX a) t.d t.a (cJ "function") A (dY (bx a) t.a) #[] (q1 t.x):=by have e:=Α (a:=bx a) m;exact abe (aq (·.2.1) e) (aq (·.2.2.1) e) (aq (·.2.2.2.1) e) (aq (·.2.2.2.2.1) e) (aq (·.2.2.2.2.2.1) e) (aq (·.2.2.2.2.2.2.1) e) (aq (·.2.2.2.2.2.2.2.1) e) (λh s=>YO (aq (·.2.2.2.2.2.2.2.2.2.1) e) s) (ao<|aq (·.2.2.2.2.2.2.2.2.2.2) e)<|aiB m
def Ω(a)(m:t∈nL):y7 (CX a) wX oS 64 t.f t.a:=by
 have e:=nB.mp (Wx<|bx a) t m;have b:=nB.mp (kB1<|bx a) t m
 exactλc k Z Z Z=>k t.d _ _ _ _ _ t.X (aq (·.1) e) (N2 a<|gE _ m) (aq (·.1) b) (aq (·.2.2.2.2.2.2.2.2.1) e) (aq (·.2.1) b) (aq (·.2.2.1) b) (aq (·.2.2.2) b)
def zD:∀{l:aa<|O×a},cm l x=J v->(x,v)∈l:=by
 intro l;refine l.rec (λe=>aI e) λp r b=>?_;cases p with|mk y c=>
 intro e;have e:aD _ _ _=J v:=e;cases q:aE y x with
 |true=>rw [q] at e;obtain rfl:=aC e;exact ax (d9 q) b8|false=>rw [q] at e;exact cz _ (b e)
def vC(a)(p:O×O×O×O):=(cm iS p.1,cm tN p.1,cm oU p.1,Oc (KK<|bx a) p.2.1,hy (KK<|bx a) (w p.2.1) "__init__",oH (KK<|bx a)<|w p.2.2.2,cm pw p.2.2.1)
noncomputable def eC(p:O×O×O×O):bf Fn×bf O×bf (O×O×O)×ba×bf (bf a6)×bf a6×bf Nat:=(A,J p.2.2.1,J p.2,Q,J<|J<|w p.2.2.2,pn,J p.2.2.2)
def kF(a):oU.map (vC a)=oU.map eC:=by kernel_rfl
def aeZ(a){p}(m:p∈oU):y7 (CX a) wX oS 64 p.1 p.2.1:=by
 have e:=nB.mp (kF a) p m;have b:cm oU p.1=J p.2:=aq (·.2.2.1) e
 exactλc Z Z k Z=>k p.2.2.1 p.2.2.2 (aq (·.1) e) (aq (·.2.1) e) (by refine(?_:(cm oU p.1).map _=_);rw [b];rfl) (aq (·.2.2.2.1) e) (aq (·.2.2.2.2.1) e) (aq (·.2.2.2.2.2.1) e)<|aq (·.2.2.2.2.2.2) e
def vN(p:O×O):=(cm iS p.1,cm tN p.1)
noncomputable def eN(p:O×O):bf Fn×bf Nat:=(A,A)
def kG:HC.map vN=HC.map eN:=by kernel_rfl
def ah7(a){p}(m:p∈HC):y7 (CX a) wX oS 64 p.1 p.2:=
 have e:=nB.mp kG p m
 λb Z Z Z k=>k (aq (·.1) e)<|aq (·.2) e
noncomputable def pT(t:ru):=aE t.a 702
def zG(t):=aD (pT t) 284 144
def CA(t):=aD (pT t) 692 1237
def wK(t):=aD (pT t) 726 1335
def vS(a)(t)(L:O):=(uK<|dY (bx a) t.a,cS t.X λp=> !aE p.2 3,cS t.d.e5 λx=>dq t.X x 0,yw gN oS t.d.gY<|q1 t.x,(aX wX (jt ti<|zG t) 64 gN oS t.X t.d.gY).2<|q1 t.x,c5 (jU (dY (bx a) t.a) L t.a) "super",c5 (jU (dY (bx a) t.a) L t.a) "__class__",c5 (jU (dY (bx a) t.a) L t.a)<|gN 64,(gf<|jU (dY (bx a) t.a) L t.a).lookup ("__class__":bj),cY (KK<|bx a)<|CA t,d7<|oJ (KK<|bx a)<|wK t,(jU (dY (bx a) t.a) L t.a).func,(lH<|Og (dY (bx a) t.a).params++(dY (bx a) t.a).params.args).map (·.arg))
def eS(t:ru)(L:O):aa (bj×cC)×ba×ba×aa fZ×ba×bf yx×bf yx×bf yx×bf cC×bf fO×ba×bf cC×bf bj:=([(("__class__":bj),CA t)],Q,Q,q1 t.x,Q,J qk,J kt,dW,J<|CA t,J ⟨cJ "cell",A,qQ<|J<|w<|wK t,#[]⟩,Q,J t.a,J<|gN 64)
def kH(a):n0.map (vS a)=n0.map eS:=by kernel_rfl
noncomputable def zS(a:O)(o):=o==J (J<|w a)
noncomputable def Oy(o):=o==J Q
def Fp{o}(h:zS a o=Q):o=J (J<|w a):=eq_of_beq h
def Υ{o}(h:Oy o=Q):o=J true:=eq_of_beq h
def W7(a)(v):=(Rm a 2 v).any λq=>PG.main.file==q.1
def afz(h:W7 (bx d) e.code=Q):∃f a b c sl g j,PL (CX d) e f a b c sl g j:=
aA ((TB ..).mp h) λq e h=>ah (x' e) λk x=>ah x λa x=>ah x λb x=>ah x λc x=>ah x λsl x=>⟨k,a,b,c,sl,q.1,q.2,dS x.1 x.2.1 x.2.2 h⟩
def XI(a)(t)(g b:O):=(cS ti λp=> !(p.2.any<|aE g)||(match cm oU p.1 with
|some q=>Oy (IW (KK<|bx a) q.1<|w<|wK t)&&zS b (Bs (KK<|bx a) q.1 (wK t)<|gN<|oS g)|none=>Q))&&(!(gN (oS g)==("__class__":bj))&&(fnIn (KK<|bx a) b&&oH (KK<|bx a) (w b)==pn))
def kI(a):(cS n0 λt=>W7 (bx a) (dY (bx a) t.a).code&&cS (dN (cm ti<|zG t) []) λg=>match cm pw g with|some b=>XI a t g b|none=>u)=true:=by kernel_rfl
def ahp:d7 ((dp PG.main.scope).lookup ("super":bj))=false:=by kernel_rfl
def abz(a:gF):xQ a "super"=none:=by kernel_rfl
def aha:tP "super"=J (cJ "super"):=by kernel_rfl
def aaE(a:gF):nsIn (KK a) tL "thirdparty.any"=J none:=by kernel_rfl
def aje{a:aa<|O×aa O}{c g:O}(h:jt a c g=Q):∃l,(c,l)∈a/\l.any (aE g)=Q:=
ah (TB .. |>.mp h) λl e=>⟨l,zD e.1,e.2⟩
def ai9(a:lb)(m:t∈n0)(L:O){g:O}(hg:jt ti (zG t) g=Q):∃b,(CX a).fa g=J b/\vG (CX a) (jU (dY (bx a) t.a) L t.a) 64 g b (oS g):=by
 have e:=p2 (nB.mp (kH a) t m) L;have c:=N2 a<|fx nL m;have k:=dn.mp<|gM.mp (kI a) t m;have d:g∈dN (cm ti<|zG t) []:=by
  unfold jt at hg;cases q:cm ti (zG t) with
  |none=>rw [q] at hg;cases hg|some l=>rw [q] at hg;obtain⟨y,f,h⟩:=Ny.mp (show l.any (aE g)=Q from hg);rw [d9 h];exact f
 have j:=gM.mp k.2 g d;cases n:cm pw g with
 |none=>rw [n] at j;cases j|some b=>
 rw [n] at j;have p:=dn.mp (show XI a t g b=Q from j);have v:=dn.mp p.2;have x:=dn.mp v.2;refine⟨b,n,?_⟩;have z:∃z,oJ (KK<|bx a) (wK t)=J z:=vx.mp<|aq (·.2.2.2.2.2.2.2.2.2.2.1) e;obtain⟨z,H⟩:=z;have L:(lH<|Og (dY (bx a) t.a).params++(dY (bx a) t.a).params.args).map (·.arg)=J (gN 64):=aq (·.2.2.2.2.2.2.2.2.2.2.2.2) e;obtain⟨m,y,f⟩:=oW.mp L;refine(aaw (aq (·.2.2.2.2.2.1) e) (aq (·.2.2.2.2.2.2.1) e) (aq (·.2.2.2.2.2.2.2.1) e) ⟨CA t,cJ "cell",A,#[],wK t,z,dS (aq (·.2.2.2.2.2.2.2.2.1) e) (aq (·.2.2.2.2.2.2.2.2.2.1) e) H λh d j n=>?_⟩ ⟨t.a,_,_,_,_,m,dS (aq (·.2.2.2.2.2.2.2.2.2.2.2.1) e) (c V) y f⟩ (afz k.1) ahp (abz<|bx a) aha ?_ (aaE<|bx a) ?_ x.1)
 .obtain⟨l,L,e⟩:=aje j;have z:=gM.mp p.1 (h,l) L;have z:(!(l.any<|aE g)||(match cm oU h with
   |some q=>Oy (IW (KK<|bx a) q.1<|w<|wK t)&&zS b (Bs (KK<|bx a) q.1 (wK t)<|gN<|oS g)|none=>Q))=true:=z
  rw [e] at z;obtain⟨q,c,k⟩:=oW.mp (show(cm oU h).map (·.1)=J d from n);rw [c] at z;have z:=dn.mp z;rw [k] at z;exact⟨Υ z.1,Fp z.2⟩
 .exact Tw _|>.mp v.1
 .have H:=x.2;exact eq_of_beq H
def aap(a:lb)(m:t∈n0):y7 (CX a) wX oS 64 t.f t.a:=by
 have e:=p2 (nB.mp (kH a) t m) 0;have b:=nB.mp (Xq<|bx a) t m
 exactλc Z k Z Z=>k (jt ti<|zG t) t.d _ _ _ _ _ t.X (CA t) (aq (·.1) b) (N2 a<|fx nL m) (aq (·.1) e) (aq (·.2.2.2.2.2.2.2.2.1) b) (aq (·.2.1) e) (aq (·.2.2.1) e) (aq (·.2.2.2.1) e) (aq (·.2.2.2.2.1) e)
  λL g hg=>ai9 a m L hg
def akH(a:lb)(f b:O)(h:(CX a).fa f=J b):y7 (CX a) wX oS 64 f b:=by
 have m:(f,b)∈pw:=zD h;unfold pw at m;refine aO (oI.mp m) (λm=>?_) λm=>aO (oI.mp m) (λm=>?_) λm=>aO (oI.mp m) (λm=>?_) λm=>ah7 a m
 .obtain⟨t,c,e⟩:=jO.mp m;cases e;exact Ω a c
 .obtain⟨t,c,e⟩:=jO.mp m;cases e;exact aap a c
 .obtain⟨t,c,e⟩:=jO.mp m;cases e;exact aeZ a c
noncomputable def Am(q:bj):=(cP q.cps).foldl (λa c=>a*2097152+c+1) 0
noncomputable def Ra(q:bj):Bool:=match cP q.cps with
|c::_=>jB 5000000 c|[]=>u
def amg:(cS (eu 0 326) λa=>dI (Am<|kk a) (Am<|kk<|a+1)||aE a 325)=true:=by kernel_rfl
def ak4:(cS (eu 0 326) λa=> !Ra (kk a)&& !(kk a==("__class__":bj))&&(!(kk a==("__debug__":bj))&& !(kk a==("__classdict__":bj))))=true:=by kernel_rfl
def D!(h:a<326):a∈eu 0 326:=ak Gz ⟨cQ a,a4 (eJ 326)▸h⟩
def R!(h:a+1<326):Am (kk a)<Am (kk<|a+1):=by have e:=kR.mp<|gM.mp amg a<|D! <|DL h;refine aO e (λe=>ht e) λe=>?_;rw [d9 e] at h;exact ay h<|ao Y
def ZA:∀{d},a+(d+1)<326->Am (kk a)<Am (kk<|a+(d+1)):=by intro d;exact d.rec (λh=>R! h) λd b=>λh=>fe (b<|DL h)<|R! (a:=a+(d+1)) h
def ak2(c:a<326)(d:b<326)(e:kk a=kk b):a=b:=by
 rcases Nat.lt_trichotomy a b with l|l|l
 .obtain⟨f,rfl⟩:=ZC l;have g:=ZA (a:=a) (d:=f) (by rw [<-cx];exact d);rw [<-cx,<-e] at g;exact ay g<|kq _
 .exact l
 .obtain⟨f,rfl⟩:=ZC l;have g:=ZA (a:=b) (d:=f) (by rw [<-cx];exact c);rw [<-cx,e] at g;exact ay g<|kq _
def yr(h:a<326):gN a=kk a:=by show aD (dI a 326) _ _=_;rw [show dI a 326=Q from xD h];rfl
def BO(h:¬a<326):gN a=⟨#[a+5000000]⟩:=by
 show aD (dI a 326) _ _=_;cases q:dI a 326 with
 |true=>exact ay (ht q) h|false=>rfl
def CG(h:a<326):Ra (kk a)=u/\kk a≠"__class__"/\(kk a==("__debug__":bj))=u/\(kk a==("__classdict__":bj))=false:=by have e:=dn.mp<|gM.mp ak4 a<|D! h;have b:=dn.mp e.1;have c:=dn.mp e.2;refine⟨nY b.1,λz=>?_,nY c.1,nY c.2⟩;have d:=nY b.2;rw [z,jL] at d;cases d
def Ň(a b)(e:gN a=gN b):a=b:=by
 by_cases c:a<326<;>by_cases d:b<326
 .rw [yr c,yr d] at e;exact ak2 c d e
 .rw [yr c,BO d] at e;have f:=(CG c).1;rw [e] at f;exact ay (af (xD<|lB 5000000 b).symm f) (by decide)
 .rw [BO c,yr d] at e;have f:=(CG d).1;rw [<-e] at f;exact ay (af (xD<|lB 5000000 a).symm f) (by decide)
 .rw [BO c,BO d] at e;exact G2 (hp<|aq cP<|aid e).1
def Li(h:¬a<326)(b:Ra q=u):(gN a==q)=false:=by rw [BO h];refine ak kZ λz=>?_;rw [<-z] at b;exact ay (af (xD<|lB 5000000 a).symm b)<|ao Y
def adH(a):gN a≠"__class__":=by
 by_cases h:a<326
 .rw [yr h];exact(CG h).2.1
 .exact beq_eq_false_iff_ne.mp<|Li h<|by kernel_rfl
def aim(a):(gN a==("__debug__":bj))=false:=by
 by_cases h:a<326
 .rw [yr h];exact(CG h).2.2.1
 .exact Li h (by kernel_rfl)
def akM(a):(gN a==("__classdict__":bj))=false:=by
 by_cases h:a<326
 .rw [yr h];exact(CG h).2.2.2
 .exact Li h (by kernel_rfl)
noncomputable def Hu(q)(o):=o==J (J<|ei q)
noncomputable def DQ(o:bf<|bf a6):=o==J A
noncomputable def MK(o):=o==pn
def SZ{o}(h:Hu q o=Q):o=J (J<|ei q):=eq_of_beq h
def Fx{o}(h:DQ o=Q):o=J none:=eq_of_beq h
def Ur{o}(h:MK o=Q):o=pn:=eq_of_beq h
def Vn(a:iF)(c b:O):=Hu "object.__getattribute__" (hy a (w b) "__getattribute__")&&(DQ (hy a (w b) "__getattr__")&&(Hu "object.__setattr__" (hy a (w b) "__setattr__")&&(K6 a b&&((oJ a b).any (·.hasDict)&&
 (cS (dN (cm oN c) []) (λn=>DQ<|hy a (w b)<|gN n)&&cS (dN (cm Ai c) []) λp=> !(jt oN c p.1)&&(match cm pw p.2 with
  |some d=>MK (oH a<|w d)&&zS d (hy a (w b)<|gN p.1)|none=>u))))))
def kJ(a):(cS oU λp=>Vn (KK<|bx a) p.1 p.2.1)=true:=by kernel_rfl
def ajo(a)(c b:O)(d:(CX a).S.ca c=J b):Gl (CX a) c b:=by
 obtain⟨q,e,f⟩:=oW.mp (d:(cm oU c).map (·.1)=J b);have g:=gM.mp (kJ a) (c,q)<|zD e;have g:Vn _ c q.1=true:=g;rw [f] at g;have h:=dn.mp g;have j:=dn.mp h.2;have k:=dn.mp j.2;have l:=dn.mp k.2;have m:=dn.mp l.2;have n:=dn.mp m.2;refine amo (SZ h.1) (Fx j.1) (SZ k.1) l.1 (Mz m.1) (λp t=>?_) λv m f x y=>?_
 .unfold jt at t;cases z:cm oN c with
  |none=>exact bR<|z▸t|some l=>rw [z] at t;obtain⟨H,L,b⟩:=Ny.mp (t:l.any _=Q);have d:=n.1;rw [z] at d;have a:=gM.mp (d:cS l _=Q) H L;rw [<-d9 b] at a;exact Fx a
 .have d:=n.2;rw [x] at d;have z:=dn.mp<|gM.mp (d:cS v _=Q) (m,f)<|zD y;refine br (nY z.1) ?_;have q:=z.2;cases H:cm pw f with
  |none=>exact bR<|H▸q|some e=>rw [H] at q;have q:=dn.mp q;exact⟨e,H,Ur q.1,Fp q.2⟩
def ak8{a:O}(e:aH h a=aH b a)(n:l7 b a=Q):h.Ns a (mh b a):=by
 have c:l7 h a=true:=by unfold l7;exact W e n
 have m:mh h a=mh b a:=by funext x;unfold mh;rw [e]
 exact m▸ .of_isNs c
def hG(a:gF):iq:=⟨⟨[b0 a,D6 a,x2 a,KX a,o4]⟩,(qj a).life⟩
def Qh(b)(s:cO (CX b).I0 h):∀a∈[0,1,2,3,4],aH h a=aH (hG<|bx b) a:=by
 have k:[0,1,2,3,4].map (λa=>cY (KK<|bx b) a)=[0,1,2,3,4].map λa=>aH (hG<|bx b) a:=by kernel_rfl
 have c:(cS [0,1,2,3,4] λa=>d7<|aH (hG<|bx b) a)=true:=by kernel_rfl
 intro a m;have e:=nB.mp k a m;obtain⟨o,d⟩:=vx.mp<|gM.mp c a m;rw [d] at e⊢;exact s a o e
def xU(b)(s:cO (CX b).I0 h){a:O}(m:a∈[0,1,2,3,4])(n:l7 (hG<|bx b) a=Q):h.Ns a (mh (hG<|bx b) a):=ak8 (Qh b s a m) n
def G7(a):l7 (hG a) 0=true:=by kernel_rfl
def kN1(a):l7 (hG a) 1=true:=by kernel_rfl
def F?(a):l7 (hG a) 2=true:=by kernel_rfl
def XC(a):l7 (hG a) 3=true:=by kernel_rfl
def Vr(a):(hG a).bltView=Q_:=by kernel_rfl
def acx(a):mh (hG a) pS=OQ a:=by funext x;rfl
def akS(a)(x:bj)(b:x≠"__name__"):OQ a x=tP x:=af (p2 (acx a) x).symm<|Pk (G7 a) (Vr a) x b
def TL(a):wj (CX a):=by
 refine aiP (λb o e=>af (T! b _).symm e) Ň adH (λh s=>⟨_,xU a s (by decide)<|F? _,by kernel_rfl⟩) (λh s=>⟨⟨_,xU a s (by decide)<|F? _,by kernel_rfl,by kernel_rfl⟩,⟨_,xU a s (by decide)<|kN1 _,by kernel_rfl⟩,⟨_,xU a s (by decide)<|G7 _,Pk (G7 _)<|Vr _⟩,⟨_,4,o4,xU a s (by decide)<|XC _,by kernel_rfl,Qh a s 4<|ao Y,Y,Y⟩⟩) (by kernel_rfl) (λh s=>?_) (λh s=>?_) (akS _)<|ajo a
 .have c:=xU a s (a:=i1) (by decide)<|XC _;exact c
 .have c:=xU a s (a:=pS) (by decide)<|G7 _;exact c
abbrev nV(a):=dY (bx a) 36
def Ŏ(a):(nV a).body= .stmts [.Expr (d2 (fz (cB "Exception" ⟨8,8,8,17⟩) "__init__" ⟨8,8,8,26⟩) [cB "self" ⟨8,27,8,31⟩,cB "what" ⟨8,33,8,37⟩] [] ⟨8,8,8,38⟩) ⟨8,8,8,38⟩,i7 [fz (cB "self" ⟨9,8,9,12⟩) "what" ⟨9,8,9,17⟩] (cB "what" ⟨9,20,9,24⟩) ⟨9,8,9,24⟩,i7 [fz (cB "self" ⟨10,8,10,12⟩) "at" ⟨10,8,10,15⟩] (cB "at" ⟨10,18,10,20⟩) ⟨10,8,10,20⟩]:=by kernel_rfl
theorem kL(a):((oJ (KK<|bx a) 83).any (·.hasDict)&&(zS 36 (hy (KK<|bx a) (w 83) "__init__")&&(MK (oH (KK<|bx a)<|w 36)&&(Hu "object.__setattr__" (hy (KK<|bx a) (w 83) "__setattr__")&&(F1 (KK<|bx a) 83&&(DQ (uk (KK<|bx a) 83 "what")&&(DQ (uk (KK<|bx a) 83 "at")&&
 cS (dp<|dX<|nV a) (λx=>match x.2 with
  |ho=>u|_=>Q))))))))=true:=by kernel_rfl
def kM(a):(O6 (bx a) (nV a).code,(dp<|dX<|nV a).lookup ("self":bj),(dp<|dX<|nV a).lookup ("what":bj),(dp<|dX<|nV a).lookup ("at":bj),(dp<|dX<|nV a).lookup ("Exception":bj),yH<|nV a,zd<|nV a,xM<|dX<|nV a,y5<|dX<|nV a,mj<|dX<|nV a)=
(J<|xE<|nV a,dW,dW,dW,J qk,3,0,u,u,jo):=by kernel_rfl
def aeq(a):ue (CX a) 83 36 (nV a):=by have b:=dn.mp<|kL a;have c:=dn.mp b.2;have d:=dn.mp c.2;have e:=dn.mp d.2;have f:=dn.mp e.2;have g:=dn.mp f.2;have h:=dn.mp g.2;have m:=kM a;exact cj (Oj Y ⟨⟨N 0x50617273654572726f72,N 0x50617273654572726f72,82,46,[w 46],Q,[],[],u,A,A,J<|w 74,A,J<|s 0x50617273654572726f72 266,J<|s 0x50617273654572726f72 274,J<|eR Q⟩,by kernel_rfl⟩ (Mz b.1) (Fp c.1) (Ur d.1) (SZ e.1) f.1 (Fx g.1) (Fx h.1) ⟨cJ "function",A,#[],by kernel_rfl⟩ (by kernel_rfl) (by kernel_rfl)<|aq (·.2.2.2.2.2.1) m)<|Oj (aq (·.2.2.2.2.2.2.1) m) (aq (·.2.2.2.2.2.2.2.1) m) (aq (·.2.2.2.2.2.2.2.2.1) m) (aq (·.2.2.2.2.2.2.2.2.2) m) (λj s=>YO (aq (·.1) m) s) (λx k e=>by have l:=gM.mp h.2 x k;rw [e] at l;cases l) (aq (·.2.1) m) (aq (·.2.2.1) m) (aq (·.2.2.2.1) m) (aq (·.2.2.2.2.1) m) (λs n b c p=>kp_binds (u_ a p) λS=>by kernel_rfl) ⟨_,_,_,_,_,_,_,_,_,_,_,_,_,_,cj (by kernel_rfl)<|Ŏ a⟩ a0
def hO1(a):Be.map (λp=>(gN p.1,xQ a p.2))=Be.map (λp=>(p.2,A)):=by kernel_rfl
def hO2(a):(cS KU λf=>match cm pw f with
|some b=>zS b<|J<|xQ a<|gN f|none=>u)=true:=by kernel_rfl
def hO3(a):(cS pw λp=>wz (KK a)<|w p.2)=true:=by kernel_rfl
def abi(a):vz (CX a) wX:=by
 refine abx (TL a) aim akM (λb p c=>?_) (by kernel_rfl) (λx v d=>?_) (λf e=>?_) (λf g e=>gM.mp (hO3<|bx a) _ (zD e)) ⟨83,36,_,aeq a,by kernel_rfl,by kernel_rfl⟩
 .have h:=nB.mp (hO1<|bx a) p<|aP c;exact⟨aq (·.1) h,aq (·.2) h⟩
 .have h:=gM.mp (kGl<|bx a) (x,v)<|zD d;cases q:xQ (bx a) (gN x) with
  |none=>rw [q] at h;cases h|some y=>rw [q] at h;exact⟨y,q,UO h⟩
 .obtain⟨y,j,k⟩:=Ny.mp (e:KU.any _=Q);rw [d9 k];have h:=gM.mp (hO2<|bx a) y j;cases q:cm pw y with
  |none=>rw [q] at h;cases h|some g=>rw [q] at h;exact⟨g,q,aC<|Fp h⟩
def aih(a):(KK a).map (λe=>cY (Ef a 102) e.1)=(KK a).map (λe=>J e.2):=by kernel_rfl
def alM(a):(cS (KK a) λe=>d7<|sv e.2)=true:=by kernel_rfl
def jn:=dN (cm pw 8) 0
def aaO:cm pw 8=J jn:=by kernel_rfl
def TT(a):xQ a "law"=J (w jn):=by kernel_rfl
def agK:AN 63 Ld:=S1 Y ⟨[],Y⟩ (by decide+kernel)<|by decide+kernel
def Kp1(a b:cR):=(∀c o,aH a.heap c=J o->aH b.heap c=J o)/\b.os=a.os/\b.gens=a.gens
def A4{o}{G:Prop}(e:kP a=J o):G:=by cases e
def agE:Ok (CX c) kP kP ⟨λa=>aH b.heap a,kP,λZ=>A,b⟩:=
gH ⟨λa o e=>e,λa o e=>A4 (a:=a) e,λa o e=>A4 e,λa o e=>A4 e,λZ Z Z=>rfl,λZ Z Z=>rfl,λZ Z Z=>rfl,λZ Z Z=>rfl,λZ Z Z=>rfl,λZ Z Z=>rfl,λa o e=>A4 (a:=a) e,λa o e=>A4 e,λa o e=>A4 e⟩ λa o e=>aI (e:_=J o)
def akZ{L:O}(b)(f:cO (CX b).I0 a.heap)(g:aH a.heap L=J (lU (gU d) 0))(r:bS (CX b).S (λc=>aH a.heap c) (e.map ag) d)(h:U e<=cu):
 a8 (bM PG b) Ld (call (w jn) [w L]) (λv j=>v=eR Q/\Kp1 a j) (λZ Z=>bW) a:=by
 refine Bw<|afC (λZ=>ai4) _ (abi b) (akH b) 63 Ld agK 8 jn aaO kP ⟨aH a.heap,kP,λZ=>A,a⟩ [aN<|e.map ag] [w L] (λv Z=>v=bT Q) (λZ=>bW) _
  agE
  (λc o e=>f c o e) (λi e k m=>by obtain rfl:=aC e;exact bG m) ?_ (adO Y) ?_ ?_
 .exact .mk _ _ Y (.mk L (gU d) 0 Y g r<|W (bC ..) h) Y
 .intro v x y l n p q;subst q;exact⟨p,λb o e=>(n V).sI b o<|(l V) b o e,W (l J1) Y,W (l J1) Y⟩
 .exactλe y l n t x=>b6 x
def al3{os}(r:RL (vU a os 102) b):cO (CX a).I0 b.heap:=λc o e=>by
 refine TO r (Zu (aih<|bx a) e) ?_;obtain⟨p,d,f⟩:∃p∈KK (bx a),p.2=o:=by
  have g:∀h,cY h c=J o->∃p∈h,p.2=o:=by
   refineλh=>h.rec (λe=>aI e) λq t j=>λe=>?_
   have e:aD _ _ _=J o:=e;cases h:aE q.1 c with
   |true=>rw [h] at e;obtain rfl:=aC e;exact⟨q,b8,Y⟩|false=>rw [h] at e;exact ah (j e) λp x=>⟨p,cz _ x.1,x.2⟩
  exact g _ e
 have g:=gM.mp (alM<|bx a) p d;exact f▸g
def abu:∀a (s:cR),∃b,G1 c d e ord (a.map .int) s=J (b,{s with toks:=gu s+U a})/\∀S (I:PM),bS S I (a.map ag) b:=by
 refineλa=>a.rec (λs=>⟨[],Y,λZ Z=>rfl⟩) λf r g=>λs=>aA (g {s with toks:=gu s+1}) λb h q=>⟨ew f s.toks::b,?_,λS I=> .mk _ _ Y (.mk s.toks Y) (q S I)⟩
 show(match G1 c d e ord _ {s with toks:=gu s+1} with|some r=>J (ew f s.toks::r.1,r.2)|none=>A)=_;exact W h<|W (cx ..)<|W (eU 1 ..) Y
def acf:∀{a},(∀d∈a,afa c d .int=Q)->∃b:aa au,a=b.map .int:=by intro a;exact a.rec (λZ=>cL ([]) rfl) λx r e=>λh=>bp (e λd m=>h d<|cz _ m) λb e=>bp (Θ<|h x b8) λf q=>⟨f::b,W e<|W q rfl⟩
abbrev RW:=Challenge.rw_nn0431_01
noncomputable abbrev CL:=RW.row.toRowW.claim
def ajd(h:CL.pre b=Q)(c:adD b=Q):∃a,b=[.list<|a.map .int]/\U a<=cu:=by refine gv (hasAllW_cons (pre_splitW h).1) λd r e f g=>?_;obtain rfl:=hasAllW_nil g;refine aA (hasW_list f) λj k l=>bp (acf λd m=>hasItemsW_at l d m) λa n=>?_;subst e k n;refine⟨a,Y,?_⟩;have l:=length_le_of_layableW<|gM.mp c _ b8;rw [bC] at l;exact ae l<|ao Y
variable{a:lb}{s e:cR}{d:O}{b:aa au}{c:aa a6}
def adb(a:gF):((dY a jn).name,xE<|dY a jn,uK<|dY a jn,(dY a jn).defaults,(dY a jn).kwdefaults,yH<|dY a jn,zd<|dY a jn,(dY a jn).params.defaults,kwWritten? (dY a jn).params.kwonlyargs (dY a jn).params.kw_defaults)=
(("law":bj),("law":bj),([]:aa<|bj×cC),bQ,bQ,(3:O),(0:O),([]:aa cX),J ([]:aa<|bj×cX)):=by kernel_rfl
def alT(a:gF):(cY (KK a) jn,(dY a jn).body,PG.theDef "law")=(J ⟨cJ "function",A, .func<|dY a jn,#[]⟩, .stmts<|q1<|aZ 101,J ((dY a jn).params,q1<|aZ 101,dX<|dY a jn)):=by kernel_rfl
def abP(a:lb)(b:cO (CX a).I0 s.heap)(hg:l7 s.heap i1=Q):isTheDefsW PG s.heap "law":=by
 have c:=adb<|bx a;have d:=alT<|bx a;have e:=Qh a b 3 (by decide);refine⟨jn,_,_,_,_,_,?_,b _ _ (aq (·.1) d),Y,aq (·.2.2) d,aq (·.1) c,aq (·.2.1) c,Y,aq (·.2.1) d,Y,aq (·.2.2.2.2.2.1) c,aq (·.2.2.1) c,aq (·.2.2.2.2.2.2.1) c,aL ⟨aq (·.2.2.2.2.2.2.2.1) c,aq (·.2.2.2.1) c⟩,[],aq (·.2.2.2.2.2.2.2.2) c,aL ⟨Y,aq (·.2.2.2.2.1) c⟩⟩
 rw [Lx hg,show mh s.heap i1=mh (hG<|bx a) i1 by funext x;unfold mh;rw [show aH s.heap i1=_ from e];rfl];exact TT _
def aam:PG.bare:=⟨Y,Y,Y,Y,by kernel_rfl,by kernel_rfl⟩
def ajh:opensWell PG=true:=by kernel_rfl
def abS:frees RW.row.toRowW=true:=by kernel_rfl
def VF:RW.row.toRowW.promised:=⟨[.list []],by kernel_rfl,by kernel_rfl⟩
def adM(a:lb)(f:s.asleep)(d:s.gens=#[])(g:cO (CX a).I0 s.heap){h:cC->Prop}{j:Prop}{e:iq->Prop}(k:∀l,e l):CL.CallFrom (callStub "law") a h j e s:=by
 refine aav (c:=CL) (tree:=λe=>do match<-nsGet mainNs ("law":bj) with
  |some m=>do ret (<-PySem.call m e)
  |none=>unsupported "claim.caller:no-such-global") f d λe e n p q=>?_
 obtain⟨b,t,v⟩:=ajd e n;subst t;obtain⟨c,e,x⟩:=abu (c:=CL.records) (d:=Gx s.heap) (e:=bx a) (ord:=p) b s;have y:G1 CL.records (Gx s.heap) (bx a) p [.list<|b.map .int] s=J ([w s.heap.objs.size],{s with heap:=di s.heap<|lU (gU c) 0,toks:=gu s+U b}):=by
  show(match(match G1 CL.records (Gx s.heap) (bx a) p (b.map .int) s with
   |some r=>J (w r.2.heap.objs.size,{r.2 with heap:=di r.2.heap {cls:=cJ "list",data:=oB<|gU r.1}})
   |none=>A) with
   |some z=>(match J (([]:aa a6),z.2) with
    |some r=>J (z.1::r.1,r.2)|none=>A)
   |none=>A)=_
  rw [e]
 obtain⟨e,H,L,h⟩:=reads_layAllW q _ _ _ y n _ (λZ Z j=>j);have l:=layAllW_rest _ _ _ y;have f:=layAllW_keeps _ _ _ y;have m:Laid CL.records a s _ [.list<|b.map .int] _ e:=⟨⟨p,q,y⟩,H,L,h,f,af l.1 d,l.2.2.1⟩;have e:cO (CX a).I0 (di s.heap<|lU (gU c) 0):=λz o j=>i4 _ (g z o j);have t:=akZ (a:={s with heap:=di s.heap _,toks:=gu s+U b}) a e (iI _ Y) (x _ _) v;obtain⟨n,p,q,H,L⟩:=frees_parts abS;have h:=ident_freeW p q H;refine⟨_,_,y,aB<|wpAny_nsGet (TL a J6 _ e) ?_⟩;rw [show(CX a).mg ("law":bj)=J _ from TT _];refine aB<|lh t (λe l q=>bq ⟨jF e,Y,?_⟩) λj l q=>b6 q;have g:GoodWG CL (Gx s.heap) (ake s.heap) [.list<|b.map .int] {s with heap:=di s.heap _,toks:=gu s+U b} _ l:=
  ⟨aL ⟨e, .bool Q,[],Y,λZ=>rfl,by rw [q.1];exact .bool Q,by kernel_rfl,λZ=>⟨xC,λz f=>bG<|f⟩⟩, .of_keep q.2.1,q.2.2.1, .of_eq<|af q.2.2.2 d⟩
 have d:=g.laid (c:=CL) n Y h m;exact⟨d.1,d.2.1,d.2.2,k _⟩
def amk:RW.row.Holds↔RW.row.wellSaid=true:=by refine⟨λb=>b.1,λc=>⟨c,VF,⟨⟨aam,ajh,Y⟩,VF.witness,λa=>⟨(E? a).1,λd e=>?_⟩⟩⟩⟩;obtain⟨c,f,M5,s,g,h,hg,j,k⟩:=(E? a).2 d e;have d:=al3 k;exact⟨c,f,M5,s,g,λe l=>by cases qp.mp (l:e∈[("law":bj)]);exact abP a d hg,λx m=>b6<|Qc (m:x∈[]),λx m=>b6<|Qc (m:x∈[]),adM a h (k J2) d λb q=>ay (q:u=Q) hu⟩
end
end Zq
theorem PySem.Challenge.cw_nn0431_01_holds : PySem.Challenge.rw_nn0431_01.Holds :=
 PySem.W.holds_law Zq.ű Zq.amk.2
